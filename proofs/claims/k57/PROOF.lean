import PyProof.Rows.All
import Wide.All
import OpenK.AllK
import Wide.FinOn
import HandS.ForMost
import HandS.ForExc
import HandS.IsInst
import HandS.Wide
import HandS.Flow
import HandS.Gcd
import HandS.TupAny
import HandS.Style
import HandS.Text
import HandS.Defaults
import HandS.ExcInit
import HandS.Zip
import KE.DataMinMax
import KE.SortData
import HandS.TupMul
import KE.GoesMore
import PySem.Challenge.RW_schedbench_k57_lots
set_option Elab.async false
set_option linter.all false
set_option maxRecDepth 100000
/-! Z0: a small functional reading of Python bodies: values by content, frames as lists of slots, results with errors. -/
open PySem (Str)
namespace Z

inductive Val where
  | non
  | bl (b : Bool)
  | int (i : Int)
  | str (s : Str)
  | tup (xs : List Val)
  | lst (xs : List Val)
  | dic (kvs : List (Val × Val))
  | obj (c : Str) (fs : List (Str × Val))
  | scr (ns : List Int)
  deriving Inhabited

/-- one place of a frame: nothing, a value that nobody changes, an object that this frame alone changes (p: it was handed in), one handed in that is no more changed, an error that is handled -/
inductive Slot where
  | emp
  | v (x : Val)
  | own (p : Bool) (x : Val)
  | pf (x : Val)
  | exn (c : Str) (fs : List (Str × Val))
  deriving Inhabited
abbrev Env := List Slot

/-- what an expression gives: a value, a new object, the object of a place -/
inductive RV where
  | v (x : Val)
  | own (x : Val)
  | bor (i : Nat)

inductive Rs (α : Type) where
  | ok (a : α) (e : Env)
  | ex (c : Str) (fs : List (Str × Val)) (e : Env)
  | no

def eget : Env → Nat → Slot
  | [], _ => .emp
  | s :: _, 0 => s
  | _ :: r, n + 1 => eget r n
def eput : Env → Nat → Slot → Env
  | [], _, _ => []
  | _ :: r, 0, s => s :: r
  | x :: r, n + 1, s => x :: eput r n s

@[simp] theorem eget_nil (n : Nat) : eget [] n = .emp := rfl
@[simp] theorem eget_zero (s : Slot) (r : Env) : eget (s :: r) 0 = s := rfl
@[simp] theorem eget_succ (s : Slot) (r : Env) (n : Nat) : eget (s :: r) (n + 1) = eget r n := rfl
@[simp] theorem eput_nil (n : Nat) (s : Slot) : eput [] n s = [] := rfl
@[simp] theorem eput_zero (x : Slot) (r : Env) (s : Slot) : eput (x :: r) 0 s = s :: r := rfl
@[simp] theorem eput_succ (x : Slot) (r : Env) (n : Nat) (s : Slot) : eput (x :: r) (n + 1) s = x :: eput r n s := rfl
theorem eput_length : ∀ (e : Env) (i : Nat) (s : Slot), (eput e i s).length = e.length
  | [], _, _ => rfl
  | _ :: _, 0, _ => rfl
  | _ :: r, n + 1, s => by simp [eput_length r n s]
theorem eget_eput_same : ∀ (e : Env) (i : Nat) (s : Slot), i < e.length → eget (eput e i s) i = s
  | [], _, _, h => by simp at h
  | _ :: _, 0, _, _ => rfl
  | _ :: r, n + 1, s, h => by simpa using eget_eput_same r n s (by simpa using h)
theorem eget_eput_ne : ∀ (e : Env) (i j : Nat) (s : Slot), i ≠ j → eget (eput e i s) j = eget e j
  | [], _, _, _, _ => rfl
  | _ :: _, 0, 0, _, h => absurd rfl h
  | _ :: _, 0, _ + 1, _, _ => rfl
  | _ :: _, _ + 1, 0, _, _ => rfl
  | _ :: r, n + 1, m + 1, s, h => by simpa using eget_eput_ne r n m s (by omega)
theorem eget_out : ∀ (e : Env) (i : Nat), e.length ≤ i → eget e i = .emp
  | [], _, _ => rfl
  | _ :: _, 0, h => by simp at h
  | _ :: r, n + 1, h => by simpa using eget_out r n (by simpa using h)

namespace Rs
def bind {α β : Type} (r : Rs α) (f : α → Env → Rs β) : Rs β :=
  match r with
  | .ok a e => f a e
  | .ex c fs e => .ex c fs e
  | .no => .no
@[simp] theorem bind_ok {α β : Type} (a : α) (e : Env) (f : α → Env → Rs β) : (Rs.ok a e).bind f = f a e := rfl
@[simp] theorem bind_ex {α β : Type} (c : Str) (fs : List (Str × Val)) (e : Env) (f : α → Env → Rs β) : (Rs.ex c fs e : Rs α).bind f = .ex c fs e := rfl
@[simp] theorem bind_no {α β : Type} (f : α → Env → Rs β) : (Rs.no : Rs α).bind f = .no := rfl
end Rs
def opt {α : Type} (o : Option α) (e : Env) : Rs α := match o with | some a => .ok a e | none => .no
@[simp] theorem opt_some {α : Type} (a : α) (e : Env) : opt (some a) e = .ok a e := rfl
@[simp] theorem opt_none {α : Type} (e : Env) : opt (none : Option α) e = .no := rfl

abbrev E := Env → Rs RV
abbrev T := Env → Rs Bool
abbrev As := Env → Rs (List RV)

/-- the content that is read -/
def peek (e : Env) : RV → Option Val
  | .v x => some x
  | .own x => some x
  | .bor i => match eget e i with
    | .own _ x => some x
    | .pf x => some x
    | .v x => some x
    | _ => none
@[simp] theorem peek_v (e : Env) (x : Val) : peek e (.v x) = some x := rfl
@[simp] theorem peek_own (e : Env) (x : Val) : peek e (.own x) = some x := rfl
@[simp] theorem peek_bor (e : Env) (i : Nat) : peek e (.bor i) = (match eget e i with | .own _ x => some x | .pf x => some x | .v x => some x | _ => none) := rfl

/-- the place holds what nobody changes any more -/
def thaw : Slot → Slot
  | .own true x => .pf x
  | .own false x => .v x
  | s => s
@[simp] theorem thaw_t (x : Val) : thaw (.own true x) = .pf x := rfl
@[simp] theorem thaw_f (x : Val) : thaw (.own false x) = .v x := rfl
@[simp] theorem thaw_v (x : Val) : thaw (.v x) = .v x := rfl
@[simp] theorem thaw_pf (x : Val) : thaw (.pf x) = .pf x := rfl
/-- the value escapes: it is put into another one -/
def esc (e : Env) : RV → Rs Val
  | .v x => .ok x e
  | .own x => .ok x e
  | .bor i => match eget e i with
    | .own p x => .ok x (eput e i (thaw (.own p x)))
    | .pf x => .ok x e
    | .v x => .ok x e
    | _ => .no
@[simp] theorem esc_v (e : Env) (x : Val) : esc e (.v x) = .ok x e := rfl
@[simp] theorem esc_own (e : Env) (x : Val) : esc e (.own x) = .ok x e := rfl
@[simp] theorem esc_bor (e : Env) (i : Nat) : esc e (.bor i) = (match eget e i with | .own p x => .ok x (eput e i (thaw (.own p x))) | .pf x => .ok x e | .v x => .ok x e | _ => .no) := rfl

/-! ### expressions -/
def eV (i : Nat) : E := fun e => match eget e i with
  | .v x => .ok (.v x) e
  | .own _ _ => .ok (.bor i) e
  | .pf _ => .ok (.bor i) e
  | _ => .no
def eC (x : Val) : E := fun e => .ok (.v x) e
/-- f a b, by what they hold -/
def eOp (f : Val → Val → Option RV) (a b : E) : E := fun e =>
  (a e).bind fun r e1 => (b e1).bind fun s e2 => (opt (peek e2 r) e2).bind fun x _ => (opt (peek e2 s) e2).bind fun y _ => opt (f x y) e2
def eUn (f : Val → Option RV) (a : E) : E := fun e => (a e).bind fun r e1 => (opt (peek e1 r) e1).bind fun x _ => opt (f x) e1
/-- a op b op' c -/
def eChain (f g : Val → Val → Option RV) (a b c : E) : E := fun e =>
  (a e).bind fun r e1 => (b e1).bind fun s e2 => (opt (peek e2 r) e2).bind fun x _ => (opt (peek e2 s) e2).bind fun y _ => (opt (f x y) e2).bind fun z _ =>
    match z with
    | .v (.bl true) => (c e2).bind fun t e3 => (opt (peek e3 s) e3).bind fun y _ => (opt (peek e3 t) e3).bind fun w _ => opt (g y w) e3
    | .v (.bl false) => .ok (.v (.bl false)) e2
    | _ => .no
def eIf (t : T) (a b : E) : E := fun e => (t e).bind fun k e1 => if k then a e1 else b e1
/-- and, or by truth values -/
def eAnd (a b : E) : E := fun e => (a e).bind fun r e1 => match r with
  | .v (.bl true) => b e1
  | .v (.bl false) => .ok (.v (.bl false)) e1
  | _ => .no
def eOr (a b : E) : E := fun e => (a e).bind fun r e1 => match r with
  | .v (.bl true) => .ok (.v (.bl true)) e1
  | .v (.bl false) => b e1
  | _ => .no
def eNot (a : E) : E := fun e => (a e).bind fun r e1 => match r with
  | .v (.bl k) => .ok (.v (.bl (!k))) e1
  | _ => .no

/-- a list of values that are handed on by content -/
def asNil : As := fun e => .ok [] e
def asCons (a : E) (r : As) : As := fun e => (a e).bind fun x e1 => (r e1).bind fun xs e2 => .ok (x :: xs) e2
/-- all escape -/
def escs : Env → List RV → Rs (List Val)
  | e, [] => .ok [] e
  | e, r :: rs => (esc e r).bind fun x e1 => (escs e1 rs).bind fun xs e2 => .ok (x :: xs) e2
@[simp] theorem escs_nil (e : Env) : escs e [] = .ok [] e := rfl
@[simp] theorem escs_cons (e : Env) (r : RV) (rs : List RV) : escs e (r :: rs) = (esc e r).bind fun x e1 => (escs e1 rs).bind fun xs e2 => .ok (x :: xs) e2 := rfl
def sizeMax : Nat := 16777216
def eTup (a : As) : E := fun e => (a e).bind fun rs e1 => (escs e1 rs).bind fun xs e2 => if xs.length ≤ sizeMax then .ok (.v (.tup xs)) e2 else .no
def eLst (a : As) : E := fun e => (a e).bind fun rs e1 => (escs e1 rs).bind fun xs e2 => if xs.length ≤ sizeMax then .ok (.own (.lst xs)) e2 else .no
def peeks (e : Env) : List RV → Option (List Val)
  | [] => some []
  | r :: rs => match peek e r, peeks e rs with
    | some x, some xs => some (x :: xs)
    | _, _ => none
@[simp] theorem peeks_nil (e : Env) : peeks e [] = some [] := rfl
@[simp] theorem peeks_cons (e : Env) (r : RV) (rs : List RV) : peeks e (r :: rs) = (match peek e r, peeks e rs with | some x, some xs => some (x :: xs) | _, _ => none) := rfl
/-- a built-in function, by what its arguments hold -/
def eB (f : List Val → Option RV) (a : As) : E := fun e => (a e).bind fun rs e1 => (opt (peeks e1 rs) e1).bind fun xs _ => opt (f xs) e1

/-! ### tests -/
def truth : Val → Option Bool
  | .non => some false
  | .bl b => some b
  | .int i => some (i != 0)
  | .str s => if s.length ≤ sizeMax then some ((s.length : Int) != 0) else none
  | .tup xs => some !xs.isEmpty
  | .lst xs => some !xs.isEmpty
  | _ => none
@[simp] theorem truth_bl (b : Bool) : truth (.bl b) = some b := rfl
@[simp] theorem truth_int (i : Int) : truth (.int i) = some (i != 0) := rfl
@[simp] theorem truth_non : truth .non = some false := rfl
@[simp] theorem truth_tup (xs : List Val) : truth (.tup xs) = some !xs.isEmpty := rfl
@[simp] theorem truth_lst (xs : List Val) : truth (.lst xs) = some !xs.isEmpty := rfl
def tE (a : E) : T := fun e => (a e).bind fun r e1 => (opt (peek e1 r) e1).bind fun x _ => opt (truth x) e1
def tAnd (a b : T) : T := fun e => (a e).bind fun k e1 => if k then b e1 else .ok false e1
def tOr (a b : T) : T := fun e => (a e).bind fun k e1 => if k then .ok true e1 else b e1
def tNot (a : T) : T := fun e => (a e).bind fun k e1 => .ok (!k) e1

/-! ### statements -/
inductive Fl where
  | nx
  | bk
  | ct
  | rt (r : RV)
abbrev S := Env → Rs Fl
def sNil : S := fun e => .ok .nx e
def sSeq (a b : S) : S := fun e => (a e).bind fun f e1 => match f with
  | .nx => b e1
  | f => .ok f e1
/-- a place is given a new content -/
def put (e : Env) (i : Nat) (s : Slot) : Rs Unit := if i < e.length then
  match eget e i with
  | .own true _ => .no
  | .pf _ => .no
  | .exn _ _ => .no
  | _ => .ok () (eput e i s)
  else .no
/-- name = r -/
def sto (e : Env) (i : Nat) : RV → Rs Unit
  | .v x => put e i (.v x)
  | .own x => put e i (.own false x)
  | .bor j => (esc e (.bor j)).bind fun x e1 => put e1 i (.v x)
def sSet (i : Nat) (a : E) : S := fun e => (a e).bind fun r e1 => (sto e1 i r).bind fun _ e2 => .ok .nx e2
def sExp (a : E) : S := fun e => (a e).bind fun _ e1 => .ok .nx e1
def sRet (a : E) : S := fun e => (a e).bind fun r e1 => .ok (.rt r) e1
def sRetN : S := fun e => .ok (.rt (.v .non)) e
def sIf (t : T) (a b : S) : S := fun e => (t e).bind fun k e1 => if k then a e1 else b e1
def sPass : S := fun e => .ok .nx e
def sBrk : S := fun e => .ok .bk e
def sCon : S := fun e => .ok .ct e
/-- all places, one after the other -/
def stos (e : Env) : List Nat → List RV → Rs Unit
  | [], [] => .ok () e
  | i :: is, r :: rs => (sto e i r).bind fun _ e1 => stos e1 is rs
  | _, _ => .no
@[simp] theorem stos_nil (e : Env) : stos e [] [] = .ok () e := rfl
@[simp] theorem stos_cons (e : Env) (i : Nat) (is : List Nat) (r : RV) (rs : List RV) : stos e (i :: is) (r :: rs) = (sto e i r).bind fun _ e1 => stos e1 is rs := rfl

/-! ### defs -/
inductive AV where
  | v (x : Val)
  | own (x : Val)
def AV.slot : AV → Slot
  | .v x => .v x
  | .own x => .own true x
@[simp] theorem AV.slot_v (x : Val) : (AV.v x).slot = .v x := rfl
@[simp] theorem AV.slot_own (x : Val) : (AV.own x).slot = .own true x := rfl
/-- a call's end: the value, and what became of the places of the parameters -/
inductive FR where
  | ok (r : RV) (ps : Env)
  | ex (c : Str) (fs : List (Str × Val)) (ps : Env)
  | no
abbrev Fn := List AV → FR
def fin (np : Nat) : Rs Fl → FR
  | .ok .nx e => .ok (.v .non) (e.take np)
  | .ok (.rt (.v x)) e => .ok (.v x) (e.take np)
  | .ok (.rt (.own x)) e => .ok (.own x) (e.take np)
  | .ok (.rt (.bor i)) e => match eget e i with
    | .own false x => .ok (.own x) (e.take np)
    | .own true x => .ok (.v x) ((eput e i (.pf x)).take np)
    | .pf x => .ok (.v x) (e.take np)
    | .v x => .ok (.v x) (e.take np)
    | _ => .no
  | .ex c fs e => .ex c fs (e.take np)
  | _ => .no
def mkF (np ns : Nat) (b : S) : Fn := fun args => if args.length = np then fin np (b (args.map AV.slot ++ List.replicate (ns - np) .emp)) else .no
/-- what is handed over -/
def hand (e : Env) : RV → Option AV
  | .v x => some (.v x)
  | .own x => some (.own x)
  | .bor i => match eget e i with
    | .own _ x => some (.own x)
    | .pf x => some (.v x)
    | .v x => some (.v x)
    | _ => none
def hands (e : Env) : List RV → Option (List AV)
  | [] => some []
  | r :: rs => match hand e r, hands e rs with
    | some x, some xs => some (x :: xs)
    | _, _ => none
@[simp] theorem hands_nil (e : Env) : hands e [] = some [] := rfl
@[simp] theorem hands_cons (e : Env) (r : RV) (rs : List RV) : hands e (r :: rs) = (match hand e r, hands e rs with | some x, some xs => some (x :: xs) | _, _ => none) := rfl
@[simp] theorem hand_v (e : Env) (x : Val) : hand e (.v x) = some (.v x) := rfl
@[simp] theorem hand_own (e : Env) (x : Val) : hand e (.own x) = some (.own x) := rfl
@[simp] theorem hand_bor (e : Env) (i : Nat) : hand e (.bor i) = (match eget e i with | .own _ x => some (.own x) | .pf x => some (.v x) | .v x => some (.v x) | _ => none) := rfl
/-- the places whose own objects are handed over -/
def lent (e : Env) : List RV → List Nat
  | [] => []
  | .bor i :: rs => (match eget e i with | .own _ _ => i :: lent e rs | _ => lent e rs)
  | _ :: rs => lent e rs
@[simp] theorem lent_nil (e : Env) : lent e [] = [] := rfl
@[simp] theorem lent_v (e : Env) (x : Val) (rs : List RV) : lent e (.v x :: rs) = lent e rs := rfl
@[simp] theorem lent_own (e : Env) (x : Val) (rs : List RV) : lent e (.own x :: rs) = lent e rs := rfl
@[simp] theorem lent_bor (e : Env) (i : Nat) (rs : List RV) : lent e (.bor i :: rs) = (match eget e i with | .own _ _ => i :: lent e rs | _ => lent e rs) := rfl
def nodupN : List Nat → Bool
  | [] => true
  | i :: is => !is.contains i && nodupN is
/-- what a place holds behind the call -/
def back : Slot → Slot → Slot
  | .own q _, .own _ x => .own q x
  | .own true _, .pf x => .pf x
  | .own false _, .pf x => .v x
  | s, _ => s
@[simp] theorem back_oo (q p : Bool) (y x : Val) : back (.own q y) (.own p x) = .own q x := rfl
@[simp] theorem back_tp (y x : Val) : back (.own true y) (.pf x) = .pf x := rfl
@[simp] theorem back_fp (y x : Val) : back (.own false y) (.pf x) = .v x := rfl
def backs (e : Env) : List RV → Env → Env
  | .bor i :: rs, p :: ps => backs (eput e i (back (eget e i) p)) rs ps
  | _ :: rs, _ :: ps => backs e rs ps
  | _, _ => e
@[simp] theorem backs_nil (e : Env) (ps : Env) : backs e [] ps = e := by cases ps <;> rfl
@[simp] theorem backs_v (e : Env) (x : Val) (rs : List RV) (p : Slot) (ps : Env) : backs e (.v x :: rs) (p :: ps) = backs e rs ps := rfl
@[simp] theorem backs_own (e : Env) (x : Val) (rs : List RV) (p : Slot) (ps : Env) : backs e (.own x :: rs) (p :: ps) = backs e rs ps := rfl
@[simp] theorem backs_bor (e : Env) (i : Nat) (rs : List RV) (p : Slot) (ps : Env) : backs e (.bor i :: rs) (p :: ps) = backs (eput e i (back (eget e i) p)) rs ps := rfl
def callR (m : Fn) (rs : List RV) (e : Env) : Rs RV :=
  if nodupN (lent e rs) then
    (opt (hands e rs) e).bind fun avs _ => match m avs with
      | .ok r ps => .ok r (backs e rs ps)
      | .ex c fs ps => .ex c fs (backs e rs ps)
      | .no => .no
  else .no
def eCall (m : Fn) (a : As) : E := fun e => (a e).bind fun rs e1 => callR m rs e1
/-- with keywords: the values in the written order, then put in the parameters' order -/
def eCallK (m : Fn) (perm : List Nat) (a : As) : E := fun e => (a e).bind fun rs e1 => callR m (perm.map fun i => rs.getD i (.v .non)) e1
end Z
namespace Z
/-! ### items, slices -/
def atV {α : Type} (xs : List α) (i : Int) : Option α := if 0 ≤ i then xs[i.toNat]? else if 0 ≤ i + xs.length then xs[(i + xs.length).toNat]? else none
def oInt : Option E → Env → Rs (Option Int)
  | none, e => .ok none e
  | some a, e => (a e).bind fun r e1 => match r with
    | .v (.int i) => .ok (some i) e1
    | _ => .no
@[simp] theorem oInt_none (e : Env) : oInt none e = .ok none e := rfl
@[simp] theorem oInt_some (a : E) (e : Env) : oInt (some a) e = (a e).bind fun r e1 => match r with | .v (.int i) => .ok (some i) e1 | _ => .no := rfl
def eSl (f : Val → Option Int → Option Int → Option RV) (a : E) (lo hi : Option E) : E := fun e =>
  (a e).bind fun r e1 => (oInt lo e1).bind fun l e2 => (oInt hi e2).bind fun u e3 => (opt (peek e3 r) e3).bind fun x _ => opt (f x l u) e3
end Z
namespace Z
/-! ### targets, loops -/
abbrev Tg := Val → Env → Option Env
def okE : Rs Unit → Option Env
  | .ok _ e => some e
  | _ => none
@[simp] theorem okE_ok (e : Env) : okE (.ok () e) = some e := rfl
@[simp] theorem okE_no : okE .no = none := rfl
def tgN (i : Nat) : Tg := fun x e => okE (sto e i (.v x))
def tgs : List Tg → List Val → Env → Option Env
  | [], [], e => some e
  | t :: ts, x :: xs, e => match t x e with
    | some e1 => tgs ts xs e1
    | none => none
  | _, _, _ => none
@[simp] theorem tgs_nil (e : Env) : tgs [] [] e = some e := rfl
@[simp] theorem tgs_cons (t : Tg) (ts : List Tg) (x : Val) (xs : List Val) (e : Env) : tgs (t :: ts) (x :: xs) e = match t x e with | some e1 => tgs ts xs e1 | none => none := rfl
def tgT (ts : List Tg) : Tg := fun x e => match x with
  | .tup xs => tgs ts xs e
  | _ => none
/-- targets = e, e a tuple -/
def sUnp (t : Tg) (a : E) : S := fun e => (a e).bind fun r e1 => match r with
  | .v x => match t x e1 with
    | some e2 => .ok .nx e2
    | none => .no
  | _ => .no
/-- what is borrowed comes to rest -/
def settle (e : Env) : RV → Rs RV
  | .v x => .ok (.v x) e
  | .own x => .ok (.own x) e
  | .bor i => (esc e (.bor i)).bind fun x e1 => .ok (.v x) e1
def settles (e : Env) : List RV → Rs (List RV)
  | [] => .ok [] e
  | r :: rs => (settle e r).bind fun x e1 => (settles e1 rs).bind fun xs e2 => .ok (x :: xs) e2
@[simp] theorem settle_v (e : Env) (x : Val) : settle e (.v x) = .ok (.v x) e := rfl
@[simp] theorem settle_own (e : Env) (x : Val) : settle e (.own x) = .ok (.own x) e := rfl
@[simp] theorem settle_bor (e : Env) (i : Nat) : settle e (.bor i) = (esc e (.bor i)).bind fun x e1 => .ok (.v x) e1 := rfl
@[simp] theorem settles_nil (e : Env) : settles e [] = .ok [] e := rfl
@[simp] theorem settles_cons (e : Env) (r : RV) (rs : List RV) : settles e (r :: rs) = (settle e r).bind fun x e1 => (settles e1 rs).bind fun xs e2 => .ok (x :: xs) e2 := rfl
/-- a, b = x, y -/
def sPar (is : List Nat) (a : As) : S := fun e => (a e).bind fun rs e1 => (settles e1 rs).bind fun rs' e2 => (stos e2 is rs').bind fun _ e3 => .ok .nx e3
abbrev Src := Env → Rs (List Val)
/-- the items of a list or a tuple, which rests from now on -/
def iSeq (a : E) : Src := fun e => (a e).bind fun r e1 => (esc e1 r).bind fun x e2 => match x with
  | .lst xs => .ok xs e2
  | .tup xs => .ok xs e2
  | _ => .no
def rangeV (lo : Int) (n : Nat) : List Val := (List.range n).map fun i : Nat => .int (lo + i)
def iRange1 (a : E) : Src := fun e => (a e).bind fun r e1 => match r with
  | .v (.int j) => if j.natAbs < 4611686018427387904 then .ok (rangeV 0 j.toNat) e1 else .no
  | _ => .no
def iRange2 (a b : E) : Src := fun e => (a e).bind fun r e1 => (b e1).bind fun s e2 => match r, s with
  | .v (.int i), .v (.int j) => if i.natAbs < 4611686018427387904 ∧ j.natAbs < 4611686018427387904 then .ok (rangeV i (j - i).toNat) e2 else .no
  | _, _ => .no
def forL (t : Tg) (b : S) : List Val → S
  | [] => fun e => .ok .nx e
  | x :: xs => fun e => match t x e with
    | none => .no
    | some e1 => (b e1).bind fun f e2 => match f with
      | .nx => forL t b xs e2
      | .ct => forL t b xs e2
      | .bk => .ok .nx e2
      | .rt r => .ok (.rt r) e2
def sFor (s : Src) (t : Tg) (b : S) : S := fun e => (s e).bind fun xs e1 => forL t b xs e1
def whileL (c : T) (b : S) : Nat → S
  | 0 => fun _ => .no
  | n + 1 => fun e => (c e).bind fun k e1 => if k then (b e1).bind fun f e2 => match f with
      | .nx => whileL c b n e2
      | .ct => whileL c b n e2
      | .bk => .ok .nx e2
      | .rt r => .ok (.rt r) e2
    else .ok .nx e1
def sWhile (n : Nat) (c : T) (b : S) : S := whileL c b n
end Z
namespace Z
/-! ### lists that are changed -/
def setAt (xs : List Val) (i : Int) (x : Val) : Option (List Val) := if 0 ≤ i then (if i < xs.length then some (xs.set i.toNat x) else none) else if 0 ≤ i + xs.length then some (xs.set (i + xs.length).toNat x) else none
def isOwnL : Slot → Bool
  | .own _ (.lst _) => true
  | _ => false
@[simp] theorem isOwnL_own (p : Bool) (xs : List Val) : isOwnL (.own p (.lst xs)) = true := rfl
/-- name[i] = a -/
def sSetIx (j : Nat) (ix a : E) : S := fun e => (a e).bind fun r e1 => if isOwnL (eget e1 j) then (ix e1).bind fun q e2 => (esc e2 r).bind fun x e3 => match eget e3 j, q with
  | .own p (.lst xs), .v (.int i) => match setAt xs i x with
    | some ys => .ok .nx (eput e3 j (.own p (.lst ys)))
    | none => .no
  | _, _ => .no
  else .no
/-- name.append(a) -/
def eApp (j : Nat) (a : E) : E := fun e => if isOwnL (eget e j) then (a e).bind fun r e1 => (esc e1 r).bind fun x e2 => match eget e2 j with
  | .own p (.lst xs) => if xs.length < sizeMax then .ok (.v .non) (eput e2 j (.own p (.lst (xs ++ [x])))) else .no
  | _ => .no
  else .no
/-- name.pop() -/
def ePop (j : Nat) : E := fun e => match eget e j with
  | .own p (.lst xs) => match xs[xs.length - 1]? with
    | some x => .ok (.v x) (eput e j (.own p (.lst xs.dropLast)))
    | none => .no
  | _ => .no
/-- name.pop(a) -/
def ePopAt (j : Nat) (a : E) : E := fun e => if isOwnL (eget e j) then (a e).bind fun r e1 => match eget e1 j, r with
  | .own p (.lst xs), .v (.int i) => if 0 ≤ i ∧ i < xs.length then match xs[i.toNat]? with
      | some x => .ok (.v x) (eput e1 j (.own p (.lst (xs.eraseIdx i.toNat))))
      | none => .no
    else .no
  | _, _ => .no
  else .no
/-- name.extend(a), a a new list -/
def eExt (j : Nat) (a : E) : E := fun e => if isOwnL (eget e j) then (a e).bind fun r e1 => match eget e1 j, r with
  | .own p (.lst xs), .own (.lst ys) => if xs.length + ys.length ≤ sizeMax then .ok (.v .non) (eput e1 j (.own p (.lst (xs ++ ys)))) else .no
  | _, _ => .no
  else .no
end Z
namespace Z
/-! ### errors -/
/-- raise cn(a) -/
def sRaise (cn fld : Str) (a : E) : S := fun e => (a e).bind fun r e1 => (esc e1 r).bind fun x e2 => .ex cn [(fld, x)] e2
/-- the field of the error at a place -/
def eExn (i : Nat) (cn fld : Str) : E := fun e => match eget e i with
  | .exn c [(f, x)] => if c = cn ∧ f = fld then .ok (.v x) e else .no
  | _ => .no
def noExn : Env → Bool
  | [] => true
  | .exn _ _ :: _ => false
  | _ :: r => noExn r
@[simp] theorem noExn_nil : noExn [] = true := rfl
@[simp] theorem noExn_emp (r : Env) : noExn (.emp :: r) = noExn r := rfl
@[simp] theorem noExn_v (x : Val) (r : Env) : noExn (.v x :: r) = noExn r := rfl
@[simp] theorem noExn_own (p : Bool) (x : Val) (r : Env) : noExn (.own p x :: r) = noExn r := rfl
@[simp] theorem noExn_pf (x : Val) (r : Env) : noExn (.pf x :: r) = noExn r := rfl
/-- a suite's end: its name goes -/
def leaveS (i : Nat) : Rs Fl → Rs Fl
  | .ok (.rt (.v x)) e => if noExn (eput e i .emp) then .ok (.rt (.v x)) (eput e i .emp) else .no
  | .ok (.rt (.own x)) e => if noExn (eput e i .emp) then .ok (.rt (.own x)) (eput e i .emp) else .no
  | .ok (.rt (.bor _)) _ => .no
  | .ok f e => if noExn (eput e i .emp) then .ok f (eput e i .emp) else .no
  | _ => .no
@[simp] theorem leaveS_v (i : Nat) (x : Val) (e : Env) : leaveS i (.ok (.rt (.v x)) e) = if noExn (eput e i .emp) then .ok (.rt (.v x)) (eput e i .emp) else .no := rfl
@[simp] theorem leaveS_own (i : Nat) (x : Val) (e : Env) : leaveS i (.ok (.rt (.own x)) e) = if noExn (eput e i .emp) then .ok (.rt (.own x)) (eput e i .emp) else .no := rfl
@[simp] theorem leaveS_nx (i : Nat) (e : Env) : leaveS i (.ok .nx e) = if noExn (eput e i .emp) then .ok .nx (eput e i .emp) else .no := rfl
def handle (sub : Str → Str → Option Bool) : List (Str × Nat × S) → Str → List (Str × Val) → Env → Rs Fl
  | [], c, fs, e => .ex c fs e
  | (n, i, s) :: r, c, fs, e => match sub c n with
    | some true => match eget e i with
      | .emp => if i < e.length then leaveS i (s (eput e i (.exn c fs))) else .no
      | _ => .no
    | some false => handle sub r c fs e
    | none => .no
/-- try: b; except n as i: s; .. -/
def sTry (sub : Str → Str → Option Bool) (b : S) (hs : List (Str × Nat × S)) : S := fun e => match b e with
  | .ex c fs e1 => handle sub hs c fs e1
  | r => r
end Z
namespace Z
/-! ### list comprehensions -/
/-- the block's names hold nothing that is changed -/
def clr (e : Env) : List Nat → Bool
  | [] => true
  | i :: is => (match eget e i with | .emp => true | .v _ => true | _ => false) && clr e is
def wip (e : Env) : List Nat → Env
  | [] => e
  | i :: is => wip (eput e i .emp) is
/-- the block's names as they were in e1 -/
def unwip (e1 e2 : Env) : List Nat → Env
  | [] => e2
  | i :: is => unwip e1 (eput e2 i (eget e1 i)) is
@[simp] theorem clr_nil (e : Env) : clr e [] = true := rfl
@[simp] theorem clr_cons (e : Env) (i : Nat) (is : List Nat) : clr e (i :: is) = ((match eget e i with | .emp => true | .v _ => true | _ => false) && clr e is) := rfl
@[simp] theorem wip_nil (e : Env) : wip e [] = e := rfl
@[simp] theorem wip_cons (e : Env) (i : Nat) (is : List Nat) : wip e (i :: is) = wip (eput e i .emp) is := rfl
@[simp] theorem unwip_nil (e1 e2 : Env) : unwip e1 e2 [] = e2 := rfl
@[simp] theorem unwip_cons (e1 e2 : Env) (i : Nat) (is : List Nat) : unwip e1 e2 (i :: is) = unwip e1 (eput e2 i (eget e1 i)) is := rfl
def tYes : T := fun e => .ok true e
def compL (vs : List Nat) (t : Tg) (c : T) (a : E) : List Val → Env → Rs (List Val)
  | [], e => .ok [] e
  | x :: xs, e => match t x e with
    | none => .no
    | some e1 => (c e1).bind fun k e2 => if k then (a e2).bind fun r e3 => (esc e3 r).bind fun y e4 => if clr e4 vs then (compL vs t c a xs (wip e4 vs)).bind fun ys e5 => .ok (y :: ys) e5 else .no
      else if clr e2 vs then compL vs t c a xs (wip e2 vs) else .no
/-- [a for t in s if c] -/
def eComp (s : Src) (vs : List Nat) (t : Tg) (c : T) (a : E) : E := fun e => (s e).bind fun xs e1 => if clr e1 vs && decide (xs.length ≤ sizeMax) then match compL vs t c a xs (wip e1 vs) with
    | .ok ys e2 => .ok (.own (.lst ys)) (unwip e1 e2 vs)
    | _ => .no
  else .no
end Z
/-! Z1: how the functional reading stands to the layer's heap: relations, ends, how they are put together. -/
namespace Z
open PySem L2

/-- the module's side -/
structure Gm where
  K : PySem.W.Frag
  mg : Str → Option Value

/-- a list that nobody writes any more -/
def SqZ (g : Gm) (Zs : Addr → Prop) (H : Hp) (a : Addr) (us : List V) : Prop := Zs a ∧ Rd H a (.lst us)
theorem SqZ.sq {g : Gm} {Zs : Addr → Prop} {H : Hp} {a : Addr} {us : List V} (h : SqZ g Zs H a us) : SqL g.K H a us := .inl h.2
/-- the law's own list, which nobody writes -/
def SqF (K : PySem.W.Frag) (H : Hp) (a : Addr) (us : List V) : Prop := (∃ o, H a = some (.frz o (.lst us))) ∨
  ∃ (o : Obj) (its : Array Value) (n : Nat), K.lookup a = some o ∧ o.cls = .type "list" ∧ o.dict = none ∧ o.data = .seq its n ∧ its.size ≤ sizeLine ∧ Vals us its.toList
theorem SqF.sq {K : PySem.W.Frag} {H : Hp} {a : Addr} {us : List V} (h : SqF K H a us) : SqL K H a us := h.imp .inr id
mutual
/-- a value, by content; lists and dicts within it stand at places (Zs) that nobody writes any more -/
inductive RvV (g : Gm) (Zs : Addr → Prop) (H : Hp) : Val → V → Prop
  | non : RvV g Zs H .non .non
  | bl (b : Bool) : RvV g Zs H (.bl b) (.bl b)
  | int (i : Int) : RvV g Zs H (.int i) (.int i)
  | str (x : Str) : RvV g Zs H (.str x) (.str x)
  | tup {a : Addr} {us : List V} {xs : List Val} : SqT g.K H a us → RvL g Zs H xs us → RvV g Zs H (.tup xs) (.ref a)
  | lst {a : Addr} {us : List V} {xs : List Val} : SqZ g Zs H a us → RvL g Zs H xs us → RvV g Zs H (.lst xs) (.ref a)
  | dic {a : Addr} {ks : List (Key × V)} {kvs : List (Val × Val)} : Zs a → Rd H a (.dK ks) → RvD g Zs H kvs ks → RvV g Zs H (.dic kvs) (.ref a)
  | obj {a C dx : Addr} {c : Str} {fs : List (Str × Val)} {fv : List (Str × V)} : Zs a → H a = some (.ins C dx fv) → g.mg c = some (.ref C) → RvF g Zs H fs fv → RvV g Zs H (.obj c fs) (.ref a)
  | scr {a : Addr} {ns : List Int} : SqF g.K H a (ns.map V.int) → RvV g Zs H (.scr ns) (.ref a)
inductive RvL (g : Gm) (Zs : Addr → Prop) (H : Hp) : List Val → List V → Prop
  | nil : RvL g Zs H [] []
  | cons {x : Val} {u : V} {xs : List Val} {us : List V} : RvV g Zs H x u → RvL g Zs H xs us → RvL g Zs H (x :: xs) (u :: us)
inductive RvD (g : Gm) (Zs : Addr → Prop) (H : Hp) : List (Val × Val) → List (Key × V) → Prop
  | nil : RvD g Zs H [] []
  | int {i : Int} {x : Val} {u : V} {xs : List (Val × Val)} {us : List (Key × V)} : RvV g Zs H x u → RvD g Zs H xs us → RvD g Zs H ((.int i, x) :: xs) ((.inl i, u) :: us)
  | str {s : Str} {x : Val} {u : V} {xs : List (Val × Val)} {us : List (Key × V)} : RvV g Zs H x u → RvD g Zs H xs us → RvD g Zs H ((.str s, x) :: xs) ((.inr s, u) :: us)
inductive RvF (g : Gm) (Zs : Addr → Prop) (H : Hp) : List (Str × Val) → List (Str × V) → Prop
  | nil : RvF g Zs H [] []
  | cons {f : Str} {x : Val} {u : V} {xs : List (Str × Val)} {us : List (Str × V)} : RvV g Zs H x u → RvF g Zs H xs us → RvF g Zs H ((f, x) :: xs) ((f, u) :: us)
end

/-- what may be written to -/
def wr : HO → Bool
  | .lst _ => true
  | .dK _ => true
  | .ins _ _ _ => true
  | _ => false
/-- a step of the heap: only what is Ow is written, what is new is new -/
structure Ext (Ow Zs : Addr → Prop) (H : Hp) (Zt : Addr → Prop) (H' : Hp) : Prop where
  zz : ∀ a, Zs a → Zt a
  zn : ∀ a, Zt a → Zs a ∨ Ow a ∨ H a = none
  hh : ∀ a o, H a = some o → ¬ Ow a → H' a = some o
  zd : ∀ a, Zt a → ∃ o, H' a = some o
abbrev Zd (Zs : Addr → Prop) (H : Hp) : Prop := ∀ a, Zs a → ∃ o, H a = some o
/-- what is owned -/
def OwOk (Ow Zs : Addr → Prop) (H : Hp) : Prop := ∀ a, Ow a → ¬ Zs a ∧ ∃ o, H a = some o ∧ wr o = true

theorem Ext.refl {Ow Zs : Addr → Prop} {H : Hp} (z : Zd Zs H) : Ext Ow Zs H Zs H := ⟨fun _ h => h, fun _ h => .inl h, fun _ _ h _ => h, z⟩
theorem Ext.rd {Ow Zs Zt : Addr → Prop} {H H' : Hp} (e : Ext Ow Zs H Zt H') (d : OwOk Ow Zs H) {a : Addr} {u : HO} (hw : wr u = false ∨ Zs a) (r : Rd H a u) : Rd H' a u := by
  have no : ∀ o, H a = some o → (wr o = false ∨ Zs a) → ¬ Ow a := fun o ho hw z => by
    obtain ⟨nz, o', ho', hw'⟩ := d a z
    rw [ho] at ho'; cases ho'
    rcases hw with hw | hw
    · rw [hw] at hw'; cases hw'
    · exact nz hw
  rcases r with r | ⟨o, r⟩
  · exact .inl (e.hh _ _ r (no _ r hw))
  · exact .inr ⟨o, e.hh _ _ r (no _ r (.inl rfl))⟩
/-- what values lean on stays -/
structure Grow (Zs : Addr → Prop) (H : Hp) (Zt : Addr → Prop) (H' : Hp) : Prop where
  zz : ∀ a, Zs a → Zt a
  kp : ∀ a u, (wr u = false ∨ Zs a) → H a = some u → H' a = some u
theorem Grow.rd {Zs Zt : Addr → Prop} {H H' : Hp} (e : Grow Zs H Zt H') {a : Addr} {u : HO} (hw : wr u = false ∨ Zs a) (r : Rd H a u) : Rd H' a u := by
  rcases r with r | ⟨o, r⟩
  · exact .inl (e.kp _ _ hw r)
  · exact .inr ⟨o, e.kp _ _ (.inl rfl) r⟩
theorem Ext.grow {Ow Zs Zt : Addr → Prop} {H H' : Hp} (e : Ext Ow Zs H Zt H') (d : OwOk Ow Zs H) : Grow Zs H Zt H' :=
  ⟨e.zz, fun a u hw h => e.hh a u h fun z => by
    obtain ⟨nz, o', ho', hw'⟩ := d a z
    rw [h] at ho'; cases ho'
    rcases hw with hw | hw
    · rw [hw] at hw'; cases hw'
    · exact nz hw⟩
theorem Grow.of {Zs Zt : Addr → Prop} {H : Hp} (h : ∀ a, Zs a → Zt a) : Grow Zs H Zt H := ⟨h, fun _ _ _ h => h⟩
section
variable {g : Gm} {Zs Zt : Addr → Prop} {H H' : Hp} (e : Grow Zs H Zt H')
include e
theorem Grow.sqT {a : Addr} {us : List V} (h : SqT g.K H a us) : SqT g.K H' a us := by
  rcases h with h | h
  · exact .inl (e.rd (.inl rfl) h)
  · exact .inr h
theorem Grow.sqZ {a : Addr} {us : List V} (h : SqZ g Zs H a us) : SqZ g Zt H' a us := ⟨e.zz _ h.1, e.rd (.inr h.1) h.2⟩
mutual
theorem RvV.gr : ∀ {x : Val} {u : V}, RvV g Zs H x u → RvV g Zt H' x u
  | _, _, .non => .non
  | _, _, .bl b => .bl b
  | _, _, .int i => .int i
  | _, _, .str s => .str s
  | _, _, .tup h r => .tup (e.sqT h) (RvL.gr r)
  | _, _, .lst h r => .lst (e.sqZ h) (RvL.gr r)
  | _, _, .dic z h r => .dic (e.zz _ z) (e.rd (.inr z) h) (RvD.gr r)
  | _, _, .obj z h m r => .obj (e.zz _ z) (e.kp _ _ (.inr z) h) m (RvF.gr r)
  | _, _, .scr h => .scr (h.imp (fun ⟨o, h⟩ => ⟨o, e.kp _ _ (.inl rfl) h⟩) id)
theorem RvL.gr : ∀ {xs : List Val} {us : List V}, RvL g Zs H xs us → RvL g Zt H' xs us
  | _, _, .nil => .nil
  | _, _, .cons h r => .cons (RvV.gr h) (RvL.gr r)
theorem RvD.gr : ∀ {xs : List (Val × Val)} {us : List (Key × V)}, RvD g Zs H xs us → RvD g Zt H' xs us
  | _, _, .nil => .nil
  | _, _, .int h r => .int (RvV.gr h) (RvD.gr r)
  | _, _, .str h r => .str (RvV.gr h) (RvD.gr r)
theorem RvF.gr : ∀ {xs : List (Str × Val)} {us : List (Str × V)}, RvF g Zs H xs us → RvF g Zt H' xs us
  | _, _, .nil => .nil
  | _, _, .cons h r => .cons (RvV.gr h) (RvF.gr r)
end
end
section
variable {g : Gm} {Ow Zs Zt : Addr → Prop} {H H' : Hp} (e : Ext Ow Zs H Zt H') (d : OwOk Ow Zs H)
include e d
theorem RvV.ext {x : Val} {u : V} (h : RvV g Zs H x u) : RvV g Zt H' x u := h.gr (e.grow d)
theorem RvL.ext {x : List Val} {u : List V} (h : RvL g Zs H x u) : RvL g Zt H' x u := h.gr (e.grow d)
theorem RvD.ext {x : List (Val × Val)} {u : List (Key × V)} (h : RvD g Zs H x u) : RvD g Zt H' x u := h.gr (e.grow d)
theorem RvF.ext {x : List (Str × Val)} {u : List (Str × V)} (h : RvF g Zs H x u) : RvF g Zt H' x u := h.gr (e.grow d)
end

/-- an object that may be written, by content -/
def Hld (g : Gm) (Zs : Addr → Prop) (H : Hp) : Val → Addr → Prop
  | .lst xs, a => ∃ us, H a = some (.lst us) ∧ RvL g Zs H xs us
  | .dic kvs, a => ∃ ks, H a = some (.dK ks) ∧ RvD g Zs H kvs ks
  | .obj c fs, a => ∃ C dx fv, H a = some (.ins C dx fv) ∧ g.mg c = some (.ref C) ∧ RvF g Zs H fs fv
  | _, _ => False
theorem Hld.rv {g : Gm} {Zs : Addr → Prop} {H : Hp} : ∀ {x : Val} {a : Addr}, Hld g Zs H x a → Zs a → RvV g Zs H x (.ref a)
  | .lst _, _, ⟨_, h, r⟩, z => .lst ⟨z, .inl h⟩ r
  | .dic _, _, ⟨_, h, r⟩, z => .dic z (.inl h) r
  | .obj _ _, _, ⟨_, _, _, h, m, r⟩, z => .obj z h m r
  | .non, _, h, _ => nomatch (show False from h)
  | .bl _, _, h, _ => nomatch (show False from h)
  | .int _, _, h, _ => nomatch (show False from h)
  | .str _, _, h, _ => nomatch (show False from h)
  | .tup _, _, h, _ => nomatch (show False from h)
  | .scr _, _, h, _ => nomatch (show False from h)
theorem Hld.wr {g : Gm} {Zs : Addr → Prop} {H : Hp} : ∀ {x : Val} {a : Addr}, Hld g Zs H x a → ∃ o, H a = some o ∧ Z.wr o = true
  | .lst _, _, ⟨_, h, _⟩ => ⟨_, h, rfl⟩
  | .dic _, _, ⟨_, h, _⟩ => ⟨_, h, rfl⟩
  | .obj _ _, _, ⟨_, _, _, h, _, _⟩ => ⟨_, h, rfl⟩
  | .non, _, h => nomatch (show False from h)
  | .bl _, _, h => nomatch (show False from h)
  | .int _, _, h => nomatch (show False from h)
  | .str _, _, h => nomatch (show False from h)
  | .tup _, _, h => nomatch (show False from h)
  | .scr _, _, h => nomatch (show False from h)
/-- it stays while its own place is not written -/
theorem Hld.ext {g : Gm} {Ow Zs Zt : Addr → Prop} {H H' : Hp} (e : Ext Ow Zs H Zt H') (d : OwOk Ow Zs H) : ∀ {x : Val} {a : Addr}, Hld g Zs H x a → ¬ Ow a → Hld g Zt H' x a
  | .lst _, _, ⟨_, h, r⟩, n => ⟨_, e.hh _ _ h n, r.ext e d⟩
  | .dic _, _, ⟨_, h, r⟩, n => ⟨_, e.hh _ _ h n, r.ext e d⟩
  | .obj _ _, _, ⟨_, _, _, h, m, r⟩, n => ⟨_, _, _, e.hh _ _ h n, m, r.ext e d⟩
  | .non, _, h, _ => nomatch (show False from h)
  | .bl _, _, h, _ => nomatch (show False from h)
  | .int _, _, h, _ => nomatch (show False from h)
  | .str _, _, h, _ => nomatch (show False from h)
  | .tup _, _, h, _ => nomatch (show False from h)
  | .scr _, _, h, _ => nomatch (show False from h)

/-! ### frames -/
abbrev Xc := Option (Addr × Value × Addr)
def SlR (g : Gm) (xc : Xc) (Zs : Addr → Prop) (H : Hp) : Slot → Option (Option V) → Prop
  | .emp, _ => True
  | .v x, o => ∃ u, o = some (some u) ∧ RvV g Zs H x u
  | .own _ x, o => ∃ a, o = some (some (.ref a)) ∧ ¬ Zs a ∧ Hld g Zs H x a
  | .pf x, o => ∃ a, o = some (some (.ref a)) ∧ Zs a ∧ RvV g Zs H x (.ref a)
  | .exn c fs, o => ∃ a d C fv, xc = some (a, .ref C, d) ∧ o = some (some (.ref a)) ∧ g.mg c = some (.ref C) ∧ H d = some (.xd fv) ∧ RvF g Zs H fs fv
def OwnAt (env : Env) (σ : St) (i : Nat) (a : Addr) : Prop := ∃ p x, eget env i = .own p x ∧ σ[i]? = some (some (.ref a))
def Owd (env : Env) (σ : St) (a : Addr) : Prop := ∃ i, OwnAt env σ i a
def Pinned : Slot → Prop
  | .own true _ => True
  | .pf _ => True
  | _ => False
def Hol : Slot → Prop
  | .v _ => True
  | .own _ _ => True
  | .pf _ => True
  | _ => False
structure RE (g : Gm) (xc : Xc) (pa : List (Option Addr)) (Zs : Addr → Prop) (H : Hp) (σ : St) (env : Env) : Prop where
  len : σ.length = env.length
  sl : ∀ i, SlR g xc Zs H (eget env i) σ[i]?
  inj : ∀ i j a, OwnAt env σ i a → OwnAt env σ j a → i = j
  pin : ∀ i a, pa[i]? = some (some a) → σ[i]? = some (some (.ref a)) ∧ Pinned (eget env i)
  zd : Zd Zs H
theorem RE.owOk {g : Gm} {xc : Xc} {pa : List (Option Addr)} {Zs : Addr → Prop} {H : Hp} {σ : St} {env : Env} (r : RE g xc pa Zs H σ env) : OwOk (Owd env σ) Zs H := by
  rintro a ⟨i, p, x, h1, h2⟩
  have q := r.sl i
  rw [h1] at q
  obtain ⟨b, h3, nz, hl⟩ := q
  rw [h2] at h3; cases h3
  exact ⟨nz, hl.wr⟩

/-- a step of a frame's run -/
structure Post (g : Gm) (xc : Xc) (pa : List (Option Addr)) (Zs : Addr → Prop) (H : Hp) (σ : St) (env : Env) (Zt : Addr → Prop) (H' : Hp) (σ' : St) (env' : Env) : Prop where
  ext : Ext (Owd env σ) Zs H Zt H'
  re : RE g xc pa Zt H' σ' env'
  ow : ∀ a, Owd env' σ' a → Owd env σ a ∨ H a = none
/-- .. of an expression's -/
structure PostE (g : Gm) (xc : Xc) (pa : List (Option Addr)) (Zs : Addr → Prop) (H : Hp) (σ : St) (env : Env) (Zt : Addr → Prop) (H' : Hp) (env' : Env) : Prop extends Post g xc pa Zs H σ env Zt H' σ env' where
  hol : ∀ i, Hol (eget env i) → Hol (eget env' i)
section
variable {g : Gm} {xc : Xc} {pa : List (Option Addr)} {Z0 Z1 Z2 : Addr → Prop} {H0 H1 H2 : Hp} {σ0 σ1 σ2 : St} {e0 e1 e2 : Env}
theorem Post.refl (r : RE g xc pa Z0 H0 σ0 e0) : Post g xc pa Z0 H0 σ0 e0 Z0 H0 σ0 e0 := ⟨Ext.refl r.zd, r, fun _ h => .inl h⟩
theorem PostE.refl (r : RE g xc pa Z0 H0 σ0 e0) : PostE g xc pa Z0 H0 σ0 e0 Z0 H0 e0 := ⟨Post.refl r, fun _ h => h⟩
/-- a place that was free is free ahead, too, or one's own -/
theorem Ext.free {Ow Zs Zt : Addr → Prop} {H H' : Hp} (e : Ext Ow Zs H Zt H') {a : Addr} (h : H' a = none) : Ow a ∨ H a = none := by
  cases q : H a with
  | none => exact .inr rfl
  | some o =>
    refine .inl (Classical.byContradiction fun n => ?_)
    rw [e.hh a o q n] at h
    cases h
theorem Post.trans (p : Post g xc pa Z0 H0 σ0 e0 Z1 H1 σ1 e1) (q : Post g xc pa Z1 H1 σ1 e1 Z2 H2 σ2 e2) : Post g xc pa Z0 H0 σ0 e0 Z2 H2 σ2 e2 := by
  refine ⟨⟨fun a h => q.ext.zz a (p.ext.zz a h), fun a h => ?_, fun a o h n => ?_, q.ext.zd⟩, q.re, fun a h => ?_⟩
  · rcases q.ext.zn a h with h | h | h
    · exact p.ext.zn a h
    · exact .inr (p.ow a h)
    · exact .inr (p.ext.free h)
  · refine q.ext.hh a o (p.ext.hh a o h n) fun w => ?_
    rcases p.ow a w with w | w
    · exact n w
    · rw [h] at w; cases w
  · rcases q.ow a h with h | h
    · exact p.ow a h
    · exact p.ext.free h
theorem PostE.trans (p : PostE g xc pa Z0 H0 σ0 e0 Z1 H1 e1) (q : PostE g xc pa Z1 H1 σ0 e1 Z2 H2 e2) : PostE g xc pa Z0 H0 σ0 e0 Z2 H2 e2 :=
  ⟨p.toPost.trans q.toPost, fun i h => q.hol i (p.hol i h)⟩
end

/-! ### what comes -/
/-- where one stood -/
structure At where
  pa : List (Option Addr)
  Zs : Addr → Prop
  H : Hp
  σ : St
  env : Env
def RR (g : Gm) (s : At) (Zt : Addr → Prop) (H' : Hp) (σ' : St) (env' : Env) : RV → V → Prop
  | .v x, u => RvV g Zt H' x u
  | .own x, u => ∃ a, u = .ref a ∧ ¬ Zt a ∧ Hld g Zt H' x a ∧ ¬ Owd env' σ' a ∧ (Owd s.env s.σ a ∨ s.H a = none)
  | .bor i, u => ∃ a, u = .ref a ∧ σ'[i]? = some (some (.ref a)) ∧ Hol (eget env' i)
section
variable {g : Gm} {xc : Xc} {s : At} {Z0 Z1 Z2 : Addr → Prop} {H0 H1 H2 : Hp} {σ0 : St} {e0 e1 e2 : Env} {r : RV} {u : V}
/-- what came stays behind a further step -/
theorem RR.step {pa : List (Option Addr)} (h : RR g s Z1 H1 σ0 e1 r u) (q1 : RE g xc pa Z1 H1 σ0 e1) (q : PostE g xc pa Z1 H1 σ0 e1 Z2 H2 e2) : RR g s Z2 H2 σ0 e2 r u := by
  cases r with
  | v x => exact RvV.ext q.ext q1.owOk h
  | own x =>
    obtain ⟨a, e, nz, hl, no, fr⟩ := h
    obtain ⟨o, ho, hw⟩ := hl.wr
    refine ⟨a, e, fun z => ?_, hl.ext q.ext q1.owOk no, fun w => ?_, fr⟩
    · rcases q.ext.zn a z with z | z | z
      · exact nz z
      · exact no z
      · rw [ho] at z; cases z
    · rcases q.ow a w with z | z
      · exact no z
      · rw [ho] at z; cases z
  | bor i =>
    obtain ⟨a, e, h1, h2⟩ := h
    exact ⟨a, e, h1, q.hol i h2⟩
end
/-- a list of them; new objects stand apart -/
inductive RRs (g : Gm) (s : At) (Zt : Addr → Prop) (H' : Hp) (σ' : St) (env' : Env) : List RV → List V → Prop
  | nil : RRs g s Zt H' σ' env' [] []
  | cons {r : RV} {u : V} {rs : List RV} {us : List V} : RR g s Zt H' σ' env' r u → RRs g s Zt H' σ' env' rs us → (∀ x, r = .own x → ∀ y w, (y, w) ∈ rs.zip us → (∃ z, y = .own z) → w ≠ u) → RRs g s Zt H' σ' env' (r :: rs) (u :: us)
theorem RRs.step {g : Gm} {xc : Xc} {s : At} {pa : List (Option Addr)} {Z1 Z2 : Addr → Prop} {H1 H2 : Hp} {σ0 : St} {e1 e2 : Env} (q1 : RE g xc pa Z1 H1 σ0 e1) (q : PostE g xc pa Z1 H1 σ0 e1 Z2 H2 e2) : ∀ {rs : List RV} {us : List V}, RRs g s Z1 H1 σ0 e1 rs us → RRs g s Z2 H2 σ0 e2 rs us
  | _, _, .nil => .nil
  | _, _, .cons h t n => .cons (h.step q1 q) (RRs.step q1 q t) n

/-- an end: res, reached from s -/
def End {α β : Type} (g : Gm) (xc : Xc) (s : At) (Rel : (Addr → Prop) → Hp → Env → α → β → Prop) (res : Rs α) (W : WX) (Q : β → Hp → Prop) : Prop :=
  match res with
  | .ok a e1 => ∀ b Z1 H1, PostE g xc s.pa s.Zs s.H s.σ s.env Z1 H1 e1 → Rel Z1 H1 e1 a b → Q b H1
  | .ex c fs e1 => ∀ C d fv Z1 H1, PostE g xc s.pa s.Zs s.H s.σ s.env Z1 H1 e1 → g.mg c = some (.ref C) → H1 d = some (.xd fv) → RvF g Z1 H1 fs fv → W (.ref C) (some d) s.σ H1
  | .no => False
abbrev relE (g : Gm) (s : At) : (Addr → Prop) → Hp → Env → RV → V → Prop := fun Z1 H1 e1 r u => RR g s Z1 H1 s.σ e1 r u
abbrev relA (g : Gm) (s : At) : (Addr → Prop) → Hp → Env → List RV → List V → Prop := fun Z1 H1 e1 r u => RRs g s Z1 H1 s.σ e1 r u
abbrev relT : (Addr → Prop) → Hp → Env → Bool → Bool → Prop := fun _ _ _ k b => k = b
def rd (g : Gm) (xc : Xc) (W : WX) (f : E) : TE := fun σ H Q => ∃ pa Zs env, RE g xc pa Zs H σ env ∧ End g xc ⟨pa, Zs, H, σ, env⟩ (relE g ⟨pa, Zs, H, σ, env⟩) (f env) W Q
def rdT (g : Gm) (xc : Xc) (W : WX) (f : T) : TT := fun σ H Q => ∃ pa Zs env, RE g xc pa Zs H σ env ∧ End g xc ⟨pa, Zs, H, σ, env⟩ relT (f env) W Q
def rdA (g : Gm) (xc : Xc) (W : WX) (f : As) : TA := fun σ H Q => ∃ pa Zs env, RE g xc pa Zs H σ env ∧ End g xc ⟨pa, Zs, H, σ, env⟩ (relA g ⟨pa, Zs, H, σ, env⟩) (f env) W Q
section
variable {α β γ δ : Type} {g : Gm} {xc : Xc} {s : At} {W : WX}
/-- the first part of what goes on -/
theorem End.cont {R1 : (Addr → Prop) → Hp → Env → α → β → Prop} {R2 : (Addr → Prop) → Hp → Env → γ → δ → Prop} {x : Rs α} {f : α → Env → Rs γ} {Q : δ → Hp → Prop} {R : β → Hp → Prop} (h : End g xc s R2 (x.bind f) W Q)
    (k : ∀ a e1 b Z1 H1, x = .ok a e1 → PostE g xc s.pa s.Zs s.H s.σ s.env Z1 H1 e1 → R1 Z1 H1 e1 a b → End g xc s R2 (f a e1) W Q → R b H1) : End g xc s R1 x W R := by
  cases x with
  | ok a e1 => exact fun b Z1 H1 p r => k a e1 b Z1 H1 rfl p r h
  | ex c fs e1 => exact h
  | no => exact h
/-- seen from where one stands now -/
theorem End.shift {R1 R2 : (Addr → Prop) → Hp → Env → α → β → Prop} {x : Rs α} {Q : β → Hp → Prop} {Z1 : Addr → Prop} {H1 : Hp} {e1 : Env} (h : End g xc s R1 x W Q) (p : PostE g xc s.pa s.Zs s.H s.σ s.env Z1 H1 e1)
    (k : ∀ a b Z2 H2 e2, PostE g xc s.pa Z1 H1 s.σ e1 Z2 H2 e2 → R2 Z2 H2 e2 a b → R1 Z2 H2 e2 a b) : End g xc ⟨s.pa, Z1, H1, s.σ, e1⟩ R2 x W Q := by
  cases x with
  | ok a e2 => exact fun b Z2 H2 q r => h b Z2 H2 (p.trans q) (k a b Z2 H2 e2 q r)
  | ex c fs e2 => exact fun C d fv Z2 H2 q => h C d fv Z2 H2 (p.trans q)
  | no => exact h
theorem RR.back {Z1 Z2 : Addr → Prop} {H1 H2 : Hp} {e1 e2 : Env} (p : PostE g xc s.pa s.Zs s.H s.σ s.env Z1 H1 e1) {r : RV} {u : V} (h : RR g ⟨s.pa, Z1, H1, s.σ, e1⟩ Z2 H2 s.σ e2 r u) : RR g s Z2 H2 s.σ e2 r u := by
  cases r with
  | v x => exact h
  | own x =>
    obtain ⟨a, e, nz, hl, no, fr⟩ := h
    refine ⟨a, e, nz, hl, no, ?_⟩
    rcases fr with fr | fr
    · exact p.ow a fr
    · exact p.ext.free fr
  | bor i => exact h
theorem RRs.back {Z1 Z2 : Addr → Prop} {H1 H2 : Hp} {e1 e2 : Env} (p : PostE g xc s.pa s.Zs s.H s.σ s.env Z1 H1 e1) : ∀ {r : List RV} {u : List V}, RRs g ⟨s.pa, Z1, H1, s.σ, e1⟩ Z2 H2 s.σ e2 r u → RRs g s Z2 H2 s.σ e2 r u
  | _, _, .nil => .nil
  | _, _, .cons h t n => .cons (h.back p) (RRs.back p t) n
theorem End.shiftE {x : Rs RV} {Q : VK} {Z1 : Addr → Prop} {H1 : Hp} {e1 : Env} (h : End g xc s (relE g s) x W Q) (p : PostE g xc s.pa s.Zs s.H s.σ s.env Z1 H1 e1) :
    End g xc ⟨s.pa, Z1, H1, s.σ, e1⟩ (relE g ⟨s.pa, Z1, H1, s.σ, e1⟩) x W Q := h.shift p fun _ _ _ _ _ _ r => r.back p
theorem End.shiftA {x : Rs (List RV)} {Q : List V → Hp → Prop} {Z1 : Addr → Prop} {H1 : Hp} {e1 : Env} (h : End g xc s (relA g s) x W Q) (p : PostE g xc s.pa s.Zs s.H s.σ s.env Z1 H1 e1) :
    End g xc ⟨s.pa, Z1, H1, s.σ, e1⟩ (relA g ⟨s.pa, Z1, H1, s.σ, e1⟩) x W Q := h.shift p fun _ _ _ _ _ _ r => r.back p
theorem End.shiftT {x : Rs Bool} {Q : Bool → Hp → Prop} {Z1 : Addr → Prop} {H1 : Hp} {e1 : Env} (h : End g xc s relT x W Q) (p : PostE g xc s.pa s.Zs s.H s.σ s.env Z1 H1 e1) :
    End g xc ⟨s.pa, Z1, H1, s.σ, e1⟩ relT x W Q := h.shift p fun _ _ _ _ _ _ r => r
end

/-! ### reading -/
/-- by content, to be read at once -/
def RdV (g : Gm) (Zs : Addr → Prop) (H : Hp) (x : Val) (u : V) : Prop := RvV g Zs H x u ∨ ∃ a, u = .ref a ∧ Hld g Zs H x a
theorem peek_rd {g : Gm} {xc : Xc} {s : At} {pa : List (Option Addr)} {Z1 : Addr → Prop} {H1 : Hp} {σ : St} {e1 : Env} {r : RV} {u : V} {x : Val} (re : RE g xc pa Z1 H1 σ e1) (h : RR g s Z1 H1 σ e1 r u) (hp : peek e1 r = some x) : RdV g Z1 H1 x u := by
  cases r with
  | v y => cases hp; exact .inl h
  | own y =>
    cases hp
    obtain ⟨a, e, nz, hl, _⟩ := h
    exact .inr ⟨a, e, hl⟩
  | bor i =>
    obtain ⟨a, e, h1, h2⟩ := h
    have q := re.sl i
    rw [h1] at q
    rw [peek_bor] at hp
    cases hs : eget e1 i with
    | emp => rw [hs] at hp; cases hp
    | exn c fs => rw [hs] at hp; cases hp
    | v y =>
      rw [hs] at hp q; cases hp
      obtain ⟨w, hw, rv⟩ := q
      cases hw
      exact .inl (by rw [e]; exact rv)
    | own p y =>
      rw [hs] at hp q; cases hp
      obtain ⟨w, hw, nz, hl⟩ := q
      cases hw
      exact .inr ⟨a, e, hl⟩
    | pf y =>
      rw [hs] at hp q; cases hp
      obtain ⟨w, hw, _, rv⟩ := q
      cases hw
      exact .inl (by rw [e]; exact rv)
inductive RdL (g : Gm) (Zs : Addr → Prop) (H : Hp) : List Val → List V → Prop
  | nil : RdL g Zs H [] []
  | cons {x : Val} {u : V} {xs : List Val} {us : List V} : RdV g Zs H x u → RdL g Zs H xs us → RdL g Zs H (x :: xs) (u :: us)
theorem peeks_rd {g : Gm} {xc : Xc} {s : At} {pa : List (Option Addr)} {Z1 : Addr → Prop} {H1 : Hp} {σ : St} {e1 : Env} (re : RE g xc pa Z1 H1 σ e1) : ∀ {rs : List RV} {us : List V} {xs : List Val}, RRs g s Z1 H1 σ e1 rs us → peeks e1 rs = some xs → RdL g Z1 H1 xs us
  | [], _, _, .nil, h => by cases h; exact .nil
  | r :: rs, _, xs, .cons h t _, hp => by
    rw [peeks_cons] at hp
    cases h1 : peek e1 r with
    | none => rw [h1] at hp; cases hp
    | some x =>
      cases h2 : peeks e1 rs with
      | none => rw [h1, h2] at hp; cases hp
      | some ys =>
        rw [h1, h2] at hp; cases hp
        exact .cons (peek_rd re h h1) (peeks_rd re t h2)
/-- an operator's answer: a value, a new object -/
def Ans (g : Gm) (Zs : Addr → Prop) (H : Hp) (r : RV) (Q : VK) : Prop :=
  match r with
  | .v x => ∀ u Z1 H1, Ext (fun _ => False) Zs H Z1 H1 → RvV g Z1 H1 x u → Q u H1
  | .own x => ∀ a Z1 H1, Ext (fun _ => False) Zs H Z1 H1 → H a = none → ¬ Z1 a → Hld g Z1 H1 x a → Q (.ref a) H1
  | .bor _ => False
theorem RE.grow {g : Gm} {xc : Xc} {pa : List (Option Addr)} {Z0 Z1 : Addr → Prop} {H0 H1 : Hp} {σ : St} {env : Env} (re : RE g xc pa Z0 H0 σ env) (e : Ext (fun _ => False) Z0 H0 Z1 H1) : RE g xc pa Z1 H1 σ env := by
  have d : OwOk (fun _ => False) Z0 H0 := fun _ z => z.elim
  refine ⟨re.len, fun i => ?_, re.inj, re.pin, e.zd⟩
  have q := re.sl i
  cases hs : eget env i with
  | emp => trivial
  | v x =>
    rw [hs] at q
    obtain ⟨u, h, r⟩ := q
    exact ⟨u, h, r.ext e d⟩
  | own p x =>
    rw [hs] at q
    obtain ⟨a, h, nz, r⟩ := q
    refine ⟨a, h, fun z => ?_, r.ext e d (fun z => z)⟩
    obtain ⟨o, ho, _⟩ := r.wr
    rcases e.zn a z with z | z | z
    · exact nz z
    · exact z
    · rw [ho] at z; cases z
  | pf x =>
    rw [hs] at q
    obtain ⟨a, h, z, r⟩ := q
    exact ⟨a, h, e.zz a z, r.ext e d⟩
  | exn c fs =>
    rw [hs] at q
    obtain ⟨a, dd, C, fv, h1, h2, h3, h4, r⟩ := q
    exact ⟨a, dd, C, fv, h1, h2, h3, e.hh _ _ h4 (fun z => z), r.ext e d⟩
theorem Ext.any {Ow Z0 Z1 : Addr → Prop} {H0 H1 : Hp} (e : Ext (fun _ => False) Z0 H0 Z1 H1) : Ext Ow Z0 H0 Z1 H1 := ⟨e.zz, fun a h => (e.zn a h).elim .inl fun z => z.elim (fun z => z.elim) fun z => .inr (.inr z), fun a o h _ => e.hh a o h (fun z => z), e.zd⟩
theorem RE.growP {g : Gm} {xc : Xc} {pa : List (Option Addr)} {Z0 Z1 : Addr → Prop} {H0 H1 : Hp} {σ : St} {env : Env} (re : RE g xc pa Z0 H0 σ env) (e : Ext (fun _ => False) Z0 H0 Z1 H1) : PostE g xc pa Z0 H0 σ env Z1 H1 env :=
  ⟨⟨e.any, re.grow e, fun _ h => .inl h⟩, fun _ h => h⟩
/-- from an operator's answer to an expression's end -/
theorem Ans.of {g : Gm} {xc : Xc} {s : At} {W : WX} {Q : VK} {Z1 : Addr → Prop} {H1 : Hp} {e1 : Env} {r : RV} (h : End g xc s (relE g s) (.ok r e1) W Q) (p : PostE g xc s.pa s.Zs s.H s.σ s.env Z1 H1 e1) (hr : ∀ i, r ≠ .bor i) : Ans g Z1 H1 r Q := by
  cases r with
  | bor i => exact absurd rfl (hr i)
  | v x => exact fun u Z2 H2 e rv => h u Z2 H2 (p.trans (p.re.growP e)) rv
  | own x =>
    refine fun a Z2 H2 e fr nz hl => h (.ref a) Z2 H2 (p.trans (p.re.growP e)) ⟨a, rfl, nz, hl, fun w => ?_, p.ext.free fr⟩
    obtain ⟨_, o, ho, _⟩ := p.re.owOk a w
    rw [fr] at ho; cases ho
/-- what a rule of the layer hands on: a value that needs no heap -/
theorem Ans.val {g : Gm} {Zs : Addr → Prop} {H : Hp} {x : Val} {u : V} {Q : VK} (h : Ans g Zs H (.v x) Q) (z : Zd Zs H) (r : RvV g Zs H x u) : Q u H := h u Zs H (Ext.refl z) r
theorem Ext.new {Zs : Addr → Prop} {H : Hp} {p : Addr} {o : HO} (z : Zd Zs H) (hp : H p = none) : Ext (fun _ => False) Zs H Zs (upd H p o) := by
  refine ⟨fun _ h => h, fun _ h => .inl h, fun a u h _ => by rw [upd_ne (ne_of_none h hp)]; exact h, fun a h => ?_⟩
  obtain ⟨u, hu⟩ := z a h
  exact ⟨u, by rw [upd_ne (ne_of_none hu hp)]; exact hu⟩
theorem Ext.newZ {Zs : Addr → Prop} {H : Hp} {p : Addr} {o : HO} (z : Zd Zs H) (hp : H p = none) : Ext (fun _ => False) Zs H (fun a => Zs a ∨ a = p) (upd H p o) := by
  refine ⟨fun _ h => .inl h, fun a h => h.elim .inl fun z => .inr (.inr (by rw [z]; exact hp)), fun a u h _ => by rw [upd_ne (ne_of_none h hp)]; exact h, fun a h => ?_⟩
  rcases h with h | h
  · obtain ⟨u, hu⟩ := z a h
    exact ⟨u, by rw [upd_ne (ne_of_none hu hp)]; exact hu⟩
  · exact ⟨o, by rw [h, upd_same]⟩
theorem Zd.no {Zs : Addr → Prop} {H : Hp} {p : Addr} (z : Zd Zs H) (hp : H p = none) : ¬ Zs p := fun h => by
  obtain ⟨u, hu⟩ := z p h
  rw [hp] at hu; cases hu
theorem Ans.lst {g : Gm} {Zs : Addr → Prop} {H : Hp} {xs : List Val} {us : List V} {Q : VK} {p : Addr} (h : Ans g Zs H (.own (.lst xs)) Q) (z : Zd Zs H) (r : RvL g Zs H xs us) (hp : H p = none) : Q (.ref p) (upd H p (.lst us)) :=
  h p Zs _ (Ext.new z hp) hp (Zd.no z hp) ⟨us, upd_same, r.ext (Ext.new z hp) (fun _ z => z.elim)⟩
theorem Ans.tup {g : Gm} {Zs : Addr → Prop} {H : Hp} {xs : List Val} {us : List V} {Q : VK} {p : Addr} (h : Ans g Zs H (.v (.tup xs)) Q) (z : Zd Zs H) (r : RvL g Zs H xs us) (hp : H p = none) : Q (.ref p) (upd H p (.tup us)) :=
  h _ Zs _ (Ext.new z hp) (.tup (SqT.of upd_same) (r.ext (Ext.new z hp) (fun _ z => z.elim)))
end Z
/-! Z2: expressions: for each construct the functional reading is kept by the layer's own rule. -/
namespace Z
open PySem L2 PySem.Spec
abbrev gX (X : Cx) : Gm := ⟨X.K, X.mg⟩
abbrev SE (X : Cx) (xc : Xc) (W : WX) (e : Expr) (f : E) : Prop := PE X e (rd (gX X) xc W f)
abbrev ST (X : Cx) (xc : Xc) (W : WX) (e : Expr) (f : T) : Prop := PT X e (rdT (gX X) xc W f)
abbrev SA (X : Cx) (xc : Xc) (W : WX) (es : List Expr) (f : As) : Prop := PA X es (rdA (gX X) xc W f)
theorem PE_imp {X : Cx} {e : Expr} {t t' : TE} (h : PE X e t) (k : ∀ σ H Q, t' σ H Q → t σ H Q) : PE X e t' := ⟨fun pins s σ H Q I q => h.run pins s σ H Q I (k σ H Q q)⟩
theorem PT_imp {X : Cx} {e : Expr} {t t' : TT} (h : PT X e t) (k : ∀ σ H Q, t' σ H Q → t σ H Q) : PT X e t' := ⟨fun pins s σ H Q I q => h.run pins s σ H Q I (k σ H Q q)⟩
theorem PW_imp {X : Cx} {e : Expr} {t t' : TT} (h : PW X e t) (k : ∀ σ H Q, t' σ H Q → t σ H Q) : PW X e t' := ⟨fun whole pins s σ H Q I q => h.run whole pins s σ H Q I (k σ H Q q)⟩
theorem PA_imp {X : Cx} {e : List Expr} {t t' : TA} (h : PA X e t) (k : ∀ σ H Q, t' σ H Q → t σ H Q) : PA X e t' := ⟨fun pos pins s σ H Q I q => h.run pos pins s σ H Q I (k σ H Q q)⟩
section
variable {X : Cx} {xc : Xc} {W : WX} {pos : Pos}
theorem se_var (i : Nat) {x : Str} (hN : X.N[i]? = some x := by rfl) (hv : Vis X.env.scope x := by first | exact Or.inl rfl | exact Or.inr (Or.inl rfl) | exact Or.inr (Or.inr rfl)) (hd : (x == ("__debug__" : Str)) = false := by decide)
    (hcd : (x == ("__classdict__" : Str)) = false := by decide) : SE X xc W (.Name x pos) (eV i) := by
  refine PE_imp (pe_var hN hv hd hcd) fun σ H Q h => ?_
  obtain ⟨pa, Zs, env, re, h⟩ := h
  have q := re.sl i
  unfold eV at h
  cases hs : eget env i with
  | emp => rw [hs] at h; exact h.elim
  | exn c fs => rw [hs] at h; exact h.elim
  | v x =>
    rw [hs] at h q
    obtain ⟨u, hu, r⟩ := q
    exact ⟨u, hu, h u Zs H (PostE.refl re) r⟩
  | own p x =>
    rw [hs] at h q
    obtain ⟨a, hu, nz, r⟩ := q
    exact ⟨_, hu, h _ Zs H (PostE.refl re) ⟨a, rfl, hu, by rw [hs]; trivial⟩⟩
  | pf x =>
    rw [hs] at h q
    obtain ⟨a, hu, _, r⟩ := q
    exact ⟨_, hu, h _ Zs H (PostE.refl re) ⟨a, rfl, hu, by rw [hs]; trivial⟩⟩
theorem se_c {x : Val} {v : V} {e : Expr} (h : PE X e (tC v)) (r : ∀ g Zs H, RvV g Zs H x v) : SE X xc W e (eC x) :=
  PE_imp h fun σ H Q ⟨pa, Zs, env, re, h⟩ => h v Zs H (PostE.refl re) (r _ _ _)
theorem se_int {i j pos} : SE X xc W (.Constant (.int i) j pos) (eC (.int i)) := se_c pe_int fun _ _ _ => .int i
theorem se_bl {b j pos} : SE X xc W (.Constant (.bool b) j pos) (eC (.bl b)) := se_c pe_bl fun _ _ _ => .bl b
theorem se_non {j pos} : SE X xc W (.Constant .none j pos) (eC .non) := se_c pe_non fun _ _ _ => .non
theorem se_str {x j pos} : SE X xc W (.Constant (.str x) j pos) (eC (.str x)) := se_c pe_str fun _ _ _ => .str x

/-- an operator by values -/
structure OpS (X : Cx) (F : Value → Value → Sem Value) (f : Val → Val → Option RV) : Prop where
  ex : ∃ r, OpR X F r ∧ ∀ (Zs : Addr → Prop) (H : Hp) (x y : Val) (z : RV) (u w : V) (Q : VK), Zd Zs H → f x y = some z → RdV (gX X) Zs H x u → RdV (gX X) Zs H y w → Ans (gX X) Zs H z Q → r u w H Q
  nb : ∀ x y i, f x y ≠ some (.bor i)
theorem op_end {f : Val → Val → Option RV} {r : R2} (hr : ∀ (Zs : Addr → Prop) (H : Hp) (x y : Val) (z : RV) (u w : V) (Q : VK), Zd Zs H → f x y = some z → RdV (gX X) Zs H x u → RdV (gX X) Zs H y w → Ans (gX X) Zs H z Q → r u w H Q) (nb : ∀ x y i, f x y ≠ some (.bor i))
    {a b : E} {σ : St} {H : Hp} {Q : VK} (h : rd (gX X) xc W (eOp f a b) σ H Q) : tOp r (rd (gX X) xc W a) (rd (gX X) xc W b) σ H Q := by
  obtain ⟨pa, Zs, env, re, h⟩ := h
  refine ⟨pa, Zs, env, re, h.cont fun r1 e1 u Z1 H1 _ p1 q1 h => ?_⟩
  refine ⟨pa, Z1, e1, p1.re, (h.shiftE p1).cont fun r2 e2 w Z2 H2 _ p2 q2 h => ?_⟩
  have q1' := q1.step p1.re p2
  cases h1 : peek e2 r1 with
  | none => rw [h1] at h; exact h.elim
  | some x =>
    cases h2 : peek e2 r2 with
    | none => rw [h1, h2] at h; exact h.elim
    | some y =>
      rw [h1, h2] at h
      cases h3 : f x y with
      | none => simp only [opt_some, Rs.bind_ok, h3, opt_none] at h; exact h.elim
      | some z =>
        simp only [opt_some, Rs.bind_ok, h3] at h
        exact hr Z2 H2 x y z u w Q p2.re.zd h3 (peek_rd p2.re q1' h1) (peek_rd p2.re q2 h2) (Ans.of h p2 fun i e => nb x y i (by rw [h3, e]))
theorem se_op {op : Operator} {f : Val → Val → Option RV} {a b : Expr} {fa fb : E} (ho : OpS X (binaryOp op) f) (ha : SE X xc W a fa) (hb : SE X xc W b fb) : SE X xc W (.BinOp a op b pos) (eOp f fa fb) := by
  obtain ⟨r, h1, h2⟩ := ho.ex
  exact PE_imp (pe_op h1 ha hb) fun σ H Q h => op_end h2 ho.nb h
theorem se_cmp {op : CmpOp} {f : Val → Val → Option RV} {a b : Expr} {fa fb : E} (ho : OpS X (compareOp op) f) (ha : SE X xc W a fa) (hb : SE X xc W b fb) (hm : behindInMarks op b = false := by first | exact nomark _ | rfl) : SE X xc W (.Compare a [op] [b] pos) (eOp f fa fb) := by
  obtain ⟨r, h1, h2⟩ := ho.ex
  exact PE_imp (pe_cmpR h1 ha hb hm) fun σ H Q h => op_end h2 ho.nb h
structure UnS (X : Cx) (F : Value → Sem Value) (f : Val → Option RV) : Prop where
  ex : ∃ r, UnR X F r ∧ ∀ (Zs : Addr → Prop) (H : Hp) (x : Val) (z : RV) (u : V) (Q : VK), Zd Zs H → f x = some z → RdV (gX X) Zs H x u → Ans (gX X) Zs H z Q → r u H Q
  nb : ∀ x i, f x ≠ some (.bor i)
theorem un_end {f : Val → Option RV} {r : V → Hp → VK → Prop} (hr : ∀ (Zs : Addr → Prop) (H : Hp) (x : Val) (z : RV) (u : V) (Q : VK), Zd Zs H → f x = some z → RdV (gX X) Zs H x u → Ans (gX X) Zs H z Q → r u H Q) (nb : ∀ x i, f x ≠ some (.bor i))
    {a : E} {σ : St} {H : Hp} {Q : VK} (h : rd (gX X) xc W (eUn f a) σ H Q) : rd (gX X) xc W a σ H fun u H1 => r u H1 Q := by
  obtain ⟨pa, Zs, env, re, h⟩ := h
  refine ⟨pa, Zs, env, re, h.cont fun r1 e1 u Z1 H1 _ p1 q1 h => ?_⟩
  cases h1 : peek e1 r1 with
  | none => rw [h1] at h; exact h.elim
  | some x =>
    rw [h1] at h
    cases h3 : f x with
    | none => simp only [opt_some, Rs.bind_ok, h3, opt_none] at h; exact h.elim
    | some z =>
      simp only [opt_some, Rs.bind_ok, h3] at h
      exact hr Z1 H1 x z u Q p1.re.zd h3 (peek_rd p1.re q1 h1) (Ans.of h p1 fun i e => nb x i (by rw [h3, e]))
theorem se_un {op : UnaryOp} {f : Val → Option RV} {a : Expr} {fa : E} (ho : UnS X (unaryOp op) f) (ha : SE X xc W a fa) : SE X xc W (.UnaryOp op a pos) (eUn f fa) := by
  obtain ⟨r, h1, h2⟩ := ho.ex
  exact PE_imp (pe_un h1 ha) fun σ H Q h => un_end h2 ho.nb h

/-! ### tests -/
theorem RdV.tru {K : PySem.W.Frag} {mg : Str → Option Value} {Zs : Addr → Prop} {H : Hp} {x : Val} {u : V} {k : Bool} (h : RdV ⟨K, mg⟩ Zs H x u) (ht : truth x = some k) : TruV K u H k := by
  have len : ∀ {xs : List Val} {us : List V}, RvL ⟨K, mg⟩ Zs H xs us → us.isEmpty = xs.isEmpty := fun r => by cases r <;> rfl
  rcases h with h | ⟨a, rfl, h⟩
  · cases h with
    | non => cases ht; exact rfl
    | bl b => cases ht; exact rfl
    | int i => cases ht; exact rfl
    | str s =>
      have ht : (if s.length ≤ sizeMax then some ((s.length : Int) != 0) else none) = some k := ht
      by_cases c : s.length ≤ sizeMax
      · rw [if_pos c] at ht; cases ht
        exact ⟨by rw [sizeLine_eq]; exact c, rfl⟩
      · rw [if_neg c] at ht; cases ht
    | tup h r => cases ht; exact .inr (.inl ⟨_, h, by rw [len r]⟩)
    | lst h r => cases ht; exact .inl ⟨_, h.sq, by rw [len r]⟩
    | dic _ _ _ => cases ht
    | obj _ _ _ _ => cases ht
    | scr _ => cases ht
  · cases x with
    | lst xs =>
      obtain ⟨us, h, r⟩ := h
      cases ht
      exact .inl ⟨_, SqL.of h, by rw [len r]⟩
    | dic kvs => cases ht
    | obj c fs => cases ht
    | _ => exact h.elim
theorem st_e {a : Expr} {fa : E} (ha : SE X xc W a fa) (he : ∀ whole, isTrue a X.env whole = (do let v ← whole; standAt a.pos; holding [v] (truthy v)) := by intro _; rfl) : ST X xc W a (tE fa) := by
  refine PT_imp (pt_truth ha he) fun σ H Q h => ?_
  obtain ⟨pa, Zs, env, re, h⟩ := h
  refine ⟨pa, Zs, env, re, h.cont fun r1 e1 u Z1 H1 _ p1 q1 h => ?_⟩
  cases h1 : peek e1 r1 with
  | none => rw [h1] at h; exact h.elim
  | some x =>
    rw [h1] at h
    cases h3 : truth x with
    | none => simp only [opt_some, Rs.bind_ok, h3, opt_none] at h; exact h.elim
    | some k =>
      simp only [opt_some, Rs.bind_ok, h3] at h
      exact ⟨k, RdV.tru (peek_rd p1.re q1 h1) h3, h k Z1 H1 p1 rfl⟩
/-- a comparison as a test -/
theorem st_cmp {op : CmpOp} {f : Val → Val → Option RV} {a b : Expr} {fa fb : E} (ho : OpS X (compareOp op) f) (ha : SE X xc W a fa) (hb : SE X xc W b fb) (hm : behindInMarks op b = false := by first | exact nomark _ | rfl)
    (hbl : ∀ x y z, f x y = some z → ∃ k, z = .v (.bl k) := by assumption) : ST X xc W (.Compare a [op] [b] pos) (tE (eOp f fa fb)) := by
  obtain ⟨r, h1, h2⟩ := ho.ex
  refine PT_imp (pt_cmpR h1 ha hb hm) fun σ H Q h => ?_
  refine op_end h2 ho.nb ?_
  obtain ⟨pa, Zs, env, re, h⟩ := h
  refine ⟨pa, Zs, env, re, ?_⟩
  have h' := h
  unfold tE at h
  cases hz : eOp f fa fb env with
  | no => rw [hz] at h; exact h.elim
  | ex c fs e1 => rw [hz] at h; exact h
  | ok z e1 =>
    rw [hz] at h
    obtain ⟨k, rfl⟩ : ∃ k, z = .v (.bl k) := by
      unfold eOp at hz
      cases h1 : fa env with
      | no => rw [h1] at hz; cases hz
      | ex c fs e1 => rw [h1] at hz; cases hz
      | ok r1 e1 =>
        rw [h1, Rs.bind_ok] at hz
        cases h2 : fb e1 with
        | no => rw [h2] at hz; cases hz
        | ex c fs e1 => rw [h2] at hz; cases hz
        | ok r2 e2 =>
          rw [h2, Rs.bind_ok] at hz
          cases h3 : peek e2 r1 with
          | none => rw [h3] at hz; cases hz
          | some x =>
            cases h4 : peek e2 r2 with
            | none => rw [h3, h4] at hz; cases hz
            | some y =>
              rw [h3, h4] at hz
              simp only [opt_some, Rs.bind_ok] at hz
              cases h5 : f x y with
              | none => rw [h5] at hz; cases hz
              | some z' =>
                rw [h5] at hz
                cases hz
                exact hbl x y _ h5
    intro u Z1 H1 p1 q1
    cases q1 with
    | bl b => exact ⟨k, rfl, h k Z1 H1 p1 rfl⟩
theorem st_not {a : Expr} {fa : T} (ha : ST X xc W a fa) : ST X xc W (.UnaryOp .Not a pos) (tNot fa) := by
  refine PT_imp (pt_not ha) fun σ H Q h => ?_
  obtain ⟨pa, Zs, env, re, h⟩ := h
  exact ⟨pa, Zs, env, re, h.cont fun k e1 u Z1 H1 _ p1 q1 h => by cases q1; exact h _ Z1 H1 p1 rfl⟩
abbrev SW (X : Cx) (xc : Xc) (W : WX) (e : Expr) (f : T) : Prop := PW X e (rdT (gX X) xc W f)
theorem SW.st {e : Expr} {f : T} (h : SW X xc W e f) : ST X xc W e f := PW.pt h
theorem sw_and1 {a : Expr} {fa : T} (ha : ST X xc W a fa) : SW X xc W (.BoolOp .And [a] pos) fa := pw_and1 ha
theorem sw_or1 {a : Expr} {fa : T} (ha : ST X xc W a fa) : SW X xc W (.BoolOp .Or [a] pos) fa := pw_or1 ha
theorem sw_and {a b : Expr} {rest : List Expr} {fa fb : T} (ha : ST X xc W a fa) (hb : SW X xc W (.BoolOp .And (b :: rest) pos) fb) : SW X xc W (.BoolOp .And (a :: b :: rest) pos) (tAnd fa fb) := by
  refine PW_imp (pw_and ha hb) fun σ H Q h => ?_
  obtain ⟨pa, Zs, env, re, h⟩ := h
  refine ⟨pa, Zs, env, re, h.cont fun k e1 u Z1 H1 _ p1 q1 h => ?_⟩
  cases q1
  cases k with
  | true => exact ⟨pa, Z1, e1, p1.re, h.shiftT p1⟩
  | false => exact h false Z1 H1 p1 rfl
theorem sw_or {a b : Expr} {rest : List Expr} {fa fb : T} (ha : ST X xc W a fa) (hb : SW X xc W (.BoolOp .Or (b :: rest) pos) fb) : SW X xc W (.BoolOp .Or (a :: b :: rest) pos) (tOr fa fb) := by
  refine PW_imp (pw_or ha hb) fun σ H Q h => ?_
  obtain ⟨pa, Zs, env, re, h⟩ := h
  refine ⟨pa, Zs, env, re, h.cont fun k e1 u Z1 H1 _ p1 q1 h => ?_⟩
  cases q1
  cases k with
  | true => exact h true Z1 H1 p1 rfl
  | false => exact ⟨pa, Z1, e1, p1.re, h.shiftT p1⟩

/-! ### and, or, not, if as values -/
theorem se_one {op} {a : Expr} {fa : E} (ha : SE X xc W a fa) : SE X xc W (.BoolOp op [a] pos) fa := pe_one ha
theorem se_and {a b : Expr} {rest : List Expr} {fa fb : E} (ha : SE X xc W a fa) (hb : SE X xc W (.BoolOp .And (b :: rest) pos) fb) : SE X xc W (.BoolOp .And (a :: b :: rest) pos) (eAnd fa fb) := by
  refine PE_imp (pe_and ha hb) fun σ H Q h => ?_
  obtain ⟨pa, Zs, env, re, h⟩ := h
  refine ⟨pa, Zs, env, re, h.cont fun r e1 u Z1 H1 _ p1 q1 h => ?_⟩
  cases r with
  | v x =>
    cases q1 with
    | bl k =>
      refine ⟨k, rfl, ?_⟩
      cases k with
      | true => exact ⟨pa, Z1, e1, p1.re, h.shiftE p1⟩
      | false => exact h _ Z1 H1 p1 (.bl false)
    | _ => exact h.elim
  | own x => exact h.elim
  | bor i => exact h.elim
theorem se_or {a b : Expr} {rest : List Expr} {fa fb : E} (ha : SE X xc W a fa) (hb : SE X xc W (.BoolOp .Or (b :: rest) pos) fb) : SE X xc W (.BoolOp .Or (a :: b :: rest) pos) (eOr fa fb) := by
  refine PE_imp (pe_or ha hb) fun σ H Q h => ?_
  obtain ⟨pa, Zs, env, re, h⟩ := h
  refine ⟨pa, Zs, env, re, h.cont fun r e1 u Z1 H1 _ p1 q1 h => ?_⟩
  cases r with
  | v x =>
    cases q1 with
    | bl k =>
      refine ⟨k, rfl, ?_⟩
      cases k with
      | true => exact h _ Z1 H1 p1 (.bl true)
      | false => exact ⟨pa, Z1, e1, p1.re, h.shiftE p1⟩
    | _ => exact h.elim
  | own x => exact h.elim
  | bor i => exact h.elim
theorem se_not {a : Expr} {fa : E} (ha : SE X xc W a fa) : SE X xc W (.UnaryOp .Not a pos) (eNot fa) := by
  refine PE_imp (pe_not ha) fun σ H Q h => ?_
  obtain ⟨pa, Zs, env, re, h⟩ := h
  refine ⟨pa, Zs, env, re, h.cont fun r e1 u Z1 H1 _ p1 q1 h => ?_⟩
  cases r with
  | v x =>
    cases q1 with
    | bl k => exact ⟨k, rfl, h _ Z1 H1 p1 (.bl _)⟩
    | _ => exact h.elim
  | own x => exact h.elim
  | bor i => exact h.elim
theorem se_if {c a b : Expr} {fc : T} {fa fb : E} (hc : ST X xc W c fc) (ha : SE X xc W a fa) (hb : SE X xc W b fb) : SE X xc W (.IfExp c a b pos) (eIf fc fa fb) := by
  refine PE_imp (pe_ifExp hc ha hb) fun σ H Q h => ?_
  obtain ⟨pa, Zs, env, re, h⟩ := h
  refine ⟨pa, Zs, env, re, h.cont fun k e1 u Z1 H1 _ p1 q1 h => ?_⟩
  cases q1
  cases k with
  | true => exact ⟨pa, Z1, e1, p1.re, h.shiftE p1⟩
  | false => exact ⟨pa, Z1, e1, p1.re, h.shiftE p1⟩

/-! ### a < b < c -/
theorem se_chain {op op' : CmpOp} {f f' : Val → Val → Option RV} {a b c : Expr} {fa fb fc : E} (ho : OpS X (compareOp op) f) (ho' : OpS X (compareOp op') f') (hbl : ∀ x y z, f x y = some z → ∃ k, z = .v (.bl k))
    (hp : ∀ (r r' : R2), OpR X (compareOp op) r → OpR X (compareOp op') r' → PE X (.Compare a [op, op'] [b, c] pos) (tChain r r' (rd (gX X) xc W fa) (rd (gX X) xc W fb) (rd (gX X) xc W fc))) : SE X xc W (.Compare a [op, op'] [b, c] pos) (eChain f f' fa fb fc) := by
  obtain ⟨r, h1, h2⟩ := ho.ex
  obtain ⟨r', h1', h2'⟩ := ho'.ex
  refine PE_imp (hp r r' h1 h1') fun σ H Q h => ?_
  obtain ⟨pa, Zs, env, re, h⟩ := h
  refine ⟨pa, Zs, env, re, h.cont fun r1 e1 u Z1 H1 _ p1 q1 h => ?_⟩
  refine ⟨pa, Z1, e1, p1.re, (h.shiftE p1).cont fun r2 e2 w Z2 H2 _ p2 q2 h => ?_⟩
  have q1' := q1.step p1.re p2
  cases hx : peek e2 r1 with
  | none => rw [hx] at h; exact h.elim
  | some x =>
    cases hy : peek e2 r2 with
    | none => rw [hx, hy] at h; exact h.elim
    | some y =>
      rw [hx, hy] at h
      cases h3 : f x y with
      | none => simp only [opt_some, Rs.bind_ok, h3, opt_none, Rs.bind_no] at h; exact h.elim
      | some z =>
        simp only [opt_some, Rs.bind_ok, h3] at h
        obtain ⟨k, rfl⟩ := hbl x y z h3
        refine h2 Z2 H2 x y _ u w _ p2.re.zd h3 (peek_rd p2.re q1' hx) (peek_rd p2.re q2 hy) ?_
        intro v Z3 H3 ex rv
        cases rv with
        | bl b =>
          refine ⟨k, rfl, ?_⟩
          have p3 := p2.re.growP ex
          have q2' := q2.step p2.re p3
          cases k with
          | false =>
            rw [if_neg Bool.false_ne_true]
            exact h _ Z3 H3 (p2.trans p3) (.bl false)
          | true =>
            rw [if_pos rfl]
            refine ⟨pa, Z3, e2, p3.re, (h.shiftE (p2.trans p3)).cont fun r4 e4 t Z4 H4 _ p4 q4 h => ?_⟩
            have q2'' := q2'.step p3.re p4
            cases hy : peek e4 r2 with
            | none => rw [hy] at h; exact h.elim
            | some y =>
              cases hw : peek e4 r4 with
              | none => rw [hy, hw] at h; exact h.elim
              | some c' =>
                rw [hy, hw] at h
                cases h5 : f' y c' with
                | none => simp only [opt_some, Rs.bind_ok, h5, opt_none] at h; exact h.elim
                | some z' =>
                  simp only [opt_some, Rs.bind_ok, h5] at h
                  exact h2' Z4 H4 y c' z' _ _ _ p4.re.zd h5 (peek_rd p4.re q2'' hy) (peek_rd p4.re q4 hw) (Ans.of h p4 fun i e => ho'.nb y c' i (by rw [h5, e]))
end
end Z
/-! Z3: operators by content. -/
namespace Z
open PySem L2 PySem.Spec

/-! ### what a value stands for -/
section
variable {g : Gm} {Zs : Addr → Prop} {H : Hp} {u : V}
theorem RdV.non (h : RdV g Zs H .non u) : u = .non := by
  rcases h with h | ⟨a, _, h⟩
  · cases h; rfl
  · exact h.elim
theorem RdV.bl {b : Bool} (h : RdV g Zs H (.bl b) u) : u = .bl b := by
  rcases h with h | ⟨a, _, h⟩
  · cases h; rfl
  · exact h.elim
theorem RdV.int {i : Int} (h : RdV g Zs H (.int i) u) : u = .int i := by
  rcases h with h | ⟨a, _, h⟩
  · cases h; rfl
  · exact h.elim
theorem RdV.str {s : Str} (h : RdV g Zs H (.str s) u) : u = .str s := by
  rcases h with h | ⟨a, _, h⟩
  · cases h; rfl
  · exact h.elim
theorem RdV.tup {xs : List Val} (h : RdV g Zs H (.tup xs) u) : ∃ a us, u = .ref a ∧ SqT g.K H a us ∧ RvL g Zs H xs us := by
  rcases h with h | ⟨a, _, h⟩
  · cases h with
    | tup h r => exact ⟨_, _, rfl, h, r⟩
  · exact h.elim
theorem RdV.lst {xs : List Val} (h : RdV g Zs H (.lst xs) u) : ∃ a us, u = .ref a ∧ Rd H a (.lst us) ∧ RvL g Zs H xs us := by
  rcases h with h | ⟨a, e, us, h, r⟩
  · cases h with
    | lst h r => exact ⟨_, _, rfl, h.2, r⟩
  · exact ⟨a, us, e, .inl h, r⟩
theorem RdV.dic {kvs : List (Val × Val)} (h : RdV g Zs H (.dic kvs) u) : ∃ a ks, u = .ref a ∧ Rd H a (.dK ks) ∧ RvD g Zs H kvs ks := by
  rcases h with h | ⟨a, e, us, h, r⟩
  · cases h with
    | dic _ h r => exact ⟨_, _, rfl, h, r⟩
  · exact ⟨a, us, e, .inl h, r⟩
theorem RdV.obj {c : Str} {fs : List (Str × Val)} (h : RdV g Zs H (.obj c fs) u) : ∃ a C dx fv, u = .ref a ∧ H a = some (.ins C dx fv) ∧ g.mg c = some (.ref C) ∧ RvF g Zs H fs fv := by
  rcases h with h | ⟨a, e, C, dx, fv, h, m, r⟩
  · cases h with
    | obj _ h m r => exact ⟨_, _, _, _, rfl, h, m, r⟩
  · exact ⟨a, C, dx, fv, e, h, m, r⟩
theorem RvL.ofInts : ∀ ns : List Int, RvL g Zs H (ns.map Val.int) (ns.map V.int)
  | [] => .nil
  | i :: ns => .cons (.int i) (RvL.ofInts ns)
theorem RdV.scr {ns : List Int} (h : RdV g Zs H (.scr ns) u) : ∃ a, u = .ref a ∧ SqL g.K H a (ns.map V.int) ∧ RvL g Zs H (ns.map Val.int) (ns.map V.int) := by
  rcases h with h | ⟨a, _, h⟩
  · cases h with
    | scr h => exact ⟨_, rfl, h.sq, RvL.ofInts ns⟩
  · exact h.elim
theorem RvL.length : ∀ {xs : List Val} {us : List V}, RvL g Zs H xs us → xs.length = us.length
  | _, _, .nil => rfl
  | _, _, .cons _ r => by rw [List.length_cons, List.length_cons, RvL.length r]
theorem RvL.append : ∀ {xs ys : List Val} {us ws : List V}, RvL g Zs H xs us → RvL g Zs H ys ws → RvL g Zs H (xs ++ ys) (us ++ ws)
  | _, _, _, _, .nil, q => q
  | _, _, _, _, .cons h r, q => .cons h (RvL.append r q)
theorem RvL.flat {xs : List Val} {us : List V} (r : RvL g Zs H xs us) : ∀ n : Nat, RvL g Zs H (List.replicate n xs).flatten (List.replicate n us).flatten
  | 0 => .nil
  | n + 1 => by
    rw [List.replicate_succ, List.replicate_succ, List.flatten_cons, List.flatten_cons]
    exact r.append (RvL.flat r n)
theorem RvL.get : ∀ {xs : List Val} {us : List V} {i : Nat} {x : Val}, RvL g Zs H xs us → xs[i]? = some x → ∃ w, us[i]? = some w ∧ RvV g Zs H x w
  | _, _, 0, _, .cons h _, e => by simp at e; subst e; exact ⟨_, rfl, h⟩
  | _, _, i + 1, x, .cons _ r, e => by
    obtain ⟨w, h1, h2⟩ := RvL.get (i := i) (x := x) r (by simpa using e)
    exact ⟨w, by simpa using h1, h2⟩
theorem RvL.take : ∀ {xs : List Val} {us : List V} (n : Nat), RvL g Zs H xs us → RvL g Zs H (xs.take n) (us.take n)
  | _, _, 0, _ => .nil
  | _, _, _ + 1, .nil => .nil
  | _, _, n + 1, .cons h r => .cons h (RvL.take n r)
theorem RvL.drop : ∀ {xs : List Val} {us : List V} (n : Nat), RvL g Zs H xs us → RvL g Zs H (xs.drop n) (us.drop n)
  | _, _, 0, r => r
  | _, _, _ + 1, .nil => .nil
  | _, _, n + 1, .cons _ r => RvL.drop n r
theorem RvL.set : ∀ {xs : List Val} {us : List V} (n : Nat) {x : Val} {w : V}, RvL g Zs H xs us → RvV g Zs H x w → RvL g Zs H (xs.set n x) (us.set n w)
  | _, _, _, _, _, .nil, _ => .nil
  | _, _, 0, _, _, .cons _ r, h => .cons h r
  | _, _, n + 1, _, _, .cons q r, h => .cons q (RvL.set n r h)
theorem RvL.one : ∀ {xs : List Val} {us : List V} {i : Nat} {w : V}, RvL g Zs H xs us → us[i]? = some w → ∃ x, xs[i]? = some x ∧ RvV g Zs H x w
  | _, _, 0, _, .cons h _, e => by simp at e; subst e; exact ⟨_, rfl, h⟩
  | _, _, i + 1, w, .cons _ r, e => by
    obtain ⟨x, h1, h2⟩ := RvL.one (i := i) (w := w) r (by simpa using e)
    exact ⟨x, by simpa using h1, h2⟩
theorem RvL.eraseIdx : ∀ {xs : List Val} {us : List V} (n : Nat), RvL g Zs H xs us → RvL g Zs H (xs.eraseIdx n) (us.eraseIdx n)
  | _, _, _, .nil => .nil
  | _, _, 0, .cons _ r => r
  | _, _, n + 1, .cons h r => .cons h (RvL.eraseIdx n r)
theorem RvL.dropLast {xs : List Val} {us : List V} (r : RvL g Zs H xs us) : RvL g Zs H xs.dropLast us.dropLast := by
  rw [List.dropLast_eq_take, List.dropLast_eq_take, r.length]
  exact r.take _
theorem RvL.reverse : ∀ {xs : List Val} {us : List V}, RvL g Zs H xs us → RvL g Zs H xs.reverse us.reverse
  | _, _, .nil => .nil
  | _, _, .cons h r => by rw [List.reverse_cons, List.reverse_cons]; exact (RvL.reverse r).append (.cons h .nil)
/-- ints, by content -/
def ints? : List Val → Option (List Int)
  | [] => some []
  | .int i :: r => (ints? r).map (i :: ·)
  | _ :: _ => none
@[simp] theorem ints?_nil : ints? [] = some [] := rfl
@[simp] theorem ints?_cons (i : Int) (r : List Val) : ints? (.int i :: r) = (ints? r).map (i :: ·) := rfl
theorem ints?_map (ns : List Int) : ints? (ns.map Val.int) = some ns := by
  induction ns with
  | nil => rfl
  | cons n r ih => rw [List.map_cons, ints?_cons, ih]; rfl
theorem ints?_eq : ∀ {xs : List Val} {ns : List Int}, ints? xs = some ns → xs = ns.map Val.int
  | [], ns, h => by cases h; rfl
  | .int i :: r, ns, h => by
    rw [ints?_cons] at h
    cases q : ints? r with
    | none => rw [q] at h; cases h
    | some ms => rw [q] at h; cases h; rw [ints?_eq q]; rfl
  | .non :: _, _, h => by cases h
  | .bl _ :: _, _, h => by cases h
  | .str _ :: _, _, h => by cases h
  | .tup _ :: _, _, h => by cases h
  | .lst _ :: _, _, h => by cases h
  | .dic _ :: _, _, h => by cases h
  | .obj _ _ :: _, _, h => by cases h
theorem RvL.ints {ns : List Int} : ∀ {us : List V}, RvL g Zs H (ns.map Val.int) us → us = ns.map V.int := by
  induction ns with
  | nil => intro us r; cases r; rfl
  | cons n t ih =>
    intro us r
    cases r with
    | cons h r => cases h; rw [List.map_cons, ih r]
end

/-! ### the layer's rules, for lists that are read -/
section
variable {X : Cx} {pins : List (Addr × Obj)} {σ : L2.St} {H : Hp} {s : Shared} {l : Addr} {xs : List V}
theorem rdM (I : Inv X pins σ H s) (h : Rd H l (.lst xs)) : xs.length ≤ sizeLine ∧ ∃ (its : List Value) (n : Nat), Vals xs its ∧ xs.length = its.length ∧ s.heap.get? l = some { cls := .type "list", data := .seq its.toArray n } := by
  obtain ⟨z, its, n, r, e⟩ := Rd.ok h I.hok
  exact ⟨z, its, n, r, r.length, e⟩
def rCatQ : R2 := fun x y H Q => ∃ l b xs zs, x = .ref l ∧ y = .ref b ∧ Rd H l (.lst xs) ∧ Rd H b (.lst zs) ∧ xs.length + zs.length ≤ sizeLine ∧ ∀ p, H p = none → Q (.ref p) (upd H p (.lst (xs ++ zs)))
theorem op_catQ : OpR X (binaryOp .Add) rCatQ := by
  intro pins s σ H x y v u Q I rx ry h
  obtain ⟨l, b, xs, zs, ex, ey, hH, hB, hz, q⟩ := h
  subst ex ey
  cases rx
  cases ry
  obtain ⟨z, its, n, r, hl, e⟩ := rdM I hH
  obtain ⟨z2, its2, n2, r2, hl2, e2⟩ := rdM I hB
  refine PySem.P.add_list e e2 ?_ (by simp only [List.size_toArray]; omega)
  rw [show its.toArray ++ its2.toArray = (its ++ its2).toArray by simp]
  exact ⟨.ref _, _, I.lnew (t' := s.toks) (r.append r2) (by rw [List.length_append]; omega), rfl, q _ I.fresh⟩
def rRepQ : R2 := fun x y H Q => ∃ l k xs, x = .ref l ∧ y = .int k ∧ Rd H l (.lst xs) ∧ -(2 ^ 63) ≤ k ∧ k < 2 ^ 63 ∧ xs.length * k.toNat ≤ sizeLine ∧
  ∀ p, H p = none → Q (.ref p) (upd H p (.lst (List.replicate k.toNat xs).flatten))
open PyProof.Rows in
open Builtin in
theorem op_repQ : OpR X (binaryOp .Mult) rRepQ := by
  intro pins s σ H x y v u Q I rx ry h
  obtain ⟨l, k, xs, ex, ey, hH, h1, h2, hz, q⟩ := h
  subst ex ey
  cases rx
  obtain ⟨t, rfl⟩ := ry
  obtain ⟨z, its, n, r, hl, e⟩ := rdM I hH
  have hlen : its.toArray.size * k.toNat ≤ sizeLine := by simpa only [List.size_toArray, ← hl] using hz
  have hcap : ¬ its.toArray.size * k.toNat > (2 ^ 63 - 1) / 8 := fun hh => by
    have l8 : (sizeLine : Nat) ≤ (2 ^ 63 - 1) / 8 := by decide
    exact absurd (Nat.lt_of_lt_of_le hh (Nat.le_trans hlen l8)) (Nat.lt_irrefl _)
  have hfit : ¬ (!Builtin.List.listFitsIndex k) = true := fun hh => by rw [fitsIndex_both h1 h2] at hh; cases hh
  have hlong : ¬ Builtin.List.listTooLong (its.toArray.size * k.toNat) = true := fun hh => by rw [notLongL hlen] at hh; cases hh
  have f0 : ∀ m : Nat, List.foldl (fun x1 x2 => x1 ++ x2) #[] (List.replicate m its.toArray) = (List.replicate m its).flatten.toArray := fun m => by simpa using foldl_rep its m []
  have hnew : List.foldl (fun x1 x2 => x1 ++ x2) #[] (List.replicate (if its.toArray.isEmpty = true then 0 else k.toNat) its.toArray) = (List.replicate k.toNat its).flatten.toArray := by
    rw [f0]
    cases its with
    | nil => simp
    | cons a r' => simp
  refine wpAny_binaryOp_repeat_ref (T := "list") (U := "int") (by decide) ⟨_, e, rfl⟩ (fun s' => typeIs_int s' k t) noFill_list_mul F.fills_int_mul F.slot_int_rmul repeat_list F.slot_int_index.lookup ?_
  refine call_meets F.slot_int_rmul (typeIs_int s k t) F.entry_int_rmul (F.args_int_rmul_2 _ _) (int___rmul___int_list k t l its.toArray n) ⟨e, rfl, ⟨_, e, rfl⟩, ?_⟩
  refine call_meets F.slot_list_mul ⟨_, e, rfl⟩ F.entry_list_mul (F.args_list_mul_2 _ _) (AutoListH.list___mul___list_int_3 l its.toArray n k t hfit hcap hlong) ⟨e, ?_⟩
  rw [hnew]
  exact ⟨.ref _, _, I.lnew (t' := s.toks) (r.rep k.toNat) (by rw [PyProof.Rows.lm_len_rep_flat, Nat.mul_comm]; exact hz), rfl, q _ I.fresh⟩
end

/-! ### operators by content -/
def fAdd : Val → Val → Option RV
  | .int i, .int j => some (.v (.int (i + j)))
  | .str s, .str t => if s.length + t.length ≤ sizeMax then some (.v (.str (s ++ t))) else none
  | .lst xs, .lst ys => if xs.length + ys.length ≤ sizeMax then some (.own (.lst (xs ++ ys))) else none
  | .tup xs, .tup ys => if xs.length + ys.length ≤ sizeMax then some (.v (.tup (xs ++ ys))) else none
  | _, _ => none
def fSub : Val → Val → Option RV
  | .int i, .int j => some (.v (.int (i - j)))
  | _, _ => none
def fMul : Val → Val → Option RV
  | .int i, .int j => if i.natAbs.log2 + j.natAbs.log2 < 1000000 then some (.v (.int (i * j))) else none
  | .lst xs, .int k => if k.natAbs < 4611686018427387904 ∧ xs.length * k.toNat ≤ sizeMax then some (.own (.lst (List.replicate k.toNat xs).flatten)) else none
  | _, _ => none
def fDiv : Val → Val → Option RV
  | .int i, .int j => if 0 < j ∧ j.natAbs.log2 < 9000 then some (.v (.int (i / j))) else if j ≠ 0 ∧ j.natAbs < 1073741824 then some (.v (.int (i.fdiv j))) else none
  | _, _ => none
def fMod : Val → Val → Option RV
  | .int i, .int j => if 0 < j then some (.v (.int (i % j))) else if j ≠ 0 then some (.v (.int (i.fmod j))) else none
  | _, _ => none
def fPow : Val → Val → Option RV
  | .int i, .int j => if 0 ≤ j ∧ j ≤ 1000000 ∧ i.natAbs < 2 ^ 64 then some (.v (.int (i ^ j.toNat))) else none
  | _, _ => none
def fNeg : Val → Option RV
  | .int i => some (.v (.int (-i)))
  | _ => none
def fLt : Val → Val → Option RV
  | .int i, .int j => some (.v (.bl (decide (i < j))))
  | _, _ => none
def fLe : Val → Val → Option RV
  | .int i, .int j => some (.v (.bl (decide (i ≤ j))))
  | _, _ => none
def fGt : Val → Val → Option RV
  | .int i, .int j => some (.v (.bl (decide (j < i))))
  | _, _ => none
def fGe : Val → Val → Option RV
  | .int i, .int j => some (.v (.bl (decide (j ≤ i))))
  | _, _ => none
@[simp] theorem fAdd_int (i j : Int) : fAdd (.int i) (.int j) = some (.v (.int (i + j))) := rfl
@[simp] theorem fAdd_lst (xs ys : List Val) : fAdd (.lst xs) (.lst ys) = if xs.length + ys.length ≤ sizeMax then some (.own (.lst (xs ++ ys))) else none := rfl
@[simp] theorem fAdd_tup (xs ys : List Val) : fAdd (.tup xs) (.tup ys) = if xs.length + ys.length ≤ sizeMax then some (.v (.tup (xs ++ ys))) else none := rfl
@[simp] theorem fSub_int (i j : Int) : fSub (.int i) (.int j) = some (.v (.int (i - j))) := rfl
@[simp] theorem fMul_int (i j : Int) : fMul (.int i) (.int j) = if i.natAbs.log2 + j.natAbs.log2 < 1000000 then some (.v (.int (i * j))) else none := rfl
@[simp] theorem fMul_lst (xs : List Val) (k : Int) : fMul (.lst xs) (.int k) = if k.natAbs < 4611686018427387904 ∧ xs.length * k.toNat ≤ sizeMax then some (.own (.lst (List.replicate k.toNat xs).flatten)) else none := rfl
@[simp] theorem fDiv_int (i j : Int) : fDiv (.int i) (.int j) = if 0 < j ∧ j.natAbs.log2 < 9000 then some (.v (.int (i / j))) else if j ≠ 0 ∧ j.natAbs < 1073741824 then some (.v (.int (i.fdiv j))) else none := rfl
@[simp] theorem fMod_int (i j : Int) : fMod (.int i) (.int j) = if 0 < j then some (.v (.int (i % j))) else if j ≠ 0 then some (.v (.int (i.fmod j))) else none := rfl
@[simp] theorem fPow_int (i j : Int) : fPow (.int i) (.int j) = if 0 ≤ j ∧ j ≤ 1000000 ∧ i.natAbs < 2 ^ 64 then some (.v (.int (i ^ j.toNat))) else none := rfl
@[simp] theorem fNeg_int (i : Int) : fNeg (.int i) = some (.v (.int (-i))) := rfl
@[simp] theorem fLt_int (i j : Int) : fLt (.int i) (.int j) = some (.v (.bl (decide (i < j)))) := rfl
@[simp] theorem fLe_int (i j : Int) : fLe (.int i) (.int j) = some (.v (.bl (decide (i ≤ j)))) := rfl
@[simp] theorem fGt_int (i j : Int) : fGt (.int i) (.int j) = some (.v (.bl (decide (j < i)))) := rfl
@[simp] theorem fGe_int (i j : Int) : fGe (.int i) (.int j) = some (.v (.bl (decide (j ≤ i)))) := rfl
theorem szm : sizeMax = sizeLine := by rw [sizeLine_eq]; rfl

section
variable {X : Cx}
theorem fAdd_cases {x y : Val} {z : RV} (h : fAdd x y = some z) : (∃ i j, x = .int i ∧ y = .int j ∧ z = .v (.int (i + j))) ∨ (∃ s t, x = .str s ∧ y = .str t ∧ s.length + t.length ≤ sizeLine ∧ z = .v (.str (s ++ t))) ∨
    (∃ xs ys, x = .lst xs ∧ y = .lst ys ∧ xs.length + ys.length ≤ sizeLine ∧ z = .own (.lst (xs ++ ys))) ∨ ∃ xs ys, x = .tup xs ∧ y = .tup ys ∧ xs.length + ys.length ≤ sizeLine ∧ z = .v (.tup (xs ++ ys)) := by
  rw [← szm]
  unfold fAdd at h
  split at h
  · cases h; exact .inl ⟨_, _, rfl, rfl, rfl⟩
  · split at h
    · cases h; exact .inr (.inl ⟨_, _, rfl, rfl, by assumption, rfl⟩)
    · cases h
  · split at h
    · cases h; exact .inr (.inr (.inl ⟨_, _, rfl, rfl, by assumption, rfl⟩))
    · cases h
  · split at h
    · cases h; exact .inr (.inr (.inr ⟨_, _, rfl, rfl, by assumption, rfl⟩))
    · cases h
  · cases h
theorem os_add : OpS X (binaryOp .Add) fAdd := by
  refine ⟨⟨_, op_add.or (op_add_str.or (op_catQ.or op_catA)), fun Zs H x y z u w Q zd hf hx hy q => ?_⟩, fun x y i h => ?_⟩
  · rcases fAdd_cases hf with ⟨i, j, rfl, rfl, rfl⟩ | ⟨a, b, rfl, rfl, hz, rfl⟩ | ⟨xs, ys, rfl, rfl, hz, rfl⟩ | ⟨xs, ys, rfl, rfl, hz, rfl⟩
    · exact .inl ⟨i, j, hx.int, hy.int, q.val zd (.int _)⟩
    · exact .inr (.inl ⟨a, b, hx.str, hy.str, hz, q.val zd (.str _)⟩)
    · obtain ⟨a, us, rfl, h1, r1⟩ := hx.lst
      obtain ⟨b, ws, rfl, h2, r2⟩ := hy.lst
      exact .inr (.inr (.inl ⟨a, b, us, ws, rfl, rfl, h1, h2, by rw [← r1.length, ← r2.length]; exact hz, fun p hp => q.lst zd (r1.append r2) hp⟩))
    · obtain ⟨a, us, rfl, h1, r1⟩ := hx.tup
      obtain ⟨b, ws, rfl, h2, r2⟩ := hy.tup
      refine .inr (.inr (.inr ⟨a, b, us, ws, rfl, rfl, h1, h2, by rw [← r1.length, ← r2.length]; exact hz, fun e => ?_, fun e e2 => ?_, fun e e2 p hp => q.tup zd (r1.append r2) hp⟩))
      · subst e
        cases r1
        exact q.val zd (.tup h2 r2)
      · subst e2
        cases r2
        refine q.val zd (.tup h1 ?_)
        rw [List.append_nil]
        exact r1
  · rcases fAdd_cases h with ⟨_, _, _, _, e⟩ | ⟨_, _, _, _, _, e⟩ | ⟨_, _, _, _, _, e⟩ | ⟨_, _, _, _, _, e⟩ <;> cases e
theorem os_int0 {F : Value → Value → Sem Value} {k : Int → Int → V} {c : Int → Int → Val} {f : Val → Val → Option RV} (hF : OpR X F (rI0 k)) (hk : ∀ g Zs H i j, RvV g Zs H (c i j) (k i j)) (hf : ∀ x y z, f x y = some z → ∃ i j, x = .int i ∧ y = .int j ∧ z = .v (c i j)) : OpS X F f := by
  refine ⟨⟨_, hF, fun Zs H x y z u w Q zd h hx hy q => ?_⟩, fun x y i h => ?_⟩
  · obtain ⟨i, j, rfl, rfl, rfl⟩ := hf _ _ _ h
    exact ⟨i, j, hx.int, hy.int, q.val zd (hk _ _ _ i j)⟩
  · obtain ⟨_, _, _, _, e⟩ := hf _ _ _ h
    cases e
theorem os_sub : OpS X (binaryOp .Sub) fSub := os_int0 (c := fun i j => .int (i - j)) op_sub (fun _ _ _ _ _ => .int _) fun x y z h => by
  unfold fSub at h; split at h <;> cases h; exact ⟨_, _, rfl, rfl, rfl⟩
theorem os_lt : OpS X (compareOp .Lt) fLt := os_int0 (c := fun i j => .bl (decide (i < j))) op_lt (fun _ _ _ _ _ => .bl _) fun x y z h => by
  unfold fLt at h; split at h <;> cases h; exact ⟨_, _, rfl, rfl, rfl⟩
theorem os_le : OpS X (compareOp .LtE) fLe := os_int0 (c := fun i j => .bl (decide (i ≤ j))) op_le (fun _ _ _ _ _ => .bl _) fun x y z h => by
  unfold fLe at h; split at h <;> cases h; exact ⟨_, _, rfl, rfl, rfl⟩
theorem os_gt : OpS X (compareOp .Gt) fGt := os_int0 (c := fun i j => .bl (decide (j < i))) op_gt (fun _ _ _ _ _ => .bl _) fun x y z h => by
  unfold fGt at h; split at h <;> cases h; exact ⟨_, _, rfl, rfl, rfl⟩
theorem os_ge : OpS X (compareOp .GtE) fGe := os_int0 (c := fun i j => .bl (decide (j ≤ i))) op_ge (fun _ _ _ _ _ => .bl _) fun x y z h => by
  unfold fGe at h; split at h <;> cases h; exact ⟨_, _, rfl, rfl, rfl⟩
theorem bl_lt : ∀ x y z, fLt x y = some z → ∃ k, z = .v (.bl k) := fun x y z h => by unfold fLt at h; split at h <;> cases h; exact ⟨_, rfl⟩
theorem bl_le : ∀ x y z, fLe x y = some z → ∃ k, z = .v (.bl k) := fun x y z h => by unfold fLe at h; split at h <;> cases h; exact ⟨_, rfl⟩
theorem bl_gt : ∀ x y z, fGt x y = some z → ∃ k, z = .v (.bl k) := fun x y z h => by unfold fGt at h; split at h <;> cases h; exact ⟨_, rfl⟩
theorem bl_ge : ∀ x y z, fGe x y = some z → ∃ k, z = .v (.bl k) := fun x y z h => by unfold fGe at h; split at h <;> cases h; exact ⟨_, rfl⟩
theorem os_mul : OpS X (binaryOp .Mult) fMul := by
  have cs : ∀ {x y : Val} {z : RV}, fMul x y = some z → (∃ i j, x = .int i ∧ y = .int j ∧ CMulW i j ∧ z = .v (.int (i * j))) ∨ ∃ xs k, x = .lst xs ∧ y = .int k ∧ k < 2 ^ 62 ∧ -(2 ^ 62) ≤ k ∧ xs.length * k.toNat ≤ sizeLine ∧ z = .own (.lst (List.replicate k.toNat xs).flatten) := fun {x y z} h => by
    rw [← szm]
    unfold fMul at h
    split at h
    · split at h
      · cases h; exact .inl ⟨_, _, rfl, rfl, by assumption, rfl⟩
      · cases h
    · split at h
      · rename_i c
        cases h; exact .inr ⟨_, _, rfl, rfl, by omega, by omega, c.2, rfl⟩
      · cases h
    · cases h
  refine ⟨⟨_, op_mulW.or op_repQ, fun Zs H x y z u w Q zd hf hx hy q => ?_⟩, fun x y i h => ?_⟩
  · rcases cs hf with ⟨i, j, rfl, rfl, hc, rfl⟩ | ⟨xs, k, rfl, rfl, h1, h2, h3, rfl⟩
    · exact .inl ⟨i, j, hx.int, hy.int, hc, q.val zd (.int _)⟩
    · obtain ⟨a, us, rfl, hl, r⟩ := hx.lst
      exact .inr ⟨a, k, us, rfl, hy.int, hl, by omega, by omega, by rw [← r.length]; exact h3, fun p hp => q.lst zd (r.flat _) hp⟩
  · rcases cs h with ⟨_, _, _, _, _, e⟩ | ⟨_, _, _, _, _, _, _, e⟩ <;> cases e
theorem os_div : OpS X (binaryOp .FloorDiv) fDiv := by
  have cs : ∀ {x y : Val} {z : RV}, fDiv x y = some z → ∃ i j, x = .int i ∧ y = .int j ∧ ((CDivW i j ∧ z = .v (.int (i / j))) ∨ (CDivN i j ∧ z = .v (.int (i.fdiv j)))) := fun {x y z} h => by
    unfold fDiv at h
    split at h
    · split at h
      · cases h; exact ⟨_, _, rfl, rfl, .inl ⟨by assumption, rfl⟩⟩
      · split at h
        · cases h; exact ⟨_, _, rfl, rfl, .inr ⟨by assumption, rfl⟩⟩
        · cases h
    · cases h
  refine ⟨⟨_, op_fdivW.or op_fdivN, fun Zs H x y z u w Q zd hf hx hy q => ?_⟩, fun x y i h => ?_⟩
  · obtain ⟨i, j, rfl, rfl, ⟨hc, rfl⟩ | ⟨hc, rfl⟩⟩ := cs hf
    · exact .inl ⟨i, j, hx.int, hy.int, hc, q.val zd (.int _)⟩
    · exact .inr ⟨i, j, hx.int, hy.int, hc, q.val zd (.int _)⟩
  · obtain ⟨_, _, _, _, ⟨_, e⟩ | ⟨_, e⟩⟩ := cs h <;> cases e
theorem os_mod : OpS X (binaryOp .Mod) fMod := by
  have cs : ∀ {x y : Val} {z : RV}, fMod x y = some z → ∃ i j, x = .int i ∧ y = .int j ∧ ((0 < j ∧ z = .v (.int (i % j))) ∨ (j ≠ 0 ∧ z = .v (.int (i.fmod j)))) := fun {x y z} h => by
    unfold fMod at h
    split at h
    · split at h
      · cases h; exact ⟨_, _, rfl, rfl, .inl ⟨by assumption, rfl⟩⟩
      · split at h
        · cases h; exact ⟨_, _, rfl, rfl, .inr ⟨by assumption, rfl⟩⟩
        · cases h
    · cases h
  refine ⟨⟨_, op_mod.or op_modN, fun Zs H x y z u w Q zd hf hx hy q => ?_⟩, fun x y i h => ?_⟩
  · obtain ⟨i, j, rfl, rfl, ⟨hc, rfl⟩ | ⟨hc, rfl⟩⟩ := cs hf
    · exact .inl ⟨i, j, hx.int, hy.int, hc, q.val zd (.int _)⟩
    · exact .inr ⟨i, j, hx.int, hy.int, hc, q.val zd (.int _)⟩
  · obtain ⟨_, _, _, _, ⟨_, e⟩ | ⟨_, e⟩⟩ := cs h <;> cases e
theorem os_pow : OpS X (binaryOp .Pow) fPow := by
  have cs : ∀ {x y : Val} {z : RV}, fPow x y = some z → ∃ i j, x = .int i ∧ y = .int j ∧ CPow i j ∧ z = .v (.int (i ^ j.toNat)) := fun {x y z} h => by
    unfold fPow at h
    split at h
    · split at h
      · cases h; exact ⟨_, _, rfl, rfl, by assumption, rfl⟩
      · cases h
    · cases h
  refine ⟨⟨_, op_pow, fun Zs H x y z u w Q zd hf hx hy q => ?_⟩, fun x y i h => ?_⟩
  · obtain ⟨i, j, rfl, rfl, hc, rfl⟩ := cs hf
    exact ⟨i, j, hx.int, hy.int, hc, q.val zd (.int _)⟩
  · obtain ⟨_, _, _, _, _, e⟩ := cs h
    cases e
theorem us_neg : UnS X (unaryOp .USub) fNeg := by
  have cs : ∀ {x : Val} {z : RV}, fNeg x = some z → ∃ i, x = .int i ∧ z = .v (.int (-i)) := fun {x z} h => by
    unfold fNeg at h; split at h <;> cases h; exact ⟨_, rfl, rfl⟩
  refine ⟨⟨_, un_neg, fun Zs H x z u Q zd hf hx q => ?_⟩, fun x i h => ?_⟩
  · obtain ⟨i, rfl, rfl⟩ := cs hf
    exact ⟨i, hx.int, q.val zd (.int _)⟩
  · obtain ⟨_, _, e⟩ := cs h
    cases e
end
end Z
/-! Z4: argument lists, displays, equality, None, built-in calls, items, slices. -/
namespace Z
open PySem L2 PySem.Spec
theorem Hld.mono {g : Gm} {Zs Zt : Addr → Prop} {H : Hp} (z : ∀ a, Zs a → Zt a) : ∀ {x : Val} {a : Addr}, Hld g Zs H x a → Hld g Zt H x a
  | .lst _, _, ⟨_, h, r⟩ => ⟨_, h, r.gr (Grow.of z)⟩
  | .dic _, _, ⟨_, h, r⟩ => ⟨_, h, r.gr (Grow.of z)⟩
  | .obj _ _, _, ⟨_, _, _, h, m, r⟩ => ⟨_, _, _, h, m, r.gr (Grow.of z)⟩
  | .non, _, h => nomatch (show False from h)
  | .bl _, _, h => nomatch (show False from h)
  | .int _, _, h => nomatch (show False from h)
  | .str _, _, h => nomatch (show False from h)
  | .tup _, _, h => nomatch (show False from h)
  | .scr _, _, h => nomatch (show False from h)
/-- more is at rest: the places that are owned no more, or were never -/
theorem SlR.mono {g : Gm} {xc : Xc} {Zs Zt : Addr → Prop} {H : Hp} (z : ∀ a, Zs a → Zt a) {s : Slot} {o : Option (Option V)} (h : SlR g xc Zs H s o) (n : ∀ p x a, s = .own p x → o = some (some (.ref a)) → ¬ Zt a) : SlR g xc Zt H s o := by
  cases s with
  | emp => trivial
  | v x =>
    obtain ⟨u, h, r⟩ := h
    exact ⟨u, h, r.gr (Grow.of z)⟩
  | own p x =>
    obtain ⟨a, h, nz, r⟩ := h
    exact ⟨a, h, n p x a rfl h, r.mono z⟩
  | pf x =>
    obtain ⟨a, h, z0, r⟩ := h
    exact ⟨a, h, z a z0, r.gr (Grow.of z)⟩
  | exn c fs =>
    obtain ⟨a, d, C, fv, h1, h2, h3, h4, r⟩ := h
    exact ⟨a, d, C, fv, h1, h2, h3, h4, r.gr (Grow.of z)⟩
theorem thaw_own : ∀ {p : Bool} {x : Val}, Hol (thaw (.own p x)) ∧ (∀ q y, thaw (.own p x) ≠ .own q y) ∧ (p = true → Pinned (thaw (.own p x)))
  | true, x => ⟨True.intro, (fun q y h => by rw [thaw_t] at h; cases h), fun _ => True.intro⟩
  | false, x => ⟨True.intro, (fun q y h => by rw [thaw_f] at h; cases h), (fun h => by cases h)⟩
theorem eget_lt {e : Env} {i : Nat} (h : eget e i ≠ .emp) : i < e.length := by
  apply Classical.byContradiction
  intro n
  exact h (eget_out e i (by omega))
/-- a place comes to rest -/
theorem RE.rest {g : Gm} {xc : Xc} {pa : List (Option Addr)} {Zs : Addr → Prop} {H : Hp} {σ : L2.St} {e : Env} {i : Nat} {p : Bool} {x : Val} {a : Addr} (re : RE g xc pa Zs H σ e) (hs : eget e i = .own p x) (ha : σ[i]? = some (some (.ref a))) :
    RE g xc pa (fun b => Zs b ∨ b = a) H σ (eput e i (thaw (.own p x))) ∧ (∀ b, Owd (eput e i (thaw (.own p x))) σ b → Owd e σ b ∧ b ≠ a) ∧ (∀ j, Hol (eget e j) → Hol (eget (eput e i (thaw (.own p x))) j)) ∧ RvV g (fun b => Zs b ∨ b = a) H x (.ref a) := by
  have hi : i < e.length := eget_lt (by rw [hs]; intro h; cases h)
  have own : ∀ j b, OwnAt (eput e i (thaw (.own p x))) σ j b → OwnAt e σ j b ∧ j ≠ i := fun j b ⟨q, y, h1, h2⟩ => by
    by_cases hj : i = j
    · subst hj
      rw [eget_eput_same e i _ hi] at h1
      exact absurd h1 (thaw_own.2.1 q y)
    · rw [eget_eput_ne e i j _ hj] at h1
      exact ⟨⟨q, y, h1, h2⟩, Ne.symm hj⟩
  have oi : OwnAt e σ i a := ⟨p, x, hs, ha⟩
  have q := re.sl i
  rw [hs] at q
  obtain ⟨a', ha', nz, hl⟩ := q
  rw [ha] at ha'; cases ha'
  have rv : RvV g (fun b => Zs b ∨ b = a) H x (.ref a) := (hl.mono fun b h => .inl h).rv (.inr rfl)
  refine ⟨⟨by rw [eput_length]; exact re.len, fun j => ?_, fun j k b h1 h2 => re.inj j k b (own j b h1).1 (own k b h2).1, fun j b h => ?_, fun b h => ?_⟩, fun b ⟨j, h⟩ => ?_, fun j h => ?_, rv⟩
  · by_cases hj : i = j
    · subst hj
      rw [eget_eput_same e i _ hi]
      cases p
      · exact ⟨_, ha, rv⟩
      · exact ⟨_, ha, .inr rfl, rv⟩
    · rw [eget_eput_ne e i j _ hj]
      refine (re.sl j).mono (fun b h => .inl h) fun q y b h1 h2 h3 => ?_
      have oj : OwnAt e σ j b := ⟨q, y, h1, h2⟩
      rcases h3 with h3 | h3
      · exact (re.owOk b ⟨j, oj⟩).1 h3
      · subst h3
        exact hj (re.inj i j b oi oj)
  · obtain ⟨h1, h2⟩ := re.pin j b h
    refine ⟨h1, ?_⟩
    by_cases hj : i = j
    · subst hj
      rw [eget_eput_same e i _ hi]
      rw [hs] at h2
      cases p
      · exact h2.elim
      · trivial
    · rw [eget_eput_ne e i j _ hj]
      exact h2
  · rcases h with h | h
    · exact re.zd b h
    · subst h
      obtain ⟨o, ho, _⟩ := hl.wr
      exact ⟨o, ho⟩
  · obtain ⟨h1, h2⟩ := own j b h
    refine ⟨⟨j, h1⟩, fun z => ?_⟩
    subst z
    exact h2 (re.inj j i b h1 oi)
  · by_cases hj : i = j
    · subst hj
      rw [eget_eput_same e i _ hi]
      exact thaw_own.1
    · rw [eget_eput_ne e i j _ hj]
      exact h
section
variable {g : Gm} {xc : Xc} {s : At} {Z1 : Addr → Prop} {H1 : Hp} {e1 e2 : Env} {r : RV} {u : V} {x : Val}
/-- a value escapes -/
theorem esc_ok (P : PostE g xc s.pa s.Zs s.H s.σ s.env Z1 H1 e1) (R : RR g s Z1 H1 s.σ e1 r u) (h : esc e1 r = .ok x e2) :
    ∃ Z2, PostE g xc s.pa s.Zs s.H s.σ s.env Z2 H1 e2 ∧ RvV g Z2 H1 x u ∧ (∀ a, Z1 a → Z2 a) ∧ (∀ a, Z2 a → Z1 a ∨ (u = .ref a ∧ ((∃ y, r = .own y) ∨ Owd e1 s.σ a))) ∧ (∀ i, Hol (eget e1 i) → Hol (eget e2 i)) ∧ ∀ a, Owd e2 s.σ a → Owd e1 s.σ a := by
  cases r with
  | v y => cases h; exact ⟨Z1, P, R, fun _ h => h, fun _ h => .inl h, fun _ h => h, fun _ h => h⟩
  | own y =>
    cases h
    obtain ⟨a, e, nz, hl, no, fr⟩ := R
    obtain ⟨o, ho, _⟩ := hl.wr
    refine ⟨fun b => Z1 b ∨ b = a, ⟨⟨⟨fun b h => .inl (P.ext.zz b h), fun b h => ?_, P.ext.hh, fun b h => ?_⟩, ⟨P.re.len, fun i => ?_, P.re.inj, P.re.pin, fun b h => ?_⟩, P.ow⟩, P.hol⟩, by rw [e]; exact (hl.mono fun b h => .inl h).rv (.inr rfl), fun b h => .inl h, fun b h => ?_, fun _ h => h, fun _ h => h⟩
    · rcases h with h | h
      · exact P.ext.zn b h
      · subst h; exact .inr fr
    · rcases h with h | h
      · exact P.re.zd b h
      · subst h; exact ⟨o, ho⟩
    · refine (P.re.sl i).mono (fun b h => .inl h) fun q z b h1 h2 h3 => ?_
      rcases h3 with h3 | h3
      · exact (P.re.owOk b ⟨i, q, z, h1, h2⟩).1 h3
      · subst h3
        exact no ⟨i, q, z, h1, h2⟩
    · rcases h with h | h
      · exact P.re.zd b h
      · subst h; exact ⟨o, ho⟩
    · rcases h with h | h
      · exact .inl h
      · subst h; exact .inr ⟨e, .inl ⟨_, rfl⟩⟩
  | bor i =>
    obtain ⟨a, e, h1, h2⟩ := R
    rw [esc_bor] at h
    have q := P.re.sl i
    cases hs : eget e1 i with
    | emp => rw [hs] at h; cases h
    | exn c fs => rw [hs] at h; cases h
    | v y =>
      rw [hs] at h q; cases h
      obtain ⟨w, hw, rv⟩ := q
      rw [h1] at hw; cases hw
      exact ⟨Z1, P, by rw [e]; exact rv, fun _ h => h, fun _ h => .inl h, fun _ h => h, fun _ h => h⟩
    | pf y =>
      rw [hs] at h q; cases h
      obtain ⟨w, hw, _, rv⟩ := q
      rw [h1] at hw; cases hw
      exact ⟨Z1, P, by rw [e]; exact rv, fun _ h => h, fun _ h => .inl h, fun _ h => h, fun _ h => h⟩
    | own p y =>
      rw [hs] at h; cases h
      have oa : Owd e1 s.σ a := ⟨i, p, x, hs, h1⟩
      obtain ⟨re2, ow2, hol2, rv⟩ := P.re.rest hs h1
      obtain ⟨_, o, ho, _⟩ := P.re.owOk a oa
      refine ⟨fun b => Z1 b ∨ b = a, ⟨⟨⟨fun b h => .inl (P.ext.zz b h), fun b h => ?_, P.ext.hh, re2.zd⟩, re2, fun b h => P.ow b (ow2 b h).1⟩, fun j h => hol2 j (P.hol j h)⟩, by rw [e]; exact rv, fun b h => .inl h, fun b h => ?_, hol2, fun b h => (ow2 b h).1⟩
      · rcases h with h | h
        · exact P.ext.zn b h
        · subst h; exact .inr (P.ow b oa)
      · rcases h with h | h
        · exact .inl h
        · subst h; exact .inr ⟨e, .inr oa⟩
theorem RRs.after {Z2 : Addr → Prop} (zz : ∀ a, Z1 a → Z2 a) (zn : ∀ a, Z2 a → Z1 a ∨ (u = .ref a ∧ ((∃ y, r = .own y) ∨ Owd e1 s.σ a))) (hol : ∀ i, Hol (eget e1 i) → Hol (eget e2 i)) (ow : ∀ a, Owd e2 s.σ a → Owd e1 s.σ a) :
    ∀ {rs : List RV} {us : List V}, RRs g s Z1 H1 s.σ e1 rs us → ((∃ y, r = .own y) → ∀ y w, (y, w) ∈ rs.zip us → (∃ z, y = .own z) → w ≠ u) → RRs g s Z2 H1 s.σ e2 rs us
  | _, _, .nil, _ => .nil
  | r' :: rs, w :: us, .cons h t n, k => by
    refine .cons ?_ (RRs.after zz zn hol ow t fun z y w' hm => k z y w' (by rw [List.zip_cons_cons]; exact List.mem_cons_of_mem _ hm)) n
    cases r' with
    | v y => exact RvV.gr (Grow.of zz) h
    | own y =>
      obtain ⟨a, e, nz, hl, no, fr⟩ := h
      refine ⟨a, e, fun z => ?_, hl.mono zz, fun z => no (ow a z), fr⟩
      rcases zn a z with z | ⟨z, z2 | z2⟩
      · exact nz z
      · exact k z2 _ _ (by rw [List.zip_cons_cons]; exact List.mem_cons_self) ⟨_, rfl⟩ (by rw [e, z])
      · exact no z2
    | bor i =>
      obtain ⟨a, e, h1, h2⟩ := h
      exact ⟨a, e, h1, hol i h2⟩
end
theorem escs_ok {g : Gm} {xc : Xc} {s : At} {H1 : Hp} : ∀ {rs : List RV} {us : List V} {xs : List Val} {Z1 : Addr → Prop} {e1 e2 : Env}, PostE g xc s.pa s.Zs s.H s.σ s.env Z1 H1 e1 → RRs g s Z1 H1 s.σ e1 rs us → escs e1 rs = .ok xs e2 →
    ∃ Z2, PostE g xc s.pa s.Zs s.H s.σ s.env Z2 H1 e2 ∧ RvL g Z2 H1 xs us ∧ ∀ a, Z1 a → Z2 a
  | [], _, xs, Z1, e1, e2, P, .nil, h => by cases h; exact ⟨Z1, P, .nil, fun _ h => h⟩
  | r :: rs, u :: us, xs, Z1, e1, e2, P, .cons hR hT n, h => by
    rw [escs_cons] at h
    cases h1 : esc e1 r with
    | no => rw [h1] at h; cases h
    | ex c fs e => rw [h1] at h; cases h
    | ok x e =>
      rw [h1, Rs.bind_ok] at h
      cases h2 : escs e rs with
      | no => rw [h2] at h; cases h
      | ex c fs e => rw [h2] at h; cases h
      | ok ys e' =>
        rw [h2, Rs.bind_ok] at h
        cases h
        obtain ⟨Z2, P2, rv, zz, zn, hol, ow⟩ := esc_ok P hR h1
        obtain ⟨Z3, P3, rl, zz3⟩ := escs_ok P2 (RRs.after zz zn hol ow hT fun ⟨y, ey⟩ => n y ey) h2
        exact ⟨Z3, P3, .cons (rv.gr (Grow.of zz3)) rl, fun a h => zz3 a (zz a h)⟩
theorem RRs.mem {g : Gm} {s : At} {Z1 : Addr → Prop} {H1 : Hp} {σ : L2.St} {e1 : Env} : ∀ {rs : List RV} {us : List V} {y : RV} {w : V}, RRs g s Z1 H1 σ e1 rs us → (y, w) ∈ rs.zip us → RR g s Z1 H1 σ e1 y w
  | [], _, _, _, .nil, h => by cases h
  | r :: rs, u :: us, y, w, .cons h t _, hm => by
    rw [List.zip_cons_cons] at hm
    rcases List.mem_cons.mp hm with e | hm
    · cases e; exact h
    · exact RRs.mem t hm
section
variable {X : Cx} {xc : Xc} {W : WX} {pos : Pos}
theorem sa_nil : SA X xc W [] asNil := PA_imp pa_nil fun σ H Q ⟨pa, Zs, env, re, h⟩ => h [] Zs H (PostE.refl re) .nil
theorem cons_end {g : Gm} {fa : E} {fr : As} {σ : L2.St} {H : Hp} {Q : List V → Hp → Prop} (h : rdA g xc W (asCons fa fr) σ H Q) : tCons (rd g xc W fa) (rdA g xc W fr) σ H Q := by
  obtain ⟨pa, Zs, env, re, h⟩ := h
  refine ⟨pa, Zs, env, re, h.cont fun r e1 u Z1 H1 _ p1 q1 h => ?_⟩
  refine ⟨pa, Z1, e1, p1.re, (h.shift p1 (R2 := relA g ⟨pa, Zs, H, σ, env⟩) fun _ _ _ _ _ _ r => r).cont (R1 := relA g ⟨pa, Z1, H1, σ, e1⟩) fun rs e2 us Z2 H2 _ p2 q2 h => ?_⟩
  refine h (u :: us) Z2 H2 p2 (.cons (q1.step p1.re p2) (q2.back p1) fun x ex y w hm ⟨z, ez⟩ ew => ?_)
  subst ex ez ew
  obtain ⟨a, ea, nz, hl, no, fr⟩ := q1
  obtain ⟨b, eb, _, _, _, fr2⟩ := q2.mem hm
  rw [ea] at eb
  cases eb
  rcases fr2 with f | f
  · exact no f
  · obtain ⟨o, ho, _⟩ := hl.wr
    have f' : H1 a = none := f
    rw [f'] at ho; cases ho
theorem sa_cons {e : Expr} {es : List Expr} {fa : E} {fr : As} (ha : SE X xc W e fa) (hr : SA X xc W es fr) (hs : starEach (e :: es) X.env = (false, eval e X.env) :: starEach es X.env := by rfl) : SA X xc W (e :: es) (asCons fa fr) :=
  PA_imp (pa_cons ha hr hs) fun σ H Q h => cons_end h
end
end Z
/-! Z5: displays, equality, None, built-in calls, items, slices. -/
namespace Z
open PySem L2 PySem.Spec
section
variable {X : Cx} {xc : Xc} {W : WX} {pos : Pos}
/-- an operator's answer, from where one stands -/
theorem Ans.at {g : Gm} {s : At} {Q : VK} {Z1 : Addr → Prop} {H1 : Hp} {e1 : Env} {r : RV} (h : End g xc s (relE g s) (.ok r e1) W Q) (p : PostE g xc s.pa s.Zs s.H s.σ s.env Z1 H1 e1) (hr : ∀ i, r ≠ .bor i) : Ans g Z1 H1 r Q := Ans.of h p hr
theorem se_tup {es : List Expr} {x1} {fa : As} (ha : SA X xc W es fa) : SE X xc W (.Tuple es x1 pos) (eTup fa) := by
  refine PE_imp (pe_tup ha) fun σ H Q h => ?_
  obtain ⟨pa, Zs, env, re, h⟩ := h
  refine ⟨pa, Zs, env, re, h.cont fun rs e1 us Z1 H1 _ p1 q1 h => ?_⟩
  cases h1 : escs e1 rs with
  | no => rw [h1] at h; exact h.elim
  | ex c fs e =>
    exfalso
    have : ∀ (rs : List RV) (e : Env) c fs e', escs e rs ≠ .ex c fs e' := by
      intro rs
      induction rs with
      | nil => intro e c fs e' h; cases h
      | cons r rs ih =>
        intro e c fs e' h
        rw [escs_cons] at h
        cases h1 : esc e r with
        | no => rw [h1] at h; cases h
        | ex c fs e =>
          cases r with
          | v x => cases h1
          | own x => cases h1
          | bor i =>
            rw [esc_bor] at h1
            split at h1 <;> cases h1
        | ok x e1 =>
          rw [h1, Rs.bind_ok] at h
          cases h2 : escs e1 rs with
          | no => rw [h2] at h; cases h
          | ex c fs e => exact ih _ _ _ _ h2
          | ok x e2 => rw [h2] at h; cases h
    exact this _ _ _ _ _ h1
  | ok xs e2 =>
    rw [h1, Rs.bind_ok] at h
    obtain ⟨Z2, P2, rl, _⟩ := escs_ok p1 q1 h1
    by_cases c : xs.length ≤ sizeMax
    · rw [if_pos c] at h
      have A := Ans.of h P2 (fun i e => by cases e)
      exact ⟨by rw [← rl.length, ← szm]; exact c, fun p hp => A.tup P2.re.zd rl hp⟩
    · rw [if_neg c] at h
      exact h.elim
theorem escs_ex : ∀ (rs : List RV) (e : Env) (c : Str) (fs : List (Str × Val)) (e' : Env), escs e rs ≠ .ex c fs e'
  | [], _, _, _, _, h => by cases h
  | r :: rs, e, c, fs, e', h => by
    rw [escs_cons] at h
    cases h1 : esc e r with
    | no => rw [h1] at h; cases h
    | ex c fs e =>
      cases r with
      | v x => cases h1
      | own x => cases h1
      | bor i =>
        rw [esc_bor] at h1
        split at h1 <;> cases h1
    | ok x e1 =>
      rw [h1, Rs.bind_ok] at h
      cases h2 : escs e1 rs with
      | no => rw [h2] at h; cases h
      | ex c fs e => exact escs_ex _ _ _ _ _ h2
      | ok x e2 => rw [h2] at h; cases h
theorem se_lst {es : List Expr} {fa : As} (ha : SA X xc W es fa) : SE X xc W (.List es pos) (eLst fa) := by
  refine PE_imp (pe_lst ha) fun σ H Q h => ?_
  obtain ⟨pa, Zs, env, re, h⟩ := h
  refine ⟨pa, Zs, env, re, h.cont fun rs e1 us Z1 H1 _ p1 q1 h => ?_⟩
  cases h1 : escs e1 rs with
  | no => rw [h1] at h; exact h.elim
  | ex c fs e => exact absurd h1 (escs_ex _ _ _ _ _)
  | ok xs e2 =>
    rw [h1, Rs.bind_ok] at h
    obtain ⟨Z2, P2, rl, _⟩ := escs_ok p1 q1 h1
    by_cases c : xs.length ≤ sizeMax
    · rw [if_pos c] at h
      have A := Ans.of h P2 (fun i e => by cases e)
      exact ⟨by rw [← rl.length, ← szm]; exact c, fun p hp => A.lst P2.re.zd rl hp⟩
    · rw [if_neg c] at h
      exact h.elim

/-! ### built-in calls -/
structure CallS (X : Cx) (F : Value) (f : List Val → Option RV) : Prop where
  ex : ∃ r, CallR X F r ∧ ∀ (Zs : Addr → Prop) (H : Hp) (xs : List Val) (z : RV) (us : List V) (Q : VK), Zd Zs H → f xs = some z → RdL (gX X) Zs H xs us → Ans (gX X) Zs H z Q → r us H Q
  nb : ∀ xs i, f xs ≠ some (.bor i)
theorem call_end {f : List Val → Option RV} {r : List V → Hp → VK → Prop} (hr : ∀ (Zs : Addr → Prop) (H : Hp) (xs : List Val) (z : RV) (us : List V) (Q : VK), Zd Zs H → f xs = some z → RdL (gX X) Zs H xs us → Ans (gX X) Zs H z Q → r us H Q) (nb : ∀ xs i, f xs ≠ some (.bor i))
    {a : As} {σ : L2.St} {H : Hp} {Q : VK} (h : rd (gX X) xc W (eB f a) σ H Q) : tCB r (rdA (gX X) xc W a) σ H Q := by
  obtain ⟨pa, Zs, env, re, h⟩ := h
  refine ⟨pa, Zs, env, re, h.cont fun rs e1 us Z1 H1 _ p1 q1 h => ?_⟩
  cases h1 : peeks e1 rs with
  | none => rw [h1] at h; exact h.elim
  | some xs =>
    rw [h1] at h
    cases h3 : f xs with
    | none => simp only [opt_some, Rs.bind_ok, h3, opt_none] at h; exact h.elim
    | some z =>
      simp only [opt_some, Rs.bind_ok, h3] at h
      exact hr Z1 H1 xs z us Q p1.re.zd h3 (peeks_rd p1.re q1 h1) (Ans.of h p1 fun i e => nb xs i (by rw [h3, e]))
theorem se_callB {x : Str} {id : String} {p : Pos} {e : Expr} {es : List Expr} {f : List Val → Option RV} {fa : As} (hc : CallS X (.builtin id) f) (hm : X.mg x = none) (ha : SA X xc W (e :: es) fa) (hv : bootBuiltins x = some (.builtin id) := by first | rfl | decide +kernel) (hg : Gl X x := by rfl) (hn : x ≠ "__name__" := by decide) (hdb : (x == ("__debug__" : Str)) = false := by decide)
    (he : starEach (e :: es) X.env = (false, eval e X.env) :: starEach es X.env := by rfl) (hpl : (backTo pos (starEach es X.env)).any (·.1) = false := by rfl) : SE X xc W (.Call (.Name x p) (e :: es) [] pos) (eB f fa) := by
  obtain ⟨r, h1, h2⟩ := hc.ex
  exact PE_imp (pe_callB h1 hg hm hv ha hn hdb he hpl) fun σ H Q h => call_end h2 hc.nb h
theorem se_callTy {x : Str} {T : String} {p : Pos} {e : Expr} {es : List Expr} {f : List Val → Option RV} {fa : As} (hc : CallS X (.type T) f) (hm : X.mg x = none) (ha : SA X xc W (e :: es) fa) (hv : bootBuiltins x = some (.type T) := by first | rfl | decide +kernel) (hg : Gl X x := by rfl) (hn : x ≠ "__name__" := by decide) (hdb : (x == ("__debug__" : Str)) = false := by decide)
    (he : starEach (e :: es) X.env = (false, eval e X.env) :: starEach es X.env := by rfl) (hpl : (backTo pos (starEach es X.env)).any (·.1) = false := by rfl) : SE X xc W (.Call (.Name x p) (e :: es) [] pos) (eB f fa) := by
  obtain ⟨r, h1, h2⟩ := hc.ex
  exact PE_imp (pe_callTy h1 hg hm hv ha hn hdb he hpl) fun σ H Q h => call_end h2 hc.nb h
/-- a module's name for a built-in function -/
theorem se_callM {x : Str} {id : String} {p : Pos} {e : Expr} {es : List Expr} {f : List Val → Option RV} {fa : As} (hc : CallS X (.builtin id) f) (hm : X.mg x = some (.builtin id)) (ha : SA X xc W (e :: es) fa) (hg : Gl X x := by rfl) (hdb : (x == ("__debug__" : Str)) = false := by decide)
    (he : starEach (e :: es) X.env = (false, eval e X.env) :: starEach es X.env := by rfl) (hpl : (backTo pos (starEach es X.env)).any (·.1) = false := by rfl) : SE X xc W (.Call (.Name x p) (e :: es) [] pos) (eB f fa) := by
  obtain ⟨r, h1, h2⟩ := hc.ex
  exact PE_imp (pe_callBfun h1 hg hm ha hdb he hpl) fun σ H Q h => call_end h2 hc.nb h
theorem RdL.one {g : Gm} {Zs : Addr → Prop} {H : Hp} {x : Val} {us : List V} (h : RdL g Zs H [x] us) : ∃ u, us = [u] ∧ RdV g Zs H x u := by
  cases h with
  | cons h t => cases t; exact ⟨_, rfl, h⟩
theorem RdL.two {g : Gm} {Zs : Addr → Prop} {H : Hp} {x y : Val} {us : List V} (h : RdL g Zs H [x, y] us) : ∃ u w, us = [u, w] ∧ RdV g Zs H x u ∧ RdV g Zs H y w := by
  cases h with
  | cons h t =>
    obtain ⟨w, rfl, k⟩ := t.one
    exact ⟨_, w, rfl, h, k⟩
def fAbs : List Val → Option RV
  | [.int i] => some (.v (.int (if i < 0 then -i else i)))
  | _ => none
def fInt : List Val → Option RV
  | [.int i] => some (.v (.int i))
  | [.bl b] => some (.v (.int (if b then 1 else 0)))
  | _ => none
def fMin2 : List Val → Option RV
  | [.int i, .int j] => some (.v (.int (if j < i then j else i)))
  | _ => none
def fMax2 : List Val → Option RV
  | [.int i, .int j] => some (.v (.int (if j > i then j else i)))
  | _ => none
def fLen : List Val → Option RV
  | [.lst xs] => some (.v (.int xs.length))
  | [.tup xs] => some (.v (.int xs.length))
  | [.str s] => if s.length ≤ sizeMax then some (.v (.int s.length)) else none
  | [.scr ns] => some (.v (.int ns.length))
  | _ => none
def fSum : List Val → Option RV
  | [.lst xs] => match ints? xs with
    | some ns => some (.v (.int ns.sum))
    | none => none
  | _ => none
def fGcd : List Val → Option RV
  | [.int i, .int j] => some (.v (.int ((Nat.gcd i.natAbs j.natAbs : Nat) : Int)))
  | _ => none
def fList : List Val → Option RV
  | [.lst xs] => some (.own (.lst xs))
  | [.tup xs] => some (.own (.lst xs))
  | _ => none
def fTuple : List Val → Option RV
  | [.lst xs] => some (.v (.tup xs))
  | [.tup xs] => some (.v (.tup xs))
  | _ => none
@[simp] theorem fAbs_int (i : Int) : fAbs [.int i] = some (.v (.int (if i < 0 then -i else i))) := rfl
@[simp] theorem fInt_int (i : Int) : fInt [.int i] = some (.v (.int i)) := rfl
@[simp] theorem fInt_bl (b : Bool) : fInt [.bl b] = some (.v (.int (if b then 1 else 0))) := rfl
@[simp] theorem fMin2_int (i j : Int) : fMin2 [.int i, .int j] = some (.v (.int (if j < i then j else i))) := rfl
@[simp] theorem fMax2_int (i j : Int) : fMax2 [.int i, .int j] = some (.v (.int (if j > i then j else i))) := rfl
@[simp] theorem fLen_lst (xs : List Val) : fLen [.lst xs] = some (.v (.int xs.length)) := rfl
@[simp] theorem fLen_scr (ns : List Int) : fLen [.scr ns] = some (.v (.int ns.length)) := rfl
@[simp] theorem fLen_tup (xs : List Val) : fLen [.tup xs] = some (.v (.int xs.length)) := rfl
@[simp] theorem fLen_str (s : Str) : fLen [.str s] = if s.length ≤ sizeMax then some (.v (.int s.length)) else none := rfl
@[simp] theorem fSum_lst (xs : List Val) : fSum [.lst xs] = match ints? xs with | some ns => some (.v (.int ns.sum)) | none => none := rfl
@[simp] theorem fGcd_int (i j : Int) : fGcd [.int i, .int j] = some (.v (.int ((Nat.gcd i.natAbs j.natAbs : Nat) : Int))) := rfl
@[simp] theorem fList_lst (xs : List Val) : fList [.lst xs] = some (.own (.lst xs)) := rfl
@[simp] theorem fList_tup (xs : List Val) : fList [.tup xs] = some (.own (.lst xs)) := rfl
@[simp] theorem fTuple_lst (xs : List Val) : fTuple [.lst xs] = some (.v (.tup xs)) := rfl
@[simp] theorem fTuple_tup (xs : List Val) : fTuple [.tup xs] = some (.v (.tup xs)) := rfl
theorem cs_abs : CallS X (.builtin "abs") fAbs := by
  have cs : ∀ {xs z}, fAbs xs = some z → ∃ i, xs = [.int i] ∧ z = .v (.int (if i < 0 then -i else i)) := fun {xs z} h => by
    unfold fAbs at h; split at h <;> cases h; exact ⟨_, rfl, rfl⟩
  refine ⟨⟨_, call_abs, fun Zs H xs z us Q zd hf hx q => ?_⟩, fun xs i h => ?_⟩
  · obtain ⟨i, rfl, rfl⟩ := cs hf
    obtain ⟨u, rfl, h⟩ := hx.one
    exact ⟨i, by rw [h.int], q.val zd (.int _)⟩
  · obtain ⟨_, _, e⟩ := cs h; cases e
theorem cs_int : CallS X (.type "int") fInt := by
  have cs : ∀ {xs z}, fInt xs = some z → (∃ i, xs = [.int i] ∧ z = .v (.int i)) ∨ ∃ b : Bool, xs = [.bl b] ∧ z = .v (.int (if b then 1 else 0)) := fun {xs z} h => by
    unfold fInt at h; split at h <;> cases h
    · exact .inl ⟨_, rfl, rfl⟩
    · exact .inr ⟨_, rfl, rfl⟩
  refine ⟨⟨_, call_int1, fun Zs H xs z us Q zd hf hx q => ?_⟩, fun xs i h => ?_⟩
  · rcases cs hf with ⟨i, rfl, rfl⟩ | ⟨b, rfl, rfl⟩
    · obtain ⟨u, rfl, h⟩ := hx.one
      exact .inl ⟨i, by rw [h.int], q.val zd (.int _)⟩
    · obtain ⟨u, rfl, h⟩ := hx.one
      exact .inr ⟨b, by rw [h.bl], q.val zd (.int _)⟩
  · rcases cs h with ⟨_, _, e⟩ | ⟨_, _, e⟩ <;> cases e
theorem cs_min2 (hc : X.calm = true) : CallS X (.builtin "min") fMin2 := by
  have cs : ∀ {xs z}, fMin2 xs = some z → ∃ i j, xs = [.int i, .int j] ∧ z = .v (.int (if j < i then j else i)) := fun {xs z} h => by
    unfold fMin2 at h; split at h <;> cases h; exact ⟨_, _, rfl, rfl⟩
  refine ⟨⟨_, call_min2 hc, fun Zs H xs z us Q zd hf hx q => ?_⟩, fun xs i h => ?_⟩
  · obtain ⟨i, j, rfl, rfl⟩ := cs hf
    obtain ⟨u, w, rfl, h, k⟩ := hx.two
    exact ⟨i, j, by rw [h.int, k.int], q.val zd (.int _)⟩
  · obtain ⟨_, _, _, e⟩ := cs h; cases e
theorem cs_max2 (hc : X.calm = true) : CallS X (.builtin "max") fMax2 := by
  have cs : ∀ {xs z}, fMax2 xs = some z → ∃ i j, xs = [.int i, .int j] ∧ z = .v (.int (if j > i then j else i)) := fun {xs z} h => by
    unfold fMax2 at h; split at h <;> cases h; exact ⟨_, _, rfl, rfl⟩
  refine ⟨⟨_, call_max2 hc, fun Zs H xs z us Q zd hf hx q => ?_⟩, fun xs i h => ?_⟩
  · obtain ⟨i, j, rfl, rfl⟩ := cs hf
    obtain ⟨u, w, rfl, h, k⟩ := hx.two
    exact ⟨i, j, by rw [h.int, k.int], q.val zd (.int _)⟩
  · obtain ⟨_, _, _, e⟩ := cs h; cases e
theorem cs_gcd : CallS X (.builtin "math.gcd") fGcd := by
  have cs : ∀ {xs z}, fGcd xs = some z → ∃ i j : Int, xs = [.int i, .int j] ∧ z = .v (.int ((Nat.gcd i.natAbs j.natAbs : Nat) : Int)) := fun {xs z} h => by
    unfold fGcd at h; split at h <;> cases h; exact ⟨_, _, rfl, rfl⟩
  refine ⟨⟨_, cr_gcd, fun Zs H xs z us Q zd hf hx q => ?_⟩, fun xs i h => ?_⟩
  · obtain ⟨i, j, rfl, rfl⟩ := cs hf
    obtain ⟨u, w, rfl, h, k⟩ := hx.two
    exact ⟨i, j, by rw [h.int, k.int], q.val zd (.int _)⟩
  · obtain ⟨_, _, _, e⟩ := cs h; cases e
theorem cs_len : CallS X (.builtin "len") fLen := by
  have cs : ∀ {xs z}, fLen xs = some z → (∃ ys, xs = [.lst ys] ∧ z = .v (.int ys.length)) ∨ (∃ ys, xs = [.tup ys] ∧ z = .v (.int ys.length)) ∨ (∃ s : Str, xs = [.str s] ∧ s.length ≤ sizeLine ∧ z = .v (.int s.length)) ∨ ∃ ns : List Int, xs = [.scr ns] ∧ z = .v (.int ns.length) := fun {xs z} h => by
    rw [← szm]
    unfold fLen at h; split at h
    · cases h; exact .inl ⟨_, rfl, rfl⟩
    · cases h; exact .inr (.inl ⟨_, rfl, rfl⟩)
    · split at h <;> cases h
      exact .inr (.inr (.inl ⟨_, rfl, by assumption, rfl⟩))
    · cases h; exact .inr (.inr (.inr ⟨_, rfl, rfl⟩))
    · cases h
  refine ⟨⟨_, call_len, fun Zs H xs z us Q zd hf hx q => ?_⟩, fun xs i h => ?_⟩
  · rcases cs hf with ⟨ys, rfl, rfl⟩ | ⟨ys, rfl, rfl⟩ | ⟨s, rfl, hs, rfl⟩ | ⟨ns, rfl, rfl⟩
    · obtain ⟨u, rfl, h⟩ := hx.one
      obtain ⟨a, ws, rfl, hl, r⟩ := h.lst
      exact ⟨_, ys.length, rfl, .inl ⟨ws, .inl hl, r.length⟩, q.val zd (.int _)⟩
    · obtain ⟨u, rfl, h⟩ := hx.one
      obtain ⟨a, ws, rfl, hl, r⟩ := h.tup
      exact ⟨_, ys.length, rfl, .inr ⟨ws, hl, r.length⟩, q.val zd (.int _)⟩
    · obtain ⟨u, rfl, h⟩ := hx.one
      exact ⟨.str s, s.length, by rw [h.str], ⟨hs, rfl⟩, q.val zd (.int _)⟩
    · obtain ⟨u, rfl, h⟩ := hx.one
      obtain ⟨a, rfl, hl, r⟩ := h.scr
      exact ⟨_, ns.length, rfl, .inl ⟨_, hl, by rw [List.length_map]⟩, q.val zd (.int _)⟩
  · rcases cs h with ⟨_, _, e⟩ | ⟨_, _, e⟩ | ⟨_, _, _, e⟩ | ⟨_, _, e⟩ <;> cases e
theorem cs_sum (hc : X.calm = true) : CallS X (.builtin "sum") fSum := by
  have cs : ∀ {xs z}, fSum xs = some z → ∃ ns : List Int, xs = [.lst (ns.map Val.int)] ∧ z = .v (.int ns.sum) := fun {xs z} h => by
    unfold fSum at h; split at h
    · split at h
      · rename_i ns e
        cases h
        exact ⟨_, by rw [ints?_eq e], rfl⟩
      · cases h
    · cases h
  refine ⟨⟨_, cr_sum hc, fun Zs H xs z us Q zd hf hx q => ?_⟩, fun xs i h => ?_⟩
  · obtain ⟨ns, rfl, rfl⟩ := cs hf
    obtain ⟨u, rfl, h⟩ := hx.one
    obtain ⟨a, ws, rfl, hl, r⟩ := h.lst
    have := r.ints
    subst this
    exact ⟨a, ns, rfl, .inl hl, q.val zd (.int _)⟩
  · obtain ⟨_, _, e⟩ := cs h; cases e
theorem cs_list : CallS X (.type "list") fList := by
  have cs : ∀ {xs z}, fList xs = some z → ∃ ys, (xs = [.lst ys] ∨ xs = [.tup ys]) ∧ z = .own (.lst ys) := fun {xs z} h => by
    unfold fList at h; split at h <;> cases h
    · exact ⟨_, .inl rfl, rfl⟩
    · exact ⟨_, .inr rfl, rfl⟩
  refine ⟨⟨_, call_list_of, fun Zs H xs z us Q zd hf hx q => ?_⟩, fun xs i h => ?_⟩
  · obtain ⟨ys, rfl | rfl, rfl⟩ := cs hf
    · obtain ⟨u, rfl, h⟩ := hx.one
      obtain ⟨a, ws, rfl, hl, r⟩ := h.lst
      exact ⟨a, ws, rfl, .inl (.inl hl), fun l hl => q.lst zd r hl⟩
    · obtain ⟨u, rfl, h⟩ := hx.one
      obtain ⟨a, ws, rfl, hl, r⟩ := h.tup
      exact ⟨a, ws, rfl, .inr hl, fun l hl => q.lst zd r hl⟩
  · obtain ⟨_, _, e⟩ := cs h; cases e
theorem cs_tuple : CallS X (.type "tuple") fTuple := by
  have cs : ∀ {xs z}, fTuple xs = some z → ∃ ys, (xs = [.lst ys] ∨ xs = [.tup ys]) ∧ z = .v (.tup ys) := fun {xs z} h => by
    unfold fTuple at h; split at h <;> cases h
    · exact ⟨_, .inl rfl, rfl⟩
    · exact ⟨_, .inr rfl, rfl⟩
  refine ⟨⟨_, call_tuple_of, fun Zs H xs z us Q zd hf hx q => ?_⟩, fun xs i h => ?_⟩
  · obtain ⟨ys, rfl | rfl, rfl⟩ := cs hf
    · obtain ⟨u, rfl, h⟩ := hx.one
      obtain ⟨a, ws, rfl, hl, r⟩ := h.lst
      exact ⟨a, ws, rfl, .inl ⟨.inl hl, fun l hl => q.tup zd r hl⟩⟩
    · obtain ⟨u, rfl, h⟩ := hx.one
      obtain ⟨a, ws, rfl, hl, r⟩ := h.tup
      exact ⟨a, ws, rfl, .inr ⟨hl, q.val zd (.tup hl r)⟩⟩
  · obtain ⟨_, _, e⟩ := cs h; cases e
end

/-! ### equality -/
mutual
def veq : Val → Val → Bool
  | .non, .non => true
  | .bl a, .bl b => a == b
  | .bl a, .int j => (if a then 1 else 0) == j
  | .int i, .bl b => i == (if b then 1 else 0)
  | .int i, .int j => i == j
  | .str s, .str t => s == t
  | .lst xs, .lst ys => veqs xs ys
  | .tup xs, .tup ys => veqs xs ys
  | _, _ => false
def veqs : List Val → List Val → Bool
  | [], [] => true
  | x :: xs, y :: ys => veq x y && veqs xs ys
  | _, _ => false
end
/-- may be compared: no dicts, no objects, not too deep -/
def vok : Nat → Val → Bool
  | _, .non => true
  | _, .bl _ => true
  | _, .int _ => true
  | _, .str s => s.cps.all (· < 0x110000)
  | n + 1, .lst xs => xs.all (vok n)
  | n + 1, .tup xs => xs.all (vok n)
  | _, _ => false
def fEq (x y : Val) : Option RV := if vok 60 x && vok 60 y then some (.v (.bl (veq x y))) else none
def fNe (x y : Val) : Option RV := if vok 60 x && vok 60 y then some (.v (.bl (!veq x y))) else none
mutual
def toD : Val → PyData
  | .non => .none
  | .bl b => .bool b
  | .int i => .int i
  | .str s => .str s
  | .tup xs => .tuple (toDs xs)
  | .lst xs => .list (toDs xs)
  | .dic _ => .none
  | .obj _ _ => .none
  | .scr _ => .none
def toDs : List Val → List PyData
  | [] => []
  | x :: xs => toD x :: toDs xs
end
theorem toDs_length : ∀ xs : List Val, (toDs xs).length = xs.length
  | [] => rfl
  | x :: xs => by rw [toDs, List.length_cons, List.length_cons, toDs_length xs]
theorem vok_shape : ∀ (n : Nat) (x : Val), vok n x = true → (toD x).canLay0 = true ∧ (toD x).depth ≤ n
  | n, .non, _ => ⟨rfl, Nat.zero_le _⟩
  | n, .bl b, _ => ⟨rfl, Nat.zero_le _⟩
  | n, .int i, _ => ⟨rfl, Nat.zero_le _⟩
  | n, .str s, h => by
    refine ⟨?_, Nat.zero_le _⟩
    cases n <;> exact h
  | 0, .lst xs, h => by cases h
  | 0, .tup xs, h => by cases h
  | n, .dic _, h => by cases n <;> cases h
  | n, .scr _, h => by cases n <;> cases h
  | n, .obj _ _, h => by cases n <;> cases h
  | n + 1, .lst xs, h => by
    have k : PyData.canLayAll0 (toDs xs) = true ∧ PyData.depthAll (toDs xs) ≤ n := by
      have h' : xs.all (vok n) = true := h
      induction xs with
      | nil => exact ⟨rfl, Nat.zero_le _⟩
      | cons x xs ih =>
        rw [List.all_cons, Bool.and_eq_true] at h'
        obtain ⟨i1, i2⟩ := ih h'.2 h'.2
        obtain ⟨j1, j2⟩ := vok_shape n x h'.1
        rw [toDs, PyData.canLayAll0, PyData.depthAll, j1, i1]
        exact ⟨rfl, Nat.max_le.mpr ⟨j2, i2⟩⟩
    rw [toD, PyData.canLay0, PyData.depth]
    exact ⟨k.1, Nat.succ_le_succ k.2⟩
  | n + 1, .tup xs, h => by
    have k : PyData.canLayAll0 (toDs xs) = true ∧ PyData.depthAll (toDs xs) ≤ n := by
      have h' : xs.all (vok n) = true := h
      induction xs with
      | nil => exact ⟨rfl, Nat.zero_le _⟩
      | cons x xs ih =>
        rw [List.all_cons, Bool.and_eq_true] at h'
        obtain ⟨i1, i2⟩ := ih h'.2 h'.2
        obtain ⟨j1, j2⟩ := vok_shape n x h'.1
        rw [toDs, PyData.canLayAll0, PyData.depthAll, j1, i1]
        exact ⟨rfl, Nat.max_le.mpr ⟨j2, i2⟩⟩
    rw [toD, PyData.canLay0, PyData.depth]
    exact ⟨k.1, Nat.succ_le_succ k.2⟩
theorem vok_toD {x : Val} (h : vok 60 x = true) : SeqAt.shaped (toD x) = true := by
  obtain ⟨h1, h2⟩ := vok_shape 60 x h
  unfold SeqAt.shaped
  rw [h1, Bool.true_and]
  exact decide_eq_true (by omega)
theorem veqs_toD {n : Nat} (ih : ∀ (x y : Val), vok n x = true → vok n y = true → PyData.eqv (toD x) (toD y) = veq x y) : ∀ (xs ys : List Val), xs.all (vok n) = true → ys.all (vok n) = true → PyData.eqvAll (toDs xs) (toDs ys) = veqs xs ys
  | [], [], _, _ => rfl
  | [], _ :: _, _, _ => rfl
  | _ :: _, [], _, _ => rfl
  | x :: xs, y :: ys, h, k => by
    rw [List.all_cons, Bool.and_eq_true] at h k
    rw [toDs, toDs, PyData.eqvAll, veqs, ih x y h.1 k.1, veqs_toD ih xs ys h.2 k.2]
theorem veq_toD : ∀ (n : Nat) (x y : Val), vok n x = true → vok n y = true → PyData.eqv (toD x) (toD y) = veq x y
  | 0, x, y, h, k => by
    cases x <;> first | (cases h; done) | skip
    all_goals (cases y <;> first | (cases k; done) | skip)
    all_goals simp [toD, PyData.eqv, veq]
  | n + 1, x, y, h, k => by
    cases x <;> first | (cases h; done) | skip
    all_goals (cases y <;> first | (cases k; done) | skip)
    all_goals first
      | (simp [toD, PyData.eqv, veq]; done)
      | (rw [toD, toD, PyData.eqv, veq]; exact veqs_toD (veq_toD n) _ _ h k)
mutual
theorem RvV.dp {g : Gm} {Zs : Addr → Prop} {H : Hp} : ∀ (n : Nat) {x : Val} {u : V}, RvV g Zs H x u → vok n x = true → Dp g.K H u (toD x)
  | _, _, _, .non, _ => .non
  | _, _, _, .bl b, _ => .bl b
  | _, _, _, .int i, _ => .int i
  | _, _, _, .str s, _ => .str s
  | n + 1, _, _, .tup h r, k => .tup h (RvL.dp n r k)
  | n + 1, _, _, .lst h r, k => .lst h.sq (RvL.dp n r k)
  | 0, _, _, .tup _ _, k => by cases k
  | 0, _, _, .lst _ _, k => by cases k
  | n, _, _, .dic _ _ _, k => by cases n <;> cases k
  | n, _, _, .obj _ _ _ _, k => by cases n <;> cases k
  | n, _, _, .scr _, k => by cases n <;> cases k
theorem RvL.dp {g : Gm} {Zs : Addr → Prop} {H : Hp} : ∀ (n : Nat) {xs : List Val} {us : List V}, RvL g Zs H xs us → xs.all (vok n) = true → DpAll g.K H us (toDs xs)
  | _, _, _, .nil, _ => .nil
  | n, _, _, .cons h r, k => by
    rw [List.all_cons, Bool.and_eq_true] at k
    exact .cons (RvV.dp n h k.1) (RvL.dp n r k.2)
end
theorem RdV.dp {g : Gm} {Zs : Addr → Prop} {H : Hp} {x : Val} {u : V} (h : RdV g Zs H x u) (k : vok 60 x = true) : Dp g.K H u (toD x) := by
  rcases h with h | ⟨a, rfl, h⟩
  · exact h.dp 60 k
  · cases x with
    | lst xs =>
      obtain ⟨us, h, r⟩ := h
      exact .lst (SqL.of h) (r.dp 59 k)
    | dic kvs => cases k
    | obj c fs => cases k
    | _ => exact h.elim
theorem fEq_some {x y : Val} {z : RV} (h : fEq x y = some z) : vok 60 x = true ∧ vok 60 y = true ∧ z = .v (.bl (veq x y)) := by
  unfold fEq at h
  split at h
  · rename_i c
    rw [Bool.and_eq_true] at c
    cases h
    exact ⟨c.1, c.2, rfl⟩
  · cases h
theorem fNe_some {x y : Val} {z : RV} (h : fNe x y = some z) : vok 60 x = true ∧ vok 60 y = true ∧ z = .v (.bl (!veq x y)) := by
  unfold fNe at h
  split at h
  · rename_i c
    rw [Bool.and_eq_true] at c
    cases h
    exact ⟨c.1, c.2, rfl⟩
  · cases h
section
variable {X : Cx}
theorem os_eq (hu : X.A.units + 64 < cLine) : OpS X (compareOp .Eq) fEq := by
  refine ⟨⟨_, op_eqD hu, fun Zs H x y z u w Q zd hf hx hy q => ?_⟩, fun x y i h => ?_⟩
  · obtain ⟨h1, h2, rfl⟩ := fEq_some hf
    exact ⟨_, _, hx.dp h1, hy.dp h2, vok_toD h1, vok_toD h2, by rw [veq_toD 60 x y h1 h2]; exact q.val zd (.bl _)⟩
  · obtain ⟨_, _, e⟩ := fEq_some h; cases e
theorem os_ne (hu : X.A.units + 64 < cLine) : OpS X (compareOp .NotEq) fNe := by
  refine ⟨⟨_, op_neD hu, fun Zs H x y z u w Q zd hf hx hy q => ?_⟩, fun x y i h => ?_⟩
  · obtain ⟨h1, h2, rfl⟩ := fNe_some hf
    exact ⟨_, _, hx.dp h1, hy.dp h2, vok_toD h1, vok_toD h2, by rw [veq_toD 60 x y h1 h2]; exact q.val zd (.bl _)⟩
  · obtain ⟨_, _, e⟩ := fNe_some h; cases e
theorem bl_eq : ∀ x y z, fEq x y = some z → ∃ k, z = .v (.bl k) := fun x y z h => ⟨_, (fEq_some h).2.2⟩
theorem bl_ne : ∀ x y z, fNe x y = some z → ∃ k, z = .v (.bl k) := fun x y z h => ⟨_, (fNe_some h).2.2⟩
end

/-! ### is -/
def isN : Val → Bool
  | .non => true
  | _ => false
@[simp] theorem isN_non : isN .non = true := rfl
@[simp] theorem isN_bl (b : Bool) : isN (.bl b) = false := rfl
@[simp] theorem isN_int (i : Int) : isN (.int i) = false := rfl
@[simp] theorem isN_str (s : Str) : isN (.str s) = false := rfl
@[simp] theorem isN_tup (xs : List Val) : isN (.tup xs) = false := rfl
@[simp] theorem isN_lst (xs : List Val) : isN (.lst xs) = false := rfl
@[simp] theorem isN_dic (xs : List (Val × Val)) : isN (.dic xs) = false := rfl
@[simp] theorem isN_obj (c : Str) (fs : List (Str × Val)) : isN (.obj c fs) = false := rfl
def fIs : Val → Val → Option RV
  | x, .non => some (.v (.bl (isN x)))
  | .bl a, .bl b => some (.v (.bl (decide (a = b))))
  | _, _ => none
def fIsNot : Val → Val → Option RV
  | x, .non => some (.v (.bl (!isN x)))
  | .bl a, .bl b => some (.v (.bl (!decide (a = b))))
  | _, _ => none
@[simp] theorem fIs_non (x : Val) : fIs x .non = some (.v (.bl (isN x))) := by cases x <;> rfl
@[simp] theorem fIs_bl (a b : Bool) : fIs (.bl a) (.bl b) = some (.v (.bl (decide (a = b)))) := rfl
@[simp] theorem fIsNot_non (x : Val) : fIsNot x .non = some (.v (.bl (!isN x))) := by cases x <;> rfl
@[simp] theorem fIsNot_bl (a b : Bool) : fIsNot (.bl a) (.bl b) = some (.v (.bl (!decide (a = b)))) := rfl
theorem RdV.isN {g : Gm} {Zs : Addr → Prop} {H : Hp} {x : Val} {u : V} (h : RdV g Zs H x u) : decide (u = V.non) = isN x := by
  rcases h with h | ⟨a, rfl, h⟩
  · cases h <;> rfl
  · cases x <;> first | rfl | exact h.elim
section
variable {X : Cx}
theorem fIs_cases {x y : Val} {z : RV} (h : fIs x y = some z) : (y = .non ∧ z = .v (.bl (isN x))) ∨ ∃ a b : Bool, x = .bl a ∧ y = .bl b ∧ z = .v (.bl (decide (a = b))) := by
  unfold fIs at h
  split at h <;> cases h
  · exact .inl ⟨rfl, rfl⟩
  · exact .inr ⟨_, _, rfl, rfl, rfl⟩
theorem fIsNot_cases {x y : Val} {z : RV} (h : fIsNot x y = some z) : (y = .non ∧ z = .v (.bl (!isN x))) ∨ ∃ a b : Bool, x = .bl a ∧ y = .bl b ∧ z = .v (.bl (!decide (a = b))) := by
  unfold fIsNot at h
  split at h <;> cases h
  · exact .inl ⟨rfl, rfl⟩
  · exact .inr ⟨_, _, rfl, rfl, rfl⟩
theorem os_is : OpS X (compareOp .Is) fIs := by
  refine ⟨⟨_, op_isN.or op_isBl, fun Zs H x y z u w Q zd hf hx hy q => ?_⟩, fun x y i h => ?_⟩
  · rcases fIs_cases hf with ⟨rfl, rfl⟩ | ⟨a, b, rfl, rfl, rfl⟩
    · exact .inl ⟨hy.non, by rw [hx.isN]; exact q.val zd (.bl _)⟩
    · exact .inr ⟨a, b, hx.bl, hy.bl, q.val zd (.bl _)⟩
  · rcases fIs_cases h with ⟨_, e⟩ | ⟨_, _, _, _, e⟩ <;> cases e
theorem os_isNot : OpS X (compareOp .IsNot) fIsNot := by
  refine ⟨⟨_, op_notN.or op_notBl, fun Zs H x y z u w Q zd hf hx hy q => ?_⟩, fun x y i h => ?_⟩
  · rcases fIsNot_cases hf with ⟨rfl, rfl⟩ | ⟨a, b, rfl, rfl, rfl⟩
    · exact .inl ⟨hy.non, by rw [hx.isN]; exact q.val zd (.bl _)⟩
    · exact .inr ⟨a, b, hx.bl, hy.bl, q.val zd (.bl _)⟩
  · rcases fIsNot_cases h with ⟨_, e⟩ | ⟨_, _, _, _, e⟩ <;> cases e
theorem bl_is : ∀ x y z, fIs x y = some z → ∃ k, z = .v (.bl k) := fun x y z h => by
  rcases fIs_cases h with ⟨_, e⟩ | ⟨_, _, _, _, e⟩ <;> exact ⟨_, e⟩
theorem bl_isNot : ∀ x y z, fIsNot x y = some z → ∃ k, z = .v (.bl k) := fun x y z h => by
  rcases fIsNot_cases h with ⟨_, e⟩ | ⟨_, _, _, _, e⟩ <;> exact ⟨_, e⟩
end

/-! ### isinstance -/
inductive Bt where
  | non | bl | int | str | tup | lst | dic
  deriving DecidableEq
def Bt.name : Bt → String
  | .non => "NoneType"
  | .bl => "bool"
  | .int => "int"
  | .str => "str"
  | .tup => "tuple"
  | .lst => "list"
  | .dic => "dict"
def isB : Bt → Bt → Bool
  | .int, .bl => true
  | T, t => T == t
theorem isB_kit (T t : Bt) : kitB t.name T.name = some (isB T t) := by cases T <;> cases t <;> decide +kernel
def btOf : Val → Option Bt
  | .non => some .non
  | .bl _ => some .bl
  | .int _ => some .int
  | .str _ => some .str
  | .tup _ => some .tup
  | .lst _ => some .lst
  | .dic _ => some .dic
  | .obj _ _ => none
  | .scr _ => none
def fIsi (Ts : List Bt) (x : Val) : Option RV := match btOf x with
  | some t => some (.v (.bl (Ts.any fun T => isB T t)))
  | none => none
theorem fIsi_some {Ts : List Bt} {x : Val} {z : RV} (h : fIsi Ts x = some z) : ∃ t, btOf x = some t ∧ z = .v (.bl (Ts.any fun T => isB T t)) := by
  unfold fIsi at h
  split at h
  · cases h; exact ⟨_, by assumption, rfl⟩
  · cases h
theorem SqT.ty {K : PySem.W.Frag} {H : Hp} {a : Addr} {us : List V} (h : SqT K H a us) : TyX K H (.ref a) (.type "tuple") := by
  rcases h with (h | ⟨o, h⟩) | ⟨o, its, n, h1, h2, _⟩
  · exact .base (.tup h)
  · exact .fTuple h
  · exact .kTuple h1 h2
theorem RdV.ty {g : Gm} {Zs : Addr → Prop} {H : Hp} {x : Val} {u : V} {t : Bt} (h : RdV g Zs H x u) (e : btOf x = some t) : TyX g.K H u (.type t.name) := by
  cases x with
  | non => cases e; rw [h.non]; exact .base .non
  | bl b => cases e; rw [h.bl]; exact .base (.bl b)
  | int i => cases e; rw [h.int]; exact .base (.int i)
  | str s => cases e; rw [h.str]; exact .base (.str s)
  | tup xs =>
    cases e
    obtain ⟨a, us, rfl, hs, _⟩ := h.tup
    exact SqT.ty hs
  | lst xs =>
    cases e
    obtain ⟨a, us, rfl, hs | ⟨o, hs⟩, _⟩ := h.lst
    · exact .base (.lst hs)
    · exact .base (.frz hs)
  | dic kvs =>
    cases e
    obtain ⟨a, us, rfl, hs | ⟨o, hs⟩, _⟩ := h.dic
    · exact .base (.dK hs)
    · exact .fDict hs
  | obj c fs => cases e
  | scr ns => cases e
section
variable {X : Cx} {xc : Xc} {W : WX} {pos : Pos}
theorem se_isi {e : Expr} {fa : E} {n : Str} {T : Bt} {p p2 : Pos} (hm : X.mg "isinstance" = none) (hn : X.mg n = none) (ha : SE X xc W e fa) (hv : bootBuiltins n = some (.type T.name) := by first | rfl | decide +kernel)
    (hg : Gl X "isinstance" := by rfl) (hg2 : Gl X n := by rfl) (hnn : n ≠ "__name__" := by decide) (hnd : (n == ("__debug__" : Str)) = false := by decide) (he : starEach [e, .Name n p2] X.env = (false, eval e X.env) :: starEach [.Name n p2] X.env := by rfl) :
    SE X xc W (.Call (.Name "isinstance" p) [e, .Name n p2] [] pos) (eUn (fIsi [T]) fa) := by
  have hT : PE X (.Name n p2) (tC (.ty T.name)) := pe_bltn hg2 hn hv rfl hnn hnd
  refine PE_imp (pe_callB call_isi hg hm (by decide +kernel) (pa_cons ha (pa_cons hT pa_nil) he) (by decide) (by decide) he) fun σ H Q h => ?_
  refine un_end (r := fun u H1 Q => rIsi X.K [u, .ty T.name] H1 Q) (fun Zs H x z u Q zd hf hx q => ?_) (fun x i h => ?_) h
  · obtain ⟨t, h1, rfl⟩ := fIsi_some hf
    refine ⟨u, .ty T.name, _, _, isB T t, rfl, .ty _, hx.ty h1, kit_ty (isB_kit T t), ?_⟩
    simp only [List.any_cons, List.any_nil, Bool.or_false] at q
    exact q.val zd (.bl _)
  · obtain ⟨t, _, e⟩ := fIsi_some h; cases e
theorem kitAny_bt {K : PySem.W.Frag} (t : Bt) : ∀ Ts : List Bt, PySem.W.kitAny K (.type t.name) (Ts.map fun T => Value.type T.name) = some (Ts.any fun T => isB T t)
  | [] => kitAny_nil
  | T :: Ts => by
    rw [List.map_cons, List.any_cons]
    refine kitAny_cons (kit_ty (isB_kit T t)) (fun h => ?_) fun h => ?_
    · rw [h, Bool.false_or]; exact kitAny_bt t Ts
    · rw [h, Bool.true_or]
/-- isinstance(x, (int, str, ..)) -/
theorem se_isis {e : Expr} {fa : E} {ns : List Expr} {Ts : List Bt} {p : Pos} {k : Nat} {p2 : Pos} (hm : X.mg "isinstance" = none) (ha : SE X xc W e fa)
    (hT : PA X ns (fun _ H Q => Q (Ts.map fun T => V.ty T.name) H)) (hz : Ts.length ≤ 60 := by decide) (hg : Gl X "isinstance" := by rfl) (he : starEach [e, .Tuple ns k p2] X.env = (false, eval e X.env) :: starEach [.Tuple ns k p2] X.env := by rfl) :
    SE X xc W (.Call (.Name "isinstance" p) [e, .Tuple ns k p2] [] pos) (eUn (fIsi Ts) fa) := by
  refine PE_imp (pe_callB call_isiT hg hm (by decide +kernel) (pa_cons ha (pa_cons (pe_tup hT) pa_nil) he) (by decide) (by decide) he) fun σ H Q h => ?_
  refine un_end (r := fun u H1 Q => (Ts.map fun T => V.ty T.name).length ≤ sizeLine ∧ ∀ p, H1 p = none → rIsiT X.K [u, .ref p] (upd H1 p (.tup (Ts.map fun T => V.ty T.name))) Q) (fun Zs H x z u Q zd hf hx q => ?_) (fun x i h => ?_) h
  · obtain ⟨t, h1, rfl⟩ := fIsi_some hf
    refine ⟨by rw [sizeLine_eq, List.length_map]; omega, fun p hp => ⟨u, p, _, _, _, _, rfl, upd_same, ?_, RdV.ty (g := gX X) (Zs := Zs) ?_ h1, kitAny_bt t Ts, q _ Zs _ (Ext.new zd hp) (.bl _)⟩⟩
    · clear hz h q hT hf
      induction Ts with
      | nil => exact .nil
      | cons T Ts ih => exact .cons (.ty _) ih
    · rcases hx with hx | ⟨a, rfl, hx⟩
      · exact .inl (hx.ext (Ext.new zd hp) (fun _ z => z.elim))
      · exact .inr ⟨a, rfl, hx.ext (Ext.new zd hp) (fun _ z => z.elim) (fun z => z)⟩
  · obtain ⟨t, _, e⟩ := fIsi_some h; cases e
end
end Z
/-! Z6: items, slices, in. -/
namespace Z
open PySem L2 PySem.Spec
theorem atV_at {α : Type} {xs : List α} {i : Int} : atV xs i = atI xs i := by
  unfold atV atI ixN
  by_cases h : 0 ≤ i
  · rw [if_pos h, if_pos h]
    by_cases k : i < (xs.length : Int)
    · rw [if_pos k]; rfl
    · rw [if_neg k]
      exact List.getElem?_eq_none_iff.mpr (by omega)
  · rw [if_neg h, if_neg h]
    by_cases k : -(xs.length : Int) ≤ i
    · rw [if_pos k, if_pos (by omega)]; rfl
    · rw [if_neg k, if_neg (by omega)]; rfl
def fIx : Val → Val → Option RV
  | .lst xs, .int i => (atV xs i).map .v
  | .tup xs, .int i => (atV xs i).map .v
  | .str s, .int i => if s.length ≤ sizeMax then (atV s.cps.toList i).map fun c => .v (.str ⟨#[c]⟩) else none
  | .scr ns, .int i => (atV (ns.map Val.int) i).map .v
  | _, _ => none
@[simp] theorem fIx_lst (xs : List Val) (i : Int) : fIx (.lst xs) (.int i) = (atV xs i).map .v := rfl
@[simp] theorem fIx_scr (ns : List Int) (i : Int) : fIx (.scr ns) (.int i) = (atV (ns.map Val.int) i).map .v := rfl
@[simp] theorem fIx_tup (xs : List Val) (i : Int) : fIx (.tup xs) (.int i) = (atV xs i).map .v := rfl
theorem RvL.atV {g : Gm} {Zs : Addr → Prop} {H : Hp} {xs : List Val} {us : List V} {i : Int} {x : Val} (r : RvL g Zs H xs us) (h : atV xs i = some x) : ∃ w, atI us i = some w ∧ RvV g Zs H x w := by
  rw [← atV_at]
  unfold Z.atV at h ⊢
  rw [← r.length]
  split at h
  · rename_i c
    rw [if_pos c]
    exact r.get h
  · rename_i c
    rw [if_neg c]
    split at h
    · rename_i c2
      rw [if_pos c2]
      exact r.get h
    · cases h
section
variable {X : Cx} {xc : Xc} {W : WX} {pos : Pos}
theorem fIx_cases {x y : Val} {z : RV} (h : fIx x y = some z) : (∃ xs i w, x = .lst xs ∧ y = .int i ∧ Z.atV xs i = some w ∧ z = .v w) ∨ (∃ xs i w, x = .tup xs ∧ y = .int i ∧ Z.atV xs i = some w ∧ z = .v w) ∨
    (∃ (s : Str) (i : Int) (c : Nat), x = .str s ∧ y = .int i ∧ s.length ≤ sizeLine ∧ Z.atV s.cps.toList i = some c ∧ z = .v (.str ⟨#[c]⟩)) ∨ ∃ ns i w, x = .scr ns ∧ y = .int i ∧ Z.atV (ns.map Val.int) i = some w ∧ z = .v w := by
  rw [← szm]
  unfold fIx at h
  split at h
  · rename_i xs i
    cases e : Z.atV xs i with
    | none => rw [e] at h; cases h
    | some w => rw [e] at h; cases h; exact .inl ⟨_, _, _, rfl, rfl, e, rfl⟩
  · rename_i xs i
    cases e : Z.atV xs i with
    | none => rw [e] at h; cases h
    | some w => rw [e] at h; cases h; exact .inr (.inl ⟨_, _, _, rfl, rfl, e, rfl⟩)
  · rename_i s i
    split at h
    · cases e : Z.atV s.cps.toList i with
      | none => rw [e] at h; cases h
      | some w => rw [e] at h; cases h; exact .inr (.inr (.inl ⟨_, _, _, rfl, rfl, by assumption, e, rfl⟩))
    · cases h
  · rename_i ns i
    cases e : Z.atV (ns.map Val.int) i with
    | none => rw [e] at h; cases h
    | some w => rw [e] at h; cases h; exact .inr (.inr (.inr ⟨_, _, _, rfl, rfl, e, rfl⟩))
  · cases h
theorem se_ix {a b : Expr} {fa fb : E} (ha : SE X xc W a fa) (hb : SE X xc W b fb) (hs : PlainIx b := by exact fun _ _ => rfl) : SE X xc W (.Subscript a b pos) (eOp fIx fa fb) := by
  refine PE_imp (pe_ix ix_seq ha hb hs) fun σ H Q h => op_end (fun Zs H x y z u w Q zd hf hx hy q => ?_) (fun x y i h => ?_) h
  · rcases fIx_cases hf with ⟨xs, i, v, rfl, rfl, e, rfl⟩ | ⟨xs, i, v, rfl, rfl, e, rfl⟩ | ⟨s, i, c, rfl, rfl, hs, e, rfl⟩ | ⟨ns, i, v, rfl, rfl, e, rfl⟩
    · obtain ⟨a, us, rfl, hl, r⟩ := hx.lst
      obtain ⟨v', e', rv⟩ := r.atV e
      exact .inl ⟨a, us, i, v', rfl, hy.int, .inl hl, e', q.val zd rv⟩
    · obtain ⟨a, us, rfl, hl, r⟩ := hx.tup
      obtain ⟨v', e', rv⟩ := r.atV e
      exact .inr (.inl ⟨a, us, i, v', rfl, hy.int, hl, e', q.val zd rv⟩)
    · exact .inr (.inr ⟨s, i, c, hx.str, hy.int, hs, by rw [← atV_at]; exact e, q.val zd (.str _)⟩)
    · obtain ⟨a, rfl, hl, r⟩ := hx.scr
      obtain ⟨v', e', rv⟩ := r.atV e
      exact .inl ⟨a, _, i, v', rfl, hy.int, hl, e', q.val zd rv⟩
  · rcases fIx_cases h with ⟨_, _, _, _, _, _, e⟩ | ⟨_, _, _, _, _, _, e⟩ | ⟨_, _, _, _, _, _, _, e⟩ | ⟨_, _, _, _, _, _, e⟩ <;> cases e

/-! ### slices -/
def cutG {α : Type} (xs : List α) (lo hi : Option Int) : List α := (xs.drop (HT.sIx xs.length 0 lo)).take (HT.sIx xs.length xs.length hi - HT.sIx xs.length 0 lo)
theorem RvL.cut {g : Gm} {Zs : Addr → Prop} {H : Hp} {xs : List Val} {us : List V} (r : RvL g Zs H xs us) (lo hi : Option Int) : RvL g Zs H (cutG xs lo hi) (cutV us lo hi) := by
  unfold cutG cutV
  rw [r.length]
  exact (r.drop _).take _
def fSl : Val → Option Int → Option Int → Option RV
  | .lst xs, l, u => some (.own (.lst (cutG xs l u)))
  | .tup xs, l, u => some (.v (.tup (cutG xs l u)))
  | .str s, l, u => if s.length ≤ sizeMax then some (.v (.str (cutS s l u))) else none
  | .scr ns, l, u => some (.own (.lst (cutG (ns.map Val.int) l u)))
  | _, _, _ => none
@[simp] theorem fSl_lst (xs : List Val) (l u : Option Int) : fSl (.lst xs) l u = some (.own (.lst (cutG xs l u))) := rfl
@[simp] theorem fSl_scr (ns : List Int) (l u : Option Int) : fSl (.scr ns) l u = some (.own (.lst (cutG (ns.map Val.int) l u))) := rfl
@[simp] theorem fSl_tup (xs : List Val) (l u : Option Int) : fSl (.tup xs) l u = some (.v (.tup (cutG xs l u))) := rfl
@[simp] theorem fSl_str (s : Str) (l u : Option Int) : fSl (.str s) l u = if s.length ≤ sizeMax then some (.v (.str (cutS s l u))) else none := rfl
abbrev relO : (Addr → Prop) → Hp → Env → Option Int → Option Int → Prop := fun _ _ _ k b => k = b
def rdO (g : Gm) (xc : Xc) (W : WX) (f : Env → Rs (Option Int)) : TO := fun σ H Q => ∃ pa Zs env, RE g xc pa Zs H σ env ∧ End g xc ⟨pa, Zs, H, σ, env⟩ relO (f env) W Q
abbrev SO (X : Cx) (xc : Xc) (W : WX) (e : Option Expr) (f : Option E) : Prop := PO X e (rdO (gX X) xc W (oInt f))
theorem PO_imp {X : Cx} {e : Option Expr} {t t' : TO} (h : PO X e t) (k : ∀ σ H Q, t' σ H Q → t σ H Q) : PO X e t' := ⟨fun pins s σ H Q I q => h.run pins s σ H Q I (k σ H Q q)⟩
theorem so_none : SO X xc W none none := PO_imp po_none fun σ H Q ⟨pa, Zs, env, re, h⟩ => h none Zs H (PostE.refl re) rfl
theorem so_some {e : Expr} {f : E} (h : SE X xc W e f) : SO X xc W (some e) (some f) := by
  refine PO_imp (po_some h) fun σ H Q h => ?_
  obtain ⟨pa, Zs, env, re, h⟩ := h
  refine ⟨pa, Zs, env, re, h.cont fun r e1 u Z1 H1 _ p1 q1 h => ?_⟩
  cases r with
  | v x =>
    cases q1 with
    | int i => exact ⟨i, rfl, h _ Z1 H1 p1 rfl⟩
    | _ => exact h.elim
  | own x => exact h.elim
  | bor i => exact h.elim
theorem fSl_cases {x : Val} {l u : Option Int} {z : RV} (h : fSl x l u = some z) : (∃ xs, x = .lst xs ∧ z = .own (.lst (cutG xs l u))) ∨ (∃ xs, x = .tup xs ∧ z = .v (.tup (cutG xs l u))) ∨ (∃ s : Str, x = .str s ∧ s.length ≤ sizeLine ∧ z = .v (.str (cutS s l u))) ∨ ∃ ns, x = .scr ns ∧ z = .own (.lst (cutG (ns.map Val.int) l u)) := by
  rw [← szm]
  unfold fSl at h
  split at h
  · cases h; exact .inl ⟨_, rfl, rfl⟩
  · cases h; exact .inr (.inl ⟨_, rfl, rfl⟩)
  · split at h <;> cases h
    exact .inr (.inr (.inl ⟨_, rfl, by assumption, rfl⟩))
  · cases h; exact .inr (.inr (.inr ⟨_, rfl, rfl⟩))
  · cases h
theorem se_slice {a : Expr} {lo hi : Option Expr} {fa : E} {fl fh : Option E} {p2 : Pos} (ha : SE X xc W a fa) (hl : SO X xc W lo fl) (hh : SO X xc W hi fh) : SE X xc W (.Subscript a (.Slice lo hi none p2) pos) (eSl fSl fa fl fh) := by
  refine PE_imp (pe_slice (sl_list.or (sl_tupA.or sl_str)) ha hl hh) fun σ H Q h => ?_
  obtain ⟨pa, Zs, env, re, h⟩ := h
  refine ⟨pa, Zs, env, re, h.cont fun r1 e1 u1 Z1 H1 _ p1 q1 h => ?_⟩
  refine ⟨pa, Z1, e1, p1.re, (h.shift p1 (R2 := relE (gX X) ⟨pa, Zs, H, σ, env⟩) fun _ _ _ _ _ _ r => r).cont (R1 := relO) fun l e2 l' Z2 H2 _ p2 q2 h => ?_⟩
  cases q2
  refine ⟨pa, Z2, e2, p2.re, (h.shift p2 (R2 := relE (gX X) ⟨pa, Zs, H, σ, env⟩) fun _ _ _ _ _ _ r => r).cont (R1 := relO) fun u e3 u' Z3 H3 _ p3 q3 h => ?_⟩
  cases q3
  have q1' := (q1.step p1.re p2).step p2.re p3
  cases hx : peek e3 r1 with
  | none => rw [hx] at h; exact h.elim
  | some x =>
    rw [hx, opt_some, Rs.bind_ok] at h
    cases h3 : fSl x l u with
    | none => rw [h3] at h; exact h.elim
    | some z =>
      rw [h3, opt_some] at h
      have h' : End (gX X) xc ⟨pa, Z2, H2, σ, e2⟩ (relE (gX X) ⟨pa, Z2, H2, σ, e2⟩) (.ok z e3) W Q := h.shift (PostE.refl p2.re) fun a b Zx Hx e _ r => (r.back (s := ⟨pa, Z1, H1, σ, e1⟩) p2).back (s := ⟨pa, Zs, H, σ, env⟩) p1
      have rx := peek_rd p3.re q1' hx
      rcases fSl_cases h3 with ⟨xs, rfl, rfl⟩ | ⟨xs, rfl, rfl⟩ | ⟨s, rfl, hs, rfl⟩ | ⟨ns, rfl, rfl⟩
      · obtain ⟨a, us, rfl, hl, r⟩ := rx.lst
        have A := Ans.of h' p3 (fun i e => by cases e)
        exact .inl ⟨a, us, rfl, .inl hl, fun p hp => A.lst p3.re.zd (r.cut l u) hp⟩
      · obtain ⟨a, us, rfl, hl, r⟩ := rx.tup
        have A := Ans.of h' p3 (fun i e => by cases e)
        refine .inr (.inl ⟨a, us, rfl, hl, fun hw => A.val p3.re.zd (.tup hl ?_), fun hw p hp => A.tup p3.re.zd (r.cut l u) hp⟩)
        have e : cutG xs l u = xs := by
          unfold cutG
          rw [r.length, hw.1, hw.2, List.drop_zero, Nat.sub_zero, ← r.length, List.take_length]
        rw [e]
        exact r
      · have A := Ans.of h' p3 (fun i e => by cases e)
        exact .inr (.inr ⟨s, rx.str, hs, A.val p3.re.zd (.str _)⟩)
      · obtain ⟨a, rfl, hl, r⟩ := rx.scr
        have A := Ans.of h' p3 (fun i e => by cases e)
        exact .inl ⟨a, _, rfl, hl, fun p hp => A.lst p3.re.zd (r.cut l u) hp⟩

/-! ### in -/
def isFlat : Val → Bool
  | .non => true
  | .bl _ => true
  | .int _ => true
  | .str _ => true
  | _ => false
def fIn : Val → Val → Option RV
  | x, .lst ys => if isFlat x && ys.all isFlat then some (.v (.bl (ys.any fun y => veq y x))) else none
  | x, .tup ys => if isFlat x && ys.all isFlat then some (.v (.bl (ys.any fun y => veq y x))) else none
  | _, _ => none
def fNotIn : Val → Val → Option RV
  | x, .lst ys => if isFlat x && ys.all isFlat then some (.v (.bl (!ys.any fun y => veq y x))) else none
  | x, .tup ys => if isFlat x && ys.all isFlat then some (.v (.bl (!ys.any fun y => veq y x))) else none
  | _, _ => none
theorem RvV.flt1 {g : Gm} {Zs : Addr → Prop} {H : Hp} {x : Val} {u : V} (h : RvV g Zs H x u) (f : isFlat x = true) : flatV u = true := by
  cases h <;> first | rfl | cases f
theorem RvL.flt1 {g : Gm} {Zs : Addr → Prop} {H : Hp} : ∀ {xs : List Val} {us : List V}, RvL g Zs H xs us → xs.all isFlat = true → us.all flatV = true
  | _, _, .nil, _ => rfl
  | _, _, .cons h r, k => by
    rw [List.all_cons, Bool.and_eq_true] at k ⊢
    exact ⟨h.flt1 k.1, RvL.flt1 r k.2⟩
theorem RvV.eqf {g : Gm} {Zs : Addr → Prop} {H : Hp} {x y : Val} {u w : V} (h : RvV g Zs H x u) (k : RvV g Zs H y w) (f : isFlat x = true) (f2 : isFlat y = true) : eqV u w = veq x y := by
  cases h <;> first | (cases f; done) | skip
  all_goals (cases k <;> first | (cases f2; done) | simp [eqV, veq])
theorem RvL.inf {g : Gm} {Zs : Addr → Prop} {H : Hp} {x : Val} {u : V} (h : RvV g Zs H x u) (f : isFlat x = true) : ∀ {ys : List Val} {us : List V}, RvL g Zs H ys us → ys.all isFlat = true → inV u us = ys.any fun y => veq y x
  | _, _, .nil, _ => rfl
  | _, _, .cons k r, ka => by
    rw [List.all_cons, Bool.and_eq_true] at ka
    have ih := RvL.inf h f r ka.2
    unfold inV at ih ⊢
    rw [List.any_cons, List.any_cons, ih, k.eqf h ka.1 f]
theorem RdV.flt1 {g : Gm} {Zs : Addr → Prop} {H : Hp} {x : Val} {u : V} (h : RdV g Zs H x u) (f : isFlat x = true) : RvV g Zs H x u := by
  rcases h with h | ⟨a, rfl, h⟩
  · exact h
  · cases x <;> first | (cases f; done) | exact h.elim
theorem fIn_cases {n : Bool} {x y : Val} {z : RV} (h : (if n then fNotIn x y else fIn x y) = some z) : ∃ ys, (y = .lst ys ∨ y = .tup ys) ∧ isFlat x = true ∧ ys.all isFlat = true ∧ z = .v (.bl (if n then !(ys.any fun y => veq y x) else ys.any fun y => veq y x)) := by
  cases n
  · simp only [Bool.false_eq_true, if_false] at h ⊢
    unfold fIn at h
    split at h
    · split at h <;> cases h
      rename_i c
      rw [Bool.and_eq_true] at c
      exact ⟨_, .inl rfl, c.1, c.2, rfl⟩
    · split at h <;> cases h
      rename_i c
      rw [Bool.and_eq_true] at c
      exact ⟨_, .inr rfl, c.1, c.2, rfl⟩
    · cases h
  · simp only [if_true] at h ⊢
    unfold fNotIn at h
    split at h
    · split at h <;> cases h
      rename_i c
      rw [Bool.and_eq_true] at c
      exact ⟨_, .inl rfl, c.1, c.2, rfl⟩
    · split at h <;> cases h
      rename_i c
      rw [Bool.and_eq_true] at c
      exact ⟨_, .inr rfl, c.1, c.2, rfl⟩
    · cases h
theorem in_any {n : Bool} {F : Value → Value → Sem Value} (hF : OpR X F (rIn X.K n)) : OpS X F (fun x y => if n then fNotIn x y else fIn x y) := by
  refine ⟨⟨_, hF, fun Zs H x y z u w Q zd hf hx hy q => ?_⟩, fun x y i h => ?_⟩
  · obtain ⟨ys, hy', f1, f2, rfl⟩ := fIn_cases hf
    have hx' := hx.flt1 f1
    rcases hy' with rfl | rfl
    · obtain ⟨a, us, rfl, hl, r⟩ := hy.lst
      refine ⟨a, us, rfl, .inl (.inl hl), hx'.flt1 f1, r.flt1 f2, ?_⟩
      rw [RvL.inf hx' f1 r f2]
      exact q.val zd (.bl _)
    · obtain ⟨a, us, rfl, hl, r⟩ := hy.tup
      refine ⟨a, us, rfl, .inr hl, hx'.flt1 f1, r.flt1 f2, ?_⟩
      rw [RvL.inf hx' f1 r f2]
      exact q.val zd (.bl _)
  · obtain ⟨_, _, _, _, e⟩ := fIn_cases h; cases e
theorem os_in : OpS X (compareOp .In) fIn := in_any (n := false) op_in_seq
theorem os_notIn : OpS X (compareOp .NotIn) fNotIn := in_any (n := true) op_notIn_seq
theorem bl_in : ∀ x y z, fIn x y = some z → ∃ k, z = .v (.bl k) := fun x y z h => by
  obtain ⟨_, _, _, _, e⟩ := fIn_cases (n := false) h; exact ⟨_, e⟩
theorem bl_notIn : ∀ x y z, fNotIn x y = some z → ∃ k, z = .v (.bl k) := fun x y z h => by
  obtain ⟨_, _, _, _, e⟩ := fIn_cases (n := true) h; exact ⟨_, e⟩
end
end Z
/-! Z7: statements. -/
namespace Z
open PySem L2 PySem.Spec
/-- a statement's end -/
def EndF (g : Gm) (s : At) (Zt : Addr → Prop) (H' : Hp) (σ' : L2.St) (env' : Env) (D : Ends) : Fl → Prop
  | .nx => D.nx σ' H'
  | .bk => D.bk σ' H'
  | .ct => D.ct σ' H'
  | .rt r => ∀ u, RR g s Zt H' σ' env' r u → D.rt u H'
def EndS (g : Gm) (xc : Xc) (s : At) (res : Rs Fl) (W : WX) (D : Ends) : Prop :=
  match res with
  | .ok f e1 => ∀ σ1 Z1 H1, Post g xc s.pa s.Zs s.H s.σ s.env Z1 H1 σ1 e1 → EndF g s Z1 H1 σ1 e1 D f
  | .ex c fs e1 => ∀ C d fv σ1 Z1 H1, Post g xc s.pa s.Zs s.H s.σ s.env Z1 H1 σ1 e1 → g.mg c = some (.ref C) → H1 d = some (.xd fv) → RvF g Z1 H1 fs fv → W (.ref C) (some d) σ1 H1
  | .no => False
def rdS (g : Gm) (xc : Xc) (W : WX) (f : S) : TS := fun D σ H => ∃ pa Zs env, RE g xc pa Zs H σ env ∧ EndS g xc ⟨pa, Zs, H, σ, env⟩ (f env) W D
abbrev SS (X : Cx) (xc : Xc) (W : WX) (st : Stmt) (f : S) : Prop := PS X st (rdS (gX X) xc W f)
abbrev SB (X : Cx) (xc : Xc) (W : WX) (st : List Stmt) (f : S) : Prop := PSs X st (rdS (gX X) xc W f)
theorem PS_imp {X : Cx} {e : Stmt} {t t' : TS} (h : PS X e t) (k : ∀ D σ H, t' D σ H → t D σ H) : PS X e t' := ⟨fun pins s σ H D I q => h.run pins s σ H D I (k D σ H q)⟩
theorem PSs_imp {X : Cx} {e : List Stmt} {t t' : TS} (h : PSs X e t) (k : ∀ D σ H, t' D σ H → t D σ H) : PSs X e t' := ⟨fun pins s σ H D I q => h.run pins s σ H D I (k D σ H q)⟩
section
variable {α β : Type} {g : Gm} {xc : Xc} {s : At} {W : WX}
/-- an expression ahead of what goes on -/
theorem EndS.cont {R1 : (Addr → Prop) → Hp → Env → α → β → Prop} {x : Rs α} {f : α → Env → Rs Fl} {D : Ends} {R : β → Hp → Prop} (h : EndS g xc s (x.bind f) W D)
    (k : ∀ a e1 b Z1 H1, x = .ok a e1 → PostE g xc s.pa s.Zs s.H s.σ s.env Z1 H1 e1 → R1 Z1 H1 e1 a b → EndS g xc s (f a e1) W D → R b H1) : End g xc s R1 x W R := by
  cases x with
  | ok a e1 => exact fun b Z1 H1 p r => k a e1 b Z1 H1 rfl p r h
  | ex c fs e1 => exact fun C d fv Z1 H1 p => h C d fv s.σ Z1 H1 p.toPost
  | no => exact h
theorem RR.backS {Z1 Z2 : Addr → Prop} {H1 H2 : Hp} {σ1 σ2 : L2.St} {e1 e2 : Env} (p : Post g xc s.pa s.Zs s.H s.σ s.env Z1 H1 σ1 e1) {r : RV} {u : V} (h : RR g ⟨s.pa, Z1, H1, σ1, e1⟩ Z2 H2 σ2 e2 r u) : RR g s Z2 H2 σ2 e2 r u := by
  cases r with
  | v x => exact h
  | own x =>
    obtain ⟨a, e, nz, hl, no, fr⟩ := h
    refine ⟨a, e, nz, hl, no, ?_⟩
    rcases fr with fr | fr
    · exact p.ow a fr
    · exact p.ext.free fr
  | bor i => exact h
theorem EndS.shift {res : Rs Fl} {D : Ends} {Z1 : Addr → Prop} {H1 : Hp} {σ1 : L2.St} {e1 : Env} (h : EndS g xc s res W D) (p : Post g xc s.pa s.Zs s.H s.σ s.env Z1 H1 σ1 e1) : EndS g xc ⟨s.pa, Z1, H1, σ1, e1⟩ res W D := by
  cases res with
  | ok f e2 =>
    intro σ2 Z2 H2 q
    have := h σ2 Z2 H2 (p.trans q)
    cases f with
    | nx => exact this
    | bk => exact this
    | ct => exact this
    | rt r => exact fun u hr => this u (hr.backS p)
  | ex c fs e2 => exact fun C d fv σ2 Z2 H2 q => h C d fv σ2 Z2 H2 (p.trans q)
  | no => exact h
end
section
variable {X : Cx} {xc : Xc} {W : WX} {pos : Pos}
theorem sb_nil : SB X xc W [] sNil := PSs_imp pss_nil fun D σ H ⟨pa, Zs, env, re, h⟩ => h σ Zs H (Post.refl re)
theorem seq_end {fa fb : S} {D : Ends} {σ : L2.St} {H : Hp} (h : rdS (gX X) xc W (sSeq fa fb) D σ H) : tSeq (rdS (gX X) xc W fa) (rdS (gX X) xc W fb) D σ H := by
  obtain ⟨pa, Zs, env, re, h⟩ := h
  refine ⟨pa, Zs, env, re, ?_⟩
  unfold sSeq at h
  cases ha : fa env with
  | no => rw [ha] at h; exact h
  | ex c fs e1 => rw [ha] at h; exact h
  | ok f e1 =>
    rw [ha, Rs.bind_ok] at h
    cases f with
    | nx => exact fun σ1 Z1 H1 p => ⟨pa, Z1, e1, p.re, EndS.shift h p⟩
    | bk => exact h
    | ct => exact h
    | rt r => exact h
theorem sb_cons {st : Stmt} {sts : List Stmt} {fa fb : S} (ha : SS X xc W st fa) (hb : SB X xc W sts fb) : SB X xc W (st :: sts) (sSeq fa fb) := PSs_imp (pss_cons ha hb) fun D σ H h => seq_end h
theorem sb_one {st : Stmt} {fa : S} (ha : SS X xc W st fa) : SB X xc W [st] fa := pss_one ha
theorem ss_pass : SS X xc W (.Pass pos) sPass := PS_imp ps_pass fun D σ H ⟨pa, Zs, env, re, h⟩ => h σ Zs H (Post.refl re)
theorem ss_brk : SS X xc W (.Break pos) sBrk := PS_imp ps_break fun D σ H ⟨pa, Zs, env, re, h⟩ => h σ Zs H (Post.refl re)
theorem ss_con : SS X xc W (.Continue pos) sCon := PS_imp ps_continue fun D σ H ⟨pa, Zs, env, re, h⟩ => h σ Zs H (Post.refl re)
theorem ss_exp {e : Expr} {fa : E} (ha : SE X xc W e fa) (hs : swapsWith e none pos.line X.env = pure false := by rfl) : SS X xc W (.Expr e pos) (sExp fa) := by
  refine PS_imp (ps_expr ha hs) fun D σ H h => ?_
  obtain ⟨pa, Zs, env, re, h⟩ := h
  exact ⟨pa, Zs, env, re, h.cont fun r e1 u Z1 H1 _ p1 q1 h => h σ Z1 H1 p1.toPost⟩
theorem ss_ret {e : Expr} {fa : E} (ha : SE X xc W e fa) : SS X xc W (.Return (some e) pos) (sRet fa) := by
  refine PS_imp (ps_ret ha) fun D σ H h => ?_
  obtain ⟨pa, Zs, env, re, h⟩ := h
  exact ⟨pa, Zs, env, re, h.cont fun r e1 u Z1 H1 _ p1 q1 h => h σ Z1 H1 p1.toPost u q1⟩
theorem ss_retN : SS X xc W (.Return none pos) sRetN := PS_imp ps_retN fun D σ H ⟨pa, Zs, env, re, h⟩ => h σ Zs H (Post.refl re) .non .non
theorem ss_if {c : Expr} {a b : List Stmt} {fc : T} {fa fb : S} (hc : ST X xc W c fc) (ha : SB X xc W a fa) (hb : SB X xc W b fb) : SS X xc W (.If c a b pos) (sIf fc fa fb) := by
  refine PS_imp (ps_if hc ha hb) fun D σ H h => ?_
  obtain ⟨pa, Zs, env, re, h⟩ := h
  refine ⟨pa, Zs, env, re, h.cont fun k e1 u Z1 H1 _ p1 q1 h => ?_⟩
  cases q1
  cases k with
  | true => exact ⟨pa, Z1, e1, p1.re, EndS.shift h p1.toPost⟩
  | false => exact ⟨pa, Z1, e1, p1.re, EndS.shift h p1.toPost⟩

/-! ### stores -/
theorem RE.put {g : Gm} {pa : List (Option Addr)} {Zs : Addr → Prop} {H : Hp} {σ : L2.St} {e : Env} {i : Nat} {s : Slot} {u : V} (re : RE g xc pa Zs H σ e) (hi : i < e.length) (np : ¬ Pinned (eget e i)) (hs : SlR g xc Zs H s (some (some u)))
    (ho : ∀ p x a, s = .own p x → u = .ref a → ¬ Owd e σ a) : RE g xc pa Zs H (σ.set i (some u)) (eput e i s) ∧ ∀ a, Owd (eput e i s) (σ.set i (some u)) a → Owd e σ a ∨ (u = .ref a ∧ ∃ p x, s = .own p x) := by
  have hi2 : i < σ.length := by rw [re.len]; exact hi
  have same : (σ.set i (some u))[i]? = some (some u) := by rw [List.getElem?_set_self hi2]
  have other : ∀ j, i ≠ j → (σ.set i (some u))[j]? = σ[j]? := fun j h => List.getElem?_set_ne h
  have own : ∀ j a, OwnAt (eput e i s) (σ.set i (some u)) j a → (i ≠ j ∧ OwnAt e σ j a) ∨ (i = j ∧ u = .ref a ∧ ∃ p x, s = .own p x) := fun j a ⟨p, x, h1, h2⟩ => by
    by_cases h : i = j
    · subst h
      rw [eget_eput_same e i s hi] at h1
      rw [same] at h2
      cases h2
      exact .inr ⟨rfl, rfl, p, x, h1⟩
    · rw [eget_eput_ne e i j s h] at h1
      rw [other j h] at h2
      exact .inl ⟨h, p, x, h1, h2⟩
  refine ⟨⟨by rw [List.length_set, eput_length]; exact re.len, fun j => ?_, fun j k a h1 h2 => ?_, fun j a h => ?_, re.zd⟩, fun a ⟨j, h⟩ => ?_⟩
  · by_cases h : i = j
    · subst h
      rw [eget_eput_same e i s hi, same]
      exact hs
    · rw [eget_eput_ne e i j s h, other j h]
      exact re.sl j
  · rcases own j a h1 with ⟨n1, h1⟩ | ⟨n1, e1, p, x, ex⟩
    · rcases own k a h2 with ⟨n2, h2⟩ | ⟨n2, e2, p, x, ex⟩
      · exact re.inj j k a h1 h2
      · exact absurd ⟨j, h1⟩ (ho p x a ex e2)
    · rcases own k a h2 with ⟨n2, h2⟩ | ⟨n2, e2, _⟩
      · exact absurd ⟨k, h2⟩ (ho p x a ex e1)
      · exact n1.symm.trans n2
  · obtain ⟨h1, h2⟩ := re.pin j a h
    have hn : i ≠ j := fun z => np (by rw [z]; exact h2)
    rw [eget_eput_ne e i j s hn, other j hn]
    exact ⟨h1, h2⟩
  · rcases own j a h with ⟨_, h⟩ | ⟨_, h⟩
    · exact .inl ⟨j, h⟩
    · exact .inr h
theorem put_some {e e2 : Env} {i : Nat} {s : Slot} (h : Z.put e i s = .ok () e2) : i < e.length ∧ ¬ Pinned (eget e i) ∧ e2 = eput e i s := by
  unfold Z.put at h
  split at h
  · rename_i hi
    cases hs : eget e i with
    | emp => rw [hs] at h; cases h; exact ⟨hi, fun z => z, rfl⟩
    | v x => rw [hs] at h; cases h; exact ⟨hi, fun z => z, rfl⟩
    | own p x =>
      rw [hs] at h
      cases p
      · cases h; exact ⟨hi, fun z => z, rfl⟩
      · cases h
    | pf x => rw [hs] at h; cases h
    | exn c fs => rw [hs] at h; cases h
  · cases h
theorem sto_ok {g : Gm} {s : At} {σ0 : L2.St} {Z1 : Addr → Prop} {H1 : Hp} {e1 e2 : Env} {r : RV} {u : V} {i : Nat} (P : Post g xc s.pa s.Zs s.H s.σ s.env Z1 H1 σ0 e1) (R : RR g s Z1 H1 σ0 e1 r u) (h : sto e1 i r = .ok () e2) :
    ∃ Z2, Post g xc s.pa s.Zs s.H s.σ s.env Z2 H1 (σ0.set i (some u)) e2 ∧ (∀ a, Z1 a → Z2 a) ∧ (∀ a, Z2 a → Z1 a ∨ Owd e1 σ0 a) ∧ (∀ a, Owd e2 (σ0.set i (some u)) a → Owd e1 σ0 a ∨ ((∃ x, r = .own x) ∧ u = .ref a)) := by
  cases r with
  | v x =>
    obtain ⟨hi, np, rfl⟩ := put_some h
    obtain ⟨re, ow⟩ := P.re.put (s := .v x) hi np ⟨u, rfl, R⟩ (fun p y a e => by cases e)
    have ow' : ∀ a, Owd (eput e1 i (.v x)) (σ0.set i (some u)) a → Owd e1 σ0 a := fun a h => (ow a h).elim id fun ⟨_, p, y, e⟩ => by cases e
    exact ⟨Z1, ⟨P.ext, re, fun a h => P.ow a (ow' a h)⟩, fun _ h => h, fun _ h => .inl h, fun a h => .inl (ow' a h)⟩
  | own x =>
    obtain ⟨hi, np, rfl⟩ := put_some h
    obtain ⟨a, rfl, nz, hl, no, fr⟩ := R
    obtain ⟨re, ow⟩ := P.re.put (s := .own false x) hi np ⟨a, rfl, nz, hl⟩ (fun p y b _ e => by cases e; exact no)
    refine ⟨Z1, ⟨P.ext, re, fun b h => ?_⟩, fun _ h => h, fun _ h => .inl h, fun b h => ?_⟩
    · rcases ow b h with h | ⟨e, _⟩
      · exact P.ow b h
      · cases e; exact fr
    · rcases ow b h with h | ⟨e, _⟩
      · exact .inl h
      · exact .inr ⟨⟨x, rfl⟩, e⟩
  | bor j =>
    have h' : ((esc e1 (.bor j)).bind fun x e1 => Z.put e1 i (.v x)) = .ok () e2 := h
    cases hx : esc e1 (.bor j) with
    | no => rw [hx] at h'; cases h'
    | ex c fs e => rw [hx] at h'; cases h'
    | ok x e =>
      rw [hx, Rs.bind_ok] at h'
      obtain ⟨hi, np, rfl⟩ := put_some h'
      have PE0 : PostE g xc s.pa Z1 H1 σ0 e1 Z1 H1 e1 := PostE.refl P.re
      obtain ⟨Z2, P2, rv, zz, zn, hol, ow0⟩ := esc_ok (s := ⟨s.pa, Z1, H1, σ0, e1⟩) PE0 (show RR g ⟨s.pa, Z1, H1, σ0, e1⟩ Z1 H1 σ0 e1 (.bor j) u from R) hx
      have P3 := P.trans P2.toPost
      obtain ⟨re, ow⟩ := P3.re.put (s := .v x) hi np ⟨u, rfl, rv⟩ (fun p y a e => by cases e)
      have ow' : ∀ a, Owd (eput e i (.v x)) (σ0.set i (some u)) a → Owd e σ0 a := fun a h => (ow a h).elim id fun ⟨_, p, y, e⟩ => by cases e
      refine ⟨Z2, ⟨P3.ext, re, fun a h => P3.ow a (ow' a h)⟩, zz, fun a h => ?_, fun a h => .inl (ow0 a (ow' a h))⟩
      rcases zn a h with z | ⟨_, ⟨y, ey⟩ | z⟩
      · exact .inl z
      · cases ey
      · exact .inr z
theorem sto_ex {e : Env} {i : Nat} {r : RV} {c : Str} {fs : List (Str × Val)} {e' : Env} : sto e i r ≠ .ex c fs e' := by
  intro h
  have pe : ∀ e i s, Z.put e i s ≠ .ex c fs e' := fun e i s h => by
    unfold Z.put at h
    repeat (split at h)
    all_goals cases h
  cases r with
  | v x => exact pe _ _ _ h
  | own x => exact pe _ _ _ h
  | bor j =>
    have h' : ((esc e (.bor j)).bind fun x e1 => Z.put e1 i (.v x)) = .ex c fs e' := h
    cases hx : esc e (.bor j) with
    | no => rw [hx] at h'; cases h'
    | ex c fs e1 => exact escs_ex [.bor j] e c fs e1 (by rw [escs_cons, hx]; rfl)
    | ok x e1 =>
      rw [hx] at h'
      exact pe _ _ _ h'
theorem ss_set (i : Nat) {x : Str} {e : Expr} {fa : E} {pos' : Pos} (hN : X.N.Nodup) (ha : SE X xc W e fa) (hi : X.N[i]? = some x := by rfl) (hx : Loc X.env.scope x := by first | exact Or.inl rfl | exact Or.inr rfl) (hs : swapsWith e (some (.Name x pos')) pos.line X.env = pure false := by rfl)
    (hf : X.fn x = true ∨ X.env.scope.names.lookup x = some .local := by first | exact .inl rfl | exact .inr rfl) : SS X xc W (.Assign [.Name x pos'] e pos) (sSet i fa) := by
  refine PS_imp (ps_set hN hi hx ha hs hf) fun D σ H h => ?_
  obtain ⟨pa, Zs, env, re, h⟩ := h
  refine ⟨pa, Zs, env, re, h.cont fun r e1 u Z1 H1 _ p1 q1 h => ?_⟩
  cases hz : sto e1 i r with
  | no => rw [hz] at h; exact h.elim
  | ex c fs e => exact absurd hz sto_ex
  | ok _ e2 =>
    rw [hz, Rs.bind_ok] at h
    obtain ⟨Z2, P2, _⟩ := sto_ok p1.toPost q1 hz
    exact h _ Z2 H1 P2
end
end Z
/-! Z8: targets, loops, stores by place. -/
namespace Z
open PySem L2 PySem.Spec
def rdG (g : Gm) (xc : Xc) (t : Tg) : TG := fun v σ H Q => ∃ pa Zs env x e1, RE g xc pa Zs H σ env ∧ RvV g Zs H x v ∧ t x env = some e1 ∧ ∀ σ1 Z1 H1, Post g xc pa Zs H σ env Z1 H1 σ1 e1 → Q σ1 H1
def rdGs (g : Gm) (xc : Xc) (ts : List Tg) : TGs := fun vs σ H Q => ∃ pa Zs env xs e1, RE g xc pa Zs H σ env ∧ RvL g Zs H xs vs ∧ tgs ts xs env = some e1 ∧ ∀ σ1 Z1 H1, Post g xc pa Zs H σ env Z1 H1 σ1 e1 → Q σ1 H1
abbrev SG (X : Cx) (xc : Xc) (tg : Expr) (t : Tg) : Prop := PG X tg (rdG (gX X) xc t)
abbrev SGs (X : Cx) (xc : Xc) (tg : List Expr) (t : List Tg) : Prop := PGs X tg (rdGs (gX X) xc t)
theorem PG_imp {X : Cx} {e : Expr} {t t' : TG} (h : PG X e t) (k : ∀ v σ H Q, t' v σ H Q → t v σ H Q) : PG X e t' := ⟨fun pins s σ H v u Q I r q => h.run pins s σ H v u Q I r (k v σ H Q q)⟩
theorem PGs_imp {X : Cx} {e : List Expr} {t t' : TGs} (h : PGs X e t) (k : ∀ v σ H Q, t' v σ H Q → t v σ H Q) : PGs X e t' := ⟨fun pins s σ H v u Q I r q => h.run pins s σ H v u Q I r (k v σ H Q q)⟩
theorem PI_imp {X : Cx} {tg e : Expr} {t t' : TI} (h : PI X tg e t) (k : ∀ σ H Q, t' σ H Q → t σ H Q) : PI X tg e t' := ⟨fun pins s σ H Q I q => h.run pins s σ H Q I (k σ H Q q)⟩
theorem okE_some {r : Rs Unit} {e : Env} (h : okE r = some e) : r = .ok () e := by
  cases r with
  | ok a e1 => cases a; cases h; rfl
  | ex c fs e1 => cases h
  | no => cases h
section
variable {X : Cx} {xc : Xc} {W : WX} {pos : Pos}
theorem sg_name (i : Nat) {x : Str} (hN : X.N.Nodup) (hi : X.N[i]? = some x := by rfl) (hx : Loc X.env.scope x := by first | exact Or.inl rfl | exact Or.inr rfl) (hf : X.fn x = true ∨ X.env.scope.names.lookup x = some .local := by first | exact .inl rfl | exact .inr rfl) : SG X xc (.Name x pos) (tgN i) := by
  refine PG_imp (pg_name hN hi hx hf) fun v σ H Q h => ?_
  obtain ⟨pa, Zs, env, x, e1, re, rv, hz, h⟩ := h
  obtain ⟨Z2, P2, _⟩ := sto_ok (s := ⟨pa, Zs, H, σ, env⟩) (u := v) (r := .v x) (Post.refl re) rv (okE_some hz)
  exact h _ Z2 H P2
theorem sgs_nil : SGs X xc [] [] := by
  refine PGs_imp pgs_nil fun vs σ H Q h => ?_
  obtain ⟨pa, Zs, env, xs, e1, re, rv, hz, h⟩ := h
  cases rv with
  | nil => cases hz; exact ⟨rfl, h σ Zs H (Post.refl re)⟩
  | cons _ _ => cases hz
theorem sgs_cons {e : Expr} {es : List Expr} {t : Tg} {ts : List Tg} (h1 : SG X xc e t) (h2 : SGs X xc es ts) (hs : (assignEach (e :: es) X.env).map (·.2) = assign e X.env :: (assignEach es X.env).map (·.2) := by rfl) : SGs X xc (e :: es) (t :: ts) := by
  refine PGs_imp (pgs_cons h1 h2 hs) fun vs σ H Q h => ?_
  obtain ⟨pa, Zs, env, xs, e1, re, rv, hz, h⟩ := h
  cases rv with
  | nil => cases hz
  | cons r rs =>
    rw [tgs_cons] at hz
    split at hz
    · rename_i e2 h2
      refine ⟨_, _, rfl, pa, Zs, env, _, e2, re, r, h2, fun σ1 Z1 H1 P1 => ?_⟩
      exact ⟨pa, Z1, e2, _, e1, P1.re, rs.ext P1.ext re.owOk, hz, fun σ2 Z2 H2 P2 => h σ2 Z2 H2 (P1.trans P2)⟩
    · cases hz
theorem sg_tup {es : List Expr} {k : Nat} {ts : List Tg} {n : Nat} (hc : X.calm = true) (h : SGs X xc es ts) (hl : ts.length = n := by rfl) (hn : (assignEach es X.env).length = n := by rfl) (hst : (assignEach es X.env).findIdx? (·.1) = none := by rfl) : SG X xc (.Tuple es k pos) (tgT ts) := by
  refine PG_imp (pg_tup hc h hn hst) fun v σ H Q h => ?_
  obtain ⟨pa, Zs, env, x, e1, re, rv, hz, h⟩ := h
  have tl : ∀ (ts : List Tg) (xs : List Val) (e : Env), tgs ts xs e = some e1 → xs.length = ts.length := by
    intro ts
    induction ts with
    | nil => intro xs e h; cases xs with
      | nil => rfl
      | cons x xs => cases h
    | cons t ts ih => intro xs e h; cases xs with
      | nil => cases h
      | cons x xs =>
        rw [tgs_cons] at h
        split at h
        · rw [List.length_cons, List.length_cons, ih _ _ h]
        · cases h
  cases rv with
  | tup hs r => exact ⟨_, _, rfl, hs, by rw [← r.length, tl _ _ _ hz, hl], pa, Zs, env, _, e1, re, r, hz, h⟩
  | _ => cases hz
theorem ss_unp {tg e : Expr} {fa : E} {t : Tg} (ha : SE X xc W e fa) (hg : SG X xc tg t) (hs : swapsWithSole [tg] e pos.line X.env = pure false := by rfl) (hw : swappedStores [tg] e X.env = pure none := by rfl)
    (h1 : (assignEach [tg] X.env).map (·.2) = [assign tg X.env] := by rfl) : SS X xc W (.Assign [tg] e pos) (sUnp t fa) := by
  refine PS_imp (ps_asg ha hg hs hw h1) fun D σ H h => ?_
  obtain ⟨pa, Zs, env, re, h⟩ := h
  refine ⟨pa, Zs, env, re, h.cont fun r e1 u Z1 H1 _ p1 q1 h => ?_⟩
  cases r with
  | v x =>
    cases hz : t x e1 with
    | none => simp only [hz] at h; exact h.elim
    | some e2 =>
      simp only [hz] at h
      exact ⟨pa, Z1, e1, x, e2, p1.re, q1, hz, fun σ2 Z2 H2 P2 => h σ2 Z2 H2 (p1.toPost.trans P2)⟩
  | own x => exact h.elim
  | bor i => exact h.elim

/-! ### loops -/
theorem Grow.trans {Z0 Z1 Z2 : Addr → Prop} {H0 H1 H2 : Hp} (a : Grow Z0 H0 Z1 H1) (b : Grow Z1 H1 Z2 H2) : Grow Z0 H0 Z2 H2 := ⟨fun x h => b.zz x (a.zz x h), fun x u hw h => b.kp x u (hw.elim .inl fun z => .inr (a.zz x z)) (a.kp x u hw h)⟩
theorem Post.grow {g : Gm} {pa : List (Option Addr)} {Z0 Z1 : Addr → Prop} {H0 H1 : Hp} {σ0 σ1 : L2.St} {e0 e1 : Env} (p : Post g xc pa Z0 H0 σ0 e0 Z1 H1 σ1 e1) (re : RE g xc pa Z0 H0 σ0 e0) : Grow Z0 H0 Z1 H1 := p.ext.grow re.owOk
/-- what is walked: the items come in order, while what rests stays -/
def Walk (g : Gm) (Zs : Addr → Prop) (H : Hp) (J : It) (xs : List Val) : Prop := ∀ Z2 H2, Grow Zs H Z2 H2 → Zd Z2 H2 →
  (∀ i x, xs[i]? = some x → J.go i H2 ∧ ∀ u H3, J.yld i H2 u H3 → ∃ Z3, Ext (fun _ => False) Z2 H2 Z3 H3 ∧ RvV g Z3 H3 x u) ∧ ∀ i, xs.length ≤ i → J.stop i H2
def rdI (g : Gm) (xc : Xc) (W : WX) (src : Src) : TI := fun σ H R => ∃ pa Zs env, RE g xc pa Zs H σ env ∧
  match src env with
  | .ok xs e1 => ∀ Z1 H1 J, PostE g xc pa Zs H σ env Z1 H1 e1 → Walk g Z1 H1 J xs → R J H1
  | .ex c fs e1 => ∀ C d fv Z1 H1, PostE g xc pa Zs H σ env Z1 H1 e1 → g.mg c = some (.ref C) → H1 d = some (.xd fv) → RvF g Z1 H1 fs fv → W (.ref C) (some d) σ H1
  | .no => False
abbrev SI (X : Cx) (xc : Xc) (W : WX) (tg iter : Expr) (s : Src) : Prop := PI X tg iter (rdI (gX X) xc W s)
/-- one turn's body -/
theorem turn_end {b : S} {k : Env → Rs Fl} {D : Ends} {N : L2.St → Hp → Prop} {s : At} {Z4 : Addr → Prop} {H4 : Hp} {σ4 : L2.St} {e4 : Env} (Q4 : Post (gX X) xc s.pa s.Zs s.H s.σ s.env Z4 H4 σ4 e4)
    (h : EndS (gX X) xc s ((b e4).bind fun f e2 => match f with | .nx => k e2 | .ct => k e2 | .bk => .ok .nx e2 | .rt r => .ok (.rt r) e2) W D)
    (hN : ∀ σ5 Z5 H5 e5, Post (gX X) xc s.pa s.Zs s.H s.σ s.env Z5 H5 σ5 e5 → Post (gX X) xc s.pa Z4 H4 σ4 e4 Z5 H5 σ5 e5 → EndS (gX X) xc s (k e5) W D → N σ5 H5) :
    EndS (gX X) xc ⟨s.pa, Z4, H4, σ4, e4⟩ (b e4) W { D with nx := N, ct := N, bk := D.nx } := by
  cases hb : b e4 with
  | no => rw [hb] at h; exact h
  | ex c fs e5 =>
    rw [hb] at h
    exact fun C d fv σ5 Z5 H5 P5 => h C d fv σ5 Z5 H5 (Q4.trans P5)
  | ok f e5 =>
    rw [hb, Rs.bind_ok] at h
    intro σ5 Z5 H5 P5
    have Q5 := Q4.trans P5
    cases f with
    | nx => exact hN σ5 Z5 H5 e5 Q5 P5 h
    | ct => exact hN σ5 Z5 H5 e5 Q5 P5 h
    | bk => exact h σ5 Z5 H5 Q5
    | rt r => exact fun u hr => h σ5 Z5 H5 Q5 u (RR.backS Q4 hr)
theorem for_end {s : Src} {t : Tg} {b : S} {D : Ends} {σ : L2.St} {H : Hp} (h : rdS (gX X) xc W (sFor s t b) D σ H) : tFor (rdI (gX X) xc W s) (rdG (gX X) xc t) (rdS (gX X) xc W b) D σ H := by
  obtain ⟨pa, Zs, env, re, h⟩ := h
  refine ⟨pa, Zs, env, re, ?_⟩
  unfold sFor at h
  cases hs : s env with
  | no => rw [hs] at h; exact h
  | ex c fs e1 => rw [hs] at h; exact fun C d fv Z1 H1 p => h C d fv σ Z1 H1 p.toPost
  | ok xs e1 =>
    rw [hs, Rs.bind_ok] at h
    intro Z1 H1 J p1 wk
    refine ⟨fun i m σ' H' => m = xs.length - i ∧ i ≤ xs.length ∧ ∃ Z' e', Post (gX X) xc pa Zs H σ env Z' H' σ' e' ∧ Grow Z1 H1 Z' H' ∧ EndS (gX X) xc ⟨pa, Zs, H, σ, env⟩ (forL t b (xs.drop i) e') W D, ⟨xs.length, rfl, Nat.zero_le _, Z1, e1, p1.toPost, Grow.of (fun _ h => h), h⟩, ?_⟩
    rintro i m σ' H' ⟨rfl, hi, Z', e', P', gr, h⟩
    have wk' := wk Z' H' gr P'.re.zd
    by_cases hlt : i < xs.length
    · have hd : xs.drop i = xs[i] :: xs.drop (i + 1) := List.drop_eq_getElem_cons hlt
      rw [hd, forL] at h
      dsimp only at h
      cases hz : t xs[i] e' with
      | none => rw [hz] at h; exact h.elim
      | some e4 =>
        rw [hz] at h
        have hx : xs[i]? = some xs[i] := List.getElem?_eq_getElem hlt
        obtain ⟨go, yl⟩ := wk'.1 i _ hx
        refine .inr ⟨go, fun σ' H' => i + 1 ≤ xs.length ∧ ∃ Z' e', Post (gX X) xc pa Zs H σ env Z' H' σ' e' ∧ Grow Z1 H1 Z' H' ∧ EndS (gX X) xc ⟨pa, Zs, H, σ, env⟩ (forL t b (xs.drop (i + 1)) e') W D, fun σ' H' n => ⟨xs.length - (i + 1), by omega, rfl, n⟩, fun u H3 y => ?_⟩
        obtain ⟨Z3, ex, rv⟩ := yl u H3 y
        have P3 := P'.re.growP ex
        refine ⟨pa, Z3, e', _, e4, P3.re, rv, hz, fun σ4 Z4 H4 P4 => ⟨pa, Z4, e4, P4.re, ?_⟩⟩
        have G4 := (gr.trans (P3.toPost.grow P'.re)).trans (P4.grow P3.re)
        exact turn_end (s := ⟨pa, Zs, H, σ, env⟩) ((P'.trans P3.toPost).trans P4) h fun σ5 Z5 H5 e5 Q5 P5 h5 => ⟨hlt, Z5, e5, Q5, G4.trans (P5.grow P4.re), h5⟩
    · have e : i = xs.length := by omega
      subst e
      rw [List.drop_length] at h
      exact .inl ⟨wk'.2 _ (Nat.le_refl _), h σ' Z' H' P'⟩
theorem ss_for {tg iter : Expr} {body : List Stmt} {s : Src} {t : Tg} {b : S} (hp : PassesOwn (model X.prog X.w) X.A X.env X.xe) (hc : X.calm = true) (hi : SI X xc W tg iter s) (hg : SG X xc tg t) (hb : SB X xc W body b)
    (hs : ∀ x, foldedSetIterable iter X.env x = pure x := by intro _; rfl) : SS X xc W (.For tg iter body [] pos) (sFor s t b) := PS_imp (ps_for hp hc hi hg hb hs) fun D σ H h => for_end h
theorem while_end {n : Nat} {c : T} {b : S} {D : Ends} {σ : L2.St} {H : Hp} (h : rdS (gX X) xc W (sWhile n c b) D σ H) : tWhile (rdT (gX X) xc W c) (rdS (gX X) xc W b) D σ H := by
  obtain ⟨pa, Zs, env, re, h⟩ := h
  refine ⟨fun m σ' H' => ∃ Z' e', Post (gX X) xc pa Zs H σ env Z' H' σ' e' ∧ EndS (gX X) xc ⟨pa, Zs, H, σ, env⟩ (whileL c b m e') W D, ⟨n, Zs, env, Post.refl re, h⟩, ?_⟩
  rintro m σ' H' ⟨Z', e', P', h⟩
  cases m with
  | zero => exact h.elim
  | succ m =>
    refine ⟨pa, Z', e', P'.re, ?_⟩
    unfold whileL at h
    cases hc : c e' with
    | no => rw [hc] at h; exact h
    | ex cc fs e1 => rw [hc] at h; exact fun C d fv Z1 H1 p => h C d fv σ' Z1 H1 (P'.trans p.toPost)
    | ok k e1 =>
      rw [hc, Rs.bind_ok] at h
      intro k' Z1 H1 p1 q1
      cases q1
      have Q1 := P'.trans p1.toPost
      cases k with
      | false => exact h σ' Z1 H1 Q1
      | true =>
        rw [if_pos rfl]
        refine ⟨fun σ' H' => ∃ Z' e', Post (gX X) xc pa Zs H σ env Z' H' σ' e' ∧ EndS (gX X) xc ⟨pa, Zs, H, σ, env⟩ (whileL c b m e') W D, fun σ' H' n => ⟨m, Nat.lt_succ_self m, n⟩, ⟨pa, Z1, e1, p1.re, ?_⟩⟩
        exact turn_end (s := ⟨pa, Zs, H, σ, env⟩) Q1 h fun σ5 Z5 H5 e5 Q5 P5 h5 => ⟨Z5, e5, Q5, h5⟩
theorem ss_while {c : Expr} {body : List Stmt} {n : Nat} {fc : T} {b : S} (hp : PassesOwn (model X.prog X.w) X.A X.env X.xe) (hc : ST X xc W c fc) (hb : SB X xc W body b) : SS X xc W (.While c body [] pos) (sWhile n fc b) := PS_imp (ps_while hp hc hb) fun D σ H h => while_end h
end
end Z
/-! Z9: what is walked; several names at once; lists that are changed. -/
namespace Z
open PySem L2 PySem.Spec
section
variable {X : Cx} {xc : Xc} {W : WX} {pos : Pos} {tg : Expr}
open PyProof.Rows in
theorem pi_seqQ {l : Expr} {tl : TE} (hl : PE X l tl) : PI X tg l (fun σ H R => tl σ H fun x H1 => ∃ a, x = .ref a ∧ (((∃ xs, SqL X.K H1 a xs) ∧ R (Itl X.K a) H1) ∨ ((∃ xs, SqT X.K H1 a xs) ∧ R (Itt X.K a) H1))) := by
  refine ⟨fun pins s σ H R I h => thn (hl.run pins s σ H _ I h) fun v s1 ⟨x, H1, I1, r1, q1⟩ => ?_⟩
  obtain ⟨a, e, q1⟩ := q1
  subst e
  cases r1
  have new : ∀ o : Obj, Inv X pins σ H1 { s1 with heap := s1.heap.push o } := fun o => I1.kept (t' := s1.toks) fun b u e => Heap.get?_push_of_some _ e
  have fp : ∀ b ∈ [s1.heap.objs.size], FpOk X pins H1 b := fun b hb => by
    rw [List.mem_singleton] at hb
    subst hb
    exact I1.fpOk (Nat.le_refl _) (I1.hok.fresh (Nat.le_refl _))
  rcases q1 with ⟨⟨xs, hq⟩, q⟩ | ⟨⟨xs, hq⟩, q⟩
  · obtain ⟨its, rv, p, hz⟩ := I1.list hq
    exact wpAny_pyIter_list p.isList ⟨s1.heap.objs.size, [s1.heap.objs.size], _, _, H1, rfl, new _, turn_list a _, ⟨_, Heap.get?_push_size _ rfl, rfl, rfl⟩, fp, q⟩
  · obtain ⟨its, rv, p, hz⟩ := I1.tuple hq
    exact wpAny_pyIter_tuple (show s1.heap.IsTuple a its.toArray from p) ⟨s1.heap.objs.size, [s1.heap.objs.size], _, _, H1, rfl, new _, turn_tuple a _, ⟨_, Heap.get?_push_size _ rfl, rfl, rfl⟩, fp, q⟩
theorem RvL.at {g : Gm} {Zs : Addr → Prop} {H : Hp} {xs : List Val} {us : List V} {i : Nat} {x : Val} {u : V} (r : RvL g Zs H xs us) (h : xs[i]? = some x) (k : us[i]? = some u) : RvV g Zs H x u := by
  obtain ⟨w, h1, h2⟩ := r.get h
  rw [k] at h1
  cases h1
  exact h2
theorem walk_lst {g : Gm} {Zs : Addr → Prop} {H : Hp} {a : Addr} {xs : List Val} {us : List V} (h : SqZ g Zs H a us) (r : RvL g Zs H xs us) : Walk g Zs H (Itl g.K a) xs := by
  intro Z2 H2 gr zd
  have h2 := (gr.sqZ h).sq
  have r2 := r.gr gr
  refine ⟨fun i x hx => ?_, fun i hi => ⟨us, h2, by rw [← r.length]; exact hi⟩⟩
  obtain ⟨w, hw, _⟩ := r2.get hx
  refine ⟨⟨us, w, h2, hw⟩, fun u H3 y => ?_⟩
  obtain ⟨e, y⟩ := y
  subst e
  exact ⟨Z2, Ext.refl zd, r2.at hx (y us h2)⟩
theorem walk_tup {g : Gm} {Zs : Addr → Prop} {H : Hp} {a : Addr} {xs : List Val} {us : List V} (h : SqT g.K H a us) (r : RvL g Zs H xs us) : Walk g Zs H (Itt g.K a) xs := by
  intro Z2 H2 gr zd
  have h2 := gr.sqT h
  have r2 := r.gr gr
  refine ⟨fun i x hx => ?_, fun i hi => ⟨us, h2, by rw [← r.length]; exact hi⟩⟩
  obtain ⟨w, hw, _⟩ := r2.get hx
  refine ⟨⟨us, w, h2, hw⟩, fun u H3 y => ?_⟩
  obtain ⟨e, y⟩ := y
  subst e
  exact ⟨Z2, Ext.refl zd, r2.at hx (y us h2)⟩
theorem rangeV_get {lo : Int} {n i : Nat} {x : Val} (h : (rangeV lo n)[i]? = some x) : i < n ∧ x = .int (lo + i) := by
  unfold rangeV at h
  rw [List.getElem?_map] at h
  by_cases hi : i < n
  · rw [List.getElem?_range hi] at h
    cases h
    exact ⟨hi, rfl⟩
  · rw [List.getElem?_eq_none_iff.mpr (by simpa using hi)] at h
    cases h
theorem walk_rng {g : Gm} {Zs : Addr → Prop} {H : Hp} {lo : Int} {n : Nat} : Walk g Zs H (Itr lo n) (rangeV lo n) := by
  intro Z2 H2 gr zd
  refine ⟨fun i x hx => ?_, fun i hi => (by simpa [rangeV] using hi : n ≤ i)⟩
  obtain ⟨hi, rfl⟩ := rangeV_get hx
  refine ⟨hi, fun u H3 y => ?_⟩
  obtain ⟨e, y⟩ := y
  subst e y
  exact ⟨Z2, Ext.refl zd, .int _⟩
theorem si_seq {l : Expr} {fa : E} (ha : SE X xc W l fa) : SI X xc W tg l (iSeq fa) := by
  refine PI_imp (pi_seqQ ha) fun σ H R h => ?_
  obtain ⟨pa, Zs, env, re, h⟩ := h
  refine ⟨pa, Zs, env, re, ?_⟩
  unfold iSeq at h
  cases hf : fa env with
  | no => rw [hf] at h; exact h
  | ex c fs e1 => rw [hf] at h; exact h
  | ok r e1 =>
    rw [hf, Rs.bind_ok] at h
    intro u Z1 H1 p1 q1
    cases he : esc e1 r with
    | no => rw [he] at h; exact h.elim
    | ex c fs e => exact absurd (show escs e1 [r] = .ex c fs e by rw [escs_cons, he]; rfl) (escs_ex _ _ _ _ _)
    | ok x e2 =>
      rw [he, Rs.bind_ok] at h
      obtain ⟨Z2, P2, rv, _⟩ := esc_ok p1 q1 he
      cases rv with
      | lst hs r => exact ⟨_, rfl, .inl ⟨⟨_, hs.sq⟩, h Z2 H1 _ P2 (walk_lst hs r)⟩⟩
      | tup hs r => exact ⟨_, rfl, .inr ⟨⟨_, hs⟩, h Z2 H1 _ P2 (walk_tup hs r)⟩⟩
      | _ => exact h.elim
theorem si_range1 {a : Expr} {fa : E} {p pos : Pos} (hm : X.mg "range" = none) (ha : SE X xc W a fa) (hg : Gl X "range" := by rfl) (hs : starEach [a] X.env = [(false, eval a X.env)] := by rfl) : SI X xc W tg (.Call (.Name "range" p) [a] [] pos) (iRange1 fa) := by
  refine PI_imp (pi_range1 hg hm (pa_cons ha pa_nil hs) hs) fun σ H R h => ?_
  obtain ⟨pa, Zs, env, re, h⟩ := h
  refine ⟨pa, Zs, env, re, ?_⟩
  unfold iRange1 at h
  cases hf : fa env with
  | no => rw [hf] at h; exact h
  | ex c fs e1 => rw [hf] at h; exact h
  | ok r e1 =>
    rw [hf, Rs.bind_ok] at h
    intro u Z1 H1 p1 q1
    cases r with
    | own x => exact h.elim
    | bor i => exact h.elim
    | v x =>
      cases q1 with
      | int j =>
        by_cases c : j.natAbs < 4611686018427387904
        · simp only [if_pos c] at h
          exact ⟨j, rfl, by omega, by omega, h Z1 H1 _ p1 walk_rng⟩
        · simp only [if_neg c] at h
      | _ => exact h.elim
theorem si_range2 {a b : Expr} {fa fb : E} {p pos : Pos} (hm : X.mg "range" = none) (ha : SE X xc W a fa) (hb : SE X xc W b fb) (hg : Gl X "range" := by rfl) (hs : starEach [a, b] X.env = [(false, eval a X.env), (false, eval b X.env)] := by rfl) (hs2 : starEach [b] X.env = [(false, eval b X.env)] := by rfl) :
    SI X xc W tg (.Call (.Name "range" p) [a, b] [] pos) (iRange2 fa fb) := by
  refine PI_imp (pi_range2 hg hm (pa_cons ha (pa_cons hb pa_nil hs2) (by rw [hs, hs2])) hs hs2) fun σ H R h => ?_
  obtain ⟨pa, Zs, env, re, h⟩ := h
  refine ⟨pa, Zs, env, re, ?_⟩
  unfold iRange2 at h
  cases hf : fa env with
  | no => rw [hf] at h; exact h
  | ex c fs e1 => rw [hf] at h; exact h
  | ok r e1 =>
    rw [hf, Rs.bind_ok] at h
    intro u Z1 H1 p1 q1
    refine ⟨pa, Z1, e1, p1.re, ?_⟩
    cases hf2 : fb e1 with
    | no => rw [hf2] at h; exact h
    | ex c fs e2 => rw [hf2] at h; exact fun C d fv Z2 H2 p => h C d fv Z2 H2 (p1.trans p)
    | ok r2 e2 =>
      rw [hf2, Rs.bind_ok] at h
      intro w Z2 H2 p2 q2
      have q1' := q1.step p1.re p2
      cases r with
      | own x => exact h.elim
      | bor i => exact h.elim
      | v x =>
        cases q1' with
        | int i =>
          cases r2 with
          | own x => exact h.elim
          | bor i => exact h.elim
          | v y =>
            cases q2 with
            | int j =>
              by_cases c : i.natAbs < 4611686018427387904 ∧ j.natAbs < 4611686018427387904
              · simp only [if_pos c] at h
                exact ⟨i, j, rfl, by omega, h Z2 H2 _ (p1.trans p2) walk_rng⟩
              · simp only [if_neg c] at h
            | _ => exact h.elim
        | _ => exact h.elim
end

/-! ### several names at once -/
section
variable {g : Gm} {xc : Xc} {s : At} {H1 : Hp}
theorem settle_ok {Z1 : Addr → Prop} {e1 e2 : Env} {r r' : RV} {u : V} (P : PostE g xc s.pa s.Zs s.H s.σ s.env Z1 H1 e1) (R : RR g s Z1 H1 s.σ e1 r u) (h : settle e1 r = .ok r' e2) :
    ∃ Z2, PostE g xc s.pa s.Zs s.H s.σ s.env Z2 H1 e2 ∧ RR g s Z2 H1 s.σ e2 r' u ∧ (∀ i, r' ≠ .bor i) ∧ (∀ a, Z1 a → Z2 a) ∧ (∀ a, Z2 a → Z1 a ∨ Owd e1 s.σ a) ∧ (∀ i, Hol (eget e1 i) → Hol (eget e2 i)) ∧ (∀ a, Owd e2 s.σ a → Owd e1 s.σ a) ∧ ∀ x, r' = .own x → r = .own x := by
  cases r with
  | v y => cases h; exact ⟨Z1, P, R, (fun i h => by cases h), fun _ h => h, fun _ h => .inl h, fun _ h => h, fun _ h => h, fun x h => h⟩
  | own y => cases h; exact ⟨Z1, P, R, (fun i h => by cases h), fun _ h => h, fun _ h => .inl h, fun _ h => h, fun _ h => h, fun x h => h⟩
  | bor i =>
    rw [settle_bor] at h
    cases he : esc e1 (.bor i) with
    | no => rw [he] at h; cases h
    | ex c fs e => rw [he] at h; cases h
    | ok x e =>
      rw [he] at h
      cases h
      obtain ⟨Z2, P2, rv, zz, zn, hol, ow⟩ := esc_ok P R he
      refine ⟨Z2, P2, rv, (fun i h => by cases h), zz, fun a ha => ?_, hol, ow, (fun x h => by cases h)⟩
      rcases zn a ha with z | ⟨_, ⟨y, ey⟩ | z⟩
      · exact .inl z
      · cases ey
      · exact .inr z
theorem settles_ok : ∀ {rs rs' : List RV} {us : List V} {Z1 : Addr → Prop} {e1 e2 : Env}, PostE g xc s.pa s.Zs s.H s.σ s.env Z1 H1 e1 → RRs g s Z1 H1 s.σ e1 rs us → settles e1 rs = .ok rs' e2 →
    ∃ Z2, PostE g xc s.pa s.Zs s.H s.σ s.env Z2 H1 e2 ∧ RRs g s Z2 H1 s.σ e2 rs' us ∧ (∀ r ∈ rs', ∀ i, r ≠ .bor i) ∧ (∀ a, Z1 a → Z2 a) ∧ (∀ a, Z2 a → Z1 a ∨ Owd e1 s.σ a) ∧ (∀ a, Owd e2 s.σ a → Owd e1 s.σ a) ∧ ∀ y w, (y, w) ∈ rs'.zip us → (∃ z, y = .own z) → (y, w) ∈ rs.zip us
  | [], rs', _, Z1, e1, e2, P, .nil, h => by
    cases h
    exact ⟨Z1, P, .nil, (fun r h => by cases h), fun _ h => h, fun _ h => .inl h, fun _ h => h, (fun y w h => by cases h)⟩
  | r :: rs, rs', u :: us, Z1, e1, e2, P, .cons hR hT n, h => by
    rw [settles_cons] at h
    cases h1 : settle e1 r with
    | no => rw [h1] at h; cases h
    | ex c fs e => rw [h1] at h; cases h
    | ok r1 e =>
      rw [h1, Rs.bind_ok] at h
      cases h2 : settles e rs with
      | no => rw [h2] at h; cases h
      | ex c fs e => rw [h2] at h; cases h
      | ok rs1 e' =>
        rw [h2, Rs.bind_ok] at h
        cases h
        obtain ⟨Z2, P2, R2, nb, zz, zn, hol, ow, own⟩ := settle_ok P hR h1
        have hT2 : RRs g s Z2 H1 s.σ e rs us := by
          have go : ∀ {rs : List RV} {us : List V}, RRs g s Z1 H1 s.σ e1 rs us → RRs g s Z2 H1 s.σ e rs us := by
            intro rs us hh
            induction hh with
            | nil => exact .nil
            | @cons r' w rs us h t n ih =>
              refine .cons ?_ ih n
              cases r' with
              | v y => exact RvV.gr (Grow.of zz) h
              | own y =>
                obtain ⟨a, e, nz, hl, no, fr⟩ := h
                exact ⟨a, e, fun z => (zn a z).elim nz no, hl.mono zz, fun z => no (ow a z), fr⟩
              | bor i =>
                obtain ⟨a, e, h1, h2⟩ := h
                exact ⟨a, e, h1, hol i h2⟩
          exact go hT
        obtain ⟨Z3, P3, R3, nb3, zz3, zn3, ow3, mem3⟩ := settles_ok P2 hT2 h2
        refine ⟨Z3, P3, .cons ?_ R3 fun x ex y w hm hy => ?_, fun r hr i => ?_, fun a h => zz3 a (zz a h), fun a h => ?_, fun a h => ow a (ow3 a h), fun y w hm hy => ?_⟩
        · cases r1 with
          | v y => exact RvV.gr (Grow.of zz3) R2
          | own y =>
            obtain ⟨a, e, nz, hl, no, fr⟩ := R2
            exact ⟨a, e, fun z => (zn3 a z).elim nz no, hl.mono zz3, fun z => no (ow3 a z), fr⟩
          | bor i => exact absurd rfl (nb i)
        · exact n x (own x ex) y w (mem3 y w hm hy) hy
        · rcases List.mem_cons.mp hr with e | hr
          · rw [e]; exact nb i
          · exact nb3 r hr i
        · rcases zn3 a h with z | z
          · exact zn a z
          · exact .inr (ow a z)
        · rw [List.zip_cons_cons] at hm ⊢
          rcases List.mem_cons.mp hm with e | hm
          · cases e
            obtain ⟨z, ez⟩ := hy
            rw [own z ez, ez]
            exact List.mem_cons_self
          · exact List.mem_cons_of_mem _ (mem3 y w hm hy)
def setM : L2.St → List Nat → List V → L2.St
  | σ, i :: is, u :: us => setM (σ.set i (some u)) is us
  | σ, _, _ => σ
theorem stos_ok : ∀ {is : List Nat} {rs : List RV} {us : List V} {σ0 : L2.St} {Z1 : Addr → Prop} {e1 e2 : Env}, Post g xc s.pa s.Zs s.H s.σ s.env Z1 H1 σ0 e1 → RRs g s Z1 H1 σ0 e1 rs us → (∀ r ∈ rs, ∀ i, r ≠ .bor i) → stos e1 is rs = .ok () e2 →
    ∃ Z2, Post g xc s.pa s.Zs s.H s.σ s.env Z2 H1 (setM σ0 is us) e2
  | [], [], _, σ0, Z1, e1, e2, P, .nil, _, h => by cases h; exact ⟨Z1, P⟩
  | [], _ :: _, _, _, _, _, _, _, _, _, h => by cases h
  | _ :: _, [], _, _, _, _, _, _, _, _, h => by cases h
  | i :: is, r :: rs, u :: us, σ0, Z1, e1, e2, P, .cons hR hT n, nb, h => by
    rw [stos_cons] at h
    cases h1 : sto e1 i r with
    | no => rw [h1] at h; cases h
    | ex c fs e => rw [h1] at h; cases h
    | ok _ e =>
      rw [h1, Rs.bind_ok] at h
      obtain ⟨Z2, P2, zz, zn, ow⟩ := sto_ok P hR h1
      have hT2 : ∀ {rs : List RV} {us : List V}, RRs g s Z1 H1 σ0 e1 rs us → (∀ r ∈ rs, ∀ i, r ≠ .bor i) → (∀ x, r = .own x → ∀ y w, (y, w) ∈ rs.zip us → (∃ z, y = .own z) → w ≠ u) → RRs g s Z2 H1 (σ0.set i (some u)) e rs us := by
        intro rs us hh
        induction hh with
        | nil => intro _ _; exact .nil
        | @cons r' w rs us h t n ih =>
          intro nb k
          refine .cons ?_ (ih (fun r hr => nb r (List.mem_cons_of_mem _ hr)) fun x ex y w' hm => k x ex y w' (by rw [List.zip_cons_cons]; exact List.mem_cons_of_mem _ hm)) n
          cases r' with
          | v y => exact RvV.gr (Grow.of zz) h
          | own y =>
            obtain ⟨a, ea, nz, hl, no, fr⟩ := h
            refine ⟨a, ea, fun z => (zn a z).elim nz no, hl.mono zz, fun z => ?_, fr⟩
            rcases ow a z with z | ⟨⟨x, ex⟩, z⟩
            · exact no z
            · exact k x ex _ _ (by rw [List.zip_cons_cons]; exact List.mem_cons_self) ⟨_, rfl⟩ (by rw [ea, z])
          | bor j => exact absurd rfl (nb _ List.mem_cons_self j)
      exact stos_ok (is := is) P2 (hT2 hT (fun r hr => nb r (List.mem_cons_of_mem _ hr)) n) (fun r hr => nb r (List.mem_cons_of_mem _ hr)) h
end
theorem settles_ex : ∀ (rs : List RV) (e : Env) (c : Str) (fs : List (Str × Val)) (e' : Env), settles e rs ≠ .ex c fs e'
  | [], _, _, _, _, h => by cases h
  | r :: rs, e, c, fs, e', h => by
    rw [settles_cons] at h
    cases h1 : settle e r with
    | no => rw [h1] at h; cases h
    | ex c fs e1 =>
      cases r with
      | v x => cases h1
      | own x => cases h1
      | bor i =>
        rw [settle_bor] at h1
        cases h2 : esc e (.bor i) with
        | no => rw [h2] at h1; cases h1
        | ex c fs e2 => exact escs_ex [.bor i] e c fs e2 (by rw [escs_cons, h2]; rfl)
        | ok x e2 => rw [h2] at h1; cases h1
    | ok x e1 =>
      rw [h1, Rs.bind_ok] at h
      cases h2 : settles e1 rs with
      | no => rw [h2] at h; cases h
      | ex c fs e => exact settles_ex _ _ _ _ _ h2
      | ok x e2 => rw [h2] at h; cases h
theorem stos_ex : ∀ (is : List Nat) (rs : List RV) (e : Env) (c : Str) (fs : List (Str × Val)) (e' : Env), stos e is rs ≠ .ex c fs e'
  | [], [], _, _, _, _, h => by cases h
  | [], _ :: _, _, _, _, _, h => by cases h
  | _ :: _, [], _, _, _, _, h => by cases h
  | i :: is, r :: rs, e, c, fs, e', h => by
    rw [stos_cons] at h
    cases h1 : sto e i r with
    | no => rw [h1] at h; cases h
    | ex c fs e1 => exact sto_ex h1
    | ok x e1 => rw [h1, Rs.bind_ok] at h; exact stos_ex _ _ _ _ _ _ h
section
variable {X : Cx} {xc : Xc} {W : WX} {pos : Pos}
theorem stos_len : ∀ {is : List Nat} {rs : List RV} {e e2 : Env}, stos e is rs = .ok () e2 → is.length = rs.length
  | [], [], _, _, _ => rfl
  | [], _ :: _, _, _, h => by cases h
  | _ :: _, [], _, _, h => by cases h
  | i :: is, r :: rs, e, e2, h => by
    rw [stos_cons] at h
    cases h1 : sto e i r with
    | no => rw [h1] at h; cases h
    | ex c fs e1 => rw [h1] at h; cases h
    | ok _ e1 => rw [h1, Rs.bind_ok] at h; rw [List.length_cons, List.length_cons, stos_len h]
theorem RRs.length {g : Gm} {s : At} {Z1 : Addr → Prop} {H1 : Hp} {σ : L2.St} {e1 : Env} : ∀ {rs : List RV} {us : List V}, RRs g s Z1 H1 σ e1 rs us → rs.length = us.length
  | _, _, .nil => rfl
  | _, _, .cons _ t _ => by rw [List.length_cons, List.length_cons, RRs.length t]
theorem par_end {is : List Nat} {fa : As} {D : Ends} {σ : L2.St} {H : Hp} (h : rdS (gX X) xc W (sPar is fa) D σ H) : rdA (gX X) xc W fa σ H fun us H1 => is.length = us.length ∧ D.nx (setM σ is us) H1 ∧ ∀ p, H1 p = none → D.nx (setM σ is us) (upd H1 p (.tup us)) := by
  obtain ⟨pa, Zs, env, re, h⟩ := h
  refine ⟨pa, Zs, env, re, h.cont fun rs e1 us Z1 H1 _ p1 q1 h => ?_⟩
  cases h1 : settles e1 rs with
  | no => rw [h1] at h; exact h.elim
  | ex c fs e => exact absurd h1 (settles_ex _ _ _ _ _)
  | ok rs' e2 =>
    rw [h1, Rs.bind_ok] at h
    obtain ⟨Z2, P2, R2, nb, _⟩ := settles_ok p1 q1 h1
    cases h2 : stos e2 is rs' with
    | no => rw [h2] at h; exact h.elim
    | ex c fs e => exact absurd h2 (stos_ex _ _ _ _ _ _)
    | ok _ e3 =>
      rw [h2, Rs.bind_ok] at h
      obtain ⟨Z3, P3⟩ := stos_ok P2.toPost R2 nb h2
      exact ⟨(stos_len h2).trans R2.length, h _ Z3 H1 P3, fun p hp => h _ Z3 _ (P3.trans (P3.re.growP (Ext.new P3.re.zd hp)).toPost)⟩
theorem len2 {α : Type} {us : List α} {n : Nat} (h : 2 = us.length) : ∃ a b, us = [a, b] := by
  match us, h with
  | [a, b], _ => exact ⟨a, b, rfl⟩
theorem len3 {α : Type} {us : List α} (h : 3 = us.length) : ∃ a b c, us = [a, b, c] := by
  match us, h with
  | [a, b, c], _ => exact ⟨a, b, c, rfl⟩
/-- a, b = x, y; two plain local names -/
theorem ss_par2 (i j : Nat) {x y : Str} {a b : Expr} {fa : As} {px py pt : Pos} {kt k2 pt2} (hc : X.calm = true) (hN : X.N.Nodup) (ha : SA X xc W [a, b] fa) (hi : X.N[i]? = some x := by rfl) (hj : X.N[j]? = some y := by rfl) (hij : i ≠ j := by decide)
    (hx : X.env.scope.names.lookup x = some .local := by rfl) (hy : X.env.scope.names.lookup y = some .local := by rfl) (hp : ∀ t, PA X [a, b] t → PS X (.Assign [.Tuple [.Name x px, .Name y py] kt pt] (.Tuple [a, b] k2 pt2) pos) (tPar i j t)) :
    SS X xc W (.Assign [.Tuple [.Name x px, .Name y py] kt pt] (.Tuple [a, b] k2 pt2) pos) (sPar [i, j] fa) := by
  refine PS_imp (hp _ ha) fun D σ H h => ?_
  obtain ⟨pa, Zs, env, re, h⟩ := par_end h
  refine ⟨pa, Zs, env, re, ?_⟩
  cases hz : fa env with
  | no => rw [hz] at h; exact h
  | ex c fs e1 => rw [hz] at h; exact h
  | ok rs e1 =>
    rw [hz] at h
    intro us Z1 H1 p1 q1
    obtain ⟨hl, h1, _⟩ := h us Z1 H1 p1 q1
    obtain ⟨u, w, rfl⟩ := len2 (n := 0) hl
    exact ⟨u, w, rfl, h1⟩
/-- a, b, .. = x, y, ..: by a tuple -/
def gNames : List Nat → TGs
  | [] => gNil
  | i :: is => gCons (gName i) (gNames is)
theorem gNames_run : ∀ {is : List Nat} {us : List V} {σ : L2.St} {H : Hp} {Q : L2.St → Hp → Prop}, is.length = us.length → Q (setM σ is us) H → gNames is us σ H Q
  | [], [], _, _, _, _, h => ⟨rfl, h⟩
  | [], _ :: _, _, _, _, h, _ => by cases h
  | _ :: _, [], _, _, _, h, _ => by cases h
  | i :: is, u :: us, σ, H, Q, hl, h => ⟨u, us, rfl, gNames_run (is := is) (by simpa using hl) h⟩
theorem ss_parT {is : List Nat} {n : Nat} {ts es : List Expr} {fa : As} {pt : Pos} {kt k2 pt2} (hc : X.calm = true) (ha : SA X xc W es fa) (hg : PGs X ts (gNames is)) (hl : is.length = n := by rfl) (hn : (assignEach ts X.env).length = n := by rfl) (hst : (assignEach ts X.env).findIdx? (·.1) = none := by rfl)
    (hs : swapsWithSole [.Tuple ts kt pt] (.Tuple es k2 pt2) pos.line X.env = pure false := by rfl) (hw : swappedStores [.Tuple ts kt pt] (.Tuple es k2 pt2) X.env = pure none := by rfl)
    (h1 : (assignEach [.Tuple ts kt pt] X.env).map (·.2) = [assign (.Tuple ts kt pt) X.env] := by rfl) (hz : n ≤ 1000 := by decide) :
    SS X xc W (.Assign [.Tuple ts kt pt] (.Tuple es k2 pt2) pos) (sPar is fa) := by
  refine PS_imp (ps_asg (pe_tup ha) (pg_tup hc hg hn hst) hs hw h1) fun D σ H h => ?_
  obtain ⟨pa, Zs, env, re, h⟩ := par_end h
  refine ⟨pa, Zs, env, re, ?_⟩
  cases hq : fa env with
  | no => rw [hq] at h; exact h
  | ex c fs e1 => rw [hq] at h; exact h
  | ok rs e1 =>
    rw [hq] at h
    intro us Z1 H1 p1 q1
    obtain ⟨hl', _, h2⟩ := h us Z1 H1 p1 q1
    have e : us.length = n := by rw [← hl', hl]
    exact ⟨by rw [sizeLine_eq]; omega, fun p hp => ⟨p, us, rfl, SqT.of upd_same, e, gNames_run hl' (h2 p hp)⟩⟩
theorem pgn_nil : PGs X [] (gNames []) := pgs_nil
theorem pgn_cons (i : Nat) {is : List Nat} {x : Str} {p : Pos} {es : List Expr} (hN : X.N.Nodup) (h2 : PGs X es (gNames is)) (hi : X.N[i]? = some x := by rfl) (hx : Loc X.env.scope x := by first | exact Or.inl rfl | exact Or.inr rfl) (hf : X.fn x = true ∨ X.env.scope.names.lookup x = some .local := by first | exact .inl rfl | exact .inr rfl)
    (hs : (assignEach (.Name x p :: es) X.env).map (·.2) = assign (.Name x p) X.env :: (assignEach es X.env).map (·.2) := by rfl) : PGs X (.Name x p :: es) (gNames (i :: is)) := pgs_cons (pg_name hN hi hx hf) h2 hs

/-! ### lists that are changed -/
theorem RE.write {g : Gm} {xc : Xc} {pa : List (Option Addr)} {Zs : Addr → Prop} {H : Hp} {σ : L2.St} {e : Env} {j : Nat} {p : Bool} {x y : Val} {a : Addr} {o : HO} (re : RE g xc pa Zs H σ e) (hs : eget e j = .own p x) (ha : σ[j]? = some (some (.ref a))) (hy : Hld g Zs (upd H a o) y a) :
    PostE g xc pa Zs H σ e Zs (upd H a o) (eput e j (.own p y)) := by
  have hj : j < e.length := eget_lt (by rw [hs]; intro h; cases h)
  have oj : OwnAt e σ j a := ⟨p, x, hs, ha⟩
  obtain ⟨nz, o1, ho1, hw1⟩ := re.owOk a ⟨j, oj⟩
  have ne : ∀ b, b ≠ a → upd H a o b = H b := fun b h => upd_ne h
  have own : ∀ k b, OwnAt (eput e j (.own p y)) σ k b → OwnAt e σ k b := fun k b ⟨q, z, h1, h2⟩ => by
    by_cases h : j = k
    · subst h; exact ⟨p, x, hs, h2⟩
    · rw [eget_eput_ne e j k _ h] at h1; exact ⟨q, z, h1, h2⟩
  have zd : Zd Zs (upd H a o) := fun b h => by
    obtain ⟨u, hu⟩ := re.zd b h
    exact ⟨u, by rw [ne b fun z => nz (by rw [← z]; exact h)]; exact hu⟩
  have ext : Ext (Owd e σ) Zs H Zs (upd H a o) := ⟨fun _ h => h, fun _ h => .inl h, fun b u h n => by rw [ne b fun z => n (by rw [z]; exact ⟨j, oj⟩)]; exact h, zd⟩
  have e1 : Ext (fun b => b = a) Zs H Zs (upd H a o) := ⟨fun _ h => h, fun _ h => .inl h, fun b u h n => by rw [ne b n]; exact h, zd⟩
  have d1 : OwOk (fun b => b = a) Zs H := fun b h => by rw [h]; exact ⟨nz, o1, ho1, hw1⟩
  refine ⟨⟨ext, ⟨by rw [eput_length]; exact re.len, fun k => ?_, fun k l b h1 h2 => re.inj k l b (own k b h1) (own l b h2), fun k b h => ?_, zd⟩, fun b ⟨k, h⟩ => .inl ⟨k, own k b h⟩⟩, fun k h => ?_⟩
  · by_cases h : j = k
    · subst h
      rw [eget_eput_same e j _ hj]
      exact ⟨a, ha, nz, hy⟩
    · rw [eget_eput_ne e j k _ h]
      have q := re.sl k
      cases hk : eget e k with
      | emp => trivial
      | v z =>
        rw [hk] at q
        obtain ⟨u, h1, r⟩ := q
        exact ⟨u, h1, r.ext e1 d1⟩
      | own q2 z =>
        rw [hk] at q
        obtain ⟨b, h1, n, r⟩ := q
        refine ⟨b, h1, n, r.ext e1 d1 fun z2 => ?_⟩
        subst z2
        exact h (re.inj j k b oj ⟨q2, z, hk, h1⟩)
      | pf z =>
        rw [hk] at q
        obtain ⟨b, h1, z, r⟩ := q
        exact ⟨b, h1, z, r.ext e1 d1⟩
      | exn c fs =>
        rw [hk] at q
        obtain ⟨b, dd, C, fv, h1, h2, h3, h4, r⟩ := q
        refine ⟨b, dd, C, fv, h1, h2, h3, e1.hh _ _ h4 fun z2 => ?_, r.ext e1 d1⟩
        rw [z2, ho1] at h4
        cases h4
        cases hw1
  · obtain ⟨h1, h2⟩ := re.pin k b h
    refine ⟨h1, ?_⟩
    by_cases hk : j = k
    · subst hk
      rw [eget_eput_same e j _ hj]
      rw [hs] at h2
      cases p
      · exact h2.elim
      · trivial
    · rw [eget_eput_ne e j k _ hk]; exact h2
  · by_cases hk : j = k
    · subst hk
      rw [eget_eput_same e j _ hj]
      trivial
    · rw [eget_eput_ne e j k _ hk]; exact h
end
end Z
/-! ZA: stores by place, append, pop; defs and calls. -/
namespace Z
open PySem L2 PySem.Spec
theorem setAt_ix {xs ys : List Val} {i : Int} {x : Val} (h : setAt xs i x = some ys) : ∃ k, ixN xs.length i = some k ∧ ys = xs.set k x := by
  unfold setAt at h
  unfold ixN
  split at h
  · rename_i c
    split at h
    · rename_i c2
      cases h
      exact ⟨_, by rw [if_pos c, if_pos c2], rfl⟩
    · cases h
  · rename_i c
    split at h
    · rename_i c2
      cases h
      exact ⟨_, by rw [if_neg c, if_pos (by omega)], rfl⟩
    · cases h
theorem isOwnL_some {s : Slot} (h : isOwnL s = true) : ∃ p xs, s = .own p (.lst xs) := by
  unfold isOwnL at h
  split at h
  · exact ⟨_, _, rfl⟩
  · cases h
section
variable {X : Cx} {xc : Xc} {W : WX} {pos : Pos}
/-- name[i] = a -/
theorem ss_setIx (j : Nat) {x : Str} {a ix : Expr} {fa fi : E} {p0 p1 : Pos} (ha : SE X xc W a fa) (hi : SE X xc W ix fi) (hN : X.N[j]? = some x := by rfl) (hv : Vis X.env.scope x := by first | exact Or.inl rfl | exact Or.inr (Or.inl rfl) | exact Or.inr (Or.inr rfl))
    (hd : (x == ("__debug__" : Str)) = false := by decide) (hcd : (x == ("__classdict__" : Str)) = false := by decide)
    (hp : ∀ {to te : TE} {t : TSet}, PE X (.Name x p0) to → PE X ix te → PSet X t → PG X (.Subscript (.Name x p0) ix p1) (gSub to te t) := by intro _ _ _ ho hi hs; exact pg_sub ho hi hs)
    (hs : swapsWithSole [.Subscript (.Name x p0) ix p1] a pos.line X.env = pure false := by rfl) (hw : swappedStores [.Subscript (.Name x p0) ix p1] a X.env = pure none := by rfl)
    (h1 : (assignEach [.Subscript (.Name x p0) ix p1] X.env).map (·.2) = [assign (.Subscript (.Name x p0) ix p1) X.env] := by rfl) : SS X xc W (.Assign [.Subscript (.Name x p0) ix p1] a pos) (sSetIx j fi fa) := by
  refine PS_imp (ps_asg ha (hp (pe_var hN hv hd hcd) hi set_list) hs hw h1) fun D σ H h => ?_
  obtain ⟨pa, Zs, env, re, h⟩ := h
  refine ⟨pa, Zs, env, re, h.cont fun r e1 u Z1 H1 _ p1 q1 h => ?_⟩
  by_cases hg : isOwnL (eget e1 j) = true
  · rw [if_pos hg] at h
    obtain ⟨p, xs, ho⟩ := isOwnL_some hg
    have sj := p1.re.sl j
    rw [ho] at sj
    obtain ⟨b, hb, _⟩ := sj
    refine ⟨_, hb, pa, Z1, e1, p1.re, ?_⟩
    cases hf : fi e1 with
    | no => rw [hf] at h; exact h.elim
    | ex c fs e2 => rw [hf] at h; exact fun C d fv Z2 H2 p2 => h C d fv σ Z2 H2 (p1.trans p2).toPost
    | ok q e2 =>
      rw [hf, Rs.bind_ok] at h
      intro i' Z2 H2 p2 q2
      cases he : esc e2 r with
      | no => rw [he] at h; exact h.elim
      | ex c fs e => exact absurd (show escs e2 [r] = .ex c fs e by rw [escs_cons, he]; rfl) (escs_ex _ _ _ _ _)
      | ok x e3 =>
        rw [he, Rs.bind_ok] at h
        obtain ⟨Z3, P3, rv, zz, _⟩ := esc_ok (s := ⟨pa, Zs, H, σ, env⟩) (p1.trans p2) (q1.step p1.re p2) he
        cases ho3 : eget e3 j with
        | own p3 y =>
          cases y with
          | lst ys =>
            cases q with
            | v k =>
              cases q2 with
              | int i =>
                simp only [ho3] at h
                cases hz : setAt ys i x with
                | none => rw [hz] at h; exact h.elim
                | some zs =>
                  rw [hz] at h
                  obtain ⟨n, hn, rfl⟩ := setAt_ix hz
                  have s3 := P3.re.sl j
                  rw [ho3] at s3
                  obtain ⟨b3, hb3, nz3, us, hl3, rl3⟩ := s3
                  rw [hb] at hb3
                  cases hb3
                  refine ⟨b, us, i, n, rfl, rfl, hl3, by rw [← rl3.length]; exact hn, ?_⟩
                  have hy : Hld (gX X) Z3 (upd H2 b (.lst (us.set n u))) (.lst (ys.set n x)) b := ⟨_, upd_same, (rl3.set n rv).gr ⟨fun _ h => h, fun c o hw hc => by
                    rw [upd_ne]; · exact hc
                    intro z
                    subst z
                    rw [hl3] at hc
                    cases hc
                    rcases hw with hw | hw
                    · cases hw
                    · exact nz3 hw⟩⟩
                  exact h σ Z3 _ (P3.trans (P3.re.write ho3 hb hy)).toPost
              | _ => simp only [ho3] at h; exact h.elim
            | own k => simp only [ho3] at h; exact h.elim
            | bor k => simp only [ho3] at h; exact h.elim
          | _ => simp only [ho3] at h; exact h.elim
        | _ => simp only [ho3] at h; exact h.elim
  · rw [if_neg hg] at h
    exact h.elim
/-- a list that is changed, at a place -/
theorem Hld.upd {g : Gm} {Zs : Addr → Prop} {H : Hp} {b : Addr} {us ws : List V} {ys : List Val} (h : H b = some (.lst us)) (nz : ¬ Zs b) (r : RvL g Zs H ys ws) : Hld g Zs (upd H b (.lst ws)) (.lst ys) b :=
  ⟨_, upd_same, r.gr ⟨fun _ h => h, fun c o hw hc => by
    rw [upd_ne]; · exact hc
    intro z
    subst z
    rw [h] at hc
    cases hc
    rcases hw with hw | hw
    · cases hw
    · exact nz hw⟩⟩
end
end Z
/-! ZB: calls of defs. -/
namespace Z
open PySem L2 PySem.Spec
/-! ### what is handed over -/
inductive RAs (g : Gm) (Zs : Addr → Prop) (H : Hp) : List AV → List V → Prop
  | nil : RAs g Zs H [] []
  | v {x : Val} {u : V} {as : List AV} {us : List V} : RvV g Zs H x u → RAs g Zs H as us → RAs g Zs H (.v x :: as) (u :: us)
  | own {x : Val} {a : Addr} {as : List AV} {us : List V} : ¬ Zs a → Hld g Zs H x a → RAs g Zs H as us → RAs g Zs H (.own x :: as) (.ref a :: us)
def OwA (as : List AV) (us : List V) (a : Addr) : Prop := ∃ (i : Nat) (x : Val), as[i]? = some (.own x) ∧ us[i]? = some (.ref a)
def InjA (as : List AV) (us : List V) : Prop := ∀ (i j : Nat) (x y : Val) (a : Addr), as[i]? = some (.own x) → us[i]? = some (.ref a) → as[j]? = some (.own y) → us[j]? = some (.ref a) → i = j
/-- what became of what was handed over -/
def Bk (g : Gm) (Z1 : Addr → Prop) (H1 : Hp) (as : List AV) (us : List V) (ps : Env) : Prop := ∀ (i : Nat) (x : Val) (a : Addr), as[i]? = some (.own x) → us[i]? = some (.ref a) →
  match eget ps i with
  | .own true y => ¬ Z1 a ∧ Hld g Z1 H1 y a
  | .pf y => Z1 a ∧ RvV g Z1 H1 y (.ref a)
  | _ => False
def RRc (g : Gm) (H : Hp) (Z1 : Addr → Prop) (H1 : Hp) : RV → V → Prop
  | .v x, u => RvV g Z1 H1 x u
  | .own x, u => ∃ a, u = .ref a ∧ ¬ Z1 a ∧ Hld g Z1 H1 x a ∧ H a = none
  | .bor _, _ => False
def EndC (g : Gm) (Zs : Addr → Prop) (H : Hp) (as : List AV) (us : List V) (Q : VK) (E : XK) : FR → Prop
  | .ok r ps => ∀ u Z1 H1, Ext (OwA as us) Zs H Z1 H1 → Bk g Z1 H1 as us ps → RRc g H Z1 H1 r u → Q u H1
  | .ex c fs ps => ∀ C d fv Z1 H1, Ext (OwA as us) Zs H Z1 H1 → Bk g Z1 H1 as us ps → g.mg c = some (.ref C) → H1 d = some (.xd fv) → RvF g Z1 H1 fs fv → E (.ref C) (some d) H1
  | .no => False
/-- a def's promise: it does what m says -/
def spM (g : Gm) (m : Fn) : Sp := fun us H Q E => ∃ Zs as, RAs g Zs H as us ∧ InjA as us ∧ Zd Zs H ∧ EndC g Zs H as us Q E (m as)
/-- so many arguments are asked -/
def Arity (n : Nat) (m : Fn) : Prop := ∀ as, as.length ≠ n → m as = .no
theorem RAs.length {g : Gm} {Zs : Addr → Prop} {H : Hp} : ∀ {as : List AV} {us : List V}, RAs g Zs H as us → as.length = us.length
  | _, _, .nil => rfl
  | _, _, .v _ r => by rw [List.length_cons, List.length_cons, RAs.length r]
  | _, _, .own _ _ r => by rw [List.length_cons, List.length_cons, RAs.length r]
theorem RAs.getOwn {g : Gm} {Zs : Addr → Prop} {H : Hp} : ∀ {as : List AV} {us : List V} {i : Nat} {x : Val}, RAs g Zs H as us → as[i]? = some (.own x) → ∃ a, us[i]? = some (.ref a) ∧ ¬ Zs a ∧ Hld g Zs H x a
  | _, _, 0, x, .v _ _, e => by simp at e
  | _, _, 0, x, .own n h r, e => by
    simp at e
    subst e
    exact ⟨_, rfl, n, h⟩
  | _, _, i + 1, x, .v _ r, e => by
    obtain ⟨a, h1, h2⟩ := RAs.getOwn (i := i) (x := x) r (by simpa using e)
    exact ⟨a, by simpa using h1, h2⟩
  | _, _, i + 1, x, .own _ _ r, e => by
    obtain ⟨a, h1, h2⟩ := RAs.getOwn (i := i) (x := x) r (by simpa using e)
    exact ⟨a, by simpa using h1, h2⟩
theorem RAs.owOk {g : Gm} {Zs : Addr → Prop} {H : Hp} {as : List AV} {us : List V} (r : RAs g Zs H as us) : OwOk (OwA as us) Zs H := by
  rintro a ⟨i, x, h1, h2⟩
  obtain ⟨b, h3, n, h⟩ := r.getOwn h1
  rw [h2] at h3; cases h3
  exact ⟨n, h.wr⟩

/-! ### the caller's side -/
/-- values, by places -/
structure RRp (g : Gm) (s : At) (Zt : Addr → Prop) (H' : Hp) (σ' : L2.St) (env' : Env) (rs : List RV) (us : List V) : Prop where
  len : rs.length = us.length
  rr : ∀ (i : Nat) r u, rs[i]? = some r → us[i]? = some u → RR g s Zt H' σ' env' r u
  ne : ∀ (i j : Nat) x y u, i ≠ j → rs[i]? = some (.own x) → rs[j]? = some (.own y) → us[i]? = some u → us[j]? ≠ some u
theorem RRs.p {g : Gm} {s : At} {Zt : Addr → Prop} {H' : Hp} {σ' : L2.St} {env' : Env} : ∀ {rs : List RV} {us : List V}, RRs g s Zt H' σ' env' rs us → RRp g s Zt H' σ' env' rs us
  | _, _, .nil => ⟨rfl, fun i r u h => (by simp at h), fun i j x y u _ h => (by simp at h)⟩
  | r :: rs, u :: us, .cons h t n => by
    have ih := RRs.p t
    refine ⟨by rw [List.length_cons, List.length_cons, ih.len], fun i r' u' h1 h2 => ?_, fun i j x y u' hij h1 h2 h3 h4 => ?_⟩
    · cases i with
      | zero => simp at h1 h2; subst h1; subst h2; exact h
      | succ i => exact ih.rr i r' u' (by simpa using h1) (by simpa using h2)
    · have zip : ∀ {k : Nat} {y : Val} {w : V}, rs[k]? = some (.own y) → us[k]? = some w → (RV.own y, w) ∈ rs.zip us := fun {k y w} a b => by
        refine List.mem_of_getElem? (i := k) ?_
        rw [List.getElem?_zip_eq_some]
        exact ⟨a, b⟩
      cases i with
      | zero =>
        cases j with
        | zero => exact hij rfl
        | succ j =>
          simp at h1 h3
          subst h1; subst h3
          exact n x rfl (.own y) u (zip (by simpa using h2) (by simpa using h4)) ⟨y, rfl⟩ rfl
      | succ i =>
        cases j with
        | zero =>
          simp at h2 h4
          subst h2; subst h4
          exact n y rfl (.own x) u (zip (by simpa using h1) (by simpa using h3)) ⟨x, rfl⟩ rfl
        | succ j => exact ih.ne i j x y u' (by omega) (by simpa using h1) (by simpa using h2) (by simpa using h3) (by simpa using h4)
/-- in another order -/
theorem RRp.perm {g : Gm} {s : At} {Zt : Addr → Prop} {H' : Hp} {σ' : L2.St} {env' : Env} {rs : List RV} {us : List V} (h : RRp g s Zt H' σ' env' rs us) {perm : List Nat} (nd : perm.Nodup) (lt : ∀ i ∈ perm, i < rs.length) :
    RRp g s Zt H' σ' env' (perm.map fun i => rs.getD i (.v .non)) (perm.map fun i => us.getD i .non) := by
  have g1 : ∀ (k : Nat) r, (perm.map fun i => rs.getD i (.v .non))[k]? = some r → ∃ i, perm[k]? = some i ∧ rs[i]? = some r := fun k r e => by
    rw [List.getElem?_map] at e
    cases q : perm[k]? with
    | none => rw [q] at e; cases e
    | some i =>
      rw [q] at e
      have hi := lt i (List.mem_of_getElem? q)
      refine ⟨i, rfl, ?_⟩
      rw [List.getElem?_eq_getElem hi]
      simpa [List.getD_eq_getElem?_getD, List.getElem?_eq_getElem hi] using e
  have g2 : ∀ (k : Nat) r, (perm.map fun i => us.getD i .non)[k]? = some r → ∃ i, perm[k]? = some i ∧ us[i]? = some r := fun k r e => by
    rw [List.getElem?_map] at e
    cases q : perm[k]? with
    | none => rw [q] at e; cases e
    | some i =>
      rw [q] at e
      have hi : i < us.length := by rw [← h.len]; exact lt i (List.mem_of_getElem? q)
      refine ⟨i, rfl, ?_⟩
      rw [List.getElem?_eq_getElem hi]
      simpa [List.getD_eq_getElem?_getD, List.getElem?_eq_getElem hi] using e
  refine ⟨by simp, fun k r u h1 h2 => ?_, fun k l x y u hkl h1 h2 h3 h4 => ?_⟩
  · obtain ⟨i, e1, h1⟩ := g1 k r h1
    obtain ⟨j, e2, h2⟩ := g2 k u h2
    rw [e1] at e2; cases e2
    exact h.rr i r u h1 h2
  · obtain ⟨i, e1, h1⟩ := g1 k _ h1
    obtain ⟨j, e2, h2⟩ := g1 l _ h2
    obtain ⟨i', e3, h3⟩ := g2 k _ h3
    obtain ⟨j', e4, h4⟩ := g2 l _ h4
    rw [e1] at e3; cases e3
    rw [e2] at e4; cases e4
    refine h.ne i j x y u (fun z => hkl ?_) h1 h2 h3 h4
    subst z
    obtain ⟨l1, e1⟩ := List.getElem?_eq_some_iff.mp e1
    obtain ⟨l2, e2⟩ := List.getElem?_eq_some_iff.mp e2
    exact (List.getElem_inj nd).mp (e1.trans e2.symm)
theorem hands_get {e : Env} : ∀ {rs : List RV} {as : List AV}, hands e rs = some as → as.length = rs.length ∧ ∀ (i : Nat) r, rs[i]? = some r → ∃ a, as[i]? = some a ∧ hand e r = some a
  | [], as, h => by cases h; exact ⟨rfl, fun i r h => (by simp at h)⟩
  | r :: rs, as, h => by
    rw [hands_cons] at h
    cases h1 : hand e r with
    | none => rw [h1] at h; cases h
    | some a =>
      cases h2 : hands e rs with
      | none => rw [h1, h2] at h; cases h
      | some as' =>
        rw [h1, h2] at h
        cases h
        obtain ⟨l, ih⟩ := hands_get h2
        refine ⟨by rw [List.length_cons, List.length_cons, l], fun i r' h => ?_⟩
        cases i with
        | zero => simp at h; subst h; exact ⟨a, rfl, h1⟩
        | succ i =>
          obtain ⟨a', h3, h4⟩ := ih i r' (by simpa using h)
          exact ⟨a', by simpa using h3, h4⟩
/-- an own object that is handed over: a new one, or a place's -/
theorem hand_own_cases {e : Env} {r : RV} {x : Val} (h : hand e r = some (.own x)) : r = .own x ∨ ∃ i p, r = .bor i ∧ eget e i = .own p x := by
  cases r with
  | v y => cases h
  | own y => cases h; exact .inl rfl
  | bor i =>
    rw [hand_bor] at h
    cases hs : eget e i with
    | own p y => rw [hs] at h; cases h; exact .inr ⟨i, p, rfl, hs⟩
    | emp => rw [hs] at h; cases h
    | v y => rw [hs] at h; cases h
    | pf y => rw [hs] at h; cases h
    | exn c fs => rw [hs] at h; cases h
theorem nodupN_nd : ∀ {l : List Nat}, nodupN l = true → l.Nodup
  | [], _ => List.nodup_nil
  | i :: is, h => by
    unfold nodupN at h
    rw [Bool.and_eq_true, Bool.not_eq_true'] at h
    refine List.nodup_cons.mpr ⟨fun m => ?_, nodupN_nd h.2⟩
    rw [List.contains_iff_mem.mpr m] at h
    cases h.1
/-- a place is lent once -/
theorem lent_inj {e : Env} : ∀ {rs : List RV}, (lent e rs).Nodup → ∀ (i j k : Nat) (p : Bool) (x : Val), rs[i]? = some (.bor k) → rs[j]? = some (.bor k) → eget e k = .own p x → i = j := by
  have mem : ∀ {rs : List RV} {i k : Nat} {p : Bool} {x : Val}, rs[i]? = some (.bor k) → eget e k = .own p x → k ∈ lent e rs := by
    intro rs
    induction rs with
    | nil => intro i k p x h; simp at h
    | cons r rs ih =>
      intro i k p x h ho
      cases i with
      | zero =>
        simp at h
        subst h
        rw [lent_bor, ho]
        exact List.mem_cons_self
      | succ i =>
        have := ih (i := i) (by simpa using h) ho
        cases r with
        | v y => exact this
        | own y => exact this
        | bor l =>
          rw [lent_bor]
          cases eget e l <;> first | exact this | exact List.mem_cons_of_mem _ this
  intro rs
  induction rs with
  | nil => intro _ i j k p x h; simp at h
  | cons r rs ih =>
    intro nd i j k p x h1 h2 ho
    have nd' : (lent e rs).Nodup := by
      cases r with
      | v y => exact nd
      | own y => exact nd
      | bor l =>
        rw [lent_bor] at nd
        cases hl : eget e l <;> rw [hl] at nd <;> first | exact nd | exact (List.nodup_cons.mp nd).2
    cases i with
    | zero =>
      cases j with
      | zero => rfl
      | succ j =>
        simp at h1
        subst h1
        rw [lent_bor, ho] at nd
        exact absurd (mem (i := j) (by simpa using h2) ho) (List.nodup_cons.mp nd).1
    | succ i =>
      cases j with
      | zero =>
        simp at h2
        subst h2
        rw [lent_bor, ho] at nd
        exact absurd (mem (i := i) (by simpa using h1) ho) (List.nodup_cons.mp nd).1
      | succ j => rw [ih nd' i j k p x (by simpa using h1) (by simpa using h2) ho]
theorem RRp.as {g : Gm} {xc : Xc} {s : At} {pa : List (Option Addr)} {Z1 : Addr → Prop} {H1 : Hp} {σ : L2.St} {e1 : Env} (re : RE g xc pa Z1 H1 σ e1) : ∀ {rs : List RV} {us : List V} {as : List AV}, rs.length = us.length → (∀ (i : Nat) r u, rs[i]? = some r → us[i]? = some u → RR g s Z1 H1 σ e1 r u) → hands e1 rs = some as → RAs g Z1 H1 as us
  | [], [], as, _, _, h => by cases h; exact .nil
  | [], _ :: _, _, h, _, _ => by cases h
  | _ :: _, [], _, h, _, _ => by cases h
  | r :: rs, u :: us, as, hl, hr, h => by
    rw [hands_cons] at h
    cases h1 : hand e1 r with
    | none => rw [h1] at h; cases h
    | some a =>
      cases h2 : hands e1 rs with
      | none => rw [h1, h2] at h; cases h
      | some as' =>
        rw [h1, h2] at h
        cases h
        have ih := RRp.as re (rs := rs) (us := us) (by simpa using hl) (fun i r u a b => hr (i + 1) r u (by simpa using a) (by simpa using b)) h2
        have r0 := hr 0 r u rfl rfl
        cases r with
        | v x => cases h1; exact .v r0 ih
        | own x =>
          cases h1
          obtain ⟨b, e, nz, hh, _⟩ := r0
          subst e
          exact .own nz hh ih
        | bor k =>
          obtain ⟨b, e, hb, _⟩ := r0
          subst e
          rw [hand_bor] at h1
          have q := re.sl k
          rw [hb] at q
          cases hs : eget e1 k with
          | emp => rw [hs] at h1; cases h1
          | exn c fs => rw [hs] at h1; cases h1
          | v y =>
            rw [hs] at h1 q; cases h1
            obtain ⟨w, hw, rv⟩ := q
            cases hw
            exact .v rv ih
          | own p y =>
            rw [hs] at h1 q; cases h1
            obtain ⟨w, hw, nz, hh⟩ := q
            cases hw
            exact .own nz hh ih
          | pf y =>
            rw [hs] at h1 q; cases h1
            obtain ⟨w, hw, _, rv⟩ := q
            cases hw
            exact .v rv ih
theorem lent_mem {e : Env} : ∀ {rs : List RV} {i k : Nat} {p : Bool} {x : Val}, rs[i]? = some (.bor k) → eget e k = .own p x → k ∈ lent e rs
  | [], _, _, _, _, h, _ => by simp at h
  | r :: rs, 0, k, p, x, h, ho => by
    simp at h
    subst h
    rw [lent_bor, ho]
    exact List.mem_cons_self
  | r :: rs, i + 1, k, p, x, h, ho => by
    have := lent_mem (rs := rs) (i := i) (by simpa using h) ho
    cases r with
    | v y => exact this
    | own y => exact this
    | bor l =>
      rw [lent_bor]
      cases eget e l <;> first | exact this | exact List.mem_cons_of_mem _ this
theorem lent_congr {e e' : Env} : ∀ {rs : List RV}, (∀ (i k : Nat), rs[i]? = some (.bor k) → eget e k = eget e' k) → lent e rs = lent e' rs
  | [], _ => rfl
  | r :: rs, h => by
    have ih := lent_congr (e := e) (e' := e') (rs := rs) fun i k q => h (i + 1) k (by simpa using q)
    cases r with
    | v y => exact ih
    | own y => exact ih
    | bor l => rw [lent_bor, lent_bor, h 0 l rfl, ih]
theorem eput_self : ∀ (e : Env) (i : Nat), eput e i (eget e i) = e
  | [], _ => rfl
  | _ :: _, 0 => rfl
  | s :: r, i + 1 => by rw [eget_succ, eput_succ, eput_self r i]
theorem back_non {s p : Slot} (h : ∀ q x, s ≠ .own q x) : back s p = s := by
  cases s with
  | own q x => exact absurd rfl (h q x)
  | _ => rfl
/-- what a place holds behind the call -/
def BkG (rs : List RV) (ps e : Env) (i : Nat) : Prop := (eget (backs e rs ps) i = eget e i ∧ ∀ (k : Nat) p x, rs[k]? = some (.bor i) → eget e i = .own p x → ps.length ≤ k) ∨ ∃ (k : Nat) (p : Bool) (x : Val), rs[k]? = some (.bor i) ∧ eget e i = .own p x ∧ k < ps.length ∧ eget (backs e rs ps) i = back (eget e i) (eget ps k)
theorem backs_get : ∀ {rs : List RV} {ps : Env} {e : Env} (i : Nat), (lent e rs).Nodup → BkG rs ps e i
  | [], ps, e, i, _ => .inl ⟨by rw [backs_nil], fun k p x h => by simp at h⟩
  | r :: rs, [], e, i, _ => .inl ⟨by cases r <;> rfl, fun k p x _ _ => Nat.zero_le _⟩
  | r :: rs, p :: ps, e, i, nd => by
    have shift : ∀ {e' : Env}, (lent e' rs).Nodup → backs e (r :: rs) (p :: ps) = backs e' rs ps → eget e' i = eget e i → (∀ q x, r = .bor i → eget e i ≠ .own q x) → BkG (r :: rs) (p :: ps) e i := fun {e'} nd' hb he hr => by
      have ih := backs_get (rs := rs) (ps := ps) (e := e') i nd'
      unfold BkG at ih ⊢
      rw [hb]
      rw [he] at ih
      rcases ih with ⟨h1, h2⟩ | ⟨k, q, x, h1, h2, h3, h4⟩
      · refine Or.inl ⟨h1, fun k q x hk ho => ?_⟩
        cases k with
        | zero => simp at hk; exact absurd ho (hr q x hk)
        | succ k => exact Nat.succ_le_succ (h2 k q x (by simpa using hk) ho)
      · exact Or.inr ⟨k + 1, q, x, by simpa using h1, h2, Nat.succ_lt_succ h3, by rw [eget_succ]; exact h4⟩
    cases r with
    | v y => exact shift (e' := e) nd rfl rfl (fun q x h => by cases h)
    | own y => exact shift (e' := e) nd rfl rfl (fun q x h => by cases h)
    | bor l =>
      by_cases ho : ∃ q x, eget e l = .own q x
      · obtain ⟨q, x, ho⟩ := ho
        have nd2 : l ∉ lent e rs ∧ (lent e rs).Nodup := by
          rw [lent_bor, ho] at nd
          exact List.nodup_cons.mp nd
        have nob : ∀ (k : Nat), rs[k]? ≠ some (.bor l) := fun k h => nd2.1 (lent_mem h ho)
        have le : lent (eput e l (back (eget e l) p)) rs = lent e rs := lent_congr fun j k h => eget_eput_ne _ _ _ _ fun z => nob j (by rw [z]; exact h)
        by_cases hi : l = i
        · subst hi
          have hl : l < e.length := eget_lt (by rw [ho]; intro h; cases h)
          have ih := backs_get (rs := rs) (ps := ps) (e := eput e l (back (eget e l) p)) l (by rw [le]; exact nd2.2)
          unfold BkG
          rw [backs_bor]
          rcases ih with ⟨h1, _⟩ | ⟨k, _, _, h1, _⟩
          · refine .inr ⟨0, q, x, rfl, ho, Nat.succ_pos _, ?_⟩
            rw [h1, eget_eput_same e l _ hl, eget_zero]
          · exact absurd h1 (nob k)
        · exact shift (e' := eput e l (back (eget e l) p)) (by rw [le]; exact nd2.2) rfl (eget_eput_ne _ _ _ _ hi) (fun q x h => by cases h; exact absurd rfl hi)
      · have hn : ∀ q x, eget e l ≠ .own q x := fun q x h => ho ⟨q, x, h⟩
        have e1 : eput e l (back (eget e l) p) = e := by rw [back_non hn, eput_self]
        have nd' : (lent e rs).Nodup := by
          rw [lent_bor] at nd
          cases hl : eget e l <;> rw [hl] at nd <;> first | exact nd | exact absurd hl (hn _ _)
        exact shift (e' := e) nd' (by rw [backs_bor, e1]) rfl (fun q x h => by cases h; exact hn q x)
section
variable {g : Gm} {xc : Xc} {s : At} {Z1 Z2 : Addr → Prop} {H1 H2 : Hp} {e1 : Env} {rs : List RV} {us : List V} {as : List AV} {ps : Env}
/-- none is handed over twice -/
theorem call_inj (p1 : PostE g xc s.pa s.Zs s.H s.σ s.env Z1 H1 e1) (q1 : RRp g s Z1 H1 s.σ e1 rs us) (ha : hands e1 rs = some as) (nd : nodupN (lent e1 rs) = true) : InjA as us := by
  have re := p1.re
  obtain ⟨al, ag⟩ := hands_get ha
  have nd' := nodupN_nd nd
  -- an own object that is handed over: whose it is
  have whose : ∀ (i : Nat) x a, as[i]? = some (.own x) → us[i]? = some (.ref a) → (rs[i]? = some (.own x) ∧ ¬ Owd e1 s.σ a ∧ (Owd s.env s.σ a ∨ s.H a = none)) ∨ ∃ k p, rs[i]? = some (.bor k) ∧ eget e1 k = .own p x ∧ s.σ[k]? = some (some (.ref a)) := fun i x a h1 h2 => by
    have hi : i < rs.length := by rw [← al]; exact (List.getElem?_eq_some_iff.mp h1).1
    have hr : rs[i]? = some rs[i] := List.getElem?_eq_getElem hi
    obtain ⟨a', h3, h4⟩ := ag i _ hr
    rw [h1] at h3; cases h3
    have r0 := q1.rr i _ _ hr h2
    rcases hand_own_cases h4 with e | ⟨k, p, e, ho⟩
    · rw [e] at r0 hr
      obtain ⟨b, eb, _, _, no, fr⟩ := r0
      cases eb
      exact .inl ⟨hr, no, fr⟩
    · rw [e] at r0 hr
      obtain ⟨b, eb, hb, _⟩ := r0
      cases eb
      exact .inr ⟨k, p, hr, ho, hb⟩
  exact fun i j x y a h1 h2 h3 h4 => by
    rcases whose i x a h1 h2 with ⟨r1, n1, _⟩ | ⟨k, p, r1, o1, s1⟩
    · rcases whose j y a h3 h4 with ⟨r2, n2, _⟩ | ⟨l, q, r2, o2, s2⟩
      · exact Classical.byContradiction fun hij => q1.ne i j x y _ hij r1 r2 h2 h4
      · exact absurd ⟨l, q, y, o2, s2⟩ n1
    · rcases whose j y a h3 h4 with ⟨r2, n2, _⟩ | ⟨l, q, r2, o2, s2⟩
      · exact absurd ⟨k, p, x, o1, s1⟩ n2
      · have e := re.inj k l a ⟨p, x, o1, s1⟩ ⟨q, y, o2, s2⟩
        subst e
        exact lent_inj nd' i j k p x r1 r2 o1
/-- behind the call -/
theorem call_post (p1 : PostE g xc s.pa s.Zs s.H s.σ s.env Z1 H1 e1) (q1 : RRp g s Z1 H1 s.σ e1 rs us) (ha : hands e1 rs = some as) (nd : nodupN (lent e1 rs) = true) (ext : Ext (OwA as us) Z1 H1 Z2 H2) (bk : Bk g Z2 H2 as us ps) :
    PostE g xc s.pa s.Zs s.H s.σ s.env Z2 H2 (backs e1 rs ps) ∧ (∀ a, Owd (backs e1 rs ps) s.σ a → Owd e1 s.σ a) := by
  have re := p1.re
  obtain ⟨al, ag⟩ := hands_get ha
  have nd' := nodupN_nd nd
  have ra := RRp.as re q1.len q1.rr ha
  -- an own object that is handed over: whose it is
  have whose : ∀ (i : Nat) x a, as[i]? = some (.own x) → us[i]? = some (.ref a) → (rs[i]? = some (.own x) ∧ ¬ Owd e1 s.σ a ∧ (Owd s.env s.σ a ∨ s.H a = none)) ∨ ∃ k p, rs[i]? = some (.bor k) ∧ eget e1 k = .own p x ∧ s.σ[k]? = some (some (.ref a)) := fun i x a h1 h2 => by
    have hi : i < rs.length := by rw [← al]; exact (List.getElem?_eq_some_iff.mp h1).1
    have hr : rs[i]? = some rs[i] := List.getElem?_eq_getElem hi
    obtain ⟨a', h3, h4⟩ := ag i _ hr
    rw [h1] at h3; cases h3
    have r0 := q1.rr i _ _ hr h2
    rcases hand_own_cases h4 with e | ⟨k, p, e, ho⟩
    · rw [e] at r0 hr
      obtain ⟨b, eb, _, _, no, fr⟩ := r0
      cases eb
      exact .inl ⟨hr, no, fr⟩
    · rw [e] at r0 hr
      obtain ⟨b, eb, hb, _⟩ := r0
      cases eb
      exact .inr ⟨k, p, hr, ho, hb⟩
  have ow : ∀ a, OwA as us a → Owd e1 s.σ a ∨ Owd s.env s.σ a ∨ s.H a = none := fun a ⟨i, x, h1, h2⟩ => by
    rcases whose i x a h1 h2 with ⟨_, _, f⟩ | ⟨k, p, _, o, s1⟩
    · exact .inr f
    · exact .inl ⟨k, p, x, o, s1⟩
  have ow' : ∀ a, OwA as us a → Owd s.env s.σ a ∨ s.H a = none := fun a h => (ow a h).elim (p1.ow a) id
  have gr := ext.grow ra.owOk
  -- an own place that is not handed over
  have notA : ∀ (k : Nat) p x a, eget e1 k = .own p x → s.σ[k]? = some (some (.ref a)) → OwA as us a → ∃ (i : Nat), rs[i]? = some (.bor k) ∧ as[i]? = some (.own x) ∧ us[i]? = some (.ref a) := fun k p x a ho hs ⟨i, y, h1, h2⟩ => by
    rcases whose i y a h1 h2 with ⟨_, n, _⟩ | ⟨l, q, r2, o2, s2⟩
    · exact absurd ⟨k, p, x, ho, hs⟩ n
    · have e := re.inj k l a ⟨p, x, ho, hs⟩ ⟨q, y, o2, s2⟩
      subst e
      rw [ho] at o2; cases o2
      exact ⟨i, r2, h1, h2⟩
  -- a place that is handed over
  have isA : ∀ (i k : Nat) p x, rs[i]? = some (.bor k) → eget e1 k = .own p x → ∃ a, s.σ[k]? = some (some (.ref a)) ∧ as[i]? = some (.own x) ∧ us[i]? = some (.ref a) := fun i k p x h ho => by
    obtain ⟨a', h3, h4⟩ := ag i _ h
    rw [hand_bor, ho] at h4
    cases h4
    obtain ⟨a, h5, _⟩ := ra.getOwn h3
    have r0 := q1.rr i _ _ h h5
    obtain ⟨b, eb, hb, _⟩ := r0
    cases eb
    exact ⟨a, hb, h3, h5⟩
  have slot : ∀ k, (eget (backs e1 rs ps) k = eget e1 k ∧ ∀ p x a, eget e1 k = .own p x → s.σ[k]? = some (some (.ref a)) → ¬ OwA as us a) ∨ ∃ (p : Bool) (x : Val) (a : Addr) (sl : Slot), eget e1 k = .own p x ∧ s.σ[k]? = some (some (.ref a)) ∧ eget (backs e1 rs ps) k = back (.own p x) sl ∧
      ((∃ y, sl = .own true y ∧ ¬ Z2 a ∧ Hld g Z2 H2 y a) ∨ ∃ y, sl = .pf y ∧ Z2 a ∧ RvV g Z2 H2 y (.ref a)) := fun k => by
    rcases backs_get (ps := ps) k nd' with ⟨h1, h2⟩ | ⟨i, p, x, h1, h2, h3, h4⟩
    · refine .inl ⟨h1, fun p x a ho hs hA => ?_⟩
      obtain ⟨i, r1, a1, u1⟩ := notA k p x a ho hs hA
      have b := bk i x a a1 u1
      rw [eget_out ps i (h2 i p x r1 ho)] at b
      exact b
    · obtain ⟨a, hs, a1, u1⟩ := isA i k p x h1 h2
      have b := bk i x a a1 u1
      refine .inr ⟨p, x, a, eget ps i, h2, hs, by rw [h4, h2], ?_⟩
      cases hp : eget ps i with
      | own q y =>
        rw [hp] at b
        cases q
        · exact b.elim
        · exact .inl ⟨y, rfl, b⟩
      | pf y => rw [hp] at b; exact .inr ⟨y, rfl, b⟩
      | emp => rw [hp] at b; exact b.elim
      | v y => rw [hp] at b; exact b.elim
      | exn c fs => rw [hp] at b; exact b.elim
  have own : ∀ k a, OwnAt (backs e1 rs ps) s.σ k a → OwnAt e1 s.σ k a := fun k a ⟨q, y, h1, h2⟩ => by
    rcases slot k with ⟨h3, _⟩ | ⟨p, x, b, sl, h3, h4, h5, h6⟩
    · rw [h3] at h1; exact ⟨q, y, h1, h2⟩
    · rw [h4] at h2; cases h2
      exact ⟨p, x, h3, h4⟩
  refine ⟨⟨⟨⟨fun a h => ext.zz a (p1.ext.zz a h), fun a h => ?_, fun a o h n => ?_, ext.zd⟩, ⟨?_, fun k => ?_, fun i j a h1 h2 => re.inj i j a (own i a h1) (own j a h2), fun k a h => ?_, ext.zd⟩, fun a ⟨k, h⟩ => p1.ow a ⟨k, own k a h⟩⟩, fun k h => ?_⟩, fun a ⟨k, h⟩ => ⟨k, own k a h⟩⟩
  · rcases ext.zn a h with h | h | h
    · exact p1.ext.zn a h
    · exact .inr (ow' a h)
    · exact .inr (p1.ext.free h)
  · refine ext.hh a o (p1.ext.hh a o h n) fun w => ?_
    rcases ow' a w with w | w
    · exact n w
    · rw [h] at w; cases w
  · have : ∀ (rs : List RV) (ps e : Env), (backs e rs ps).length = e.length := by
      intro rs
      induction rs with
      | nil => intro ps e; rw [backs_nil]
      | cons r rs ih =>
        intro ps e
        cases ps with
        | nil => cases r <;> rfl
        | cons p ps =>
          cases r with
          | v y => exact ih ps e
          | own y => exact ih ps e
          | bor l => rw [backs_bor, ih, eput_length]
    rw [this]
    exact re.len
  · rcases slot k with ⟨h3, h4⟩ | ⟨p, x, a, sl, h3, h4, h5, h6⟩
    · rw [h3]
      have q := re.sl k
      cases hs : eget e1 k with
      | emp => trivial
      | v x =>
        rw [hs] at q
        obtain ⟨u, h, r⟩ := q
        exact ⟨u, h, r.gr gr⟩
      | own p x =>
        rw [hs] at q
        obtain ⟨a, h, nz, r⟩ := q
        have na := h4 p x a hs h
        refine ⟨a, h, fun z => ?_, r.ext ext ra.owOk na⟩
        obtain ⟨o, ho, _⟩ := r.wr
        rcases ext.zn a z with z | z | z
        · exact nz z
        · exact na z
        · rw [ho] at z; cases z
      | pf x =>
        rw [hs] at q
        obtain ⟨a, h, z, r⟩ := q
        exact ⟨a, h, gr.zz a z, r.gr gr⟩
      | exn c fs =>
        rw [hs] at q
        obtain ⟨a, d, C, fv, h1, h2, h3, h4, r⟩ := q
        exact ⟨a, d, C, fv, h1, h2, h3, gr.kp _ _ (.inl rfl) h4, r.gr gr⟩
    · rw [h5]
      rcases h6 with ⟨y, rfl, nz, hl⟩ | ⟨y, rfl, z, rv⟩
      · exact ⟨a, h4, nz, hl⟩
      · cases p
        · exact ⟨_, h4, rv⟩
        · exact ⟨a, h4, z, rv⟩
  · obtain ⟨h1, h2⟩ := re.pin k a h
    refine ⟨h1, ?_⟩
    rcases slot k with ⟨h3, _⟩ | ⟨p, x, b, sl, h3, h4, h5, h6⟩
    · rw [h3]; exact h2
    · rw [h5]
      rw [h3] at h2
      cases p
      · exact h2.elim
      · rcases h6 with ⟨y, rfl, _⟩ | ⟨y, rfl, _⟩ <;> trivial
  · have h := p1.hol k h
    rcases slot k with ⟨h3, _⟩ | ⟨p, x, b, sl, h3, h4, h5, h6⟩
    · rw [h3]; exact h
    · rw [h5]
      cases p <;> (rcases h6 with ⟨y, rfl, _⟩ | ⟨y, rfl, _⟩ <;> trivial)
end
end Z
/-! ZC: calls of defs (the caller), defs by their bodies (the callee). -/
namespace Z
open PySem L2 PySem.Spec
abbrev CXP (P : Program) (w : World) : CXT := L2.CX P w
section
variable {X : Cx} {xc : Xc} {W : WX} {pos : Pos}
theorem call_run {s : At} {m : Fn} {rs : List RV} {us : List V} {Z1 : Addr → Prop} {H1 : Hp} {e1 : Env} {Q : VK} (p1 : PostE (gX X) xc s.pa s.Zs s.H s.σ s.env Z1 H1 e1) (q1 : RRp (gX X) s Z1 H1 s.σ e1 rs us)
    (h : End (gX X) xc s (relE (gX X) s) (callR m rs e1) W Q) : spM (gX X) m us H1 Q (WE W s.σ) := by
  unfold callR at h
  by_cases nd : nodupN (lent e1 rs) = true
  · rw [if_pos nd] at h
    cases ha : hands e1 rs with
    | none => rw [ha] at h; exact h.elim
    | some as =>
      rw [ha, opt_some, Rs.bind_ok] at h
      have ra := RRp.as p1.re q1.len q1.rr ha
      refine ⟨Z1, as, ra, call_inj p1 q1 ha nd, p1.re.zd, ?_⟩
      cases hm : m as with
      | no => rw [hm] at h; exact h.elim
      | ex c fs ps =>
        rw [hm] at h
        intro C d fv Z2 H2 ext bk hg hd hf
        obtain ⟨P, ow⟩ := call_post p1 q1 ha nd ext bk
        exact h C d fv Z2 H2 P hg hd hf
      | ok r ps =>
        rw [hm] at h
        intro u Z2 H2 ext bk hr
        obtain ⟨P, ow⟩ := call_post p1 q1 ha nd ext bk
        refine h u Z2 H2 P ?_
        cases r with
        | v x => exact hr
        | own x =>
          obtain ⟨a, e, nz, hl, hn⟩ := hr
          refine ⟨a, e, nz, hl, fun z => ?_, p1.ext.free hn⟩
          obtain ⟨_, o, ho, _⟩ := p1.re.owOk a (ow a z)
          rw [hn] at ho; cases ho
        | bor i => exact hr.elim
  · rw [if_neg nd] at h
    exact h.elim
/-- f(e, ..) -/
theorem se_call {k : Nat} {f : Addr} {fd : FuncData} {ps : List Str} {m : Fn} {x : Str} {p : Pos} {e : Expr} {es : List Expr} {fa : As} (F : FnOk X.prog X.w X.K X.mg X.base (CXP X.prog X.w) k f fd ps (spM (gX X) m)) (hr : Room k X.A) (tk : Takes X W) (hm : X.mg x = some (.ref f)) (hk : PySem.W.keepIn X.K (.ref f) = true) (hb : Binds X.K fd ps [])
    (ha : SA X xc W (e :: es) fa) (hg : Gl X x := by rfl) (hdb : (x == ("__debug__" : Str)) = false := by decide) (he : starEach (e :: es) X.env = (false, eval e X.env) :: starEach es X.env := by rfl) (hpl : (backTo pos (starEach es X.env)).any (·.1) = false := by rfl) :
    SE X xc W (.Call (.Name x p) (e :: es) [] pos) (eCall m fa) := by
  refine PE_imp (pe_callS F hr hg hm hk hb (passAt tk) ha hdb he hpl) fun σ H Q h => ?_
  obtain ⟨pa, Zs, env, re, h⟩ := h
  exact ⟨pa, Zs, env, re, h.cont fun rs e1 us Z1 H1 _ p1 q1 h => call_run (s := ⟨pa, Zs, H, σ, env⟩) p1 q1.p h⟩
/-- f() -/
theorem se_call0 {k : Nat} {f : Addr} {fd : FuncData} {m : Fn} {x : Str} {p : Pos} (F : FnOk X.prog X.w X.K X.mg X.base (CXP X.prog X.w) k f fd [] (spM (gX X) m)) (hr : Room k X.A) (tk : Takes X W) (hm : X.mg x = some (.ref f)) (hk : PySem.W.keepIn X.K (.ref f) = true) (hb : Binds X.K fd [] [])
    (hg : Gl X x := by rfl) (hdb : (x == ("__debug__" : Str)) = false := by decide) : SE X xc W (.Call (.Name x p) [] [] pos) (eCall m asNil) := by
  refine ⟨fun pins s σ H Q I h => ?_⟩
  refine wpAny_Call_Name_kw (ld_glob I hg hm ?_ hdb)
  refine PySem.W.callWith_K0 I.kIn hk (run_fnS (us := []) (vs := []) F hr hb (passAt tk σ) I .nil ?_)
  obtain ⟨pa, Zs, env, re, h⟩ := h
  exact call_run (s := ⟨pa, Zs, H, σ, env⟩) (PostE.refl re) RRs.nil.p h

/-! ### keywords -/
/-- the keywords' values, so many -/
def PKL (X : Cx) (kws : List Keyword) (t : TA) : Prop := ∀ (pos : Pos) (pins : List (Addr × Obj)) (s : Shared) (σ : L2.St) (H : Hp) (Q : List V → Hp → Prop), Inv X pins σ H s → t σ H Q →
  wpAny (model X.prog X.w) X.A (evalAll ((backToKw pos (keywordEach kws X.env)).map (·.2))) (fun ws s2 => ws.length = kws.length ∧ ∃ vs H', Inv X pins σ H' s2 ∧ Vals vs ws ∧ Q vs H') X.xe s
def PAK (X : Cx) (es : List Expr) (kws : List Keyword) (t : TA) : Prop := ∀ (pos : Pos) (pins : List (Addr × Obj)) (s : Shared) (σ : L2.St) (H : Hp) (Q : List V → Hp → Prop), Inv X pins σ H s → t σ H Q →
  wpAny (model X.prog X.w) X.A (spliced (backTo pos (starEach es X.env))) (fun us s1 => wpAny (model X.prog X.w) X.A (evalAll ((backToKw pos (keywordEach kws X.env)).map (·.2))) (fun ws s2 => us.length = es.length ∧ ws.length = kws.length ∧ ∃ vs H', Inv X pins σ H' s2 ∧ Vals vs (us ++ ws) ∧ Q vs H') X.xe s1) X.xe s
abbrev SK (X : Cx) (xc : Xc) (W : WX) (kws : List Keyword) (f : As) : Prop := PKL X kws (rdA (gX X) xc W f)
abbrev SAK (X : Cx) (xc : Xc) (W : WX) (es : List Expr) (kws : List Keyword) (f : As) : Prop := PAK X es kws (rdA (gX X) xc W f)
theorem sk_nil : SK X xc W [] asNil := fun pos pins s σ H Q I ⟨pa, Zs, env, re, h⟩ => wpAny_evalAll_nil ⟨rfl, [], H, I, .nil, h [] Zs H (PostE.refl re) .nil⟩
theorem sk_cons {nm : Option Str} {kpos : Pos} {e : Expr} {kws : List Keyword} {fa : E} {fr : As} (ha : SE X xc W e fa) (hr : SK X xc W kws fr) : SK X xc W (⟨nm, e, kpos⟩ :: kws) (asCons fa fr) := fun pos pins s σ H Q I h => by
  show wpAny _ _ (evalAll ((do let v ← eval e X.env; standAt pos; pure v) :: (backToKw pos (keywordEach kws X.env)).map (·.2))) _ _ s
  refine wpAny_evalAll_cons (wpAny_bind (thn (ha.run pins s σ H _ I (cons_end h)) fun u s1 ⟨x, H1, I1, r1, q1⟩ => wpAny_bind (wpAny_standAt (wpAny_pure ?_))))
  exact thn (hr pos pins s1 σ H1 _ I1 q1) fun us s2 ⟨l, xs, H2, I2, r2, q2⟩ => ⟨by rw [List.length_cons, List.length_cons, l], x :: xs, H2, I2, .cons r1 r2, q2⟩
theorem sak_nil {kws : List Keyword} {f : As} (h : SK X xc W kws f) : SAK X xc W [] kws f := fun pos pins s σ H Q I q => by
  refine Calls.spliced_nil ?_
  exact thn (h pos pins s σ H Q I q) fun ws s2 ⟨l, vs, H', I', r, q'⟩ => ⟨rfl, l, vs, H', I', r, q'⟩
theorem sak_cons {e : Expr} {es : List Expr} {kws : List Keyword} {fa : E} {fr : As} (ha : SE X xc W e fa) (hr : SAK X xc W es kws fr) (hs : starEach (e :: es) X.env = (false, eval e X.env) :: starEach es X.env := by rfl) : SAK X xc W (e :: es) kws (asCons fa fr) := fun pos pins s σ H Q I q => by
  have q2 := cons_end q
  rw [hs]
  show wpAny _ _ (spliced ((false, eval e X.env) :: backTo pos (starEach es X.env))) _ _ s
  refine Calls.spliced_cons (thn (ha.run pins s σ H _ I q2) fun u s1 ⟨x, H1, I1, r1, q1⟩ => ?_)
  refine thn (hr pos pins s1 σ H1 _ I1 q1) fun us s2 h2 => thn h2 fun ws s3 ⟨l1, l2, xs, H2, I2, r2, q3⟩ => ⟨by rw [List.length_cons, List.length_cons, l1], l2, x :: xs, H2, I2, .cons r1 r2, q3⟩
/-- how the parameters are bound: perm tells, for each parameter, which of the written values it takes -/
def PBinds (K : PySem.W.Frag) (fd : FuncData) (ps ks : List Str) (n : Nat) (perm : List Nat) : Prop :=
  ∀ (s : Shared) (us ws : List Value), K.In s.heap → us.length = n → ws.length = ks.length → BindsTo s fd ⟨us, ks.zip ws⟩ (ps.zip (perm.map fun i => (us ++ ws).getD i .none))
theorem vals_getD {vs : List V} {us : List Value} (r : Vals vs us) (i : Nat) : RelV (vs.getD i .non) (us.getD i .none) := by
  rw [List.getD_eq_getElem?_getD, List.getD_eq_getElem?_getD]
  cases h : vs[i]? with
  | none => rw [r.none_of h]; rfl
  | some x =>
    obtain ⟨u, h1, h2⟩ := r.get h
    rw [h1]
    exact h2
theorem vals_perm {vs : List V} {us : List Value} (r : Vals vs us) : ∀ perm : List Nat, Vals (perm.map fun i => vs.getD i .non) (perm.map fun i => us.getD i .none)
  | [] => .nil
  | i :: is => .cons (vals_getD r i) (vals_perm r is)
/-- f(e, .., k = v, ..) -/
theorem se_callK {k : Nat} {f : Addr} {fd : FuncData} {ps ks : List Str} {n : Nat} {perm : List Nat} {m : Fn} {x : Str} {p : Pos} {es : List Expr} {kws : List Keyword} {fa : As} (F : FnOk X.prog X.w X.K X.mg X.base (CXP X.prog X.w) k f fd ps (spM (gX X) m)) (hr : Room k X.A) (tk : Takes X W) (hm : X.mg x = some (.ref f)) (hk : PySem.W.keepIn X.K (.ref f) = true)
    (hb : PBinds X.K fd ps ks n perm) (ha : SAK X xc W es kws fa) (hn : es.length = n := by rfl) (hkl : kws.length = ks.length := by rfl) (hpn : perm.Nodup := by decide) (hpl : ∀ i ∈ perm, i < n + ks.length := by decide) (hpp : perm.length = ps.length := by rfl)
    (hg : Gl X x := by rfl) (hdb : (x == ("__debug__" : Str)) = false := by decide)
    (hcw : ∀ {s : Shared} {Q : Value → Shared → Prop}, X.K.In s.heap → wpAny (model X.prog X.w) X.A (spliced (backTo pos (starEach es X.env))) (fun us s1 => wpAny (model X.prog X.w) X.A (evalAll ((backToKw pos (keywordEach kws X.env)).map (·.2))) (fun ws s2 => X.K.In s2.heap ∧ wpAny (model X.prog X.w) X.A (call (.ref f) us (ks.zip ws)) Q X.xe s2) X.xe s1) X.xe s →
      wpAny (model X.prog X.w) X.A (callWith pos (.ref f) [] (backTo pos (starEach es X.env)) (backToKw pos (keywordEach kws X.env))) Q X.xe s) :
    SE X xc W (.Call (.Name x p) es kws pos) (eCallK m perm fa) := by
  refine ⟨fun pins s σ H Q I h => ?_⟩
  refine wpAny_Call_Name_kw (ld_glob I hg hm ?_ hdb)
  obtain ⟨pa, Zs, env, re, h⟩ := h
  have hq : rdA (gX X) xc W fa σ H (fun vs H1 => n + ks.length = vs.length → spM (gX X) m (perm.map fun i => vs.getD i .non) H1 Q (WE W σ)) := ⟨pa, Zs, env, re, h.cont fun rs e1 us Z1 H1 _ p1 q1 h hl => call_run (s := ⟨pa, Zs, H, σ, env⟩) p1 (q1.p.perm hpn fun i hi => by rw [q1.p.len, ← hl]; exact hpl i hi) h⟩
  refine hcw I.kIn (thn (ha pos pins s σ H _ I hq) fun us s1 h1 => thn h1 fun ws s2 ⟨l1, l2, vs, H1, I1, r, q⟩ => ⟨I1.kIn, ?_⟩)
  have lv : n + ks.length = vs.length := by rw [r.length, List.length_append, l1, l2, hn, hkl]
  refine wpAny_call (codeAny_mono (F.run X.A X.stack s2 H1 ⟨us, ks.zip ws⟩ _ _ Q (WE W σ) hr I1.env0 (hb s2 us ws I1.kIn (l1.trans hn) (l2.trans hkl)) (vals_perm r perm) (q lv)) fun r s' hq => ?_)
  cases r with
  | error e => exact passAt tk σ pins H1 s2 e s' I1 hq
  | ok fl =>
    cases fl with
    | ret u => exact I1.after hq
    | next => exact False.elim hq
    | brk => exact False.elim hq
    | cont => exact False.elim hq
theorem cw_some {f : Addr} {e : Expr} {es : List Expr} {kws : List Keyword} {ks : List Str} (hk : PySem.W.keepIn X.K (.ref f) = true) (hall : (backToKw pos (keywordEach kws X.env)).all (·.1.isSome) = true := by rfl) (hks : (backToKw pos (keywordEach kws X.env)).filterMap (·.1) = ks := by rfl)
    (he : starEach (e :: es) X.env = (false, eval e X.env) :: starEach es X.env := by rfl) (hpl : ((backTo pos (starEach (e :: es) X.env)).any (·.1) || (backToKw pos (keywordEach kws X.env)).any (·.1.isNone)) = false := by rfl) :
    ∀ {s : Shared} {Q : Value → Shared → Prop}, X.K.In s.heap → wpAny (model X.prog X.w) X.A (spliced (backTo pos (starEach (e :: es) X.env))) (fun us s1 => wpAny (model X.prog X.w) X.A (evalAll ((backToKw pos (keywordEach kws X.env)).map (·.2))) (fun ws s2 => X.K.In s2.heap ∧ wpAny (model X.prog X.w) X.A (call (.ref f) us (ks.zip ws)) Q X.xe s2) X.xe s1) X.xe s →
      wpAny (model X.prog X.w) X.A (callWith pos (.ref f) [] (backTo pos (starEach (e :: es) X.env)) (backToKw pos (keywordEach kws X.env))) Q X.xe s := fun {s Q} hK h => by
  subst hks
  exact PySem.W.callWith_KW hK hk hall h hpl he
/-- f(k = v, ..) -/
theorem se_callK0 {k : Nat} {f : Addr} {fd : FuncData} {ps ks : List Str} {perm : List Nat} {m : Fn} {x : Str} {p : Pos} {kws : List Keyword} {fa : As} (F : FnOk X.prog X.w X.K X.mg X.base (CXP X.prog X.w) k f fd ps (spM (gX X) m)) (hr : Room k X.A) (tk : Takes X W) (hm : X.mg x = some (.ref f)) (hk : PySem.W.keepIn X.K (.ref f) = true)
    (hb : PBinds X.K fd ps ks 0 perm) (ha : SK X xc W kws fa) (hkl : kws.length = ks.length := by rfl) (hpn : perm.Nodup := by decide) (hpl : ∀ i ∈ perm, i < ks.length := by decide)
    (hg : Gl X x := by rfl) (hdb : (x == ("__debug__" : Str)) = false := by decide) (hall : (backToKw pos (keywordEach kws X.env)).all (·.1.isSome) = true := by rfl) (hks : (backToKw pos (keywordEach kws X.env)).filterMap (·.1) = ks := by rfl)
    (hpa : ((backTo pos (starEach [] X.env)).any (·.1) || (backToKw pos (keywordEach kws X.env)).any (·.1.isNone)) = false := by rfl) :
    SE X xc W (.Call (.Name x p) [] kws pos) (eCallK m perm fa) := by
  refine ⟨fun pins s σ H Q I h => ?_⟩
  refine wpAny_Call_Name_kw (ld_glob I hg hm ?_ hdb)
  obtain ⟨pa, Zs, env, re, h⟩ := h
  have hq : rdA (gX X) xc W fa σ H (fun vs H1 => ks.length = vs.length → spM (gX X) m (perm.map fun i => vs.getD i .non) H1 Q (WE W σ)) := ⟨pa, Zs, env, re, h.cont fun rs e1 us Z1 H1 _ p1 q1 h hl => call_run (s := ⟨pa, Zs, H, σ, env⟩) p1 (q1.p.perm hpn fun i hi => by rw [q1.p.len, ← hl]; exact hpl i hi) h⟩
  refine PySem.W.callWith_KW0 (h₀ := X.base) I.ok.mod.kin hk hall (thn (ha pos pins s σ H _ I hq) fun ws s2 ⟨l2, vs, H1, I1, r, q⟩ => ⟨I1.kIn, ?_⟩) hpa
  rw [hks]
  have lv : ks.length = vs.length := by rw [r.length, l2, hkl]
  refine wpAny_call (codeAny_mono (F.run X.A X.stack s2 H1 ⟨[] ++ [], ks.zip ws⟩ _ _ Q (WE W σ) hr I1.env0 (hb s2 [] ws I1.kIn rfl (l2.trans hkl)) (vals_perm r perm) (q lv)) fun r s' hq => ?_)
  cases r with
  | error e => exact passAt tk σ pins H1 s2 e s' I1 hq
  | ok fl =>
    cases fl with
    | ret u => exact I1.after hq
    | next => exact False.elim hq
    | brk => exact False.elim hq
    | cont => exact False.elim hq
end

/-! ### a def by its body -/
theorem Arity.mk {np ns : Nat} {b : S} : Arity np (mkF np ns b) := fun as h => by
  unfold mkF
  rw [if_neg h]
theorem spM_len {g : Gm} {n : Nat} {m : Fn} (ar : Arity n m) {us : List V} {H : Hp} {Q : VK} {E : XK} (h : spM g m us H Q E) : us.length = n := by
  obtain ⟨Zs, as, ra, _, _, e⟩ := h
  apply Classical.byContradiction
  intro hn
  rw [ar as (by rw [ra.length]; exact hn)] at e
  exact e
theorem eget_take : ∀ {e : Env} {n i : Nat}, i < n → eget (e.take n) i = eget e i
  | [], _, _, _ => by simp
  | s :: r, 0, _, h => by omega
  | s :: r, n + 1, 0, _ => rfl
  | s :: r, n + 1, i + 1, h => by rw [List.take_succ_cons, eget_succ, eget_succ]; exact eget_take (by omega)
theorem eget_app : ∀ {e r : Env} {i : Nat}, i < e.length → eget (e ++ r) i = eget e i
  | [], _, _, h => by simp at h
  | s :: e, r, 0, _ => rfl
  | s :: e, r, i + 1, h => by rw [List.cons_append, eget_succ, eget_succ]; exact eget_app (by simpa using h)
theorem eget_app2 : ∀ {e r : Env} {i : Nat}, e.length ≤ i → eget (e ++ r) i = eget r (i - e.length)
  | [], _, _, _ => rfl
  | s :: e, r, 0, h => by simp at h
  | s :: e, r, i + 1, h => by rw [List.cons_append, eget_succ, eget_app2 (by simpa using h), List.length_cons, Nat.add_sub_add_right]
theorem eget_emp : ∀ {n i : Nat}, eget (List.replicate n .emp) i = .emp
  | 0, _ => rfl
  | n + 1, 0 => rfl
  | n + 1, i + 1 => by rw [List.replicate_succ, eget_succ]; exact eget_emp
theorem eget_map {as : List AV} : ∀ {i : Nat}, eget (as.map AV.slot) i = match as[i]? with | some a => a.slot | none => .emp := by
  induction as with
  | nil => intro i; simp
  | cons a as ih => intro i; cases i with
    | zero => rfl
    | succ i => rw [List.map_cons, eget_succ, ih]; simp
def paOf : List AV → List V → List (Option Addr)
  | .own _ :: as, .ref a :: vs => some a :: paOf as vs
  | _ :: as, _ :: vs => none :: paOf as vs
  | _, _ => []
theorem paOf_get : ∀ {as : List AV} {vs : List V} {i : Nat} {a : Addr}, (paOf as vs)[i]? = some (some a) → ∃ x, as[i]? = some (.own x) ∧ vs[i]? = some (.ref a)
  | [], _, _, _, h => by simp [paOf] at h
  | _ :: _, [], i, a, h => by
    rename_i b as
    cases b <;> simp [paOf] at h
  | b :: as, v :: vs, i, a, h => by
    cases i with
    | zero =>
      cases b with
      | v x => simp [paOf] at h
      | own x => cases v <;> simp [paOf] at h; subst h; exact ⟨x, rfl, rfl⟩
    | succ i =>
      have h' : (paOf as vs)[i]? = some (some a) := by
        cases b with
        | v x => simpa [paOf] using h
        | own x => cases v <;> simpa [paOf] using h
      obtain ⟨x, h1, h2⟩ := paOf_get h'
      exact ⟨x, by simpa using h1, by simpa using h2⟩
theorem paOf_of : ∀ {as : List AV} {vs : List V} {i : Nat} {x : Val} {a : Addr}, as[i]? = some (.own x) → vs[i]? = some (.ref a) → (paOf as vs)[i]? = some (some a)
  | [], _, _, _, _, h, _ => by simp at h
  | _ :: _, [], _, _, _, _, h => by simp at h
  | b :: as, v :: vs, 0, x, a, h1, h2 => by simp at h1 h2; subst h1; subst h2; rfl
  | b :: as, v :: vs, i + 1, x, a, h1, h2 => by
    have ih := paOf_of (as := as) (vs := vs) (i := i) (by simpa using h1) (by simpa using h2)
    cases b with
    | v x => simpa [paOf] using ih
    | own x => cases v <;> simpa [paOf] using ih
section
variable {g : Gm} {Zs : Addr → Prop} {H : Hp} {as : List AV} {vs : List V} {np ns : Nat} {N : List Str}
/-- the frame at the entry -/
def entry (as : List AV) (np ns : Nat) : Env := as.map AV.slot ++ List.replicate (ns - np) .emp
theorem entry_get (hl : as.length = np) {i : Nat} : eget (entry as np ns) i = match as[i]? with | some a => a.slot | none => .emp := by
  unfold entry
  by_cases h : i < as.length
  · rw [eget_app (by simpa using h), eget_map]
  · rw [eget_app2 (by simpa using h), eget_emp, List.getElem?_eq_none_iff.mpr (by omega)]
theorem start_get {i : Nat} {u : V} (h : vs[i]? = some u) : (L2.start N vs)[i]? = some (some u) := by
  unfold L2.start
  have hi := (List.getElem?_eq_some_iff.mp h).1
  rw [List.getElem?_append_left (by simpa using hi), List.getElem?_map, h]
  rfl
theorem entry_own (hl : as.length = np) (ra : RAs g Zs H as vs) {i : Nat} {a : Addr} (h : OwnAt (entry as np ns) (L2.start N vs) i a) : ∃ x, as[i]? = some (.own x) ∧ vs[i]? = some (.ref a) := by
  obtain ⟨p, x, h1, h2⟩ := h
  rw [entry_get hl] at h1
  cases e : as[i]? with
  | none => rw [e] at h1; cases h1
  | some b =>
    rw [e] at h1
    cases b with
    | v y => cases h1
    | own y =>
      obtain ⟨b, h3, _⟩ := ra.getOwn e
      rw [start_get h3] at h2
      cases h2
      exact ⟨y, rfl, h3⟩
theorem entry_owd (hl : as.length = np) (ra : RAs g Zs H as vs) {a : Addr} : Owd (entry as np ns) (L2.start N vs) a ↔ OwA as vs a := by
  constructor
  · rintro ⟨i, h⟩
    obtain ⟨x, h1, h2⟩ := entry_own hl ra h
    exact ⟨i, x, h1, h2⟩
  · rintro ⟨i, x, h1, h2⟩
    exact ⟨i, true, x, by rw [entry_get hl, h1]; rfl, start_get h2⟩
theorem RAs.getV : ∀ {as : List AV} {us : List V} {i : Nat} {x : Val}, RAs g Zs H as us → as[i]? = some (.v x) → ∃ u, us[i]? = some u ∧ RvV g Zs H x u
  | _, _, 0, x, .own _ _ _, e => by simp at e
  | _, _, 0, x, .v h r, e => by
    simp at e
    subst e
    exact ⟨_, rfl, h⟩
  | _, _, i + 1, x, .v _ r, e => by
    obtain ⟨a, h1, h2⟩ := RAs.getV (i := i) (x := x) r (by simpa using e)
    exact ⟨a, by simpa using h1, h2⟩
  | _, _, i + 1, x, .own _ _ r, e => by
    obtain ⟨a, h1, h2⟩ := RAs.getV (i := i) (x := x) r (by simpa using e)
    exact ⟨a, by simpa using h1, h2⟩
theorem entry_re (hl : as.length = np) (hn : np ≤ ns) (hN : N.length = ns) (ra : RAs g Zs H as vs) (inj : InjA as vs) (zd : Zd Zs H) : RE g none (paOf as vs) Zs H (L2.start N vs) (entry as np ns) := by
  refine ⟨?_, fun i => ?_, fun i j a h1 h2 => ?_, fun i a h => ?_, zd⟩
  · unfold L2.start entry
    rw [List.length_append, List.length_append, List.length_map, List.length_map, List.length_replicate, List.length_replicate, ← ra.length, hl, hN]
  · rw [entry_get hl]
    cases e : as[i]? with
    | none => trivial
    | some b =>
      cases b with
      | v x =>
        obtain ⟨u, h1, h2⟩ := ra.getV e
        exact ⟨u, start_get h1, h2⟩
      | own x =>
        obtain ⟨a, h1, h2, h3⟩ := ra.getOwn e
        exact ⟨a, start_get h1, h2, h3⟩
  · obtain ⟨x, a1, b1⟩ := entry_own hl ra h1
    obtain ⟨y, a2, b2⟩ := entry_own hl ra h2
    exact inj i j x y a a1 b1 a2 b2
  · obtain ⟨x, h1, h2⟩ := paOf_get h
    refine ⟨start_get h2, ?_⟩
    rw [entry_get hl, h1]
    trivial
variable {Z1 : Addr → Prop} {H1 : Hp} {σ1 : L2.St} {e : Env}
theorem post_c (hl : as.length = np) (ra : RAs g Zs H as vs) (P : Post g none (paOf as vs) Zs H (L2.start N vs) (entry as np ns) Z1 H1 σ1 e) : Ext (OwA as vs) Zs H Z1 H1 ∧ Bk g Z1 H1 as vs (e.take np) := by
  have iff := fun a => entry_owd (N := N) (ns := ns) hl ra (a := a)
  refine ⟨⟨P.ext.zz, fun a h => (P.ext.zn a h).imp id fun z => z.imp (iff a).mp id, fun a o h n => P.ext.hh a o h fun z => n ((iff a).mp z), P.ext.zd⟩, fun i x a h1 h2 => ?_⟩
  obtain ⟨s1, pn⟩ := P.re.pin i a (paOf_of h1 h2)
  have hi : i < np := by rw [← hl]; exact (List.getElem?_eq_some_iff.mp h1).1
  rw [eget_take hi]
  have q := P.re.sl i
  cases hs : eget e i with
  | own p y =>
    rw [hs] at pn q
    cases p
    · exact pn.elim
    · obtain ⟨b, hb, nz, hh⟩ := q
      rw [s1] at hb; cases hb
      exact ⟨nz, hh⟩
  | pf y =>
    rw [hs] at q
    obtain ⟨b, hb, z, rv⟩ := q
    rw [s1] at hb; cases hb
    exact ⟨z, rv⟩
  | emp => rw [hs] at pn; exact pn.elim
  | v y => rw [hs] at pn; exact pn.elim
  | exn c fs => rw [hs] at pn; exact pn.elim
/-- what was handed in is still at its place -/
theorem pinned_at (hl : as.length = np) (ra : RAs g Zs H as vs) (P : Post g none (paOf as vs) Zs H (L2.start N vs) (entry as np ns) Z1 H1 σ1 e) {a : Addr} (h : OwA as vs a) : Z1 a ∨ ∃ i y, eget e i = .own true y ∧ σ1[i]? = some (some (.ref a)) := by
  obtain ⟨i, x, h1, h2⟩ := h
  obtain ⟨s1, pn⟩ := P.re.pin i a (paOf_of h1 h2)
  have q := P.re.sl i
  cases hs : eget e i with
  | own p y =>
    rw [hs] at pn
    cases p
    · exact pn.elim
    · exact .inr ⟨i, y, hs, s1⟩
  | pf y =>
    rw [hs] at q
    obtain ⟨b, hb, z, rv⟩ := q
    rw [s1] at hb; cases hb
    exact .inl z
  | emp => rw [hs] at pn; exact pn.elim
  | v y => rw [hs] at pn; exact pn.elim
  | exn c fs => rw [hs] at pn; exact pn.elim
theorem body_end {b : S} {Q : VK} {E : XK} (hl : as.length = np) (hn : np ≤ ns) (hN : N.length = ns) (ra : RAs g Zs H as vs) (inj : InjA as vs) (zd : Zd Zs H) (h : EndC g Zs H as vs Q E (fin np (b (entry as np ns)))) :
    EndS g none ⟨paOf as vs, Zs, H, L2.start N vs, entry as np ns⟩ (b (entry as np ns)) (fun cls d _ H' => E cls d H') { nx := fun _ H' => Q .non H', rt := Q } := by
  have nfr : ∀ {Z1 : Addr → Prop} {H1 : Hp} {σ1 : L2.St} {e : Env} {a : Addr}, Post g none (paOf as vs) Zs H (L2.start N vs) (entry as np ns) Z1 H1 σ1 e → ¬ Z1 a → (∀ i y, eget e i = .own true y → σ1[i]? ≠ some (some (.ref a))) → (Owd (entry as np ns) (L2.start N vs) a ∨ H a = none) → H a = none := fun {Z1 H1 σ1 e a} P nz no fr => by
    rcases fr with f | f
    · rcases pinned_at hl ra P ((entry_owd hl ra).mp f) with z | ⟨i, y, h1, h2⟩
      · exact absurd z nz
      · exact absurd h2 (no i y h1)
    · exact f
  cases hb : b (entry as np ns) with
  | no => rw [hb] at h; exact h
  | ex c fs e =>
    rw [hb] at h
    intro C d fv σ1 Z1 H1 P hg hd hf
    obtain ⟨ext, bk⟩ := post_c hl ra P
    exact h C d fv Z1 H1 ext bk hg hd hf
  | ok f e =>
    rw [hb] at h
    intro σ1 Z1 H1 P
    obtain ⟨ext, bk⟩ := post_c hl ra P
    cases f with
    | nx => exact h .non Z1 H1 ext bk .non
    | bk => exact h
    | ct => exact h
    | rt r =>
      intro u hr
      cases r with
      | v x => exact h u Z1 H1 ext bk hr
      | own x =>
        obtain ⟨a, eu, nz, hh, no, fr⟩ := hr
        exact h u Z1 H1 ext bk ⟨a, eu, nz, hh, nfr P nz (fun i y h1 h2 => no ⟨i, true, y, h1, h2⟩) fr⟩
      | bor i =>
        obtain ⟨a, eu, hs, _⟩ := hr
        have q := P.re.sl i
        cases ho : eget e i with
        | emp => rw [fin, ho] at h; exact h.elim
        | exn c fs => rw [fin, ho] at h; exact h.elim
        | v x =>
          rw [fin, ho] at h
          rw [ho] at q
          obtain ⟨w, hw, rv⟩ := q
          rw [hs] at hw; cases hw
          exact h u Z1 H1 ext bk (by rw [eu]; exact rv)
        | pf x =>
          rw [fin, ho] at h
          rw [ho] at q
          obtain ⟨w, hw, _, rv⟩ := q
          rw [hs] at hw; cases hw
          exact h u Z1 H1 ext bk (by rw [eu]; exact rv)
        | own p x =>
          rw [fin, ho] at h
          rw [ho] at q
          obtain ⟨w, hw, nz, hh⟩ := q
          rw [hs] at hw; cases hw
          cases p with
          | false =>
            refine h u Z1 H1 ext bk ⟨a, eu, nz, hh, nfr P nz (fun j y h1 h2 => ?_) (P.ow a ⟨i, false, x, ho, hs⟩)⟩
            have e := P.re.inj i j a ⟨false, x, ho, hs⟩ ⟨true, y, h1, h2⟩
            subst e
            rw [ho] at h1
            cases h1
          | true =>
            obtain ⟨re2, ow2, _, rv⟩ := P.re.rest ho hs
            have oa : Owd e σ1 a := ⟨i, true, x, ho, hs⟩
            have P2 : Post g none (paOf as vs) Zs H (L2.start N vs) (entry as np ns) (fun b => Z1 b ∨ b = a) H1 σ1 (eput e i (thaw (.own true x))) := ⟨⟨fun b h => .inl (P.ext.zz b h), fun b h => by
              rcases h with h | h
              · exact P.ext.zn b h
              · subst h; exact .inr (P.ow b oa), P.ext.hh, re2.zd⟩, re2, fun b h => P.ow b (ow2 b h).1⟩
            obtain ⟨ext2, bk2⟩ := post_c hl ra P2
            exact h u _ H1 ext2 bk2 (by rw [eu]; exact rv)
end
/-- a def keeps its promise by its body -/
theorem fn_body {P : Program} {w : World} {K : PySem.W.Frag} {mg : Str → Option Value} {base : Heap} {x qual : Str} {st : Stmt} {f : Addr} {fd : FuncData} {N ps : List Str} {k np ns : Nat} {b : S} (F : Fun K x qual st f fd) (S : FnScope N ps (defScope st)) (hN : N.length = ns := by rfl) (hp : ps.length = np := by rfl) (hn : np ≤ ns := by decide)
    (hbody : ∀ (cdv : Value) (A : Around) (outer : List PySem.Env) (s : Shared) (H : Hp) (E : XK), Room k (A.deeper (PyProof.Rows.envOfC qual (defScope st) s.heap.objs.size f cdv)) →
      SB (cxOf (L2.CX P w) P w K mg base N qual (defScope st) f cdv A outer s H E) none (fun cls d _ H' => E cls d H') (defBody st) b) : FnOk P w K mg base (CXP P w) (k + 1) f fd ps (spM ⟨K, mg⟩ (mkF np ns b)) := by
  refine F.okX S (fun vs H Q E h => by rw [spM_len Arity.mk h, hp]) fun cdv A outer s H vs Q E hr h => ⟨_, hbody cdv A outer s H E hr, ?_⟩
  have hv := spM_len Arity.mk h
  obtain ⟨Zs, as, ra, inj, zd, h⟩ := h
  have hl : as.length = np := by rw [ra.length]; exact hv
  unfold mkF at h
  rw [if_pos hl] at h
  exact ⟨_, Zs, _, entry_re hl hn hN ra inj zd, body_end hl hn hN ra inj zd h⟩
end Z
set_option maxHeartbeats 2000000
/-! Zx: own errors with one field, by field name (printed by gen/mkexc.py). -/
namespace PySem
namespace Zx_given
open PySem.W PySem.Calls PyProof.Rows PySem.HandSPX
/-! ### the text of __init__ -/
def iA (p1 p2 : Pos) : Arguments := { posonlyargs := [], args := [{ arg := "self", annotation := none, pos := p1 }, { arg := "given", annotation := none, pos := p2 }], vararg := none, kwonlyargs := [], kw_defaults := [], kwarg := none, defaults := [] }
def iB (q1 q2 q3 q4 : Pos) : List Stmt := [.Assign [.Attribute (.Name "self" q1) "given" q2] (.Name "given" q3) q4]
def iS : Scope := { kind := .function, names := [(PySem.Str.ofString "self", .local), (PySem.Str.ofString "given", .local)], isGenerator := false, isCoroutine := false, more := [] }
/-- what the written part says of Low, at C, and of its __init__, at fI -/
structure LowTxt (cn qn : Str) (K : Frag) (mg : Str → Option Value) (C fI : Addr) : Prop where
  gC : mg cn = some (.ref C)
  cls : ∃ nm q N bs bm sn sub ab col dd k0 k1 k2 k3 k5, K.lookup C = some (excClassObj nm q C N bs bm true sn sub ab col dd k0 k1 k2 k3 k5 "ValueError.__new__") ∧ refsVE bm = true
  sa : findIn K (.ref C) "__setattr__" = some (some (.builtin "object.__setattr__"))
  ga : findIn K (.ref C) "__getattribute__" = some (some (.builtin "BaseException.__getattribute__"))
  gg : findIn K (.ref C) "__getattr__" = some none
  noN : findIn K (.ref C) "given" = some none
  iC : findIn K (.ref C) "__init__" = some (some (.ref fI))
  tC : typeIn K (.ref fI) = some (.type "function")
  kC : keepIn K (.ref C) = true
  exC : subIn K (.ref C) (.type "BaseException") = some true
  tyC : typeIn K (.ref C) = some (.type "type")
  hdC : hasDictIn K C = true
  te : exmOne K (.ref C) (.ref C) = some true
  fn : ∃ (oc : Value) (od : Option Addr) (doc pm : Value) (an : Option Addr) (cdv ct : Value) (osl : Array (Option Value)) (p1 p2 q1 q2 q3 q4 : Pos),
    K.lookup fI = some ⟨oc, od, .func (fnOf "__init__" qn (iA p1 p2) (iB q1 q2 q3 q4) iS .none .none doc pm an cdv ct), osl⟩ ∧ codeIn K cdv qn = true
theorem one_size (v : Value) : [v].length ≤ sizeLine := by
  rw [sizeLine_eq]
  exact (by decide : 1 ≤ 16777216)
theorem kept_but {K : Frag} {h h' : Heap} {x : Addr} (X : K.In h) (hx : K.lookup x = none) (k : ∀ b o, b ≠ x → h.get? b = some o → h'.get? b = some o) : K.In h' := fun a o e =>
  k a o (fun z => by rw [z, hx] at e; cases e) (X a o e)
theorem ldC {M : Model} {s : Shared} {name : Str} {scope : Scope} {L a : Addr} {cd : Value} {m : Str → Option Value} {x : Str} {pos : Pos} {v : Value} {Q : Value → Shared → Prop} {A : Around} {E : Value → Shared → Prop} (hn : s.heap.Ns L m) (hv : m x = some v) (h : Q v s)
    (hk : scope.kind = .function := by rfl) (hl : (envOfC name scope L a cd).kindOf x = some .local := by rfl) (hd : (x == ("__debug__" : Str)) = false := by decide) :
    wpAny M A (eval (.Name x pos) (envOfC name scope L a cd)) Q E s := wpAny_Name (wpAny_loadName_local hk hl hn hv h) hd
/-- what __init__ leaves of a fresh exception at x -/
structure InitEnd (h h' : Heap) (x C dx t1 : Addr) (v : Value) : Prop where
  keep : ∀ b o, b ≠ x → h.get? b = some o → h'.get? b = some o
  obj : h'.get? x = some { cls := .ref C, dict := some dx, data := .fields #[.ref t1, .none, .none, .none, .bool false, .none] }
  dbig : h.objs.size ≤ dx
  dne : dx ≠ x
  ns : h'.Ns1 dx (fun y => if y = "given" then some v else none)
/-- a made Low -/
structure OwnMade (h h' : Heap) (e C d : Addr) (v : Value) : Prop where
  keep : ∀ b o, h.get? b = some o → h'.get? b = some o
  new : h.objs.size ≤ e
  obj : ∃ oe vs, h'.get? e = some oe ∧ oe.cls = .ref C ∧ oe.dict = some d ∧ oe.data = .fields vs ∧ vs[1]? = some .none
  dbig : h.objs.size ≤ d
  dne : d ≠ e
  ns : h'.Ns1 d (fun y => if y = "given" then some v else none)
section
variable {prog : Program} {w : World} {A : Around} {E : Value → Shared → Prop} {R : Result → Shared → Prop} {s : Shared} {K : Frag} {mg : Str → Option Value} {C fI : Addr} {cn qn : Str}
theorem low_init (T : LowTxt cn qn K mg C fI) {x t0 : Addr} {v : Value} (X : K.In s.heap) (hlim : s.heap.NoLimit) (hx : s.heap.get? x = some (excO C t0)) (hnx : K.lookup x = none) (hroom : A.depth < recursionLimit)
    (hq : ∀ h' tk dx, InitEnd s.heap h' x C dx t0 v → R (.ok (.ret .none)) { s with heap := h', toks := tk }) :
    codeAny (model prog w) A (.call (.ref fI) ⟨[.ref x, v], []⟩) R s := by
  obtain ⟨oc, od, doc, pm, an, cdv, ct, osl, p1, p2, q1, q2, q3, q4, ho, hcd⟩ := T.fn
  obtain ⟨nm, q, N, bs, bm, sn, sub, ab, col, dd, k0, k1, k2, k3, k5, hC, hbm⟩ := T.cls
  have hcl : clsIn K C = some { name := nm, bases := bs, mro := .ref C :: bm, ns := N, qualname := q, hasDict := true, slotNames := sn, subclasses := sub, abstract := ab, collection := col, hasDel := false } := by unfold clsIn; rw [hC] <;> rfl
  refine Att.call_fn (binds := [("self", .ref x), ("given", v)]) X hlim ho hcd hroom (BindsTo.of_eq (by first | rfl | with_unfolding_all rfl)) (by first | rfl | decide | with_unfolding_all rfl) (fun s₁ IC => ?_) rfl rfl rfl
  obtain ⟨h₁, tk₁, rfl⟩ := IC.toInCall.same
  have k : ∀ b o, s.heap.get? b = some o → h₁.get? b = some o := IC.toInCall.keep
  have hn := IC.toInCall.ns
  have hxL : s.heap.objs.size ≠ x := Nat.ne_of_gt (Heap.lt_size hx)
  have X₁ : K.In h₁ := X.keeps k
  have hx₁ := k _ _ hx
  -- self.by = by
  show wpAny _ _ (execs _ _) _ _ _
  refine wpAny_execs_cons (plainObj_wpAny_Assign_Attribute ?_)
  refine ldC (v := v) hn (by first | rfl | with_unfolding_all rfl | kernel_rfl) (ldC (v := .ref x) hn (by first | rfl | with_unfolding_all rfl | kernel_rfl) ?_)
  refine set_plain X₁ (ox := excO C t0) (od := none) ⟨hx₁, rfl, rfl, trivial⟩ T.sa ?_
  refine exc_osa X₁ hx₁ hcl (show refsVE (.ref C :: bm) = true from hbm) rfl T.noN (fun h₃ tk₃ dx k₃ dn dne hx₃ hn₃ => ?_)
  show wpAny _ _ (execs _ _) _ _ _
  have z : s.heap.objs.size < h₁.objs.size := hn.lt
  exact wpAny_execs_nil (hq h₃ tk₃ dx ⟨fun b o hb e => k₃ b o hb (k b o e), hx₃, Nat.le_of_lt (Nat.lt_of_lt_of_le z dn), dne, hn₃⟩)
theorem low_made (T : LowTxt cn qn K mg C fI) {v : Value} (X : K.In s.heap) (hlim : s.heap.NoLimit) (hroom : A.depth + 1 < recursionLimit)
    (hq : ∀ h' tk e d, OwnMade s.heap h' e C d v → R (.ok (.ret (.ref e))) { s with heap := h', toks := tk }) :
    codeAny (model prog w) A (.call (.ref C) ⟨[v], []⟩) R s := by
  obtain ⟨nm, q, N, bs, bm, sn, sub, ab, col, dd, k0, k1, k2, k3, k5, hC, hbm⟩ := T.cls
  obtain ⟨hp, g, dr, tk, os⟩ := s
  have k : ∀ b o, hp.get? b = some o → ((hp.push (kdv_tup [v])).push (excO C hp.objs.size)).get? b = some o := fun b o e => Heap.get?_push_of_some _ (Heap.get?_push_of_some _ e)
  have hget : ((hp.push (kdv_tup [v])).push (excO C hp.objs.size)).get? (hp.objs.size + 1) = some (excO C hp.objs.size) := by heap_get
  have hnx : K.lookup (hp.objs.size + 1) = none := by
    cases e : K.lookup (hp.objs.size + 1) with
    | none => rfl
    | some o =>
      have z : hp.get? (hp.objs.size + 1) = some o := X _ _ e
      exact absurd (Nat.lt_of_succ_lt (Heap.lt_size z)) (Nat.lt_irrefl _)
  refine call_own F.excBase_ValueError (fun X => refsVE_contains X bm hbm) (X _ _ hC) (looks_findIn X T.iC) (fun self => bind_fn X self T.tC) (one_size v) ?_
  refine low_init (s := ⟨(hp.push (kdv_tup [v])).push (excO C hp.objs.size), g, dr, tk, os⟩) T (X.keeps k) (hlim.keeps k) hget hnx ?_ fun h' tk' dx ⟨k', hx, dn, dne, hns⟩ => ?_
  · show A.depth + 1 < recursionLimit
    exact hroom
  · have old : ∀ b o, hp.get? b = some o → h'.get? b = some o := fun b o e => k' b o (Nat.ne_of_lt (Nat.lt_succ_of_lt (Heap.lt_size e))) (k b o e)
    have z : hp.objs.size + 1 + 1 ≤ dx := by
      first
        | (simpa only [Heap.size_push] using dn)
        | exact dn
        | (have q := dn; rw [Heap.size_push, Heap.size_push] at q; exact q)
    exact ⟨rfl, hq h' tk' (hp.objs.size + 1) dx ⟨old, Nat.le_succ _, ⟨_, _, hx, rfl, rfl, rfl, rfl⟩, Nat.le_trans (Nat.le_trans (Nat.le_succ _) (Nat.le_succ _)) z, dne, hns⟩⟩
end
end Zx_given
end PySem
namespace L2
namespace Zx_given
open PySem PySem.Spec PyProof.Rows
theorem relO_low {v : V} {v' : Value} (r : RelV v v') (f : Str) : RelO (List.lookup f [(("given" : Str), v)]) (if f = "given" then some v' else none) := by
  by_cases hw : f = "given"
  · subst hw
    rw [if_pos rfl]
    have q : List.lookup ("given" : Str) [(("given" : Str), v)] = some v := by simp [List.lookup]
    rw [q]
    exact r
  · rw [if_neg hw]
    have qw : (f == ("given" : Str)) = false := by simpa using hw
    have q2 : List.lookup f [(("given" : Str), v)] = none := by simp [List.lookup, qw]
    rw [q2]
    trivial
section
variable {X : Cx} {C fI : Addr} {cn qn : Str}
/-- Low(e) -/
def tMkLow (C : Addr) (ta : TA) : St → Hp → XK → Prop := fun σ H Q => ta σ H fun vs H1 => ∃ v, vs = [v] ∧ ∀ d, H1 d = none → Q (.ref C) (some d) (upd H1 d (.xd [(("given" : Str), v)]))
theorem pmk_low {a : Expr} {ta : TA} {p pos : Pos} {k : Nat} (T : PySem.Zx_given.LowTxt cn qn X.K X.mg C fI) (hr : Room k X.A) (ha : PA X [a] ta) (hg : Gl X cn := by rfl) (hdb : (cn == ("__debug__" : Str)) = false := by decide)
    (he : starEach (a :: []) X.env = (false, eval a X.env) :: starEach [] X.env := by rfl) (hpl : (backTo pos (starEach [] X.env)).any (·.1) = false := by rfl) :
    PMk X (.Call (.Name cn p) [a] [] pos) (tMkLow C ta) := by
  intro pins s σ H Q I h
  refine wpAny_Call_Name_kw (ld_glob I hg T.gC ?_ hdb)
  refine PySem.W.callWith_K (h₀ := X.base) I.ok.mod.kin T.kC (thn (ha.run pos pins s σ H _ I h) fun us s1 hh => ?_) he hpl
  obtain ⟨vs, H1, I1, r1, v, ev, q1⟩ := hh
  subst ev
  refine ⟨I1.kIn, ?_⟩
  cases r1 with
  | cons rv rn =>
    rename_i v' us'
    cases rn
    show wpAny _ _ (call (.ref C) [v']) _ _ _
    have hlim := I1.nolimit
    obtain ⟨hp, g, dr, tk, os⟩ := s1
    refine wpAny_call (PySem.Zx_given.low_made T I1.kIn hlim (by have := hr.dp; omega) fun h' tk' e d M => ?_)
    show MkP X pins σ Q (.ref e) ⟨h', g, dr, tk', os⟩
    obtain ⟨oe, fv, hoe, hc, hd, hdat, h1⟩ := M.obj
    have hns := M.ns
    obtain ⟨G', g1, g2⟩ := restrict h' fun b => decide (b ≠ e)
    have gk : ∀ b, b ≠ e → G'.get? b = h'.get? b := fun b hb => g1 b (decide_eq_true hb)
    have ge : G'.get? e = none := g2 e (by simp)
    have old : ∀ b o, hp.get? b = some o → G'.get? b = some o := fun b o q => (gk b (Nat.ne_of_lt (Nat.lt_of_lt_of_le (Heap.lt_size q) M.new))).trans (M.keep b o q)
    have ob : ObjOk X.prog X.w (upd H1 d (.xd [(("given" : Str), v)])) G' d (.xd [(("given" : Str), v)]) :=
      ⟨_, hns.at (fun o q => (gk d M.dne).trans q), fun f => relO_low rv f⟩
    have J : Inv X pins σ (upd H1 d (.xd [(("given" : Str), v)])) ⟨G', g, dr, tk', os⟩ := I1.laid (t' := tk') old M.dbig ob
    refine ⟨e, oe, fv, ⟨G', g, dr, tk', os⟩, _, .ref C, some d, rfl, J, fun b o q => ?_, ge, hoe, ⟨hc, hd⟩, hdat, h1, ?_, rfl, I1.bare, raises_own T.exC T.tyC, q1 d (I1.hok.fresh M.dbig)⟩
    · by_cases hb : b = e
      · have q' : G'.get? b = some o := q
        rw [hb, ge] at q'; cases q'
      · exact (gk b hb).symm.trans q
    · rw [upd_ne (Ne.symm M.dne)]
      exact I1.hok.fresh M.new
/-- raise Low(e) -/
def tRaiseLow (C : Addr) (W : WX) (ta : TA) : TS := fun _ σ H => tMkLow C ta σ H fun cls d H' => W cls d σ H'
theorem ps_raiseLow {a : Expr} {ta : TA} {W : WX} {p pos pos2 : Pos} {k : Nat} (hc : X.calm = true) (T : PySem.Zx_given.LowTxt cn qn X.K X.mg C fI) (hr : Room k X.A) (tk : Takes X W) (ha : PA X [a] ta) (hg : Gl X cn := by rfl) (hdb : (cn == ("__debug__" : Str)) = false := by decide)
    (he : starEach (a :: []) X.env = (false, eval a X.env) :: starEach [] X.env := by rfl) (hpl : (backTo pos (starEach [] X.env)).any (·.1) = false := by rfl) :
    PS X (.Raise (some (.Call (.Name cn p) [a] [] pos)) none pos2) (tRaiseLow C W ta) := ps_raise hc tk (pmk_low T hr ha hg hdb he hpl)
/-- low.by, low the exception that the suite holds (at a; its class cls, its dict d) -/
def tByLow (C : Addr) (a : Addr) (cls : Value) (d : Option Addr) (te : TE) : TE := fun σ H Q => te σ H fun x H1 => x = .ref a ∧ cls = .ref C ∧ ∃ (dd : Addr) (v : V), d = some dd ∧ H1 dd = some (.xd [(("given" : Str), v)]) ∧ Q v H1
theorem pe_byLow {a : Addr} {oe : Obj} {cls : Value} {d : Option Addr} {pn : List (Addr × Obj)} {e : Expr} {te : TE} {pos : Pos} (T : PySem.Zx_given.LowTxt cn qn X.K X.mg C fI) (hz : Zc cls d oe) (hf : ∃ vs, oe.data = .fields vs) (he : PE (X.suite a ((a, oe) :: pn)) e te)
    (hb : attributeBase e "given" X.env (eval e X.env) = eval e X.env := by rfl) :
    PE (X.suite a ((a, oe) :: pn)) (.Attribute e "given" pos) (tByLow C a cls d te) := by
  refine ⟨fun pins s σ H Q I h => ?_⟩
  refine attr_of hb (thn (he.run pins s σ H _ I h) fun u s1 hh => ?_)
  obtain ⟨x, H1, I1, rx, ex, ec, dd, v, ed, ea, q⟩ := hh
  subst ex
  obtain rfl : u = Value.ref a := rx
  subst ec
  subst ed
  obtain ⟨ha, _⟩ := I1.pin (a, oe) (List.mem_append_left _ List.mem_cons_self)
  obtain ⟨vs, hd⟩ := hf
  have hx : ObjOk X.prog X.w H1 s1.heap dd (.xd [(("given" : Str), v)]) := I1.hok dd _ ea
  obtain ⟨mA, hns, hr⟩ := hx
  obtain ⟨od, ho, hl⟩ := lookIn_ns hns
  have l : List.lookup ("given" : Str) [(("given" : Str), v)] = some v := by simp [List.lookup]
  obtain ⟨u, hu, ru⟩ := RelO.some_of (v := v) (o := mA "given") (by rw [← l]; exact hr "given")
  have J : PySem.W.InstAt s1.heap a oe C (some od) := ⟨ha, hz.1, by unfold PySem.W.notCls; rw [hd] <;> rfl, by rw [hz.2]; exact ho⟩
  exact HandSPX.exc_get I1.kIn J T.ga T.gg T.exC (PySem.W.findObj_own T.hdC T.noN rfl (by rw [hl, hu])) (handed_of ru) ⟨v, H1, I1.tok _, ru, q⟩
end
end Zx_given
end L2
/-! ZD: try with several clauses that name the error. -/
namespace Z
open PySem L2 PySem.Spec
abbrev Sui := Addr → Value → Option Addr → TS
/-- behind a suite its name is gone -/
def goneD (i : Nat) (D : Ends) : Ends := { nx := fun σ' H' => D.nx (σ'.set i none) H', rt := D.rt, bk := fun σ' H' => D.bk (σ'.set i none) H', ct := fun σ' H' => D.ct (σ'.set i none) H' }
def wNm (K : PySem.W.Frag) (Wo : WX) (D : Ends) : List (Value × Nat × Sui) → WX
  | [] => Wo
  | (c, i, ts) :: r => fun cls d σ H => ∃ b, PySem.W.exmOne K cls c = some b ∧ (b = true → ∀ a, H a = none → ts a cls d (goneD i D) (σ.set i (some (.ref a))) H) ∧ (b = false → wNm K Wo D r cls d σ H)
inductive Clauses (X : Cx) : List ExceptHandler → List (Value × Nat × Sui) → Prop
  | nil : Clauses X [] []
  | cons {x n : Str} {c : Value} {i : Nat} {ts : Sui} {b₀ : Stmt} {suite : List Stmt} {np pos' : Pos} {hds : List ExceptHandler} {l : List (Value × Nat × Sui)} (hc : Names X x c) (hi : X.N[i]? = some n) (hl : X.env.kindOf n = some .local)
      (hsu : ∀ (a : Addr) (oe : Obj) (cls : Value) (d : Option Addr) (pn : List (Addr × Obj)), Zc cls d oe → (∃ vs, oe.data = .fields vs) → PSs (X.suite a ((a, oe) :: pn)) (b₀ :: suite) (ts a cls d)) (r : Clauses X hds l) :
      Clauses X (.ExceptHandler (some (.Name x np)) (some n) (b₀ :: suite) pos' :: hds) ((c, i, ts) :: l)
section
variable {X : Cx} {body : List Stmt} {h₀ : ExceptHandler} {hds : List ExceptHandler} {l : List (Value × Nat × Sui)} {pos : Pos} {tb : WX → TS} {Wo : WX}
open PyProof.Rows in
theorem ps_try_named (hs : X.stack = X.env :: X.outer) (hf : X.env.frame = some X.env.locals) (hN : X.N.Nodup) (tk : Takes X Wo)
    (hb : ∀ (W : WX) (pn : List (Addr × Obj)) (xe : Value → Shared → Prop), Takes (X.tr pn xe) W → PassesOwn (model X.prog X.w) X.A X.env xe → PSs (X.tr pn xe) body (tb W))
    (hh : Clauses X (h₀ :: hds) l) : PS X (.Try body (h₀ :: hds) [] [] pos) (fun D σ H => tb (wNm X.K Wo D l) D σ H) := by
  refine ⟨fun pins s σ H D I h => ?_⟩
  have iok := I.ok
  have frs0 : X.A.frames = some (X.env :: X.outer) := iok.frames.trans (congrArg some hs)
  let after : Value → Shared → Prop := fun e s₁ => wpAny (model X.prog X.w) X.A (noteFrame e X.env) (fun _ s₂ => wpAny (model X.prog X.w) X.A (setFlight e none) (fun _ s₃ => wpAny (model X.prog X.w) X.A (handleBy e X.env (h₀ :: hds)) (SP X pins D) X.xe s₃) X.xe s₂) X.xe s₁
  refine wpAny_Try_except (wpAny_mono ((hb (wNm X.K Wo D l) (X.pn ++ pins) after ?air PassesOwn.looking).run [] s σ H D (I.toTry _) h) ?calm fun e s1 he => he)
  case calm =>
    intro f s1 hsp
    cases f with
    | next => exact let ⟨σ', H', J', q⟩ := hsp; wpAny_execs_nil ⟨σ', H', J'.ofTry iok, q⟩
    | brk => exact let ⟨σ', H', J', q⟩ := hsp; ⟨σ', H', J'.ofTry iok, q⟩
    | cont => exact let ⟨σ', H', J', q⟩ := hsp; ⟨σ', H', J'.ofTry iok, q⟩
    | ret u => exact let ⟨v, σ', H', J', r, q⟩ := hsp; ⟨v, σ', H', J'.ofTry iok, r, q⟩
  case air =>
    intro u s' xx
    obtain ⟨a, B, sI, pins', σ', H', cls, d, eu, J', nb, up, sky, na, os, ag, wish⟩ := xx
    subst eu
    have J : Inv X pins σ' H' sI := J'.ofTry iok
    rw [show (X.tr (X.pn ++ pins) after).stack = X.env :: X.outer from hs] at sky
    refine Sky.land Zc.steady frs0 hf sky fun h3 fl3 up3 => ?_
    have J3 : Inv X pins σ' H' { s' with heap := h3 } := J.landed nb fl3.1 (up.trans up3) os ag
    obtain ⟨oe3, vs3, he3, hz3, hd3⟩ := fl3.there
    have out : a ∉ frs (X.env :: X.outer) := fun hm => by
      obtain ⟨_, o', e', hnf⟩ := fl3.2.2.1.mem hm
      rw [he3] at e'
      cases e'
      exact hnf _ hd3
    have nL : a ≠ X.env.locals := fun z => out (List.mem_filterMap.mpr ⟨X.env, List.mem_cons_self, by rw [hf, z]⟩)
    have nF : a ∉ X.fs := fun hm => by
      obtain ⟨e, he, q⟩ := List.mem_filterMap.mp hm
      exact out (List.mem_filterMap.mpr ⟨e, List.mem_cons_of_mem _ he, q⟩)
    have S3 := J3.suite he3 hd3 na nL nF
    have LT : PySem.W.Looks (model X.prog X.w) h3 (typeOf (.ref a)) cls := fun A Q E s k q => wpAny_typeOf_ref (k _ _ he3) (by rw [hz3.1]; exact q)
    have run : ∀ {hds' : List ExceptHandler} {l' : List (Value × Nat × Sui)}, Clauses X hds' l' → wNm X.K Wo D l' cls d σ' H' → wpAny (model X.prog X.w) X.A (handleBy (.ref a) X.env hds') (SP X pins D) X.xe { s' with heap := h3 } := by
      intro hds' l' hk
      induction hk with
      | nil =>
        intro w
        refine wpAny_handleBy_nil ?_
        obtain ⟨k1, k2, k3, oe, vs, T, oT, ts', he, hz, hd, h1, hr⟩ := id fl3
        unfold PySem.passOn
        refine wpAny_bind (wpAny_field he hd h1 ?_)
        rw [if_neg (by simp : ¬ ((Value.ref T == Value.none) = true))]
        have up' : wpAny (model X.prog X.w) X.A (setFlight (.ref a) X.env.frame) (fun _ s4 => wpAny (model X.prog X.w) X.A (throw (.ref a) : Sem Flow) (SP X pins D) X.xe s4) X.xe { s' with heap := h3 } := by
          rw [hf]
          exact HandSPX.setFlight_upZ fl3 fun h4 hh4 up4 => wpAny_throw (tk _ _ ⟨a, B, sI, pins, σ', H', cls, d, rfl, J, nb, (up.trans up3).trans up4, .inr (.inr (by rw [hs]; exact hh4)), na, os, ag, w⟩)
        first
          | exact wpAny_bind (wpAny_pure (wpAny_bind up'))
          | exact wpAny_bind up'
      | @cons x n c i ts b₀ suite np pos' hds2 l2 hc hi hl hsu r ih =>
        intro w
        obtain ⟨b, hb1, hyes, hno⟩ := w
        have LM := PySem.W.exm_one (M := model X.prog X.w) (J3.kIn) LT hb1
        refine wpAny_handleBy_cons (codeAny_handlers_test ?_) (by intro q; cases q)
        have nm : ∀ {Q : Value → Shared → Prop} {E : Value → Shared → Prop}, Q c { s' with heap := h3 } → wpAny (model X.prog X.w) (X.A.mark (some (.ref a))) (eval (.Name x np) X.env) Q E { s' with heap := h3 } := fun {Q E} q => by
          obtain ⟨hg, hdbg, hm | ⟨hm, hv, hnn⟩⟩ := hc
          · exact ld_glob (X := X.suite a ((a, oe3) :: (X.pn ++ pins))) S3 hg hm q hdbg
          · exact ld_blt (X := X.suite a ((a, oe3) :: (X.pn ++ pins))) S3 hg hm hv q hnn hdbg
        refine nm (LM.here ?_)
        cases b with
        | false =>
          show wpAny _ X.A (handleBy (.ref a) X.env hds2) _ _ _
          exact ih (hno rfl)
        | true =>
          refine codeAny_handlers_suite_as (HandSPX.lands_againZ fl3 fun h4 fl4 up4 => ?_)
          have J4 : Inv X pins σ' H' { s' with heap := h4 } := J.landed nb fl4.1 ((up.trans up3).trans up4) os ag
          obtain ⟨oe4, vs4, he4, hz4, hd4⟩ := fl4.there
          refine store_ok (X := X.suite a ((a, oe4) :: (X.pn ++ pins))) (v := .ref a) (J4.suite he4 hd4 na nL nF) hN hi (.inl hl) rfl (fun s5 S5 => ?_) (.inr hl)
          refine wpAny_mono ((hsu a oe4 cls d (X.pn ++ pins) hz4 ⟨_, hd4⟩).run [] s5 _ H' _ S5 (hyes rfl a na)) (fun f s6 hsp => ?_) (fun _ _ z => False.elim z)
          have bye : ∀ {σ6 : L2.St} {H6 : Hp} {Q : Shared → Prop}, Inv (X.suite a ((a, oe4) :: (X.pn ++ pins))) [] σ6 H6 s6 → (∀ s7, Inv X pins (σ6.set i none) H6 s7 → Q s7) →
              wpAny (model X.prog X.w) X.A (do bindName X.env n .none; unbindBehindTheSuite X.env n pos') (fun _ s7 => Q s7) X.xe s6 := fun {σ6 H6 Q} S6 hq => gone_ok (S6.unsuite iok) hN hi hl hq
          cases f with
          | next => exact let ⟨σ6, H6, S6, q6⟩ := hsp; bye S6 fun s7 J7 => ⟨_, _, J7, q6⟩
          | brk => exact let ⟨σ6, H6, S6, q6⟩ := hsp; bye S6 fun s7 J7 => ⟨_, _, J7, q6⟩
          | cont => exact let ⟨σ6, H6, S6, q6⟩ := hsp; bye S6 fun s7 J7 => ⟨_, _, J7, q6⟩
          | ret u => exact let ⟨v6, σ6, H6, S6, r6, q6⟩ := hsp; bye S6 fun s7 J7 => ⟨_, _, _, J7, r6, q6⟩
    exact run hh wish
end
end Z
/-! ZE: raise, try, the error's field. -/
namespace Z
open PySem L2 PySem.Spec
theorem noExn_get : ∀ {e : Env} {i : Nat} {c : Str} {fs : List (Str × Val)}, noExn e = true → eget e i ≠ .exn c fs
  | [], _, _, _, _, h => by cases h
  | s :: r, 0, c, fs, h, k => by rw [eget_zero] at k; subst k; cases h
  | s :: r, i + 1, c, fs, h, k => by
    rw [eget_succ] at k
    refine noExn_get (e := r) (i := i) ?_ k
    cases s <;> first | exact h | (cases h; done)
section
variable {g : Gm} {pa : List (Option Addr)} {Zs : Addr → Prop} {H : Hp} {σ : L2.St} {e : Env} {i : Nat} {a d C : Addr} {c : Str} {fs : List (Str × Val)} {fv : List (Str × V)}
/-- an error is named -/
theorem RE.name (re : RE g none pa Zs H σ e) (hi : i < e.length) (hs : eget e i = .emp) (hg : g.mg c = some (.ref C)) (hd : H d = some (.xd fv)) (hf : RvF g Zs H fs fv) :
    RE g (some (a, .ref C, d)) pa Zs H (σ.set i (some (.ref a))) (eput e i (.exn c fs)) ∧ ∀ b, Owd (eput e i (.exn c fs)) (σ.set i (some (.ref a))) b → Owd e σ b := by
  have hi2 : i < σ.length := by rw [re.len]; exact hi
  have own : ∀ j b, OwnAt (eput e i (.exn c fs)) (σ.set i (some (.ref a))) j b → OwnAt e σ j b := fun j b ⟨p, x, h1, h2⟩ => by
    by_cases h : i = j
    · subst h; rw [eget_eput_same e i _ hi] at h1; cases h1
    · rw [eget_eput_ne e i j _ h] at h1; rw [List.getElem?_set_ne h] at h2; exact ⟨p, x, h1, h2⟩
  refine ⟨⟨by rw [List.length_set, eput_length]; exact re.len, fun j => ?_, fun j k b h1 h2 => re.inj j k b (own j b h1) (own k b h2), fun j b h => ?_, re.zd⟩, fun b ⟨j, h⟩ => ⟨j, own j b h⟩⟩
  · by_cases h : i = j
    · subst h
      rw [eget_eput_same e i _ hi, List.getElem?_set_self hi2]
      exact ⟨a, d, C, fv, rfl, rfl, hg, hd, hf⟩
    · rw [eget_eput_ne e i j _ h, List.getElem?_set_ne h]
      have q := re.sl j
      cases hj : eget e j with
      | exn c fs => rw [hj] at q; obtain ⟨_, _, _, _, z, _⟩ := q; cases z
      | emp => trivial
      | v x => rw [hj] at q; exact q
      | own p x => rw [hj] at q; exact q
      | pf x => rw [hj] at q; exact q
  · obtain ⟨h1, h2⟩ := re.pin j b h
    have hn : i ≠ j := fun z => by rw [← z, hs] at h2; exact h2
    rw [eget_eput_ne e i j _ hn, List.getElem?_set_ne hn]
    exact ⟨h1, h2⟩
/-- its name goes -/
theorem RE.unname {xc : Xc} (re : RE g xc pa Zs H σ e) (hn : noExn (eput e i .emp) = true) (hp : ∀ b, pa[i]? ≠ some (some b)) : RE g none pa Zs H (σ.set i none) (eput e i .emp) ∧ ∀ b, Owd (eput e i .emp) (σ.set i none) b → Owd e σ b := by
  have own : ∀ j b, OwnAt (eput e i .emp) (σ.set i none) j b → OwnAt e σ j b := fun j b ⟨p, x, h1, h2⟩ => by
    by_cases h : i = j
    · subst h
      by_cases hi : i < e.length
      · rw [eget_eput_same e i _ hi] at h1; cases h1
      · rw [eget_out _ _ (by rw [eput_length]; omega)] at h1; cases h1
    · rw [eget_eput_ne e i j _ h] at h1; rw [List.getElem?_set_ne h] at h2; exact ⟨p, x, h1, h2⟩
  refine ⟨⟨by rw [List.length_set, eput_length]; exact re.len, fun j => ?_, fun j k b h1 h2 => re.inj j k b (own j b h1) (own k b h2), fun j b h => ?_, re.zd⟩, fun b ⟨j, h⟩ => ⟨j, own j b h⟩⟩
  · by_cases h : i = j
    · subst h
      by_cases hi : i < e.length
      · rw [eget_eput_same e i _ hi]; trivial
      · rw [eget_out _ _ (by rw [eput_length]; omega)]; trivial
    · rw [List.getElem?_set_ne h]
      have q := re.sl j
      have ne : ∀ c fs, eget (eput e i .emp) j ≠ .exn c fs := fun c fs => noExn_get hn
      rw [eget_eput_ne e i j _ h] at ne ⊢
      cases hj : eget e j with
      | exn c fs => exact absurd hj (ne c fs)
      | emp => trivial
      | v x => rw [hj] at q; exact q
      | own p x => rw [hj] at q; exact q
      | pf x => rw [hj] at q; exact q
  · obtain ⟨h1, h2⟩ := re.pin j b h
    have hn : i ≠ j := fun z => hp b (by rw [z]; exact h)
    rw [eget_eput_ne e i j _ hn, List.getElem?_set_ne hn]
    exact ⟨h1, h2⟩
end
section
variable {X : Cx} {W : WX} {pos : Pos}
def suiOf (g : Gm) (s : S) : Sui := fun a cls d => match d with
  | some dd => rdS g (some (a, cls, dd)) (fun _ _ _ _ => False) s
  | none => fun _ _ _ => False
/-- the clauses, with the functional readings of their suites -/
inductive SCl (X : Cx) (sub : Str → Str → Option Bool) : List ExceptHandler → List (Str × Nat × S) → List (Value × Nat × Sui) → Prop
  | nil : SCl X sub [] [] []
  | cons {x nm : Str} {C : Addr} {i : Nat} {s : S} {b₀ : Stmt} {suite : List Stmt} {np pos' : Pos} {hds : List ExceptHandler} {hs : List (Str × Nat × S)} {l : List (Value × Nat × Sui)} (hm : X.mg x = some (.ref C)) (hsub : ∀ c C', X.mg c = some (.ref C') → ∀ b, sub c x = some b → PySem.W.exmOne X.K (.ref C') (.ref C) = some b)
      (hsu : ∀ (a : Addr) (oe : Obj) (cls : Value) (d : Addr) (pn : List (Addr × Obj)), Zc cls (some d) oe → (∃ vs, oe.data = .fields vs) → SB (X.suite a ((a, oe) :: pn)) (some (a, cls, d)) (fun _ _ _ _ => False) (b₀ :: suite) s) (r : SCl X sub hds hs l)
      (hi : X.N[i]? = some nm := by rfl) (hl : X.env.kindOf nm = some .local := by rfl) (hg : Gl X x := by rfl) (hdb : (x == ("__debug__" : Str)) = false := by decide) :
      SCl X sub (.ExceptHandler (some (.Name x np)) (some nm) (b₀ :: suite) pos' :: hds) ((x, i, s) :: hs) ((.ref C, i, suiOf (gX X) s) :: l)
theorem SCl.cl {sub : Str → Str → Option Bool} {hds : List ExceptHandler} {hs : List (Str × Nat × S)} {l : List (Value × Nat × Sui)} (h : SCl X sub hds hs l) : Clauses X hds l := by
  induction h with
  | nil => exact .nil
  | cons hm hsub hsu r hi hl hg hdb ih =>
    refine .cons ⟨hg, hdb, .inl hm⟩ hi hl (fun a oe cls d pn hz hf => ?_) ih
    cases d with
    | none => exact ⟨fun _ _ _ _ _ _ h => h.elim⟩
    | some d => exact hsu a oe cls d pn hz hf
theorem handle_ok {sub : Str → Str → Option Bool} {hds : List ExceptHandler} {hs : List (Str × Nat × S)} {l : List (Value × Nat × Sui)} (h : SCl X sub hds hs l) {s0 : At} {c : Str} {fs : List (Str × Val)} {fv : List (Str × V)} {C d : Addr} {σ1 : L2.St} {Z1 : Addr → Prop} {H1 : Hp} {e1 : Env} {D : Ends}
    (P : Post (gX X) none s0.pa s0.Zs s0.H s0.σ s0.env Z1 H1 σ1 e1) (hg : X.mg c = some (.ref C)) (hd : H1 d = some (.xd fv)) (hf : RvF (gX X) Z1 H1 fs fv) (he : EndS (gX X) none s0 (handle sub hs c fs e1) W D) : wNm X.K W D l (.ref C) (some d) σ1 H1 := by
  induction h with
  | nil => exact he C d fv σ1 Z1 H1 P hg hd hf
  | @cons x nm C' i s b₀ suite np pos' hds hs l hm hsub hsu r hi hl hg' hdb ih =>
    unfold handle at he
    cases hb : sub c x with
    | none => rw [hb] at he; exact he.elim
    | some b =>
      rw [hb] at he
      refine ⟨b, hsub c C hg b hb, fun eb a ha => ?_, fun eb => ?_⟩
      · subst eb
        dsimp only at he
        cases hs0 : eget e1 i with
        | emp =>
          rw [hs0] at he
          dsimp only at he
          by_cases hi2 : i < e1.length
          · rw [if_pos hi2] at he
            obtain ⟨re', ow'⟩ := P.re.name (a := a) hi2 hs0 hg hd hf
            have np : ∀ b, s0.pa[i]? ≠ some (some b) := fun b h => by
              have := (P.re.pin i b h).2
              rw [hs0] at this
              exact this
            refine ⟨s0.pa, Z1, _, re', ?_⟩
            have fin : ∀ {σ2 : L2.St} {Z2 : Addr → Prop} {H2 : Hp} {e2 : Env}, Post (gX X) (some (a, .ref C, d)) s0.pa Z1 H1 (σ1.set i (some (.ref a))) (eput e1 i (.exn c fs)) Z2 H2 σ2 e2 → noExn (eput e2 i .emp) = true →
                Post (gX X) none s0.pa s0.Zs s0.H s0.σ s0.env Z2 H2 (σ2.set i none) (eput e2 i .emp) ∧ ∀ b, Owd (eput e2 i .emp) (σ2.set i none) b → Owd e2 σ2 b := fun {σ2 Z2 H2 e2} P2 hn => by
              obtain ⟨re2, ow2⟩ := P2.re.unname hn np
              have Q : Post (gX X) none s0.pa Z1 H1 σ1 e1 Z2 H2 (σ2.set i none) (eput e2 i .emp) := ⟨⟨P2.ext.zz, fun b h => (P2.ext.zn b h).imp id fun z => z.imp (ow' b) id, fun b o h n => P2.ext.hh b o h fun z => n (ow' b z), P2.ext.zd⟩, re2, fun b h => (P2.ow b (ow2 b h)).imp (ow' b) id⟩
              exact ⟨P.trans Q, ow2⟩
            cases hr : s (eput e1 i (.exn c fs)) with
            | no => rw [hr] at he; exact he
            | ex c2 fs2 e2 => rw [hr] at he; exact he.elim
            | ok f e2 =>
              rw [hr] at he
              intro σ2 Z2 H2 P2
              have simple : ∀ {f : Fl}, EndS (gX X) none s0 (if noExn (eput e2 i .emp) = true then .ok f (eput e2 i .emp) else .no) W D → ∃ P' : Post (gX X) none s0.pa s0.Zs s0.H s0.σ s0.env Z2 H2 (σ2.set i none) (eput e2 i .emp), EndF (gX X) s0 Z2 H2 (σ2.set i none) (eput e2 i .emp) D f ∧ ∀ b, Owd (eput e2 i .emp) (σ2.set i none) b → Owd e2 σ2 b := fun {f} he => by
                by_cases hn : noExn (eput e2 i .emp) = true
                · rw [if_pos hn] at he
                  obtain ⟨P', ow2⟩ := fin P2 hn
                  exact ⟨P', he _ Z2 H2 P', ow2⟩
                · rw [if_neg hn] at he
                  exact he.elim
              cases f with
              | nx => exact (simple he).2.1
              | bk => exact (simple he).2.1
              | ct => exact (simple he).2.1
              | rt r =>
                intro u hr
                cases r with
                | bor j => exact he.elim
                | v x => exact (simple (f := .rt (.v x)) he).2.1 u hr
                | own x =>
                  obtain ⟨P', h1, h2⟩ := simple (f := .rt (.own x)) he
                  obtain ⟨b, eb, nz, hh, no, fr⟩ := hr
                  refine h1 u ⟨b, eb, nz, hh, fun z => no (h2 b z), ?_⟩
                  rcases fr with fr | fr
                  · exact P.ow b (ow' b fr)
                  · exact P.ext.free fr
          · rw [if_neg hi2] at he
            exact he.elim
        | v x => rw [hs0] at he; exact he.elim
        | own p x => rw [hs0] at he; exact he.elim
        | pf x => rw [hs0] at he; exact he.elim
        | exn c fs => rw [hs0] at he; exact he.elim
      · subst eb
        exact ih he
theorem ss_try {sub : Str → Str → Option Bool} {body : List Stmt} {h₀ : ExceptHandler} {hds : List ExceptHandler} {b : S} {hs : List (Str × Nat × S)} {l : List (Value × Nat × Sui)} (hN : X.N.Nodup) (tk : Takes X W)
    (hb : ∀ (W' : WX) (pn : List (Addr × Obj)) (xe : Value → Shared → Prop), Takes (X.tr pn xe) W' → PassesOwn (model X.prog X.w) X.A X.env xe → SB (X.tr pn xe) none W' body b) (hh : SCl X sub (h₀ :: hds) hs l)
    (hst : X.stack = X.env :: X.outer := by rfl) (hfr : X.env.frame = some X.env.locals := by rfl) : SS X none W (.Try body (h₀ :: hds) [] [] pos) (sTry sub b hs) := by
  refine PS_imp (ps_try_named (tb := fun W' => rdS (gX X) none W' b) hst hfr hN tk (fun W' pn xe t p => hb W' pn xe t p) hh.cl) fun D σ H h => ?_
  obtain ⟨pa, Zs, env, re, h⟩ := h
  refine ⟨pa, Zs, env, re, ?_⟩
  unfold sTry at h
  cases hr : b env with
  | no => rw [hr] at h; exact h
  | ok f e1 => rw [hr] at h; exact h
  | ex c fs e1 =>
    rw [hr] at h
    exact fun C d fv σ1 Z1 H1 P hg hd hf => handle_ok hh (s0 := ⟨pa, Zs, H, σ, env⟩) P hg hd hf h
open L2.Zx_given in
/-- raise cn(a) -/
theorem ss_raise_given {cn qn : Str} {C fI : Addr} {a : Expr} {fa : E} {p pos2 : Pos} {k : Nat} (hc : X.calm = true) (T : PySem.Zx_given.LowTxt cn qn X.K X.mg C fI) (hr : Room k X.A) (tk : Takes X W) (ha : SE X none W a fa) (hg : Gl X cn := by rfl) (hdb : (cn == ("__debug__" : Str)) = false := by decide)
    (he : starEach (a :: []) X.env = (false, eval a X.env) :: starEach [] X.env := by rfl) (hpl : (backTo pos (starEach [] X.env)).any (·.1) = false := by rfl) :
    SS X none W (.Raise (some (.Call (.Name cn p) [a] [] pos)) none pos2) (sRaise cn "given" fa) := by
  refine PS_imp (ps_raise hc tk (pmk_low T hr (pa_cons ha pa_nil he) hg hdb he hpl)) fun D σ H h => ?_
  obtain ⟨pa, Zs, env, re, h⟩ := h
  refine ⟨pa, Zs, env, re, ?_⟩
  unfold sRaise at h
  cases hr : fa env with
  | no => rw [hr] at h; exact h
  | ex c fs e1 => rw [hr] at h; exact fun C d fv Z1 H1 p => h C d fv σ Z1 H1 p.toPost
  | ok r e1 =>
    rw [hr, Rs.bind_ok] at h
    intro u Z1 H1 p1 q1
    cases hx : esc e1 r with
    | no => rw [hx] at h; exact h.elim
    | ex c fs e => exact absurd (show escs e1 [r] = .ex c fs e by rw [escs_cons, hx]; rfl) (escs_ex _ _ _ _ _)
    | ok x e2 =>
      rw [hx, Rs.bind_ok] at h
      obtain ⟨Z2, P2, rv, _⟩ := esc_ok p1 q1 hx
      refine ⟨u, rfl, fun d hd => ?_⟩
      have ex := Ext.new (o := .xd [(("given" : Str), u)]) P2.re.zd hd
      exact h C d _ σ Z2 _ (P2.trans (P2.re.growP ex)).toPost T.gC upd_same (.cons (rv.ext ex (fun _ z => z.elim)) .nil)
open L2.Zx_given in
/-- e.given in a suite -/
theorem se_exn_given (i : Nat) {cn qn : Str} {C fI : Addr} {a d : Addr} {oe : Obj} {cls : Value} {pn : List (Addr × Obj)} {nm : Str} {p0 : Pos} (T : PySem.Zx_given.LowTxt cn qn X.K X.mg C fI) (hz : Zc cls (some d) oe) (hf : ∃ vs, oe.data = .fields vs)
    (he : PE (X.suite a ((a, oe) :: pn)) (.Name nm p0) (tVar i)) (hb : attributeBase (.Name nm p0) "given" X.env (eval (.Name nm p0) X.env) = eval (.Name nm p0) X.env := by rfl) :
    SE (X.suite a ((a, oe) :: pn)) (some (a, cls, d)) W (.Attribute (.Name nm p0) "given" pos) (eExn i cn "given") := by
  refine PE_imp (pe_byLow T hz hf he hb) fun σ H Q h => ?_
  obtain ⟨pa, Zs, env, re, h⟩ := h
  unfold eExn at h
  have q := re.sl i
  cases hs : eget env i with
  | emp => rw [hs] at h; exact h.elim
  | v x => rw [hs] at h; exact h.elim
  | own p x => rw [hs] at h; exact h.elim
  | pf x => rw [hs] at h; exact h.elim
  | exn c fs =>
    rw [hs] at h q
    obtain ⟨a', d', C', fv, e1, e2, hg, hd, hff⟩ := q
    cases e1
    cases hff with
    | nil => exact h.elim
    | cons r t =>
      cases t with
      | cons _ _ => exact h.elim
      | nil =>
        dsimp only at h
        split at h
        · rename_i cc
          obtain ⟨rfl, rfl⟩ := cc
          have hC : X.mg c = some (.ref C') := hg
          rw [T.gC] at hC
          cases hC
          exact ⟨_, e2, rfl, rfl, d, _, rfl, hd, h _ Zs H (PostE.refl re) r⟩
        · exact h.elim
end
end Z
/-! ZF: list comprehensions. -/
namespace Z
open PySem L2 PySem.Spec
/-! ### wiping -/
theorem clr_at : ∀ {vs : List Nat} {e : Env} {i : Nat}, clr e vs = true → i ∈ vs → eget e i = .emp ∨ ∃ x, eget e i = .v x
  | v :: vs, e, i, h, hi => by
    rw [clr_cons, Bool.and_eq_true] at h
    rcases List.mem_cons.mp hi with rfl | hi
    · have h1 := h.1
      cases hs : eget e i with
      | emp => exact .inl rfl
      | v x => exact .inr ⟨x, rfl⟩
      | own p x => rw [hs] at h1; cases h1
      | pf x => rw [hs] at h1; cases h1
      | exn c fs => rw [hs] at h1; cases h1
    · exact clr_at h.2 hi
theorem wip_len : ∀ (vs : List Nat) (e : Env), (wip e vs).length = e.length
  | [], _ => rfl
  | v :: vs, e => by rw [wip_cons, wip_len, eput_length]
theorem unwip_len : ∀ (vs : List Nat) (e1 e : Env), (unwip e1 e vs).length = e.length
  | [], _, _ => rfl
  | v :: vs, e1, e => by rw [unwip_cons, unwip_len, eput_length]
theorem eget_wip_out : ∀ {vs : List Nat} {e : Env} {i : Nat}, i ∉ vs → eget (wip e vs) i = eget e i
  | [], _, _, _ => rfl
  | v :: vs, e, i, h => by
    rw [wip_cons, eget_wip_out (fun m => h (List.mem_cons_of_mem _ m)), eget_eput_ne _ _ _ _ fun z => h (by rw [z]; exact List.mem_cons_self)]
theorem eput_emp {e : Env} {i j : Nat} (h : eget e i = .emp) : eget (eput e j .emp) i = .emp := by
  by_cases hj : j = i
  · subst hj
    by_cases hl : j < e.length
    · exact eget_eput_same e j _ hl
    · rw [eget_out]; rw [eput_length]; omega
  · rw [eget_eput_ne _ _ _ _ hj]; exact h
theorem wip_emp : ∀ {vs : List Nat} {e : Env} {i : Nat}, eget e i = .emp → eget (wip e vs) i = .emp
  | [], _, _, h => h
  | v :: vs, e, i, h => wip_emp (vs := vs) (eput_emp h)
theorem eput_self_emp {e : Env} {i : Nat} : eget (eput e i .emp) i = .emp := by
  by_cases hl : i < e.length
  · exact eget_eput_same e i _ hl
  · rw [eget_out]; rw [eput_length]; omega
theorem eget_wip_in : ∀ {vs : List Nat} {e : Env} {i : Nat}, i ∈ vs → eget (wip e vs) i = .emp
  | v :: vs, e, i, h => by
    rw [wip_cons]
    rcases List.mem_cons.mp h with rfl | h
    · exact wip_emp eput_self_emp
    · exact eget_wip_in h
theorem eget_unwip_out : ∀ {vs : List Nat} {e1 e : Env} {i : Nat}, i ∉ vs → eget (unwip e1 e vs) i = eget e i
  | [], _, _, _, _ => rfl
  | v :: vs, e1, e, i, h => by
    rw [unwip_cons, eget_unwip_out (fun m => h (List.mem_cons_of_mem _ m)), eget_eput_ne _ _ _ _ fun z => h (by rw [z]; exact List.mem_cons_self)]
theorem unwip_keep : ∀ {vs : List Nat} {e1 e : Env} {i : Nat}, eget e i = eget e1 i → i < e.length → eget (unwip e1 e vs) i = eget e1 i
  | [], _, _, _, h, _ => h
  | v :: vs, e1, e, i, h, hl => by
    rw [unwip_cons]
    refine unwip_keep ?_ (by rw [eput_length]; exact hl)
    by_cases hv : v = i
    · subst hv; exact eget_eput_same _ _ _ hl
    · rw [eget_eput_ne _ _ _ _ hv]; exact h
theorem eget_unwip_in : ∀ {vs : List Nat} {e1 e : Env} {i : Nat}, i ∈ vs → i < e.length → eget (unwip e1 e vs) i = eget e1 i
  | v :: vs, e1, e, i, h, hl => by
    rw [unwip_cons]
    rcases List.mem_cons.mp h with rfl | h
    · exact unwip_keep (eget_eput_same _ _ _ hl) (by rw [eput_length]; exact hl)
    · exact eget_unwip_in h (by rw [eput_length]; exact hl)
theorem wipe_in : ∀ {vs : List Nat} {σ : L2.St} {i : Nat} {x : V}, i ∈ vs → (wipe σ vs)[i]? ≠ some (some x) := fun hi h => (wipe_some h).2 hi
theorem wipe_get {σ : L2.St} {i : Nat} : ∀ {vs : List Nat}, i ∈ vs → (wipe σ vs)[i]? = if i < σ.length then some none else none
  | v :: vs, h => by
    unfold wipe
    by_cases hv : v = i
    · subst hv
      by_cases hl : v < σ.length
      · rw [List.getElem?_set_self (by rw [wipe_length]; exact hl), if_pos hl]
      · rw [if_neg hl, List.getElem?_eq_none]; rw [List.length_set, wipe_length]; omega
    · rw [List.getElem?_set_ne hv]
      exact wipe_get ((List.mem_cons.mp h).resolve_left fun e => hv e.symm)
theorem wipe_idem (σ : L2.St) (vs : List Nat) : wipe (wipe σ vs) vs = wipe σ vs := by
  apply List.ext_getElem?
  intro i
  by_cases h : i ∈ vs
  · rw [wipe_get h, wipe_get h, wipe_length]
  · rw [wipe_out h]
theorem wipe_set {σ : L2.St} {vs : List Nat} {i : Nat} {u : Option V} (hi : i ∈ vs) : wipe (σ.set i u) vs = wipe σ vs := by
  apply List.ext_getElem?
  intro j
  by_cases h : j ∈ vs
  · rw [wipe_get h, wipe_get h, List.length_set]
  · rw [wipe_out h, wipe_out h, List.getElem?_set_ne fun e => h (by rw [← e]; exact hi)]
section
variable {g : Gm} {xc : Xc} {pa : List (Option Addr)} {Zs Z1 : Addr → Prop} {H H1 : Hp} {σ σ2 : L2.St} {e e2 : Env} {vs : List Nat}
theorem clr_own {i : Nat} {p : Bool} {x : Val} (hc : clr e vs = true) (h : eget e i = .own p x) : i ∉ vs := fun m => by
  rcases clr_at hc m with z | ⟨y, z⟩ <;> rw [z] at h <;> cases h
theorem owd_wip (hc : clr e vs = true) {a : Addr} : Owd (wip e vs) (wipe σ vs) a ↔ Owd e σ a := by
  constructor
  · rintro ⟨i, p, x, h1, h2⟩
    by_cases m : i ∈ vs
    · exact absurd h2 (wipe_in m)
    · rw [eget_wip_out m] at h1
      rw [wipe_out m] at h2
      exact ⟨i, p, x, h1, h2⟩
  · rintro ⟨i, p, x, h1, h2⟩
    have m := clr_own hc h1
    exact ⟨i, p, x, by rw [eget_wip_out m]; exact h1, by rw [wipe_out m]; exact h2⟩
/-- the block's frame -/
theorem RE.wip (re : RE g xc pa Zs H σ e) (hc : clr e vs = true) : RE g xc pa Zs H (wipe σ vs) (wip e vs) := by
  have own : ∀ i a, OwnAt (Z.wip e vs) (wipe σ vs) i a → OwnAt e σ i a := fun i a ⟨p, x, h1, h2⟩ => by
    by_cases m : i ∈ vs
    · exact absurd h2 (wipe_in m)
    · rw [eget_wip_out m] at h1
      rw [wipe_out m] at h2
      exact ⟨p, x, h1, h2⟩
  refine ⟨by rw [wipe_length, wip_len]; exact re.len, fun i => ?_, fun i j a h1 h2 => re.inj i j a (own i a h1) (own j a h2), fun i a h => ?_, re.zd⟩
  · by_cases m : i ∈ vs
    · rw [eget_wip_in m]; trivial
    · rw [eget_wip_out m, wipe_out m]; exact re.sl i
  · obtain ⟨h1, h2⟩ := re.pin i a h
    have m : i ∉ vs := fun m => by
      rcases clr_at hc m with z | ⟨y, z⟩ <;> rw [z] at h2 <;> exact h2
    rw [eget_wip_out m, wipe_out m]
    exact ⟨h1, h2⟩
/-- behind the block -/
theorem unwip_post {s : At} (P1 : PostE g xc s.pa s.Zs s.H s.σ s.env Z1 H1 e) (hc : clr e vs = true) (P2 : PostE g xc s.pa Z1 H1 (wipe s.σ vs) (wip e vs) Zs H e2) :
    PostE g xc s.pa Z1 H1 s.σ e Zs H (unwip e e2 vs) ∧ ∀ a, Owd (unwip e e2 vs) s.σ a → Owd e2 (wipe s.σ vs) a := by
  have hl : e2.length = e.length := by rw [← P2.re.len, wipe_length, P1.re.len]
  have own : ∀ i a, OwnAt (unwip e e2 vs) s.σ i a → OwnAt e2 (wipe s.σ vs) i a := fun i a ⟨p, x, h1, h2⟩ => by
    by_cases m : i ∈ vs
    · by_cases li : i < e2.length
      · rw [eget_unwip_in m li] at h1
        exact absurd m (clr_own hc h1)
      · rw [eget_out] at h1
        · cases h1
        · rw [unwip_len]; omega
    · rw [eget_unwip_out m] at h1
      exact ⟨p, x, h1, by rw [wipe_out m]; exact h2⟩
  have ext : Ext (Owd e s.σ) Z1 H1 Zs H := ⟨P2.ext.zz, fun a h => (P2.ext.zn a h).imp id fun z => z.imp (owd_wip hc).mp id, fun a o h n => P2.ext.hh a o h fun z => n ((owd_wip hc).mp z), P2.ext.zd⟩
  refine ⟨⟨⟨ext, ⟨by rw [unwip_len, hl]; exact P1.re.len, fun i => ?_, fun i j a h1 h2 => P2.re.inj i j a (own i a h1) (own j a h2), fun i a h => ?_, P2.re.zd⟩, fun a ⟨i, h⟩ => ?_⟩, fun i h => ?_⟩, fun a ⟨i, h⟩ => ⟨i, own i a h⟩⟩
  · by_cases m : i ∈ vs
    · by_cases li : i < e2.length
      · rw [eget_unwip_in m li]
        have q := P1.re.sl i
        rcases clr_at hc m with z | ⟨x, z⟩
        · rw [z]; trivial
        · rw [z] at q ⊢
          obtain ⟨u, h1, r⟩ := q
          exact ⟨u, h1, r.ext ext P1.re.owOk⟩
      · rw [eget_out]
        · trivial
        · rw [unwip_len]; omega
    · rw [eget_unwip_out m]
      have q := P2.re.sl i
      rw [wipe_out m] at q
      exact q
  · obtain ⟨h1, h2⟩ := P2.re.pin i a h
    have m : i ∉ vs := fun m => wipe_in m h1
    rw [wipe_out m] at h1
    rw [eget_unwip_out m]
    exact ⟨h1, h2⟩
  · rcases P2.ow a ⟨i, own i a h⟩ with z | z
    · exact .inl ((owd_wip hc).mp z)
    · exact .inr z
  · by_cases m : i ∈ vs
    · by_cases li : i < e2.length
      · rw [eget_unwip_in m li]; exact h
      · rw [eget_out e i (by omega)] at h; exact h.elim
    · rw [eget_unwip_out m]
      exact P2.hol i (by rw [eget_wip_out m]; exact h)
/-- a list on the side is written -/
theorem RE.side {D : Addr} {us ws : List V} (re : RE g xc pa Zs H σ e) (hD : H D = some (.lst us)) (nz : ¬ Zs D) (no : ¬ Owd e σ D) : RE g xc pa Zs (upd H D (.lst ws)) σ e := by
  have zd : Zd Zs (upd H D (.lst ws)) := fun b h => by
    obtain ⟨u, hu⟩ := re.zd b h
    exact ⟨u, by rw [upd_ne fun z => nz (by rw [← z]; exact h)]; exact hu⟩
  have e1 : Ext (fun b => b = D) Zs H Zs (upd H D (.lst ws)) := ⟨fun _ h => h, fun _ h => .inl h, fun b u h n => by rw [upd_ne n]; exact h, zd⟩
  have d1 : OwOk (fun b => b = D) Zs H := fun b h => by rw [h]; exact ⟨nz, _, hD, rfl⟩
  refine ⟨re.len, fun i => ?_, re.inj, re.pin, zd⟩
  have q := re.sl i
  cases hs : eget e i with
  | emp => trivial
  | v x =>
    rw [hs] at q
    obtain ⟨u, h, r⟩ := q
    exact ⟨u, h, r.ext e1 d1⟩
  | own p x =>
    rw [hs] at q
    obtain ⟨a, h, n, r⟩ := q
    exact ⟨a, h, n, r.ext e1 d1 fun z => no ⟨i, p, x, hs, by rw [h, z]⟩⟩
  | pf x =>
    rw [hs] at q
    obtain ⟨a, h, z, r⟩ := q
    exact ⟨a, h, z, r.ext e1 d1⟩
  | exn c fs =>
    rw [hs] at q
    obtain ⟨a, dd, C, fv, h1, h2, h3, h4, r⟩ := q
    refine ⟨a, dd, C, fv, h1, h2, h3, e1.hh _ _ h4 fun z => ?_, r.ext e1 d1⟩
    rw [z, hD] at h4
    cases h4
theorem RvL.side {D : Addr} {us ws vs' : List V} {xs : List Val} (zd : Zd Zs H) (hD : H D = some (.lst us)) (nz : ¬ Zs D) (r : RvL g Zs H xs vs') : RvL g Zs (upd H D (.lst ws)) xs vs' := by
  have e1 : Ext (fun b => b = D) Zs H Zs (upd H D (.lst ws)) := ⟨fun _ h => h, fun _ h => .inl h, fun b u h n => by rw [upd_ne n]; exact h, fun b h => by
    obtain ⟨u, hu⟩ := zd b h
    exact ⟨u, by rw [upd_ne fun z => nz (by rw [← z]; exact h)]; exact hu⟩⟩
  exact r.ext e1 fun b h => by rw [h]; exact ⟨nz, _, hD, rfl⟩
end
/-! ### targets of a block -/
/-- a target that changes the block's names alone -/
def rdGc (g : Gm) (xc : Xc) (vs : List Nat) (t : Tg) : TG := fun v σ H Q => ∃ pa Zs env x e1, RE g xc pa Zs H σ env ∧ RvV g Zs H x v ∧ t x env = some e1 ∧ ∀ σ1 Z1 H1, Post g xc pa Zs H σ env Z1 H1 σ1 e1 → wipe σ1 vs = wipe σ vs → Q σ1 H1
def rdGcs (g : Gm) (xc : Xc) (vs : List Nat) (ts : List Tg) : TGs := fun us σ H Q => ∃ pa Zs env xs e1, RE g xc pa Zs H σ env ∧ RvL g Zs H xs us ∧ tgs ts xs env = some e1 ∧ ∀ σ1 Z1 H1, Post g xc pa Zs H σ env Z1 H1 σ1 e1 → wipe σ1 vs = wipe σ vs → Q σ1 H1
def TgIn (vs : List Nat) (t : Tg) : Prop := ∀ x e e1, t x e = some e1 → ∀ i, i ∉ vs → eget e1 i = eget e i
def TgsIn (vs : List Nat) (ts : List Tg) : Prop := ∀ xs e e1, tgs ts xs e = some e1 → ∀ i, i ∉ vs → eget e1 i = eget e i
structure SGc (X : Cx) (xc : Xc) (vs : List Nat) (tg : Expr) (t : Tg) : Prop where
  pg : PG X tg (rdGc (gX X) xc vs t)
  inn : TgIn vs t
structure SGcs (X : Cx) (xc : Xc) (vs : List Nat) (tg : List Expr) (t : List Tg) : Prop where
  pg : PGs X tg (rdGcs (gX X) xc vs t)
  inn : TgsIn vs t
section
variable {X : Cx} {xc : Xc} {W : WX} {pos : Pos} {vs : List Nat}
theorem sgc_name (i : Nat) {x : Str} (hN : X.N.Nodup) (hi : X.N[i]? = some x := by rfl) (hv : i ∈ vs := by decide) (hx : Loc X.env.scope x := by first | exact Or.inl rfl | exact Or.inr rfl) (hf : X.fn x = true ∨ X.env.scope.names.lookup x = some .local := by first | exact .inl rfl | exact .inr rfl) : SGc X xc vs (.Name x pos) (tgN i) := by
  refine ⟨PG_imp (pg_name hN hi hx hf) fun v σ H Q h => ?_, fun x e e1 h j hj => ?_⟩
  · obtain ⟨pa, Zs, env, x, e1, re, rv, hz, h⟩ := h
    obtain ⟨Z2, P2, _⟩ := sto_ok (s := ⟨pa, Zs, H, σ, env⟩) (u := v) (r := .v x) (Post.refl re) rv (okE_some hz)
    exact h _ Z2 H P2 (wipe_set hv)
  · obtain ⟨_, _, rfl⟩ := put_some (okE_some h : sto e i (.v x) = .ok () e1)
    exact eget_eput_ne _ _ _ _ fun z => hj (by rw [← z]; exact hv)
theorem sgcs_nil : SGcs X xc vs [] [] := by
  refine ⟨PGs_imp pgs_nil fun us σ H Q h => ?_, fun xs e e1 h j hj => ?_⟩
  · obtain ⟨pa, Zs, env, xs, e1, re, rv, hz, h⟩ := h
    cases rv with
    | nil => cases hz; exact ⟨rfl, h σ Zs H (Post.refl re) rfl⟩
    | cons _ _ => cases hz
  · cases xs with
    | nil => cases h; rfl
    | cons _ _ => cases h
theorem sgcs_cons {e : Expr} {es : List Expr} {t : Tg} {ts : List Tg} (h1 : SGc X xc vs e t) (h2 : SGcs X xc vs es ts) (hs : (assignEach (e :: es) X.env).map (·.2) = assign e X.env :: (assignEach es X.env).map (·.2) := by rfl) : SGcs X xc vs (e :: es) (t :: ts) := by
  refine ⟨PGs_imp (pgs_cons h1.pg h2.pg hs) fun us σ H Q h => ?_, fun xs e e1 h j hj => ?_⟩
  · obtain ⟨pa, Zs, env, xs, e1, re, rv, hz, h⟩ := h
    cases rv with
    | nil => cases hz
    | cons r rs =>
      rw [tgs_cons] at hz
      split at hz
      · rename_i e2 h2
        refine ⟨_, _, rfl, pa, Zs, env, _, e2, re, r, h2, fun σ1 Z1 H1 P1 w1 => ?_⟩
        exact ⟨pa, Z1, e2, _, e1, P1.re, rs.ext P1.ext re.owOk, hz, fun σ2 Z2 H2 P2 w2 => h σ2 Z2 H2 (P1.trans P2) (w2.trans w1)⟩
      · cases hz
  · cases xs with
    | nil => cases h
    | cons x xs =>
      rw [tgs_cons] at h
      split at h
      · rename_i e2 h3
        rw [h2.inn _ _ _ h j hj, h1.inn _ _ _ h3 j hj]
      · cases h
theorem sgc_tup {es : List Expr} {k : Nat} {ts : List Tg} {n : Nat} (hc : X.calm = true) (h : SGcs X xc vs es ts) (hl : ts.length = n := by rfl) (hn : (assignEach es X.env).length = n := by rfl) (hst : (assignEach es X.env).findIdx? (·.1) = none := by rfl) : SGc X xc vs (.Tuple es k pos) (tgT ts) := by
  refine ⟨PG_imp (pg_tup hc h.pg hn hst) fun v σ H Q h => ?_, fun x e e1 hz j hj => ?_⟩
  · obtain ⟨pa, Zs, env, x, e1, re, rv, hz, h⟩ := h
    have tl : ∀ (ts : List Tg) (xs : List Val) (e : Env), tgs ts xs e = some e1 → xs.length = ts.length := by
      intro ts
      induction ts with
      | nil => intro xs e h; cases xs with
        | nil => rfl
        | cons x xs => cases h
      | cons t ts ih => intro xs e h; cases xs with
        | nil => cases h
        | cons x xs =>
          rw [tgs_cons] at h
          split at h
          · rw [List.length_cons, List.length_cons, ih _ _ h]
          · cases h
    cases rv with
    | tup hs r => exact ⟨_, _, rfl, hs, by rw [← r.length, tl _ _ _ hz, hl], pa, Zs, env, _, e1, re, r, hz, h⟩
    | _ => cases hz
  · cases x with
    | tup xs => exact h.inn _ _ _ hz j hj
    | _ => cases hz

/-! ### tests of a block -/
abbrev STs (X : Cx) (xc : Xc) (W : WX) (ifs : List Expr) (f : T) : Prop := PTs X ifs (rdT (gX X) xc W f)
theorem PTs_imp {ifs : List Expr} {t t' : TT} (h : PTs X ifs t) (k : ∀ σ H Q, t' σ H Q → t σ H Q) : PTs X ifs t' := ⟨fun pins s σ H Q I q => h.run pins s σ H Q I (k σ H Q q)⟩
theorem sts_nil : STs X xc W [] Z.tYes := PTs_imp pts_nil fun σ H Q ⟨pa, Zs, env, re, h⟩ => h true Zs H (PostE.refl re) rfl
theorem sts_one {c : Expr} {f : T} (h : ST X xc W c f) : STs X xc W [c] f := pts_one h
abbrev FF : WX := fun _ _ _ _ => False

/-! ### the block -/
section
variable {g : Gm} {pa : List (Option Addr)} {Z1 Z' Z4 : Addr → Prop} {H1 H' H4 : Hp} {σw σ2 : L2.St} {ew e' e1 e4 : Env} {D : Addr} {acc ws : List V} {ys : List Val}
theorem PostE.side (P : PostE g xc pa Z1 H1 σw ew Z' H' e') (fr : H1 D = none) (hD : H' D = some (.lst acc)) (nz : ¬ Z' D) (no : ¬ Owd e' σw D) : PostE g xc pa Z1 H1 σw ew Z' (upd H' D (.lst ws)) e' := by
  have re := P.re.side (ws := ws) hD nz no
  exact ⟨⟨⟨P.ext.zz, P.ext.zn, fun a o h n => by rw [upd_ne (ne_of_none h fr)]; exact P.ext.hh a o h n, re.zd⟩, re, P.ow⟩, P.hol⟩
/-- behind a turn -/
theorem comp_step (hw0 : ∀ i ∈ vs, eget ew i = .emp) (P' : PostE g xc pa Z1 H1 σw ew Z' H' e') (Pa : Post g xc pa Z' H' σw e' Z4 H4 σ2 e4) (w2 : wipe σ2 vs = σw) (hc : clr e4 vs = true) (hol : ∀ i, i ∉ vs → Hol (eget e' i) → Hol (eget e4 i)) (hD : H' D = some (.lst acc)) (ra : RvL g Z' H' ys acc) (nz : ¬ Z' D) (no : ¬ Owd e' σw D) :
    PostE g xc pa Z1 H1 σw ew Z4 H4 (wip e4 vs) ∧ H4 D = some (.lst acc) ∧ RvL g Z4 H4 ys acc ∧ ¬ Z4 D ∧ ¬ Owd (wip e4 vs) σw D := by
  have Q := P'.toPost.trans Pa
  have re : RE g xc pa Z4 H4 σw (wip e4 vs) := by
    have := Pa.re.wip hc
    rw [w2] at this
    exact this
  have ow : ∀ a, Owd (wip e4 vs) σw a → Owd e4 σ2 a := fun a h => by
    rw [← w2] at h
    exact (owd_wip hc).mp h
  refine ⟨⟨⟨Q.ext, re, fun a h => Q.ow a (ow a h)⟩, fun i h => ?_⟩, Pa.ext.hh D _ hD no, ra.ext Pa.ext P'.re.owOk, fun z => ?_, fun z => ?_⟩
  · by_cases m : i ∈ vs
    · rw [hw0 i m] at h; exact h.elim
    · rw [eget_wip_out m]
      exact hol i m (P'.hol i h)
  · rcases Pa.ext.zn D z with z | z | z
    · exact nz z
    · exact no z
    · rw [hD] at z; cases z
  · rcases Pa.ow D (ow D z) with z | z
    · exact no z
    · rw [hD] at z; cases z
/-- one turn -/
theorem comp_turn {t : Tg} {c : T} {a : E} {xs : List Val} {x : Val} {zs : List Val} {e9 : Env} {u : V} (ht : TgIn vs t) (hw : wipe σw vs = σw) (hw0 : ∀ i ∈ vs, eget ew i = .emp)
    (hL : compL vs t c a (x :: xs) e' = .ok zs e9) (fr : H1 D = none) (P' : PostE g xc pa Z1 H1 σw ew Z' H' e') (hD : H' D = some (.lst acc)) (ra : RvL g Z' H' ys acc) (nz : ¬ Z' D) (no : ¬ Owd e' σw D) (lt : acc.length < sizeLine) (rv : RvV g Z' H' x u) (N : Hp → Prop)
    (hN : ∀ Z4 H4 e4 acc4 ys4 zs4, PostE g xc pa Z1 H1 σw ew Z4 H4 e4 → H4 D = some (.lst acc4) → RvL g Z4 H4 ys4 acc4 → ¬ Z4 D → ¬ Owd e4 σw D → acc4.length ≤ acc.length + 1 → ys ++ zs = ys4 ++ zs4 → compL vs t c a xs e4 = .ok zs4 e9 → N H4) :
    rdGc g xc vs t u σw H' fun σ2 H2 => wipe σ2 vs = σw ∧ rdT g xc FF c σ2 H2 fun b H3 => if b = true then rd g xc FF a σ2 H3 fun y H4 => ∃ acc, H4 D = some (.lst acc) ∧ acc.length < sizeLine ∧ N (upd H4 D (.lst (acc ++ [y]))) else N H3 := by
  unfold compL at hL
  cases hz : t x e' with
  | none => rw [hz] at hL; cases hL
  | some e1 =>
    rw [hz] at hL
    dsimp only at hL
    refine ⟨pa, Z', e', x, e1, P'.re, rv, hz, fun σ2 Z2 H2 P2 w2 => ⟨w2.trans hw, pa, Z2, e1, P2.re, ?_⟩⟩
    have w2 := w2.trans hw
    have h1 : ∀ i, i ∉ vs → Hol (eget e' i) → Hol (eget e1 i) := fun i m h => by rw [ht _ _ _ hz i m]; exact h
    cases hc : c e1 with
    | no => rw [hc] at hL; cases hL
    | ex cc fs e2 => rw [hc] at hL; cases hL
    | ok k e2 =>
      rw [hc, Rs.bind_ok] at hL
      intro b Z3 H3 P3 e
      cases e
      cases k with
      | false =>
        rw [if_neg (by simp)] at hL ⊢
        cases hcl : clr e2 vs with
        | false => rw [hcl] at hL; simp at hL
        | true =>
          rw [hcl, if_pos rfl] at hL
          obtain ⟨P5, hD5, ra5, nz5, no5⟩ := comp_step hw0 P' (P2.trans P3.toPost) w2 hcl (fun i m h => P3.hol i (h1 i m h)) hD ra nz no
          exact hN _ _ _ _ _ _ P5 hD5 ra5 nz5 no5 (Nat.le_succ _) rfl hL
      | true =>
        rw [if_pos rfl] at hL ⊢
        refine ⟨pa, Z3, e2, P3.re, ?_⟩
        cases ha : a e2 with
        | no => rw [ha] at hL; cases hL
        | ex cc fs e3 => rw [ha] at hL; cases hL
        | ok r e3 =>
          rw [ha, Rs.bind_ok] at hL
          intro y Z4 H4 P4 R4
          cases he : esc e3 r with
          | no => rw [he] at hL; cases hL
          | ex cc fs e => rw [he] at hL; cases hL
          | ok v e4 =>
            rw [he, Rs.bind_ok] at hL
            obtain ⟨Z5, P5, rv5, _, zn5, hol5, ow5⟩ := esc_ok P4 R4 he
            cases hcl : clr e4 vs with
            | false => rw [hcl] at hL; simp at hL
            | true =>
              rw [hcl, if_pos rfl] at hL
              cases hr : compL vs t c a xs (wip e4 vs) with
              | no => rw [hr] at hL; cases hL
              | ex cc fs e => rw [hr] at hL; cases hL
              | ok zs1 e5 =>
                rw [hr, Rs.bind_ok] at hL
                cases hL
                obtain ⟨P6, hD6, ra6, nz6, no6⟩ := comp_step hw0 P' ((P2.trans P3.toPost).trans P5.toPost) w2 hcl (fun i m h => P5.hol i (P3.hol i (h1 i m h))) hD ra nz no
                refine ⟨acc, hD6, lt, ?_⟩
                refine hN Z5 _ (wip e4 vs) (acc ++ [y]) (ys ++ [v]) zs1 (P6.side fr hD6 nz6 no6) upd_same ?_ nz6 no6 (by rw [List.length_append]; exact Nat.le_refl _) (by rw [List.append_assoc]; rfl) hr
                exact RvL.side P6.re.zd hD6 nz6 (ra6.append (.cons rv5 .nil))
end
theorem comp_end {src : Src} {t : Tg} {c : T} {a : E} {σ : L2.St} {H : Hp} {Q : VK} (ht : TgIn vs t) (h : rd (gX X) xc W (eComp src vs t c a) σ H Q) :
    tLc (rdI (gX X) xc W src) (rdGc (gX X) xc vs t) (rdT (gX X) xc FF c) (rd (gX X) xc FF a) vs σ H Q := by
  obtain ⟨pa, Zs, env, re, h⟩ := h
  refine ⟨pa, Zs, env, re, ?_⟩
  unfold eComp at h
  cases hs : src env with
  | no => rw [hs] at h; exact h
  | ex cc fs e1 => rw [hs] at h; exact h
  | ok xs e1 =>
    rw [hs, Rs.bind_ok] at h
    intro Z1 H1 J P1 wk D hfr
    by_cases hc : (clr e1 vs && decide (xs.length ≤ sizeMax)) = true
    · rw [if_pos hc] at h
      rw [Bool.and_eq_true, decide_eq_true_eq] at hc
      obtain ⟨hc, hsz⟩ := hc
      rw [szm] at hsz
      cases hL : compL vs t c a xs (wip e1 vs) with
      | no => rw [hL] at h; exact h.elim
      | ex cc fs e => rw [hL] at h; exact h.elim
      | ok zs e9 =>
        rw [hL] at h
        dsimp only at h
        have re1 : RE (gX X) xc pa Z1 H1 (wipe σ vs) (wip e1 vs) := P1.re.wip hc
        have nzD : ¬ Z1 D := P1.re.zd.no hfr
        have noD : ¬ Owd (wip e1 vs) (wipe σ vs) D := fun z => by
          obtain ⟨_, o, ho, _⟩ := re1.owOk D z
          rw [hfr] at ho; cases ho
        have e0 := Ext.new (o := .lst []) P1.re.zd hfr
        refine ⟨fun i m H' => m = xs.length - i ∧ i ≤ xs.length ∧ ∃ Z' e' acc ys zs', PostE (gX X) xc pa Z1 H1 (wipe σ vs) (wip e1 vs) Z' H' e' ∧ H' D = some (.lst acc) ∧ RvL (gX X) Z' H' ys acc ∧ ¬ Z' D ∧ ¬ Owd e' (wipe σ vs) D ∧ acc.length ≤ i ∧ zs = ys ++ zs' ∧ compL vs t c a (xs.drop i) e' = .ok zs' e9,
          ⟨xs.length, rfl, Nat.zero_le _, Z1, wip e1 vs, [], [], zs, re1.growP e0, upd_same, .nil, nzD, noD, Nat.le_refl _, rfl, hL⟩, ?_⟩
        rintro i m H' ⟨rfl, hi, Z', e', acc, ys, zs', P', hD, ra, nz, no, la, hzs, hL'⟩
        have wk' := wk Z' H' (P'.toPost.grow re1) P'.re.zd
        by_cases hlt : i < xs.length
        · have hd : xs.drop i = xs[i] :: xs.drop (i + 1) := List.drop_eq_getElem_cons hlt
          rw [hd] at hL'
          have hx : xs[i]? = some xs[i] := List.getElem?_eq_getElem hlt
          obtain ⟨go, yl⟩ := wk'.1 i _ hx
          refine .inr ⟨go, fun H' => i + 1 ≤ xs.length ∧ ∃ Z' e' acc ys zs', PostE (gX X) xc pa Z1 H1 (wipe σ vs) (wip e1 vs) Z' H' e' ∧ H' D = some (.lst acc) ∧ RvL (gX X) Z' H' ys acc ∧ ¬ Z' D ∧ ¬ Owd e' (wipe σ vs) D ∧ acc.length ≤ i + 1 ∧ zs = ys ++ zs' ∧ compL vs t c a (xs.drop (i + 1)) e' = .ok zs' e9, fun H' n => ⟨xs.length - (i + 1), by omega, rfl, n⟩, fun u H3 y => ?_⟩
          obtain ⟨Z3, ex, rv⟩ := yl u H3 y
          have P3 := P'.trans (P'.re.growP ex)
          have nz3 : ¬ Z3 D := fun z => by
            rcases ex.zn D z with z | z | z
            · exact nz z
            · exact z
            · rw [hD] at z; cases z
          refine comp_turn ht (wipe_idem σ vs) (fun i m => eget_wip_in m) hL' hfr P3 (ex.hh D _ hD fun z => z) (ra.ext ex fun _ z => z.elim) nz3 no (by omega) rv _ fun Z4 H4 e4 acc4 ys4 zs4 P4 hD4 ra4 nz4 no4 la4 hz4 hL4 => ?_
          exact ⟨hlt, Z4, e4, acc4, ys4, zs4, P4, hD4, ra4, nz4, no4, by omega, hzs.trans hz4, hL4⟩
        · have e : i = xs.length := by omega
          subst e
          rw [List.drop_length] at hL'
          cases hL'
          rw [List.append_nil] at hzs
          subst hzs
          obtain ⟨P5, ow5⟩ := unwip_post (s := ⟨pa, Zs, H, σ, env⟩) P1 hc P'
          exact .inl ⟨wk'.2 _ (Nat.le_refl _), h (.ref D) Z' H' (P1.trans P5) ⟨D, rfl, nz, ⟨acc, hD, ra⟩, fun z => no (ow5 D z), P1.ext.free hfr⟩⟩
    · rw [if_neg hc] at h
      exact h.elim
variable {elt tg iter : Expr} {ifs : List Expr} {scope : Scope} {own : List (Str × Nat)} {src : Src} {t : Tg} {c : T} {a : E}
/-- [elt for tg in iter if ..] -/
theorem se_comp (own : List (Str × Nat)) (hc : X.calm = true) (hN : X.N.Nodup) (hi : SI X xc W tg iter src) (ok : blkC X.N X.env.scope scope own = true) (ht : ∀ (s : Shared) (H : Hp) (C : Addr) (cl : List (Str × Addr)) (fp : List Addr), SGc (X.blk s H scope (compEnvC scope cl C X.env) fp) xc (own.map (·.2)) tg t)
    (hf : ∀ (s : Shared) (H : Hp) (C : Addr) (cl : List (Str × Addr)) (fp : List Addr), STs (X.blk s H scope (compEnvC scope cl C X.env) fp) xc FF ifs c) (he : ∀ (s : Shared) (H : Hp) (C : Addr) (cl : List (Str × Addr)) (fp : List Addr), SE (X.blk s H scope (compEnvC scope cl C X.env) fp) xc FF elt a)
    (hs : ∀ x, foldedSetIterable iter X.env x = pure x := by intro _; rfl) : SE X xc W (.ListComp elt [⟨tg, iter, ifs, 0⟩] scope pos) (eComp src (own.map (·.2)) t c a) :=
  ⟨fun pins s σ H Q I h => (pe_lc hc hN hi (blkOk_by ok) (fun s H C cl fp => (ht s H C cl fp).pg) (fun s H C cl fp => hf s H C cl fp) (fun s H C cl fp => he s H C cl fp) hs).run pins s σ H Q I (comp_end (ht s H 0 [] []).inn h)⟩
/-- name = [elt for tg in iter if ..], the name a local -/
theorem ss_setComp (i : Nat) {y : Str} {py pos spos : Pos} (own : List (Str × Nat)) (hc : X.calm = true) (hN : X.N.Nodup) (hsi : SI X xc W tg iter src) (ok : blkC X.N X.env.scope scope own = true) (ht : ∀ (s : Shared) (H : Hp) (C : Addr) (cl : List (Str × Addr)) (fp : List Addr), SGc (X.blk s H scope (compEnvC scope cl C X.env) fp) xc (own.map (·.2)) tg t)
    (hf : ∀ (s : Shared) (H : Hp) (C : Addr) (cl : List (Str × Addr)) (fp : List Addr), STs (X.blk s H scope (compEnvC scope cl C X.env) fp) xc FF ifs c) (he : ∀ (s : Shared) (H : Hp) (C : Addr) (cl : List (Str × Addr)) (fp : List Addr), SE (X.blk s H scope (compEnvC scope cl C X.env) fp) xc FF elt a)
    (hsw : swapsWith (.ListComp elt [⟨tg, iter, ifs, 0⟩] scope pos) (some (.Name y py)) spos.line X.env = pure true) (hy : X.N[i]? = some y := by rfl) (hyl : X.env.scope.names.lookup y = some .local := by rfl) (hs : ∀ x, foldedSetIterable iter X.env x = pure x := by intro _; rfl) :
    SS X xc W (.Assign [.Name y py] (.ListComp elt [⟨tg, iter, ifs, 0⟩] scope pos) spos) (sSet i (eComp src (own.map (·.2)) t c a)) := by
  refine ⟨fun pins s σ H D I h => (ps_setLc (wi := rdI (gX X) xc W src) (g := rdGc (gX X) xc (own.map (·.2)) t) (tt := rdT (gX X) xc FF c) (te := rd (gX X) xc FF a) hc hN hy hyl hsw hsi (blkOk_by ok) (fun s H C cl fp => (ht s H C cl fp).pg) (fun s H C cl fp => hf s H C cl fp) (fun s H C cl fp => he s H C cl fp) hs).run pins s σ H D I ?_⟩
  refine comp_end (ht s H 0 [] []).inn ?_
  obtain ⟨pa, Zs, env, re, h⟩ := h
  refine ⟨pa, Zs, env, re, h.cont fun r e1 u Z1 H1 _ p1 q1 h => ?_⟩
  cases hz : sto e1 i r with
  | no => rw [hz] at h; exact h.elim
  | ex c fs e => exact absurd hz sto_ex
  | ok _ e2 =>
    rw [hz, Rs.bind_ok] at h
    obtain ⟨Z2, P2, _⟩ := sto_ok p1.toPost q1 hz
    exact h _ Z2 H1 P2
end
end Z
/-! ZG: defs by name: what stands behind the top, calls of them, the end. -/
namespace Z
open PySem L2 PySem.Spec
/-- a def of the text, by name -/
structure Dk (K : PySem.W.Frag) (mg : Str → Option Value) (x : Str) (st : Stmt) (ps : List Str) : Prop where
  ex : ∃ (f : Addr) (fd : FuncData), Fun K x x st f fd ∧ mg x = some (.ref f) ∧ Binds K fd ps []
/-- a def that keeps its promise, by name -/
structure Cl (P : Program) (w : World) (K : PySem.W.Frag) (mg : Str → Option Value) (base : Heap) (k : Nat) (x : Str) (st : Stmt) (ps : List Str) (m : Fn) : Prop where
  ex : ∃ (f : Addr) (fd : FuncData), Fun K x x st f fd ∧ mg x = some (.ref f) ∧ Binds K fd ps [] ∧ FnOk P w K mg base (CXP P w) k f fd ps (spM ⟨K, mg⟩ m)
/-- a def by its body -/
theorem cl_body {P : Program} {w : World} {K : PySem.W.Frag} {mg : Str → Option Value} {base : Heap} {x : Str} {st : Stmt} {N ps : List Str} {k np ns : Nat} {b : S} (D : Dk K mg x st ps) (S : FnScope N ps (defScope st))
    (hbody : ∀ (f : Addr) (cdv : Value) (A : Around) (outer : List PySem.Env) (s : Shared) (H : Hp) (E : XK), Room k (A.deeper (PyProof.Rows.envOfC x (defScope st) s.heap.objs.size f cdv)) →
      SB (cxOf (L2.CX P w) P w K mg base N x (defScope st) f cdv A outer s H E) none (fun cls d _ H' => E cls d H') (defBody st) b)
    (hN : N.length = ns := by rfl) (hp : ps.length = np := by rfl) (hn : np ≤ ns := by decide) : Cl P w K mg base (k + 1) x st ps (mkF np ns b) := by
  obtain ⟨f, fd, F, hm, hb⟩ := D.ex
  exact ⟨f, fd, F, hm, hb, fn_body F S hN hp hn fun cdv A outer s H E hr => hbody f cdv A outer s H E hr⟩
def noF : Fn := fun _ => .no
theorem cl_no {P : Program} {w : World} {K : PySem.W.Frag} {mg : Str → Option Value} {base : Heap} {x : Str} {st : Stmt} {ps : List Str} {k : Nat} (D : Dk K mg x st ps) : Cl P w K mg base k x st ps noF := by
  obtain ⟨f, fd, F, hm, hb⟩ := D.ex
  refine ⟨f, fd, F, hm, hb, ⟨fun vs H Q E h => ?_, fun A outer s H args us vs Q E _ _ _ _ h => ?_⟩⟩
  · obtain ⟨Zs, as, ra, inj, zd, h⟩ := h
    exact h.elim
  · obtain ⟨Zs, as, ra, inj, zd, h⟩ := h
    exact h.elim
section
variable {X : Cx} {xc : Xc} {W : WX} {pos : Pos}
/-- f(e, ..) -/
theorem se_callC {k : Nat} {x : Str} {st : Stmt} {ps : List Str} {m : Fn} {p : Pos} {e : Expr} {es : List Expr} {fa : As} (C : Cl X.prog X.w X.K X.mg X.base k x st ps m) (hr : Room k X.A) (tk : Takes X W)
    (ha : SA X xc W (e :: es) fa) (hg : Gl X x := by rfl) (hdb : (x == ("__debug__" : Str)) = false := by decide) (he : starEach (e :: es) X.env = (false, eval e X.env) :: starEach es X.env := by rfl) (hpl : (backTo pos (starEach es X.env)).any (·.1) = false := by rfl) :
    SE X xc W (.Call (.Name x p) (e :: es) [] pos) (eCall m fa) := by
  obtain ⟨f, fd, F, hm, hb, ok⟩ := C.ex
  exact se_call ok hr tk hm F.kp hb ha hg hdb he hpl
/-- f() -/
theorem se_callC0 {k : Nat} {x : Str} {st : Stmt} {m : Fn} {p : Pos} (C : Cl X.prog X.w X.K X.mg X.base k x st [] m) (hr : Room k X.A) (tk : Takes X W) (hg : Gl X x := by rfl) (hdb : (x == ("__debug__" : Str)) = false := by decide) :
    SE X xc W (.Call (.Name x p) [] [] pos) (eCall m asNil) := by
  obtain ⟨f, fd, F, hm, hb, ok⟩ := C.ex
  exact se_call0 ok hr tk hm F.kp hb hg hdb
/-- how the parameters are bound, by the def's text -/
def PB (x : Str) (st : Stmt) (ps ks : List Str) (n : Nat) (perm : List Nat) : Prop :=
  ∀ (kV doc pm : Value) (an : Option Addr) (cdv ct : Value) (us ws : List Value), us.length = n → ws.length = ks.length →
    bindArgs (PySem.W.fnOf x x (defArgs st) (defBody st) (defScope st) .none kV doc pm an cdv ct) ⟨us, ks.zip ws⟩ = pure (ps.zip (perm.map fun i => (us ++ ws).getD i .none))
theorem PB.of {K : PySem.W.Frag} {x : Str} {st : Stmt} {f : Addr} {fd : FuncData} {ps ks : List Str} {n : Nat} {perm : List Nat} (F : Fun K x x st f fd) (h : PB x st ps ks n perm) : PBinds K fd ps ks n perm := by
  obtain ⟨oc, od, kV, doc, pm, an, cdv, ct, osl, rfl, lk, hcd⟩ := F.ex
  exact fun s us ws _ h1 h2 => .of_eq (h kV doc pm an cdv ct us ws h1 h2)
/-- f(e, .., k = v, ..) -/
theorem se_callCK {k : Nat} {x : Str} {st : Stmt} {ps ks : List Str} {n : Nat} {perm : List Nat} {m : Fn} {p : Pos} {e : Expr} {es : List Expr} {kws : List Keyword} {fa : As} (C : Cl X.prog X.w X.K X.mg X.base k x st ps m) (hr : Room k X.A) (tk : Takes X W)
    (hb : PB x st ps ks n perm) (ha : SAK X xc W (e :: es) kws fa) (hn : (e :: es).length = n := by rfl) (hkl : kws.length = ks.length := by rfl) (hpn : perm.Nodup := by decide) (hpl : ∀ i ∈ perm, i < n + ks.length := by decide) (hpp : perm.length = ps.length := by rfl)
    (hg : Gl X x := by rfl) (hdb : (x == ("__debug__" : Str)) = false := by decide) (hall : (backToKw pos (keywordEach kws X.env)).all (·.1.isSome) = true := by rfl) (hks : (backToKw pos (keywordEach kws X.env)).filterMap (·.1) = ks := by rfl)
    (he : starEach (e :: es) X.env = (false, eval e X.env) :: starEach es X.env := by rfl) (hst : ((backTo pos (starEach (e :: es) X.env)).any (·.1) || (backToKw pos (keywordEach kws X.env)).any (·.1.isNone)) = false := by rfl) :
    SE X xc W (.Call (.Name x p) (e :: es) kws pos) (eCallK m perm fa) := by
  obtain ⟨f, fd, F, hm, _, ok⟩ := C.ex
  exact se_callK ok hr tk hm F.kp (hb.of F) ha hn hkl hpn hpl hpp hg hdb (cw_some F.kp hall hks he hst)
/-- f(k = v, ..) -/
theorem se_callCK0 {k : Nat} {x : Str} {st : Stmt} {ps ks : List Str} {perm : List Nat} {m : Fn} {p : Pos} {kws : List Keyword} {fa : As} (C : Cl X.prog X.w X.K X.mg X.base k x st ps m) (hr : Room k X.A) (tk : Takes X W)
    (hb : PB x st ps ks 0 perm) (ha : SK X xc W kws fa) (hkl : kws.length = ks.length := by rfl) (hpn : perm.Nodup := by decide) (hpl : ∀ i ∈ perm, i < ks.length := by decide)
    (hg : Gl X x := by rfl) (hdb : (x == ("__debug__" : Str)) = false := by decide) (hall : (backToKw pos (keywordEach kws X.env)).all (·.1.isSome) = true := by rfl) (hks : (backToKw pos (keywordEach kws X.env)).filterMap (·.1) = ks := by rfl)
    (hpa : ((backTo pos (starEach [] X.env)).any (·.1) || (backToKw pos (keywordEach kws X.env)).any (·.1.isNone)) = false := by rfl) :
    SE X xc W (.Call (.Name x p) [] kws pos) (eCallK m perm fa) := by
  obtain ⟨f, fd, F, hm, _, ok⟩ := C.ex
  exact se_callK0 ok hr tk hm F.kp (hb.of F) ha hkl hpn hpl hg hdb hall hks hpa
/-- a number that the top has written -/
theorem se_glob {x : Str} {y : Val} {v : V} {u : Value} {p : Pos} (hm : X.mg x = some u) (r : RelV v u) (rv : ∀ g Zs H, RvV g Zs H y v) (hg : Gl X x := by rfl) (hd : (x == ("__debug__" : Str)) = false := by decide) : SE X xc W (.Name x p) (eC y) := se_c (pe_glob hg hm r hd) rv
theorem se_globI {x : Str} {i : Int} {p : Pos} (hm : ∃ t, X.mg x = some (.int i t)) (hg : Gl X x := by rfl) (hd : (x == ("__debug__" : Str)) = false := by decide) : SE X xc W (.Name x p) (eC (.int i)) := by
  obtain ⟨t, hm⟩ := hm
  exact se_glob (v := .int i) hm ⟨t, rfl⟩ (fun _ _ _ => .int i) hg hd
/-- a, b = x, y; two plain local names -/
theorem ss_par2' (i j : Nat) {x y : Str} {a b : Expr} {fa : As} {px py pt : Pos} {kt k2 pt2} (hc : X.calm = true) (hN : X.N.Nodup) (ha : SA X xc W [a, b] fa) (hw : swappedStores [.Tuple [.Name x px, .Name y py] kt pt] (.Tuple [a, b] k2 pt2) X.env = pure (some [x, y]) := by rfl)
    (hi : X.N[i]? = some x := by rfl) (hj : X.N[j]? = some y := by rfl) (hij : i ≠ j := by decide) (hx : X.env.scope.names.lookup x = some .local := by rfl) (hy : X.env.scope.names.lookup y = some .local := by rfl)
    (hs : swapsWithSole [.Tuple [.Name x px, .Name y py] kt pt] (.Tuple [a, b] k2 pt2) pos.line X.env = pure false := by rfl) :
    SS X xc W (.Assign [.Tuple [.Name x px, .Name y py] kt pt] (.Tuple [a, b] k2 pt2) pos) (sPar [i, j] fa) :=
  ss_par2 i j hc hN ha hi hj hij hx hy fun t h => ps_par hc hN hi hj hij hx hy h hw hs
end
theorem blk_ok {N : List Str} {sc scope : Scope} {own : List (Str × Nat)} (h : blkC N sc scope own = true) : blkC N sc scope own = true := h
/-! ### which errors a clause takes -/
theorem exm_pair {K : PySem.W.Frag} {C S : Addr} {b : Bool} (h1 : PySem.W.subIn K (.ref S) (.type "BaseException") = some true) (h2 : PySem.W.isClsIn K S = true) (h3 : PySem.W.typeIn K (.ref S) = some (.type "type")) (h4 : PySem.W.subIn K (.ref C) (.ref S) = some b) : PySem.W.exmOne K (.ref C) (.ref S) = some b := by
  have e1 : (PySem.W.subIn K (.ref S) (.type "BaseException") == some true) = true := by rw [h1] <;> rfl
  have e2 : ((PySem.W.clsIn K S).isSome && PySem.W.typeIn K (.ref S) == some (.type "type")) = true := by
    have h2' : (PySem.W.clsIn K S).isSome = true := h2
    rw [h2', h3] <;> rfl
  show (if (PySem.W.subIn K (.ref S) (.type "BaseException") == some true) = true then (if ((PySem.W.clsIn K S).isSome && PySem.W.typeIn K (.ref S) == some (.type "type")) = true then PySem.W.subIn K (.ref C) (.ref S) else none) else none) = some b
  rw [if_pos e1, if_pos e2]
  exact h4
def SibR (K : PySem.W.Frag) (mg : Str → Option Value) (c : Str) (C : Addr) (ns : List Str) : Prop := ∀ n ∈ ns, ∃ N, mg n = some (.ref N) ∧ PySem.W.exmOne K (.ref C) (.ref N) = some (c == n)
def SibL (K : PySem.W.Frag) (mg : Str → Option Value) (ns cs : List Str) : Prop := ∀ c ∈ cs, ∃ C, mg c = some (.ref C) ∧ SibR K mg c C ns
/-- classes beside each other -/
abbrev Sib (K : PySem.W.Frag) (mg : Str → Option Value) (ns : List Str) : Prop := SibL K mg ns ns
theorem sibr_nil {K : PySem.W.Frag} {mg : Str → Option Value} {c : Str} {C : Addr} : SibR K mg c C [] := fun n h => by cases h
theorem sibr_cons {K : PySem.W.Frag} {mg : Str → Option Value} {c n : Str} {C N : Addr} {b : Bool} {ns : List Str} (h : mg n = some (.ref N)) (e : PySem.W.exmOne K (.ref C) (.ref N) = some b) (hb : (c == n) = b) (r : SibR K mg c C ns) : SibR K mg c C (n :: ns) := fun m hm => by
  rcases List.mem_cons.mp hm with rfl | hm
  · exact ⟨N, h, by rw [hb]; exact e⟩
  · exact r m hm
theorem sib_nil {K : PySem.W.Frag} {mg : Str → Option Value} {ns : List Str} : SibL K mg ns [] := fun n h => by cases h
theorem sib_cons {K : PySem.W.Frag} {mg : Str → Option Value} {c : Str} {C : Addr} {ns cs : List Str} (h : mg c = some (.ref C)) (e : SibR K mg c C ns) (r : SibL K mg ns cs) : SibL K mg ns (c :: cs) := fun m hm => by
  rcases List.mem_cons.mp hm with rfl | hm
  · exact ⟨C, h, e⟩
  · exact r m hm
def subOf (ns : List Str) : Str → Str → Option Bool := fun c n => if ns.contains c then some (c == n) else none
theorem hsub_of {K : PySem.W.Frag} {mg : Str → Option Value} {ns : List Str} {x : Str} {C : Addr} (S : Sib K mg ns) (hm : mg x = some (.ref C)) (hx : ns.contains x = true := by decide) : ∀ c C', mg c = some (.ref C') → ∀ b, subOf ns c x = some b → PySem.W.exmOne K (.ref C') (.ref C) = some b := by
  intro c C' hc b hb
  unfold subOf at hb
  split at hb
  · rename_i hcn
    obtain ⟨D, hD, r⟩ := S c (List.contains_iff_mem.mp hcn)
    obtain ⟨N, hN, e⟩ := r x (List.contains_iff_mem.mp hx)
    rw [hc] at hD
    rw [hm] at hN
    cases hD
    cases hN
    cases hb
    exact e
  · cases hb
/-- the law's own def: from the head to the functional reading -/
theorem law_end {g : Gm} {H : Hp} {a : Addr} {ns : List Int} {m : Fn} {ps : Env} (ho : Only H) (hs : SqL g.K H a (ns.map V.int)) (hm : m [.v (.scr ns)] = .ok (.v (.bl true)) ps) : spM g m [.ref a] H (fun v _ => v = .bl true) fun _ _ _ => False := by
  have hf : SqF g.K H a (ns.map V.int) := by
    rcases hs with (h | ⟨o, h⟩) | h
    · rcases ho a with z | ⟨o, xs, z⟩
      · rw [z] at h; cases h
      · rw [z] at h; cases h
    · exact .inl ⟨o, h⟩
    · exact .inr h
  refine ⟨fun _ => False, [.v (.scr ns)], .v (.scr hf) .nil, fun i j x y b h1 _ _ _ => ?_, fun _ z => z.elim, ?_⟩
  · cases i with
    | zero => cases h1
    | succ i => simp at h1
  · rw [hm]
    intro u Z1 H1 _ _ hr
    cases hr
    rfl
theorem Fun.uniq {K : PySem.W.Frag} {x : Str} {st : Stmt} {f : Addr} {fd fd' : FuncData} (F : Fun K x x st f fd) (F' : Fun K x x st f fd') : fd = fd' := by
  obtain ⟨oc, od, kV, doc, pm, an, cdv, ct, osl, _, lk, _⟩ := F.ex
  obtain ⟨oc', od', kV', doc', pm', an', cdv', ct', osl', _, lk', _⟩ := F'.ex
  rw [lk] at lk'
  cases lk'
  rfl
/-- the law's def, as the head asks it -/
theorem head_fn {P : Program} {w : World} {K : PySem.W.Frag} {mg : Str → Option Value} {k : Nat} {x : Str} {st : Stmt} {m : Fn} {fa : Addr} (hfa : mg x = some (.ref fa)) (D : Dk K mg x st ["script"]) (C : ∀ base : Heap, Cl P w K mg base k x st ["script"] m)
    (hb : ∀ (kV dc pm : Value) (an : Option Addr) (cd ct : Value) (s : Shared) (u : Value), BindsTo s (PySem.W.fnOf x x (defArgs st) (defBody st) (defScope st) .none kV dc pm an cd ct) ⟨[u], []⟩ [("script", u)]) :
    ∃ fd : FuncData, (∀ (s : Shared) (u : Value), BindsTo s fd ⟨[u], []⟩ [("script", u)]) ∧ ∀ base : Heap, K.In base → base.Ns mainGlobals mg → FnOk P w K mg base (CXP P w) k fa fd ["script"] (fun us H Q E => ∀ mg, spM ⟨K, mg⟩ m us H Q E) := by
  obtain ⟨f, fd, F, hm, _⟩ := D.ex
  rw [hfa] at hm
  cases hm
  refine ⟨fd, ?_, fun base _ _ => ?_⟩
  · obtain ⟨oc, od, kV, doc, pm, an, cdv, ct, osl, rfl, _, _⟩ := F.ex
    exact hb kV doc pm an cdv ct
  · obtain ⟨f', fd', F', hm', _, ok⟩ := (C base).ex
    rw [hfa] at hm'
    cases hm'
    cases Fun.uniq F F'
    exact ok.imp fun vs H Q E h => h mg
/-- THE END: a law that holds by its reading -/
theorem law_walk {l : PySem.W.OpenLaw} {q : Program} {loose : List Str} {XP : (Str → Option Value) → Heap → Prop} {YP : World → Heap → Prop} {d : DefRec} {K : Params → PySem.W.Frag} {k : Nat} {m : Fn} (hpr : ∀ ns : List Int, ns.length ≤ 63 → ∃ ps, m [.v (.scr ns)] = .ok (.v (.bl true)) ps) (hn : l.most = some 63) (hdf : d.params.defaults = [])
    (hr : Room k callerA) (hY : ∀ (w : World) (h : Heap), YP w h → (K w.params).In h)
    (F : ∀ (w : World) (mg : Str → Option Value) (fa : Addr) (h : Heap), (K w.params).In h → h.Ns mainGlobals mg → mg d.name = some (.ref fa) → ∃ fd : FuncData, (∀ (s : Shared) (u : Value), BindsTo s fd ⟨[u], []⟩ [("script", u)]) ∧
      ∀ base : Heap, (K w.params).In base → base.Ns mainGlobals mg → FnOk l.prog w (K w.params) mg base (CXP l.prog w) k fa fd ["script"] (fun us H Q E => ∀ mg, spM ⟨K w.params, mg⟩ m us H Q E)) :
    PySem.W.WalkO q loose XP YP l.row.toRowW d [] (fun f vs => PySem.call f vs) :=
  L2.walk_of (n := 63) (k := k) (x := "script") (CX := fun w => CXP l.prog w) (sp := fun w us H Q E => ∀ mg : Str → Option Value, spM ⟨K w.params, mg⟩ m us H Q E) hn (by decide) hdf hr hY F
    (fun w H a ns hl ho hs mg => by
      obtain ⟨ps, e⟩ := hpr ns hl
      exact law_end ho hs e)
    fun w H s e s' h => by
      obtain ⟨_, _, _, _, _, _, _, _, _, _, _, _, z⟩ := h
      exact z.elim
end Z
/-! ZH: reckoning with the readings: rows for simp. -/
namespace Z
open PySem (Str)
/-- a call's end, the parameters' places forgotten -/
inductive Out where
  | ok (r : RV)
  | ex (c : Str) (fs : List (Str × Val))
  | no
def FR.out : FR → Out
  | .ok r _ => .ok r
  | .ex c fs _ => .ex c fs
  | .no => .no
def Out.at : Out → Env → Rs RV
  | .ok r, e => .ok r e
  | .ex c fs, e => .ex c fs e
  | .no, _ => .no
@[simp] theorem out_ok (r : RV) (e : Env) : (FR.ok r e).out = .ok r := rfl
@[simp] theorem out_ex (c : Str) (fs : List (Str × Val)) (e : Env) : (FR.ex c fs e).out = .ex c fs := rfl
@[simp] theorem at_ok (r : RV) (e : Env) : (Out.ok r).at e = .ok r e := rfl
@[simp] theorem at_ex (c : Str) (fs : List (Str × Val)) (e : Env) : (Out.ex c fs).at e = .ex c fs e := rfl
@[simp] theorem at_no (e : Env) : Out.no.at e = .no := rfl
def rvAV : RV → Option AV
  | .v x => some (.v x)
  | .own x => some (.own x)
  | .bor _ => none
/-- nothing of one's own is handed over -/
theorem callR_out (m : Fn) (e : Env) : ∀ {rs : List RV} {as : List AV}, rs.mapM rvAV = some as → callR m rs e = (m as).out.at e := by
  have key : ∀ {rs : List RV} {as : List AV}, rs.mapM rvAV = some as → lent e rs = [] ∧ hands e rs = some as ∧ ∀ ps, backs e rs ps = e := by
    intro rs
    induction rs with
    | nil => intro as h; cases h; exact ⟨rfl, rfl, fun ps => by cases ps <;> rfl⟩
    | cons r rs ih =>
      intro as h
      rw [List.mapM_cons] at h
      cases r with
      | bor i => cases h
      | v x =>
        cases hr : rs.mapM rvAV with
        | none => rw [hr] at h; cases h
        | some bs =>
          rw [hr] at h
          cases h
          obtain ⟨h1, h2, h3⟩ := ih hr
          exact ⟨h1, by rw [hands_cons, h2]; rfl, fun ps => by cases ps with
            | nil => rfl
            | cons p ps => exact h3 ps⟩
      | own x =>
        cases hr : rs.mapM rvAV with
        | none => rw [hr] at h; cases h
        | some bs =>
          rw [hr] at h
          cases h
          obtain ⟨h1, h2, h3⟩ := ih hr
          exact ⟨h1, by rw [hands_cons, h2]; rfl, fun ps => by cases ps with
            | nil => rfl
            | cons p ps => exact h3 ps⟩
  intro rs as h
  obtain ⟨h1, h2, h3⟩ := key h
  unfold callR
  rw [h1, h2]
  show (match m as with | .ok r ps => Rs.ok r (backs e rs ps) | .ex c fs ps => .ex c fs (backs e rs ps) | .no => .no) = _
  cases m as with
  | ok r ps => show Rs.ok r (backs e rs ps) = _; rw [h3]; rfl
  | ex c fs ps => show Rs.ex c fs (backs e rs ps) = _; rw [h3]; rfl
  | no => rfl
section
variable (m : Fn) (e : Env) (a b c d f g : Val)
@[simp] theorem callR_0 : callR m [] e = (m []).out.at e := callR_out m e rfl
@[simp] theorem callR_1 : callR m [.v a] e = (m [.v a]).out.at e := callR_out m e rfl
@[simp] theorem callR_2 : callR m [.v a, .v b] e = (m [.v a, .v b]).out.at e := callR_out m e rfl
@[simp] theorem callR_3 : callR m [.v a, .v b, .v c] e = (m [.v a, .v b, .v c]).out.at e := callR_out m e rfl
@[simp] theorem callR_4 : callR m [.v a, .v b, .v c, .v d] e = (m [.v a, .v b, .v c, .v d]).out.at e := callR_out m e rfl
@[simp] theorem callR_5 : callR m [.v a, .v b, .v c, .v d, .v f] e = (m [.v a, .v b, .v c, .v d, .v f]).out.at e := callR_out m e rfl
@[simp] theorem callR_6 : callR m [.v a, .v b, .v c, .v d, .v f, .v g] e = (m [.v a, .v b, .v c, .v d, .v f, .v g]).out.at e := callR_out m e rfl
@[simp] theorem callR_o : callR m [.own a] e = (m [.own a]).out.at e := callR_out m e rfl
@[simp] theorem callR_oo : callR m [.own a, .own b] e = (m [.own a, .own b]).out.at e := callR_out m e rfl
@[simp] theorem callR_ov : callR m [.own a, .v b] e = (m [.own a, .v b]).out.at e := callR_out m e rfl
@[simp] theorem callR_vo : callR m [.v a, .own b] e = (m [.v a, .own b]).out.at e := callR_out m e rfl
end
/-- a list of one's own is handed over, first -/
theorem callR_b1 {m : Fn} {e : Env} {i : Nat} {p : Bool} {x : Val} {rs : List RV} {as : List AV} (he : eget e i = .own p x) (hr : rs.mapM rvAV = some as) : callR m (.bor i :: rs) e = match m (.own x :: as) with
    | .ok r (s :: ps) => .ok r (eput e i (back (.own p x) s))
    | .ok r [] => .ok r e
    | .ex c fs (s :: ps) => .ex c fs (eput e i (back (.own p x) s))
    | .ex c fs [] => .ex c fs e
    | .no => .no := by
  have key : ∀ (e : Env) {rs : List RV} {as : List AV}, rs.mapM rvAV = some as → lent e rs = [] ∧ hands e rs = some as ∧ ∀ ps, backs e rs ps = e := by
    intro e rs
    induction rs with
    | nil => intro as h; cases h; exact ⟨rfl, rfl, fun ps => by cases ps <;> rfl⟩
    | cons r rs ih =>
      intro as h
      rw [List.mapM_cons] at h
      cases r with
      | bor i => cases h
      | v x =>
        cases hr : rs.mapM rvAV with
        | none => rw [hr] at h; cases h
        | some bs =>
          rw [hr] at h
          cases h
          obtain ⟨h1, h2, h3⟩ := ih hr
          exact ⟨h1, by rw [hands_cons, h2]; rfl, fun ps => by cases ps with
            | nil => rfl
            | cons p ps => exact h3 ps⟩
      | own x =>
        cases hr : rs.mapM rvAV with
        | none => rw [hr] at h; cases h
        | some bs =>
          rw [hr] at h
          cases h
          obtain ⟨h1, h2, h3⟩ := ih hr
          exact ⟨h1, by rw [hands_cons, h2]; rfl, fun ps => by cases ps with
            | nil => rfl
            | cons p ps => exact h3 ps⟩
  obtain ⟨h1, h2, _⟩ := key e hr
  unfold callR
  rw [lent_bor, he, h1, hands_cons, hand_bor, he, h2]
  show (match m (.own x :: as) with | .ok r ps => Rs.ok r (backs e (.bor i :: rs) ps) | .ex c fs ps => .ex c fs (backs e (.bor i :: rs) ps) | .no => .no) = _
  cases m (.own x :: as) with
  | ok r ps => cases ps with
    | nil => rfl
    | cons s ps => show Rs.ok r _ = _; rw [backs_bor, (key _ hr).2.2, he]
  | ex c fs ps => cases ps with
    | nil => rfl
    | cons s ps => show Rs.ex c fs _ = _; rw [backs_bor, (key _ hr).2.2, he]
  | no => rfl

/-! ### rows -/
@[simp] theorem eV_ap (i : Nat) (e : Env) : eV i e = match eget e i with | .v x => .ok (.v x) e | .own _ _ => .ok (.bor i) e | .pf _ => .ok (.bor i) e | _ => .no := rfl
@[simp] theorem eC_ap (x : Val) (e : Env) : eC x e = .ok (.v x) e := rfl
@[simp] theorem eOp_ap (f : Val → Val → Option RV) (a b : E) (e : Env) : eOp f a b e = (a e).bind fun r e1 => (b e1).bind fun s e2 => (opt (peek e2 r) e2).bind fun x _ => (opt (peek e2 s) e2).bind fun y _ => opt (f x y) e2 := rfl
@[simp] theorem eUn_ap (f : Val → Option RV) (a : E) (e : Env) : eUn f a e = (a e).bind fun r e1 => (opt (peek e1 r) e1).bind fun x _ => opt (f x) e1 := rfl
@[simp] theorem eIf_ap (t : T) (a b : E) (e : Env) : eIf t a b e = (t e).bind fun k e1 => if k then a e1 else b e1 := rfl
@[simp] theorem asNil_ap (e : Env) : asNil e = .ok [] e := rfl
@[simp] theorem asCons_ap (a : E) (r : As) (e : Env) : asCons a r e = (a e).bind fun x e1 => (r e1).bind fun xs e2 => .ok (x :: xs) e2 := rfl
@[simp] theorem eTup_ap (a : As) (e : Env) : eTup a e = (a e).bind fun rs e1 => (escs e1 rs).bind fun xs e2 => if xs.length ≤ sizeMax then .ok (.v (.tup xs)) e2 else .no := rfl
@[simp] theorem eLst_ap (a : As) (e : Env) : eLst a e = (a e).bind fun rs e1 => (escs e1 rs).bind fun xs e2 => if xs.length ≤ sizeMax then .ok (.own (.lst xs)) e2 else .no := rfl
@[simp] theorem eB_ap (f : List Val → Option RV) (a : As) (e : Env) : eB f a e = (a e).bind fun rs e1 => (opt (peeks e1 rs) e1).bind fun xs _ => opt (f xs) e1 := rfl
@[simp] theorem eCall_ap (m : Fn) (a : As) (e : Env) : eCall m a e = (a e).bind fun rs e1 => callR m rs e1 := rfl
@[simp] theorem eCallK_ap (m : Fn) (p : List Nat) (a : As) (e : Env) : eCallK m p a e = (a e).bind fun rs e1 => callR m (p.map fun i => rs.getD i (.v .non)) e1 := rfl
@[simp] theorem eAnd_ap (a b : E) (e : Env) : eAnd a b e = (a e).bind fun r e1 => match r with | .v (.bl true) => b e1 | .v (.bl false) => .ok (.v (.bl false)) e1 | _ => .no := rfl
@[simp] theorem eOr_ap (a b : E) (e : Env) : eOr a b e = (a e).bind fun r e1 => match r with | .v (.bl true) => .ok (.v (.bl true)) e1 | .v (.bl false) => b e1 | _ => .no := rfl
@[simp] theorem eNot_ap (a : E) (e : Env) : eNot a e = (a e).bind fun r e1 => match r with | .v (.bl k) => .ok (.v (.bl (!k))) e1 | _ => .no := rfl
@[simp] theorem eChain_ap (f g : Val → Val → Option RV) (a b c : E) (e : Env) : eChain f g a b c e = (a e).bind fun r e1 => (b e1).bind fun s e2 => (opt (peek e2 r) e2).bind fun x _ => (opt (peek e2 s) e2).bind fun y _ => (opt (f x y) e2).bind fun z _ =>
    match z with
    | .v (.bl true) => (c e2).bind fun t e3 => (opt (peek e3 s) e3).bind fun y _ => (opt (peek e3 t) e3).bind fun w _ => opt (g y w) e3
    | .v (.bl false) => .ok (.v (.bl false)) e2
    | _ => .no := rfl
@[simp] theorem eSl_ap (f : Val → Option Int → Option Int → Option RV) (a : E) (lo hi : Option E) (e : Env) : eSl f a lo hi e = (a e).bind fun r e1 => (oInt lo e1).bind fun l e2 => (oInt hi e2).bind fun u e3 => (opt (peek e3 r) e3).bind fun x _ => opt (f x l u) e3 := rfl
@[simp] theorem tE_ap (a : E) (e : Env) : tE a e = (a e).bind fun r e1 => (opt (peek e1 r) e1).bind fun x _ => opt (truth x) e1 := rfl
@[simp] theorem tAnd_ap (a b : T) (e : Env) : tAnd a b e = (a e).bind fun k e1 => if k then b e1 else .ok false e1 := rfl
@[simp] theorem tOr_ap (a b : T) (e : Env) : tOr a b e = (a e).bind fun k e1 => if k then .ok true e1 else b e1 := rfl
@[simp] theorem tNot_ap (a : T) (e : Env) : tNot a e = (a e).bind fun k e1 => .ok (!k) e1 := rfl
@[simp] theorem tYes_ap (e : Env) : tYes e = .ok true e := rfl
@[simp] theorem sNil_ap (e : Env) : sNil e = .ok .nx e := rfl
@[simp] theorem sPass_ap (e : Env) : sPass e = .ok .nx e := rfl
@[simp] theorem sBrk_ap (e : Env) : sBrk e = .ok .bk e := rfl
@[simp] theorem sCon_ap (e : Env) : sCon e = .ok .ct e := rfl
@[simp] theorem sSeq_ap (a b : S) (e : Env) : sSeq a b e = (a e).bind fun f e1 => match f with | .nx => b e1 | f => .ok f e1 := rfl
@[simp] theorem sSet_ap (i : Nat) (a : E) (e : Env) : sSet i a e = (a e).bind fun r e1 => (sto e1 i r).bind fun _ e2 => .ok .nx e2 := rfl
@[simp] theorem sExp_ap (a : E) (e : Env) : sExp a e = (a e).bind fun _ e1 => .ok .nx e1 := rfl
@[simp] theorem sRet_ap (a : E) (e : Env) : sRet a e = (a e).bind fun r e1 => .ok (.rt r) e1 := rfl
@[simp] theorem sRetN_ap (e : Env) : sRetN e = .ok (.rt (.v .non)) e := rfl
@[simp] theorem sIf_ap (t : T) (a b : S) (e : Env) : sIf t a b e = (t e).bind fun k e1 => if k then a e1 else b e1 := rfl
@[simp] theorem sPar_ap (is : List Nat) (a : As) (e : Env) : sPar is a e = (a e).bind fun rs e1 => (settles e1 rs).bind fun rs' e2 => (stos e2 is rs').bind fun _ e3 => .ok .nx e3 := rfl
@[simp] theorem sFor_ap (s : Src) (t : Tg) (b : S) (e : Env) : sFor s t b e = (s e).bind fun xs e1 => forL t b xs e1 := rfl
@[simp] theorem sUnp_ap (t : Tg) (a : E) (e : Env) : sUnp t a e = (a e).bind fun r e1 => match r with | .v x => (match t x e1 with | some e2 => .ok .nx e2 | none => .no) | _ => .no := by
  rfl
@[simp] theorem sSetIx_ap (j : Nat) (ix a : E) (e : Env) : sSetIx j ix a e = (a e).bind fun r e1 => if isOwnL (eget e1 j) then (ix e1).bind fun q e2 => (esc e2 r).bind fun x e3 => match eget e3 j, q with
  | .own p (.lst xs), .v (.int i) => match setAt xs i x with
    | some ys => .ok .nx (eput e3 j (.own p (.lst ys)))
    | none => .no
  | _, _ => .no
  else .no := rfl
@[simp] theorem sRaise_ap (cn fld : Str) (a : E) (e : Env) : sRaise cn fld a e = (a e).bind fun r e1 => (esc e1 r).bind fun x e2 => .ex cn [(fld, x)] e2 := rfl
@[simp] theorem iSeq_ap (a : E) (e : Env) : iSeq a e = (a e).bind fun r e1 => (esc e1 r).bind fun x e2 => match x with | .lst xs => .ok xs e2 | .tup xs => .ok xs e2 | _ => .no := rfl
def pok : Slot → Bool
  | .own true _ => false
  | .pf _ => false
  | .exn _ _ => false
  | _ => true
@[simp] theorem pok_emp : pok .emp = true := rfl
@[simp] theorem pok_v (x : Val) : pok (.v x) = true := rfl
@[simp] theorem pok_own (x : Val) : pok (.own false x) = true := rfl
@[simp] theorem put_ap (e : Env) (i : Nat) (s : Slot) : put e i s = if i < e.length ∧ pok (eget e i) = true then .ok () (eput e i s) else .no := by
  unfold put
  by_cases h : i < e.length
  · rw [if_pos h]
    cases hs : eget e i with
    | emp => rw [if_pos ⟨h, rfl⟩]
    | v x => rw [if_pos ⟨h, rfl⟩]
    | own p x =>
      cases p
      · rw [if_pos ⟨h, rfl⟩]
      · rw [if_neg (fun z => by cases z.2)]
    | pf x => rw [if_neg (fun z => by cases z.2)]
    | exn c fs => rw [if_neg (fun z => by cases z.2)]
  · rw [if_neg h, if_neg fun z => h z.1]
@[simp] theorem sto_v (e : Env) (i : Nat) (x : Val) : sto e i (.v x) = put e i (.v x) := rfl
@[simp] theorem sto_own (e : Env) (i : Nat) (x : Val) : sto e i (.own x) = put e i (.own false x) := rfl
@[simp] theorem sto_bor (e : Env) (i j : Nat) : sto e i (.bor j) = (esc e (.bor j)).bind fun x e1 => put e1 i (.v x) := rfl
@[simp] theorem fin_nx (np : Nat) (e : Env) : fin np (.ok .nx e) = .ok (.v .non) (e.take np) := rfl
@[simp] theorem fin_v (np : Nat) (x : Val) (e : Env) : fin np (.ok (.rt (.v x)) e) = .ok (.v x) (e.take np) := rfl
@[simp] theorem fin_own (np : Nat) (x : Val) (e : Env) : fin np (.ok (.rt (.own x)) e) = .ok (.own x) (e.take np) := rfl
@[simp] theorem fin_bor (np : Nat) (i : Nat) (e : Env) : fin np (.ok (.rt (.bor i)) e) = match eget e i with
    | .own false x => .ok (.own x) (e.take np)
    | .own true x => .ok (.v x) ((eput e i (.pf x)).take np)
    | .pf x => .ok (.v x) (e.take np)
    | .v x => .ok (.v x) (e.take np)
    | _ => .no := rfl
@[simp] theorem fin_ex (np : Nat) (c : Str) (fs : List (Str × Val)) (e : Env) : fin np (.ex c fs e) = .ex c fs (e.take np) := rfl
theorem mkF_ap {np ns : Nat} {b : S} {as : List AV} (h : as.length = np) : mkF np ns b as = fin np (b (as.map AV.slot ++ List.replicate (ns - np) .emp)) := by
  unfold mkF; rw [if_pos h]
@[simp] theorem mkF_0 (ns : Nat) (t : S) : mkF 0 ns t [] = fin 0 (t (List.replicate (ns - 0) .emp)) := rfl
@[simp] theorem mkF_1 (ns : Nat) (t : S) (a : AV) : mkF 1 ns t [a] = fin 1 (t (a.slot :: List.replicate (ns - 1) .emp)) := rfl
@[simp] theorem mkF_2 (ns : Nat) (t : S) (a b : AV) : mkF 2 ns t [a, b] = fin 2 (t (a.slot :: b.slot :: List.replicate (ns - 2) .emp)) := rfl
@[simp] theorem mkF_3 (ns : Nat) (t : S) (a b c : AV) : mkF 3 ns t [a, b, c] = fin 3 (t (a.slot :: b.slot :: c.slot :: List.replicate (ns - 3) .emp)) := rfl
@[simp] theorem mkF_4 (ns : Nat) (t : S) (a b c d : AV) : mkF 4 ns t [a, b, c, d] = fin 4 (t (a.slot :: b.slot :: c.slot :: d.slot :: List.replicate (ns - 4) .emp)) := rfl
@[simp] theorem mkF_5 (ns : Nat) (t : S) (a b c d f : AV) : mkF 5 ns t [a, b, c, d, f] = fin 5 (t (a.slot :: b.slot :: c.slot :: d.slot :: f.slot :: List.replicate (ns - 5) .emp)) := rfl
@[simp] theorem mkF_6 (ns : Nat) (t : S) (a b c d f g : AV) : mkF 6 ns t [a, b, c, d, f, g] = fin 6 (t (a.slot :: b.slot :: c.slot :: d.slot :: f.slot :: g.slot :: List.replicate (ns - 6) .emp)) := rfl
@[simp] theorem mkF_7 (ns : Nat) (t : S) (a b c d f g h : AV) : mkF 7 ns t [a, b, c, d, f, g, h] = fin 7 (t (a.slot :: b.slot :: c.slot :: d.slot :: f.slot :: g.slot :: h.slot :: List.replicate (ns - 7) .emp)) := rfl
theorem sizeMax_le {n : Nat} (h : n ≤ 16777216) : n ≤ sizeMax := h
@[simp] theorem sizeMax_val : sizeMax = 16777216 := rfl
/-! ### operators within bounds -/
theorem log2_le {i : Int} {n : Nat} (h : i.natAbs < 2 ^ (n + 1)) : i.natAbs.log2 ≤ n := by
  by_cases z : i.natAbs = 0
  · rw [z]; simp
  · have := (Nat.log2_lt z).mpr h
    omega
theorem fMul_ok {i j : Int} (h1 : -1000000000000000000000000000000 ≤ i) (h2 : i ≤ 1000000000000000000000000000000) (h3 : -1000000000000000000000000000000 ≤ j) (h4 : j ≤ 1000000000000000000000000000000) : fMul (.int i) (.int j) = some (.v (.int (i * j))) := by
  have a : i.natAbs.log2 ≤ 199 := log2_le (by omega)
  have b : j.natAbs.log2 ≤ 199 := log2_le (by omega)
  rw [fMul_int, if_pos (by omega)]
theorem fDiv_ok {i j : Int} (h1 : 0 < j) (h2 : j ≤ 1000000000000000000000000000000) : fDiv (.int i) (.int j) = some (.v (.int (i / j))) := by
  have b : j.natAbs.log2 ≤ 199 := log2_le (by omega)
  rw [fDiv_int, if_pos ⟨h1, by omega⟩]
theorem fMod_ok {i j : Int} (h1 : 0 < j) : fMod (.int i) (.int j) = some (.v (.int (i % j))) := by
  rw [fMod_int, if_pos h1]
theorem fPow_ok {i j : Int} (h1 : 0 ≤ j) (h2 : j ≤ 1000000) (h3 : -18446744073709551616 < i) (h4 : i < 18446744073709551616) : fPow (.int i) (.int j) = some (.v (.int (i ^ j.toNat))) := by
  rw [fPow_int, if_pos ⟨h1, h2, by omega⟩]
end Z
/-! ZI: loops of the readings, reckoned with. -/
namespace Z
open PySem (Str)
/-- a loop that runs through -/
theorem forL_run {t : Tg} {b : S} (I : Nat → Env → Prop) : ∀ {xs : List Val} {n : Nat} {e : Env}, I n e → (∀ i x e, xs[i]? = some x → I (n + i) e → ∃ e1 e2, t x e = some e1 ∧ (b e1 = .ok .nx e2 ∨ b e1 = .ok .ct e2) ∧ I (n + i + 1) e2) → ∃ e', forL t b xs e = .ok .nx e' ∧ I (n + xs.length) e'
  | [], n, e, h, _ => ⟨e, rfl, h⟩
  | x :: xs, n, e, h, hs => by
    obtain ⟨e1, e2, h1, h2, h3⟩ := hs 0 x e rfl h
    obtain ⟨e', h4, h5⟩ := forL_run (xs := xs) (n := n + 1) (e := e2) I h3 fun i y e hy hi => by
      have := hs (i + 1) y e (by simpa using hy) (by rw [show n + (i + 1) = n + 1 + i by omega]; exact hi)
      rwa [show n + (i + 1) + 1 = n + 1 + i + 1 by omega] at this
    refine ⟨e', ?_, by rw [List.length_cons, show n + (xs.length + 1) = n + 1 + xs.length by omega]; exact h5⟩
    unfold forL
    simp only [h1]
    rcases h2 with h2 | h2 <;> rw [h2] <;> exact h4
theorem for_run {t : Tg} {b : S} {xs : List Val} {e : Env} (I : Nat → Env → Prop) (h0 : I 0 e) (hs : ∀ i x e, xs[i]? = some x → I i e → ∃ e1 e2, t x e = some e1 ∧ (b e1 = .ok .nx e2 ∨ b e1 = .ok .ct e2) ∧ I (i + 1) e2) : ∃ e', forL t b xs e = .ok .nx e' ∧ I xs.length e' := by
  have := forL_run (n := 0) I h0 fun i x e h k => by
    have := hs i x e h (by simpa using k)
    simpa using this
  simpa using this
theorem rangeV_len (lo : Int) (n : Nat) : (rangeV lo n).length = n := by simp [rangeV]
theorem rangeV_at {lo : Int} {n i : Nat} {x : Val} (h : (rangeV lo n)[i]? = some x) : i < n ∧ x = .int (lo + i) := rangeV_get h
/-- .. over a range -/
theorem range_run {t : Tg} {b : S} {lo : Int} {n : Nat} {e : Env} (I : Nat → Env → Prop) (h0 : I 0 e) (hs : ∀ i e, i < n → I i e → ∃ e1 e2, t (.int (lo + i)) e = some e1 ∧ (b e1 = .ok .nx e2 ∨ b e1 = .ok .ct e2) ∧ I (i + 1) e2) : ∃ e', forL t b (rangeV lo n) e = .ok .nx e' ∧ I n e' := by
  have := for_run (t := t) (b := b) (xs := rangeV lo n) I h0 fun i x e h k => by
    obtain ⟨hi, rfl⟩ := rangeV_at h
    exact hs i e hi k
  rwa [rangeV_len] at this
/-- a comprehension that changes nothing -/
theorem compL_pure {vs : List Nat} {t : Tg} {c : T} {a : E} {e : Env} (p : Val → Bool) (g : Val → Val) : ∀ {xs : List Val}, (∀ x ∈ xs, ∃ e1, t x e = some e1 ∧ c e1 = .ok (p x) e1 ∧ (p x = true → ∃ r, a e1 = .ok r e1 ∧ esc e1 r = .ok (g x) e1) ∧ clr e1 vs = true ∧ wip e1 vs = e) → compL vs t c a xs e = .ok ((xs.filter p).map g) e
  | [], _ => rfl
  | x :: xs, h => by
    obtain ⟨e1, h1, h2, h3, h4, h5⟩ := h x List.mem_cons_self
    have ih := compL_pure (vs := vs) (t := t) (c := c) (a := a) (e := e) p g (xs := xs) fun y hy => h y (List.mem_cons_of_mem _ hy)
    unfold compL
    rw [h1]
    dsimp only
    rw [h2, Rs.bind_ok]
    cases hp : p x with
    | false =>
      rw [List.filter_cons_of_neg (by rw [hp]; simp), h4, h5, if_neg (by simp), if_pos rfl]
      exact ih
    | true =>
      obtain ⟨r, h6, h7⟩ := h3 hp
      rw [List.filter_cons_of_pos (by rw [hp]), if_pos rfl, h6, Rs.bind_ok, h7, Rs.bind_ok, h4, if_pos rfl, h5, ih]
      rfl
theorem compL_none {vs : List Nat} {t : Tg} {c : T} {a : E} {e : Env} {xs : List Val} (h : ∀ x ∈ xs, ∃ e1, t x e = some e1 ∧ c e1 = .ok false e1 ∧ clr e1 vs = true ∧ wip e1 vs = e) : compL vs t c a xs e = .ok [] e := by
  have := compL_pure (vs := vs) (t := t) (c := c) (a := a) (e := e) (fun _ => false) id (xs := xs) fun x hx => by
    obtain ⟨e1, h1, h2, h3, h4⟩ := h x hx
    exact ⟨e1, h1, h2, (fun z => nomatch z), h3, h4⟩
  rw [this]
  have : xs.filter (fun _ => false) = [] := List.filter_eq_nil_iff.mpr fun _ _ z => nomatch z
  rw [this]
  rfl
theorem compL_all {vs : List Nat} {t : Tg} {c : T} {a : E} {e : Env} (g : Val → Val) {xs : List Val} (h : ∀ x ∈ xs, ∃ e1, t x e = some e1 ∧ c e1 = .ok true e1 ∧ (∃ r, a e1 = .ok r e1 ∧ esc e1 r = .ok (g x) e1) ∧ clr e1 vs = true ∧ wip e1 vs = e) : compL vs t c a xs e = .ok (xs.map g) e := by
  have := compL_pure (vs := vs) (t := t) (c := c) (a := a) (e := e) (fun _ => true) g (xs := xs) fun x hx => by
    obtain ⟨e1, h1, h2, h5, h3, h4⟩ := h x hx
    exact ⟨e1, h1, h2, (fun _ => h5), h3, h4⟩
  rw [this]
  have : xs.filter (fun _ => true) = xs := List.filter_eq_self.mpr fun _ _ => rfl
  rw [this]
/-- .. that keeps what it runs over in hand: the frame goes along -/
theorem compL_run {vs : List Nat} {t : Tg} {c : T} {a : E} (I : Nat → List Val → Env → Prop) : ∀ {xs : List Val} {n : Nat} {ys : List Val} {e : Env}, I n ys e →
    (∀ i x zs e, xs[i]? = some x → I (n + i) zs e → ∃ e1 e2 k, t x e = some e1 ∧ c e1 = .ok k e2 ∧ (k = false → clr e2 vs = true ∧ I (n + i + 1) zs (wip e2 vs)) ∧ (k = true → ∃ r e3 y e4, a e2 = .ok r e3 ∧ esc e3 r = .ok y e4 ∧ clr e4 vs = true ∧ I (n + i + 1) (zs ++ [y]) (wip e4 vs))) →
    ∃ ws e', compL vs t c a xs e = .ok ws e' ∧ I (n + xs.length) (ys ++ ws) e'
  | [], n, ys, e, h, _ => ⟨[], e, rfl, by simpa using h⟩
  | x :: xs, n, ys, e, h, hs => by
    obtain ⟨e1, e2, k, h1, h2, h3, h4⟩ := hs 0 x ys e rfl h
    have next : ∀ zs e2, I (n + 0 + 1) zs e2 → ∃ ws e', compL vs t c a xs e2 = .ok ws e' ∧ I (n + (x :: xs).length) (zs ++ ws) e' := fun zs e2 hz => by
      obtain ⟨ws, e', h5, h6⟩ := compL_run (xs := xs) (n := n + 1) (ys := zs) (e := e2) I hz fun i y zs e hy hi => by
        have := hs (i + 1) y zs e (by simpa using hy) (by rw [show n + (i + 1) = n + 1 + i by omega]; exact hi)
        rwa [show n + (i + 1) + 1 = n + 1 + i + 1 by omega] at this
      exact ⟨ws, e', h5, by rw [List.length_cons, show n + (xs.length + 1) = n + 1 + xs.length by omega]; exact h6⟩
    cases k with
    | false =>
      obtain ⟨h5, h6⟩ := h3 rfl
      obtain ⟨ws, e', h7, h8⟩ := next _ _ h6
      refine ⟨ws, e', ?_, h8⟩
      unfold compL
      rw [h1]
      dsimp only
      rw [h2, Rs.bind_ok, if_neg (by simp), h5, if_pos rfl]
      exact h7
    | true =>
      obtain ⟨r, e3, y, e4, h5, h6, h7, h8⟩ := h4 rfl
      obtain ⟨ws, e', h9, h10⟩ := next _ _ h8
      refine ⟨y :: ws, e', ?_, by rw [List.append_cons]; exact h10⟩
      unfold compL
      rw [h1]
      dsimp only
      rw [h2, Rs.bind_ok, if_pos rfl, h5, Rs.bind_ok, h6, Rs.bind_ok, h7, if_pos rfl, h9]
      rfl
@[simp] theorem fEq_int (i j : Int) : fEq (.int i) (.int j) = some (.v (.bl (decide (i = j)))) := by
  unfold fEq
  have : (vok 60 (.int i) && vok 60 (.int j)) = true := rfl
  rw [if_pos this]
  show some (RV.v (Val.bl (i == j))) = _
  rfl
@[simp] theorem fNe_int (i j : Int) : fNe (.int i) (.int j) = some (.v (.bl (decide (i ≠ j)))) := by
  unfold fNe
  have : (vok 60 (.int i) && vok 60 (.int j)) = true := rfl
  rw [if_pos this]
  show some (RV.v (Val.bl (!(i == j)))) = _
  by_cases h : i = j
  · subst h; simp
  · simp [h]
@[simp] theorem fEq_bl (a b : Bool) : fEq (.bl a) (.bl b) = some (.v (.bl (a == b))) := by
  unfold fEq
  have : (vok 60 (.bl a) && vok 60 (.bl b)) = true := rfl
  rw [if_pos this]
  cases a <;> cases b <;> rfl
@[simp] theorem fNe_bl (a b : Bool) : fNe (.bl a) (.bl b) = some (.v (.bl (a != b))) := by
  unfold fNe
  have : (vok 60 (.bl a) && vok 60 (.bl b)) = true := rfl
  rw [if_pos this]
  cases a <;> cases b <;> rfl
@[simp] theorem tgN_v (i : Nat) (x : Val) (e : Env) : tgN i x e = if i < e.length ∧ pok (eget e i) = true then some (eput e i (.v x)) else none := by
  unfold tgN
  rw [sto_v, put_ap]
  split <;> rfl
def inR (i : Int) : Bool := decide (i.natAbs < 4611686018427387904)
theorem inR_of {i : Int} (h1 : -1000000000000 ≤ i) (h2 : i ≤ 1000000000000) : inR i = true := decide_eq_true (by omega)
def rng1 : RV → Env → Rs (List Val)
  | .v (.int j), e => if inR j = true then .ok (rangeV 0 j.toNat) e else .no
  | _, _ => .no
def rng2 : RV → RV → Env → Rs (List Val)
  | .v (.int i), .v (.int j), e => if inR i = true ∧ inR j = true then .ok (rangeV i (j - i).toNat) e else .no
  | _, _, _ => .no
theorem rng1_int {j : Int} (e : Env) (h : inR j = true) : rng1 (.v (.int j)) e = .ok (rangeV 0 j.toNat) e := by
  show (if inR j = true then Rs.ok (rangeV 0 j.toNat) e else Rs.no) = _
  rw [if_pos h]
theorem rng2_int {i j : Int} (e : Env) (h : inR i = true) (h2 : inR j = true) : rng2 (.v (.int i)) (.v (.int j)) e = .ok (rangeV i (j - i).toNat) e := by
  show (if inR i = true ∧ inR j = true then Rs.ok (rangeV i (j - i).toNat) e else Rs.no) = _
  rw [if_pos ⟨h, h2⟩]
theorem inR_iff (i : Int) : inR i = true ↔ i.natAbs < 4611686018427387904 := by
  unfold inR
  rw [decide_eq_true_eq]
@[simp] theorem iRange1_ap (a : E) (e : Env) : iRange1 a e = (a e).bind fun r e1 => rng1 r e1 := by
  unfold iRange1
  congr 1
  funext r e1
  cases r with
  | own x => rfl
  | bor i => rfl
  | v x =>
    cases x with
    | int j =>
      show _ = (if inR j = true then Rs.ok (rangeV 0 j.toNat) e1 else Rs.no)
      dsimp only
      by_cases h : inR j = true
      · rw [if_pos h, if_pos ((inR_iff j).mp h)]
      · rw [if_neg h, if_neg fun z => h ((inR_iff j).mpr z)]
    | _ => rfl
@[simp] theorem iRange2_ap (a b : E) (e : Env) : iRange2 a b e = (a e).bind fun r e1 => (b e1).bind fun s e2 => rng2 r s e2 := by
  unfold iRange2
  congr 1
  funext r e1
  congr 1
  funext s e2
  cases r with
  | own x => rfl
  | bor i => rfl
  | v x =>
    cases x with
    | int i =>
      cases s with
      | own x => rfl
      | bor i => rfl
      | v y =>
        cases y with
        | int j =>
          show _ = (if inR i = true ∧ inR j = true then Rs.ok (rangeV i (j - i).toNat) e2 else Rs.no)
          dsimp only
          by_cases h : inR i = true ∧ inR j = true
          · rw [if_pos h, if_pos ⟨(inR_iff i).mp h.1, (inR_iff j).mp h.2⟩]
          · rw [if_neg h, if_neg fun z => h ⟨(inR_iff i).mpr z.1, (inR_iff j).mpr z.2⟩]
        | _ => rfl
    | _ => rfl
/-! ### errors -/
def tryR (sub : Str → Str → Option Bool) (hs : List (Str × Nat × S)) : Rs Fl → Rs Fl
  | .ex c fs e => handle sub hs c fs e
  | r => r
@[simp] theorem tryR_ok (sub : Str → Str → Option Bool) (hs : List (Str × Nat × S)) (f : Fl) (e : Env) : tryR sub hs (.ok f e) = .ok f e := rfl
@[simp] theorem tryR_ex (sub : Str → Str → Option Bool) (hs : List (Str × Nat × S)) (c : Str) (fs : List (Str × Val)) (e : Env) : tryR sub hs (.ex c fs e) = handle sub hs c fs e := rfl
@[simp] theorem sTry_ap (sub : Str → Str → Option Bool) (b : S) (hs : List (Str × Nat × S)) (e : Env) : sTry sub b hs e = tryR sub hs (b e) := by
  unfold sTry
  cases b e <;> rfl
@[simp] theorem handle_nil (sub : Str → Str → Option Bool) (c : Str) (fs : List (Str × Val)) (e : Env) : handle sub [] c fs e = .ex c fs e := rfl
theorem handle_t {sub : Str → Str → Option Bool} {n : Str} {i : Nat} {s : S} {r : List (Str × Nat × S)} {c : Str} {fs : List (Str × Val)} {e : Env} (h : sub c n = some true) (he : eget e i = .emp) (hi : i < e.length) : handle sub ((n, i, s) :: r) c fs e = leaveS i (s (eput e i (.exn c fs))) := by
  unfold handle
  rw [h]
  dsimp only
  rw [he]
  dsimp only
  rw [if_pos hi]
theorem handle_f {sub : Str → Str → Option Bool} {n : Str} {i : Nat} {s : S} {r : List (Str × Nat × S)} {c : Str} {fs : List (Str × Val)} {e : Env} (h : sub c n = some false) : handle sub ((n, i, s) :: r) c fs e = handle sub r c fs e := by
  conv => lhs; unfold handle
  rw [h]
@[simp] theorem eExn_ap (i : Nat) (cn fld : Str) (e : Env) : eExn i cn fld e = match eget e i with | .exn c [(f, x)] => if c = cn ∧ f = fld then .ok (.v x) e else .no | _ => .no := rfl
@[simp] theorem eComp_ap (s : Src) (vs : List Nat) (t : Tg) (c : T) (a : E) (e : Env) : eComp s vs t c a e = (s e).bind fun xs e1 => if clr e1 vs && decide (xs.length ≤ sizeMax) then match compL vs t c a xs (wip e1 vs) with
    | .ok ys e2 => .ok (.own (.lst ys)) (unwip e1 e2 vs)
    | _ => .no
  else .no := rfl
@[simp] theorem rangeV_length (lo : Int) (n : Nat) : (rangeV lo n).length = n := rangeV_len lo n
theorem mem_rangeV {lo : Int} {n : Nat} {x : Val} (h : x ∈ rangeV lo n) : ∃ i, i < n ∧ x = .int (lo + i) := by
  unfold rangeV at h
  obtain ⟨i, hi, rfl⟩ := List.mem_map.mp h
  exact ⟨i, List.mem_range.mp hi, rfl⟩
@[simp] theorem fIsi_non (T : Bt) : fIsi [T] .non = some (.v (.bl (isB T .non))) := by simp [fIsi, btOf]
@[simp] theorem fIsi_bl (T : Bt) (b : Bool) : fIsi [T] (.bl b) = some (.v (.bl (isB T .bl))) := by simp [fIsi, btOf]
@[simp] theorem fIsi_int (T : Bt) (i : Int) : fIsi [T] (.int i) = some (.v (.bl (isB T .int))) := by simp [fIsi, btOf]
@[simp] theorem fIsi_str (T : Bt) (s : Str) : fIsi [T] (.str s) = some (.v (.bl (isB T .str))) := by simp [fIsi, btOf]
@[simp] theorem fIsi_tup (T : Bt) (xs : List Val) : fIsi [T] (.tup xs) = some (.v (.bl (isB T .tup))) := by simp [fIsi, btOf]
@[simp] theorem fIsi_lst (T : Bt) (xs : List Val) : fIsi [T] (.lst xs) = some (.v (.bl (isB T .lst))) := by simp [fIsi, btOf]
@[simp] theorem isB_ii : isB .int .int = true := rfl
@[simp] theorem isB_ib : isB .int .bl = true := rfl
@[simp] theorem isB_in : isB .int .non = false := rfl
@[simp] theorem isB_is : isB .int .str = false := rfl
@[simp] theorem isB_it : isB .int .tup = false := rfl
@[simp] theorem isB_il : isB .int .lst = false := rfl
@[simp] theorem isB_b (t : Bt) : isB .bl t = decide (t = .bl) := by cases t <;> rfl
@[simp] theorem isB_s (t : Bt) : isB .str t = decide (t = .str) := by cases t <;> rfl
@[simp] theorem isB_t (t : Bt) : isB .tup t = decide (t = .tup) := by cases t <;> rfl
@[simp] theorem isB_l (t : Bt) : isB .lst t = decide (t = .lst) := by cases t <;> rfl
/-- fractions in lowest terms -/
theorem low_uniq {a b c d : Nat} (hb : 0 < b) (hd : 0 < d) (h : a * d = c * b) : a / a.gcd b = c / c.gcd d ∧ b / a.gcd b = d / c.gcd d := by
  have g1 : 0 < a.gcd b := Nat.gcd_pos_of_pos_right _ hb
  have g2 : 0 < c.gcd d := Nat.gcd_pos_of_pos_right _ hd
  have co1 := Nat.coprime_div_gcd_div_gcd g1
  have co2 := Nat.coprime_div_gcd_div_gcd g2
  have ea : a = a / a.gcd b * a.gcd b := (Nat.div_mul_cancel (Nat.gcd_dvd_left a b)).symm
  have eb : b = b / a.gcd b * a.gcd b := (Nat.div_mul_cancel (Nat.gcd_dvd_right a b)).symm
  have ec : c = c / c.gcd d * c.gcd d := (Nat.div_mul_cancel (Nat.gcd_dvd_left c d)).symm
  have ed : d = d / c.gcd d * c.gcd d := (Nat.div_mul_cancel (Nat.gcd_dvd_right c d)).symm
  generalize a / a.gcd b = a' at *
  generalize b / a.gcd b = b' at *
  generalize c / c.gcd d = c' at *
  generalize d / c.gcd d = d' at *
  generalize a.gcd b = g at *
  generalize c.gcd d = k at *
  have e : a' * d' = c' * b' := by
    rw [ea, eb, ec, ed] at h
    have : (g * k) * (a' * d') = (g * k) * (c' * b') := by
      rw [show (g * k) * (a' * d') = a' * g * (d' * k) by simp [Nat.mul_comm, Nat.mul_left_comm, Nat.mul_assoc], h]
      simp [Nat.mul_comm, Nat.mul_left_comm, Nat.mul_assoc]
    exact Nat.eq_of_mul_eq_mul_left (Nat.mul_pos g1 g2) this
  have d1 : b' ∣ d' := co1.symm.dvd_of_dvd_mul_left ⟨c', by rw [e, Nat.mul_comm]⟩
  have d2 : d' ∣ b' := co2.symm.dvd_of_dvd_mul_left ⟨a', by rw [← e, Nat.mul_comm]⟩
  have e2 : b' = d' := Nat.dvd_antisymm d1 d2
  refine ⟨?_, e2⟩
  subst e2
  have hb' : 0 < b' := by
    apply Nat.pos_of_ne_zero
    intro z
    rw [z] at eb
    simp at eb
    omega
  exact Nat.eq_of_mul_eq_mul_right hb' e
end Z
/-! ZJ: methods of lists. -/
namespace Z
open PySem L2 PySem.Spec
section
variable {X : Cx} {xc : Xc} {W : WX} {pos : Pos}
/-- name.append(a) -/
theorem se_app (j : Nat) {x : Str} {a : Expr} {fa : E} {p0 p1 : Pos} (ha : SE X xc W a fa) (hN : X.N[j]? = some x := by rfl) (hv : Vis X.env.scope x := by first | exact Or.inl rfl | exact Or.inr (Or.inl rfl) | exact Or.inr (Or.inr rfl))
    (hd : (x == ("__debug__" : Str)) = false := by decide) (hcd : (x == ("__classdict__" : Str)) = false := by decide)
    (hp : ∀ {to : TE} {t : TA}, PE X (.Name x p0) to → PA X [a] t → PE X (.Call (.Attribute (.Name x p0) "append" p1) [a] [] pos) (tBM X.K "list" rAppend to t) := by intro _ _ h1 h2; exact pe_bm PySem.F.plainAttrs_list PySem.F.slot_list_append PySem.F.type_list_append mt_append h1 h2)
    (hs : starEach [a] X.env = [(false, eval a X.env)] := by rfl) : SE X xc W (.Call (.Attribute (.Name x p0) "append" p1) [a] [] pos) (eApp j fa) := by
  refine PE_imp (hp (pe_var hN hv hd hcd) (sa_cons ha sa_nil hs)) fun σ H Q h => ?_
  obtain ⟨pa, Zs, env, re, h⟩ := h
  unfold eApp at h
  by_cases hg : isOwnL (eget env j) = true
  · rw [if_pos hg] at h
    obtain ⟨p, xs, ho⟩ := isOwnL_some hg
    have sj := re.sl j
    rw [ho] at sj
    obtain ⟨b, hb, nz, us, hH, rl⟩ := sj
    refine ⟨_, hb, .inl ⟨rfl, us, SqL.of hH⟩, pa, Zs, env, re, ?_⟩
    unfold asCons
    cases hf : fa env with
    | no => rw [hf] at h; exact h
    | ex c fs e1 => rw [hf] at h; exact h
    | ok r e1 =>
      rw [hf, Rs.bind_ok] at h
      intro vs Z1 H1 P1 q1
      cases q1 with
      | @cons _ u _ us' q1 qn _ =>
        cases qn
        cases he : esc e1 r with
        | no => rw [he] at h; exact h.elim
        | ex c fs e => exact absurd (show escs e1 [r] = .ex c fs e by rw [escs_cons, he]; rfl) (escs_ex _ _ _ _ _)
        | ok v e2 =>
          rw [he, Rs.bind_ok] at h
          obtain ⟨Z3, P3, rv, zz, _⟩ := esc_ok (s := ⟨pa, Zs, H, σ, env⟩) P1 q1 he
          cases ho3 : eget e2 j with
          | own p3 y =>
            cases y with
            | lst ys =>
              simp only [ho3] at h
              by_cases hz : ys.length < sizeMax
              · rw [if_pos hz] at h
                have s3 := P3.re.sl j
                rw [ho3] at s3
                obtain ⟨b3, hb3, nz3, ws, hl3, rl3⟩ := s3
                rw [hb] at hb3
                cases hb3
                refine ⟨b, ws, u, rfl, rfl, hl3, by rw [← rl3.length, ← szm]; exact hz, ?_⟩
                have hy : Hld (gX X) Z3 (upd H1 b (.lst (ws ++ [u]))) (.lst (ys ++ [v])) b := Hld.upd hl3 nz3 (rl3.append (.cons rv .nil))
                exact h .non Z3 _ (P3.trans (P3.re.write ho3 hb hy)) .non
              · rw [if_neg hz] at h
                exact h.elim
            | _ => simp only [ho3] at h; exact h.elim
          | _ => simp only [ho3] at h; exact h.elim
  · rw [if_neg hg] at h
    exact h.elim
/-- name.extend(a), a a new list -/
theorem se_ext (j : Nat) {x : Str} {a : Expr} {fa : E} {p0 p1 : Pos} (ha : SE X xc W a fa) (hN : X.N[j]? = some x := by rfl) (hv : Vis X.env.scope x := by first | exact Or.inl rfl | exact Or.inr (Or.inl rfl) | exact Or.inr (Or.inr rfl))
    (hd : (x == ("__debug__" : Str)) = false := by decide) (hcd : (x == ("__classdict__" : Str)) = false := by decide)
    (hp : ∀ {to : TE} {t : TA}, PE X (.Name x p0) to → PA X [a] t → PE X (.Call (.Attribute (.Name x p0) "extend" p1) [a] [] pos) (tBM X.K "list" rExtend to t) := by intro _ _ h1 h2; exact pe_bm PySem.F.plainAttrs_list PySem.F.slot_list_extend PySem.F.type_list_extend mt_extend h1 h2)
    (hs : starEach [a] X.env = [(false, eval a X.env)] := by rfl) : SE X xc W (.Call (.Attribute (.Name x p0) "extend" p1) [a] [] pos) (eExt j fa) := by
  refine PE_imp (hp (pe_var hN hv hd hcd) (sa_cons ha sa_nil hs)) fun σ H Q h => ?_
  obtain ⟨pa, Zs, env, re, h⟩ := h
  unfold eExt at h
  by_cases hg : isOwnL (eget env j) = true
  · rw [if_pos hg] at h
    obtain ⟨p, xs, ho⟩ := isOwnL_some hg
    have sj := re.sl j
    rw [ho] at sj
    obtain ⟨b, hb, nz, us, hH, rl⟩ := sj
    refine ⟨_, hb, .inl ⟨rfl, us, SqL.of hH⟩, pa, Zs, env, re, ?_⟩
    unfold asCons
    cases hf : fa env with
    | no => rw [hf] at h; exact h
    | ex c fs e1 => rw [hf] at h; exact h
    | ok r e1 =>
      rw [hf, Rs.bind_ok] at h
      intro vs Z1 H1 P1 q1
      cases q1 with
      | @cons _ u _ us' q1 qn _ =>
        cases qn
        cases ho3 : eget e1 j with
        | own p3 y =>
          cases y with
          | lst ys =>
            cases r with
            | own z =>
              cases z with
              | lst zs =>
                simp only [ho3] at h
                obtain ⟨a', ea, nza, ⟨ts, hta, rta⟩, no, _⟩ := q1
                by_cases hz : ys.length + zs.length ≤ sizeMax
                · rw [if_pos hz] at h
                  have s3 := P1.re.sl j
                  rw [ho3] at s3
                  obtain ⟨b3, hb3, nz3, ws, hl3, rl3⟩ := s3
                  rw [hb] at hb3
                  cases hb3
                  refine ⟨b, a', ws, ts, rfl, by rw [ea], hl3, hta, by rw [← rl3.length, ← rta.length, ← szm]; exact hz, ?_⟩
                  have hy : Hld (gX X) Z1 (upd H1 b (.lst (ws ++ ts))) (.lst (ys ++ zs)) b := Hld.upd hl3 nz3 (rl3.append rta)
                  exact h .non Z1 _ (P1.trans (P1.re.write ho3 hb hy)) .non
                · rw [if_neg hz] at h
                  exact h.elim
              | _ => simp only [ho3] at h; exact h.elim
            | v z => simp only [ho3] at h; exact h.elim
            | bor z => simp only [ho3] at h; exact h.elim
          | _ => simp only [ho3] at h; exact h.elim
        | _ => simp only [ho3] at h; exact h.elim
  · rw [if_neg hg] at h
    exact h.elim
/-- name.pop() -/
theorem se_pop (j : Nat) {x : Str} {p0 p1 : Pos} (hN : X.N[j]? = some x := by rfl) (hv : Vis X.env.scope x := by first | exact Or.inl rfl | exact Or.inr (Or.inl rfl) | exact Or.inr (Or.inr rfl))
    (hd : (x == ("__debug__" : Str)) = false := by decide) (hcd : (x == ("__classdict__" : Str)) = false := by decide)
    (hp : ∀ {to : TE}, PE X (.Name x p0) to → PE X (.Call (.Attribute (.Name x p0) "pop" p1) [] [] pos) (tBM0 X.K "list" rPop to) := by intro _ h1; exact pe_bm0 PySem.F.plainAttrs_list PySem.F.slot_list_pop PySem.F.type_list_pop mt_pop h1) :
    SE X xc W (.Call (.Attribute (.Name x p0) "pop" p1) [] [] pos) (ePop j) := by
  refine PE_imp (hp (pe_var hN hv hd hcd)) fun σ H Q h => ?_
  obtain ⟨pa, Zs, env, re, h⟩ := h
  unfold ePop at h
  cases ho : eget env j with
  | own p y =>
    cases y with
    | lst xs =>
      simp only [ho] at h
      cases hl : xs[xs.length - 1]? with
      | none => rw [hl] at h; exact h.elim
      | some v =>
        rw [hl] at h
        have sj := re.sl j
        rw [ho] at sj
        obtain ⟨b, hb, nz, us, hH, rl⟩ := sj
        obtain ⟨u, hu, rv⟩ := rl.get hl
        refine ⟨_, hb, .inl ⟨rfl, us, SqL.of hH⟩, b, us, u, rfl, rfl, hH, by rw [← rl.length]; exact hu, ?_⟩
        have hy : Hld (gX X) Zs (upd H b (.lst us.dropLast)) (.lst xs.dropLast) b := Hld.upd hH nz rl.dropLast
        have P := re.write ho hb hy
        exact h u Zs _ P (rv.ext P.ext re.owOk)
    | _ => simp only [ho] at h; exact h.elim
  | _ => simp only [ho] at h; exact h.elim
end
end Z
/-! ZK: more built-ins over lists. -/
namespace Z
open PySem L2 PySem.Spec
def mxL : Int → List Int → Int
  | m, [] => m
  | m, n :: r => mxL (if n > m then n else m) r
def mnL : Int → List Int → Int
  | m, [] => m
  | m, n :: r => mnL (if n < m then n else m) r
theorem mxL_mem : ∀ (r : List Int) (m : Int), mxL m r = m ∨ mxL m r ∈ r
  | [], m => .inl rfl
  | n :: r, m => by
    unfold mxL
    rcases mxL_mem r (if n > m then n else m) with h | h
    · rw [h]
      split
      · exact .inr List.mem_cons_self
      · exact .inl rfl
    · exact .inr (List.mem_cons_of_mem _ h)
theorem mxL_ge : ∀ (r : List Int) (m : Int), m ≤ mxL m r ∧ ∀ n ∈ r, n ≤ mxL m r
  | [], m => ⟨Int.le_refl _, fun n h => by cases h⟩
  | n :: r, m => by
    obtain ⟨h1, h2⟩ := mxL_ge r (if n > m then n else m)
    unfold mxL
    have e1 : m ≤ (if n > m then n else m) := by split <;> omega
    have e2 : n ≤ (if n > m then n else m) := by split <;> omega
    generalize (if n > m then n else m) = t at *
    refine ⟨by omega, fun k hk => ?_⟩
    · rcases List.mem_cons.mp hk with rfl | hk
      · omega
      · exact h2 k hk
theorem mnL_mem : ∀ (r : List Int) (m : Int), mnL m r = m ∨ mnL m r ∈ r
  | [], m => .inl rfl
  | n :: r, m => by
    unfold mnL
    rcases mnL_mem r (if n < m then n else m) with h | h
    · rw [h]
      split
      · exact .inr List.mem_cons_self
      · exact .inl rfl
    · exact .inr (List.mem_cons_of_mem _ h)
theorem mnL_le : ∀ (r : List Int) (m : Int), mnL m r ≤ m ∧ ∀ n ∈ r, mnL m r ≤ n
  | [], m => ⟨Int.le_refl _, fun n h => by cases h⟩
  | n :: r, m => by
    obtain ⟨h1, h2⟩ := mnL_le r (if n < m then n else m)
    unfold mnL
    have e1 : (if n < m then n else m) ≤ m := by split <;> omega
    have e2 : (if n < m then n else m) ≤ n := by split <;> omega
    generalize (if n < m then n else m) = t at *
    refine ⟨by omega, fun k hk => ?_⟩
    · rcases List.mem_cons.mp hk with rfl | hk
      · omega
      · exact h2 k hk
/-- the greatest, the least of a list of numbers -/
def fMaxL : List Val → Option RV
  | [.lst xs] => match ints? xs with
    | some (m :: r) => some (.v (.int (mxL m r)))
    | _ => none
  | _ => none
def fMinL : List Val → Option RV
  | [.lst xs] => match ints? xs with
    | some (m :: r) => some (.v (.int (mnL m r)))
    | _ => none
  | _ => none
def bls? : List Val → Option (List Bool)
  | [] => some []
  | .bl b :: r => match bls? r with
    | some bs => some (b :: bs)
    | none => none
  | _ => none
theorem bls?_eq : ∀ {xs : List Val} {bs : List Bool}, bls? xs = some bs → xs = bs.map Val.bl
  | [], _, h => by cases h; rfl
  | x :: r, bs, h => by
    cases x with
    | bl b =>
      unfold bls? at h
      cases hr : bls? r with
      | none => rw [hr] at h; cases h
      | some cs => rw [hr] at h; cases h; rw [bls?_eq hr]; rfl
    | _ => cases h
theorem bls?_map : ∀ bs : List Bool, bls? (bs.map Val.bl) = some bs
  | [] => rfl
  | b :: bs => by
    show (match bls? (bs.map Val.bl) with | some cs => some (b :: cs) | none => none) = _
    rw [bls?_map bs]
theorem RvL.bls {g : Gm} {Zs : Addr → Prop} {H : Hp} : ∀ {bs : List Bool} {us : List V}, RvL g Zs H (bs.map Val.bl) us → us = bs.map V.bl
  | [], _, r => by cases r; rfl
  | b :: bs, _, r => by
    cases r with
    | cons h r => cases h; rw [RvL.bls r]; rfl
/-- all, any of a list of truth values -/
def fAll : List Val → Option RV
  | [.lst xs] => match bls? xs with
    | some bs => some (.v (.bl (bs.all id)))
    | none => none
  | _ => none
def fAny : List Val → Option RV
  | [.lst xs] => match bls? xs with
    | some bs => some (.v (.bl (bs.any id)))
    | none => none
  | _ => none
section
variable {X : Cx}
theorem cs_maxL (hc : X.calm = true) : CallS X (.builtin "max") fMaxL := by
  have cs : ∀ {xs z}, fMaxL xs = some z → ∃ (m : Int) (r : List Int), xs = [.lst ((m :: r).map Val.int)] ∧ z = .v (.int (mxL m r)) := fun {xs z} h => by
    unfold fMaxL at h; split at h
    · split at h
      · rename_i m r e
        cases h
        exact ⟨_, _, by rw [ints?_eq e], rfl⟩
      · cases h
    · cases h
  refine ⟨⟨_, cr_max hc, fun Zs H xs z us Q zd hf hx q => ?_⟩, fun xs i h => ?_⟩
  · obtain ⟨m, r, rfl, rfl⟩ := cs hf
    obtain ⟨u, rfl, h⟩ := hx.one
    obtain ⟨a, ws, rfl, hl, rl⟩ := h.lst
    have := rl.ints
    subst this
    refine ⟨a, m :: r, rfl, .inl hl, Nat.succ_pos _, fun k hk hle => ?_⟩
    have e : k = mxL m r := by
      obtain ⟨g1, g2⟩ := mxL_ge r m
      have h1 : k ≤ mxL m r := by
        rcases List.mem_cons.mp hk with rfl | hk
        · exact g1
        · exact g2 k hk
      have h2 : mxL m r ≤ k := by
        rcases mxL_mem r m with e | e
        · rw [e]; exact hle m List.mem_cons_self
        · exact hle _ (List.mem_cons_of_mem _ e)
      omega
    rw [e]
    exact q.val zd (.int _)
  · obtain ⟨_, _, _, e⟩ := cs h; cases e
theorem cs_minL (hc : X.calm = true) : CallS X (.builtin "min") fMinL := by
  have cs : ∀ {xs z}, fMinL xs = some z → ∃ (m : Int) (r : List Int), xs = [.lst ((m :: r).map Val.int)] ∧ z = .v (.int (mnL m r)) := fun {xs z} h => by
    unfold fMinL at h; split at h
    · split at h
      · rename_i m r e
        cases h
        exact ⟨_, _, by rw [ints?_eq e], rfl⟩
      · cases h
    · cases h
  refine ⟨⟨_, cr_min hc, fun Zs H xs z us Q zd hf hx q => ?_⟩, fun xs i h => ?_⟩
  · obtain ⟨m, r, rfl, rfl⟩ := cs hf
    obtain ⟨u, rfl, h⟩ := hx.one
    obtain ⟨a, ws, rfl, hl, rl⟩ := h.lst
    have := rl.ints
    subst this
    refine ⟨a, m :: r, rfl, .inl hl, Nat.succ_pos _, fun k hk hle => ?_⟩
    have e : k = mnL m r := by
      obtain ⟨g1, g2⟩ := mnL_le r m
      have h1 : mnL m r ≤ k := by
        rcases List.mem_cons.mp hk with rfl | hk
        · exact g1
        · exact g2 k hk
      have h2 : k ≤ mnL m r := by
        rcases mnL_mem r m with e | e
        · rw [e]; exact hle m List.mem_cons_self
        · exact hle _ (List.mem_cons_of_mem _ e)
      omega
    rw [e]
    exact q.val zd (.int _)
  · obtain ⟨_, _, _, e⟩ := cs h; cases e
theorem cs_all (hc : X.calm = true) : CallS X (.builtin "all") fAll := by
  have cs : ∀ {xs z}, fAll xs = some z → ∃ bs : List Bool, xs = [.lst (bs.map Val.bl)] ∧ z = .v (.bl (bs.all id)) := fun {xs z} h => by
    unfold fAll at h; split at h
    · split at h
      · rename_i bs e
        cases h
        exact ⟨_, by rw [bls?_eq e], rfl⟩
      · cases h
    · cases h
  refine ⟨⟨_, cr_all hc, fun Zs H xs z us Q zd hf hx q => ?_⟩, fun xs i h => ?_⟩
  · obtain ⟨bs, rfl, rfl⟩ := cs hf
    obtain ⟨u, rfl, h⟩ := hx.one
    obtain ⟨a, ws, rfl, hl, rl⟩ := h.lst
    have := rl.bls
    subst this
    exact ⟨a, bs, rfl, .inl hl, q.val zd (.bl _)⟩
  · obtain ⟨_, _, e⟩ := cs h; cases e
theorem cs_any (hc : X.calm = true) : CallS X (.builtin "any") fAny := by
  have cs : ∀ {xs z}, fAny xs = some z → ∃ bs : List Bool, xs = [.lst (bs.map Val.bl)] ∧ z = .v (.bl (bs.any id)) := fun {xs z} h => by
    unfold fAny at h; split at h
    · split at h
      · rename_i bs e
        cases h
        exact ⟨_, by rw [bls?_eq e], rfl⟩
      · cases h
    · cases h
  refine ⟨⟨_, cr_any hc, fun Zs H xs z us Q zd hf hx q => ?_⟩, fun xs i h => ?_⟩
  · obtain ⟨bs, rfl, rfl⟩ := cs hf
    obtain ⟨u, rfl, h⟩ := hx.one
    obtain ⟨a, ws, rfl, hl, rl⟩ := h.lst
    have := rl.bls
    subst this
    exact ⟨a, bs, rfl, .inl hl, q.val zd (.bl _)⟩
  · obtain ⟨_, _, e⟩ := cs h; cases e
end
end Z
/-! ZL: enumerate, zip. -/
namespace Z
open PySem L2 PySem.Spec RZ
def enumV (xs : List Val) : List Val := xs.zipIdx.map fun p => .tup [.int (p.2 : Nat), p.1]
def zipV (xs ys : List Val) : List Val := (xs.zip ys).map fun p => .tup [p.1, p.2]
/-- enumerate(a) -/
def iEnumS (a : As) : Src := fun e => (a e).bind fun rs e1 => (escs e1 rs).bind fun xs e2 => match xs with
  | [.lst xs] => .ok (enumV xs) e2
  | _ => .no
/-- zip(a, b) -/
def iZipS (a : As) : Src := fun e => (a e).bind fun rs e1 => (escs e1 rs).bind fun xs e2 => match xs with
  | [.lst xs, .lst ys] => .ok (zipV xs ys) e2
  | [.tup xs, .tup ys] => .ok (zipV xs ys) e2
  | _ => .no
theorem enumV_at {xs : List Val} {i : Nat} {x : Val} (h : (enumV xs)[i]? = some x) : ∃ y, xs[i]? = some y ∧ x = .tup [.int (i : Nat), y] := by
  unfold enumV at h
  rw [List.getElem?_map, List.getElem?_zipIdx] at h
  cases hx : xs[i]? with
  | none => rw [hx] at h; cases h
  | some y =>
    rw [hx] at h
    simp only [Option.map_some, Option.some.injEq] at h
    exact ⟨y, rfl, by rw [← h]; simp⟩
theorem enumV_len {xs : List Val} : (enumV xs).length = xs.length := by simp [enumV]
theorem zipV_at {xs ys : List Val} {i : Nat} {x : Val} (h : (zipV xs ys)[i]? = some x) : ∃ a b, xs[i]? = some a ∧ ys[i]? = some b ∧ x = .tup [a, b] := by
  unfold zipV at h
  rw [List.getElem?_map] at h
  cases hx : (xs.zip ys)[i]? with
  | none => rw [hx] at h; cases h
  | some p =>
    rw [hx] at h
    cases h
    rw [List.getElem?_zip_eq_some] at hx
    exact ⟨p.1, p.2, hx.1, hx.2, rfl⟩
theorem zipV_len {xs ys : List Val} : (zipV xs ys).length = min xs.length ys.length := by simp [zipV]
theorem walk_enum {g : Gm} {Zs : Addr → Prop} {H : Hp} {a : Addr} {xs : List Val} {us : List V} (h : SqZ g Zs H a us) (r : RvL g Zs H xs us) : Walk g Zs H (Ite g.K a) (enumV xs) := by
  intro Z2 H2 gr zd
  have h2 := (gr.sqZ h).sq
  have r2 := r.gr gr
  refine ⟨fun i x hx => ?_, fun i hi => ⟨us, h2, by rw [← r.length, ← enumV_len]; exact hi⟩⟩
  obtain ⟨y, hy, rfl⟩ := enumV_at hx
  obtain ⟨w, hw, _⟩ := r2.get hy
  refine ⟨⟨us, w, h2, hw⟩, fun u H3 q => ?_⟩
  obtain ⟨T, x', eu, hT, eH, hx'⟩ := q
  subst eu eH
  exact ⟨Z2, Ext.new zd hT, .tup (SqT.of upd_same) (.cons (.int _) (.cons ((r2.at hy (hx' us h2)).ext (Ext.new zd hT) fun _ z => z.elim) .nil))⟩
theorem walk_zip {g : Gm} {Zs : Addr → Prop} {H : Hp} {a b : Addr} {xs ys : List Val} {us ws : List V} (h : SqZ g Zs H a us) (r : RvL g Zs H xs us) (k : SqZ g Zs H b ws) (s : RvL g Zs H ys ws) : Walk g Zs H (Itz g.K a b) (zipV xs ys) := by
  intro Z2 H2 gr zd
  have h2 := (gr.sqZ h).sq
  have k2 := (gr.sqZ k).sq
  have r2 := r.gr gr
  have s2 := s.gr gr
  refine ⟨fun i x hx => ?_, fun i hi => ⟨us, ws, h2, k2, by rw [← r.length, ← s.length]; rw [zipV_len] at hi; omega⟩⟩
  obtain ⟨y, z, hy, hz, rfl⟩ := zipV_at hx
  obtain ⟨u1, hu1, _⟩ := r2.get hy
  obtain ⟨u2, hu2, _⟩ := s2.get hz
  refine ⟨⟨us, ws, u1, u2, h2, k2, hu1, hu2⟩, fun u H3 q => ?_⟩
  obtain ⟨T, x', y', eu, hT, eH, hx', hy'⟩ := q
  subst eu eH
  exact ⟨Z2, Ext.new zd hT, .tup (SqT.of upd_same) (.cons ((r2.at hy (hx' us h2)).ext (Ext.new zd hT) fun _ z => z.elim) (.cons ((s2.at hz (hy' ws k2)).ext (Ext.new zd hT) fun _ z => z.elim) .nil))⟩
theorem walk_zipT {g : Gm} {Zs : Addr → Prop} {H : Hp} {a b : Addr} {xs ys : List Val} {us ws : List V} (h : SqT g.K H a us) (r : RvL g Zs H xs us) (k : SqT g.K H b ws) (s : RvL g Zs H ys ws) : Walk g Zs H (ItzT g.K a b) (zipV xs ys) := by
  intro Z2 H2 gr zd
  have h2 := gr.sqT h
  have k2 := gr.sqT k
  have r2 := r.gr gr
  have s2 := s.gr gr
  refine ⟨fun i x hx => ?_, fun i hi => ⟨us, ws, h2, k2, by rw [← r.length, ← s.length]; rw [zipV_len] at hi; omega⟩⟩
  obtain ⟨y, z, hy, hz, rfl⟩ := zipV_at hx
  obtain ⟨u1, hu1, _⟩ := r2.get hy
  obtain ⟨u2, hu2, _⟩ := s2.get hz
  refine ⟨⟨us, ws, u1, u2, h2, k2, hu1, hu2⟩, fun u H3 q => ?_⟩
  obtain ⟨T, x', y', eu, hT, eH, hx', hy'⟩ := q
  subst eu eH
  exact ⟨Z2, Ext.new zd hT, .tup (SqT.of upd_same) (.cons ((r2.at hy (hx' us h2)).ext (Ext.new zd hT) fun _ z => z.elim) (.cons ((s2.at hz (hy' ws k2)).ext (Ext.new zd hT) fun _ z => z.elim) .nil))⟩
section
variable {X : Cx} {xc : Xc} {W : WX} {pos tpos : Pos} {elts : List Expr} {kk : Nat}
theorem si_enum {a : Expr} {fa : As} {p : Pos} (hm : X.mg "enumerate" = none) (ha : SA X xc W [a] fa) (hg : Gl X "enumerate" := by rfl) (hs : starEach [a] X.env = [(false, eval a X.env)] := by rfl) : SI X xc W (.Tuple elts kk tpos) (.Call (.Name "enumerate" p) [a] [] pos) (iEnumS fa) := by
  refine PI_imp (pi_enum hg hm ha hs) fun σ H R h => ?_
  obtain ⟨pa, Zs, env, re, h⟩ := h
  refine ⟨pa, Zs, env, re, ?_⟩
  unfold iEnumS at h
  cases hf : fa env with
  | no => rw [hf] at h; exact h
  | ex c fs e1 => rw [hf] at h; exact h
  | ok rs e1 =>
    rw [hf, Rs.bind_ok] at h
    intro us Z1 H1 p1 q1
    cases he : escs e1 rs with
    | no => rw [he] at h; exact h.elim
    | ex c fs e => exact absurd he (escs_ex _ _ _ _ _)
    | ok xs e2 =>
      rw [he, Rs.bind_ok] at h
      obtain ⟨Z2, P2, rl, _⟩ := escs_ok p1 q1 he
      cases rl with
      | nil => exact h.elim
      | cons rv rr =>
        cases rr with
        | cons _ _ => cases rv <;> exact h.elim
        | nil =>
          cases rv with
          | lst hs r => exact ⟨_, _, rfl, hs.sq, h Z2 H1 _ P2 (walk_enum hs r)⟩
          | _ => exact h.elim
theorem si_zip {a b : Expr} {fa : As} {p : Pos} (hm : X.mg "zip" = none) (ha : SA X xc W [a, b] fa) (hg : Gl X "zip" := by rfl) (hs : starEach [a, b] X.env = (false, eval a X.env) :: starEach [b] X.env := by rfl) (hpl : (backTo pos (starEach [b] X.env)).any (·.1) = false := by rfl) :
    SI X xc W (.Tuple elts kk tpos) (.Call (.Name "zip" p) [a, b] [] pos) (iZipS fa) := by
  refine PI_imp (pi_zipA hg hm ha hs hpl) fun σ H R h => ?_
  obtain ⟨pa, Zs, env, re, h⟩ := h
  refine ⟨pa, Zs, env, re, ?_⟩
  unfold iZipS at h
  cases hf : fa env with
  | no => rw [hf] at h; exact h
  | ex c fs e1 => rw [hf] at h; exact h
  | ok rs e1 =>
    rw [hf, Rs.bind_ok] at h
    intro us Z1 H1 p1 q1
    cases he : escs e1 rs with
    | no => rw [he] at h; exact h.elim
    | ex c fs e => exact absurd he (escs_ex _ _ _ _ _)
    | ok xs e2 =>
      rw [he, Rs.bind_ok] at h
      obtain ⟨Z2, P2, rl, _⟩ := escs_ok p1 q1 he
      cases rl with
      | nil => exact h.elim
      | cons rv rr =>
        cases rr with
        | nil => cases rv <;> exact h.elim
        | cons rw rr =>
          cases rr with
          | cons _ _ => cases rv <;> cases rw <;> exact h.elim
          | nil =>
            cases rv with
            | lst hs r =>
              cases rw with
              | lst ks s => exact ⟨_, _, _, _, rfl, .inl ⟨hs.sq, ks.sq, h Z2 H1 _ P2 (walk_zip hs r ks s)⟩⟩
              | _ => exact h.elim
            | tup hs r =>
              cases rw with
              | tup ks s => exact ⟨_, _, _, _, rfl, .inr ⟨hs, ks, h Z2 H1 _ P2 (walk_zipT hs r ks s)⟩⟩
              | _ => exact h.elim
            | _ => cases rw <;> exact h.elim
end
end Z
/-! ZM: several types at once. -/
namespace Z
open PySem L2 PySem.Spec
/-- name op= a, numbers -/
def sAug (i : Nat) (f : Val → Val → Option RV) (a : E) : S := fun e => match eget e i with
  | .v x => (a e).bind fun r e1 => (opt (peek e1 r) e1).bind fun y _ => match f x y with
    | some (.v z) => (sto e1 i (.v z)).bind fun _ e2 => .ok .nx e2
    | _ => .no
  | _ => .no
section
variable {X : Cx} {xc : Xc} {W : WX} {pos : Pos}
theorem ss_aug (i : Nat) {x : Str} {e : Expr} {fa : E} {op : Operator} {f : Val → Val → Option RV} {pos' : Pos} (hN : X.N.Nodup) (ho : OpS X (inplaceOp op) f) (ha : SE X xc W e fa) (hi : X.N[i]? = some x := by rfl) (hx : Loc X.env.scope x := by first | exact Or.inl rfl | exact Or.inr rfl)
    (hf : X.fn x = true ∨ X.env.scope.names.lookup x = some .local := by first | exact .inl rfl | exact .inr rfl) : SS X xc W (.AugAssign (.Name x pos') op e pos) (sAug i f fa) := by
  obtain ⟨r0, h1, h2⟩ := ho.ex
  refine PS_imp (ps_aug hN hi hx ha h1 hf) fun D σ H h => ?_
  obtain ⟨pa, Zs, env, re, h⟩ := h
  unfold sAug at h
  cases hs : eget env i with
  | v y =>
    simp only [hs] at h
    have q := re.sl i
    rw [hs] at q
    obtain ⟨u, hu, rv⟩ := q
    refine ⟨u, hu, pa, Zs, env, re, h.cont fun r e1 w Z1 H1 _ p1 q1 h => ?_⟩
    cases hp : peek e1 r with
    | none => rw [hp] at h; exact h.elim
    | some y2 =>
      rw [hp, opt_some, Rs.bind_ok] at h
      cases hz : f y y2 with
      | none => rw [hz] at h; exact h.elim
      | some z0 =>
        rw [hz] at h
        cases z0 with
        | own _ => exact h.elim
        | bor _ => exact h.elim
        | v z =>
          dsimp only at h
          refine h2 Z1 H1 y y2 (.v z) u w _ p1.re.zd hz (.inl (rv.ext p1.ext re.owOk)) (peek_rd p1.re q1 hp) fun u' Z2 H2 ex rz => ?_
          cases hst : sto e1 i (.v z) with
          | no => rw [hst] at h; exact h.elim
          | ex c fs e => exact absurd hst sto_ex
          | ok _ e2 =>
            rw [hst, Rs.bind_ok] at h
            obtain ⟨Z3, P3, _⟩ := sto_ok (s := ⟨pa, Zs, H, σ, env⟩) (r := .v z) (u := u') (p1.trans (p1.re.growP ex)).toPost rz hst
            exact h _ Z3 H2 P3
  | _ => simp only [hs] at h; exact h.elim
def iAdd : Val → Val → Option RV
  | .int i, .int j => some (.v (.int (i + j)))
  | _, _ => none
def iSub : Val → Val → Option RV
  | .int i, .int j => some (.v (.int (i - j)))
  | _, _ => none
@[simp] theorem iAdd_int (i j : Int) : iAdd (.int i) (.int j) = some (.v (.int (i + j))) := rfl
@[simp] theorem iSub_int (i j : Int) : iSub (.int i) (.int j) = some (.v (.int (i - j))) := rfl
theorem ios_add : OpS X (inplaceOp .Add) iAdd := os_int0 (c := fun i j => .int (i + j)) iop_add (fun _ _ _ _ _ => .int _) fun x y z h => by
  unfold iAdd at h; split at h <;> cases h; exact ⟨_, _, rfl, rfl, rfl⟩
theorem ios_sub : OpS X (inplaceOp .Sub) iSub := os_int0 (c := fun i j => .int (i - j)) iop_sub (fun _ _ _ _ _ => .int _) fun x y z h => by
  unfold iSub at h; split at h <;> cases h; exact ⟨_, _, rfl, rfl, rfl⟩
theorem pt_nil : PA X [] (fun _ H Q => Q (([] : List Bt).map fun T => V.ty T.name) H) := pa_nil
theorem pt_cons {n : Str} {T : Bt} {Ts : List Bt} {p : Pos} {es : List Expr} (hn : X.mg n = none) (r : PA X es (fun _ H Q => Q (Ts.map fun T => V.ty T.name) H)) (hv : bootBuiltins n = some (.type T.name) := by first | rfl | decide +kernel)
    (hg : Gl X n := by rfl) (hnn : n ≠ "__name__" := by decide) (hnd : (n == ("__debug__" : Str)) = false := by decide) (hs : starEach (.Name n p :: es) X.env = (false, eval (.Name n p) X.env) :: starEach es X.env := by rfl) : PA X (.Name n p :: es) (fun _ H Q => Q ((T :: Ts).map fun T => V.ty T.name) H) :=
  pa_cons (show PE X (.Name n p) (tC (.ty T.name)) from pe_bltn hg hn hv rfl hnn hnd) r hs
end
end Z
/-! ZN: ranges downwards. -/
namespace Z
open PySem L2 PySem.Spec
def rangeD (i : Int) (n : Nat) : List Val := (List.range n).map fun k : Nat => .int (i + (k : Int) * -1)
def rng3 : List RV → Option (List Val)
  | [.v (.int i), .v (.int j), .v (.int c)] => if c = -1 ∧ i.natAbs < 4611686018427387904 ∧ j.natAbs < 4611686018427387904 then some (rangeD i (i - j).toNat) else none
  | _ => none
def iRange3 (a : As) : Src := fun e => (a e).bind fun rs e1 => opt (rng3 rs) e1
theorem rng3_some {rs : List RV} {xs : List Val} (h : rng3 rs = some xs) : ∃ i j : Int, rs = [.v (.int i), .v (.int j), .v (.int (-1))] ∧ i.natAbs < 4611686018427387904 ∧ j.natAbs < 4611686018427387904 ∧ xs = rangeD i (i - j).toNat := by
  unfold rng3 at h
  split at h
  · split at h
    · rename_i hc
      obtain ⟨rfl, hi, hj⟩ := hc
      cases h
      exact ⟨_, _, rfl, hi, hj, rfl⟩
    · cases h
  · cases h
theorem rangeD_get {lo : Int} {n i : Nat} {x : Val} (h : (rangeD lo n)[i]? = some x) : i < n ∧ x = .int (lo + (i : Int) * -1) := by
  unfold rangeD at h
  rw [List.getElem?_map] at h
  by_cases hi : i < n
  · rw [List.getElem?_range hi] at h
    cases h
    exact ⟨hi, rfl⟩
  · rw [List.getElem?_eq_none_iff.mpr (by simpa using hi)] at h
    cases h
theorem walk_rngD {g : Gm} {Zs : Addr → Prop} {H : Hp} {lo : Int} {n : Nat} : Walk g Zs H (Itc lo (-1) n) (rangeD lo n) := by
  intro Z2 H2 gr zd
  refine ⟨fun i x hx => ?_, fun i hi => (by simpa [rangeD] using hi : n ≤ i)⟩
  obtain ⟨hi, rfl⟩ := rangeD_get hx
  refine ⟨hi, fun u H3 y => ?_⟩
  obtain ⟨e, y⟩ := y
  subst e y
  exact ⟨Z2, Ext.refl zd, .int _⟩
section
variable {X : Cx} {xc : Xc} {W : WX} {pos : Pos} {tg : Expr}
theorem si_range3 {a b c : Expr} {fa : As} {p : Pos} (hm : X.mg "range" = none) (ha : SA X xc W [a, b, c] fa) (hg : Gl X "range" := by rfl) (hs : starEach [a, b, c] X.env = (false, eval a X.env) :: starEach [b, c] X.env := by rfl) (hpl : (backTo pos (starEach [b, c] X.env)).any (·.1) = false := by rfl) :
    SI X xc W tg (.Call (.Name "range" p) [a, b, c] [] pos) (iRange3 fa) := by
  refine PI_imp (pi_range3 hg hm ha hs hpl) fun σ H R h => ?_
  obtain ⟨pa, Zs, env, re, h⟩ := h
  refine ⟨pa, Zs, env, re, ?_⟩
  unfold iRange3 at h
  cases hf : fa env with
  | no => rw [hf] at h; exact h
  | ex c fs e1 => rw [hf] at h; exact h
  | ok rs e1 =>
    rw [hf, Rs.bind_ok] at h
    intro us Z1 H1 p1 q1
    cases hr : rng3 rs with
    | none => rw [hr] at h; exact h.elim
    | some xs =>
      rw [hr, opt_some] at h
      obtain ⟨i, j, rfl, hi, hj, rfl⟩ := rng3_some hr
      cases q1 with
      | cons r1 q1 _ =>
        cases q1 with
        | cons r2 q1 _ =>
          cases q1 with
          | cons r3 q1 _ =>
            cases q1
            cases r1
            cases r2
            cases r3
            exact ⟨i, j, -1, _, rfl, RgC.neg (by omega) (by omega) (by omega) (by omega), h Z1 H1 _ p1 walk_rngD⟩
end
end Z
/-! ZO: a < b < c as a test, a, b, c = x, y, z, the least, the greatest, the order of alike data. -/
namespace Z
open PySem L2 PySem.Spec PyProof.Rows
open PySem.W (alike alikeAll dataLt alike_unique keyToks keyToksAll minD maxD AlikeAll reads_keeps min_list_data max_list_data readsAll_at)
section
variable {X : Cx} {xc : Xc} {W : WX} {pos : Pos}
/-- a truth value as a test -/
theorem rd_bool {g : Gm} {f : E} {σ : L2.St} {H : Hp} {Q : Bool → Hp → Prop} (hb : ∀ e r e1, f e = .ok r e1 → ∃ k, r = .v (.bl k)) (h : rdT g xc W (tE f) σ H Q) : rd g xc W f σ H fun v H' => ∃ k, v = .bl k ∧ Q k H' := by
  obtain ⟨pa, Zs, env, re, h⟩ := h
  refine ⟨pa, Zs, env, re, ?_⟩
  unfold tE at h
  cases hq : f env with
  | no => rw [hq] at h; exact h
  | ex c fs e1 => rw [hq] at h; exact h
  | ok r e1 =>
    obtain ⟨k, rfl⟩ := hb _ _ _ hq
    rw [hq] at h
    intro u Z1 H1 p1 q1
    cases q1
    exact ⟨k, rfl, h k Z1 H1 p1 rfl⟩
theorem chain_bl {f g : Val → Val → Option RV} {a b c : E} (hf : ∀ x y z, f x y = some z → ∃ k, z = .v (.bl k)) (hg : ∀ x y z, g x y = some z → ∃ k, z = .v (.bl k)) : ∀ e r e1, eChain f g a b c e = .ok r e1 → ∃ k, r = .v (.bl k) := by
  intro e r e1 h
  unfold eChain at h
  cases h1 : a e with
  | no => rw [h1] at h; cases h
  | ex _ _ _ => rw [h1] at h; cases h
  | ok r1 e2 =>
    rw [h1, Rs.bind_ok] at h
    cases h2 : b e2 with
    | no => rw [h2] at h; cases h
    | ex _ _ _ => rw [h2] at h; cases h
    | ok r2 e3 =>
      rw [h2, Rs.bind_ok] at h
      cases h3 : peek e3 r1 with
      | none => rw [h3] at h; cases h
      | some x =>
        cases h4 : peek e3 r2 with
        | none => rw [h3, h4] at h; cases h
        | some y =>
          rw [h3, h4] at h
          simp only [opt_some, Rs.bind_ok] at h
          cases h5 : f x y with
          | none => rw [h5] at h; cases h
          | some z =>
            obtain ⟨k, rfl⟩ := hf _ _ _ h5
            rw [h5] at h
            simp only [opt_some, Rs.bind_ok] at h
            cases k with
            | false => cases h; exact ⟨_, rfl⟩
            | true =>
              simp only at h
              cases h6 : c e3 with
              | no => rw [h6] at h; cases h
              | ex _ _ _ => rw [h6] at h; cases h
              | ok r3 e4 =>
                rw [h6, Rs.bind_ok] at h
                cases h7 : peek e4 r2 with
                | none => rw [h7] at h; cases h
                | some y' =>
                  cases h8 : peek e4 r3 with
                  | none => rw [h7, h8] at h; cases h
                  | some w =>
                    rw [h7, h8] at h
                    simp only [opt_some, Rs.bind_ok] at h
                    cases h9 : g y' w with
                    | none => rw [h9] at h; cases h
                    | some z' =>
                      rw [h9] at h
                      cases h
                      exact hg _ _ _ h9
/-- what se_chain shows of readings -/
theorem chain_end {op op' : CmpOp} {f f' : Val → Val → Option RV} {fa fb fc : E} {r r' : R2} (hbl : ∀ x y z, f x y = some z → ∃ k, z = .v (.bl k))
    (h2 : ∀ (Zs : Addr → Prop) (H : Hp) (x y : Val) (z : RV) (u w : V) (Q : VK), Zd Zs H → f x y = some z → RdV (gX X) Zs H x u → RdV (gX X) Zs H y w → Ans (gX X) Zs H z Q → r u w H Q)
    (h2' : ∀ (Zs : Addr → Prop) (H : Hp) (x y : Val) (z : RV) (u w : V) (Q : VK), Zd Zs H → f' x y = some z → RdV (gX X) Zs H x u → RdV (gX X) Zs H y w → Ans (gX X) Zs H z Q → r' u w H Q)
    (nb : ∀ x y i, f' x y ≠ some (.bor i)) {σ : L2.St} {H : Hp} {Q : VK} (h : rd (gX X) xc W (eChain f f' fa fb fc) σ H Q) : tChain r r' (rd (gX X) xc W fa) (rd (gX X) xc W fb) (rd (gX X) xc W fc) σ H Q := by
  obtain ⟨pa, Zs, env, re, h⟩ := h
  refine ⟨pa, Zs, env, re, h.cont fun r1 e1 u Z1 H1 _ p1 q1 h => ?_⟩
  refine ⟨pa, Z1, e1, p1.re, (h.shiftE p1).cont fun r2 e2 w Z2 H2 _ p2 q2 h => ?_⟩
  have q1' := q1.step p1.re p2
  cases hx : peek e2 r1 with
  | none => rw [hx] at h; exact h.elim
  | some x =>
    cases hy : peek e2 r2 with
    | none => rw [hx, hy] at h; exact h.elim
    | some y =>
      rw [hx, hy] at h
      cases h3 : f x y with
      | none => simp only [opt_some, Rs.bind_ok, h3, opt_none, Rs.bind_no] at h; exact h.elim
      | some z =>
        simp only [opt_some, Rs.bind_ok, h3] at h
        obtain ⟨k, rfl⟩ := hbl x y z h3
        refine h2 Z2 H2 x y _ u w _ p2.re.zd h3 (peek_rd p2.re q1' hx) (peek_rd p2.re q2 hy) ?_
        intro v Z3 H3 ex rv
        cases rv with
        | bl b =>
          refine ⟨k, rfl, ?_⟩
          have p3 := p2.re.growP ex
          have q2' := q2.step p2.re p3
          cases k with
          | false =>
            rw [if_neg Bool.false_ne_true]
            exact h _ Z3 H3 (p2.trans p3) (.bl false)
          | true =>
            rw [if_pos rfl]
            refine ⟨pa, Z3, e2, p3.re, (h.shiftE (p2.trans p3)).cont fun r4 e4 t Z4 H4 _ p4 q4 h => ?_⟩
            have q2'' := q2'.step p3.re p4
            cases hy : peek e4 r2 with
            | none => rw [hy] at h; exact h.elim
            | some y =>
              cases hw : peek e4 r4 with
              | none => rw [hy, hw] at h; exact h.elim
              | some c' =>
                rw [hy, hw] at h
                cases h5 : f' y c' with
                | none => simp only [opt_some, Rs.bind_ok, h5, opt_none] at h; exact h.elim
                | some z' =>
                  simp only [opt_some, Rs.bind_ok, h5] at h
                  exact h2' Z4 H4 y c' z' _ _ _ p4.re.zd h5 (peek_rd p4.re q2'' hy) (peek_rd p4.re q4 hw) (Ans.of h p4 fun i e => nb y c' i (by rw [h5, e]))
theorem st_chain {op op' : CmpOp} {f f' : Val → Val → Option RV} {a b c : Expr} {fa fb fc : E} (ho : OpS X (compareOp op) f) (ho' : OpS X (compareOp op') f') (hbl : ∀ x y z, f x y = some z → ∃ k, z = .v (.bl k)) (hbl' : ∀ x y z, f' x y = some z → ∃ k, z = .v (.bl k))
    (hp : ∀ (r r' : R2), OpR X (compareOp op) r → OpR X (compareOp op') r' → PT X (.Compare a [op, op'] [b, c] pos) (tTest (tChain r r' (rd (gX X) xc W fa) (rd (gX X) xc W fb) (rd (gX X) xc W fc)))) : ST X xc W (.Compare a [op, op'] [b, c] pos) (tE (eChain f f' fa fb fc)) := by
  obtain ⟨r, h1, h2⟩ := ho.ex
  obtain ⟨r', h1', h2'⟩ := ho'.ex
  refine PT_imp (hp r r' h1 h1') fun σ H Q h => ?_
  exact chain_end (op := op) (op' := op') hbl h2 h2' ho'.nb (rd_bool (chain_bl hbl hbl') h)
/-- a, b, c = x, y, z; three plain local names -/
theorem ss_par3 (i j l : Nat) {x y z : Str} {a b c : Expr} {fa : As} {px py pz pt : Pos} {kt k2 pt2} (hc : X.calm = true) (hN : X.N.Nodup) (ha : SA X xc W [a, b, c] fa)
    (hw : swappedStores [.Tuple [.Name x px, .Name y py, .Name z pz] kt pt] (.Tuple [a, b, c] k2 pt2) X.env = pure (some [x, y, z]) := by rfl)
    (hs : swapsWithSole [.Tuple [.Name x px, .Name y py, .Name z pz] kt pt] (.Tuple [a, b, c] k2 pt2) pos.line X.env = pure false := by rfl)
    (hi : X.N[i]? = some x := by rfl) (hj : X.N[j]? = some y := by rfl) (hl : X.N[l]? = some z := by rfl) (hij : i ≠ j := by decide) (hil : i ≠ l := by decide) (hjl : j ≠ l := by decide)
    (hx : X.env.scope.names.lookup x = some .local := by rfl) (hy : X.env.scope.names.lookup y = some .local := by rfl) (hz : X.env.scope.names.lookup z = some .local := by rfl) :
    SS X xc W (.Assign [.Tuple [.Name x px, .Name y py, .Name z pz] kt pt] (.Tuple [a, b, c] k2 pt2) pos) (sPar [i, j, l] fa) := by
  refine PS_imp (ps_par3 hc hN hi hj hl hij hil hjl hx hy hz ha hw hs) fun D σ H h => ?_
  obtain ⟨pa, Zs, env, re, h⟩ := par_end h
  refine ⟨pa, Zs, env, re, ?_⟩
  cases hq : fa env with
  | no => rw [hq] at h; exact h
  | ex c fs e1 => rw [hq] at h; exact h
  | ok rs e1 =>
    rw [hq] at h
    intro us Z1 H1 p1 q1
    obtain ⟨hl, h1, _⟩ := h us Z1 H1 p1 q1
    obtain ⟨u, w, t, rfl⟩ := len3 hl
    exact ⟨u, w, t, rfl, h1⟩
end

/-! ### alike data -/
/-- the two can be compared place by place (alike, by content) -/
def valike (x y : Val) : Bool := alike (toD x) (toD y)
def vlt (x y : Val) : Bool := dataLt (toD x) (toD y)
def allAlike (xs : List Val) : Bool := xs.all (fun x => vok 60 x && !isN x && xs.all (fun y => valike x y))
def minV (x : Val) (xs : List Val) : Val := xs.foldl (fun a y => if vlt y a then y else a) x
def maxV (x : Val) (xs : List Val) : Val := xs.foldl (fun a y => if vlt a y then y else a) x
def fMinD : List Val → Option RV
  | [.lst (x :: xs)] => if allAlike (x :: xs) then some (.v (minV x xs)) else none
  | _ => none
def fMaxD : List Val → Option RV
  | [.lst (x :: xs)] => if allAlike (x :: xs) then some (.v (maxV x xs)) else none
  | _ => none
theorem toDs_map : ∀ xs : List Val, toDs xs = xs.map toD
  | [] => rfl
  | x :: xs => by rw [toDs, toDs_map xs, List.map_cons]
theorem minV_toD : ∀ (xs : List Val) (x : Val), toD (minV x xs) = minD (toD x) (toDs xs)
  | [], _ => rfl
  | y :: ys, x => by
    rw [toDs]
    show toD (minV (if vlt y x then y else x) ys) = minD (if dataLt (toD y) (toD x) then toD y else toD x) (toDs ys)
    rw [minV_toD ys, ← apply_ite toD] <;> rfl
theorem maxV_toD : ∀ (xs : List Val) (x : Val), toD (maxV x xs) = maxD (toD x) (toDs xs)
  | [], _ => rfl
  | y :: ys, x => by
    rw [toDs]
    show toD (maxV (if vlt x y then y else x) ys) = maxD (if dataLt (toD x) (toD y) then toD y else toD x) (toDs ys)
    rw [maxV_toD ys, ← apply_ite toD] <;> rfl
theorem minV_mem : ∀ (xs : List Val) (x : Val), minV x xs ∈ x :: xs
  | [], x => List.mem_cons_self
  | y :: ys, x => by
    show minV (if vlt y x then y else x) ys ∈ _
    rcases List.mem_cons.mp (minV_mem ys (if vlt y x then y else x)) with h | h
    · rw [h]
      split
      · exact List.mem_cons_of_mem _ List.mem_cons_self
      · exact List.mem_cons_self
    · exact List.mem_cons_of_mem _ (List.mem_cons_of_mem _ h)
theorem maxV_mem : ∀ (xs : List Val) (x : Val), maxV x xs ∈ x :: xs
  | [], x => List.mem_cons_self
  | y :: ys, x => by
    show maxV (if vlt x y then y else x) ys ∈ _
    rcases List.mem_cons.mp (maxV_mem ys (if vlt x y then y else x)) with h | h
    · rw [h]
      split
      · exact List.mem_cons_of_mem _ List.mem_cons_self
      · exact List.mem_cons_self
    · exact List.mem_cons_of_mem _ (List.mem_cons_of_mem _ h)
theorem toDs_inj (n : Nat) (ih : ∀ (x y : Val), vok n x = true → vok n y = true → toD x = toD y → x = y) : ∀ (xs ys : List Val), xs.all (vok n) = true → ys.all (vok n) = true → toDs xs = toDs ys → xs = ys
  | [], [], _, _, _ => rfl
  | [], y :: ys, _, _, e => by rw [toDs, toDs] at e; cases e
  | x :: xs, [], _, _, e => by rw [toDs, toDs] at e; cases e
  | x :: xs, y :: ys, h, k, e => by
    rw [List.all_cons, Bool.and_eq_true] at h k
    rw [toDs, toDs] at e
    obtain ⟨e1, e2⟩ := List.cons.inj e
    rw [ih x y h.1 k.1 e1, toDs_inj n ih xs ys h.2 k.2 e2]
theorem toD_inj : ∀ (n : Nat) (x y : Val), vok n x = true → vok n y = true → toD x = toD y → x = y
  | 0, x, y, h, k, e => by
    cases x <;> first | (cases h; done) | skip
    all_goals (cases y <;> first | (cases k; done) | skip)
    all_goals (simp only [toD] at e; first | rfl | (cases e; rfl) | (cases e; done))
  | n + 1, x, y, h, k, e => by
    cases x <;> first | (cases h; done) | skip
    all_goals (cases y <;> first | (cases k; done) | skip)
    all_goals (simp only [toD] at e; first | rfl | (cases e; done) | skip)
    all_goals first
      | (cases e; rfl)
      | (exact congrArg _ (toDs_inj n (toD_inj n) _ _ h k (PyData.tuple.inj e)))
      | (exact congrArg _ (toDs_inj n (toD_inj n) _ _ h k (PyData.list.inj e)))
theorem toD_none {x : Val} (h : vok 60 x = true) (e : toD x = .none) : isN x = true := by
  cases x <;> first | rfl | (cases h; done) | (simp only [toD] at e; cases e)
theorem allAlike_iff {xs : List Val} (h : allAlike xs = true) : (∀ x ∈ xs, vok 60 x = true ∧ isN x = false) ∧ ∀ x ∈ xs, ∀ y ∈ xs, valike x y = true := by
  unfold allAlike at h
  rw [List.all_eq_true] at h
  refine ⟨fun x m => ?_, fun x m y m' => ?_⟩
  · have q := h x m
    simp only [Bool.and_eq_true, Bool.not_eq_true'] at q
    exact q.1
  · have q := h x m
    simp only [Bool.and_eq_true, List.all_eq_true] at q
    exact q.2 y m'
theorem allAlike_of {xs : List Val} (h1 : ∀ x ∈ xs, vok 60 x = true ∧ isN x = false) (h2 : ∀ x ∈ xs, ∀ y ∈ xs, valike x y = true) : allAlike xs = true := by
  unfold allAlike
  rw [List.all_eq_true]
  intro x m
  simp only [Bool.and_eq_true, Bool.not_eq_true', List.all_eq_true]
  exact ⟨h1 x m, fun y m' => h2 x m y m'⟩
theorem allAlike_D {xs : List Val} (h : allAlike xs = true) : AlikeAll (toDs xs) := by
  obtain ⟨h1, h2⟩ := allAlike_iff h
  rw [toDs_map]
  refine ⟨fun d m d' m' => ?_, fun d m e => ?_⟩
  · obtain ⟨x, hx, rfl⟩ := List.mem_map.mp m
    obtain ⟨y, hy, rfl⟩ := List.mem_map.mp m'
    exact h2 x hx y hy
  · obtain ⟨x, hx, rfl⟩ := List.mem_map.mp m
    obtain ⟨k1, k2⟩ := h1 x hx
    rw [toD_none k1 e] at k2
    cases k2
theorem depth_all : ∀ {xs : List Val} {n : Nat}, (∀ x ∈ xs, vok n x = true) → PyData.depthAll (toDs xs) ≤ n
  | [], n, _ => Nat.zero_le _
  | x :: xs, n, h => by
    rw [toDs, PyData.depthAll]
    exact Nat.max_le.mpr ⟨(vok_shape n x (h x List.mem_cons_self)).2, depth_all fun y m => h y (List.mem_cons_of_mem _ m)⟩
theorem vals_at : ∀ {us : List V} {its : List Value}, Vals us its → ∀ (i : Nat) (v : Value), its[i]? = some v → ∃ u, us[i]? = some u ∧ RelV u v
  | _, _, .nil, i, v, h => by simp at h
  | _, _, .cons r rs, 0, v, h => by
    have e := Option.some.inj (show some _ = some v from h)
    subst e
    exact ⟨_, rfl, r⟩
  | _, _, .cons r rs, i + 1, v, h => by
    obtain ⟨u, h1, h2⟩ := vals_at rs i v (by simpa using h)
    exact ⟨u, by simpa using h1, h2⟩
/-- the least, the greatest of a list of alike data: the item that stands there -/
def rPickD (K : PySem.W.Frag) (pick : PyData → List PyData → PyData) : List V → Hp → VK → Prop := fun vs H Q => ∃ (a : Addr) (us : List V) (d : PyData) (ds : List PyData), vs = [V.ref a] ∧ SqL K H a us ∧ DpAll K H us (d :: ds) ∧ AlikeAll (d :: ds) ∧ PyData.depthAll (d :: ds) ≤ 60 ∧
  ∀ (i : Nat) (u : V), us[i]? = some u → (d :: ds)[i]? = some (pick d ds) → Q u H
section
variable {X : Cx}
theorem minD_mem : ∀ (ds : List PyData) (d : PyData), minD d ds ∈ d :: ds
  | [], x => List.mem_cons_self
  | y :: ys, x => by
    show minD (if dataLt y x then y else x) ys ∈ _
    rcases List.mem_cons.mp (minD_mem ys (if dataLt y x then y else x)) with h | h
    · rw [h]
      split
      · exact List.mem_cons_of_mem _ List.mem_cons_self
      · exact List.mem_cons_self
    · exact List.mem_cons_of_mem _ (List.mem_cons_of_mem _ h)
theorem maxD_mem : ∀ (ds : List PyData) (d : PyData), maxD d ds ∈ d :: ds
  | [], x => List.mem_cons_self
  | y :: ys, x => by
    show maxD (if dataLt x y then y else x) ys ∈ _
    rcases List.mem_cons.mp (maxD_mem ys (if dataLt x y then y else x)) with h | h
    · rw [h]
      split
      · exact List.mem_cons_of_mem _ List.mem_cons_self
      · exact List.mem_cons_self
    · exact List.mem_cons_of_mem _ (List.mem_cons_of_mem _ h)
theorem pick_at {s : Shared} {h' : Heap} {its : List Value} {d p : PyData} {ds : List PyData} {as bs : List Addr} {i : Nat} {v : Value} (hr : ReadsAll s.heap its (d :: ds) as) (ha : AlikeAll (d :: ds)) (hp : p ∈ d :: ds) (hi : its[i]? = some v) (hv : Reads h' v p bs)
    (keep : ∀ b o, s.heap.get? b = some o → h'.get? b = some o) : (d :: ds)[i]? = some p := by
  obtain ⟨cs, r, hlt, hm, _⟩ := readsAll_at hr i v hi
  have e := alike_unique _ _ _ _ _ (ha.1 _ hm _ hp) (reads_keeps keep r) hv
  rw [← e, List.getElem?_eq_getElem hlt, List.getD_eq_getElem?_getD, List.getElem?_eq_getElem hlt]
  rfl
theorem cr_minD (hc : X.calm = true) (hu : X.A.units + 64 < cLine) : CallR X (.builtin "min") (rPickD X.K minD) := by
  intro pins s σ H vs us Q I r h
  obtain ⟨a, ws, d, ds, rfl, hs, hd, ha, hn, q⟩ := h
  obtain ⟨its, rv, hl, _⟩ := I.list hs
  rw [Vals.ref1 r]
  obtain ⟨as, hr⟩ := Dp.readsAll I _ _ _ hd rv
  refine min_list_data (I.ok.hd hc) hl.isList (by simpa using hr) ha (by omega) fun i v h' tk bs hi hv keep => ?_
  have hi' : its[i]? = some v := by simpa using hi
  obtain ⟨u, h1, h2⟩ := vals_at rv i v hi'
  exact ⟨u, H, I.kept keep, h2, q i u h1 (pick_at hr ha (minD_mem ds d) hi' hv keep)⟩
theorem cr_maxD (hc : X.calm = true) (hu : X.A.units + 64 < cLine) : CallR X (.builtin "max") (rPickD X.K maxD) := by
  intro pins s σ H vs us Q I r h
  obtain ⟨a, ws, d, ds, rfl, hs, hd, ha, hn, q⟩ := h
  obtain ⟨its, rv, hl, _⟩ := I.list hs
  rw [Vals.ref1 r]
  obtain ⟨as, hr⟩ := Dp.readsAll I _ _ _ hd rv
  refine max_list_data (I.ok.hd hc) hl.isList (by simpa using hr) ha (by omega) fun i v h' tk bs hi hv keep => ?_
  have hi' : its[i]? = some v := by simpa using hi
  obtain ⟨u, h1, h2⟩ := vals_at rv i v hi'
  exact ⟨u, H, I.kept keep, h2, q i u h1 (pick_at hr ha (maxD_mem ds d) hi' hv keep)⟩
theorem pick_end {g : Gm} {Zs : Addr → Prop} {H : Hp} {x p : Val} {xs : List Val} {pk : PyData} {us : List V} {Q : VK} {i : Nat} {u : V} (z : Zd Zs H) (rl : RvL g Zs H (x :: xs) us) (h1 : ∀ y ∈ x :: xs, vok 60 y = true ∧ isN y = false) (hp : p ∈ x :: xs) (e : toD p = pk)
    (q : Ans g Zs H (.v p) Q) (hi : us[i]? = some u) (hd : (toDs (x :: xs))[i]? = some pk) : Q u H := by
  rw [toDs_map, List.getElem?_map] at hd
  cases hx : (x :: xs)[i]? with
  | none => rw [hx] at hd; cases hd
  | some y =>
    rw [hx] at hd
    have hd' : toD y = pk := Option.some.inj hd
    have my := List.mem_of_getElem? hx
    have ep : y = p := toD_inj 60 _ _ (h1 y my).1 (h1 p hp).1 (hd'.trans e.symm)
    subst ep
    obtain ⟨w, h2, h3⟩ := rl.get hx
    rw [hi] at h2
    cases h2
    exact q.val z h3
theorem cs_minD (hc : X.calm = true) (hu : X.A.units + 64 < cLine) : CallS X (.builtin "min") fMinD := by
  have cs : ∀ {xs z}, fMinD xs = some z → ∃ (x : Val) (r : List Val), xs = [.lst (x :: r)] ∧ allAlike (x :: r) = true ∧ z = .v (minV x r) := fun {xs z} h => by
    unfold fMinD at h; split at h
    · split at h
      · rename_i c
        cases h
        exact ⟨_, _, rfl, c, rfl⟩
      · cases h
    · cases h
  refine ⟨⟨_, cr_minD hc hu, fun Zs H xs z us Q zd hf hx q => ?_⟩, fun xs i h => ?_⟩
  · obtain ⟨x, r, rfl, ca, rfl⟩ := cs hf
    obtain ⟨u, rfl, h⟩ := hx.one
    obtain ⟨a, ws, rfl, hl, rl⟩ := h.lst
    obtain ⟨h1, h2⟩ := allAlike_iff ca
    refine ⟨a, ws, toD x, toDs r, rfl, .inl hl, rl.dp 60 (List.all_eq_true.mpr fun y m => (h1 y m).1), allAlike_D ca, depth_all (xs := x :: r) fun y m => (h1 y m).1, fun i u hi hd => ?_⟩
    exact pick_end zd rl h1 (minV_mem r x) (minV_toD r x) q hi hd
  · obtain ⟨_, _, _, _, e⟩ := cs h; cases e
theorem cs_maxD (hc : X.calm = true) (hu : X.A.units + 64 < cLine) : CallS X (.builtin "max") fMaxD := by
  have cs : ∀ {xs z}, fMaxD xs = some z → ∃ (x : Val) (r : List Val), xs = [.lst (x :: r)] ∧ allAlike (x :: r) = true ∧ z = .v (maxV x r) := fun {xs z} h => by
    unfold fMaxD at h; split at h
    · split at h
      · rename_i c
        cases h
        exact ⟨_, _, rfl, c, rfl⟩
      · cases h
    · cases h
  refine ⟨⟨_, cr_maxD hc hu, fun Zs H xs z us Q zd hf hx q => ?_⟩, fun xs i h => ?_⟩
  · obtain ⟨x, r, rfl, ca, rfl⟩ := cs hf
    obtain ⟨u, rfl, h⟩ := hx.one
    obtain ⟨a, ws, rfl, hl, rl⟩ := h.lst
    obtain ⟨h1, h2⟩ := allAlike_iff ca
    refine ⟨a, ws, toD x, toDs r, rfl, .inl hl, rl.dp 60 (List.all_eq_true.mpr fun y m => (h1 y m).1), allAlike_D ca, depth_all (xs := x :: r) fun y m => (h1 y m).1, fun i u hi hd => ?_⟩
    exact pick_end zd rl h1 (maxV_mem r x) (maxV_toD r x) q hi hd
  · obtain ⟨_, _, _, _, e⟩ := cs h; cases e
/-- one of two readings of a built-in function -/
def fOr (f g : List Val → Option RV) : List Val → Option RV := fun xs => match f xs with
  | some r => some r
  | none => g xs
theorem cs_or {F : Value} {f g : List Val → Option RV} (h : CallS X F f) (k : CallS X F g) : CallS X F (fOr f g) := by
  obtain ⟨r, h1, h2⟩ := h.ex
  obtain ⟨r', k1, k2⟩ := k.ex
  refine ⟨⟨fun vs H Q => r vs H Q ∨ r' vs H Q, ?_, fun Zs H xs z us Q zd hf hx q => ?_⟩, fun xs i e => ?_⟩
  · intro pins s σ H vs us Q I rr h
    rcases h with h | h
    · exact h1 pins s σ H vs us Q I rr h
    · exact k1 pins s σ H vs us Q I rr h
  · unfold fOr at hf
    cases e : f xs with
    | some w =>
      rw [e] at hf
      exact .inl (h2 Zs H xs z us Q zd (by rw [e]; exact hf) hx q)
    | none =>
      rw [e] at hf
      exact .inr (k2 Zs H xs z us Q zd hf hx q)
  · unfold fOr at e
    cases e1 : f xs with
    | some w => rw [e1] at e; exact h.nb xs i (e1.trans e)
    | none => rw [e1] at e; exact k.nb xs i e
def fMinX : List Val → Option RV := fOr fMinL fMinD
def fMaxX : List Val → Option RV := fOr fMaxL fMaxD
theorem cs_minX (hc : X.calm = true) (hu : X.A.units + 64 < cLine) : CallS X (.builtin "min") fMinX := cs_or (cs_minL hc) (cs_minD hc hu)
theorem cs_maxX (hc : X.calm = true) (hu : X.A.units + 64 < cLine) : CallS X (.builtin "max") fMaxX := cs_or (cs_maxL hc) (cs_maxD hc hu)
end
end Z
set_option maxHeartbeats 4000000
/-! ZP: t * k, sum and enumerate of a tuple. -/
namespace L2
open PySem PySem.Spec PyProof.Rows
theorem tuple_mul1 (l : Addr) (items : Array Value) (n : Nat) (dd : Option Addr) (sl : Array (Option Value)) (u : Tok) :
    Meets (Builtin.«tuple.__mul__» ⟨[.ref l, .int 1 u], []⟩) (fun _ R s => s.heap.get? l = some { cls := .type "tuple", dict := dd, data := .seq items n, slots := sl } ∧
      R (.ok (.ret (Value.ref l))) s) :=
  .of_wp fun prog w A R s h => by
    obtain ⟨hp, g, d, tk, os⟩ := s
    obtain ⟨hl, h⟩ := h
    have f1 := AutoSeq1.idx_int
    have c1 : (items.isEmpty || ((1 : Int) == 1)) = true := by simp
    wp_walk using wpAny_loadPart' hl
    repeat (first
      | (refine wpAny_ite_false (decide_eq_false (by simp)) ?_; wp_walk using wpAny_loadPart' hl)
      | (refine wpAny_ite_true (decide_eq_true c1) ?_; wp_walk using wpAny_loadPart' hl))
    exact ⟨_, rfl, h⟩
theorem tuple_mul0 (l : Addr) (items : Array Value) (n : Nat) (dd : Option Addr) (sl : Array (Option Value)) (x : Int) (u : Tok) (c0 : (decide (x < -(2 ^ 63)) || decide (x ≥ 2 ^ 63)) = false) (c1 : (items.isEmpty || x == 1) = false) (c2 : (decide (x ≤ 0) || items.isEmpty) = true) :
    Meets (Builtin.«tuple.__mul__» ⟨[.ref l, .int x u], []⟩) (fun _ R s => s.heap.get? l = some { cls := .type "tuple", dict := dd, data := .seq items n, slots := sl } ∧
      R (.ok (.ret (Value.ref s.heap.objs.size))) { s with heap := s.heap.push { cls := Value.type "tuple", data := Data.seq #[] }, toks := s.toks }) :=
  .of_wp fun prog w A R s h => by
    obtain ⟨hp, g, d, tk, os⟩ := s
    obtain ⟨hl, h⟩ := h
    have f1 := AutoSeq1.idx_int
    wp_walk using wpAny_loadPart' hl
    repeat (first
      | (refine wpAny_ite_false (decide_eq_false (by rw [c0]; exact Bool.false_ne_true)) ?_; wp_walk using wpAny_loadPart' hl)
      | (refine wpAny_ite_false (decide_eq_false (by rw [c1]; exact Bool.false_ne_true)) ?_; wp_walk using wpAny_loadPart' hl)
      | (refine wpAny_ite_true (decide_eq_true c2) ?_; wp_walk using wpAny_loadPart' hl))
    exact ⟨_, rfl, h⟩
def rRepT1 (K : PySem.W.Frag) : R2 := fun x y H Q => ∃ l k xs, x = .ref l ∧ y = .int k ∧ SqT K H l xs ∧ xs ≠ [] ∧ -1000 ≤ k ∧ k ≤ 1 ∧ (k = 1 → Q (.ref l) H) ∧ (k ≠ 1 → ∀ p, H p = none → Q (.ref p) (upd H p (.tup [])))
section
variable {X : Cx}
theorem op_repT1 : OpR X (binaryOp .Mult) (rRepT1 X.K) := by
  intro pins s σ H x y v u Q I rx ry h
  obtain ⟨l, k, xs, rfl, rfl, hT, hne, h1, h2, q1, q0⟩ := h
  cases rx
  obtain ⟨t, rfl⟩ := ry
  obtain ⟨its, r, ⟨⟨cls, dd, data, sl⟩, ho, hc, n, hd⟩, hs⟩ := I.tuple hT
  simp only at hc hd
  subst hc hd
  have hle : its.length = xs.length := r.length.symm
  have hn : its ≠ [] := fun e => hne (by
    rw [e] at hle
    exact List.eq_nil_of_length_eq_zero hle.symm)
  have hi : its.toArray.isEmpty = false := by
    cases its with
    | nil => exact absurd rfl hn
    | cons a b => rfl
  refine wpAny_binaryOp_repeat_ref (T := "tuple") (U := "int") (by decide) ⟨_, ho, rfl⟩ (fun s' => typeIs_int s' k t) noFill_tuple_mul F.fills_int_mul F.slot_int_rmul repeat_tuple F.slot_int_index.lookup
    (call_meets F.slot_int_rmul (typeIs_int s k t) F.entry_int_rmul (F.args_int_rmul_2 _ _) (int_rmul_tuple k t l its.toArray n dd sl) ⟨ho, rfl, ⟨_, ho, rfl⟩, ?_⟩)
  by_cases e : k = 1
  · subst e
    refine call_meets F.slot_tuple_mul ⟨_, ho, rfl⟩ F.entry_tuple_mul (F.args_tuple_mul_2 _ _) (tuple_mul1 l its.toArray n dd sl t) ⟨ho, ?_⟩
    exact ⟨.ref l, H, I, rfl, q1 rfl⟩
  · refine call_meets F.slot_tuple_mul ⟨_, ho, rfl⟩ F.entry_tuple_mul (F.args_tuple_mul_2 _ _) (tuple_mul0 l its.toArray n dd sl k t ?_ ?_ ?_) ⟨ho, ?_⟩
    · rw [decide_eq_false (by omega), decide_eq_false (by omega)] <;> rfl
    · rw [hi, Bool.false_or]
      exact beq_eq_false_iff_ne.mpr e
    · rw [decide_eq_true (show k ≤ 0 by omega), Bool.true_or]
    · refine ⟨.ref s.heap.objs.size, _, I.laid (t' := s.toks) (o := .tup []) (fun b ob q => Heap.get?_push_of_some _ q) (Nat.le_refl _) ?_, rfl, q0 e _ (I.hok.fresh (Nat.le_refl _))⟩
      exact ⟨Nat.zero_le _, [], .nil, IsTup.new _ _⟩
/-- sum of a tuple of ints -/
def rSumT (K : PySem.W.Frag) : List V → Hp → VK → Prop := fun vs H Q => ∃ (a : Addr) (ns : List Int), vs = [V.ref a] ∧ SqT K H a (ns.map V.int) ∧ Q (.int ns.sum) H
theorem iter_tupI {A : Around} {P : Program} {w : World} {E : Value → Shared → Prop} {s : Shared} {l : Addr} {xs : Array Value} {Q : Value → Shared → Prop} (hl : s.heap.IsTuple l xs)
    (h : ∀ s₂ : Shared, s₂ = { s with heap := s.heap.push { cls := .type "tuple_iterator", data := .fields #[.ref l, .int 0 0] } } →
      (s₂.heap.IsTupleIter s.heap.objs.size l 0 ∧ s₂.heap.IsTuple l xs) → (∀ b ∈ [s.heap.objs.size, l], b < s₂.heap.objs.size) → l ≠ s.heap.objs.size → Q (.ref s.heap.objs.size) s₂) :
    wpAny (model P w) A (pyIter (.ref l)) Q E s := by
  have hlt : l < s.heap.objs.size := by obtain ⟨_, e, _⟩ := hl; exact Heap.lt_size e
  refine wpAny_pyIter_tuple hl (h _ rfl ⟨⟨_, Heap.get?_push_size _ rfl, rfl, rfl⟩, hl.push _⟩ (fun b hb => ?_) (Nat.ne_of_lt hlt))
  show b < (s.heap.push _).objs.size
  rw [Heap.size_push]
  rcases List.mem_cons.mp hb with rfl | hb
  · exact Nat.lt_succ_self _
  · rcases List.mem_cons.mp hb with rfl | hb
    · exact Nat.lt_succ_of_lt hlt
    · cases hb
theorem sum_tup_raw {A : Around} {P : Program} {w : World} {E : Value → Shared → Prop} {s : Shared} {l : Addr} {its : List Value} {ns : List Int} {Q : Value → Shared → Prop} (hh : A.handled = none) (hl : s.heap.IsTuple l its.toArray) (hi : IntsAre its ns)
    (h : ∀ h' tk t', (∀ b o, s.heap.get? b = some o → h'.get? b = some o) → Q (.int ns.sum t') { s with heap := h', toks := tk }) : wpAny (model P w) A (call (.builtin "sum") [.ref l]) Q E s := by
  obtain ⟨xs, e⟩ := hi.allInts.items
  have hn : numsOf (intItems xs).toList = ns := by rw [← e]; exact hi.numsOf
  rw [nums_intItems] at hn
  rw [e] at hl
  refine call_sum_walkG (iter_tupI hl fun s₂ e st hfp hlI => ?_)
  subst e
  refine ⟨_, _, _, _, _, _, numAt xs, rfl, Walks.tuple (A := A.in1) hh _ l hlI (intItems xs), st, hfp, (fun _ _ => intItems_at), fun h' tk t' hk => ?_⟩
  have := h h' tk t' fun b o eb => hk b o (fun z => absurd (Heap.lt_size eb) ((List.mem_singleton.mp z) ▸ Nat.lt_irrefl _)) (Heap.get?_push_of_some _ eb)
  have e3 : preSum (numAt xs) (intItems xs).size = ns.sum := by
    rw [show (intItems xs).size = xs.size by simp [intItems], preSum_eq, List.take_of_length_le (by simp), hn]
  rw [e3]
  exact this
theorem cr_sumT (hc : X.calm = true) : CallR X (.builtin "sum") (rSumT X.K) := by
  intro pins s σ H vs us Q I r h
  obtain ⟨a, ns, rfl, hs, q⟩ := h
  obtain ⟨its, rv, hl, _⟩ := I.tuple hs
  rw [Vals.ref1 r]
  exact sum_tup_raw (I.ok.hd hc) (show s.heap.IsTuple a its.toArray from hl) rv.ints fun h' tk t' hk => ⟨.int _, H, I.kept hk, ⟨_, rfl⟩, q⟩
/-! ### enumerate of a tuple -/
theorem meets_enumerate_newT (l : Addr) (items : Array Value) (n : Nat) (dct : Option Addr) (sl : Array (Option Value)) :
    Meets (Builtin.«enumerate.__new__» ⟨[.type "enumerate", .ref l], []⟩) (fun _ R s => s.heap.get? l = some { cls := .type "tuple", dict := dct, data := .seq items n, slots := sl } ∧
      R (.ok (.ret (.ref (s.heap.push { cls := .type "tuple_iterator", data := .fields #[.ref l, .int 0 0] }).objs.size)))
        { s with heap := (s.heap.push { cls := .type "tuple_iterator", data := .fields #[.ref l, .int 0 0] }).push { cls := .type "enumerate", data := .fields #[.none, .bool false, .ref s.heap.objs.size, rawInt 0, .none, .none] } }) :=
  .of_wp fun prog w A R s h => by
    obtain ⟨hp, g, d, tk, os⟩ := s; obtain ⟨hl, h⟩ := h
    have hsub := sub_enumerate
    have hL : Heap.IsTuple (Shared.heap ⟨hp, g, d, tk, os⟩) l items := ⟨_, hl, rfl, n, rfl⟩
    wp_walk using AutoSeq1.wpAny_loadPart' hl
    refine wpAny_stack_any fun st => wpAny_pure ?_
    split
    · rename_i c _ _ _ _ _
      cases (c == Value.type "enumerate")
      · wp_walk using AutoSeq1.wpAny_loadPart' hl, wpAny_pyIter_tuple hL
        exact ⟨_, rfl, h⟩
      · wp_walk using AutoSeq1.wpAny_loadPart' hl, wpAny_pyIter_tuple hL
        exact ⟨_, rfl, h⟩
    · wp_walk using AutoSeq1.wpAny_loadPart' hl, wpAny_pyIter_tuple hL
      exact ⟨_, rfl, h⟩
theorem call_enumerate_tuple {A : Around} {P : Program} {w : World} {E : Value → Shared → Prop} {s : Shared} {l : Addr} {items : Array Value} {Q : Value → Shared → Prop} (hL : s.heap.IsTuple l items)
    (h : ∀ h', IsEnum h' (s.heap.objs.size + 1) s.heap.objs.size 0 .none → h'.IsTupleIter s.heap.objs.size l 0 → h'.objs.size = s.heap.objs.size + 2 →
      (∀ b o, s.heap.get? b = some o → h'.get? b = some o) → Q (.ref (s.heap.objs.size + 1)) { s with heap := h' }) :
    wpAny (model P w) A (call (.type "enumerate") [.ref l]) Q E s := by
  obtain ⟨⟨c, dct, dt, sl⟩, hl, hc, n, hd⟩ := hL
  replace hc : c = .type "tuple" := hc
  replace hd : dt = .seq items n := hd
  subst hc hd
  refine callType_new F.called_enumerate (by decide) (F.typeCall_enumerate_1 _) (F.newCall_enumerate_1 _) (fun obj => F.args_object_init_2 obj _) F.entry_enumerate_new
    (meets_enumerate_newT l items n dct sl) ⟨hl, ?_⟩
  have hz : (s.heap.push { cls := .type "tuple_iterator", data := .fields #[.ref l, .int 0 0] }).objs.size = s.heap.objs.size + 1 := Heap.size_push ..
  show _ ∧ _
  rw [hz]
  have he : IsEnum ((s.heap.push { cls := .type "tuple_iterator", data := .fields #[.ref l, .int 0 0] }).push
      { cls := .type "enumerate", data := .fields #[.none, .bool false, .ref s.heap.objs.size, rawInt 0, .none, .none] }) (s.heap.objs.size + 1) s.heap.objs.size 0 .none := by
    have := Heap.get?_push_size (s.heap.push { cls := .type "tuple_iterator", data := .fields #[.ref l, .int 0 0] })
      (o := { cls := .type "enumerate", data := .fields #[.none, .bool false, .ref s.heap.objs.size, rawInt 0, .none, .none] }) rfl
    rw [hz] at this; exact this
  refine ⟨⟨_, he, rfl⟩, h _ he ⟨_, Heap.get?_push_of_some _ (Heap.get?_push_size _ rfl), rfl, rfl⟩ (by rw [Heap.size_push, hz]) fun b o x => Heap.get?_push_of_some _ (Heap.get?_push_of_some _ x)⟩
def IteT (K : PySem.W.Frag) (a : Addr) : It :=
  ⟨fun i H => ∃ (xs : List V) (x : V), SqT K H a xs ∧ xs[i]? = some x, fun i H v H' => ∃ T x, v = .ref T ∧ H T = none ∧ H' = upd H T (.tup [.int (i : Nat), x]) ∧ ∀ xs, SqT K H a xs → xs[i]? = some x, fun i H => ∃ xs : List V, SqT K H a xs ∧ xs.length ≤ i⟩
theorem turn_enumT {P : Program} {w : World} {K : PySem.W.Frag} {elts : List Expr} {kk : Nat} {tpos : Pos} (a e it : Addr) :
    Turn P w K (.Tuple elts kk tpos) (IteT K a) [e, it] e (fun i h => (∃ old, IsEnum h e it ((i : Nat) : Int) old) ∧ h.IsTupleIter it a i ∧ e ≠ it) where
  mem := by simp
  obj := fun i h st b hb => by
    obtain ⟨⟨old, he⟩, ⟨o, ho, hc, hd⟩, _⟩ := st
    have e' : b = e ∨ b = it := by simpa using hb
    rcases e' with z | z
    · rw [z]; exact ⟨_, he, fun v q => nomatch q⟩
    · rw [z]; exact ⟨o, ho, fun v q => by rw [hd] at q; cases q⟩
  keep := fun i h h' st k => let ⟨⟨old, he⟩, hi, hne⟩ := st; ⟨⟨old, k e (by simp) _ he⟩, hi.at fun o q => k it (by simp) o q, hne⟩
  item := by
    intro X hP hw hK hc i pins s σ H E I hf st hg
    subst hP hw hK
    obtain ⟨⟨old, he⟩, hit, hne⟩ := st
    obtain ⟨xs, x, hq, hx⟩ := hg
    obtain ⟨its, rv, p, hz⟩ := I.tuple hq
    obtain ⟨u, hu, ru⟩ := rv.get hx
    have hel : e < s.heap.objs.size := Heap.lt_size he
    have hil : it < s.heap.objs.size := by obtain ⟨_, q, _⟩ := hit; exact Heap.lt_size q
    have hal : a < s.heap.objs.size := by obtain ⟨_, q, _⟩ := p; exact Heap.lt_size q
    have hai : a ≠ it := fun z => by
      obtain ⟨o1, q1, c1, _⟩ := p
      obtain ⟨o2, q2, c2, _⟩ := hit
      rw [z, q2] at q1
      cases q1
      rw [c2] at c1
      exact absurd (Value.type.inj c1) (by decide)
    have hae : a ≠ e := fun z => by
      obtain ⟨o1, q1, c1, _⟩ := p
      have he' := he
      unfold IsEnum at he'
      rw [z, he'] at q1
      cases q1
      exact absurd (Value.type.inj c1) (by decide)
    have pT : s.heap.IsTuple a its.toArray := p
    have hlt : i < its.toArray.size := by
      rw [List.size_toArray]
      rcases Nat.lt_or_ge i its.length with z | z
      · exact z
      · rw [List.getElem?_eq_none z] at hu; cases hu
    refine wpAny_pyNext_enum_itemD (Draws.tuple (A := X.A.in1) (I.ok.hd hc) it a hai its.toArray) he ⟨hit, pT⟩ hlt hne (fun z => ?_) fun y h' tk hy ho st' hT hsz hk => ?_
    · rcases List.mem_cons.mp z with z | z
      · exact hne z
      · exact hae (List.mem_singleton.mp z).symm
    have ey : y = u := by
      have : its.toArray[i]? = some u := by simpa using hu
      rw [this] at hy
      exact (Option.some.inj hy).symm
    subst ey
    refine ⟨_, rfl, wpAny_letOwnedTupleGo_enum (s := { s with heap := h', toks := tk + 1 }) ho fun h'' he' sb => ?_⟩
    have hT2 : h''.get? s.heap.objs.size = some { cls := .type "tuple", data := .seq #[.int i tk, y] } := (sb.2 _ (Nat.ne_of_gt hel)).trans hT
    have new : ObjOk X.prog X.w (upd H s.heap.objs.size (.tup [.int (i : Nat), x])) h'' s.heap.objs.size (.tup [.int (i : Nat), x]) :=
      ⟨by show 2 ≤ sizeLine; decide, [.int i tk, y], .cons ⟨_, rfl⟩ (.cons ru .nil), ⟨_, hT2, rfl, _, rfl⟩⟩
    have I1 : Inv X pins σ (upd H s.heap.objs.size (.tup [.int (i : Nat), x])) { s with heap := h'', toks := tk + 1 } :=
      I.turnedNew (ch := [e, it]) (fun b ob hb q => (sb.2 b (fun z => hb (by simp [z]))).trans (hk b ob (fun z => hb (by simp [z])) (fun z => hb (by simp [z])) q)) hf (Nat.le_refl _) new
    refine ⟨.ref s.heap.objs.size, _, I1, rfl, ⟨_, x, rfl, I.hok.fresh (Nat.le_refl _), rfl, fun ys hy => by rw [I.tuple_inj hy hq]; exact hx⟩, ⟨⟨y, ?_⟩, st'.1.at fun o q => (sb.2 it (Ne.symm hne)).trans q, hne⟩, fun b hb => ?_⟩
    · have e1 : ((i + 1 : Nat) : Int) = (i : Int) + 1 := by omega
      rw [e1]; exact he'
    · have hb' : b < s.heap.objs.size := by
        have e' : b = e ∨ b = it := by simpa using hb
        rcases e' with z | z
        · rw [z]; exact hel
        · rw [z]; exact hil
      rw [upd_ne (Nat.ne_of_lt hb')]
      exact (hf b hb).1
  done := by
    intro X hP hw hK hc i pins s σ H E I hf st hg
    subst hP hw hK
    obtain ⟨⟨old, he⟩, hit, hne⟩ := st
    obtain ⟨xs, hq, hx⟩ := hg
    obtain ⟨its, rv, p, hz⟩ := I.tuple hq
    obtain ⟨f0, f1, f2, f3, f4, f5⟩ := hf it (by simp)
    have hl := rv.length
    have hT : s.TypeIs (.ref e) "enumerate" := ⟨_, he, rfl⟩
    have pT : s.heap.IsTuple a its.toArray := p
    unfold pyNext
    refine wpAny_bind (wpAny_attempt (wpAny_callSpecial?_slot (name := Str.ofString "__next__") hT F.slot_enumerate_next
      (wpAny_call_entry F.slot_enumerate_next hT F.entry_enumerate_next ?_ (F.args_enumerate_next_1 _))))
    show wpAny _ _ (field (.ref e) 2 >>= _) _ _ _
    refine wpAny_bind (wpAny_field he rfl (x := .ref it) rfl ?_)
    refine wpAny_bind (wpAny_nextOf_tuple_end (I.ok.hd hc) hit pT (by simp; omega) fun h' x he' hx' => ?_)
    obtain ⟨o, ho, hcl⟩ := hx'
    refine wpAny_bind (wpAny_isInstance (T := "StopIteration") (b := true) ⟨o, ho, hcl⟩ isSubtype_stop ?_)
    exact wpAny_pure ⟨rfl, I.turned (t' := s.toks) (fun b o hb q => he' b o hb q) f0 f1 f3 f4 f5⟩
  self := fun A i s Q E st h => let ⟨⟨_, he⟩, _⟩ := st; wpAny_pyIter_enum he h
def iEnumX (K : PySem.W.Frag) (ta : TA) : TI := fun σ H R => ta σ H fun vs H1 => ∃ a xs, vs = [.ref a] ∧ ((SqL K H1 a xs ∧ R (Ite K a) H1) ∨ (SqT K H1 a xs ∧ R (IteT K a) H1))
theorem pi_enumX {e : Expr} {ta : TA} {p pos tpos : Pos} {elts : List Expr} {kk : Nat} (hg : Gl X "enumerate") (hm : X.mg "enumerate" = none) (ha : PA X [e] ta) (hs : starEach [e] X.env = [(false, eval e X.env)] := by rfl) :
    PI X (.Tuple elts kk tpos) (.Call (.Name "enumerate" p) [e] [] pos) (iEnumX X.K ta) := by
  refine ⟨fun pins s σ H R I h => ?_⟩
  refine Call_ (ld_blt I hg hm boot_enumerate (PyProof.Rows.callWith_type1 (thn (ha.run pos pins s σ H _ I h) fun us s1 ⟨vs, H1, I1, r1, q1⟩ => ?_) hs rfl))
  obtain ⟨a, xs, ex, q1⟩ := q1
  subst ex
  cases r1 with
  | cons r rr =>
    cases rr
    cases r
    have fp : ∀ b ∈ [s1.heap.objs.size + 1, s1.heap.objs.size], s1.heap.objs.size ≤ b := fun b hb => by
      have e' : b = s1.heap.objs.size + 1 ∨ b = s1.heap.objs.size := by simpa using hb
      rcases e' with z | z
      · rw [z]; exact Nat.le_add_right _ _
      · rw [z]; exact Nat.le_refl _
    rcases q1 with ⟨hq, q⟩ | ⟨hq, q⟩
    · obtain ⟨its, rv, p', hz⟩ := I1.list hq
      refine call_enumerate_list p'.isList fun h' he hit hsz hk => wpAny_pyIter_enum he ?_
      have I2 : Inv X pins σ H1 { s1 with heap := h' } := I1.kept (t' := s1.toks) hk
      exact ⟨s1.heap.objs.size + 1, [s1.heap.objs.size + 1, s1.heap.objs.size], _, _, H1, rfl, I2, turn_enum a (s1.heap.objs.size + 1) s1.heap.objs.size, ⟨⟨.none, he⟩, hit, Nat.succ_ne_self _⟩, fun b hb => I1.fpOk (fp b hb) (I1.hok.fresh (fp b hb)), q⟩
    · obtain ⟨its, rv, p', hz⟩ := I1.tuple hq
      refine call_enumerate_tuple (show s1.heap.IsTuple a its.toArray from p') fun h' he hit hsz hk => wpAny_pyIter_enum he ?_
      have I2 : Inv X pins σ H1 { s1 with heap := h' } := I1.kept (t' := s1.toks) hk
      exact ⟨s1.heap.objs.size + 1, [s1.heap.objs.size + 1, s1.heap.objs.size], _, _, H1, rfl, I2, turn_enumT a (s1.heap.objs.size + 1) s1.heap.objs.size, ⟨⟨.none, he⟩, hit, Nat.succ_ne_self _⟩, fun b hb => I1.fpOk (fp b hb) (I1.hok.fresh (fp b hb)), q⟩
end
end L2
namespace Z
open PySem L2 PySem.Spec
/-! ### by content -/
def fMulT : Val → Val → Option RV
  | .tup xs, .int k => if xs ≠ [] ∧ -1000 ≤ k ∧ k ≤ 1000 ∧ xs.length ≤ 1000 then some (.v (.tup (List.replicate k.toNat xs).flatten)) else none
  | _, _ => none
def fOr2 (f g : Val → Val → Option RV) : Val → Val → Option RV := fun x y => match f x y with
  | some r => some r
  | none => g x y
section
variable {X : Cx} {xc : Xc} {W : WX} {pos tpos : Pos} {elts : List Expr} {kk : Nat}
theorem os_or {F : Value → Value → Sem Value} {f g : Val → Val → Option RV} (h : OpS X F f) (k : OpS X F g) : OpS X F (fOr2 f g) := by
  obtain ⟨r, h1, h2⟩ := h.ex
  obtain ⟨r', k1, k2⟩ := k.ex
  refine ⟨⟨_, h1.or k1, fun Zs H x y z u w Q zd hf hx hy q => ?_⟩, fun x y i e => ?_⟩
  · unfold fOr2 at hf
    cases e : f x y with
    | some t =>
      rw [e] at hf
      exact .inl (h2 Zs H x y z u w Q zd (by rw [e]; exact hf) hx hy q)
    | none =>
      rw [e] at hf
      exact .inr (k2 Zs H x y z u w Q zd hf hx hy q)
  · unfold fOr2 at e
    cases e1 : f x y with
    | some t => rw [e1] at e; exact h.nb x y i (e1.trans e)
    | none => rw [e1] at e; exact k.nb x y i e
theorem os_mulT : OpS X (binaryOp .Mult) fMulT := by
  have cs : ∀ {x y : Val} {z : RV}, fMulT x y = some z → ∃ xs k, x = .tup xs ∧ y = .int k ∧ xs ≠ [] ∧ -1000 ≤ k ∧ k ≤ 1000 ∧ xs.length ≤ 1000 ∧ z = .v (.tup (List.replicate k.toNat xs).flatten) := fun {x y z} h => by
    unfold fMulT at h
    split at h
    · split at h
      · rename_i c
        cases h
        exact ⟨_, _, rfl, rfl, c.1, c.2.1, c.2.2.1, c.2.2.2, rfl⟩
      · cases h
    · cases h
  refine ⟨⟨_, op_repT.or op_repT1, fun Zs H x y z u w Q zd hf hx hy q => ?_⟩, fun x y i h => ?_⟩
  · obtain ⟨xs, k, rfl, rfl, h1, h2, h3, h4, rfl⟩ := cs hf
    obtain ⟨a, us, rfl, hl, r⟩ := hx.tup
    have hu : us ≠ [] := fun e => by
      subst e
      cases r
      exact h1 rfl
    by_cases e : 2 ≤ k
    · exact .inl ⟨a, k, us, rfl, hy.int, hl, hu, e, h3, by rw [← r.length]; exact h4, fun p hp => q.tup zd (r.flat _) hp⟩
    · refine .inr ⟨a, k, us, rfl, hy.int, hl, hu, h2, by omega, fun e1 => ?_, fun e1 p hp => ?_⟩
      · subst e1
        refine q.val zd (.tup hl ?_)
        show RvL _ _ _ (List.replicate 1 xs).flatten us
        simpa using r
      · have : k.toNat = 0 := by omega
        rw [this] at q
        exact q.tup zd .nil hp
  · obtain ⟨_, _, _, _, _, _, _, _, e⟩ := cs h; cases e
def fMulX : Val → Val → Option RV := fOr2 fMul fMulT
theorem os_mulX : OpS X (binaryOp .Mult) fMulX := os_or os_mul os_mulT
@[simp] theorem fMulX_int (i j : Int) : fMulX (.int i) (.int j) = fMul (.int i) (.int j) := by
  unfold fMulX fOr2
  cases h : fMul (.int i) (.int j) <;> rfl
@[simp] theorem fMulX_lst (xs : List Val) (j : Int) : fMulX (.lst xs) (.int j) = fMul (.lst xs) (.int j) := by
  unfold fMulX fOr2
  cases h : fMul (.lst xs) (.int j) <;> rfl
@[simp] theorem fMulX_tup (xs : List Val) (j : Int) : fMulX (.tup xs) (.int j) = fMulT (.tup xs) (.int j) := rfl
def fSumT : List Val → Option RV
  | [.tup xs] => match ints? xs with
    | some ns => some (.v (.int ns.sum))
    | none => none
  | _ => none
theorem cs_sumT (hc : X.calm = true) : CallS X (.builtin "sum") fSumT := by
  have cs : ∀ {xs z}, fSumT xs = some z → ∃ ns : List Int, xs = [.tup (ns.map Val.int)] ∧ z = .v (.int ns.sum) := fun {xs z} h => by
    unfold fSumT at h; split at h
    · split at h
      · rename_i ns e
        cases h
        exact ⟨_, by rw [ints?_eq e], rfl⟩
      · cases h
    · cases h
  refine ⟨⟨_, cr_sumT hc, fun Zs H xs z us Q zd hf hx q => ?_⟩, fun xs i h => ?_⟩
  · obtain ⟨ns, rfl, rfl⟩ := cs hf
    obtain ⟨u, rfl, h⟩ := hx.one
    obtain ⟨a, ws, rfl, hl, rl⟩ := h.tup
    have := rl.ints
    subst this
    exact ⟨a, ns, rfl, hl, q.val zd (.int _)⟩
  · obtain ⟨_, _, e⟩ := cs h; cases e
def fSumX : List Val → Option RV := fOr fSum fSumT
theorem cs_sumX (hc : X.calm = true) : CallS X (.builtin "sum") fSumX := cs_or (cs_sum hc) (cs_sumT hc)
@[simp] theorem fSumX_lst (xs : List Val) : fSumX [.lst xs] = match ints? xs with | some ns => some (.v (.int ns.sum)) | none => none := by
  unfold fSumX fOr
  rw [fSum_lst]
  cases ints? xs <;> rfl
@[simp] theorem fSumX_tup (xs : List Val) : fSumX [.tup xs] = match ints? xs with | some ns => some (.v (.int ns.sum)) | none => none := rfl
/-- enumerate(a), a list or a tuple -/
def iEnumX (a : As) : Src := fun e => (a e).bind fun rs e1 => (escs e1 rs).bind fun xs e2 => match xs with
  | [.lst xs] => .ok (enumV xs) e2
  | [.tup xs] => .ok (enumV xs) e2
  | _ => .no
@[simp] theorem iEnumX_ap (a : As) (e : Env) : iEnumX a e = (a e).bind fun rs e1 => (escs e1 rs).bind fun xs e2 => match xs with | [.lst xs] => .ok (enumV xs) e2 | [.tup xs] => .ok (enumV xs) e2 | _ => .no := rfl
@[simp] theorem iZipS_ap (a : As) (e : Env) : iZipS a e = (a e).bind fun rs e1 => (escs e1 rs).bind fun xs e2 => match xs with | [.lst xs, .lst ys] => .ok (zipV xs ys) e2 | [.tup xs, .tup ys] => .ok (zipV xs ys) e2 | _ => .no := rfl
theorem walk_enumT {g : Gm} {Zs : Addr → Prop} {H : Hp} {a : Addr} {xs : List Val} {us : List V} (h : SqT g.K H a us) (r : RvL g Zs H xs us) : Walk g Zs H (IteT g.K a) (enumV xs) := by
  intro Z2 H2 gr zd
  have h2 := gr.sqT h
  have r2 := r.gr gr
  refine ⟨fun i x hx => ?_, fun i hi => ⟨us, h2, by rw [← r.length, ← enumV_len]; exact hi⟩⟩
  obtain ⟨y, hy, rfl⟩ := enumV_at hx
  obtain ⟨w, hw, _⟩ := r2.get hy
  refine ⟨⟨us, w, h2, hw⟩, fun u H3 q => ?_⟩
  obtain ⟨T, x', eu, hT, eH, hx'⟩ := q
  subst eu eH
  exact ⟨Z2, Ext.new zd hT, .tup (SqT.of upd_same) (.cons (.int _) (.cons ((r2.at hy (hx' us h2)).ext (Ext.new zd hT) fun _ z => z.elim) .nil))⟩
theorem si_enumX {a : Expr} {fa : As} {p : Pos} (hm : X.mg "enumerate" = none) (ha : SA X xc W [a] fa) (hg : Gl X "enumerate" := by rfl) (hs : starEach [a] X.env = [(false, eval a X.env)] := by rfl) : SI X xc W (.Tuple elts kk tpos) (.Call (.Name "enumerate" p) [a] [] pos) (iEnumX fa) := by
  refine PI_imp (pi_enumX hg hm ha hs) fun σ H R h => ?_
  obtain ⟨pa, Zs, env, re, h⟩ := h
  refine ⟨pa, Zs, env, re, ?_⟩
  unfold iEnumX at h
  cases hf : fa env with
  | no => rw [hf] at h; exact h
  | ex c fs e1 => rw [hf] at h; exact h
  | ok rs e1 =>
    rw [hf, Rs.bind_ok] at h
    intro us Z1 H1 p1 q1
    cases he : escs e1 rs with
    | no => rw [he] at h; exact h.elim
    | ex c fs e => exact absurd he (escs_ex _ _ _ _ _)
    | ok xs e2 =>
      rw [he, Rs.bind_ok] at h
      obtain ⟨Z2, P2, rl, _⟩ := escs_ok p1 q1 he
      cases rl with
      | nil => exact h.elim
      | cons rv rr =>
        cases rr with
        | cons _ _ => cases rv <;> exact h.elim
        | nil =>
          cases rv with
          | lst hs r => exact ⟨_, _, rfl, .inl ⟨hs.sq, h Z2 H1 _ P2 (walk_enum hs r)⟩⟩
          | tup hs r => exact ⟨_, _, rfl, .inr ⟨hs, h Z2 H1 _ P2 (walk_enumT hs r)⟩⟩
          | _ => exact h.elim
end
end Z
/-! ZQ: more rows for simp. -/
namespace Z
open PySem (Str)
@[simp] theorem eApp_ap (j : Nat) (a : E) (e : Env) : eApp j a e = if isOwnL (eget e j) then (a e).bind fun r e1 => (esc e1 r).bind fun x e2 => match eget e2 j with
  | .own p (.lst xs) => if xs.length < sizeMax then .ok (.v .non) (eput e2 j (.own p (.lst (xs ++ [x])))) else .no
  | _ => .no
  else .no := rfl
@[simp] theorem ePop_ap (j : Nat) (e : Env) : ePop j e = match eget e j with
  | .own p (.lst xs) => match xs[xs.length - 1]? with
    | some x => .ok (.v x) (eput e j (.own p (.lst xs.dropLast)))
    | none => .no
  | _ => .no := rfl
@[simp] theorem ePopAt_ap (j : Nat) (a : E) (e : Env) : ePopAt j a e = if isOwnL (eget e j) then (a e).bind fun r e1 => match eget e1 j, r with
  | .own p (.lst xs), .v (.int i) => if 0 ≤ i ∧ i < xs.length then match xs[i.toNat]? with
      | some x => .ok (.v x) (eput e1 j (.own p (.lst (xs.eraseIdx i.toNat))))
      | none => .no
    else .no
  | _, _ => .no
  else .no := rfl
@[simp] theorem eExt_ap (j : Nat) (a : E) (e : Env) : eExt j a e = if isOwnL (eget e j) then (a e).bind fun r e1 => match eget e1 j, r with
  | .own p (.lst xs), .own (.lst ys) => if xs.length + ys.length ≤ sizeMax then .ok (.v .non) (eput e1 j (.own p (.lst (xs ++ ys)))) else .no
  | _, _ => .no
  else .no := rfl
@[simp] theorem sAug_ap (i : Nat) (f : Val → Val → Option RV) (a : E) (e : Env) : sAug i f a e = match eget e i with
  | .v x => (a e).bind fun r e1 => (opt (peek e1 r) e1).bind fun y _ => match f x y with
    | some (.v z) => (sto e1 i (.v z)).bind fun _ e2 => .ok .nx e2
    | _ => .no
  | _ => .no := rfl
@[simp] theorem atV_c0 {α : Type} (x : α) (xs : List α) : Z.atV (x :: xs) 0 = some x := rfl
@[simp] theorem atV_c1 {α : Type} (x y : α) (xs : List α) : Z.atV (x :: y :: xs) 1 = some y := rfl
@[simp] theorem atV_c2 {α : Type} (x y z : α) (xs : List α) : Z.atV (x :: y :: z :: xs) 2 = some z := rfl
@[simp] theorem tgT_tup (ts : List Tg) (xs : List Val) (e : Env) : tgT ts (.tup xs) e = tgs ts xs e := rfl
@[simp] theorem iRange3_ap (a : As) (e : Env) : iRange3 a e = (a e).bind fun rs e1 => opt (rng3 rs) e1 := rfl
theorem rng3_int {i j : Int} (h : inR i = true) (h2 : inR j = true) : rng3 [.v (.int i), .v (.int j), .v (.int (-1))] = some (rangeD i (i - j).toNat) := by
  show (if (-1 : Int) = -1 ∧ i.natAbs < 4611686018427387904 ∧ j.natAbs < 4611686018427387904 then some (rangeD i (i - j).toNat) else none) = _
  rw [if_pos ⟨rfl, (inR_iff i).mp h, (inR_iff j).mp h2⟩]
theorem rangeD_len (i : Int) (n : Nat) : (rangeD i n).length = n := by simp [rangeD]
theorem rangeD_at {i : Int} {n k : Nat} {x : Val} (h : (rangeD i n)[k]? = some x) : k < n ∧ x = .int (i - k) := by
  unfold rangeD at h
  rw [List.getElem?_map] at h
  have hk : k < n := by
    rcases Nat.lt_or_ge k n with z | z
    · exact z
    · rw [List.getElem?_eq_none (by simpa using z)] at h
      cases h
  rw [List.getElem?_range hk] at h
  refine ⟨hk, ?_⟩
  have : Val.int (i + (k : Int) * -1) = x := Option.some.inj h
  rw [← this, show i + (k : Int) * -1 = i - k by omega]
/-- a loop downwards that runs through -/
theorem down_run {t : Tg} {b : S} {hi : Int} {n : Nat} {e : Env} (I : Nat → Env → Prop) (h0 : I 0 e) (hs : ∀ k e, k < n → I k e → ∃ e1 e2, t (.int (hi - k)) e = some e1 ∧ (b e1 = .ok .nx e2 ∨ b e1 = .ok .ct e2) ∧ I (k + 1) e2) : ∃ e', forL t b (rangeD hi n) e = .ok .nx e' ∧ I n e' := by
  have := for_run (t := t) (b := b) (xs := rangeD hi n) I h0 fun k x e h q => by
    obtain ⟨hk, rfl⟩ := rangeD_at h
    exact hs k e hk q
  rwa [rangeD_len] at this
end Z
set_option maxHeartbeats 4000000
/-! ZR: xs[::-1]. -/
namespace HT
open PySem PyProof.Rows
section
variable {prog : Program} {w : World} {A : Around} {E : Value → Shared → Prop} {s : Shared}
theorem adjust_rev (n : Nat) : Builtin.Slice.sliceAdjust none none (-1) (n : Int) = ((n : Int) - 1, -1) := by
  unfold Builtin.Slice.sliceAdjust
  simp
theorem places_rev (n : Nat) : Builtin.Slice.slicePlaces ((n : Int) - 1) (-1) (-1) = n := by
  unfold Builtin.Slice.slicePlaces
  have h1 : ¬ ((-1 : Int) > 0) := by omega
  simp only [h1, if_false]
  by_cases h : n = 0
  · subst h
    simp
  · rw [if_pos (by omega)]
    have : ((n : Int) - 1 - -1 - 1) / (- -1) + 1 = (n : Int) := by
      rw [show (- -1 : Int) = 1 by decide, Int.ediv_one]
      omega
    first
      | omega
      | (rw [show (- -1 : Int) = 1 by decide, Int.ediv_one]; omega)
      | (simp; omega)
theorem sliceApplied_rev {sl : Addr} {vl vu vs : Value} {n : Nat} {Q : Int × Int × Nat → Shared → Prop} (hs : s.heap.IsSliceOf sl vl vu vs) (pl : IsPart vl none) (pu : IsPart vu none) (ps : IsPart vs (some (-1)))
    (h : Q ((n : Int) - 1, -1, n) s) : wpAny (model prog w) A (Builtin.Slice.sliceApplied (.ref sl) (pure (n : Int))) Q E s := by
  obtain ⟨os, hos, hcs, hds⟩ := id hs
  unfold Builtin.Slice.sliceApplied Builtin.Slice.sliceFields
  refine wpAny_bind (wpAny_bind (wpAny_field hos hds (x := vl) rfl (wpAny_bind (wpAny_field hos hds (x := vu) rfl (wpAny_bind (wpAny_field hos hds (x := vs) rfl (wpAny_pure ?_)))))))
  refine wpAny_bind (slicePart_ ps ?_)
  show wpAny _ _ (if ((-1 : Int) == 0) = true then _ else _) _ _ s
  rw [if_neg (by decide)]
  refine wpAny_bind (slicePart_ pl (wpAny_bind (slicePart_ pu (wpAny_bind (wpAny_pure ?_)))))
  show wpAny _ _ (match Builtin.Slice.sliceAdjust none none (-1) (n : Int) with | (lo, hi) => pure (lo, (-1 : Int), Builtin.Slice.slicePlaces lo hi (-1))) _ _ s
  rw [adjust_rev n]
  show wpAny _ _ (pure ((n : Int) - 1, (-1 : Int), Builtin.Slice.slicePlaces ((n : Int) - 1) (-1) (-1))) _ _ s
  rw [places_rev]
  exact wpAny_pure h
theorem fm_congr {α β : Type} {f g : α → Option β} : ∀ {l : List α}, (∀ x ∈ l, f x = g x) → l.filterMap f = l.filterMap g
  | [], _ => rfl
  | x :: l, h => by
    rw [List.filterMap_cons, List.filterMap_cons, h x List.mem_cons_self, fm_congr fun y hy => h y (List.mem_cons_of_mem _ hy)]
theorem pick_rev (xs : Array Value) : ((List.range xs.size).filterMap fun (m : Nat) => xs[(((xs.size : Int) - 1) + (m : Int) * -1).toNat]?).toArray = xs.toList.reverse.toArray := by
  have e : (List.range xs.size).filterMap (fun (m : Nat) => xs[(((xs.size : Int) - 1) + (m : Int) * -1).toNat]?) = ((List.range xs.size).map fun k => xs.size - 1 - k).filterMap (xs[·]?) := by
    rw [List.filterMap_map]
    refine fm_congr fun m hm => ?_
    have := List.mem_range.mp hm
    show xs[(((xs.size : Int) - 1) + (m : Int) * -1).toNat]? = xs[xs.size - 1 - m]?
    rw [show (((xs.size : Int) - 1) + (m : Int) * -1).toNat = xs.size - 1 - m by omega]
  rw [e, PySem.W.krv_range, List.filterMap_reverse, PySem.W.krv_all]
theorem getItem_tuple_rev {t sl : Addr} {items : Array Value} {vl vu vs : Value} {Q : Value → Shared → Prop} (ht : IsTup s.heap t items) (hs : s.heap.IsSliceOf sl vl vu vs) (pl : IsPart vl none) (pu : IsPart vu none) (ps : IsPart vs (some (-1)))
    (h : Q (.ref s.heap.objs.size) { s with heap := s.heap.push { cls := .type "tuple", data := .seq items.toList.reverse.toArray } })
    (hsz : items.size ≤ sizeLine) : wpAny (model prog w) A (getItem (.ref t) (.ref sl)) Q E s := by
  have htake : sizeOk (.seq items.toList.reverse.toArray) := by
    show items.toList.reverse.toArray.size ≤ sizeLine
    rw [List.size_toArray, List.length_reverse, Array.length_toList]
    omega
  obtain ⟨os, hos, hcs, hds⟩ := id hs
  have hTs : s.TypeIs (.ref sl) "slice" := ⟨os, hos, hcs⟩
  unfold getItem
  try with_reducible refine wpAny_holding ?_
  first | refine wpAny_bind (wpAny_pure ?_) | skip
  refine wpAny_bind (wpAny_sequenceKey ht.typeIs (by decide) ?_)
  refine wpAny_bind (wpAny_callSpecial?_slot (name := Str.ofString "__getitem__") ht.typeIs PyProof.Rows.slot_tuple_getitem
    (wpAny_call_entry PyProof.Rows.slot_tuple_getitem ht.typeIs entry_tuple_getitem ?_ (args_tuple_getitem _ _)))
  show wpAny _ _ (Builtin.Tuple.tupleItemsOf (.ref t) >>= _) _ _ s
  refine wpAny_bind (tupleItemsOf_ ht ?_)
  refine wpAny_bind (wpAny_typeOf hTs ?_)
  rw [if_pos (by decide)]
  refine wpAny_bind (sliceApplied_rev hs pl pu ps ?_)
  have hno : ¬ ((((items.size : Int) - 1) == 0 && (-1 : Int) == 1 && items.size == items.size) = true) := by
    have : ((-1 : Int) == 1) = false := rfl
    rw [this]
    simp
  show wpAny _ _ (if (((items.size : Int) - 1) == 0 && (-1 : Int) == 1 && items.size == items.size) = true then _ else _) _ _ s
  rw [if_neg hno, pick_rev]
  first
    | exact wpAny_bind (m := Builtin.Tuple.tupleExact _) (wpAny_newObj_type (wpAny_pure ⟨_, rfl, wpAny_pure h⟩) htake)
    | exact wpAny_bind (m := Builtin.Tuple.tupleExact _) (wpAny_newObj_type (wpAny_bind (wpAny_pure (wpAny_pure ⟨_, rfl, wpAny_pure h⟩))) htake)
    | exact wpAny_bind (wpAny_bind (m := Builtin.Tuple.tupleExact _) (wpAny_newObj_type (wpAny_pure (wpAny_pure ⟨_, rfl, wpAny_pure h⟩)) htake))
    | exact wpAny_bind (wpAny_bind (m := Builtin.Tuple.tupleExact _) (wpAny_newObj_type (wpAny_pure ⟨_, rfl, wpAny_pure h⟩) htake))
end
end HT

namespace L2
open PySem PySem.Spec PyProof.Rows
def tRevA (K : PySem.W.Frag) (te : TE) : TE := fun σ H Q => te σ H fun x H1 => ∃ a xs, x = .ref a ∧ ((SqL K H1 a xs ∧ ∀ p, H1 p = none → Q (.ref p) (upd H1 p (.lst xs.reverse))) ∨ (SqT K H1 a xs ∧ ∀ p, H1 p = none → Q (.ref p) (upd H1 p (.tup xs.reverse))))
theorem pe_revA {X : Cx} {e : Expr} {te : TE} {k : Nat} {p1 p2 p3 pos : Pos} (he : PE X e te) : PE X (.Subscript e (.Slice none none (some (.UnaryOp .USub (.Constant (.int 1) k p1) p2)) p3) pos) (tRevA X.K te) := by
  refine ⟨fun pins s σ H Q I h => ?_⟩
  refine Subscript_ (thn (he.run pins s σ H _ I h) fun v s1 ⟨x, H1, I1, r1, q1⟩ => ?_)
  obtain ⟨a, xs, ex, q1⟩ := q1
  subst ex
  cases r1
  have hst : PO X (some (.UnaryOp .USub (.Constant (.int 1) k p1) p2)) (tPart (tUn (rU fun i => .int (-i)) (tC (.int 1)))) := po_some (pe_un un_neg pe_int)
  refine wpAny_Slice (thn (po_none.run pins s1 σ H1 (fun o H2 => o = none ∧ H2 = H1) I1 ⟨rfl, rfl⟩) fun vl s2 ⟨l, H2, I2, pl, el, e2⟩ => ?_)
  subst el e2
  refine thn (po_none.run pins s2 σ H2 (fun o H3 => o = none ∧ H3 = H2) I2 ⟨rfl, rfl⟩) fun vu s3 ⟨u, H3, I3, pu, eu, e3⟩ => ?_
  subst eu e3
  refine thn (hst.run pins s3 σ H3 (fun o H4 => o = some (-1) ∧ H4 = H3) I3 ⟨1, rfl, -1, rfl, rfl, rfl⟩) fun vs s4 ⟨o, H4, I4, ps, eo, e4⟩ => ?_
  subst eo e4
  have I5 : Inv X pins σ H4 { s4 with heap := s4.heap.push { cls := .type "slice", data := .fields #[vl, vu, vs] } } := I4.kept (t' := s4.toks) fun b ob q => Heap.get?_push_of_some _ q
  show wpAny (model X.prog X.w) X.A (subscriptTail e (.Slice none none (some (.UnaryOp .USub (.Constant (.int 1) k p1) p2)) p3) (.ref a) (.ref s4.heap.objs.size)) (EP X pins σ Q) X.xe { s4 with heap := s4.heap.push { cls := .type "slice", data := .fields #[vl, vu, vs] } }
  rcases q1 with ⟨hx, q⟩ | ⟨hx, q⟩
  · obtain ⟨its, r, ht, hz⟩ := I5.list hx
    have hlen := r.length
    refine tail_any (ops := [.ref a, .ref s4.heap.objs.size]) ht.isList.typeIs (PySem.slot_list_getitem.lookup) ?_ (by with_unfolding_all rfl)
    refine wpAny_getItem_list_slice ht.isList (Heap.IsSliceOf.new _ vl vu vs) pl pu ps (by decide) ?_ (by rw [List.size_toArray]; omega)
    rw [PySem.W.krv_pick]
    refine ⟨.ref _, _, I5.laid (t' := s4.toks) (o := .lst xs.reverse) (fun b ob q => Heap.get?_push_of_some _ q) (Nat.le_refl _) ?_, rfl, q _ (I5.hok.fresh (Nat.le_refl _))⟩
    exact ⟨by rw [List.length_reverse]; exact hz, _, 0, r.reverse, Heap.get?_push_size _ rfl⟩
  · obtain ⟨its, r, ht, hz⟩ := I5.tuple hx
    have hlen := r.length
    refine tail_any (ops := [.ref a, .ref s4.heap.objs.size]) ht.typeIs (PyProof.Rows.slot_tuple_getitem.lookup) ?_ (by with_unfolding_all rfl)
    refine HT.getItem_tuple_rev ht (Heap.IsSliceOf.new _ vl vu vs) pl pu ps ?_ (by rw [List.size_toArray]; omega)
    refine ⟨.ref _, _, I5.laid (t' := s4.toks) (o := .tup xs.reverse) (fun b ob q => Heap.get?_push_of_some _ q) (Nat.le_refl _) ?_, rfl, q _ (I5.hok.fresh (Nat.le_refl _))⟩
    exact ⟨by rw [List.length_reverse]; exact hz, _, r.reverse, IsTup.new _ _⟩
end L2
namespace Z
open PySem L2 PySem.Spec
def fRev : Val → Option RV
  | .lst xs => some (.own (.lst xs.reverse))
  | .tup xs => some (.v (.tup xs.reverse))
  | _ => none
@[simp] theorem fRev_lst (xs : List Val) : fRev (.lst xs) = some (.own (.lst xs.reverse)) := rfl
@[simp] theorem fRev_tup (xs : List Val) : fRev (.tup xs) = some (.v (.tup xs.reverse)) := rfl
theorem RvL.rev {g : Gm} {Zs : Addr → Prop} {H : Hp} : ∀ {xs : List Val} {us : List V}, RvL g Zs H xs us → RvL g Zs H xs.reverse us.reverse
  | _, _, .nil => .nil
  | _, _, .cons h r => by
    rw [List.reverse_cons, List.reverse_cons]
    exact (RvL.rev r).append (.cons h .nil)
section
variable {X : Cx} {xc : Xc} {W : WX} {pos : Pos}
theorem se_rev {e : Expr} {fa : E} {k : Nat} {p1 p2 p3 : Pos} (ha : SE X xc W e fa) : SE X xc W (.Subscript e (.Slice none none (some (.UnaryOp .USub (.Constant (.int 1) k p1) p2)) p3) pos) (eUn fRev fa) := by
  refine PE_imp (pe_revA ha) fun σ H Q h => ?_
  obtain ⟨pa, Zs, env, re, h⟩ := h
  refine ⟨pa, Zs, env, re, h.cont fun r e1 u Z1 H1 _ p1 q1 h => ?_⟩
  cases hx : peek e1 r with
  | none => rw [hx] at h; exact h.elim
  | some x =>
    rw [hx, opt_some, Rs.bind_ok] at h
    have rx := peek_rd p1.re q1 hx
    cases x with
    | lst xs =>
      obtain ⟨a, us, rfl, hl, rl⟩ := rx.lst
      have A := Ans.of h p1 (fun i e => by cases e)
      exact ⟨a, us, rfl, .inl ⟨.inl hl, fun p hp => A.lst p1.re.zd rl.rev hp⟩⟩
    | tup xs =>
      obtain ⟨a, us, rfl, hl, rl⟩ := rx.tup
      have A := Ans.of h p1 (fun i e => by cases e)
      exact ⟨a, us, rfl, .inr ⟨hl, fun p hp => A.tup p1.re.zd rl.rev hp⟩⟩
    | _ => exact h.elim
end
end Z
/-! ZS: while loops, by a measure. -/
namespace Z
open PySem (Str)
theorem while_gen {c : T} {b : S} (R : Rs Fl → Prop) (I : Env → Prop) (μ : Env → Nat)
    (h : ∀ e, I e → ∃ k e1, c e = .ok k e1 ∧ (k = false → R (.ok .nx e1)) ∧ (k = true → (∃ e2, (b e1 = .ok .nx e2 ∨ b e1 = .ok .ct e2) ∧ I e2 ∧ μ e2 < μ e) ∨ ∃ r e2, b e1 = .ok (.rt r) e2 ∧ R (.ok (.rt r) e2))) :
    ∀ n e, I e → μ e < n → R (whileL c b n e) := by
  intro n
  induction n with
  | zero => intro e _ h; omega
  | succ n ih =>
    intro e hi hn
    obtain ⟨k, e1, h1, h2, h3⟩ := h e hi
    unfold whileL
    rw [h1, Rs.bind_ok]
    cases k with
    | false => exact h2 rfl
    | true =>
      rw [if_pos rfl]
      rcases h3 rfl with ⟨e2, h4, h5, h6⟩ | ⟨r, e2, h4, h5⟩
      · rcases h4 with h4 | h4 <;> (rw [h4, Rs.bind_ok]; exact ih e2 h5 (by omega))
      · rw [h4, Rs.bind_ok]; exact h5
@[simp] theorem sWhile_ap (n : Nat) (c : T) (b : S) (e : Env) : sWhile n c b e = whileL c b n e := rfl
end Z
/-! the law's text, read -/
namespace Z
open PySem L2 PySem.Spec
def top (i : Nat) : Stmt := PySem.Challenge.pw_schedbench_k57_lots.main.body.getD i (.Pass ⟨0, 0, 0, 0⟩)
def whileFuel : Nat := 1099511627776
abbrev subL : Str → Str → Option Bool := subOf ["InvalidDemands", "InvalidNumber", "InvalidPlan"]
abbrev s__law_box : Stmt := top 27
def b__law_box : S :=
  (sRet (eLst (asCons (eB fAbs (asCons (eV 0) asNil)) (asCons (eOp fGe (eB fAbs (asCons (eV 0) asNil)) (eOp fPow (eC (.int 10)) (eC (.int 18)))) (asCons (eOp fMod (eB fInt (asCons (eB fAbs (asCons (eV 0) asNil)) asNil)) (eC (.int 2147483629))) (asCons (eC (.int 0)) asNil))))))
def m__law_box : Fn := mkF 1 1 b__law_box
abbrev s__law_cell : Stmt := top 26
def b__law_cell : S :=
  (sRet (eIf (tE (eOp fLt (eV 1) (eB fLen (asCons (eV 0) asNil)))) (eOp fIx (eV 0) (eV 1)) (eOp fAdd (eOp fMulX (eC (.int 6007)) (eV 1)) (eOp fMod (eB fInt (asCons (eB fSumX (asCons (eSl fSl (eV 0) none (some (eC (.int 1)))) asNil)) asNil)) (eC (.int 1000033))))))
def m__law_cell : Fn := mkF 2 2 b__law_cell
abbrev s__law_take : Stmt := top 28
abbrev b__law_take_1 : S :=
  (sIf (tAnd (tE (eOp fIx (eV 0) (eC (.int 1)))) (tE (eOp fGt (eOp fIx (eV 0) (eC (.int 0))) (eC (.int 0))))) (sSeq (sSet 2 (eOp fMod (eB fInt (asCons (eOp fIx (eV 0) (eC (.int 0))) asNil)) (eV 1)))
    (sSeq (sSetIx 0 (eC (.int 0)) (eOp fDiv (eOp fIx (eV 0) (eC (.int 0))) (eV 1)))
    (sRet (eV 2)))) sNil)
abbrev b__law_take_2 : S :=
  (sSetIx 0 (eC (.int 3)) (eOp fAdd (eOp fIx (eV 0) (eC (.int 3))) (eC (.int 1))))
abbrev b__law_take_3 : S :=
  (sSet 3 (eOp fMod (eB fInt (asCons (eOp fPow (eOp fAdd (eOp fAdd (eOp fIx (eV 0) (eC (.int 2))) (eOp fMulX (eC (.int 15485863)) (eOp fIx (eV 0) (eC (.int 3))))) (eC (.int 179424673))) (eC (.int 5))) asNil)) (eC (.int 2147483647))))
abbrev b__law_take_4 : S :=
  (sRet (eOp fMod (eB fInt (asCons (eOp fDiv (eOp fMod (eB fInt (asCons (eOp fPow (eOp fAdd (eOp fMulX (eV 3) (eC (.int 48271))) (eOp fMulX (eC (.int 104729)) (eOp fIx (eV 0) (eC (.int 3))))) (eC (.int 3))) asNil)) (eC (.int 2147483587))) (eC (.int 64))) asNil)) (eV 1)))
def b__law_take : S :=
  (sSeq b__law_take_1
    (sSeq b__law_take_2
    (sSeq b__law_take_3
    b__law_take_4)))
def m__law_take : Fn := mkF 2 4 b__law_take
abbrev s__law_lots : Stmt := top 30
abbrev b__law_lots_1 : S :=
  (sPar [2, 4] (asCons (eOp fAdd (eC (.int 1)) (eCall m__law_take (asCons (eV 0) (asCons (eOp fIx (eLst (asCons (eC (.int 4)) (asCons (eC (.int 6)) (asCons (eC (.int 12)) asNil)))) (eCall m__law_take (asCons (eV 0) (asCons (eC (.int 3)) asNil)))) asNil)))) (asCons (eOp fIx (eLst (asCons (eC (.int 2)) (asCons (eC (.int 6)) (asCons (eC (.int 20)) (asCons (eC (.int 101)) asNil))))) (eCall m__law_take (asCons (eV 0) (asCons (eC (.int 4)) asNil)))) asNil)))
abbrev b__law_lots_2 : S :=
  (sSet 1 (eComp (iRange1 (eV 2)) [5] (tgN 5) tYes (eOp fMulX (eCall m__law_take (asCons (eV 0) (asCons (eV 4) asNil))) (eB fInt (asCons (eOp fNe (eCall m__law_take (asCons (eV 0) (asCons (eC (.int 5)) asNil))) (eC (.int 0))) asNil)))))
abbrev b__law_lots_3 : S :=
  (sIf (tE (eOp fEq (eCall m__law_take (asCons (eV 0) (asCons (eC (.int 6)) asNil))) (eC (.int 0)))) (sSet 1 (eOp fMulX (eLst (asCons (eOp fIx (eV 1) (eC (.int 0))) asNil)) (eV 2))) sNil)
abbrev b__law_lots_4 : S :=
  (sSet 3 (eOp fIx (eLst (asCons (eCall m__law_take (asCons (eV 0) (asCons (eC (.int 30)) asNil))) (asCons (eC (.int 0)) (asCons (eCall m__law_take (asCons (eV 0) (asCons (eC (.int 1001)) asNil))) (asCons (eOp fMulX (eC (.int 5)) (eCall m__law_take (asCons (eV 0) (asCons (eC (.int 10)) asNil)))) asNil))))) (eCall m__law_take (asCons (eV 0) (asCons (eC (.int 4)) asNil)))))
abbrev b__law_lots_5 : S :=
  (sRet (eTup (asCons (eB fTuple (asCons (eV 1) asNil)) (asCons (eV 3) (asCons (eOp fIx (eLst (asCons (eC (.int 1)) (asCons (eC (.int 0)) (asCons (eCall m__law_take (asCons (eV 0) (asCons (eC (.int 4)) asNil))) (asCons (eCall m__law_take (asCons (eV 0) (asCons (eC (.int 21)) asNil))) asNil))))) (eCall m__law_take (asCons (eV 0) (asCons (eC (.int 4)) asNil)))) asNil)))))
def b__law_lots : S :=
  (sSeq b__law_lots_1
    (sSeq b__law_lots_2
    (sSeq b__law_lots_3
    (sSeq b__law_lots_4
    b__law_lots_5))))
def m__law_lots : Fn := mkF 1 6 b__law_lots
abbrev s__law_silver : Stmt := top 34
abbrev b__law_silver_1 : S :=
  (sSet 5 (eLst asNil))
abbrev b__law_silver_2 : S :=
  (sSeq (sSet 3 (eOp fAdd (eV 8) (eOp fMulX (eOp fMulX (eV 2) (eV 6)) (eOp fIx (eV 0) (eOp fAdd (eV 4) (eV 6))))))
    (sSeq (sSet 7 (eOp fLt (eOp fMulX (eV 3) (eV 6)) (eOp fMulX (eV 8) (eOp fAdd (eV 6) (eC (.int 1))))))
    (sIf (tE (eV 7)) (sSeq (sPar [8, 6] (asCons (eV 3) (asCons (eOp fAdd (eV 6) (eC (.int 1))) asNil)))
    (sSet 7 (eOp fLt (eOp fAdd (eV 4) (eV 6)) (eB fLen (asCons (eV 0) asNil))))) sNil)))
abbrev b__law_silver_3 : S :=
  (sSeq (sPar [4, 6] (asCons (eB fLen (asCons (eV 5) asNil)) (asCons (eC (.int 1)) asNil)))
    (sSeq (sIf (tE (eOp fEq (eOp fIx (eV 0) (eV 4)) (eC (.int 0)))) (sSeq (sExp (eApp 5 (eC (.int 0))))
    sCon) sNil)
    (sSeq (sSet 8 (eV 1))
    (sSeq (sSet 7 (eOp fLt (eOp fAdd (eV 4) (eV 6)) (eB fLen (asCons (eV 0) asNil))))
    (sSeq (sWhile whileFuel (tE (eV 7)) b__law_silver_2)
    (sSet 5 (eOp fAdd (eOp fAdd (eV 5) (eLst (asCons (eB fSumX (asCons (eSl fSl (eV 0) (some (eV 4)) (some (eOp fAdd (eV 4) (eV 6)))) asNil)) asNil))) (eOp fMulX (eLst (asCons (eC (.int 0)) asNil)) (eOp fSub (eV 6) (eC (.int 1)))))))))))
abbrev b__law_silver_4 : S :=
  (sWhile whileFuel (tE (eOp fLt (eB fLen (asCons (eV 5) asNil)) (eB fLen (asCons (eV 0) asNil)))) b__law_silver_3)
abbrev b__law_silver_5 : S :=
  (sRet (eB fTuple (asCons (eV 5) asNil)))
def b__law_silver : S :=
  (sSeq b__law_silver_1
    (sSeq b__law_silver_4
    b__law_silver_5))
def m__law_silver : Fn := mkF 3 9 b__law_silver
abbrev s__law_best : Stmt := top 32
abbrev b__law_best_1 : S :=
  (sSet 8 (eLst (asCons (eTup (asCons (eC (.int 0)) (asCons (eTup asNil) asNil))) asNil)))
abbrev b__law_best_2 : S :=
  (sSeq (sSet 6 (eB fSumX (asCons (eSl fSl (eV 0) (some (eV 5)) (some (eOp fAdd (eV 5) (eV 7)))) asNil)))
    (sSeq (sSet 4 (eOp fAdd (eOp fMulX (eV 1) (eB fInt (asCons (eOp fGt (eV 6) (eC (.int 0))) asNil))) (eOp fMulX (eV 2) (eB fSumX (asCons (eComp (iRange1 (eV 7)) [10] (tgN 10) tYes (eOp fMulX (eV 10) (eOp fIx (eV 0) (eOp fAdd (eV 5) (eV 10))))) asNil)))))
    (sSeq (sSet 3 (eOp fIx (eV 8) (eOp fSub (eV 7) (eC (.int 1)))))
    (sExp (eApp 9 (eTup (asCons (eOp fAdd (eV 4) (eOp fIx (eV 3) (eC (.int 0)))) (asCons (eOp fAdd (eOp fAdd (eTup (asCons (eV 6) asNil)) (eOp fMulX (eTup (asCons (eC (.int 0)) asNil)) (eOp fSub (eV 7) (eC (.int 1))))) (eOp fIx (eV 3) (eC (.int 1)))) asNil))))))))
abbrev b__law_best_3 : S :=
  (sSeq (sSet 9 (eLst asNil))
    (sSeq (sFor (iRange2 (eC (.int 1)) (eOp fAdd (eOp fSub (eB fLen (asCons (eV 0) asNil)) (eV 5)) (eC (.int 1)))) (tgN 7) b__law_best_2)
    (sSet 8 (eOp fAdd (eLst (asCons (eB fMinX (asCons (eV 9) asNil)) asNil)) (eV 8)))))
abbrev b__law_best_4 : S :=
  (sFor (iRange3 (asCons (eOp fSub (eB fLen (asCons (eV 0) asNil)) (eC (.int 1))) (asCons (eUn fNeg (eC (.int 1))) (asCons (eUn fNeg (eC (.int 1))) asNil)))) (tgN 5) b__law_best_3)
abbrev b__law_best_5 : S :=
  (sRet (eOp fIx (eV 8) (eC (.int 0))))
def b__law_best : S :=
  (sSeq b__law_best_1
    (sSeq b__law_best_4
    b__law_best_5))
def m__law_best : Fn := mkF 3 11 b__law_best
abbrev s_is_tuple_of : Stmt := top 7
def b_is_tuple_of : S :=
  (sRet (eAnd (eUn (fIsi [.tup]) (eV 0)) (eOp fEq (eB fLen (asCons (eV 0) asNil)) (eV 1))))
def m_is_tuple_of : Fn := mkF 2 2 b_is_tuple_of
abbrev s_is_integer : Stmt := top 5
def b_is_integer : S :=
  (sRet (eAnd (eUn (fIsi [.int]) (eV 0)) (eNot (eUn (fIsi [.bl]) (eV 0)))))
def m_is_integer : Fn := mkF 1 1 b_is_integer
abbrev s_is_between : Stmt := top 6
def b_is_between : S :=
  (sRet (eAnd (eCall m_is_integer (asCons (eV 0) asNil)) (eChain fLe fLe (eV 1) (eV 0) (eV 2))))
def m_is_between : Fn := mkF 3 3 b_is_between
abbrev s_is_row : Stmt := top 8
def b_is_row : S :=
  (sRet (eAnd (eCall m_is_tuple_of (asCons (eV 0) (asCons (eV 1) asNil))) (eB fAll (asCons (eComp (iSeq (eV 0)) [4] (tgN 4) tYes (eCall m_is_between (asCons (eV 4) (asCons (eV 2) (asCons (eV 3) asNil))))) asNil))))
def m_is_row : Fn := mkF 4 5 b_is_row
abbrev s_check_costs : Stmt := top 16
abbrev b_check_costs_1 : S :=
  (sIf (tOr (tNot (tE (eUn (fIsi [.tup]) (eV 0)))) (tNot (tE (eChain fLe fLe (eC (.int 1)) (eB fLen (asCons (eV 0) asNil)) (eC (.int 12)))))) (sRaise "InvalidDemands" "given" (eV 0)) sNil)
abbrev b_check_costs_2 : S :=
  (sIf (tNot (tE (eCall m_is_row (asCons (eV 0) (asCons (eB fLen (asCons (eV 0) asNil)) (asCons (eC (.int 0)) (asCons (eC (.int 100)) asNil))))))) (sRaise "InvalidDemands" "given" (eV 0)) sNil)
abbrev b_check_costs_3 : S :=
  (sIf (tNot (tE (eCall m_is_between (asCons (eV 1) (asCons (eC (.int 0)) (asCons (eC (.int 1000)) asNil)))))) (sRaise "InvalidNumber" "given" (eV 1)) sNil)
abbrev b_check_costs_4 : S :=
  (sIf (tNot (tE (eCall m_is_between (asCons (eV 2) (asCons (eC (.int 0)) (asCons (eC (.int 20)) asNil)))))) (sRaise "InvalidNumber" "given" (eV 2)) sNil)
def b_check_costs : S :=
  (sSeq b_check_costs_1
    (sSeq b_check_costs_2
    (sSeq b_check_costs_3
    b_check_costs_4)))
def m_check_costs : Fn := mkF 3 3 b_check_costs
abbrev s_cost_of_lot : Stmt := top 20
abbrev b_cost_of_lot_1 : S :=
  (sSet 5 (eB fSumX (asCons (eComp (iRange2 (eV 3) (eV 4)) [6] (tgN 6) tYes (eOp fMulX (eOp fSub (eV 6) (eV 3)) (eOp fIx (eV 0) (eV 6)))) asNil)))
abbrev b_cost_of_lot_2 : S :=
  (sRet (eOp fAdd (eOp fMulX (eV 1) (eB fInt (asCons (eOp fGt (eB fSumX (asCons (eSl fSl (eV 0) (some (eV 3)) (some (eV 4))) asNil)) (eC (.int 0))) asNil))) (eOp fMulX (eV 2) (eV 5))))
def b_cost_of_lot : S :=
  (sSeq b_cost_of_lot_1
    b_cost_of_lot_2)
def m_cost_of_lot : Fn := mkF 5 7 b_cost_of_lot
abbrev s_end_of_lot : Stmt := top 23
abbrev b_end_of_lot_1 : S :=
  (sSet 5 (eOp fAdd (eV 3) (eC (.int 1))))
abbrev b_end_of_lot_2 : S :=
  (sSeq (sSet 6 (eCall m_cost_of_lot (asCons (eV 0) (asCons (eV 1) (asCons (eV 2) (asCons (eV 3) (asCons (eV 5) asNil)))))))
    (sSeq (sSet 4 (eCall m_cost_of_lot (asCons (eV 0) (asCons (eV 1) (asCons (eV 2) (asCons (eV 3) (asCons (eOp fAdd (eV 5) (eC (.int 1))) asNil)))))))
    (sSeq (sIf (tE (eOp fGe (eOp fMulX (eV 4) (eOp fSub (eV 5) (eV 3))) (eOp fMulX (eV 6) (eOp fSub (eOp fAdd (eV 5) (eC (.int 1))) (eV 3))))) (sRet (eV 5)) sNil)
    (sAug 5 iAdd (eC (.int 1))))))
abbrev b_end_of_lot_3 : S :=
  (sWhile whileFuel (tE (eOp fLt (eV 5) (eB fLen (asCons (eV 0) asNil)))) b_end_of_lot_2)
abbrev b_end_of_lot_4 : S :=
  (sRet (eV 5))
def b_end_of_lot : S :=
  (sSeq b_end_of_lot_1
    (sSeq b_end_of_lot_3
    b_end_of_lot_4))
def m_end_of_lot : Fn := mkF 4 7 b_end_of_lot
abbrev s_silver : Stmt := top 24
abbrev b_silver_1 : S :=
  (sExp (eCall m_check_costs (asCons (eV 0) (asCons (eV 1) (asCons (eV 2) asNil)))))
abbrev b_silver_2 : S :=
  (sSet 5 (eLst asNil))
abbrev b_silver_3 : S :=
  (sSeq (sSet 4 (eB fLen (asCons (eV 5) asNil)))
    (sSeq (sSet 3 (eIf (tE (eOp fGt (eOp fIx (eV 0) (eV 4)) (eC (.int 0)))) (eCall m_end_of_lot (asCons (eV 0) (asCons (eV 1) (asCons (eV 2) (asCons (eV 4) asNil))))) (eOp fAdd (eV 4) (eC (.int 1)))))
    (sExp (eExt 5 (eOp fAdd (eLst (asCons (eB fSumX (asCons (eSl fSl (eV 0) (some (eV 4)) (some (eV 3))) asNil)) asNil)) (eOp fMulX (eLst (asCons (eC (.int 0)) asNil)) (eOp fSub (eOp fSub (eV 3) (eV 4)) (eC (.int 1)))))))))
abbrev b_silver_4 : S :=
  (sWhile whileFuel (tE (eOp fLt (eB fLen (asCons (eV 5) asNil)) (eB fLen (asCons (eV 0) asNil)))) b_silver_3)
abbrev b_silver_5 : S :=
  (sRet (eB fTuple (asCons (eV 5) asNil)))
def b_silver : S :=
  (sSeq b_silver_1
    (sSeq b_silver_2
    (sSeq b_silver_4
    b_silver_5)))
def m_silver : Fn := mkF 3 6 b_silver
abbrev s_kept_by : Stmt := top 17
abbrev b_kept_by_1 : S :=
  (sPar [2, 3] (asCons (eLst asNil) (asCons (eC (.int 0)) asNil)))
abbrev b_kept_by_2 : S :=
  (sSeq (sAug 3 iAdd (eOp fSub (eV 4) (eV 5)))
    (sExp (eApp 2 (eV 3))))
abbrev b_kept_by_3 : S :=
  (sFor (iZipS (asCons (eV 0) (asCons (eV 1) asNil))) (tgT [(tgN 5), (tgN 4)]) b_kept_by_2)
abbrev b_kept_by_4 : S :=
  (sRet (eV 2))
def b_kept_by : S :=
  (sSeq b_kept_by_1
    (sSeq b_kept_by_3
    b_kept_by_4))
def m_kept_by : Fn := mkF 2 6 b_kept_by
abbrev s_is_plan : Stmt := top 18
abbrev b_is_plan_1 : S :=
  (sIf (tNot (tE (eCall m_is_row (asCons (eV 1) (asCons (eB fLen (asCons (eV 0) asNil)) (asCons (eC (.int 0)) (asCons (eB fSumX (asCons (eV 0) asNil)) asNil))))))) (sRet (eC (.bl false))) sNil)
abbrev b_is_plan_2 : S :=
  (sSet 2 (eCall m_kept_by (asCons (eV 0) (asCons (eV 1) asNil))))
abbrev b_is_plan_3 : S :=
  (sRet (eAnd (eOp fGe (eB fMinX (asCons (eV 2) asNil)) (eC (.int 0))) (eOp fEq (eOp fIx (eV 2) (eUn fNeg (eC (.int 1)))) (eC (.int 0)))))
def b_is_plan : S :=
  (sSeq b_is_plan_1
    (sSeq b_is_plan_2
    b_is_plan_3))
def m_is_plan : Fn := mkF 2 3 b_is_plan
abbrev s_lot_cost : Stmt := top 19
abbrev b_lot_cost_1 : S :=
  (sExp (eCall m_check_costs (asCons (eV 0) (asCons (eV 1) (asCons (eV 2) asNil)))))
abbrev b_lot_cost_2 : S :=
  (sIf (tNot (tE (eCall m_is_plan (asCons (eV 0) (asCons (eV 3) asNil))))) (sRaise "InvalidPlan" "given" (eV 3)) sNil)
abbrev b_lot_cost_3 : S :=
  (sRet (eOp fAdd (eOp fMulX (eV 1) (eB fLen (asCons (eComp (iSeq (eV 3)) [4] (tgN 4) (tE (eOp fGt (eV 4) (eC (.int 0)))) (eV 4)) asNil))) (eOp fMulX (eV 2) (eB fSumX (asCons (eCall m_kept_by (asCons (eV 0) (asCons (eV 3) asNil))) asNil)))))
def b_lot_cost : S :=
  (sSeq b_lot_cost_1
    (sSeq b_lot_cost_2
    b_lot_cost_3))
def m_lot_cost : Fn := mkF 4 5 b_lot_cost
abbrev s_best_plan : Stmt := top 21
abbrev b_best_plan_1 : S :=
  (sSet 6 (eOp fMulX (eLst (asCons (eTup (asCons (eC (.int 0)) (asCons (eTup asNil) asNil))) asNil)) (eOp fAdd (eB fLen (asCons (eV 0) asNil)) (eC (.int 1)))))
abbrev b_best_plan_2 : S :=
  (sSeq (sUnp (tgT [(tgN 4), (tgN 8)]) (eOp fIx (eV 6) (eV 3)))
    (sSeq (sSet 7 (eOp fAdd (eTup (asCons (eB fSumX (asCons (eSl fSl (eV 0) (some (eV 5)) (some (eV 3))) asNil)) asNil)) (eOp fMulX (eTup (asCons (eC (.int 0)) asNil)) (eOp fSub (eOp fSub (eV 3) (eV 5)) (eC (.int 1))))))
    (sExp (eApp 9 (eTup (asCons (eOp fAdd (eV 4) (eCall m_cost_of_lot (asCons (eV 0) (asCons (eV 1) (asCons (eV 2) (asCons (eV 5) (asCons (eV 3) asNil))))))) (asCons (eOp fAdd (eV 7) (eV 8)) asNil)))))))
abbrev b_best_plan_3 : S :=
  (sSeq (sSet 9 (eLst asNil))
    (sSeq (sFor (iRange2 (eOp fAdd (eV 5) (eC (.int 1))) (eOp fAdd (eB fLen (asCons (eV 0) asNil)) (eC (.int 1)))) (tgN 3) b_best_plan_2)
    (sSetIx 6 (eV 5) (eB fMinX (asCons (eV 9) asNil)))))
abbrev b_best_plan_4 : S :=
  (sFor (iRange3 (asCons (eOp fSub (eB fLen (asCons (eV 0) asNil)) (eC (.int 1))) (asCons (eUn fNeg (eC (.int 1))) (asCons (eUn fNeg (eC (.int 1))) asNil)))) (tgN 5) b_best_plan_3)
abbrev b_best_plan_5 : S :=
  (sRet (eOp fIx (eV 6) (eC (.int 0))))
def b_best_plan : S :=
  (sSeq b_best_plan_1
    (sSeq b_best_plan_4
    b_best_plan_5))
def m_best_plan : Fn := mkF 3 10 b_best_plan
abbrev s_best_lots : Stmt := top 22
abbrev b_best_lots_1 : S :=
  (sExp (eCall m_check_costs (asCons (eV 0) (asCons (eV 1) (asCons (eV 2) asNil)))))
abbrev b_best_lots_2 : S :=
  (sRet (eCall m_best_plan (asCons (eV 0) (asCons (eV 1) (asCons (eV 2) asNil)))))
def b_best_lots : S :=
  (sSeq b_best_lots_1
    b_best_lots_2)
def m_best_lots : Fn := mkF 3 3 b_best_lots
abbrev s__law_asked : Stmt := top 35
def b__law_asked : S :=
  (sTry subL (sSeq (sIf (tE (eOp fEq (eV 0) (eC (.int 0)))) (sRet (eIf (tE (eV 5)) (eCallK m_lot_cost [3, 2, 1, 0] (asCons (eV 4) (asCons (eV 3) (asCons (eV 2) (asCons (eV 1) asNil))))) (eCall m_lot_cost (asCons (eV 1) (asCons (eV 2) (asCons (eV 3) (asCons (eV 4) asNil))))))) sNil)
    (sSeq (sIf (tE (eOp fEq (eV 0) (eC (.int 1)))) (sRet (eIf (tE (eV 5)) (eCallK m_best_lots [2, 1, 0] (asCons (eV 3) (asCons (eV 2) (asCons (eV 1) asNil)))) (eCall m_best_lots (asCons (eV 1) (asCons (eV 2) (asCons (eV 3) asNil)))))) sNil)
    (sRet (eIf (tE (eV 5)) (eCallK m_silver [2, 1, 0] (asCons (eV 3) (asCons (eV 2) (asCons (eV 1) asNil)))) (eCall m_silver (asCons (eV 1) (asCons (eV 2) (asCons (eV 3) asNil)))))))) [("InvalidDemands", 6, (sRet (eLst (asCons (eC (.str "demands")) (asCons (eExn 6 "InvalidDemands" "given") asNil))))), ("InvalidNumber", 6, (sRet (eLst (asCons (eC (.str "number")) (asCons (eExn 6 "InvalidNumber" "given") asNil))))), ("InvalidPlan", 6, (sRet (eLst (asCons (eC (.str "plan")) (asCons (eExn 6 "InvalidPlan" "given") asNil)))))])
def m__law_asked : Fn := mkF 6 7 b__law_asked
abbrev s__law_same : Stmt := top 29
def b__law_same (self : Fn) : S :=
  (sSeq (sIf (tOr (tE (eOp fIs (eV 1) (eC .non))) (tE (eUn (fIsi [.bl]) (eV 1)))) (sRet (eIf (tE (eOp fIs (eV 1) (eC .non))) (eOp fIs (eV 0) (eC .non)) (eAnd (eUn (fIsi [.bl]) (eV 0)) (eOp fEq (eOp fIs (eV 0) (eC (.bl true))) (eOp fIs (eV 1) (eC (.bl true))))))) sNil)
    (sSeq (sIf (tE (eUn (fIsi [.int]) (eV 1))) (sRet (eAnd (eUn (fIsi [.int]) (eV 0)) (eAnd (eNot (eUn (fIsi [.bl]) (eV 0))) (eOp fEq (eOp fSub (eB fInt (asCons (eV 0) asNil)) (eV 1)) (eC (.int 0)))))) sNil)
    (sSeq (sIf (tE (eUn (fIsi [.str]) (eV 1))) (sRet (eAnd (eUn (fIsi [.str]) (eV 0)) (eAnd (eOp fEq (eB fLen (asCons (eV 0) asNil)) (eB fLen (asCons (eV 1) asNil))) (eOp fEq (eComp (iRange1 (eB fLen (asCons (eV 1) asNil))) [2] (tgN 2) (tE (eOp fNe (eSl fSl (eV 0) (some (eV 2)) (some (eOp fAdd (eV 2) (eC (.int 1))))) (eOp fIx (eV 1) (eV 2)))) (eV 2)) (eLst asNil))))) sNil)
    (sSeq (sIf (tE (eUn (fIsi [.dic]) (eV 1))) (sRet (eAnd (eUn (fIsi [.dic]) (eV 0)) (eAnd (eOp fEq (eB fLen (asCons (eV 0) asNil)) (eB fLen (asCons (eV 1) asNil))) (eOp fEq (eComp (iSeq (eV 1)) [3] (tgN 3) (tOr (tE (eOp fNotIn (eV 3) (eV 0))) (tNot (tE (eCall self (asCons (eOp fIx (eV 0) (eV 3)) (asCons (eOp fIx (eV 1) (eV 3)) asNil)))))) (eV 3)) (eLst asNil))))) sNil)
    (sSeq (sIf (tOr (tNot (tE (eUn (fIsi [.lst, .tup]) (eV 0)))) (tE (eOp fNe (eUn (fIsi [.lst]) (eV 0)) (eUn (fIsi [.lst]) (eV 1))))) (sRet (eC (.bl false))) sNil)
    (sRet (eAnd (eOp fEq (eB fLen (asCons (eV 0) asNil)) (eB fLen (asCons (eV 1) asNil))) (eOp fEq (eComp (iRange1 (eB fLen (asCons (eV 1) asNil))) [2] (tgN 2) (tNot (tE (eCall self (asCons (eOp fIx (eV 0) (eV 2)) (asCons (eOp fIx (eV 1) (eV 2)) asNil))))) (eV 2)) (eLst asNil)))))))))
def m__law_same : Nat → Fn
  | 0 => noF
  | n + 1 => mkF 2 4 (b__law_same (m__law_same n))
abbrev s__law_drawn_plan : Stmt := top 33
abbrev b__law_drawn_plan_1 : S :=
  (sPar [2, 5, 4] (asCons (eLst asNil) (asCons (eB fSumX (asCons (eV 1) asNil)) (asCons (eC (.int 0)) asNil))))
abbrev b__law_drawn_plan_2 : S :=
  (sSeq (sSet 7 (eB fMax2 (asCons (eC (.int 0)) (asCons (eOp fSub (eOp fIx (eV 1) (eV 3)) (eV 4)) asNil))))
    (sSeq (sSet 6 (eIf (tE (eOp fLt (eOp fAdd (eV 3) (eC (.int 1))) (eB fLen (asCons (eV 1) asNil)))) (eB fMin2 (asCons (eV 5) (asCons (eOp fAdd (eV 7) (eOp fIx (eLst (asCons (eC (.int 0)) (asCons (eC (.int 0)) (asCons (eCall m__law_take (asCons (eV 0) (asCons (eC (.int 5)) asNil))) (asCons (eV 5) asNil))))) (eCall m__law_take (asCons (eV 0) (asCons (eC (.int 4)) asNil))))) asNil))) (eV 5)))
    (sSeq (sExp (eApp 2 (eV 6)))
    (sPar [5, 4] (asCons (eOp fSub (eV 5) (eV 6)) (asCons (eOp fSub (eOp fAdd (eV 4) (eV 6)) (eOp fIx (eV 1) (eV 3))) asNil))))))
abbrev b__law_drawn_plan_3 : S :=
  (sFor (iRange1 (eB fLen (asCons (eV 1) asNil))) (tgN 3) b__law_drawn_plan_2)
abbrev b__law_drawn_plan_4 : S :=
  (sRet (eB fTuple (asCons (eV 2) asNil)))
def b__law_drawn_plan : S :=
  (sSeq b__law_drawn_plan_1
    (sSeq b__law_drawn_plan_3
    b__law_drawn_plan_4))
def m__law_drawn_plan : Fn := mkF 2 8 b__law_drawn_plan
abbrev s__law_cost : Stmt := top 31
abbrev b__law_cost_1 : S :=
  (sPar [5, 6] (asCons (eC (.int 0)) (asCons (eC (.int 0)) asNil)))
abbrev b__law_cost_2 : S :=
  (sSeq (sSet 5 (eOp fSub (eOp fAdd (eV 5) (eOp fIx (eV 3) (eV 4))) (eOp fIx (eV 0) (eV 4))))
    (sSet 6 (eOp fAdd (eOp fAdd (eV 6) (eOp fMulX (eV 2) (eV 5))) (eOp fMulX (eV 1) (eB fInt (asCons (eOp fGt (eOp fIx (eV 3) (eV 4)) (eC (.int 0))) asNil))))))
abbrev b__law_cost_3 : S :=
  (sFor (iRange1 (eB fLen (asCons (eV 0) asNil))) (tgN 4) b__law_cost_2)
abbrev b__law_cost_4 : S :=
  (sRet (eV 6))
def b__law_cost : S :=
  (sSeq b__law_cost_1
    (sSeq b__law_cost_3
    b__law_cost_4))
def m__law_cost : Fn := mkF 4 7 b__law_cost
abbrev s__law_bent : Stmt := top 37
abbrev b__law_bent_1 : S :=
  (sSet 2 (eCall m__law_take (asCons (eV 0) (asCons (eB fLen (asCons (eV 1) asNil)) asNil))))
abbrev b__law_bent_2 : S :=
  (sSet 3 (eLst (asCons (eB fList (asCons (eV 1) asNil)) (asCons (eOp fAdd (eV 1) (eTup (asCons (eC (.int 0)) asNil))) (asCons (eSl fSl (eV 1) none (some (eUn fNeg (eC (.int 1))))) (asCons (eC .non) (asCons (eC (.str "plan")) (asCons (eC (.int 5)) (asCons (eOp fAdd (eOp fAdd (eSl fSl (eV 1) none (some (eV 2))) (eTup (asCons (eC .non) asNil))) (eSl fSl (eV 1) (some (eOp fAdd (eV 2) (eC (.int 1)))) none)) (asCons (eOp fAdd (eOp fAdd (eSl fSl (eV 1) none (some (eV 2))) (eTup (asCons (eC (.bl true)) asNil))) (eSl fSl (eV 1) (some (eOp fAdd (eV 2) (eC (.int 1)))) none)) asNil))))))))))
abbrev b__law_bent_3 : S :=
  (sSet 3 (eOp fAdd (eV 3) (eLst (asCons (eOp fAdd (eOp fAdd (eSl fSl (eV 1) none (some (eV 2))) (eTup (asCons (eOp fAdd (eOp fIx (eV 1) (eV 2)) (eC (.int 1))) asNil))) (eSl fSl (eV 1) (some (eOp fAdd (eV 2) (eC (.int 1)))) none)) (asCons (eOp fAdd (eOp fAdd (eSl fSl (eV 1) none (some (eV 2))) (eTup (asCons (eOp fSub (eOp fIx (eV 1) (eV 2)) (eC (.int 1))) asNil))) (eSl fSl (eV 1) (some (eOp fAdd (eV 2) (eC (.int 1)))) none)) (asCons (eUn fRev (eV 1)) (asCons (eOp fAdd (eSl fSl (eV 1) (some (eC (.int 1))) none) (eSl fSl (eV 1) none (some (eC (.int 1))))) asNil)))))))
abbrev b__law_bent_4 : S :=
  (sRet (eOp fIx (eV 3) (eCall m__law_take (asCons (eV 0) (asCons (eB fLen (asCons (eV 3) asNil)) asNil)))))
def b__law_bent : S :=
  (sSeq b__law_bent_1
    (sSeq b__law_bent_2
    (sSeq b__law_bent_3
    b__law_bent_4)))
def m__law_bent : Fn := mkF 2 4 b__law_bent
abbrev s__law_is_plan : Stmt := top 36
abbrev b__law_is_plan_1 : S :=
  (sIf (tOr (tNot (tE (eUn (fIsi [.tup]) (eV 1)))) (tE (eOp fNe (eB fLen (asCons (eV 1) asNil)) (eB fLen (asCons (eV 0) asNil))))) (sRet (eC (.bl false))) sNil)
abbrev b__law_is_plan_2 : S :=
  (sIf (tE (eOp fNe (eComp (iSeq (eV 1)) [3] (tgN 3) (tOr (tNot (tE (eUn (fIsi [.int]) (eV 3)))) (tOr (tE (eUn (fIsi [.bl]) (eV 3))) (tE (eOp fLt (eV 3) (eC (.int 0)))))) (eV 3)) (eLst asNil))) (sRet (eC (.bl false))) sNil)
abbrev b__law_is_plan_3 : S :=
  (sSet 2 (eComp (iRange1 (eB fLen (asCons (eV 1) asNil))) [4] (tgN 4) tYes (eOp fSub (eB fSumX (asCons (eSl fSl (eV 1) none (some (eOp fAdd (eV 4) (eC (.int 1))))) asNil)) (eB fSumX (asCons (eSl fSl (eV 0) none (some (eOp fAdd (eV 4) (eC (.int 1))))) asNil)))))
abbrev b__law_is_plan_4 : S :=
  (sRet (eAnd (eOp fGe (eB fMinX (asCons (eV 2) asNil)) (eC (.int 0))) (eOp fEq (eOp fIx (eV 2) (eUn fNeg (eC (.int 1)))) (eC (.int 0)))))
def b__law_is_plan : S :=
  (sSeq b__law_is_plan_1
    (sSeq b__law_is_plan_2
    (sSeq b__law_is_plan_3
    b__law_is_plan_4)))
def m__law_is_plan : Fn := mkF 2 5 b__law_is_plan
abbrev s__law_right : Stmt := top 39
abbrev b__law_right_1 : S :=
  (sUnp (tgT [(tgN 3), (tgN 10), (tgN 5)]) (eCall m__law_lots (asCons (eV 0) asNil)))
abbrev b__law_right_2 : S :=
  (sPar [6, 4] (asCons (eOp fEq (eCall m__law_take (asCons (eV 0) (asCons (eC (.int 2)) asNil))) (eC (.int 0))) (asCons (eCall m__law_best (asCons (eV 3) (asCons (eV 10) (asCons (eV 5) asNil)))) asNil)))
abbrev b__law_right_3 : S :=
  (sSet 9 (eCall m__law_silver (asCons (eV 3) (asCons (eV 10) (asCons (eV 5) asNil)))))
abbrev b__law_right_4 : S :=
  (sSet 11 (eLst (asCons (eCall m__law_asked (asCons (eC (.int 1)) (asCons (eV 3) (asCons (eV 10) (asCons (eV 5) (asCons (eC .non) (asCons (eV 6) asNil))))))) (asCons (eCall m__law_asked (asCons (eC (.int 1)) (asCons (eV 3) (asCons (eV 10) (asCons (eV 5) (asCons (eC .non) (asCons (eNot (eV 6)) asNil))))))) asNil))))
abbrev b__law_right_5 : S :=
  (sIf (tNot (tE (eCall (m__law_same 8) (asCons (eOp fAdd (eV 11) (eLst (asCons (eCall m__law_asked (asCons (eC (.int 2)) (asCons (eV 3) (asCons (eV 10) (asCons (eV 5) (asCons (eC .non) (asCons (eV 6) asNil))))))) (asCons (eCall m__law_asked (asCons (eC (.int 2)) (asCons (eV 3) (asCons (eV 10) (asCons (eV 5) (asCons (eC .non) (asCons (eNot (eV 6)) asNil))))))) asNil)))) (asCons (eLst (asCons (eV 4) (asCons (eV 4) (asCons (eV 9) (asCons (eV 9) asNil))))) asNil))))) (sRet (eC (.bl false))) sNil)
abbrev b__law_right_6 : S :=
  (sSeq (sSet 2 (eCall m__law_cost (asCons (eV 3) (asCons (eV 10) (asCons (eV 5) (asCons (eV 8) asNil))))))
    (sIf (tOr (tE (eOp fLt (eV 2) (eOp fIx (eV 4) (eC (.int 0))))) (tNot (tE (eCall (m__law_same 8) (asCons (eLst (asCons (eCall m__law_asked (asCons (eC (.int 0)) (asCons (eV 3) (asCons (eV 10) (asCons (eV 5) (asCons (eV 8) (asCons (eV 6) asNil))))))) (asCons (eCall m__law_asked (asCons (eC (.int 0)) (asCons (eV 3) (asCons (eV 10) (asCons (eV 5) (asCons (eV 8) (asCons (eNot (eV 6)) asNil))))))) asNil))) (asCons (eLst (asCons (eV 2) (asCons (eV 2) asNil))) asNil)))))) (sRet (eC (.bl false))) sNil))
abbrev b__law_right_7 : S :=
  (sFor (iSeq (eLst (asCons (eOp fIx (eV 4) (eC (.int 1))) (asCons (eV 9) (asCons (eV 3) (asCons (eCall m__law_drawn_plan (asCons (eV 0) (asCons (eV 3) asNil))) (asCons (eCall m__law_drawn_plan (asCons (eV 0) (asCons (eV 3) asNil))) asNil))))))) (tgN 8) b__law_right_6)
abbrev b__law_right_8 : S :=
  (sSeq (sSet 13 (eCall m__law_bent (asCons (eV 0) (asCons (eCall m__law_drawn_plan (asCons (eV 0) (asCons (eV 3) asNil))) asNil))))
    (sSeq (sSet 2 (eIf (tE (eCall m__law_is_plan (asCons (eV 3) (asCons (eV 13) asNil)))) (eCall m__law_cost (asCons (eV 3) (asCons (eV 10) (asCons (eV 5) (asCons (eV 13) asNil))))) (eLst (asCons (eC (.str "plan")) (asCons (eV 13) asNil)))))
    (sIf (tNot (tE (eCall (m__law_same 8) (asCons (eCall m__law_asked (asCons (eC (.int 0)) (asCons (eV 3) (asCons (eV 10) (asCons (eV 5) (asCons (eV 13) (asCons (eV 6) asNil))))))) (asCons (eV 2) asNil))))) (sRet (eC (.bl false))) sNil)))
abbrev b__law_right_9 : S :=
  (sFor (iRange1 (eC (.int 3))) (tgN 12) b__law_right_8)
abbrev b__law_right_10 : S :=
  (sSet 1 (eOp fIx (eLst (asCons (eB fList (asCons (eV 3) asNil)) (asCons (eTup asNil) (asCons (eOp fMulX (eTup (asCons (eC (.int 1)) asNil)) (eC (.int 13))) (asCons (eC .non) (asCons (eC (.str "12")) (asCons (eOp fAdd (eSl fSl (eV 3) none (some (eUn fNeg (eC (.int 1))))) (eTup (asCons (eC (.int 101)) asNil))) (asCons (eOp fAdd (eSl fSl (eV 3) none (some (eUn fNeg (eC (.int 1))))) (eTup (asCons (eUn fNeg (eC (.int 1))) asNil))) (asCons (eOp fAdd (eSl fSl (eV 3) none (some (eUn fNeg (eC (.int 1))))) (eTup (asCons (eC .non) asNil))) (asCons (eTup (asCons (eC (.bl true)) asNil)) asNil)))))))))) (eCall m__law_take (asCons (eV 0) (asCons (eC (.int 9)) asNil)))))
abbrev b__law_right_11 : S :=
  (sPar [14, 7] (asCons (eOp fIx (eLst (asCons (eUn fNeg (eC (.int 1))) (asCons (eC (.int 1001)) (asCons (eC .non) (asCons (eC (.bl true)) (asCons (eC (.str "5")) (asCons (eTup (asCons (eC (.int 5)) asNil)) asNil))))))) (eCall m__law_take (asCons (eV 0) (asCons (eC (.int 6)) asNil)))) (asCons (eOp fIx (eLst (asCons (eUn fNeg (eC (.int 1))) (asCons (eC (.int 21)) (asCons (eC .non) (asCons (eC (.bl false)) (asCons (eC (.str "5")) (asCons (eTup (asCons (eC (.int 5)) asNil)) asNil))))))) (eCall m__law_take (asCons (eV 0) (asCons (eC (.int 6)) asNil)))) asNil)))
abbrev b__law_right_12 : S :=
  (sSeq (sSet 11 (eLst (asCons (eCall m__law_asked (asCons (eV 12) (asCons (eV 1) (asCons (eV 14) (asCons (eV 7) (asCons (eC .non) (asCons (eV 6) asNil))))))) (asCons (eCall m__law_asked (asCons (eV 12) (asCons (eV 3) (asCons (eV 14) (asCons (eV 7) (asCons (eC .non) (asCons (eNot (eV 6)) asNil))))))) (asCons (eCall m__law_asked (asCons (eV 12) (asCons (eV 3) (asCons (eV 10) (asCons (eV 7) (asCons (eC .non) (asCons (eV 6) asNil))))))) asNil)))))
    (sIf (tNot (tE (eCall (m__law_same 8) (asCons (eV 11) (asCons (eLst (asCons (eLst (asCons (eC (.str "demands")) (asCons (eV 1) asNil))) (asCons (eLst (asCons (eC (.str "number")) (asCons (eV 14) asNil))) (asCons (eLst (asCons (eC (.str "number")) (asCons (eV 7) asNil))) asNil)))) asNil))))) (sRet (eC (.bl false))) sNil))
abbrev b__law_right_13 : S :=
  (sFor (iRange1 (eC (.int 3))) (tgN 12) b__law_right_12)
abbrev b__law_right_14 : S :=
  (sRet (eC (.bl true)))
def b__law_right : S :=
  (sSeq b__law_right_1
    (sSeq b__law_right_2
    (sSeq b__law_right_3
    (sSeq b__law_right_4
    (sSeq b__law_right_5
    (sSeq b__law_right_7
    (sSeq b__law_right_9
    (sSeq b__law_right_10
    (sSeq b__law_right_11
    (sSeq b__law_right_13
    b__law_right_14))))))))))
def m__law_right : Fn := mkF 1 15 b__law_right
abbrev s__law_all_right : Stmt := top 38
abbrev b__law_all_right_1 : S :=
  (sSet 1 (eB fTuple (asCons (eComp (iRange1 (eOp fAdd (eC (.int 1)) (eCall m__law_take (asCons (eV 0) (asCons (eC (.int 4)) asNil))))) [4] (tgN 4) tYes (eCall m__law_take (asCons (eV 0) (asCons (eC (.int 3)) asNil)))) asNil)))
abbrev b__law_all_right_2 : S :=
  (sPar [9, 3, 10] (asCons (eCall m__law_take (asCons (eV 0) (asCons (eC (.int 6)) asNil))) (asCons (eCall m__law_take (asCons (eV 0) (asCons (eC (.int 3)) asNil))) (asCons (eB fSumX (asCons (eV 1) asNil)) asNil))))
abbrev b__law_all_right_3 : S :=
  (sSet 8 (eLst (asCons (eTup asNil) asNil)))
abbrev b__law_all_right_4 : S :=
  (sSeq (sSet 5 (eB fMax2 (asCons (eC (.int 0)) (asCons (eOp fSub (eB fSumX (asCons (eSl fSl (eV 1) none (some (eOp fAdd (eV 4) (eC (.int 1))))) asNil)) (eB fSumX (asCons (eV 7) asNil))) asNil))))
    (sExp (eExt 6 (eComp (iRange2 (eV 5) (eOp fAdd (eOp fSub (eV 10) (eB fSumX (asCons (eV 7) asNil))) (eC (.int 1)))) [11] (tgN 11) tYes (eOp fAdd (eV 7) (eTup (asCons (eV 11) asNil)))))))
abbrev b__law_all_right_5 : S :=
  (sSeq (sSet 6 (eLst asNil))
    (sSeq (sFor (iSeq (eV 8)) (tgN 7) b__law_all_right_4)
    (sSet 8 (eV 6))))
abbrev b__law_all_right_6 : S :=
  (sFor (iRange1 (eB fLen (asCons (eV 1) asNil))) (tgN 4) b__law_all_right_5)
abbrev b__law_all_right_7 : S :=
  (sSet 2 (eB fMinX (asCons (eComp (iSeq (eV 8)) [7] (tgN 7) (tE (eOp fEq (eB fSumX (asCons (eV 7) asNil)) (eV 10))) (eTup (asCons (eCall m__law_cost (asCons (eV 1) (asCons (eV 9) (asCons (eV 3) (asCons (eV 7) asNil))))) (asCons (eV 7) asNil)))) asNil)))
abbrev b__law_all_right_8 : S :=
  (sRet (eAnd (eCall (m__law_same 8) (asCons (eCall m_best_lots (asCons (eV 1) (asCons (eV 9) (asCons (eV 3) asNil)))) (asCons (eV 2) asNil))) (eOp fEq (eCall m__law_best (asCons (eV 1) (asCons (eV 9) (asCons (eV 3) asNil)))) (eV 2))))
def b__law_all_right : S :=
  (sSeq b__law_all_right_1
    (sSeq b__law_all_right_2
    (sSeq b__law_all_right_3
    (sSeq b__law_all_right_6
    (sSeq b__law_all_right_7
    b__law_all_right_8)))))
def m__law_all_right : Fn := mkF 1 12 b__law_all_right
abbrev s_law : Stmt := top 40
abbrev b_law_1 : S :=
  (sSeq (sSet 1 (eCall m__law_box (asCons (eCall m__law_cell (asCons (eV 0) (asCons (eV 2) asNil))) asNil)))
    (sIf (tOr (tNot (tE (eCall m__law_right (asCons (eV 1) asNil)))) (tOr (tNot (tE (eCall m__law_right (asCons (eV 1) asNil)))) (tNot (tE (eCall m__law_all_right (asCons (eV 1) asNil)))))) (sRet (eC (.bl false))) sNil))
abbrev b_law_2 : S :=
  (sFor (iRange1 (eC (.int 4))) (tgN 2) b_law_1)
abbrev b_law_3 : S :=
  (sRet (eC (.bl true)))
def b_law : S :=
  (sSeq b_law_2
    b_law_3)
def m_law : Fn := mkF 1 3 b_law
/-- what the top has written -/
structure Tx0 (K : PySem.W.Frag) (mg : Str → Option Value) : Prop where
  n_abs : mg "abs" = none
  n_int : mg "int" = none
  d__law_box : Dk K mg "_law_box" s__law_box ["great"]
  n_len : mg "len" = none
  n_sum : mg "sum" = none
  d__law_cell : Dk K mg "_law_cell" s__law_cell ["script", "k"]
  d__law_take : Dk K mg "_law_take" s__law_take ["box", "many"]
  n_range : mg "range" = none
  n_tuple : mg "tuple" = none
  d__law_lots : Dk K mg "_law_lots" s__law_lots ["box"]
  d__law_silver : Dk K mg "_law_silver" s__law_silver ["demands", "setup", "hold"]
  n_min : mg "min" = none
  d__law_best : Dk K mg "_law_best" s__law_best ["demands", "setup", "hold"]
  n_isinstance : mg "isinstance" = none
  d_is_tuple_of : Dk K mg "is_tuple_of" s_is_tuple_of ["value", "many"]
  n_bool : mg "bool" = none
  d_is_integer : Dk K mg "is_integer" s_is_integer ["value"]
  d_is_between : Dk K mg "is_between" s_is_between ["value", "least", "most"]
  n_all : mg "all" = none
  d_is_row : Dk K mg "is_row" s_is_row ["value", "many", "least", "most"]
  g_MOST_PERIODS : ∃ t, mg "MOST_PERIODS" = some (.int 12 t)
  g_MOST_DEMAND : ∃ t, mg "MOST_DEMAND" = some (.int 100 t)
  g_MOST_SETUP : ∃ t, mg "MOST_SETUP" = some (.int 1000 t)
  g_MOST_HOLD : ∃ t, mg "MOST_HOLD" = some (.int 20 t)
  d_check_costs : Dk K mg "check_costs" s_check_costs ["demands", "setup", "hold"]
  d_cost_of_lot : Dk K mg "cost_of_lot" s_cost_of_lot ["demands", "setup", "hold", "first", "behind"]
  d_end_of_lot : Dk K mg "end_of_lot" s_end_of_lot ["demands", "setup", "hold", "first"]
  d_silver : Dk K mg "silver" s_silver ["demands", "setup", "hold"]
  n_zip : mg "zip" = none
  d_kept_by : Dk K mg "kept_by" s_kept_by ["demands", "plan"]
  d_is_plan : Dk K mg "is_plan" s_is_plan ["demands", "value"]
  d_lot_cost : Dk K mg "lot_cost" s_lot_cost ["demands", "setup", "hold", "plan"]
  d_best_plan : Dk K mg "best_plan" s_best_plan ["demands", "setup", "hold"]
  d_best_lots : Dk K mg "best_lots" s_best_lots ["demands", "setup", "hold"]
  d__law_asked : Dk K mg "_law_asked" s__law_asked ["turn", "demands", "setup", "hold", "plan", "named"]
  n_str : mg "str" = none
  n_dict : mg "dict" = none
  n_list : mg "list" = none
  d__law_same : Dk K mg "_law_same" s__law_same ["told", "due"]
  n_max : mg "max" = none
  d__law_drawn_plan : Dk K mg "_law_drawn_plan" s__law_drawn_plan ["box", "demands"]
  d__law_cost : Dk K mg "_law_cost" s__law_cost ["demands", "setup", "hold", "plan"]
  d__law_bent : Dk K mg "_law_bent" s__law_bent ["box", "plan"]
  d__law_is_plan : Dk K mg "_law_is_plan" s__law_is_plan ["demands", "value"]
  d__law_right : Dk K mg "_law_right" s__law_right ["box"]
  d__law_all_right : Dk K mg "_law_all_right" s__law_all_right ["box"]
  d_law : Dk K mg "law" s_law ["script"]
  sib : Sib K mg ["InvalidDemands", "InvalidNumber", "InvalidPlan"]
structure Tx (K : PySem.W.Frag) (mg : Str → Option Value) : Type extends Tx0 K mg where
  C_InvalidDemands : Addr
  I_InvalidDemands : Addr
  x_InvalidDemands : PySem.Zx_given.LowTxt "InvalidDemands" "InvalidDemands.__init__" K mg C_InvalidDemands I_InvalidDemands
  C_InvalidNumber : Addr
  I_InvalidNumber : Addr
  x_InvalidNumber : PySem.Zx_given.LowTxt "InvalidNumber" "InvalidNumber.__init__" K mg C_InvalidNumber I_InvalidNumber
  C_InvalidPlan : Addr
  I_InvalidPlan : Addr
  x_InvalidPlan : PySem.Zx_given.LowTxt "InvalidPlan" "InvalidPlan.__init__" K mg C_InvalidPlan I_InvalidPlan
section
variable {P : Program} {w : World} {K : PySem.W.Frag} {mg : Str → Option Value} {base : Heap}
theorem ok__law_box (T : Tx K mg) : Cl P w K mg base 3 "_law_box" s__law_box ["great"] m__law_box :=
  have SC : FnScope ["great"] ["great"] (defScope s__law_box) := ⟨rfl, rfl, rfl, by decide +kernel, rfl, by decide +kernel, by decide +kernel⟩
  cl_body (b := b__law_box) (k := 2) T.d__law_box SC fun f cdv A outer s H E hr =>
    (sb_one (ss_ret (se_lst (sa_cons (se_callB cs_abs T.n_abs (sa_cons (se_var 0) sa_nil)) (sa_cons (se_cmp os_ge (se_callB cs_abs T.n_abs (sa_cons (se_var 0) sa_nil)) (se_op os_pow se_int se_int)) (sa_cons (se_op os_mod (se_callTy cs_int T.n_int (sa_cons (se_callB cs_abs T.n_abs (sa_cons (se_var 0) sa_nil)) sa_nil)) se_int) (sa_cons se_int sa_nil)))))))
theorem ok__law_cell (T : Tx K mg) : Cl P w K mg base 3 "_law_cell" s__law_cell ["script", "k"] m__law_cell :=
  have SC : FnScope ["script", "k"] ["script", "k"] (defScope s__law_cell) := ⟨rfl, rfl, rfl, by decide +kernel, rfl, by decide +kernel, by decide +kernel⟩
  cl_body (b := b__law_cell) (k := 2) T.d__law_cell SC fun f cdv A outer s H E hr =>
    (sb_one (ss_ret (se_if (st_cmp os_lt (se_var 1) (se_callB cs_len T.n_len (sa_cons (se_var 0) sa_nil)) (hbl := bl_lt)) (se_ix (se_var 0) (se_var 1)) (se_op os_add (se_op os_mulX se_int (se_var 1)) (se_op os_mod (se_callTy cs_int T.n_int (sa_cons (se_callB (cs_sumX rfl) T.n_sum (sa_cons (se_slice (se_var 0) so_none (so_some se_int)) sa_nil)) sa_nil)) se_int)))))
theorem ok__law_take (T : Tx K mg) : Cl P w K mg base 3 "_law_take" s__law_take ["box", "many"] m__law_take :=
  have SC : FnScope ["box", "many", "digit", "mixed"] ["box", "many"] (defScope s__law_take) := ⟨rfl, rfl, rfl, by decide +kernel, rfl, by decide +kernel, by decide +kernel⟩
  cl_body (b := b__law_take) (k := 2) T.d__law_take SC fun f cdv A outer s H E hr =>
    (sb_cons (ss_if (sw_and (st_e (se_ix (se_var 0) se_int)) (sw_and1 (st_cmp os_gt (se_ix (se_var 0) se_int) se_int (hbl := bl_gt)))).st (sb_cons (ss_set 2 SC.nd (se_op os_mod (se_callTy cs_int T.n_int (sa_cons (se_ix (se_var 0) se_int) sa_nil)) (se_var 1)))
    (sb_cons (ss_setIx 0 (se_op os_div (se_ix (se_var 0) se_int) (se_var 1)) se_int)
    (sb_one (ss_ret (se_var 2))))) sb_nil)
    (sb_cons (ss_setIx 0 (se_op os_add (se_ix (se_var 0) se_int) se_int) se_int)
    (sb_cons (ss_set 3 SC.nd (se_op os_mod (se_callTy cs_int T.n_int (sa_cons (se_op os_pow (se_op os_add (se_op os_add (se_ix (se_var 0) se_int) (se_op os_mulX se_int (se_ix (se_var 0) se_int))) se_int) se_int) sa_nil)) se_int))
    (sb_one (ss_ret (se_op os_mod (se_callTy cs_int T.n_int (sa_cons (se_op os_div (se_op os_mod (se_callTy cs_int T.n_int (sa_cons (se_op os_pow (se_op os_add (se_op os_mulX (se_var 3) se_int) (se_op os_mulX se_int (se_ix (se_var 0) se_int))) se_int) sa_nil)) se_int) se_int) sa_nil)) (se_var 1)))))))
theorem ok__law_lots (T : Tx K mg) : Cl P w K mg base 4 "_law_lots" s__law_lots ["box"] m__law_lots :=
  have SC : FnScope ["box", "demands", "many", "setup", "wide", "k"] ["box"] (defScope s__law_lots) := ⟨rfl, rfl, rfl, by decide +kernel, rfl, by decide +kernel, by decide +kernel⟩
  cl_body (b := b__law_lots) (k := 3) T.d__law_lots SC fun f cdv A outer s H E hr =>
    (sb_cons (ss_parT (is := [2, 4]) rfl (sa_cons (se_op os_add se_int (se_callC (ok__law_take T) (hr.mono (by decide)) (takes_of rfl rfl rfl rfl) (sa_cons (se_var 0) (sa_cons (se_ix (se_lst (sa_cons se_int (sa_cons se_int (sa_cons se_int sa_nil)))) (se_callC (ok__law_take T) (hr.mono (by decide)) (takes_of rfl rfl rfl rfl) (sa_cons (se_var 0) (sa_cons se_int sa_nil)))) sa_nil)))) (sa_cons (se_ix (se_lst (sa_cons se_int (sa_cons se_int (sa_cons se_int (sa_cons se_int sa_nil))))) (se_callC (ok__law_take T) (hr.mono (by decide)) (takes_of rfl rfl rfl rfl) (sa_cons (se_var 0) (sa_cons se_int sa_nil)))) sa_nil)) (pgn_cons 2 SC.nd (pgn_cons 4 SC.nd pgn_nil)))
    (sb_cons (ss_setComp 1 [("k", 5)] rfl SC.nd (si_range1 T.n_range (se_var 2)) (blk_ok (N := ["box", "demands", "many", "setup", "wide", "k"]) (sc := defScope s__law_lots) (by decide +kernel)) (fun _ _ _ _ _ => (sgc_name 5 SC.nd)) (fun _ _ _ _ _ => sts_nil) (fun _ _ _ _ _ => (se_op os_mulX (se_callC (ok__law_take T) (hr.mono (by decide)) takes0 (sa_cons (se_var 0) (sa_cons (se_var 4) sa_nil))) (se_callTy cs_int T.n_int (sa_cons (se_cmp (os_ne hr.units) (se_callC (ok__law_take T) (hr.mono (by decide)) takes0 (sa_cons (se_var 0) (sa_cons se_int sa_nil))) se_int) sa_nil)))) (sw_true rfl rfl rfl (by decide +kernel)))
    (sb_cons (ss_if (st_cmp (os_eq hr.units) (se_callC (ok__law_take T) (hr.mono (by decide)) (takes_of rfl rfl rfl rfl) (sa_cons (se_var 0) (sa_cons se_int sa_nil))) se_int (hbl := bl_eq)) (sb_one (ss_set 1 SC.nd (se_op os_mulX (se_lst (sa_cons (se_ix (se_var 1) se_int) sa_nil)) (se_var 2)))) sb_nil)
    (sb_cons (ss_set 3 SC.nd (se_ix (se_lst (sa_cons (se_callC (ok__law_take T) (hr.mono (by decide)) (takes_of rfl rfl rfl rfl) (sa_cons (se_var 0) (sa_cons se_int sa_nil))) (sa_cons se_int (sa_cons (se_callC (ok__law_take T) (hr.mono (by decide)) (takes_of rfl rfl rfl rfl) (sa_cons (se_var 0) (sa_cons se_int sa_nil))) (sa_cons (se_op os_mulX se_int (se_callC (ok__law_take T) (hr.mono (by decide)) (takes_of rfl rfl rfl rfl) (sa_cons (se_var 0) (sa_cons se_int sa_nil)))) sa_nil))))) (se_callC (ok__law_take T) (hr.mono (by decide)) (takes_of rfl rfl rfl rfl) (sa_cons (se_var 0) (sa_cons se_int sa_nil)))))
    (sb_one (ss_ret (se_tup (sa_cons (se_callTy cs_tuple T.n_tuple (sa_cons (se_var 1) sa_nil)) (sa_cons (se_var 3) (sa_cons (se_ix (se_lst (sa_cons se_int (sa_cons se_int (sa_cons (se_callC (ok__law_take T) (hr.mono (by decide)) (takes_of rfl rfl rfl rfl) (sa_cons (se_var 0) (sa_cons se_int sa_nil))) (sa_cons (se_callC (ok__law_take T) (hr.mono (by decide)) (takes_of rfl rfl rfl rfl) (sa_cons (se_var 0) (sa_cons se_int sa_nil))) sa_nil))))) (se_callC (ok__law_take T) (hr.mono (by decide)) (takes_of rfl rfl rfl rfl) (sa_cons (se_var 0) (sa_cons se_int sa_nil)))) sa_nil))))))))))
theorem ok__law_silver (T : Tx K mg) : Cl P w K mg base 3 "_law_silver" s__law_silver ["demands", "setup", "hold"] m__law_silver :=
  have SC : FnScope ["demands", "setup", "hold", "after", "first", "found", "many", "more", "now"] ["demands", "setup", "hold"] (defScope s__law_silver) := ⟨rfl, rfl, rfl, by decide +kernel, rfl, by decide +kernel, by decide +kernel⟩
  cl_body (b := b__law_silver) (k := 2) T.d__law_silver SC fun f cdv A outer s H E hr =>
    (sb_cons (ss_set 5 SC.nd (se_lst sa_nil))
    (sb_cons (ss_while (passes_of rfl) (st_cmp os_lt (se_callB cs_len T.n_len (sa_cons (se_var 5) sa_nil)) (se_callB cs_len T.n_len (sa_cons (se_var 0) sa_nil)) (hbl := bl_lt)) (sb_cons (ss_par2' 4 6 rfl SC.nd (sa_cons (se_callB cs_len T.n_len (sa_cons (se_var 5) sa_nil)) (sa_cons se_int sa_nil)))
    (sb_cons (ss_if (st_cmp (os_eq hr.units) (se_ix (se_var 0) (se_var 4)) se_int (hbl := bl_eq)) (sb_cons (ss_exp (se_app 5 se_int))
    (sb_one ss_con)) sb_nil)
    (sb_cons (ss_set 8 SC.nd (se_var 1))
    (sb_cons (ss_set 7 SC.nd (se_cmp os_lt (se_op os_add (se_var 4) (se_var 6)) (se_callB cs_len T.n_len (sa_cons (se_var 0) sa_nil))))
    (sb_cons (ss_while (passes_of rfl) (st_e (se_var 7)) (sb_cons (ss_set 3 SC.nd (se_op os_add (se_var 8) (se_op os_mulX (se_op os_mulX (se_var 2) (se_var 6)) (se_ix (se_var 0) (se_op os_add (se_var 4) (se_var 6))))))
    (sb_cons (ss_set 7 SC.nd (se_cmp os_lt (se_op os_mulX (se_var 3) (se_var 6)) (se_op os_mulX (se_var 8) (se_op os_add (se_var 6) se_int))))
    (sb_one (ss_if (st_e (se_var 7)) (sb_cons (ss_par2' 8 6 rfl SC.nd (sa_cons (se_var 3) (sa_cons (se_op os_add (se_var 6) se_int) sa_nil)))
    (sb_one (ss_set 7 SC.nd (se_cmp os_lt (se_op os_add (se_var 4) (se_var 6)) (se_callB cs_len T.n_len (sa_cons (se_var 0) sa_nil)))))) sb_nil)))))
    (sb_one (ss_set 5 SC.nd (se_op os_add (se_op os_add (se_var 5) (se_lst (sa_cons (se_callB (cs_sumX rfl) T.n_sum (sa_cons (se_slice (se_var 0) (so_some (se_var 4)) (so_some (se_op os_add (se_var 4) (se_var 6)))) sa_nil)) sa_nil))) (se_op os_mulX (se_lst (sa_cons se_int sa_nil)) (se_op os_sub (se_var 6) se_int)))))))))))
    (sb_one (ss_ret (se_callTy cs_tuple T.n_tuple (sa_cons (se_var 5) sa_nil))))))
theorem ok__law_best (T : Tx K mg) : Cl P w K mg base 3 "_law_best" s__law_best ["demands", "setup", "hold"] m__law_best :=
  have SC : FnScope ["demands", "setup", "hold", "after", "cost", "first", "made", "many", "rows", "some", "k"] ["demands", "setup", "hold"] (defScope s__law_best) := ⟨rfl, rfl, rfl, by decide +kernel, rfl, by decide +kernel, by decide +kernel⟩
  cl_body (b := b__law_best) (k := 2) T.d__law_best SC fun f cdv A outer s H E hr =>
    (sb_cons (ss_set 8 SC.nd (se_lst (sa_cons (se_tup (sa_cons se_int (sa_cons (se_tup sa_nil) sa_nil))) sa_nil)))
    (sb_cons (ss_for (passes_of rfl) rfl (si_range3 T.n_range (sa_cons (se_op os_sub (se_callB cs_len T.n_len (sa_cons (se_var 0) sa_nil)) se_int) (sa_cons (se_un us_neg se_int) (sa_cons (se_un us_neg se_int) sa_nil)))) (sg_name 5 SC.nd) (sb_cons (ss_set 9 SC.nd (se_lst sa_nil))
    (sb_cons (ss_for (passes_of rfl) rfl (si_range2 T.n_range se_int (se_op os_add (se_op os_sub (se_callB cs_len T.n_len (sa_cons (se_var 0) sa_nil)) (se_var 5)) se_int)) (sg_name 7 SC.nd) (sb_cons (ss_set 6 SC.nd (se_callB (cs_sumX rfl) T.n_sum (sa_cons (se_slice (se_var 0) (so_some (se_var 5)) (so_some (se_op os_add (se_var 5) (se_var 7)))) sa_nil)))
    (sb_cons (ss_set 4 SC.nd (se_op os_add (se_op os_mulX (se_var 1) (se_callTy cs_int T.n_int (sa_cons (se_cmp os_gt (se_var 6) se_int) sa_nil))) (se_op os_mulX (se_var 2) (se_callB (cs_sumX rfl) T.n_sum (sa_cons (se_comp [("k", 10)] rfl SC.nd (si_range1 T.n_range (se_var 7)) (blk_ok (N := ["demands", "setup", "hold", "after", "cost", "first", "made", "many", "rows", "some", "k"]) (sc := defScope s__law_best) (by decide +kernel)) (fun _ _ _ _ _ => (sgc_name 10 SC.nd)) (fun _ _ _ _ _ => sts_nil) (fun _ _ _ _ _ => (se_op os_mulX (se_var 10) (se_ix (se_var 0) (se_op os_add (se_var 5) (se_var 10)))))) sa_nil)))))
    (sb_cons (ss_set 3 SC.nd (se_ix (se_var 8) (se_op os_sub (se_var 7) se_int)))
    (sb_one (ss_exp (se_app 9 (se_tup (sa_cons (se_op os_add (se_var 4) (se_ix (se_var 3) se_int)) (sa_cons (se_op os_add (se_op os_add (se_tup (sa_cons (se_var 6) sa_nil)) (se_op os_mulX (se_tup (sa_cons se_int sa_nil)) (se_op os_sub (se_var 7) se_int))) (se_ix (se_var 3) se_int)) sa_nil))))))))))
    (sb_one (ss_set 8 SC.nd (se_op os_add (se_lst (sa_cons (se_callB (cs_minX rfl hr.units) T.n_min (sa_cons (se_var 9) sa_nil)) sa_nil)) (se_var 8)))))))
    (sb_one (ss_ret (se_ix (se_var 8) se_int)))))
theorem ok_is_tuple_of (T : Tx K mg) : Cl P w K mg base 3 "is_tuple_of" s_is_tuple_of ["value", "many"] m_is_tuple_of :=
  have SC : FnScope ["value", "many"] ["value", "many"] (defScope s_is_tuple_of) := ⟨rfl, rfl, rfl, by decide +kernel, rfl, by decide +kernel, by decide +kernel⟩
  cl_body (b := b_is_tuple_of) (k := 2) T.d_is_tuple_of SC fun f cdv A outer s H E hr =>
    (sb_one (ss_ret (se_and (se_isi (T := .tup) T.n_isinstance T.n_tuple (se_var 0)) (se_one (se_cmp (os_eq hr.units) (se_callB cs_len T.n_len (sa_cons (se_var 0) sa_nil)) (se_var 1))))))
theorem ok_is_integer (T : Tx K mg) : Cl P w K mg base 3 "is_integer" s_is_integer ["value"] m_is_integer :=
  have SC : FnScope ["value"] ["value"] (defScope s_is_integer) := ⟨rfl, rfl, rfl, by decide +kernel, rfl, by decide +kernel, by decide +kernel⟩
  cl_body (b := b_is_integer) (k := 2) T.d_is_integer SC fun f cdv A outer s H E hr =>
    (sb_one (ss_ret (se_and (se_isi (T := .int) T.n_isinstance T.n_int (se_var 0)) (se_one (se_not (se_isi (T := .bl) T.n_isinstance T.n_bool (se_var 0)))))))
theorem ok_is_between (T : Tx K mg) : Cl P w K mg base 4 "is_between" s_is_between ["value", "least", "most"] m_is_between :=
  have SC : FnScope ["value", "least", "most"] ["value", "least", "most"] (defScope s_is_between) := ⟨rfl, rfl, rfl, by decide +kernel, rfl, by decide +kernel, by decide +kernel⟩
  cl_body (b := b_is_between) (k := 3) T.d_is_between SC fun f cdv A outer s H E hr =>
    (sb_one (ss_ret (se_and (se_callC (ok_is_integer T) (hr.mono (by decide)) (takes_of rfl rfl rfl rfl) (sa_cons (se_var 0) sa_nil)) (se_one (se_chain os_le os_le bl_le fun _ _ h h2 => pe_chain h h2 (se_var 1) (se_var 0) (se_var 2))))))
theorem ok_is_row (T : Tx K mg) : Cl P w K mg base 5 "is_row" s_is_row ["value", "many", "least", "most"] m_is_row :=
  have SC : FnScope ["value", "many", "least", "most", "item"] ["value", "many", "least", "most"] (defScope s_is_row) := ⟨rfl, rfl, rfl, by decide +kernel, rfl, by decide +kernel, by decide +kernel⟩
  cl_body (b := b_is_row) (k := 4) T.d_is_row SC fun f cdv A outer s H E hr =>
    (sb_one (ss_ret (se_and (se_callC (ok_is_tuple_of T) (hr.mono (by decide)) (takes_of rfl rfl rfl rfl) (sa_cons (se_var 0) (sa_cons (se_var 1) sa_nil))) (se_one (se_callB (cs_all rfl) T.n_all (sa_cons (se_comp [("item", 4)] rfl SC.nd (si_seq (se_var 0)) (blk_ok (N := ["value", "many", "least", "most", "item"]) (sc := defScope s_is_row) (by decide +kernel)) (fun _ _ _ _ _ => (sgc_name 4 SC.nd)) (fun _ _ _ _ _ => sts_nil) (fun _ _ _ _ _ => (se_callC (ok_is_between T) (hr.mono (by decide)) takes0 (sa_cons (se_var 4) (sa_cons (se_var 2) (sa_cons (se_var 3) sa_nil)))))) sa_nil))))))
theorem ok_check_costs (T : Tx K mg) : Cl P w K mg base 6 "check_costs" s_check_costs ["demands", "setup", "hold"] m_check_costs :=
  have SC : FnScope ["demands", "setup", "hold"] ["demands", "setup", "hold"] (defScope s_check_costs) := ⟨rfl, rfl, rfl, by decide +kernel, rfl, by decide +kernel, by decide +kernel⟩
  cl_body (b := b_check_costs) (k := 5) T.d_check_costs SC fun f cdv A outer s H E hr =>
    (sb_cons (ss_if (sw_or (st_not (st_e (se_isi (T := .tup) T.n_isinstance T.n_tuple (se_var 0)))) (sw_or1 (st_not (st_chain os_le os_le bl_le bl_le fun _ _ h h2 => pt_chain h h2 se_int (se_callB cs_len T.n_len (sa_cons (se_var 0) sa_nil)) (se_globI T.g_MOST_PERIODS))))).st (sb_one (ss_raise_given rfl T.x_InvalidDemands hr (takes_of rfl rfl rfl rfl) (se_var 0))) sb_nil)
    (sb_cons (ss_if (st_not (st_e (se_callC (ok_is_row T) (hr.mono (by decide)) (takes_of rfl rfl rfl rfl) (sa_cons (se_var 0) (sa_cons (se_callB cs_len T.n_len (sa_cons (se_var 0) sa_nil)) (sa_cons se_int (sa_cons (se_globI T.g_MOST_DEMAND) sa_nil))))))) (sb_one (ss_raise_given rfl T.x_InvalidDemands hr (takes_of rfl rfl rfl rfl) (se_var 0))) sb_nil)
    (sb_cons (ss_if (st_not (st_e (se_callC (ok_is_between T) (hr.mono (by decide)) (takes_of rfl rfl rfl rfl) (sa_cons (se_var 1) (sa_cons se_int (sa_cons (se_globI T.g_MOST_SETUP) sa_nil)))))) (sb_one (ss_raise_given rfl T.x_InvalidNumber hr (takes_of rfl rfl rfl rfl) (se_var 1))) sb_nil)
    (sb_one (ss_if (st_not (st_e (se_callC (ok_is_between T) (hr.mono (by decide)) (takes_of rfl rfl rfl rfl) (sa_cons (se_var 2) (sa_cons se_int (sa_cons (se_globI T.g_MOST_HOLD) sa_nil)))))) (sb_one (ss_raise_given rfl T.x_InvalidNumber hr (takes_of rfl rfl rfl rfl) (se_var 2))) sb_nil)))))
theorem ok_cost_of_lot (T : Tx K mg) : Cl P w K mg base 3 "cost_of_lot" s_cost_of_lot ["demands", "setup", "hold", "first", "behind"] m_cost_of_lot :=
  have SC : FnScope ["demands", "setup", "hold", "first", "behind", "kept", "period"] ["demands", "setup", "hold", "first", "behind"] (defScope s_cost_of_lot) := ⟨rfl, rfl, rfl, by decide +kernel, rfl, by decide +kernel, by decide +kernel⟩
  cl_body (b := b_cost_of_lot) (k := 2) T.d_cost_of_lot SC fun f cdv A outer s H E hr =>
    (sb_cons (ss_set 5 SC.nd (se_callB (cs_sumX rfl) T.n_sum (sa_cons (se_comp [("period", 6)] rfl SC.nd (si_range2 T.n_range (se_var 3) (se_var 4)) (blk_ok (N := ["demands", "setup", "hold", "first", "behind", "kept", "period"]) (sc := defScope s_cost_of_lot) (by decide +kernel)) (fun _ _ _ _ _ => (sgc_name 6 SC.nd)) (fun _ _ _ _ _ => sts_nil) (fun _ _ _ _ _ => (se_op os_mulX (se_op os_sub (se_var 6) (se_var 3)) (se_ix (se_var 0) (se_var 6))))) sa_nil)))
    (sb_one (ss_ret (se_op os_add (se_op os_mulX (se_var 1) (se_callTy cs_int T.n_int (sa_cons (se_cmp os_gt (se_callB (cs_sumX rfl) T.n_sum (sa_cons (se_slice (se_var 0) (so_some (se_var 3)) (so_some (se_var 4))) sa_nil)) se_int) sa_nil))) (se_op os_mulX (se_var 2) (se_var 5))))))
theorem ok_end_of_lot (T : Tx K mg) : Cl P w K mg base 4 "end_of_lot" s_end_of_lot ["demands", "setup", "hold", "first"] m_end_of_lot :=
  have SC : FnScope ["demands", "setup", "hold", "first", "after", "behind", "now"] ["demands", "setup", "hold", "first"] (defScope s_end_of_lot) := ⟨rfl, rfl, rfl, by decide +kernel, rfl, by decide +kernel, by decide +kernel⟩
  cl_body (b := b_end_of_lot) (k := 3) T.d_end_of_lot SC fun f cdv A outer s H E hr =>
    (sb_cons (ss_set 5 SC.nd (se_op os_add (se_var 3) se_int))
    (sb_cons (ss_while (passes_of rfl) (st_cmp os_lt (se_var 5) (se_callB cs_len T.n_len (sa_cons (se_var 0) sa_nil)) (hbl := bl_lt)) (sb_cons (ss_set 6 SC.nd (se_callC (ok_cost_of_lot T) (hr.mono (by decide)) (takes_of rfl rfl rfl rfl) (sa_cons (se_var 0) (sa_cons (se_var 1) (sa_cons (se_var 2) (sa_cons (se_var 3) (sa_cons (se_var 5) sa_nil)))))))
    (sb_cons (ss_set 4 SC.nd (se_callC (ok_cost_of_lot T) (hr.mono (by decide)) (takes_of rfl rfl rfl rfl) (sa_cons (se_var 0) (sa_cons (se_var 1) (sa_cons (se_var 2) (sa_cons (se_var 3) (sa_cons (se_op os_add (se_var 5) se_int) sa_nil)))))))
    (sb_cons (ss_if (st_cmp os_ge (se_op os_mulX (se_var 4) (se_op os_sub (se_var 5) (se_var 3))) (se_op os_mulX (se_var 6) (se_op os_sub (se_op os_add (se_var 5) se_int) (se_var 3))) (hbl := bl_ge)) (sb_one (ss_ret (se_var 5))) sb_nil)
    (sb_one (ss_aug 5 SC.nd ios_add se_int))))))
    (sb_one (ss_ret (se_var 5)))))
theorem ok_silver (T : Tx K mg) : Cl P w K mg base 7 "silver" s_silver ["demands", "setup", "hold"] m_silver :=
  have SC : FnScope ["demands", "setup", "hold", "behind", "first", "found"] ["demands", "setup", "hold"] (defScope s_silver) := ⟨rfl, rfl, rfl, by decide +kernel, rfl, by decide +kernel, by decide +kernel⟩
  cl_body (b := b_silver) (k := 6) T.d_silver SC fun f cdv A outer s H E hr =>
    (sb_cons (ss_exp (se_callC (ok_check_costs T) (hr.mono (by decide)) (takes_of rfl rfl rfl rfl) (sa_cons (se_var 0) (sa_cons (se_var 1) (sa_cons (se_var 2) sa_nil)))))
    (sb_cons (ss_set 5 SC.nd (se_lst sa_nil))
    (sb_cons (ss_while (passes_of rfl) (st_cmp os_lt (se_callB cs_len T.n_len (sa_cons (se_var 5) sa_nil)) (se_callB cs_len T.n_len (sa_cons (se_var 0) sa_nil)) (hbl := bl_lt)) (sb_cons (ss_set 4 SC.nd (se_callB cs_len T.n_len (sa_cons (se_var 5) sa_nil)))
    (sb_cons (ss_set 3 SC.nd (se_if (st_cmp os_gt (se_ix (se_var 0) (se_var 4)) se_int (hbl := bl_gt)) (se_callC (ok_end_of_lot T) (hr.mono (by decide)) (takes_of rfl rfl rfl rfl) (sa_cons (se_var 0) (sa_cons (se_var 1) (sa_cons (se_var 2) (sa_cons (se_var 4) sa_nil))))) (se_op os_add (se_var 4) se_int)))
    (sb_one (ss_exp (se_ext 5 (se_op os_add (se_lst (sa_cons (se_callB (cs_sumX rfl) T.n_sum (sa_cons (se_slice (se_var 0) (so_some (se_var 4)) (so_some (se_var 3))) sa_nil)) sa_nil)) (se_op os_mulX (se_lst (sa_cons se_int sa_nil)) (se_op os_sub (se_op os_sub (se_var 3) (se_var 4)) se_int)))))))))
    (sb_one (ss_ret (se_callTy cs_tuple T.n_tuple (sa_cons (se_var 5) sa_nil)))))))
theorem ok_kept_by (T : Tx K mg) : Cl P w K mg base 3 "kept_by" s_kept_by ["demands", "plan"] m_kept_by :=
  have SC : FnScope ["demands", "plan", "found", "kept", "made", "need"] ["demands", "plan"] (defScope s_kept_by) := ⟨rfl, rfl, rfl, by decide +kernel, rfl, by decide +kernel, by decide +kernel⟩
  cl_body (b := b_kept_by) (k := 2) T.d_kept_by SC fun f cdv A outer s H E hr =>
    (sb_cons (ss_par2' 2 3 rfl SC.nd (sa_cons (se_lst sa_nil) (sa_cons se_int sa_nil)))
    (sb_cons (ss_for (passes_of rfl) rfl (si_zip T.n_zip (sa_cons (se_var 0) (sa_cons (se_var 1) sa_nil))) (sg_tup rfl (sgs_cons (sg_name 5 SC.nd) (sgs_cons (sg_name 4 SC.nd) sgs_nil))) (sb_cons (ss_aug 3 SC.nd ios_add (se_op os_sub (se_var 4) (se_var 5)))
    (sb_one (ss_exp (se_app 2 (se_var 3))))))
    (sb_one (ss_ret (se_var 2)))))
theorem ok_is_plan (T : Tx K mg) : Cl P w K mg base 6 "is_plan" s_is_plan ["demands", "value"] m_is_plan :=
  have SC : FnScope ["demands", "value", "kept"] ["demands", "value"] (defScope s_is_plan) := ⟨rfl, rfl, rfl, by decide +kernel, rfl, by decide +kernel, by decide +kernel⟩
  cl_body (b := b_is_plan) (k := 5) T.d_is_plan SC fun f cdv A outer s H E hr =>
    (sb_cons (ss_if (st_not (st_e (se_callC (ok_is_row T) (hr.mono (by decide)) (takes_of rfl rfl rfl rfl) (sa_cons (se_var 1) (sa_cons (se_callB cs_len T.n_len (sa_cons (se_var 0) sa_nil)) (sa_cons se_int (sa_cons (se_callB (cs_sumX rfl) T.n_sum (sa_cons (se_var 0) sa_nil)) sa_nil))))))) (sb_one (ss_ret se_bl)) sb_nil)
    (sb_cons (ss_set 2 SC.nd (se_callC (ok_kept_by T) (hr.mono (by decide)) (takes_of rfl rfl rfl rfl) (sa_cons (se_var 0) (sa_cons (se_var 1) sa_nil))))
    (sb_one (ss_ret (se_and (se_cmp os_ge (se_callB (cs_minX rfl hr.units) T.n_min (sa_cons (se_var 2) sa_nil)) se_int) (se_one (se_cmp (os_eq hr.units) (se_ix (se_var 2) (se_un us_neg se_int)) se_int)))))))
theorem ok_lot_cost (T : Tx K mg) : Cl P w K mg base 7 "lot_cost" s_lot_cost ["demands", "setup", "hold", "plan"] m_lot_cost :=
  have SC : FnScope ["demands", "setup", "hold", "plan", "made"] ["demands", "setup", "hold", "plan"] (defScope s_lot_cost) := ⟨rfl, rfl, rfl, by decide +kernel, rfl, by decide +kernel, by decide +kernel⟩
  cl_body (b := b_lot_cost) (k := 6) T.d_lot_cost SC fun f cdv A outer s H E hr =>
    (sb_cons (ss_exp (se_callC (ok_check_costs T) (hr.mono (by decide)) (takes_of rfl rfl rfl rfl) (sa_cons (se_var 0) (sa_cons (se_var 1) (sa_cons (se_var 2) sa_nil)))))
    (sb_cons (ss_if (st_not (st_e (se_callC (ok_is_plan T) (hr.mono (by decide)) (takes_of rfl rfl rfl rfl) (sa_cons (se_var 0) (sa_cons (se_var 3) sa_nil))))) (sb_one (ss_raise_given rfl T.x_InvalidPlan hr (takes_of rfl rfl rfl rfl) (se_var 3))) sb_nil)
    (sb_one (ss_ret (se_op os_add (se_op os_mulX (se_var 1) (se_callB cs_len T.n_len (sa_cons (se_comp [("made", 4)] rfl SC.nd (si_seq (se_var 3)) (blk_ok (N := ["demands", "setup", "hold", "plan", "made"]) (sc := defScope s_lot_cost) (by decide +kernel)) (fun _ _ _ _ _ => (sgc_name 4 SC.nd)) (fun _ _ _ _ _ => (sts_one (st_cmp os_gt (se_var 4) se_int (hbl := bl_gt)))) (fun _ _ _ _ _ => (se_var 4))) sa_nil))) (se_op os_mulX (se_var 2) (se_callB (cs_sumX rfl) T.n_sum (sa_cons (se_callC (ok_kept_by T) (hr.mono (by decide)) (takes_of rfl rfl rfl rfl) (sa_cons (se_var 0) (sa_cons (se_var 3) sa_nil))) sa_nil))))))))
theorem ok_best_plan (T : Tx K mg) : Cl P w K mg base 4 "best_plan" s_best_plan ["demands", "setup", "hold"] m_best_plan :=
  have SC : FnScope ["demands", "setup", "hold", "behind", "cost", "first", "found", "made", "plan", "some"] ["demands", "setup", "hold"] (defScope s_best_plan) := ⟨rfl, rfl, rfl, by decide +kernel, rfl, by decide +kernel, by decide +kernel⟩
  cl_body (b := b_best_plan) (k := 3) T.d_best_plan SC fun f cdv A outer s H E hr =>
    (sb_cons (ss_set 6 SC.nd (se_op os_mulX (se_lst (sa_cons (se_tup (sa_cons se_int (sa_cons (se_tup sa_nil) sa_nil))) sa_nil)) (se_op os_add (se_callB cs_len T.n_len (sa_cons (se_var 0) sa_nil)) se_int)))
    (sb_cons (ss_for (passes_of rfl) rfl (si_range3 T.n_range (sa_cons (se_op os_sub (se_callB cs_len T.n_len (sa_cons (se_var 0) sa_nil)) se_int) (sa_cons (se_un us_neg se_int) (sa_cons (se_un us_neg se_int) sa_nil)))) (sg_name 5 SC.nd) (sb_cons (ss_set 9 SC.nd (se_lst sa_nil))
    (sb_cons (ss_for (passes_of rfl) rfl (si_range2 T.n_range (se_op os_add (se_var 5) se_int) (se_op os_add (se_callB cs_len T.n_len (sa_cons (se_var 0) sa_nil)) se_int)) (sg_name 3 SC.nd) (sb_cons (ss_unp (se_ix (se_var 6) (se_var 3)) (sg_tup rfl (sgs_cons (sg_name 4 SC.nd) (sgs_cons (sg_name 8 SC.nd) sgs_nil))))
    (sb_cons (ss_set 7 SC.nd (se_op os_add (se_tup (sa_cons (se_callB (cs_sumX rfl) T.n_sum (sa_cons (se_slice (se_var 0) (so_some (se_var 5)) (so_some (se_var 3))) sa_nil)) sa_nil)) (se_op os_mulX (se_tup (sa_cons se_int sa_nil)) (se_op os_sub (se_op os_sub (se_var 3) (se_var 5)) se_int))))
    (sb_one (ss_exp (se_app 9 (se_tup (sa_cons (se_op os_add (se_var 4) (se_callC (ok_cost_of_lot T) (hr.mono (by decide)) (takes_of rfl rfl rfl rfl) (sa_cons (se_var 0) (sa_cons (se_var 1) (sa_cons (se_var 2) (sa_cons (se_var 5) (sa_cons (se_var 3) sa_nil))))))) (sa_cons (se_op os_add (se_var 7) (se_var 8)) sa_nil)))))))))
    (sb_one (ss_setIx 6 (se_callB (cs_minX rfl hr.units) T.n_min (sa_cons (se_var 9) sa_nil)) (se_var 5))))))
    (sb_one (ss_ret (se_ix (se_var 6) se_int)))))
theorem ok_best_lots (T : Tx K mg) : Cl P w K mg base 7 "best_lots" s_best_lots ["demands", "setup", "hold"] m_best_lots :=
  have SC : FnScope ["demands", "setup", "hold"] ["demands", "setup", "hold"] (defScope s_best_lots) := ⟨rfl, rfl, rfl, by decide +kernel, rfl, by decide +kernel, by decide +kernel⟩
  cl_body (b := b_best_lots) (k := 6) T.d_best_lots SC fun f cdv A outer s H E hr =>
    (sb_cons (ss_exp (se_callC (ok_check_costs T) (hr.mono (by decide)) (takes_of rfl rfl rfl rfl) (sa_cons (se_var 0) (sa_cons (se_var 1) (sa_cons (se_var 2) sa_nil)))))
    (sb_one (ss_ret (se_callC (ok_best_plan T) (hr.mono (by decide)) (takes_of rfl rfl rfl rfl) (sa_cons (se_var 0) (sa_cons (se_var 1) (sa_cons (se_var 2) sa_nil)))))))
theorem ok__law_asked (T : Tx K mg) : Cl P w K mg base 8 "_law_asked" s__law_asked ["turn", "demands", "setup", "hold", "plan", "named"] m__law_asked :=
  have SC : FnScope ["turn", "demands", "setup", "hold", "plan", "named", "e"] ["turn", "demands", "setup", "hold", "plan", "named"] (defScope s__law_asked) := ⟨rfl, rfl, rfl, by decide +kernel, rfl, by decide +kernel, by decide +kernel⟩
  cl_body (b := b__law_asked) (k := 7) T.d__law_asked SC fun f cdv A outer s H E hr =>
    (sb_one (ss_try SC.nd (takes_of rfl rfl rfl rfl) (fun W pn xe tk pz => (sb_cons (ss_if (st_cmp (os_eq hr.units) (se_var 0) se_int (hbl := bl_eq)) (sb_one (ss_ret (se_if (st_e (se_var 5)) (se_callCK0 (ks := ["plan", "hold", "setup", "demands"]) (perm := [3, 2, 1, 0]) (ok_lot_cost T) (hr.mono (by decide)) tk (by intro _ _ _ _ _ _ us ws h1 h2; exact match us, ws, h1, h2 with | [], [_, _, _, _], _, _ => rfl) (sk_cons (se_var 4) (sk_cons (se_var 3) (sk_cons (se_var 2) (sk_cons (se_var 1) sk_nil))))) (se_callC (ok_lot_cost T) (hr.mono (by decide)) tk (sa_cons (se_var 1) (sa_cons (se_var 2) (sa_cons (se_var 3) (sa_cons (se_var 4) sa_nil)))))))) sb_nil)
    (sb_cons (ss_if (st_cmp (os_eq hr.units) (se_var 0) se_int (hbl := bl_eq)) (sb_one (ss_ret (se_if (st_e (se_var 5)) (se_callCK0 (ks := ["hold", "setup", "demands"]) (perm := [2, 1, 0]) (ok_best_lots T) (hr.mono (by decide)) tk (by intro _ _ _ _ _ _ us ws h1 h2; exact match us, ws, h1, h2 with | [], [_, _, _], _, _ => rfl) (sk_cons (se_var 3) (sk_cons (se_var 2) (sk_cons (se_var 1) sk_nil)))) (se_callC (ok_best_lots T) (hr.mono (by decide)) tk (sa_cons (se_var 1) (sa_cons (se_var 2) (sa_cons (se_var 3) sa_nil))))))) sb_nil)
    (sb_one (ss_ret (se_if (st_e (se_var 5)) (se_callCK0 (ks := ["hold", "setup", "demands"]) (perm := [2, 1, 0]) (ok_silver T) (hr.mono (by decide)) tk (by intro _ _ _ _ _ _ us ws h1 h2; exact match us, ws, h1, h2 with | [], [_, _, _], _, _ => rfl) (sk_cons (se_var 3) (sk_cons (se_var 2) (sk_cons (se_var 1) sk_nil)))) (se_callC (ok_silver T) (hr.mono (by decide)) tk (sa_cons (se_var 1) (sa_cons (se_var 2) (sa_cons (se_var 3) sa_nil)))))))))) (.cons T.x_InvalidDemands.gC (hsub_of T.sib T.x_InvalidDemands.gC) (fun a oe cls d pn hz hf => (sb_one (ss_ret (se_lst (sa_cons se_str (sa_cons (se_exn_given 6 T.x_InvalidDemands hz hf (pv 6)) sa_nil)))))) (.cons T.x_InvalidNumber.gC (hsub_of T.sib T.x_InvalidNumber.gC) (fun a oe cls d pn hz hf => (sb_one (ss_ret (se_lst (sa_cons se_str (sa_cons (se_exn_given 6 T.x_InvalidNumber hz hf (pv 6)) sa_nil)))))) (.cons T.x_InvalidPlan.gC (hsub_of T.sib T.x_InvalidPlan.gC) (fun a oe cls d pn hz hf => (sb_one (ss_ret (se_lst (sa_cons se_str (sa_cons (se_exn_given 6 T.x_InvalidPlan hz hf (pv 6)) sa_nil)))))) .nil)))))
theorem ok__law_same (T : Tx K mg) : ∀ n : Nat, Cl P w K mg base (2 + n) "_law_same" s__law_same ["told", "due"] (m__law_same n)
  | 0 => cl_no T.d__law_same
  | n + 1 =>
  have CS := ok__law_same T n
  have SC : FnScope ["told", "due", "k", "key"] ["told", "due"] (defScope s__law_same) := ⟨rfl, rfl, rfl, by decide +kernel, rfl, by decide +kernel, by decide +kernel⟩
  cl_body (b := b__law_same (m__law_same n)) (k := 2 + n) T.d__law_same SC fun f cdv A outer s H E hr =>
    (sb_cons (ss_if (sw_or (st_cmp os_is (se_var 1) se_non (hbl := bl_is)) (sw_or1 (st_e (se_isi (T := .bl) T.n_isinstance T.n_bool (se_var 1))))).st (sb_one (ss_ret (se_if (st_cmp os_is (se_var 1) se_non (hbl := bl_is)) (se_cmp os_is (se_var 0) se_non) (se_and (se_isi (T := .bl) T.n_isinstance T.n_bool (se_var 0)) (se_one (se_cmp (os_eq hr.units) (se_cmp os_is (se_var 0) se_bl) (se_cmp os_is (se_var 1) se_bl))))))) sb_nil)
    (sb_cons (ss_if (st_e (se_isi (T := .int) T.n_isinstance T.n_int (se_var 1))) (sb_one (ss_ret (se_and (se_isi (T := .int) T.n_isinstance T.n_int (se_var 0)) (se_and (se_not (se_isi (T := .bl) T.n_isinstance T.n_bool (se_var 0))) (se_one (se_cmp (os_eq hr.units) (se_op os_sub (se_callTy cs_int T.n_int (sa_cons (se_var 0) sa_nil)) (se_var 1)) se_int)))))) sb_nil)
    (sb_cons (ss_if (st_e (se_isi (T := .str) T.n_isinstance T.n_str (se_var 1))) (sb_one (ss_ret (se_and (se_isi (T := .str) T.n_isinstance T.n_str (se_var 0)) (se_and (se_cmp (os_eq hr.units) (se_callB cs_len T.n_len (sa_cons (se_var 0) sa_nil)) (se_callB cs_len T.n_len (sa_cons (se_var 1) sa_nil))) (se_one (se_cmp (os_eq hr.units) (se_comp [("k", 2)] rfl SC.nd (si_range1 T.n_range (se_callB cs_len T.n_len (sa_cons (se_var 1) sa_nil))) (blk_ok (N := ["told", "due", "k", "key"]) (sc := defScope s__law_same) (by decide +kernel)) (fun _ _ _ _ _ => (sgc_name 2 SC.nd)) (fun _ _ _ _ _ => (sts_one (st_cmp (os_ne hr.units) (se_slice (se_var 0) (so_some (se_var 2)) (so_some (se_op os_add (se_var 2) se_int))) (se_ix (se_var 1) (se_var 2)) (hbl := bl_ne)))) (fun _ _ _ _ _ => (se_var 2))) (se_lst sa_nil))))))) sb_nil)
    (sb_cons (ss_if (st_e (se_isi (T := .dic) T.n_isinstance T.n_dict (se_var 1))) (sb_one (ss_ret (se_and (se_isi (T := .dic) T.n_isinstance T.n_dict (se_var 0)) (se_and (se_cmp (os_eq hr.units) (se_callB cs_len T.n_len (sa_cons (se_var 0) sa_nil)) (se_callB cs_len T.n_len (sa_cons (se_var 1) sa_nil))) (se_one (se_cmp (os_eq hr.units) (se_comp [("key", 3)] rfl SC.nd (si_seq (se_var 1)) (blk_ok (N := ["told", "due", "k", "key"]) (sc := defScope s__law_same) (by decide +kernel)) (fun _ _ _ _ _ => (sgc_name 3 SC.nd)) (fun _ _ _ _ _ => (sts_one (sw_or (st_cmp os_notIn (se_var 3) (se_var 0) (hbl := bl_notIn)) (sw_or1 (st_not (st_e (se_callC CS (hr.mono (by omega)) takes0 (sa_cons (se_ix (se_var 0) (se_var 3)) (sa_cons (se_ix (se_var 1) (se_var 3)) sa_nil))))))).st)) (fun _ _ _ _ _ => (se_var 3))) (se_lst sa_nil))))))) sb_nil)
    (sb_cons (ss_if (sw_or (st_not (st_e (se_isis (Ts := [.lst, .tup]) T.n_isinstance (se_var 0) (pt_cons (T := .lst) T.n_list (pt_cons (T := .tup) T.n_tuple pt_nil))))) (sw_or1 (st_cmp (os_ne hr.units) (se_isi (T := .lst) T.n_isinstance T.n_list (se_var 0)) (se_isi (T := .lst) T.n_isinstance T.n_list (se_var 1)) (hbl := bl_ne)))).st (sb_one (ss_ret se_bl)) sb_nil)
    (sb_one (ss_ret (se_and (se_cmp (os_eq hr.units) (se_callB cs_len T.n_len (sa_cons (se_var 0) sa_nil)) (se_callB cs_len T.n_len (sa_cons (se_var 1) sa_nil))) (se_one (se_cmp (os_eq hr.units) (se_comp [("k", 2)] rfl SC.nd (si_range1 T.n_range (se_callB cs_len T.n_len (sa_cons (se_var 1) sa_nil))) (blk_ok (N := ["told", "due", "k", "key"]) (sc := defScope s__law_same) (by decide +kernel)) (fun _ _ _ _ _ => (sgc_name 2 SC.nd)) (fun _ _ _ _ _ => (sts_one (st_not (st_e (se_callC CS (hr.mono (by omega)) takes0 (sa_cons (se_ix (se_var 0) (se_var 2)) (sa_cons (se_ix (se_var 1) (se_var 2)) sa_nil))))))) (fun _ _ _ _ _ => (se_var 2))) (se_lst sa_nil)))))))))))
theorem ok__law_drawn_plan (T : Tx K mg) : Cl P w K mg base 4 "_law_drawn_plan" s__law_drawn_plan ["box", "demands"] m__law_drawn_plan :=
  have SC : FnScope ["box", "demands", "found", "k", "kept", "left", "made", "need"] ["box", "demands"] (defScope s__law_drawn_plan) := ⟨rfl, rfl, rfl, by decide +kernel, rfl, by decide +kernel, by decide +kernel⟩
  cl_body (b := b__law_drawn_plan) (k := 3) T.d__law_drawn_plan SC fun f cdv A outer s H E hr =>
    (sb_cons (ss_par3 2 5 4 rfl SC.nd (sa_cons (se_lst sa_nil) (sa_cons (se_callB (cs_sumX rfl) T.n_sum (sa_cons (se_var 1) sa_nil)) (sa_cons se_int sa_nil))))
    (sb_cons (ss_for (passes_of rfl) rfl (si_range1 T.n_range (se_callB cs_len T.n_len (sa_cons (se_var 1) sa_nil))) (sg_name 3 SC.nd) (sb_cons (ss_set 7 SC.nd (se_callB (cs_max2 rfl) T.n_max (sa_cons se_int (sa_cons (se_op os_sub (se_ix (se_var 1) (se_var 3)) (se_var 4)) sa_nil))))
    (sb_cons (ss_set 6 SC.nd (se_if (st_cmp os_lt (se_op os_add (se_var 3) se_int) (se_callB cs_len T.n_len (sa_cons (se_var 1) sa_nil)) (hbl := bl_lt)) (se_callB (cs_min2 rfl) T.n_min (sa_cons (se_var 5) (sa_cons (se_op os_add (se_var 7) (se_ix (se_lst (sa_cons se_int (sa_cons se_int (sa_cons (se_callC (ok__law_take T) (hr.mono (by decide)) (takes_of rfl rfl rfl rfl) (sa_cons (se_var 0) (sa_cons se_int sa_nil))) (sa_cons (se_var 5) sa_nil))))) (se_callC (ok__law_take T) (hr.mono (by decide)) (takes_of rfl rfl rfl rfl) (sa_cons (se_var 0) (sa_cons se_int sa_nil))))) sa_nil))) (se_var 5)))
    (sb_cons (ss_exp (se_app 2 (se_var 6)))
    (sb_one (ss_par2' 5 4 rfl SC.nd (sa_cons (se_op os_sub (se_var 5) (se_var 6)) (sa_cons (se_op os_sub (se_op os_add (se_var 4) (se_var 6)) (se_ix (se_var 1) (se_var 3))) sa_nil))))))))
    (sb_one (ss_ret (se_callTy cs_tuple T.n_tuple (sa_cons (se_var 2) sa_nil))))))
theorem ok__law_cost (T : Tx K mg) : Cl P w K mg base 3 "_law_cost" s__law_cost ["demands", "setup", "hold", "plan"] m__law_cost :=
  have SC : FnScope ["demands", "setup", "hold", "plan", "k", "kept", "total"] ["demands", "setup", "hold", "plan"] (defScope s__law_cost) := ⟨rfl, rfl, rfl, by decide +kernel, rfl, by decide +kernel, by decide +kernel⟩
  cl_body (b := b__law_cost) (k := 2) T.d__law_cost SC fun f cdv A outer s H E hr =>
    (sb_cons (ss_parT (is := [5, 6]) rfl (sa_cons se_int (sa_cons se_int sa_nil)) (pgn_cons 5 SC.nd (pgn_cons 6 SC.nd pgn_nil)))
    (sb_cons (ss_for (passes_of rfl) rfl (si_range1 T.n_range (se_callB cs_len T.n_len (sa_cons (se_var 0) sa_nil))) (sg_name 4 SC.nd) (sb_cons (ss_set 5 SC.nd (se_op os_sub (se_op os_add (se_var 5) (se_ix (se_var 3) (se_var 4))) (se_ix (se_var 0) (se_var 4))))
    (sb_one (ss_set 6 SC.nd (se_op os_add (se_op os_add (se_var 6) (se_op os_mulX (se_var 2) (se_var 5))) (se_op os_mulX (se_var 1) (se_callTy cs_int T.n_int (sa_cons (se_cmp os_gt (se_ix (se_var 3) (se_var 4)) se_int) sa_nil))))))))
    (sb_one (ss_ret (se_var 6)))))
theorem ok__law_bent (T : Tx K mg) : Cl P w K mg base 4 "_law_bent" s__law_bent ["box", "plan"] m__law_bent :=
  have SC : FnScope ["box", "plan", "at", "menu"] ["box", "plan"] (defScope s__law_bent) := ⟨rfl, rfl, rfl, by decide +kernel, rfl, by decide +kernel, by decide +kernel⟩
  cl_body (b := b__law_bent) (k := 3) T.d__law_bent SC fun f cdv A outer s H E hr =>
    (sb_cons (ss_set 2 SC.nd (se_callC (ok__law_take T) (hr.mono (by decide)) (takes_of rfl rfl rfl rfl) (sa_cons (se_var 0) (sa_cons (se_callB cs_len T.n_len (sa_cons (se_var 1) sa_nil)) sa_nil))))
    (sb_cons (ss_set 3 SC.nd (se_lst (sa_cons (se_callTy cs_list T.n_list (sa_cons (se_var 1) sa_nil)) (sa_cons (se_op os_add (se_var 1) (se_tup (sa_cons se_int sa_nil))) (sa_cons (se_slice (se_var 1) so_none (so_some (se_un us_neg se_int))) (sa_cons se_non (sa_cons se_str (sa_cons se_int (sa_cons (se_op os_add (se_op os_add (se_slice (se_var 1) so_none (so_some (se_var 2))) (se_tup (sa_cons se_non sa_nil))) (se_slice (se_var 1) (so_some (se_op os_add (se_var 2) se_int)) so_none)) (sa_cons (se_op os_add (se_op os_add (se_slice (se_var 1) so_none (so_some (se_var 2))) (se_tup (sa_cons se_bl sa_nil))) (se_slice (se_var 1) (so_some (se_op os_add (se_var 2) se_int)) so_none)) sa_nil))))))))))
    (sb_cons (ss_set 3 SC.nd (se_op os_add (se_var 3) (se_lst (sa_cons (se_op os_add (se_op os_add (se_slice (se_var 1) so_none (so_some (se_var 2))) (se_tup (sa_cons (se_op os_add (se_ix (se_var 1) (se_var 2)) se_int) sa_nil))) (se_slice (se_var 1) (so_some (se_op os_add (se_var 2) se_int)) so_none)) (sa_cons (se_op os_add (se_op os_add (se_slice (se_var 1) so_none (so_some (se_var 2))) (se_tup (sa_cons (se_op os_sub (se_ix (se_var 1) (se_var 2)) se_int) sa_nil))) (se_slice (se_var 1) (so_some (se_op os_add (se_var 2) se_int)) so_none)) (sa_cons (se_rev (se_var 1)) (sa_cons (se_op os_add (se_slice (se_var 1) (so_some se_int) so_none) (se_slice (se_var 1) so_none (so_some se_int))) sa_nil)))))))
    (sb_one (ss_ret (se_ix (se_var 3) (se_callC (ok__law_take T) (hr.mono (by decide)) (takes_of rfl rfl rfl rfl) (sa_cons (se_var 0) (sa_cons (se_callB cs_len T.n_len (sa_cons (se_var 3) sa_nil)) sa_nil)))))))))
theorem ok__law_is_plan (T : Tx K mg) : Cl P w K mg base 3 "_law_is_plan" s__law_is_plan ["demands", "value"] m__law_is_plan :=
  have SC : FnScope ["demands", "value", "kept", "x", "k"] ["demands", "value"] (defScope s__law_is_plan) := ⟨rfl, rfl, rfl, by decide +kernel, rfl, by decide +kernel, by decide +kernel⟩
  cl_body (b := b__law_is_plan) (k := 2) T.d__law_is_plan SC fun f cdv A outer s H E hr =>
    (sb_cons (ss_if (sw_or (st_not (st_e (se_isi (T := .tup) T.n_isinstance T.n_tuple (se_var 1)))) (sw_or1 (st_cmp (os_ne hr.units) (se_callB cs_len T.n_len (sa_cons (se_var 1) sa_nil)) (se_callB cs_len T.n_len (sa_cons (se_var 0) sa_nil)) (hbl := bl_ne)))).st (sb_one (ss_ret se_bl)) sb_nil)
    (sb_cons (ss_if (st_cmp (os_ne hr.units) (se_comp [("x", 3)] rfl SC.nd (si_seq (se_var 1)) (blk_ok (N := ["demands", "value", "kept", "x", "k"]) (sc := defScope s__law_is_plan) (by decide +kernel)) (fun _ _ _ _ _ => (sgc_name 3 SC.nd)) (fun _ _ _ _ _ => (sts_one (sw_or (st_not (st_e (se_isi (T := .int) T.n_isinstance T.n_int (se_var 3)))) (sw_or (st_e (se_isi (T := .bl) T.n_isinstance T.n_bool (se_var 3))) (sw_or1 (st_cmp os_lt (se_var 3) se_int (hbl := bl_lt))))).st)) (fun _ _ _ _ _ => (se_var 3))) (se_lst sa_nil) (hbl := bl_ne)) (sb_one (ss_ret se_bl)) sb_nil)
    (sb_cons (ss_setComp 2 [("k", 4)] rfl SC.nd (si_range1 T.n_range (se_callB cs_len T.n_len (sa_cons (se_var 1) sa_nil))) (blk_ok (N := ["demands", "value", "kept", "x", "k"]) (sc := defScope s__law_is_plan) (by decide +kernel)) (fun _ _ _ _ _ => (sgc_name 4 SC.nd)) (fun _ _ _ _ _ => sts_nil) (fun _ _ _ _ _ => (se_op os_sub (se_callB (cs_sumX rfl) T.n_sum (sa_cons (se_slice (se_var 1) so_none (so_some (se_op os_add (se_var 4) se_int))) sa_nil)) (se_callB (cs_sumX rfl) T.n_sum (sa_cons (se_slice (se_var 0) so_none (so_some (se_op os_add (se_var 4) se_int))) sa_nil)))) (sw_true rfl rfl rfl (by decide +kernel)))
    (sb_one (ss_ret (se_and (se_cmp os_ge (se_callB (cs_minX rfl hr.units) T.n_min (sa_cons (se_var 2) sa_nil)) se_int) (se_one (se_cmp (os_eq hr.units) (se_ix (se_var 2) (se_un us_neg se_int)) se_int))))))))
theorem ok__law_right (T : Tx K mg) : Cl P w K mg base 11 "_law_right" s__law_right ["box"] m__law_right :=
  have SC : FnScope ["box", "bad", "cost", "demands", "due", "hold", "named", "odd", "plan", "rule", "setup", "told", "turn", "value", "wrong"] ["box"] (defScope s__law_right) := ⟨rfl, rfl, rfl, by decide +kernel, rfl, by decide +kernel, by decide +kernel⟩
  cl_body (b := b__law_right) (k := 10) T.d__law_right SC fun f cdv A outer s H E hr =>
    (sb_cons (ss_unp (se_callC (ok__law_lots T) (hr.mono (by decide)) (takes_of rfl rfl rfl rfl) (sa_cons (se_var 0) sa_nil)) (sg_tup rfl (sgs_cons (sg_name 3 SC.nd) (sgs_cons (sg_name 10 SC.nd) (sgs_cons (sg_name 5 SC.nd) sgs_nil)))))
    (sb_cons (ss_par2' 6 4 rfl SC.nd (sa_cons (se_cmp (os_eq hr.units) (se_callC (ok__law_take T) (hr.mono (by decide)) (takes_of rfl rfl rfl rfl) (sa_cons (se_var 0) (sa_cons se_int sa_nil))) se_int) (sa_cons (se_callC (ok__law_best T) (hr.mono (by decide)) (takes_of rfl rfl rfl rfl) (sa_cons (se_var 3) (sa_cons (se_var 10) (sa_cons (se_var 5) sa_nil)))) sa_nil)))
    (sb_cons (ss_set 9 SC.nd (se_callC (ok__law_silver T) (hr.mono (by decide)) (takes_of rfl rfl rfl rfl) (sa_cons (se_var 3) (sa_cons (se_var 10) (sa_cons (se_var 5) sa_nil)))))
    (sb_cons (ss_set 11 SC.nd (se_lst (sa_cons (se_callC (ok__law_asked T) (hr.mono (by decide)) (takes_of rfl rfl rfl rfl) (sa_cons se_int (sa_cons (se_var 3) (sa_cons (se_var 10) (sa_cons (se_var 5) (sa_cons se_non (sa_cons (se_var 6) sa_nil))))))) (sa_cons (se_callC (ok__law_asked T) (hr.mono (by decide)) (takes_of rfl rfl rfl rfl) (sa_cons se_int (sa_cons (se_var 3) (sa_cons (se_var 10) (sa_cons (se_var 5) (sa_cons se_non (sa_cons (se_not (se_var 6)) sa_nil))))))) sa_nil))))
    (sb_cons (ss_if (st_not (st_e (se_callC (ok__law_same T 8) (hr.mono (by decide)) (takes_of rfl rfl rfl rfl) (sa_cons (se_op os_add (se_var 11) (se_lst (sa_cons (se_callC (ok__law_asked T) (hr.mono (by decide)) (takes_of rfl rfl rfl rfl) (sa_cons se_int (sa_cons (se_var 3) (sa_cons (se_var 10) (sa_cons (se_var 5) (sa_cons se_non (sa_cons (se_var 6) sa_nil))))))) (sa_cons (se_callC (ok__law_asked T) (hr.mono (by decide)) (takes_of rfl rfl rfl rfl) (sa_cons se_int (sa_cons (se_var 3) (sa_cons (se_var 10) (sa_cons (se_var 5) (sa_cons se_non (sa_cons (se_not (se_var 6)) sa_nil))))))) sa_nil)))) (sa_cons (se_lst (sa_cons (se_var 4) (sa_cons (se_var 4) (sa_cons (se_var 9) (sa_cons (se_var 9) sa_nil))))) sa_nil))))) (sb_one (ss_ret se_bl)) sb_nil)
    (sb_cons (ss_for (passes_of rfl) rfl (si_seq (se_lst (sa_cons (se_ix (se_var 4) se_int) (sa_cons (se_var 9) (sa_cons (se_var 3) (sa_cons (se_callC (ok__law_drawn_plan T) (hr.mono (by decide)) (takes_of rfl rfl rfl rfl) (sa_cons (se_var 0) (sa_cons (se_var 3) sa_nil))) (sa_cons (se_callC (ok__law_drawn_plan T) (hr.mono (by decide)) (takes_of rfl rfl rfl rfl) (sa_cons (se_var 0) (sa_cons (se_var 3) sa_nil))) sa_nil))))))) (sg_name 8 SC.nd) (sb_cons (ss_set 2 SC.nd (se_callC (ok__law_cost T) (hr.mono (by decide)) (takes_of rfl rfl rfl rfl) (sa_cons (se_var 3) (sa_cons (se_var 10) (sa_cons (se_var 5) (sa_cons (se_var 8) sa_nil))))))
    (sb_one (ss_if (sw_or (st_cmp os_lt (se_var 2) (se_ix (se_var 4) se_int) (hbl := bl_lt)) (sw_or1 (st_not (st_e (se_callC (ok__law_same T 8) (hr.mono (by decide)) (takes_of rfl rfl rfl rfl) (sa_cons (se_lst (sa_cons (se_callC (ok__law_asked T) (hr.mono (by decide)) (takes_of rfl rfl rfl rfl) (sa_cons se_int (sa_cons (se_var 3) (sa_cons (se_var 10) (sa_cons (se_var 5) (sa_cons (se_var 8) (sa_cons (se_var 6) sa_nil))))))) (sa_cons (se_callC (ok__law_asked T) (hr.mono (by decide)) (takes_of rfl rfl rfl rfl) (sa_cons se_int (sa_cons (se_var 3) (sa_cons (se_var 10) (sa_cons (se_var 5) (sa_cons (se_var 8) (sa_cons (se_not (se_var 6)) sa_nil))))))) sa_nil))) (sa_cons (se_lst (sa_cons (se_var 2) (sa_cons (se_var 2) sa_nil))) sa_nil))))))).st (sb_one (ss_ret se_bl)) sb_nil))))
    (sb_cons (ss_for (passes_of rfl) rfl (si_range1 T.n_range se_int) (sg_name 12 SC.nd) (sb_cons (ss_set 13 SC.nd (se_callC (ok__law_bent T) (hr.mono (by decide)) (takes_of rfl rfl rfl rfl) (sa_cons (se_var 0) (sa_cons (se_callC (ok__law_drawn_plan T) (hr.mono (by decide)) (takes_of rfl rfl rfl rfl) (sa_cons (se_var 0) (sa_cons (se_var 3) sa_nil))) sa_nil))))
    (sb_cons (ss_set 2 SC.nd (se_if (st_e (se_callC (ok__law_is_plan T) (hr.mono (by decide)) (takes_of rfl rfl rfl rfl) (sa_cons (se_var 3) (sa_cons (se_var 13) sa_nil)))) (se_callC (ok__law_cost T) (hr.mono (by decide)) (takes_of rfl rfl rfl rfl) (sa_cons (se_var 3) (sa_cons (se_var 10) (sa_cons (se_var 5) (sa_cons (se_var 13) sa_nil))))) (se_lst (sa_cons se_str (sa_cons (se_var 13) sa_nil)))))
    (sb_one (ss_if (st_not (st_e (se_callC (ok__law_same T 8) (hr.mono (by decide)) (takes_of rfl rfl rfl rfl) (sa_cons (se_callC (ok__law_asked T) (hr.mono (by decide)) (takes_of rfl rfl rfl rfl) (sa_cons se_int (sa_cons (se_var 3) (sa_cons (se_var 10) (sa_cons (se_var 5) (sa_cons (se_var 13) (sa_cons (se_var 6) sa_nil))))))) (sa_cons (se_var 2) sa_nil))))) (sb_one (ss_ret se_bl)) sb_nil)))))
    (sb_cons (ss_set 1 SC.nd (se_ix (se_lst (sa_cons (se_callTy cs_list T.n_list (sa_cons (se_var 3) sa_nil)) (sa_cons (se_tup sa_nil) (sa_cons (se_op os_mulX (se_tup (sa_cons se_int sa_nil)) se_int) (sa_cons se_non (sa_cons se_str (sa_cons (se_op os_add (se_slice (se_var 3) so_none (so_some (se_un us_neg se_int))) (se_tup (sa_cons se_int sa_nil))) (sa_cons (se_op os_add (se_slice (se_var 3) so_none (so_some (se_un us_neg se_int))) (se_tup (sa_cons (se_un us_neg se_int) sa_nil))) (sa_cons (se_op os_add (se_slice (se_var 3) so_none (so_some (se_un us_neg se_int))) (se_tup (sa_cons se_non sa_nil))) (sa_cons (se_tup (sa_cons se_bl sa_nil)) sa_nil)))))))))) (se_callC (ok__law_take T) (hr.mono (by decide)) (takes_of rfl rfl rfl rfl) (sa_cons (se_var 0) (sa_cons se_int sa_nil)))))
    (sb_cons (ss_par2' 14 7 rfl SC.nd (sa_cons (se_ix (se_lst (sa_cons (se_un us_neg se_int) (sa_cons se_int (sa_cons se_non (sa_cons se_bl (sa_cons se_str (sa_cons (se_tup (sa_cons se_int sa_nil)) sa_nil))))))) (se_callC (ok__law_take T) (hr.mono (by decide)) (takes_of rfl rfl rfl rfl) (sa_cons (se_var 0) (sa_cons se_int sa_nil)))) (sa_cons (se_ix (se_lst (sa_cons (se_un us_neg se_int) (sa_cons se_int (sa_cons se_non (sa_cons se_bl (sa_cons se_str (sa_cons (se_tup (sa_cons se_int sa_nil)) sa_nil))))))) (se_callC (ok__law_take T) (hr.mono (by decide)) (takes_of rfl rfl rfl rfl) (sa_cons (se_var 0) (sa_cons se_int sa_nil)))) sa_nil)))
    (sb_cons (ss_for (passes_of rfl) rfl (si_range1 T.n_range se_int) (sg_name 12 SC.nd) (sb_cons (ss_set 11 SC.nd (se_lst (sa_cons (se_callC (ok__law_asked T) (hr.mono (by decide)) (takes_of rfl rfl rfl rfl) (sa_cons (se_var 12) (sa_cons (se_var 1) (sa_cons (se_var 14) (sa_cons (se_var 7) (sa_cons se_non (sa_cons (se_var 6) sa_nil))))))) (sa_cons (se_callC (ok__law_asked T) (hr.mono (by decide)) (takes_of rfl rfl rfl rfl) (sa_cons (se_var 12) (sa_cons (se_var 3) (sa_cons (se_var 14) (sa_cons (se_var 7) (sa_cons se_non (sa_cons (se_not (se_var 6)) sa_nil))))))) (sa_cons (se_callC (ok__law_asked T) (hr.mono (by decide)) (takes_of rfl rfl rfl rfl) (sa_cons (se_var 12) (sa_cons (se_var 3) (sa_cons (se_var 10) (sa_cons (se_var 7) (sa_cons se_non (sa_cons (se_var 6) sa_nil))))))) sa_nil)))))
    (sb_one (ss_if (st_not (st_e (se_callC (ok__law_same T 8) (hr.mono (by decide)) (takes_of rfl rfl rfl rfl) (sa_cons (se_var 11) (sa_cons (se_lst (sa_cons (se_lst (sa_cons se_str (sa_cons (se_var 1) sa_nil))) (sa_cons (se_lst (sa_cons se_str (sa_cons (se_var 14) sa_nil))) (sa_cons (se_lst (sa_cons se_str (sa_cons (se_var 7) sa_nil))) sa_nil)))) sa_nil))))) (sb_one (ss_ret se_bl)) sb_nil))))
    (sb_one (ss_ret se_bl))))))))))))
theorem ok__law_all_right (T : Tx K mg) : Cl P w K mg base 11 "_law_all_right" s__law_all_right ["box"] m__law_all_right :=
  have SC : FnScope ["box", "demands", "due", "hold", "k", "least", "longer", "row", "rows", "setup", "total", "x"] ["box"] (defScope s__law_all_right) := ⟨rfl, rfl, rfl, by decide +kernel, rfl, by decide +kernel, by decide +kernel⟩
  cl_body (b := b__law_all_right) (k := 10) T.d__law_all_right SC fun f cdv A outer s H E hr =>
    (sb_cons (ss_set 1 SC.nd (se_callTy cs_tuple T.n_tuple (sa_cons (se_comp [("k", 4)] rfl SC.nd (si_range1 T.n_range (se_op os_add se_int (se_callC (ok__law_take T) (hr.mono (by decide)) (takes_of rfl rfl rfl rfl) (sa_cons (se_var 0) (sa_cons se_int sa_nil))))) (blk_ok (N := ["box", "demands", "due", "hold", "k", "least", "longer", "row", "rows", "setup", "total", "x"]) (sc := defScope s__law_all_right) (by decide +kernel)) (fun _ _ _ _ _ => (sgc_name 4 SC.nd)) (fun _ _ _ _ _ => sts_nil) (fun _ _ _ _ _ => (se_callC (ok__law_take T) (hr.mono (by decide)) takes0 (sa_cons (se_var 0) (sa_cons se_int sa_nil))))) sa_nil)))
    (sb_cons (ss_parT (is := [9, 3, 10]) rfl (sa_cons (se_callC (ok__law_take T) (hr.mono (by decide)) (takes_of rfl rfl rfl rfl) (sa_cons (se_var 0) (sa_cons se_int sa_nil))) (sa_cons (se_callC (ok__law_take T) (hr.mono (by decide)) (takes_of rfl rfl rfl rfl) (sa_cons (se_var 0) (sa_cons se_int sa_nil))) (sa_cons (se_callB (cs_sumX rfl) T.n_sum (sa_cons (se_var 1) sa_nil)) sa_nil))) (pgn_cons 9 SC.nd (pgn_cons 3 SC.nd (pgn_cons 10 SC.nd pgn_nil))))
    (sb_cons (ss_set 8 SC.nd (se_lst (sa_cons (se_tup sa_nil) sa_nil)))
    (sb_cons (ss_for (passes_of rfl) rfl (si_range1 T.n_range (se_callB cs_len T.n_len (sa_cons (se_var 1) sa_nil))) (sg_name 4 SC.nd) (sb_cons (ss_set 6 SC.nd (se_lst sa_nil))
    (sb_cons (ss_for (passes_of rfl) rfl (si_seq (se_var 8)) (sg_name 7 SC.nd) (sb_cons (ss_set 5 SC.nd (se_callB (cs_max2 rfl) T.n_max (sa_cons se_int (sa_cons (se_op os_sub (se_callB (cs_sumX rfl) T.n_sum (sa_cons (se_slice (se_var 1) so_none (so_some (se_op os_add (se_var 4) se_int))) sa_nil)) (se_callB (cs_sumX rfl) T.n_sum (sa_cons (se_var 7) sa_nil))) sa_nil))))
    (sb_one (ss_exp (se_ext 6 (se_comp [("x", 11)] rfl SC.nd (si_range2 T.n_range (se_var 5) (se_op os_add (se_op os_sub (se_var 10) (se_callB (cs_sumX rfl) T.n_sum (sa_cons (se_var 7) sa_nil))) se_int)) (blk_ok (N := ["box", "demands", "due", "hold", "k", "least", "longer", "row", "rows", "setup", "total", "x"]) (sc := defScope s__law_all_right) (by decide +kernel)) (fun _ _ _ _ _ => (sgc_name 11 SC.nd)) (fun _ _ _ _ _ => sts_nil) (fun _ _ _ _ _ => (se_op os_add (se_var 7) (se_tup (sa_cons (se_var 11) sa_nil))))))))))
    (sb_one (ss_set 8 SC.nd (se_var 6))))))
    (sb_cons (ss_set 2 SC.nd (se_callB (cs_minX rfl hr.units) T.n_min (sa_cons (se_comp [("row", 7)] rfl SC.nd (si_seq (se_var 8)) (blk_ok (N := ["box", "demands", "due", "hold", "k", "least", "longer", "row", "rows", "setup", "total", "x"]) (sc := defScope s__law_all_right) (by decide +kernel)) (fun _ _ _ _ _ => (sgc_name 7 SC.nd)) (fun _ _ _ _ _ => (sts_one (st_cmp (os_eq hr.units) (se_callB (cs_sumX rfl) T.n_sum (sa_cons (se_var 7) sa_nil)) (se_var 10) (hbl := bl_eq)))) (fun _ _ _ _ _ => (se_tup (sa_cons (se_callC (ok__law_cost T) (hr.mono (by decide)) takes0 (sa_cons (se_var 1) (sa_cons (se_var 9) (sa_cons (se_var 3) (sa_cons (se_var 7) sa_nil))))) (sa_cons (se_var 7) sa_nil))))) sa_nil)))
    (sb_one (ss_ret (se_and (se_callC (ok__law_same T 8) (hr.mono (by decide)) (takes_of rfl rfl rfl rfl) (sa_cons (se_callC (ok_best_lots T) (hr.mono (by decide)) (takes_of rfl rfl rfl rfl) (sa_cons (se_var 1) (sa_cons (se_var 9) (sa_cons (se_var 3) sa_nil)))) (sa_cons (se_var 2) sa_nil))) (se_one (se_cmp (os_eq hr.units) (se_callC (ok__law_best T) (hr.mono (by decide)) (takes_of rfl rfl rfl rfl) (sa_cons (se_var 1) (sa_cons (se_var 9) (sa_cons (se_var 3) sa_nil)))) (se_var 2)))))))))))
theorem ok_law (T : Tx K mg) : Cl P w K mg base 12 "law" s_law ["script"] m_law :=
  have SC : FnScope ["script", "box", "k"] ["script"] (defScope s_law) := ⟨rfl, rfl, rfl, by decide +kernel, rfl, by decide +kernel, by decide +kernel⟩
  cl_body (b := b_law) (k := 11) T.d_law SC fun f cdv A outer s H E hr =>
    (sb_cons (ss_for (passes_of rfl) rfl (si_range1 T.n_range se_int) (sg_name 2 SC.nd) (sb_cons (ss_set 1 SC.nd (se_callC (ok__law_box T) (hr.mono (by decide)) (takes_of rfl rfl rfl rfl) (sa_cons (se_callC (ok__law_cell T) (hr.mono (by decide)) (takes_of rfl rfl rfl rfl) (sa_cons (se_var 0) (sa_cons (se_var 2) sa_nil))) sa_nil)))
    (sb_one (ss_if (sw_or (st_not (st_e (se_callC (ok__law_right T) (hr.mono (by decide)) (takes_of rfl rfl rfl rfl) (sa_cons (se_var 1) sa_nil)))) (sw_or (st_not (st_e (se_callC (ok__law_right T) (hr.mono (by decide)) (takes_of rfl rfl rfl rfl) (sa_cons (se_var 1) sa_nil)))) (sw_or1 (st_not (st_e (se_callC (ok__law_all_right T) (hr.mono (by decide)) (takes_of rfl rfl rfl rfl) (sa_cons (se_var 1) sa_nil))))))).st (sb_one (ss_ret se_bl)) sb_nil))))
    (sb_one (ss_ret se_bl)))
end
open PySem.HandSPX in
theorem all_mk {K : PySem.W.Frag} {h : Heap} {mg : Str → Option Value} {f__law_box f__law_cell f__law_take f__law_lots f__law_silver f__law_best f_is_tuple_of f_is_integer f_is_between f_is_row f_check_costs f_cost_of_lot f_end_of_lot f_silver f_kept_by f_is_plan f_lot_cost f_best_plan f_best_lots f__law_asked f__law_same f__law_drawn_plan f__law_cost f__law_bent f__law_is_plan f__law_right f__law_all_right f_law C_InvalidDemands I_InvalidDemands C_InvalidNumber I_InvalidNumber C_InvalidPlan I_InvalidPlan : Addr} (X : K.In h) (G : h.Ns mainGlobals mg)
    {od__law_box an__law_box : Option Addr} {sl__law_box : Array (Option Value)} {oc__law_box kV__law_box dc__law_box pm__law_box cd__law_box ct__law_box : Value}
    {od__law_cell an__law_cell : Option Addr} {sl__law_cell : Array (Option Value)} {oc__law_cell kV__law_cell dc__law_cell pm__law_cell cd__law_cell ct__law_cell : Value}
    {od__law_take an__law_take : Option Addr} {sl__law_take : Array (Option Value)} {oc__law_take kV__law_take dc__law_take pm__law_take cd__law_take ct__law_take : Value}
    {od__law_lots an__law_lots : Option Addr} {sl__law_lots : Array (Option Value)} {oc__law_lots kV__law_lots dc__law_lots pm__law_lots cd__law_lots ct__law_lots : Value}
    {od__law_silver an__law_silver : Option Addr} {sl__law_silver : Array (Option Value)} {oc__law_silver kV__law_silver dc__law_silver pm__law_silver cd__law_silver ct__law_silver : Value}
    {od__law_best an__law_best : Option Addr} {sl__law_best : Array (Option Value)} {oc__law_best kV__law_best dc__law_best pm__law_best cd__law_best ct__law_best : Value}
    {od_is_tuple_of an_is_tuple_of : Option Addr} {sl_is_tuple_of : Array (Option Value)} {oc_is_tuple_of kV_is_tuple_of dc_is_tuple_of pm_is_tuple_of cd_is_tuple_of ct_is_tuple_of : Value}
    {od_is_integer an_is_integer : Option Addr} {sl_is_integer : Array (Option Value)} {oc_is_integer kV_is_integer dc_is_integer pm_is_integer cd_is_integer ct_is_integer : Value}
    {od_is_between an_is_between : Option Addr} {sl_is_between : Array (Option Value)} {oc_is_between kV_is_between dc_is_between pm_is_between cd_is_between ct_is_between : Value}
    {od_is_row an_is_row : Option Addr} {sl_is_row : Array (Option Value)} {oc_is_row kV_is_row dc_is_row pm_is_row cd_is_row ct_is_row : Value}
    {od_check_costs an_check_costs : Option Addr} {sl_check_costs : Array (Option Value)} {oc_check_costs kV_check_costs dc_check_costs pm_check_costs cd_check_costs ct_check_costs : Value}
    {od_cost_of_lot an_cost_of_lot : Option Addr} {sl_cost_of_lot : Array (Option Value)} {oc_cost_of_lot kV_cost_of_lot dc_cost_of_lot pm_cost_of_lot cd_cost_of_lot ct_cost_of_lot : Value}
    {od_end_of_lot an_end_of_lot : Option Addr} {sl_end_of_lot : Array (Option Value)} {oc_end_of_lot kV_end_of_lot dc_end_of_lot pm_end_of_lot cd_end_of_lot ct_end_of_lot : Value}
    {od_silver an_silver : Option Addr} {sl_silver : Array (Option Value)} {oc_silver kV_silver dc_silver pm_silver cd_silver ct_silver : Value}
    {od_kept_by an_kept_by : Option Addr} {sl_kept_by : Array (Option Value)} {oc_kept_by kV_kept_by dc_kept_by pm_kept_by cd_kept_by ct_kept_by : Value}
    {od_is_plan an_is_plan : Option Addr} {sl_is_plan : Array (Option Value)} {oc_is_plan kV_is_plan dc_is_plan pm_is_plan cd_is_plan ct_is_plan : Value}
    {od_lot_cost an_lot_cost : Option Addr} {sl_lot_cost : Array (Option Value)} {oc_lot_cost kV_lot_cost dc_lot_cost pm_lot_cost cd_lot_cost ct_lot_cost : Value}
    {od_best_plan an_best_plan : Option Addr} {sl_best_plan : Array (Option Value)} {oc_best_plan kV_best_plan dc_best_plan pm_best_plan cd_best_plan ct_best_plan : Value}
    {od_best_lots an_best_lots : Option Addr} {sl_best_lots : Array (Option Value)} {oc_best_lots kV_best_lots dc_best_lots pm_best_lots cd_best_lots ct_best_lots : Value}
    {od__law_asked an__law_asked : Option Addr} {sl__law_asked : Array (Option Value)} {oc__law_asked kV__law_asked dc__law_asked pm__law_asked cd__law_asked ct__law_asked : Value}
    {od__law_same an__law_same : Option Addr} {sl__law_same : Array (Option Value)} {oc__law_same kV__law_same dc__law_same pm__law_same cd__law_same ct__law_same : Value}
    {od__law_drawn_plan an__law_drawn_plan : Option Addr} {sl__law_drawn_plan : Array (Option Value)} {oc__law_drawn_plan kV__law_drawn_plan dc__law_drawn_plan pm__law_drawn_plan cd__law_drawn_plan ct__law_drawn_plan : Value}
    {od__law_cost an__law_cost : Option Addr} {sl__law_cost : Array (Option Value)} {oc__law_cost kV__law_cost dc__law_cost pm__law_cost cd__law_cost ct__law_cost : Value}
    {od__law_bent an__law_bent : Option Addr} {sl__law_bent : Array (Option Value)} {oc__law_bent kV__law_bent dc__law_bent pm__law_bent cd__law_bent ct__law_bent : Value}
    {od__law_is_plan an__law_is_plan : Option Addr} {sl__law_is_plan : Array (Option Value)} {oc__law_is_plan kV__law_is_plan dc__law_is_plan pm__law_is_plan cd__law_is_plan ct__law_is_plan : Value}
    {od__law_right an__law_right : Option Addr} {sl__law_right : Array (Option Value)} {oc__law_right kV__law_right dc__law_right pm__law_right cd__law_right ct__law_right : Value}
    {od__law_all_right an__law_all_right : Option Addr} {sl__law_all_right : Array (Option Value)} {oc__law_all_right kV__law_all_right dc__law_all_right pm__law_all_right cd__law_all_right ct__law_all_right : Value}
    {od_law an_law : Option Addr} {sl_law : Array (Option Value)} {oc_law kV_law dc_law pm_law cd_law ct_law : Value}
    {nm_InvalidDemands q_InvalidDemands : Str} {N_InvalidDemands : Addr} {bs_InvalidDemands bm_InvalidDemands sub_InvalidDemands : List Value} {sn_InvalidDemands : List Str} {ab_InvalidDemands : Bool} {col_InvalidDemands : Option Bool} {dd_InvalidDemands od_InvalidDemands an_InvalidDemands : Option Addr} {m0_InvalidDemands m1_InvalidDemands m2_InvalidDemands m3_InvalidDemands m5_InvalidDemands : Option Value} {sl_InvalidDemands : Array (Option Value)} {oc_InvalidDemands dc_InvalidDemands pm_InvalidDemands cd_InvalidDemands ct_InvalidDemands : Value}
    {nm_InvalidNumber q_InvalidNumber : Str} {N_InvalidNumber : Addr} {bs_InvalidNumber bm_InvalidNumber sub_InvalidNumber : List Value} {sn_InvalidNumber : List Str} {ab_InvalidNumber : Bool} {col_InvalidNumber : Option Bool} {dd_InvalidNumber od_InvalidNumber an_InvalidNumber : Option Addr} {m0_InvalidNumber m1_InvalidNumber m2_InvalidNumber m3_InvalidNumber m5_InvalidNumber : Option Value} {sl_InvalidNumber : Array (Option Value)} {oc_InvalidNumber dc_InvalidNumber pm_InvalidNumber cd_InvalidNumber ct_InvalidNumber : Value}
    {nm_InvalidPlan q_InvalidPlan : Str} {N_InvalidPlan : Addr} {bs_InvalidPlan bm_InvalidPlan sub_InvalidPlan : List Value} {sn_InvalidPlan : List Str} {ab_InvalidPlan : Bool} {col_InvalidPlan : Option Bool} {dd_InvalidPlan od_InvalidPlan an_InvalidPlan : Option Addr} {m0_InvalidPlan m1_InvalidPlan m2_InvalidPlan m3_InvalidPlan m5_InvalidPlan : Option Value} {sl_InvalidPlan : Array (Option Value)} {oc_InvalidPlan dc_InvalidPlan pm_InvalidPlan cd_InvalidPlan ct_InvalidPlan : Value}
    {t_g_MOST_PERIODS t_g_MOST_DEMAND t_g_MOST_SETUP t_g_MOST_HOLD : Tok}
    (n_abs : PySem.W.nsIn K mainGlobals "abs" = some none)
    (n_int : PySem.W.nsIn K mainGlobals "int" = some none)
    (a__law_box : PySem.W.nsIn K mainGlobals "_law_box" = some (some (.ref f__law_box)))
    (l__law_box : K.lookup f__law_box = some ⟨oc__law_box, od__law_box, .func (PySem.W.fnOf "_law_box" "_law_box" (defArgs s__law_box) (defBody s__law_box) (defScope s__law_box) .none kV__law_box dc__law_box pm__law_box an__law_box cd__law_box ct__law_box), sl__law_box⟩)
    (c__law_box : PySem.W.codeIn K cd__law_box "_law_box" = true)
    (k__law_box : PySem.W.keepIn K (.ref f__law_box) = true)
    (n_len : PySem.W.nsIn K mainGlobals "len" = some none)
    (n_sum : PySem.W.nsIn K mainGlobals "sum" = some none)
    (a__law_cell : PySem.W.nsIn K mainGlobals "_law_cell" = some (some (.ref f__law_cell)))
    (l__law_cell : K.lookup f__law_cell = some ⟨oc__law_cell, od__law_cell, .func (PySem.W.fnOf "_law_cell" "_law_cell" (defArgs s__law_cell) (defBody s__law_cell) (defScope s__law_cell) .none kV__law_cell dc__law_cell pm__law_cell an__law_cell cd__law_cell ct__law_cell), sl__law_cell⟩)
    (c__law_cell : PySem.W.codeIn K cd__law_cell "_law_cell" = true)
    (k__law_cell : PySem.W.keepIn K (.ref f__law_cell) = true)
    (a__law_take : PySem.W.nsIn K mainGlobals "_law_take" = some (some (.ref f__law_take)))
    (l__law_take : K.lookup f__law_take = some ⟨oc__law_take, od__law_take, .func (PySem.W.fnOf "_law_take" "_law_take" (defArgs s__law_take) (defBody s__law_take) (defScope s__law_take) .none kV__law_take dc__law_take pm__law_take an__law_take cd__law_take ct__law_take), sl__law_take⟩)
    (c__law_take : PySem.W.codeIn K cd__law_take "_law_take" = true)
    (k__law_take : PySem.W.keepIn K (.ref f__law_take) = true)
    (n_range : PySem.W.nsIn K mainGlobals "range" = some none)
    (n_tuple : PySem.W.nsIn K mainGlobals "tuple" = some none)
    (a__law_lots : PySem.W.nsIn K mainGlobals "_law_lots" = some (some (.ref f__law_lots)))
    (l__law_lots : K.lookup f__law_lots = some ⟨oc__law_lots, od__law_lots, .func (PySem.W.fnOf "_law_lots" "_law_lots" (defArgs s__law_lots) (defBody s__law_lots) (defScope s__law_lots) .none kV__law_lots dc__law_lots pm__law_lots an__law_lots cd__law_lots ct__law_lots), sl__law_lots⟩)
    (c__law_lots : PySem.W.codeIn K cd__law_lots "_law_lots" = true)
    (k__law_lots : PySem.W.keepIn K (.ref f__law_lots) = true)
    (a__law_silver : PySem.W.nsIn K mainGlobals "_law_silver" = some (some (.ref f__law_silver)))
    (l__law_silver : K.lookup f__law_silver = some ⟨oc__law_silver, od__law_silver, .func (PySem.W.fnOf "_law_silver" "_law_silver" (defArgs s__law_silver) (defBody s__law_silver) (defScope s__law_silver) .none kV__law_silver dc__law_silver pm__law_silver an__law_silver cd__law_silver ct__law_silver), sl__law_silver⟩)
    (c__law_silver : PySem.W.codeIn K cd__law_silver "_law_silver" = true)
    (k__law_silver : PySem.W.keepIn K (.ref f__law_silver) = true)
    (n_min : PySem.W.nsIn K mainGlobals "min" = some none)
    (a__law_best : PySem.W.nsIn K mainGlobals "_law_best" = some (some (.ref f__law_best)))
    (l__law_best : K.lookup f__law_best = some ⟨oc__law_best, od__law_best, .func (PySem.W.fnOf "_law_best" "_law_best" (defArgs s__law_best) (defBody s__law_best) (defScope s__law_best) .none kV__law_best dc__law_best pm__law_best an__law_best cd__law_best ct__law_best), sl__law_best⟩)
    (c__law_best : PySem.W.codeIn K cd__law_best "_law_best" = true)
    (k__law_best : PySem.W.keepIn K (.ref f__law_best) = true)
    (n_isinstance : PySem.W.nsIn K mainGlobals "isinstance" = some none)
    (a_is_tuple_of : PySem.W.nsIn K mainGlobals "is_tuple_of" = some (some (.ref f_is_tuple_of)))
    (l_is_tuple_of : K.lookup f_is_tuple_of = some ⟨oc_is_tuple_of, od_is_tuple_of, .func (PySem.W.fnOf "is_tuple_of" "is_tuple_of" (defArgs s_is_tuple_of) (defBody s_is_tuple_of) (defScope s_is_tuple_of) .none kV_is_tuple_of dc_is_tuple_of pm_is_tuple_of an_is_tuple_of cd_is_tuple_of ct_is_tuple_of), sl_is_tuple_of⟩)
    (c_is_tuple_of : PySem.W.codeIn K cd_is_tuple_of "is_tuple_of" = true)
    (k_is_tuple_of : PySem.W.keepIn K (.ref f_is_tuple_of) = true)
    (n_bool : PySem.W.nsIn K mainGlobals "bool" = some none)
    (a_is_integer : PySem.W.nsIn K mainGlobals "is_integer" = some (some (.ref f_is_integer)))
    (l_is_integer : K.lookup f_is_integer = some ⟨oc_is_integer, od_is_integer, .func (PySem.W.fnOf "is_integer" "is_integer" (defArgs s_is_integer) (defBody s_is_integer) (defScope s_is_integer) .none kV_is_integer dc_is_integer pm_is_integer an_is_integer cd_is_integer ct_is_integer), sl_is_integer⟩)
    (c_is_integer : PySem.W.codeIn K cd_is_integer "is_integer" = true)
    (k_is_integer : PySem.W.keepIn K (.ref f_is_integer) = true)
    (a_is_between : PySem.W.nsIn K mainGlobals "is_between" = some (some (.ref f_is_between)))
    (l_is_between : K.lookup f_is_between = some ⟨oc_is_between, od_is_between, .func (PySem.W.fnOf "is_between" "is_between" (defArgs s_is_between) (defBody s_is_between) (defScope s_is_between) .none kV_is_between dc_is_between pm_is_between an_is_between cd_is_between ct_is_between), sl_is_between⟩)
    (c_is_between : PySem.W.codeIn K cd_is_between "is_between" = true)
    (k_is_between : PySem.W.keepIn K (.ref f_is_between) = true)
    (n_all : PySem.W.nsIn K mainGlobals "all" = some none)
    (a_is_row : PySem.W.nsIn K mainGlobals "is_row" = some (some (.ref f_is_row)))
    (l_is_row : K.lookup f_is_row = some ⟨oc_is_row, od_is_row, .func (PySem.W.fnOf "is_row" "is_row" (defArgs s_is_row) (defBody s_is_row) (defScope s_is_row) .none kV_is_row dc_is_row pm_is_row an_is_row cd_is_row ct_is_row), sl_is_row⟩)
    (c_is_row : PySem.W.codeIn K cd_is_row "is_row" = true)
    (k_is_row : PySem.W.keepIn K (.ref f_is_row) = true)
    (g_MOST_PERIODS : PySem.W.nsIn K mainGlobals "MOST_PERIODS" = some (some (.int 12 t_g_MOST_PERIODS)))
    (g_MOST_DEMAND : PySem.W.nsIn K mainGlobals "MOST_DEMAND" = some (some (.int 100 t_g_MOST_DEMAND)))
    (g_MOST_SETUP : PySem.W.nsIn K mainGlobals "MOST_SETUP" = some (some (.int 1000 t_g_MOST_SETUP)))
    (g_MOST_HOLD : PySem.W.nsIn K mainGlobals "MOST_HOLD" = some (some (.int 20 t_g_MOST_HOLD)))
    (a_check_costs : PySem.W.nsIn K mainGlobals "check_costs" = some (some (.ref f_check_costs)))
    (l_check_costs : K.lookup f_check_costs = some ⟨oc_check_costs, od_check_costs, .func (PySem.W.fnOf "check_costs" "check_costs" (defArgs s_check_costs) (defBody s_check_costs) (defScope s_check_costs) .none kV_check_costs dc_check_costs pm_check_costs an_check_costs cd_check_costs ct_check_costs), sl_check_costs⟩)
    (c_check_costs : PySem.W.codeIn K cd_check_costs "check_costs" = true)
    (k_check_costs : PySem.W.keepIn K (.ref f_check_costs) = true)
    (a_cost_of_lot : PySem.W.nsIn K mainGlobals "cost_of_lot" = some (some (.ref f_cost_of_lot)))
    (l_cost_of_lot : K.lookup f_cost_of_lot = some ⟨oc_cost_of_lot, od_cost_of_lot, .func (PySem.W.fnOf "cost_of_lot" "cost_of_lot" (defArgs s_cost_of_lot) (defBody s_cost_of_lot) (defScope s_cost_of_lot) .none kV_cost_of_lot dc_cost_of_lot pm_cost_of_lot an_cost_of_lot cd_cost_of_lot ct_cost_of_lot), sl_cost_of_lot⟩)
    (c_cost_of_lot : PySem.W.codeIn K cd_cost_of_lot "cost_of_lot" = true)
    (k_cost_of_lot : PySem.W.keepIn K (.ref f_cost_of_lot) = true)
    (a_end_of_lot : PySem.W.nsIn K mainGlobals "end_of_lot" = some (some (.ref f_end_of_lot)))
    (l_end_of_lot : K.lookup f_end_of_lot = some ⟨oc_end_of_lot, od_end_of_lot, .func (PySem.W.fnOf "end_of_lot" "end_of_lot" (defArgs s_end_of_lot) (defBody s_end_of_lot) (defScope s_end_of_lot) .none kV_end_of_lot dc_end_of_lot pm_end_of_lot an_end_of_lot cd_end_of_lot ct_end_of_lot), sl_end_of_lot⟩)
    (c_end_of_lot : PySem.W.codeIn K cd_end_of_lot "end_of_lot" = true)
    (k_end_of_lot : PySem.W.keepIn K (.ref f_end_of_lot) = true)
    (a_silver : PySem.W.nsIn K mainGlobals "silver" = some (some (.ref f_silver)))
    (l_silver : K.lookup f_silver = some ⟨oc_silver, od_silver, .func (PySem.W.fnOf "silver" "silver" (defArgs s_silver) (defBody s_silver) (defScope s_silver) .none kV_silver dc_silver pm_silver an_silver cd_silver ct_silver), sl_silver⟩)
    (c_silver : PySem.W.codeIn K cd_silver "silver" = true)
    (k_silver : PySem.W.keepIn K (.ref f_silver) = true)
    (n_zip : PySem.W.nsIn K mainGlobals "zip" = some none)
    (a_kept_by : PySem.W.nsIn K mainGlobals "kept_by" = some (some (.ref f_kept_by)))
    (l_kept_by : K.lookup f_kept_by = some ⟨oc_kept_by, od_kept_by, .func (PySem.W.fnOf "kept_by" "kept_by" (defArgs s_kept_by) (defBody s_kept_by) (defScope s_kept_by) .none kV_kept_by dc_kept_by pm_kept_by an_kept_by cd_kept_by ct_kept_by), sl_kept_by⟩)
    (c_kept_by : PySem.W.codeIn K cd_kept_by "kept_by" = true)
    (k_kept_by : PySem.W.keepIn K (.ref f_kept_by) = true)
    (a_is_plan : PySem.W.nsIn K mainGlobals "is_plan" = some (some (.ref f_is_plan)))
    (l_is_plan : K.lookup f_is_plan = some ⟨oc_is_plan, od_is_plan, .func (PySem.W.fnOf "is_plan" "is_plan" (defArgs s_is_plan) (defBody s_is_plan) (defScope s_is_plan) .none kV_is_plan dc_is_plan pm_is_plan an_is_plan cd_is_plan ct_is_plan), sl_is_plan⟩)
    (c_is_plan : PySem.W.codeIn K cd_is_plan "is_plan" = true)
    (k_is_plan : PySem.W.keepIn K (.ref f_is_plan) = true)
    (a_lot_cost : PySem.W.nsIn K mainGlobals "lot_cost" = some (some (.ref f_lot_cost)))
    (l_lot_cost : K.lookup f_lot_cost = some ⟨oc_lot_cost, od_lot_cost, .func (PySem.W.fnOf "lot_cost" "lot_cost" (defArgs s_lot_cost) (defBody s_lot_cost) (defScope s_lot_cost) .none kV_lot_cost dc_lot_cost pm_lot_cost an_lot_cost cd_lot_cost ct_lot_cost), sl_lot_cost⟩)
    (c_lot_cost : PySem.W.codeIn K cd_lot_cost "lot_cost" = true)
    (k_lot_cost : PySem.W.keepIn K (.ref f_lot_cost) = true)
    (a_best_plan : PySem.W.nsIn K mainGlobals "best_plan" = some (some (.ref f_best_plan)))
    (l_best_plan : K.lookup f_best_plan = some ⟨oc_best_plan, od_best_plan, .func (PySem.W.fnOf "best_plan" "best_plan" (defArgs s_best_plan) (defBody s_best_plan) (defScope s_best_plan) .none kV_best_plan dc_best_plan pm_best_plan an_best_plan cd_best_plan ct_best_plan), sl_best_plan⟩)
    (c_best_plan : PySem.W.codeIn K cd_best_plan "best_plan" = true)
    (k_best_plan : PySem.W.keepIn K (.ref f_best_plan) = true)
    (a_best_lots : PySem.W.nsIn K mainGlobals "best_lots" = some (some (.ref f_best_lots)))
    (l_best_lots : K.lookup f_best_lots = some ⟨oc_best_lots, od_best_lots, .func (PySem.W.fnOf "best_lots" "best_lots" (defArgs s_best_lots) (defBody s_best_lots) (defScope s_best_lots) .none kV_best_lots dc_best_lots pm_best_lots an_best_lots cd_best_lots ct_best_lots), sl_best_lots⟩)
    (c_best_lots : PySem.W.codeIn K cd_best_lots "best_lots" = true)
    (k_best_lots : PySem.W.keepIn K (.ref f_best_lots) = true)
    (a__law_asked : PySem.W.nsIn K mainGlobals "_law_asked" = some (some (.ref f__law_asked)))
    (l__law_asked : K.lookup f__law_asked = some ⟨oc__law_asked, od__law_asked, .func (PySem.W.fnOf "_law_asked" "_law_asked" (defArgs s__law_asked) (defBody s__law_asked) (defScope s__law_asked) .none kV__law_asked dc__law_asked pm__law_asked an__law_asked cd__law_asked ct__law_asked), sl__law_asked⟩)
    (c__law_asked : PySem.W.codeIn K cd__law_asked "_law_asked" = true)
    (k__law_asked : PySem.W.keepIn K (.ref f__law_asked) = true)
    (n_str : PySem.W.nsIn K mainGlobals "str" = some none)
    (n_dict : PySem.W.nsIn K mainGlobals "dict" = some none)
    (n_list : PySem.W.nsIn K mainGlobals "list" = some none)
    (a__law_same : PySem.W.nsIn K mainGlobals "_law_same" = some (some (.ref f__law_same)))
    (l__law_same : K.lookup f__law_same = some ⟨oc__law_same, od__law_same, .func (PySem.W.fnOf "_law_same" "_law_same" (defArgs s__law_same) (defBody s__law_same) (defScope s__law_same) .none kV__law_same dc__law_same pm__law_same an__law_same cd__law_same ct__law_same), sl__law_same⟩)
    (c__law_same : PySem.W.codeIn K cd__law_same "_law_same" = true)
    (k__law_same : PySem.W.keepIn K (.ref f__law_same) = true)
    (n_max : PySem.W.nsIn K mainGlobals "max" = some none)
    (a__law_drawn_plan : PySem.W.nsIn K mainGlobals "_law_drawn_plan" = some (some (.ref f__law_drawn_plan)))
    (l__law_drawn_plan : K.lookup f__law_drawn_plan = some ⟨oc__law_drawn_plan, od__law_drawn_plan, .func (PySem.W.fnOf "_law_drawn_plan" "_law_drawn_plan" (defArgs s__law_drawn_plan) (defBody s__law_drawn_plan) (defScope s__law_drawn_plan) .none kV__law_drawn_plan dc__law_drawn_plan pm__law_drawn_plan an__law_drawn_plan cd__law_drawn_plan ct__law_drawn_plan), sl__law_drawn_plan⟩)
    (c__law_drawn_plan : PySem.W.codeIn K cd__law_drawn_plan "_law_drawn_plan" = true)
    (k__law_drawn_plan : PySem.W.keepIn K (.ref f__law_drawn_plan) = true)
    (a__law_cost : PySem.W.nsIn K mainGlobals "_law_cost" = some (some (.ref f__law_cost)))
    (l__law_cost : K.lookup f__law_cost = some ⟨oc__law_cost, od__law_cost, .func (PySem.W.fnOf "_law_cost" "_law_cost" (defArgs s__law_cost) (defBody s__law_cost) (defScope s__law_cost) .none kV__law_cost dc__law_cost pm__law_cost an__law_cost cd__law_cost ct__law_cost), sl__law_cost⟩)
    (c__law_cost : PySem.W.codeIn K cd__law_cost "_law_cost" = true)
    (k__law_cost : PySem.W.keepIn K (.ref f__law_cost) = true)
    (a__law_bent : PySem.W.nsIn K mainGlobals "_law_bent" = some (some (.ref f__law_bent)))
    (l__law_bent : K.lookup f__law_bent = some ⟨oc__law_bent, od__law_bent, .func (PySem.W.fnOf "_law_bent" "_law_bent" (defArgs s__law_bent) (defBody s__law_bent) (defScope s__law_bent) .none kV__law_bent dc__law_bent pm__law_bent an__law_bent cd__law_bent ct__law_bent), sl__law_bent⟩)
    (c__law_bent : PySem.W.codeIn K cd__law_bent "_law_bent" = true)
    (k__law_bent : PySem.W.keepIn K (.ref f__law_bent) = true)
    (a__law_is_plan : PySem.W.nsIn K mainGlobals "_law_is_plan" = some (some (.ref f__law_is_plan)))
    (l__law_is_plan : K.lookup f__law_is_plan = some ⟨oc__law_is_plan, od__law_is_plan, .func (PySem.W.fnOf "_law_is_plan" "_law_is_plan" (defArgs s__law_is_plan) (defBody s__law_is_plan) (defScope s__law_is_plan) .none kV__law_is_plan dc__law_is_plan pm__law_is_plan an__law_is_plan cd__law_is_plan ct__law_is_plan), sl__law_is_plan⟩)
    (c__law_is_plan : PySem.W.codeIn K cd__law_is_plan "_law_is_plan" = true)
    (k__law_is_plan : PySem.W.keepIn K (.ref f__law_is_plan) = true)
    (a__law_right : PySem.W.nsIn K mainGlobals "_law_right" = some (some (.ref f__law_right)))
    (l__law_right : K.lookup f__law_right = some ⟨oc__law_right, od__law_right, .func (PySem.W.fnOf "_law_right" "_law_right" (defArgs s__law_right) (defBody s__law_right) (defScope s__law_right) .none kV__law_right dc__law_right pm__law_right an__law_right cd__law_right ct__law_right), sl__law_right⟩)
    (c__law_right : PySem.W.codeIn K cd__law_right "_law_right" = true)
    (k__law_right : PySem.W.keepIn K (.ref f__law_right) = true)
    (a__law_all_right : PySem.W.nsIn K mainGlobals "_law_all_right" = some (some (.ref f__law_all_right)))
    (l__law_all_right : K.lookup f__law_all_right = some ⟨oc__law_all_right, od__law_all_right, .func (PySem.W.fnOf "_law_all_right" "_law_all_right" (defArgs s__law_all_right) (defBody s__law_all_right) (defScope s__law_all_right) .none kV__law_all_right dc__law_all_right pm__law_all_right an__law_all_right cd__law_all_right ct__law_all_right), sl__law_all_right⟩)
    (c__law_all_right : PySem.W.codeIn K cd__law_all_right "_law_all_right" = true)
    (k__law_all_right : PySem.W.keepIn K (.ref f__law_all_right) = true)
    (a_law : PySem.W.nsIn K mainGlobals "law" = some (some (.ref f_law)))
    (l_law : K.lookup f_law = some ⟨oc_law, od_law, .func (PySem.W.fnOf "law" "law" (defArgs s_law) (defBody s_law) (defScope s_law) .none kV_law dc_law pm_law an_law cd_law ct_law), sl_law⟩)
    (c_law : PySem.W.codeIn K cd_law "law" = true)
    (k_law : PySem.W.keepIn K (.ref f_law) = true)
    (aC_InvalidDemands : PySem.W.nsIn K mainGlobals "InvalidDemands" = some (some (.ref C_InvalidDemands)))
    (xL_InvalidDemands : K.lookup C_InvalidDemands = some (excClassObj nm_InvalidDemands q_InvalidDemands C_InvalidDemands N_InvalidDemands bs_InvalidDemands bm_InvalidDemands true sn_InvalidDemands sub_InvalidDemands ab_InvalidDemands col_InvalidDemands dd_InvalidDemands m0_InvalidDemands m1_InvalidDemands m2_InvalidDemands m3_InvalidDemands m5_InvalidDemands "ValueError.__new__"))
    (bv_InvalidDemands : refsVE bm_InvalidDemands = true)
    (sa_InvalidDemands : PySem.W.findIn K (.ref C_InvalidDemands) "__setattr__" = some (some (.builtin "object.__setattr__")))
    (ga_InvalidDemands : PySem.W.findIn K (.ref C_InvalidDemands) "__getattribute__" = some (some (.builtin "BaseException.__getattribute__")))
    (gg_InvalidDemands : PySem.W.findIn K (.ref C_InvalidDemands) "__getattr__" = some none)
    (nb_InvalidDemands : PySem.W.findIn K (.ref C_InvalidDemands) "given" = some none)
    (aI_InvalidDemands : PySem.W.findIn K (.ref C_InvalidDemands) "__init__" = some (some (.ref I_InvalidDemands)))
    (tI_InvalidDemands : PySem.W.typeIn K (.ref I_InvalidDemands) = some (.type "function"))
    (lI_InvalidDemands : K.lookup I_InvalidDemands = some ⟨oc_InvalidDemands, od_InvalidDemands, .func (PySem.W.fnOf "__init__" "InvalidDemands.__init__" (PySem.Zx_given.iA ⟨24, 17, 24, 21⟩ ⟨24, 23, 24, 28⟩) (PySem.Zx_given.iB ⟨25, 8, 25, 12⟩ ⟨25, 8, 25, 18⟩ ⟨25, 21, 25, 26⟩ ⟨25, 8, 25, 26⟩) PySem.Zx_given.iS .none .none dc_InvalidDemands pm_InvalidDemands an_InvalidDemands cd_InvalidDemands ct_InvalidDemands), sl_InvalidDemands⟩)
    (cI_InvalidDemands : PySem.W.codeIn K cd_InvalidDemands "InvalidDemands.__init__" = true)
    (kC_InvalidDemands : PySem.W.keepIn K (.ref C_InvalidDemands) = true)
    (eC_InvalidDemands : PySem.W.subIn K (.ref C_InvalidDemands) (.type "BaseException") = some true)
    (tC_InvalidDemands : PySem.W.typeIn K (.ref C_InvalidDemands) = some (.type "type"))
    (hC_InvalidDemands : PySem.W.hasDictIn K C_InvalidDemands = true)
    (iC_InvalidDemands : PySem.W.isClsIn K C_InvalidDemands = true)
    (aC_InvalidNumber : PySem.W.nsIn K mainGlobals "InvalidNumber" = some (some (.ref C_InvalidNumber)))
    (xL_InvalidNumber : K.lookup C_InvalidNumber = some (excClassObj nm_InvalidNumber q_InvalidNumber C_InvalidNumber N_InvalidNumber bs_InvalidNumber bm_InvalidNumber true sn_InvalidNumber sub_InvalidNumber ab_InvalidNumber col_InvalidNumber dd_InvalidNumber m0_InvalidNumber m1_InvalidNumber m2_InvalidNumber m3_InvalidNumber m5_InvalidNumber "ValueError.__new__"))
    (bv_InvalidNumber : refsVE bm_InvalidNumber = true)
    (sa_InvalidNumber : PySem.W.findIn K (.ref C_InvalidNumber) "__setattr__" = some (some (.builtin "object.__setattr__")))
    (ga_InvalidNumber : PySem.W.findIn K (.ref C_InvalidNumber) "__getattribute__" = some (some (.builtin "BaseException.__getattribute__")))
    (gg_InvalidNumber : PySem.W.findIn K (.ref C_InvalidNumber) "__getattr__" = some none)
    (nb_InvalidNumber : PySem.W.findIn K (.ref C_InvalidNumber) "given" = some none)
    (aI_InvalidNumber : PySem.W.findIn K (.ref C_InvalidNumber) "__init__" = some (some (.ref I_InvalidNumber)))
    (tI_InvalidNumber : PySem.W.typeIn K (.ref I_InvalidNumber) = some (.type "function"))
    (lI_InvalidNumber : K.lookup I_InvalidNumber = some ⟨oc_InvalidNumber, od_InvalidNumber, .func (PySem.W.fnOf "__init__" "InvalidNumber.__init__" (PySem.Zx_given.iA ⟨6, 17, 6, 21⟩ ⟨6, 23, 6, 28⟩) (PySem.Zx_given.iB ⟨7, 8, 7, 12⟩ ⟨7, 8, 7, 18⟩ ⟨7, 21, 7, 26⟩ ⟨7, 8, 7, 26⟩) PySem.Zx_given.iS .none .none dc_InvalidNumber pm_InvalidNumber an_InvalidNumber cd_InvalidNumber ct_InvalidNumber), sl_InvalidNumber⟩)
    (cI_InvalidNumber : PySem.W.codeIn K cd_InvalidNumber "InvalidNumber.__init__" = true)
    (kC_InvalidNumber : PySem.W.keepIn K (.ref C_InvalidNumber) = true)
    (eC_InvalidNumber : PySem.W.subIn K (.ref C_InvalidNumber) (.type "BaseException") = some true)
    (tC_InvalidNumber : PySem.W.typeIn K (.ref C_InvalidNumber) = some (.type "type"))
    (hC_InvalidNumber : PySem.W.hasDictIn K C_InvalidNumber = true)
    (iC_InvalidNumber : PySem.W.isClsIn K C_InvalidNumber = true)
    (aC_InvalidPlan : PySem.W.nsIn K mainGlobals "InvalidPlan" = some (some (.ref C_InvalidPlan)))
    (xL_InvalidPlan : K.lookup C_InvalidPlan = some (excClassObj nm_InvalidPlan q_InvalidPlan C_InvalidPlan N_InvalidPlan bs_InvalidPlan bm_InvalidPlan true sn_InvalidPlan sub_InvalidPlan ab_InvalidPlan col_InvalidPlan dd_InvalidPlan m0_InvalidPlan m1_InvalidPlan m2_InvalidPlan m3_InvalidPlan m5_InvalidPlan "ValueError.__new__"))
    (bv_InvalidPlan : refsVE bm_InvalidPlan = true)
    (sa_InvalidPlan : PySem.W.findIn K (.ref C_InvalidPlan) "__setattr__" = some (some (.builtin "object.__setattr__")))
    (ga_InvalidPlan : PySem.W.findIn K (.ref C_InvalidPlan) "__getattribute__" = some (some (.builtin "BaseException.__getattribute__")))
    (gg_InvalidPlan : PySem.W.findIn K (.ref C_InvalidPlan) "__getattr__" = some none)
    (nb_InvalidPlan : PySem.W.findIn K (.ref C_InvalidPlan) "given" = some none)
    (aI_InvalidPlan : PySem.W.findIn K (.ref C_InvalidPlan) "__init__" = some (some (.ref I_InvalidPlan)))
    (tI_InvalidPlan : PySem.W.typeIn K (.ref I_InvalidPlan) = some (.type "function"))
    (lI_InvalidPlan : K.lookup I_InvalidPlan = some ⟨oc_InvalidPlan, od_InvalidPlan, .func (PySem.W.fnOf "__init__" "InvalidPlan.__init__" (PySem.Zx_given.iA ⟨10, 17, 10, 21⟩ ⟨10, 23, 10, 28⟩) (PySem.Zx_given.iB ⟨11, 8, 11, 12⟩ ⟨11, 8, 11, 18⟩ ⟨11, 21, 11, 26⟩ ⟨11, 8, 11, 26⟩) PySem.Zx_given.iS .none .none dc_InvalidPlan pm_InvalidPlan an_InvalidPlan cd_InvalidPlan ct_InvalidPlan), sl_InvalidPlan⟩)
    (cI_InvalidPlan : PySem.W.codeIn K cd_InvalidPlan "InvalidPlan.__init__" = true)
    (kC_InvalidPlan : PySem.W.keepIn K (.ref C_InvalidPlan) = true)
    (eC_InvalidPlan : PySem.W.subIn K (.ref C_InvalidPlan) (.type "BaseException") = some true)
    (tC_InvalidPlan : PySem.W.typeIn K (.ref C_InvalidPlan) = some (.type "type"))
    (hC_InvalidPlan : PySem.W.hasDictIn K C_InvalidPlan = true)
    (iC_InvalidPlan : PySem.W.isClsIn K C_InvalidPlan = true)
    (s_InvalidDemands_InvalidDemands : PySem.W.subIn K (.ref C_InvalidDemands) (.ref C_InvalidDemands) = some true)
    (s_InvalidDemands_InvalidNumber : PySem.W.subIn K (.ref C_InvalidDemands) (.ref C_InvalidNumber) = some false)
    (s_InvalidDemands_InvalidPlan : PySem.W.subIn K (.ref C_InvalidDemands) (.ref C_InvalidPlan) = some false)
    (s_InvalidNumber_InvalidDemands : PySem.W.subIn K (.ref C_InvalidNumber) (.ref C_InvalidDemands) = some false)
    (s_InvalidNumber_InvalidNumber : PySem.W.subIn K (.ref C_InvalidNumber) (.ref C_InvalidNumber) = some true)
    (s_InvalidNumber_InvalidPlan : PySem.W.subIn K (.ref C_InvalidNumber) (.ref C_InvalidPlan) = some false)
    (s_InvalidPlan_InvalidDemands : PySem.W.subIn K (.ref C_InvalidPlan) (.ref C_InvalidDemands) = some false)
    (s_InvalidPlan_InvalidNumber : PySem.W.subIn K (.ref C_InvalidPlan) (.ref C_InvalidNumber) = some false)
    (s_InvalidPlan_InvalidPlan : PySem.W.subIn K (.ref C_InvalidPlan) (.ref C_InvalidPlan) = some true) :
    Nonempty (Tx K mg) :=
  ⟨{ toTx0 := { n_abs := PySem.W.mg_none_of X G n_abs, n_int := PySem.W.mg_none_of X G n_int, d__law_box := ⟨_, _, fun_mk (st := s__law_box) l__law_box c__law_box k__law_box, PySem.W.mg_of X G a__law_box, (fun_mk (st := s__law_box) l__law_box c__law_box k__law_box).binds (ps := ["great"]) fun _ _ _ _ _ _ us hl => match us, hl with | [_], _ => rfl⟩, n_len := PySem.W.mg_none_of X G n_len, n_sum := PySem.W.mg_none_of X G n_sum, d__law_cell := ⟨_, _, fun_mk (st := s__law_cell) l__law_cell c__law_cell k__law_cell, PySem.W.mg_of X G a__law_cell, (fun_mk (st := s__law_cell) l__law_cell c__law_cell k__law_cell).binds (ps := ["script", "k"]) fun _ _ _ _ _ _ us hl => match us, hl with | [_, _], _ => rfl⟩, d__law_take := ⟨_, _, fun_mk (st := s__law_take) l__law_take c__law_take k__law_take, PySem.W.mg_of X G a__law_take, (fun_mk (st := s__law_take) l__law_take c__law_take k__law_take).binds (ps := ["box", "many"]) fun _ _ _ _ _ _ us hl => match us, hl with | [_, _], _ => rfl⟩, n_range := PySem.W.mg_none_of X G n_range, n_tuple := PySem.W.mg_none_of X G n_tuple, d__law_lots := ⟨_, _, fun_mk (st := s__law_lots) l__law_lots c__law_lots k__law_lots, PySem.W.mg_of X G a__law_lots, (fun_mk (st := s__law_lots) l__law_lots c__law_lots k__law_lots).binds (ps := ["box"]) fun _ _ _ _ _ _ us hl => match us, hl with | [_], _ => rfl⟩, d__law_silver := ⟨_, _, fun_mk (st := s__law_silver) l__law_silver c__law_silver k__law_silver, PySem.W.mg_of X G a__law_silver, (fun_mk (st := s__law_silver) l__law_silver c__law_silver k__law_silver).binds (ps := ["demands", "setup", "hold"]) fun _ _ _ _ _ _ us hl => match us, hl with | [_, _, _], _ => rfl⟩, n_min := PySem.W.mg_none_of X G n_min, d__law_best := ⟨_, _, fun_mk (st := s__law_best) l__law_best c__law_best k__law_best, PySem.W.mg_of X G a__law_best, (fun_mk (st := s__law_best) l__law_best c__law_best k__law_best).binds (ps := ["demands", "setup", "hold"]) fun _ _ _ _ _ _ us hl => match us, hl with | [_, _, _], _ => rfl⟩, n_isinstance := PySem.W.mg_none_of X G n_isinstance, d_is_tuple_of := ⟨_, _, fun_mk (st := s_is_tuple_of) l_is_tuple_of c_is_tuple_of k_is_tuple_of, PySem.W.mg_of X G a_is_tuple_of, (fun_mk (st := s_is_tuple_of) l_is_tuple_of c_is_tuple_of k_is_tuple_of).binds (ps := ["value", "many"]) fun _ _ _ _ _ _ us hl => match us, hl with | [_, _], _ => rfl⟩, n_bool := PySem.W.mg_none_of X G n_bool, d_is_integer := ⟨_, _, fun_mk (st := s_is_integer) l_is_integer c_is_integer k_is_integer, PySem.W.mg_of X G a_is_integer, (fun_mk (st := s_is_integer) l_is_integer c_is_integer k_is_integer).binds (ps := ["value"]) fun _ _ _ _ _ _ us hl => match us, hl with | [_], _ => rfl⟩, d_is_between := ⟨_, _, fun_mk (st := s_is_between) l_is_between c_is_between k_is_between, PySem.W.mg_of X G a_is_between, (fun_mk (st := s_is_between) l_is_between c_is_between k_is_between).binds (ps := ["value", "least", "most"]) fun _ _ _ _ _ _ us hl => match us, hl with | [_, _, _], _ => rfl⟩, n_all := PySem.W.mg_none_of X G n_all, d_is_row := ⟨_, _, fun_mk (st := s_is_row) l_is_row c_is_row k_is_row, PySem.W.mg_of X G a_is_row, (fun_mk (st := s_is_row) l_is_row c_is_row k_is_row).binds (ps := ["value", "many", "least", "most"]) fun _ _ _ _ _ _ us hl => match us, hl with | [_, _, _, _], _ => rfl⟩, g_MOST_PERIODS := ⟨_, PySem.W.mg_of X G g_MOST_PERIODS⟩, g_MOST_DEMAND := ⟨_, PySem.W.mg_of X G g_MOST_DEMAND⟩, g_MOST_SETUP := ⟨_, PySem.W.mg_of X G g_MOST_SETUP⟩, g_MOST_HOLD := ⟨_, PySem.W.mg_of X G g_MOST_HOLD⟩, d_check_costs := ⟨_, _, fun_mk (st := s_check_costs) l_check_costs c_check_costs k_check_costs, PySem.W.mg_of X G a_check_costs, (fun_mk (st := s_check_costs) l_check_costs c_check_costs k_check_costs).binds (ps := ["demands", "setup", "hold"]) fun _ _ _ _ _ _ us hl => match us, hl with | [_, _, _], _ => rfl⟩, d_cost_of_lot := ⟨_, _, fun_mk (st := s_cost_of_lot) l_cost_of_lot c_cost_of_lot k_cost_of_lot, PySem.W.mg_of X G a_cost_of_lot, (fun_mk (st := s_cost_of_lot) l_cost_of_lot c_cost_of_lot k_cost_of_lot).binds (ps := ["demands", "setup", "hold", "first", "behind"]) fun _ _ _ _ _ _ us hl => match us, hl with | [_, _, _, _, _], _ => rfl⟩, d_end_of_lot := ⟨_, _, fun_mk (st := s_end_of_lot) l_end_of_lot c_end_of_lot k_end_of_lot, PySem.W.mg_of X G a_end_of_lot, (fun_mk (st := s_end_of_lot) l_end_of_lot c_end_of_lot k_end_of_lot).binds (ps := ["demands", "setup", "hold", "first"]) fun _ _ _ _ _ _ us hl => match us, hl with | [_, _, _, _], _ => rfl⟩, d_silver := ⟨_, _, fun_mk (st := s_silver) l_silver c_silver k_silver, PySem.W.mg_of X G a_silver, (fun_mk (st := s_silver) l_silver c_silver k_silver).binds (ps := ["demands", "setup", "hold"]) fun _ _ _ _ _ _ us hl => match us, hl with | [_, _, _], _ => rfl⟩, n_zip := PySem.W.mg_none_of X G n_zip, d_kept_by := ⟨_, _, fun_mk (st := s_kept_by) l_kept_by c_kept_by k_kept_by, PySem.W.mg_of X G a_kept_by, (fun_mk (st := s_kept_by) l_kept_by c_kept_by k_kept_by).binds (ps := ["demands", "plan"]) fun _ _ _ _ _ _ us hl => match us, hl with | [_, _], _ => rfl⟩, d_is_plan := ⟨_, _, fun_mk (st := s_is_plan) l_is_plan c_is_plan k_is_plan, PySem.W.mg_of X G a_is_plan, (fun_mk (st := s_is_plan) l_is_plan c_is_plan k_is_plan).binds (ps := ["demands", "value"]) fun _ _ _ _ _ _ us hl => match us, hl with | [_, _], _ => rfl⟩, d_lot_cost := ⟨_, _, fun_mk (st := s_lot_cost) l_lot_cost c_lot_cost k_lot_cost, PySem.W.mg_of X G a_lot_cost, (fun_mk (st := s_lot_cost) l_lot_cost c_lot_cost k_lot_cost).binds (ps := ["demands", "setup", "hold", "plan"]) fun _ _ _ _ _ _ us hl => match us, hl with | [_, _, _, _], _ => rfl⟩, d_best_plan := ⟨_, _, fun_mk (st := s_best_plan) l_best_plan c_best_plan k_best_plan, PySem.W.mg_of X G a_best_plan, (fun_mk (st := s_best_plan) l_best_plan c_best_plan k_best_plan).binds (ps := ["demands", "setup", "hold"]) fun _ _ _ _ _ _ us hl => match us, hl with | [_, _, _], _ => rfl⟩, d_best_lots := ⟨_, _, fun_mk (st := s_best_lots) l_best_lots c_best_lots k_best_lots, PySem.W.mg_of X G a_best_lots, (fun_mk (st := s_best_lots) l_best_lots c_best_lots k_best_lots).binds (ps := ["demands", "setup", "hold"]) fun _ _ _ _ _ _ us hl => match us, hl with | [_, _, _], _ => rfl⟩, d__law_asked := ⟨_, _, fun_mk (st := s__law_asked) l__law_asked c__law_asked k__law_asked, PySem.W.mg_of X G a__law_asked, (fun_mk (st := s__law_asked) l__law_asked c__law_asked k__law_asked).binds (ps := ["turn", "demands", "setup", "hold", "plan", "named"]) fun _ _ _ _ _ _ us hl => match us, hl with | [_, _, _, _, _, _], _ => rfl⟩, n_str := PySem.W.mg_none_of X G n_str, n_dict := PySem.W.mg_none_of X G n_dict, n_list := PySem.W.mg_none_of X G n_list, d__law_same := ⟨_, _, fun_mk (st := s__law_same) l__law_same c__law_same k__law_same, PySem.W.mg_of X G a__law_same, (fun_mk (st := s__law_same) l__law_same c__law_same k__law_same).binds (ps := ["told", "due"]) fun _ _ _ _ _ _ us hl => match us, hl with | [_, _], _ => rfl⟩, n_max := PySem.W.mg_none_of X G n_max, d__law_drawn_plan := ⟨_, _, fun_mk (st := s__law_drawn_plan) l__law_drawn_plan c__law_drawn_plan k__law_drawn_plan, PySem.W.mg_of X G a__law_drawn_plan, (fun_mk (st := s__law_drawn_plan) l__law_drawn_plan c__law_drawn_plan k__law_drawn_plan).binds (ps := ["box", "demands"]) fun _ _ _ _ _ _ us hl => match us, hl with | [_, _], _ => rfl⟩, d__law_cost := ⟨_, _, fun_mk (st := s__law_cost) l__law_cost c__law_cost k__law_cost, PySem.W.mg_of X G a__law_cost, (fun_mk (st := s__law_cost) l__law_cost c__law_cost k__law_cost).binds (ps := ["demands", "setup", "hold", "plan"]) fun _ _ _ _ _ _ us hl => match us, hl with | [_, _, _, _], _ => rfl⟩, d__law_bent := ⟨_, _, fun_mk (st := s__law_bent) l__law_bent c__law_bent k__law_bent, PySem.W.mg_of X G a__law_bent, (fun_mk (st := s__law_bent) l__law_bent c__law_bent k__law_bent).binds (ps := ["box", "plan"]) fun _ _ _ _ _ _ us hl => match us, hl with | [_, _], _ => rfl⟩, d__law_is_plan := ⟨_, _, fun_mk (st := s__law_is_plan) l__law_is_plan c__law_is_plan k__law_is_plan, PySem.W.mg_of X G a__law_is_plan, (fun_mk (st := s__law_is_plan) l__law_is_plan c__law_is_plan k__law_is_plan).binds (ps := ["demands", "value"]) fun _ _ _ _ _ _ us hl => match us, hl with | [_, _], _ => rfl⟩, d__law_right := ⟨_, _, fun_mk (st := s__law_right) l__law_right c__law_right k__law_right, PySem.W.mg_of X G a__law_right, (fun_mk (st := s__law_right) l__law_right c__law_right k__law_right).binds (ps := ["box"]) fun _ _ _ _ _ _ us hl => match us, hl with | [_], _ => rfl⟩, d__law_all_right := ⟨_, _, fun_mk (st := s__law_all_right) l__law_all_right c__law_all_right k__law_all_right, PySem.W.mg_of X G a__law_all_right, (fun_mk (st := s__law_all_right) l__law_all_right c__law_all_right k__law_all_right).binds (ps := ["box"]) fun _ _ _ _ _ _ us hl => match us, hl with | [_], _ => rfl⟩, d_law := ⟨_, _, fun_mk (st := s_law) l_law c_law k_law, PySem.W.mg_of X G a_law, (fun_mk (st := s_law) l_law c_law k_law).binds (ps := ["script"]) fun _ _ _ _ _ _ us hl => match us, hl with | [_], _ => rfl⟩, sib := (sib_cons (PySem.W.mg_of X G aC_InvalidDemands) (sibr_cons (PySem.W.mg_of X G aC_InvalidDemands) (exm_pair eC_InvalidDemands iC_InvalidDemands tC_InvalidDemands s_InvalidDemands_InvalidDemands) (by decide) (sibr_cons (PySem.W.mg_of X G aC_InvalidNumber) (exm_pair eC_InvalidNumber iC_InvalidNumber tC_InvalidNumber s_InvalidDemands_InvalidNumber) (by decide) (sibr_cons (PySem.W.mg_of X G aC_InvalidPlan) (exm_pair eC_InvalidPlan iC_InvalidPlan tC_InvalidPlan s_InvalidDemands_InvalidPlan) (by decide) sibr_nil))) (sib_cons (PySem.W.mg_of X G aC_InvalidNumber) (sibr_cons (PySem.W.mg_of X G aC_InvalidDemands) (exm_pair eC_InvalidDemands iC_InvalidDemands tC_InvalidDemands s_InvalidNumber_InvalidDemands) (by decide) (sibr_cons (PySem.W.mg_of X G aC_InvalidNumber) (exm_pair eC_InvalidNumber iC_InvalidNumber tC_InvalidNumber s_InvalidNumber_InvalidNumber) (by decide) (sibr_cons (PySem.W.mg_of X G aC_InvalidPlan) (exm_pair eC_InvalidPlan iC_InvalidPlan tC_InvalidPlan s_InvalidNumber_InvalidPlan) (by decide) sibr_nil))) (sib_cons (PySem.W.mg_of X G aC_InvalidPlan) (sibr_cons (PySem.W.mg_of X G aC_InvalidDemands) (exm_pair eC_InvalidDemands iC_InvalidDemands tC_InvalidDemands s_InvalidPlan_InvalidDemands) (by decide) (sibr_cons (PySem.W.mg_of X G aC_InvalidNumber) (exm_pair eC_InvalidNumber iC_InvalidNumber tC_InvalidNumber s_InvalidPlan_InvalidNumber) (by decide) (sibr_cons (PySem.W.mg_of X G aC_InvalidPlan) (exm_pair eC_InvalidPlan iC_InvalidPlan tC_InvalidPlan s_InvalidPlan_InvalidPlan) (by decide) sibr_nil))) sib_nil))) }, C_InvalidDemands := C_InvalidDemands, I_InvalidDemands := I_InvalidDemands, x_InvalidDemands := { gC := PySem.W.mg_of X G aC_InvalidDemands, cls := ⟨nm_InvalidDemands, q_InvalidDemands, N_InvalidDemands, bs_InvalidDemands, bm_InvalidDemands, sn_InvalidDemands, sub_InvalidDemands, ab_InvalidDemands, col_InvalidDemands, dd_InvalidDemands, m0_InvalidDemands, m1_InvalidDemands, m2_InvalidDemands, m3_InvalidDemands, m5_InvalidDemands, xL_InvalidDemands, bv_InvalidDemands⟩, sa := sa_InvalidDemands, ga := ga_InvalidDemands, gg := gg_InvalidDemands, noN := nb_InvalidDemands, iC := aI_InvalidDemands, tC := tI_InvalidDemands, kC := kC_InvalidDemands, exC := eC_InvalidDemands, tyC := tC_InvalidDemands, hdC := hC_InvalidDemands, te := exm_pair eC_InvalidDemands iC_InvalidDemands tC_InvalidDemands s_InvalidDemands_InvalidDemands, fn := ⟨_, _, _, _, _, _, _, _, _, _, _, _, _, _, lI_InvalidDemands, cI_InvalidDemands⟩ }, C_InvalidNumber := C_InvalidNumber, I_InvalidNumber := I_InvalidNumber, x_InvalidNumber := { gC := PySem.W.mg_of X G aC_InvalidNumber, cls := ⟨nm_InvalidNumber, q_InvalidNumber, N_InvalidNumber, bs_InvalidNumber, bm_InvalidNumber, sn_InvalidNumber, sub_InvalidNumber, ab_InvalidNumber, col_InvalidNumber, dd_InvalidNumber, m0_InvalidNumber, m1_InvalidNumber, m2_InvalidNumber, m3_InvalidNumber, m5_InvalidNumber, xL_InvalidNumber, bv_InvalidNumber⟩, sa := sa_InvalidNumber, ga := ga_InvalidNumber, gg := gg_InvalidNumber, noN := nb_InvalidNumber, iC := aI_InvalidNumber, tC := tI_InvalidNumber, kC := kC_InvalidNumber, exC := eC_InvalidNumber, tyC := tC_InvalidNumber, hdC := hC_InvalidNumber, te := exm_pair eC_InvalidNumber iC_InvalidNumber tC_InvalidNumber s_InvalidNumber_InvalidNumber, fn := ⟨_, _, _, _, _, _, _, _, _, _, _, _, _, _, lI_InvalidNumber, cI_InvalidNumber⟩ }, C_InvalidPlan := C_InvalidPlan, I_InvalidPlan := I_InvalidPlan, x_InvalidPlan := { gC := PySem.W.mg_of X G aC_InvalidPlan, cls := ⟨nm_InvalidPlan, q_InvalidPlan, N_InvalidPlan, bs_InvalidPlan, bm_InvalidPlan, sn_InvalidPlan, sub_InvalidPlan, ab_InvalidPlan, col_InvalidPlan, dd_InvalidPlan, m0_InvalidPlan, m1_InvalidPlan, m2_InvalidPlan, m3_InvalidPlan, m5_InvalidPlan, xL_InvalidPlan, bv_InvalidPlan⟩, sa := sa_InvalidPlan, ga := ga_InvalidPlan, gg := gg_InvalidPlan, noN := nb_InvalidPlan, iC := aI_InvalidPlan, tC := tI_InvalidPlan, kC := kC_InvalidPlan, exC := eC_InvalidPlan, tyC := tC_InvalidPlan, hdC := hC_InvalidPlan, te := exm_pair eC_InvalidPlan iC_InvalidPlan tC_InvalidPlan s_InvalidPlan_InvalidPlan, fn := ⟨_, _, _, _, _, _, _, _, _, _, _, _, _, _, lI_InvalidPlan, cI_InvalidPlan⟩ } }⟩
theorem law_fn {P : Program} {w : World} {K : PySem.W.Frag} {mg : Str → Option Value} {fa : Addr} (hfa : mg "law" = some (.ref fa)) (N : Nonempty (Tx K mg)) : ∃ fd : FuncData, (∀ (s : Shared) (u : Value), BindsTo s fd ⟨[u], []⟩ [("script", u)]) ∧
    ∀ base : Heap, K.In base → base.Ns mainGlobals mg → FnOk P w K mg base (CXP P w) 12 fa fd ["script"] (fun us H Q E => ∀ mg, spM ⟨K, mg⟩ m_law us H Q E) := by
  obtain ⟨T⟩ := N
  exact head_fn hfa T.d_law (fun base => ok_law T) fun _ _ _ _ _ _ _ _ => .of_eq rfl
end Z
namespace Lot
def sm (f : Nat → Nat) : Nat → Nat
  | 0 => 0
  | n + 1 => sm f n + f n
theorem sm_le {f g : Nat → Nat} : ∀ {n : Nat}, (∀ k, k < n → f k ≤ g k) → sm f n ≤ sm g n
  | 0, _ => Nat.le_refl _
  | n + 1, h => Nat.add_le_add (sm_le fun k hk => h k (by omega)) (h n (by omega))
theorem sm_eq {f g : Nat → Nat} : ∀ {n : Nat}, (∀ k, k < n → f k = g k) → sm f n = sm g n
  | 0, _ => rfl
  | n + 1, h => by
    show sm f n + f n = sm g n + g n
    rw [sm_eq fun k hk => h k (by omega), h n (by omega)]
theorem sm_add {f g : Nat → Nat} : ∀ {n : Nat}, sm (fun k => f k + g k) n = sm f n + sm g n
  | 0 => rfl
  | n + 1 => by
    show sm (fun k => f k + g k) n + (f n + g n) = (sm f n + f n) + (sm g n + g n)
    rw [sm_add]
    omega
theorem sm_zero {f : Nat → Nat} : ∀ {n : Nat}, (∀ k, k < n → f k = 0) → sm f n = 0
  | 0, _ => rfl
  | n + 1, h => by
    show sm f n + f n = 0
    rw [sm_zero fun k hk => h k (by omega), h n (by omega)]
theorem sm_mul {f : Nat → Nat} (c : Nat) : ∀ {n : Nat}, sm (fun k => c * f k) n = c * sm f n
  | 0 => rfl
  | n + 1 => by
    show sm (fun k => c * f k) n + c * f n = c * (sm f n + f n)
    rw [sm_mul c, Nat.mul_add]
theorem sm_mono {f : Nat → Nat} {m : Nat} : ∀ {n : Nat}, m ≤ n → sm f m ≤ sm f n
  | 0, h => by rw [Nat.le_zero.mp h]; exact Nat.le_refl _
  | n + 1, h => by
    by_cases e : m = n + 1
    · rw [e]; exact Nat.le_refl _
    · exact Nat.le_trans (sm_mono (by omega)) (Nat.le_add_right _ _)
theorem sm_pos {f : Nat → Nat} {k : Nat} : ∀ {n : Nat}, k < n → f k ≤ sm f n
  | 0, h => absurd h (by omega)
  | n + 1, h => by
    show f k ≤ sm f n + f n
    by_cases e : k = n
    · rw [e]; omega
    · have := sm_pos (f := f) (k := k) (n := n) (by omega)
      omega
theorem sm_ex {f : Nat → Nat} : ∀ {n : Nat}, 0 < sm f n → ∃ k, k < n ∧ 0 < f k
  | 0, h => absurd h (by show ¬ 0 < 0; omega)
  | n + 1, h => by
    have h' : 0 < sm f n + f n := h
    by_cases e : 0 < f n
    · exact ⟨n, by omega, e⟩
    · obtain ⟨k, h1, h2⟩ := sm_ex (f := f) (n := n) (by omega)
      exact ⟨k, by omega, h2⟩
section
variable (d : Nat → Nat) (S h : Nat)
/-- what it costs to keep the demand of k from i on -/
def H (k i : Nat) : Nat := h * (k - i) * d k
def sd (i m : Nat) : Nat := sm (fun k => if i ≤ k then d k else 0) m
def hs (i m : Nat) : Nat := sm (fun k => if i ≤ k then H d h k i else 0) m
def c (i m : Nat) : Nat := (if 0 < sd d i m then S else 0) + hs d h i m
structure Fok (F : Nat → Nat) : Prop where
  z : F 0 = 0
  le : ∀ i m, i < m → F m ≤ F i + c d S h i m
  at' : ∀ m, 0 < m → ∃ i, i < m ∧ F m = F i + c d S h i m
variable {d S h}
theorem H_mono {k i i' : Nat} (e : i ≤ i') : H d h k i' ≤ H d h k i := by
  unfold H
  exact Nat.mul_le_mul_right _ (Nat.mul_le_mul_left _ (by omega))
theorem H_inv {k i i' : Nat} (hh : 0 < h) (hd : 0 < d k) (hi : i ≤ k) (e : H d h k i' ≤ H d h k i) : i ≤ i' := by
  unfold H at e
  have e1 := Nat.le_of_mul_le_mul_right e hd
  have e2 := Nat.le_of_mul_le_mul_left e1 hh
  omega
theorem sd_succ {i m : Nat} (e : i ≤ m) : sd d i (m + 1) = sd d i m + d m := by
  show sd d i m + (if i ≤ m then d m else 0) = _
  rw [if_pos e]
theorem hs_succ {i m : Nat} (e : i ≤ m) : hs d h i (m + 1) = hs d h i m + H d h m i := by
  show hs d h i m + (if i ≤ m then H d h m i else 0) = _
  rw [if_pos e]
theorem sd_self {i m : Nat} (e : m ≤ i) : sd d i m = 0 := sm_zero fun k hk => if_neg (by omega)
theorem hs_self {i m : Nat} (e : m ≤ i) : hs d h i m = 0 := sm_zero fun k hk => if_neg (by omega)
theorem H_self {k : Nat} : H d h k k = 0 := by unfold H; rw [Nat.sub_self, Nat.mul_zero, Nat.zero_mul]
theorem H_zero {k i : Nat} (e : d k = 0) : H d h k i = 0 := by unfold H; rw [e, Nat.mul_zero]
theorem c_self {m : Nat} : c d S h m (m + 1) = if 0 < d m then S else 0 := by
  unfold c
  rw [sd_succ (Nat.le_refl _), sd_self (Nat.le_refl _), hs_succ (Nat.le_refl _), hs_self (Nat.le_refl _), H_self, Nat.zero_add]
  rfl
theorem c_succ {i m : Nat} (e : i ≤ m) (p : 0 < sd d i m ∨ d m = 0) : c d S h i (m + 1) = c d S h i m + H d h m i := by
  unfold c
  rw [sd_succ e, hs_succ e]
  rcases p with p | p
  · rw [if_pos (by omega), if_pos p]
    omega
  · rw [p, Nat.add_zero]
    omega
theorem c_mono {i m : Nat} (e : i ≤ m) : c d S h i m + H d h m i ≤ c d S h i (m + 1) := by
  unfold c
  rw [sd_succ e, hs_succ e]
  by_cases p : 0 < sd d i m
  · rw [if_pos p, if_pos (by omega)]
    omega
  · rw [if_neg p]
    omega
variable {F : Nat → Nat} (f : Fok d S h F)
include f
theorem F_low {m i : Nat} (hi : i < m + 1) (e : F (m + 1) = F i + c d S h i (m + 1)) : F m + H d h m i ≤ F (m + 1) := by
  by_cases z : i = m
  · subst z
    rw [H_self]
    omega
  · have h1 := f.le i m (by omega)
    have h2 := c_mono (d := d) (S := S) (h := h) (i := i) (m := m) (by omega)
    omega
theorem F_mono {m : Nat} : F m ≤ F (m + 1) := by
  obtain ⟨i, hi, e⟩ := f.at' (m + 1) (by omega)
  have := F_low f hi e
  omega
theorem F_mono' {m n : Nat} (e : m ≤ n) : F m ≤ F n := by
  induction n with
  | zero => rw [Nat.le_zero.mp e]; exact Nat.le_refl _
  | succ n ih =>
    by_cases z : m = n + 1
    · rw [z]; exact Nat.le_refl _
    · exact Nat.le_trans (ih (by omega)) (F_mono f)
theorem F_set {m : Nat} : F (m + 1) ≤ F m + if 0 < d m then S else 0 := by
  have := f.le m (m + 1) (by omega)
  rw [c_self] at this
  exact this
theorem F_zero {m : Nat} (e : d m = 0) : F (m + 1) = F m := by
  have h1 := F_set f (m := m)
  rw [if_neg (by omega)] at h1
  have h2 := F_mono f (m := m)
  omega
/-- lots that are the last of a best plan begin later and later -/
theorem later {t i : Nat} (hi : i ≤ t) (e : F (t + 1) = F i + c d S h i (t + 1)) (p : 0 < sd d i (t + 1)) (hh : 0 < h) : ∀ m, t ≤ m → ∃ j, i ≤ j ∧ j ≤ m ∧ F (m + 1) = F j + c d S h j (m + 1) ∧ 0 < sd d j (m + 1) := by
  intro m hm
  induction m with
  | zero =>
    have : t = 0 := by omega
    subst this
    exact ⟨i, Nat.le_refl _, hi, e, p⟩
  | succ m ih =>
    by_cases z : t = m + 1
    · subst z
      exact ⟨i, Nat.le_refl _, hi, e, p⟩
    · obtain ⟨j, j1, j2, j3, j4⟩ := ih (by omega)
      by_cases q : d (m + 1) = 0
      · refine ⟨j, j1, by omega, ?_, ?_⟩
        · rw [F_zero f q, j3, c_succ (i := j) (m := m + 1) (by omega) (.inr q), H_zero q]
          omega
        · rw [sd_succ (by omega)]
          omega
      · obtain ⟨k, k1, k2⟩ := f.at' (m + 1 + 1) (by omega)
        have lo := F_low f k1 k2
        have up := f.le j (m + 1 + 1) (by omega)
        rw [c_succ (i := j) (m := m + 1) (by omega) (.inl j4)] at up
        have kj : j ≤ k := H_inv (d := d) (h := h) (k := m + 1) hh (by omega) (by omega) (by omega)
        refine ⟨k, by omega, by omega, k2, ?_⟩
        rw [sd_succ (by omega)]
        omega
/-- by how much the least cost grows -/
theorem grow_le {t i m : Nat} (hi : i ≤ t) (e : F (t + 1) = F i + c d S h i (t + 1)) (p : 0 < sd d i (t + 1)) (hm : t < m) : F (m + 1) ≤ F m + H d h m i ∨ h = 0 := by
  by_cases hh : 0 < h
  · refine .inl ?_
    obtain ⟨j, j1, j2, j3, j4⟩ := later f hi e p hh (m - 1) (by omega)
    have em : m - 1 + 1 = m := by omega
    rw [em] at j3 j4
    have up := f.le j (m + 1) (by omega)
    rw [c_succ (i := j) (m := m) (by omega) (.inl j4)] at up
    have := H_mono (d := d) (h := h) (k := m) j1
    omega
  · exact .inr (by omega)
theorem uni {j k m : Nat} (hj : j ≤ k) (hm : k < m) (up : F m + H d h m j < F (m + 1)) : F k + H d h k j ≤ F (k + 1) := by
  by_cases q : d k = 0
  · rw [H_zero q]
    exact F_mono f
  · obtain ⟨i, i1, i2⟩ := f.at' (k + 1) (by omega)
    have lo := F_low f i1 i2
    by_cases z : i ≤ j
    · have := H_mono (d := d) (h := h) (k := k) z
      omega
    · have p : 0 < sd d i (k + 1) := by rw [sd_succ (by omega)]; omega
      rcases grow_le f (by omega) i2 p hm with g | g
      · have := H_mono (d := d) (h := h) (k := m) (i := j) (i' := i) (by omega)
        omega
      · subst g
        have : H d 0 k j = 0 := by unfold H; simp
        rw [this]
        exact F_mono f
/-- what the price of k is above keeping, times the demand -/
def G (F : Nat → Nat) (k : Nat) : Nat := F (k + 1) - F k
omit f in
def load (d : Nat → Nat) (h b : Nat) (W : Nat → Nat) (j n : Nat) : Nat := sm (fun k => if j ≤ k then W k - b * H d h k j else 0) n
theorem G_sum (j : Nat) : ∀ m, j ≤ m → sm (fun k => if j ≤ k then G F k else 0) m + F j = F m := by
  intro m hm
  induction m with
  | zero =>
    have : j = 0 := by omega
    subst this
    show 0 + F 0 = F 0
    omega
  | succ m ih =>
    show sm (fun k => if j ≤ k then G F k else 0) m + (if j ≤ m then G F m else 0) + F j = F (m + 1)
    by_cases z : j = m + 1
    · subst z
      rw [if_neg (by omega), sm_zero fun k hk => if_neg (by omega)]
      omega
    · rw [if_pos (by omega)]
      have := ih (by omega)
      have := F_mono f (m := m)
      have g : G F m = F (m + 1) - F m := rfl
      omega
/-- no period's load is above the cost of a lot -/
theorem load_le {j n : Nat} (hj : j < n) : load d h 1 (G F) j n ≤ S := by
  have key : ∀ m, j ≤ m → (load d h 1 (G F) j m = 0) ∨ ∃ k, j ≤ k ∧ k < m ∧ F k + H d h k j < F (k + 1) ∧ load d h 1 (G F) j m = load d h 1 (G F) j (k + 1) := by
    intro m hm
    induction m with
    | zero => exact .inl rfl
    | succ m ih =>
      have e : load d h 1 (G F) j (m + 1) = load d h 1 (G F) j m + (if j ≤ m then G F m - 1 * H d h m j else 0) := rfl
      by_cases z : j = m + 1
      · refine .inl ?_
        unfold load
        exact sm_zero fun k hk => if_neg (by omega)
      · rw [if_pos (by omega), Nat.one_mul] at e
        by_cases q : F m + H d h m j < F (m + 1)
        · exact .inr ⟨m, by omega, by omega, q, rfl⟩
        · have g0 : G F m - H d h m j = 0 := by unfold G; omega
          rw [g0, Nat.add_zero] at e
          rcases ih (by omega) with i | ⟨k, k1, k2, k3, k4⟩
          · exact .inl (e.trans i)
          · exact .inr ⟨k, k1, by omega, k3, e.trans k4⟩
  rcases key n (by omega) with k | ⟨k, k1, k2, k3, k4⟩
  · rw [k]; omega
  · rw [k4]
    have e1 : load d h 1 (G F) j (k + 1) + hs d h j (k + 1) = sm (fun i => if j ≤ i then G F i else 0) (k + 1) := by
      unfold load hs
      rw [← sm_add]
      refine sm_eq fun i hi => ?_
      by_cases c : j ≤ i
      · rw [if_pos c, if_pos c, if_pos c, Nat.one_mul]
        have : F i + H d h i j ≤ F (i + 1) := by
          by_cases z : i = k
          · rw [z]; omega
          · exact uni f c (by omega) k3
        unfold G
        omega
      · rw [if_neg c, if_neg c, if_neg c]
    have e2 := G_sum f j (k + 1) (by omega)
    have e3 := f.le j (k + 1) (by omega)
    have e4 : c d S h j (k + 1) ≤ S + hs d h j (k + 1) := by
      unfold c
      split <;> omega
    omega
/-- prices that keep within the cost of a lot give at most the least cost -/
theorem weak {W : Nat → Nat} {b n : Nat} (hW : ∀ k, d k = 0 → W k = 0) (hl : ∀ j, j < n → load d h b W j n ≤ b * S) : ∀ m, m ≤ n → sm W m ≤ b * F m := by
  intro m
  induction m using Nat.strongRecOn with
  | _ m ih =>
    intro hm
    by_cases z : m = 0
    · subst z; exact Nat.zero_le _
    · obtain ⟨i, i1, i2⟩ := f.at' m (by omega)
      have h1 := ih i i1 (by omega)
      have split : ∀ t, i ≤ t → sm W t = sm W i + sm (fun k => if i ≤ k then W k else 0) t := by
        intro t ht
        induction t with
        | zero =>
          have : i = 0 := by omega
          subst this
          rfl
        | succ t iht =>
          show sm W t + W t = sm W i + (sm (fun k => if i ≤ k then W k else 0) t + (if i ≤ t then W t else 0))
          by_cases q : i = t + 1
          · subst q
            rw [if_neg (by omega), sm_zero (n := t) fun k hk => if_neg (by omega)]
            rfl
          · rw [if_pos (by omega), iht (by omega)]
            omega
      rw [split m (by omega), i2, Nat.mul_add]
      refine Nat.add_le_add h1 ?_
      unfold c
      by_cases p : 0 < sd d i m
      · rw [if_pos p, Nat.mul_add]
        have l1 := hl i (by omega)
        have l2 : load d h b W i m ≤ load d h b W i n := sm_mono hm
        have l3 : sm (fun k => if i ≤ k then W k else 0) m ≤ load d h b W i m + b * hs d h i m := by
          unfold load hs
          rw [← sm_mul, ← sm_add]
          refine sm_le fun k hk => ?_
          by_cases q : i ≤ k
          · rw [if_pos q, if_pos q, if_pos q]; omega
          · rw [if_neg q, if_neg q, if_neg q]; omega
        omega
      · rw [sm_zero]
        · omega
        · intro k hk
          by_cases q : i ≤ k
          · rw [if_pos q]
            refine hW k ?_
            have := sm_pos (f := fun k => if i ≤ k then d k else 0) hk
            simp only [if_pos q] at this
            unfold sd at p
            omega
          · rw [if_neg q]
end
end Lot
namespace Lot
section
variable {d x : Nat → Nat} {S h n : Nat}
/-- how much of the demand of k is met by what is made up to P -/
def u (d : Nat → Nat) (k P : Nat) : Nat := min (d k) (P - sm d k)
theorem u_sum (d : Nat → Nat) (P : Nat) : ∀ m, sm (fun k => u d k P) m = min P (sm d m)
  | 0 => by
    show 0 = min P 0
    omega
  | m + 1 => by
    show sm (fun k => u d k P) m + min (d m) (P - sm d m) = min P (sm d m + d m)
    rw [u_sum d P m]
    omega
theorem u_mono {k P Q : Nat} (e : P ≤ Q) : u d k P ≤ u d k Q := by
  unfold u
  omega
theorem u_all {k P : Nat} (e : sm d (k + 1) ≤ P) : u d k P = d k := by
  unfold u
  have : sm d (k + 1) = sm d k + d k := rfl
  omega
theorem u_le {k P : Nat} : u d k P ≤ d k := Nat.min_le_left _ _
/-- what a plan costs -/
def pc (d x : Nat → Nat) (S h n : Nat) : Nat := sm (fun t => (if 0 < x t then S else 0) + h * (sm x (t + 1) - sm d (t + 1))) n
theorem unit_step {q e δ D : Nat} (hd : δ ≤ D) : q * δ ≤ e * δ + D * (q - e) := by
  have h1 : q * δ ≤ (e + (q - e)) * δ := Nat.mul_le_mul_right _ (by omega)
  rw [Nat.add_mul] at h1
  have h2 : (q - e) * δ ≤ D * (q - e) := by rw [Nat.mul_comm D]; exact Nat.mul_le_mul_left _ hd
  omega
theorem plan_weak {q : Nat → Nat} {L : Nat} (hf : ∀ t, t < n → sm d (t + 1) ≤ sm x (t + 1)) (he : sm x n = sm d n) (hq : ∀ j, j < n → sm (fun k => if j ≤ k then d k * (q k - L * h * (k - j)) else 0) n ≤ L * S) :
    ∀ t, t ≤ n → sm (fun k => q k * u d k (sm x t)) n ≤ L * pc d x S h t + sm (fun k => if t ≤ k then L * h * (k - t) * u d k (sm x t) else 0) n := by
  intro t
  induction t with
  | zero =>
    intro _
    rw [sm_zero (f := fun k => q k * u d k (sm x 0))]
    · exact Nat.zero_le _
    · intro k hk
      have : u d k (sm x 0) = 0 := by
        unfold u
        show min (d k) (0 - _) = 0
        omega
      rw [this, Nat.mul_zero]
  | succ t ih =>
    intro ht
    have ih := ih (by omega)
    have hP : sm x (t + 1) = sm x t + x t := rfl
    have hD : ∀ k, k < t → sm d (k + 1) ≤ sm x t := fun k hk => by
      have h1 := hf (t - 1) (by omega)
      have et : t - 1 + 1 = t := by omega
      rw [et] at h1
      exact Nat.le_trans (sm_mono (by omega)) h1
    have hPn : sm x (t + 1) ≤ sm d n := by rw [← he]; exact sm_mono ht
    have hDt := hf t (by omega)
    have hpc : pc d x S h (t + 1) = pc d x S h t + ((if 0 < x t then S else 0) + h * (sm x (t + 1) - sm d (t + 1))) := rfl
    generalize sm x (t + 1) = P' at *
    generalize sm x t = P at *
    have hPP : P ≤ P' := by omega
    -- what is kept
    have kept : P' - sm d (t + 1) = sm (fun k => if t + 1 ≤ k then u d k P' else 0) n := by
      have e1 := u_sum d P' n
      have e2 := u_sum d P' (t + 1)
      have e3 : sm (fun k => u d k P') n = sm (fun k => u d k P') (t + 1) + sm (fun k => if t + 1 ≤ k then u d k P' else 0) n := by
        have key : ∀ m, t + 1 ≤ m → sm (fun k => u d k P') m = sm (fun k => u d k P') (t + 1) + sm (fun k => if t + 1 ≤ k then u d k P' else 0) m := by
          intro m hm
          induction m with
          | zero => omega
          | succ m ihm =>
            show sm (fun k => u d k P') m + u d m P' = sm (fun k => u d k P') (t + 1) + (sm (fun k => if t + 1 ≤ k then u d k P' else 0) m + (if t + 1 ≤ m then u d m P' else 0))
            by_cases z : t + 1 = m + 1
            · have : t = m := by omega
              subst this
              rw [if_neg (by omega), sm_zero (n := t) fun k hk => if_neg (by omega)]
              rfl
            · rw [if_pos (by omega), ihm (by omega)]
              omega
        exact key n (by omega)
      omega
    -- the step
    rw [hpc]
    have hu : ∀ k, u d k P' = u d k P + (u d k P' - u d k P) := fun k => by
      have := u_mono (d := d) (k := k) hPP
      omega
    have e4 : sm (fun k => q k * u d k P') n = sm (fun k => q k * u d k P) n + sm (fun k => q k * (u d k P' - u d k P)) n := by
      rw [← sm_add]
      refine sm_eq fun k hk => ?_
      rw [← Nat.mul_add, ← hu k]
    have e5 : L * (h * (P' - sm d (t + 1))) + sm (fun k => if t + 1 ≤ k then L * h * (k - (t + 1)) * u d k P' else 0) n = sm (fun k => if t ≤ k then L * h * (k - t) * u d k P' else 0) n := by
      rw [kept, ← Nat.mul_assoc, ← sm_mul, ← sm_add]
      refine sm_eq fun k hk => ?_
      by_cases z : t + 1 ≤ k
      · rw [if_pos z, if_pos z, if_pos (by omega)]
        have : k - t = (k - (t + 1)) + 1 := by omega
        rw [this, Nat.mul_add, Nat.mul_one, Nat.add_mul]
        omega
      · rw [if_neg z, if_neg z]
        by_cases y : t ≤ k
        · have : k - t = 0 := by omega
          rw [if_pos y, this]
          simp
        · rw [if_neg y, Nat.mul_zero]
    have e6 : sm (fun k => if t ≤ k then L * h * (k - t) * u d k P' else 0) n = sm (fun k => if t ≤ k then L * h * (k - t) * u d k P else 0) n + sm (fun k => if t ≤ k then L * h * (k - t) * (u d k P' - u d k P) else 0) n := by
      rw [← sm_add]
      refine sm_eq fun k hk => ?_
      by_cases y : t ≤ k
      · rw [if_pos y, if_pos y, if_pos y, ← Nat.mul_add, ← hu k]
      · rw [if_neg y, if_neg y, if_neg y]
    have e7 : sm (fun k => q k * (u d k P' - u d k P)) n ≤ L * (if 0 < x t then S else 0) + sm (fun k => if t ≤ k then L * h * (k - t) * (u d k P' - u d k P) else 0) n := by
      by_cases z : 0 < x t
      · rw [if_pos z]
        refine Nat.le_trans ?_ (Nat.add_le_add_right (hq t (by omega)) _)
        rw [← sm_add]
        refine sm_le fun k hk => ?_
        by_cases y : t ≤ k
        · rw [if_pos y, if_pos y]
          have := unit_step (q := q k) (e := L * h * (k - t)) (δ := u d k P' - u d k P) (D := d k) (by
            have := u_le (d := d) (k := k) (P := P')
            omega)
          omega
        · have h1 := u_all (d := d) (k := k) (hD k (by omega))
          have h2 := u_le (d := d) (k := k) (P := P')
          have : u d k P' - u d k P = 0 := by omega
          rw [this, Nat.mul_zero]
          exact Nat.zero_le _
      · have : P' = P := by omega
        rw [this, sm_zero]
        · exact Nat.zero_le _
        · intro k hk
          rw [Nat.sub_self, Nat.mul_zero]
    rw [e4, Nat.mul_add, Nat.mul_add]
    omega
/-- a common multiple of the demands -/
def lc (d : Nat → Nat) : Nat → Nat
  | 0 => 1
  | n + 1 => lc d n * (if d n = 0 then 1 else d n)
theorem lc_pos (d : Nat → Nat) : ∀ n, 0 < lc d n
  | 0 => Nat.one_pos
  | n + 1 => Nat.mul_pos (lc_pos d n) (by split <;> omega)
theorem lc_dvd (d : Nat → Nat) {k : Nat} : ∀ {n : Nat}, k < n → 0 < d k → d k ∣ lc d n
  | 0, h, _ => absurd h (by omega)
  | n + 1, h, p => by
    by_cases e : k = n
    · subst e
      refine ⟨lc d k, ?_⟩
      show lc d k * (if d k = 0 then 1 else d k) = _
      rw [if_neg (by omega), Nat.mul_comm]
    · exact Nat.dvd_trans (lc_dvd d (by omega) p) ⟨_, rfl⟩
/-- no plan costs less -/
theorem plan_ge {F : Nat → Nat} (f : Fok d S h F) (hf : ∀ t, t < n → sm d (t + 1) ≤ sm x (t + 1)) (he : sm x n = sm d n) : F n ≤ pc d x S h n := by
  have L0 := lc_pos d n
  have ex : ∀ k, k < n → 0 < d k → lc d n / d k * d k = lc d n := fun k hk p => Nat.div_mul_cancel (lc_dvd d hk p)
  have qd : ∀ k, k < n → d k * (lc d n / d k * G F k) = lc d n * G F k := fun k hk => by
    by_cases z : d k = 0
    · have : G F k = 0 := by
        have := F_zero f z
        have g : G F k = F (k + 1) - F k := rfl
        omega
      rw [this, Nat.mul_zero, Nat.mul_zero, Nat.mul_zero]
    · rw [← Nat.mul_assoc, Nat.mul_comm (d k), ex k hk (by omega)]
  generalize hL : lc d n = L at *
  have := plan_weak (d := d) (x := x) (S := S) (h := h) (n := n) (q := fun k => L / d k * G F k) (L := L) hf he (fun j hj => by
    refine Nat.le_trans ?_ (Nat.mul_le_mul_left L (load_le f hj))
    unfold load
    rw [← sm_mul]
    refine sm_le fun k hk => ?_
    by_cases z : j ≤ k
    · rw [if_pos z, if_pos z, Nat.mul_sub (d k), Nat.mul_sub L, qd k hk, Nat.one_mul]
      have : L * H d h k j = d k * (L * h * (k - j)) := by
        unfold H
        simp [Nat.mul_comm, Nat.mul_left_comm, Nat.mul_assoc]
      rw [this]
      exact Nat.le_refl _
    · rw [if_neg z, if_neg z]
      exact Nat.zero_le _) n (Nat.le_refl _)
  rw [sm_zero (f := fun k => if n ≤ k then _ else 0) fun k hk => if_neg (by omega), Nat.add_zero] at this
  have e1 : sm (fun k => L / d k * G F k * u d k (sm x n)) n = L * sm (G F) n := by
    rw [← sm_mul]
    refine sm_eq fun k hk => ?_
    rw [u_all (by rw [he]; exact sm_mono (by omega)), Nat.mul_comm, qd k hk]
  rw [e1] at this
  have e2 := G_sum f 0 n (Nat.zero_le _)
  rw [f.z] at e2
  have e3 : sm (fun k => if 0 ≤ k then G F k else 0) n = sm (G F) n := sm_eq fun k hk => if_pos (Nat.zero_le _)
  rw [e3] at e2
  have := Nat.le_of_mul_le_mul_left this L0
  omega
end
end Lot
namespace Lot
/-! ### the turns of both -/
def ks : List Nat → Nat → Nat
  | [], _ => 0
  | a :: l, j => j * a + ks l (j + 1)
def cl (S h : Nat) (l : List Nat) : Nat := S * (if 0 < l.sum then 1 else 0) + h * ks l 0
abbrev Row := Nat × List Nat
section
variable (lt : Row → Row → Bool) (S h : Nat)
def pick (x : Row) (xs : List Row) : Row := xs.foldl (fun a y => if lt y a then y else a) x
def cand (l : List Nat) (rs : List Row) (m : Nat) : Row := (cl S h (l.take (m + 1)) + (rs.getD m (0, [])).1, (l.take (m + 1)).sum :: (List.replicate m 0 ++ (rs.getD m (0, [])).2))
def rows : List Nat → List Row
  | [] => [(0, [])]
  | a :: l => pick lt (cand S h (a :: l) (rows l) 0) ((List.range l.length).map fun m => cand S h (a :: l) (rows l) (m + 1)) :: rows l
def row (l : List Nat) : Row := (rows lt S h l).headD (0, [])
def bv (l : List Nat) : Nat := (row lt S h l).1
variable {lt S h}
theorem pick_mem : ∀ (xs : List Row) (x : Row), pick lt x xs ∈ x :: xs
  | [], x => List.mem_cons_self
  | y :: ys, x => by
    show pick lt (if lt y x then y else x) ys ∈ _
    rcases List.mem_cons.mp (pick_mem ys (if lt y x then y else x)) with h | h
    · rw [h]
      split
      · exact List.mem_cons_of_mem _ List.mem_cons_self
      · exact List.mem_cons_self
    · exact List.mem_cons_of_mem _ (List.mem_cons_of_mem _ h)
theorem pick_le (h1 : ∀ x y, lt x y = true → x.1 ≤ y.1) (h2 : ∀ x y, lt x y = false → y.1 ≤ x.1) : ∀ (xs : List Row) (x : Row), (pick lt x xs).1 ≤ x.1 ∧ ∀ y ∈ xs, (pick lt x xs).1 ≤ y.1
  | [], x => ⟨Nat.le_refl _, fun y h => by cases h⟩
  | y :: ys, x => by
    obtain ⟨i1, i2⟩ := pick_le h1 h2 ys (if lt y x then y else x)
    have e : (if lt y x then y else x).1 ≤ x.1 ∧ (if lt y x then y else x).1 ≤ y.1 := by
      cases c : lt y x with
      | true => exact ⟨h1 _ _ c, Nat.le_refl _⟩
      | false => exact ⟨Nat.le_refl _, h2 _ _ c⟩
    refine ⟨Nat.le_trans i1 e.1, fun z hz => ?_⟩
    rcases List.mem_cons.mp hz with rfl | hz
    · exact Nat.le_trans i1 e.2
    · exact i2 z hz
theorem rows_len : ∀ l : List Nat, (rows lt S h l).length = l.length + 1
  | [] => rfl
  | a :: l => by
    show (rows lt S h l).length + 1 = l.length + 1 + 1
    rw [rows_len l]
theorem rows_get : ∀ (l : List Nat) (m : Nat), m ≤ l.length → (rows lt S h l)[m]? = some (row lt S h (l.drop m))
  | [], m, e => by
    have : m = 0 := Nat.le_zero.mp e
    subst this
    rfl
  | a :: l, 0, _ => rfl
  | a :: l, m + 1, e => by
    show (rows lt S h l)[m]? = some (row lt S h (l.drop m))
    exact rows_get l m (by simpa using e)
theorem rows_getD {l : List Nat} {m : Nat} (e : m ≤ l.length) : (rows lt S h l).getD m (0, []) = row lt S h (l.drop m) := by
  rw [List.getD_eq_getElem?_getD, rows_get l m e]
  rfl
theorem bv_nil : bv lt S h [] = 0 := rfl
/-- the first lot of a list, and what is left -/
theorem bv_le (h1 : ∀ x y, lt x y = true → x.1 ≤ y.1) (h2 : ∀ x y, lt x y = false → y.1 ≤ x.1) {l : List Nat} {m : Nat} (e : m < l.length) : bv lt S h l ≤ cl S h (l.take (m + 1)) + bv lt S h (l.drop (m + 1)) := by
  match l, e with
  | a :: l, e =>
    obtain ⟨k1, k2⟩ := pick_le h1 h2 ((List.range l.length).map fun m => cand S h (a :: l) (rows lt S h l) (m + 1)) (cand S h (a :: l) (rows lt S h l) 0)
    have hm : m ≤ l.length := by simpa using Nat.lt_succ_iff.mp e
    have hc : (cand S h (a :: l) (rows lt S h l) m).1 = cl S h ((a :: l).take (m + 1)) + bv lt S h ((a :: l).drop (m + 1)) := by
      show cl S h ((a :: l).take (m + 1)) + ((rows lt S h l).getD m (0, [])).1 = _
      rw [rows_getD hm]
      rfl
    rw [← hc]
    cases m with
    | zero => exact k1
    | succ m => exact k2 _ (List.mem_map.mpr ⟨m, List.mem_range.mpr (by omega), rfl⟩)
theorem bv_at {l : List Nat} (hl : l ≠ []) : ∃ m, m < l.length ∧ bv lt S h l = cl S h (l.take (m + 1)) + bv lt S h (l.drop (m + 1)) := by
  match l, hl with
  | a :: l, _ =>
    have hc : ∀ m, m ≤ l.length → (cand S h (a :: l) (rows lt S h l) m).1 = cl S h ((a :: l).take (m + 1)) + bv lt S h ((a :: l).drop (m + 1)) := fun m hm => by
      show cl S h ((a :: l).take (m + 1)) + ((rows lt S h l).getD m (0, [])).1 = _
      rw [rows_getD hm]
      rfl
    have := pick_mem (lt := lt) ((List.range l.length).map fun m => cand S h (a :: l) (rows lt S h l) (m + 1)) (cand S h (a :: l) (rows lt S h l) 0)
    rcases List.mem_cons.mp this with e | e
    · refine ⟨0, Nat.succ_pos _, ?_⟩
      rw [← hc 0 (Nat.zero_le _), ← e]
      rfl
    · obtain ⟨m, m1, m2⟩ := List.mem_map.mp e
      have hm := List.mem_range.mp m1
      refine ⟨m + 1, Nat.succ_lt_succ hm, ?_⟩
      rw [← hc (m + 1) hm, m2]
      rfl
theorem bv_add (h1 : ∀ x y, lt x y = true → x.1 ≤ y.1) (h2 : ∀ x y, lt x y = false → y.1 ≤ x.1) : ∀ (n : Nat) (a b : List Nat), a.length ≤ n → bv lt S h (a ++ b) ≤ bv lt S h a + bv lt S h b := by
  intro n
  induction n with
  | zero =>
    intro a b ha
    have : a = [] := List.eq_nil_of_length_eq_zero (by omega)
    subst this
    rw [bv_nil, Nat.zero_add, List.nil_append]
    exact Nat.le_refl _
  | succ n ih =>
    intro a b ha
    by_cases z : a = []
    · subst z
      rw [bv_nil, Nat.zero_add, List.nil_append]
      exact Nat.le_refl _
    · obtain ⟨m, m1, m2⟩ := bv_at (lt := lt) (S := S) (h := h) z
      have e1 := bv_le (S := S) (h := h) h1 h2 (l := a ++ b) (m := m) (by rw [List.length_append]; omega)
      rw [List.take_append_of_le_length (by omega), List.drop_append_of_le_length (by omega)] at e1
      have e2 := ih (a.drop (m + 1)) b (by rw [List.length_drop]; omega)
      omega
theorem bv_one (h1 : ∀ x y, lt x y = true → x.1 ≤ y.1) (h2 : ∀ x y, lt x y = false → y.1 ≤ x.1) {l : List Nat} (hl : l ≠ []) : bv lt S h l ≤ cl S h l := by
  have : 0 < l.length := List.length_pos_iff.mpr hl
  have e := bv_le (S := S) (h := h) h1 h2 (l := l) (m := l.length - 1) (by omega)
  have e1 : l.length - 1 + 1 = l.length := by omega
  rw [e1, List.take_length, List.drop_length, bv_nil, Nat.add_zero] at e
  exact e
/-- the last lot -/
theorem bv_last (h1 : ∀ x y, lt x y = true → x.1 ≤ y.1) (h2 : ∀ x y, lt x y = false → y.1 ≤ x.1) : ∀ (n : Nat) (l : List Nat), l.length ≤ n → l ≠ [] → ∃ a b, b ≠ [] ∧ l = a ++ b ∧ bv lt S h l = bv lt S h a + cl S h b := by
  intro n
  induction n with
  | zero => intro l hl z; exact absurd (List.eq_nil_of_length_eq_zero (by omega)) z
  | succ n ih =>
    intro l hl z
    obtain ⟨m, m1, m2⟩ := bv_at (lt := lt) (S := S) (h := h) z
    by_cases q : l.drop (m + 1) = []
    · refine ⟨[], l, z, rfl, ?_⟩
      rw [q, bv_nil] at m2
      have : l.take (m + 1) = l := List.take_of_length_le (by
        have := congrArg List.length q
        rw [List.length_drop, List.length_nil] at this
        omega)
      rw [this] at m2
      rw [bv_nil, Nat.zero_add]
      exact m2
    · obtain ⟨a, b, b1, b2, b3⟩ := ih (l.drop (m + 1)) (by rw [List.length_drop]; omega) q
      have el : l = (l.take (m + 1) ++ a) ++ b := by
        rw [List.append_assoc, ← b2, List.take_append_drop]
      refine ⟨l.take (m + 1) ++ a, b, b1, el, ?_⟩
      have t0 : l.take (m + 1) ≠ [] := by
        intro e
        have := congrArg List.length e
        rw [List.length_take, List.length_nil] at this
        omega
      have e1 := bv_add (S := S) (h := h) h1 h2 _ (l.take (m + 1)) a (Nat.le_refl _)
      have e2 := bv_one (S := S) (h := h) h1 h2 t0
      have e3 := bv_add (S := S) (h := h) h1 h2 _ (l.take (m + 1) ++ a) b (Nat.le_refl _)
      have e4 := bv_one (S := S) (h := h) h1 h2 b1
      rw [← el] at e3
      omega
end
section
variable (d : Nat → Nat)
def seg (i m : Nat) : List Nat := (List.range' i (m - i)).map d
theorem seg_split {i j m : Nat} (h1 : i ≤ j) (h2 : j ≤ m) : seg d i m = seg d i j ++ seg d j m := by
  unfold seg
  rw [← List.map_append]
  congr 1
  have e : m - i = (j - i) + (m - j) := by omega
  have e2 : i + 1 * (j - i) = j := by omega
  have e3 := List.range'_append (s := i) (m := j - i) (n := m - j) (step := 1)
  rw [e2] at e3
  rw [e]
  exact e3.symm
theorem seg_nil {i : Nat} : seg d i i = [] := by
  unfold seg
  rw [Nat.sub_self]
  rfl
theorem seg_succ {i m : Nat} (e : i ≤ m) : seg d i (m + 1) = seg d i m ++ [d m] := by
  rw [seg_split d e (Nat.le_succ m)]
  congr 1
  unfold seg
  have : m + 1 - m = 1 := by omega
  rw [this]
  rfl
theorem seg_len {i m : Nat} : (seg d i m).length = m - i := by
  unfold seg
  rw [List.length_map, List.length_range']
theorem ks_app : ∀ (a : List Nat) (x j : Nat), ks (a ++ [x]) j = ks a j + (j + a.length) * x
  | [], x, j => by
    show j * x + 0 = 0 + (j + 0) * x
    simp
  | b :: a, x, j => by
    show j * b + ks (a ++ [x]) (j + 1) = j * b + ks a (j + 1) + (j + (a.length + 1)) * x
    rw [ks_app a x (j + 1)]
    have : j + 1 + a.length = j + (a.length + 1) := by omega
    rw [this]
    omega
theorem seg_sum (i : Nat) : ∀ m, i ≤ m → (seg d i m).sum = sd d i m := by
  intro m hm
  induction m with
  | zero =>
    have : i = 0 := by omega
    subst this
    rfl
  | succ m ih =>
    by_cases z : i = m + 1
    · subst z
      rw [seg_nil, sd_self (Nat.le_refl _)]
      rfl
    · rw [seg_succ d (by omega), List.sum_append, ih (by omega), sd_succ (by omega)]
      simp
theorem seg_ks (h i : Nat) : ∀ m, i ≤ m → h * ks (seg d i m) 0 = hs d h i m := by
  intro m hm
  induction m with
  | zero =>
    have : i = 0 := by omega
    subst this
    rfl
  | succ m ih =>
    by_cases z : i = m + 1
    · subst z
      rw [seg_nil, hs_self (Nat.le_refl _)]
      rfl
    · rw [seg_succ d (by omega), ks_app, Nat.mul_add, ih (by omega), hs_succ (by omega), seg_len]
      unfold H
      rw [Nat.zero_add, Nat.mul_assoc]
theorem seg_cl (S h : Nat) {i m : Nat} (e : i ≤ m) : cl S h (seg d i m) = c d S h i m := by
  unfold cl c
  rw [seg_sum d i m e, seg_ks d h i m e]
  split <;> simp
variable {d}
theorem seg_app {m : Nat} {a b : List Nat} (e : seg d 0 m = a ++ b) : a.length ≤ m ∧ a = seg d 0 a.length ∧ b = seg d a.length m := by
  have hl := congrArg List.length e
  rw [seg_len, List.length_append] at hl
  have h1 : a.length ≤ m := by omega
  have e2 := seg_split d (Nat.zero_le a.length) h1
  rw [e2] at e
  have := List.append_inj e (by rw [seg_len]; omega)
  exact ⟨h1, this.1.symm, this.2.symm⟩
/-- the least costs of the first periods -/
theorem fok {lt : Row → Row → Bool} {S h : Nat} (h1 : ∀ x y, lt x y = true → x.1 ≤ y.1) (h2 : ∀ x y, lt x y = false → y.1 ≤ x.1) : Fok d S h fun m => bv lt S h (seg d 0 m) := by
  refine ⟨rfl, fun i m hi => ?_, fun m hm => ?_⟩
  · have e := bv_add (S := S) (h := h) h1 h2 _ (seg d 0 i) (seg d i m) (Nat.le_refl _)
    rw [← seg_split d (Nat.zero_le _) (Nat.le_of_lt hi)] at e
    have hn : seg d i m ≠ [] := by
      intro z
      have := congrArg List.length z
      rw [seg_len] at this
      simp at this
      omega
    have e2 := bv_one (S := S) (h := h) h1 h2 hn
    rw [seg_cl d S h (Nat.le_of_lt hi)] at e2
    exact Nat.le_trans e (Nat.add_le_add_left e2 _)
  · have hn : seg d 0 m ≠ [] := by
      intro z
      have := congrArg List.length z
      rw [seg_len] at this
      simp at this
      omega
    obtain ⟨a, b, b1, b2, b3⟩ := bv_last (S := S) (h := h) h1 h2 _ (seg d 0 m) (Nat.le_refl _) hn
    obtain ⟨c1, c2, c3⟩ := seg_app b2
    have hb : a.length < m := by
      have hl := congrArg List.length b2
      rw [seg_len, List.length_append] at hl
      have := List.length_pos_iff.mpr b1
      omega
    refine ⟨a.length, hb, ?_⟩
    show bv lt S h (seg d 0 m) = bv lt S h (seg d 0 a.length) + c d S h a.length m
    rw [b3, ← c2, c3, seg_cl d S h c1]
end
end Lot
namespace Lot
/-! ### plans of lots for whole periods -/
inductive LP : List Nat → List Nat → Prop
  | nil : LP [] []
  | cons {a b ys : List Nat} : a ≠ [] → LP b ys → LP (a ++ b) (a.sum :: (List.replicate (a.length - 1) 0 ++ ys))
theorem LP.len : ∀ {ds xs : List Nat}, LP ds xs → xs.length = ds.length
  | _, _, .nil => rfl
  | _, _, .cons (a := a) h r => by
    have := r.len
    have := List.length_pos_iff.mpr h
    simp only [List.length_cons, List.length_append, List.length_replicate]
    omega
theorem sum_rep0 (n : Nat) : (List.replicate n 0).sum = 0 := by
  induction n with
  | zero => rfl
  | succ n ih => rw [List.replicate_succ, List.sum_cons, ih]
theorem LP.sum : ∀ {ds xs : List Nat}, LP ds xs → xs.sum = ds.sum
  | _, _, .nil => rfl
  | _, _, .cons (a := a) h r => by
    rw [List.sum_cons, List.sum_append, List.sum_append, sum_rep0, r.sum]
    omega
theorem take_le (l : List Nat) (t : Nat) : (l.take t).sum ≤ l.sum := by
  have := List.take_append_drop t l
  have e := congrArg List.sum this
  rw [List.sum_append] at e
  omega
theorem LP.ge : ∀ {ds xs : List Nat}, LP ds xs → ∀ t, (ds.take t).sum ≤ (xs.take t).sum
  | _, _, .nil, t => by simp
  | _, _, .cons (a := a) (b := b) (ys := ys) h r, t => by
    match t with
    | 0 => exact Nat.le_refl _
    | t + 1 =>
      have ha := List.length_pos_iff.mpr h
      rw [List.take_succ_cons, List.sum_cons, List.take_append, List.sum_append, List.take_append, List.sum_append, List.length_replicate]
      have h1 := take_le a (t + 1)
      have h2 := r.ge (t + 1 - a.length)
      rw [show t - (a.length - 1) = t + 1 - a.length by omega]
      omega
theorem LP.self : ∀ ds : List Nat, LP ds ds
  | [] => .nil
  | a :: l => by
    have := LP.cons (a := [a]) (by simp) (LP.self l)
    simpa using this
theorem row_LP {lt : Row → Row → Bool} {S h : Nat} : ∀ (n : Nat) (l : List Nat), l.length ≤ n → LP l (row lt S h l).2 := by
  intro n
  induction n with
  | zero =>
    intro l hl
    have : l = [] := List.eq_nil_of_length_eq_zero (by omega)
    subst this
    exact .nil
  | succ n ih =>
    intro l hl
    match l, hl with
    | [], _ => exact .nil
    | a :: l, hl =>
      have hl' : l.length ≤ n := by simpa using hl
      have hc : ∀ m, m ≤ l.length → LP (a :: l) (cand S h (a :: l) (rows lt S h l) m).2 := fun m hm => by
        show LP (a :: l) (((a :: l).take (m + 1)).sum :: (List.replicate m 0 ++ ((rows lt S h l).getD m (0, [])).2))
        rw [rows_getD hm]
        have := LP.cons (a := (a :: l).take (m + 1)) (by simp) (ih (l.drop m) (by rw [List.length_drop]; omega))
        have e : (a :: l).take (m + 1) ++ l.drop m = a :: l := by
          show a :: (l.take m ++ l.drop m) = _
          rw [List.take_append_drop]
        rw [e] at this
        have e2 : ((a :: l).take (m + 1)).length - 1 = m := by
          rw [List.length_take, List.length_cons]
          omega
        rw [e2] at this
        exact this
      have := pick_mem (lt := lt) ((List.range l.length).map fun m => cand S h (a :: l) (rows lt S h l) (m + 1)) (cand S h (a :: l) (rows lt S h l) 0)
      rcases List.mem_cons.mp this with e | e
      · show LP _ (pick lt _ _).2
        rw [e]
        exact hc 0 (Nat.zero_le _)
      · obtain ⟨m, m1, m2⟩ := List.mem_map.mp e
        show LP _ (pick lt _ _).2
        rw [← m2]
        exact hc (m + 1) (List.mem_range.mp m1)
/-! ### the rule -/
def ex (S h : Nat) (l : List Nat) : Nat → Nat → Nat
  | 0, m => m
  | f + 1, m => if m < l.length then (if cl S h (l.take m) * (m + 1) ≤ cl S h (l.take (m + 1)) * m then m else ex S h l f (m + 1)) else m
theorem ex_ge {S h : Nat} {l : List Nat} : ∀ f m, m ≤ ex S h l f m
  | 0, m => Nat.le_refl _
  | f + 1, m => by
    unfold ex
    split
    · split
      · exact Nat.le_refl _
      · have := ex_ge (S := S) (h := h) (l := l) f (m + 1)
        omega
    · exact Nat.le_refl _
theorem ex_le {S h : Nat} {l : List Nat} : ∀ f m, m ≤ l.length → ex S h l f m ≤ l.length
  | 0, m, e => e
  | f + 1, m, e => by
    unfold ex
    split
    · rename_i z
      split
      · exact e
      · exact ex_le f (m + 1) z
    · exact e
def eo (S h : Nat) (l : List Nat) : Nat := if l.headD 0 = 0 then 1 else ex S h l l.length 1
theorem eo_ge {S h : Nat} {l : List Nat} : 1 ≤ eo S h l := by
  unfold eo
  split
  · exact Nat.le_refl _
  · exact ex_ge _ _
theorem eo_le {S h : Nat} {l : List Nat} (hl : l ≠ []) : eo S h l ≤ l.length := by
  have := List.length_pos_iff.mpr hl
  unfold eo
  split
  · omega
  · exact ex_le _ _ (by omega)
def sil (S h : Nat) : Nat → List Nat → List Nat
  | 0, _ => []
  | _, [] => []
  | f + 1, a :: l => ((a :: l).take (eo S h (a :: l))).sum :: (List.replicate (eo S h (a :: l) - 1) 0 ++ sil S h f ((a :: l).drop (eo S h (a :: l))))
theorem sil_LP {S h : Nat} : ∀ (f : Nat) (l : List Nat), l.length ≤ f → LP l (sil S h f l)
  | 0, l, e => by
    have : l = [] := List.eq_nil_of_length_eq_zero (by omega)
    subst this
    exact .nil
  | f + 1, [], _ => .nil
  | f + 1, a :: l, e => by
    have g1 := eo_ge (S := S) (h := h) (l := a :: l)
    have g2 := eo_le (S := S) (h := h) (l := a :: l) (by simp)
    have ih := sil_LP (S := S) (h := h) f ((a :: l).drop (eo S h (a :: l))) (by
      rw [List.length_drop]
      omega)
    have := LP.cons (a := (a :: l).take (eo S h (a :: l))) (by
      intro z
      have := congrArg List.length z
      rw [List.length_take, List.length_nil] at this
      omega) ih
    rw [List.take_append_drop, List.length_take, Nat.min_eq_left g2] at this
    exact this
theorem cl_succ {S h m : Nat} {l : List Nat} (p : 0 < (l.take m).sum) (hm : m < l.length) : cl S h (l.take (m + 1)) = cl S h (l.take m) + h * m * l[m] := by
  rw [List.take_succ_eq_append_getElem hm]
  unfold cl
  rw [ks_app, List.sum_append, if_pos (by omega), if_pos p, List.length_take, Nat.min_eq_left (by omega), Nat.zero_add, Nat.mul_add, ← Nat.mul_assoc]
  omega
theorem cl_one {S h a : Nat} {l : List Nat} (p : 0 < a) : cl S h ((a :: l).take 1) = S := by
  unfold cl
  show S * (if 0 < [a].sum then 1 else 0) + h * (0 * a + 0) = S
  rw [if_pos (by simp; omega)]
  simp
end Lot
namespace Lot
/-! ### all plans of small demands -/
def lexN : List Nat → List Nat → Bool
  | [], [] => false
  | [], _ :: _ => true
  | _ :: _, [] => false
  | a :: l, b :: m => if Nat.beq a b then lexN l m else Nat.blt a b
def ltB (x y : Row) : Bool := if Nat.beq x.1 y.1 then lexN x.2 y.2 else Nat.blt x.1 y.1
/-- what a row costs, from a period on, with what is kept -/
def cB (S h : Nat) : List Nat → List Nat → Nat → Nat
  | d :: ds, x :: xs, kept => (if Nat.blt 0 x then S else 0) + h * (kept + x - d) + cB S h ds xs (kept + x - d)
  | _, _, _ => 0
def nxt (Dk T : Nat) (row : List Nat) : List (List Nat) := (List.range (T + 1 - row.sum - (Dk - row.sum))).map fun j => row ++ [Dk - row.sum + j]
def allR (ds : List Nat) (T : Nat) : Nat → List (List Nat)
  | 0 => [[]]
  | k + 1 => (allR ds T k).flatMap (nxt ((ds.take (k + 1)).sum) T)
def dueR (ds : List Nat) : List (List Nat) := (allR ds ds.sum ds.length).filter fun r => Nat.beq r.sum ds.sum
def chk (ds : List Nat) (S h : Nat) : Bool := match (dueR ds).map fun r => (cB S h ds r 0, r) with
  | [] => false
  | x :: xs => let a := pick ltB x xs; let b := row ltB S h ds; Nat.beq a.1 b.1 && (a.2 == b.2)
def dss : Nat → List (List Nat)
  | 0 => [[]]
  | n + 1 => (dss n).flatMap fun l => [0 :: l, 1 :: l, 2 :: l]
def ckN (n : Nat) : Bool := (dss n).all fun ds => (List.range 6).all fun S => (List.range 3).all fun h => chk ds S h
theorem ck1 : ckN 1 = true := by decide +kernel
theorem ck2 : ckN 2 = true := by decide +kernel
theorem ck3 : ckN 3 = true := by decide +kernel
theorem ck4 : ckN 4 = true := by decide +kernel
theorem mem_dss : ∀ (ds : List Nat), (∀ d ∈ ds, d ≤ 2) → ds ∈ dss ds.length
  | [], _ => List.mem_singleton.mpr rfl
  | a :: l, h => by
    have ih := mem_dss l fun d hd => h d (List.mem_cons_of_mem _ hd)
    have ha := h a List.mem_cons_self
    refine List.mem_flatMap.mpr ⟨l, ih, ?_⟩
    have : a = 0 ∨ a = 1 ∨ a = 2 := by omega
    rcases this with rfl | rfl | rfl <;> simp
theorem chk_ok {ds : List Nat} {S h : Nat} (h1 : 1 ≤ ds.length) (h4 : ds.length ≤ 4) (hd : ∀ d ∈ ds, d ≤ 2) (hS : S < 6) (hh : h < 3) : chk ds S h = true := by
  have hm := mem_dss ds hd
  have ck : ckN ds.length = true := by
    have : ds.length = 1 ∨ ds.length = 2 ∨ ds.length = 3 ∨ ds.length = 4 := by omega
    rcases this with e | e | e | e <;> rw [e]
    · exact ck1
    · exact ck2
    · exact ck3
    · exact ck4
  have a1 := List.all_eq_true.mp ck ds hm
  have a2 := List.all_eq_true.mp a1 S (List.mem_range.mpr hS)
  exact List.all_eq_true.mp a2 h (List.mem_range.mpr hh)
/-- the least of all plans, with what it costs -/
theorem least_ok {ds : List Nat} {S h : Nat} (h1 : 1 ≤ ds.length) (h4 : ds.length ≤ 4) (hd : ∀ d ∈ ds, d ≤ 2) (hS : S < 6) (hh : h < 3) :
    ∃ x xs, (dueR ds).map (fun r => (cB S h ds r 0, r)) = x :: xs ∧ pick ltB x xs = row ltB S h ds := by
  have c := chk_ok h1 h4 hd hS hh
  unfold chk at c
  cases hL : (dueR ds).map fun r => (cB S h ds r 0, r) with
  | nil => rw [hL] at c; cases c
  | cons x xs =>
    rw [hL] at c
    refine ⟨x, xs, rfl, ?_⟩
    have c' : (Nat.beq (pick ltB x xs).1 (row ltB S h ds).1 && ((pick ltB x xs).2 == (row ltB S h ds).2)) = true := c
    rw [Bool.and_eq_true] at c'
    have e1 : (pick ltB x xs).1 = (row ltB S h ds).1 := Nat.eq_of_beq_eq_true c'.1
    have e2 : (pick ltB x xs).2 = (row ltB S h ds).2 := eq_of_beq c'.2
    exact Prod.ext e1 e2
structure RowOk (ds : List Nat) (T k : Nat) (r : List Nat) : Prop where
  len : r.length = k
  sum : r.sum ≤ T
  ge : ∀ t, t < k → (ds.take (t + 1)).sum ≤ (r.take (t + 1)).sum
theorem allR_ok {ds : List Nat} {T : Nat} (hT : ds.sum ≤ T) : ∀ k, k ≤ ds.length → ∀ r ∈ allR ds T k, RowOk ds T k r
  | 0, _, r, hr => by
    rw [List.mem_singleton.mp hr]
    exact ⟨rfl, Nat.zero_le _, fun t ht => by omega⟩
  | k + 1, hk, r, hr => by
    obtain ⟨p, hp, hr⟩ := List.mem_flatMap.mp hr
    have i := allR_ok hT k (by omega) p hp
    obtain ⟨j, hj, rfl⟩ := List.mem_map.mp hr
    have hj := List.mem_range.mp hj
    have hD : (ds.take (k + 1)).sum ≤ ds.sum := take_le ds (k + 1)
    have hl := i.len
    have hs : (p ++ [(ds.take (k + 1)).sum - p.sum + j]).sum = p.sum + ((ds.take (k + 1)).sum - p.sum + j) := by
      rw [List.sum_append]
      simp
    refine ⟨by rw [List.length_append, hl]; rfl, by rw [hs]; omega, fun t ht => ?_⟩
    by_cases z : t = k
    · subst z
      rw [List.take_of_length_le (l := p ++ _) (by rw [List.length_append, hl]; exact Nat.le_refl _), hs]
      omega
    · rw [List.take_append_of_le_length (by omega)]
      exact i.ge t (by omega)
theorem flat_len {α β : Type} {f : α → List β} {c : Nat} : ∀ {l : List α}, (∀ x ∈ l, (f x).length ≤ c) → (l.flatMap f).length ≤ l.length * c
  | [], _ => Nat.zero_le _
  | x :: l, h => by
    rw [List.flatMap_cons, List.length_append, List.length_cons, Nat.add_mul, Nat.one_mul]
    have := h x List.mem_cons_self
    have := flat_len (l := l) fun y hy => h y (List.mem_cons_of_mem _ hy)
    omega
theorem nxt_len {D T : Nat} {r : List Nat} : (nxt D T r).length ≤ T + 1 := by
  unfold nxt
  rw [List.length_map, List.length_range]
  omega
theorem allR_len {ds : List Nat} {T : Nat} : ∀ k, (allR ds T k).length ≤ (T + 1) ^ k
  | 0 => Nat.le_refl _
  | k + 1 => by
    have h1 := flat_len (f := nxt ((ds.take (k + 1)).sum) T) (c := T + 1) (l := allR ds T k) fun x _ => nxt_len
    have h2 := allR_len (ds := ds) (T := T) k
    rw [Nat.pow_succ]
    exact Nat.le_trans h1 (Nat.mul_le_mul_right _ h2)
end Lot
namespace Z
/-! ### what is drawn -/
def IsBox (c : Int) (x : Val) : Prop := ∃ (g m n : Int) (b : Bool), x = .lst [.int g, .bl b, .int m, .int n] ∧ 0 ≤ m ∧ m < 2147483629 ∧ 0 ≤ n ∧ n ≤ c
theorem take_ok {c many : Int} {x : Val} (h : IsBox c x) (hc : c ≤ 1000000) (h1 : 1 ≤ many) (h2 : many ≤ 1000000) : ∃ (d : Int) (y : Val), 0 ≤ d ∧ d < many ∧ IsBox (c + 1) y ∧ m__law_take [.own x, .v (.int many)] = .ok (.v (.int d)) [.own true y, .v (.int many)] := by
  obtain ⟨g, m, n, b, rfl, m1, m2, n1, n2⟩ := h
  by_cases hb : b = true ∧ 0 < g
  · obtain ⟨rfl, hg⟩ := hb
    refine ⟨g % many, .lst [.int (g / many), .bl true, .int m, .int n], Int.emod_nonneg _ (by omega), Int.emod_lt_of_pos _ (by omega), ⟨_, _, _, _, rfl, m1, m2, n1, by omega⟩, ?_⟩
    have e1 : fMod (.int g) (.int many) = some (.v (.int (g % many))) := fMod_ok (by omega)
    have e2 : fDiv (.int g) (.int many) = some (.v (.int (g / many))) := fDiv_ok (by omega) (by omega)
    simp [m__law_take, b__law_take, atV, setAt, e1, e2, hg, -fMod_int, -fDiv_int]
  · have e0 : fMul (.int 15485863) (.int (n + 1)) = some (.v (.int (15485863 * (n + 1)))) := fMul_ok (by omega) (by omega) (by omega) (by omega)
    have e1 : fPow (.int (m + 15485863 * (n + 1) + 179424673)) (.int 5) = some (.v (.int ((m + 15485863 * (n + 1) + 179424673) ^ 5))) := fPow_ok (by omega) (by omega) (by omega) (by omega)
    generalize hz : (m + 15485863 * (n + 1) + 179424673) ^ 5 = z at e1
    have e2 : fMod (.int z) (.int 2147483647) = some (.v (.int (z % 2147483647))) := fMod_ok (by omega)
    have z1 := Int.emod_nonneg z (show (2147483647 : Int) ≠ 0 by omega)
    have z2 := Int.emod_lt_of_pos z (show (0 : Int) < 2147483647 by omega)
    generalize hy : z % 2147483647 = y at e2 z1 z2
    have e3 : fMul (.int y) (.int 48271) = some (.v (.int (y * 48271))) := fMul_ok (by omega) (by omega) (by omega) (by omega)
    have e4 : fMul (.int 104729) (.int (n + 1)) = some (.v (.int (104729 * (n + 1)))) := fMul_ok (by omega) (by omega) (by omega) (by omega)
    have e5 : fPow (.int (y * 48271 + 104729 * (n + 1))) (.int 3) = some (.v (.int ((y * 48271 + 104729 * (n + 1)) ^ 3))) := fPow_ok (by omega) (by omega) (by omega) (by omega)
    generalize hw : (y * 48271 + 104729 * (n + 1)) ^ 3 = w at e5
    have e6 : fMod (.int w) (.int 2147483587) = some (.v (.int (w % 2147483587))) := fMod_ok (by omega)
    have e7 : fDiv (.int (w % 2147483587)) (.int 64) = some (.v (.int (w % 2147483587 / 64))) := fDiv_ok (by omega) (by omega)
    have e8 : fMod (.int (w % 2147483587 / 64)) (.int many) = some (.v (.int (w % 2147483587 / 64 % many))) := fMod_ok (by omega)
    refine ⟨w % 2147483587 / 64 % many, .lst [.int g, .bl b, .int m, .int (n + 1)], Int.emod_nonneg _ (by omega), Int.emod_lt_of_pos _ (by omega), ⟨_, _, _, _, rfl, m1, m2, by omega, by omega⟩, ?_⟩
    have hb' : b = false ∨ (b = true ∧ ¬ 0 < g) := by cases b <;> simp_all
    rcases hb' with rfl | ⟨rfl, hg⟩
    · simp [m__law_take, b__law_take, atV, setAt, e0, e1, e2, e3, e4, e5, e6, e7, e8, -fMod_int, -fDiv_int, -fMul_int, -fPow_int]
    · simp [m__law_take, b__law_take, atV, setAt, hg, e0, e1, e2, e3, e4, e5, e6, e7, e8, -fMod_int, -fDiv_int, -fMul_int, -fPow_int]
end Z
namespace Z
open Lot
open PySem (PyData)
open PySem.W (alike alikeAll dataLt keyToks keyToksAll dataLt_tuple toks_all_cons)
open PyProof.Rows (lexLt lex_diff itemLt itemOrd)
/-! ### pairs of a number and a row -/
abbrev vi (n : Nat) : Val := .int (n : Int)
def pv (r : Row) : Val := .tup [vi r.1, .tup (r.2.map vi)]
def ltR (x y : Row) : Bool := vlt (pv x) (pv y)
theorem minV_pv : ∀ (xs : List Row) (x : Row), minV (pv x) (xs.map pv) = pv (pick ltR x xs)
  | [], _ => rfl
  | y :: ys, x => by
    show minV (if vlt (pv y) (pv x) then pv y else pv x) (ys.map pv) = pv (pick ltR (if ltR y x then y else x) ys)
    rw [← minV_pv ys, ← apply_ite pv]
    rfl
theorem alike_vi : ∀ as bs : List Nat, alikeAll (toDs (as.map vi)) (toDs (bs.map vi)) = true
  | [], _ => by rw [List.map_nil, toDs, alikeAll]
  | _ :: _, [] => by rw [List.map_nil, List.map_cons, toDs, toDs]; rw [alikeAll]
  | a :: as, b :: bs => by
    rw [List.map_cons, List.map_cons, toDs, toDs, alikeAll, alike_vi as bs, Bool.and_true]
    rfl
theorem alike_pv (x y : Row) : valike (pv x) (pv y) = true := by
  unfold valike pv
  simp only [toD, toDs, alike, alikeAll, alike_vi, Bool.and_true, Bool.true_and]
theorem vok_vi (n : Nat) : ∀ l : List Nat, (l.map vi).all (vok n) = true
  | [] => rfl
  | a :: l => by
    rw [List.map_cons, List.all_cons, vok_vi n l, Bool.and_true]
    cases n <;> rfl
theorem vok_pv (x : Row) : vok 60 (pv x) = true := by
  show (List.all [vi x.1, Val.tup (x.2.map vi)] (vok 59)) = true
  rw [List.all_cons, List.all_cons]
  show ((true) && ((x.2.map vi).all (vok 58) && true)) = true
  rw [vok_vi]
  rfl
theorem minX_pv (x : Row) (xs : List Row) : fMinX [.lst (pv x :: xs.map pv)] = some (.v (pv (pick ltR x xs))) := by
  have h0 : fMinL [.lst (pv x :: xs.map pv)] = none := rfl
  have ha : allAlike (pv x :: xs.map pv) = true := by
    refine allAlike_of (fun y hy => ?_) fun y hy z hz => ?_
    · rcases List.mem_cons.mp hy with rfl | hy
      · exact ⟨vok_pv x, rfl⟩
      · obtain ⟨r, _, rfl⟩ := List.mem_map.mp hy
        exact ⟨vok_pv r, rfl⟩
    · have e1 : ∃ r, y = pv r := by
        rcases List.mem_cons.mp hy with rfl | hy
        · exact ⟨_, rfl⟩
        · obtain ⟨r, _, rfl⟩ := List.mem_map.mp hy
          exact ⟨r, rfl⟩
      have e2 : ∃ r, z = pv r := by
        rcases List.mem_cons.mp hz with rfl | hz
        · exact ⟨_, rfl⟩
        · obtain ⟨r, _, rfl⟩ := List.mem_map.mp hz
          exact ⟨r, rfl⟩
      obtain ⟨r, rfl⟩ := e1
      obtain ⟨r', rfl⟩ := e2
      exact alike_pv r r'
  unfold fMinX fOr
  rw [h0]
  show (if allAlike (pv x :: xs.map pv) then _ else _) = _
  rw [if_pos ha, minV_pv]
theorem lt_fst {a b : Int} (h : a ≠ b) (r t : List PyData) : dataLt (.tuple (.int a :: r)) (.tuple (.int b :: t)) = decide (a < b) := by
  rw [dataLt_tuple, toks_all_cons, toks_all_cons]
  show lexLt itemOrd (Sum.inl 1 :: (Sum.inl a :: keyToksAll r)) (Sum.inl 1 :: (Sum.inl b :: keyToksAll t)) = _
  have e : lexLt itemOrd (Sum.inl 1 :: (Sum.inl a :: keyToksAll r)) (Sum.inl 1 :: (Sum.inl b :: keyToksAll t)) = lexLt itemOrd (Sum.inl a :: keyToksAll r) (Sum.inl b :: keyToksAll t) := by
    show (itemLt (Sum.inl 1) (Sum.inl 1) || (!itemLt (Sum.inl 1) (Sum.inl 1) && _)) = _
    have : itemLt (Sum.inl 1) (Sum.inl 1) = false := rfl
    rw [this]
    rfl
  rw [e, lex_diff (O := itemOrd) (fun z => h (Sum.inl.inj z))]
  rfl
theorem ltR_ne {x y : Row} (h : x.1 ≠ y.1) : ltR x y = decide (x.1 < y.1) := by
  unfold ltR vlt pv
  simp only [toD, toDs]
  rw [lt_fst (by omega)]
  exact decide_eq_decide.mpr (by omega)
theorem ltR_t (x y : Row) (h : ltR x y = true) : x.1 ≤ y.1 := by
  by_cases e : x.1 = y.1
  · omega
  · rw [ltR_ne e] at h
    have := of_decide_eq_true h
    omega
theorem ltR_f (x y : Row) (h : ltR x y = false) : y.1 ≤ x.1 := by
  by_cases e : x.1 = y.1
  · omega
  · rw [ltR_ne e] at h
    have := of_decide_eq_false h
    omega
end Z
namespace Z
theorem IsBox.mono {c c' : Int} {x : Val} (h : IsBox c x) (e : c ≤ c') : IsBox c' x := by
  obtain ⟨g, m, n, b, h1, h2, h3, h4, h5⟩ := h
  exact ⟨g, m, n, b, h1, h2, h3, h4, by omega⟩
theorem take_at {c many : Int} {x : Val} (h : IsBox c x) (hc : c ≤ 1000000) (h1 : 1 ≤ many) (h2 : many ≤ 1000000) : ∃ (d : Nat) (y : Val), (d : Int) < many ∧ IsBox (c + 1) y ∧ ∀ rest : Env, callR m__law_take [.bor 0, .v (.int many)] (.own true x :: rest) = .ok (.v (vi d)) (.own true y :: rest) := by
  obtain ⟨d, y, d0, d1, hy, e⟩ := take_ok h hc h1 h2
  refine ⟨d.toNat, y, by omega, hy, fun rest => ?_⟩
  have hd : (d.toNat : Int) = d := by omega
  rw [callR_b1 (p := true) (x := x) (as := [.v (.int many)]) rfl rfl, e]
  simp [hd]
theorem mul_sm {a b : Int} (ha : a.natAbs ≤ 1000000000000) (hb : b.natAbs ≤ 1000000000000) : fMul (.int a) (.int b) = some (.v (.int (a * b))) := fMul_ok (by omega) (by omega) (by omega) (by omega)
theorem absmul {a b : Int} {m n : Nat} (ha : a.natAbs ≤ m) (hb : b.natAbs ≤ n) : (a * b).natAbs ≤ m * n := by
  rw [Int.natAbs_mul]
  exact Nat.mul_le_mul ha hb
end Z
namespace Z
open Lot
/-! ### rows of naturals -/
theorem ints_vi : ∀ l : List Nat, ints? (l.map vi) = some (l.map fun n : Nat => (n : Int))
  | [] => rfl
  | a :: l => by
    rw [List.map_cons, ints?_cons, ints_vi l]
    rfl
theorem isum (l : List Nat) : (l.map fun n : Nat => (n : Int)).sum = ((l.sum : Nat) : Int) := by
  induction l with
  | nil => rfl
  | cons a l ih =>
    rw [List.map_cons, List.sum_cons, List.sum_cons, ih]
    omega
theorem atV_nat {α : Type} (xs : List α) (k : Nat) : Z.atV xs (k : Int) = xs[k]? := by
  unfold Z.atV
  rw [if_pos (by omega), Int.toNat_natCast]
theorem atV_vi {l : List Nat} {k : Nat} (h : k < l.length) : Z.atV (l.map vi) (k : Int) = some (vi (l.getD k 0)) := by
  rw [atV_nat, List.getElem?_map, List.getD_eq_getElem?_getD, List.getElem?_eq_getElem h]
  rfl
theorem sIx_n (n d k : Nat) : HT.sIx n d (some (k : Int)) = min k n := HT.sIx_nat ..
theorem cut_nn {α : Type} (xs : List α) {i j : Nat} (h1 : i ≤ j) (h2 : j ≤ xs.length) : cutG xs (some (i : Int)) (some (j : Int)) = (xs.drop i).take (j - i) := by
  unfold cutG
  rw [sIx_n, sIx_n, Nat.min_eq_left h2, Nat.min_eq_left (by omega)]
theorem cut_0n {α : Type} (xs : List α) {j : Nat} (h2 : j ≤ xs.length) : cutG xs none (some (j : Int)) = xs.take j := by
  unfold cutG
  rw [sIx_n, Nat.min_eq_left h2]
  show (xs.drop 0).take (j - 0) = _
  rfl
theorem cut_nz {α : Type} (xs : List α) {i : Nat} (h1 : i ≤ xs.length) : cutG xs (some (i : Int)) none = xs.drop i := by
  unfold cutG
  rw [sIx_n, Nat.min_eq_left h1]
  show (xs.drop i).take (xs.length - i) = _
  exact List.take_of_length_le (by rw [List.length_drop]; exact Nat.le_refl _)
theorem ks_range : ∀ (l : List Nat) (j : Nat), ks l j = ((List.range l.length).map fun k => (j + k) * l.getD k 0).sum
  | [], _ => rfl
  | a :: l, j => by
    rw [List.length_cons, List.range_succ_eq_map, List.map_cons, List.map_map, List.sum_cons]
    show j * a + ks l (j + 1) = (j + 0) * a + _
    rw [ks_range l (j + 1)]
    congr 1
    congr 1
    refine List.map_congr_left fun k hk => ?_
    show (j + 1 + k) * l.getD k 0 = (j + (k + 1)) * l.getD k 0
    rw [show j + 1 + k = j + (k + 1) by omega]
theorem ks_eq {ds : List Nat} {i m : Nat} (h : i + m ≤ ds.length) : ((List.range m).map fun k => k * ds.getD (i + k) 0).sum = ks ((ds.drop i).take m) 0 := by
  rw [ks_range]
  have hl : ((ds.drop i).take m).length = m := by rw [List.length_take, List.length_drop]; omega
  rw [hl]
  congr 1
  refine List.map_congr_left fun k hk => ?_
  have := List.mem_range.mp hk
  have e : ((ds.drop i).take m).getD k 0 = ds.getD (i + k) 0 := by
    rw [List.getD_eq_getElem?_getD, List.getD_eq_getElem?_getD, List.getElem?_take_of_lt (by omega), List.getElem?_drop]
  rw [e, Nat.zero_add]
theorem ks_le : ∀ (l : List Nat) (j : Nat), ks l j ≤ (j + l.length) * l.sum
  | [], _ => Nat.zero_le _
  | a :: l, j => by
    show j * a + ks l (j + 1) ≤ (j + (l.length + 1)) * (a + l.sum)
    have := ks_le l (j + 1)
    have e : j + 1 + l.length = j + (l.length + 1) := by omega
    rw [e] at this
    rw [Nat.mul_add]
    have : j * a ≤ (j + (l.length + 1)) * a := Nat.mul_le_mul_right _ (by omega)
    omega
theorem sum_le {n : Nat} : ∀ {l : List Nat}, (∀ d ∈ l, d ≤ n) → l.sum ≤ n * l.length
  | [], _ => Nat.zero_le _
  | a :: l, h => by
    rw [List.sum_cons, List.length_cons, Nat.mul_add]
    have := sum_le (l := l) fun d hd => h d (List.mem_cons_of_mem _ hd)
    have := h a List.mem_cons_self
    omega
def Bd (ds : List Nat) : Prop := ds.length ≤ 12 ∧ ∀ d ∈ ds, d ≤ 100
theorem Bd.sub {ds es : List Nat} (h : Bd ds) (e : List.Sublist es ds) : Bd es := ⟨Nat.le_trans e.length_le h.1, fun d hd => h.2 d (e.subset hd)⟩
theorem Bd.sum {ds : List Nat} (h : Bd ds) : ds.sum ≤ 1200 := by
  have := sum_le h.2
  have := h.1
  omega
theorem Bd.ks {ds : List Nat} (h : Bd ds) : ks ds 0 ≤ 14400 := by
  have h1 := ks_le ds 0
  have h2 := h.sum
  have := Nat.mul_le_mul (show 0 + ds.length ≤ 12 by have := h.1; omega) h2
  omega
def Dv (ds : List Nat) : Val := .tup (ds.map vi)
/-- what an int of a bool gives -/
theorem ib (b : Bool) : (if b = true then (1 : Int) else 0) = (((if b = true then 1 else 0 : Nat)) : Int) := by cases b <;> rfl
theorem cost_of_lot_ok {ds : List Nat} {S h i j : Nat} (hb : Bd ds) (hS : S ≤ 1000) (hh : h ≤ 20) (h1 : i ≤ j) (h2 : j ≤ ds.length) : (m_cost_of_lot [.v (Dv ds), .v (vi S), .v (vi h), .v (vi i), .v (vi j)]).out = .ok (.v (vi (cl S h ((ds.drop i).take (j - i))))) := by
  have l12 := hb.1
  have hsub : Bd ((ds.drop i).take (j - i)) := hb.sub ((List.take_sublist _ _).trans (List.drop_sublist _ _))
  have k1 := hsub.ks
  have r1 : inR (i : Int) = true := inR_of (by omega) (by omega)
  have r2 : inR (j : Int) = true := inR_of (by omega) (by omega)
  have en : ((j : Int) - i).toNat = j - i := by omega
  have hc : compL [6] (tgN 6) tYes (eOp fMulX (eOp fSub (eV 6) (eV 3)) (eOp fIx (eV 0) (eV 6))) (rangeV i (j - i)) [.v (Dv ds), .v (vi S), .v (vi h), .v (vi i), .v (vi j), .emp, .emp] = .ok (((List.range (j - i)).map fun k => k * ds.getD (i + k) 0).map vi) [.v (Dv ds), .v (vi S), .v (vi h), .v (vi i), .v (vi j), .emp, .emp] := by
    rw [compL_all (e := [.v (Dv ds), .v (vi S), .v (vi h), .v (vi i), .v (vi j), .emp, .emp]) (fun y => match y with | .int p => vi ((p.toNat - i) * ds.getD p.toNat 0) | _ => .non) fun y hy => by
      obtain ⟨k, hk, rfl⟩ := mem_rangeV hy
      have e0 : (i : Int) + k = ((i + k : Nat) : Int) := by omega
      have a1 := atV_vi (l := ds) (k := i + k) (by omega)
      have d1 : ds.getD (i + k) 0 ≤ 100 := by
        rw [List.getD_eq_getElem?_getD, List.getElem?_eq_getElem (by omega)]
        exact hb.2 _ (List.getElem_mem _)
      have e1 : fMul (.int (((i + k : Nat) : Int) - i)) (vi (ds.getD (i + k) 0)) = some (.v (vi (k * ds.getD (i + k) 0))) := by
        rw [mul_sm (by omega) (by omega), show ((i + k : Nat) : Int) - i = (k : Int) by omega]
        simp
      have e2 : (((i + k : Nat) : Int).toNat - i) = k := by omega
      dsimp only
      rw [e0]
      refine ⟨[.v (Dv ds), .v (vi S), .v (vi h), .v (vi i), .v (vi j), .emp, .v (.int ((i + k : Nat) : Int))], by simp, by simp, ⟨.v (vi (k * ds.getD (i + k) 0)), ?_, ?_⟩, by simp, by simp⟩
      · generalize ds.getD (i + k) 0 = d at *
        generalize ((i + k : Nat) : Int) = z at *
        unfold Dv
        generalize k * d = kd at *
        simp only [vi] at *
        simp [a1, e1, -fMul_int]
      · simp only [Int.toNat_natCast, Nat.add_sub_cancel_left]
        rfl]
    congr 1
    unfold rangeV
    rw [List.map_map, List.map_map]
    refine List.map_congr_left fun k hk => ?_
    show vi ((((i : Int) + k).toNat - i) * ds.getD ((i : Int) + k).toNat 0) = vi (k * ds.getD (i + k) 0)
    have e0 : ((i : Int) + k).toNat = i + k := by omega
    rw [e0, Nat.add_sub_cancel_left]
  have hs := ks_eq (ds := ds) (i := i) (m := j - i) (by omega)
  have hl : ((List.range (j - i)).map fun k => k * ds.getD (i + k) 0).length = j - i := by simp
  have hsm := ints_vi ((List.range (j - i)).map fun k => k * ds.getD (i + k) 0)
  have hcut : cutG (ds.map vi) (some (i : Int)) (some (j : Int)) = ((ds.drop i).take (j - i)).map vi := by
    rw [cut_nn _ h1 (by simpa using h2), List.map_take, List.map_drop]
  have hsm2 := ints_vi ((ds.drop i).take (j - i))
  have is1 := isum ((List.range (j - i)).map fun k => k * ds.getD (i + k) 0)
  have is2 := isum ((ds.drop i).take (j - i))
  rw [hs] at is1
  unfold cl
  generalize (ds.drop i).take (j - i) = l at *
  generalize ((List.range (j - i)).map fun k => k * ds.getD (i + k) 0) = m at *
  have e1 : fMul (vi S) (.int (if 0 < l.sum then 1 else 0)) = some (.v (vi (S * (if 0 < l.sum then 1 else 0)))) := by
    split
    · rw [mul_sm (by omega) (by omega)]; simp
    · rw [mul_sm (by omega) (by omega)]; simp
  have e2 : fMul (vi h) (vi (ks l 0)) = some (.v (vi (h * ks l 0))) := by
    rw [mul_sm (by omega) (by omega)]; simp
  have z1 : ((0 : Int) < ((l.sum : Nat) : Int)) ↔ 0 < l.sum := by omega
  unfold Dv at *
  generalize S * (if 0 < l.sum then 1 else 0) = t1 at *
  generalize h * ks l 0 = t2 at *
  generalize ks l 0 = kk at *
  generalize hds : ds.map vi = dv at *
  have lm : j ≤ 16777216 + i := by omega
  simp only [vi] at hc hsm hsm2 hcut e1 e2 ⊢
  simp [m_cost_of_lot, b_cost_of_lot, rng2_int _ r1 r2, en, hc, hl, hsm, hcut, hsm2, is1, is2, e1, e2, lm, -fMul_int]
end Z
namespace Z
open Lot
/-- a place that holds nothing that is changed -/
def Cv (s : Slot) : Prop := s = .emp ∨ ∃ x, s = .v x
theorem Cv.ok {s : Slot} (h : Cv s) : pok s = true := by rcases h with rfl | ⟨x, rfl⟩ <;> rfl
theorem Cv.e : Cv .emp := .inl rfl
theorem Cv.v {x : Val} : Cv (.v x) := .inr ⟨x, rfl⟩
/-- a place that may be filled -/
def Fr (s : Slot) : Prop := s = .emp ∨ (∃ x, s = .v x) ∨ ∃ x, s = .own false x
theorem Fr.e : Fr .emp := .inl rfl
theorem Fr.v {x : Val} : Fr (.v x) := .inr (.inl ⟨x, rfl⟩)
theorem Fr.o {x : Val} : Fr (.own false x) := .inr (.inr ⟨x, rfl⟩)
theorem Fr.ok {s : Slot} (h : Fr s) : pok s = true := by rcases h with rfl | ⟨x, rfl⟩ | ⟨x, rfl⟩ <;> rfl
theorem Cv.fr {s : Slot} (h : Cv s) : Fr s := by rcases h with rfl | ⟨x, rfl⟩; exact .e; exact .v
abbrev rw' (S h : Nat) (l : List Nat) : Row := row ltR S h l
abbrev rws (S h : Nat) (l : List Nat) : List Row := rows ltR S h l
/-- the frame of best_plan -/
def fb (D : Val) (S h : Nat) (s3 s4 s5 s6 s7 s8 s9 : Slot) : Env := [.v D, .v (vi S), .v (vi h), s3, s4, s5, s6, s7, s8, s9]
theorem rep_vi (n : Nat) : (List.replicate n [vi 0]).flatten = (List.replicate n 0).map vi := by
  induction n with
  | zero => rfl
  | succ n ih =>
    rw [List.replicate_succ, List.flatten_cons, ih, List.replicate_succ, List.map_cons]
    rfl
theorem plan2 {ds : List Nat} {S h i m : Nat} {F : List Val} {G : List Val} {r : Row} {s4 s7 s8 : Slot} (hb : Bd ds) (hS : S ≤ 1000) (hh : h ≤ 20) (hj : i + m + 1 ≤ ds.length) (hF : F[i + m + 1]? = some (pv r)) (hr : r.2.length ≤ 12) (hG : G.length ≤ 100) (c4 : Cv s4) (c7 : Cv s7) (c8 : Cv s8) :
    ∃ s4' s7' s8', Cv s4' ∧ Cv s7' ∧ Cv s8' ∧ b_best_plan_2 (fb (Dv ds) S h (.v (vi (i + m + 1))) s4 (.v (vi i)) (.own false (.lst F)) s7 s8 (.own false (.lst G))) = .ok .nx (fb (Dv ds) S h (.v (vi (i + m + 1))) s4' (.v (vi i)) (.own false (.lst F)) s7' s8' (.own false (.lst (G ++ [pv (cl S h ((ds.drop i).take (m + 1)) + r.1, ((ds.drop i).take (m + 1)).sum :: (List.replicate m 0 ++ r.2))])))) := by
  have l12 := hb.1
  have ec := cost_of_lot_ok (i := i) (j := i + m + 1) hb hS hh (by omega) hj
  have em : i + m + 1 - i = m + 1 := by omega
  rw [em] at ec
  have hcut : cutG (ds.map vi) (some (i : Int)) (some ((i + m + 1 : Nat) : Int)) = ((ds.drop i).take (m + 1)).map vi := by
    rw [cut_nn _ (by omega) (by simpa using hj), em, List.map_take, List.map_drop]
  have hsm2 := ints_vi ((ds.drop i).take (m + 1))
  have is2 := isum ((ds.drop i).take (m + 1))
  have at1 : Z.atV F ((i + m + 1 : Nat) : Int) = some (pv r) := by rw [atV_nat, hF]
  have erep : ((((i + m + 1 : Nat) : Int) - i) - 1) = (m : Int) := by omega
  have hmt : fMulT (.tup [.int 0]) (.int (m : Int)) = some (.v (.tup ((List.replicate m 0).map vi))) := by
    show (if [Val.int 0] ≠ [] ∧ -1000 ≤ (m : Int) ∧ (m : Int) ≤ 1000 ∧ [Val.int 0].length ≤ 1000 then some (RV.v (.tup (List.replicate (m : Int).toNat [Val.int 0]).flatten)) else none) = _
    rw [if_pos ⟨by simp, by omega, by omega, by simp⟩, Int.toNat_natCast]
    have := rep_vi m
    simp only [vi] at this ⊢
    rw [← this]
    rfl
  have p4 := c4.ok
  have p7 := c7.ok
  have p8 := c8.ok
  have l1 : ((List.replicate m 0).map vi).length = m := by simp
  have l2 : (r.2.map vi).length = r.2.length := by simp
  have ecomm : (r.1 : Int) + ((cl S h ((ds.drop i).take (m + 1)) : Nat) : Int) = ((cl S h ((ds.drop i).take (m + 1)) + r.1 : Nat) : Int) := by omega
  have el : (((ds.drop i).take (m + 1)).sum :: (List.replicate m 0 ++ r.2)).map vi = vi ((ds.drop i).take (m + 1)).sum :: ((List.replicate m 0).map vi ++ r.2.map vi) := by
    rw [List.map_cons, List.map_append]
  unfold pv at at1 ⊢
  dsimp only
  rw [el]
  refine ⟨.v (vi r.1), .v (.tup (vi ((ds.drop i).take (m + 1)).sum :: (List.replicate m 0).map vi)), .v (.tup (r.2.map vi)), .v, .v, .v, ?_⟩
  unfold Dv at *
  simp only [fb, vi] at *
  generalize ((i + m + 1 : Nat) : Int) = j at *
  generalize hcl : cl S h ((ds.drop i).take (m + 1)) = cc at *
  generalize hco : ((cc + r.1 : Nat) : Int) = co at *
  generalize (ds.drop i).take (m + 1) = l at *
  generalize hRm : (List.replicate m 0).map (fun n : Nat => Val.int (n : Int)) = Rm at *
  generalize hRp : r.2.map (fun n : Nat => Val.int (n : Int)) = Rp at *
  generalize ds.map (fun n : Nat => Val.int (n : Int)) = dv at *
  have b1 : G.length < 16777216 := by omega
  have b2 : 1 + Rm.length ≤ 16777216 := by omega
  have b3 : Rm.length + 1 + Rp.length ≤ 16777216 := by omega
  simp [p4, p7, p8, at1, hcut, hsm2, is2, erep, hmt, ec, ecomm, b1, b2, b3]
theorem cand_eq {S h : Nat} {l : List Nat} {rs : List Row} {m : Nat} {r : Row} (e : rs.getD m (0, []) = r) : cand S h l rs m = (cl S h (l.take (m + 1)) + r.1, (l.take (m + 1)).sum :: (List.replicate m 0 ++ r.2)) := by
  unfold cand
  rw [e]
theorem row_len {S h : Nat} : ∀ (n : Nat) (l : List Nat), l.length ≤ n → (rw' S h l).2.length ≤ l.length := by
  intro n
  induction n with
  | zero =>
    intro l hl
    have : l = [] := List.eq_nil_of_length_eq_zero (by omega)
    subst this
    exact Nat.le_refl _
  | succ n ih =>
    intro l hl
    match l, hl with
    | [], _ => exact Nat.le_refl _
    | a :: l, hl =>
      have hl' : l.length ≤ n := by simpa using hl
      have hc : ∀ m, m ≤ l.length → (cand S h (a :: l) (rws S h l) m).2.length ≤ (a :: l).length := fun m hm => by
        rw [cand_eq (rows_getD hm)]
        have : (row ltR S h (l.drop m)).2.length ≤ (l.drop m).length := ih (l.drop m) (by rw [List.length_drop]; omega)
        rw [List.length_drop] at this
        simp only [List.length_cons, List.length_append, List.length_replicate]
        omega
      have := pick_mem (lt := ltR) ((List.range l.length).map fun m => cand S h (a :: l) (rws S h l) (m + 1)) (cand S h (a :: l) (rws S h l) 0)
      rcases List.mem_cons.mp this with e | e
      · show (pick ltR _ _).2.length ≤ _
        rw [e]
        exact hc 0 (Nat.zero_le _)
      · obtain ⟨m, m1, m2⟩ := List.mem_map.mp e
        show (pick ltR _ _).2.length ≤ _
        rw [← m2]
        exact hc (m + 1) (List.mem_range.mp m1)
/-- all candidates of a list -/
def cands (S h : Nat) (l : List Nat) (k : Nat) : List Val := (List.range k).map fun m => pv (cand S h l (rws S h l.tail) m)
theorem cands_succ {S h : Nat} {l : List Nat} {k : Nat} : cands S h l (k + 1) = cands S h l k ++ [pv (cand S h l (rws S h l.tail) k)] := by
  unfold cands
  rw [List.range_succ, List.map_append]
  rfl
theorem cands_min {S h : Nat} {l : List Nat} (hl : l ≠ []) : fMinX [.lst (cands S h l l.length)] = some (.v (pv (rw' S h l))) := by
  match l, hl with
  | a :: l, _ =>
    have e : cands S h (a :: l) (a :: l).length = pv (cand S h (a :: l) (rws S h l) 0) :: (((List.range l.length).map fun m => cand S h (a :: l) (rws S h l) (m + 1)).map pv) := by
      unfold cands
      rw [List.length_cons, List.range_succ_eq_map, List.map_cons, List.map_map, List.map_map]
      rfl
    rw [e, minX_pv]
    rfl
/-- found, when all from i on are done -/
def fnd (S h : Nat) (ds : List Nat) (i : Nat) : List Val := List.replicate i (pv (0, [])) ++ (rws S h (ds.drop i)).map pv
theorem fnd_get {S h : Nat} {ds : List Nat} {i m : Nat} (hm : i + m ≤ ds.length) : (fnd S h ds i)[i + m]? = some (pv (rw' S h (ds.drop (i + m)))) := by
  unfold fnd
  rw [List.getElem?_append_right (by simp), List.length_replicate, Nat.add_sub_cancel_left, List.getElem?_map, rows_get _ _ (by rw [List.length_drop]; omega), List.drop_drop]
  rfl
theorem fnd_set {S h : Nat} {ds : List Nat} {i : Nat} (hi : i < ds.length) : (fnd S h ds (i + 1)).set i (pv (rw' S h (ds.drop i))) = fnd S h ds i := by
  have e : ds.drop i = ds[i] :: ds.drop (i + 1) := List.drop_eq_getElem_cons hi
  unfold fnd
  rw [List.replicate_succ', List.append_assoc, List.set_append_right _ _ (by simp), List.length_replicate, Nat.sub_self]
  congr 1
  rw [e]
  rfl
theorem fnd_len {S h : Nat} {ds : List Nat} {i : Nat} (hi : i ≤ ds.length) : (fnd S h ds i).length = ds.length + 1 := by
  unfold fnd
  rw [List.length_append, List.length_replicate, List.length_map, rows_len, List.length_drop]
  omega
theorem plan3 {ds : List Nat} {S h i : Nat} {s3 s4 s7 s8 s9 : Slot} (hb : Bd ds) (hS : S ≤ 1000) (hh : h ≤ 20) (hi : i < ds.length) (c3 : Cv s3) (c4 : Cv s4) (c7 : Cv s7) (c8 : Cv s8) (c9 : Fr s9) :
    ∃ s3' s4' s7' s8' s9', Cv s3' ∧ Cv s4' ∧ Cv s7' ∧ Cv s8' ∧ Fr s9' ∧ b_best_plan_3 (fb (Dv ds) S h s3 s4 (.v (vi i)) (.own false (.lst (fnd S h ds (i + 1)))) s7 s8 s9) = .ok .nx (fb (Dv ds) S h s3' s4' (.v (vi i)) (.own false (.lst (fnd S h ds i))) s7' s8' s9') := by
  have l12 := hb.1
  have key : ∃ e', forL (tgN 3) b_best_plan_2 (rangeV ((i + 1 : Nat) : Int) (ds.length - i)) (fb (Dv ds) S h s3 s4 (.v (vi i)) (.own false (.lst (fnd S h ds (i + 1)))) s7 s8 (.own false (.lst []))) = .ok .nx e' ∧
      ∃ s3' s4' s7' s8', Cv s3' ∧ Cv s4' ∧ Cv s7' ∧ Cv s8' ∧ e' = fb (Dv ds) S h s3' s4' (.v (vi i)) (.own false (.lst (fnd S h ds (i + 1)))) s7' s8' (.own false (.lst (cands S h (ds.drop i) (ds.length - i)))) := by
    refine range_run (fun k e => ∃ s3' s4' s7' s8', Cv s3' ∧ Cv s4' ∧ Cv s7' ∧ Cv s8' ∧ e = fb (Dv ds) S h s3' s4' (.v (vi i)) (.own false (.lst (fnd S h ds (i + 1)))) s7' s8' (.own false (.lst (cands S h (ds.drop i) k)))) ⟨_, _, _, _, c3, c4, c7, c8, rfl⟩ fun k e hk ⟨t3, t4, t7, t8, d3, d4, d7, d8, he⟩ => ?_
    subst he
    have ek : ((i + 1 : Nat) : Int) + k = ((i + k + 1 : Nat) : Int) := by omega
    have hg := fnd_get (S := S) (h := h) (ds := ds) (i := i + 1) (m := k) (by omega)
    rw [show i + 1 + k = i + k + 1 by omega] at hg
    have hr := row_len (S := S) (h := h) _ (ds.drop (i + k + 1)) (Nat.le_refl _)
    obtain ⟨u4, u7, u8, f4, f7, f8, e2⟩ := plan2 (m := k) (G := cands S h (ds.drop i) k) hb hS hh (by omega) hg (by rw [List.length_drop] at hr; omega) (by simp [cands]; omega) d4 d7 d8
    have ec : pv (cl S h ((ds.drop i).take (k + 1)) + (rw' S h (ds.drop (i + k + 1))).1, ((ds.drop i).take (k + 1)).sum :: (List.replicate k 0 ++ (rw' S h (ds.drop (i + k + 1))).2)) = pv (cand S h (ds.drop i) (rws S h (ds.drop i).tail) k) := by
      rw [cand_eq (r := rw' S h (ds.drop (i + k + 1)))]
      rw [List.tail_drop, rows_getD (by rw [List.length_drop]; omega), List.drop_drop, show i + 1 + k = i + k + 1 by omega]
    rw [ec, ← cands_succ] at e2
    refine ⟨fb (Dv ds) S h (.v (vi (i + k + 1))) t4 (.v (vi i)) (.own false (.lst (fnd S h ds (i + 1)))) t7 t8 (.own false (.lst (cands S h (ds.drop i) k))), _, ?_, .inl e2, _, _, _, _, .v, f4, f7, f8, rfl⟩
    have p3 := d3.ok
    rw [ek]
    simp [fb, p3]
  obtain ⟨e', h5, s3', s4', s7', s8', d3, d4, d7, d8, he⟩ := key
  subst he
  have hne : ds.drop i ≠ [] := by
    intro z
    have := congrArg List.length z
    rw [List.length_drop] at this
    simp at this
    omega
  have hm := cands_min (S := S) (h := h) hne
  rw [List.length_drop] at hm
  have hset : setAt (fnd S h ds (i + 1)) (i : Int) (pv (rw' S h (ds.drop i))) = some (fnd S h ds i) := by
    unfold setAt
    rw [if_pos (by omega), fnd_len (by omega), if_pos (by omega), Int.toNat_natCast, fnd_set hi]
  have r1 : inR ((i + 1 : Nat) : Int) = true := inR_of (by omega) (by omega)
  have r2 : inR ((ds.length + 1 : Nat) : Int) = true := inR_of (by omega) (by omega)
  have en : (((ds.length + 1 : Nat) : Int) - ((i + 1 : Nat) : Int)).toNat = ds.length - i := by omega
  have e1 : (i : Int) + 1 = ((i + 1 : Nat) : Int) := by omega
  have e2 : (ds.length : Int) + 1 = ((ds.length + 1 : Nat) : Int) := by omega
  have p9 := c9.ok
  refine ⟨s3', s4', s7', s8', .own false (.lst (cands S h (ds.drop i) (ds.length - i))), d3, d4, d7, d8, .o, ?_⟩
  have dl : (ds.map vi).length = ds.length := by simp
  unfold Dv at *
  generalize ds.map vi = dv at *
  generalize fnd S h ds (i + 1) = F1 at *
  generalize fnd S h ds i = F0 at *
  generalize cands S h (ds.drop i) (ds.length - i) = C at *
  generalize pv (rw' S h (ds.drop i)) = R at *
  have e3 : ((dv.length : Nat) : Int) + 1 = ((ds.length + 1 : Nat) : Int) := by omega
  generalize ((i + 1 : Nat) : Int) = z1 at *
  generalize ((ds.length + 1 : Nat) : Int) = z2 at *
  simp only [fb, vi] at *
  simp [p9, e1, e3, rng2_int _ r1 r2, en, h5, hm, hset]
end Z
namespace Z
open Lot
theorem z00 : pv (0, []) = .tup [.int 0, .tup []] := rfl
theorem best_plan_ok {ds : List Nat} {S h : Nat} (hb : Bd ds) (hS : S ≤ 1000) (hh : h ≤ 20) : (m_best_plan [.v (Dv ds), .v (vi S), .v (vi h)]).out = .ok (.v (pv (rw' S h ds))) := by
  have l12 := hb.1
  have key : ∃ e', forL (tgN 5) b_best_plan_3 (rangeD ((ds.length : Int) - 1) ds.length) (fb (Dv ds) S h .emp .emp .emp (.own false (.lst (fnd S h ds ds.length))) .emp .emp .emp) = .ok .nx e' ∧
      ∃ s3 s4 s5 s7 s8 s9, Cv s3 ∧ Cv s4 ∧ Cv s5 ∧ Cv s7 ∧ Cv s8 ∧ Fr s9 ∧ e' = fb (Dv ds) S h s3 s4 s5 (.own false (.lst (fnd S h ds (ds.length - ds.length)))) s7 s8 s9 := by
    refine down_run (fun k e => ∃ s3 s4 s5 s7 s8 s9, Cv s3 ∧ Cv s4 ∧ Cv s5 ∧ Cv s7 ∧ Cv s8 ∧ Fr s9 ∧ e = fb (Dv ds) S h s3 s4 s5 (.own false (.lst (fnd S h ds (ds.length - k)))) s7 s8 s9) ⟨_, _, _, _, _, _, .e, .e, .e, .e, .e, .e, rfl⟩ fun k e hk ⟨t3, t4, t5, t7, t8, t9, d3, d4, d5, d7, d8, d9, he⟩ => ?_
    subst he
    have ei : ds.length - k = (ds.length - 1 - k) + 1 := by omega
    obtain ⟨u3, u4, u7, u8, u9, f3, f4, f7, f8, f9, e2⟩ := plan3 (i := ds.length - 1 - k) hb hS hh (by omega) d3 d4 d7 d8 d9
    have ek : (ds.length : Int) - 1 - k = ((ds.length - 1 - k : Nat) : Int) := by omega
    have ek2 : ds.length - (k + 1) = ds.length - 1 - k := by omega
    rw [ek2, ei, ek]
    refine ⟨_, _, ?_, .inl e2, _, _, _, _, _, _, f3, f4, .v, f7, f8, f9, rfl⟩
    have p5 := d5.ok
    simp [fb, p5]
  obtain ⟨e', h5, s3, s4, s5, s7, s8, s9, d3, d4, d5, d7, d8, d9, he⟩ := key
  subst he
  rw [Nat.sub_self] at h5
  have e0 : fnd S h ds ds.length = List.replicate (ds.length + 1) (pv (0, [])) := by
    unfold fnd
    rw [List.drop_length, List.replicate_succ']
    rfl
  have hrep : fMul (.lst [.tup [.int 0, .tup []]]) (.int ((ds.length + 1 : Nat) : Int)) = some (.own (.lst (List.replicate (ds.length + 1) (pv (0, []))))) := by
    rw [fMul_lst, if_pos ⟨by omega, by simp; omega⟩, Int.toNat_natCast]
    have : ∀ n, (List.replicate n [Val.tup [.int 0, .tup []]]).flatten = List.replicate n (pv (0, [])) := by
      intro n
      induction n with
      | zero => rfl
      | succ n ih => rw [List.replicate_succ, List.flatten_cons, ih, List.replicate_succ]; rfl
    rw [this]
  rw [← e0] at hrep
  have hz := fnd_get (S := S) (h := h) (ds := ds) (i := 0) (m := 0) (Nat.zero_le _)
  have ha : Z.atV (fnd S h ds 0) 0 = some (pv (rw' S h ds)) := by
    have := atV_nat (fnd S h ds 0) 0
    rw [show ((0 : Nat) : Int) = 0 from rfl] at this
    rw [this, hz]
    rfl
  have r1 : inR ((ds.length : Int) - 1) = true := inR_of (by omega) (by omega)
  have r2 : inR (-1) = true := inR_of (by omega) (by omega)
  have hr := rng3_int r1 r2
  have en : ((ds.length : Int) - 1 - -1).toNat = ds.length := by omega
  rw [en] at hr
  have dl : (ds.map vi).length = ds.length := by simp
  unfold Dv at *
  generalize ds.map vi = dv at *
  generalize fnd S h ds ds.length = F1 at *
  generalize fnd S h ds 0 = F0 at *
  generalize pv (rw' S h ds) = R at *
  have e3 : ((dv.length : Nat) : Int) + 1 = ((ds.length + 1 : Nat) : Int) := by omega
  have e4 : ((dv.length : Nat) : Int) - 1 = (ds.length : Int) - 1 := by omega
  generalize ((ds.length + 1 : Nat) : Int) = z1 at *
  generalize (ds.length : Int) - 1 = z2 at *
  simp only [fb, vi] at *
  simp [m_best_plan, b_best_plan, e3, e4, hrep, hr, h5, ha, -fMul_lst]
end Z
namespace Z
open Lot
def fl (D : Val) (S h : Nat) (s3 s4 s5 s6 s7 s8 s9 : Slot) : Env := [.v D, .v (vi S), .v (vi h), s3, s4, s5, s6, s7, s8, s9, .emp]
theorem lbest2 {ds : List Nat} {S h i m : Nat} {F : List Val} {G : List Val} {r : Row} {s3 s4 s6 : Slot} (hb : Bd ds) (hS : S ≤ 1000) (hh : h ≤ 20) (hj : i + m + 1 ≤ ds.length) (hF : F[m]? = some (pv r)) (hr : r.2.length ≤ 12) (hG : G.length ≤ 100) (c3 : Cv s3) (c4 : Cv s4) (c6 : Cv s6) :
    ∃ s3' s4' s6', Cv s3' ∧ Cv s4' ∧ Cv s6' ∧ b__law_best_2 (fl (Dv ds) S h s3 s4 (.v (vi i)) s6 (.v (vi (m + 1))) (.own false (.lst F)) (.own false (.lst G))) = .ok .nx (fl (Dv ds) S h s3' s4' (.v (vi i)) s6' (.v (vi (m + 1))) (.own false (.lst F)) (.own false (.lst (G ++ [pv (cl S h ((ds.drop i).take (m + 1)) + r.1, ((ds.drop i).take (m + 1)).sum :: (List.replicate m 0 ++ r.2))])))) := by
  have l12 := hb.1
  have hsub : Bd ((ds.drop i).take (m + 1)) := hb.sub ((List.take_sublist _ _).trans (List.drop_sublist _ _))
  have k1 := hsub.ks
  have hcut : cutG (ds.map vi) (some (i : Int)) (some ((i + (m + 1) : Nat) : Int)) = ((ds.drop i).take (m + 1)).map vi := by
    rw [cut_nn _ (by omega) (by simp; omega), Nat.add_sub_cancel_left, List.map_take, List.map_drop]
  have hsm2 := ints_vi ((ds.drop i).take (m + 1))
  have is2 := isum ((ds.drop i).take (m + 1))
  have at1 : Z.atV F ((m : Nat) : Int) = some (pv r) := by rw [atV_nat, hF]
  have hmt : fMulT (.tup [.int 0]) (.int (m : Int)) = some (.v (.tup ((List.replicate m 0).map vi))) := by
    show (if [Val.int 0] ≠ [] ∧ -1000 ≤ (m : Int) ∧ (m : Int) ≤ 1000 ∧ [Val.int 0].length ≤ 1000 then some (RV.v (.tup (List.replicate (m : Int).toNat [Val.int 0]).flatten)) else none) = _
    rw [if_pos ⟨by simp, by omega, by omega, by simp⟩, Int.toNat_natCast]
    have := rep_vi m
    simp only [vi] at this ⊢
    rw [← this]
    rfl
  have p3 := c3.ok
  have p4 := c4.ok
  have p6 := c6.ok
  have l1 : ((List.replicate m 0).map vi).length = m := by simp
  have l2 : (r.2.map vi).length = r.2.length := by simp
  have hc : ∀ x3 x4 x6 x7 x8 x9, compL [10] (tgN 10) tYes (eOp fMulX (eV 10) (eOp fIx (eV 0) (eOp fAdd (eV 5) (eV 10)))) (rangeV 0 (m + 1)) (fl (Dv ds) S h x3 x4 (.v (vi i)) x6 x7 x8 x9) = .ok (((List.range (m + 1)).map fun k => k * ds.getD (i + k) 0).map vi) (fl (Dv ds) S h x3 x4 (.v (vi i)) x6 x7 x8 x9) := by
    intro x3 x4 x6 x7 x8 x9
    rw [compL_all (e := fl (Dv ds) S h x3 x4 (.v (vi i)) x6 x7 x8 x9) (fun y => match y with | .int p => vi (p.toNat * ds.getD (i + p.toNat) 0) | _ => .non) fun y hy => by
      obtain ⟨k, hk, rfl⟩ := mem_rangeV hy
      have e0 : (0 : Int) + k = (k : Int) := by omega
      have a1 := atV_vi (l := ds) (k := i + k) (by omega)
      have d1 : ds.getD (i + k) 0 ≤ 100 := by
        rw [List.getD_eq_getElem?_getD, List.getElem?_eq_getElem (by omega)]
        exact hb.2 _ (List.getElem_mem _)
      have e1 : fMul (.int (k : Int)) (vi (ds.getD (i + k) 0)) = some (.v (vi (k * ds.getD (i + k) 0))) := by
        rw [mul_sm (by omega) (by omega)]
        simp
      have e2 : (i : Int) + k = ((i + k : Nat) : Int) := by omega
      dsimp only
      rw [e0]
      refine ⟨[.v (Dv ds), .v (vi S), .v (vi h), x3, x4, .v (vi i), x6, x7, x8, x9, .v (.int (k : Int))], by simp [fl], by simp, ⟨.v (vi (k * ds.getD (i + k) 0)), ?_, ?_⟩, by simp, by simp [fl]⟩
      · generalize ds.getD (i + k) 0 = d at *
        generalize hz : ((i + k : Nat) : Int) = z at *
        unfold Dv
        generalize k * d = kd at *
        simp only [vi] at *
        simp [a1, e1, e2, -fMul_int]
      · simp only [Int.toNat_natCast]
        rfl]
    congr 1
    unfold rangeV
    rw [List.map_map, List.map_map]
    refine List.map_congr_left fun k hk => ?_
    show vi (((0 : Int) + k).toNat * ds.getD (i + ((0 : Int) + k).toNat) 0) = vi (k * ds.getD (i + k) 0)
    have e0 : ((0 : Int) + k).toNat = k := by omega
    rw [e0]
  have hs := ks_eq (ds := ds) (i := i) (m := m + 1) (by omega)
  have hsm := ints_vi ((List.range (m + 1)).map fun k => k * ds.getD (i + k) 0)
  have is1 := isum ((List.range (m + 1)).map fun k => k * ds.getD (i + k) 0)
  rw [hs] at is1
  have r1 : inR ((m + 1 : Nat) : Int) = true := inR_of (by omega) (by omega)
  have e1 : fMul (vi S) (.int (if 0 < ((ds.drop i).take (m + 1)).sum then 1 else 0)) = some (.v (vi (S * (if 0 < ((ds.drop i).take (m + 1)).sum then 1 else 0)))) := by
    split
    · rw [mul_sm (by omega) (by omega)]; simp
    · rw [mul_sm (by omega) (by omega)]; simp
  have e2 : fMul (vi h) (vi (ks ((ds.drop i).take (m + 1)) 0)) = some (.v (vi (h * ks ((ds.drop i).take (m + 1)) 0))) := by
    rw [mul_sm (by omega) (by omega)]; simp
  have z1 : ((0 : Int) < (((ds.drop i).take (m + 1)).sum : Nat)) ↔ 0 < ((ds.drop i).take (m + 1)).sum := by omega
  have ecl : ((cl S h ((ds.drop i).take (m + 1)) : Nat) : Int) = ((S * (if 0 < ((ds.drop i).take (m + 1)).sum then 1 else 0) : Nat) : Int) + ((h * ks ((ds.drop i).take (m + 1)) 0 : Nat) : Int) := by
    unfold cl
    omega
  have el : (((ds.drop i).take (m + 1)).sum :: (List.replicate m 0 ++ r.2)).map vi = vi ((ds.drop i).take (m + 1)).sum :: ((List.replicate m 0).map vi ++ r.2.map vi) := by
    rw [List.map_cons, List.map_append]
  have eco : vi (cl S h ((ds.drop i).take (m + 1)) + r.1) = .int (((cl S h ((ds.drop i).take (m + 1)) : Nat) : Int) + (r.1 : Int)) := by
    show Val.int _ = Val.int _
    congr 1
  have e5 : (i : Int) + ((m + 1 : Nat) : Int) = ((i + (m + 1) : Nat) : Int) := by omega
  have e6 : ((m + 1 : Nat) : Int) - 1 = (m : Int) := by omega
  have e7 : ((m + 1 : Nat) : Int).toNat = m + 1 := by omega
  unfold pv at at1 ⊢
  dsimp only
  rw [el, eco]
  refine ⟨.v (pv r), .v (vi (cl S h ((ds.drop i).take (m + 1)))), .v (vi ((ds.drop i).take (m + 1)).sum), .v, .v, .v, ?_⟩
  unfold Dv at *
  unfold pv
  simp only [fl, vi] at *
  generalize ((m + 1 : Nat) : Int) = mj at *
  generalize ((i + (m + 1) : Nat) : Int) = j at *
  generalize cl S h ((ds.drop i).take (m + 1)) = cc at *
  generalize hl : (ds.drop i).take (m + 1) = l at *
  generalize S * (if 0 < l.sum then 1 else 0) = t1 at *
  generalize h * ks l 0 = t2 at *
  generalize ks l 0 = kk at *
  generalize (List.replicate m 0).map (fun n : Nat => Val.int (n : Int)) = Rm at *
  generalize r.2.map (fun n : Nat => Val.int (n : Int)) = Rp at *
  generalize ds.map (fun n : Nat => Val.int (n : Int)) = dv at *
  generalize ((List.range (m + 1)).map fun k => k * ds.getD (i + k) 0) = mm at *
  have b1 : G.length < 16777216 := by omega
  have b2 : 1 + Rm.length ≤ 16777216 := by omega
  have b3 : Rm.length + 1 + Rp.length ≤ 16777216 := by omega
  have b4 : m + 1 ≤ 16777216 := by omega
  simp [p3, p4, p6, at1, hcut, hsm2, is2, hsm, is1, hmt, hc, e5, e6, e7, rng1_int _ r1, e1, e2, z1, ecl, b1, b2, b3, b4, -fMul_int]
theorem lbest3 {ds : List Nat} {S h i : Nat} {s3 s4 s6 s7 s9 : Slot} (hb : Bd ds) (hS : S ≤ 1000) (hh : h ≤ 20) (hi : i < ds.length) (c3 : Cv s3) (c4 : Cv s4) (c6 : Cv s6) (c7 : Cv s7) (c9 : Fr s9) :
    ∃ s3' s4' s6' s7' s9', Cv s3' ∧ Cv s4' ∧ Cv s6' ∧ Cv s7' ∧ Fr s9' ∧ b__law_best_3 (fl (Dv ds) S h s3 s4 (.v (vi i)) s6 s7 (.own false (.lst ((rws S h (ds.drop (i + 1))).map pv))) s9) = .ok .nx (fl (Dv ds) S h s3' s4' (.v (vi i)) s6' s7' (.own false (.lst ((rws S h (ds.drop i)).map pv))) s9') := by
  have l12 := hb.1
  have key : ∃ e', forL (tgN 7) b__law_best_2 (rangeV 1 (ds.length - i)) (fl (Dv ds) S h s3 s4 (.v (vi i)) s6 s7 (.own false (.lst ((rws S h (ds.drop (i + 1))).map pv))) (.own false (.lst []))) = .ok .nx e' ∧
      ∃ s3' s4' s6' s7', Cv s3' ∧ Cv s4' ∧ Cv s6' ∧ Cv s7' ∧ e' = fl (Dv ds) S h s3' s4' (.v (vi i)) s6' s7' (.own false (.lst ((rws S h (ds.drop (i + 1))).map pv))) (.own false (.lst (cands S h (ds.drop i) (ds.length - i)))) := by
    refine range_run (fun k e => ∃ s3' s4' s6' s7', Cv s3' ∧ Cv s4' ∧ Cv s6' ∧ Cv s7' ∧ e = fl (Dv ds) S h s3' s4' (.v (vi i)) s6' s7' (.own false (.lst ((rws S h (ds.drop (i + 1))).map pv))) (.own false (.lst (cands S h (ds.drop i) k)))) ⟨_, _, _, _, c3, c4, c6, c7, rfl⟩ fun k e hk ⟨t3, t4, t6, t7, d3, d4, d6, d7, he⟩ => ?_
    subst he
    have ek : (1 : Int) + k = ((k + 1 : Nat) : Int) := by omega
    have hg : ((rws S h (ds.drop (i + 1))).map pv)[k]? = some (pv (rw' S h (ds.drop (i + k + 1)))) := by
      rw [List.getElem?_map, rows_get _ _ (by rw [List.length_drop]; omega), List.drop_drop, show i + 1 + k = i + k + 1 by omega]
      rfl
    have hr := row_len (S := S) (h := h) _ (ds.drop (i + k + 1)) (Nat.le_refl _)
    obtain ⟨u3, u4, u6, f3, f4, f6, e2⟩ := lbest2 (i := i) (m := k) (G := cands S h (ds.drop i) k) hb hS hh (by omega) hg (by rw [List.length_drop] at hr; omega) (by simp [cands]; omega) d3 d4 d6
    have ec : pv (cl S h ((ds.drop i).take (k + 1)) + (rw' S h (ds.drop (i + k + 1))).1, ((ds.drop i).take (k + 1)).sum :: (List.replicate k 0 ++ (rw' S h (ds.drop (i + k + 1))).2)) = pv (cand S h (ds.drop i) (rws S h (ds.drop i).tail) k) := by
      rw [cand_eq (r := rw' S h (ds.drop (i + k + 1)))]
      rw [List.tail_drop, rows_getD (by rw [List.length_drop]; omega), List.drop_drop, show i + 1 + k = i + k + 1 by omega]
    rw [ec, ← cands_succ] at e2
    refine ⟨fl (Dv ds) S h t3 t4 (.v (vi i)) t6 (.v (vi (k + 1))) (.own false (.lst ((rws S h (ds.drop (i + 1))).map pv))) (.own false (.lst (cands S h (ds.drop i) k))), _, ?_, .inl e2, _, _, _, _, f3, f4, f6, .v, rfl⟩
    have p7 := d7.ok
    rw [ek]
    simp [fl, p7]
  obtain ⟨e', h5, s3', s4', s6', s7', d3, d4, d6, d7, he⟩ := key
  subst he
  have hne : ds.drop i ≠ [] := by
    intro z
    have := congrArg List.length z
    rw [List.length_drop] at this
    simp at this
    omega
  have hm := cands_min (S := S) (h := h) hne
  rw [List.length_drop] at hm
  have ecs : (rws S h (ds.drop i)).map pv = pv (rw' S h (ds.drop i)) :: (rws S h (ds.drop (i + 1))).map pv := by
    rw [List.drop_eq_getElem_cons hi]
    rfl
  have hln : ((rws S h (ds.drop (i + 1))).map pv).length ≤ 100 := by
    rw [List.length_map, rows_len, List.length_drop]
    omega
  rw [ecs]
  have r1 : inR 1 = true := inR_of (by omega) (by omega)
  have r2 : inR ((ds.length : Int) - i + 1) = true := inR_of (by omega) (by omega)
  have en : ((ds.length : Int) - i + 1 - 1).toNat = ds.length - i := by omega
  have p9 := c9.ok
  refine ⟨s3', s4', s6', s7', .own false (.lst (cands S h (ds.drop i) (ds.length - i))), d3, d4, d6, d7, .o, ?_⟩
  have dl : (ds.map vi).length = ds.length := by simp
  unfold Dv at *
  generalize ds.map vi = dv at *
  generalize (rws S h (ds.drop (i + 1))).map pv = F1 at *
  generalize cands S h (ds.drop i) (ds.length - i) = C at *
  generalize pv (rw' S h (ds.drop i)) = R at *
  have e3 : ((dv.length : Nat) : Int) - i + 1 = (ds.length : Int) - i + 1 := by omega
  have b1 : 1 + F1.length ≤ 16777216 := by omega
  generalize (ds.length : Int) - i + 1 = z2 at *
  simp only [fl, vi] at *
  simp [p9, e3, rng2_int _ r1 r2, en, h5, hm, b1]
theorem law_best_ok {ds : List Nat} {S h : Nat} (hb : Bd ds) (hS : S ≤ 1000) (hh : h ≤ 20) : (m__law_best [.v (Dv ds), .v (vi S), .v (vi h)]).out = .ok (.v (pv (rw' S h ds))) := by
  have l12 := hb.1
  have key : ∃ e', forL (tgN 5) b__law_best_3 (rangeD ((ds.length : Int) - 1) ds.length) (fl (Dv ds) S h .emp .emp .emp .emp .emp (.own false (.lst [.tup [.int 0, .tup []]])) .emp) = .ok .nx e' ∧
      ∃ s3 s4 s5 s6 s7 s9, Cv s3 ∧ Cv s4 ∧ Cv s5 ∧ Cv s6 ∧ Cv s7 ∧ Fr s9 ∧ e' = fl (Dv ds) S h s3 s4 s5 s6 s7 (.own false (.lst ((rws S h (ds.drop (ds.length - ds.length))).map pv))) s9 := by
    have e0 : [Val.tup [.int 0, .tup []]] = (rws S h (ds.drop (ds.length - 0))).map pv := by
      rw [Nat.sub_zero, List.drop_length]
      rfl
    rw [e0]
    refine down_run (fun k e => ∃ s3 s4 s5 s6 s7 s9, Cv s3 ∧ Cv s4 ∧ Cv s5 ∧ Cv s6 ∧ Cv s7 ∧ Fr s9 ∧ e = fl (Dv ds) S h s3 s4 s5 s6 s7 (.own false (.lst ((rws S h (ds.drop (ds.length - k))).map pv))) s9) ⟨_, _, _, _, _, _, .e, .e, .e, .e, .e, .e, rfl⟩ fun k e hk ⟨t3, t4, t5, t6, t7, t9, d3, d4, d5, d6, d7, d9, he⟩ => ?_
    subst he
    have ei : ds.length - k = (ds.length - 1 - k) + 1 := by omega
    obtain ⟨u3, u4, u6, u7, u9, f3, f4, f6, f7, f9, e2⟩ := lbest3 (i := ds.length - 1 - k) hb hS hh (by omega) d3 d4 d6 d7 d9
    have ek : (ds.length : Int) - 1 - k = ((ds.length - 1 - k : Nat) : Int) := by omega
    have ek2 : ds.length - (k + 1) = ds.length - 1 - k := by omega
    rw [ek2, ei, ek]
    refine ⟨_, _, ?_, .inl e2, _, _, _, _, _, _, f3, f4, .v, f6, f7, f9, rfl⟩
    have p5 := d5.ok
    simp [fl, p5]
  obtain ⟨e', h5, s3, s4, s5, s6, s7, s9, d3, d4, d5, d6, d7, d9, he⟩ := key
  subst he
  rw [Nat.sub_self, List.drop_zero] at h5
  have ha : Z.atV ((rws S h ds).map pv) 0 = some (pv (rw' S h ds)) := by
    have := atV_nat ((rws S h ds).map pv) 0
    rw [show ((0 : Nat) : Int) = 0 from rfl] at this
    rw [this, List.getElem?_map, rows_get _ _ (Nat.zero_le _)]
    rfl
  have r1 : inR ((ds.length : Int) - 1) = true := inR_of (by omega) (by omega)
  have r2 : inR (-1) = true := inR_of (by omega) (by omega)
  have hr := rng3_int r1 r2
  have en : ((ds.length : Int) - 1 - -1).toNat = ds.length := by omega
  rw [en] at hr
  have dl : (ds.map vi).length = ds.length := by simp
  unfold Dv at *
  generalize ds.map vi = dv at *
  generalize (rws S h ds).map pv = F0 at *
  generalize pv (rw' S h ds) = R at *
  have e4 : ((dv.length : Nat) : Int) - 1 = (ds.length : Int) - 1 := by omega
  generalize (ds.length : Int) - 1 = z2 at *
  simp only [fl, vi] at *
  simp [m__law_best, b__law_best, e4, hr, h5, ha]
end Z
namespace Z
open Lot
open PySem (Str)
/-! ### checks -/
def isI (x : Val) (lo hi : Int) : Bool := match x with
  | .int n => decide (lo ≤ n) && decide (n ≤ hi)
  | _ => false
/-- what is drawn as a value -/
def plainV : Val → Bool
  | .non => true
  | .bl _ => true
  | .int _ => true
  | .str _ => true
  | .tup _ => true
  | .lst _ => true
  | _ => false
theorem between_ok {x : Val} {lo hi : Int} (h : plainV x = true) : (m_is_between [.v x, .v (.int lo), .v (.int hi)]).out = .ok (.v (.bl (isI x lo hi))) := by
  cases x with
  | int n =>
    have e : (m_is_integer [.v (.int n)]).out = .ok (.v (.bl true)) := by simp [m_is_integer, b_is_integer]
    by_cases c : lo ≤ n <;> simp [m_is_between, b_is_between, e, isI, c]
  | non =>
    have e : (m_is_integer [.v .non]).out = .ok (.v (.bl false)) := by simp [m_is_integer, b_is_integer]
    simp [m_is_between, b_is_between, e, isI]
  | bl b =>
    have e : (m_is_integer [.v (.bl b)]).out = .ok (.v (.bl false)) := by simp [m_is_integer, b_is_integer]
    simp [m_is_between, b_is_between, e, isI]
  | str s =>
    have e : (m_is_integer [.v (.str s)]).out = .ok (.v (.bl false)) := by simp [m_is_integer, b_is_integer]
    simp [m_is_between, b_is_between, e, isI]
  | tup s =>
    have e : (m_is_integer [.v (.tup s)]).out = .ok (.v (.bl false)) := by simp [m_is_integer, b_is_integer]
    simp [m_is_between, b_is_between, e, isI]
  | lst s =>
    have e : (m_is_integer [.v (.lst s)]).out = .ok (.v (.bl false)) := by simp [m_is_integer, b_is_integer]
    simp [m_is_between, b_is_between, e, isI]
  | _ => cases h
theorem fAll_bls (bs : List Bool) : fAll [.lst (bs.map Val.bl)] = some (.v (.bl (bs.all id))) := by
  show (match bls? (bs.map Val.bl) with | some bs => some (RV.v (.bl (bs.all id))) | none => none) = _
  rw [bls?_map]
theorem row_ok {xs : List Val} {n : Nat} {lo hi : Int} (hp : ∀ x ∈ xs, plainV x = true) (hl : xs.length ≤ 1000) : (m_is_row [.v (.tup xs), .v (vi n), .v (.int lo), .v (.int hi)]).out = .ok (.v (.bl (decide (xs.length = n) && xs.all fun x => isI x lo hi))) := by
  have e1 : (m_is_tuple_of [.v (.tup xs), .v (vi n)]).out = .ok (.v (.bl (decide (xs.length = n)))) := by
    simp only [vi]
    simp [m_is_tuple_of, b_is_tuple_of]
    omega
  by_cases c : xs.length = n
  · rw [decide_eq_true c] at e1
    have hc : compL [4] (tgN 4) tYes (eCall m_is_between (asCons (eV 4) (asCons (eV 2) (asCons (eV 3) asNil)))) xs [.v (.tup xs), .v (vi n), .v (.int lo), .v (.int hi), .emp] = .ok ((xs.map fun x => isI x lo hi).map Val.bl) [.v (.tup xs), .v (vi n), .v (.int lo), .v (.int hi), .emp] := by
      rw [compL_all (e := [.v (.tup xs), .v (vi n), .v (.int lo), .v (.int hi), .emp]) (fun y => .bl (isI y lo hi)) fun y hy => by
        have eb := between_ok (lo := lo) (hi := hi) (hp y hy)
        refine ⟨[.v (.tup xs), .v (vi n), .v (.int lo), .v (.int hi), .v y], by simp, by simp, ⟨.v (.bl (isI y lo hi)), ?_, by simp⟩, by simp, by simp⟩
        simp [eb], List.map_map]
      rfl
    have ha := fAll_bls (xs.map fun x => isI x lo hi)
    have hid : (xs.map fun x => isI x lo hi).all id = xs.all fun x => isI x lo hi := by rw [List.all_map]; rfl
    rw [hid] at ha
    rw [decide_eq_true c, Bool.true_and]
    generalize (xs.map fun x => isI x lo hi).map Val.bl = L at *
    generalize (xs.all fun x => isI x lo hi) = r at *
    have b1 : xs.length ≤ 16777216 := by omega
    simp only [vi] at *
    simp [m_is_row, b_is_row, e1, hc, ha, b1]
  · rw [decide_eq_false c] at e1
    rw [decide_eq_false c, Bool.false_and]
    simp only [vi] at *
    simp [m_is_row, b_is_row, e1]
theorem isI_nat {n : Nat} {lo hi : Int} (h1 : lo ≤ n) (h2 : (n : Int) ≤ hi) : isI (vi n) lo hi = true := by
  simp [isI]; omega
theorem plain_vis (ds : List Nat) : ∀ x ∈ ds.map vi, plainV x = true := fun x hx => by
  obtain ⟨n, _, rfl⟩ := List.mem_map.mp hx
  rfl
theorem row_nat {ds : List Nat} {n m : Nat} (hl : ds.length ≤ 1000) (hn : ds.length = n) (hd : ∀ d ∈ ds, d ≤ m) : (m_is_row [.v (Dv ds), .v (vi n), .v (.int 0), .v (vi m)]).out = .ok (.v (.bl true)) := by
  have := row_ok (xs := ds.map vi) (n := n) (lo := 0) (hi := (m : Int)) (plain_vis ds) (by simpa using hl)
  rw [show decide ((ds.map vi).length = n) = true from decide_eq_true (by simpa using hn)] at this
  have e : (ds.map vi).all (fun x => isI x 0 (m : Int)) = true := by
    rw [List.all_eq_true]
    intro x hx
    obtain ⟨k, hk, rfl⟩ := List.mem_map.mp hx
    exact isI_nat (by omega) (by have := hd k hk; omega)
  rw [e] at this
  exact this
theorem check_ok {ds : List Nat} {S h : Nat} (hb : Bd ds) (h1 : 1 ≤ ds.length) (hS : S ≤ 1000) (hh : h ≤ 20) : (m_check_costs [.v (Dv ds), .v (vi S), .v (vi h)]).out = .ok (.v .non) := by
  have l12 := hb.1
  have e1 := row_nat (ds := ds) (n := ds.length) (m := 100) (by omega) rfl hb.2
  have e2 := between_ok (x := vi S) (lo := 0) (hi := 1000) rfl
  have e3 := between_ok (x := vi h) (lo := 0) (hi := 20) rfl
  rw [isI_nat (by omega) (by omega)] at e2 e3
  have dl : (ds.map vi).length = ds.length := by simp
  unfold Dv at *
  generalize ds.map vi = dv at *
  have a1 : (1 : Int) ≤ dv.length := by omega
  have a2 : (dv.length : Int) ≤ 12 := by omega
  have a3 : 1 ≤ dv.length := by omega
  rw [← dl] at e1
  have k100 : ((100 : Nat) : Int) = 100 := rfl
  simp only [vi, k100] at *
  simp [m_check_costs, b_check_costs, e1, e2, e3, a1, a2, a3]
/-- demands that are none -/
def BadD (x : Val) : Prop := ∀ a b : Val, (m_check_costs [.v x, .v a, .v b]).out = .ex "InvalidDemands" [("given", x)]
theorem bad_non : BadD .non := fun a b => by simp [m_check_costs, b_check_costs]
theorem bad_lst (xs : List Val) : BadD (.lst xs) := fun a b => by simp [m_check_costs, b_check_costs]
theorem bad_emp : BadD (.tup []) := fun a b => by simp [m_check_costs, b_check_costs]
theorem bad_row {xs : List Val} (hp : ∀ x ∈ xs, plainV x = true) (h1 : 1 ≤ xs.length) (h2 : xs.length ≤ 12) (hx : (xs.all fun x => isI x 0 100) = false) : BadD (.tup xs) := fun a b => by
  have e1 := row_ok (xs := xs) (n := xs.length) (lo := 0) (hi := 100) hp (by omega)
  rw [hx, Bool.and_false] at e1
  have a1 : (1 : Int) ≤ xs.length := by omega
  have a2 : (xs.length : Int) ≤ 12 := by omega
  simp only [vi] at *
  simp [m_check_costs, b_check_costs, e1, a1, a2, h1]
theorem bad_setup {ds : List Nat} {x y : Val} (hb : Bd ds) (h1 : 1 ≤ ds.length) (hp : plainV x = true) (hx : isI x 0 1000 = false) : (m_check_costs [.v (Dv ds), .v x, .v y]).out = .ex "InvalidNumber" [("given", x)] := by
  have l12 := hb.1
  have e1 := row_nat (ds := ds) (n := ds.length) (m := 100) (by omega) rfl hb.2
  have e2 := between_ok (x := x) (lo := 0) (hi := 1000) hp
  rw [hx] at e2
  have dl : (ds.map vi).length = ds.length := by simp
  unfold Dv at *
  generalize ds.map vi = dv at *
  have a1 : (1 : Int) ≤ dv.length := by omega
  have a2 : (dv.length : Int) ≤ 12 := by omega
  have a3 : 1 ≤ dv.length := by omega
  rw [← dl] at e1
  have k100 : ((100 : Nat) : Int) = 100 := rfl
  simp only [vi, k100] at *
  simp [m_check_costs, b_check_costs, e1, e2, a1, a2, a3]
theorem bad_hold {ds : List Nat} {S : Nat} {y : Val} (hb : Bd ds) (h1 : 1 ≤ ds.length) (hS : S ≤ 1000) (hp : plainV y = true) (hx : isI y 0 20 = false) : (m_check_costs [.v (Dv ds), .v (vi S), .v y]).out = .ex "InvalidNumber" [("given", y)] := by
  have l12 := hb.1
  have e1 := row_nat (ds := ds) (n := ds.length) (m := 100) (by omega) rfl hb.2
  have e2 := between_ok (x := vi S) (lo := 0) (hi := 1000) rfl
  rw [isI_nat (by omega) (by omega)] at e2
  have e3 := between_ok (x := y) (lo := 0) (hi := 20) hp
  rw [hx] at e3
  have dl : (ds.map vi).length = ds.length := by simp
  unfold Dv at *
  generalize ds.map vi = dv at *
  have a1 : (1 : Int) ≤ dv.length := by omega
  have a2 : (dv.length : Int) ≤ 12 := by omega
  have a3 : 1 ≤ dv.length := by omega
  rw [← dl] at e1
  have k100 : ((100 : Nat) : Int) = 100 := rfl
  simp only [vi, k100] at *
  simp [m_check_costs, b_check_costs, e1, e2, e3, a1, a2, a3]
end Z
namespace Z
open Lot
open PySem (Str)
def dn (ds : List Nat) (k : Nat) : Nat := ds.getD k 0
def Fm (ds : List Nat) (S h m : Nat) : Nat := bv ltR S h (seg (dn ds) 0 m)
theorem dn_at {ds : List Nat} {k : Nat} (h : k < ds.length) : dn ds k = ds[k] := by
  unfold dn
  rw [List.getD_eq_getElem?_getD, List.getElem?_eq_getElem h]
  rfl
theorem dn_le {ds : List Nat} {k : Nat} (hb : Bd ds) : dn ds k ≤ 100 := by
  by_cases h : k < ds.length
  · rw [dn_at h]
    exact hb.2 _ (List.getElem_mem h)
  · unfold dn
    rw [List.getD_eq_getElem?_getD, List.getElem?_eq_none (by omega)]
    exact Nat.zero_le _
theorem take_seg {ds : List Nat} : ∀ {k : Nat}, k ≤ ds.length → ds.take k = seg (dn ds) 0 k
  | 0, _ => rfl
  | k + 1, h => by
    rw [seg_succ (dn ds) (Nat.zero_le _), ← take_seg (by omega), dn_at (by omega), List.take_succ_eq_append_getElem (by omega)]
theorem fokD (ds : List Nat) (S h : Nat) : Fok (dn ds) S h (Fm ds S h) := fok ltR_t ltR_f
theorem row_F {ds : List Nat} {S h k : Nat} (e : k ≤ ds.length) : (rw' S h (ds.take k)).1 = Fm ds S h k := by
  rw [take_seg e]
  rfl
theorem row_all {ds : List Nat} {S h : Nat} : (rw' S h ds).1 = Fm ds S h ds.length := by
  have := row_F (S := S) (h := h) (Nat.le_refl ds.length)
  rw [List.take_length] at this
  exact this
theorem G_le {ds : List Nat} {S h k : Nat} : G (Fm ds S h) k ≤ S := by
  have := F_set (fokD ds S h) (m := k)
  unfold G
  split at this <;> omega
theorem best_lots_ok {ds : List Nat} {S h : Nat} (hb : Bd ds) (h1 : 1 ≤ ds.length) (hS : S ≤ 1000) (hh : h ≤ 20) : (m_best_lots [.v (Dv ds), .v (vi S), .v (vi h)]).out = .ok (.v (pv (rw' S h ds))) := by
  have ec := check_ok hb h1 hS hh
  have eb := best_plan_ok hb hS hh
  generalize pv (rw' S h ds) = R at *
  generalize Dv ds = D at *
  simp only [vi] at *
  simp [m_best_lots, b_best_lots, ec, eb]
end Z
namespace Z
open Lot
open PySem (Str)
open L2
theorem vok_ints (n : Nat) : ∀ xs : List Int, (xs.map Val.int).all (vok n) = true
  | [] => rfl
  | a :: l => by
    rw [List.map_cons, List.all_cons, vok_ints n l, Bool.and_true]
    cases n <;> rfl
theorem fEq_nil : fEq (.lst []) (.lst []) = some (.v (.bl true)) := rfl
theorem fNe_nil : fNe (.lst []) (.lst []) = some (.v (.bl false)) := rfl
theorem fEq_cons (a : Int) (xs : List Int) : fEq (.lst ((a :: xs).map Val.int)) (.lst []) = some (.v (.bl false)) := by
  unfold fEq
  have h : (vok 60 (.lst ((a :: xs).map Val.int)) && vok 60 (.lst [])) = true := by
    show ((((a :: xs).map Val.int).all (vok 59)) && true) = true
    rw [vok_ints]
    rfl
  rw [if_pos h]
  rfl
theorem fNe_cons (a : Int) (xs : List Int) : fNe (.lst ((a :: xs).map Val.int)) (.lst []) = some (.v (.bl true)) := by
  unfold fNe
  have h : (vok 60 (.lst ((a :: xs).map Val.int)) && vok 60 (.lst [])) = true := by
    show ((((a :: xs).map Val.int).all (vok 59)) && true) = true
    rw [vok_ints]
    rfl
  rw [if_pos h]
  rfl
end Z
namespace Z
open PySem (Str)
open L2
theorem isB_d (t : Bt) : isB .dic t = decide (t = .dic) := by cases t <;> rfl
theorem isi2_l (xs : List Val) : fIsi [.lst, .tup] (.lst xs) = some (.v (.bl true)) := by simp [fIsi, btOf]
theorem isi2_t (xs : List Val) : fIsi [.lst, .tup] (.tup xs) = some (.v (.bl true)) := by simp [fIsi, btOf]
/-! ### the same -/
def good : Nat → Val → Bool
  | _, .non => true
  | _, .bl _ => true
  | _, .int _ => true
  | _, .str s => decide (s.length ≤ 1000000) && s.cps.all (· < 0x110000)
  | n + 1, .lst xs => decide (xs.length ≤ 1000000) && xs.all (good n)
  | n + 1, .tup xs => decide (xs.length ≤ 1000000) && xs.all (good n)
  | _, _ => false
theorem sign_at {s : Str} {k : Nat} (h : k < s.length) : ∃ c, s.cps.toList[k]? = some c ∧ cutS s (some (k : Int)) (some ((k : Int) + 1)) = ⟨#[c]⟩ := by
  have hl : s.cps.toList.length = s.length := by simp [Str.length]
  have hk : k < s.cps.toList.length := by rw [hl]; exact h
  refine ⟨s.cps.toList[k], List.getElem?_eq_getElem hk, ?_⟩
  unfold cutS
  have e : ((k : Int) + 1) = ((k + 1 : Nat) : Int) := by omega
  rw [e, HT.sIx_nat, HT.sIx_nat, Nat.min_eq_left (by omega), Nat.min_eq_left (by omega), List.drop_eq_getElem_cons hk, show k + 1 - k = 1 by omega]
  rfl
theorem fNe_str {s : Str} (h : s.cps.all (· < 0x110000) = true) : fNe (.str s) (.str s) = some (.v (.bl false)) := by
  have e : (vok 60 (.str s) && vok 60 (.str s)) = true := by
    show (s.cps.all (· < 0x110000) && s.cps.all (· < 0x110000)) = true
    rw [h]; rfl
  unfold fNe
  rw [if_pos e]
  show some (RV.v (Val.bl (!(s == s)))) = _
  simp
theorem sign_ok {s : Str} {k : Nat} (h : k < s.length) (ha : s.cps.all (· < 0x110000) = true) : ∃ c, fSl (.str s) (some (k : Int)) (some ((k : Int) + 1)) = (if s.length ≤ sizeMax then some (.v (.str ⟨#[c]⟩)) else none) ∧ fIx (.str s) (.int k) = (if s.length ≤ sizeMax then some (.v (.str ⟨#[c]⟩)) else none) ∧ fNe (.str ⟨#[c]⟩) (.str ⟨#[c]⟩) = some (.v (.bl false)) := by
  obtain ⟨c, h1, h2⟩ := sign_at h
  refine ⟨c, by rw [fSl_str, h2], ?_, fNe_str ?_⟩
  · show (if s.length ≤ sizeMax then (Z.atV s.cps.toList k).map fun c => RV.v (Val.str ⟨#[c]⟩) else none) = _
    have : Z.atV s.cps.toList (k : Int) = some c := by
      unfold Z.atV
      rw [if_pos (by omega), Int.toNat_natCast, h1]
    rw [this]; rfl
  · have hm : c ∈ s.cps := by
      have := List.mem_of_getElem? h1
      simpa using this
    have := Array.all_eq_true'.mp ha c hm
    simpa using this
/-- the sources of a parameter's place -/
inductive PS (x : Val) : Slot → Prop
  | v : PS x (.v x)
  | own : PS x (.own true x)
theorem same_str {s : Str} {n : Nat} {a b : Slot} (ha : PS (.str s) a) (hb : PS (.str s) b) (g : good n (.str s) = true) (self : Fn) : fin 2 (b__law_same self [a, b, .emp, .emp]) = .ok (.v (.bl true)) [a, b] := by
  have g' : s.length ≤ 1000000 ∧ s.cps.all (· < 0x110000) = true := by
    cases n <;> simpa [good] using g
  have r1 : inR (s.length : Int) = true := inR_of (by omega) (by omega)
  have hz : s.length ≤ 16777216 := by omega
  have hc : ∀ (a b : Slot), PS (.str s) a → PS (.str s) b → compL [2] (tgN 2) (tE (eOp fNe (eSl fSl (eV 0) (some (eV 2)) (some (eOp fAdd (eV 2) (eC (.int 1))))) (eOp fIx (eV 1) (eV 2)))) (eV 2) (rangeV 0 s.length) [a, b, .emp, .emp] = .ok [] [a, b, .emp, .emp] := by
    intro a b ha hb
    refine compL_none fun x hx => ?_
    obtain ⟨i, hi, rfl⟩ := mem_rangeV hx
    obtain ⟨c, h1, h2, h3⟩ := sign_ok hi g'.2
    rw [if_pos (show s.length ≤ sizeMax from hz)] at h1 h2
    refine ⟨[a, b, .v (.int (0 + i)), .emp], by simp, ?_, by simp, by simp⟩
    cases ha <;> cases hb <;> simp [h1, h2, h3, -fSl_str]
  cases ha <;> cases hb <;> simp [b__law_same, isB_d, isi2_l, isi2_t, rng1_int _ r1, hz, hc _ _ .v .v, hc _ _ .v .own, hc _ _ .own .v, hc _ _ .own .own, fEq_nil]
theorem same_seq {xs : List Val} {X : Val} {a b : Slot} (hX : X = .lst xs ∨ X = .tup xs) (ha : PS X a) (hb : PS X b) (hl : xs.length ≤ 1000000) (self : Fn) (ih : ∀ x ∈ xs, (self [.v x, .v x]).out = .ok (.v (.bl true))) : fin 2 (b__law_same self [a, b, .emp, .emp]) = .ok (.v (.bl true)) [a, b] := by
  have r1 : inR (xs.length : Int) = true := inR_of (by omega) (by omega)
  have hz : xs.length ≤ 16777216 := by omega
  have hc : ∀ (a b : Slot), PS X a → PS X b → compL [2] (tgN 2) (tNot (tE (eCall self (asCons (eOp fIx (eV 0) (eV 2)) (asCons (eOp fIx (eV 1) (eV 2)) asNil))))) (eV 2) (rangeV 0 xs.length) [a, b, .emp, .emp] = .ok [] [a, b, .emp, .emp] := by
    intro a b ha hb
    refine compL_none fun x hx => ?_
    obtain ⟨i, hi, rfl⟩ := mem_rangeV hx
    have h1 : Z.atV xs (i : Int) = some xs[i] := by
      unfold Z.atV
      rw [if_pos (by omega), Int.toNat_natCast, List.getElem?_eq_getElem hi]
    have h2 := ih xs[i] (List.getElem_mem hi)
    refine ⟨[a, b, .v (.int (0 + i)), .emp], by simp, ?_, by simp, by simp⟩
    rcases hX with rfl | rfl <;> cases ha <;> cases hb <;> simp [h1, h2]
  rcases hX with rfl | rfl <;> cases ha <;> cases hb <;> simp [b__law_same, isB_d, isi2_l, isi2_t, rng1_int _ r1, hz, hc _ _ .v .v, hc _ _ .v .own, hc _ _ .own .v, hc _ _ .own .own, fEq_nil]
theorem same_slots : ∀ (n : Nat) (x : Val), good n x = true → ∀ a b : Slot, PS x a → PS x b → fin 2 (b__law_same (m__law_same n) [a, b, .emp, .emp]) = .ok (.v (.bl true)) [a, b] := by
  intro n
  induction n with
  | zero =>
    intro x g a b ha hb
    cases x with
    | non => cases ha <;> cases hb <;> simp [b__law_same]
    | bl k => cases ha <;> cases hb <;> cases k <;> simp [b__law_same]
    | int i => cases ha <;> cases hb <;> simp [b__law_same]
    | str s => exact same_str ha hb g _
    | lst xs => cases g
    | tup xs => cases g
    | dic _ => cases g
    | obj _ _ => cases g
    | scr _ => cases g
  | succ n ih =>
    intro x g a b ha hb
    have step : ∀ {xs : List Val}, (decide (xs.length ≤ 1000000) && xs.all (good n)) = true → xs.length ≤ 1000000 ∧ ∀ x ∈ xs, (m__law_same (n + 1) [.v x, .v x]).out = .ok (.v (.bl true)) := fun {xs} h => by
      rw [Bool.and_eq_true, decide_eq_true_eq, List.all_eq_true] at h
      refine ⟨h.1, fun x hx => ?_⟩
      have := ih x (h.2 x hx) _ _ .v .v
      show (mkF 2 4 (b__law_same (m__law_same n)) [.v x, .v x]).out = _
      have e : mkF 2 4 (b__law_same (m__law_same n)) [.v x, .v x] = fin 2 (b__law_same (m__law_same n) [.v x, .v x, .emp, .emp]) := rfl
      rw [e, this]
      rfl
    cases x with
    | non => cases ha <;> cases hb <;> simp [b__law_same]
    | bl k => cases ha <;> cases hb <;> cases k <;> simp [b__law_same]
    | int i => cases ha <;> cases hb <;> simp [b__law_same]
    | str s => exact same_str ha hb g _
    | lst xs => exact same_seq (.inl rfl) ha hb (step g).1 _ (step g).2
    | tup xs => exact same_seq (.inr rfl) ha hb (step g).1 _ (step g).2
    | dic _ => cases g
    | obj _ _ => cases g
    | scr _ => cases g
/-- a value and itself -/
theorem same_full {x : Val} (g : good 7 x = true) : m__law_same 8 [.own x, .own x] = .ok (.v (.bl true)) [.own true x, .own true x] := same_slots 7 x g _ _ .own .own
theorem same_vv {x : Val} (g : good 7 x = true) : (m__law_same 8 [.v x, .v x]).out = .ok (.v (.bl true)) := by
  have := same_slots 7 x g _ _ .v .v
  show (fin 2 (b__law_same (m__law_same 7) [.v x, .v x, .emp, .emp])).out = _
  rw [this]
  rfl
theorem same_oo {x : Val} (g : good 7 x = true) : (m__law_same 8 [.own x, .own x]).out = .ok (.v (.bl true)) := by
  rw [same_full g]
  rfl
end Z
namespace Z
open Lot
open PySem (Str)
theorem take_sum {ds : List Nat} : ∀ {k : Nat}, k ≤ ds.length → (ds.take k).sum = sm (dn ds) k
  | 0, _ => rfl
  | k + 1, h => by
    show _ = sm (dn ds) k + dn ds k
    rw [← take_sum (k := k) (by omega), dn_at (by omega), List.take_succ_eq_append_getElem (by omega), List.sum_append]
    simp
theorem all_sum {ds : List Nat} : ds.sum = sm (dn ds) ds.length := by
  rw [← take_sum (Nat.le_refl _), List.take_length]
theorem dn_app {xs : List Nat} {x k : Nat} (h : k < xs.length) : dn (xs ++ [x]) k = dn xs k := by
  unfold dn
  rw [List.getD_eq_getElem?_getD, List.getD_eq_getElem?_getD, List.getElem?_append_left h]
theorem dn_last {xs : List Nat} {x : Nat} : dn (xs ++ [x]) xs.length = x := by
  unfold dn
  rw [List.getD_eq_getElem?_getD, List.getElem?_append_right (Nat.le_refl _), Nat.sub_self]
  rfl
theorem sm_app {xs : List Nat} {x t : Nat} (h : t ≤ xs.length) : sm (dn (xs ++ [x])) t = sm (dn xs) t := sm_eq fun k hk => dn_app (by omega)
theorem sm_last {xs : List Nat} {x : Nat} : sm (dn (xs ++ [x])) (xs.length + 1) = sm (dn xs) xs.length + x := by
  show sm (dn (xs ++ [x])) xs.length + dn (xs ++ [x]) xs.length = _
  rw [sm_app (Nat.le_refl _), dn_last]
/-! ### drawn plans -/
def fd (x : Val) (D : Val) (s2 s3 s4 s5 s6 s7 : Slot) : Env := [.own true x, .v D, s2, s3, s4, s5, s6, s7]
structure Pl (ds xs : List Nat) : Prop where
  ge : ∀ t, t < xs.length → sm (dn ds) (t + 1) ≤ sm (dn xs) (t + 1)
  le : sm (dn xs) xs.length ≤ sm (dn ds) ds.length
theorem sm_mono' {f : Nat → Nat} {m n : Nat} (h : m ≤ n) : sm f m ≤ sm f n := sm_mono h
theorem Pl.at {ds xs : List Nat} (p : Pl ds xs) : sm (dn ds) xs.length ≤ sm (dn xs) xs.length := by
  by_cases z : xs.length = 0
  · rw [z]; exact Nat.le_refl _
  · have := p.ge (xs.length - 1) (by omega)
    rw [show xs.length - 1 + 1 = xs.length by omega] at this
    exact this
theorem at4n {a b c e : Nat} {k : Nat} (h : k < 4) : ∃ v : Nat, Z.atV [vi a, vi b, vi c, vi e] (k : Int) = some (vi v) := by
  rcases (by omega : k = 0 ∨ k = 1 ∨ k = 2 ∨ k = 3) with rfl | rfl | rfl | rfl
  · exact ⟨a, rfl⟩
  · exact ⟨b, rfl⟩
  · exact ⟨c, rfl⟩
  · exact ⟨e, rfl⟩
theorem drawn2 {c : Int} {x : Val} {ds xs : List Nat} {s6 s7 : Slot} (h : IsBox c x) (hc : c ≤ 100000) (hb : Bd ds) (p : Pl ds xs) (hk : xs.length < ds.length) (c6 : Cv s6) (c7 : Cv s7) :
    ∃ y m s6' s7', IsBox (c + 2) y ∧ Cv s6' ∧ Cv s7' ∧ Pl ds (xs ++ [m]) ∧ (xs.length + 1 = ds.length → sm (dn (xs ++ [m])) (xs.length + 1) = sm (dn ds) ds.length) ∧
      b__law_drawn_plan_2 (fd x (Dv ds) (.own false (.lst (xs.map vi))) (.v (vi xs.length)) (.v (vi (sm (dn xs) xs.length - sm (dn ds) xs.length))) (.v (vi (sm (dn ds) ds.length - sm (dn xs) xs.length))) s6 s7) =
        .ok .nx (fd y (Dv ds) (.own false (.lst ((xs ++ [m]).map vi))) (.v (vi xs.length)) (.v (vi (sm (dn (xs ++ [m])) (xs.length + 1) - sm (dn ds) (xs.length + 1)))) (.v (vi (sm (dn ds) ds.length - sm (dn (xs ++ [m])) (xs.length + 1)))) s6' s7') := by
  have l12 := hb.1
  have pa := p.at
  have pl := p.le
  have dsum : sm (dn ds) (xs.length + 1) = sm (dn ds) xs.length + dn ds xs.length := rfl
  have dle : sm (dn ds) (xs.length + 1) ≤ sm (dn ds) ds.length := sm_mono (by omega)
  have at1 := atV_vi (l := ds) hk
  have hdn : ds.getD xs.length 0 = dn ds xs.length := rfl
  rw [hdn] at at1
  have hsum := hb.sum
  rw [all_sum] at hsum
  have pl' : ∀ m, m ≤ sm (dn ds) ds.length - sm (dn xs) xs.length → sm (dn ds) (xs.length + 1) ≤ sm (dn xs) xs.length + m → Pl ds (xs ++ [m]) := fun m h1 h2 => by
    refine ⟨fun t ht => ?_, ?_⟩
    · rw [List.length_append, List.length_singleton] at ht
      by_cases z : t = xs.length
      · subst z
        rw [sm_last]
        exact h2
      · rw [sm_app (by omega)]
        exact p.ge t (by omega)
    · rw [List.length_append, List.length_singleton, sm_last]
      omega
  have lm : (xs.map vi).length = xs.length := by simp
  have dl : (ds.map vi).length = ds.length := by simp
  have p6 := c6.ok
  have p7 := c7.ok
  have eneed : (if sm (dn xs) xs.length - sm (dn ds) xs.length < dn ds xs.length then (dn ds xs.length : Int) - ((sm (dn xs) xs.length - sm (dn ds) xs.length : Nat) : Int) else 0) = ((sm (dn ds) (xs.length + 1) - sm (dn xs) xs.length : Nat) : Int) := by
    split <;> omega
  have emap : ∀ m, (xs ++ [m]).map vi = xs.map vi ++ [vi m] := fun m => by simp
  by_cases last : xs.length + 1 = ds.length
  · refine ⟨x, sm (dn ds) ds.length - sm (dn xs) xs.length, .v (vi (sm (dn ds) ds.length - sm (dn xs) xs.length)), .v (vi (sm (dn ds) (xs.length + 1) - sm (dn xs) xs.length)), h.mono (by omega), .v, .v, pl' _ (Nat.le_refl _) (by omega), fun _ => by rw [sm_last]; omega, ?_⟩
    rw [sm_last, emap]
    have e1 : (sm (dn ds) ds.length - sm (dn xs) xs.length : Nat) - (sm (dn ds) ds.length - sm (dn xs) xs.length : Nat) = sm (dn ds) ds.length - (sm (dn xs) xs.length + (sm (dn ds) ds.length - sm (dn xs) xs.length)) := by omega
    have e2 : ((sm (dn xs) xs.length - sm (dn ds) xs.length : Nat) : Int) + ((sm (dn ds) ds.length - sm (dn xs) xs.length : Nat) : Int) - (dn ds xs.length : Int) = ((sm (dn xs) xs.length + (sm (dn ds) ds.length - sm (dn xs) xs.length) - sm (dn ds) (xs.length + 1) : Nat) : Int) := by omega
    rw [← e1, Nat.sub_self]
    have nl : ¬ ((xs.length : Int) + 1 < (ds.length : Int)) := by omega
    clear pl' e1
    unfold Dv at *
    generalize sm (dn xs) xs.length + (sm (dn ds) ds.length - sm (dn xs) xs.length) - sm (dn ds) (xs.length + 1) = t1 at *
    generalize sm (dn ds) ds.length - sm (dn xs) xs.length = t2 at *
    generalize sm (dn ds) (xs.length + 1) - sm (dn xs) xs.length = t3 at *
    generalize sm (dn xs) xs.length - sm (dn ds) xs.length = t4 at *
    generalize dn ds xs.length = d at *
    generalize xs.map vi = xv at *
    generalize ds.map vi = dv at *
    have b1 : xv.length < 16777216 := by omega
    have nl' : ¬ ((xs.length : Int) + 1 < (dv.length : Int)) := by omega
    have c0 : ((0 : Nat) : Int) = 0 := rfl
    simp only [fd, vi, c0, gt_iff_lt] at *
    simp [at1, eneed, p6, p7, nl', b1, e2]
  · obtain ⟨k5, y5, l5, b5, e5⟩ := take_at (many := 5) h (by omega) (by omega) (by omega)
    obtain ⟨k4, y4, l4, b4, e4⟩ := take_at (many := 4) b5 (by omega) (by omega) (by omega)
    obtain ⟨w, hw⟩ := at4n (a := 0) (b := 0) (c := k5) (e := sm (dn ds) ds.length - sm (dn xs) xs.length) (k := k4) (by omega)
    refine ⟨y4, min (sm (dn ds) ds.length - sm (dn xs) xs.length) (sm (dn ds) (xs.length + 1) - sm (dn xs) xs.length + w), .v (vi (min (sm (dn ds) ds.length - sm (dn xs) xs.length) (sm (dn ds) (xs.length + 1) - sm (dn xs) xs.length + w))), .v (vi (sm (dn ds) (xs.length + 1) - sm (dn xs) xs.length)), by rw [show c + 2 = c + 1 + 1 by omega]; exact b4, .v, .v, pl' _ (Nat.min_le_left _ _) (by omega), fun q => absurd q last, ?_⟩
    rw [sm_last, emap]
    have em : (if ((sm (dn ds) (xs.length + 1) - sm (dn xs) xs.length : Nat) : Int) + (w : Int) < ((sm (dn ds) ds.length - sm (dn xs) xs.length : Nat) : Int) then ((sm (dn ds) (xs.length + 1) - sm (dn xs) xs.length : Nat) : Int) + (w : Int) else ((sm (dn ds) ds.length - sm (dn xs) xs.length : Nat) : Int)) = ((min (sm (dn ds) ds.length - sm (dn xs) xs.length) (sm (dn ds) (xs.length + 1) - sm (dn xs) xs.length + w) : Nat) : Int) := by
      split <;> omega
    have mle := Nat.min_le_left (sm (dn ds) ds.length - sm (dn xs) xs.length) (sm (dn ds) (xs.length + 1) - sm (dn xs) xs.length + w)
    have mge : sm (dn ds) (xs.length + 1) ≤ sm (dn xs) xs.length + min (sm (dn ds) ds.length - sm (dn xs) xs.length) (sm (dn ds) (xs.length + 1) - sm (dn xs) xs.length + w) := by omega
    generalize min (sm (dn ds) ds.length - sm (dn xs) xs.length) (sm (dn ds) (xs.length + 1) - sm (dn xs) xs.length + w) = m at *
    have e1 : ((sm (dn ds) ds.length - sm (dn xs) xs.length : Nat) : Int) - (m : Int) = ((sm (dn ds) ds.length - (sm (dn xs) xs.length + m) : Nat) : Int) := by omega
    have e2 : ((sm (dn xs) xs.length - sm (dn ds) xs.length : Nat) : Int) + (m : Int) - (dn ds xs.length : Int) = ((sm (dn xs) xs.length + m - sm (dn ds) (xs.length + 1) : Nat) : Int) := by omega
    have nl : (xs.length : Int) + 1 < (ds.length : Int) := by omega
    clear pl' mle mge
    unfold Dv at *
    generalize sm (dn xs) xs.length + m - sm (dn ds) (xs.length + 1) = t1 at *
    generalize sm (dn ds) ds.length - (sm (dn xs) xs.length + m) = t5 at *
    generalize sm (dn ds) ds.length - sm (dn xs) xs.length = t2 at *
    generalize sm (dn ds) (xs.length + 1) - sm (dn xs) xs.length = t3 at *
    generalize sm (dn xs) xs.length - sm (dn ds) xs.length = t4 at *
    generalize dn ds xs.length = d at *
    generalize xs.map vi = xv at *
    generalize ds.map vi = dv at *
    have b1 : xv.length < 16777216 := by omega
    have nl' : (xs.length : Int) + 1 < (dv.length : Int) := by omega
    have c0 : ((0 : Nat) : Int) = 0 := rfl
    simp only [fd, vi, c0, gt_iff_lt] at *
    simp [at1, eneed, p6, p7, nl', b1, e5, e4, hw, em, e1, e2]
theorem drawn_ok {c : Int} {x : Val} {ds : List Nat} (h : IsBox c x) (hc : c ≤ 10000) (hb : Bd ds) (h1 : 1 ≤ ds.length) :
    ∃ y xs, IsBox (c + 24) y ∧ Pl ds xs ∧ xs.length = ds.length ∧ sm (dn xs) ds.length = sm (dn ds) ds.length ∧ ∀ rest : Env, callR m__law_drawn_plan [.bor 0, .v (Dv ds)] (.own true x :: rest) = .ok (.v (Dv xs)) (.own true y :: rest) := by
  have l12 := hb.1
  have key : ∃ e', forL (tgN 3) b__law_drawn_plan_2 (rangeV 0 ds.length) (fd x (Dv ds) (.own false (.lst ([].map vi))) .emp (.v (vi 0)) (.v (vi (sm (dn ds) ds.length))) .emp .emp) = .ok .nx e' ∧
      ∃ y xs s3 s4 s5 s6 s7, IsBox (c + 2 * ((ds.length : Nat) : Int)) y ∧ Pl ds xs ∧ xs.length = ds.length ∧ (xs.length = ds.length → 0 < ds.length → sm (dn xs) xs.length = sm (dn ds) ds.length) ∧ Cv s6 ∧ Cv s7 ∧ Cv s3 ∧ e' = fd y (Dv ds) (.own false (.lst (xs.map vi))) s3 s4 s5 s6 s7 := by
    have := range_run (t := tgN 3) (b := b__law_drawn_plan_2) (lo := 0) (n := ds.length) (e := fd x (Dv ds) (.own false (.lst ([].map vi))) .emp (.v (vi 0)) (.v (vi (sm (dn ds) ds.length))) .emp .emp) (fun k e => ∃ y xs s3 s6 s7, IsBox (c + 2 * ((k : Nat) : Int)) y ∧ Pl ds xs ∧ xs.length = k ∧ (xs.length = ds.length → 0 < ds.length → sm (dn xs) xs.length = sm (dn ds) ds.length) ∧ Cv s6 ∧ Cv s7 ∧ Cv s3 ∧ e = fd y (Dv ds) (.own false (.lst (xs.map vi))) s3 (.v (vi (sm (dn xs) k - sm (dn ds) k))) (.v (vi (sm (dn ds) ds.length - sm (dn xs) k))) s6 s7)
      ⟨x, [], .emp, .emp, .emp, by simpa using h, ⟨fun t ht => absurd ht (Nat.not_lt_zero t), Nat.zero_le _⟩, rfl, fun a b => by simp at a; omega, .e, .e, .e, rfl⟩ fun i e hi ⟨y, xs, s3, s6, s7, hy, p, hl, _, d6, d7, d3, he⟩ => by
        subst he
        subst hl
        obtain ⟨y2, m, u6, u7, b2, f6, f7, p2, hlast, e2⟩ := drawn2 hy (by omega) hb p hi d6 d7
        have p3 := d3.ok
        have e0 : (0 : Int) + (xs.length : Int) = (xs.length : Int) := by omega
        refine ⟨_, _, ?_, .inl e2, y2, xs ++ [m], _, _, _, ?_, p2, by simp, fun a b => ?_, f6, f7, .v, rfl⟩
        · rw [e0]
          simp [fd, p3]
        · have : c + 2 * ((xs.length + 1 : Nat) : Int) = c + 2 * ((xs.length : Nat) : Int) + 2 := by omega
          rw [this]
          exact b2
        · rw [List.length_append, List.length_singleton] at a ⊢
          exact hlast a
    obtain ⟨e', h5, y, xs, s3, s6, s7, hy, p, hl, hs, d6, d7, d3, he⟩ := this
    exact ⟨e', h5, y, xs, s3, _, _, s6, s7, hy, p, hl, hs, d6, d7, d3, he⟩
  obtain ⟨e', h5, y, xs, s3, s4, s5, s6, s7, hy, p, hl, hs, d6, d7, d3, he⟩ := key
  subst he
  refine ⟨y, xs, hy.mono (by omega), p, hl, by rw [← hl, hs hl h1, hl], fun rest => ?_⟩
  have r1 : inR (ds.length : Int) = true := inR_of (by omega) (by omega)
  have dl : (ds.map vi).length = ds.length := by simp
  have hsm := ints_vi ds
  have is1 := isum ds
  rw [all_sum] at is1
  have main : m__law_drawn_plan [.own x, .v (Dv ds)] = .ok (.v (Dv xs)) [.own true y, .v (Dv ds)] := by
    unfold Dv at *
    generalize xs.map vi = xv at *
    generalize ds.map vi = dv at *
    generalize sm (dn ds) ds.length = t1 at *
    have c0 : ((0 : Nat) : Int) = 0 := rfl
    simp only [fd, vi, c0, List.map_nil] at *
    simp [m__law_drawn_plan, b__law_drawn_plan, dl, hsm, is1, rng1_int _ r1, h5]
  rw [callR_b1 (p := true) (x := x) (as := [.v (Dv ds)]) rfl rfl, main]
  simp
end Z
namespace Z
open Lot
open PySem (Str)
/-- what is kept at the ends of the periods -/
def kp (ds xs : List Nat) (n : Nat) : List Nat := (List.range n).map fun t => sm (dn xs) (t + 1) - sm (dn ds) (t + 1)
theorem kp_succ {ds xs : List Nat} {n : Nat} : kp ds xs (n + 1) = kp ds xs n ++ [sm (dn xs) (n + 1) - sm (dn ds) (n + 1)] := by
  unfold kp
  rw [List.range_succ, List.map_append]
  rfl
theorem kp_len {ds xs : List Nat} {n : Nat} : (kp ds xs n).length = n := by simp [kp]
theorem zip_vi {ds xs : List Nat} {i : Nat} {x : Val} (h : (zipV (ds.map vi) (xs.map vi))[i]? = some x) : i < ds.length ∧ i < xs.length ∧ x = .tup [vi (dn ds i), vi (dn xs i)] := by
  obtain ⟨a, b, ha, hb, rfl⟩ := zipV_at h
  rw [List.getElem?_map] at ha hb
  have h1 : i < ds.length := by
    rcases Nat.lt_or_ge i ds.length with z | z
    · exact z
    · rw [List.getElem?_eq_none z] at ha; cases ha
  have h2 : i < xs.length := by
    rcases Nat.lt_or_ge i xs.length with z | z
    · exact z
    · rw [List.getElem?_eq_none z] at hb; cases hb
  refine ⟨h1, h2, ?_⟩
  rw [List.getElem?_eq_getElem h1] at ha
  rw [List.getElem?_eq_getElem h2] at hb
  have ea := Option.some.inj ha
  have eb := Option.some.inj hb
  rw [← ea, ← eb, dn_at h1, dn_at h2]
theorem kept_ok {ds xs : List Nat} (p : Pl ds xs) (hl : xs.length = ds.length) (hn : ds.length ≤ 12) : (m_kept_by [.v (Dv ds), .v (Dv xs)]).out = .ok (.own (.lst ((kp ds xs ds.length).map vi))) := by
  have key : ∃ e', forL (tgT [tgN 5, tgN 4]) b_kept_by_2 (zipV (ds.map vi) (xs.map vi)) [.v (Dv ds), .v (Dv xs), .own false (.lst ((kp ds xs 0).map vi)), .v (vi (sm (dn xs) 0 - sm (dn ds) 0)), .emp, .emp] = .ok .nx e' ∧
      ∃ s3 s4 s5, e' = [.v (Dv ds), .v (Dv xs), .own false (.lst ((kp ds xs (zipV (ds.map vi) (xs.map vi)).length).map vi)), s3, s4, s5] := by
    have := for_run (t := tgT [tgN 5, tgN 4]) (b := b_kept_by_2) (xs := zipV (ds.map vi) (xs.map vi)) (e := [.v (Dv ds), .v (Dv xs), .own false (.lst ((kp ds xs 0).map vi)), .v (vi (sm (dn xs) 0 - sm (dn ds) 0)), .emp, .emp])
      (fun i e => ∃ s4 s5, Cv s4 ∧ Cv s5 ∧ e = [.v (Dv ds), .v (Dv xs), .own false (.lst ((kp ds xs i).map vi)), .v (vi (sm (dn xs) i - sm (dn ds) i)), s4, s5]) ⟨_, _, .e, .e, rfl⟩ fun i x e hx ⟨s4, s5, d4, d5, he⟩ => by
        subst he
        obtain ⟨h1, h2, rfl⟩ := zip_vi hx
        have p4 := d4.ok
        have p5 := d5.ok
        have g1 := p.ge i h2
        have g0 : sm (dn ds) i ≤ sm (dn xs) i := by
          by_cases z : i = 0
          · subst z; exact Nat.le_refl _
          · have := p.ge (i - 1) (by omega)
            rw [show i - 1 + 1 = i by omega] at this
            exact this
        have e1 : sm (dn xs) (i + 1) = sm (dn xs) i + dn xs i := rfl
        have e2 : sm (dn ds) (i + 1) = sm (dn ds) i + dn ds i := rfl
        have e3 : ((sm (dn xs) i - sm (dn ds) i : Nat) : Int) + ((dn xs i : Int) - (dn ds i : Int)) = ((sm (dn xs) (i + 1) - sm (dn ds) (i + 1) : Nat) : Int) := by omega
        have em : (kp ds xs (i + 1)).map vi = (kp ds xs i).map vi ++ [vi (sm (dn xs) (i + 1) - sm (dn ds) (i + 1))] := by
          rw [kp_succ, List.map_append]
          rfl
        have ln : ((kp ds xs i).map vi).length < 16777216 := by
          rw [List.length_map, kp_len]
          omega
        rw [em]
        clear e1 e2 g0 g1
        generalize sm (dn xs) (i + 1) - sm (dn ds) (i + 1) = t1 at *
        generalize sm (dn xs) i - sm (dn ds) i = t0 at *
        generalize (kp ds xs i).map vi = L at *
        generalize dn xs i = a at *
        generalize dn ds i = b at *
        generalize Dv ds = D at *
        generalize Dv xs = X at *
        simp only [vi] at *
        refine ⟨[.v D, .v X, .own false (.lst L), .v (.int t0), .v (.int a), .v (.int b)], [.v D, .v X, .own false (.lst (L ++ [.int t1])), .v (.int t1), .v (.int a), .v (.int b)], by simp [p4, p5], .inl ?_, _, _, .v, .v, rfl⟩
        simp [e3, ln]
    obtain ⟨e', h5, s4, s5, d4, d5, he⟩ := this
    exact ⟨e', h5, _, _, _, he⟩
  obtain ⟨e', h5, s3, s4, s5, he⟩ := key
  subst he
  have el : (zipV (ds.map vi) (xs.map vi)).length = ds.length := by
    rw [zipV_len, List.length_map, List.length_map, hl, Nat.min_self]
  rw [el] at h5
  have k0 : kp ds xs 0 = [] := rfl
  have s0 : sm (dn xs) 0 - sm (dn ds) 0 = 0 := rfl
  rw [k0, s0] at h5
  unfold Dv at *
  generalize (kp ds xs ds.length).map vi = K at *
  generalize xs.map vi = xv at *
  generalize ds.map vi = dv at *
  have c0 : ((0 : Nat) : Int) = 0 := rfl
  simp only [vi, c0, List.map_nil] at *
  simp [m_kept_by, b_kept_by, h5]
theorem mn_nn : ∀ (l : List Nat) (a : Nat), 0 ≤ mnL (a : Int) (l.map fun n : Nat => (n : Int))
  | [], a => by show (0 : Int) ≤ (a : Int); omega
  | b :: l, a => by
    show 0 ≤ mnL (if (b : Int) < (a : Int) then (b : Int) else (a : Int)) _
    split
    · exact mn_nn l b
    · exact mn_nn l a
theorem min_vi {l : List Nat} (h : l ≠ []) : ∃ m : Int, 0 ≤ m ∧ fMinX [.lst (l.map vi)] = some (.v (.int m)) := by
  match l, h with
  | a :: l, _ =>
    refine ⟨mnL (a : Int) (l.map fun n : Nat => (n : Int)), mn_nn l a, ?_⟩
    have e := ints_vi (a :: l)
    unfold fMinX fOr
    have : fMinL [.lst ((a :: l).map vi)] = some (.v (.int (mnL (a : Int) (l.map fun n : Nat => (n : Int))))) := by
      show (match ints? ((a :: l).map vi) with | some (m :: r) => some (RV.v (.int (mnL m r))) | _ => none) = _
      rw [e]
      rfl
    rw [this]
theorem dn_mem {xs : List Nat} {x : Nat} (h : x ∈ xs) : ∃ k, k < xs.length ∧ dn xs k = x := by
  obtain ⟨k, hk, e⟩ := List.getElem_of_mem h
  exact ⟨k, hk, by rw [dn_at hk, e]⟩
theorem is_plan_ok {ds xs : List Nat} (hb : Bd ds) (h1 : 1 ≤ ds.length) (p : Pl ds xs) (hl : xs.length = ds.length) (he : sm (dn xs) ds.length = sm (dn ds) ds.length) : (m_is_plan [.v (Dv ds), .v (Dv xs)]).out = .ok (.v (.bl true)) := by
  have l12 := hb.1
  have er := row_nat (ds := xs) (n := ds.length) (m := sm (dn ds) ds.length) (by omega) hl fun x hx => by
    obtain ⟨k, hk, e⟩ := dn_mem hx
    rw [← he, ← e]
    exact sm_pos (by omega)
  have ek := kept_ok p hl l12
  have hsm := ints_vi ds
  have is1 := isum ds
  rw [all_sum] at is1
  have hne : kp ds xs ds.length ≠ [] := fun z => by
    have := congrArg List.length z
    rw [kp_len, List.length_nil] at this
    omega
  obtain ⟨m, m0, hm⟩ := min_vi hne
  have hlast : Z.atV ((kp ds xs ds.length).map vi) (-1) = some (vi 0) := by
    unfold Z.atV
    rw [if_neg (by omega), List.length_map, kp_len, if_pos (by omega), show (-1 + (ds.length : Int)).toNat = ds.length - 1 by omega]
    unfold kp
    rw [List.map_map, List.getElem?_map, List.getElem?_range (by omega)]
    show some (vi (sm (dn xs) (ds.length - 1 + 1) - sm (dn ds) (ds.length - 1 + 1))) = _
    rw [show ds.length - 1 + 1 = ds.length by omega, he, Nat.sub_self]
  have dl : (ds.map vi).length = ds.length := by simp
  unfold Dv at *
  generalize (kp ds xs ds.length).map vi = K at *
  generalize sm (dn ds) ds.length = t at *
  generalize xs.map vi = xv at *
  generalize ds.map vi = dv at *
  rw [← dl] at er
  have c0 : ((0 : Nat) : Int) = 0 := rfl
  simp only [vi, c0] at *
  simp [m_is_plan, b_is_plan, hsm, is1, er, ek, hm, m0, hlast]
theorem pc_eq {d x : Nat → Nat} {S h : Nat} : ∀ n, pc d x S h n = S * sm (fun t => if 0 < x t then 1 else 0) n + h * sm (fun t => sm x (t + 1) - sm d (t + 1)) n
  | 0 => by simp [pc, sm]
  | n + 1 => by
    show pc d x S h n + ((if 0 < x n then S else 0) + h * (sm x (n + 1) - sm d (n + 1))) = S * (sm (fun t => if 0 < x t then 1 else 0) n + (if 0 < x n then 1 else 0)) + h * (sm (fun t => sm x (t + 1) - sm d (t + 1)) n + (sm x (n + 1) - sm d (n + 1)))
    rw [pc_eq n, Nat.mul_add, Nat.mul_add]
    by_cases z : 0 < x n
    · rw [if_pos z, if_pos z, Nat.mul_one]; omega
    · rw [if_neg z, if_neg z, Nat.mul_zero]; omega
theorem sum_range (f : Nat → Nat) : ∀ n, ((List.range n).map f).sum = sm f n
  | 0 => rfl
  | n + 1 => by
    rw [List.range_succ, List.map_append, List.sum_append, sum_range f n]
    simp [sm]
theorem count_ok : ∀ (xs : List Nat), ((xs.map vi).filter (fun y => match y with | .int p => decide (0 < p) | _ => false)).length = sm (fun t => if 0 < dn xs t then 1 else 0) xs.length := by
  intro xs
  have key : ∀ k, k ≤ xs.length → (((xs.take k).map vi).filter (fun y => match y with | .int p => decide (0 < p) | _ => false)).length = sm (fun t => if 0 < dn xs t then 1 else 0) k := by
    intro k hk
    induction k with
    | zero => rfl
    | succ k ih =>
      show _ = sm (fun t => if 0 < dn xs t then 1 else 0) k + (if 0 < dn xs k then 1 else 0)
      rw [List.take_succ_eq_append_getElem (by omega), List.map_append, List.filter_append, List.length_append, ih (by omega), dn_at (by omega)]
      congr 1
      by_cases z : 0 < xs[k]
      · rw [if_pos z]
        have : (decide ((0 : Int) < (xs[k] : Int))) = true := decide_eq_true (by omega)
        simp [this, z]
      · rw [if_neg z]
        have : (decide ((0 : Int) < (xs[k] : Int))) = false := decide_eq_false (by omega)
        simp [this]
        omega
  have := key xs.length (Nat.le_refl _)
  rwa [List.take_length] at this
theorem lot_cost_ok {ds xs : List Nat} {S h : Nat} (hb : Bd ds) (h1 : 1 ≤ ds.length) (hS : S ≤ 1000) (hh : h ≤ 20) (p : Pl ds xs) (hl : xs.length = ds.length) (he : sm (dn xs) ds.length = sm (dn ds) ds.length) : (m_lot_cost [.v (Dv ds), .v (vi S), .v (vi h), .v (Dv xs)]).out = .ok (.v (vi (pc (dn ds) (dn xs) S h ds.length))) := by
  have l12 := hb.1
  have ec := check_ok hb h1 hS hh
  have ep := is_plan_ok hb h1 p hl he
  have ek := kept_ok p hl l12
  have hsum := hb.sum
  rw [all_sum] at hsum
  have hsm := ints_vi (kp ds xs ds.length)
  have is1 := isum (kp ds xs ds.length)
  have eks : (kp ds xs ds.length).sum = sm (fun t => sm (dn xs) (t + 1) - sm (dn ds) (t + 1)) ds.length := sum_range _ _
  have kbd : ∀ n, n ≤ ds.length → sm (fun t => sm (dn xs) (t + 1) - sm (dn ds) (t + 1)) n ≤ 1200 * n := by
    intro n hn
    induction n with
    | zero => exact Nat.zero_le _
    | succ n ih =>
      show sm (fun t => sm (dn xs) (t + 1) - sm (dn ds) (t + 1)) n + (sm (dn xs) (n + 1) - sm (dn ds) (n + 1)) ≤ _
      have i := ih (by omega)
      have : sm (dn xs) (n + 1) ≤ sm (dn xs) ds.length := sm_mono hn
      omega
  have kb := kbd ds.length (Nat.le_refl _)
  rw [eks] at is1
  have hcnt := count_ok xs
  rw [hl] at hcnt
  have cb : sm (fun t => if 0 < dn xs t then 1 else 0) ds.length ≤ ds.length := by
    have : ∀ n, sm (fun t => if 0 < dn xs t then 1 else 0) n ≤ n := by
      intro n
      induction n with
      | zero => exact Nat.le_refl _
      | succ n ih =>
        show sm (fun t => if 0 < dn xs t then 1 else 0) n + (if 0 < dn xs n then 1 else 0) ≤ _
        split <;> omega
    exact this _
  have hc : compL [4] (tgN 4) (tE (eOp fGt (eV 4) (eC (.int 0)))) (eV 4) (xs.map vi) [.v (Dv ds), .v (vi S), .v (vi h), .v (Dv xs), .emp] = .ok ((xs.map vi).filter (fun y => match y with | .int p => decide (0 < p) | _ => false)) [.v (Dv ds), .v (vi S), .v (vi h), .v (Dv xs), .emp] := by
    have := compL_pure (vs := [4]) (t := tgN 4) (c := tE (eOp fGt (eV 4) (eC (.int 0)))) (a := eV 4) (e := [.v (Dv ds), .v (vi S), .v (vi h), .v (Dv xs), .emp]) (fun y => match y with | .int p => decide (0 < p) | _ => false) id (xs := xs.map vi) fun x hx => by
      obtain ⟨n, _, rfl⟩ := List.mem_map.mp hx
      exact ⟨[.v (Dv ds), .v (vi S), .v (vi h), .v (Dv xs), .v (vi n)], by simp, by simp, fun _ => ⟨.v (vi n), by simp, by simp⟩, by simp, by simp⟩
    rw [this, List.map_id]
  rw [pc_eq]
  generalize hF : (xs.map vi).filter (fun y => match y with | .int p => decide (0 < p) | _ => false) = Fl at *
  generalize sm (fun t => if 0 < dn xs t then 1 else 0) ds.length = cnt at *
  generalize sm (fun t => sm (dn xs) (t + 1) - sm (dn ds) (t + 1)) ds.length = ksum at *
  have e1 : fMul (vi S) (vi cnt) = some (.v (vi (S * cnt))) := by
    rw [mul_sm (by omega) (by omega)]; simp
  have e2 : fMul (vi h) (vi ksum) = some (.v (vi (h * ksum))) := by
    rw [mul_sm (by omega) (by omega)]; simp
  have xl : (xs.map vi).length ≤ 16777216 := by
    rw [List.length_map]
    omega
  unfold Dv at *
  generalize (kp ds xs ds.length).map vi = K at *
  generalize S * cnt = t1 at *
  generalize h * ksum = t2 at *
  generalize xs.map vi = xv at *
  generalize ds.map vi = dv at *
  simp only [vi] at *
  simp [m_lot_cost, b_lot_cost, ec, ep, hc, hcnt, ek, hsm, is1, e1, e2, xl, -fMul_int]
end Z
namespace Z
open Lot
open PySem (Str)
/-! ### what is built -/
def fL (x : Val) (s1 s2 s3 s4 s5 : Slot) : Env := [.own true x, s1, s2, s3, s4, s5]
theorem at3n {a b c : Nat} {k : Nat} (h : k < 3) : ∃ v : Nat, Z.atV [vi a, vi b, vi c] (k : Int) = some (vi v) ∧ (v = a ∨ v = b ∨ v = c) := by
  rcases (by omega : k = 0 ∨ k = 1 ∨ k = 2) with rfl | rfl | rfl
  · exact ⟨a, rfl, .inl rfl⟩
  · exact ⟨b, rfl, .inr (.inl rfl)⟩
  · exact ⟨c, rfl, .inr (.inr rfl)⟩
theorem at4n' {a b c e : Nat} {k : Nat} (h : k < 4) : ∃ v : Nat, Z.atV [vi a, vi b, vi c, vi e] (k : Int) = some (vi v) ∧ (v = a ∨ v = b ∨ v = c ∨ v = e) := by
  rcases (by omega : k = 0 ∨ k = 1 ∨ k = 2 ∨ k = 3) with rfl | rfl | rfl | rfl
  · exact ⟨a, rfl, .inl rfl⟩
  · exact ⟨b, rfl, .inr (.inl rfl)⟩
  · exact ⟨c, rfl, .inr (.inr (.inl rfl))⟩
  · exact ⟨e, rfl, .inr (.inr (.inr rfl))⟩
theorem lots1 {c : Int} {x : Val} (h : IsBox c x) (hc : c ≤ 10000) : ∃ (y : Val) (n w : Nat), IsBox (c + 3) y ∧ 1 ≤ n ∧ n ≤ 12 ∧ 1 ≤ w ∧ w ≤ 101 ∧ b__law_lots_1 (fL x .emp .emp .emp .emp .emp) = .ok .nx (fL y .emp (.v (vi n)) .emp (.v (vi w)) .emp) := by
  obtain ⟨k1, y1, l1, b1, e1⟩ := take_at (many := 3) h (by omega) (by omega) (by omega)
  obtain ⟨v, hv, hv'⟩ := at3n (a := 4) (b := 6) (c := 12) (k := k1) (by omega)
  obtain ⟨k2, y2, l2, b2, e2⟩ := take_at (many := (v : Int)) b1 (by omega) (by omega) (by omega)
  obtain ⟨k3, y3, l3, b3, e3⟩ := take_at (many := 4) b2 (by omega) (by omega) (by omega)
  obtain ⟨w, hw, hw'⟩ := at4n' (a := 2) (b := 6) (c := 20) (e := 101) (k := k3) (by omega)
  refine ⟨y3, k2 + 1, w, by rw [show c + 3 = c + 1 + 1 + 1 by omega]; exact b3, by omega, by omega, by omega, by omega, ?_⟩
  have ek : (1 : Int) + (k2 : Int) = ((k2 + 1 : Nat) : Int) := by omega
  have q1 : ((4 : Nat) : Int) = 4 := rfl
  have q2 : ((6 : Nat) : Int) = 6 := rfl
  have q3 : ((12 : Nat) : Int) = 12 := rfl
  have q4 : ((2 : Nat) : Int) = 2 := rfl
  have q5 : ((20 : Nat) : Int) = 20 := rfl
  have q6 : ((101 : Nat) : Int) = 101 := rfl
  simp only [fL, vi, q1, q2, q3, q4, q5, q6] at *
  simp [e1, hv, e2, e3, hw, ek]
abbrev lotA : E := (eOp fMulX (eCall m__law_take (asCons (eV 0) (asCons (eV 4) asNil))) (eB fInt (asCons (eOp fNe (eCall m__law_take (asCons (eV 0) (asCons (eC (.int 5)) asNil))) (eC (.int 0))) asNil)))
theorem lotA_ok {c : Int} {x : Val} {n w : Nat} {s5 : Slot} (h : IsBox c x) (hc : c ≤ 10000) (h1 : 1 ≤ w) (h2 : w ≤ 101) : ∃ y d, IsBox (c + 2) y ∧ d ≤ 100 ∧ lotA (fL x .emp (.v (vi n)) .emp (.v (vi w)) s5) = .ok (.v (vi d)) (fL y .emp (.v (vi n)) .emp (.v (vi w)) s5) := by
  obtain ⟨k1, y1, l1, b1, e1⟩ := take_at (many := (w : Int)) h (by omega) (by omega) (by omega)
  obtain ⟨k2, y2, l2, b2, e2⟩ := take_at (many := 5) b1 (by omega) (by omega) (by omega)
  refine ⟨y2, if k2 = 0 then 0 else k1, by rw [show c + 2 = c + 1 + 1 by omega]; exact b2, by split <;> omega, ?_⟩
  by_cases z : k2 = 0
  · rw [if_pos z]
    have em : fMul (vi k1) (.int 0) = some (.v (.int 0)) := by rw [mul_sm (by omega) (by omega)]; simp
    simp only [fL, vi] at *
    simp [e1, e2, z, em, -fMul_int]
  · rw [if_neg z]
    have em : fMul (vi k1) (.int 1) = some (.v (vi k1)) := by rw [mul_sm (by omega) (by omega)]; simp
    simp only [fL, vi] at *
    simp [e1, e2, z, em, -fMul_int]
theorem lots2 {c : Int} {x : Val} {n w : Nat} (h : IsBox c x) (hc : c ≤ 5000) (hn : n ≤ 12) (h1 : 1 ≤ w) (h2 : w ≤ 101) : ∃ (y : Val) (ds : List Nat), IsBox (c + 24) y ∧ ds.length = n ∧ (∀ d ∈ ds, d ≤ 100) ∧ b__law_lots_2 (fL x .emp (.v (vi n)) .emp (.v (vi w)) .emp) = .ok .nx (fL y (.own false (.lst (ds.map vi))) (.v (vi n)) .emp (.v (vi w)) .emp) := by
  have hcomp : ∃ ws e', compL [5] (tgN 5) tYes lotA (rangeV 0 n) (fL x .emp (.v (vi n)) .emp (.v (vi w)) .emp) = .ok ws e' ∧ ∃ (y : Val) (ds : List Nat), IsBox (c + 2 * ((0 + (rangeV 0 n).length : Nat) : Int)) y ∧ [] ++ ws = ds.map vi ∧ ds.length = 0 + (rangeV 0 n).length ∧ (∀ d ∈ ds, d ≤ 100) ∧ e' = fL y .emp (.v (vi n)) .emp (.v (vi w)) .emp := by
    refine compL_run (fun k ys e => ∃ (y : Val) (ds : List Nat), IsBox (c + 2 * (k : Int)) y ∧ ys = ds.map vi ∧ ds.length = k ∧ (∀ d ∈ ds, d ≤ 100) ∧ e = fL y .emp (.v (vi n)) .emp (.v (vi w)) .emp) ⟨x, [], by simpa using h, rfl, rfl, (fun d hd => by cases hd), rfl⟩ fun i z zs e hi ⟨y, ds, hb, hz, hl, hd, he⟩ => ?_
    subst he hz
    obtain ⟨hi3, rfl⟩ := rangeV_at hi
    obtain ⟨y2, d, b2, d1, e2⟩ := lotA_ok (n := n) (w := w) (s5 := .v (.int (0 + (i : Int)))) hb (by omega) h1 h2
    refine ⟨fL y .emp (.v (vi n)) .emp (.v (vi w)) (.v (.int (0 + (i : Int)))), fL y .emp (.v (vi n)) .emp (.v (vi w)) (.v (.int (0 + (i : Int)))), true, by simp [fL], by simp, (fun z => nomatch z), fun _ => ⟨_, _, _, _, e2, rfl, by simp [fL], y2, ds ++ [d], ?_, by simp, ?_, ?_, by simp [fL]⟩⟩
    · have : c + 2 * ((0 + i + 1 : Nat) : Int) = c + 2 * ((0 + i : Nat) : Int) + 2 := by omega
      rw [this]
      exact b2
    · rw [List.length_append, hl, List.length_singleton]
    · intro q hq
      rcases List.mem_append.mp hq with hq | hq
      · exact hd q hq
      · rw [List.mem_singleton.mp hq]; exact d1
  obtain ⟨ws, e', h5, y, ds, hb, hz, hl, hd, he⟩ := hcomp
  subst he
  rw [List.nil_append] at hz
  subst hz
  rw [rangeV_len, Nat.zero_add] at hl hb
  refine ⟨y, ds, hb.mono (by omega), hl, hd, ?_⟩
  have r1 : inR (n : Int) = true := inR_of (by omega) (by omega)
  have b1 : n ≤ 16777216 := by omega
  generalize ds.map vi = L at *
  simp only [fL, vi] at *
  show (sSet 1 (eComp (iRange1 (eV 2)) [5] (tgN 5) tYes lotA)) _ = _
  generalize lotA = q at *
  simp [rng1_int _ r1, b1, h5]
theorem lots3 {c : Int} {x : Val} {n w : Nat} {ds : List Nat} (h : IsBox c x) (hc : c ≤ 5000) (h0 : 1 ≤ n) (hn : n ≤ 12) (hl : ds.length = n) (hd : ∀ d ∈ ds, d ≤ 100) : ∃ (y : Val) (es : List Nat), IsBox (c + 1) y ∧ es.length = n ∧ (∀ d ∈ es, d ≤ 100) ∧ b__law_lots_3 (fL x (.own false (.lst (ds.map vi))) (.v (vi n)) .emp (.v (vi w)) .emp) = .ok .nx (fL y (.own false (.lst (es.map vi))) (.v (vi n)) .emp (.v (vi w)) .emp) := by
  obtain ⟨k1, y1, l1, b1, e1⟩ := take_at (many := 6) h (by omega) (by omega) (by omega)
  by_cases z : k1 = 0
  · have a1 := atV_vi (l := ds) (k := 0) (by omega)
    have hrep : fMul (.lst [vi (dn ds 0)]) (.int (n : Int)) = some (.own (.lst ((List.replicate n (dn ds 0)).map vi))) := by
      rw [fMul_lst, if_pos ⟨by omega, by simp; omega⟩, Int.toNat_natCast]
      have : ∀ n, (List.replicate n [vi (dn ds 0)]).flatten = (List.replicate n (dn ds 0)).map vi := by
        intro n
        induction n with
        | zero => rfl
        | succ n ih => rw [List.replicate_succ, List.flatten_cons, ih, List.replicate_succ]; rfl
      rw [this]
    refine ⟨y1, List.replicate n (dn ds 0), b1, by simp, fun d hd' => ?_, ?_⟩
    · rw [List.eq_of_mem_replicate hd', dn_at (by omega)]
      exact hd _ (List.getElem_mem _)
    · have hdn : ds.getD 0 0 = dn ds 0 := rfl
      rw [hdn] at a1
      generalize (List.replicate n (dn ds 0)).map vi = R at *
      generalize ds.map vi = L at *
      have c0 : ((0 : Nat) : Int) = 0 := rfl
      simp only [fL, vi, c0] at *
      simp [e1, z, a1, hrep, -fMul_lst]
  · refine ⟨y1, ds, b1, hl, hd, ?_⟩
    generalize ds.map vi = L at *
    simp only [fL, vi] at *
    simp [e1, z]
theorem lots4 {c : Int} {x : Val} {s1 s2 s4 : Slot} (h : IsBox c x) (hc : c ≤ 5000) : ∃ y S, IsBox (c + 4) y ∧ S ≤ 1000 ∧ b__law_lots_4 (fL x s1 s2 .emp s4 .emp) = .ok .nx (fL y s1 s2 (.v (vi S)) s4 .emp) := by
  obtain ⟨k1, y1, l1, b1, e1⟩ := take_at (many := 30) h (by omega) (by omega) (by omega)
  obtain ⟨k2, y2, l2, b2, e2⟩ := take_at (many := 1001) b1 (by omega) (by omega) (by omega)
  obtain ⟨k3, y3, l3, b3, e3⟩ := take_at (many := 10) b2 (by omega) (by omega) (by omega)
  obtain ⟨k4, y4, l4, b4, e4⟩ := take_at (many := 4) b3 (by omega) (by omega) (by omega)
  obtain ⟨v, hv, hv'⟩ := at4n' (a := k1) (b := 0) (c := k2) (e := 5 * k3) (k := k4) (by omega)
  have em : fMul (.int 5) (vi k3) = some (.v (vi (5 * k3))) := by rw [mul_sm (by omega) (by omega)]; simp
  refine ⟨y4, v, by rw [show c + 4 = c + 1 + 1 + 1 + 1 by omega]; exact b4, by omega, ?_⟩
  generalize 5 * k3 = k5 at *
  have c0 : ((0 : Nat) : Int) = 0 := rfl
  simp only [fL, vi, c0] at *
  simp [e1, e2, e3, e4, em, hv, -fMul_int]
theorem lots5 {c : Int} {x : Val} {S : Nat} {ds : List Nat} {s2 s4 : Slot} (h : IsBox c x) (hc : c ≤ 5000) : ∃ y hh, IsBox (c + 3) y ∧ hh ≤ 20 ∧ b__law_lots_5 (fL x (.own false (.lst (ds.map vi))) s2 (.v (vi S)) s4 .emp) = .ok (.rt (.v (.tup [Dv ds, vi S, vi hh]))) (fL y (.own false (.lst (ds.map vi))) s2 (.v (vi S)) s4 .emp) := by
  obtain ⟨k1, y1, l1, b1, e1⟩ := take_at (many := 4) h (by omega) (by omega) (by omega)
  obtain ⟨k2, y2, l2, b2, e2⟩ := take_at (many := 21) b1 (by omega) (by omega) (by omega)
  obtain ⟨k4, y4, l4, b4, e4⟩ := take_at (many := 4) b2 (by omega) (by omega) (by omega)
  obtain ⟨v, hv, hv'⟩ := at4n' (a := 1) (b := 0) (c := k1) (e := k2) (k := k4) (by omega)
  refine ⟨y4, v, by rw [show c + 3 = c + 1 + 1 + 1 by omega]; exact b4, by omega, ?_⟩
  unfold Dv
  generalize ds.map vi = L at *
  have c0 : ((0 : Nat) : Int) = 0 := rfl
  have c1 : ((1 : Nat) : Int) = 1 := rfl
  simp only [fL, vi, c0, c1] at *
  simp [e1, e2, e4, hv]
theorem seq_nx {a b : S} {e0 e1 : Env} (h : a e0 = .ok .nx e1) : sSeq a b e0 = b e1 := by rw [sSeq_ap, h]; rfl
theorem lots_ok {c : Int} {x : Val} (h : IsBox c x) (hc : c ≤ 1000) : ∃ (y : Val) (ds : List Nat) (S hh : Nat), IsBox (c + 35) y ∧ Bd ds ∧ 1 ≤ ds.length ∧ S ≤ 1000 ∧ hh ≤ 20 ∧ ∀ rest : Env, callR m__law_lots [.bor 0] (.own true x :: rest) = .ok (.v (.tup [Dv ds, vi S, vi hh])) (.own true y :: rest) := by
  obtain ⟨y1, n, w, b1, n1, n2, w1, w2, e1⟩ := lots1 h (by omega)
  obtain ⟨y2, ds, b2, hl, hd, e2⟩ := lots2 b1 (by omega) n2 w1 w2
  obtain ⟨y3, es, b3, hl3, hd3, e3⟩ := lots3 (w := w) b2 (by omega) n1 n2 hl hd
  obtain ⟨y4, S, b4, hS, e4⟩ := lots4 (s1 := .own false (.lst (es.map vi))) (s2 := .v (vi n)) (s4 := .v (vi w)) b3 (by omega)
  obtain ⟨y5, hh, b5, hh1, e5⟩ := lots5 (S := S) (ds := es) (s2 := .v (vi n)) (s4 := .v (vi w)) b4 (by omega)
  refine ⟨y5, es, S, hh, by rw [show c + 35 = c + 3 + 24 + 1 + 4 + 3 by omega]; exact b5, ⟨by omega, hd3⟩, by omega, hS, hh1, fun rest => ?_⟩
  have main : m__law_lots [.own x] = .ok (.v (.tup [Dv es, vi S, vi hh])) [.own true y5] := by
    show fin 1 (b__law_lots (fL x .emp .emp .emp .emp .emp)) = _
    unfold b__law_lots
    rw [seq_nx e1, seq_nx e2, seq_nx e3, seq_nx e4, e5]
    rfl
  rw [callR_b1 (p := true) (x := x) (as := []) rfl rfl, main]
  simp
end Z
namespace Z
open Lot
open PySem (Str)
/-! ### the rule by Silver and Meal -/
theorem cl_bd {S h : Nat} {l : List Nat} (hb : Bd l) (hS : S ≤ 1000) (hh : h ≤ 20) : cl S h l ≤ 289000 := by
  have k := hb.ks
  unfold cl
  have := Nat.mul_le_mul hh k
  split
  · omega
  · omega
theorem lot_cut {ds : List Nat} {i m : Nat} : (ds.drop i).take m = (ds.drop i).take (i + m - i) := by rw [Nat.add_sub_cancel_left]
def slotN (e : Env) (i : Nat) : Nat := match eget e i with
  | .v (.int z) => z.toNat
  | _ => 0
def slotB (e : Env) (i : Nat) : Bool := match eget e i with
  | .v (.bl b) => b
  | _ => false
theorem end_of_lot_ok {ds : List Nat} {S h i : Nat} (hb : Bd ds) (hS : S ≤ 1000) (hh : h ≤ 20) (hi : i < ds.length) : (m_end_of_lot [.v (Dv ds), .v (vi S), .v (vi h), .v (vi i)]).out = .ok (.v (vi (i + ex S h (ds.drop i) (ds.drop i).length 1))) := by
  have l12 := hb.1
  have ll : (ds.drop i).length = ds.length - i := List.length_drop
  have dl : (ds.map vi).length = ds.length := by simp
  have main := while_gen (c := tE (eOp fLt (eV 5) (eB fLen (asCons (eV 0) asNil)))) (b := b_end_of_lot_2)
    (fun r => (∃ e', r = .ok (.rt (.v (vi (i + ex S h (ds.drop i) (ds.drop i).length 1)))) e') ∨ ∃ s4 s6, r = .ok .nx [.v (Dv ds), .v (vi S), .v (vi h), .v (vi i), s4, .v (vi (i + ex S h (ds.drop i) (ds.drop i).length 1)), s6])
    (fun e => ∃ m f s4 s6, Cv s4 ∧ Cv s6 ∧ 1 ≤ m ∧ m ≤ (ds.drop i).length ∧ (ds.drop i).length ≤ m + f ∧ ex S h (ds.drop i) f m = ex S h (ds.drop i) (ds.drop i).length 1 ∧ e = [.v (Dv ds), .v (vi S), .v (vi h), .v (vi i), s4, .v (vi (i + m)), s6])
    (fun e => ds.length - slotN e 5) (fun e ⟨m, f, s4, s6, c4, c6, m1, m2, mf, hE, he⟩ => by
      subst he
      generalize hEE : ex S h (ds.drop i) (ds.drop i).length 1 = E at *
      refine ⟨decide (i + m < ds.length), [.v (Dv ds), .v (vi S), .v (vi h), .v (vi i), s4, .v (vi (i + m)), s6], ?_, fun k => .inr ⟨s4, s6, ?_⟩, fun k => ?_⟩
      · unfold Dv
        generalize ds.map vi = dv at *
        have e1 : decide (((i + m : Nat) : Int) < (dv.length : Int)) = decide (i + m < ds.length) := decide_eq_decide.mpr (by omega)
        simp only [vi]
        generalize ((i + m : Nat) : Int) = z at *
        simp [← e1]
      · have := of_decide_eq_false k
        have em : m = E := by
          rw [← hE]
          match f with
          | 0 => rfl
          | f + 1 =>
            unfold ex
            rw [if_neg (by omega)]
        rw [em]
      · have hlt := of_decide_eq_true k
        match f, mf, hE with
        | 0, mf, _ => omega
        | f + 1, mf, hE =>
          have ec1 := cost_of_lot_ok (i := i) (j := i + m) hb hS hh (by omega) (by omega)
          have ec2 := cost_of_lot_ok (i := i) (j := i + m + 1) hb hS hh (by omega) (by omega)
          rw [show i + m - i = m by omega] at ec1
          rw [show i + m + 1 - i = m + 1 by omega] at ec2
          have b1 := cl_bd (hb.sub ((List.take_sublist m _).trans (List.drop_sublist i _))) hS hh
          have b2 := cl_bd (hb.sub ((List.take_sublist (m + 1) _).trans (List.drop_sublist i _))) hS hh
          unfold ex at hE
          rw [if_pos (by omega)] at hE
          generalize cl S h ((ds.drop i).take m) = n1 at *
          generalize cl S h ((ds.drop i).take (m + 1)) = n2 at *
          have e1 : fMul (.int (n2 : Int)) (.int (m : Int)) = some (.v (.int ((n2 * m : Nat) : Int))) := by rw [mul_sm (by omega) (by omega)]; simp
          have e2 : fMul (.int (n1 : Int)) (.int ((m + 1 : Nat) : Int)) = some (.v (.int ((n1 * (m + 1) : Nat) : Int))) := by rw [mul_sm (by omega) (by omega)]; simp
          have s1 : ((i + m : Nat) : Int) - (i : Int) = (m : Int) := by omega
          have s2 : ((i + m + 1 : Nat) : Int) - (i : Int) = ((m + 1 : Nat) : Int) := by omega
          have s3 : ((i + m : Nat) : Int) + 1 = ((i + m + 1 : Nat) : Int) := by omega
          have p4 := c4.ok
          have p6 := c6.ok
          by_cases st : n1 * (m + 1) ≤ n2 * m
          · rw [if_pos st] at hE
            refine .inr ⟨.v (vi (i + m)), [.v (Dv ds), .v (vi S), .v (vi h), .v (vi i), .v (vi n2), .v (vi (i + m)), .v (vi n1)], ?_, .inl ⟨_, by rw [← hE]⟩⟩
            have st' : ((n1 * (m + 1) : Nat) : Int) ≤ ((n2 * m : Nat) : Int) := by omega
            generalize Dv ds = D at *
            generalize n1 * (m + 1) = t1 at *
            generalize n2 * m = t2 at *
            simp only [vi] at *
            generalize ((i + m + 1 : Nat) : Int) = z1 at *
            generalize ((i + m : Nat) : Int) = z0 at *
            generalize ((m + 1 : Nat) : Int) = z2 at *
            simp [ec1, ec2, s1, s2, s3, e1, e2, p4, p6, st, -fMul_int]
          · rw [if_neg st] at hE
            refine .inl ⟨[.v (Dv ds), .v (vi S), .v (vi h), .v (vi i), .v (vi n2), .v (vi (i + (m + 1))), .v (vi n1)], .inl ?_, ⟨m + 1, f, _, _, .v, .v, by omega, by omega, by omega, hE, rfl⟩, ?_⟩
            · have st' : ¬ ((n1 * (m + 1) : Nat) : Int) ≤ ((n2 * m : Nat) : Int) := by omega
              rw [← Nat.add_assoc]
              generalize Dv ds = D at *
              generalize n1 * (m + 1) = t1 at *
              generalize n2 * m = t2 at *
              simp only [vi] at *
              generalize ((i + m + 1 : Nat) : Int) = z1 at *
              generalize ((i + m : Nat) : Int) = z0 at *
              generalize ((m + 1 : Nat) : Int) = z2 at *
              simp [ec1, ec2, s1, s2, s3, e1, e2, p4, p6, st, -fMul_int]
            · simp only [slotN, eget_succ, eget_zero, Int.toNat_natCast]
              omega)
    whileFuel [.v (Dv ds), .v (vi S), .v (vi h), .v (vi i), .emp, .v (vi (i + 1)), .emp] ⟨1, (ds.drop i).length, _, _, .e, .e, Nat.le_refl _, by omega, by omega, rfl, rfl⟩ (by
      unfold whileFuel
      simp only [slotN, eget_succ, eget_zero, Int.toNat_natCast]
      omega)
  generalize ex S h (ds.drop i) (ds.drop i).length 1 = E at *
  have s3 : (i : Int) + 1 = ((i + 1 : Nat) : Int) := by omega
  rcases main with ⟨e', h5⟩ | ⟨s4, s6, h5⟩
  · generalize Dv ds = D at *
    simp only [vi] at *
    generalize ((i + 1 : Nat) : Int) = z1 at *
    simp [m_end_of_lot, b_end_of_lot, s3, h5]
  · generalize Dv ds = D at *
    simp only [vi] at *
    generalize ((i + 1 : Nat) : Int) = z1 at *
    simp [m_end_of_lot, b_end_of_lot, s3, h5]
end Z
namespace Z
open Lot
open PySem (Str)
def fS (D : Val) (S h : Nat) (s3 s4 : Slot) (F : List Val) (s6 s7 s8 : Slot) : Env := [.v D, .v (vi S), .v (vi h), s3, s4, .own false (.lst F), s6, s7, s8]
theorem drop_get {ds : List Nat} {i m : Nat} (h : i + m < ds.length) : (ds.drop i)[m]'(by rw [List.length_drop]; omega) = dn ds (i + m) := by
  rw [List.getElem_drop, dn_at h]
theorem drop_pos {ds : List Nat} {i m : Nat} (hi : i < ds.length) (hp : 0 < dn ds i) (hm : 1 ≤ m) : 0 < ((ds.drop i).take m).sum := by
  rw [List.drop_eq_getElem_cons hi]
  obtain ⟨k, rfl⟩ : ∃ k, m = k + 1 := ⟨m - 1, by omega⟩
  rw [List.take_succ_cons, List.sum_cons, ← dn_at hi]
  omega
theorem silver_in {ds : List Nat} {S h i : Nat} {F : List Val} {s3 : Slot} (hb : Bd ds) (hS : S ≤ 1000) (hh : h ≤ 20) (hi : i < ds.length) (hp : 0 < dn ds i) (c3 : Cv s3) :
    ∃ s3' s7' s8', Cv s3' ∧ Cv s7' ∧ Cv s8' ∧ whileL (tE (eV 7)) b__law_silver_2 whileFuel (fS (Dv ds) S h s3 (.v (vi i)) F (.v (vi 1)) (.v (.bl (decide (i + 1 < ds.length)))) (.v (vi S))) = .ok .nx (fS (Dv ds) S h s3' (.v (vi i)) F (.v (vi (ex S h (ds.drop i) (ds.drop i).length 1))) s7' s8') := by
  have l12 := hb.1
  have ll : (ds.drop i).length = ds.length - i := List.length_drop
  have dl : (ds.map vi).length = ds.length := by simp
  have c1 : cl S h ((ds.drop i).take 1) = S := by
    rw [List.drop_eq_getElem_cons hi]
    rw [dn_at hi] at hp
    exact cl_one hp
  have main := while_gen (c := tE (eV 7)) (b := b__law_silver_2)
    (fun r => ∃ s3' s7' s8', Cv s3' ∧ Cv s7' ∧ Cv s8' ∧ r = .ok .nx (fS (Dv ds) S h s3' (.v (vi i)) F (.v (vi (ex S h (ds.drop i) (ds.drop i).length 1))) s7' s8'))
    (fun e => ∃ m f s3 k now, Cv s3 ∧ 1 ≤ m ∧ m ≤ (ds.drop i).length ∧ (ds.drop i).length ≤ m + f ∧ (k = true → i + m < ds.length ∧ ex S h (ds.drop i) f m = ex S h (ds.drop i) (ds.drop i).length 1 ∧ now = cl S h ((ds.drop i).take m)) ∧ (k = false → m = ex S h (ds.drop i) (ds.drop i).length 1) ∧ e = fS (Dv ds) S h s3 (.v (vi i)) F (.v (vi m)) (.v (.bl k)) (.v (vi now)))
    (fun e => if slotB e 7 then (ds.length + 1) - (slotN e 4 + slotN e 6) else 0) (fun e ⟨m, f, s3, k, now, d3, m1, m2, mf, hk1, hk0, he⟩ => by
      subst he
      generalize hEE : ex S h (ds.drop i) (ds.drop i).length 1 = E at *
      refine ⟨k, fS (Dv ds) S h s3 (.v (vi i)) F (.v (vi m)) (.v (.bl k)) (.v (vi now)), ?_, fun z => ⟨s3, .v (.bl k), .v (vi now), d3, .v, .v, by rw [hk0 z]⟩, fun z => .inl ?_⟩
      · simp [fS]
      · subst z
        obtain ⟨hlt, hE, hnow⟩ := hk1 rfl
        match f, mf, hE with
        | 0, mf, _ => omega
        | f + 1, mf, hE =>
          have hcs := cl_succ (S := S) (h := h) (m := m) (drop_pos hi hp m1) (by omega)
          rw [drop_get hlt] at hcs
          have b1 := cl_bd (hb.sub ((List.take_sublist m _).trans (List.drop_sublist i _))) hS hh
          have b2 := cl_bd (hb.sub ((List.take_sublist (m + 1) _).trans (List.drop_sublist i _))) hS hh
          unfold ex at hE
          rw [if_pos (by omega)] at hE
          have hdm := dn_le (k := i + m) hb
          have at1 := atV_vi (l := ds) hlt
          have hdn : ds.getD (i + m) 0 = dn ds (i + m) := rfl
          rw [hdn] at at1
          have hhm := Nat.mul_le_mul hh (show m ≤ 12 by omega)
          have e1 : fMul (.int (h : Int)) (.int (m : Int)) = some (.v (.int ((h * m : Nat) : Int))) := by rw [mul_sm (by omega) (by omega)]; simp
          have e2 : fMul (.int ((h * m : Nat) : Int)) (.int (dn ds (i + m) : Int)) = some (.v (.int ((h * m * dn ds (i + m) : Nat) : Int))) := by rw [mul_sm (by omega) (by omega)]; simp
          subst hnow
          generalize cl S h ((ds.drop i).take m) = n1 at *
          generalize hn2 : cl S h ((ds.drop i).take (m + 1)) = n2 at *
          have e3 : (n1 : Int) + ((h * m * dn ds (i + m) : Nat) : Int) = (n2 : Int) := by omega
          have e4 : fMul (.int (n2 : Int)) (.int (m : Int)) = some (.v (.int ((n2 * m : Nat) : Int))) := by rw [mul_sm (by omega) (by omega)]; simp
          have e5 : fMul (.int (n1 : Int)) (.int ((m + 1 : Nat) : Int)) = some (.v (.int ((n1 * (m + 1) : Nat) : Int))) := by rw [mul_sm (by omega) (by omega)]; simp
          have s1 : (i : Int) + (m : Int) = ((i + m : Nat) : Int) := by omega
          have s2 : (m : Int) + 1 = ((m + 1 : Nat) : Int) := by omega
          have s3' : (i : Int) + ((m + 1 : Nat) : Int) = ((i + m + 1 : Nat) : Int) := by omega
          have p3 := d3.ok
          by_cases st : n1 * (m + 1) ≤ n2 * m
          · rw [if_pos st] at hE
            have st' : ¬ n2 * m < n1 * (m + 1) := by omega
            refine ⟨fS (Dv ds) S h (.v (vi n2)) (.v (vi i)) F (.v (vi m)) (.v (.bl false)) (.v (vi n1)), .inl ?_, ⟨m, f + 1, .v (vi n2), false, n1, .v, m1, m2, mf, (fun z => nomatch z), (fun _ => hE), rfl⟩, ?_⟩
            · unfold Dv
              clear hcs hE s3'
              generalize ds.map vi = dv at *
              generalize n1 * (m + 1) = t1 at *
              generalize n2 * m = t2 at *
              generalize h * m * dn ds (i + m) = t3 at *
              generalize h * m = t4 at *
              generalize dn ds (i + m) = d at *
              simp only [vi, fS] at *
              generalize ((i + m : Nat) : Int) = z0 at *
              generalize ((m + 1 : Nat) : Int) = z2 at *
              simp [s1, s2, at1, e1, e2, e3, e4, e5, p3, st', -fMul_int]
            · simp only [slotB, slotN, fS, eget_succ, eget_zero, Int.toNat_natCast]
              simp
              omega
          · rw [if_neg st] at hE
            have st' : n2 * m < n1 * (m + 1) := by omega
            have edec : decide (((i + m + 1 : Nat) : Int) < ((ds.map vi).length : Int)) = decide (i + (m + 1) < ds.length) := decide_eq_decide.mpr (by omega)
            refine ⟨fS (Dv ds) S h (.v (vi n2)) (.v (vi i)) F (.v (vi (m + 1))) (.v (.bl (decide (i + (m + 1) < ds.length)))) (.v (vi n2)), .inl ?_, ⟨m + 1, f, .v (vi n2), decide (i + (m + 1) < ds.length), n2, .v, by omega, by omega, by omega, (fun z => ⟨of_decide_eq_true z, hE, hn2.symm⟩), (fun z => ?_), rfl⟩, ?_⟩
            · rw [← edec]
              unfold Dv
              clear hcs hE edec
              generalize ds.map vi = dv at *
              generalize n1 * (m + 1) = t1 at *
              generalize n2 * m = t2 at *
              generalize h * m * dn ds (i + m) = t3 at *
              generalize h * m = t4 at *
              generalize dn ds (i + m) = d at *
              simp only [vi, fS] at *
              generalize ((i + m + 1 : Nat) : Int) = z1 at *
              generalize ((i + m : Nat) : Int) = z0 at *
              generalize ((m + 1 : Nat) : Int) = z2 at *
              simp [s1, s2, s3', at1, e1, e2, e3, e4, e5, p3, st', -fMul_int]
            · have := of_decide_eq_false z
              rw [← hE]
              match f with
              | 0 => rfl
              | f + 1 =>
                unfold ex
                rw [if_neg (by omega)]
            · simp only [slotB, slotN, fS, eget_succ, eget_zero, Int.toNat_natCast, if_true]
              have q : ∀ (b : Bool) (x y : Nat), x < y → (if b = true then x else 0) < y := by
                intro b x y hx
                cases b
                · simp; omega
                · simp; omega
              exact q _ _ _ (by omega))
    whileFuel (fS (Dv ds) S h s3 (.v (vi i)) F (.v (vi 1)) (.v (.bl (decide (i + 1 < ds.length)))) (.v (vi S)))
    ⟨1, (ds.drop i).length, s3, _, _, c3, Nat.le_refl _, by omega, by omega, fun z => ⟨of_decide_eq_true z, rfl, c1.symm⟩, fun z => by
      have := of_decide_eq_false z
      have e : (ds.drop i).length = 1 := by omega
      rw [e]
      unfold ex
      rw [if_neg (by omega)], rfl⟩ (by
      unfold whileFuel
      simp only [slotB, slotN, fS, eget_succ, eget_zero, Int.toNat_natCast]
      have q : ∀ (b : Bool) (x : Nat), x ≤ 20 → (if b = true then x else 0) < 1099511627776 := by
        intro b x hx
        cases b
        · simp
        · simp; omega
      exact q _ _ (by omega))
  exact main
theorem len_cast {l : List Val} {n : Nat} (h : l.length = n) : (l.length : Int) = (n : Int) := by rw [h]
/-- how far the rule is -/
def SInv (ds : List Nat) (S h : Nat) (ps : List Nat) : Prop := ps.length ≤ ds.length ∧ ∃ f, ds.length ≤ ps.length + f ∧ ps ++ sil S h f (ds.drop ps.length) = sil S h ds.length ds
def lot (ds : List Nat) (S h i : Nat) : List Nat := ((ds.drop i).take (eo S h (ds.drop i))).sum :: List.replicate (eo S h (ds.drop i) - 1) 0
theorem lot_len {ds : List Nat} {S h i : Nat} : (lot ds S h i).length = eo S h (ds.drop i) := by
  have := eo_ge (S := S) (h := h) (l := ds.drop i)
  unfold lot
  rw [List.length_cons, List.length_replicate]
  omega
theorem sinv_next {ds ps : List Nat} {S h : Nat} (I : SInv ds S h ps) (hl : ps.length < ds.length) : SInv ds S h (ps ++ lot ds S h ps.length) := by
  obtain ⟨h1, f, h2, h3⟩ := I
  have hne : ds.drop ps.length ≠ [] := by
    intro z
    have := congrArg List.length z
    rw [List.length_drop, List.length_nil] at this
    omega
  have g1 := eo_ge (S := S) (h := h) (l := ds.drop ps.length)
  have g2 := eo_le (S := S) (h := h) hne
  rw [List.length_drop] at g2
  refine ⟨by rw [List.length_append, lot_len]; omega, ?_⟩
  match f, h2, h3 with
  | 0, h2, _ => omega
  | f + 1, h2, h3 =>
    refine ⟨f, by rw [List.length_append, lot_len]; omega, ?_⟩
    rw [← h3, List.length_append, lot_len, ← List.drop_drop]
    cases hd : ds.drop ps.length with
    | nil => exact absurd hd hne
    | cons a l =>
      unfold lot
      rw [hd, List.append_assoc]
      rfl
theorem sinv_end {ds ps : List Nat} {S h : Nat} (I : SInv ds S h ps) (hl : ¬ ps.length < ds.length) : ps = sil S h ds.length ds := by
  obtain ⟨h1, f, h2, h3⟩ := I
  have e : ds.drop ps.length = [] := List.drop_eq_nil_of_le (by omega)
  rw [e] at h3
  rw [← h3]
  cases f <;> simp [sil]
theorem sinv_0 {ds : List Nat} {S h : Nat} : SInv ds S h [] := ⟨Nat.zero_le _, ds.length, by simp, by simp⟩
theorem eo_pos {ds : List Nat} {S h i : Nat} (hi : i < ds.length) (hp : 0 < dn ds i) : eo S h (ds.drop i) = ex S h (ds.drop i) (ds.drop i).length 1 := by
  unfold eo
  rw [List.drop_eq_getElem_cons hi, List.headD_cons, if_neg (by rw [dn_at hi] at hp; omega)]
theorem eo_zero {ds : List Nat} {S h i : Nat} (hi : i < ds.length) (hp : dn ds i = 0) : eo S h (ds.drop i) = 1 := by
  unfold eo
  rw [List.drop_eq_getElem_cons hi, List.headD_cons, if_pos (by rw [dn_at hi] at hp; exact hp)]
theorem lot_zero {ds : List Nat} {S h i : Nat} (hi : i < ds.length) (hp : dn ds i = 0) : lot ds S h i = [0] := by
  unfold lot
  rw [eo_zero hi hp, List.drop_eq_getElem_cons hi]
  rw [dn_at hi] at hp
  simp [hp]
theorem lot_map {ds : List Nat} {S h i : Nat} : (lot ds S h i).map vi = vi ((ds.drop i).take (eo S h (ds.drop i))).sum :: (List.replicate (eo S h (ds.drop i) - 1) 0).map vi := rfl
theorem rep_fMul {k : Nat} (hk : k ≤ 1000) : fMul (.lst [.int 0]) (.int (k : Int)) = some (.own (.lst ((List.replicate k 0).map vi))) := by
  rw [fMul_lst, if_pos ⟨by omega, by simp; omega⟩, Int.toNat_natCast]
  have := rep_vi k
  rw [← this]
  rfl
/-! #### the law's -/
theorem lsilver3 {ds ps : List Nat} {S h : Nat} {s3 s4 s6 s7 s8 : Slot} (hb : Bd ds) (hS : S ≤ 1000) (hh : h ≤ 20) (hl : ps.length < ds.length) (c3 : Cv s3) (c4 : Cv s4) (c6 : Cv s6) (c7 : Cv s7) (c8 : Cv s8) :
    ∃ s3' s4' s6' s7' s8', Cv s3' ∧ Cv s4' ∧ Cv s6' ∧ Cv s7' ∧ Cv s8' ∧ (b__law_silver_3 (fS (Dv ds) S h s3 s4 (ps.map vi) s6 s7 s8) = .ok .nx (fS (Dv ds) S h s3' s4' ((ps ++ lot ds S h ps.length).map vi) s6' s7' s8') ∨ b__law_silver_3 (fS (Dv ds) S h s3 s4 (ps.map vi) s6 s7 s8) = .ok .ct (fS (Dv ds) S h s3' s4' ((ps ++ lot ds S h ps.length).map vi) s6' s7' s8')) := by
  have l12 := hb.1
  have p3 := c3.ok
  have p4 := c4.ok
  have p6 := c6.ok
  have p7 := c7.ok
  have p8 := c8.ok
  have at1 := atV_vi (l := ds) hl
  have hdn : ds.getD ps.length 0 = dn ds ps.length := rfl
  rw [hdn] at at1
  have dl : (ds.map vi).length = ds.length := by simp
  have pl : (ps.map vi).length = ps.length := by simp
  by_cases z : dn ds ps.length = 0
  · rw [lot_zero hl z, List.map_append]
    rw [z] at at1
    refine ⟨s3, .v (vi ps.length), .v (vi 1), s7, s8, c3, .v, .v, c7, c8, .inr ?_⟩
    unfold Dv
    generalize hpv : ps.map vi = pv at *
    generalize ds.map vi = dv at *
    have b1 : ps.length < 16777216 := by omega
    have c0 : ((0 : Nat) : Int) = 0 := rfl
    have c1 : ((1 : Nat) : Int) = 1 := rfl
    simp only [fS, vi, c0, c1, List.map_cons, List.map_nil] at *
    simp [at1, p4, p6, pl, b1]
  · obtain ⟨u3, u7, u8, f3, f7, f8, e1⟩ := silver_in (i := ps.length) (F := ps.map vi) (s3 := s3) hb hS hh hl (by omega) c3
    rw [← eo_pos hl (by omega)] at e1
    have g1 := eo_ge (S := S) (h := h) (l := ds.drop ps.length)
    have g2 := eo_le (S := S) (h := h) (l := ds.drop ps.length) (by
      intro q
      have := congrArg List.length q
      rw [List.length_drop, List.length_nil] at this
      omega)
    rw [List.length_drop] at g2
    rw [List.map_append, lot_map]
    have hcut : cutG (ds.map vi) (some (ps.length : Int)) (some ((ps.length + eo S h (ds.drop ps.length) : Nat) : Int)) = ((ds.drop ps.length).take (eo S h (ds.drop ps.length))).map vi := by
      rw [cut_nn _ (by omega) (by rw [List.length_map]; omega), Nat.add_sub_cancel_left, List.map_take, List.map_drop]
    have hsm := ints_vi ((ds.drop ps.length).take (eo S h (ds.drop ps.length)))
    have is1 := isum ((ds.drop ps.length).take (eo S h (ds.drop ps.length)))
    have hrep := rep_fMul (k := eo S h (ds.drop ps.length) - 1) (by omega)
    have rl : ((List.replicate (eo S h (ds.drop ps.length) - 1) 0).map vi).length = eo S h (ds.drop ps.length) - 1 := by simp
    have esub : ((eo S h (ds.drop ps.length) : Nat) : Int) - 1 = ((eo S h (ds.drop ps.length) - 1 : Nat) : Int) := by omega
    have eadd : (ps.length : Int) + ((eo S h (ds.drop ps.length) : Nat) : Int) = ((ps.length + eo S h (ds.drop ps.length) : Nat) : Int) := by omega
    have edec : decide ((ps.length : Int) + 1 < ((ds.map vi).length : Int)) = decide (ps.length + 1 < ds.length) := decide_eq_decide.mpr (by omega)
    refine ⟨u3, .v (vi ps.length), .v (vi (eo S h (ds.drop ps.length))), u7, u8, f3, .v, .v, f7, f8, .inl ?_⟩
    unfold Dv at *
    generalize (ds.drop ps.length).take (eo S h (ds.drop ps.length)) = l at *
    generalize eo S h (ds.drop ps.length) - 1 = k1 at *
    generalize ps.length + eo S h (ds.drop ps.length) = k2 at *
    generalize eo S h (ds.drop ps.length) = k0 at *
    generalize dn ds ps.length = d at *
    rw [← edec] at e1
    generalize (List.replicate k1 0).map vi = R at *
    generalize ps.map vi = pv at *
    generalize ds.map vi = dv at *
    have b1 : pv.length + 1 ≤ 16777216 := by omega
    have b2 : pv.length + 1 + R.length ≤ 16777216 := by omega
    have b3 : ps.length + 1 ≤ 16777216 := by omega
    have b4 : ps.length + 1 + R.length ≤ 16777216 := by omega
    have c1 : ((1 : Nat) : Int) = 1 := rfl
    simp only [fS, vi, c1] at *
    generalize (k2 : Int) = z2 at *
    generalize (k1 : Int) = z1 at *
    generalize hpl : (ps.length : Int) = pz at *
    simp [at1, z, p4, p6, p7, p8, pl, hpl, e1, hcut, hsm, is1, hrep, esub, eadd, b1, b2, b3, b4, -fMul_lst]
end Z
namespace Z
open Lot
open PySem (Str)
def slotL (e : Env) (i : Nat) : Nat := match eget e i with
  | .own _ (.lst xs) => xs.length
  | _ => 0
/-- the rule's plan -/
def silp (ds : List Nat) (S h : Nat) : List Nat := sil S h ds.length ds
theorem law_silver_ok {ds : List Nat} {S h : Nat} (hb : Bd ds) (hS : S ≤ 1000) (hh : h ≤ 20) : (m__law_silver [.v (Dv ds), .v (vi S), .v (vi h)]).out = .ok (.v (Dv (silp ds S h))) := by
  have l12 := hb.1
  have dl : (ds.map vi).length = ds.length := by simp
  have main := while_gen (c := tE (eOp fLt (eB fLen (asCons (eV 5) asNil)) (eB fLen (asCons (eV 0) asNil)))) (b := b__law_silver_3)
    (fun r => ∃ s3 s4 s6 s7 s8, r = .ok .nx (fS (Dv ds) S h s3 s4 ((silp ds S h).map vi) s6 s7 s8))
    (fun e => ∃ ps s3 s4 s6 s7 s8, SInv ds S h ps ∧ Cv s3 ∧ Cv s4 ∧ Cv s6 ∧ Cv s7 ∧ Cv s8 ∧ e = fS (Dv ds) S h s3 s4 (ps.map vi) s6 s7 s8)
    (fun e => ds.length - slotL e 5) (fun e ⟨ps, s3, s4, s6, s7, s8, I, c3, c4, c6, c7, c8, he⟩ => by
      subst he
      have pl : (ps.map vi).length = ps.length := by simp
      refine ⟨decide (ps.length < ds.length), fS (Dv ds) S h s3 s4 (ps.map vi) s6 s7 s8, ?_, fun z => ?_, fun z => .inl ?_⟩
      · have edec : decide (((ps.map vi).length : Int) < ((ds.map vi).length : Int)) = decide (ps.length < ds.length) := decide_eq_decide.mpr (by omega)
        unfold Dv
        generalize ds.map vi = dv at *
        generalize ps.map vi = pv at *
        rw [← edec]
        simp [fS]
      · have e := sinv_end I (of_decide_eq_false z)
        exact ⟨s3, s4, s6, s7, s8, by rw [e]; rfl⟩
      · have hl := of_decide_eq_true z
        obtain ⟨u3, u4, u6, u7, u8, f3, f4, f6, f7, f8, e1⟩ := lsilver3 hb hS hh hl c3 c4 c6 c7 c8
        refine ⟨_, e1, ⟨_, _, _, _, _, _, sinv_next I hl, f3, f4, f6, f7, f8, rfl⟩, ?_⟩
        have g1 := lot_len (ds := ds) (S := S) (h := h) (i := ps.length)
        have g2 := eo_ge (S := S) (h := h) (l := ds.drop ps.length)
        simp only [slotL, fS, eget_succ, eget_zero, List.length_map, List.length_append]
        omega)
    whileFuel (fS (Dv ds) S h .emp .emp ([].map vi) .emp .emp .emp) ⟨[], _, _, _, _, _, sinv_0, .e, .e, .e, .e, .e, rfl⟩ (by
      unfold whileFuel
      simp only [slotL, fS, eget_succ, eget_zero, List.length_map, List.length_nil]
      omega)
  obtain ⟨s3, s4, s6, s7, s8, h5⟩ := main
  unfold Dv at *
  generalize (silp ds S h).map vi = sv at *
  generalize ds.map vi = dv at *
  simp only [fS, vi, List.map_nil] at *
  simp [m__law_silver, b__law_silver, h5]
/-! #### the program's -/
def fT (D : Val) (S h : Nat) (s3 s4 : Slot) (F : List Val) : Env := [.v D, .v (vi S), .v (vi h), s3, s4, .own false (.lst F)]
theorem psilver3 {ds ps : List Nat} {S h : Nat} {s3 s4 : Slot} (hb : Bd ds) (hS : S ≤ 1000) (hh : h ≤ 20) (hl : ps.length < ds.length) (c3 : Cv s3) (c4 : Cv s4) :
    ∃ s3' s4', Cv s3' ∧ Cv s4' ∧ b_silver_3 (fT (Dv ds) S h s3 s4 (ps.map vi)) = .ok .nx (fT (Dv ds) S h s3' s4' ((ps ++ lot ds S h ps.length).map vi)) := by
  have l12 := hb.1
  have p3 := c3.ok
  have p4 := c4.ok
  have at1 := atV_vi (l := ds) hl
  have hdn : ds.getD ps.length 0 = dn ds ps.length := rfl
  rw [hdn] at at1
  have dl : (ds.map vi).length = ds.length := by simp
  have pl : (ps.map vi).length = ps.length := by simp
  have e1 := end_of_lot_ok (i := ps.length) hb hS hh hl
  have g1 := eo_ge (S := S) (h := h) (l := ds.drop ps.length)
  have g2 := eo_le (S := S) (h := h) (l := ds.drop ps.length) (by
    intro q
    have := congrArg List.length q
    rw [List.length_drop, List.length_nil] at this
    omega)
  rw [List.length_drop] at g2
  rw [List.map_append, lot_map]
  have hcut : cutG (ds.map vi) (some (ps.length : Int)) (some ((ps.length + eo S h (ds.drop ps.length) : Nat) : Int)) = ((ds.drop ps.length).take (eo S h (ds.drop ps.length))).map vi := by
    rw [cut_nn _ (by omega) (by rw [List.length_map]; omega), Nat.add_sub_cancel_left, List.map_take, List.map_drop]
  have hsm := ints_vi ((ds.drop ps.length).take (eo S h (ds.drop ps.length)))
  have is1 := isum ((ds.drop ps.length).take (eo S h (ds.drop ps.length)))
  have hrep := rep_fMul (k := eo S h (ds.drop ps.length) - 1) (by omega)
  have rl : ((List.replicate (eo S h (ds.drop ps.length) - 1) 0).map vi).length = eo S h (ds.drop ps.length) - 1 := by simp
  have esub : ((ps.length + eo S h (ds.drop ps.length) : Nat) : Int) - (ps.length : Int) - 1 = ((eo S h (ds.drop ps.length) - 1 : Nat) : Int) := by omega
  have k1b : eo S h (ds.drop ps.length) - 1 ≤ 12 := by omega
  refine ⟨.v (vi (ps.length + eo S h (ds.drop ps.length))), .v (vi ps.length), .v, .v, ?_⟩
  by_cases z : dn ds ps.length = 0
  · have ez := eo_zero (S := S) (h := h) hl z
    have eadd : (ps.length : Int) + 1 = ((ps.length + eo S h (ds.drop ps.length) : Nat) : Int) := by rw [ez]; omega
    rw [z] at at1
    unfold Dv at *
    clear ez e1
    generalize (ds.drop ps.length).take (eo S h (ds.drop ps.length)) = l at *
    generalize eo S h (ds.drop ps.length) - 1 = k1 at *
    generalize ps.length + eo S h (ds.drop ps.length) = k2 at *
    generalize (List.replicate k1 0).map vi = R at *
    generalize ps.map vi = pv at *
    generalize ds.map vi = dv at *
    have b1 : 1 + R.length ≤ 16777216 := by omega
    have b2 : ps.length + (R.length + 1) ≤ 16777216 := by omega
    have c0 : ((0 : Nat) : Int) = 0 := rfl
    simp only [fT, vi, c0] at *
    generalize (k2 : Int) = z2 at *
    generalize (k1 : Int) = z1 at *
    generalize hpl : (ps.length : Int) = pz at *
    simp [at1, p3, p4, pl, hpl, hcut, hsm, is1, hrep, esub, eadd, b1, b2, -fMul_lst]
  · rw [← eo_pos hl (by omega)] at e1
    have zp : (0 : Int) < (dn ds ps.length : Int) := by omega
    have zp' : 0 < dn ds ps.length := by omega
    unfold Dv at *
    generalize (ds.drop ps.length).take (eo S h (ds.drop ps.length)) = l at *
    generalize eo S h (ds.drop ps.length) - 1 = k1 at *
    generalize ps.length + eo S h (ds.drop ps.length) = k2 at *
    generalize dn ds ps.length = d at *
    generalize (List.replicate k1 0).map vi = R at *
    generalize ps.map vi = pv at *
    generalize ds.map vi = dv at *
    have b1 : 1 + R.length ≤ 16777216 := by omega
    have b2 : ps.length + (R.length + 1) ≤ 16777216 := by omega
    simp only [fT, vi] at *
    generalize (k2 : Int) = z2 at *
    generalize (k1 : Int) = z1 at *
    generalize hpl : (ps.length : Int) = pz at *
    simp [at1, zp, zp', p3, p4, pl, hpl, e1, hcut, hsm, is1, hrep, esub, b1, b2, -fMul_lst]
theorem silver_ok {ds : List Nat} {S h : Nat} (hb : Bd ds) (h1 : 1 ≤ ds.length) (hS : S ≤ 1000) (hh : h ≤ 20) : (m_silver [.v (Dv ds), .v (vi S), .v (vi h)]).out = .ok (.v (Dv (silp ds S h))) := by
  have l12 := hb.1
  have ec := check_ok hb h1 hS hh
  have dl : (ds.map vi).length = ds.length := by simp
  have main := while_gen (c := tE (eOp fLt (eB fLen (asCons (eV 5) asNil)) (eB fLen (asCons (eV 0) asNil)))) (b := b_silver_3)
    (fun r => ∃ s3 s4, r = .ok .nx (fT (Dv ds) S h s3 s4 ((silp ds S h).map vi)))
    (fun e => ∃ ps s3 s4, SInv ds S h ps ∧ Cv s3 ∧ Cv s4 ∧ e = fT (Dv ds) S h s3 s4 (ps.map vi))
    (fun e => ds.length - slotL e 5) (fun e ⟨ps, s3, s4, I, c3, c4, he⟩ => by
      subst he
      have pl : (ps.map vi).length = ps.length := by simp
      refine ⟨decide (ps.length < ds.length), fT (Dv ds) S h s3 s4 (ps.map vi), ?_, fun z => ?_, fun z => .inl ?_⟩
      · have edec : decide (((ps.map vi).length : Int) < ((ds.map vi).length : Int)) = decide (ps.length < ds.length) := decide_eq_decide.mpr (by omega)
        unfold Dv
        generalize ds.map vi = dv at *
        generalize ps.map vi = pv at *
        rw [← edec]
        simp [fT]
      · have e := sinv_end I (of_decide_eq_false z)
        exact ⟨s3, s4, by rw [e]; rfl⟩
      · have hl := of_decide_eq_true z
        obtain ⟨u3, u4, f3, f4, e1⟩ := psilver3 hb hS hh hl c3 c4
        refine ⟨_, .inl e1, ⟨_, _, _, sinv_next I hl, f3, f4, rfl⟩, ?_⟩
        have g1 := lot_len (ds := ds) (S := S) (h := h) (i := ps.length)
        have g2 := eo_ge (S := S) (h := h) (l := ds.drop ps.length)
        simp only [slotL, fT, eget_succ, eget_zero, List.length_map, List.length_append]
        omega)
    whileFuel (fT (Dv ds) S h .emp .emp ([].map vi)) ⟨[], _, _, sinv_0, .e, .e, rfl⟩ (by
      unfold whileFuel
      simp only [slotL, fT, eget_succ, eget_zero, List.length_map, List.length_nil]
      omega)
  obtain ⟨s3, s4, h5⟩ := main
  unfold Dv at *
  generalize (silp ds S h).map vi = sv at *
  generalize ds.map vi = dv at *
  simp only [fT, vi, List.map_nil] at *
  simp [m_silver, b_silver, ec, h5]
/-! ### plans of lots are plans -/
theorem LP.pl {ds xs : List Nat} (h : LP ds xs) : Pl ds xs ∧ xs.length = ds.length ∧ sm (dn xs) ds.length = sm (dn ds) ds.length := by
  have hl := h.len
  have hs := h.sum
  have e : sm (dn xs) ds.length = sm (dn ds) ds.length := by
    rw [← hl, ← all_sum, hl, ← all_sum, hs]
  refine ⟨⟨fun t ht => ?_, by rw [hl, e]; exact Nat.le_refl _⟩, hl, e⟩
  rw [← take_sum (by omega), ← take_sum (by omega)]
  exact h.ge _
end Z
namespace Z
open Lot
open PySem (Str)
/-! ### the law's cost -/
def fC (D : Val) (S h : Nat) (P : Val) (s4 s5 s6 : Slot) : Env := [.v D, .v (vi S), .v (vi h), .v P, s4, s5, s6]
theorem law_cost_ok {ds xs : List Nat} {S h : Nat} (hb : Bd ds) (hS : S ≤ 1000) (hh : h ≤ 20) (p : Pl ds xs) (hl : xs.length = ds.length) : (m__law_cost [.v (Dv ds), .v (vi S), .v (vi h), .v (Dv xs)]).out = .ok (.v (vi (pc (dn ds) (dn xs) S h ds.length))) := by
  have l12 := hb.1
  have hsum := hb.sum
  rw [all_sum] at hsum
  have dl : (ds.map vi).length = ds.length := by simp
  have key : ∃ e', forL (tgN 4) b__law_cost_2 (rangeV 0 ds.length) (fC (Dv ds) S h (Dv xs) .emp (.v (vi (sm (dn xs) 0 - sm (dn ds) 0))) (.v (vi (pc (dn ds) (dn xs) S h 0)))) = .ok .nx e' ∧
      ∃ s4 s5, e' = fC (Dv ds) S h (Dv xs) s4 s5 (.v (vi (pc (dn ds) (dn xs) S h ds.length))) := by
    have := range_run (t := tgN 4) (b := b__law_cost_2) (lo := 0) (n := ds.length) (e := fC (Dv ds) S h (Dv xs) .emp (.v (vi (sm (dn xs) 0 - sm (dn ds) 0))) (.v (vi (pc (dn ds) (dn xs) S h 0))))
      (fun i e => ∃ s4, Cv s4 ∧ e = fC (Dv ds) S h (Dv xs) s4 (.v (vi (sm (dn xs) i - sm (dn ds) i))) (.v (vi (pc (dn ds) (dn xs) S h i)))) ⟨_, .e, rfl⟩ fun i e hi ⟨s4, d4, he⟩ => by
        subst he
        have e0 : (0 : Int) + i = (i : Int) := by omega
        have p4 := d4.ok
        have at1 := atV_vi (l := ds) hi
        have at2 := atV_vi (l := xs) (k := i) (by omega)
        have hd1 : ds.getD i 0 = dn ds i := rfl
        have hd2 : xs.getD i 0 = dn xs i := rfl
        rw [hd1] at at1
        rw [hd2] at at2
        have g1 := p.ge i (by omega)
        have g0 : sm (dn ds) i ≤ sm (dn xs) i := by
          by_cases z : i = 0
          · subst z; exact Nat.le_refl _
          · have := p.ge (i - 1) (by omega)
            rw [show i - 1 + 1 = i by omega] at this
            exact this
        have x1 : sm (dn xs) (i + 1) = sm (dn xs) i + dn xs i := rfl
        have x2 : sm (dn ds) (i + 1) = sm (dn ds) i + dn ds i := rfl
        have up : sm (dn xs) (i + 1) ≤ sm (dn xs) xs.length := sm_mono (by omega)
        have ple := p.le
        have e3 : ((sm (dn xs) i - sm (dn ds) i : Nat) : Int) + (dn xs i : Int) - (dn ds i : Int) = ((sm (dn xs) (i + 1) - sm (dn ds) (i + 1) : Nat) : Int) := by omega
        have kb : sm (dn xs) (i + 1) - sm (dn ds) (i + 1) ≤ 1200 := by omega
        have epc : pc (dn ds) (dn xs) S h (i + 1) = pc (dn ds) (dn xs) S h i + ((if 0 < dn xs i then S else 0) + h * (sm (dn xs) (i + 1) - sm (dn ds) (i + 1))) := rfl
        rw [epc, e0]
        clear epc g1 g0 x1 x2 up
        generalize sm (dn xs) (i + 1) - sm (dn ds) (i + 1) = t1 at *
        generalize sm (dn xs) i - sm (dn ds) i = t0 at *
        generalize pc (dn ds) (dn xs) S h i = t2 at *
        have e4 : fMul (vi h) (vi t1) = some (.v (vi (h * t1))) := by rw [mul_sm (by omega) (by omega)]; simp
        have e5 : fMul (vi S) (.int 1) = some (.v (vi S)) := by rw [mul_sm (by omega) (by omega)]; simp
        have e6 : fMul (vi S) (.int 0) = some (.v (.int 0)) := by rw [mul_sm (by omega) (by omega)]; simp
        refine ⟨fC (Dv ds) S h (Dv xs) (.v (vi i)) (.v (vi t0)) (.v (vi t2)), fC (Dv ds) S h (Dv xs) (.v (vi i)) (.v (vi t1)) (.v (vi (t2 + ((if 0 < dn xs i then S else 0) + h * t1)))), by simp [fC, p4], .inl ?_, _, .v, rfl⟩
        by_cases z : 0 < dn xs i
        · have z' : (0 : Int) < (dn xs i : Int) := by omega
          rw [if_pos z]
          have e7 : (t2 : Int) + ((h * t1 : Nat) : Int) + (S : Int) = ((t2 + (S + h * t1) : Nat) : Int) := by omega
          unfold Dv
          generalize t2 + (S + h * t1) = t3 at *
          generalize h * t1 = t4 at *
          generalize xs.map vi = xv at *
          generalize ds.map vi = dv at *
          generalize dn xs i = x at *
          generalize dn ds i = d at *
          simp only [fC, vi] at *
          simp [at1, at2, e3, e4, e5, z, z', e7, -fMul_int]
        · have z' : ¬ (0 : Int) < (dn xs i : Int) := by omega
          rw [if_neg z, Nat.zero_add]
          have e7 : (t2 : Int) + ((h * t1 : Nat) : Int) = ((t2 + h * t1 : Nat) : Int) := by omega
          unfold Dv
          generalize t2 + h * t1 = t3 at *
          generalize h * t1 = t4 at *
          generalize xs.map vi = xv at *
          generalize ds.map vi = dv at *
          generalize dn xs i = x at *
          generalize dn ds i = d at *
          simp only [fC, vi] at *
          simp [at1, at2, e3, e4, e6, z, z', e7, -fMul_int]
    obtain ⟨e', h5, s4, d4, he⟩ := this
    exact ⟨e', h5, s4, _, he⟩
  obtain ⟨e', h5, s4, s5, he⟩ := key
  subst he
  have s0 : sm (dn xs) 0 - sm (dn ds) 0 = 0 := rfl
  have p0 : pc (dn ds) (dn xs) S h 0 = 0 := rfl
  rw [s0, p0] at h5
  have r1 : inR (ds.length : Int) = true := inR_of (by omega) (by omega)
  unfold Dv at *
  generalize pc (dn ds) (dn xs) S h ds.length = R at *
  generalize xs.map vi = xv at *
  generalize ds.map vi = dv at *
  have c0 : ((0 : Nat) : Int) = 0 := rfl
  simp only [fC, vi, c0] at *
  simp [m__law_cost, b__law_cost, dl, rng1_int _ r1, h5]
/-! ### what is a plan -/
/-- what is kept, below 0 too -/
def kpI (ds xs : List Nat) (n : Nat) : List Int := (List.range n).map fun t => (sm (dn xs) (t + 1) : Int) - (sm (dn ds) (t + 1) : Int)
theorem kpI_succ {ds xs : List Nat} {n : Nat} : kpI ds xs (n + 1) = kpI ds xs n ++ [(sm (dn xs) (n + 1) : Int) - (sm (dn ds) (n + 1) : Int)] := by
  unfold kpI
  rw [List.range_succ, List.map_append]
  rfl
theorem kpI_len {ds xs : List Nat} {n : Nat} : (kpI ds xs n).length = n := by simp [kpI]
theorem keptI_ok {ds xs : List Nat} (hl : xs.length = ds.length) (hn : ds.length ≤ 12) : (m_kept_by [.v (Dv ds), .v (Dv xs)]).out = .ok (.own (.lst ((kpI ds xs ds.length).map Val.int))) := by
  have key : ∃ e', forL (tgT [tgN 5, tgN 4]) b_kept_by_2 (zipV (ds.map vi) (xs.map vi)) [.v (Dv ds), .v (Dv xs), .own false (.lst ((kpI ds xs 0).map Val.int)), .v (.int ((sm (dn xs) 0 : Int) - (sm (dn ds) 0 : Int))), .emp, .emp] = .ok .nx e' ∧
      ∃ s3 s4 s5, e' = [.v (Dv ds), .v (Dv xs), .own false (.lst ((kpI ds xs (zipV (ds.map vi) (xs.map vi)).length).map Val.int)), s3, s4, s5] := by
    have := for_run (t := tgT [tgN 5, tgN 4]) (b := b_kept_by_2) (xs := zipV (ds.map vi) (xs.map vi)) (e := [.v (Dv ds), .v (Dv xs), .own false (.lst ((kpI ds xs 0).map Val.int)), .v (.int ((sm (dn xs) 0 : Int) - (sm (dn ds) 0 : Int))), .emp, .emp])
      (fun i e => ∃ s4 s5, Cv s4 ∧ Cv s5 ∧ e = [.v (Dv ds), .v (Dv xs), .own false (.lst ((kpI ds xs i).map Val.int)), .v (.int ((sm (dn xs) i : Int) - (sm (dn ds) i : Int))), s4, s5]) ⟨_, _, .e, .e, rfl⟩ fun i x e hx ⟨s4, s5, d4, d5, he⟩ => by
        subst he
        obtain ⟨h1, h2, rfl⟩ := zip_vi hx
        have p4 := d4.ok
        have p5 := d5.ok
        have e1 : sm (dn xs) (i + 1) = sm (dn xs) i + dn xs i := rfl
        have e2 : sm (dn ds) (i + 1) = sm (dn ds) i + dn ds i := rfl
        have e3 : ((sm (dn xs) i : Int) - (sm (dn ds) i : Int)) + ((dn xs i : Int) - (dn ds i : Int)) = (sm (dn xs) (i + 1) : Int) - (sm (dn ds) (i + 1) : Int) := by omega
        have em : (kpI ds xs (i + 1)).map Val.int = (kpI ds xs i).map Val.int ++ [.int ((sm (dn xs) (i + 1) : Int) - (sm (dn ds) (i + 1) : Int))] := by
          rw [kpI_succ, List.map_append]
          rfl
        have ln : ((kpI ds xs i).map Val.int).length < 16777216 := by
          rw [List.length_map, kpI_len]
          omega
        rw [em]
        clear e1 e2
        generalize (sm (dn xs) (i + 1) : Int) - (sm (dn ds) (i + 1) : Int) = t1 at *
        generalize (sm (dn xs) i : Int) - (sm (dn ds) i : Int) = t0 at *
        generalize (kpI ds xs i).map Val.int = L at *
        generalize dn xs i = a at *
        generalize dn ds i = b at *
        generalize Dv ds = D at *
        generalize Dv xs = X at *
        simp only [vi] at *
        refine ⟨[.v D, .v X, .own false (.lst L), .v (.int t0), .v (.int a), .v (.int b)], [.v D, .v X, .own false (.lst (L ++ [.int t1])), .v (.int t1), .v (.int a), .v (.int b)], by simp [p4, p5], .inl ?_, _, _, .v, .v, rfl⟩
        simp [e3, ln]
    obtain ⟨e', h5, s4, s5, d4, d5, he⟩ := this
    exact ⟨e', h5, _, _, _, he⟩
  obtain ⟨e', h5, s3, s4, s5, he⟩ := key
  subst he
  have el : (zipV (ds.map vi) (xs.map vi)).length = ds.length := by
    rw [zipV_len, List.length_map, List.length_map, hl, Nat.min_self]
  rw [el] at h5
  have k0 : kpI ds xs 0 = [] := rfl
  have s0 : (sm (dn xs) 0 : Int) - (sm (dn ds) 0 : Int) = 0 := rfl
  rw [k0, s0] at h5
  unfold Dv at *
  generalize (kpI ds xs ds.length).map Val.int = K at *
  generalize xs.map vi = xv at *
  generalize ds.map vi = dv at *
  simp only [vi, List.map_nil] at *
  simp [m_kept_by, b_kept_by, h5]
/-- a row of naturals is a plan -/
def OkP (ds xs : List Nat) : Prop := (∀ t, t < ds.length → sm (dn ds) (t + 1) ≤ sm (dn xs) (t + 1)) ∧ sm (dn xs) ds.length = sm (dn ds) ds.length
theorem OkP.pl {ds xs : List Nat} (h : OkP ds xs) (hl : xs.length = ds.length) : Pl ds xs := ⟨fun t ht => h.1 t (by omega), by rw [hl, h.2]; exact Nat.le_refl _⟩
theorem min_ints {l : List Int} (h : l ≠ []) : ∃ m : Int, m ∈ l ∧ (∀ x ∈ l, m ≤ x) ∧ fMinX [.lst (l.map Val.int)] = some (.v (.int m)) := by
  match l, h with
  | a :: l, _ =>
    obtain ⟨g1, g2⟩ := mnL_le l a
    refine ⟨mnL a l, ?_, fun x hx => ?_, ?_⟩
    · rcases mnL_mem l a with e | e
      · rw [e]; exact List.mem_cons_self
      · exact List.mem_cons_of_mem _ e
    · rcases List.mem_cons.mp hx with rfl | hx
      · exact g1
      · exact g2 x hx
    · have e := ints?_map (a :: l)
      unfold fMinX fOr
      have : fMinL [.lst ((a :: l).map Val.int)] = some (.v (.int (mnL a l))) := by
        show (match ints? ((a :: l).map Val.int) with | some (m :: r) => some (RV.v (.int (mnL m r))) | _ => none) = _
        rw [e]
      rw [this]
/-- the end of both questions -/
theorem kp_end {ds xs : List Nat} (h1 : 1 ≤ ds.length) : ∃ m z : Int, fMinX [.lst ((kpI ds xs ds.length).map Val.int)] = some (.v (.int m)) ∧ Z.atV ((kpI ds xs ds.length).map Val.int) (-1) = some (.int z) ∧ ((0 ≤ m ∧ z = 0) ↔ OkP ds xs) := by
  have hne : kpI ds xs ds.length ≠ [] := fun q => by
    have := congrArg List.length q
    rw [kpI_len, List.length_nil] at this
    omega
  obtain ⟨m, hm, hle, e⟩ := min_ints hne
  refine ⟨m, (sm (dn xs) ds.length : Int) - (sm (dn ds) ds.length : Int), e, ?_, ?_⟩
  · unfold Z.atV
    rw [if_neg (by omega), List.length_map, kpI_len, if_pos (by omega), show (-1 + (ds.length : Int)).toNat = ds.length - 1 by omega]
    unfold kpI
    rw [List.map_map, List.getElem?_map, List.getElem?_range (by omega)]
    show some (Val.int ((sm (dn xs) (ds.length - 1 + 1) : Int) - (sm (dn ds) (ds.length - 1 + 1) : Int))) = _
    rw [show ds.length - 1 + 1 = ds.length by omega]
  · constructor
    · intro ⟨a, b⟩
      refine ⟨fun t ht => ?_, by omega⟩
      have := hle ((sm (dn xs) (t + 1) : Int) - (sm (dn ds) (t + 1) : Int)) (List.mem_map.mpr ⟨t, List.mem_range.mpr ht, rfl⟩)
      omega
    · intro ⟨a, b⟩
      refine ⟨?_, by omega⟩
      obtain ⟨t, ht, e⟩ := List.mem_map.mp hm
      have := a t (List.mem_range.mp ht)
      omega
end Z
namespace Z
open Lot
open PySem (Str)
/-! ### the program's is_plan -/
theorem plan_nt {ds : List Nat} {v : Val} (hb : Bd ds) (hp : plainV v = true) (ht : ∀ us, v ≠ .tup us) : (m_is_plan [.v (Dv ds), .v v]).out = .ok (.v (.bl false)) := by
  have hsm := ints_vi ds
  have is1 := isum ds
  have er : ∀ a b : Val, (m_is_row [.v v, .v a, .v (.int 0), .v b]).out = .ok (.v (.bl false)) := fun a b => by
    have e1 : (m_is_tuple_of [.v v, .v a]).out = .ok (.v (.bl false)) := by
      cases v with
      | tup us => exact absurd rfl (ht us)
      | dic _ => cases hp
      | obj _ _ => cases hp
      | scr _ => cases hp
      | _ => simp [m_is_tuple_of, b_is_tuple_of]
    simp [m_is_row, b_is_row, e1]
  unfold Dv
  generalize ds.map vi = dv at *
  try simp only [vi] at *
  simp [m_is_plan, b_is_plan, hsm, is1, er]
theorem plan_bad {ds : List Nat} {us : List Val} (hb : Bd ds) (hp : ∀ u ∈ us, plainV u = true) (hl : us.length ≤ 1000) (hbad : us.length ≠ ds.length ∨ (us.all fun u => isI u 0 ((sm (dn ds) ds.length : Nat) : Int)) = false) : (m_is_plan [.v (Dv ds), .v (.tup us)]).out = .ok (.v (.bl false)) := by
  have hsm := ints_vi ds
  have is1 := isum ds
  rw [all_sum] at is1
  have er := row_ok (xs := us) (n := ds.length) (lo := 0) (hi := ((sm (dn ds) ds.length : Nat) : Int)) hp hl
  have ez : (decide (us.length = ds.length) && us.all fun u => isI u 0 ((sm (dn ds) ds.length : Nat) : Int)) = false := by
    rcases hbad with h | h
    · rw [decide_eq_false h, Bool.false_and]
    · rw [h, Bool.and_false]
  rw [ez] at er
  have dl : (ds.map vi).length = ds.length := by simp
  unfold Dv
  generalize sm (dn ds) ds.length = t at *
  generalize ds.map vi = dv at *
  rw [← dl] at er
  simp only [vi] at *
  simp [m_is_plan, b_is_plan, hsm, is1, er]
theorem plan_f {ds xs : List Nat} (hb : Bd ds) (h1 : 1 ≤ ds.length) (hl : xs.length = ds.length) (no : ¬ OkP ds xs) : (m_is_plan [.v (Dv ds), .v (Dv xs)]).out = .ok (.v (.bl false)) := by
  have l12 := hb.1
  cases hr : ((xs.map vi).all fun u => isI u 0 ((sm (dn ds) ds.length : Nat) : Int)) with
  | false => exact plan_bad hb (plain_vis xs) (by rw [List.length_map]; omega) (.inr hr)
  | true =>
    have er := row_ok (xs := xs.map vi) (n := ds.length) (lo := 0) (hi := ((sm (dn ds) ds.length : Nat) : Int)) (plain_vis xs) (by rw [List.length_map]; omega)
    rw [hr, Bool.and_true, decide_eq_true (show (xs.map vi).length = ds.length by rw [List.length_map]; exact hl)] at er
    have ek := keptI_ok hl l12
    obtain ⟨m, z, e1, e2, iff⟩ := kp_end (xs := xs) h1
    have hsm := ints_vi ds
    have is1 := isum ds
    rw [all_sum] at is1
    have dl : (ds.map vi).length = ds.length := by simp
    unfold Dv at *
    generalize (kpI ds xs ds.length).map Val.int = K at *
    generalize sm (dn ds) ds.length = t at *
    generalize xs.map vi = xv at *
    generalize ds.map vi = dv at *
    rw [← dl] at er
    simp only [vi] at *
    by_cases hm : 0 ≤ m
    · have hz : ¬ z = 0 := fun q => no (iff.mp ⟨hm, q⟩)
      simp [m_is_plan, b_is_plan, hsm, is1, er, ek, e1, e2, hm, hz]
    · simp [m_is_plan, b_is_plan, hsm, is1, er, ek, e1, hm]
/-! ### the law's -/
def flat3 : Val → Bool
  | .non => true
  | .bl _ => true
  | .int _ => true
  | _ => false
def pbad : Val → Bool
  | .int i => decide (i < 0)
  | _ => true
theorem lplan_nt {ds : List Nat} {v : Val} (hp : plainV v = true) (ht : ∀ us, v ≠ .tup us) : (m__law_is_plan [.v (Dv ds), .v v]).out = .ok (.v (.bl false)) := by
  unfold Dv
  generalize ds.map vi = dv at *
  cases v with
  | tup us => exact absurd rfl (ht us)
  | dic _ => cases hp
  | obj _ _ => cases hp
  | scr _ => cases hp
  | _ => simp [m__law_is_plan, b__law_is_plan]
abbrev lpT : T := (tOr (tNot (tE (eUn (fIsi [.int]) (eV 3)))) (tOr (tE (eUn (fIsi [.bl]) (eV 3))) (tE (eOp fLt (eV 3) (eC (.int 0))))))
theorem lp_filter {D : Val} {us : List Val} (hp : ∀ u ∈ us, flat3 u = true) : compL [3] (tgN 3) lpT (eV 3) us [.v D, .v (.tup us), .emp, .emp, .emp] = .ok (us.filter pbad) [.v D, .v (.tup us), .emp, .emp, .emp] := by
  have := compL_pure (vs := [3]) (t := tgN 3) (c := lpT) (a := eV 3) (e := [.v D, .v (.tup us), .emp, .emp, .emp]) pbad id (xs := us) fun u hu => by
    have hf := hp u hu
    refine ⟨[.v D, .v (.tup us), .emp, .v u, .emp], by simp, ?_, fun _ => ⟨.v u, by simp, by simp⟩, by simp, by simp⟩
    cases u with
    | non => simp [pbad]
    | bl b => simp [pbad]
    | int i => by_cases c : i < 0 <;> simp [pbad, c]
    | _ => cases hf
  rw [this, List.map_id]
theorem vok_flat3 {u : Val} (h : flat3 u = true) (n : Nat) : vok n u = true := by
  cases u <;> first | (cases h; done) | (cases n <;> rfl)
theorem fNe_list {a : Val} {L : List Val} (h : ∀ u ∈ a :: L, flat3 u = true) : fNe (.lst (a :: L)) (.lst []) = some (.v (.bl true)) := by
  unfold fNe
  have hv : (vok 60 (.lst (a :: L)) && vok 60 (.lst [])) = true := by
    show (((a :: L).all (vok 59)) && true) = true
    rw [Bool.and_true, List.all_eq_true]
    exact fun u hu => vok_flat3 (h u hu) 59
  rw [if_pos hv]
  rfl
theorem lplan_bad {ds : List Nat} {us : List Val} (hb : Bd ds) (hp : ∀ u ∈ us, flat3 u = true) (hl : us.length ≤ 1000) (hbad : us.length ≠ ds.length ∨ ∃ u ∈ us, pbad u = true) : (m__law_is_plan [.v (Dv ds), .v (.tup us)]).out = .ok (.v (.bl false)) := by
  have dl : (ds.map vi).length = ds.length := by simp
  by_cases e : us.length = ds.length
  · rcases hbad with h | ⟨u, hu, hpu⟩
    · exact absurd e h
    · have hc := lp_filter (D := Dv ds) hp
      have hm : u ∈ us.filter pbad := List.mem_filter.mpr ⟨hu, hpu⟩
      have hfl : ∀ w ∈ us.filter pbad, flat3 w = true := fun w hw => hp w (List.mem_filter.mp hw).1
      cases hF : us.filter pbad with
      | nil => rw [hF] at hm; cases hm
      | cons a L =>
        rw [hF] at hc hfl
        have hf := fNe_list hfl
        unfold Dv at *
        generalize ds.map vi = dv at *
        rw [← dl] at e
        have b1 : us.length ≤ 16777216 := by omega
        have b2 : dv.length ≤ 16777216 := by omega
        show (fin 2 ((sSeq b__law_is_plan_1 (sSeq (sIf (tE (eOp fNe (eComp (iSeq (eV 1)) [3] (tgN 3) lpT (eV 3)) (eLst asNil))) (sRet (eC (.bl false))) sNil) (sSeq b__law_is_plan_3 b__law_is_plan_4))) [.v (.tup dv), .v (.tup us), .emp, .emp, .emp])).out = _
        generalize lpT = t at *
        simp [e, b1, b2, hc, hf]
  · unfold Dv
    generalize ds.map vi = dv at *
    rw [← dl] at e
    have e' : ¬ ((us.length : Int) = (dv.length : Int)) := by omega
    simp [m__law_is_plan, b__law_is_plan, e, e']
theorem flat_vis (xs : List Nat) : ∀ u ∈ xs.map vi, flat3 u = true := fun u hu => by
  obtain ⟨n, _, rfl⟩ := List.mem_map.mp hu
  rfl
theorem lplan_d {ds xs : List Nat} (hb : Bd ds) (h1 : 1 ≤ ds.length) (hl : xs.length = ds.length) : ∃ k : Bool, (m__law_is_plan [.v (Dv ds), .v (Dv xs)]).out = .ok (.v (.bl k)) ∧ (k = true ↔ OkP ds xs) := by
  have l12 := hb.1
  have hc := lp_filter (D := Dv ds) (flat_vis xs)
  have hnil : (xs.map vi).filter pbad = [] := by
    rw [List.filter_eq_nil_iff]
    intro u hu
    obtain ⟨n, _, rfl⟩ := List.mem_map.mp hu
    simp [pbad]
  rw [hnil] at hc
  have hk : compL [4] (tgN 4) tYes (eOp fSub (eB fSumX (asCons (eSl fSl (eV 1) none (some (eOp fAdd (eV 4) (eC (.int 1))))) asNil)) (eB fSumX (asCons (eSl fSl (eV 0) none (some (eOp fAdd (eV 4) (eC (.int 1))))) asNil))) (rangeV 0 ds.length) [.v (Dv ds), .v (Dv xs), .emp, .emp, .emp] = .ok ((kpI ds xs ds.length).map Val.int) [.v (Dv ds), .v (Dv xs), .emp, .emp, .emp] := by
    rw [compL_all (e := [.v (Dv ds), .v (Dv xs), .emp, .emp, .emp]) (fun y => match y with | .int p => .int ((sm (dn xs) (p.toNat + 1) : Int) - (sm (dn ds) (p.toNat + 1) : Int)) | _ => .non) fun y hy => by
      obtain ⟨k, hk, rfl⟩ := mem_rangeV hy
      have e0 : (0 : Int) + k = (k : Int) := by omega
      have c1 : cutG (ds.map vi) none (some ((k + 1 : Nat) : Int)) = (ds.take (k + 1)).map vi := by rw [cut_0n _ (by rw [List.length_map]; omega), List.map_take]
      have c2 : cutG (xs.map vi) none (some ((k + 1 : Nat) : Int)) = (xs.take (k + 1)).map vi := by rw [cut_0n _ (by rw [List.length_map]; omega), List.map_take]
      have i1 := ints_vi (ds.take (k + 1))
      have i2 := ints_vi (xs.take (k + 1))
      have s1 := isum (ds.take (k + 1))
      have s2 := isum (xs.take (k + 1))
      rw [take_sum (by omega)] at s1
      rw [take_sum (by omega)] at s2
      have e1 : (k : Int) + 1 = ((k + 1 : Nat) : Int) := by omega
      dsimp only
      rw [e0, Int.toNat_natCast]
      unfold Dv
      generalize (ds.take (k + 1)) = d1 at *
      generalize (xs.take (k + 1)) = x1 at *
      generalize sm (dn ds) (k + 1) = a1 at *
      generalize sm (dn xs) (k + 1) = a2 at *
      generalize hdm : ds.map vi = dv at *
      generalize hxm : xs.map vi = xv at *
      try simp only [vi] at *
      refine ⟨[.v (.tup dv), .v (.tup xv), .emp, .emp, .v (.int k)], by simp, by simp, ⟨.v (.int ((a2 : Int) - (a1 : Int))), ?_, by simp⟩, by simp, by simp⟩
      generalize ((k + 1 : Nat) : Int) = z at *
      simp [e1, c1, c2, i1, i2, s1, s2]]
    congr 1
    unfold rangeV kpI
    rw [List.map_map, List.map_map]
    refine List.map_congr_left fun k hk => ?_
    show Val.int ((sm (dn xs) (((0 : Int) + k).toNat + 1) : Int) - (sm (dn ds) (((0 : Int) + k).toNat + 1) : Int)) = _
    rw [show ((0 : Int) + k).toNat = k by omega]
    rfl
  obtain ⟨m, z, e1, e2, iff⟩ := kp_end (xs := xs) h1
  refine ⟨decide (0 ≤ m) && decide (z = 0), ?_, ?_⟩
  · have r1 : inR (ds.length : Int) = true := inR_of (by omega) (by omega)
    have b1 : ds.length ≤ 16777216 := by omega
    have dl : (ds.map vi).length = ds.length := by simp
    have xl : (xs.map vi).length = ds.length := by simp [hl]
    unfold Dv at *
    generalize (kpI ds xs ds.length).map Val.int = K at *
    generalize xs.map vi = xv at *
    generalize ds.map vi = dv at *
    show (fin 2 ((sSeq b__law_is_plan_1 (sSeq (sIf (tE (eOp fNe (eComp (iSeq (eV 1)) [3] (tgN 3) lpT (eV 3)) (eLst asNil))) (sRet (eC (.bl false))) sNil) (sSeq b__law_is_plan_3 b__law_is_plan_4))) [.v (.tup dv), .v (.tup xv), .emp, .emp, .emp])).out = _
    generalize lpT = t at *
    by_cases hm : 0 ≤ m
    · by_cases hz : z = 0 <;> simp [dl, xl, b1, hc, fNe_nil, rng1_int _ r1, hk, e1, e2, hm, hz]
    · simp [dl, xl, b1, hc, fNe_nil, rng1_int _ r1, hk, e1, hm]
  · rw [Bool.and_eq_true, decide_eq_true_eq, decide_eq_true_eq]
    exact iff
end Z
namespace Z
open Lot
open PySem (Str)
theorem good_vi (n : Nat) : ∀ l : List Nat, (l.map vi).all (good n) = true
  | [] => rfl
  | a :: l => by
    rw [List.map_cons, List.all_cons, good_vi n l, Bool.and_true]
    cases n <;> rfl
theorem good_tup {n : Nat} {xs : List Val} (h1 : xs.length ≤ 1000000) (h2 : xs.all (good n) = true) : good (n + 1) (.tup xs) = true := by
  show (decide (xs.length ≤ 1000000) && xs.all (good n)) = true
  rw [decide_eq_true h1, h2]
  rfl
theorem good_lst {n : Nat} {xs : List Val} (h1 : xs.length ≤ 1000000) (h2 : xs.all (good n) = true) : good (n + 1) (.lst xs) = true := by
  show (decide (xs.length ≤ 1000000) && xs.all (good n)) = true
  rw [decide_eq_true h1, h2]
  rfl
theorem good_D {ds : List Nat} (n : Nat) (hb : Bd ds) : good (n + 1) (Dv ds) = true := good_tup (by rw [List.length_map]; have := hb.1; omega) (good_vi n ds)
theorem cut_m1 {α : Type} (xs : List α) : cutG xs none (some (-1)) = xs.take (xs.length - 1) := by
  unfold cutG
  have e1 : HT.sIx xs.length xs.length (some (-1)) = xs.length - 1 := by
    show (if (-1 : Int) < 0 then ((-1 : Int) + (xs.length : Int)).toNat else min (-1 : Int).toNat xs.length) = _
    rw [if_pos (by omega)]
    omega
  have e0 : HT.sIx xs.length 0 none = 0 := rfl
  rw [e1, e0]
  rfl
theorem good_5 : good 5 (.str "5") = true := by decide +kernel
theorem good_tag {v : Val} {t : Str} (hg : good 5 v = true) (ht : good 5 (.str t) = true) : good 6 (.lst [.str t, v]) = true := by
  show (decide (_ ≤ 1000000) && (List.all _ (good 5))) = true
  simp [hg, ht]
theorem same_at {x : Val} {e : Env} {i : Nat} (g : good 7 x = true) (he : eget e i = .own false x) : callR (m__law_same 8) [.bor i, .own x] e = .ok (.v (.bl true)) (eput e i (.own false x)) := by
  rw [callR_b1 (as := [.own x]) he rfl, same_full g]
  rfl
theorem e18 : fPow (.int 10) (.int 18) = some (.v (.int 1000000000000000000)) := by
  rw [fPow_ok (by omega) (by omega) (by omega) (by omega)]
  rfl
theorem box_ok {g : Int} : ∃ x, IsBox 0 x ∧ (m__law_box [.v (.int g)]).out = .ok (.own x) := by
  have m1 := Int.emod_nonneg (if g < 0 then -g else g) (show (2147483629 : Int) ≠ 0 by omega)
  have m2 := Int.emod_lt_of_pos (if g < 0 then -g else g) (show (0 : Int) < 2147483629 by omega)
  have e1 : fMod (.int (if g < 0 then -g else g)) (.int 2147483629) = some (.v (.int ((if g < 0 then -g else g) % 2147483629))) := fMod_ok (by omega)
  generalize hz : (if g < 0 then -g else g) = z at *
  refine ⟨.lst [.int z, .bl (decide (1000000000000000000 ≤ z)), .int (z % 2147483629), .int 0], ⟨_, _, _, _, rfl, m1, m2, by omega, by omega⟩, ?_⟩
  simp [m__law_box, b__law_box, hz, e1, e18, -fMod_int]
theorem sum_take (ns : List Int) : ∃ t : Int, fSumX [.lst (cutG (ns.map Val.int) none (some 1))] = some (.v (.int t)) := by
  have : ∃ ms : List Int, cutG (ns.map Val.int) none (some 1) = ms.map Val.int := by
    unfold cutG
    exact ⟨(ns.drop _).take _, by rw [List.map_take, List.map_drop]⟩
  obtain ⟨ms, e⟩ := this
  rw [e, fSumX_lst, ints?_map]
  exact ⟨_, rfl⟩
theorem cell_ok {ns : List Int} {k : Nat} (hk : k ≤ 100) : ∃ g : Int, (m__law_cell [.v (.scr ns), .v (vi k)]).out = .ok (.v (.int g)) := by
  by_cases h : k < ns.length
  · have a : Z.atV (ns.map Val.int) (k : Int) = some (.int ns[k]) := by
      unfold Z.atV
      rw [if_pos (by omega), Int.toNat_natCast, List.getElem?_map, List.getElem?_eq_getElem h]
      rfl
    refine ⟨ns[k], ?_⟩
    simp only [vi]
    simp [m__law_cell, b__law_cell, h, a]
  · obtain ⟨t, ht⟩ := sum_take ns
    have e1 : fMod (.int t) (.int 1000033) = some (.v (.int (t % 1000033))) := fMod_ok (by omega)
    have e2 : fMul (.int 6007) (.int k) = some (.v (.int (6007 * (k : Int)))) := fMul_ok (by omega) (by omega) (by omega) (by omega)
    refine ⟨6007 * (k : Int) + t % 1000033, ?_⟩
    simp only [vi]
    simp [m__law_cell, b__law_cell, h, ht, e1, e2, -fMod_int, -fMul_int, -fSumX_lst]
end Z
namespace Z
open Lot
open PySem (Str)
/-! ### what is asked -/
theorem s_dd : subL "InvalidDemands" "InvalidDemands" = some true := by decide +kernel
theorem s_nd : subL "InvalidNumber" "InvalidDemands" = some false := by decide +kernel
theorem s_nn : subL "InvalidNumber" "InvalidNumber" = some true := by decide +kernel
theorem s_pd : subL "InvalidPlan" "InvalidDemands" = some false := by decide +kernel
theorem s_pn : subL "InvalidPlan" "InvalidNumber" = some false := by decide +kernel
theorem s_pp : subL "InvalidPlan" "InvalidPlan" = some true := by decide +kernel
abbrev askH : List (Str × Nat × S) := [("InvalidDemands", 6, (sRet (eLst (asCons (eC (.str "demands")) (asCons (eExn 6 "InvalidDemands" "given") asNil))))), ("InvalidNumber", 6, (sRet (eLst (asCons (eC (.str "number")) (asCons (eExn 6 "InvalidNumber" "given") asNil))))), ("InvalidPlan", 6, (sRet (eLst (asCons (eC (.str "plan")) (asCons (eExn 6 "InvalidPlan" "given") asNil)))))]
def fA (t a b c d k : Val) : Env := [.v t, .v a, .v b, .v c, .v d, .v k, .emp]
theorem h_dem {t a b c d k x : Val} : handle subL askH "InvalidDemands" [("given", x)] (fA t a b c d k) = .ok (.rt (.own (.lst [.str "demands", x]))) (fA t a b c d k) := by
  unfold askH fA
  rw [handle_t s_dd rfl (by simp)]
  simp
theorem h_num {t a b c d k x : Val} : handle subL askH "InvalidNumber" [("given", x)] (fA t a b c d k) = .ok (.rt (.own (.lst [.str "number", x]))) (fA t a b c d k) := by
  unfold askH fA
  rw [handle_f s_nd, handle_t s_nn rfl (by simp)]
  simp
theorem h_plan {t a b c d k x : Val} : handle subL askH "InvalidPlan" [("given", x)] (fA t a b c d k) = .ok (.rt (.own (.lst [.str "plan", x]))) (fA t a b c d k) := by
  unfold askH fA
  rw [handle_f s_pd, handle_f s_pn, handle_t s_pp rfl (by simp)]
  simp
abbrev askB : S := (sSeq (sIf (tE (eOp fEq (eV 0) (eC (.int 0)))) (sRet (eIf (tE (eV 5)) (eCallK m_lot_cost [3, 2, 1, 0] (asCons (eV 4) (asCons (eV 3) (asCons (eV 2) (asCons (eV 1) asNil))))) (eCall m_lot_cost (asCons (eV 1) (asCons (eV 2) (asCons (eV 3) (asCons (eV 4) asNil))))))) sNil)
    (sSeq (sIf (tE (eOp fEq (eV 0) (eC (.int 1)))) (sRet (eIf (tE (eV 5)) (eCallK m_best_lots [2, 1, 0] (asCons (eV 3) (asCons (eV 2) (asCons (eV 1) asNil)))) (eCall m_best_lots (asCons (eV 1) (asCons (eV 2) (asCons (eV 3) asNil)))))) sNil)
    (sRet (eIf (tE (eV 5)) (eCallK m_silver [2, 1, 0] (asCons (eV 3) (asCons (eV 2) (asCons (eV 1) asNil)))) (eCall m_silver (asCons (eV 1) (asCons (eV 2) (asCons (eV 3) asNil))))))))
inductive Says : Out → RV → Prop
  | told (x : Val) : Says (.ok (.v x)) (.v x)
  | dem (x : Val) : Says (.ex "InvalidDemands" [("given", x)]) (.own (.lst [.str "demands", x]))
  | num (x : Val) : Says (.ex "InvalidNumber" [("given", x)]) (.own (.lst [.str "number", x]))
  | plan (x : Val) : Says (.ex "InvalidPlan" [("given", x)]) (.own (.lst [.str "plan", x]))
theorem asked_end {t a b c d k : Val} {r : RV} {o : Out} (h : Says o r) (hb : askB (fA t a b c d k) = (match o with | .ok (.v x) => .ok (.rt (.v x)) (fA t a b c d k) | .ex cn fs => .ex cn fs (fA t a b c d k) | _ => .no)) : (m__law_asked [.v t, .v a, .v b, .v c, .v d, .v k]).out = .ok r := by
  have e : m__law_asked [.v t, .v a, .v b, .v c, .v d, .v k] = fin 6 (tryR subL askH (askB (fA t a b c d k))) := by
    show fin 6 (sTry subL askB askH (fA t a b c d k)) = _
    rw [sTry_ap]
  rw [e, hb]
  cases h with
  | told x => rfl
  | dem x => rw [tryR_ex, h_dem]; rfl
  | num x => rw [tryR_ex, h_num]; rfl
  | plan x => rw [tryR_ex, h_plan]; rfl
theorem asked_0 {a b c d : Val} {k : Bool} {r : RV} (h : Says (m_lot_cost [.v a, .v b, .v c, .v d]).out r) : (m__law_asked [.v (.int 0), .v a, .v b, .v c, .v d, .v (.bl k)]).out = .ok r := by
  generalize ho : (m_lot_cost [.v a, .v b, .v c, .v d]).out = o at h
  refine asked_end h ?_
  unfold fA
  cases h <;> cases k <;> simp [ho]
theorem asked_1 {a b c d : Val} {k : Bool} {r : RV} (h : Says (m_best_lots [.v a, .v b, .v c]).out r) : (m__law_asked [.v (.int 1), .v a, .v b, .v c, .v d, .v (.bl k)]).out = .ok r := by
  generalize ho : (m_best_lots [.v a, .v b, .v c]).out = o at h
  refine asked_end h ?_
  unfold fA
  cases h <;> cases k <;> simp [ho]
theorem asked_2 {a b c d : Val} {k : Bool} {r : RV} (h : Says (m_silver [.v a, .v b, .v c]).out r) : (m__law_asked [.v (.int 2), .v a, .v b, .v c, .v d, .v (.bl k)]).out = .ok r := by
  generalize ho : (m_silver [.v a, .v b, .v c]).out = o at h
  refine asked_end h ?_
  unfold fA
  cases h <;> cases k <;> simp [ho]
/-- a refusal of the demands, the numbers, in each of the three -/
theorem asked_ex {a b c d x : Val} {k : Bool} {t : Int} {cn : Str} {r : RV} (ht : t = 0 ∨ t = 1 ∨ t = 2) (e : (m_check_costs [.v a, .v b, .v c]).out = .ex cn [("given", x)]) (h : Says (.ex cn [("given", x)]) r) : (m__law_asked [.v (.int t), .v a, .v b, .v c, .v d, .v (.bl k)]).out = .ok r := by
  rcases ht with rfl | rfl | rfl
  · refine asked_0 ?_
    have : (m_lot_cost [.v a, .v b, .v c, .v d]).out = .ex cn [("given", x)] := by simp [m_lot_cost, b_lot_cost, e]
    rw [this]; exact h
  · refine asked_1 ?_
    have : (m_best_lots [.v a, .v b, .v c]).out = .ex cn [("given", x)] := by simp [m_best_lots, b_best_lots, e]
    rw [this]; exact h
  · refine asked_2 ?_
    have : (m_silver [.v a, .v b, .v c]).out = .ex cn [("given", x)] := by simp [m_silver, b_silver, e]
    rw [this]; exact h
theorem lot_cost_no {ds : List Nat} {S h : Nat} {v : Val} (hb : Bd ds) (h1 : 1 ≤ ds.length) (hS : S ≤ 1000) (hh : h ≤ 20) (e : (m_is_plan [.v (Dv ds), .v v]).out = .ok (.v (.bl false))) : (m_lot_cost [.v (Dv ds), .v (vi S), .v (vi h), .v v]).out = .ex "InvalidPlan" [("given", v)] := by
  have ec := check_ok hb h1 hS hh
  generalize Dv ds = D at *
  simp only [vi] at *
  simp [m_lot_cost, b_lot_cost, ec, e]
/-! ### values near a plan -/
inductive Bent (ds : List Nat) : Val → Prop
  | nt {v : Val} : plainV v = true → (∀ us, v ≠ .tup us) → Bent ds v
  | bad {us : List Val} : (∀ u ∈ us, flat3 u = true) → us.length ≤ 1000 → (us.length ≠ ds.length ∨ ∃ u ∈ us, pbad u = true) → Bent ds (.tup us)
  | row {xs : List Nat} : xs.length = ds.length → Bent ds (Dv xs)
theorem flat_plain {u : Val} (h : flat3 u = true) : plainV u = true := by
  cases u <;> first | (cases h; done) | rfl
theorem pbad_isI {u : Val} {hi : Int} (hf : flat3 u = true) (h : pbad u = true) : isI u 0 hi = false := by
  cases u with
  | int i =>
    have := of_decide_eq_true h
    simp [isI]
    omega
  | non => rfl
  | bl b => rfl
  | _ => cases hf
/-- what comes of a bent value: the law's judgment and the program's end agree -/
theorem bent_end {ds : List Nat} {S h : Nat} {v : Val} {k : Bool} (hb : Bd ds) (h1 : 1 ≤ ds.length) (hS : S ≤ 1000) (hh : h ≤ 20) (B : Bent ds v) :
    ((m__law_is_plan [.v (Dv ds), .v v]).out = .ok (.v (.bl false)) ∧ (m__law_asked [.v (.int 0), .v (Dv ds), .v (vi S), .v (vi h), .v v, .v (.bl k)]).out = .ok (.own (.lst [.str "plan", v]))) ∨
    ((m__law_is_plan [.v (Dv ds), .v v]).out = .ok (.v (.bl true)) ∧ ∃ c : Nat, (m__law_cost [.v (Dv ds), .v (vi S), .v (vi h), .v v]).out = .ok (.v (vi c)) ∧ (m__law_asked [.v (.int 0), .v (Dv ds), .v (vi S), .v (vi h), .v v, .v (.bl k)]).out = .ok (.v (vi c))) := by
  have no : (m_is_plan [.v (Dv ds), .v v]).out = .ok (.v (.bl false)) → (m__law_asked [.v (.int 0), .v (Dv ds), .v (vi S), .v (vi h), .v v, .v (.bl k)]).out = .ok (.own (.lst [.str "plan", v])) := fun e => asked_0 (by rw [lot_cost_no hb h1 hS hh e]; exact .plan _)
  cases B with
  | nt hp ht => exact .inl ⟨lplan_nt hp ht, no (plan_nt hb hp ht)⟩
  | bad hf hl hbad =>
    rename_i us
    refine .inl ⟨lplan_bad hb hf hl hbad, no (plan_bad hb (fun u hu => flat_plain (hf u hu)) hl ?_)⟩
    rcases hbad with q | ⟨u, hu, hpu⟩
    · exact .inl q
    · refine .inr ?_
      cases ha : us.all (fun u => isI u 0 ((sm (dn ds) ds.length : Nat) : Int)) with
      | false => rfl
      | true =>
        have := List.all_eq_true.mp ha u hu
        rw [pbad_isI (hf u hu) hpu] at this
        cases this
  | row hl =>
    rename_i xs
    obtain ⟨j, e1, iff⟩ := lplan_d (xs := xs) hb h1 hl
    cases j with
    | false => exact .inl ⟨e1, no (plan_f hb h1 hl fun q => by have := iff.mpr q; cases this)⟩
    | true =>
      have ok := iff.mp rfl
      have p := ok.pl hl
      refine .inr ⟨e1, _, law_cost_ok hb hS hh p hl, asked_0 ?_⟩
      rw [lot_cost_ok hb h1 hS hh p hl ok.2]
      exact .told _
def fB (x : Val) (P : Val) (s2 s3 : Slot) : Env := [.own true x, .v P, s2, s3]
theorem good_str : good 5 (.str "plan") = true := by decide +kernel
theorem good_flat {us : List Val} (h : ∀ u ∈ us, flat3 u = true) (hl : us.length ≤ 1000) : good 5 (.tup us) = true := by
  show (decide (us.length ≤ 1000000) && us.all (good 4)) = true
  rw [decide_eq_true (show us.length ≤ 1000000 by omega), Bool.true_and, List.all_eq_true]
  intro u hu
  have := h u hu
  cases u <;> first | (cases this; done) | rfl
theorem mem12 {α : Type} {L : List α} {k : Nat} (h : k < L.length) : ∃ v ∈ L, Z.atV L (k : Int) = some v := ⟨L[k], List.getElem_mem h, by rw [atV_nat, List.getElem?_eq_getElem h]⟩
theorem bent_ok {c : Int} {x : Val} {ds xs : List Nat} (h : IsBox c x) (hc : c ≤ 10000) (hb : Bd ds) (h1 : 1 ≤ ds.length) (hl : xs.length = ds.length) :
    ∃ y v, IsBox (c + 2) y ∧ Bent ds v ∧ good 5 v = true ∧ ∀ rest : Env, callR m__law_bent [.bor 0, .v (Dv xs)] (.own true x :: rest) = .ok (.v v) (.own true y :: rest) := by
  have l12 := hb.1
  obtain ⟨a, y1, l1, b1, e1⟩ := take_at (many := (ds.length : Int)) h (by omega) (by omega) (by omega)
  obtain ⟨k2, y2, l2, b2, e2⟩ := take_at (many := 12) b1 (by omega) (by omega) (by omega)
  have al : a < xs.length := by omega
  have xl : (xs.map vi).length = ds.length := by simp [hl]
  have c1 : cutG (xs.map vi) none (some (-1)) = (xs.map vi).take (ds.length - 1) := by rw [cut_m1 (xs.map vi), xl]
  have c2 : cutG (xs.map vi) none (some (a : Int)) = (xs.map vi).take a := cut_0n _ (by omega)
  have c3 : cutG (xs.map vi) (some ((a + 1 : Nat) : Int)) none = (xs.map vi).drop (a + 1) := cut_nz _ (by omega)
  have c4 : cutG (xs.map vi) (some 1) none = (xs.map vi).drop 1 := cut_nz (i := 1) _ (by omega)
  have c5 : cutG (xs.map vi) none (some 1) = (xs.map vi).take 1 := cut_0n (j := 1) _ (by omega)
  have at1 := atV_vi (l := xs) al
  have hdn : xs.getD a 0 = dn xs a := rfl
  rw [hdn] at at1
  have tl : ((xs.map vi).take a).length = a := by rw [List.length_take]; omega
  have dl : ((xs.map vi).drop (a + 1)).length = ds.length - (a + 1) := by rw [List.length_drop]; omega
  have d1 : ((xs.map vi).drop 1).length = ds.length - 1 := by rw [List.length_drop]; omega
  have t1 : ((xs.map vi).take 1).length = 1 := by rw [List.length_take]; omega
  obtain ⟨v, hv, hat⟩ := mem12 (L := [Val.lst (xs.map vi), .tup (xs.map vi ++ [.int 0]), .tup ((xs.map vi).take (ds.length - 1)), .non, .str "plan", .int 5, .tup ((xs.map vi).take a ++ .non :: (xs.map vi).drop (a + 1)), .tup ((xs.map vi).take a ++ .bl true :: (xs.map vi).drop (a + 1)), .tup ((xs.map vi).take a ++ .int ((dn xs a : Int) + 1) :: (xs.map vi).drop (a + 1)), .tup ((xs.map vi).take a ++ .int ((dn xs a : Int) - 1) :: (xs.map vi).drop (a + 1)), .tup (xs.map vi).reverse, .tup ((xs.map vi).drop 1 ++ (xs.map vi).take 1)]) (k := k2) (by simp; omega)
  have fl := flat_vis xs
  have ft : ∀ u ∈ (xs.map vi).take a, flat3 u = true := fun u hu => fl u (List.mem_of_mem_take hu)
  have fd : ∀ u ∈ (xs.map vi).drop (a + 1), flat3 u = true := fun u hu => fl u (List.mem_of_mem_drop hu)
  have fm : ∀ w : Val, flat3 w = true → ∀ u ∈ (xs.map vi).take a ++ w :: (xs.map vi).drop (a + 1), flat3 u = true := fun w hw u hu => by
    rcases List.mem_append.mp hu with hu | hu
    · exact ft u hu
    · rcases List.mem_cons.mp hu with rfl | hu
      · exact hw
      · exact fd u hu
  have lm : ∀ w : Val, ((xs.map vi).take a ++ w :: (xs.map vi).drop (a + 1)).length = ds.length := fun w => by
    rw [List.length_append, List.length_cons, tl, dl]
    omega
  have nat : ∀ z : Nat, (xs.map vi).take a ++ vi z :: (xs.map vi).drop (a + 1) = (xs.take a ++ z :: xs.drop (a + 1)).map vi := fun z => by
    rw [List.map_append, List.map_cons, List.map_take, List.map_drop]
  have hB : Bent ds v ∧ good 5 v = true := by
    simp only [List.mem_cons, List.not_mem_nil, or_false] at hv
    rcases hv with rfl | rfl | rfl | rfl | rfl | rfl | rfl | rfl | rfl | rfl | rfl | rfl
    · exact ⟨.nt rfl (fun us z => by cases z), good_lst (n := 4) (by rw [List.length_map]; omega) (good_vi 4 xs)⟩
    · have f : ∀ u ∈ xs.map vi ++ [Val.int 0], flat3 u = true := fun u hu => by
        rcases List.mem_append.mp hu with hu | hu
        · exact fl u hu
        · rw [List.mem_singleton.mp hu]; rfl
      have ln : (xs.map vi ++ [Val.int 0]).length = ds.length + 1 := by rw [List.length_append, xl]; rfl
      exact ⟨.bad f (by omega) (.inl (by omega)), good_flat f (by omega)⟩
    · have f : ∀ u ∈ (xs.map vi).take (ds.length - 1), flat3 u = true := fun u hu => fl u (List.mem_of_mem_take hu)
      have ln : ((xs.map vi).take (ds.length - 1)).length = ds.length - 1 := by rw [List.length_take, xl]; omega
      exact ⟨.bad f (by omega) (.inl (by omega)), good_flat f (by omega)⟩
    · exact ⟨.nt rfl (fun us z => by cases z), rfl⟩
    · exact ⟨.nt rfl (fun us z => by cases z), good_str⟩
    · exact ⟨.nt rfl (fun us z => by cases z), rfl⟩
    · exact ⟨.bad (fm .non rfl) (by rw [lm]; omega) (.inr ⟨.non, List.mem_append.mpr (.inr List.mem_cons_self), rfl⟩), good_flat (fm .non rfl) (by rw [lm]; omega)⟩
    · exact ⟨.bad (fm (.bl true) rfl) (by rw [lm]; omega) (.inr ⟨.bl true, List.mem_append.mpr (.inr List.mem_cons_self), rfl⟩), good_flat (fm (.bl true) rfl) (by rw [lm]; omega)⟩
    · have e : Val.int ((dn xs a : Int) + 1) = vi (dn xs a + 1) := rfl
      rw [e]
      refine ⟨?_, good_flat (fm _ rfl) (by rw [lm]; omega)⟩
      have := lm (vi (dn xs a + 1))
      rw [nat] at this ⊢
      exact .row (by simpa using this)
    · by_cases z : dn xs a = 0
      · rw [z]
        exact ⟨.bad (fm _ rfl) (by rw [lm]; omega) (.inr ⟨.int (((0 : Nat) : Int) - 1), List.mem_append.mpr (.inr List.mem_cons_self), by decide⟩), good_flat (fm _ rfl) (by rw [lm]; omega)⟩
      · have e : Val.int ((dn xs a : Int) - 1) = vi (dn xs a - 1) := by
          show Val.int _ = Val.int _
          congr 1
          omega
        rw [e]
        refine ⟨?_, good_flat (fm _ rfl) (by rw [lm]; omega)⟩
        have := lm (vi (dn xs a - 1))
        rw [nat] at this ⊢
        exact .row (by simpa using this)
    · rw [← List.map_reverse]
      exact ⟨.row (by rw [List.length_reverse, hl]), good_flat (flat_vis _) (by rw [List.length_map, List.length_reverse]; omega)⟩
    · rw [← List.map_drop, ← List.map_take, ← List.map_append]
      have ln : (xs.drop 1 ++ xs.take 1).length = ds.length := by rw [List.length_append, List.length_drop, List.length_take]; omega
      exact ⟨.row ln, good_flat (flat_vis _) (by rw [List.length_map]; omega)⟩
  refine ⟨y2, v, by rw [show c + 2 = c + 1 + 1 by omega]; exact b2, hB.1, hB.2, fun rest => ?_⟩
  have main : m__law_bent [.own x, .v (Dv xs)] = .ok (.v v) [.own true y2, .v (Dv xs)] := by
    clear hB hv fl ft fd fm lm nat
    unfold Dv at *
    generalize (xs.map vi).take (ds.length - 1) = w1 at *
    generalize (xs.map vi).take a = w2 at *
    generalize (xs.map vi).drop (a + 1) = w3 at *
    generalize (xs.map vi).drop 1 = w4 at *
    generalize (xs.map vi).take 1 = w5 at *
    generalize xs.map vi = xv at *
    rw [← xl] at e1
    have ea : (a : Int) + 1 = ((a + 1 : Nat) : Int) := by omega
    have q1 : xv.length + 1 ≤ 16777216 := by omega
    have q2 : w2.length + 1 ≤ 16777216 := by omega
    have q3 : w2.length + 1 + w3.length ≤ 16777216 := by omega
    have q4 : w4.length + w5.length ≤ 16777216 := by omega
    simp only [vi] at *
    generalize ((a + 1 : Nat) : Int) = za at *
    simp [m__law_bent, b__law_bent, e1, c1, c2, c3, c4, c5, at1, ea, q1, q2, q3, q4, e2, hat]
  rw [callR_b1 (p := true) (x := x) (as := [.v (Dv xs)]) rfl rfl, main]
  simp
end Z
namespace Z
open Lot
open PySem (Str PyData)
open PySem.W (alike alikeAll dataLt keyToks keyToksAll dataLt_tuple toks_all_cons lex_pre)
open PyProof.Rows (lexLt lex_diff itemLt itemOrd)
theorem lex_tl {x : Int ⊕ List Nat} (a b : List (Int ⊕ List Nat)) : lexLt itemOrd (x :: a) (x :: b) = lexLt itemOrd a b := lex_pre [x] a b
theorem lexT (r : List (Int ⊕ List Nat)) : ∀ ps qs : List Nat, lexLt itemOrd (keyToksAll (toDs (ps.map vi)) ++ r) (keyToksAll (toDs (qs.map vi)) ++ r) = lexN ps qs
  | [], [] => by
    have : ∀ l : List (Int ⊕ List Nat), lexLt itemOrd l l = false := fun l => by
      have := lex_pre l [] []
      rw [List.append_nil] at this
      rw [this]
      rfl
    exact this _
  | [], q :: qs => by
    rw [List.map_nil, List.map_cons, toDs, toDs, toks_all_cons]
    show lexLt itemOrd ((Sum.inl 0 : Int ⊕ List Nat) :: r) ((Sum.inl 1 : Int ⊕ List Nat) :: _) = true
    rw [lex_diff (O := itemOrd) (fun z => by cases z)]
    rfl
  | p :: ps, [] => by
    rw [List.map_nil, List.map_cons, toDs, toDs, toks_all_cons]
    show lexLt itemOrd ((Sum.inl 1 : Int ⊕ List Nat) :: _) ((Sum.inl 0 : Int ⊕ List Nat) :: r) = false
    rw [lex_diff (O := itemOrd) (fun z => by cases z)]
    rfl
  | p :: ps, q :: qs => by
    rw [List.map_cons, List.map_cons, toDs, toDs, toks_all_cons, toks_all_cons]
    show lexLt itemOrd ((Sum.inl 1 : Int ⊕ List Nat) :: ((Sum.inl (p : Int) : Int ⊕ List Nat) :: (keyToksAll (toDs (ps.map vi)) ++ r))) ((Sum.inl 1 : Int ⊕ List Nat) :: ((Sum.inl (q : Int) : Int ⊕ List Nat) :: (keyToksAll (toDs (qs.map vi)) ++ r))) = if Nat.beq p q then lexN ps qs else Nat.blt p q
    rw [lex_tl]
    by_cases e : p = q
    · subst e
      rw [lex_tl, lexT r ps qs, if_pos (Nat.beq_refl p)]
    · rw [lex_diff (O := itemOrd) (fun z => e (by have := Sum.inl.inj z; omega)), if_neg (fun z => e (Nat.eq_of_beq_eq_true z))]
      show decide ((p : Int) < (q : Int)) = Nat.blt p q
      have : (Nat.blt p q = true) = (p < q) := Nat.blt_eq
      cases hb : Nat.blt p q with
      | true => exact decide_eq_true (by rw [hb] at this; have := of_eq_true (this.symm.trans (eq_self true)); omega)
      | false => exact decide_eq_false (fun z => by rw [hb] at this; have : false = true := this.mpr (by omega); cases this)
theorem lt_eq : ltR = ltB := by
  funext x y
  unfold ltB
  by_cases e : x.1 = y.1
  · rw [if_pos (by rw [e]; exact Nat.beq_refl _)]
    unfold ltR vlt pv
    simp only [toD, toDs]
    rw [e, dataLt_tuple, toks_all_cons, toks_all_cons, toks_all_cons, toks_all_cons]
    show lexLt itemOrd ((Sum.inl 1 : Int ⊕ List Nat) :: ((Sum.inl (y.1 : Int) : Int ⊕ List Nat) :: ((Sum.inl 1 : Int ⊕ List Nat) :: (keyToksAll (toDs (x.2.map vi)) ++ [Sum.inl 0])))) ((Sum.inl 1 : Int ⊕ List Nat) :: ((Sum.inl (y.1 : Int) : Int ⊕ List Nat) :: ((Sum.inl 1 : Int ⊕ List Nat) :: (keyToksAll (toDs (y.2.map vi)) ++ [Sum.inl 0])))) = _
    rw [lex_tl, lex_tl, lex_tl, lexT]
  · rw [ltR_ne e, if_neg (fun z => e (Nat.eq_of_beq_eq_true z))]
    have : (Nat.blt x.1 y.1 = true) = (x.1 < y.1) := Nat.blt_eq
    cases hb : Nat.blt x.1 y.1 with
    | true => exact decide_eq_true (by rw [hb] at this; exact of_eq_true (this.symm.trans (eq_self true)))
    | false => exact decide_eq_false (fun z => by rw [hb] at this; have : false = true := this.mpr z; cases this)
/-- both reckonings of costs -/
theorem cB_pc {ds xs : List Nat} {S h : Nat} (hl : xs.length = ds.length) (ge : ∀ t, t < ds.length → sm (dn ds) (t + 1) ≤ sm (dn xs) (t + 1)) : ∀ j, j ≤ ds.length → pc (dn ds) (dn xs) S h (ds.length - j) + cB S h (ds.drop (ds.length - j)) (xs.drop (ds.length - j)) (sm (dn xs) (ds.length - j) - sm (dn ds) (ds.length - j)) = pc (dn ds) (dn xs) S h ds.length := by
  intro j
  induction j with
  | zero =>
    intro _
    rw [Nat.sub_zero, List.drop_length]
    cases xs.drop ds.length <;> exact Nat.add_zero _
  | succ j ih =>
    intro hj
    have ih := ih (by omega)
    generalize hk : ds.length - (j + 1) = k at *
    have ek : ds.length - j = k + 1 := by omega
    rw [ek] at ih
    have hk1 : k < ds.length := by omega
    rw [List.drop_eq_getElem_cons hk1, List.drop_eq_getElem_cons (show k < xs.length by omega)]
    have g1 := ge k hk1
    have g0 : sm (dn ds) k ≤ sm (dn xs) k := by
      by_cases z : k = 0
      · subst z; exact Nat.le_refl _
      · have := ge (k - 1) (by omega)
        rw [show k - 1 + 1 = k by omega] at this
        exact this
    have e1 : sm (dn xs) (k + 1) = sm (dn xs) k + dn xs k := rfl
    have e2 : sm (dn ds) (k + 1) = sm (dn ds) k + dn ds k := rfl
    rw [← dn_at hk1, ← dn_at (show k < xs.length by omega)]
    have e3 : sm (dn xs) k - sm (dn ds) k + dn xs k - dn ds k = sm (dn xs) (k + 1) - sm (dn ds) (k + 1) := by omega
    have epc : pc (dn ds) (dn xs) S h (k + 1) = pc (dn ds) (dn xs) S h k + ((if 0 < dn xs k then S else 0) + h * (sm (dn xs) (k + 1) - sm (dn ds) (k + 1))) := rfl
    show _ + ((if Nat.blt 0 (dn xs k) then S else 0) + h * (sm (dn xs) k - sm (dn ds) k + dn xs k - dn ds k) + cB S h (ds.drop (k + 1)) (xs.drop (k + 1)) (sm (dn xs) k - sm (dn ds) k + dn xs k - dn ds k)) = _
    rw [e3, ← ih, epc]
    have eb : (if Nat.blt 0 (dn xs k) then S else 0) = (if 0 < dn xs k then S else 0) := by
      by_cases z : 0 < dn xs k
      · rw [if_pos z, if_pos (by rw [Nat.blt_eq]; exact z)]
      · rw [if_neg z, if_neg (by rw [Nat.blt_eq]; exact z)]
    rw [eb]
    omega
theorem cB_all {ds xs : List Nat} {S h : Nat} (hl : xs.length = ds.length) (ge : ∀ t, t < ds.length → sm (dn ds) (t + 1) ≤ sm (dn xs) (t + 1)) : cB S h ds xs 0 = pc (dn ds) (dn xs) S h ds.length := by
  have := cB_pc (S := S) (h := h) hl ge ds.length (Nat.le_refl _)
  rw [Nat.sub_self, List.drop_zero, List.drop_zero] at this
  have p0 : pc (dn ds) (dn xs) S h 0 = 0 := rfl
  have s0 : sm (dn xs) 0 - sm (dn ds) 0 = 0 := rfl
  rw [p0, s0, Nat.zero_add] at this
  exact this
/-! ### small demands -/
def fW (x : Val) (s1 s2 s3 s4 s5 s6 s7 s8 s9 s10 : Slot) : Env := [.own true x, s1, s2, s3, s4, s5, s6, s7, s8, s9, s10, .emp]
theorem all1 {c : Int} {x : Val} (h : IsBox c x) (hc : c ≤ 10000) : ∃ (y : Val) (ds : List Nat), IsBox (c + 5) y ∧ 1 ≤ ds.length ∧ ds.length ≤ 4 ∧ (∀ d ∈ ds, d ≤ 2) ∧
    b__law_all_right_1 (fW x .emp .emp .emp .emp .emp .emp .emp .emp .emp .emp) = .ok .nx (fW y (.v (Dv ds)) .emp .emp .emp .emp .emp .emp .emp .emp .emp) := by
  obtain ⟨k1, y1, l1, b1, e1⟩ := take_at (many := 4) h (by omega) (by omega) (by omega)
  have hcomp : ∃ ws e', compL [4] (tgN 4) tYes (eCall m__law_take (asCons (eV 0) (asCons (eC (.int 3)) asNil))) (rangeV 0 (1 + k1)) (fW y1 .emp .emp .emp .emp .emp .emp .emp .emp .emp .emp) = .ok ws e' ∧ ∃ (y : Val) (ds : List Nat), IsBox (c + 1 + ((0 + (rangeV 0 (1 + k1)).length : Nat) : Int)) y ∧ [] ++ ws = ds.map vi ∧ ds.length = 0 + (rangeV 0 (1 + k1)).length ∧ (∀ d ∈ ds, d ≤ 2) ∧ e' = fW y .emp .emp .emp .emp .emp .emp .emp .emp .emp .emp := by
    refine compL_run (fun k ys e => ∃ (y : Val) (ds : List Nat), IsBox (c + 1 + (k : Int)) y ∧ ys = ds.map vi ∧ ds.length = k ∧ (∀ d ∈ ds, d ≤ 2) ∧ e = fW y .emp .emp .emp .emp .emp .emp .emp .emp .emp .emp) ⟨y1, [], by simpa using b1, rfl, rfl, (fun d hd => by cases hd), rfl⟩ fun i z zs e hi ⟨y, ds, hb, hz, hl, hd, he⟩ => ?_
    subst he hz
    obtain ⟨hi3, rfl⟩ := rangeV_at hi
    obtain ⟨k2, y2, l2, b2, e2⟩ := take_at (many := 3) hb (by omega) (by omega) (by omega)
    refine ⟨fW y .emp .emp .emp (.v (.int (0 + (i : Int)))) .emp .emp .emp .emp .emp .emp, fW y .emp .emp .emp (.v (.int (0 + (i : Int)))) .emp .emp .emp .emp .emp .emp, true, by simp [fW], by simp, (fun z => nomatch z), fun _ => ⟨.v (vi k2), fW y2 .emp .emp .emp (.v (.int (0 + (i : Int)))) .emp .emp .emp .emp .emp .emp, vi k2, _, ?_, rfl, by simp [fW], y2, ds ++ [k2], ?_, by simp, ?_, ?_, by simp [fW]⟩⟩
    · simp only [fW, vi] at *
      simp [e2]
    · have : c + 1 + ((0 + i + 1 : Nat) : Int) = c + 1 + ((0 + i : Nat) : Int) + 1 := by omega
      rw [this]
      exact b2
    · rw [List.length_append, hl, List.length_singleton]
    · intro q hq
      rcases List.mem_append.mp hq with hq | hq
      · exact hd q hq
      · rw [List.mem_singleton.mp hq]; omega
  obtain ⟨ws, e', h5, y, ds, hb, hz, hl, hd, he⟩ := hcomp
  subst he
  rw [List.nil_append] at hz
  subst hz
  rw [rangeV_len, Nat.zero_add] at hl hb
  refine ⟨y, ds, hb.mono (by omega), by omega, by omega, hd, ?_⟩
  have r1 : inR ((1 + k1 : Nat) : Int) = true := inR_of (by omega) (by omega)
  have bb : 1 + k1 ≤ 16777216 := by omega
  have ek : (1 : Int) + (k1 : Int) = ((1 + k1 : Nat) : Int) := by omega
  have en : ((1 + k1 : Nat) : Int).toNat = 1 + k1 := by omega
  unfold Dv
  generalize ds.map vi = L at *
  simp only [fW, vi] at *
  generalize ((1 + k1 : Nat) : Int) = z1 at *
  simp [e1, ek, rng1_int _ r1, en, bb, h5]
theorem all2 {c : Int} {x : Val} {ds : List Nat} (h : IsBox c x) (hc : c ≤ 10000) : ∃ (y : Val) (S hh : Nat), IsBox (c + 2) y ∧ S < 6 ∧ hh < 3 ∧
    b__law_all_right_2 (fW x (.v (Dv ds)) .emp .emp .emp .emp .emp .emp .emp .emp .emp) = .ok .nx (fW y (.v (Dv ds)) .emp (.v (vi hh)) .emp .emp .emp .emp .emp (.v (vi S)) (.v (vi ds.sum))) := by
  obtain ⟨k1, y1, l1, b1, e1⟩ := take_at (many := 6) h (by omega) (by omega) (by omega)
  obtain ⟨k2, y2, l2, b2, e2⟩ := take_at (many := 3) b1 (by omega) (by omega) (by omega)
  have hsm := ints_vi ds
  have is1 := isum ds
  refine ⟨y2, k1, k2, by rw [show c + 2 = c + 1 + 1 by omega]; exact b2, by omega, by omega, ?_⟩
  unfold Dv
  generalize ds.map vi = L at *
  simp only [fW, vi] at *
  simp [e1, e2, hsm, is1]
end Z
namespace Z
open Lot
open PySem (Str)
theorem all4 {y : Val} {ds r : List Nat} {S hh k T : Nat} {L : List Val} {s2 s5 s8 : Slot} (hk : k < ds.length) (h4 : ds.length ≤ 4) (hT : T ≤ 100) (hr : r.sum ≤ T) (hrl : r.length ≤ 100) (hD : (ds.take (k + 1)).sum ≤ T) (hL : L.length + (T + 1) ≤ 1000000) (c5 : Cv s5) :
    ∃ s5', Cv s5' ∧ b__law_all_right_4 (fW y (.v (Dv ds)) s2 (.v (vi hh)) (.v (vi k)) s5 (.own false (.lst L)) (.v (Dv r)) s8 (.v (vi S)) (.v (vi T))) = .ok .nx (fW y (.v (Dv ds)) s2 (.v (vi hh)) (.v (vi k)) s5' (.own false (.lst (L ++ (nxt ((ds.take (k + 1)).sum) T r).map Dv))) (.v (Dv r)) s8 (.v (vi S)) (.v (vi T))) := by
  have p5 := c5.ok
  have c1 : cutG (ds.map vi) none (some ((k + 1 : Nat) : Int)) = (ds.take (k + 1)).map vi := by rw [cut_0n _ (by rw [List.length_map]; omega), List.map_take]
  have i1 := ints_vi (ds.take (k + 1))
  have i2 := ints_vi r
  have s1 := isum (ds.take (k + 1))
  have s2' := isum r
  have e1 : (k : Int) + 1 = ((k + 1 : Nat) : Int) := by omega
  generalize hDk : (ds.take (k + 1)).sum = Dk at *
  have em : (if r.sum < Dk then (Dk : Int) - (r.sum : Int) else 0) = ((Dk - r.sum : Nat) : Int) := by split <;> omega
  have en : (((T : Int) - (r.sum : Int) + 1) - ((Dk - r.sum : Nat) : Int)).toNat = T + 1 - r.sum - (Dk - r.sum) := by omega
  have r1 : inR ((Dk - r.sum : Nat) : Int) = true := inR_of (by omega) (by omega)
  have r2 : inR ((T : Int) - (r.sum : Int) + 1) = true := inR_of (by omega) (by omega)
  have hc : ∀ x5, compL [11] (tgN 11) tYes (eOp fAdd (eV 7) (eTup (asCons (eV 11) asNil))) (rangeV ((Dk - r.sum : Nat) : Int) (T + 1 - r.sum - (Dk - r.sum))) (fW y (.v (Dv ds)) s2 (.v (vi hh)) (.v (vi k)) x5 (.own false (.lst L)) (.v (Dv r)) s8 (.v (vi S)) (.v (vi T))) = .ok ((nxt Dk T r).map Dv) (fW y (.v (Dv ds)) s2 (.v (vi hh)) (.v (vi k)) x5 (.own false (.lst L)) (.v (Dv r)) s8 (.v (vi S)) (.v (vi T))) := by
    intro x5
    rw [compL_all (e := fW y (.v (Dv ds)) s2 (.v (vi hh)) (.v (vi k)) x5 (.own false (.lst L)) (.v (Dv r)) s8 (.v (vi S)) (.v (vi T))) (fun u => match u with | .int p => Dv (r ++ [p.toNat]) | _ => .non) fun u hu => by
      obtain ⟨j, hj, rfl⟩ := mem_rangeV hu
      have e0 : ((Dk - r.sum : Nat) : Int) + (j : Int) = ((Dk - r.sum + j : Nat) : Int) := by omega
      dsimp only
      rw [e0, Int.toNat_natCast]
      have ed : Dv (r ++ [Dk - r.sum + j]) = .tup (r.map vi ++ [vi (Dk - r.sum + j)]) := by
        unfold Dv
        rw [List.map_append]
        rfl
      have ll : (r.map vi).length + 1 ≤ 16777216 := by rw [List.length_map]; omega
      rw [ed]
      refine ⟨[.own true y, .v (Dv ds), s2, .v (vi hh), .v (vi k), x5, .own false (.lst L), .v (Dv r), s8, .v (vi S), .v (vi T), .v (vi (Dk - r.sum + j))], by simp [fW], by simp, ⟨.v (.tup (r.map vi ++ [vi (Dk - r.sum + j)])), ?_, by simp⟩, by simp, by simp [fW]⟩
      unfold Dv
      generalize r.map vi = rv at *
      generalize Dk - r.sum + j = q at *
      simp only [vi] at *
      simp [ll]]
    congr 1
    unfold rangeV nxt
    rw [List.map_map, List.map_map]
    refine List.map_congr_left fun j hj => ?_
    show Dv (r ++ [(((Dk - r.sum : Nat) : Int) + (j : Int)).toNat]) = Dv (r ++ [Dk - r.sum + j])
    rw [show (((Dk - r.sum : Nat) : Int) + (j : Int)).toNat = Dk - r.sum + j by omega]
  have nl : ((nxt Dk T r).map Dv).length ≤ T + 1 := by
    rw [List.length_map]
    exact nxt_len
  have b1 : T + 1 - r.sum - (Dk - r.sum) ≤ 16777216 := by omega
  have b2 : L.length + ((nxt Dk T r).map Dv).length ≤ 16777216 := by omega
  refine ⟨.v (vi (Dk - r.sum)), .v, ?_⟩
  unfold Dv at *
  generalize (nxt Dk T r).map (fun ds : List Nat => Val.tup (ds.map vi)) = N at *
  generalize T + 1 - r.sum - (Dk - r.sum) = cnt at *
  generalize (ds.take (k + 1)).map vi = dk at *
  generalize ds.take (k + 1) = tk at *
  generalize ds.map vi = dv at *
  generalize r.map vi = rv at *
  simp only [fW, vi] at *
  generalize ((Dk - r.sum : Nat) : Int) = z0 at *
  generalize ((k + 1 : Nat) : Int) = z1 at *
  generalize hz2 : (T : Int) - (r.sum : Int) + 1 = z2 at *
  simp [e1, c1, i1, i2, s1, s2', em, p5, hz2, rng2_int _ r1 r2, en, hc, b1, b2]
/-- the first rows' next ones -/
def pre (ds : List Nat) (T k i : Nat) : List (List Nat) := ((allR ds T k).take i).flatMap (nxt ((ds.take (k + 1)).sum) T)
theorem pre_succ {ds : List Nat} {T k i : Nat} {r : List Nat} (h : (allR ds T k)[i]? = some r) : pre ds T k (i + 1) = pre ds T k i ++ nxt ((ds.take (k + 1)).sum) T r := by
  have hi := (List.getElem?_eq_some_iff.mp h)
  obtain ⟨hi, e⟩ := hi
  unfold pre
  rw [List.take_succ_eq_append_getElem hi, List.flatMap_append, e]
  simp
theorem pre_len {ds : List Nat} {T k i : Nat} : (pre ds T k i).length ≤ (allR ds T k).length * (T + 1) := by
  have h := flat_len (f := nxt ((ds.take (k + 1)).sum) T) (c := T + 1) (l := (allR ds T k).take i) fun x _ => nxt_len
  have h2 : ((allR ds T k).take i).length ≤ (allR ds T k).length := by rw [List.length_take]; omega
  exact Nat.le_trans h (Nat.mul_le_mul_right _ h2)
theorem pow_bd {T k : Nat} (hT : T ≤ 8) (hk : k ≤ 4) : (T + 1) ^ k ≤ 6561 := by
  have h1 : (T + 1) ^ k ≤ 9 ^ k := Nat.pow_le_pow_left (by omega) k
  have h2 : 9 ^ k ≤ 9 ^ 4 := Nat.pow_le_pow_right (by omega) hk
  have h3 : 9 ^ 4 = 6561 := rfl
  omega
theorem sum8 {ds : List Nat} (h4 : ds.length ≤ 4) (hd : ∀ d ∈ ds, d ≤ 2) : ds.sum ≤ 8 := by
  have := sum_le hd
  omega
theorem all5 {y : Val} {ds : List Nat} {S hh k : Nat} {s2 s5 s6 s7 s8 : Slot} (hk : k < ds.length) (h4 : ds.length ≤ 4) (hd : ∀ d ∈ ds, d ≤ 2) (c5 : Cv s5) (c6 : Fr s6) (c7 : Cv s7) (c8 : s8 = .own false (.lst ((allR ds ds.sum k).map Dv)) ∨ s8 = .v (.lst ((allR ds ds.sum k).map Dv))) :
    ∃ s5' s6' s7', Cv s5' ∧ Cv s6' ∧ Cv s7' ∧ b__law_all_right_5 (fW y (.v (Dv ds)) s2 (.v (vi hh)) (.v (vi k)) s5 s6 s7 s8 (.v (vi S)) (.v (vi ds.sum))) = .ok .nx (fW y (.v (Dv ds)) s2 (.v (vi hh)) (.v (vi k)) s5' s6' s7' (.v (.lst ((allR ds ds.sum (k + 1)).map Dv))) (.v (vi S)) (.v (vi ds.sum))) := by
  have hT := sum8 h4 hd
  have al := allR_len (ds := ds) (T := ds.sum) k
  have pb := pow_bd hT (show k ≤ 4 by omega)
  have key : ∃ e', forL (tgN 7) b__law_all_right_4 ((allR ds ds.sum k).map Dv) (fW y (.v (Dv ds)) s2 (.v (vi hh)) (.v (vi k)) s5 (.own false (.lst ((pre ds ds.sum k 0).map Dv))) s7 (.v (.lst ((allR ds ds.sum k).map Dv))) (.v (vi S)) (.v (vi ds.sum))) = .ok .nx e' ∧
      ∃ s5' s7', Cv s5' ∧ Cv s7' ∧ e' = fW y (.v (Dv ds)) s2 (.v (vi hh)) (.v (vi k)) s5' (.own false (.lst ((pre ds ds.sum k ((allR ds ds.sum k).map Dv).length).map Dv))) s7' (.v (.lst ((allR ds ds.sum k).map Dv))) (.v (vi S)) (.v (vi ds.sum)) := by
    refine for_run (fun i e => ∃ s5' s7', Cv s5' ∧ Cv s7' ∧ e = fW y (.v (Dv ds)) s2 (.v (vi hh)) (.v (vi k)) s5' (.own false (.lst ((pre ds ds.sum k i).map Dv))) s7' (.v (.lst ((allR ds ds.sum k).map Dv))) (.v (vi S)) (.v (vi ds.sum))) ⟨_, _, c5, c7, rfl⟩ fun i u e hu ⟨t5, t7, d5, d7, he⟩ => ?_
    subst he
    rw [List.getElem?_map] at hu
    cases hr : (allR ds ds.sum k)[i]? with
    | none => rw [hr] at hu; cases hu
    | some r =>
      rw [hr] at hu
      have hu : Dv r = u := Option.some.inj hu
      subst hu
      have ro := allR_ok (Nat.le_refl ds.sum) k (by omega) r (List.mem_of_getElem? hr)
      have pl := pre_len (ds := ds) (T := ds.sum) (k := k) (i := i)
      have plb : (allR ds ds.sum k).length * (ds.sum + 1) ≤ 6561 * 9 := Nat.mul_le_mul (by omega) (by omega)
      obtain ⟨u5, f5, e2⟩ := all4 (y := y) (S := S) (hh := hh) (T := ds.sum) (L := (pre ds ds.sum k i).map Dv) (s2 := s2) (s8 := .v (.lst ((allR ds ds.sum k).map Dv))) hk h4 (by omega) ro.sum (by rw [ro.len]; omega) (take_le ds (k + 1)) (by rw [List.length_map]; omega) d5
      rw [← List.map_append, ← pre_succ hr] at e2
      have p7 := d7.ok
      exact ⟨_, _, by simp [fW, p7], .inl e2, _, _, f5, .v, rfl⟩
  obtain ⟨e', h5, s5', s7', d5, d7, he⟩ := key
  subst he
  have p0 : pre ds ds.sum k 0 = [] := rfl
  have pe : pre ds ds.sum k ((allR ds ds.sum k).map Dv).length = allR ds ds.sum (k + 1) := by
    unfold pre
    rw [List.length_map, List.take_length]
    rfl
  rw [p0, pe, List.map_nil] at h5
  have p6 := c6.ok
  refine ⟨s5', .v (.lst ((allR ds ds.sum (k + 1)).map Dv)), s7', d5, .v, d7, ?_⟩
  generalize (allR ds ds.sum (k + 1)).map Dv = R1 at *
  generalize (allR ds ds.sum k).map Dv = R0 at *
  generalize Dv ds = D at *
  simp only [fW, vi] at *
  rcases c8 with rfl | rfl
  · simp [p6, h5]
  · simp [p6, h5]
theorem all6 {y : Val} {ds : List Nat} {S hh : Nat} (h4 : ds.length ≤ 4) (hd : ∀ d ∈ ds, d ≤ 2) :
    ∃ s4 s5 s6 s7, Cv s7 ∧ b__law_all_right_6 (fW y (.v (Dv ds)) .emp (.v (vi hh)) .emp .emp .emp .emp (.own false (.lst [.tup []])) (.v (vi S)) (.v (vi ds.sum))) = .ok .nx (fW y (.v (Dv ds)) .emp (.v (vi hh)) s4 s5 s6 s7 (if ds.length = 0 then .own false (.lst [.tup []]) else .v (.lst ((allR ds ds.sum ds.length).map Dv))) (.v (vi S)) (.v (vi ds.sum))) := by
  have key : ∃ e', forL (tgN 4) b__law_all_right_5 (rangeV 0 ds.length) (fW y (.v (Dv ds)) .emp (.v (vi hh)) .emp .emp .emp .emp (.own false (.lst [.tup []])) (.v (vi S)) (.v (vi ds.sum))) = .ok .nx e' ∧
      ∃ s4 s5 s6 s7, Cv s4 ∧ Cv s5 ∧ Cv s6 ∧ Cv s7 ∧ e' = fW y (.v (Dv ds)) .emp (.v (vi hh)) s4 s5 s6 s7 (if ds.length = 0 then .own false (.lst [.tup []]) else .v (.lst ((allR ds ds.sum ds.length).map Dv))) (.v (vi S)) (.v (vi ds.sum)) := by
    refine range_run (fun i e => ∃ s4 s5 s6 s7, Cv s4 ∧ Cv s5 ∧ Cv s6 ∧ Cv s7 ∧ e = fW y (.v (Dv ds)) .emp (.v (vi hh)) s4 s5 s6 s7 (if i = 0 then .own false (.lst [.tup []]) else .v (.lst ((allR ds ds.sum i).map Dv))) (.v (vi S)) (.v (vi ds.sum))) ⟨_, _, _, _, .e, .e, .e, .e, rfl⟩ fun i e hi ⟨t4, t5, t6, t7, d4, d5, d6, d7, he⟩ => ?_
    subst he
    have e0 : (0 : Int) + i = (i : Int) := by omega
    have p4 := d4.ok
    obtain ⟨u5, u6, u7, f5, f6, f7, e2⟩ := all5 (y := y) (ds := ds) (S := S) (hh := hh) (k := i) (s2 := .emp) (s8 := (if i = 0 then .own false (.lst [.tup []]) else .v (.lst ((allR ds ds.sum i).map Dv)))) hi h4 hd d5 d6.fr d7 (by
      by_cases z : i = 0
      · subst z
        rw [if_pos rfl]
        exact .inl rfl
      · rw [if_neg z]
        exact .inr rfl)
    rw [e0]
    refine ⟨_, _, by simp [fW, p4], .inl e2, .v (vi i), u5, u6, u7, .v, f5, f6, f7, ?_⟩
    rw [if_neg (by omega)]
  obtain ⟨e', h5, s4, s5, s6, s7, d4, d5, d6, d7, he⟩ := key
  subst he
  refine ⟨s4, s5, s6, s7, d7, ?_⟩
  have r1 : inR (ds.length : Int) = true := inR_of (by omega) (by omega)
  have dl : (ds.map vi).length = ds.length := by simp
  generalize (if ds.length = 0 then Slot.own false (.lst [.tup []]) else .v (.lst ((allR ds ds.sum ds.length).map Dv))) = s8 at *
  unfold Dv at *
  generalize ds.map vi = dv at *
  simp only [fW, vi] at *
  simp [dl, rng1_int _ r1, h5]
end Z
namespace Z
open Lot
open PySem (Str)
theorem sum_row {r : List Nat} {k t : Nat} (hl : r.length = k) (ht : t ≤ k) : (r.take t).sum = sm (dn r) t := take_sum (by omega)
theorem row_okP {ds r : List Nat} (ro : RowOk ds ds.sum ds.length r) (hs : r.sum = ds.sum) : OkP ds r := by
  have hl := ro.len
  refine ⟨fun t ht => ?_, ?_⟩
  · rw [← take_sum (by omega), ← take_sum (by omega)]
    exact ro.ge t ht
  · rw [← all_sum, ← hs, all_sum, hl]
def toN : Val → Option Nat
  | .int i => some i.toNat
  | _ => none
/-- a row, read back -/
def unD : Val → List Nat
  | .tup us => us.filterMap toN
  | _ => []
theorem unD_Dv (r : List Nat) : unD (Dv r) = r := by
  show (r.map vi).filterMap toN = r
  rw [List.filterMap_map]
  have : toN ∘ vi = some := by
    funext n
    show some ((n : Int).toNat) = some n
    rw [Int.toNat_natCast]
  rw [this, List.filterMap_some]
theorem all7 {y : Val} {ds : List Nat} {S hh : Nat} {s4 s5 s6 s7 : Slot} (h1 : 1 ≤ ds.length) (h4 : ds.length ≤ 4) (hd : ∀ d ∈ ds, d ≤ 2) (hS : S < 6) (h3 : hh < 3) (c7 : Cv s7) :
    ∃ s7', b__law_all_right_7 (fW y (.v (Dv ds)) .emp (.v (vi hh)) s4 s5 s6 s7 (.v (.lst ((allR ds ds.sum ds.length).map Dv))) (.v (vi S)) (.v (vi ds.sum))) = .ok .nx (fW y (.v (Dv ds)) (.v (pv (rw' S hh ds))) (.v (vi hh)) s4 s5 s6 s7' (.v (.lst ((allR ds ds.sum ds.length).map Dv))) (.v (vi S)) (.v (vi ds.sum))) := by
  have hT := sum8 h4 hd
  have hb : Bd ds := ⟨by omega, fun d hd' => by have := hd d hd'; omega⟩
  have al := allR_len (ds := ds) (T := ds.sum) ds.length
  have pb := pow_bd hT h4
  have hc : compL [7] (tgN 7) (tE (eOp fEq (eB fSumX (asCons (eV 7) asNil)) (eV 10))) (eTup (asCons (eCall m__law_cost (asCons (eV 1) (asCons (eV 9) (asCons (eV 3) (asCons (eV 7) asNil))))) (asCons (eV 7) asNil))) ((allR ds ds.sum ds.length).map Dv) (fW y (.v (Dv ds)) .emp (.v (vi hh)) s4 s5 s6 .emp (.v (.lst ((allR ds ds.sum ds.length).map Dv))) (.v (vi S)) (.v (vi ds.sum))) =
      .ok (((dueR ds).map fun r => (cB S hh ds r 0, r)).map pv) (fW y (.v (Dv ds)) .emp (.v (vi hh)) s4 s5 s6 .emp (.v (.lst ((allR ds ds.sum ds.length).map Dv))) (.v (vi S)) (.v (vi ds.sum))) := by
    have back : ∀ u ∈ (allR ds ds.sum ds.length).map Dv, ∃ r, RowOk ds ds.sum ds.length r ∧ Dv r = u := fun u hu => by
      obtain ⟨r, hr, e⟩ := List.mem_map.mp hu
      exact ⟨r, allR_ok (Nat.le_refl _) ds.length (Nat.le_refl _) r hr, e⟩
    have := compL_pure (vs := [7]) (t := tgN 7) (c := (tE (eOp fEq (eB fSumX (asCons (eV 7) asNil)) (eV 10)))) (a := (eTup (asCons (eCall m__law_cost (asCons (eV 1) (asCons (eV 9) (asCons (eV 3) (asCons (eV 7) asNil))))) (asCons (eV 7) asNil)))) (e := fW y (.v (Dv ds)) .emp (.v (vi hh)) s4 s5 s6 .emp (.v (.lst ((allR ds ds.sum ds.length).map Dv))) (.v (vi S)) (.v (vi ds.sum)))
      (fun u => Nat.beq (unD u).sum ds.sum)
      (fun u => pv (cB S hh ds (unD u) 0, (unD u))) (xs := (allR ds ds.sum ds.length).map Dv) fun u hu => by
        obtain ⟨r, ro, e⟩ := back u hu
        subst e
        rw [unD_Dv r]
        have i2 := ints_vi r
        have s2 := isum r
        refine ⟨fW y (.v (Dv ds)) .emp (.v (vi hh)) s4 s5 s6 (.v (Dv r)) (.v (.lst ((allR ds ds.sum ds.length).map Dv))) (.v (vi S)) (.v (vi ds.sum)), by simp [fW], ?_, fun hp => ⟨.v (pv (cB S hh ds r 0, r)), ?_, by simp⟩, by simp [fW], by simp [fW]⟩
        · have ed : decide ((r.sum : Int) = (ds.sum : Int)) = Nat.beq r.sum ds.sum := by
            cases hb : Nat.beq r.sum ds.sum with
            | true => exact decide_eq_true (by have := Nat.eq_of_beq_eq_true hb; omega)
            | false => exact decide_eq_false (fun z => by
                have : Nat.beq r.sum ds.sum = true := by rw [show r.sum = ds.sum by omega]; exact Nat.beq_refl _
                rw [hb] at this
                cases this)
          rw [← ed]
          generalize (allR ds ds.sum ds.length).map Dv = R at *
          unfold Dv
          generalize r.map vi = rv at *
          generalize ds.map vi = dv at *
          simp only [fW, vi] at *
          generalize (ds.sum : Int) = z at *
          simp [i2, s2]
        · have hs := Nat.eq_of_beq_eq_true hp
          have ok := row_okP ro hs
          have ec := law_cost_ok (S := S) (h := hh) hb (by omega) (by omega) (ok.pl ro.len) ro.len
          rw [← cB_all ro.len ok.1] at ec
          unfold pv
          generalize (allR ds ds.sum ds.length).map Dv = R at *
          generalize cB S hh ds r 0 = cc at *
          unfold Dv at *
          generalize r.map vi = rv at *
          generalize ds.map vi = dv at *
          simp only [fW, vi] at *
          simp [ec]
    rw [this]
    congr 1
    unfold dueR
    rw [List.filter_map, List.map_map, List.map_map]
    have ef : (allR ds ds.sum ds.length).filter ((fun u => Nat.beq (unD u).sum ds.sum) ∘ Dv) = (allR ds ds.sum ds.length).filter fun r => Nat.beq r.sum ds.sum := by
      refine List.filter_congr fun r _ => ?_
      show Nat.beq (unD (Dv r)).sum ds.sum = _
      rw [unD_Dv r]
    rw [ef]
    refine List.map_congr_left fun r _ => ?_
    show pv (cB S hh ds (unD (Dv r)) 0, (unD (Dv r))) = _
    rw [unD_Dv r]
    rfl
  obtain ⟨q, qs, hL, hpick⟩ := least_ok h1 h4 hd hS h3
  rw [hL, List.map_cons] at hc
  have hm := minX_pv q qs
  rw [lt_eq, hpick] at hm
  have er : row ltB S hh ds = rw' S hh ds := by
    show _ = row ltR S hh ds
    rw [lt_eq]
  rw [er] at hm
  have rl : ((allR ds ds.sum ds.length).map Dv).length ≤ 16777216 := by
    rw [List.length_map]
    omega
  refine ⟨s7, ?_⟩
  generalize pv (rw' S hh ds) = W at *
  generalize pv q :: qs.map pv = QL at *
  generalize (allR ds ds.sum ds.length).map Dv = R at *
  generalize Dv ds = D at *
  simp only [fW, vi] at *
  rcases c7 with rfl | ⟨w, rfl⟩
  · simp [rl, hc, hm]
  · simp [rl, hc, hm]
theorem veqs_vi : ∀ l : List Nat, veqs (l.map vi) (l.map vi) = true
  | [] => rfl
  | a :: l => by
    rw [List.map_cons, veqs, veqs_vi l, Bool.and_true]
    show ((a : Int) == (a : Int)) = true
    exact beq_self_eq_true _
theorem fEq_pv (r : Row) : fEq (pv r) (pv r) = some (.v (.bl true)) := by
  unfold fEq
  rw [vok_pv, if_pos (show (true && true) = true from rfl)]
  have : veq (pv r) (pv r) = true := by
    show (((r.1 : Int) == (r.1 : Int)) && (veqs (r.2.map vi) (r.2.map vi) && true)) = true
    rw [veqs_vi, beq_self_eq_true]
    rfl
  rw [this]
theorem good_pv' {ds : List Nat} {S h : Nat} (hb : Bd ds) (n : Nat) : good (n + 2) (pv (rw' S h ds)) = true := by
  unfold pv
  refine good_tup (n := n + 1) (by simp) ?_
  have hr := row_len (S := S) (h := h) _ ds (Nat.le_refl _)
  have := good_tup (n := n) (xs := (rw' S h ds).2.map vi) (by rw [List.length_map]; have := hb.1; omega) (good_vi n _)
  rw [List.all_cons, List.all_cons, this]
  rfl
theorem all_right_ok {c : Int} {x : Val} (h : IsBox c x) (hc : c ≤ 1000) : ∃ y, IsBox (c + 7) y ∧ m__law_all_right [.own x] = .ok (.v (.bl true)) [.own true y] := by
  obtain ⟨y1, ds, b1, l1, l4, hd, e1⟩ := all1 h (by omega)
  obtain ⟨y2, S, hh, b2, hS, h3, e2⟩ := all2 (ds := ds) b1 (by omega)
  have hb : Bd ds := ⟨by omega, fun d hd' => by have := hd d hd'; omega⟩
  have e3 : b__law_all_right_3 (fW y2 (.v (Dv ds)) .emp (.v (vi hh)) .emp .emp .emp .emp .emp (.v (vi S)) (.v (vi ds.sum))) = .ok .nx (fW y2 (.v (Dv ds)) .emp (.v (vi hh)) .emp .emp .emp .emp (.own false (.lst [.tup []])) (.v (vi S)) (.v (vi ds.sum))) := by
    simp [fW]
  obtain ⟨s4, s5, s6, s7, c7, e4⟩ := all6 (y := y2) (S := S) (hh := hh) l4 hd
  rw [if_neg (by omega)] at e4
  obtain ⟨s7', e5⟩ := all7 (y := y2) (s4 := s4) (s5 := s5) (s6 := s6) l1 l4 hd hS h3 c7
  have e6 : b__law_all_right_8 (fW y2 (.v (Dv ds)) (.v (pv (rw' S hh ds))) (.v (vi hh)) s4 s5 s6 s7' (.v (.lst ((allR ds ds.sum ds.length).map Dv))) (.v (vi S)) (.v (vi ds.sum))) = .ok (.rt (.v (.bl true))) (fW y2 (.v (Dv ds)) (.v (pv (rw' S hh ds))) (.v (vi hh)) s4 s5 s6 s7' (.v (.lst ((allR ds ds.sum ds.length).map Dv))) (.v (vi S)) (.v (vi ds.sum))) := by
    have eb := best_lots_ok (S := S) (h := hh) hb l1 (by omega) (by omega)
    have el := law_best_ok (S := S) (h := hh) hb (by omega) (by omega)
    have es := same_vv (good_pv' (S := S) (h := hh) hb 5)
    have ee := fEq_pv (rw' S hh ds)
    generalize pv (rw' S hh ds) = R at *
    generalize (allR ds ds.sum ds.length).map Dv = A at *
    generalize Dv ds = D at *
    simp only [fW, vi] at *
    simp [eb, el, es, ee]
  refine ⟨y2, by rw [show c + 7 = c + 5 + 2 by omega]; exact b2, ?_⟩
  show fin 1 (b__law_all_right (fW x .emp .emp .emp .emp .emp .emp .emp .emp .emp .emp)) = _
  unfold b__law_all_right
  rw [seq_nx e1, seq_nx e2, seq_nx e3, seq_nx e4, seq_nx e5, e6]
  rfl
end Z
namespace Z
open Lot
open PySem (Str)
/-! ### one round -/
def fR (x : Val) (s1 s2 D s4 h s6 s7 s8 s9 S s11 s12 s13 s14 : Slot) : Env := [.own true x, s1, s2, D, s4, h, s6, s7, s8, s9, S, s11, s12, s13, s14]
/-- behind the first statements -/
def fQ (x : Val) (s1 s2 : Slot) (ds : List Nat) (h : Nat) (nm : Bool) (s7 s8 : Slot) (S : Nat) (s11 s12 s13 s14 : Slot) : Env :=
  fR x s1 s2 (.v (Dv ds)) (.v (pv (rw' S h ds))) (.v (vi h)) (.v (.bl nm)) s7 s8 (.v (Dv (silp ds S h))) (.v (vi S)) s11 s12 s13 s14
theorem right_1 {c : Int} {x : Val} (h : IsBox c x) (hc : c ≤ 1000) : ∃ (y : Val) (ds : List Nat) (S hh : Nat), IsBox (c + 35) y ∧ Bd ds ∧ 1 ≤ ds.length ∧ S ≤ 1000 ∧ hh ≤ 20 ∧
    b__law_right_1 (fR x .emp .emp .emp .emp .emp .emp .emp .emp .emp .emp .emp .emp .emp .emp) = .ok .nx (fR y .emp .emp (.v (Dv ds)) .emp (.v (vi hh)) .emp .emp .emp .emp (.v (vi S)) .emp .emp .emp .emp) := by
  obtain ⟨y, ds, S, hh, hb, b1, b2, b3, b4, e⟩ := lots_ok h hc
  refine ⟨y, ds, S, hh, hb, b1, b2, b3, b4, ?_⟩
  generalize Dv ds = D at *
  simp only [fR, vi] at *
  simp [e]
theorem right_2 {c : Int} {x : Val} {ds : List Nat} {S hh : Nat} (h : IsBox c x) (hc : c ≤ 10000) (hb : Bd ds) (hS : S ≤ 1000) (h2 : hh ≤ 20) : ∃ (y : Val) (nm : Bool), IsBox (c + 1) y ∧
    b__law_right_2 (fR x .emp .emp (.v (Dv ds)) .emp (.v (vi hh)) .emp .emp .emp .emp (.v (vi S)) .emp .emp .emp .emp) = .ok .nx (fR y .emp .emp (.v (Dv ds)) (.v (pv (rw' S hh ds))) (.v (vi hh)) (.v (.bl nm)) .emp .emp .emp (.v (vi S)) .emp .emp .emp .emp) := by
  obtain ⟨k1, y1, l1, b1, e1⟩ := take_at (many := 2) h (by omega) (by omega) (by omega)
  have eb := law_best_ok hb hS h2
  refine ⟨y1, decide ((k1 : Int) = 0), b1, ?_⟩
  generalize pv (rw' S hh ds) = R at *
  generalize Dv ds = D at *
  generalize hk : (k1 : Int) = k at *
  simp only [fR, vi] at *
  simp [e1, eb, hk]
theorem right_3 {x : Val} {ds : List Nat} {S hh : Nat} {nm : Bool} (hb : Bd ds) (hS : S ≤ 1000) (h2 : hh ≤ 20) :
    b__law_right_3 (fR x .emp .emp (.v (Dv ds)) (.v (pv (rw' S hh ds))) (.v (vi hh)) (.v (.bl nm)) .emp .emp .emp (.v (vi S)) .emp .emp .emp .emp) = .ok .nx (fQ x .emp .emp ds hh nm .emp .emp S .emp .emp .emp .emp) := by
  have ea := law_silver_ok hb hS h2
  unfold fQ
  generalize pv (rw' S hh ds) = R at *
  generalize Dv (silp ds S hh) = T at *
  generalize Dv ds = D at *
  simp only [fR, vi] at *
  simp [ea]
theorem right_4 {x : Val} {ds : List Nat} {S hh : Nat} {nm : Bool} (hb : Bd ds) (h1 : 1 ≤ ds.length) (hS : S ≤ 1000) (h2 : hh ≤ 20) :
    b__law_right_4 (fQ x .emp .emp ds hh nm .emp .emp S .emp .emp .emp .emp) = .ok .nx (fQ x .emp .emp ds hh nm .emp .emp S (.own false (.lst [pv (rw' S hh ds), pv (rw' S hh ds)])) .emp .emp .emp) := by
  have el := best_lots_ok hb h1 hS h2
  have a1 := asked_1 (d := .non) (k := nm) (by rw [el]; exact .told _)
  have a2 := asked_1 (d := .non) (k := !nm) (by rw [el]; exact .told _)
  unfold fQ
  generalize pv (rw' S hh ds) = R at *
  generalize Dv (silp ds S hh) = T at *
  generalize Dv ds = D at *
  simp only [fR, vi] at *
  simp [a1, a2]
theorem silp_LP {ds : List Nat} {S h : Nat} : LP ds (silp ds S h) := sil_LP _ _ (Nat.le_refl _)
theorem silp_Bd {ds : List Nat} {S h : Nat} (hb : Bd ds) : (silp ds S h).length ≤ 12 := by
  rw [silp_LP.len]
  exact hb.1
theorem good_Dn {xs : List Nat} (n : Nat) (hl : xs.length ≤ 1000) : good (n + 1) (Dv xs) = true := good_tup (by rw [List.length_map]; omega) (good_vi n xs)
theorem right_5 {x : Val} {ds : List Nat} {S hh : Nat} {nm : Bool} (hb : Bd ds) (h1 : 1 ≤ ds.length) (hS : S ≤ 1000) (h2 : hh ≤ 20) :
    b__law_right_5 (fQ x .emp .emp ds hh nm .emp .emp S (.own false (.lst [pv (rw' S hh ds), pv (rw' S hh ds)])) .emp .emp .emp) = .ok .nx (fQ x .emp .emp ds hh nm .emp .emp S (.own false (.lst [pv (rw' S hh ds), pv (rw' S hh ds)])) .emp .emp .emp) := by
  have el := silver_ok hb h1 hS h2
  have a1 := asked_2 (d := .non) (k := nm) (by rw [el]; exact .told _)
  have a2 := asked_2 (d := .non) (k := !nm) (by rw [el]; exact .told _)
  have g : good 7 (.lst [pv (rw' S hh ds), pv (rw' S hh ds), Dv (silp ds S hh), Dv (silp ds S hh)]) = true := good_lst (by simp) (by
    rw [List.all_cons, List.all_cons, List.all_cons, List.all_cons, good_pv' hb 4, good_Dn 5 (by have := silp_Bd (S := S) (h := hh) hb; omega)]
    rfl)
  have es := same_oo g
  unfold fQ
  generalize pv (rw' S hh ds) = R at *
  generalize Dv (silp ds S hh) = T at *
  generalize Dv ds = D at *
  simp only [fR, vi] at *
  simp [a1, a2, es]
/-- a plan that is judged -/
def GoodP (ds xs : List Nat) : Prop := Pl ds xs ∧ xs.length = ds.length ∧ sm (dn xs) ds.length = sm (dn ds) ds.length
theorem right_6 {x : Val} {ds xs : List Nat} {S hh : Nat} {nm : Bool} {s2 s11 s12 s13 s14 : Slot} (hb : Bd ds) (h1 : 1 ≤ ds.length) (hS : S ≤ 1000) (h2 : hh ≤ 20) (g : GoodP ds xs) (c2 : Cv s2) :
    ∃ s2', Cv s2' ∧ b__law_right_6 (fQ x .emp s2 ds hh nm .emp (.v (Dv xs)) S s11 s12 s13 s14) = .ok .nx (fQ x .emp s2' ds hh nm .emp (.v (Dv xs)) S s11 s12 s13 s14) := by
  obtain ⟨p, hl, he⟩ := g
  have ec := law_cost_ok hb hS h2 p hl
  have el := lot_cost_ok hb h1 hS h2 p hl he
  have a1 := asked_0 (k := nm) (by rw [el]; exact .told _)
  have a2 := asked_0 (k := !nm) (by rw [el]; exact .told _)
  have ge := plan_ge (x := dn xs) (n := ds.length) (fokD ds S hh) (fun t ht => p.ge t (by omega)) he
  have er : (rw' S hh ds).1 = Fm ds S hh ds.length := row_all
  have gg : good 7 (.lst [vi (pc (dn ds) (dn xs) S hh ds.length), vi (pc (dn ds) (dn xs) S hh ds.length)]) = true := rfl
  have es := same_oo gg
  have p2 := c2.ok
  refine ⟨.v (vi (pc (dn ds) (dn xs) S hh ds.length)), .v, ?_⟩
  unfold fQ pv
  rw [er]
  generalize pc (dn ds) (dn xs) S hh ds.length = pcc at *
  generalize Fm ds S hh ds.length = F at *
  generalize (rw' S hh ds).2.map vi = pl at *
  generalize Dv (silp ds S hh) = T at *
  generalize Dv ds = D at *
  generalize Dv xs = X at *
  have nl : ¬ (pcc : Int) < (F : Int) := by omega
  have nl' : ¬ pcc < F := by omega
  simp only [fR, vi] at *
  simp [ec, a1, a2, es, p2, nl, nl']
theorem lp_good {ds xs : List Nat} (h : LP ds xs) : GoodP ds xs := Z.LP.pl h
theorem right_7 {c : Int} {x : Val} {ds : List Nat} {S hh : Nat} {nm : Bool} {s11 : Slot} (h : IsBox c x) (hc : c ≤ 5000) (hb : Bd ds) (h1 : 1 ≤ ds.length) (hS : S ≤ 1000) (h2 : hh ≤ 20) :
    ∃ y s2 s8, IsBox (c + 48) y ∧ Cv s2 ∧ b__law_right_7 (fQ x .emp .emp ds hh nm .emp .emp S s11 .emp .emp .emp) = .ok .nx (fQ y .emp s2 ds hh nm .emp s8 S s11 .emp .emp .emp) := by
  obtain ⟨y1, xs1, hy1, p1, hl1, he1, ed1⟩ := drawn_ok h (by omega) hb h1
  obtain ⟨y2, xs2, hy2, p2, hl2, he2, ed2⟩ := drawn_ok hy1 (by omega) hb h1
  have rowg : GoodP ds (rw' S hh ds).2 := lp_good (row_LP (lt := ltR) (S := S) (h := hh) _ ds (Nat.le_refl _))
  have key : ∃ e', forL (tgN 8) b__law_right_6 [Dv (rw' S hh ds).2, Dv (silp ds S hh), Dv ds, Dv xs1, Dv xs2] (fQ y2 .emp .emp ds hh nm .emp .emp S s11 .emp .emp .emp) = .ok .nx e' ∧ ∃ s2 s8, Cv s2 ∧ Cv s8 ∧ e' = fQ y2 .emp s2 ds hh nm .emp s8 S s11 .emp .emp .emp := by
    refine for_run (fun i e => ∃ s2 s8, Cv s2 ∧ Cv s8 ∧ e = fQ y2 .emp s2 ds hh nm .emp s8 S s11 .emp .emp .emp) ⟨_, _, .e, .e, rfl⟩ fun i u e hu ⟨s2, s8, d2, d8, he⟩ => ?_
    subst he
    have hg : ∃ xs, u = Dv xs ∧ GoodP ds xs := by
      have := List.mem_of_getElem? hu
      simp only [List.mem_cons, List.not_mem_nil, or_false] at this
      rcases this with rfl | rfl | rfl | rfl | rfl
      · exact ⟨_, rfl, rowg⟩
      · exact ⟨_, rfl, lp_good silp_LP⟩
      · exact ⟨_, rfl, lp_good (LP.self ds)⟩
      · exact ⟨_, rfl, p1, hl1, he1⟩
      · exact ⟨_, rfl, p2, hl2, he2⟩
    obtain ⟨xs, rfl, g⟩ := hg
    obtain ⟨u2, f2, e2⟩ := right_6 (x := y2) (nm := nm) (s2 := s2) (s11 := s11) (s12 := .emp) (s13 := .emp) (s14 := .emp) hb h1 hS h2 g d2
    have p8 := d8.ok
    exact ⟨_, _, by simp [fQ, fR, p8], .inl e2, _, _, f2, .v, rfl⟩
  obtain ⟨e', h5, s2, s8, d2, d8, he⟩ := key
  subst he
  refine ⟨y2, s2, s8, by rw [show c + 48 = c + 24 + 24 by omega]; exact hy2, d2, ?_⟩
  have er : Dv (rw' S hh ds).2 = .tup ((rw' S hh ds).2.map vi) := rfl
  rw [er] at h5
  unfold fQ at *
  unfold pv at *
  generalize (rw' S hh ds).2.map vi = pl at *
  generalize Dv (silp ds S hh) = T at *
  generalize Dv xs1 = X1 at *
  generalize Dv xs2 = X2 at *
  generalize Dv ds = D at *
  simp only [fR, vi] at *
  simp [ed1, ed2, h5]
/-- the second is a list of one's own -/
theorem same_ob {x : Val} {e : Env} {i : Nat} (g : good 7 x = true) (he : eget e i = .own false x) : callR (m__law_same 8) [.own x, .bor i] e = .ok (.v (.bl true)) (eput e i (.own false x)) := by
  unfold callR
  have l : lent e [.own x, .bor i] = [i] := by
    rw [lent_own, lent_bor, he, lent_nil]
  have hd : hands e [.own x, .bor i] = some [.own x, .own x] := by
    rw [hands_cons, hands_cons, hands_nil, hand_bor, he, hand_own]
  rw [l, hd]
  show (match m__law_same 8 [.own x, .own x] with | .ok r ps => Rs.ok r (backs e [.own x, .bor i] ps) | .ex c fs ps => .ex c fs (backs e [.own x, .bor i] ps) | .no => .no) = _
  rw [same_full g]
  show Rs.ok _ (backs e [.own x, .bor i] [.own true x, .own true x]) = _
  rw [backs_own, backs_bor, he, backs_nil]
  rfl
theorem right_8 {c : Int} {x : Val} {ds : List Nat} {S hh : Nat} {nm : Bool} {s2 s8 s11 s12 s13 : Slot} (h : IsBox c x) (hc : c ≤ 5000) (hb : Bd ds) (h1 : 1 ≤ ds.length) (hS : S ≤ 1000) (h2 : hh ≤ 20) (c2 : Fr s2) (c13 : Cv s13) :
    ∃ y s2' s13', IsBox (c + 26) y ∧ Fr s2' ∧ Cv s13' ∧ b__law_right_8 (fQ x .emp s2 ds hh nm .emp s8 S s11 s12 s13 .emp) = .ok .nx (fQ y .emp s2' ds hh nm .emp s8 S s11 s12 s13' .emp) := by
  obtain ⟨y1, xs, hy1, p, hl, he, ed⟩ := drawn_ok h (by omega) hb h1
  obtain ⟨y2, v, hy2, B, gv, eb⟩ := bent_ok hy1 (by omega) hb h1 hl
  have end' := bent_end (S := S) (h := hh) (k := nm) hb h1 hS h2 B
  have p2 := c2.ok
  have p13 := c13.ok
  rcases end' with ⟨e1, e2⟩ | ⟨e1, cc, e2, e3⟩
  · have g7 : good 7 (.lst [.str "plan", v]) = true := by
      show (decide (_ ≤ 1000000) && (List.all _ (good 6))) = true
      have g6 : good 6 v = true := by
        have mono : ∀ (n : Nat) (u : Val), good n u = true → good (n + 1) u = true := by
          intro n
          induction n with
          | zero =>
            intro u hu
            cases u <;> first | (cases hu; done) | exact hu
          | succ n ih =>
            intro u hu
            cases u with
            | lst xs =>
              have hu' : (decide (xs.length ≤ 1000000) && xs.all (good n)) = true := hu
              rw [Bool.and_eq_true] at hu'
              show (decide (xs.length ≤ 1000000) && xs.all (good (n + 1))) = true
              rw [hu'.1, Bool.true_and, List.all_eq_true]
              exact fun w hw => ih w (List.all_eq_true.mp hu'.2 w hw)
            | tup xs =>
              have hu' : (decide (xs.length ≤ 1000000) && xs.all (good n)) = true := hu
              rw [Bool.and_eq_true] at hu'
              show (decide (xs.length ≤ 1000000) && xs.all (good (n + 1))) = true
              rw [hu'.1, Bool.true_and, List.all_eq_true]
              exact fun w hw => ih w (List.all_eq_true.mp hu'.2 w hw)
            | _ => first | (cases hu; done) | exact hu
        exact mono 5 v gv
      have gs : good 6 (.str "plan") = true := by decide +kernel
      simp [g6, gs]
    refine ⟨y2, .own false (.lst [.str "plan", v]), .v v, by rw [show c + 26 = c + 24 + 2 by omega]; exact hy2, .o, .v, ?_⟩
    have sa := same_ob (e := fQ y2 .emp (.own false (.lst [.str "plan", v])) ds hh nm .emp s8 S s11 s12 (.v v) .emp) (i := 2) g7 rfl
    unfold fQ at *
    generalize pv (rw' S hh ds) = R at *
    generalize Dv (silp ds S hh) = T at *
    generalize Dv xs = X at *
    generalize Dv ds = D at *
    simp only [fR, vi] at *
    simp [ed, eb, p2, p13, e1, e2, sa]
  · have g7 : good 7 (vi cc) = true := rfl
    refine ⟨y2, .v (vi cc), .v v, by rw [show c + 26 = c + 24 + 2 by omega]; exact hy2, .v, .v, ?_⟩
    have sv := same_vv g7
    unfold fQ at *
    generalize pv (rw' S hh ds) = R at *
    generalize Dv (silp ds S hh) = T at *
    generalize Dv xs = X at *
    generalize Dv ds = D at *
    simp only [fR, vi] at *
    simp [ed, eb, p2, p13, e1, e2, e3, sv]
theorem right_9 {c : Int} {x : Val} {ds : List Nat} {S hh : Nat} {nm : Bool} {s2 s8 s11 : Slot} (h : IsBox c x) (hc : c ≤ 3000) (hb : Bd ds) (h1 : 1 ≤ ds.length) (hS : S ≤ 1000) (h2 : hh ≤ 20) (c2 : Fr s2) :
    ∃ y s2' s12 s13, IsBox (c + 78) y ∧ Cv s12 ∧ b__law_right_9 (fQ x .emp s2 ds hh nm .emp s8 S s11 .emp .emp .emp) = .ok .nx (fQ y .emp s2' ds hh nm .emp s8 S s11 s12 s13 .emp) := by
  have key : ∃ e', forL (tgN 12) b__law_right_8 (rangeV 0 3) (fQ x .emp s2 ds hh nm .emp s8 S s11 .emp .emp .emp) = .ok .nx e' ∧ ∃ y s2 s12 s13, IsBox (c + 26 * ((3 : Nat) : Int)) y ∧ Fr s2 ∧ Cv s12 ∧ Cv s13 ∧ e' = fQ y .emp s2 ds hh nm .emp s8 S s11 s12 s13 .emp := by
    refine range_run (fun i e => ∃ y s2 s12 s13, IsBox (c + 26 * ((i : Nat) : Int)) y ∧ Fr s2 ∧ Cv s12 ∧ Cv s13 ∧ e = fQ y .emp s2 ds hh nm .emp s8 S s11 s12 s13 .emp) ⟨x, _, _, _, by simpa using h, c2, .e, .e, rfl⟩ fun i e hi ⟨y, t2, t12, t13, hy, d2, d12, d13, he⟩ => ?_
    subst he
    obtain ⟨y2, u2, u13, b2, f2, f13, e2⟩ := right_8 (nm := nm) (s8 := s8) (s11 := s11) (s12 := .v (.int (0 + (i : Int)))) hy (by omega) hb h1 hS h2 d2 d13
    have p12 := d12.ok
    refine ⟨_, _, by simp [fQ, fR, p12], .inl e2, y2, _, _, _, ?_, f2, .v, f13, rfl⟩
    have : c + 26 * ((i + 1 : Nat) : Int) = c + 26 * ((i : Nat) : Int) + 26 := by omega
    rw [this]
    exact b2
  obtain ⟨e', h5, y, t2, t12, t13, hy, d2, d12, d13, he⟩ := key
  subst he
  refine ⟨y, t2, t12, t13, hy.mono (by omega), d12, ?_⟩
  have r1 : inR 3 = true := inR_of (by omega) (by omega)
  have en : (3 : Int).toNat = 3 := rfl
  have e : ∀ (t : Tg) (b : Z.S) (e0 : Env), sFor (iRange1 (eC (.int 3))) t b e0 = forL t b (rangeV 0 3) e0 := by
    intro t b e0
    simp [rng1_int _ r1, en]
  show sFor (iRange1 (eC (.int 3))) (tgN 12) b__law_right_8 _ = _
  rw [e, h5]
/-! ### refusals -/
def BadX (v : Val) : Prop := BadD v ∧ good 5 v = true
theorem good_12 : good 5 (.str "12") = true := by decide +kernel
theorem bad_str (s : Str) : BadD (.str s) := fun a b => by simp [m_check_costs, b_check_costs]
theorem bad_long {us : List Val} (h : 12 < us.length) : BadD (.tup us) := fun a b => by
  have a1 : (1 : Int) ≤ us.length := by omega
  have a2 : ¬ (us.length : Int) ≤ 12 := by omega
  have a3 : ¬ us.length ≤ 12 := by omega
  have a4 : 1 ≤ us.length := by omega
  simp [m_check_costs, b_check_costs, a1, a2, a3, a4]
theorem bad_last {ds : List Nat} {w : Val} (hb : Bd ds) (h1 : 1 ≤ ds.length) (hw : flat3 w = true) (hi : isI w 0 100 = false) : BadX (.tup ((ds.map vi).take (ds.length - 1) ++ [w])) := by
  have l12 := hb.1
  have hl : ((ds.map vi).take (ds.length - 1) ++ [w]).length = ds.length := by
    rw [List.length_append, List.length_take, List.length_map, List.length_singleton]
    omega
  have hf : ∀ u ∈ (ds.map vi).take (ds.length - 1) ++ [w], flat3 u = true := fun u hu => by
    rcases List.mem_append.mp hu with hu | hu
    · exact flat_vis ds u (List.mem_of_mem_take hu)
    · rw [List.mem_singleton.mp hu]; exact hw
  refine ⟨bad_row (fun u hu => flat_plain (hf u hu)) (by omega) (by omega) ?_, good_flat hf (by omega)⟩
  rw [List.all_append]
  have : ([w].all fun x => isI x 0 100) = false := by simp [hi]
  rw [this, Bool.and_false]
theorem ones : fMulT (.tup [.int 1]) (.int 13) = some (.v (.tup (List.replicate 13 (.int 1)))) := by rfl
theorem right_10 {c : Int} {x : Val} {ds : List Nat} {S hh : Nat} {nm : Bool} {s2 s8 s11 s12 s13 : Slot} (h : IsBox c x) (hc : c ≤ 10000) (hb : Bd ds) (h1 : 1 ≤ ds.length) :
    ∃ y bad, IsBox (c + 1) y ∧ BadX bad ∧ b__law_right_10 (fQ x .emp s2 ds hh nm .emp s8 S s11 s12 s13 .emp) = .ok .nx (fQ y (.v bad) s2 ds hh nm .emp s8 S s11 s12 s13 .emp) := by
  have l12 := hb.1
  obtain ⟨k1, y1, l1, b1, e1⟩ := take_at (many := 9) h (by omega) (by omega) (by omega)
  obtain ⟨bad, hbad, hat⟩ := mem12 (L := [Val.lst (ds.map vi), .tup [], .tup (List.replicate 13 (.int 1)), .non, .str "12", .tup ((ds.map vi).take (ds.length - 1) ++ [.int 101]), .tup ((ds.map vi).take (ds.length - 1) ++ [.int (-1)]), .tup ((ds.map vi).take (ds.length - 1) ++ [.non]), .tup [.bl true]]) (k := k1) (by simp; omega)
  have hX : BadX bad := by
    simp only [List.mem_cons, List.not_mem_nil, or_false] at hbad
    rcases hbad with rfl | rfl | rfl | rfl | rfl | rfl | rfl | rfl | rfl
    · exact ⟨bad_lst _, good_lst (n := 4) (by rw [List.length_map]; omega) (good_vi 4 ds)⟩
    · exact ⟨bad_emp, rfl⟩
    · exact ⟨bad_long (by simp), rfl⟩
    · exact ⟨bad_non, rfl⟩
    · exact ⟨bad_str _, good_12⟩
    · exact bad_last hb h1 rfl (by simp [isI])
    · exact bad_last hb h1 rfl (by simp [isI])
    · exact bad_last hb h1 rfl rfl
    · exact ⟨bad_row (fun u hu => by rw [List.mem_singleton.mp hu]; rfl) (by simp) (by simp) (by simp [isI]), rfl⟩
  refine ⟨y1, bad, b1, hX, ?_⟩
  have hcut := cut_m1 (ds.map vi)
  rw [List.length_map] at hcut
  have tl : ((ds.map vi).take (ds.length - 1)).length + 1 ≤ 16777216 := by
    rw [List.length_take, List.length_map]
    omega
  have ho := ones
  clear hX hbad
  unfold fQ Dv
  generalize (silp ds S hh).map vi = T at *
  generalize pv (rw' S hh ds) = R at *
  generalize (ds.map vi).take (ds.length - 1) = tk at *
  generalize ds.map vi = dv at *
  generalize List.replicate 13 (Val.int 1) = one at *
  simp only [fR, vi] at *
  simp [hcut, tl, e1, hat, ho]
theorem at6 {a b c d e f : Val} {k : Nat} (h : (k : Int) < 6) : ∃ v, Z.atV [a, b, c, d, e, f] (k : Int) = some v ∧ (v = a ∨ v = b ∨ v = c ∨ v = d ∨ v = e ∨ v = f) := by
  rcases (by omega : k = 0 ∨ k = 1 ∨ k = 2 ∨ k = 3 ∨ k = 4 ∨ k = 5) with rfl | rfl | rfl | rfl | rfl | rfl
  · exact ⟨a, rfl, .inl rfl⟩
  · exact ⟨b, rfl, .inr (.inl rfl)⟩
  · exact ⟨c, rfl, .inr (.inr (.inl rfl))⟩
  · exact ⟨d, rfl, .inr (.inr (.inr (.inl rfl)))⟩
  · exact ⟨e, rfl, .inr (.inr (.inr (.inr (.inl rfl))))⟩
  · exact ⟨f, rfl, .inr (.inr (.inr (.inr (.inr rfl))))⟩
def BadN (hi : Int) (v : Val) : Prop := plainV v = true ∧ isI v 0 hi = false ∧ good 5 v = true
theorem right_11 {c : Int} {x bad : Val} {ds : List Nat} {S hh : Nat} {nm : Bool} {s2 s8 s11 s12 s13 : Slot} (h : IsBox c x) (hc : c ≤ 10000) :
    ∃ y wr odd, IsBox (c + 2) y ∧ BadN 1000 wr ∧ BadN 20 odd ∧ b__law_right_11 (fQ x (.v bad) s2 ds hh nm .emp s8 S s11 s12 s13 .emp) = .ok .nx (fQ y (.v bad) s2 ds hh nm (.v odd) s8 S s11 s12 s13 (.v wr)) := by
  obtain ⟨k1, y1, l1, b1, e1⟩ := take_at (many := 6) h (by omega) (by omega) (by omega)
  obtain ⟨k2, y2, l2, b2, e2⟩ := take_at (many := 6) b1 (by omega) (by omega) (by omega)
  obtain ⟨wr, hw, hw'⟩ := at6 (a := .int (-1)) (b := .int 1001) (c := .non) (d := .bl true) (e := .str "5") (f := .tup [.int 5]) l1
  obtain ⟨odd, ho, ho'⟩ := at6 (a := .int (-1)) (b := .int 21) (c := .non) (d := .bl false) (e := .str "5") (f := .tup [.int 5]) l2
  have hW : BadN 1000 wr := by
    rcases hw' with rfl | rfl | rfl | rfl | rfl | rfl
    · exact ⟨rfl, by simp [isI], rfl⟩
    · exact ⟨rfl, by simp [isI], rfl⟩
    · exact ⟨rfl, rfl, rfl⟩
    · exact ⟨rfl, rfl, rfl⟩
    · exact ⟨rfl, rfl, good_5⟩
    · exact ⟨rfl, rfl, rfl⟩
  have hO : BadN 20 odd := by
    rcases ho' with rfl | rfl | rfl | rfl | rfl | rfl
    · exact ⟨rfl, by simp [isI], rfl⟩
    · exact ⟨rfl, by simp [isI], rfl⟩
    · exact ⟨rfl, rfl, rfl⟩
    · exact ⟨rfl, rfl, rfl⟩
    · exact ⟨rfl, rfl, good_5⟩
    · exact ⟨rfl, rfl, rfl⟩
  refine ⟨y2, wr, odd, by rw [show c + 2 = c + 1 + 1 by omega]; exact b2, hW, hO, ?_⟩
  clear hW hO hw' ho'
  unfold fQ
  generalize Dv (silp ds S hh) = T at *
  generalize pv (rw' S hh ds) = R at *
  generalize Dv ds = D at *
  simp only [fR, vi] at *
  simp [e1, hw, e2, ho]
theorem right_12 {x bad wr odd : Val} {ds : List Nat} {S hh : Nat} {nm : Bool} {t : Nat} {s2 s8 s11 s13 : Slot} (hb : Bd ds) (h1 : 1 ≤ ds.length) (hS : S ≤ 1000) (ht : t < 3) (hB : BadX bad) (hW : BadN 1000 wr) (hO : BadN 20 odd) (c11 : Fr s11) :
    ∃ s11', Fr s11' ∧ b__law_right_12 (fQ x (.v bad) s2 ds hh nm (.v odd) s8 S s11 (.v (vi t)) s13 (.v wr)) = .ok .nx (fQ x (.v bad) s2 ds hh nm (.v odd) s8 S s11' (.v (vi t)) s13 (.v wr)) := by
  have e1 := asked_ex (a := bad) (b := wr) (c := odd) (d := .non) (k := nm) (t := (t : Int)) (by omega) (hB.1 wr odd) (.dem _)
  have e2 := asked_ex (c := odd) (d := .non) (k := !nm) (t := (t : Int)) (by omega) (bad_setup (y := odd) hb h1 hW.1 hW.2.1) (.num _)
  have e3 := asked_ex (d := .non) (k := nm) (t := (t : Int)) (by omega) (bad_hold hb h1 hS hO.1 hO.2.1) (.num _)
  have g1 : good 6 (.lst [.str "demands", bad]) = true := good_tag hB.2 (by decide +kernel)
  have g2 : good 6 (.lst [.str "number", wr]) = true := good_tag hW.2.2 (by decide +kernel)
  have g3 : good 6 (.lst [.str "number", odd]) = true := good_tag hO.2.2 (by decide +kernel)
  have g7 : good 7 (.lst [.lst [.str "demands", bad], .lst [.str "number", wr], .lst [.str "number", odd]]) = true := good_lst (by simp) (by
    rw [List.all_cons, List.all_cons, List.all_cons, g1, g2, g3]
    rfl)
  have p11 := c11.ok
  have sa := same_at (e := fQ x (.v bad) s2 ds hh nm (.v odd) s8 S (.own false (.lst [.lst [.str "demands", bad], .lst [.str "number", wr], .lst [.str "number", odd]])) (.v (vi t)) s13 (.v wr)) (i := 11) g7 rfl
  refine ⟨.own false (.lst [.lst [.str "demands", bad], .lst [.str "number", wr], .lst [.str "number", odd]]), .o, ?_⟩
  unfold fQ at *
  generalize Dv (silp ds S hh) = T at *
  generalize pv (rw' S hh ds) = R at *
  generalize Dv ds = D at *
  simp only [fR, vi] at *
  simp [e1, e2, e3, p11, sa]
theorem right_13 {x bad wr odd : Val} {ds : List Nat} {S hh : Nat} {nm : Bool} {s2 s8 s11 s12 s13 : Slot} (hb : Bd ds) (h1 : 1 ≤ ds.length) (hS : S ≤ 1000) (hB : BadX bad) (hW : BadN 1000 wr) (hO : BadN 20 odd) (c11 : Fr s11) (c12 : Cv s12) :
    ∃ s11' s12', b__law_right_13 (fQ x (.v bad) s2 ds hh nm (.v odd) s8 S s11 s12 s13 (.v wr)) = .ok .nx (fQ x (.v bad) s2 ds hh nm (.v odd) s8 S s11' s12' s13 (.v wr)) := by
  have key : ∃ e', forL (tgN 12) b__law_right_12 (rangeV 0 3) (fQ x (.v bad) s2 ds hh nm (.v odd) s8 S s11 s12 s13 (.v wr)) = .ok .nx e' ∧ ∃ s11 s12, Fr s11 ∧ Cv s12 ∧ e' = fQ x (.v bad) s2 ds hh nm (.v odd) s8 S s11 s12 s13 (.v wr) := by
    refine range_run (fun i e => ∃ s11 s12, Fr s11 ∧ Cv s12 ∧ e = fQ x (.v bad) s2 ds hh nm (.v odd) s8 S s11 s12 s13 (.v wr)) ⟨_, _, c11, c12, rfl⟩ fun i e hi ⟨t11, t12, d11, d12, he⟩ => ?_
    subst he
    obtain ⟨u11, f11, e2⟩ := right_12 (x := x) (hh := hh) (nm := nm) (t := i) (s2 := s2) (s8 := s8) (s13 := s13) hb h1 hS hi hB hW hO d11
    have p12 := d12.ok
    have e0 : (0 : Int) + i = (i : Int) := by omega
    rw [e0]
    exact ⟨_, _, by simp [fQ, fR, p12], .inl e2, _, _, f11, .v, rfl⟩
  obtain ⟨e', h5, t11, t12, d11, d12, he⟩ := key
  subst he
  refine ⟨t11, t12, ?_⟩
  have r1 : inR 3 = true := inR_of (by omega) (by omega)
  have en : (3 : Int).toNat = 3 := rfl
  have e : ∀ (t : Tg) (b : Z.S) (e0 : Env), sFor (iRange1 (eC (.int 3))) t b e0 = forL t b (rangeV 0 3) e0 := by
    intro t b e0
    simp [rng1_int _ r1, en]
  show sFor (iRange1 (eC (.int 3))) (tgN 12) b__law_right_12 _ = _
  rw [e, h5]
theorem right_ok {c : Int} {x : Val} (h : IsBox c x) (hc : c ≤ 500) : ∃ y, IsBox (c + 200) y ∧ m__law_right [.own x] = .ok (.v (.bl true)) [.own true y] := by
  obtain ⟨y1, ds, S, hh, b1, hb, h1, hS, h2, e1⟩ := right_1 h (by omega)
  obtain ⟨y2, nm, b2, e2⟩ := right_2 b1 (by omega) hb hS h2
  have e3 := right_3 (x := y2) (nm := nm) hb hS h2
  have e4 := right_4 (x := y2) (nm := nm) hb h1 hS h2
  have e5 := right_5 (x := y2) (nm := nm) hb h1 hS h2
  obtain ⟨y3, s2, s8, b3, c2, e6⟩ := right_7 (nm := nm) (s11 := .own false (.lst [pv (rw' S hh ds), pv (rw' S hh ds)])) b2 (by omega) hb h1 hS h2
  obtain ⟨y4, s2', s12, s13, b4, c12, e7⟩ := right_9 (nm := nm) (s8 := s8) (s11 := .own false (.lst [pv (rw' S hh ds), pv (rw' S hh ds)])) b3 (by omega) hb h1 hS h2 c2.fr
  obtain ⟨y5, bad, b5, hB, e8⟩ := right_10 (S := S) (hh := hh) (nm := nm) (s2 := s2') (s8 := s8) (s11 := .own false (.lst [pv (rw' S hh ds), pv (rw' S hh ds)])) (s12 := s12) (s13 := s13) b4 (by omega) hb h1
  obtain ⟨y6, wr, odd, b6, hW, hO, e9⟩ := right_11 (bad := bad) (ds := ds) (S := S) (hh := hh) (nm := nm) (s2 := s2') (s8 := s8) (s11 := .own false (.lst [pv (rw' S hh ds), pv (rw' S hh ds)])) (s12 := s12) (s13 := s13) b5 (by omega)
  obtain ⟨s11', s12', e10⟩ := right_13 (x := y6) (hh := hh) (nm := nm) (s2 := s2') (s8 := s8) (s11 := .own false (.lst [pv (rw' S hh ds), pv (rw' S hh ds)])) (s12 := s12) (s13 := s13) hb h1 hS hB hW hO .o c12
  refine ⟨y6, b6.mono (by omega), ?_⟩
  show fin 1 (b__law_right (fR x .emp .emp .emp .emp .emp .emp .emp .emp .emp .emp .emp .emp .emp .emp)) = _
  unfold b__law_right
  rw [seq_nx e1, seq_nx e2, seq_nx e3, seq_nx e4, seq_nx e5, seq_nx e6, seq_nx e7, seq_nx e8, seq_nx e9, seq_nx e10]
  rfl
theorem law_1 {ns : List Int} {k : Nat} {s : Slot} (hk : k ≤ 100) (hs : Fr s) : ∃ s', Fr s' ∧ b_law_1 [.v (.scr ns), s, .v (vi k)] = .ok .nx [.v (.scr ns), s', .v (vi k)] := by
  obtain ⟨g, e1⟩ := cell_ok (ns := ns) (k := k) hk
  obtain ⟨x, hb, e2⟩ := box_ok (g := g)
  obtain ⟨y, b1, e3⟩ := right_ok hb (by omega)
  obtain ⟨z, b2, e4⟩ := right_ok b1 (by omega)
  obtain ⟨w, b3, e5⟩ := all_right_ok b2 (by omega)
  have p := hs.ok
  have c1 : ∀ s0 s2, callR m__law_right [.bor 1] [s0, .own false x, s2] = .ok (.v (.bl true)) [s0, .own false y, s2] := fun s0 s2 => by
    rw [callR_b1 (p := false) (x := x) (as := []) rfl rfl, e3]
    simp
  have c2 : ∀ s0 s2, callR m__law_right [.bor 1] [s0, .own false y, s2] = .ok (.v (.bl true)) [s0, .own false z, s2] := fun s0 s2 => by
    rw [callR_b1 (p := false) (x := y) (as := []) rfl rfl, e4]
    simp
  have c3 : ∀ s0 s2, callR m__law_all_right [.bor 1] [s0, .own false z, s2] = .ok (.v (.bl true)) [s0, .own false w, s2] := fun s0 s2 => by
    rw [callR_b1 (p := false) (x := z) (as := []) rfl rfl, e5]
    simp
  refine ⟨.own false w, .o, ?_⟩
  simp only [vi] at *
  simp [e1, e2, p, c1, c2, c3]
theorem law_ok (ns : List Int) (hl : ns.length ≤ 63) : ∃ ps, m_law [.v (.scr ns)] = .ok (.v (.bl true)) ps := by
  have key : ∃ e', forL (tgN 2) b_law_1 (rangeV 0 4) [.v (.scr ns), .emp, .emp] = .ok .nx e' ∧ ∃ s1 s2 : Slot, Fr s1 ∧ Cv s2 ∧ e' = [.v (.scr ns), s1, s2] := by
    refine range_run (fun i e => ∃ s1 s2 : Slot, Fr s1 ∧ Cv s2 ∧ e = [.v (.scr ns), s1, s2]) ⟨_, _, .e, .e, rfl⟩ fun i e hi ⟨s1, s2, h1, h2, he⟩ => ?_
    subst he
    obtain ⟨s', h', e1⟩ := law_1 (ns := ns) (k := i) (by omega) h1
    have e0 : (0 : Int) + i = (i : Int) := by omega
    have p2 := h2.ok
    rw [e0]
    exact ⟨_, _, by simp [p2], .inl e1, _, _, h', .v, rfl⟩
  obtain ⟨e', h1, s1, s2, _, _, he⟩ := key
  subst he
  have r1 : inR 4 = true := inR_of (by omega) (by omega)
  have en : (4 : Int).toNat = 4 := rfl
  refine ⟨[.v (.scr ns)], ?_⟩
  simp [m_law, b_law, en, rng1_int _ r1, h1]
end Z
open PySem PySem.W PyProof.Rows
set_option maxRecDepth 100000 in
set_option maxHeartbeats 0 in
theorem PySem.Challenge.cw_schedbench_k57_lots_holds : PySem.Challenge.rw_schedbench_k57_lots.Holds := by
  w_on; o_law; k_head; (case hw => w_witness2)
  k_fill
  refine Z.law_walk (l := PySem.Challenge.rw_schedbench_k57_lots) (k := 12) (m := Z.m_law) Z.law_ok rfl rfl ⟨rfl, by decide, by decide⟩ (fun w h Y => PySem.W.kIn_of Y) ?F
  case F =>
    intro w mg fa h KX G hmg
    refine Z.law_fn hmg ?zfacts
    case zfacts =>
      refine' Z.all_mk KX G ?n_abs ?n_int ?a__law_box ?l__law_box ?c__law_box ?k__law_box ?n_len ?n_sum ?a__law_cell ?l__law_cell ?c__law_cell ?k__law_cell ?a__law_take ?l__law_take ?c__law_take ?k__law_take ?n_range ?n_tuple ?a__law_lots ?l__law_lots ?c__law_lots ?k__law_lots ?a__law_silver ?l__law_silver ?c__law_silver ?k__law_silver ?n_min ?a__law_best ?l__law_best ?c__law_best ?k__law_best ?n_isinstance ?a_is_tuple_of ?l_is_tuple_of ?c_is_tuple_of ?k_is_tuple_of ?n_bool ?a_is_integer ?l_is_integer ?c_is_integer ?k_is_integer ?a_is_between ?l_is_between ?c_is_between ?k_is_between ?n_all ?a_is_row ?l_is_row ?c_is_row ?k_is_row ?g_MOST_PERIODS ?g_MOST_DEMAND ?g_MOST_SETUP ?g_MOST_HOLD ?a_check_costs ?l_check_costs ?c_check_costs ?k_check_costs ?a_cost_of_lot ?l_cost_of_lot ?c_cost_of_lot ?k_cost_of_lot ?a_end_of_lot ?l_end_of_lot ?c_end_of_lot ?k_end_of_lot ?a_silver ?l_silver ?c_silver ?k_silver ?n_zip ?a_kept_by ?l_kept_by ?c_kept_by ?k_kept_by ?a_is_plan ?l_is_plan ?c_is_plan ?k_is_plan ?a_lot_cost ?l_lot_cost ?c_lot_cost ?k_lot_cost ?a_best_plan ?l_best_plan ?c_best_plan ?k_best_plan ?a_best_lots ?l_best_lots ?c_best_lots ?k_best_lots ?a__law_asked ?l__law_asked ?c__law_asked ?k__law_asked ?n_str ?n_dict ?n_list ?a__law_same ?l__law_same ?c__law_same ?k__law_same ?n_max ?a__law_drawn_plan ?l__law_drawn_plan ?c__law_drawn_plan ?k__law_drawn_plan ?a__law_cost ?l__law_cost ?c__law_cost ?k__law_cost ?a__law_bent ?l__law_bent ?c__law_bent ?k__law_bent ?a__law_is_plan ?l__law_is_plan ?c__law_is_plan ?k__law_is_plan ?a__law_right ?l__law_right ?c__law_right ?k__law_right ?a__law_all_right ?l__law_all_right ?c__law_all_right ?k__law_all_right ?a_law ?l_law ?c_law ?k_law ?aC_InvalidDemands ?xL_InvalidDemands ?bv_InvalidDemands ?sa_InvalidDemands ?ga_InvalidDemands ?gg_InvalidDemands ?nb_InvalidDemands ?aI_InvalidDemands ?tI_InvalidDemands ?lI_InvalidDemands ?cI_InvalidDemands ?kC_InvalidDemands ?eC_InvalidDemands ?tC_InvalidDemands ?hC_InvalidDemands ?iC_InvalidDemands ?aC_InvalidNumber ?xL_InvalidNumber ?bv_InvalidNumber ?sa_InvalidNumber ?ga_InvalidNumber ?gg_InvalidNumber ?nb_InvalidNumber ?aI_InvalidNumber ?tI_InvalidNumber ?lI_InvalidNumber ?cI_InvalidNumber ?kC_InvalidNumber ?eC_InvalidNumber ?tC_InvalidNumber ?hC_InvalidNumber ?iC_InvalidNumber ?aC_InvalidPlan ?xL_InvalidPlan ?bv_InvalidPlan ?sa_InvalidPlan ?ga_InvalidPlan ?gg_InvalidPlan ?nb_InvalidPlan ?aI_InvalidPlan ?tI_InvalidPlan ?lI_InvalidPlan ?cI_InvalidPlan ?kC_InvalidPlan ?eC_InvalidPlan ?tC_InvalidPlan ?hC_InvalidPlan ?iC_InvalidPlan ?s_InvalidDemands_InvalidDemands ?s_InvalidDemands_InvalidNumber ?s_InvalidDemands_InvalidPlan ?s_InvalidNumber_InvalidDemands ?s_InvalidNumber_InvalidNumber ?s_InvalidNumber_InvalidPlan ?s_InvalidPlan_InvalidDemands ?s_InvalidPlan_InvalidNumber ?s_InvalidPlan_InvalidPlan
      (case n_abs => k_is)
      (case n_int => k_is)
      (case a__law_box => k_is)
      (case l__law_box => k_is)
      (case c__law_box => k_is)
      (case k__law_box => k_is)
      (case n_len => k_is)
      (case n_sum => k_is)
      (case a__law_cell => k_is)
      (case l__law_cell => k_is)
      (case c__law_cell => k_is)
      (case k__law_cell => k_is)
      (case a__law_take => k_is)
      (case l__law_take => k_is)
      (case c__law_take => k_is)
      (case k__law_take => k_is)
      (case n_range => k_is)
      (case n_tuple => k_is)
      (case a__law_lots => k_is)
      (case l__law_lots => k_is)
      (case c__law_lots => k_is)
      (case k__law_lots => k_is)
      (case a__law_silver => k_is)
      (case l__law_silver => k_is)
      (case c__law_silver => k_is)
      (case k__law_silver => k_is)
      (case n_min => k_is)
      (case a__law_best => k_is)
      (case l__law_best => k_is)
      (case c__law_best => k_is)
      (case k__law_best => k_is)
      (case n_isinstance => k_is)
      (case a_is_tuple_of => k_is)
      (case l_is_tuple_of => k_is)
      (case c_is_tuple_of => k_is)
      (case k_is_tuple_of => k_is)
      (case n_bool => k_is)
      (case a_is_integer => k_is)
      (case l_is_integer => k_is)
      (case c_is_integer => k_is)
      (case k_is_integer => k_is)
      (case a_is_between => k_is)
      (case l_is_between => k_is)
      (case c_is_between => k_is)
      (case k_is_between => k_is)
      (case n_all => k_is)
      (case a_is_row => k_is)
      (case l_is_row => k_is)
      (case c_is_row => k_is)
      (case k_is_row => k_is)
      (case g_MOST_PERIODS => k_is)
      (case g_MOST_DEMAND => k_is)
      (case g_MOST_SETUP => k_is)
      (case g_MOST_HOLD => k_is)
      (case a_check_costs => k_is)
      (case l_check_costs => k_is)
      (case c_check_costs => k_is)
      (case k_check_costs => k_is)
      (case a_cost_of_lot => k_is)
      (case l_cost_of_lot => k_is)
      (case c_cost_of_lot => k_is)
      (case k_cost_of_lot => k_is)
      (case a_end_of_lot => k_is)
      (case l_end_of_lot => k_is)
      (case c_end_of_lot => k_is)
      (case k_end_of_lot => k_is)
      (case a_silver => k_is)
      (case l_silver => k_is)
      (case c_silver => k_is)
      (case k_silver => k_is)
      (case n_zip => k_is)
      (case a_kept_by => k_is)
      (case l_kept_by => k_is)
      (case c_kept_by => k_is)
      (case k_kept_by => k_is)
      (case a_is_plan => k_is)
      (case l_is_plan => k_is)
      (case c_is_plan => k_is)
      (case k_is_plan => k_is)
      (case a_lot_cost => k_is)
      (case l_lot_cost => k_is)
      (case c_lot_cost => k_is)
      (case k_lot_cost => k_is)
      (case a_best_plan => k_is)
      (case l_best_plan => k_is)
      (case c_best_plan => k_is)
      (case k_best_plan => k_is)
      (case a_best_lots => k_is)
      (case l_best_lots => k_is)
      (case c_best_lots => k_is)
      (case k_best_lots => k_is)
      (case a__law_asked => k_is)
      (case l__law_asked => k_is)
      (case c__law_asked => k_is)
      (case k__law_asked => k_is)
      (case n_str => k_is)
      (case n_dict => k_is)
      (case n_list => k_is)
      (case a__law_same => k_is)
      (case l__law_same => k_is)
      (case c__law_same => k_is)
      (case k__law_same => k_is)
      (case n_max => k_is)
      (case a__law_drawn_plan => k_is)
      (case l__law_drawn_plan => k_is)
      (case c__law_drawn_plan => k_is)
      (case k__law_drawn_plan => k_is)
      (case a__law_cost => k_is)
      (case l__law_cost => k_is)
      (case c__law_cost => k_is)
      (case k__law_cost => k_is)
      (case a__law_bent => k_is)
      (case l__law_bent => k_is)
      (case c__law_bent => k_is)
      (case k__law_bent => k_is)
      (case a__law_is_plan => k_is)
      (case l__law_is_plan => k_is)
      (case c__law_is_plan => k_is)
      (case k__law_is_plan => k_is)
      (case a__law_right => k_is)
      (case l__law_right => k_is)
      (case c__law_right => k_is)
      (case k__law_right => k_is)
      (case a__law_all_right => k_is)
      (case l__law_all_right => k_is)
      (case c__law_all_right => k_is)
      (case k__law_all_right => k_is)
      (case a_law => k_is)
      (case l_law => k_is)
      (case c_law => k_is)
      (case k_law => k_is)
      (case aC_InvalidDemands => k_is)
      (case xL_InvalidDemands => k_is)
      (case sa_InvalidDemands => k_is)
      (case ga_InvalidDemands => k_is)
      (case gg_InvalidDemands => k_is)
      (case nb_InvalidDemands => k_is)
      (case aI_InvalidDemands => k_is)
      (case tI_InvalidDemands => k_is)
      (case lI_InvalidDemands => k_is)
      (case cI_InvalidDemands => k_is)
      (case kC_InvalidDemands => k_is)
      (case eC_InvalidDemands => k_is)
      (case tC_InvalidDemands => k_is)
      (case hC_InvalidDemands => k_is)
      (case iC_InvalidDemands => k_is)
      (case aC_InvalidNumber => k_is)
      (case xL_InvalidNumber => k_is)
      (case sa_InvalidNumber => k_is)
      (case ga_InvalidNumber => k_is)
      (case gg_InvalidNumber => k_is)
      (case nb_InvalidNumber => k_is)
      (case aI_InvalidNumber => k_is)
      (case tI_InvalidNumber => k_is)
      (case lI_InvalidNumber => k_is)
      (case cI_InvalidNumber => k_is)
      (case kC_InvalidNumber => k_is)
      (case eC_InvalidNumber => k_is)
      (case tC_InvalidNumber => k_is)
      (case hC_InvalidNumber => k_is)
      (case iC_InvalidNumber => k_is)
      (case aC_InvalidPlan => k_is)
      (case xL_InvalidPlan => k_is)
      (case sa_InvalidPlan => k_is)
      (case ga_InvalidPlan => k_is)
      (case gg_InvalidPlan => k_is)
      (case nb_InvalidPlan => k_is)
      (case aI_InvalidPlan => k_is)
      (case tI_InvalidPlan => k_is)
      (case lI_InvalidPlan => k_is)
      (case cI_InvalidPlan => k_is)
      (case kC_InvalidPlan => k_is)
      (case eC_InvalidPlan => k_is)
      (case tC_InvalidPlan => k_is)
      (case hC_InvalidPlan => k_is)
      (case iC_InvalidPlan => k_is)
      (case s_InvalidDemands_InvalidDemands => first | k_is | rfl)
      (case s_InvalidDemands_InvalidNumber => first | k_is | rfl)
      (case s_InvalidDemands_InvalidPlan => first | k_is | rfl)
      (case s_InvalidNumber_InvalidDemands => first | k_is | rfl)
      (case s_InvalidNumber_InvalidNumber => first | k_is | rfl)
      (case s_InvalidNumber_InvalidPlan => first | k_is | rfl)
      (case s_InvalidPlan_InvalidDemands => first | k_is | rfl)
      (case s_InvalidPlan_InvalidNumber => first | k_is | rfl)
      (case s_InvalidPlan_InvalidPlan => first | k_is | rfl)
      (case bv_InvalidDemands => decide +kernel)
      (case bv_InvalidNumber => decide +kernel)
      (case bv_InvalidPlan => decide +kernel)
#print axioms PySem.Challenge.cw_schedbench_k57_lots_holds
