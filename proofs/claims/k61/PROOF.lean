import PyProof.Rows.All
import Wide.All
import OpenK.AllK
import Wide.FinOn
import HandS.ForMost
import HandS.ForExc
import HandS.IsInst
import HandS.Wide
import HandS.Flow
import HandS.Gcd
import HandS.TupAny
import HandS.Style
import HandS.Text
import HandS.Defaults
import HandS.ExcInit
import HandS.Zip
import KE.DataMinMax
import KE.SortData
import HandS.TupMul
import KE.GoesMore
import KE.GoesZip
import HandS.More
import HandS.WideBits
import HandS.WordsDict
import HandS.Conv
import PySem.Challenge.RW_schedbench_k61_pages_and_rules
set_option Elab.async false
set_option linter.all false
set_option maxRecDepth 100000
/-! Z0: a small functional reading of Python bodies: values by content, frames as lists of slots, results with errors. -/
open PySem (Str)
namespace Z

inductive Val where
  | non
  | bl (b : Bool)
  | int (i : Int)
  | str (s : Str)
  | tup (xs : List Val)
  | lst (xs : List Val)
  | dic (kvs : List (Val × Val))
  | obj (c : Str) (fs : List (Str × Val))
  | scr (ns : List Int)
  deriving Inhabited

/-- one place of a frame: nothing, a value that nobody changes, an object that this frame alone changes (p: it was handed in), one handed in that is no more changed, an error that is handled -/
inductive Slot where
  | emp
  | v (x : Val)
  | own (p : Bool) (x : Val)
  | pf (x : Val)
  | exn (c : Str) (fs : List (Str × Val))
  deriving Inhabited
abbrev Env := List Slot

/-- what an expression gives: a value, a new object, the object of a place -/
inductive RV where
  | v (x : Val)
  | own (x : Val)
  | bor (i : Nat)

inductive Rs (α : Type) where
  | ok (a : α) (e : Env)
  | ex (c : Str) (fs : List (Str × Val)) (e : Env)
  | no

def eget : Env → Nat → Slot
  | [], _ => .emp
  | s :: _, 0 => s
  | _ :: r, n + 1 => eget r n
def eput : Env → Nat → Slot → Env
  | [], _, _ => []
  | _ :: r, 0, s => s :: r
  | x :: r, n + 1, s => x :: eput r n s

@[simp] theorem eget_nil (n : Nat) : eget [] n = .emp := rfl
@[simp] theorem eget_zero (s : Slot) (r : Env) : eget (s :: r) 0 = s := rfl
@[simp] theorem eget_succ (s : Slot) (r : Env) (n : Nat) : eget (s :: r) (n + 1) = eget r n := rfl
@[simp] theorem eput_nil (n : Nat) (s : Slot) : eput [] n s = [] := rfl
@[simp] theorem eput_zero (x : Slot) (r : Env) (s : Slot) : eput (x :: r) 0 s = s :: r := rfl
@[simp] theorem eput_succ (x : Slot) (r : Env) (n : Nat) (s : Slot) : eput (x :: r) (n + 1) s = x :: eput r n s := rfl
theorem eput_length : ∀ (e : Env) (i : Nat) (s : Slot), (eput e i s).length = e.length
  | [], _, _ => rfl
  | _ :: _, 0, _ => rfl
  | _ :: r, n + 1, s => by simp [eput_length r n s]
theorem eget_eput_same : ∀ (e : Env) (i : Nat) (s : Slot), i < e.length → eget (eput e i s) i = s
  | [], _, _, h => by simp at h
  | _ :: _, 0, _, _ => rfl
  | _ :: r, n + 1, s, h => by simpa using eget_eput_same r n s (by simpa using h)
theorem eget_eput_ne : ∀ (e : Env) (i j : Nat) (s : Slot), i ≠ j → eget (eput e i s) j = eget e j
  | [], _, _, _, _ => rfl
  | _ :: _, 0, 0, _, h => absurd rfl h
  | _ :: _, 0, _ + 1, _, _ => rfl
  | _ :: _, _ + 1, 0, _, _ => rfl
  | _ :: r, n + 1, m + 1, s, h => by simpa using eget_eput_ne r n m s (by omega)
theorem eget_out : ∀ (e : Env) (i : Nat), e.length ≤ i → eget e i = .emp
  | [], _, _ => rfl
  | _ :: _, 0, h => by simp at h
  | _ :: r, n + 1, h => by simpa using eget_out r n (by simpa using h)

namespace Rs
def bind {α β : Type} (r : Rs α) (f : α → Env → Rs β) : Rs β :=
  match r with
  | .ok a e => f a e
  | .ex c fs e => .ex c fs e
  | .no => .no
@[simp] theorem bind_ok {α β : Type} (a : α) (e : Env) (f : α → Env → Rs β) : (Rs.ok a e).bind f = f a e := rfl
@[simp] theorem bind_ex {α β : Type} (c : Str) (fs : List (Str × Val)) (e : Env) (f : α → Env → Rs β) : (Rs.ex c fs e : Rs α).bind f = .ex c fs e := rfl
@[simp] theorem bind_no {α β : Type} (f : α → Env → Rs β) : (Rs.no : Rs α).bind f = .no := rfl
end Rs
def opt {α : Type} (o : Option α) (e : Env) : Rs α := match o with | some a => .ok a e | none => .no
@[simp] theorem opt_some {α : Type} (a : α) (e : Env) : opt (some a) e = .ok a e := rfl
@[simp] theorem opt_none {α : Type} (e : Env) : opt (none : Option α) e = .no := rfl

abbrev E := Env → Rs RV
abbrev T := Env → Rs Bool
abbrev As := Env → Rs (List RV)

/-- the content that is read -/
def peek (e : Env) : RV → Option Val
  | .v x => some x
  | .own x => some x
  | .bor i => match eget e i with
    | .own _ x => some x
    | .pf x => some x
    | .v x => some x
    | _ => none
@[simp] theorem peek_v (e : Env) (x : Val) : peek e (.v x) = some x := rfl
@[simp] theorem peek_own (e : Env) (x : Val) : peek e (.own x) = some x := rfl
@[simp] theorem peek_bor (e : Env) (i : Nat) : peek e (.bor i) = (match eget e i with | .own _ x => some x | .pf x => some x | .v x => some x | _ => none) := rfl

/-- the place holds what nobody changes any more -/
def thaw : Slot → Slot
  | .own true x => .pf x
  | .own false x => .v x
  | s => s
@[simp] theorem thaw_t (x : Val) : thaw (.own true x) = .pf x := rfl
@[simp] theorem thaw_f (x : Val) : thaw (.own false x) = .v x := rfl
@[simp] theorem thaw_v (x : Val) : thaw (.v x) = .v x := rfl
@[simp] theorem thaw_pf (x : Val) : thaw (.pf x) = .pf x := rfl
/-- the value escapes: it is put into another one -/
def esc (e : Env) : RV → Rs Val
  | .v x => .ok x e
  | .own x => .ok x e
  | .bor i => match eget e i with
    | .own p x => .ok x (eput e i (thaw (.own p x)))
    | .pf x => .ok x e
    | .v x => .ok x e
    | _ => .no
@[simp] theorem esc_v (e : Env) (x : Val) : esc e (.v x) = .ok x e := rfl
@[simp] theorem esc_own (e : Env) (x : Val) : esc e (.own x) = .ok x e := rfl
@[simp] theorem esc_bor (e : Env) (i : Nat) : esc e (.bor i) = (match eget e i with | .own p x => .ok x (eput e i (thaw (.own p x))) | .pf x => .ok x e | .v x => .ok x e | _ => .no) := rfl

/-! ### expressions -/
def eV (i : Nat) : E := fun e => match eget e i with
  | .v x => .ok (.v x) e
  | .own _ _ => .ok (.bor i) e
  | .pf _ => .ok (.bor i) e
  | _ => .no
def eC (x : Val) : E := fun e => .ok (.v x) e
/-- f a b, by what they hold -/
def eOp (f : Val → Val → Option RV) (a b : E) : E := fun e =>
  (a e).bind fun r e1 => (b e1).bind fun s e2 => (opt (peek e2 r) e2).bind fun x _ => (opt (peek e2 s) e2).bind fun y _ => opt (f x y) e2
def eUn (f : Val → Option RV) (a : E) : E := fun e => (a e).bind fun r e1 => (opt (peek e1 r) e1).bind fun x _ => opt (f x) e1
/-- a op b op' c -/
def eChain (f g : Val → Val → Option RV) (a b c : E) : E := fun e =>
  (a e).bind fun r e1 => (b e1).bind fun s e2 => (opt (peek e2 r) e2).bind fun x _ => (opt (peek e2 s) e2).bind fun y _ => (opt (f x y) e2).bind fun z _ =>
    match z with
    | .v (.bl true) => (c e2).bind fun t e3 => (opt (peek e3 s) e3).bind fun y _ => (opt (peek e3 t) e3).bind fun w _ => opt (g y w) e3
    | .v (.bl false) => .ok (.v (.bl false)) e2
    | _ => .no
def eIf (t : T) (a b : E) : E := fun e => (t e).bind fun k e1 => if k then a e1 else b e1
/-- and, or by truth values -/
def eAnd (a b : E) : E := fun e => (a e).bind fun r e1 => match r with
  | .v (.bl true) => b e1
  | .v (.bl false) => .ok (.v (.bl false)) e1
  | _ => .no
def eOr (a b : E) : E := fun e => (a e).bind fun r e1 => match r with
  | .v (.bl true) => .ok (.v (.bl true)) e1
  | .v (.bl false) => b e1
  | _ => .no
def eNot (a : E) : E := fun e => (a e).bind fun r e1 => match r with
  | .v (.bl k) => .ok (.v (.bl (!k))) e1
  | _ => .no

/-- a list of values that are handed on by content -/
def asNil : As := fun e => .ok [] e
def asCons (a : E) (r : As) : As := fun e => (a e).bind fun x e1 => (r e1).bind fun xs e2 => .ok (x :: xs) e2
/-- all escape -/
def escs : Env → List RV → Rs (List Val)
  | e, [] => .ok [] e
  | e, r :: rs => (esc e r).bind fun x e1 => (escs e1 rs).bind fun xs e2 => .ok (x :: xs) e2
@[simp] theorem escs_nil (e : Env) : escs e [] = .ok [] e := rfl
@[simp] theorem escs_cons (e : Env) (r : RV) (rs : List RV) : escs e (r :: rs) = (esc e r).bind fun x e1 => (escs e1 rs).bind fun xs e2 => .ok (x :: xs) e2 := rfl
def sizeMax : Nat := 16777216
def eTup (a : As) : E := fun e => (a e).bind fun rs e1 => (escs e1 rs).bind fun xs e2 => if xs.length ≤ sizeMax then .ok (.v (.tup xs)) e2 else .no
def eLst (a : As) : E := fun e => (a e).bind fun rs e1 => (escs e1 rs).bind fun xs e2 => if xs.length ≤ sizeMax then .ok (.own (.lst xs)) e2 else .no
def peeks (e : Env) : List RV → Option (List Val)
  | [] => some []
  | r :: rs => match peek e r, peeks e rs with
    | some x, some xs => some (x :: xs)
    | _, _ => none
@[simp] theorem peeks_nil (e : Env) : peeks e [] = some [] := rfl
@[simp] theorem peeks_cons (e : Env) (r : RV) (rs : List RV) : peeks e (r :: rs) = (match peek e r, peeks e rs with | some x, some xs => some (x :: xs) | _, _ => none) := rfl
/-- a built-in function, by what its arguments hold -/
def eB (f : List Val → Option RV) (a : As) : E := fun e => (a e).bind fun rs e1 => (opt (peeks e1 rs) e1).bind fun xs _ => opt (f xs) e1

/-! ### tests -/
def truth : Val → Option Bool
  | .non => some false
  | .bl b => some b
  | .int i => some (i != 0)
  | .str s => if s.length ≤ sizeMax then some ((s.length : Int) != 0) else none
  | .tup xs => some !xs.isEmpty
  | .lst xs => some !xs.isEmpty
  | _ => none
@[simp] theorem truth_bl (b : Bool) : truth (.bl b) = some b := rfl
@[simp] theorem truth_int (i : Int) : truth (.int i) = some (i != 0) := rfl
@[simp] theorem truth_non : truth .non = some false := rfl
@[simp] theorem truth_tup (xs : List Val) : truth (.tup xs) = some !xs.isEmpty := rfl
@[simp] theorem truth_lst (xs : List Val) : truth (.lst xs) = some !xs.isEmpty := rfl
def tE (a : E) : T := fun e => (a e).bind fun r e1 => (opt (peek e1 r) e1).bind fun x _ => opt (truth x) e1
def tAnd (a b : T) : T := fun e => (a e).bind fun k e1 => if k then b e1 else .ok false e1
def tOr (a b : T) : T := fun e => (a e).bind fun k e1 => if k then .ok true e1 else b e1
def tNot (a : T) : T := fun e => (a e).bind fun k e1 => .ok (!k) e1

/-! ### statements -/
inductive Fl where
  | nx
  | bk
  | ct
  | rt (r : RV)
abbrev S := Env → Rs Fl
def sNil : S := fun e => .ok .nx e
def sSeq (a b : S) : S := fun e => (a e).bind fun f e1 => match f with
  | .nx => b e1
  | f => .ok f e1
/-- a place is given a new content -/
def put (e : Env) (i : Nat) (s : Slot) : Rs Unit := if i < e.length then
  match eget e i with
  | .own true _ => .no
  | .pf _ => .no
  | .exn _ _ => .no
  | _ => .ok () (eput e i s)
  else .no
/-- name = r -/
def sto (e : Env) (i : Nat) : RV → Rs Unit
  | .v x => put e i (.v x)
  | .own x => put e i (.own false x)
  | .bor j => (esc e (.bor j)).bind fun x e1 => put e1 i (.v x)
def sSet (i : Nat) (a : E) : S := fun e => (a e).bind fun r e1 => (sto e1 i r).bind fun _ e2 => .ok .nx e2
def sExp (a : E) : S := fun e => (a e).bind fun _ e1 => .ok .nx e1
def sRet (a : E) : S := fun e => (a e).bind fun r e1 => .ok (.rt r) e1
def sRetN : S := fun e => .ok (.rt (.v .non)) e
def sIf (t : T) (a b : S) : S := fun e => (t e).bind fun k e1 => if k then a e1 else b e1
def sPass : S := fun e => .ok .nx e
def sBrk : S := fun e => .ok .bk e
def sCon : S := fun e => .ok .ct e
/-- all places, one after the other -/
def stos (e : Env) : List Nat → List RV → Rs Unit
  | [], [] => .ok () e
  | i :: is, r :: rs => (sto e i r).bind fun _ e1 => stos e1 is rs
  | _, _ => .no
@[simp] theorem stos_nil (e : Env) : stos e [] [] = .ok () e := rfl
@[simp] theorem stos_cons (e : Env) (i : Nat) (is : List Nat) (r : RV) (rs : List RV) : stos e (i :: is) (r :: rs) = (sto e i r).bind fun _ e1 => stos e1 is rs := rfl

/-! ### defs -/
inductive AV where
  | v (x : Val)
  | own (x : Val)
def AV.slot : AV → Slot
  | .v x => .v x
  | .own x => .own true x
@[simp] theorem AV.slot_v (x : Val) : (AV.v x).slot = .v x := rfl
@[simp] theorem AV.slot_own (x : Val) : (AV.own x).slot = .own true x := rfl
/-- a call's end: the value, and what became of the places of the parameters -/
inductive FR where
  | ok (r : RV) (ps : Env)
  | ex (c : Str) (fs : List (Str × Val)) (ps : Env)
  | no
abbrev Fn := List AV → FR
def fin (np : Nat) : Rs Fl → FR
  | .ok .nx e => .ok (.v .non) (e.take np)
  | .ok (.rt (.v x)) e => .ok (.v x) (e.take np)
  | .ok (.rt (.own x)) e => .ok (.own x) (e.take np)
  | .ok (.rt (.bor i)) e => match eget e i with
    | .own false x => .ok (.own x) (e.take np)
    | .own true x => .ok (.v x) ((eput e i (.pf x)).take np)
    | .pf x => .ok (.v x) (e.take np)
    | .v x => .ok (.v x) (e.take np)
    | _ => .no
  | .ex c fs e => .ex c fs (e.take np)
  | _ => .no
def mkF (np ns : Nat) (b : S) : Fn := fun args => if args.length = np then fin np (b (args.map AV.slot ++ List.replicate (ns - np) .emp)) else .no
/-- what is handed over -/
def hand (e : Env) : RV → Option AV
  | .v x => some (.v x)
  | .own x => some (.own x)
  | .bor i => match eget e i with
    | .own _ x => some (.own x)
    | .pf x => some (.v x)
    | .v x => some (.v x)
    | _ => none
def hands (e : Env) : List RV → Option (List AV)
  | [] => some []
  | r :: rs => match hand e r, hands e rs with
    | some x, some xs => some (x :: xs)
    | _, _ => none
@[simp] theorem hands_nil (e : Env) : hands e [] = some [] := rfl
@[simp] theorem hands_cons (e : Env) (r : RV) (rs : List RV) : hands e (r :: rs) = (match hand e r, hands e rs with | some x, some xs => some (x :: xs) | _, _ => none) := rfl
@[simp] theorem hand_v (e : Env) (x : Val) : hand e (.v x) = some (.v x) := rfl
@[simp] theorem hand_own (e : Env) (x : Val) : hand e (.own x) = some (.own x) := rfl
@[simp] theorem hand_bor (e : Env) (i : Nat) : hand e (.bor i) = (match eget e i with | .own _ x => some (.own x) | .pf x => some (.v x) | .v x => some (.v x) | _ => none) := rfl
/-- the places whose own objects are handed over -/
def lent (e : Env) : List RV → List Nat
  | [] => []
  | .bor i :: rs => (match eget e i with | .own _ _ => i :: lent e rs | _ => lent e rs)
  | _ :: rs => lent e rs
@[simp] theorem lent_nil (e : Env) : lent e [] = [] := rfl
@[simp] theorem lent_v (e : Env) (x : Val) (rs : List RV) : lent e (.v x :: rs) = lent e rs := rfl
@[simp] theorem lent_own (e : Env) (x : Val) (rs : List RV) : lent e (.own x :: rs) = lent e rs := rfl
@[simp] theorem lent_bor (e : Env) (i : Nat) (rs : List RV) : lent e (.bor i :: rs) = (match eget e i with | .own _ _ => i :: lent e rs | _ => lent e rs) := rfl
def nodupN : List Nat → Bool
  | [] => true
  | i :: is => !is.contains i && nodupN is
/-- what a place holds behind the call -/
def back : Slot → Slot → Slot
  | .own q _, .own _ x => .own q x
  | .own true _, .pf x => .pf x
  | .own false _, .pf x => .v x
  | s, _ => s
@[simp] theorem back_oo (q p : Bool) (y x : Val) : back (.own q y) (.own p x) = .own q x := rfl
@[simp] theorem back_tp (y x : Val) : back (.own true y) (.pf x) = .pf x := rfl
@[simp] theorem back_fp (y x : Val) : back (.own false y) (.pf x) = .v x := rfl
def backs (e : Env) : List RV → Env → Env
  | .bor i :: rs, p :: ps => backs (eput e i (back (eget e i) p)) rs ps
  | _ :: rs, _ :: ps => backs e rs ps
  | _, _ => e
@[simp] theorem backs_nil (e : Env) (ps : Env) : backs e [] ps = e := by cases ps <;> rfl
@[simp] theorem backs_v (e : Env) (x : Val) (rs : List RV) (p : Slot) (ps : Env) : backs e (.v x :: rs) (p :: ps) = backs e rs ps := rfl
@[simp] theorem backs_own (e : Env) (x : Val) (rs : List RV) (p : Slot) (ps : Env) : backs e (.own x :: rs) (p :: ps) = backs e rs ps := rfl
@[simp] theorem backs_bor (e : Env) (i : Nat) (rs : List RV) (p : Slot) (ps : Env) : backs e (.bor i :: rs) (p :: ps) = backs (eput e i (back (eget e i) p)) rs ps := rfl
def callR (m : Fn) (rs : List RV) (e : Env) : Rs RV :=
  if nodupN (lent e rs) then
    (opt (hands e rs) e).bind fun avs _ => match m avs with
      | .ok r ps => .ok r (backs e rs ps)
      | .ex c fs ps => .ex c fs (backs e rs ps)
      | .no => .no
  else .no
def eCall (m : Fn) (a : As) : E := fun e => (a e).bind fun rs e1 => callR m rs e1
/-- with keywords: the values in the written order, then put in the parameters' order -/
def eCallK (m : Fn) (perm : List Nat) (a : As) : E := fun e => (a e).bind fun rs e1 => callR m (perm.map fun i => rs.getD i (.v .non)) e1
end Z
namespace Z
/-! ### items, slices -/
def atV {α : Type} (xs : List α) (i : Int) : Option α := if 0 ≤ i then xs[i.toNat]? else if 0 ≤ i + xs.length then xs[(i + xs.length).toNat]? else none
def oInt : Option E → Env → Rs (Option Int)
  | none, e => .ok none e
  | some a, e => (a e).bind fun r e1 => match r with
    | .v (.int i) => .ok (some i) e1
    | _ => .no
@[simp] theorem oInt_none (e : Env) : oInt none e = .ok none e := rfl
@[simp] theorem oInt_some (a : E) (e : Env) : oInt (some a) e = (a e).bind fun r e1 => match r with | .v (.int i) => .ok (some i) e1 | _ => .no := rfl
def eSl (f : Val → Option Int → Option Int → Option RV) (a : E) (lo hi : Option E) : E := fun e =>
  (a e).bind fun r e1 => (oInt lo e1).bind fun l e2 => (oInt hi e2).bind fun u e3 => (opt (peek e3 r) e3).bind fun x _ => opt (f x l u) e3
end Z
namespace Z
/-! ### targets, loops -/
abbrev Tg := Val → Env → Option Env
def okE : Rs Unit → Option Env
  | .ok _ e => some e
  | _ => none
@[simp] theorem okE_ok (e : Env) : okE (.ok () e) = some e := rfl
@[simp] theorem okE_no : okE .no = none := rfl
def tgN (i : Nat) : Tg := fun x e => okE (sto e i (.v x))
def tgs : List Tg → List Val → Env → Option Env
  | [], [], e => some e
  | t :: ts, x :: xs, e => match t x e with
    | some e1 => tgs ts xs e1
    | none => none
  | _, _, _ => none
@[simp] theorem tgs_nil (e : Env) : tgs [] [] e = some e := rfl
@[simp] theorem tgs_cons (t : Tg) (ts : List Tg) (x : Val) (xs : List Val) (e : Env) : tgs (t :: ts) (x :: xs) e = match t x e with | some e1 => tgs ts xs e1 | none => none := rfl
def tgT (ts : List Tg) : Tg := fun x e => match x with
  | .tup xs => tgs ts xs e
  | _ => none
/-- targets = e, e a tuple -/
def sUnp (t : Tg) (a : E) : S := fun e => (a e).bind fun r e1 => match r with
  | .v x => match t x e1 with
    | some e2 => .ok .nx e2
    | none => .no
  | _ => .no
/-- what is borrowed comes to rest -/
def settle (e : Env) : RV → Rs RV
  | .v x => .ok (.v x) e
  | .own x => .ok (.own x) e
  | .bor i => (esc e (.bor i)).bind fun x e1 => .ok (.v x) e1
def settles (e : Env) : List RV → Rs (List RV)
  | [] => .ok [] e
  | r :: rs => (settle e r).bind fun x e1 => (settles e1 rs).bind fun xs e2 => .ok (x :: xs) e2
@[simp] theorem settle_v (e : Env) (x : Val) : settle e (.v x) = .ok (.v x) e := rfl
@[simp] theorem settle_own (e : Env) (x : Val) : settle e (.own x) = .ok (.own x) e := rfl
@[simp] theorem settle_bor (e : Env) (i : Nat) : settle e (.bor i) = (esc e (.bor i)).bind fun x e1 => .ok (.v x) e1 := rfl
@[simp] theorem settles_nil (e : Env) : settles e [] = .ok [] e := rfl
@[simp] theorem settles_cons (e : Env) (r : RV) (rs : List RV) : settles e (r :: rs) = (settle e r).bind fun x e1 => (settles e1 rs).bind fun xs e2 => .ok (x :: xs) e2 := rfl
/-- a, b = x, y -/
def sPar (is : List Nat) (a : As) : S := fun e => (a e).bind fun rs e1 => (settles e1 rs).bind fun rs' e2 => (stos e2 is rs').bind fun _ e3 => .ok .nx e3
abbrev Src := Env → Rs (List Val)
/-- the items of a list or a tuple, which rests from now on -/
def iSeq (a : E) : Src := fun e => (a e).bind fun r e1 => (esc e1 r).bind fun x e2 => match x with
  | .lst xs => .ok xs e2
  | .tup xs => .ok xs e2
  | _ => .no
def rangeV (lo : Int) (n : Nat) : List Val := (List.range n).map fun i : Nat => .int (lo + i)
def iRange1 (a : E) : Src := fun e => (a e).bind fun r e1 => match r with
  | .v (.int j) => if j.natAbs < 4611686018427387904 then .ok (rangeV 0 j.toNat) e1 else .no
  | _ => .no
def iRange2 (a b : E) : Src := fun e => (a e).bind fun r e1 => (b e1).bind fun s e2 => match r, s with
  | .v (.int i), .v (.int j) => if i.natAbs < 4611686018427387904 ∧ j.natAbs < 4611686018427387904 then .ok (rangeV i (j - i).toNat) e2 else .no
  | _, _ => .no
def forL (t : Tg) (b : S) : List Val → S
  | [] => fun e => .ok .nx e
  | x :: xs => fun e => match t x e with
    | none => .no
    | some e1 => (b e1).bind fun f e2 => match f with
      | .nx => forL t b xs e2
      | .ct => forL t b xs e2
      | .bk => .ok .nx e2
      | .rt r => .ok (.rt r) e2
def sFor (s : Src) (t : Tg) (b : S) : S := fun e => (s e).bind fun xs e1 => forL t b xs e1
def whileL (c : T) (b : S) : Nat → S
  | 0 => fun _ => .no
  | n + 1 => fun e => (c e).bind fun k e1 => if k then (b e1).bind fun f e2 => match f with
      | .nx => whileL c b n e2
      | .ct => whileL c b n e2
      | .bk => .ok .nx e2
      | .rt r => .ok (.rt r) e2
    else .ok .nx e1
def sWhile (n : Nat) (c : T) (b : S) : S := whileL c b n
end Z
namespace Z
/-! ### lists that are changed -/
def setAt (xs : List Val) (i : Int) (x : Val) : Option (List Val) := if 0 ≤ i then (if i < xs.length then some (xs.set i.toNat x) else none) else if 0 ≤ i + xs.length then some (xs.set (i + xs.length).toNat x) else none
def isOwnL : Slot → Bool
  | .own _ (.lst _) => true
  | _ => false
@[simp] theorem isOwnL_own (p : Bool) (xs : List Val) : isOwnL (.own p (.lst xs)) = true := rfl
/-- name[i] = a -/
def sSetIx (j : Nat) (ix a : E) : S := fun e => (a e).bind fun r e1 => if isOwnL (eget e1 j) then (ix e1).bind fun q e2 => (esc e2 r).bind fun x e3 => match eget e3 j, q with
  | .own p (.lst xs), .v (.int i) => match setAt xs i x with
    | some ys => .ok .nx (eput e3 j (.own p (.lst ys)))
    | none => .no
  | _, _ => .no
  else .no
/-- name.append(a) -/
def eApp (j : Nat) (a : E) : E := fun e => if isOwnL (eget e j) then (a e).bind fun r e1 => (esc e1 r).bind fun x e2 => match eget e2 j with
  | .own p (.lst xs) => if xs.length < sizeMax then .ok (.v .non) (eput e2 j (.own p (.lst (xs ++ [x])))) else .no
  | _ => .no
  else .no
/-- name.pop() -/
def ePop (j : Nat) : E := fun e => match eget e j with
  | .own p (.lst xs) => match xs[xs.length - 1]? with
    | some x => .ok (.v x) (eput e j (.own p (.lst xs.dropLast)))
    | none => .no
  | _ => .no
/-- name.pop(a) -/
def ePopAt (j : Nat) (a : E) : E := fun e => if isOwnL (eget e j) then (a e).bind fun r e1 => match eget e1 j, r with
  | .own p (.lst xs), .v (.int i) => if 0 ≤ i ∧ i < xs.length then match xs[i.toNat]? with
      | some x => .ok (.v x) (eput e1 j (.own p (.lst (xs.eraseIdx i.toNat))))
      | none => .no
    else .no
  | _, _ => .no
  else .no
/-- name.extend(a), a a new list -/
def eExt (j : Nat) (a : E) : E := fun e => if isOwnL (eget e j) then (a e).bind fun r e1 => match eget e1 j, r with
  | .own p (.lst xs), .own (.lst ys) => if xs.length + ys.length ≤ sizeMax then .ok (.v .non) (eput e1 j (.own p (.lst (xs ++ ys)))) else .no
  | _, _ => .no
  else .no
end Z
namespace Z
/-! ### errors -/
/-- raise cn(a) -/
def sRaise (cn fld : Str) (a : E) : S := fun e => (a e).bind fun r e1 => (esc e1 r).bind fun x e2 => .ex cn [(fld, x)] e2
/-- the field of the error at a place -/
def eExn (i : Nat) (cn fld : Str) : E := fun e => match eget e i with
  | .exn c [(f, x)] => if c = cn ∧ f = fld then .ok (.v x) e else .no
  | _ => .no
def noExn : Env → Bool
  | [] => true
  | .exn _ _ :: _ => false
  | _ :: r => noExn r
@[simp] theorem noExn_nil : noExn [] = true := rfl
@[simp] theorem noExn_emp (r : Env) : noExn (.emp :: r) = noExn r := rfl
@[simp] theorem noExn_v (x : Val) (r : Env) : noExn (.v x :: r) = noExn r := rfl
@[simp] theorem noExn_own (p : Bool) (x : Val) (r : Env) : noExn (.own p x :: r) = noExn r := rfl
@[simp] theorem noExn_pf (x : Val) (r : Env) : noExn (.pf x :: r) = noExn r := rfl
/-- a suite's end: its name goes -/
def leaveS (i : Nat) : Rs Fl → Rs Fl
  | .ok (.rt (.v x)) e => if noExn (eput e i .emp) then .ok (.rt (.v x)) (eput e i .emp) else .no
  | .ok (.rt (.own x)) e => if noExn (eput e i .emp) then .ok (.rt (.own x)) (eput e i .emp) else .no
  | .ok (.rt (.bor _)) _ => .no
  | .ok f e => if noExn (eput e i .emp) then .ok f (eput e i .emp) else .no
  | _ => .no
@[simp] theorem leaveS_v (i : Nat) (x : Val) (e : Env) : leaveS i (.ok (.rt (.v x)) e) = if noExn (eput e i .emp) then .ok (.rt (.v x)) (eput e i .emp) else .no := rfl
@[simp] theorem leaveS_own (i : Nat) (x : Val) (e : Env) : leaveS i (.ok (.rt (.own x)) e) = if noExn (eput e i .emp) then .ok (.rt (.own x)) (eput e i .emp) else .no := rfl
@[simp] theorem leaveS_nx (i : Nat) (e : Env) : leaveS i (.ok .nx e) = if noExn (eput e i .emp) then .ok .nx (eput e i .emp) else .no := rfl
def handle (sub : Str → Str → Option Bool) : List (Str × Nat × S) → Str → List (Str × Val) → Env → Rs Fl
  | [], c, fs, e => .ex c fs e
  | (n, i, s) :: r, c, fs, e => match sub c n with
    | some true => match eget e i with
      | .emp => if i < e.length then leaveS i (s (eput e i (.exn c fs))) else .no
      | _ => .no
    | some false => handle sub r c fs e
    | none => .no
/-- try: b; except n as i: s; .. -/
def sTry (sub : Str → Str → Option Bool) (b : S) (hs : List (Str × Nat × S)) : S := fun e => match b e with
  | .ex c fs e1 => handle sub hs c fs e1
  | r => r
end Z
namespace Z
/-! ### list comprehensions -/
/-- the block's names hold nothing that is changed -/
def clr (e : Env) : List Nat → Bool
  | [] => true
  | i :: is => (match eget e i with | .emp => true | .v _ => true | _ => false) && clr e is
def wip (e : Env) : List Nat → Env
  | [] => e
  | i :: is => wip (eput e i .emp) is
/-- the block's names as they were in e1 -/
def unwip (e1 e2 : Env) : List Nat → Env
  | [] => e2
  | i :: is => unwip e1 (eput e2 i (eget e1 i)) is
@[simp] theorem clr_nil (e : Env) : clr e [] = true := rfl
@[simp] theorem clr_cons (e : Env) (i : Nat) (is : List Nat) : clr e (i :: is) = ((match eget e i with | .emp => true | .v _ => true | _ => false) && clr e is) := rfl
@[simp] theorem wip_nil (e : Env) : wip e [] = e := rfl
@[simp] theorem wip_cons (e : Env) (i : Nat) (is : List Nat) : wip e (i :: is) = wip (eput e i .emp) is := rfl
@[simp] theorem unwip_nil (e1 e2 : Env) : unwip e1 e2 [] = e2 := rfl
@[simp] theorem unwip_cons (e1 e2 : Env) (i : Nat) (is : List Nat) : unwip e1 e2 (i :: is) = unwip e1 (eput e2 i (eget e1 i)) is := rfl
def tYes : T := fun e => .ok true e
def compL (vs : List Nat) (t : Tg) (c : T) (a : E) : List Val → Env → Rs (List Val)
  | [], e => .ok [] e
  | x :: xs, e => match t x e with
    | none => .no
    | some e1 => (c e1).bind fun k e2 => if k then (a e2).bind fun r e3 => (esc e3 r).bind fun y e4 => if clr e4 vs then (compL vs t c a xs (wip e4 vs)).bind fun ys e5 => .ok (y :: ys) e5 else .no
      else if clr e2 vs then compL vs t c a xs (wip e2 vs) else .no
/-- [a for t in s if c] -/
def eComp (s : Src) (vs : List Nat) (t : Tg) (c : T) (a : E) : E := fun e => (s e).bind fun xs e1 => if clr e1 vs && decide (xs.length ≤ sizeMax) then match compL vs t c a xs (wip e1 vs) with
    | .ok ys e2 => .ok (.own (.lst ys)) (unwip e1 e2 vs)
    | _ => .no
  else .no
end Z
/-! Z1: how the functional reading stands to the layer's heap: relations, ends, how they are put together. -/
namespace Z
open PySem L2

/-- the module's side -/
structure Gm where
  K : PySem.W.Frag
  mg : Str → Option Value

/-- a list that nobody writes any more -/
def SqZ (g : Gm) (Zs : Addr → Prop) (H : Hp) (a : Addr) (us : List V) : Prop := Zs a ∧ H a = some (.lst us)
theorem SqZ.sq {g : Gm} {Zs : Addr → Prop} {H : Hp} {a : Addr} {us : List V} (h : SqZ g Zs H a us) : SqL g.K H a us := .inl (.inl h.2)
/-- the law's own list, which nobody writes -/
def SqF (K : PySem.W.Frag) (H : Hp) (a : Addr) (us : List V) : Prop := (∃ o, H a = some (.frz o (.lst us))) ∨
  ∃ (o : Obj) (its : Array Value) (n : Nat), K.lookup a = some o ∧ o.cls = .type "list" ∧ o.dict = none ∧ o.data = .seq its n ∧ its.size ≤ sizeLine ∧ Vals us its.toList
theorem SqF.sq {K : PySem.W.Frag} {H : Hp} {a : Addr} {us : List V} (h : SqF K H a us) : SqL K H a us := h.imp .inr id
mutual
/-- a value, by content; lists and dicts within it stand at places (Zs) that nobody writes any more -/
inductive RvV (g : Gm) (Zs : Addr → Prop) (H : Hp) : Val → V → Prop
  | non : RvV g Zs H .non .non
  | bl (b : Bool) : RvV g Zs H (.bl b) (.bl b)
  | int (i : Int) : RvV g Zs H (.int i) (.int i)
  | str (x : Str) : RvV g Zs H (.str x) (.str x)
  | tup {a : Addr} {us : List V} {xs : List Val} : SqT g.K H a us → RvL g Zs H xs us → RvV g Zs H (.tup xs) (.ref a)
  | lst {a : Addr} {us : List V} {xs : List Val} : SqZ g Zs H a us → RvL g Zs H xs us → RvV g Zs H (.lst xs) (.ref a)
  | dic {a : Addr} {ks : List (Key × V)} {kvs : List (Val × Val)} : Zs a → Rd H a (.dK ks) → RvD g Zs H kvs ks → RvV g Zs H (.dic kvs) (.ref a)
  | obj {a C dx : Addr} {c : Str} {fs : List (Str × Val)} {fv : List (Str × V)} : Zs a → H a = some (.ins C dx fv) → g.mg c = some (.ref C) → RvF g Zs H fs fv → RvV g Zs H (.obj c fs) (.ref a)
  | scr {a : Addr} {ns : List Int} : SqF g.K H a (ns.map V.int) → RvV g Zs H (.scr ns) (.ref a)
inductive RvL (g : Gm) (Zs : Addr → Prop) (H : Hp) : List Val → List V → Prop
  | nil : RvL g Zs H [] []
  | cons {x : Val} {u : V} {xs : List Val} {us : List V} : RvV g Zs H x u → RvL g Zs H xs us → RvL g Zs H (x :: xs) (u :: us)
inductive RvD (g : Gm) (Zs : Addr → Prop) (H : Hp) : List (Val × Val) → List (Key × V) → Prop
  | nil : RvD g Zs H [] []
  | int {i : Int} {x : Val} {u : V} {xs : List (Val × Val)} {us : List (Key × V)} : RvV g Zs H x u → RvD g Zs H xs us → RvD g Zs H ((.int i, x) :: xs) ((.inl i, u) :: us)
  | str {s : Str} {x : Val} {u : V} {xs : List (Val × Val)} {us : List (Key × V)} : RvV g Zs H x u → RvD g Zs H xs us → RvD g Zs H ((.str s, x) :: xs) ((.inr s, u) :: us)
inductive RvF (g : Gm) (Zs : Addr → Prop) (H : Hp) : List (Str × Val) → List (Str × V) → Prop
  | nil : RvF g Zs H [] []
  | cons {f : Str} {x : Val} {u : V} {xs : List (Str × Val)} {us : List (Str × V)} : RvV g Zs H x u → RvF g Zs H xs us → RvF g Zs H ((f, x) :: xs) ((f, u) :: us)
end

/-- what may be written to -/
def wr : HO → Bool
  | .lst _ => true
  | .dK _ => true
  | .ins _ _ _ => true
  | _ => false
/-- a step of the heap: only what is Ow is written, what is new is new -/
structure Ext (Ow Zs : Addr → Prop) (H : Hp) (Zt : Addr → Prop) (H' : Hp) : Prop where
  zz : ∀ a, Zs a → Zt a
  zn : ∀ a, Zt a → Zs a ∨ Ow a ∨ H a = none
  hh : ∀ a o, H a = some o → ¬ Ow a → H' a = some o
  zd : ∀ a, Zt a → ∃ o, H' a = some o
abbrev Zd (Zs : Addr → Prop) (H : Hp) : Prop := ∀ a, Zs a → ∃ o, H a = some o
/-- what is owned -/
def OwOk (Ow Zs : Addr → Prop) (H : Hp) : Prop := ∀ a, Ow a → ¬ Zs a ∧ ∃ o, H a = some o ∧ wr o = true

theorem Ext.refl {Ow Zs : Addr → Prop} {H : Hp} (z : Zd Zs H) : Ext Ow Zs H Zs H := ⟨fun _ h => h, fun _ h => .inl h, fun _ _ h _ => h, z⟩
theorem Ext.rd {Ow Zs Zt : Addr → Prop} {H H' : Hp} (e : Ext Ow Zs H Zt H') (d : OwOk Ow Zs H) {a : Addr} {u : HO} (hw : wr u = false ∨ Zs a) (r : Rd H a u) : Rd H' a u := by
  have no : ∀ o, H a = some o → (wr o = false ∨ Zs a) → ¬ Ow a := fun o ho hw z => by
    obtain ⟨nz, o', ho', hw'⟩ := d a z
    rw [ho] at ho'; cases ho'
    rcases hw with hw | hw
    · rw [hw] at hw'; cases hw'
    · exact nz hw
  rcases r with r | ⟨o, r⟩
  · exact .inl (e.hh _ _ r (no _ r hw))
  · exact .inr ⟨o, e.hh _ _ r (no _ r (.inl rfl))⟩
/-- what values lean on stays -/
structure Grow (Zs : Addr → Prop) (H : Hp) (Zt : Addr → Prop) (H' : Hp) : Prop where
  zz : ∀ a, Zs a → Zt a
  kp : ∀ a u, (wr u = false ∨ Zs a) → H a = some u → H' a = some u
theorem Grow.rd {Zs Zt : Addr → Prop} {H H' : Hp} (e : Grow Zs H Zt H') {a : Addr} {u : HO} (hw : wr u = false ∨ Zs a) (r : Rd H a u) : Rd H' a u := by
  rcases r with r | ⟨o, r⟩
  · exact .inl (e.kp _ _ hw r)
  · exact .inr ⟨o, e.kp _ _ (.inl rfl) r⟩
theorem Ext.grow {Ow Zs Zt : Addr → Prop} {H H' : Hp} (e : Ext Ow Zs H Zt H') (d : OwOk Ow Zs H) : Grow Zs H Zt H' :=
  ⟨e.zz, fun a u hw h => e.hh a u h fun z => by
    obtain ⟨nz, o', ho', hw'⟩ := d a z
    rw [h] at ho'; cases ho'
    rcases hw with hw | hw
    · rw [hw] at hw'; cases hw'
    · exact nz hw⟩
theorem Grow.of {Zs Zt : Addr → Prop} {H : Hp} (h : ∀ a, Zs a → Zt a) : Grow Zs H Zt H := ⟨h, fun _ _ _ h => h⟩
section
variable {g : Gm} {Zs Zt : Addr → Prop} {H H' : Hp} (e : Grow Zs H Zt H')
include e
theorem Grow.sqT {a : Addr} {us : List V} (h : SqT g.K H a us) : SqT g.K H' a us := by
  rcases h with h | h
  · exact .inl (e.rd (.inl rfl) h)
  · exact .inr h
theorem Grow.sqZ {a : Addr} {us : List V} (h : SqZ g Zs H a us) : SqZ g Zt H' a us := ⟨e.zz _ h.1, e.kp _ _ (.inr h.1) h.2⟩
mutual
theorem RvV.gr : ∀ {x : Val} {u : V}, RvV g Zs H x u → RvV g Zt H' x u
  | _, _, .non => .non
  | _, _, .bl b => .bl b
  | _, _, .int i => .int i
  | _, _, .str s => .str s
  | _, _, .tup h r => .tup (e.sqT h) (RvL.gr r)
  | _, _, .lst h r => .lst (e.sqZ h) (RvL.gr r)
  | _, _, .dic z h r => .dic (e.zz _ z) (e.rd (.inr z) h) (RvD.gr r)
  | _, _, .obj z h m r => .obj (e.zz _ z) (e.kp _ _ (.inr z) h) m (RvF.gr r)
  | _, _, .scr h => .scr (h.imp (fun ⟨o, h⟩ => ⟨o, e.kp _ _ (.inl rfl) h⟩) id)
theorem RvL.gr : ∀ {xs : List Val} {us : List V}, RvL g Zs H xs us → RvL g Zt H' xs us
  | _, _, .nil => .nil
  | _, _, .cons h r => .cons (RvV.gr h) (RvL.gr r)
theorem RvD.gr : ∀ {xs : List (Val × Val)} {us : List (Key × V)}, RvD g Zs H xs us → RvD g Zt H' xs us
  | _, _, .nil => .nil
  | _, _, .int h r => .int (RvV.gr h) (RvD.gr r)
  | _, _, .str h r => .str (RvV.gr h) (RvD.gr r)
theorem RvF.gr : ∀ {xs : List (Str × Val)} {us : List (Str × V)}, RvF g Zs H xs us → RvF g Zt H' xs us
  | _, _, .nil => .nil
  | _, _, .cons h r => .cons (RvV.gr h) (RvF.gr r)
end
end
section
variable {g : Gm} {Ow Zs Zt : Addr → Prop} {H H' : Hp} (e : Ext Ow Zs H Zt H') (d : OwOk Ow Zs H)
include e d
theorem RvV.ext {x : Val} {u : V} (h : RvV g Zs H x u) : RvV g Zt H' x u := h.gr (e.grow d)
theorem RvL.ext {x : List Val} {u : List V} (h : RvL g Zs H x u) : RvL g Zt H' x u := h.gr (e.grow d)
theorem RvD.ext {x : List (Val × Val)} {u : List (Key × V)} (h : RvD g Zs H x u) : RvD g Zt H' x u := h.gr (e.grow d)
theorem RvF.ext {x : List (Str × Val)} {u : List (Str × V)} (h : RvF g Zs H x u) : RvF g Zt H' x u := h.gr (e.grow d)
end

/-- an object that may be written, by content -/
def Hld (g : Gm) (Zs : Addr → Prop) (H : Hp) : Val → Addr → Prop
  | .lst xs, a => ∃ us, H a = some (.lst us) ∧ RvL g Zs H xs us
  | .dic kvs, a => ∃ ks, H a = some (.dK ks) ∧ RvD g Zs H kvs ks
  | .obj c fs, a => ∃ C dx fv, H a = some (.ins C dx fv) ∧ g.mg c = some (.ref C) ∧ RvF g Zs H fs fv
  | _, _ => False
theorem Hld.rv {g : Gm} {Zs : Addr → Prop} {H : Hp} : ∀ {x : Val} {a : Addr}, Hld g Zs H x a → Zs a → RvV g Zs H x (.ref a)
  | .lst _, _, ⟨_, h, r⟩, z => .lst ⟨z, h⟩ r
  | .dic _, _, ⟨_, h, r⟩, z => .dic z (.inl h) r
  | .obj _ _, _, ⟨_, _, _, h, m, r⟩, z => .obj z h m r
  | .non, _, h, _ => nomatch (show False from h)
  | .bl _, _, h, _ => nomatch (show False from h)
  | .int _, _, h, _ => nomatch (show False from h)
  | .str _, _, h, _ => nomatch (show False from h)
  | .tup _, _, h, _ => nomatch (show False from h)
  | .scr _, _, h, _ => nomatch (show False from h)
theorem Hld.wr {g : Gm} {Zs : Addr → Prop} {H : Hp} : ∀ {x : Val} {a : Addr}, Hld g Zs H x a → ∃ o, H a = some o ∧ Z.wr o = true
  | .lst _, _, ⟨_, h, _⟩ => ⟨_, h, rfl⟩
  | .dic _, _, ⟨_, h, _⟩ => ⟨_, h, rfl⟩
  | .obj _ _, _, ⟨_, _, _, h, _, _⟩ => ⟨_, h, rfl⟩
  | .non, _, h => nomatch (show False from h)
  | .bl _, _, h => nomatch (show False from h)
  | .int _, _, h => nomatch (show False from h)
  | .str _, _, h => nomatch (show False from h)
  | .tup _, _, h => nomatch (show False from h)
  | .scr _, _, h => nomatch (show False from h)
/-- it stays while its own place is not written -/
theorem Hld.ext {g : Gm} {Ow Zs Zt : Addr → Prop} {H H' : Hp} (e : Ext Ow Zs H Zt H') (d : OwOk Ow Zs H) : ∀ {x : Val} {a : Addr}, Hld g Zs H x a → ¬ Ow a → Hld g Zt H' x a
  | .lst _, _, ⟨_, h, r⟩, n => ⟨_, e.hh _ _ h n, r.ext e d⟩
  | .dic _, _, ⟨_, h, r⟩, n => ⟨_, e.hh _ _ h n, r.ext e d⟩
  | .obj _ _, _, ⟨_, _, _, h, m, r⟩, n => ⟨_, _, _, e.hh _ _ h n, m, r.ext e d⟩
  | .non, _, h, _ => nomatch (show False from h)
  | .bl _, _, h, _ => nomatch (show False from h)
  | .int _, _, h, _ => nomatch (show False from h)
  | .str _, _, h, _ => nomatch (show False from h)
  | .tup _, _, h, _ => nomatch (show False from h)
  | .scr _, _, h, _ => nomatch (show False from h)

/-! ### frames -/
abbrev Xc := Option (Addr × Value × Addr)
def SlR (g : Gm) (xc : Xc) (Zs : Addr → Prop) (H : Hp) : Slot → Option (Option V) → Prop
  | .emp, _ => True
  | .v x, o => ∃ u, o = some (some u) ∧ RvV g Zs H x u
  | .own _ x, o => ∃ a, o = some (some (.ref a)) ∧ ¬ Zs a ∧ Hld g Zs H x a
  | .pf x, o => ∃ a, o = some (some (.ref a)) ∧ Zs a ∧ RvV g Zs H x (.ref a)
  | .exn c fs, o => ∃ a d C fv, xc = some (a, .ref C, d) ∧ o = some (some (.ref a)) ∧ g.mg c = some (.ref C) ∧ H d = some (.xd fv) ∧ RvF g Zs H fs fv
def OwnAt (env : Env) (σ : St) (i : Nat) (a : Addr) : Prop := ∃ p x, eget env i = .own p x ∧ σ[i]? = some (some (.ref a))
def Owd (env : Env) (σ : St) (a : Addr) : Prop := ∃ i, OwnAt env σ i a
def Pinned : Slot → Prop
  | .own true _ => True
  | .pf _ => True
  | _ => False
def Hol : Slot → Prop
  | .v _ => True
  | .own _ _ => True
  | .pf _ => True
  | _ => False
structure RE (g : Gm) (xc : Xc) (pa : List (Option Addr)) (Zs : Addr → Prop) (H : Hp) (σ : St) (env : Env) : Prop where
  len : σ.length = env.length
  sl : ∀ i, SlR g xc Zs H (eget env i) σ[i]?
  inj : ∀ i j a, OwnAt env σ i a → OwnAt env σ j a → i = j
  pin : ∀ i a, pa[i]? = some (some a) → σ[i]? = some (some (.ref a)) ∧ Pinned (eget env i)
  zd : Zd Zs H
theorem RE.owOk {g : Gm} {xc : Xc} {pa : List (Option Addr)} {Zs : Addr → Prop} {H : Hp} {σ : St} {env : Env} (r : RE g xc pa Zs H σ env) : OwOk (Owd env σ) Zs H := by
  rintro a ⟨i, p, x, h1, h2⟩
  have q := r.sl i
  rw [h1] at q
  obtain ⟨b, h3, nz, hl⟩ := q
  rw [h2] at h3; cases h3
  exact ⟨nz, hl.wr⟩

/-- a step of a frame's run -/
structure Post (g : Gm) (xc : Xc) (pa : List (Option Addr)) (Zs : Addr → Prop) (H : Hp) (σ : St) (env : Env) (Zt : Addr → Prop) (H' : Hp) (σ' : St) (env' : Env) : Prop where
  ext : Ext (Owd env σ) Zs H Zt H'
  re : RE g xc pa Zt H' σ' env'
  ow : ∀ a, Owd env' σ' a → Owd env σ a ∨ H a = none
/-- .. of an expression's -/
structure PostE (g : Gm) (xc : Xc) (pa : List (Option Addr)) (Zs : Addr → Prop) (H : Hp) (σ : St) (env : Env) (Zt : Addr → Prop) (H' : Hp) (env' : Env) : Prop extends Post g xc pa Zs H σ env Zt H' σ env' where
  hol : ∀ i, Hol (eget env i) → Hol (eget env' i)
section
variable {g : Gm} {xc : Xc} {pa : List (Option Addr)} {Z0 Z1 Z2 : Addr → Prop} {H0 H1 H2 : Hp} {σ0 σ1 σ2 : St} {e0 e1 e2 : Env}
theorem Post.refl (r : RE g xc pa Z0 H0 σ0 e0) : Post g xc pa Z0 H0 σ0 e0 Z0 H0 σ0 e0 := ⟨Ext.refl r.zd, r, fun _ h => .inl h⟩
theorem PostE.refl (r : RE g xc pa Z0 H0 σ0 e0) : PostE g xc pa Z0 H0 σ0 e0 Z0 H0 e0 := ⟨Post.refl r, fun _ h => h⟩
/-- a place that was free is free ahead, too, or one's own -/
theorem Ext.free {Ow Zs Zt : Addr → Prop} {H H' : Hp} (e : Ext Ow Zs H Zt H') {a : Addr} (h : H' a = none) : Ow a ∨ H a = none := by
  cases q : H a with
  | none => exact .inr rfl
  | some o =>
    refine .inl (Classical.byContradiction fun n => ?_)
    rw [e.hh a o q n] at h
    cases h
theorem Post.trans (p : Post g xc pa Z0 H0 σ0 e0 Z1 H1 σ1 e1) (q : Post g xc pa Z1 H1 σ1 e1 Z2 H2 σ2 e2) : Post g xc pa Z0 H0 σ0 e0 Z2 H2 σ2 e2 := by
  refine ⟨⟨fun a h => q.ext.zz a (p.ext.zz a h), fun a h => ?_, fun a o h n => ?_, q.ext.zd⟩, q.re, fun a h => ?_⟩
  · rcases q.ext.zn a h with h | h | h
    · exact p.ext.zn a h
    · exact .inr (p.ow a h)
    · exact .inr (p.ext.free h)
  · refine q.ext.hh a o (p.ext.hh a o h n) fun w => ?_
    rcases p.ow a w with w | w
    · exact n w
    · rw [h] at w; cases w
  · rcases q.ow a h with h | h
    · exact p.ow a h
    · exact p.ext.free h
theorem PostE.trans (p : PostE g xc pa Z0 H0 σ0 e0 Z1 H1 e1) (q : PostE g xc pa Z1 H1 σ0 e1 Z2 H2 e2) : PostE g xc pa Z0 H0 σ0 e0 Z2 H2 e2 :=
  ⟨p.toPost.trans q.toPost, fun i h => q.hol i (p.hol i h)⟩
end

/-! ### what comes -/
/-- where one stood -/
structure At where
  pa : List (Option Addr)
  Zs : Addr → Prop
  H : Hp
  σ : St
  env : Env
def RR (g : Gm) (s : At) (Zt : Addr → Prop) (H' : Hp) (σ' : St) (env' : Env) : RV → V → Prop
  | .v x, u => RvV g Zt H' x u
  | .own x, u => ∃ a, u = .ref a ∧ ¬ Zt a ∧ Hld g Zt H' x a ∧ ¬ Owd env' σ' a ∧ (Owd s.env s.σ a ∨ s.H a = none)
  | .bor i, u => ∃ a, u = .ref a ∧ σ'[i]? = some (some (.ref a)) ∧ Hol (eget env' i)
section
variable {g : Gm} {xc : Xc} {s : At} {Z0 Z1 Z2 : Addr → Prop} {H0 H1 H2 : Hp} {σ0 : St} {e0 e1 e2 : Env} {r : RV} {u : V}
/-- what came stays behind a further step -/
theorem RR.step {pa : List (Option Addr)} (h : RR g s Z1 H1 σ0 e1 r u) (q1 : RE g xc pa Z1 H1 σ0 e1) (q : PostE g xc pa Z1 H1 σ0 e1 Z2 H2 e2) : RR g s Z2 H2 σ0 e2 r u := by
  cases r with
  | v x => exact RvV.ext q.ext q1.owOk h
  | own x =>
    obtain ⟨a, e, nz, hl, no, fr⟩ := h
    obtain ⟨o, ho, hw⟩ := hl.wr
    refine ⟨a, e, fun z => ?_, hl.ext q.ext q1.owOk no, fun w => ?_, fr⟩
    · rcases q.ext.zn a z with z | z | z
      · exact nz z
      · exact no z
      · rw [ho] at z; cases z
    · rcases q.ow a w with z | z
      · exact no z
      · rw [ho] at z; cases z
  | bor i =>
    obtain ⟨a, e, h1, h2⟩ := h
    exact ⟨a, e, h1, q.hol i h2⟩
end
/-- a list of them; new objects stand apart -/
inductive RRs (g : Gm) (s : At) (Zt : Addr → Prop) (H' : Hp) (σ' : St) (env' : Env) : List RV → List V → Prop
  | nil : RRs g s Zt H' σ' env' [] []
  | cons {r : RV} {u : V} {rs : List RV} {us : List V} : RR g s Zt H' σ' env' r u → RRs g s Zt H' σ' env' rs us → (∀ x, r = .own x → ∀ y w, (y, w) ∈ rs.zip us → (∃ z, y = .own z) → w ≠ u) → RRs g s Zt H' σ' env' (r :: rs) (u :: us)
theorem RRs.step {g : Gm} {xc : Xc} {s : At} {pa : List (Option Addr)} {Z1 Z2 : Addr → Prop} {H1 H2 : Hp} {σ0 : St} {e1 e2 : Env} (q1 : RE g xc pa Z1 H1 σ0 e1) (q : PostE g xc pa Z1 H1 σ0 e1 Z2 H2 e2) : ∀ {rs : List RV} {us : List V}, RRs g s Z1 H1 σ0 e1 rs us → RRs g s Z2 H2 σ0 e2 rs us
  | _, _, .nil => .nil
  | _, _, .cons h t n => .cons (h.step q1 q) (RRs.step q1 q t) n

/-- an end: res, reached from s -/
def End {α β : Type} (g : Gm) (xc : Xc) (s : At) (Rel : (Addr → Prop) → Hp → Env → α → β → Prop) (res : Rs α) (W : WX) (Q : β → Hp → Prop) : Prop :=
  match res with
  | .ok a e1 => ∀ b Z1 H1, PostE g xc s.pa s.Zs s.H s.σ s.env Z1 H1 e1 → Rel Z1 H1 e1 a b → Q b H1
  | .ex c fs e1 => ∀ C d fv Z1 H1, PostE g xc s.pa s.Zs s.H s.σ s.env Z1 H1 e1 → g.mg c = some (.ref C) → H1 d = some (.xd fv) → RvF g Z1 H1 fs fv → W (.ref C) (some d) s.σ H1
  | .no => False
abbrev relE (g : Gm) (s : At) : (Addr → Prop) → Hp → Env → RV → V → Prop := fun Z1 H1 e1 r u => RR g s Z1 H1 s.σ e1 r u
abbrev relA (g : Gm) (s : At) : (Addr → Prop) → Hp → Env → List RV → List V → Prop := fun Z1 H1 e1 r u => RRs g s Z1 H1 s.σ e1 r u
abbrev relT : (Addr → Prop) → Hp → Env → Bool → Bool → Prop := fun _ _ _ k b => k = b
def rd (g : Gm) (xc : Xc) (W : WX) (f : E) : TE := fun σ H Q => ∃ pa Zs env, RE g xc pa Zs H σ env ∧ End g xc ⟨pa, Zs, H, σ, env⟩ (relE g ⟨pa, Zs, H, σ, env⟩) (f env) W Q
def rdT (g : Gm) (xc : Xc) (W : WX) (f : T) : TT := fun σ H Q => ∃ pa Zs env, RE g xc pa Zs H σ env ∧ End g xc ⟨pa, Zs, H, σ, env⟩ relT (f env) W Q
def rdA (g : Gm) (xc : Xc) (W : WX) (f : As) : TA := fun σ H Q => ∃ pa Zs env, RE g xc pa Zs H σ env ∧ End g xc ⟨pa, Zs, H, σ, env⟩ (relA g ⟨pa, Zs, H, σ, env⟩) (f env) W Q
section
variable {α β γ δ : Type} {g : Gm} {xc : Xc} {s : At} {W : WX}
/-- the first part of what goes on -/
theorem End.cont {R1 : (Addr → Prop) → Hp → Env → α → β → Prop} {R2 : (Addr → Prop) → Hp → Env → γ → δ → Prop} {x : Rs α} {f : α → Env → Rs γ} {Q : δ → Hp → Prop} {R : β → Hp → Prop} (h : End g xc s R2 (x.bind f) W Q)
    (k : ∀ a e1 b Z1 H1, x = .ok a e1 → PostE g xc s.pa s.Zs s.H s.σ s.env Z1 H1 e1 → R1 Z1 H1 e1 a b → End g xc s R2 (f a e1) W Q → R b H1) : End g xc s R1 x W R := by
  cases x with
  | ok a e1 => exact fun b Z1 H1 p r => k a e1 b Z1 H1 rfl p r h
  | ex c fs e1 => exact h
  | no => exact h
/-- seen from where one stands now -/
theorem End.shift {R1 R2 : (Addr → Prop) → Hp → Env → α → β → Prop} {x : Rs α} {Q : β → Hp → Prop} {Z1 : Addr → Prop} {H1 : Hp} {e1 : Env} (h : End g xc s R1 x W Q) (p : PostE g xc s.pa s.Zs s.H s.σ s.env Z1 H1 e1)
    (k : ∀ a b Z2 H2 e2, PostE g xc s.pa Z1 H1 s.σ e1 Z2 H2 e2 → R2 Z2 H2 e2 a b → R1 Z2 H2 e2 a b) : End g xc ⟨s.pa, Z1, H1, s.σ, e1⟩ R2 x W Q := by
  cases x with
  | ok a e2 => exact fun b Z2 H2 q r => h b Z2 H2 (p.trans q) (k a b Z2 H2 e2 q r)
  | ex c fs e2 => exact fun C d fv Z2 H2 q => h C d fv Z2 H2 (p.trans q)
  | no => exact h
theorem RR.back {Z1 Z2 : Addr → Prop} {H1 H2 : Hp} {e1 e2 : Env} (p : PostE g xc s.pa s.Zs s.H s.σ s.env Z1 H1 e1) {r : RV} {u : V} (h : RR g ⟨s.pa, Z1, H1, s.σ, e1⟩ Z2 H2 s.σ e2 r u) : RR g s Z2 H2 s.σ e2 r u := by
  cases r with
  | v x => exact h
  | own x =>
    obtain ⟨a, e, nz, hl, no, fr⟩ := h
    refine ⟨a, e, nz, hl, no, ?_⟩
    rcases fr with fr | fr
    · exact p.ow a fr
    · exact p.ext.free fr
  | bor i => exact h
theorem RRs.back {Z1 Z2 : Addr → Prop} {H1 H2 : Hp} {e1 e2 : Env} (p : PostE g xc s.pa s.Zs s.H s.σ s.env Z1 H1 e1) : ∀ {r : List RV} {u : List V}, RRs g ⟨s.pa, Z1, H1, s.σ, e1⟩ Z2 H2 s.σ e2 r u → RRs g s Z2 H2 s.σ e2 r u
  | _, _, .nil => .nil
  | _, _, .cons h t n => .cons (h.back p) (RRs.back p t) n
theorem End.shiftE {x : Rs RV} {Q : VK} {Z1 : Addr → Prop} {H1 : Hp} {e1 : Env} (h : End g xc s (relE g s) x W Q) (p : PostE g xc s.pa s.Zs s.H s.σ s.env Z1 H1 e1) :
    End g xc ⟨s.pa, Z1, H1, s.σ, e1⟩ (relE g ⟨s.pa, Z1, H1, s.σ, e1⟩) x W Q := h.shift p fun _ _ _ _ _ _ r => r.back p
theorem End.shiftA {x : Rs (List RV)} {Q : List V → Hp → Prop} {Z1 : Addr → Prop} {H1 : Hp} {e1 : Env} (h : End g xc s (relA g s) x W Q) (p : PostE g xc s.pa s.Zs s.H s.σ s.env Z1 H1 e1) :
    End g xc ⟨s.pa, Z1, H1, s.σ, e1⟩ (relA g ⟨s.pa, Z1, H1, s.σ, e1⟩) x W Q := h.shift p fun _ _ _ _ _ _ r => r.back p
theorem End.shiftT {x : Rs Bool} {Q : Bool → Hp → Prop} {Z1 : Addr → Prop} {H1 : Hp} {e1 : Env} (h : End g xc s relT x W Q) (p : PostE g xc s.pa s.Zs s.H s.σ s.env Z1 H1 e1) :
    End g xc ⟨s.pa, Z1, H1, s.σ, e1⟩ relT x W Q := h.shift p fun _ _ _ _ _ _ r => r
end

/-! ### reading -/
/-- by content, to be read at once -/
def RdV (g : Gm) (Zs : Addr → Prop) (H : Hp) (x : Val) (u : V) : Prop := RvV g Zs H x u ∨ ∃ a, u = .ref a ∧ Hld g Zs H x a
theorem peek_rd {g : Gm} {xc : Xc} {s : At} {pa : List (Option Addr)} {Z1 : Addr → Prop} {H1 : Hp} {σ : St} {e1 : Env} {r : RV} {u : V} {x : Val} (re : RE g xc pa Z1 H1 σ e1) (h : RR g s Z1 H1 σ e1 r u) (hp : peek e1 r = some x) : RdV g Z1 H1 x u := by
  cases r with
  | v y => cases hp; exact .inl h
  | own y =>
    cases hp
    obtain ⟨a, e, nz, hl, _⟩ := h
    exact .inr ⟨a, e, hl⟩
  | bor i =>
    obtain ⟨a, e, h1, h2⟩ := h
    have q := re.sl i
    rw [h1] at q
    rw [peek_bor] at hp
    cases hs : eget e1 i with
    | emp => rw [hs] at hp; cases hp
    | exn c fs => rw [hs] at hp; cases hp
    | v y =>
      rw [hs] at hp q; cases hp
      obtain ⟨w, hw, rv⟩ := q
      cases hw
      exact .inl (by rw [e]; exact rv)
    | own p y =>
      rw [hs] at hp q; cases hp
      obtain ⟨w, hw, nz, hl⟩ := q
      cases hw
      exact .inr ⟨a, e, hl⟩
    | pf y =>
      rw [hs] at hp q; cases hp
      obtain ⟨w, hw, _, rv⟩ := q
      cases hw
      exact .inl (by rw [e]; exact rv)
inductive RdL (g : Gm) (Zs : Addr → Prop) (H : Hp) : List Val → List V → Prop
  | nil : RdL g Zs H [] []
  | cons {x : Val} {u : V} {xs : List Val} {us : List V} : RdV g Zs H x u → RdL g Zs H xs us → RdL g Zs H (x :: xs) (u :: us)
theorem peeks_rd {g : Gm} {xc : Xc} {s : At} {pa : List (Option Addr)} {Z1 : Addr → Prop} {H1 : Hp} {σ : St} {e1 : Env} (re : RE g xc pa Z1 H1 σ e1) : ∀ {rs : List RV} {us : List V} {xs : List Val}, RRs g s Z1 H1 σ e1 rs us → peeks e1 rs = some xs → RdL g Z1 H1 xs us
  | [], _, _, .nil, h => by cases h; exact .nil
  | r :: rs, _, xs, .cons h t _, hp => by
    rw [peeks_cons] at hp
    cases h1 : peek e1 r with
    | none => rw [h1] at hp; cases hp
    | some x =>
      cases h2 : peeks e1 rs with
      | none => rw [h1, h2] at hp; cases hp
      | some ys =>
        rw [h1, h2] at hp; cases hp
        exact .cons (peek_rd re h h1) (peeks_rd re t h2)
/-- an operator's answer: a value, a new object -/
def Ans (g : Gm) (Zs : Addr → Prop) (H : Hp) (r : RV) (Q : VK) : Prop :=
  match r with
  | .v x => ∀ u Z1 H1, Ext (fun _ => False) Zs H Z1 H1 → RvV g Z1 H1 x u → Q u H1
  | .own x => ∀ a Z1 H1, Ext (fun _ => False) Zs H Z1 H1 → H a = none → ¬ Z1 a → Hld g Z1 H1 x a → Q (.ref a) H1
  | .bor _ => False
theorem RE.grow {g : Gm} {xc : Xc} {pa : List (Option Addr)} {Z0 Z1 : Addr → Prop} {H0 H1 : Hp} {σ : St} {env : Env} (re : RE g xc pa Z0 H0 σ env) (e : Ext (fun _ => False) Z0 H0 Z1 H1) : RE g xc pa Z1 H1 σ env := by
  have d : OwOk (fun _ => False) Z0 H0 := fun _ z => z.elim
  refine ⟨re.len, fun i => ?_, re.inj, re.pin, e.zd⟩
  have q := re.sl i
  cases hs : eget env i with
  | emp => trivial
  | v x =>
    rw [hs] at q
    obtain ⟨u, h, r⟩ := q
    exact ⟨u, h, r.ext e d⟩
  | own p x =>
    rw [hs] at q
    obtain ⟨a, h, nz, r⟩ := q
    refine ⟨a, h, fun z => ?_, r.ext e d (fun z => z)⟩
    obtain ⟨o, ho, _⟩ := r.wr
    rcases e.zn a z with z | z | z
    · exact nz z
    · exact z
    · rw [ho] at z; cases z
  | pf x =>
    rw [hs] at q
    obtain ⟨a, h, z, r⟩ := q
    exact ⟨a, h, e.zz a z, r.ext e d⟩
  | exn c fs =>
    rw [hs] at q
    obtain ⟨a, dd, C, fv, h1, h2, h3, h4, r⟩ := q
    exact ⟨a, dd, C, fv, h1, h2, h3, e.hh _ _ h4 (fun z => z), r.ext e d⟩
theorem Ext.any {Ow Z0 Z1 : Addr → Prop} {H0 H1 : Hp} (e : Ext (fun _ => False) Z0 H0 Z1 H1) : Ext Ow Z0 H0 Z1 H1 := ⟨e.zz, fun a h => (e.zn a h).elim .inl fun z => z.elim (fun z => z.elim) fun z => .inr (.inr z), fun a o h _ => e.hh a o h (fun z => z), e.zd⟩
theorem RE.growP {g : Gm} {xc : Xc} {pa : List (Option Addr)} {Z0 Z1 : Addr → Prop} {H0 H1 : Hp} {σ : St} {env : Env} (re : RE g xc pa Z0 H0 σ env) (e : Ext (fun _ => False) Z0 H0 Z1 H1) : PostE g xc pa Z0 H0 σ env Z1 H1 env :=
  ⟨⟨e.any, re.grow e, fun _ h => .inl h⟩, fun _ h => h⟩
/-- from an operator's answer to an expression's end -/
theorem Ans.of {g : Gm} {xc : Xc} {s : At} {W : WX} {Q : VK} {Z1 : Addr → Prop} {H1 : Hp} {e1 : Env} {r : RV} (h : End g xc s (relE g s) (.ok r e1) W Q) (p : PostE g xc s.pa s.Zs s.H s.σ s.env Z1 H1 e1) (hr : ∀ i, r ≠ .bor i) : Ans g Z1 H1 r Q := by
  cases r with
  | bor i => exact absurd rfl (hr i)
  | v x => exact fun u Z2 H2 e rv => h u Z2 H2 (p.trans (p.re.growP e)) rv
  | own x =>
    refine fun a Z2 H2 e fr nz hl => h (.ref a) Z2 H2 (p.trans (p.re.growP e)) ⟨a, rfl, nz, hl, fun w => ?_, p.ext.free fr⟩
    obtain ⟨_, o, ho, _⟩ := p.re.owOk a w
    rw [fr] at ho; cases ho
/-- what a rule of the layer hands on: a value that needs no heap -/
theorem Ans.val {g : Gm} {Zs : Addr → Prop} {H : Hp} {x : Val} {u : V} {Q : VK} (h : Ans g Zs H (.v x) Q) (z : Zd Zs H) (r : RvV g Zs H x u) : Q u H := h u Zs H (Ext.refl z) r
theorem Ext.new {Zs : Addr → Prop} {H : Hp} {p : Addr} {o : HO} (z : Zd Zs H) (hp : H p = none) : Ext (fun _ => False) Zs H Zs (upd H p o) := by
  refine ⟨fun _ h => h, fun _ h => .inl h, fun a u h _ => by rw [upd_ne (ne_of_none h hp)]; exact h, fun a h => ?_⟩
  obtain ⟨u, hu⟩ := z a h
  exact ⟨u, by rw [upd_ne (ne_of_none hu hp)]; exact hu⟩
theorem Ext.newZ {Zs : Addr → Prop} {H : Hp} {p : Addr} {o : HO} (z : Zd Zs H) (hp : H p = none) : Ext (fun _ => False) Zs H (fun a => Zs a ∨ a = p) (upd H p o) := by
  refine ⟨fun _ h => .inl h, fun a h => h.elim .inl fun z => .inr (.inr (by rw [z]; exact hp)), fun a u h _ => by rw [upd_ne (ne_of_none h hp)]; exact h, fun a h => ?_⟩
  rcases h with h | h
  · obtain ⟨u, hu⟩ := z a h
    exact ⟨u, by rw [upd_ne (ne_of_none hu hp)]; exact hu⟩
  · exact ⟨o, by rw [h, upd_same]⟩
theorem Zd.no {Zs : Addr → Prop} {H : Hp} {p : Addr} (z : Zd Zs H) (hp : H p = none) : ¬ Zs p := fun h => by
  obtain ⟨u, hu⟩ := z p h
  rw [hp] at hu; cases hu
theorem Ans.lst {g : Gm} {Zs : Addr → Prop} {H : Hp} {xs : List Val} {us : List V} {Q : VK} {p : Addr} (h : Ans g Zs H (.own (.lst xs)) Q) (z : Zd Zs H) (r : RvL g Zs H xs us) (hp : H p = none) : Q (.ref p) (upd H p (.lst us)) :=
  h p Zs _ (Ext.new z hp) hp (Zd.no z hp) ⟨us, upd_same, r.ext (Ext.new z hp) (fun _ z => z.elim)⟩
theorem Ans.tup {g : Gm} {Zs : Addr → Prop} {H : Hp} {xs : List Val} {us : List V} {Q : VK} {p : Addr} (h : Ans g Zs H (.v (.tup xs)) Q) (z : Zd Zs H) (r : RvL g Zs H xs us) (hp : H p = none) : Q (.ref p) (upd H p (.tup us)) :=
  h _ Zs _ (Ext.new z hp) (.tup (SqT.of upd_same) (r.ext (Ext.new z hp) (fun _ z => z.elim)))
end Z
/-! Z2: expressions: for each construct the functional reading is kept by the layer's own rule. -/
namespace Z
open PySem L2 PySem.Spec
abbrev gX (X : Cx) : Gm := ⟨X.K, X.mg⟩
abbrev SE (X : Cx) (xc : Xc) (W : WX) (e : Expr) (f : E) : Prop := PE X e (rd (gX X) xc W f)
abbrev ST (X : Cx) (xc : Xc) (W : WX) (e : Expr) (f : T) : Prop := PT X e (rdT (gX X) xc W f)
abbrev SA (X : Cx) (xc : Xc) (W : WX) (es : List Expr) (f : As) : Prop := PA X es (rdA (gX X) xc W f)
theorem PE_imp {X : Cx} {e : Expr} {t t' : TE} (h : PE X e t) (k : ∀ σ H Q, t' σ H Q → t σ H Q) : PE X e t' := ⟨fun pins s σ H Q I q => h.run pins s σ H Q I (k σ H Q q)⟩
theorem PT_imp {X : Cx} {e : Expr} {t t' : TT} (h : PT X e t) (k : ∀ σ H Q, t' σ H Q → t σ H Q) : PT X e t' := ⟨fun pins s σ H Q I q => h.run pins s σ H Q I (k σ H Q q)⟩
theorem PW_imp {X : Cx} {e : Expr} {t t' : TT} (h : PW X e t) (k : ∀ σ H Q, t' σ H Q → t σ H Q) : PW X e t' := ⟨fun whole pins s σ H Q I q => h.run whole pins s σ H Q I (k σ H Q q)⟩
theorem PA_imp {X : Cx} {e : List Expr} {t t' : TA} (h : PA X e t) (k : ∀ σ H Q, t' σ H Q → t σ H Q) : PA X e t' := ⟨fun pos pins s σ H Q I q => h.run pos pins s σ H Q I (k σ H Q q)⟩
section
variable {X : Cx} {xc : Xc} {W : WX} {pos : Pos}
theorem se_var (i : Nat) {x : Str} (hN : X.N[i]? = some x := by rfl) (hv : Vis X.env.scope x := by first | exact Or.inl rfl | exact Or.inr (Or.inl rfl) | exact Or.inr (Or.inr rfl)) (hd : (x == ("__debug__" : Str)) = false := by decide)
    (hcd : (x == ("__classdict__" : Str)) = false := by decide) : SE X xc W (.Name x pos) (eV i) := by
  refine PE_imp (pe_var hN hv hd hcd) fun σ H Q h => ?_
  obtain ⟨pa, Zs, env, re, h⟩ := h
  have q := re.sl i
  unfold eV at h
  cases hs : eget env i with
  | emp => rw [hs] at h; exact h.elim
  | exn c fs => rw [hs] at h; exact h.elim
  | v x =>
    rw [hs] at h q
    obtain ⟨u, hu, r⟩ := q
    exact ⟨u, hu, h u Zs H (PostE.refl re) r⟩
  | own p x =>
    rw [hs] at h q
    obtain ⟨a, hu, nz, r⟩ := q
    exact ⟨_, hu, h _ Zs H (PostE.refl re) ⟨a, rfl, hu, by rw [hs]; trivial⟩⟩
  | pf x =>
    rw [hs] at h q
    obtain ⟨a, hu, _, r⟩ := q
    exact ⟨_, hu, h _ Zs H (PostE.refl re) ⟨a, rfl, hu, by rw [hs]; trivial⟩⟩
theorem se_c {x : Val} {v : V} {e : Expr} (h : PE X e (tC v)) (r : ∀ g Zs H, RvV g Zs H x v) : SE X xc W e (eC x) :=
  PE_imp h fun σ H Q ⟨pa, Zs, env, re, h⟩ => h v Zs H (PostE.refl re) (r _ _ _)
theorem se_int {i j pos} : SE X xc W (.Constant (.int i) j pos) (eC (.int i)) := se_c pe_int fun _ _ _ => .int i
theorem se_bl {b j pos} : SE X xc W (.Constant (.bool b) j pos) (eC (.bl b)) := se_c pe_bl fun _ _ _ => .bl b
theorem se_non {j pos} : SE X xc W (.Constant .none j pos) (eC .non) := se_c pe_non fun _ _ _ => .non
theorem se_str {x j pos} : SE X xc W (.Constant (.str x) j pos) (eC (.str x)) := se_c pe_str fun _ _ _ => .str x

/-- an operator by values -/
structure OpS (X : Cx) (F : Value → Value → Sem Value) (f : Val → Val → Option RV) : Prop where
  ex : ∃ r, OpR X F r ∧ ∀ (Zs : Addr → Prop) (H : Hp) (x y : Val) (z : RV) (u w : V) (Q : VK), Zd Zs H → f x y = some z → RdV (gX X) Zs H x u → RdV (gX X) Zs H y w → Ans (gX X) Zs H z Q → r u w H Q
  nb : ∀ x y i, f x y ≠ some (.bor i)
theorem op_end {f : Val → Val → Option RV} {r : R2} (hr : ∀ (Zs : Addr → Prop) (H : Hp) (x y : Val) (z : RV) (u w : V) (Q : VK), Zd Zs H → f x y = some z → RdV (gX X) Zs H x u → RdV (gX X) Zs H y w → Ans (gX X) Zs H z Q → r u w H Q) (nb : ∀ x y i, f x y ≠ some (.bor i))
    {a b : E} {σ : St} {H : Hp} {Q : VK} (h : rd (gX X) xc W (eOp f a b) σ H Q) : tOp r (rd (gX X) xc W a) (rd (gX X) xc W b) σ H Q := by
  obtain ⟨pa, Zs, env, re, h⟩ := h
  refine ⟨pa, Zs, env, re, h.cont fun r1 e1 u Z1 H1 _ p1 q1 h => ?_⟩
  refine ⟨pa, Z1, e1, p1.re, (h.shiftE p1).cont fun r2 e2 w Z2 H2 _ p2 q2 h => ?_⟩
  have q1' := q1.step p1.re p2
  cases h1 : peek e2 r1 with
  | none => rw [h1] at h; exact h.elim
  | some x =>
    cases h2 : peek e2 r2 with
    | none => rw [h1, h2] at h; exact h.elim
    | some y =>
      rw [h1, h2] at h
      cases h3 : f x y with
      | none => simp only [opt_some, Rs.bind_ok, h3, opt_none] at h; exact h.elim
      | some z =>
        simp only [opt_some, Rs.bind_ok, h3] at h
        exact hr Z2 H2 x y z u w Q p2.re.zd h3 (peek_rd p2.re q1' h1) (peek_rd p2.re q2 h2) (Ans.of h p2 fun i e => nb x y i (by rw [h3, e]))
theorem se_op {op : Operator} {f : Val → Val → Option RV} {a b : Expr} {fa fb : E} (ho : OpS X (binaryOp op) f) (ha : SE X xc W a fa) (hb : SE X xc W b fb) : SE X xc W (.BinOp a op b pos) (eOp f fa fb) := by
  obtain ⟨r, h1, h2⟩ := ho.ex
  exact PE_imp (pe_op h1 ha hb) fun σ H Q h => op_end h2 ho.nb h
theorem se_cmp {op : CmpOp} {f : Val → Val → Option RV} {a b : Expr} {fa fb : E} (ho : OpS X (compareOp op) f) (ha : SE X xc W a fa) (hb : SE X xc W b fb) (hm : behindInMarks op b = false := by first | exact nomark _ | rfl) : SE X xc W (.Compare a [op] [b] pos) (eOp f fa fb) := by
  obtain ⟨r, h1, h2⟩ := ho.ex
  exact PE_imp (pe_cmpR h1 ha hb hm) fun σ H Q h => op_end h2 ho.nb h
structure UnS (X : Cx) (F : Value → Sem Value) (f : Val → Option RV) : Prop where
  ex : ∃ r, UnR X F r ∧ ∀ (Zs : Addr → Prop) (H : Hp) (x : Val) (z : RV) (u : V) (Q : VK), Zd Zs H → f x = some z → RdV (gX X) Zs H x u → Ans (gX X) Zs H z Q → r u H Q
  nb : ∀ x i, f x ≠ some (.bor i)
theorem un_end {f : Val → Option RV} {r : V → Hp → VK → Prop} (hr : ∀ (Zs : Addr → Prop) (H : Hp) (x : Val) (z : RV) (u : V) (Q : VK), Zd Zs H → f x = some z → RdV (gX X) Zs H x u → Ans (gX X) Zs H z Q → r u H Q) (nb : ∀ x i, f x ≠ some (.bor i))
    {a : E} {σ : St} {H : Hp} {Q : VK} (h : rd (gX X) xc W (eUn f a) σ H Q) : rd (gX X) xc W a σ H fun u H1 => r u H1 Q := by
  obtain ⟨pa, Zs, env, re, h⟩ := h
  refine ⟨pa, Zs, env, re, h.cont fun r1 e1 u Z1 H1 _ p1 q1 h => ?_⟩
  cases h1 : peek e1 r1 with
  | none => rw [h1] at h; exact h.elim
  | some x =>
    rw [h1] at h
    cases h3 : f x with
    | none => simp only [opt_some, Rs.bind_ok, h3, opt_none] at h; exact h.elim
    | some z =>
      simp only [opt_some, Rs.bind_ok, h3] at h
      exact hr Z1 H1 x z u Q p1.re.zd h3 (peek_rd p1.re q1 h1) (Ans.of h p1 fun i e => nb x i (by rw [h3, e]))
theorem se_un {op : UnaryOp} {f : Val → Option RV} {a : Expr} {fa : E} (ho : UnS X (unaryOp op) f) (ha : SE X xc W a fa) : SE X xc W (.UnaryOp op a pos) (eUn f fa) := by
  obtain ⟨r, h1, h2⟩ := ho.ex
  exact PE_imp (pe_un h1 ha) fun σ H Q h => un_end h2 ho.nb h

/-! ### tests -/
theorem RdV.tru {K : PySem.W.Frag} {mg : Str → Option Value} {Zs : Addr → Prop} {H : Hp} {x : Val} {u : V} {k : Bool} (h : RdV ⟨K, mg⟩ Zs H x u) (ht : truth x = some k) : TruV K u H k := by
  have len : ∀ {xs : List Val} {us : List V}, RvL ⟨K, mg⟩ Zs H xs us → us.isEmpty = xs.isEmpty := fun r => by cases r <;> rfl
  rcases h with h | ⟨a, rfl, h⟩
  · cases h with
    | non => cases ht; exact rfl
    | bl b => cases ht; exact rfl
    | int i => cases ht; exact rfl
    | str s =>
      have ht : (if s.length ≤ sizeMax then some ((s.length : Int) != 0) else none) = some k := ht
      by_cases c : s.length ≤ sizeMax
      · rw [if_pos c] at ht; cases ht
        exact ⟨by rw [sizeLine_eq]; exact c, rfl⟩
      · rw [if_neg c] at ht; cases ht
    | tup h r => cases ht; exact .inr (.inl ⟨_, h, by rw [len r]⟩)
    | lst h r => cases ht; exact .inl ⟨_, h.sq, by rw [len r]⟩
    | dic _ _ _ => cases ht
    | obj _ _ _ _ => cases ht
    | scr _ => cases ht
  · cases x with
    | lst xs =>
      obtain ⟨us, h, r⟩ := h
      cases ht
      exact .inl ⟨_, SqL.of h, by rw [len r]⟩
    | dic kvs => cases ht
    | obj c fs => cases ht
    | _ => exact h.elim
theorem st_e {a : Expr} {fa : E} (ha : SE X xc W a fa) (he : ∀ whole, isTrue a X.env whole = (do let v ← whole; standAt a.pos; holding [v] (truthy v)) := by intro _; rfl) : ST X xc W a (tE fa) := by
  refine PT_imp (pt_truth ha he) fun σ H Q h => ?_
  obtain ⟨pa, Zs, env, re, h⟩ := h
  refine ⟨pa, Zs, env, re, h.cont fun r1 e1 u Z1 H1 _ p1 q1 h => ?_⟩
  cases h1 : peek e1 r1 with
  | none => rw [h1] at h; exact h.elim
  | some x =>
    rw [h1] at h
    cases h3 : truth x with
    | none => simp only [opt_some, Rs.bind_ok, h3, opt_none] at h; exact h.elim
    | some k =>
      simp only [opt_some, Rs.bind_ok, h3] at h
      exact ⟨k, RdV.tru (peek_rd p1.re q1 h1) h3, h k Z1 H1 p1 rfl⟩
/-- a comparison as a test -/
theorem st_cmp {op : CmpOp} {f : Val → Val → Option RV} {a b : Expr} {fa fb : E} (ho : OpS X (compareOp op) f) (ha : SE X xc W a fa) (hb : SE X xc W b fb) (hm : behindInMarks op b = false := by first | exact nomark _ | rfl)
    (hbl : ∀ x y z, f x y = some z → ∃ k, z = .v (.bl k) := by assumption) : ST X xc W (.Compare a [op] [b] pos) (tE (eOp f fa fb)) := by
  obtain ⟨r, h1, h2⟩ := ho.ex
  refine PT_imp (pt_cmpR h1 ha hb hm) fun σ H Q h => ?_
  refine op_end h2 ho.nb ?_
  obtain ⟨pa, Zs, env, re, h⟩ := h
  refine ⟨pa, Zs, env, re, ?_⟩
  have h' := h
  unfold tE at h
  cases hz : eOp f fa fb env with
  | no => rw [hz] at h; exact h.elim
  | ex c fs e1 => rw [hz] at h; exact h
  | ok z e1 =>
    rw [hz] at h
    obtain ⟨k, rfl⟩ : ∃ k, z = .v (.bl k) := by
      unfold eOp at hz
      cases h1 : fa env with
      | no => rw [h1] at hz; cases hz
      | ex c fs e1 => rw [h1] at hz; cases hz
      | ok r1 e1 =>
        rw [h1, Rs.bind_ok] at hz
        cases h2 : fb e1 with
        | no => rw [h2] at hz; cases hz
        | ex c fs e1 => rw [h2] at hz; cases hz
        | ok r2 e2 =>
          rw [h2, Rs.bind_ok] at hz
          cases h3 : peek e2 r1 with
          | none => rw [h3] at hz; cases hz
          | some x =>
            cases h4 : peek e2 r2 with
            | none => rw [h3, h4] at hz; cases hz
            | some y =>
              rw [h3, h4] at hz
              simp only [opt_some, Rs.bind_ok] at hz
              cases h5 : f x y with
              | none => rw [h5] at hz; cases hz
              | some z' =>
                rw [h5] at hz
                cases hz
                exact hbl x y _ h5
    intro u Z1 H1 p1 q1
    cases q1 with
    | bl b => exact ⟨k, rfl, h k Z1 H1 p1 rfl⟩
theorem st_not {a : Expr} {fa : T} (ha : ST X xc W a fa) : ST X xc W (.UnaryOp .Not a pos) (tNot fa) := by
  refine PT_imp (pt_not ha) fun σ H Q h => ?_
  obtain ⟨pa, Zs, env, re, h⟩ := h
  exact ⟨pa, Zs, env, re, h.cont fun k e1 u Z1 H1 _ p1 q1 h => by cases q1; exact h _ Z1 H1 p1 rfl⟩
abbrev SW (X : Cx) (xc : Xc) (W : WX) (e : Expr) (f : T) : Prop := PW X e (rdT (gX X) xc W f)
theorem SW.st {e : Expr} {f : T} (h : SW X xc W e f) : ST X xc W e f := PW.pt h
theorem sw_and1 {a : Expr} {fa : T} (ha : ST X xc W a fa) : SW X xc W (.BoolOp .And [a] pos) fa := pw_and1 ha
theorem sw_or1 {a : Expr} {fa : T} (ha : ST X xc W a fa) : SW X xc W (.BoolOp .Or [a] pos) fa := pw_or1 ha
theorem sw_and {a b : Expr} {rest : List Expr} {fa fb : T} (ha : ST X xc W a fa) (hb : SW X xc W (.BoolOp .And (b :: rest) pos) fb) : SW X xc W (.BoolOp .And (a :: b :: rest) pos) (tAnd fa fb) := by
  refine PW_imp (pw_and ha hb) fun σ H Q h => ?_
  obtain ⟨pa, Zs, env, re, h⟩ := h
  refine ⟨pa, Zs, env, re, h.cont fun k e1 u Z1 H1 _ p1 q1 h => ?_⟩
  cases q1
  cases k with
  | true => exact ⟨pa, Z1, e1, p1.re, h.shiftT p1⟩
  | false => exact h false Z1 H1 p1 rfl
theorem sw_or {a b : Expr} {rest : List Expr} {fa fb : T} (ha : ST X xc W a fa) (hb : SW X xc W (.BoolOp .Or (b :: rest) pos) fb) : SW X xc W (.BoolOp .Or (a :: b :: rest) pos) (tOr fa fb) := by
  refine PW_imp (pw_or ha hb) fun σ H Q h => ?_
  obtain ⟨pa, Zs, env, re, h⟩ := h
  refine ⟨pa, Zs, env, re, h.cont fun k e1 u Z1 H1 _ p1 q1 h => ?_⟩
  cases q1
  cases k with
  | true => exact h true Z1 H1 p1 rfl
  | false => exact ⟨pa, Z1, e1, p1.re, h.shiftT p1⟩

/-! ### and, or, not, if as values -/
theorem se_one {op} {a : Expr} {fa : E} (ha : SE X xc W a fa) : SE X xc W (.BoolOp op [a] pos) fa := pe_one ha
theorem se_and {a b : Expr} {rest : List Expr} {fa fb : E} (ha : SE X xc W a fa) (hb : SE X xc W (.BoolOp .And (b :: rest) pos) fb) : SE X xc W (.BoolOp .And (a :: b :: rest) pos) (eAnd fa fb) := by
  refine PE_imp (pe_and ha hb) fun σ H Q h => ?_
  obtain ⟨pa, Zs, env, re, h⟩ := h
  refine ⟨pa, Zs, env, re, h.cont fun r e1 u Z1 H1 _ p1 q1 h => ?_⟩
  cases r with
  | v x =>
    cases q1 with
    | bl k =>
      refine ⟨k, rfl, ?_⟩
      cases k with
      | true => exact ⟨pa, Z1, e1, p1.re, h.shiftE p1⟩
      | false => exact h _ Z1 H1 p1 (.bl false)
    | _ => exact h.elim
  | own x => exact h.elim
  | bor i => exact h.elim
theorem se_or {a b : Expr} {rest : List Expr} {fa fb : E} (ha : SE X xc W a fa) (hb : SE X xc W (.BoolOp .Or (b :: rest) pos) fb) : SE X xc W (.BoolOp .Or (a :: b :: rest) pos) (eOr fa fb) := by
  refine PE_imp (pe_or ha hb) fun σ H Q h => ?_
  obtain ⟨pa, Zs, env, re, h⟩ := h
  refine ⟨pa, Zs, env, re, h.cont fun r e1 u Z1 H1 _ p1 q1 h => ?_⟩
  cases r with
  | v x =>
    cases q1 with
    | bl k =>
      refine ⟨k, rfl, ?_⟩
      cases k with
      | true => exact h _ Z1 H1 p1 (.bl true)
      | false => exact ⟨pa, Z1, e1, p1.re, h.shiftE p1⟩
    | _ => exact h.elim
  | own x => exact h.elim
  | bor i => exact h.elim
theorem se_not {a : Expr} {fa : E} (ha : SE X xc W a fa) : SE X xc W (.UnaryOp .Not a pos) (eNot fa) := by
  refine PE_imp (pe_not ha) fun σ H Q h => ?_
  obtain ⟨pa, Zs, env, re, h⟩ := h
  refine ⟨pa, Zs, env, re, h.cont fun r e1 u Z1 H1 _ p1 q1 h => ?_⟩
  cases r with
  | v x =>
    cases q1 with
    | bl k => exact ⟨k, rfl, h _ Z1 H1 p1 (.bl _)⟩
    | _ => exact h.elim
  | own x => exact h.elim
  | bor i => exact h.elim
theorem se_if {c a b : Expr} {fc : T} {fa fb : E} (hc : ST X xc W c fc) (ha : SE X xc W a fa) (hb : SE X xc W b fb) : SE X xc W (.IfExp c a b pos) (eIf fc fa fb) := by
  refine PE_imp (pe_ifExp hc ha hb) fun σ H Q h => ?_
  obtain ⟨pa, Zs, env, re, h⟩ := h
  refine ⟨pa, Zs, env, re, h.cont fun k e1 u Z1 H1 _ p1 q1 h => ?_⟩
  cases q1
  cases k with
  | true => exact ⟨pa, Z1, e1, p1.re, h.shiftE p1⟩
  | false => exact ⟨pa, Z1, e1, p1.re, h.shiftE p1⟩

/-! ### a < b < c -/
theorem se_chain {op op' : CmpOp} {f f' : Val → Val → Option RV} {a b c : Expr} {fa fb fc : E} (ho : OpS X (compareOp op) f) (ho' : OpS X (compareOp op') f') (hbl : ∀ x y z, f x y = some z → ∃ k, z = .v (.bl k))
    (hp : ∀ (r r' : R2), OpR X (compareOp op) r → OpR X (compareOp op') r' → PE X (.Compare a [op, op'] [b, c] pos) (tChain r r' (rd (gX X) xc W fa) (rd (gX X) xc W fb) (rd (gX X) xc W fc))) : SE X xc W (.Compare a [op, op'] [b, c] pos) (eChain f f' fa fb fc) := by
  obtain ⟨r, h1, h2⟩ := ho.ex
  obtain ⟨r', h1', h2'⟩ := ho'.ex
  refine PE_imp (hp r r' h1 h1') fun σ H Q h => ?_
  obtain ⟨pa, Zs, env, re, h⟩ := h
  refine ⟨pa, Zs, env, re, h.cont fun r1 e1 u Z1 H1 _ p1 q1 h => ?_⟩
  refine ⟨pa, Z1, e1, p1.re, (h.shiftE p1).cont fun r2 e2 w Z2 H2 _ p2 q2 h => ?_⟩
  have q1' := q1.step p1.re p2
  cases hx : peek e2 r1 with
  | none => rw [hx] at h; exact h.elim
  | some x =>
    cases hy : peek e2 r2 with
    | none => rw [hx, hy] at h; exact h.elim
    | some y =>
      rw [hx, hy] at h
      cases h3 : f x y with
      | none => simp only [opt_some, Rs.bind_ok, h3, opt_none, Rs.bind_no] at h; exact h.elim
      | some z =>
        simp only [opt_some, Rs.bind_ok, h3] at h
        obtain ⟨k, rfl⟩ := hbl x y z h3
        refine h2 Z2 H2 x y _ u w _ p2.re.zd h3 (peek_rd p2.re q1' hx) (peek_rd p2.re q2 hy) ?_
        intro v Z3 H3 ex rv
        cases rv with
        | bl b =>
          refine ⟨k, rfl, ?_⟩
          have p3 := p2.re.growP ex
          have q2' := q2.step p2.re p3
          cases k with
          | false =>
            rw [if_neg Bool.false_ne_true]
            exact h _ Z3 H3 (p2.trans p3) (.bl false)
          | true =>
            rw [if_pos rfl]
            refine ⟨pa, Z3, e2, p3.re, (h.shiftE (p2.trans p3)).cont fun r4 e4 t Z4 H4 _ p4 q4 h => ?_⟩
            have q2'' := q2'.step p3.re p4
            cases hy : peek e4 r2 with
            | none => rw [hy] at h; exact h.elim
            | some y =>
              cases hw : peek e4 r4 with
              | none => rw [hy, hw] at h; exact h.elim
              | some c' =>
                rw [hy, hw] at h
                cases h5 : f' y c' with
                | none => simp only [opt_some, Rs.bind_ok, h5, opt_none] at h; exact h.elim
                | some z' =>
                  simp only [opt_some, Rs.bind_ok, h5] at h
                  exact h2' Z4 H4 y c' z' _ _ _ p4.re.zd h5 (peek_rd p4.re q2'' hy) (peek_rd p4.re q4 hw) (Ans.of h p4 fun i e => ho'.nb y c' i (by rw [h5, e]))
end
end Z
/-! Z3: operators by content. -/
namespace Z
open PySem L2 PySem.Spec

/-! ### what a value stands for -/
section
variable {g : Gm} {Zs : Addr → Prop} {H : Hp} {u : V}
theorem RdV.non (h : RdV g Zs H .non u) : u = .non := by
  rcases h with h | ⟨a, _, h⟩
  · cases h; rfl
  · exact h.elim
theorem RdV.bl {b : Bool} (h : RdV g Zs H (.bl b) u) : u = .bl b := by
  rcases h with h | ⟨a, _, h⟩
  · cases h; rfl
  · exact h.elim
theorem RdV.int {i : Int} (h : RdV g Zs H (.int i) u) : u = .int i := by
  rcases h with h | ⟨a, _, h⟩
  · cases h; rfl
  · exact h.elim
theorem RdV.str {s : Str} (h : RdV g Zs H (.str s) u) : u = .str s := by
  rcases h with h | ⟨a, _, h⟩
  · cases h; rfl
  · exact h.elim
theorem RdV.tup {xs : List Val} (h : RdV g Zs H (.tup xs) u) : ∃ a us, u = .ref a ∧ SqT g.K H a us ∧ RvL g Zs H xs us := by
  rcases h with h | ⟨a, _, h⟩
  · cases h with
    | tup h r => exact ⟨_, _, rfl, h, r⟩
  · exact h.elim
theorem RdV.lst {xs : List Val} (h : RdV g Zs H (.lst xs) u) : ∃ a us, u = .ref a ∧ Rd H a (.lst us) ∧ RvL g Zs H xs us := by
  rcases h with h | ⟨a, e, us, h, r⟩
  · cases h with
    | lst h r => exact ⟨_, _, rfl, .inl h.2, r⟩
  · exact ⟨a, us, e, .inl h, r⟩
theorem RdV.dic {kvs : List (Val × Val)} (h : RdV g Zs H (.dic kvs) u) : ∃ a ks, u = .ref a ∧ Rd H a (.dK ks) ∧ RvD g Zs H kvs ks := by
  rcases h with h | ⟨a, e, us, h, r⟩
  · cases h with
    | dic _ h r => exact ⟨_, _, rfl, h, r⟩
  · exact ⟨a, us, e, .inl h, r⟩
theorem RdV.obj {c : Str} {fs : List (Str × Val)} (h : RdV g Zs H (.obj c fs) u) : ∃ a C dx fv, u = .ref a ∧ H a = some (.ins C dx fv) ∧ g.mg c = some (.ref C) ∧ RvF g Zs H fs fv := by
  rcases h with h | ⟨a, e, C, dx, fv, h, m, r⟩
  · cases h with
    | obj _ h m r => exact ⟨_, _, _, _, rfl, h, m, r⟩
  · exact ⟨a, C, dx, fv, e, h, m, r⟩
theorem RvL.ofInts : ∀ ns : List Int, RvL g Zs H (ns.map Val.int) (ns.map V.int)
  | [] => .nil
  | i :: ns => .cons (.int i) (RvL.ofInts ns)
theorem RdV.scr {ns : List Int} (h : RdV g Zs H (.scr ns) u) : ∃ a, u = .ref a ∧ SqL g.K H a (ns.map V.int) ∧ RvL g Zs H (ns.map Val.int) (ns.map V.int) := by
  rcases h with h | ⟨a, _, h⟩
  · cases h with
    | scr h => exact ⟨_, rfl, h.sq, RvL.ofInts ns⟩
  · exact h.elim
theorem RvL.length : ∀ {xs : List Val} {us : List V}, RvL g Zs H xs us → xs.length = us.length
  | _, _, .nil => rfl
  | _, _, .cons _ r => by rw [List.length_cons, List.length_cons, RvL.length r]
theorem RvL.append : ∀ {xs ys : List Val} {us ws : List V}, RvL g Zs H xs us → RvL g Zs H ys ws → RvL g Zs H (xs ++ ys) (us ++ ws)
  | _, _, _, _, .nil, q => q
  | _, _, _, _, .cons h r, q => .cons h (RvL.append r q)
theorem RvL.flat {xs : List Val} {us : List V} (r : RvL g Zs H xs us) : ∀ n : Nat, RvL g Zs H (List.replicate n xs).flatten (List.replicate n us).flatten
  | 0 => .nil
  | n + 1 => by
    rw [List.replicate_succ, List.replicate_succ, List.flatten_cons, List.flatten_cons]
    exact r.append (RvL.flat r n)
theorem RvL.get : ∀ {xs : List Val} {us : List V} {i : Nat} {x : Val}, RvL g Zs H xs us → xs[i]? = some x → ∃ w, us[i]? = some w ∧ RvV g Zs H x w
  | _, _, 0, _, .cons h _, e => by simp at e; subst e; exact ⟨_, rfl, h⟩
  | _, _, i + 1, x, .cons _ r, e => by
    obtain ⟨w, h1, h2⟩ := RvL.get (i := i) (x := x) r (by simpa using e)
    exact ⟨w, by simpa using h1, h2⟩
theorem RvL.take : ∀ {xs : List Val} {us : List V} (n : Nat), RvL g Zs H xs us → RvL g Zs H (xs.take n) (us.take n)
  | _, _, 0, _ => .nil
  | _, _, _ + 1, .nil => .nil
  | _, _, n + 1, .cons h r => .cons h (RvL.take n r)
theorem RvL.drop : ∀ {xs : List Val} {us : List V} (n : Nat), RvL g Zs H xs us → RvL g Zs H (xs.drop n) (us.drop n)
  | _, _, 0, r => r
  | _, _, _ + 1, .nil => .nil
  | _, _, n + 1, .cons _ r => RvL.drop n r
theorem RvL.set : ∀ {xs : List Val} {us : List V} (n : Nat) {x : Val} {w : V}, RvL g Zs H xs us → RvV g Zs H x w → RvL g Zs H (xs.set n x) (us.set n w)
  | _, _, _, _, _, .nil, _ => .nil
  | _, _, 0, _, _, .cons _ r, h => .cons h r
  | _, _, n + 1, _, _, .cons q r, h => .cons q (RvL.set n r h)
theorem RvL.one : ∀ {xs : List Val} {us : List V} {i : Nat} {w : V}, RvL g Zs H xs us → us[i]? = some w → ∃ x, xs[i]? = some x ∧ RvV g Zs H x w
  | _, _, 0, _, .cons h _, e => by simp at e; subst e; exact ⟨_, rfl, h⟩
  | _, _, i + 1, w, .cons _ r, e => by
    obtain ⟨x, h1, h2⟩ := RvL.one (i := i) (w := w) r (by simpa using e)
    exact ⟨x, by simpa using h1, h2⟩
theorem RvL.eraseIdx : ∀ {xs : List Val} {us : List V} (n : Nat), RvL g Zs H xs us → RvL g Zs H (xs.eraseIdx n) (us.eraseIdx n)
  | _, _, _, .nil => .nil
  | _, _, 0, .cons _ r => r
  | _, _, n + 1, .cons h r => .cons h (RvL.eraseIdx n r)
theorem RvL.dropLast {xs : List Val} {us : List V} (r : RvL g Zs H xs us) : RvL g Zs H xs.dropLast us.dropLast := by
  rw [List.dropLast_eq_take, List.dropLast_eq_take, r.length]
  exact r.take _
theorem RvL.reverse : ∀ {xs : List Val} {us : List V}, RvL g Zs H xs us → RvL g Zs H xs.reverse us.reverse
  | _, _, .nil => .nil
  | _, _, .cons h r => by rw [List.reverse_cons, List.reverse_cons]; exact (RvL.reverse r).append (.cons h .nil)
/-- ints, by content -/
def ints? : List Val → Option (List Int)
  | [] => some []
  | .int i :: r => (ints? r).map (i :: ·)
  | _ :: _ => none
@[simp] theorem ints?_nil : ints? [] = some [] := rfl
@[simp] theorem ints?_cons (i : Int) (r : List Val) : ints? (.int i :: r) = (ints? r).map (i :: ·) := rfl
theorem ints?_map (ns : List Int) : ints? (ns.map Val.int) = some ns := by
  induction ns with
  | nil => rfl
  | cons n r ih => rw [List.map_cons, ints?_cons, ih]; rfl
theorem ints?_eq : ∀ {xs : List Val} {ns : List Int}, ints? xs = some ns → xs = ns.map Val.int
  | [], ns, h => by cases h; rfl
  | .int i :: r, ns, h => by
    rw [ints?_cons] at h
    cases q : ints? r with
    | none => rw [q] at h; cases h
    | some ms => rw [q] at h; cases h; rw [ints?_eq q]; rfl
  | .non :: _, _, h => by cases h
  | .bl _ :: _, _, h => by cases h
  | .str _ :: _, _, h => by cases h
  | .tup _ :: _, _, h => by cases h
  | .lst _ :: _, _, h => by cases h
  | .dic _ :: _, _, h => by cases h
  | .obj _ _ :: _, _, h => by cases h
theorem RvL.ints {ns : List Int} : ∀ {us : List V}, RvL g Zs H (ns.map Val.int) us → us = ns.map V.int := by
  induction ns with
  | nil => intro us r; cases r; rfl
  | cons n t ih =>
    intro us r
    cases r with
    | cons h r => cases h; rw [List.map_cons, ih r]
end

/-! ### the layer's rules, for lists that are read -/
section
variable {X : Cx} {pins : List (Addr × Obj)} {σ : L2.St} {H : Hp} {s : Shared} {l : Addr} {xs : List V}
theorem rdM (I : Inv X pins σ H s) (h : Rd H l (.lst xs)) : xs.length ≤ sizeLine ∧ ∃ (its : List Value) (n : Nat), Vals xs its ∧ xs.length = its.length ∧ s.heap.get? l = some { cls := .type "list", data := .seq its.toArray n } := by
  obtain ⟨z, its, n, r, e⟩ := Rd.ok h I.hok
  exact ⟨z, its, n, r, r.length, e⟩
def rCatQ : R2 := fun x y H Q => ∃ l b xs zs, x = .ref l ∧ y = .ref b ∧ Rd H l (.lst xs) ∧ Rd H b (.lst zs) ∧ xs.length + zs.length ≤ sizeLine ∧ ∀ p, H p = none → Q (.ref p) (upd H p (.lst (xs ++ zs)))
theorem op_catQ : OpR X (binaryOp .Add) rCatQ := by
  intro pins s σ H x y v u Q I rx ry h
  obtain ⟨l, b, xs, zs, ex, ey, hH, hB, hz, q⟩ := h
  subst ex ey
  cases rx
  cases ry
  obtain ⟨z, its, n, r, hl, e⟩ := rdM I hH
  obtain ⟨z2, its2, n2, r2, hl2, e2⟩ := rdM I hB
  refine PySem.P.add_list e e2 ?_ (by simp only [List.size_toArray]; omega)
  rw [show its.toArray ++ its2.toArray = (its ++ its2).toArray by simp]
  exact ⟨.ref _, _, I.lnew (t' := s.toks) (r.append r2) (by rw [List.length_append]; omega), rfl, q _ I.fresh⟩
def rRepQ : R2 := fun x y H Q => ∃ l k xs, x = .ref l ∧ y = .int k ∧ Rd H l (.lst xs) ∧ -(2 ^ 63) ≤ k ∧ k < 2 ^ 63 ∧ xs.length * k.toNat ≤ sizeLine ∧
  ∀ p, H p = none → Q (.ref p) (upd H p (.lst (List.replicate k.toNat xs).flatten))
open PyProof.Rows in
open Builtin in
theorem op_repQ : OpR X (binaryOp .Mult) rRepQ := by
  intro pins s σ H x y v u Q I rx ry h
  obtain ⟨l, k, xs, ex, ey, hH, h1, h2, hz, q⟩ := h
  subst ex ey
  cases rx
  obtain ⟨t, rfl⟩ := ry
  obtain ⟨z, its, n, r, hl, e⟩ := rdM I hH
  have hlen : its.toArray.size * k.toNat ≤ sizeLine := by simpa only [List.size_toArray, ← hl] using hz
  have hcap : ¬ its.toArray.size * k.toNat > (2 ^ 63 - 1) / 8 := fun hh => by
    have l8 : (sizeLine : Nat) ≤ (2 ^ 63 - 1) / 8 := by decide
    exact absurd (Nat.lt_of_lt_of_le hh (Nat.le_trans hlen l8)) (Nat.lt_irrefl _)
  have hfit : ¬ (!Builtin.List.listFitsIndex k) = true := fun hh => by rw [fitsIndex_both h1 h2] at hh; cases hh
  have hlong : ¬ Builtin.List.listTooLong (its.toArray.size * k.toNat) = true := fun hh => by rw [notLongL hlen] at hh; cases hh
  have f0 : ∀ m : Nat, List.foldl (fun x1 x2 => x1 ++ x2) #[] (List.replicate m its.toArray) = (List.replicate m its).flatten.toArray := fun m => by simpa using foldl_rep its m []
  have hnew : List.foldl (fun x1 x2 => x1 ++ x2) #[] (List.replicate (if its.toArray.isEmpty = true then 0 else k.toNat) its.toArray) = (List.replicate k.toNat its).flatten.toArray := by
    rw [f0]
    cases its with
    | nil => simp
    | cons a r' => simp
  refine wpAny_binaryOp_repeat_ref (T := "list") (U := "int") (by decide) ⟨_, e, rfl⟩ (fun s' => typeIs_int s' k t) noFill_list_mul F.fills_int_mul F.slot_int_rmul repeat_list F.slot_int_index.lookup ?_
  refine call_meets F.slot_int_rmul (typeIs_int s k t) F.entry_int_rmul (F.args_int_rmul_2 _ _) (int___rmul___int_list k t l its.toArray n) ⟨e, rfl, ⟨_, e, rfl⟩, ?_⟩
  refine call_meets F.slot_list_mul ⟨_, e, rfl⟩ F.entry_list_mul (F.args_list_mul_2 _ _) (AutoListH.list___mul___list_int_3 l its.toArray n k t hfit hcap hlong) ⟨e, ?_⟩
  rw [hnew]
  exact ⟨.ref _, _, I.lnew (t' := s.toks) (r.rep k.toNat) (by rw [PyProof.Rows.lm_len_rep_flat, Nat.mul_comm]; exact hz), rfl, q _ I.fresh⟩
end

/-! ### operators by content -/
def fAdd : Val → Val → Option RV
  | .int i, .int j => some (.v (.int (i + j)))
  | .str s, .str t => if s.length + t.length ≤ sizeMax then some (.v (.str (s ++ t))) else none
  | .lst xs, .lst ys => if xs.length + ys.length ≤ sizeMax then some (.own (.lst (xs ++ ys))) else none
  | .tup xs, .tup ys => if xs.length + ys.length ≤ sizeMax then some (.v (.tup (xs ++ ys))) else none
  | _, _ => none
def fSub : Val → Val → Option RV
  | .int i, .int j => some (.v (.int (i - j)))
  | _, _ => none
def fMul : Val → Val → Option RV
  | .int i, .int j => if i.natAbs.log2 + j.natAbs.log2 < 1000000 then some (.v (.int (i * j))) else none
  | .lst xs, .int k => if k.natAbs < 4611686018427387904 ∧ xs.length * k.toNat ≤ sizeMax then some (.own (.lst (List.replicate k.toNat xs).flatten)) else none
  | _, _ => none
def fDiv : Val → Val → Option RV
  | .int i, .int j => if 0 < j ∧ j.natAbs.log2 < 9000 then some (.v (.int (i / j))) else if j ≠ 0 ∧ j.natAbs < 1073741824 then some (.v (.int (i.fdiv j))) else none
  | _, _ => none
def fMod : Val → Val → Option RV
  | .int i, .int j => if 0 < j then some (.v (.int (i % j))) else if j ≠ 0 then some (.v (.int (i.fmod j))) else none
  | _, _ => none
def fPow : Val → Val → Option RV
  | .int i, .int j => if 0 ≤ j ∧ j ≤ 1000000 ∧ i.natAbs < 2 ^ 64 then some (.v (.int (i ^ j.toNat))) else none
  | _, _ => none
def fNeg : Val → Option RV
  | .int i => some (.v (.int (-i)))
  | _ => none
def fLt : Val → Val → Option RV
  | .int i, .int j => some (.v (.bl (decide (i < j))))
  | _, _ => none
def fLe : Val → Val → Option RV
  | .int i, .int j => some (.v (.bl (decide (i ≤ j))))
  | _, _ => none
def fGt : Val → Val → Option RV
  | .int i, .int j => some (.v (.bl (decide (j < i))))
  | _, _ => none
def fGe : Val → Val → Option RV
  | .int i, .int j => some (.v (.bl (decide (j ≤ i))))
  | _, _ => none
@[simp] theorem fAdd_int (i j : Int) : fAdd (.int i) (.int j) = some (.v (.int (i + j))) := rfl
@[simp] theorem fAdd_lst (xs ys : List Val) : fAdd (.lst xs) (.lst ys) = if xs.length + ys.length ≤ sizeMax then some (.own (.lst (xs ++ ys))) else none := rfl
@[simp] theorem fAdd_tup (xs ys : List Val) : fAdd (.tup xs) (.tup ys) = if xs.length + ys.length ≤ sizeMax then some (.v (.tup (xs ++ ys))) else none := rfl
@[simp] theorem fSub_int (i j : Int) : fSub (.int i) (.int j) = some (.v (.int (i - j))) := rfl
@[simp] theorem fMul_int (i j : Int) : fMul (.int i) (.int j) = if i.natAbs.log2 + j.natAbs.log2 < 1000000 then some (.v (.int (i * j))) else none := rfl
@[simp] theorem fMul_lst (xs : List Val) (k : Int) : fMul (.lst xs) (.int k) = if k.natAbs < 4611686018427387904 ∧ xs.length * k.toNat ≤ sizeMax then some (.own (.lst (List.replicate k.toNat xs).flatten)) else none := rfl
@[simp] theorem fDiv_int (i j : Int) : fDiv (.int i) (.int j) = if 0 < j ∧ j.natAbs.log2 < 9000 then some (.v (.int (i / j))) else if j ≠ 0 ∧ j.natAbs < 1073741824 then some (.v (.int (i.fdiv j))) else none := rfl
@[simp] theorem fMod_int (i j : Int) : fMod (.int i) (.int j) = if 0 < j then some (.v (.int (i % j))) else if j ≠ 0 then some (.v (.int (i.fmod j))) else none := rfl
@[simp] theorem fPow_int (i j : Int) : fPow (.int i) (.int j) = if 0 ≤ j ∧ j ≤ 1000000 ∧ i.natAbs < 2 ^ 64 then some (.v (.int (i ^ j.toNat))) else none := rfl
@[simp] theorem fNeg_int (i : Int) : fNeg (.int i) = some (.v (.int (-i))) := rfl
@[simp] theorem fLt_int (i j : Int) : fLt (.int i) (.int j) = some (.v (.bl (decide (i < j)))) := rfl
@[simp] theorem fLe_int (i j : Int) : fLe (.int i) (.int j) = some (.v (.bl (decide (i ≤ j)))) := rfl
@[simp] theorem fGt_int (i j : Int) : fGt (.int i) (.int j) = some (.v (.bl (decide (j < i)))) := rfl
@[simp] theorem fGe_int (i j : Int) : fGe (.int i) (.int j) = some (.v (.bl (decide (j ≤ i)))) := rfl
theorem szm : sizeMax = sizeLine := by rw [sizeLine_eq]; rfl

section
variable {X : Cx}
theorem fAdd_cases {x y : Val} {z : RV} (h : fAdd x y = some z) : (∃ i j, x = .int i ∧ y = .int j ∧ z = .v (.int (i + j))) ∨ (∃ s t, x = .str s ∧ y = .str t ∧ s.length + t.length ≤ sizeLine ∧ z = .v (.str (s ++ t))) ∨
    (∃ xs ys, x = .lst xs ∧ y = .lst ys ∧ xs.length + ys.length ≤ sizeLine ∧ z = .own (.lst (xs ++ ys))) ∨ ∃ xs ys, x = .tup xs ∧ y = .tup ys ∧ xs.length + ys.length ≤ sizeLine ∧ z = .v (.tup (xs ++ ys)) := by
  rw [← szm]
  unfold fAdd at h
  split at h
  · cases h; exact .inl ⟨_, _, rfl, rfl, rfl⟩
  · split at h
    · cases h; exact .inr (.inl ⟨_, _, rfl, rfl, by assumption, rfl⟩)
    · cases h
  · split at h
    · cases h; exact .inr (.inr (.inl ⟨_, _, rfl, rfl, by assumption, rfl⟩))
    · cases h
  · split at h
    · cases h; exact .inr (.inr (.inr ⟨_, _, rfl, rfl, by assumption, rfl⟩))
    · cases h
  · cases h
theorem os_add : OpS X (binaryOp .Add) fAdd := by
  refine ⟨⟨_, op_add.or (op_add_str.or (op_catQ.or op_catA)), fun Zs H x y z u w Q zd hf hx hy q => ?_⟩, fun x y i h => ?_⟩
  · rcases fAdd_cases hf with ⟨i, j, rfl, rfl, rfl⟩ | ⟨a, b, rfl, rfl, hz, rfl⟩ | ⟨xs, ys, rfl, rfl, hz, rfl⟩ | ⟨xs, ys, rfl, rfl, hz, rfl⟩
    · exact .inl ⟨i, j, hx.int, hy.int, q.val zd (.int _)⟩
    · exact .inr (.inl ⟨a, b, hx.str, hy.str, hz, q.val zd (.str _)⟩)
    · obtain ⟨a, us, rfl, h1, r1⟩ := hx.lst
      obtain ⟨b, ws, rfl, h2, r2⟩ := hy.lst
      exact .inr (.inr (.inl ⟨a, b, us, ws, rfl, rfl, h1, h2, by rw [← r1.length, ← r2.length]; exact hz, fun p hp => q.lst zd (r1.append r2) hp⟩))
    · obtain ⟨a, us, rfl, h1, r1⟩ := hx.tup
      obtain ⟨b, ws, rfl, h2, r2⟩ := hy.tup
      refine .inr (.inr (.inr ⟨a, b, us, ws, rfl, rfl, h1, h2, by rw [← r1.length, ← r2.length]; exact hz, fun e => ?_, fun e e2 => ?_, fun e e2 p hp => q.tup zd (r1.append r2) hp⟩))
      · subst e
        cases r1
        exact q.val zd (.tup h2 r2)
      · subst e2
        cases r2
        refine q.val zd (.tup h1 ?_)
        rw [List.append_nil]
        exact r1
  · rcases fAdd_cases h with ⟨_, _, _, _, e⟩ | ⟨_, _, _, _, _, e⟩ | ⟨_, _, _, _, _, e⟩ | ⟨_, _, _, _, _, e⟩ <;> cases e
theorem os_int0 {F : Value → Value → Sem Value} {k : Int → Int → V} {c : Int → Int → Val} {f : Val → Val → Option RV} (hF : OpR X F (rI0 k)) (hk : ∀ g Zs H i j, RvV g Zs H (c i j) (k i j)) (hf : ∀ x y z, f x y = some z → ∃ i j, x = .int i ∧ y = .int j ∧ z = .v (c i j)) : OpS X F f := by
  refine ⟨⟨_, hF, fun Zs H x y z u w Q zd h hx hy q => ?_⟩, fun x y i h => ?_⟩
  · obtain ⟨i, j, rfl, rfl, rfl⟩ := hf _ _ _ h
    exact ⟨i, j, hx.int, hy.int, q.val zd (hk _ _ _ i j)⟩
  · obtain ⟨_, _, _, _, e⟩ := hf _ _ _ h
    cases e
theorem os_sub : OpS X (binaryOp .Sub) fSub := os_int0 (c := fun i j => .int (i - j)) op_sub (fun _ _ _ _ _ => .int _) fun x y z h => by
  unfold fSub at h; split at h <;> cases h; exact ⟨_, _, rfl, rfl, rfl⟩
theorem os_lt : OpS X (compareOp .Lt) fLt := os_int0 (c := fun i j => .bl (decide (i < j))) op_lt (fun _ _ _ _ _ => .bl _) fun x y z h => by
  unfold fLt at h; split at h <;> cases h; exact ⟨_, _, rfl, rfl, rfl⟩
theorem os_le : OpS X (compareOp .LtE) fLe := os_int0 (c := fun i j => .bl (decide (i ≤ j))) op_le (fun _ _ _ _ _ => .bl _) fun x y z h => by
  unfold fLe at h; split at h <;> cases h; exact ⟨_, _, rfl, rfl, rfl⟩
theorem os_gt : OpS X (compareOp .Gt) fGt := os_int0 (c := fun i j => .bl (decide (j < i))) op_gt (fun _ _ _ _ _ => .bl _) fun x y z h => by
  unfold fGt at h; split at h <;> cases h; exact ⟨_, _, rfl, rfl, rfl⟩
theorem os_ge : OpS X (compareOp .GtE) fGe := os_int0 (c := fun i j => .bl (decide (j ≤ i))) op_ge (fun _ _ _ _ _ => .bl _) fun x y z h => by
  unfold fGe at h; split at h <;> cases h; exact ⟨_, _, rfl, rfl, rfl⟩
theorem bl_lt : ∀ x y z, fLt x y = some z → ∃ k, z = .v (.bl k) := fun x y z h => by unfold fLt at h; split at h <;> cases h; exact ⟨_, rfl⟩
theorem bl_le : ∀ x y z, fLe x y = some z → ∃ k, z = .v (.bl k) := fun x y z h => by unfold fLe at h; split at h <;> cases h; exact ⟨_, rfl⟩
theorem bl_gt : ∀ x y z, fGt x y = some z → ∃ k, z = .v (.bl k) := fun x y z h => by unfold fGt at h; split at h <;> cases h; exact ⟨_, rfl⟩
theorem bl_ge : ∀ x y z, fGe x y = some z → ∃ k, z = .v (.bl k) := fun x y z h => by unfold fGe at h; split at h <;> cases h; exact ⟨_, rfl⟩
theorem os_mul : OpS X (binaryOp .Mult) fMul := by
  have cs : ∀ {x y : Val} {z : RV}, fMul x y = some z → (∃ i j, x = .int i ∧ y = .int j ∧ CMulW i j ∧ z = .v (.int (i * j))) ∨ ∃ xs k, x = .lst xs ∧ y = .int k ∧ k < 2 ^ 62 ∧ -(2 ^ 62) ≤ k ∧ xs.length * k.toNat ≤ sizeLine ∧ z = .own (.lst (List.replicate k.toNat xs).flatten) := fun {x y z} h => by
    rw [← szm]
    unfold fMul at h
    split at h
    · split at h
      · cases h; exact .inl ⟨_, _, rfl, rfl, by assumption, rfl⟩
      · cases h
    · split at h
      · rename_i c
        cases h; exact .inr ⟨_, _, rfl, rfl, by omega, by omega, c.2, rfl⟩
      · cases h
    · cases h
  refine ⟨⟨_, op_mulW.or op_repQ, fun Zs H x y z u w Q zd hf hx hy q => ?_⟩, fun x y i h => ?_⟩
  · rcases cs hf with ⟨i, j, rfl, rfl, hc, rfl⟩ | ⟨xs, k, rfl, rfl, h1, h2, h3, rfl⟩
    · exact .inl ⟨i, j, hx.int, hy.int, hc, q.val zd (.int _)⟩
    · obtain ⟨a, us, rfl, hl, r⟩ := hx.lst
      exact .inr ⟨a, k, us, rfl, hy.int, hl, by omega, by omega, by rw [← r.length]; exact h3, fun p hp => q.lst zd (r.flat _) hp⟩
  · rcases cs h with ⟨_, _, _, _, _, e⟩ | ⟨_, _, _, _, _, _, _, e⟩ <;> cases e
theorem os_div : OpS X (binaryOp .FloorDiv) fDiv := by
  have cs : ∀ {x y : Val} {z : RV}, fDiv x y = some z → ∃ i j, x = .int i ∧ y = .int j ∧ ((CDivW i j ∧ z = .v (.int (i / j))) ∨ (CDivN i j ∧ z = .v (.int (i.fdiv j)))) := fun {x y z} h => by
    unfold fDiv at h
    split at h
    · split at h
      · cases h; exact ⟨_, _, rfl, rfl, .inl ⟨by assumption, rfl⟩⟩
      · split at h
        · cases h; exact ⟨_, _, rfl, rfl, .inr ⟨by assumption, rfl⟩⟩
        · cases h
    · cases h
  refine ⟨⟨_, op_fdivW.or op_fdivN, fun Zs H x y z u w Q zd hf hx hy q => ?_⟩, fun x y i h => ?_⟩
  · obtain ⟨i, j, rfl, rfl, ⟨hc, rfl⟩ | ⟨hc, rfl⟩⟩ := cs hf
    · exact .inl ⟨i, j, hx.int, hy.int, hc, q.val zd (.int _)⟩
    · exact .inr ⟨i, j, hx.int, hy.int, hc, q.val zd (.int _)⟩
  · obtain ⟨_, _, _, _, ⟨_, e⟩ | ⟨_, e⟩⟩ := cs h <;> cases e
theorem os_mod : OpS X (binaryOp .Mod) fMod := by
  have cs : ∀ {x y : Val} {z : RV}, fMod x y = some z → ∃ i j, x = .int i ∧ y = .int j ∧ ((0 < j ∧ z = .v (.int (i % j))) ∨ (j ≠ 0 ∧ z = .v (.int (i.fmod j)))) := fun {x y z} h => by
    unfold fMod at h
    split at h
    · split at h
      · cases h; exact ⟨_, _, rfl, rfl, .inl ⟨by assumption, rfl⟩⟩
      · split at h
        · cases h; exact ⟨_, _, rfl, rfl, .inr ⟨by assumption, rfl⟩⟩
        · cases h
    · cases h
  refine ⟨⟨_, op_mod.or op_modN, fun Zs H x y z u w Q zd hf hx hy q => ?_⟩, fun x y i h => ?_⟩
  · obtain ⟨i, j, rfl, rfl, ⟨hc, rfl⟩ | ⟨hc, rfl⟩⟩ := cs hf
    · exact .inl ⟨i, j, hx.int, hy.int, hc, q.val zd (.int _)⟩
    · exact .inr ⟨i, j, hx.int, hy.int, hc, q.val zd (.int _)⟩
  · obtain ⟨_, _, _, _, ⟨_, e⟩ | ⟨_, e⟩⟩ := cs h <;> cases e
theorem os_pow : OpS X (binaryOp .Pow) fPow := by
  have cs : ∀ {x y : Val} {z : RV}, fPow x y = some z → ∃ i j, x = .int i ∧ y = .int j ∧ CPow i j ∧ z = .v (.int (i ^ j.toNat)) := fun {x y z} h => by
    unfold fPow at h
    split at h
    · split at h
      · cases h; exact ⟨_, _, rfl, rfl, by assumption, rfl⟩
      · cases h
    · cases h
  refine ⟨⟨_, op_pow, fun Zs H x y z u w Q zd hf hx hy q => ?_⟩, fun x y i h => ?_⟩
  · obtain ⟨i, j, rfl, rfl, hc, rfl⟩ := cs hf
    exact ⟨i, j, hx.int, hy.int, hc, q.val zd (.int _)⟩
  · obtain ⟨_, _, _, _, _, e⟩ := cs h
    cases e
theorem us_neg : UnS X (unaryOp .USub) fNeg := by
  have cs : ∀ {x : Val} {z : RV}, fNeg x = some z → ∃ i, x = .int i ∧ z = .v (.int (-i)) := fun {x z} h => by
    unfold fNeg at h; split at h <;> cases h; exact ⟨_, rfl, rfl⟩
  refine ⟨⟨_, un_neg, fun Zs H x z u Q zd hf hx q => ?_⟩, fun x i h => ?_⟩
  · obtain ⟨i, rfl, rfl⟩ := cs hf
    exact ⟨i, hx.int, q.val zd (.int _)⟩
  · obtain ⟨_, _, e⟩ := cs h
    cases e
end
end Z
/-! Z4: argument lists, displays, equality, None, built-in calls, items, slices. -/
namespace Z
open PySem L2 PySem.Spec
theorem Hld.mono {g : Gm} {Zs Zt : Addr → Prop} {H : Hp} (z : ∀ a, Zs a → Zt a) : ∀ {x : Val} {a : Addr}, Hld g Zs H x a → Hld g Zt H x a
  | .lst _, _, ⟨_, h, r⟩ => ⟨_, h, r.gr (Grow.of z)⟩
  | .dic _, _, ⟨_, h, r⟩ => ⟨_, h, r.gr (Grow.of z)⟩
  | .obj _ _, _, ⟨_, _, _, h, m, r⟩ => ⟨_, _, _, h, m, r.gr (Grow.of z)⟩
  | .non, _, h => nomatch (show False from h)
  | .bl _, _, h => nomatch (show False from h)
  | .int _, _, h => nomatch (show False from h)
  | .str _, _, h => nomatch (show False from h)
  | .tup _, _, h => nomatch (show False from h)
  | .scr _, _, h => nomatch (show False from h)
/-- more is at rest: the places that are owned no more, or were never -/
theorem SlR.mono {g : Gm} {xc : Xc} {Zs Zt : Addr → Prop} {H : Hp} (z : ∀ a, Zs a → Zt a) {s : Slot} {o : Option (Option V)} (h : SlR g xc Zs H s o) (n : ∀ p x a, s = .own p x → o = some (some (.ref a)) → ¬ Zt a) : SlR g xc Zt H s o := by
  cases s with
  | emp => trivial
  | v x =>
    obtain ⟨u, h, r⟩ := h
    exact ⟨u, h, r.gr (Grow.of z)⟩
  | own p x =>
    obtain ⟨a, h, nz, r⟩ := h
    exact ⟨a, h, n p x a rfl h, r.mono z⟩
  | pf x =>
    obtain ⟨a, h, z0, r⟩ := h
    exact ⟨a, h, z a z0, r.gr (Grow.of z)⟩
  | exn c fs =>
    obtain ⟨a, d, C, fv, h1, h2, h3, h4, r⟩ := h
    exact ⟨a, d, C, fv, h1, h2, h3, h4, r.gr (Grow.of z)⟩
theorem thaw_own : ∀ {p : Bool} {x : Val}, Hol (thaw (.own p x)) ∧ (∀ q y, thaw (.own p x) ≠ .own q y) ∧ (p = true → Pinned (thaw (.own p x)))
  | true, x => ⟨True.intro, (fun q y h => by rw [thaw_t] at h; cases h), fun _ => True.intro⟩
  | false, x => ⟨True.intro, (fun q y h => by rw [thaw_f] at h; cases h), (fun h => by cases h)⟩
theorem eget_lt {e : Env} {i : Nat} (h : eget e i ≠ .emp) : i < e.length := by
  apply Classical.byContradiction
  intro n
  exact h (eget_out e i (by omega))
/-- a place comes to rest -/
theorem RE.rest {g : Gm} {xc : Xc} {pa : List (Option Addr)} {Zs : Addr → Prop} {H : Hp} {σ : L2.St} {e : Env} {i : Nat} {p : Bool} {x : Val} {a : Addr} (re : RE g xc pa Zs H σ e) (hs : eget e i = .own p x) (ha : σ[i]? = some (some (.ref a))) :
    RE g xc pa (fun b => Zs b ∨ b = a) H σ (eput e i (thaw (.own p x))) ∧ (∀ b, Owd (eput e i (thaw (.own p x))) σ b → Owd e σ b ∧ b ≠ a) ∧ (∀ j, Hol (eget e j) → Hol (eget (eput e i (thaw (.own p x))) j)) ∧ RvV g (fun b => Zs b ∨ b = a) H x (.ref a) := by
  have hi : i < e.length := eget_lt (by rw [hs]; intro h; cases h)
  have own : ∀ j b, OwnAt (eput e i (thaw (.own p x))) σ j b → OwnAt e σ j b ∧ j ≠ i := fun j b ⟨q, y, h1, h2⟩ => by
    by_cases hj : i = j
    · subst hj
      rw [eget_eput_same e i _ hi] at h1
      exact absurd h1 (thaw_own.2.1 q y)
    · rw [eget_eput_ne e i j _ hj] at h1
      exact ⟨⟨q, y, h1, h2⟩, Ne.symm hj⟩
  have oi : OwnAt e σ i a := ⟨p, x, hs, ha⟩
  have q := re.sl i
  rw [hs] at q
  obtain ⟨a', ha', nz, hl⟩ := q
  rw [ha] at ha'; cases ha'
  have rv : RvV g (fun b => Zs b ∨ b = a) H x (.ref a) := (hl.mono fun b h => .inl h).rv (.inr rfl)
  refine ⟨⟨by rw [eput_length]; exact re.len, fun j => ?_, fun j k b h1 h2 => re.inj j k b (own j b h1).1 (own k b h2).1, fun j b h => ?_, fun b h => ?_⟩, fun b ⟨j, h⟩ => ?_, fun j h => ?_, rv⟩
  · by_cases hj : i = j
    · subst hj
      rw [eget_eput_same e i _ hi]
      cases p
      · exact ⟨_, ha, rv⟩
      · exact ⟨_, ha, .inr rfl, rv⟩
    · rw [eget_eput_ne e i j _ hj]
      refine (re.sl j).mono (fun b h => .inl h) fun q y b h1 h2 h3 => ?_
      have oj : OwnAt e σ j b := ⟨q, y, h1, h2⟩
      rcases h3 with h3 | h3
      · exact (re.owOk b ⟨j, oj⟩).1 h3
      · subst h3
        exact hj (re.inj i j b oi oj)
  · obtain ⟨h1, h2⟩ := re.pin j b h
    refine ⟨h1, ?_⟩
    by_cases hj : i = j
    · subst hj
      rw [eget_eput_same e i _ hi]
      rw [hs] at h2
      cases p
      · exact h2.elim
      · trivial
    · rw [eget_eput_ne e i j _ hj]
      exact h2
  · rcases h with h | h
    · exact re.zd b h
    · subst h
      obtain ⟨o, ho, _⟩ := hl.wr
      exact ⟨o, ho⟩
  · obtain ⟨h1, h2⟩ := own j b h
    refine ⟨⟨j, h1⟩, fun z => ?_⟩
    subst z
    exact h2 (re.inj j i b h1 oi)
  · by_cases hj : i = j
    · subst hj
      rw [eget_eput_same e i _ hi]
      exact thaw_own.1
    · rw [eget_eput_ne e i j _ hj]
      exact h
section
variable {g : Gm} {xc : Xc} {s : At} {Z1 : Addr → Prop} {H1 : Hp} {e1 e2 : Env} {r : RV} {u : V} {x : Val}
/-- a value escapes -/
theorem esc_ok (P : PostE g xc s.pa s.Zs s.H s.σ s.env Z1 H1 e1) (R : RR g s Z1 H1 s.σ e1 r u) (h : esc e1 r = .ok x e2) :
    ∃ Z2, PostE g xc s.pa s.Zs s.H s.σ s.env Z2 H1 e2 ∧ RvV g Z2 H1 x u ∧ (∀ a, Z1 a → Z2 a) ∧ (∀ a, Z2 a → Z1 a ∨ (u = .ref a ∧ ((∃ y, r = .own y) ∨ Owd e1 s.σ a))) ∧ (∀ i, Hol (eget e1 i) → Hol (eget e2 i)) ∧ ∀ a, Owd e2 s.σ a → Owd e1 s.σ a := by
  cases r with
  | v y => cases h; exact ⟨Z1, P, R, fun _ h => h, fun _ h => .inl h, fun _ h => h, fun _ h => h⟩
  | own y =>
    cases h
    obtain ⟨a, e, nz, hl, no, fr⟩ := R
    obtain ⟨o, ho, _⟩ := hl.wr
    refine ⟨fun b => Z1 b ∨ b = a, ⟨⟨⟨fun b h => .inl (P.ext.zz b h), fun b h => ?_, P.ext.hh, fun b h => ?_⟩, ⟨P.re.len, fun i => ?_, P.re.inj, P.re.pin, fun b h => ?_⟩, P.ow⟩, P.hol⟩, by rw [e]; exact (hl.mono fun b h => .inl h).rv (.inr rfl), fun b h => .inl h, fun b h => ?_, fun _ h => h, fun _ h => h⟩
    · rcases h with h | h
      · exact P.ext.zn b h
      · subst h; exact .inr fr
    · rcases h with h | h
      · exact P.re.zd b h
      · subst h; exact ⟨o, ho⟩
    · refine (P.re.sl i).mono (fun b h => .inl h) fun q z b h1 h2 h3 => ?_
      rcases h3 with h3 | h3
      · exact (P.re.owOk b ⟨i, q, z, h1, h2⟩).1 h3
      · subst h3
        exact no ⟨i, q, z, h1, h2⟩
    · rcases h with h | h
      · exact P.re.zd b h
      · subst h; exact ⟨o, ho⟩
    · rcases h with h | h
      · exact .inl h
      · subst h; exact .inr ⟨e, .inl ⟨_, rfl⟩⟩
  | bor i =>
    obtain ⟨a, e, h1, h2⟩ := R
    rw [esc_bor] at h
    have q := P.re.sl i
    cases hs : eget e1 i with
    | emp => rw [hs] at h; cases h
    | exn c fs => rw [hs] at h; cases h
    | v y =>
      rw [hs] at h q; cases h
      obtain ⟨w, hw, rv⟩ := q
      rw [h1] at hw; cases hw
      exact ⟨Z1, P, by rw [e]; exact rv, fun _ h => h, fun _ h => .inl h, fun _ h => h, fun _ h => h⟩
    | pf y =>
      rw [hs] at h q; cases h
      obtain ⟨w, hw, _, rv⟩ := q
      rw [h1] at hw; cases hw
      exact ⟨Z1, P, by rw [e]; exact rv, fun _ h => h, fun _ h => .inl h, fun _ h => h, fun _ h => h⟩
    | own p y =>
      rw [hs] at h; cases h
      have oa : Owd e1 s.σ a := ⟨i, p, x, hs, h1⟩
      obtain ⟨re2, ow2, hol2, rv⟩ := P.re.rest hs h1
      obtain ⟨_, o, ho, _⟩ := P.re.owOk a oa
      refine ⟨fun b => Z1 b ∨ b = a, ⟨⟨⟨fun b h => .inl (P.ext.zz b h), fun b h => ?_, P.ext.hh, re2.zd⟩, re2, fun b h => P.ow b (ow2 b h).1⟩, fun j h => hol2 j (P.hol j h)⟩, by rw [e]; exact rv, fun b h => .inl h, fun b h => ?_, hol2, fun b h => (ow2 b h).1⟩
      · rcases h with h | h
        · exact P.ext.zn b h
        · subst h; exact .inr (P.ow b oa)
      · rcases h with h | h
        · exact .inl h
        · subst h; exact .inr ⟨e, .inr oa⟩
theorem RRs.after {Z2 : Addr → Prop} (zz : ∀ a, Z1 a → Z2 a) (zn : ∀ a, Z2 a → Z1 a ∨ (u = .ref a ∧ ((∃ y, r = .own y) ∨ Owd e1 s.σ a))) (hol : ∀ i, Hol (eget e1 i) → Hol (eget e2 i)) (ow : ∀ a, Owd e2 s.σ a → Owd e1 s.σ a) :
    ∀ {rs : List RV} {us : List V}, RRs g s Z1 H1 s.σ e1 rs us → ((∃ y, r = .own y) → ∀ y w, (y, w) ∈ rs.zip us → (∃ z, y = .own z) → w ≠ u) → RRs g s Z2 H1 s.σ e2 rs us
  | _, _, .nil, _ => .nil
  | r' :: rs, w :: us, .cons h t n, k => by
    refine .cons ?_ (RRs.after zz zn hol ow t fun z y w' hm => k z y w' (by rw [List.zip_cons_cons]; exact List.mem_cons_of_mem _ hm)) n
    cases r' with
    | v y => exact RvV.gr (Grow.of zz) h
    | own y =>
      obtain ⟨a, e, nz, hl, no, fr⟩ := h
      refine ⟨a, e, fun z => ?_, hl.mono zz, fun z => no (ow a z), fr⟩
      rcases zn a z with z | ⟨z, z2 | z2⟩
      · exact nz z
      · exact k z2 _ _ (by rw [List.zip_cons_cons]; exact List.mem_cons_self) ⟨_, rfl⟩ (by rw [e, z])
      · exact no z2
    | bor i =>
      obtain ⟨a, e, h1, h2⟩ := h
      exact ⟨a, e, h1, hol i h2⟩
end
theorem escs_ok {g : Gm} {xc : Xc} {s : At} {H1 : Hp} : ∀ {rs : List RV} {us : List V} {xs : List Val} {Z1 : Addr → Prop} {e1 e2 : Env}, PostE g xc s.pa s.Zs s.H s.σ s.env Z1 H1 e1 → RRs g s Z1 H1 s.σ e1 rs us → escs e1 rs = .ok xs e2 →
    ∃ Z2, PostE g xc s.pa s.Zs s.H s.σ s.env Z2 H1 e2 ∧ RvL g Z2 H1 xs us ∧ ∀ a, Z1 a → Z2 a
  | [], _, xs, Z1, e1, e2, P, .nil, h => by cases h; exact ⟨Z1, P, .nil, fun _ h => h⟩
  | r :: rs, u :: us, xs, Z1, e1, e2, P, .cons hR hT n, h => by
    rw [escs_cons] at h
    cases h1 : esc e1 r with
    | no => rw [h1] at h; cases h
    | ex c fs e => rw [h1] at h; cases h
    | ok x e =>
      rw [h1, Rs.bind_ok] at h
      cases h2 : escs e rs with
      | no => rw [h2] at h; cases h
      | ex c fs e => rw [h2] at h; cases h
      | ok ys e' =>
        rw [h2, Rs.bind_ok] at h
        cases h
        obtain ⟨Z2, P2, rv, zz, zn, hol, ow⟩ := esc_ok P hR h1
        obtain ⟨Z3, P3, rl, zz3⟩ := escs_ok P2 (RRs.after zz zn hol ow hT fun ⟨y, ey⟩ => n y ey) h2
        exact ⟨Z3, P3, .cons (rv.gr (Grow.of zz3)) rl, fun a h => zz3 a (zz a h)⟩
theorem RRs.mem {g : Gm} {s : At} {Z1 : Addr → Prop} {H1 : Hp} {σ : L2.St} {e1 : Env} : ∀ {rs : List RV} {us : List V} {y : RV} {w : V}, RRs g s Z1 H1 σ e1 rs us → (y, w) ∈ rs.zip us → RR g s Z1 H1 σ e1 y w
  | [], _, _, _, .nil, h => by cases h
  | r :: rs, u :: us, y, w, .cons h t _, hm => by
    rw [List.zip_cons_cons] at hm
    rcases List.mem_cons.mp hm with e | hm
    · cases e; exact h
    · exact RRs.mem t hm
section
variable {X : Cx} {xc : Xc} {W : WX} {pos : Pos}
theorem sa_nil : SA X xc W [] asNil := PA_imp pa_nil fun σ H Q ⟨pa, Zs, env, re, h⟩ => h [] Zs H (PostE.refl re) .nil
theorem cons_end {g : Gm} {fa : E} {fr : As} {σ : L2.St} {H : Hp} {Q : List V → Hp → Prop} (h : rdA g xc W (asCons fa fr) σ H Q) : tCons (rd g xc W fa) (rdA g xc W fr) σ H Q := by
  obtain ⟨pa, Zs, env, re, h⟩ := h
  refine ⟨pa, Zs, env, re, h.cont fun r e1 u Z1 H1 _ p1 q1 h => ?_⟩
  refine ⟨pa, Z1, e1, p1.re, (h.shift p1 (R2 := relA g ⟨pa, Zs, H, σ, env⟩) fun _ _ _ _ _ _ r => r).cont (R1 := relA g ⟨pa, Z1, H1, σ, e1⟩) fun rs e2 us Z2 H2 _ p2 q2 h => ?_⟩
  refine h (u :: us) Z2 H2 p2 (.cons (q1.step p1.re p2) (q2.back p1) fun x ex y w hm ⟨z, ez⟩ ew => ?_)
  subst ex ez ew
  obtain ⟨a, ea, nz, hl, no, fr⟩ := q1
  obtain ⟨b, eb, _, _, _, fr2⟩ := q2.mem hm
  rw [ea] at eb
  cases eb
  rcases fr2 with f | f
  · exact no f
  · obtain ⟨o, ho, _⟩ := hl.wr
    have f' : H1 a = none := f
    rw [f'] at ho; cases ho
theorem sa_cons {e : Expr} {es : List Expr} {fa : E} {fr : As} (ha : SE X xc W e fa) (hr : SA X xc W es fr) (hs : starEach (e :: es) X.env = (false, eval e X.env) :: starEach es X.env := by rfl) : SA X xc W (e :: es) (asCons fa fr) :=
  PA_imp (pa_cons ha hr hs) fun σ H Q h => cons_end h
end
end Z
/-! Z5: displays, equality, None, built-in calls, items, slices. -/
namespace Z
open PySem L2 PySem.Spec
section
variable {X : Cx} {xc : Xc} {W : WX} {pos : Pos}
/-- an operator's answer, from where one stands -/
theorem Ans.at {g : Gm} {s : At} {Q : VK} {Z1 : Addr → Prop} {H1 : Hp} {e1 : Env} {r : RV} (h : End g xc s (relE g s) (.ok r e1) W Q) (p : PostE g xc s.pa s.Zs s.H s.σ s.env Z1 H1 e1) (hr : ∀ i, r ≠ .bor i) : Ans g Z1 H1 r Q := Ans.of h p hr
theorem se_tup {es : List Expr} {x1} {fa : As} (ha : SA X xc W es fa) : SE X xc W (.Tuple es x1 pos) (eTup fa) := by
  refine PE_imp (pe_tup ha) fun σ H Q h => ?_
  obtain ⟨pa, Zs, env, re, h⟩ := h
  refine ⟨pa, Zs, env, re, h.cont fun rs e1 us Z1 H1 _ p1 q1 h => ?_⟩
  cases h1 : escs e1 rs with
  | no => rw [h1] at h; exact h.elim
  | ex c fs e =>
    exfalso
    have : ∀ (rs : List RV) (e : Env) c fs e', escs e rs ≠ .ex c fs e' := by
      intro rs
      induction rs with
      | nil => intro e c fs e' h; cases h
      | cons r rs ih =>
        intro e c fs e' h
        rw [escs_cons] at h
        cases h1 : esc e r with
        | no => rw [h1] at h; cases h
        | ex c fs e =>
          cases r with
          | v x => cases h1
          | own x => cases h1
          | bor i =>
            rw [esc_bor] at h1
            split at h1 <;> cases h1
        | ok x e1 =>
          rw [h1, Rs.bind_ok] at h
          cases h2 : escs e1 rs with
          | no => rw [h2] at h; cases h
          | ex c fs e => exact ih _ _ _ _ h2
          | ok x e2 => rw [h2] at h; cases h
    exact this _ _ _ _ _ h1
  | ok xs e2 =>
    rw [h1, Rs.bind_ok] at h
    obtain ⟨Z2, P2, rl, _⟩ := escs_ok p1 q1 h1
    by_cases c : xs.length ≤ sizeMax
    · rw [if_pos c] at h
      have A := Ans.of h P2 (fun i e => by cases e)
      exact ⟨by rw [← rl.length, ← szm]; exact c, fun p hp => A.tup P2.re.zd rl hp⟩
    · rw [if_neg c] at h
      exact h.elim
theorem escs_ex : ∀ (rs : List RV) (e : Env) (c : Str) (fs : List (Str × Val)) (e' : Env), escs e rs ≠ .ex c fs e'
  | [], _, _, _, _, h => by cases h
  | r :: rs, e, c, fs, e', h => by
    rw [escs_cons] at h
    cases h1 : esc e r with
    | no => rw [h1] at h; cases h
    | ex c fs e =>
      cases r with
      | v x => cases h1
      | own x => cases h1
      | bor i =>
        rw [esc_bor] at h1
        split at h1 <;> cases h1
    | ok x e1 =>
      rw [h1, Rs.bind_ok] at h
      cases h2 : escs e1 rs with
      | no => rw [h2] at h; cases h
      | ex c fs e => exact escs_ex _ _ _ _ _ h2
      | ok x e2 => rw [h2] at h; cases h
theorem se_lst {es : List Expr} {fa : As} (ha : SA X xc W es fa) : SE X xc W (.List es pos) (eLst fa) := by
  refine PE_imp (pe_lst ha) fun σ H Q h => ?_
  obtain ⟨pa, Zs, env, re, h⟩ := h
  refine ⟨pa, Zs, env, re, h.cont fun rs e1 us Z1 H1 _ p1 q1 h => ?_⟩
  cases h1 : escs e1 rs with
  | no => rw [h1] at h; exact h.elim
  | ex c fs e => exact absurd h1 (escs_ex _ _ _ _ _)
  | ok xs e2 =>
    rw [h1, Rs.bind_ok] at h
    obtain ⟨Z2, P2, rl, _⟩ := escs_ok p1 q1 h1
    by_cases c : xs.length ≤ sizeMax
    · rw [if_pos c] at h
      have A := Ans.of h P2 (fun i e => by cases e)
      exact ⟨by rw [← rl.length, ← szm]; exact c, fun p hp => A.lst P2.re.zd rl hp⟩
    · rw [if_neg c] at h
      exact h.elim

/-! ### built-in calls -/
structure CallS (X : Cx) (F : Value) (f : List Val → Option RV) : Prop where
  ex : ∃ r, CallR X F r ∧ ∀ (Zs : Addr → Prop) (H : Hp) (xs : List Val) (z : RV) (us : List V) (Q : VK), Zd Zs H → f xs = some z → RdL (gX X) Zs H xs us → Ans (gX X) Zs H z Q → r us H Q
  nb : ∀ xs i, f xs ≠ some (.bor i)
theorem call_end {f : List Val → Option RV} {r : List V → Hp → VK → Prop} (hr : ∀ (Zs : Addr → Prop) (H : Hp) (xs : List Val) (z : RV) (us : List V) (Q : VK), Zd Zs H → f xs = some z → RdL (gX X) Zs H xs us → Ans (gX X) Zs H z Q → r us H Q) (nb : ∀ xs i, f xs ≠ some (.bor i))
    {a : As} {σ : L2.St} {H : Hp} {Q : VK} (h : rd (gX X) xc W (eB f a) σ H Q) : tCB r (rdA (gX X) xc W a) σ H Q := by
  obtain ⟨pa, Zs, env, re, h⟩ := h
  refine ⟨pa, Zs, env, re, h.cont fun rs e1 us Z1 H1 _ p1 q1 h => ?_⟩
  cases h1 : peeks e1 rs with
  | none => rw [h1] at h; exact h.elim
  | some xs =>
    rw [h1] at h
    cases h3 : f xs with
    | none => simp only [opt_some, Rs.bind_ok, h3, opt_none] at h; exact h.elim
    | some z =>
      simp only [opt_some, Rs.bind_ok, h3] at h
      exact hr Z1 H1 xs z us Q p1.re.zd h3 (peeks_rd p1.re q1 h1) (Ans.of h p1 fun i e => nb xs i (by rw [h3, e]))
theorem se_callB {x : Str} {id : String} {p : Pos} {e : Expr} {es : List Expr} {f : List Val → Option RV} {fa : As} (hc : CallS X (.builtin id) f) (hm : X.mg x = none) (ha : SA X xc W (e :: es) fa) (hv : bootBuiltins x = some (.builtin id) := by first | rfl | decide +kernel) (hg : Gl X x := by rfl) (hn : x ≠ "__name__" := by decide) (hdb : (x == ("__debug__" : Str)) = false := by decide)
    (he : starEach (e :: es) X.env = (false, eval e X.env) :: starEach es X.env := by rfl) (hpl : (backTo pos (starEach es X.env)).any (·.1) = false := by rfl) : SE X xc W (.Call (.Name x p) (e :: es) [] pos) (eB f fa) := by
  obtain ⟨r, h1, h2⟩ := hc.ex
  exact PE_imp (pe_callB h1 hg hm hv ha hn hdb he hpl) fun σ H Q h => call_end h2 hc.nb h
theorem se_callTy {x : Str} {T : String} {p : Pos} {e : Expr} {es : List Expr} {f : List Val → Option RV} {fa : As} (hc : CallS X (.type T) f) (hm : X.mg x = none) (ha : SA X xc W (e :: es) fa) (hv : bootBuiltins x = some (.type T) := by first | rfl | decide +kernel) (hg : Gl X x := by rfl) (hn : x ≠ "__name__" := by decide) (hdb : (x == ("__debug__" : Str)) = false := by decide)
    (he : starEach (e :: es) X.env = (false, eval e X.env) :: starEach es X.env := by rfl) (hpl : (backTo pos (starEach es X.env)).any (·.1) = false := by rfl) : SE X xc W (.Call (.Name x p) (e :: es) [] pos) (eB f fa) := by
  obtain ⟨r, h1, h2⟩ := hc.ex
  exact PE_imp (pe_callTy h1 hg hm hv ha hn hdb he hpl) fun σ H Q h => call_end h2 hc.nb h
/-- a module's name for a built-in function -/
theorem se_callM {x : Str} {id : String} {p : Pos} {e : Expr} {es : List Expr} {f : List Val → Option RV} {fa : As} (hc : CallS X (.builtin id) f) (hm : X.mg x = some (.builtin id)) (ha : SA X xc W (e :: es) fa) (hg : Gl X x := by rfl) (hdb : (x == ("__debug__" : Str)) = false := by decide)
    (he : starEach (e :: es) X.env = (false, eval e X.env) :: starEach es X.env := by rfl) (hpl : (backTo pos (starEach es X.env)).any (·.1) = false := by rfl) : SE X xc W (.Call (.Name x p) (e :: es) [] pos) (eB f fa) := by
  obtain ⟨r, h1, h2⟩ := hc.ex
  exact PE_imp (pe_callBfun h1 hg hm ha hdb he hpl) fun σ H Q h => call_end h2 hc.nb h
theorem RdL.one {g : Gm} {Zs : Addr → Prop} {H : Hp} {x : Val} {us : List V} (h : RdL g Zs H [x] us) : ∃ u, us = [u] ∧ RdV g Zs H x u := by
  cases h with
  | cons h t => cases t; exact ⟨_, rfl, h⟩
theorem RdL.two {g : Gm} {Zs : Addr → Prop} {H : Hp} {x y : Val} {us : List V} (h : RdL g Zs H [x, y] us) : ∃ u w, us = [u, w] ∧ RdV g Zs H x u ∧ RdV g Zs H y w := by
  cases h with
  | cons h t =>
    obtain ⟨w, rfl, k⟩ := t.one
    exact ⟨_, w, rfl, h, k⟩
def fAbs : List Val → Option RV
  | [.int i] => some (.v (.int (if i < 0 then -i else i)))
  | _ => none
def fInt : List Val → Option RV
  | [.int i] => some (.v (.int i))
  | [.bl b] => some (.v (.int (if b then 1 else 0)))
  | _ => none
def fMin2 : List Val → Option RV
  | [.int i, .int j] => some (.v (.int (if j < i then j else i)))
  | _ => none
def fMax2 : List Val → Option RV
  | [.int i, .int j] => some (.v (.int (if j > i then j else i)))
  | _ => none
def fLen : List Val → Option RV
  | [.lst xs] => some (.v (.int xs.length))
  | [.tup xs] => some (.v (.int xs.length))
  | [.str s] => if s.length ≤ sizeMax then some (.v (.int s.length)) else none
  | [.scr ns] => some (.v (.int ns.length))
  | _ => none
def fSum : List Val → Option RV
  | [.lst xs] => match ints? xs with
    | some ns => some (.v (.int ns.sum))
    | none => none
  | _ => none
def fGcd : List Val → Option RV
  | [.int i, .int j] => some (.v (.int ((Nat.gcd i.natAbs j.natAbs : Nat) : Int)))
  | _ => none
def fList : List Val → Option RV
  | [.lst xs] => some (.own (.lst xs))
  | [.tup xs] => some (.own (.lst xs))
  | _ => none
def fTuple : List Val → Option RV
  | [.lst xs] => some (.v (.tup xs))
  | [.tup xs] => some (.v (.tup xs))
  | _ => none
@[simp] theorem fAbs_int (i : Int) : fAbs [.int i] = some (.v (.int (if i < 0 then -i else i))) := rfl
@[simp] theorem fInt_int (i : Int) : fInt [.int i] = some (.v (.int i)) := rfl
@[simp] theorem fInt_bl (b : Bool) : fInt [.bl b] = some (.v (.int (if b then 1 else 0))) := rfl
@[simp] theorem fMin2_int (i j : Int) : fMin2 [.int i, .int j] = some (.v (.int (if j < i then j else i))) := rfl
@[simp] theorem fMax2_int (i j : Int) : fMax2 [.int i, .int j] = some (.v (.int (if j > i then j else i))) := rfl
@[simp] theorem fLen_lst (xs : List Val) : fLen [.lst xs] = some (.v (.int xs.length)) := rfl
@[simp] theorem fLen_scr (ns : List Int) : fLen [.scr ns] = some (.v (.int ns.length)) := rfl
@[simp] theorem fLen_tup (xs : List Val) : fLen [.tup xs] = some (.v (.int xs.length)) := rfl
@[simp] theorem fLen_str (s : Str) : fLen [.str s] = if s.length ≤ sizeMax then some (.v (.int s.length)) else none := rfl
@[simp] theorem fSum_lst (xs : List Val) : fSum [.lst xs] = match ints? xs with | some ns => some (.v (.int ns.sum)) | none => none := rfl
@[simp] theorem fGcd_int (i j : Int) : fGcd [.int i, .int j] = some (.v (.int ((Nat.gcd i.natAbs j.natAbs : Nat) : Int))) := rfl
@[simp] theorem fList_lst (xs : List Val) : fList [.lst xs] = some (.own (.lst xs)) := rfl
@[simp] theorem fList_tup (xs : List Val) : fList [.tup xs] = some (.own (.lst xs)) := rfl
@[simp] theorem fTuple_lst (xs : List Val) : fTuple [.lst xs] = some (.v (.tup xs)) := rfl
@[simp] theorem fTuple_tup (xs : List Val) : fTuple [.tup xs] = some (.v (.tup xs)) := rfl
theorem cs_abs : CallS X (.builtin "abs") fAbs := by
  have cs : ∀ {xs z}, fAbs xs = some z → ∃ i, xs = [.int i] ∧ z = .v (.int (if i < 0 then -i else i)) := fun {xs z} h => by
    unfold fAbs at h; split at h <;> cases h; exact ⟨_, rfl, rfl⟩
  refine ⟨⟨_, call_abs, fun Zs H xs z us Q zd hf hx q => ?_⟩, fun xs i h => ?_⟩
  · obtain ⟨i, rfl, rfl⟩ := cs hf
    obtain ⟨u, rfl, h⟩ := hx.one
    exact ⟨i, by rw [h.int], q.val zd (.int _)⟩
  · obtain ⟨_, _, e⟩ := cs h; cases e
theorem cs_int : CallS X (.type "int") fInt := by
  have cs : ∀ {xs z}, fInt xs = some z → (∃ i, xs = [.int i] ∧ z = .v (.int i)) ∨ ∃ b : Bool, xs = [.bl b] ∧ z = .v (.int (if b then 1 else 0)) := fun {xs z} h => by
    unfold fInt at h; split at h <;> cases h
    · exact .inl ⟨_, rfl, rfl⟩
    · exact .inr ⟨_, rfl, rfl⟩
  refine ⟨⟨_, call_int1, fun Zs H xs z us Q zd hf hx q => ?_⟩, fun xs i h => ?_⟩
  · rcases cs hf with ⟨i, rfl, rfl⟩ | ⟨b, rfl, rfl⟩
    · obtain ⟨u, rfl, h⟩ := hx.one
      exact .inl ⟨i, by rw [h.int], q.val zd (.int _)⟩
    · obtain ⟨u, rfl, h⟩ := hx.one
      exact .inr ⟨b, by rw [h.bl], q.val zd (.int _)⟩
  · rcases cs h with ⟨_, _, e⟩ | ⟨_, _, e⟩ <;> cases e
theorem cs_min2 (hc : X.calm = true) : CallS X (.builtin "min") fMin2 := by
  have cs : ∀ {xs z}, fMin2 xs = some z → ∃ i j, xs = [.int i, .int j] ∧ z = .v (.int (if j < i then j else i)) := fun {xs z} h => by
    unfold fMin2 at h; split at h <;> cases h; exact ⟨_, _, rfl, rfl⟩
  refine ⟨⟨_, call_min2 hc, fun Zs H xs z us Q zd hf hx q => ?_⟩, fun xs i h => ?_⟩
  · obtain ⟨i, j, rfl, rfl⟩ := cs hf
    obtain ⟨u, w, rfl, h, k⟩ := hx.two
    exact ⟨i, j, by rw [h.int, k.int], q.val zd (.int _)⟩
  · obtain ⟨_, _, _, e⟩ := cs h; cases e
theorem cs_max2 (hc : X.calm = true) : CallS X (.builtin "max") fMax2 := by
  have cs : ∀ {xs z}, fMax2 xs = some z → ∃ i j, xs = [.int i, .int j] ∧ z = .v (.int (if j > i then j else i)) := fun {xs z} h => by
    unfold fMax2 at h; split at h <;> cases h; exact ⟨_, _, rfl, rfl⟩
  refine ⟨⟨_, call_max2 hc, fun Zs H xs z us Q zd hf hx q => ?_⟩, fun xs i h => ?_⟩
  · obtain ⟨i, j, rfl, rfl⟩ := cs hf
    obtain ⟨u, w, rfl, h, k⟩ := hx.two
    exact ⟨i, j, by rw [h.int, k.int], q.val zd (.int _)⟩
  · obtain ⟨_, _, _, e⟩ := cs h; cases e
theorem cs_gcd : CallS X (.builtin "math.gcd") fGcd := by
  have cs : ∀ {xs z}, fGcd xs = some z → ∃ i j : Int, xs = [.int i, .int j] ∧ z = .v (.int ((Nat.gcd i.natAbs j.natAbs : Nat) : Int)) := fun {xs z} h => by
    unfold fGcd at h; split at h <;> cases h; exact ⟨_, _, rfl, rfl⟩
  refine ⟨⟨_, cr_gcd, fun Zs H xs z us Q zd hf hx q => ?_⟩, fun xs i h => ?_⟩
  · obtain ⟨i, j, rfl, rfl⟩ := cs hf
    obtain ⟨u, w, rfl, h, k⟩ := hx.two
    exact ⟨i, j, by rw [h.int, k.int], q.val zd (.int _)⟩
  · obtain ⟨_, _, _, e⟩ := cs h; cases e
theorem cs_len : CallS X (.builtin "len") fLen := by
  have cs : ∀ {xs z}, fLen xs = some z → (∃ ys, xs = [.lst ys] ∧ z = .v (.int ys.length)) ∨ (∃ ys, xs = [.tup ys] ∧ z = .v (.int ys.length)) ∨ (∃ s : Str, xs = [.str s] ∧ s.length ≤ sizeLine ∧ z = .v (.int s.length)) ∨ ∃ ns : List Int, xs = [.scr ns] ∧ z = .v (.int ns.length) := fun {xs z} h => by
    rw [← szm]
    unfold fLen at h; split at h
    · cases h; exact .inl ⟨_, rfl, rfl⟩
    · cases h; exact .inr (.inl ⟨_, rfl, rfl⟩)
    · split at h <;> cases h
      exact .inr (.inr (.inl ⟨_, rfl, by assumption, rfl⟩))
    · cases h; exact .inr (.inr (.inr ⟨_, rfl, rfl⟩))
    · cases h
  refine ⟨⟨_, call_len, fun Zs H xs z us Q zd hf hx q => ?_⟩, fun xs i h => ?_⟩
  · rcases cs hf with ⟨ys, rfl, rfl⟩ | ⟨ys, rfl, rfl⟩ | ⟨s, rfl, hs, rfl⟩ | ⟨ns, rfl, rfl⟩
    · obtain ⟨u, rfl, h⟩ := hx.one
      obtain ⟨a, ws, rfl, hl, r⟩ := h.lst
      exact ⟨_, ys.length, rfl, .inl ⟨ws, .inl hl, r.length⟩, q.val zd (.int _)⟩
    · obtain ⟨u, rfl, h⟩ := hx.one
      obtain ⟨a, ws, rfl, hl, r⟩ := h.tup
      exact ⟨_, ys.length, rfl, .inr ⟨ws, hl, r.length⟩, q.val zd (.int _)⟩
    · obtain ⟨u, rfl, h⟩ := hx.one
      exact ⟨.str s, s.length, by rw [h.str], ⟨hs, rfl⟩, q.val zd (.int _)⟩
    · obtain ⟨u, rfl, h⟩ := hx.one
      obtain ⟨a, rfl, hl, r⟩ := h.scr
      exact ⟨_, ns.length, rfl, .inl ⟨_, hl, by rw [List.length_map]⟩, q.val zd (.int _)⟩
  · rcases cs h with ⟨_, _, e⟩ | ⟨_, _, e⟩ | ⟨_, _, _, e⟩ | ⟨_, _, e⟩ <;> cases e
theorem cs_sum (hc : X.calm = true) : CallS X (.builtin "sum") fSum := by
  have cs : ∀ {xs z}, fSum xs = some z → ∃ ns : List Int, xs = [.lst (ns.map Val.int)] ∧ z = .v (.int ns.sum) := fun {xs z} h => by
    unfold fSum at h; split at h
    · split at h
      · rename_i ns e
        cases h
        exact ⟨_, by rw [ints?_eq e], rfl⟩
      · cases h
    · cases h
  refine ⟨⟨_, cr_sum hc, fun Zs H xs z us Q zd hf hx q => ?_⟩, fun xs i h => ?_⟩
  · obtain ⟨ns, rfl, rfl⟩ := cs hf
    obtain ⟨u, rfl, h⟩ := hx.one
    obtain ⟨a, ws, rfl, hl, r⟩ := h.lst
    have := r.ints
    subst this
    exact ⟨a, ns, rfl, .inl hl, q.val zd (.int _)⟩
  · obtain ⟨_, _, e⟩ := cs h; cases e
theorem cs_list : CallS X (.type "list") fList := by
  have cs : ∀ {xs z}, fList xs = some z → ∃ ys, (xs = [.lst ys] ∨ xs = [.tup ys]) ∧ z = .own (.lst ys) := fun {xs z} h => by
    unfold fList at h; split at h <;> cases h
    · exact ⟨_, .inl rfl, rfl⟩
    · exact ⟨_, .inr rfl, rfl⟩
  refine ⟨⟨_, call_list_of, fun Zs H xs z us Q zd hf hx q => ?_⟩, fun xs i h => ?_⟩
  · obtain ⟨ys, rfl | rfl, rfl⟩ := cs hf
    · obtain ⟨u, rfl, h⟩ := hx.one
      obtain ⟨a, ws, rfl, hl, r⟩ := h.lst
      exact ⟨a, ws, rfl, .inl (.inl hl), fun l hl => q.lst zd r hl⟩
    · obtain ⟨u, rfl, h⟩ := hx.one
      obtain ⟨a, ws, rfl, hl, r⟩ := h.tup
      exact ⟨a, ws, rfl, .inr hl, fun l hl => q.lst zd r hl⟩
  · obtain ⟨_, _, e⟩ := cs h; cases e
theorem cs_tuple : CallS X (.type "tuple") fTuple := by
  have cs : ∀ {xs z}, fTuple xs = some z → ∃ ys, (xs = [.lst ys] ∨ xs = [.tup ys]) ∧ z = .v (.tup ys) := fun {xs z} h => by
    unfold fTuple at h; split at h <;> cases h
    · exact ⟨_, .inl rfl, rfl⟩
    · exact ⟨_, .inr rfl, rfl⟩
  refine ⟨⟨_, call_tuple_of, fun Zs H xs z us Q zd hf hx q => ?_⟩, fun xs i h => ?_⟩
  · obtain ⟨ys, rfl | rfl, rfl⟩ := cs hf
    · obtain ⟨u, rfl, h⟩ := hx.one
      obtain ⟨a, ws, rfl, hl, r⟩ := h.lst
      exact ⟨a, ws, rfl, .inl ⟨.inl hl, fun l hl => q.tup zd r hl⟩⟩
    · obtain ⟨u, rfl, h⟩ := hx.one
      obtain ⟨a, ws, rfl, hl, r⟩ := h.tup
      exact ⟨a, ws, rfl, .inr ⟨hl, q.val zd (.tup hl r)⟩⟩
  · obtain ⟨_, _, e⟩ := cs h; cases e
end

/-! ### equality -/
mutual
def veq : Val → Val → Bool
  | .non, .non => true
  | .bl a, .bl b => a == b
  | .bl a, .int j => (if a then 1 else 0) == j
  | .int i, .bl b => i == (if b then 1 else 0)
  | .int i, .int j => i == j
  | .str s, .str t => s == t
  | .lst xs, .lst ys => veqs xs ys
  | .tup xs, .tup ys => veqs xs ys
  | _, _ => false
def veqs : List Val → List Val → Bool
  | [], [] => true
  | x :: xs, y :: ys => veq x y && veqs xs ys
  | _, _ => false
end
/-- may be compared: no dicts, no objects, not too deep -/
def vok : Nat → Val → Bool
  | _, .non => true
  | _, .bl _ => true
  | _, .int _ => true
  | _, .str s => s.cps.all (· < 0x110000)
  | n + 1, .lst xs => xs.all (vok n)
  | n + 1, .tup xs => xs.all (vok n)
  | _, _ => false
def fEq (x y : Val) : Option RV := if vok 60 x && vok 60 y then some (.v (.bl (veq x y))) else none
def fNe (x y : Val) : Option RV := if vok 60 x && vok 60 y then some (.v (.bl (!veq x y))) else none
mutual
def toD : Val → PyData
  | .non => .none
  | .bl b => .bool b
  | .int i => .int i
  | .str s => .str s
  | .tup xs => .tuple (toDs xs)
  | .lst xs => .list (toDs xs)
  | .dic _ => .none
  | .obj _ _ => .none
  | .scr _ => .none
def toDs : List Val → List PyData
  | [] => []
  | x :: xs => toD x :: toDs xs
end
theorem toDs_length : ∀ xs : List Val, (toDs xs).length = xs.length
  | [] => rfl
  | x :: xs => by rw [toDs, List.length_cons, List.length_cons, toDs_length xs]
theorem vok_shape : ∀ (n : Nat) (x : Val), vok n x = true → (toD x).canLay0 = true ∧ (toD x).depth ≤ n
  | n, .non, _ => ⟨rfl, Nat.zero_le _⟩
  | n, .bl b, _ => ⟨rfl, Nat.zero_le _⟩
  | n, .int i, _ => ⟨rfl, Nat.zero_le _⟩
  | n, .str s, h => by
    refine ⟨?_, Nat.zero_le _⟩
    cases n <;> exact h
  | 0, .lst xs, h => by cases h
  | 0, .tup xs, h => by cases h
  | n, .dic _, h => by cases n <;> cases h
  | n, .scr _, h => by cases n <;> cases h
  | n, .obj _ _, h => by cases n <;> cases h
  | n + 1, .lst xs, h => by
    have k : PyData.canLayAll0 (toDs xs) = true ∧ PyData.depthAll (toDs xs) ≤ n := by
      have h' : xs.all (vok n) = true := h
      induction xs with
      | nil => exact ⟨rfl, Nat.zero_le _⟩
      | cons x xs ih =>
        rw [List.all_cons, Bool.and_eq_true] at h'
        obtain ⟨i1, i2⟩ := ih h'.2 h'.2
        obtain ⟨j1, j2⟩ := vok_shape n x h'.1
        rw [toDs, PyData.canLayAll0, PyData.depthAll, j1, i1]
        exact ⟨rfl, Nat.max_le.mpr ⟨j2, i2⟩⟩
    rw [toD, PyData.canLay0, PyData.depth]
    exact ⟨k.1, Nat.succ_le_succ k.2⟩
  | n + 1, .tup xs, h => by
    have k : PyData.canLayAll0 (toDs xs) = true ∧ PyData.depthAll (toDs xs) ≤ n := by
      have h' : xs.all (vok n) = true := h
      induction xs with
      | nil => exact ⟨rfl, Nat.zero_le _⟩
      | cons x xs ih =>
        rw [List.all_cons, Bool.and_eq_true] at h'
        obtain ⟨i1, i2⟩ := ih h'.2 h'.2
        obtain ⟨j1, j2⟩ := vok_shape n x h'.1
        rw [toDs, PyData.canLayAll0, PyData.depthAll, j1, i1]
        exact ⟨rfl, Nat.max_le.mpr ⟨j2, i2⟩⟩
    rw [toD, PyData.canLay0, PyData.depth]
    exact ⟨k.1, Nat.succ_le_succ k.2⟩
theorem vok_toD {x : Val} (h : vok 60 x = true) : SeqAt.shaped (toD x) = true := by
  obtain ⟨h1, h2⟩ := vok_shape 60 x h
  unfold SeqAt.shaped
  rw [h1, Bool.true_and]
  exact decide_eq_true (by omega)
theorem veqs_toD {n : Nat} (ih : ∀ (x y : Val), vok n x = true → vok n y = true → PyData.eqv (toD x) (toD y) = veq x y) : ∀ (xs ys : List Val), xs.all (vok n) = true → ys.all (vok n) = true → PyData.eqvAll (toDs xs) (toDs ys) = veqs xs ys
  | [], [], _, _ => rfl
  | [], _ :: _, _, _ => rfl
  | _ :: _, [], _, _ => rfl
  | x :: xs, y :: ys, h, k => by
    rw [List.all_cons, Bool.and_eq_true] at h k
    rw [toDs, toDs, PyData.eqvAll, veqs, ih x y h.1 k.1, veqs_toD ih xs ys h.2 k.2]
theorem veq_toD : ∀ (n : Nat) (x y : Val), vok n x = true → vok n y = true → PyData.eqv (toD x) (toD y) = veq x y
  | 0, x, y, h, k => by
    cases x <;> first | (cases h; done) | skip
    all_goals (cases y <;> first | (cases k; done) | skip)
    all_goals simp [toD, PyData.eqv, veq]
  | n + 1, x, y, h, k => by
    cases x <;> first | (cases h; done) | skip
    all_goals (cases y <;> first | (cases k; done) | skip)
    all_goals first
      | (simp [toD, PyData.eqv, veq]; done)
      | (rw [toD, toD, PyData.eqv, veq]; exact veqs_toD (veq_toD n) _ _ h k)
mutual
theorem RvV.dp {g : Gm} {Zs : Addr → Prop} {H : Hp} : ∀ (n : Nat) {x : Val} {u : V}, RvV g Zs H x u → vok n x = true → Dp g.K H u (toD x)
  | _, _, _, .non, _ => .non
  | _, _, _, .bl b, _ => .bl b
  | _, _, _, .int i, _ => .int i
  | _, _, _, .str s, _ => .str s
  | n + 1, _, _, .tup h r, k => .tup h (RvL.dp n r k)
  | n + 1, _, _, .lst h r, k => .lst h.sq (RvL.dp n r k)
  | 0, _, _, .tup _ _, k => by cases k
  | 0, _, _, .lst _ _, k => by cases k
  | n, _, _, .dic _ _ _, k => by cases n <;> cases k
  | n, _, _, .obj _ _ _ _, k => by cases n <;> cases k
  | n, _, _, .scr _, k => by cases n <;> cases k
theorem RvL.dp {g : Gm} {Zs : Addr → Prop} {H : Hp} : ∀ (n : Nat) {xs : List Val} {us : List V}, RvL g Zs H xs us → xs.all (vok n) = true → DpAll g.K H us (toDs xs)
  | _, _, _, .nil, _ => .nil
  | n, _, _, .cons h r, k => by
    rw [List.all_cons, Bool.and_eq_true] at k
    exact .cons (RvV.dp n h k.1) (RvL.dp n r k.2)
end
theorem RdV.dp {g : Gm} {Zs : Addr → Prop} {H : Hp} {x : Val} {u : V} (h : RdV g Zs H x u) (k : vok 60 x = true) : Dp g.K H u (toD x) := by
  rcases h with h | ⟨a, rfl, h⟩
  · exact h.dp 60 k
  · cases x with
    | lst xs =>
      obtain ⟨us, h, r⟩ := h
      exact .lst (SqL.of h) (r.dp 59 k)
    | dic kvs => cases k
    | obj c fs => cases k
    | _ => exact h.elim
theorem fEq_some {x y : Val} {z : RV} (h : fEq x y = some z) : vok 60 x = true ∧ vok 60 y = true ∧ z = .v (.bl (veq x y)) := by
  unfold fEq at h
  split at h
  · rename_i c
    rw [Bool.and_eq_true] at c
    cases h
    exact ⟨c.1, c.2, rfl⟩
  · cases h
theorem fNe_some {x y : Val} {z : RV} (h : fNe x y = some z) : vok 60 x = true ∧ vok 60 y = true ∧ z = .v (.bl (!veq x y)) := by
  unfold fNe at h
  split at h
  · rename_i c
    rw [Bool.and_eq_true] at c
    cases h
    exact ⟨c.1, c.2, rfl⟩
  · cases h
section
variable {X : Cx}
theorem os_eq (hu : X.A.units + 64 < cLine) : OpS X (compareOp .Eq) fEq := by
  refine ⟨⟨_, op_eqD hu, fun Zs H x y z u w Q zd hf hx hy q => ?_⟩, fun x y i h => ?_⟩
  · obtain ⟨h1, h2, rfl⟩ := fEq_some hf
    exact ⟨_, _, hx.dp h1, hy.dp h2, vok_toD h1, vok_toD h2, by rw [veq_toD 60 x y h1 h2]; exact q.val zd (.bl _)⟩
  · obtain ⟨_, _, e⟩ := fEq_some h; cases e
theorem os_ne (hu : X.A.units + 64 < cLine) : OpS X (compareOp .NotEq) fNe := by
  refine ⟨⟨_, op_neD hu, fun Zs H x y z u w Q zd hf hx hy q => ?_⟩, fun x y i h => ?_⟩
  · obtain ⟨h1, h2, rfl⟩ := fNe_some hf
    exact ⟨_, _, hx.dp h1, hy.dp h2, vok_toD h1, vok_toD h2, by rw [veq_toD 60 x y h1 h2]; exact q.val zd (.bl _)⟩
  · obtain ⟨_, _, e⟩ := fNe_some h; cases e
theorem bl_eq : ∀ x y z, fEq x y = some z → ∃ k, z = .v (.bl k) := fun x y z h => ⟨_, (fEq_some h).2.2⟩
theorem bl_ne : ∀ x y z, fNe x y = some z → ∃ k, z = .v (.bl k) := fun x y z h => ⟨_, (fNe_some h).2.2⟩
end

/-! ### is -/
def isN : Val → Bool
  | .non => true
  | _ => false
@[simp] theorem isN_non : isN .non = true := rfl
@[simp] theorem isN_bl (b : Bool) : isN (.bl b) = false := rfl
@[simp] theorem isN_int (i : Int) : isN (.int i) = false := rfl
@[simp] theorem isN_str (s : Str) : isN (.str s) = false := rfl
@[simp] theorem isN_tup (xs : List Val) : isN (.tup xs) = false := rfl
@[simp] theorem isN_lst (xs : List Val) : isN (.lst xs) = false := rfl
@[simp] theorem isN_dic (xs : List (Val × Val)) : isN (.dic xs) = false := rfl
@[simp] theorem isN_obj (c : Str) (fs : List (Str × Val)) : isN (.obj c fs) = false := rfl
def fIs : Val → Val → Option RV
  | x, .non => some (.v (.bl (isN x)))
  | .bl a, .bl b => some (.v (.bl (decide (a = b))))
  | _, _ => none
def fIsNot : Val → Val → Option RV
  | x, .non => some (.v (.bl (!isN x)))
  | .bl a, .bl b => some (.v (.bl (!decide (a = b))))
  | _, _ => none
@[simp] theorem fIs_non (x : Val) : fIs x .non = some (.v (.bl (isN x))) := by cases x <;> rfl
@[simp] theorem fIs_bl (a b : Bool) : fIs (.bl a) (.bl b) = some (.v (.bl (decide (a = b)))) := rfl
@[simp] theorem fIsNot_non (x : Val) : fIsNot x .non = some (.v (.bl (!isN x))) := by cases x <;> rfl
@[simp] theorem fIsNot_bl (a b : Bool) : fIsNot (.bl a) (.bl b) = some (.v (.bl (!decide (a = b)))) := rfl
theorem RdV.isN {g : Gm} {Zs : Addr → Prop} {H : Hp} {x : Val} {u : V} (h : RdV g Zs H x u) : decide (u = V.non) = isN x := by
  rcases h with h | ⟨a, rfl, h⟩
  · cases h <;> rfl
  · cases x <;> first | rfl | exact h.elim
section
variable {X : Cx}
theorem fIs_cases {x y : Val} {z : RV} (h : fIs x y = some z) : (y = .non ∧ z = .v (.bl (isN x))) ∨ ∃ a b : Bool, x = .bl a ∧ y = .bl b ∧ z = .v (.bl (decide (a = b))) := by
  unfold fIs at h
  split at h <;> cases h
  · exact .inl ⟨rfl, rfl⟩
  · exact .inr ⟨_, _, rfl, rfl, rfl⟩
theorem fIsNot_cases {x y : Val} {z : RV} (h : fIsNot x y = some z) : (y = .non ∧ z = .v (.bl (!isN x))) ∨ ∃ a b : Bool, x = .bl a ∧ y = .bl b ∧ z = .v (.bl (!decide (a = b))) := by
  unfold fIsNot at h
  split at h <;> cases h
  · exact .inl ⟨rfl, rfl⟩
  · exact .inr ⟨_, _, rfl, rfl, rfl⟩
theorem os_is : OpS X (compareOp .Is) fIs := by
  refine ⟨⟨_, op_isN.or op_isBl, fun Zs H x y z u w Q zd hf hx hy q => ?_⟩, fun x y i h => ?_⟩
  · rcases fIs_cases hf with ⟨rfl, rfl⟩ | ⟨a, b, rfl, rfl, rfl⟩
    · exact .inl ⟨hy.non, by rw [hx.isN]; exact q.val zd (.bl _)⟩
    · exact .inr ⟨a, b, hx.bl, hy.bl, q.val zd (.bl _)⟩
  · rcases fIs_cases h with ⟨_, e⟩ | ⟨_, _, _, _, e⟩ <;> cases e
theorem os_isNot : OpS X (compareOp .IsNot) fIsNot := by
  refine ⟨⟨_, op_notN.or op_notBl, fun Zs H x y z u w Q zd hf hx hy q => ?_⟩, fun x y i h => ?_⟩
  · rcases fIsNot_cases hf with ⟨rfl, rfl⟩ | ⟨a, b, rfl, rfl, rfl⟩
    · exact .inl ⟨hy.non, by rw [hx.isN]; exact q.val zd (.bl _)⟩
    · exact .inr ⟨a, b, hx.bl, hy.bl, q.val zd (.bl _)⟩
  · rcases fIsNot_cases h with ⟨_, e⟩ | ⟨_, _, _, _, e⟩ <;> cases e
theorem bl_is : ∀ x y z, fIs x y = some z → ∃ k, z = .v (.bl k) := fun x y z h => by
  rcases fIs_cases h with ⟨_, e⟩ | ⟨_, _, _, _, e⟩ <;> exact ⟨_, e⟩
theorem bl_isNot : ∀ x y z, fIsNot x y = some z → ∃ k, z = .v (.bl k) := fun x y z h => by
  rcases fIsNot_cases h with ⟨_, e⟩ | ⟨_, _, _, _, e⟩ <;> exact ⟨_, e⟩
end

/-! ### isinstance -/
inductive Bt where
  | non | bl | int | str | tup | lst | dic
  deriving DecidableEq
def Bt.name : Bt → String
  | .non => "NoneType"
  | .bl => "bool"
  | .int => "int"
  | .str => "str"
  | .tup => "tuple"
  | .lst => "list"
  | .dic => "dict"
def isB : Bt → Bt → Bool
  | .int, .bl => true
  | T, t => T == t
theorem isB_kit (T t : Bt) : kitB t.name T.name = some (isB T t) := by cases T <;> cases t <;> decide +kernel
def btOf : Val → Option Bt
  | .non => some .non
  | .bl _ => some .bl
  | .int _ => some .int
  | .str _ => some .str
  | .tup _ => some .tup
  | .lst _ => some .lst
  | .dic _ => some .dic
  | .obj _ _ => none
  | .scr _ => none
def fIsi (Ts : List Bt) (x : Val) : Option RV := match btOf x with
  | some t => some (.v (.bl (Ts.any fun T => isB T t)))
  | none => none
theorem fIsi_some {Ts : List Bt} {x : Val} {z : RV} (h : fIsi Ts x = some z) : ∃ t, btOf x = some t ∧ z = .v (.bl (Ts.any fun T => isB T t)) := by
  unfold fIsi at h
  split at h
  · cases h; exact ⟨_, by assumption, rfl⟩
  · cases h
theorem SqT.ty {K : PySem.W.Frag} {H : Hp} {a : Addr} {us : List V} (h : SqT K H a us) : TyX K H (.ref a) (.type "tuple") := by
  rcases h with (h | ⟨o, h⟩) | ⟨o, its, n, h1, h2, _⟩
  · exact .base (.tup h)
  · exact .fTuple h
  · exact .kTuple h1 h2
theorem RdV.ty {g : Gm} {Zs : Addr → Prop} {H : Hp} {x : Val} {u : V} {t : Bt} (h : RdV g Zs H x u) (e : btOf x = some t) : TyX g.K H u (.type t.name) := by
  cases x with
  | non => cases e; rw [h.non]; exact .base .non
  | bl b => cases e; rw [h.bl]; exact .base (.bl b)
  | int i => cases e; rw [h.int]; exact .base (.int i)
  | str s => cases e; rw [h.str]; exact .base (.str s)
  | tup xs =>
    cases e
    obtain ⟨a, us, rfl, hs, _⟩ := h.tup
    exact SqT.ty hs
  | lst xs =>
    cases e
    obtain ⟨a, us, rfl, hs | ⟨o, hs⟩, _⟩ := h.lst
    · exact .base (.lst hs)
    · exact .base (.frz hs)
  | dic kvs =>
    cases e
    obtain ⟨a, us, rfl, hs | ⟨o, hs⟩, _⟩ := h.dic
    · exact .base (.dK hs)
    · exact .fDict hs
  | obj c fs => cases e
  | scr ns => cases e
section
variable {X : Cx} {xc : Xc} {W : WX} {pos : Pos}
theorem se_isi {e : Expr} {fa : E} {n : Str} {T : Bt} {p p2 : Pos} (hm : X.mg "isinstance" = none) (hn : X.mg n = none) (ha : SE X xc W e fa) (hv : bootBuiltins n = some (.type T.name) := by first | rfl | decide +kernel)
    (hg : Gl X "isinstance" := by rfl) (hg2 : Gl X n := by rfl) (hnn : n ≠ "__name__" := by decide) (hnd : (n == ("__debug__" : Str)) = false := by decide) (he : starEach [e, .Name n p2] X.env = (false, eval e X.env) :: starEach [.Name n p2] X.env := by rfl) :
    SE X xc W (.Call (.Name "isinstance" p) [e, .Name n p2] [] pos) (eUn (fIsi [T]) fa) := by
  have hT : PE X (.Name n p2) (tC (.ty T.name)) := pe_bltn hg2 hn hv rfl hnn hnd
  refine PE_imp (pe_callB call_isi hg hm (by decide +kernel) (pa_cons ha (pa_cons hT pa_nil) he) (by decide) (by decide) he) fun σ H Q h => ?_
  refine un_end (r := fun u H1 Q => rIsi X.K [u, .ty T.name] H1 Q) (fun Zs H x z u Q zd hf hx q => ?_) (fun x i h => ?_) h
  · obtain ⟨t, h1, rfl⟩ := fIsi_some hf
    refine ⟨u, .ty T.name, _, _, isB T t, rfl, .ty _, hx.ty h1, kit_ty (isB_kit T t), ?_⟩
    simp only [List.any_cons, List.any_nil, Bool.or_false] at q
    exact q.val zd (.bl _)
  · obtain ⟨t, _, e⟩ := fIsi_some h; cases e
theorem kitAny_bt {K : PySem.W.Frag} (t : Bt) : ∀ Ts : List Bt, PySem.W.kitAny K (.type t.name) (Ts.map fun T => Value.type T.name) = some (Ts.any fun T => isB T t)
  | [] => kitAny_nil
  | T :: Ts => by
    rw [List.map_cons, List.any_cons]
    refine kitAny_cons (kit_ty (isB_kit T t)) (fun h => ?_) fun h => ?_
    · rw [h, Bool.false_or]; exact kitAny_bt t Ts
    · rw [h, Bool.true_or]
/-- isinstance(x, (int, str, ..)) -/
theorem se_isis {e : Expr} {fa : E} {ns : List Expr} {Ts : List Bt} {p : Pos} {k : Nat} {p2 : Pos} (hm : X.mg "isinstance" = none) (ha : SE X xc W e fa)
    (hT : PA X ns (fun _ H Q => Q (Ts.map fun T => V.ty T.name) H)) (hz : Ts.length ≤ 60 := by decide) (hg : Gl X "isinstance" := by rfl) (he : starEach [e, .Tuple ns k p2] X.env = (false, eval e X.env) :: starEach [.Tuple ns k p2] X.env := by rfl) :
    SE X xc W (.Call (.Name "isinstance" p) [e, .Tuple ns k p2] [] pos) (eUn (fIsi Ts) fa) := by
  refine PE_imp (pe_callB call_isiT hg hm (by decide +kernel) (pa_cons ha (pa_cons (pe_tup hT) pa_nil) he) (by decide) (by decide) he) fun σ H Q h => ?_
  refine un_end (r := fun u H1 Q => (Ts.map fun T => V.ty T.name).length ≤ sizeLine ∧ ∀ p, H1 p = none → rIsiT X.K [u, .ref p] (upd H1 p (.tup (Ts.map fun T => V.ty T.name))) Q) (fun Zs H x z u Q zd hf hx q => ?_) (fun x i h => ?_) h
  · obtain ⟨t, h1, rfl⟩ := fIsi_some hf
    refine ⟨by rw [sizeLine_eq, List.length_map]; omega, fun p hp => ⟨u, p, _, _, _, _, rfl, upd_same, ?_, RdV.ty (g := gX X) (Zs := Zs) ?_ h1, kitAny_bt t Ts, q _ Zs _ (Ext.new zd hp) (.bl _)⟩⟩
    · clear hz h q hT hf
      induction Ts with
      | nil => exact .nil
      | cons T Ts ih => exact .cons (.ty _) ih
    · rcases hx with hx | ⟨a, rfl, hx⟩
      · exact .inl (hx.ext (Ext.new zd hp) (fun _ z => z.elim))
      · exact .inr ⟨a, rfl, hx.ext (Ext.new zd hp) (fun _ z => z.elim) (fun z => z)⟩
  · obtain ⟨t, _, e⟩ := fIsi_some h; cases e
end
end Z
/-! Z6: items, slices, in. -/
namespace Z
open PySem L2 PySem.Spec
theorem atV_at {α : Type} {xs : List α} {i : Int} : atV xs i = atI xs i := by
  unfold atV atI ixN
  by_cases h : 0 ≤ i
  · rw [if_pos h, if_pos h]
    by_cases k : i < (xs.length : Int)
    · rw [if_pos k]; rfl
    · rw [if_neg k]
      exact List.getElem?_eq_none_iff.mpr (by omega)
  · rw [if_neg h, if_neg h]
    by_cases k : -(xs.length : Int) ≤ i
    · rw [if_pos k, if_pos (by omega)]; rfl
    · rw [if_neg k, if_neg (by omega)]; rfl
def fIx : Val → Val → Option RV
  | .lst xs, .int i => (atV xs i).map .v
  | .tup xs, .int i => (atV xs i).map .v
  | .str s, .int i => if s.length ≤ sizeMax then (atV s.cps.toList i).map fun c => .v (.str ⟨#[c]⟩) else none
  | .scr ns, .int i => (atV (ns.map Val.int) i).map .v
  | _, _ => none
@[simp] theorem fIx_lst (xs : List Val) (i : Int) : fIx (.lst xs) (.int i) = (atV xs i).map .v := rfl
@[simp] theorem fIx_scr (ns : List Int) (i : Int) : fIx (.scr ns) (.int i) = (atV (ns.map Val.int) i).map .v := rfl
@[simp] theorem fIx_tup (xs : List Val) (i : Int) : fIx (.tup xs) (.int i) = (atV xs i).map .v := rfl
theorem RvL.atV {g : Gm} {Zs : Addr → Prop} {H : Hp} {xs : List Val} {us : List V} {i : Int} {x : Val} (r : RvL g Zs H xs us) (h : atV xs i = some x) : ∃ w, atI us i = some w ∧ RvV g Zs H x w := by
  rw [← atV_at]
  unfold Z.atV at h ⊢
  rw [← r.length]
  split at h
  · rename_i c
    rw [if_pos c]
    exact r.get h
  · rename_i c
    rw [if_neg c]
    split at h
    · rename_i c2
      rw [if_pos c2]
      exact r.get h
    · cases h
section
variable {X : Cx} {xc : Xc} {W : WX} {pos : Pos}
theorem fIx_cases {x y : Val} {z : RV} (h : fIx x y = some z) : (∃ xs i w, x = .lst xs ∧ y = .int i ∧ Z.atV xs i = some w ∧ z = .v w) ∨ (∃ xs i w, x = .tup xs ∧ y = .int i ∧ Z.atV xs i = some w ∧ z = .v w) ∨
    (∃ (s : Str) (i : Int) (c : Nat), x = .str s ∧ y = .int i ∧ s.length ≤ sizeLine ∧ Z.atV s.cps.toList i = some c ∧ z = .v (.str ⟨#[c]⟩)) ∨ ∃ ns i w, x = .scr ns ∧ y = .int i ∧ Z.atV (ns.map Val.int) i = some w ∧ z = .v w := by
  rw [← szm]
  unfold fIx at h
  split at h
  · rename_i xs i
    cases e : Z.atV xs i with
    | none => rw [e] at h; cases h
    | some w => rw [e] at h; cases h; exact .inl ⟨_, _, _, rfl, rfl, e, rfl⟩
  · rename_i xs i
    cases e : Z.atV xs i with
    | none => rw [e] at h; cases h
    | some w => rw [e] at h; cases h; exact .inr (.inl ⟨_, _, _, rfl, rfl, e, rfl⟩)
  · rename_i s i
    split at h
    · cases e : Z.atV s.cps.toList i with
      | none => rw [e] at h; cases h
      | some w => rw [e] at h; cases h; exact .inr (.inr (.inl ⟨_, _, _, rfl, rfl, by assumption, e, rfl⟩))
    · cases h
  · rename_i ns i
    cases e : Z.atV (ns.map Val.int) i with
    | none => rw [e] at h; cases h
    | some w => rw [e] at h; cases h; exact .inr (.inr (.inr ⟨_, _, _, rfl, rfl, e, rfl⟩))
  · cases h
theorem se_ix {a b : Expr} {fa fb : E} (ha : SE X xc W a fa) (hb : SE X xc W b fb) (hs : PlainIx b := by exact fun _ _ => rfl) : SE X xc W (.Subscript a b pos) (eOp fIx fa fb) := by
  refine PE_imp (pe_ix ix_seq ha hb hs) fun σ H Q h => op_end (fun Zs H x y z u w Q zd hf hx hy q => ?_) (fun x y i h => ?_) h
  · rcases fIx_cases hf with ⟨xs, i, v, rfl, rfl, e, rfl⟩ | ⟨xs, i, v, rfl, rfl, e, rfl⟩ | ⟨s, i, c, rfl, rfl, hs, e, rfl⟩ | ⟨ns, i, v, rfl, rfl, e, rfl⟩
    · obtain ⟨a, us, rfl, hl, r⟩ := hx.lst
      obtain ⟨v', e', rv⟩ := r.atV e
      exact .inl ⟨a, us, i, v', rfl, hy.int, .inl hl, e', q.val zd rv⟩
    · obtain ⟨a, us, rfl, hl, r⟩ := hx.tup
      obtain ⟨v', e', rv⟩ := r.atV e
      exact .inr (.inl ⟨a, us, i, v', rfl, hy.int, hl, e', q.val zd rv⟩)
    · exact .inr (.inr ⟨s, i, c, hx.str, hy.int, hs, by rw [← atV_at]; exact e, q.val zd (.str _)⟩)
    · obtain ⟨a, rfl, hl, r⟩ := hx.scr
      obtain ⟨v', e', rv⟩ := r.atV e
      exact .inl ⟨a, _, i, v', rfl, hy.int, hl, e', q.val zd rv⟩
  · rcases fIx_cases h with ⟨_, _, _, _, _, _, e⟩ | ⟨_, _, _, _, _, _, e⟩ | ⟨_, _, _, _, _, _, _, e⟩ | ⟨_, _, _, _, _, _, e⟩ <;> cases e

/-! ### slices -/
def cutG {α : Type} (xs : List α) (lo hi : Option Int) : List α := (xs.drop (HT.sIx xs.length 0 lo)).take (HT.sIx xs.length xs.length hi - HT.sIx xs.length 0 lo)
theorem RvL.cut {g : Gm} {Zs : Addr → Prop} {H : Hp} {xs : List Val} {us : List V} (r : RvL g Zs H xs us) (lo hi : Option Int) : RvL g Zs H (cutG xs lo hi) (cutV us lo hi) := by
  unfold cutG cutV
  rw [r.length]
  exact (r.drop _).take _
def fSl : Val → Option Int → Option Int → Option RV
  | .lst xs, l, u => some (.own (.lst (cutG xs l u)))
  | .tup xs, l, u => some (.v (.tup (cutG xs l u)))
  | .str s, l, u => if s.length ≤ sizeMax then some (.v (.str (cutS s l u))) else none
  | .scr ns, l, u => some (.own (.lst (cutG (ns.map Val.int) l u)))
  | _, _, _ => none
@[simp] theorem fSl_lst (xs : List Val) (l u : Option Int) : fSl (.lst xs) l u = some (.own (.lst (cutG xs l u))) := rfl
@[simp] theorem fSl_scr (ns : List Int) (l u : Option Int) : fSl (.scr ns) l u = some (.own (.lst (cutG (ns.map Val.int) l u))) := rfl
@[simp] theorem fSl_tup (xs : List Val) (l u : Option Int) : fSl (.tup xs) l u = some (.v (.tup (cutG xs l u))) := rfl
@[simp] theorem fSl_str (s : Str) (l u : Option Int) : fSl (.str s) l u = if s.length ≤ sizeMax then some (.v (.str (cutS s l u))) else none := rfl
abbrev relO : (Addr → Prop) → Hp → Env → Option Int → Option Int → Prop := fun _ _ _ k b => k = b
def rdO (g : Gm) (xc : Xc) (W : WX) (f : Env → Rs (Option Int)) : TO := fun σ H Q => ∃ pa Zs env, RE g xc pa Zs H σ env ∧ End g xc ⟨pa, Zs, H, σ, env⟩ relO (f env) W Q
abbrev SO (X : Cx) (xc : Xc) (W : WX) (e : Option Expr) (f : Option E) : Prop := PO X e (rdO (gX X) xc W (oInt f))
theorem PO_imp {X : Cx} {e : Option Expr} {t t' : TO} (h : PO X e t) (k : ∀ σ H Q, t' σ H Q → t σ H Q) : PO X e t' := ⟨fun pins s σ H Q I q => h.run pins s σ H Q I (k σ H Q q)⟩
theorem so_none : SO X xc W none none := PO_imp po_none fun σ H Q ⟨pa, Zs, env, re, h⟩ => h none Zs H (PostE.refl re) rfl
theorem so_some {e : Expr} {f : E} (h : SE X xc W e f) : SO X xc W (some e) (some f) := by
  refine PO_imp (po_some h) fun σ H Q h => ?_
  obtain ⟨pa, Zs, env, re, h⟩ := h
  refine ⟨pa, Zs, env, re, h.cont fun r e1 u Z1 H1 _ p1 q1 h => ?_⟩
  cases r with
  | v x =>
    cases q1 with
    | int i => exact ⟨i, rfl, h _ Z1 H1 p1 rfl⟩
    | _ => exact h.elim
  | own x => exact h.elim
  | bor i => exact h.elim
theorem fSl_cases {x : Val} {l u : Option Int} {z : RV} (h : fSl x l u = some z) : (∃ xs, x = .lst xs ∧ z = .own (.lst (cutG xs l u))) ∨ (∃ xs, x = .tup xs ∧ z = .v (.tup (cutG xs l u))) ∨ (∃ s : Str, x = .str s ∧ s.length ≤ sizeLine ∧ z = .v (.str (cutS s l u))) ∨ ∃ ns, x = .scr ns ∧ z = .own (.lst (cutG (ns.map Val.int) l u)) := by
  rw [← szm]
  unfold fSl at h
  split at h
  · cases h; exact .inl ⟨_, rfl, rfl⟩
  · cases h; exact .inr (.inl ⟨_, rfl, rfl⟩)
  · split at h <;> cases h
    exact .inr (.inr (.inl ⟨_, rfl, by assumption, rfl⟩))
  · cases h; exact .inr (.inr (.inr ⟨_, rfl, rfl⟩))
  · cases h
theorem se_slice {a : Expr} {lo hi : Option Expr} {fa : E} {fl fh : Option E} {p2 : Pos} (ha : SE X xc W a fa) (hl : SO X xc W lo fl) (hh : SO X xc W hi fh) : SE X xc W (.Subscript a (.Slice lo hi none p2) pos) (eSl fSl fa fl fh) := by
  refine PE_imp (pe_slice (sl_list.or (sl_tupA.or sl_str)) ha hl hh) fun σ H Q h => ?_
  obtain ⟨pa, Zs, env, re, h⟩ := h
  refine ⟨pa, Zs, env, re, h.cont fun r1 e1 u1 Z1 H1 _ p1 q1 h => ?_⟩
  refine ⟨pa, Z1, e1, p1.re, (h.shift p1 (R2 := relE (gX X) ⟨pa, Zs, H, σ, env⟩) fun _ _ _ _ _ _ r => r).cont (R1 := relO) fun l e2 l' Z2 H2 _ p2 q2 h => ?_⟩
  cases q2
  refine ⟨pa, Z2, e2, p2.re, (h.shift p2 (R2 := relE (gX X) ⟨pa, Zs, H, σ, env⟩) fun _ _ _ _ _ _ r => r).cont (R1 := relO) fun u e3 u' Z3 H3 _ p3 q3 h => ?_⟩
  cases q3
  have q1' := (q1.step p1.re p2).step p2.re p3
  cases hx : peek e3 r1 with
  | none => rw [hx] at h; exact h.elim
  | some x =>
    rw [hx, opt_some, Rs.bind_ok] at h
    cases h3 : fSl x l u with
    | none => rw [h3] at h; exact h.elim
    | some z =>
      rw [h3, opt_some] at h
      have h' : End (gX X) xc ⟨pa, Z2, H2, σ, e2⟩ (relE (gX X) ⟨pa, Z2, H2, σ, e2⟩) (.ok z e3) W Q := h.shift (PostE.refl p2.re) fun a b Zx Hx e _ r => (r.back (s := ⟨pa, Z1, H1, σ, e1⟩) p2).back (s := ⟨pa, Zs, H, σ, env⟩) p1
      have rx := peek_rd p3.re q1' hx
      rcases fSl_cases h3 with ⟨xs, rfl, rfl⟩ | ⟨xs, rfl, rfl⟩ | ⟨s, rfl, hs, rfl⟩ | ⟨ns, rfl, rfl⟩
      · obtain ⟨a, us, rfl, hl, r⟩ := rx.lst
        have A := Ans.of h' p3 (fun i e => by cases e)
        exact .inl ⟨a, us, rfl, .inl hl, fun p hp => A.lst p3.re.zd (r.cut l u) hp⟩
      · obtain ⟨a, us, rfl, hl, r⟩ := rx.tup
        have A := Ans.of h' p3 (fun i e => by cases e)
        refine .inr (.inl ⟨a, us, rfl, hl, fun hw => A.val p3.re.zd (.tup hl ?_), fun hw p hp => A.tup p3.re.zd (r.cut l u) hp⟩)
        have e : cutG xs l u = xs := by
          unfold cutG
          rw [r.length, hw.1, hw.2, List.drop_zero, Nat.sub_zero, ← r.length, List.take_length]
        rw [e]
        exact r
      · have A := Ans.of h' p3 (fun i e => by cases e)
        exact .inr (.inr ⟨s, rx.str, hs, A.val p3.re.zd (.str _)⟩)
      · obtain ⟨a, rfl, hl, r⟩ := rx.scr
        have A := Ans.of h' p3 (fun i e => by cases e)
        exact .inl ⟨a, _, rfl, hl, fun p hp => A.lst p3.re.zd (r.cut l u) hp⟩

/-! ### in -/
def isFlat : Val → Bool
  | .non => true
  | .bl _ => true
  | .int _ => true
  | .str _ => true
  | _ => false
def fIn : Val → Val → Option RV
  | x, .lst ys => if isFlat x && ys.all isFlat then some (.v (.bl (ys.any fun y => veq y x))) else none
  | x, .tup ys => if isFlat x && ys.all isFlat then some (.v (.bl (ys.any fun y => veq y x))) else none
  | _, _ => none
def fNotIn : Val → Val → Option RV
  | x, .lst ys => if isFlat x && ys.all isFlat then some (.v (.bl (!ys.any fun y => veq y x))) else none
  | x, .tup ys => if isFlat x && ys.all isFlat then some (.v (.bl (!ys.any fun y => veq y x))) else none
  | _, _ => none
theorem RvV.flt1 {g : Gm} {Zs : Addr → Prop} {H : Hp} {x : Val} {u : V} (h : RvV g Zs H x u) (f : isFlat x = true) : flatV u = true := by
  cases h <;> first | rfl | cases f
theorem RvL.flt1 {g : Gm} {Zs : Addr → Prop} {H : Hp} : ∀ {xs : List Val} {us : List V}, RvL g Zs H xs us → xs.all isFlat = true → us.all flatV = true
  | _, _, .nil, _ => rfl
  | _, _, .cons h r, k => by
    rw [List.all_cons, Bool.and_eq_true] at k ⊢
    exact ⟨h.flt1 k.1, RvL.flt1 r k.2⟩
theorem RvV.eqf {g : Gm} {Zs : Addr → Prop} {H : Hp} {x y : Val} {u w : V} (h : RvV g Zs H x u) (k : RvV g Zs H y w) (f : isFlat x = true) (f2 : isFlat y = true) : eqV u w = veq x y := by
  cases h <;> first | (cases f; done) | skip
  all_goals (cases k <;> first | (cases f2; done) | simp [eqV, veq])
theorem RvL.inf {g : Gm} {Zs : Addr → Prop} {H : Hp} {x : Val} {u : V} (h : RvV g Zs H x u) (f : isFlat x = true) : ∀ {ys : List Val} {us : List V}, RvL g Zs H ys us → ys.all isFlat = true → inV u us = ys.any fun y => veq y x
  | _, _, .nil, _ => rfl
  | _, _, .cons k r, ka => by
    rw [List.all_cons, Bool.and_eq_true] at ka
    have ih := RvL.inf h f r ka.2
    unfold inV at ih ⊢
    rw [List.any_cons, List.any_cons, ih, k.eqf h ka.1 f]
theorem RdV.flt1 {g : Gm} {Zs : Addr → Prop} {H : Hp} {x : Val} {u : V} (h : RdV g Zs H x u) (f : isFlat x = true) : RvV g Zs H x u := by
  rcases h with h | ⟨a, rfl, h⟩
  · exact h
  · cases x <;> first | (cases f; done) | exact h.elim
theorem fIn_cases {n : Bool} {x y : Val} {z : RV} (h : (if n then fNotIn x y else fIn x y) = some z) : ∃ ys, (y = .lst ys ∨ y = .tup ys) ∧ isFlat x = true ∧ ys.all isFlat = true ∧ z = .v (.bl (if n then !(ys.any fun y => veq y x) else ys.any fun y => veq y x)) := by
  cases n
  · simp only [Bool.false_eq_true, if_false] at h ⊢
    unfold fIn at h
    split at h
    · split at h <;> cases h
      rename_i c
      rw [Bool.and_eq_true] at c
      exact ⟨_, .inl rfl, c.1, c.2, rfl⟩
    · split at h <;> cases h
      rename_i c
      rw [Bool.and_eq_true] at c
      exact ⟨_, .inr rfl, c.1, c.2, rfl⟩
    · cases h
  · simp only [if_true] at h ⊢
    unfold fNotIn at h
    split at h
    · split at h <;> cases h
      rename_i c
      rw [Bool.and_eq_true] at c
      exact ⟨_, .inl rfl, c.1, c.2, rfl⟩
    · split at h <;> cases h
      rename_i c
      rw [Bool.and_eq_true] at c
      exact ⟨_, .inr rfl, c.1, c.2, rfl⟩
    · cases h
theorem in_any {n : Bool} {F : Value → Value → Sem Value} (hF : OpR X F (rIn X.K n)) : OpS X F (fun x y => if n then fNotIn x y else fIn x y) := by
  refine ⟨⟨_, hF, fun Zs H x y z u w Q zd hf hx hy q => ?_⟩, fun x y i h => ?_⟩
  · obtain ⟨ys, hy', f1, f2, rfl⟩ := fIn_cases hf
    have hx' := hx.flt1 f1
    rcases hy' with rfl | rfl
    · obtain ⟨a, us, rfl, hl, r⟩ := hy.lst
      refine ⟨a, us, rfl, .inl (.inl hl), hx'.flt1 f1, r.flt1 f2, ?_⟩
      rw [RvL.inf hx' f1 r f2]
      exact q.val zd (.bl _)
    · obtain ⟨a, us, rfl, hl, r⟩ := hy.tup
      refine ⟨a, us, rfl, .inr hl, hx'.flt1 f1, r.flt1 f2, ?_⟩
      rw [RvL.inf hx' f1 r f2]
      exact q.val zd (.bl _)
  · obtain ⟨_, _, _, _, e⟩ := fIn_cases h; cases e
theorem os_in : OpS X (compareOp .In) fIn := in_any (n := false) op_in_seq
theorem os_notIn : OpS X (compareOp .NotIn) fNotIn := in_any (n := true) op_notIn_seq
theorem bl_in : ∀ x y z, fIn x y = some z → ∃ k, z = .v (.bl k) := fun x y z h => by
  obtain ⟨_, _, _, _, e⟩ := fIn_cases (n := false) h; exact ⟨_, e⟩
theorem bl_notIn : ∀ x y z, fNotIn x y = some z → ∃ k, z = .v (.bl k) := fun x y z h => by
  obtain ⟨_, _, _, _, e⟩ := fIn_cases (n := true) h; exact ⟨_, e⟩
end
end Z
/-! Z7: statements. -/
namespace Z
open PySem L2 PySem.Spec
/-- a statement's end -/
def EndF (g : Gm) (s : At) (Zt : Addr → Prop) (H' : Hp) (σ' : L2.St) (env' : Env) (D : Ends) : Fl → Prop
  | .nx => D.nx σ' H'
  | .bk => D.bk σ' H'
  | .ct => D.ct σ' H'
  | .rt r => ∀ u, RR g s Zt H' σ' env' r u → D.rt u H'
def EndS (g : Gm) (xc : Xc) (s : At) (res : Rs Fl) (W : WX) (D : Ends) : Prop :=
  match res with
  | .ok f e1 => ∀ σ1 Z1 H1, Post g xc s.pa s.Zs s.H s.σ s.env Z1 H1 σ1 e1 → EndF g s Z1 H1 σ1 e1 D f
  | .ex c fs e1 => ∀ C d fv σ1 Z1 H1, Post g xc s.pa s.Zs s.H s.σ s.env Z1 H1 σ1 e1 → g.mg c = some (.ref C) → H1 d = some (.xd fv) → RvF g Z1 H1 fs fv → W (.ref C) (some d) σ1 H1
  | .no => False
def rdS (g : Gm) (xc : Xc) (W : WX) (f : S) : TS := fun D σ H => ∃ pa Zs env, RE g xc pa Zs H σ env ∧ EndS g xc ⟨pa, Zs, H, σ, env⟩ (f env) W D
abbrev SS (X : Cx) (xc : Xc) (W : WX) (st : Stmt) (f : S) : Prop := PS X st (rdS (gX X) xc W f)
abbrev SB (X : Cx) (xc : Xc) (W : WX) (st : List Stmt) (f : S) : Prop := PSs X st (rdS (gX X) xc W f)
theorem PS_imp {X : Cx} {e : Stmt} {t t' : TS} (h : PS X e t) (k : ∀ D σ H, t' D σ H → t D σ H) : PS X e t' := ⟨fun pins s σ H D I q => h.run pins s σ H D I (k D σ H q)⟩
theorem PSs_imp {X : Cx} {e : List Stmt} {t t' : TS} (h : PSs X e t) (k : ∀ D σ H, t' D σ H → t D σ H) : PSs X e t' := ⟨fun pins s σ H D I q => h.run pins s σ H D I (k D σ H q)⟩
section
variable {α β : Type} {g : Gm} {xc : Xc} {s : At} {W : WX}
/-- an expression ahead of what goes on -/
theorem EndS.cont {R1 : (Addr → Prop) → Hp → Env → α → β → Prop} {x : Rs α} {f : α → Env → Rs Fl} {D : Ends} {R : β → Hp → Prop} (h : EndS g xc s (x.bind f) W D)
    (k : ∀ a e1 b Z1 H1, x = .ok a e1 → PostE g xc s.pa s.Zs s.H s.σ s.env Z1 H1 e1 → R1 Z1 H1 e1 a b → EndS g xc s (f a e1) W D → R b H1) : End g xc s R1 x W R := by
  cases x with
  | ok a e1 => exact fun b Z1 H1 p r => k a e1 b Z1 H1 rfl p r h
  | ex c fs e1 => exact fun C d fv Z1 H1 p => h C d fv s.σ Z1 H1 p.toPost
  | no => exact h
theorem RR.backS {Z1 Z2 : Addr → Prop} {H1 H2 : Hp} {σ1 σ2 : L2.St} {e1 e2 : Env} (p : Post g xc s.pa s.Zs s.H s.σ s.env Z1 H1 σ1 e1) {r : RV} {u : V} (h : RR g ⟨s.pa, Z1, H1, σ1, e1⟩ Z2 H2 σ2 e2 r u) : RR g s Z2 H2 σ2 e2 r u := by
  cases r with
  | v x => exact h
  | own x =>
    obtain ⟨a, e, nz, hl, no, fr⟩ := h
    refine ⟨a, e, nz, hl, no, ?_⟩
    rcases fr with fr | fr
    · exact p.ow a fr
    · exact p.ext.free fr
  | bor i => exact h
theorem EndS.shift {res : Rs Fl} {D : Ends} {Z1 : Addr → Prop} {H1 : Hp} {σ1 : L2.St} {e1 : Env} (h : EndS g xc s res W D) (p : Post g xc s.pa s.Zs s.H s.σ s.env Z1 H1 σ1 e1) : EndS g xc ⟨s.pa, Z1, H1, σ1, e1⟩ res W D := by
  cases res with
  | ok f e2 =>
    intro σ2 Z2 H2 q
    have := h σ2 Z2 H2 (p.trans q)
    cases f with
    | nx => exact this
    | bk => exact this
    | ct => exact this
    | rt r => exact fun u hr => this u (hr.backS p)
  | ex c fs e2 => exact fun C d fv σ2 Z2 H2 q => h C d fv σ2 Z2 H2 (p.trans q)
  | no => exact h
end
section
variable {X : Cx} {xc : Xc} {W : WX} {pos : Pos}
theorem sb_nil : SB X xc W [] sNil := PSs_imp pss_nil fun D σ H ⟨pa, Zs, env, re, h⟩ => h σ Zs H (Post.refl re)
theorem seq_end {fa fb : S} {D : Ends} {σ : L2.St} {H : Hp} (h : rdS (gX X) xc W (sSeq fa fb) D σ H) : tSeq (rdS (gX X) xc W fa) (rdS (gX X) xc W fb) D σ H := by
  obtain ⟨pa, Zs, env, re, h⟩ := h
  refine ⟨pa, Zs, env, re, ?_⟩
  unfold sSeq at h
  cases ha : fa env with
  | no => rw [ha] at h; exact h
  | ex c fs e1 => rw [ha] at h; exact h
  | ok f e1 =>
    rw [ha, Rs.bind_ok] at h
    cases f with
    | nx => exact fun σ1 Z1 H1 p => ⟨pa, Z1, e1, p.re, EndS.shift h p⟩
    | bk => exact h
    | ct => exact h
    | rt r => exact h
theorem sb_cons {st : Stmt} {sts : List Stmt} {fa fb : S} (ha : SS X xc W st fa) (hb : SB X xc W sts fb) : SB X xc W (st :: sts) (sSeq fa fb) := PSs_imp (pss_cons ha hb) fun D σ H h => seq_end h
theorem sb_one {st : Stmt} {fa : S} (ha : SS X xc W st fa) : SB X xc W [st] fa := pss_one ha
theorem ss_pass : SS X xc W (.Pass pos) sPass := PS_imp ps_pass fun D σ H ⟨pa, Zs, env, re, h⟩ => h σ Zs H (Post.refl re)
theorem ss_brk : SS X xc W (.Break pos) sBrk := PS_imp ps_break fun D σ H ⟨pa, Zs, env, re, h⟩ => h σ Zs H (Post.refl re)
theorem ss_con : SS X xc W (.Continue pos) sCon := PS_imp ps_continue fun D σ H ⟨pa, Zs, env, re, h⟩ => h σ Zs H (Post.refl re)
theorem ss_exp {e : Expr} {fa : E} (ha : SE X xc W e fa) (hs : swapsWith e none pos.line X.env = pure false := by rfl) : SS X xc W (.Expr e pos) (sExp fa) := by
  refine PS_imp (ps_expr ha hs) fun D σ H h => ?_
  obtain ⟨pa, Zs, env, re, h⟩ := h
  exact ⟨pa, Zs, env, re, h.cont fun r e1 u Z1 H1 _ p1 q1 h => h σ Z1 H1 p1.toPost⟩
theorem ss_ret {e : Expr} {fa : E} (ha : SE X xc W e fa) : SS X xc W (.Return (some e) pos) (sRet fa) := by
  refine PS_imp (ps_ret ha) fun D σ H h => ?_
  obtain ⟨pa, Zs, env, re, h⟩ := h
  exact ⟨pa, Zs, env, re, h.cont fun r e1 u Z1 H1 _ p1 q1 h => h σ Z1 H1 p1.toPost u q1⟩
theorem ss_retN : SS X xc W (.Return none pos) sRetN := PS_imp ps_retN fun D σ H ⟨pa, Zs, env, re, h⟩ => h σ Zs H (Post.refl re) .non .non
theorem ss_if {c : Expr} {a b : List Stmt} {fc : T} {fa fb : S} (hc : ST X xc W c fc) (ha : SB X xc W a fa) (hb : SB X xc W b fb) : SS X xc W (.If c a b pos) (sIf fc fa fb) := by
  refine PS_imp (ps_if hc ha hb) fun D σ H h => ?_
  obtain ⟨pa, Zs, env, re, h⟩ := h
  refine ⟨pa, Zs, env, re, h.cont fun k e1 u Z1 H1 _ p1 q1 h => ?_⟩
  cases q1
  cases k with
  | true => exact ⟨pa, Z1, e1, p1.re, EndS.shift h p1.toPost⟩
  | false => exact ⟨pa, Z1, e1, p1.re, EndS.shift h p1.toPost⟩

/-! ### stores -/
theorem RE.put {g : Gm} {pa : List (Option Addr)} {Zs : Addr → Prop} {H : Hp} {σ : L2.St} {e : Env} {i : Nat} {s : Slot} {u : V} (re : RE g xc pa Zs H σ e) (hi : i < e.length) (np : ¬ Pinned (eget e i)) (hs : SlR g xc Zs H s (some (some u)))
    (ho : ∀ p x a, s = .own p x → u = .ref a → ¬ Owd e σ a) : RE g xc pa Zs H (σ.set i (some u)) (eput e i s) ∧ ∀ a, Owd (eput e i s) (σ.set i (some u)) a → Owd e σ a ∨ (u = .ref a ∧ ∃ p x, s = .own p x) := by
  have hi2 : i < σ.length := by rw [re.len]; exact hi
  have same : (σ.set i (some u))[i]? = some (some u) := by rw [List.getElem?_set_self hi2]
  have other : ∀ j, i ≠ j → (σ.set i (some u))[j]? = σ[j]? := fun j h => List.getElem?_set_ne h
  have own : ∀ j a, OwnAt (eput e i s) (σ.set i (some u)) j a → (i ≠ j ∧ OwnAt e σ j a) ∨ (i = j ∧ u = .ref a ∧ ∃ p x, s = .own p x) := fun j a ⟨p, x, h1, h2⟩ => by
    by_cases h : i = j
    · subst h
      rw [eget_eput_same e i s hi] at h1
      rw [same] at h2
      cases h2
      exact .inr ⟨rfl, rfl, p, x, h1⟩
    · rw [eget_eput_ne e i j s h] at h1
      rw [other j h] at h2
      exact .inl ⟨h, p, x, h1, h2⟩
  refine ⟨⟨by rw [List.length_set, eput_length]; exact re.len, fun j => ?_, fun j k a h1 h2 => ?_, fun j a h => ?_, re.zd⟩, fun a ⟨j, h⟩ => ?_⟩
  · by_cases h : i = j
    · subst h
      rw [eget_eput_same e i s hi, same]
      exact hs
    · rw [eget_eput_ne e i j s h, other j h]
      exact re.sl j
  · rcases own j a h1 with ⟨n1, h1⟩ | ⟨n1, e1, p, x, ex⟩
    · rcases own k a h2 with ⟨n2, h2⟩ | ⟨n2, e2, p, x, ex⟩
      · exact re.inj j k a h1 h2
      · exact absurd ⟨j, h1⟩ (ho p x a ex e2)
    · rcases own k a h2 with ⟨n2, h2⟩ | ⟨n2, e2, _⟩
      · exact absurd ⟨k, h2⟩ (ho p x a ex e1)
      · exact n1.symm.trans n2
  · obtain ⟨h1, h2⟩ := re.pin j a h
    have hn : i ≠ j := fun z => np (by rw [z]; exact h2)
    rw [eget_eput_ne e i j s hn, other j hn]
    exact ⟨h1, h2⟩
  · rcases own j a h with ⟨_, h⟩ | ⟨_, h⟩
    · exact .inl ⟨j, h⟩
    · exact .inr h
theorem put_some {e e2 : Env} {i : Nat} {s : Slot} (h : Z.put e i s = .ok () e2) : i < e.length ∧ ¬ Pinned (eget e i) ∧ e2 = eput e i s := by
  unfold Z.put at h
  split at h
  · rename_i hi
    cases hs : eget e i with
    | emp => rw [hs] at h; cases h; exact ⟨hi, fun z => z, rfl⟩
    | v x => rw [hs] at h; cases h; exact ⟨hi, fun z => z, rfl⟩
    | own p x =>
      rw [hs] at h
      cases p
      · cases h; exact ⟨hi, fun z => z, rfl⟩
      · cases h
    | pf x => rw [hs] at h; cases h
    | exn c fs => rw [hs] at h; cases h
  · cases h
theorem sto_ok {g : Gm} {s : At} {σ0 : L2.St} {Z1 : Addr → Prop} {H1 : Hp} {e1 e2 : Env} {r : RV} {u : V} {i : Nat} (P : Post g xc s.pa s.Zs s.H s.σ s.env Z1 H1 σ0 e1) (R : RR g s Z1 H1 σ0 e1 r u) (h : sto e1 i r = .ok () e2) :
    ∃ Z2, Post g xc s.pa s.Zs s.H s.σ s.env Z2 H1 (σ0.set i (some u)) e2 ∧ (∀ a, Z1 a → Z2 a) ∧ (∀ a, Z2 a → Z1 a ∨ Owd e1 σ0 a) ∧ (∀ a, Owd e2 (σ0.set i (some u)) a → Owd e1 σ0 a ∨ ((∃ x, r = .own x) ∧ u = .ref a)) := by
  cases r with
  | v x =>
    obtain ⟨hi, np, rfl⟩ := put_some h
    obtain ⟨re, ow⟩ := P.re.put (s := .v x) hi np ⟨u, rfl, R⟩ (fun p y a e => by cases e)
    have ow' : ∀ a, Owd (eput e1 i (.v x)) (σ0.set i (some u)) a → Owd e1 σ0 a := fun a h => (ow a h).elim id fun ⟨_, p, y, e⟩ => by cases e
    exact ⟨Z1, ⟨P.ext, re, fun a h => P.ow a (ow' a h)⟩, fun _ h => h, fun _ h => .inl h, fun a h => .inl (ow' a h)⟩
  | own x =>
    obtain ⟨hi, np, rfl⟩ := put_some h
    obtain ⟨a, rfl, nz, hl, no, fr⟩ := R
    obtain ⟨re, ow⟩ := P.re.put (s := .own false x) hi np ⟨a, rfl, nz, hl⟩ (fun p y b _ e => by cases e; exact no)
    refine ⟨Z1, ⟨P.ext, re, fun b h => ?_⟩, fun _ h => h, fun _ h => .inl h, fun b h => ?_⟩
    · rcases ow b h with h | ⟨e, _⟩
      · exact P.ow b h
      · cases e; exact fr
    · rcases ow b h with h | ⟨e, _⟩
      · exact .inl h
      · exact .inr ⟨⟨x, rfl⟩, e⟩
  | bor j =>
    have h' : ((esc e1 (.bor j)).bind fun x e1 => Z.put e1 i (.v x)) = .ok () e2 := h
    cases hx : esc e1 (.bor j) with
    | no => rw [hx] at h'; cases h'
    | ex c fs e => rw [hx] at h'; cases h'
    | ok x e =>
      rw [hx, Rs.bind_ok] at h'
      obtain ⟨hi, np, rfl⟩ := put_some h'
      have PE0 : PostE g xc s.pa Z1 H1 σ0 e1 Z1 H1 e1 := PostE.refl P.re
      obtain ⟨Z2, P2, rv, zz, zn, hol, ow0⟩ := esc_ok (s := ⟨s.pa, Z1, H1, σ0, e1⟩) PE0 (show RR g ⟨s.pa, Z1, H1, σ0, e1⟩ Z1 H1 σ0 e1 (.bor j) u from R) hx
      have P3 := P.trans P2.toPost
      obtain ⟨re, ow⟩ := P3.re.put (s := .v x) hi np ⟨u, rfl, rv⟩ (fun p y a e => by cases e)
      have ow' : ∀ a, Owd (eput e i (.v x)) (σ0.set i (some u)) a → Owd e σ0 a := fun a h => (ow a h).elim id fun ⟨_, p, y, e⟩ => by cases e
      refine ⟨Z2, ⟨P3.ext, re, fun a h => P3.ow a (ow' a h)⟩, zz, fun a h => ?_, fun a h => .inl (ow0 a (ow' a h))⟩
      rcases zn a h with z | ⟨_, ⟨y, ey⟩ | z⟩
      · exact .inl z
      · cases ey
      · exact .inr z
theorem sto_ex {e : Env} {i : Nat} {r : RV} {c : Str} {fs : List (Str × Val)} {e' : Env} : sto e i r ≠ .ex c fs e' := by
  intro h
  have pe : ∀ e i s, Z.put e i s ≠ .ex c fs e' := fun e i s h => by
    unfold Z.put at h
    repeat (split at h)
    all_goals cases h
  cases r with
  | v x => exact pe _ _ _ h
  | own x => exact pe _ _ _ h
  | bor j =>
    have h' : ((esc e (.bor j)).bind fun x e1 => Z.put e1 i (.v x)) = .ex c fs e' := h
    cases hx : esc e (.bor j) with
    | no => rw [hx] at h'; cases h'
    | ex c fs e1 => exact escs_ex [.bor j] e c fs e1 (by rw [escs_cons, hx]; rfl)
    | ok x e1 =>
      rw [hx] at h'
      exact pe _ _ _ h'
theorem ss_set (i : Nat) {x : Str} {e : Expr} {fa : E} {pos' : Pos} (hN : X.N.Nodup) (ha : SE X xc W e fa) (hi : X.N[i]? = some x := by rfl) (hx : Loc X.env.scope x := by first | exact Or.inl rfl | exact Or.inr rfl) (hs : swapsWith e (some (.Name x pos')) pos.line X.env = pure false := by rfl)
    (hf : X.fn x = true ∨ X.env.scope.names.lookup x = some .local := by first | exact .inl rfl | exact .inr rfl) : SS X xc W (.Assign [.Name x pos'] e pos) (sSet i fa) := by
  refine PS_imp (ps_set hN hi hx ha hs hf) fun D σ H h => ?_
  obtain ⟨pa, Zs, env, re, h⟩ := h
  refine ⟨pa, Zs, env, re, h.cont fun r e1 u Z1 H1 _ p1 q1 h => ?_⟩
  cases hz : sto e1 i r with
  | no => rw [hz] at h; exact h.elim
  | ex c fs e => exact absurd hz sto_ex
  | ok _ e2 =>
    rw [hz, Rs.bind_ok] at h
    obtain ⟨Z2, P2, _⟩ := sto_ok p1.toPost q1 hz
    exact h _ Z2 H1 P2
end
end Z
/-! Z8: targets, loops, stores by place. -/
namespace Z
open PySem L2 PySem.Spec
def rdG (g : Gm) (xc : Xc) (t : Tg) : TG := fun v σ H Q => ∃ pa Zs env x e1, RE g xc pa Zs H σ env ∧ RvV g Zs H x v ∧ t x env = some e1 ∧ ∀ σ1 Z1 H1, Post g xc pa Zs H σ env Z1 H1 σ1 e1 → Q σ1 H1
def rdGs (g : Gm) (xc : Xc) (ts : List Tg) : TGs := fun vs σ H Q => ∃ pa Zs env xs e1, RE g xc pa Zs H σ env ∧ RvL g Zs H xs vs ∧ tgs ts xs env = some e1 ∧ ∀ σ1 Z1 H1, Post g xc pa Zs H σ env Z1 H1 σ1 e1 → Q σ1 H1
abbrev SG (X : Cx) (xc : Xc) (tg : Expr) (t : Tg) : Prop := PG X tg (rdG (gX X) xc t)
abbrev SGs (X : Cx) (xc : Xc) (tg : List Expr) (t : List Tg) : Prop := PGs X tg (rdGs (gX X) xc t)
theorem PG_imp {X : Cx} {e : Expr} {t t' : TG} (h : PG X e t) (k : ∀ v σ H Q, t' v σ H Q → t v σ H Q) : PG X e t' := ⟨fun pins s σ H v u Q I r q => h.run pins s σ H v u Q I r (k v σ H Q q)⟩
theorem PGs_imp {X : Cx} {e : List Expr} {t t' : TGs} (h : PGs X e t) (k : ∀ v σ H Q, t' v σ H Q → t v σ H Q) : PGs X e t' := ⟨fun pins s σ H v u Q I r q => h.run pins s σ H v u Q I r (k v σ H Q q)⟩
theorem PI_imp {X : Cx} {tg e : Expr} {t t' : TI} (h : PI X tg e t) (k : ∀ σ H Q, t' σ H Q → t σ H Q) : PI X tg e t' := ⟨fun pins s σ H Q I q => h.run pins s σ H Q I (k σ H Q q)⟩
theorem okE_some {r : Rs Unit} {e : Env} (h : okE r = some e) : r = .ok () e := by
  cases r with
  | ok a e1 => cases a; cases h; rfl
  | ex c fs e1 => cases h
  | no => cases h
section
variable {X : Cx} {xc : Xc} {W : WX} {pos : Pos}
theorem sg_name (i : Nat) {x : Str} (hN : X.N.Nodup) (hi : X.N[i]? = some x := by rfl) (hx : Loc X.env.scope x := by first | exact Or.inl rfl | exact Or.inr rfl) (hf : X.fn x = true ∨ X.env.scope.names.lookup x = some .local := by first | exact .inl rfl | exact .inr rfl) : SG X xc (.Name x pos) (tgN i) := by
  refine PG_imp (pg_name hN hi hx hf) fun v σ H Q h => ?_
  obtain ⟨pa, Zs, env, x, e1, re, rv, hz, h⟩ := h
  obtain ⟨Z2, P2, _⟩ := sto_ok (s := ⟨pa, Zs, H, σ, env⟩) (u := v) (r := .v x) (Post.refl re) rv (okE_some hz)
  exact h _ Z2 H P2
theorem sgs_nil : SGs X xc [] [] := by
  refine PGs_imp pgs_nil fun vs σ H Q h => ?_
  obtain ⟨pa, Zs, env, xs, e1, re, rv, hz, h⟩ := h
  cases rv with
  | nil => cases hz; exact ⟨rfl, h σ Zs H (Post.refl re)⟩
  | cons _ _ => cases hz
theorem sgs_cons {e : Expr} {es : List Expr} {t : Tg} {ts : List Tg} (h1 : SG X xc e t) (h2 : SGs X xc es ts) (hs : (assignEach (e :: es) X.env).map (·.2) = assign e X.env :: (assignEach es X.env).map (·.2) := by rfl) : SGs X xc (e :: es) (t :: ts) := by
  refine PGs_imp (pgs_cons h1 h2 hs) fun vs σ H Q h => ?_
  obtain ⟨pa, Zs, env, xs, e1, re, rv, hz, h⟩ := h
  cases rv with
  | nil => cases hz
  | cons r rs =>
    rw [tgs_cons] at hz
    split at hz
    · rename_i e2 h2
      refine ⟨_, _, rfl, pa, Zs, env, _, e2, re, r, h2, fun σ1 Z1 H1 P1 => ?_⟩
      exact ⟨pa, Z1, e2, _, e1, P1.re, rs.ext P1.ext re.owOk, hz, fun σ2 Z2 H2 P2 => h σ2 Z2 H2 (P1.trans P2)⟩
    · cases hz
theorem sg_tup {es : List Expr} {k : Nat} {ts : List Tg} {n : Nat} (hc : X.calm = true) (h : SGs X xc es ts) (hl : ts.length = n := by rfl) (hn : (assignEach es X.env).length = n := by rfl) (hst : (assignEach es X.env).findIdx? (·.1) = none := by rfl) : SG X xc (.Tuple es k pos) (tgT ts) := by
  refine PG_imp (pg_tup hc h hn hst) fun v σ H Q h => ?_
  obtain ⟨pa, Zs, env, x, e1, re, rv, hz, h⟩ := h
  have tl : ∀ (ts : List Tg) (xs : List Val) (e : Env), tgs ts xs e = some e1 → xs.length = ts.length := by
    intro ts
    induction ts with
    | nil => intro xs e h; cases xs with
      | nil => rfl
      | cons x xs => cases h
    | cons t ts ih => intro xs e h; cases xs with
      | nil => cases h
      | cons x xs =>
        rw [tgs_cons] at h
        split at h
        · rw [List.length_cons, List.length_cons, ih _ _ h]
        · cases h
  cases rv with
  | tup hs r => exact ⟨_, _, rfl, hs, by rw [← r.length, tl _ _ _ hz, hl], pa, Zs, env, _, e1, re, r, hz, h⟩
  | _ => cases hz
theorem ss_unp {tg e : Expr} {fa : E} {t : Tg} (ha : SE X xc W e fa) (hg : SG X xc tg t) (hs : swapsWithSole [tg] e pos.line X.env = pure false := by rfl) (hw : swappedStores [tg] e X.env = pure none := by rfl)
    (h1 : (assignEach [tg] X.env).map (·.2) = [assign tg X.env] := by rfl) : SS X xc W (.Assign [tg] e pos) (sUnp t fa) := by
  refine PS_imp (ps_asg ha hg hs hw h1) fun D σ H h => ?_
  obtain ⟨pa, Zs, env, re, h⟩ := h
  refine ⟨pa, Zs, env, re, h.cont fun r e1 u Z1 H1 _ p1 q1 h => ?_⟩
  cases r with
  | v x =>
    cases hz : t x e1 with
    | none => simp only [hz] at h; exact h.elim
    | some e2 =>
      simp only [hz] at h
      exact ⟨pa, Z1, e1, x, e2, p1.re, q1, hz, fun σ2 Z2 H2 P2 => h σ2 Z2 H2 (p1.toPost.trans P2)⟩
  | own x => exact h.elim
  | bor i => exact h.elim

/-! ### loops -/
theorem Grow.trans {Z0 Z1 Z2 : Addr → Prop} {H0 H1 H2 : Hp} (a : Grow Z0 H0 Z1 H1) (b : Grow Z1 H1 Z2 H2) : Grow Z0 H0 Z2 H2 := ⟨fun x h => b.zz x (a.zz x h), fun x u hw h => b.kp x u (hw.elim .inl fun z => .inr (a.zz x z)) (a.kp x u hw h)⟩
theorem Post.grow {g : Gm} {pa : List (Option Addr)} {Z0 Z1 : Addr → Prop} {H0 H1 : Hp} {σ0 σ1 : L2.St} {e0 e1 : Env} (p : Post g xc pa Z0 H0 σ0 e0 Z1 H1 σ1 e1) (re : RE g xc pa Z0 H0 σ0 e0) : Grow Z0 H0 Z1 H1 := p.ext.grow re.owOk
/-- what is walked: the items come in order, while what rests stays -/
def Walk (g : Gm) (Zs : Addr → Prop) (H : Hp) (J : It) (xs : List Val) : Prop := ∀ Z2 H2, Grow Zs H Z2 H2 → Zd Z2 H2 →
  (∀ i x, xs[i]? = some x → J.go i H2 ∧ ∀ u H3, J.yld i H2 u H3 → ∃ Z3, Ext (fun _ => False) Z2 H2 Z3 H3 ∧ RvV g Z3 H3 x u) ∧ ∀ i, xs.length ≤ i → J.stop i H2
def rdI (g : Gm) (xc : Xc) (W : WX) (src : Src) : TI := fun σ H R => ∃ pa Zs env, RE g xc pa Zs H σ env ∧
  match src env with
  | .ok xs e1 => ∀ Z1 H1 J, PostE g xc pa Zs H σ env Z1 H1 e1 → Walk g Z1 H1 J xs → R J H1
  | .ex c fs e1 => ∀ C d fv Z1 H1, PostE g xc pa Zs H σ env Z1 H1 e1 → g.mg c = some (.ref C) → H1 d = some (.xd fv) → RvF g Z1 H1 fs fv → W (.ref C) (some d) σ H1
  | .no => False
abbrev SI (X : Cx) (xc : Xc) (W : WX) (tg iter : Expr) (s : Src) : Prop := PI X tg iter (rdI (gX X) xc W s)
/-- one turn's body -/
theorem turn_end {b : S} {k : Env → Rs Fl} {D : Ends} {N : L2.St → Hp → Prop} {s : At} {Z4 : Addr → Prop} {H4 : Hp} {σ4 : L2.St} {e4 : Env} (Q4 : Post (gX X) xc s.pa s.Zs s.H s.σ s.env Z4 H4 σ4 e4)
    (h : EndS (gX X) xc s ((b e4).bind fun f e2 => match f with | .nx => k e2 | .ct => k e2 | .bk => .ok .nx e2 | .rt r => .ok (.rt r) e2) W D)
    (hN : ∀ σ5 Z5 H5 e5, Post (gX X) xc s.pa s.Zs s.H s.σ s.env Z5 H5 σ5 e5 → Post (gX X) xc s.pa Z4 H4 σ4 e4 Z5 H5 σ5 e5 → EndS (gX X) xc s (k e5) W D → N σ5 H5) :
    EndS (gX X) xc ⟨s.pa, Z4, H4, σ4, e4⟩ (b e4) W { D with nx := N, ct := N, bk := D.nx } := by
  cases hb : b e4 with
  | no => rw [hb] at h; exact h
  | ex c fs e5 =>
    rw [hb] at h
    exact fun C d fv σ5 Z5 H5 P5 => h C d fv σ5 Z5 H5 (Q4.trans P5)
  | ok f e5 =>
    rw [hb, Rs.bind_ok] at h
    intro σ5 Z5 H5 P5
    have Q5 := Q4.trans P5
    cases f with
    | nx => exact hN σ5 Z5 H5 e5 Q5 P5 h
    | ct => exact hN σ5 Z5 H5 e5 Q5 P5 h
    | bk => exact h σ5 Z5 H5 Q5
    | rt r => exact fun u hr => h σ5 Z5 H5 Q5 u (RR.backS Q4 hr)
theorem for_end {s : Src} {t : Tg} {b : S} {D : Ends} {σ : L2.St} {H : Hp} (h : rdS (gX X) xc W (sFor s t b) D σ H) : tFor (rdI (gX X) xc W s) (rdG (gX X) xc t) (rdS (gX X) xc W b) D σ H := by
  obtain ⟨pa, Zs, env, re, h⟩ := h
  refine ⟨pa, Zs, env, re, ?_⟩
  unfold sFor at h
  cases hs : s env with
  | no => rw [hs] at h; exact h
  | ex c fs e1 => rw [hs] at h; exact fun C d fv Z1 H1 p => h C d fv σ Z1 H1 p.toPost
  | ok xs e1 =>
    rw [hs, Rs.bind_ok] at h
    intro Z1 H1 J p1 wk
    refine ⟨fun i m σ' H' => m = xs.length - i ∧ i ≤ xs.length ∧ ∃ Z' e', Post (gX X) xc pa Zs H σ env Z' H' σ' e' ∧ Grow Z1 H1 Z' H' ∧ EndS (gX X) xc ⟨pa, Zs, H, σ, env⟩ (forL t b (xs.drop i) e') W D, ⟨xs.length, rfl, Nat.zero_le _, Z1, e1, p1.toPost, Grow.of (fun _ h => h), h⟩, ?_⟩
    rintro i m σ' H' ⟨rfl, hi, Z', e', P', gr, h⟩
    have wk' := wk Z' H' gr P'.re.zd
    by_cases hlt : i < xs.length
    · have hd : xs.drop i = xs[i] :: xs.drop (i + 1) := List.drop_eq_getElem_cons hlt
      rw [hd, forL] at h
      dsimp only at h
      cases hz : t xs[i] e' with
      | none => rw [hz] at h; exact h.elim
      | some e4 =>
        rw [hz] at h
        have hx : xs[i]? = some xs[i] := List.getElem?_eq_getElem hlt
        obtain ⟨go, yl⟩ := wk'.1 i _ hx
        refine .inr ⟨go, fun σ' H' => i + 1 ≤ xs.length ∧ ∃ Z' e', Post (gX X) xc pa Zs H σ env Z' H' σ' e' ∧ Grow Z1 H1 Z' H' ∧ EndS (gX X) xc ⟨pa, Zs, H, σ, env⟩ (forL t b (xs.drop (i + 1)) e') W D, fun σ' H' n => ⟨xs.length - (i + 1), by omega, rfl, n⟩, fun u H3 y => ?_⟩
        obtain ⟨Z3, ex, rv⟩ := yl u H3 y
        have P3 := P'.re.growP ex
        refine ⟨pa, Z3, e', _, e4, P3.re, rv, hz, fun σ4 Z4 H4 P4 => ⟨pa, Z4, e4, P4.re, ?_⟩⟩
        have G4 := (gr.trans (P3.toPost.grow P'.re)).trans (P4.grow P3.re)
        exact turn_end (s := ⟨pa, Zs, H, σ, env⟩) ((P'.trans P3.toPost).trans P4) h fun σ5 Z5 H5 e5 Q5 P5 h5 => ⟨hlt, Z5, e5, Q5, G4.trans (P5.grow P4.re), h5⟩
    · have e : i = xs.length := by omega
      subst e
      rw [List.drop_length] at h
      exact .inl ⟨wk'.2 _ (Nat.le_refl _), h σ' Z' H' P'⟩
theorem ss_for {tg iter : Expr} {body : List Stmt} {s : Src} {t : Tg} {b : S} (hp : PassesOwn (model X.prog X.w) X.A X.env X.xe) (hc : X.calm = true) (hi : SI X xc W tg iter s) (hg : SG X xc tg t) (hb : SB X xc W body b)
    (hs : ∀ x, foldedSetIterable iter X.env x = pure x := by intro _; rfl) : SS X xc W (.For tg iter body [] pos) (sFor s t b) := PS_imp (ps_for hp hc hi hg hb hs) fun D σ H h => for_end h
theorem while_end {n : Nat} {c : T} {b : S} {D : Ends} {σ : L2.St} {H : Hp} (h : rdS (gX X) xc W (sWhile n c b) D σ H) : tWhile (rdT (gX X) xc W c) (rdS (gX X) xc W b) D σ H := by
  obtain ⟨pa, Zs, env, re, h⟩ := h
  refine ⟨fun m σ' H' => ∃ Z' e', Post (gX X) xc pa Zs H σ env Z' H' σ' e' ∧ EndS (gX X) xc ⟨pa, Zs, H, σ, env⟩ (whileL c b m e') W D, ⟨n, Zs, env, Post.refl re, h⟩, ?_⟩
  rintro m σ' H' ⟨Z', e', P', h⟩
  cases m with
  | zero => exact h.elim
  | succ m =>
    refine ⟨pa, Z', e', P'.re, ?_⟩
    unfold whileL at h
    cases hc : c e' with
    | no => rw [hc] at h; exact h
    | ex cc fs e1 => rw [hc] at h; exact fun C d fv Z1 H1 p => h C d fv σ' Z1 H1 (P'.trans p.toPost)
    | ok k e1 =>
      rw [hc, Rs.bind_ok] at h
      intro k' Z1 H1 p1 q1
      cases q1
      have Q1 := P'.trans p1.toPost
      cases k with
      | false => exact h σ' Z1 H1 Q1
      | true =>
        rw [if_pos rfl]
        refine ⟨fun σ' H' => ∃ Z' e', Post (gX X) xc pa Zs H σ env Z' H' σ' e' ∧ EndS (gX X) xc ⟨pa, Zs, H, σ, env⟩ (whileL c b m e') W D, fun σ' H' n => ⟨m, Nat.lt_succ_self m, n⟩, ⟨pa, Z1, e1, p1.re, ?_⟩⟩
        exact turn_end (s := ⟨pa, Zs, H, σ, env⟩) Q1 h fun σ5 Z5 H5 e5 Q5 P5 h5 => ⟨Z5, e5, Q5, h5⟩
theorem ss_while {c : Expr} {body : List Stmt} {n : Nat} {fc : T} {b : S} (hp : PassesOwn (model X.prog X.w) X.A X.env X.xe) (hc : ST X xc W c fc) (hb : SB X xc W body b) : SS X xc W (.While c body [] pos) (sWhile n fc b) := PS_imp (ps_while hp hc hb) fun D σ H h => while_end h
end
end Z
/-! Z9: what is walked; several names at once; lists that are changed. -/
namespace Z
open PySem L2 PySem.Spec
section
variable {X : Cx} {xc : Xc} {W : WX} {pos : Pos} {tg : Expr}
open PyProof.Rows in
theorem pi_seqQ {l : Expr} {tl : TE} (hl : PE X l tl) : PI X tg l (fun σ H R => tl σ H fun x H1 => ∃ a, x = .ref a ∧ (((∃ xs, SqL X.K H1 a xs) ∧ R (Itl X.K a) H1) ∨ ((∃ xs, SqT X.K H1 a xs) ∧ R (Itt X.K a) H1))) := by
  refine ⟨fun pins s σ H R I h => thn (hl.run pins s σ H _ I h) fun v s1 ⟨x, H1, I1, r1, q1⟩ => ?_⟩
  obtain ⟨a, e, q1⟩ := q1
  subst e
  cases r1
  have new : ∀ o : Obj, Inv X pins σ H1 { s1 with heap := s1.heap.push o } := fun o => I1.kept (t' := s1.toks) fun b u e => Heap.get?_push_of_some _ e
  have fp : ∀ b ∈ [s1.heap.objs.size], FpOk X pins H1 b := fun b hb => by
    rw [List.mem_singleton] at hb
    subst hb
    exact I1.fpOk (Nat.le_refl _) (I1.hok.fresh (Nat.le_refl _))
  rcases q1 with ⟨⟨xs, hq⟩, q⟩ | ⟨⟨xs, hq⟩, q⟩
  · obtain ⟨its, rv, p, hz⟩ := I1.list hq
    exact wpAny_pyIter_list p.isList ⟨s1.heap.objs.size, [s1.heap.objs.size], _, _, H1, rfl, new _, turn_list a _, ⟨_, Heap.get?_push_size _ rfl, rfl, rfl⟩, fp, q⟩
  · obtain ⟨its, rv, p, hz⟩ := I1.tuple hq
    exact wpAny_pyIter_tuple (show s1.heap.IsTuple a its.toArray from p) ⟨s1.heap.objs.size, [s1.heap.objs.size], _, _, H1, rfl, new _, turn_tuple a _, ⟨_, Heap.get?_push_size _ rfl, rfl, rfl⟩, fp, q⟩
theorem RvL.at {g : Gm} {Zs : Addr → Prop} {H : Hp} {xs : List Val} {us : List V} {i : Nat} {x : Val} {u : V} (r : RvL g Zs H xs us) (h : xs[i]? = some x) (k : us[i]? = some u) : RvV g Zs H x u := by
  obtain ⟨w, h1, h2⟩ := r.get h
  rw [k] at h1
  cases h1
  exact h2
theorem walk_lst {g : Gm} {Zs : Addr → Prop} {H : Hp} {a : Addr} {xs : List Val} {us : List V} (h : SqZ g Zs H a us) (r : RvL g Zs H xs us) : Walk g Zs H (Itl g.K a) xs := by
  intro Z2 H2 gr zd
  have h2 := (gr.sqZ h).sq
  have r2 := r.gr gr
  refine ⟨fun i x hx => ?_, fun i hi => ⟨us, h2, by rw [← r.length]; exact hi⟩⟩
  obtain ⟨w, hw, _⟩ := r2.get hx
  refine ⟨⟨us, w, h2, hw⟩, fun u H3 y => ?_⟩
  obtain ⟨e, y⟩ := y
  subst e
  exact ⟨Z2, Ext.refl zd, r2.at hx (y us h2)⟩
theorem walk_tup {g : Gm} {Zs : Addr → Prop} {H : Hp} {a : Addr} {xs : List Val} {us : List V} (h : SqT g.K H a us) (r : RvL g Zs H xs us) : Walk g Zs H (Itt g.K a) xs := by
  intro Z2 H2 gr zd
  have h2 := gr.sqT h
  have r2 := r.gr gr
  refine ⟨fun i x hx => ?_, fun i hi => ⟨us, h2, by rw [← r.length]; exact hi⟩⟩
  obtain ⟨w, hw, _⟩ := r2.get hx
  refine ⟨⟨us, w, h2, hw⟩, fun u H3 y => ?_⟩
  obtain ⟨e, y⟩ := y
  subst e
  exact ⟨Z2, Ext.refl zd, r2.at hx (y us h2)⟩
theorem rangeV_get {lo : Int} {n i : Nat} {x : Val} (h : (rangeV lo n)[i]? = some x) : i < n ∧ x = .int (lo + i) := by
  unfold rangeV at h
  rw [List.getElem?_map] at h
  by_cases hi : i < n
  · rw [List.getElem?_range hi] at h
    cases h
    exact ⟨hi, rfl⟩
  · rw [List.getElem?_eq_none_iff.mpr (by simpa using hi)] at h
    cases h
theorem walk_rng {g : Gm} {Zs : Addr → Prop} {H : Hp} {lo : Int} {n : Nat} : Walk g Zs H (Itr lo n) (rangeV lo n) := by
  intro Z2 H2 gr zd
  refine ⟨fun i x hx => ?_, fun i hi => (by simpa [rangeV] using hi : n ≤ i)⟩
  obtain ⟨hi, rfl⟩ := rangeV_get hx
  refine ⟨hi, fun u H3 y => ?_⟩
  obtain ⟨e, y⟩ := y
  subst e y
  exact ⟨Z2, Ext.refl zd, .int _⟩
theorem si_seq {l : Expr} {fa : E} (ha : SE X xc W l fa) : SI X xc W tg l (iSeq fa) := by
  refine PI_imp (pi_seqQ ha) fun σ H R h => ?_
  obtain ⟨pa, Zs, env, re, h⟩ := h
  refine ⟨pa, Zs, env, re, ?_⟩
  unfold iSeq at h
  cases hf : fa env with
  | no => rw [hf] at h; exact h
  | ex c fs e1 => rw [hf] at h; exact h
  | ok r e1 =>
    rw [hf, Rs.bind_ok] at h
    intro u Z1 H1 p1 q1
    cases he : esc e1 r with
    | no => rw [he] at h; exact h.elim
    | ex c fs e => exact absurd (show escs e1 [r] = .ex c fs e by rw [escs_cons, he]; rfl) (escs_ex _ _ _ _ _)
    | ok x e2 =>
      rw [he, Rs.bind_ok] at h
      obtain ⟨Z2, P2, rv, _⟩ := esc_ok p1 q1 he
      cases rv with
      | lst hs r => exact ⟨_, rfl, .inl ⟨⟨_, hs.sq⟩, h Z2 H1 _ P2 (walk_lst hs r)⟩⟩
      | tup hs r => exact ⟨_, rfl, .inr ⟨⟨_, hs⟩, h Z2 H1 _ P2 (walk_tup hs r)⟩⟩
      | _ => exact h.elim
theorem si_range1 {a : Expr} {fa : E} {p pos : Pos} (hm : X.mg "range" = none) (ha : SE X xc W a fa) (hg : Gl X "range" := by rfl) (hs : starEach [a] X.env = [(false, eval a X.env)] := by rfl) : SI X xc W tg (.Call (.Name "range" p) [a] [] pos) (iRange1 fa) := by
  refine PI_imp (pi_range1 hg hm (pa_cons ha pa_nil hs) hs) fun σ H R h => ?_
  obtain ⟨pa, Zs, env, re, h⟩ := h
  refine ⟨pa, Zs, env, re, ?_⟩
  unfold iRange1 at h
  cases hf : fa env with
  | no => rw [hf] at h; exact h
  | ex c fs e1 => rw [hf] at h; exact h
  | ok r e1 =>
    rw [hf, Rs.bind_ok] at h
    intro u Z1 H1 p1 q1
    cases r with
    | own x => exact h.elim
    | bor i => exact h.elim
    | v x =>
      cases q1 with
      | int j =>
        by_cases c : j.natAbs < 4611686018427387904
        · simp only [if_pos c] at h
          exact ⟨j, rfl, by omega, by omega, h Z1 H1 _ p1 walk_rng⟩
        · simp only [if_neg c] at h
      | _ => exact h.elim
theorem si_range2 {a b : Expr} {fa fb : E} {p pos : Pos} (hm : X.mg "range" = none) (ha : SE X xc W a fa) (hb : SE X xc W b fb) (hg : Gl X "range" := by rfl) (hs : starEach [a, b] X.env = [(false, eval a X.env), (false, eval b X.env)] := by rfl) (hs2 : starEach [b] X.env = [(false, eval b X.env)] := by rfl) :
    SI X xc W tg (.Call (.Name "range" p) [a, b] [] pos) (iRange2 fa fb) := by
  refine PI_imp (pi_range2 hg hm (pa_cons ha (pa_cons hb pa_nil hs2) (by rw [hs, hs2])) hs hs2) fun σ H R h => ?_
  obtain ⟨pa, Zs, env, re, h⟩ := h
  refine ⟨pa, Zs, env, re, ?_⟩
  unfold iRange2 at h
  cases hf : fa env with
  | no => rw [hf] at h; exact h
  | ex c fs e1 => rw [hf] at h; exact h
  | ok r e1 =>
    rw [hf, Rs.bind_ok] at h
    intro u Z1 H1 p1 q1
    refine ⟨pa, Z1, e1, p1.re, ?_⟩
    cases hf2 : fb e1 with
    | no => rw [hf2] at h; exact h
    | ex c fs e2 => rw [hf2] at h; exact fun C d fv Z2 H2 p => h C d fv Z2 H2 (p1.trans p)
    | ok r2 e2 =>
      rw [hf2, Rs.bind_ok] at h
      intro w Z2 H2 p2 q2
      have q1' := q1.step p1.re p2
      cases r with
      | own x => exact h.elim
      | bor i => exact h.elim
      | v x =>
        cases q1' with
        | int i =>
          cases r2 with
          | own x => exact h.elim
          | bor i => exact h.elim
          | v y =>
            cases q2 with
            | int j =>
              by_cases c : i.natAbs < 4611686018427387904 ∧ j.natAbs < 4611686018427387904
              · simp only [if_pos c] at h
                exact ⟨i, j, rfl, by omega, h Z2 H2 _ (p1.trans p2) walk_rng⟩
              · simp only [if_neg c] at h
            | _ => exact h.elim
        | _ => exact h.elim
end

/-! ### several names at once -/
section
variable {g : Gm} {xc : Xc} {s : At} {H1 : Hp}
theorem settle_ok {Z1 : Addr → Prop} {e1 e2 : Env} {r r' : RV} {u : V} (P : PostE g xc s.pa s.Zs s.H s.σ s.env Z1 H1 e1) (R : RR g s Z1 H1 s.σ e1 r u) (h : settle e1 r = .ok r' e2) :
    ∃ Z2, PostE g xc s.pa s.Zs s.H s.σ s.env Z2 H1 e2 ∧ RR g s Z2 H1 s.σ e2 r' u ∧ (∀ i, r' ≠ .bor i) ∧ (∀ a, Z1 a → Z2 a) ∧ (∀ a, Z2 a → Z1 a ∨ Owd e1 s.σ a) ∧ (∀ i, Hol (eget e1 i) → Hol (eget e2 i)) ∧ (∀ a, Owd e2 s.σ a → Owd e1 s.σ a) ∧ ∀ x, r' = .own x → r = .own x := by
  cases r with
  | v y => cases h; exact ⟨Z1, P, R, (fun i h => by cases h), fun _ h => h, fun _ h => .inl h, fun _ h => h, fun _ h => h, fun x h => h⟩
  | own y => cases h; exact ⟨Z1, P, R, (fun i h => by cases h), fun _ h => h, fun _ h => .inl h, fun _ h => h, fun _ h => h, fun x h => h⟩
  | bor i =>
    rw [settle_bor] at h
    cases he : esc e1 (.bor i) with
    | no => rw [he] at h; cases h
    | ex c fs e => rw [he] at h; cases h
    | ok x e =>
      rw [he] at h
      cases h
      obtain ⟨Z2, P2, rv, zz, zn, hol, ow⟩ := esc_ok P R he
      refine ⟨Z2, P2, rv, (fun i h => by cases h), zz, fun a ha => ?_, hol, ow, (fun x h => by cases h)⟩
      rcases zn a ha with z | ⟨_, ⟨y, ey⟩ | z⟩
      · exact .inl z
      · cases ey
      · exact .inr z
theorem settles_ok : ∀ {rs rs' : List RV} {us : List V} {Z1 : Addr → Prop} {e1 e2 : Env}, PostE g xc s.pa s.Zs s.H s.σ s.env Z1 H1 e1 → RRs g s Z1 H1 s.σ e1 rs us → settles e1 rs = .ok rs' e2 →
    ∃ Z2, PostE g xc s.pa s.Zs s.H s.σ s.env Z2 H1 e2 ∧ RRs g s Z2 H1 s.σ e2 rs' us ∧ (∀ r ∈ rs', ∀ i, r ≠ .bor i) ∧ (∀ a, Z1 a → Z2 a) ∧ (∀ a, Z2 a → Z1 a ∨ Owd e1 s.σ a) ∧ (∀ a, Owd e2 s.σ a → Owd e1 s.σ a) ∧ ∀ y w, (y, w) ∈ rs'.zip us → (∃ z, y = .own z) → (y, w) ∈ rs.zip us
  | [], rs', _, Z1, e1, e2, P, .nil, h => by
    cases h
    exact ⟨Z1, P, .nil, (fun r h => by cases h), fun _ h => h, fun _ h => .inl h, fun _ h => h, (fun y w h => by cases h)⟩
  | r :: rs, rs', u :: us, Z1, e1, e2, P, .cons hR hT n, h => by
    rw [settles_cons] at h
    cases h1 : settle e1 r with
    | no => rw [h1] at h; cases h
    | ex c fs e => rw [h1] at h; cases h
    | ok r1 e =>
      rw [h1, Rs.bind_ok] at h
      cases h2 : settles e rs with
      | no => rw [h2] at h; cases h
      | ex c fs e => rw [h2] at h; cases h
      | ok rs1 e' =>
        rw [h2, Rs.bind_ok] at h
        cases h
        obtain ⟨Z2, P2, R2, nb, zz, zn, hol, ow, own⟩ := settle_ok P hR h1
        have hT2 : RRs g s Z2 H1 s.σ e rs us := by
          have go : ∀ {rs : List RV} {us : List V}, RRs g s Z1 H1 s.σ e1 rs us → RRs g s Z2 H1 s.σ e rs us := by
            intro rs us hh
            induction hh with
            | nil => exact .nil
            | @cons r' w rs us h t n ih =>
              refine .cons ?_ ih n
              cases r' with
              | v y => exact RvV.gr (Grow.of zz) h
              | own y =>
                obtain ⟨a, e, nz, hl, no, fr⟩ := h
                exact ⟨a, e, fun z => (zn a z).elim nz no, hl.mono zz, fun z => no (ow a z), fr⟩
              | bor i =>
                obtain ⟨a, e, h1, h2⟩ := h
                exact ⟨a, e, h1, hol i h2⟩
          exact go hT
        obtain ⟨Z3, P3, R3, nb3, zz3, zn3, ow3, mem3⟩ := settles_ok P2 hT2 h2
        refine ⟨Z3, P3, .cons ?_ R3 fun x ex y w hm hy => ?_, fun r hr i => ?_, fun a h => zz3 a (zz a h), fun a h => ?_, fun a h => ow a (ow3 a h), fun y w hm hy => ?_⟩
        · cases r1 with
          | v y => exact RvV.gr (Grow.of zz3) R2
          | own y =>
            obtain ⟨a, e, nz, hl, no, fr⟩ := R2
            exact ⟨a, e, fun z => (zn3 a z).elim nz no, hl.mono zz3, fun z => no (ow3 a z), fr⟩
          | bor i => exact absurd rfl (nb i)
        · exact n x (own x ex) y w (mem3 y w hm hy) hy
        · rcases List.mem_cons.mp hr with e | hr
          · rw [e]; exact nb i
          · exact nb3 r hr i
        · rcases zn3 a h with z | z
          · exact zn a z
          · exact .inr (ow a z)
        · rw [List.zip_cons_cons] at hm ⊢
          rcases List.mem_cons.mp hm with e | hm
          · cases e
            obtain ⟨z, ez⟩ := hy
            rw [own z ez, ez]
            exact List.mem_cons_self
          · exact List.mem_cons_of_mem _ (mem3 y w hm hy)
def setM : L2.St → List Nat → List V → L2.St
  | σ, i :: is, u :: us => setM (σ.set i (some u)) is us
  | σ, _, _ => σ
theorem stos_ok : ∀ {is : List Nat} {rs : List RV} {us : List V} {σ0 : L2.St} {Z1 : Addr → Prop} {e1 e2 : Env}, Post g xc s.pa s.Zs s.H s.σ s.env Z1 H1 σ0 e1 → RRs g s Z1 H1 σ0 e1 rs us → (∀ r ∈ rs, ∀ i, r ≠ .bor i) → stos e1 is rs = .ok () e2 →
    ∃ Z2, Post g xc s.pa s.Zs s.H s.σ s.env Z2 H1 (setM σ0 is us) e2
  | [], [], _, σ0, Z1, e1, e2, P, .nil, _, h => by cases h; exact ⟨Z1, P⟩
  | [], _ :: _, _, _, _, _, _, _, _, _, h => by cases h
  | _ :: _, [], _, _, _, _, _, _, _, _, h => by cases h
  | i :: is, r :: rs, u :: us, σ0, Z1, e1, e2, P, .cons hR hT n, nb, h => by
    rw [stos_cons] at h
    cases h1 : sto e1 i r with
    | no => rw [h1] at h; cases h
    | ex c fs e => rw [h1] at h; cases h
    | ok _ e =>
      rw [h1, Rs.bind_ok] at h
      obtain ⟨Z2, P2, zz, zn, ow⟩ := sto_ok P hR h1
      have hT2 : ∀ {rs : List RV} {us : List V}, RRs g s Z1 H1 σ0 e1 rs us → (∀ r ∈ rs, ∀ i, r ≠ .bor i) → (∀ x, r = .own x → ∀ y w, (y, w) ∈ rs.zip us → (∃ z, y = .own z) → w ≠ u) → RRs g s Z2 H1 (σ0.set i (some u)) e rs us := by
        intro rs us hh
        induction hh with
        | nil => intro _ _; exact .nil
        | @cons r' w rs us h t n ih =>
          intro nb k
          refine .cons ?_ (ih (fun r hr => nb r (List.mem_cons_of_mem _ hr)) fun x ex y w' hm => k x ex y w' (by rw [List.zip_cons_cons]; exact List.mem_cons_of_mem _ hm)) n
          cases r' with
          | v y => exact RvV.gr (Grow.of zz) h
          | own y =>
            obtain ⟨a, ea, nz, hl, no, fr⟩ := h
            refine ⟨a, ea, fun z => (zn a z).elim nz no, hl.mono zz, fun z => ?_, fr⟩
            rcases ow a z with z | ⟨⟨x, ex⟩, z⟩
            · exact no z
            · exact k x ex _ _ (by rw [List.zip_cons_cons]; exact List.mem_cons_self) ⟨_, rfl⟩ (by rw [ea, z])
          | bor j => exact absurd rfl (nb _ List.mem_cons_self j)
      exact stos_ok (is := is) P2 (hT2 hT (fun r hr => nb r (List.mem_cons_of_mem _ hr)) n) (fun r hr => nb r (List.mem_cons_of_mem _ hr)) h
end
theorem settles_ex : ∀ (rs : List RV) (e : Env) (c : Str) (fs : List (Str × Val)) (e' : Env), settles e rs ≠ .ex c fs e'
  | [], _, _, _, _, h => by cases h
  | r :: rs, e, c, fs, e', h => by
    rw [settles_cons] at h
    cases h1 : settle e r with
    | no => rw [h1] at h; cases h
    | ex c fs e1 =>
      cases r with
      | v x => cases h1
      | own x => cases h1
      | bor i =>
        rw [settle_bor] at h1
        cases h2 : esc e (.bor i) with
        | no => rw [h2] at h1; cases h1
        | ex c fs e2 => exact escs_ex [.bor i] e c fs e2 (by rw [escs_cons, h2]; rfl)
        | ok x e2 => rw [h2] at h1; cases h1
    | ok x e1 =>
      rw [h1, Rs.bind_ok] at h
      cases h2 : settles e1 rs with
      | no => rw [h2] at h; cases h
      | ex c fs e => exact settles_ex _ _ _ _ _ h2
      | ok x e2 => rw [h2] at h; cases h
theorem stos_ex : ∀ (is : List Nat) (rs : List RV) (e : Env) (c : Str) (fs : List (Str × Val)) (e' : Env), stos e is rs ≠ .ex c fs e'
  | [], [], _, _, _, _, h => by cases h
  | [], _ :: _, _, _, _, _, h => by cases h
  | _ :: _, [], _, _, _, _, h => by cases h
  | i :: is, r :: rs, e, c, fs, e', h => by
    rw [stos_cons] at h
    cases h1 : sto e i r with
    | no => rw [h1] at h; cases h
    | ex c fs e1 => exact sto_ex h1
    | ok x e1 => rw [h1, Rs.bind_ok] at h; exact stos_ex _ _ _ _ _ _ h
section
variable {X : Cx} {xc : Xc} {W : WX} {pos : Pos}
theorem stos_len : ∀ {is : List Nat} {rs : List RV} {e e2 : Env}, stos e is rs = .ok () e2 → is.length = rs.length
  | [], [], _, _, _ => rfl
  | [], _ :: _, _, _, h => by cases h
  | _ :: _, [], _, _, h => by cases h
  | i :: is, r :: rs, e, e2, h => by
    rw [stos_cons] at h
    cases h1 : sto e i r with
    | no => rw [h1] at h; cases h
    | ex c fs e1 => rw [h1] at h; cases h
    | ok _ e1 => rw [h1, Rs.bind_ok] at h; rw [List.length_cons, List.length_cons, stos_len h]
theorem RRs.length {g : Gm} {s : At} {Z1 : Addr → Prop} {H1 : Hp} {σ : L2.St} {e1 : Env} : ∀ {rs : List RV} {us : List V}, RRs g s Z1 H1 σ e1 rs us → rs.length = us.length
  | _, _, .nil => rfl
  | _, _, .cons _ t _ => by rw [List.length_cons, List.length_cons, RRs.length t]
theorem par_end {is : List Nat} {fa : As} {D : Ends} {σ : L2.St} {H : Hp} (h : rdS (gX X) xc W (sPar is fa) D σ H) : rdA (gX X) xc W fa σ H fun us H1 => is.length = us.length ∧ D.nx (setM σ is us) H1 ∧ ∀ p, H1 p = none → D.nx (setM σ is us) (upd H1 p (.tup us)) := by
  obtain ⟨pa, Zs, env, re, h⟩ := h
  refine ⟨pa, Zs, env, re, h.cont fun rs e1 us Z1 H1 _ p1 q1 h => ?_⟩
  cases h1 : settles e1 rs with
  | no => rw [h1] at h; exact h.elim
  | ex c fs e => exact absurd h1 (settles_ex _ _ _ _ _)
  | ok rs' e2 =>
    rw [h1, Rs.bind_ok] at h
    obtain ⟨Z2, P2, R2, nb, _⟩ := settles_ok p1 q1 h1
    cases h2 : stos e2 is rs' with
    | no => rw [h2] at h; exact h.elim
    | ex c fs e => exact absurd h2 (stos_ex _ _ _ _ _ _)
    | ok _ e3 =>
      rw [h2, Rs.bind_ok] at h
      obtain ⟨Z3, P3⟩ := stos_ok P2.toPost R2 nb h2
      exact ⟨(stos_len h2).trans R2.length, h _ Z3 H1 P3, fun p hp => h _ Z3 _ (P3.trans (P3.re.growP (Ext.new P3.re.zd hp)).toPost)⟩
theorem len2 {α : Type} {us : List α} {n : Nat} (h : 2 = us.length) : ∃ a b, us = [a, b] := by
  match us, h with
  | [a, b], _ => exact ⟨a, b, rfl⟩
theorem len3 {α : Type} {us : List α} (h : 3 = us.length) : ∃ a b c, us = [a, b, c] := by
  match us, h with
  | [a, b, c], _ => exact ⟨a, b, c, rfl⟩
/-- a, b = x, y; two plain local names -/
theorem ss_par2 (i j : Nat) {x y : Str} {a b : Expr} {fa : As} {px py pt : Pos} {kt k2 pt2} (hc : X.calm = true) (hN : X.N.Nodup) (ha : SA X xc W [a, b] fa) (hi : X.N[i]? = some x := by rfl) (hj : X.N[j]? = some y := by rfl) (hij : i ≠ j := by decide)
    (hx : X.env.scope.names.lookup x = some .local := by rfl) (hy : X.env.scope.names.lookup y = some .local := by rfl) (hp : ∀ t, PA X [a, b] t → PS X (.Assign [.Tuple [.Name x px, .Name y py] kt pt] (.Tuple [a, b] k2 pt2) pos) (tPar i j t)) :
    SS X xc W (.Assign [.Tuple [.Name x px, .Name y py] kt pt] (.Tuple [a, b] k2 pt2) pos) (sPar [i, j] fa) := by
  refine PS_imp (hp _ ha) fun D σ H h => ?_
  obtain ⟨pa, Zs, env, re, h⟩ := par_end h
  refine ⟨pa, Zs, env, re, ?_⟩
  cases hz : fa env with
  | no => rw [hz] at h; exact h
  | ex c fs e1 => rw [hz] at h; exact h
  | ok rs e1 =>
    rw [hz] at h
    intro us Z1 H1 p1 q1
    obtain ⟨hl, h1, _⟩ := h us Z1 H1 p1 q1
    obtain ⟨u, w, rfl⟩ := len2 (n := 0) hl
    exact ⟨u, w, rfl, h1⟩
/-- a, b, .. = x, y, ..: by a tuple -/
def gNames : List Nat → TGs
  | [] => gNil
  | i :: is => gCons (gName i) (gNames is)
theorem gNames_run : ∀ {is : List Nat} {us : List V} {σ : L2.St} {H : Hp} {Q : L2.St → Hp → Prop}, is.length = us.length → Q (setM σ is us) H → gNames is us σ H Q
  | [], [], _, _, _, _, h => ⟨rfl, h⟩
  | [], _ :: _, _, _, _, h, _ => by cases h
  | _ :: _, [], _, _, _, h, _ => by cases h
  | i :: is, u :: us, σ, H, Q, hl, h => ⟨u, us, rfl, gNames_run (is := is) (by simpa using hl) h⟩
theorem ss_parT {is : List Nat} {n : Nat} {ts es : List Expr} {fa : As} {pt : Pos} {kt k2 pt2} (hc : X.calm = true) (ha : SA X xc W es fa) (hg : PGs X ts (gNames is)) (hl : is.length = n := by rfl) (hn : (assignEach ts X.env).length = n := by rfl) (hst : (assignEach ts X.env).findIdx? (·.1) = none := by rfl)
    (hs : swapsWithSole [.Tuple ts kt pt] (.Tuple es k2 pt2) pos.line X.env = pure false := by rfl) (hw : swappedStores [.Tuple ts kt pt] (.Tuple es k2 pt2) X.env = pure none := by rfl)
    (h1 : (assignEach [.Tuple ts kt pt] X.env).map (·.2) = [assign (.Tuple ts kt pt) X.env] := by rfl) (hz : n ≤ 1000 := by decide) :
    SS X xc W (.Assign [.Tuple ts kt pt] (.Tuple es k2 pt2) pos) (sPar is fa) := by
  refine PS_imp (ps_asg (pe_tup ha) (pg_tup hc hg hn hst) hs hw h1) fun D σ H h => ?_
  obtain ⟨pa, Zs, env, re, h⟩ := par_end h
  refine ⟨pa, Zs, env, re, ?_⟩
  cases hq : fa env with
  | no => rw [hq] at h; exact h
  | ex c fs e1 => rw [hq] at h; exact h
  | ok rs e1 =>
    rw [hq] at h
    intro us Z1 H1 p1 q1
    obtain ⟨hl', _, h2⟩ := h us Z1 H1 p1 q1
    have e : us.length = n := by rw [← hl', hl]
    exact ⟨by rw [sizeLine_eq]; omega, fun p hp => ⟨p, us, rfl, SqT.of upd_same, e, gNames_run hl' (h2 p hp)⟩⟩
theorem pgn_nil : PGs X [] (gNames []) := pgs_nil
theorem pgn_cons (i : Nat) {is : List Nat} {x : Str} {p : Pos} {es : List Expr} (hN : X.N.Nodup) (h2 : PGs X es (gNames is)) (hi : X.N[i]? = some x := by rfl) (hx : Loc X.env.scope x := by first | exact Or.inl rfl | exact Or.inr rfl) (hf : X.fn x = true ∨ X.env.scope.names.lookup x = some .local := by first | exact .inl rfl | exact .inr rfl)
    (hs : (assignEach (.Name x p :: es) X.env).map (·.2) = assign (.Name x p) X.env :: (assignEach es X.env).map (·.2) := by rfl) : PGs X (.Name x p :: es) (gNames (i :: is)) := pgs_cons (pg_name hN hi hx hf) h2 hs

/-! ### lists that are changed -/
theorem RE.write {g : Gm} {xc : Xc} {pa : List (Option Addr)} {Zs : Addr → Prop} {H : Hp} {σ : L2.St} {e : Env} {j : Nat} {p : Bool} {x y : Val} {a : Addr} {o : HO} (re : RE g xc pa Zs H σ e) (hs : eget e j = .own p x) (ha : σ[j]? = some (some (.ref a))) (hy : Hld g Zs (upd H a o) y a) :
    PostE g xc pa Zs H σ e Zs (upd H a o) (eput e j (.own p y)) := by
  have hj : j < e.length := eget_lt (by rw [hs]; intro h; cases h)
  have oj : OwnAt e σ j a := ⟨p, x, hs, ha⟩
  obtain ⟨nz, o1, ho1, hw1⟩ := re.owOk a ⟨j, oj⟩
  have ne : ∀ b, b ≠ a → upd H a o b = H b := fun b h => upd_ne h
  have own : ∀ k b, OwnAt (eput e j (.own p y)) σ k b → OwnAt e σ k b := fun k b ⟨q, z, h1, h2⟩ => by
    by_cases h : j = k
    · subst h; exact ⟨p, x, hs, h2⟩
    · rw [eget_eput_ne e j k _ h] at h1; exact ⟨q, z, h1, h2⟩
  have zd : Zd Zs (upd H a o) := fun b h => by
    obtain ⟨u, hu⟩ := re.zd b h
    exact ⟨u, by rw [ne b fun z => nz (by rw [← z]; exact h)]; exact hu⟩
  have ext : Ext (Owd e σ) Zs H Zs (upd H a o) := ⟨fun _ h => h, fun _ h => .inl h, fun b u h n => by rw [ne b fun z => n (by rw [z]; exact ⟨j, oj⟩)]; exact h, zd⟩
  have e1 : Ext (fun b => b = a) Zs H Zs (upd H a o) := ⟨fun _ h => h, fun _ h => .inl h, fun b u h n => by rw [ne b n]; exact h, zd⟩
  have d1 : OwOk (fun b => b = a) Zs H := fun b h => by rw [h]; exact ⟨nz, o1, ho1, hw1⟩
  refine ⟨⟨ext, ⟨by rw [eput_length]; exact re.len, fun k => ?_, fun k l b h1 h2 => re.inj k l b (own k b h1) (own l b h2), fun k b h => ?_, zd⟩, fun b ⟨k, h⟩ => .inl ⟨k, own k b h⟩⟩, fun k h => ?_⟩
  · by_cases h : j = k
    · subst h
      rw [eget_eput_same e j _ hj]
      exact ⟨a, ha, nz, hy⟩
    · rw [eget_eput_ne e j k _ h]
      have q := re.sl k
      cases hk : eget e k with
      | emp => trivial
      | v z =>
        rw [hk] at q
        obtain ⟨u, h1, r⟩ := q
        exact ⟨u, h1, r.ext e1 d1⟩
      | own q2 z =>
        rw [hk] at q
        obtain ⟨b, h1, n, r⟩ := q
        refine ⟨b, h1, n, r.ext e1 d1 fun z2 => ?_⟩
        subst z2
        exact h (re.inj j k b oj ⟨q2, z, hk, h1⟩)
      | pf z =>
        rw [hk] at q
        obtain ⟨b, h1, z, r⟩ := q
        exact ⟨b, h1, z, r.ext e1 d1⟩
      | exn c fs =>
        rw [hk] at q
        obtain ⟨b, dd, C, fv, h1, h2, h3, h4, r⟩ := q
        refine ⟨b, dd, C, fv, h1, h2, h3, e1.hh _ _ h4 fun z2 => ?_, r.ext e1 d1⟩
        rw [z2, ho1] at h4
        cases h4
        cases hw1
  · obtain ⟨h1, h2⟩ := re.pin k b h
    refine ⟨h1, ?_⟩
    by_cases hk : j = k
    · subst hk
      rw [eget_eput_same e j _ hj]
      rw [hs] at h2
      cases p
      · exact h2.elim
      · trivial
    · rw [eget_eput_ne e j k _ hk]; exact h2
  · by_cases hk : j = k
    · subst hk
      rw [eget_eput_same e j _ hj]
      trivial
    · rw [eget_eput_ne e j k _ hk]; exact h
end
end Z
/-! ZA: stores by place, append, pop; defs and calls. -/
namespace Z
open PySem L2 PySem.Spec
theorem setAt_ix {xs ys : List Val} {i : Int} {x : Val} (h : setAt xs i x = some ys) : ∃ k, ixN xs.length i = some k ∧ ys = xs.set k x := by
  unfold setAt at h
  unfold ixN
  split at h
  · rename_i c
    split at h
    · rename_i c2
      cases h
      exact ⟨_, by rw [if_pos c, if_pos c2], rfl⟩
    · cases h
  · rename_i c
    split at h
    · rename_i c2
      cases h
      exact ⟨_, by rw [if_neg c, if_pos (by omega)], rfl⟩
    · cases h
theorem isOwnL_some {s : Slot} (h : isOwnL s = true) : ∃ p xs, s = .own p (.lst xs) := by
  unfold isOwnL at h
  split at h
  · exact ⟨_, _, rfl⟩
  · cases h
section
variable {X : Cx} {xc : Xc} {W : WX} {pos : Pos}
/-- name[i] = a -/
theorem ss_setIx (j : Nat) {x : Str} {a ix : Expr} {fa fi : E} {p0 p1 : Pos} (ha : SE X xc W a fa) (hi : SE X xc W ix fi) (hN : X.N[j]? = some x := by rfl) (hv : Vis X.env.scope x := by first | exact Or.inl rfl | exact Or.inr (Or.inl rfl) | exact Or.inr (Or.inr rfl))
    (hd : (x == ("__debug__" : Str)) = false := by decide) (hcd : (x == ("__classdict__" : Str)) = false := by decide)
    (hp : ∀ {to te : TE} {t : TSet}, PE X (.Name x p0) to → PE X ix te → PSet X t → PG X (.Subscript (.Name x p0) ix p1) (gSub to te t) := by intro _ _ _ ho hi hs; exact pg_sub ho hi hs)
    (hs : swapsWithSole [.Subscript (.Name x p0) ix p1] a pos.line X.env = pure false := by rfl) (hw : swappedStores [.Subscript (.Name x p0) ix p1] a X.env = pure none := by rfl)
    (h1 : (assignEach [.Subscript (.Name x p0) ix p1] X.env).map (·.2) = [assign (.Subscript (.Name x p0) ix p1) X.env] := by rfl) : SS X xc W (.Assign [.Subscript (.Name x p0) ix p1] a pos) (sSetIx j fi fa) := by
  refine PS_imp (ps_asg ha (hp (pe_var hN hv hd hcd) hi set_list) hs hw h1) fun D σ H h => ?_
  obtain ⟨pa, Zs, env, re, h⟩ := h
  refine ⟨pa, Zs, env, re, h.cont fun r e1 u Z1 H1 _ p1 q1 h => ?_⟩
  by_cases hg : isOwnL (eget e1 j) = true
  · rw [if_pos hg] at h
    obtain ⟨p, xs, ho⟩ := isOwnL_some hg
    have sj := p1.re.sl j
    rw [ho] at sj
    obtain ⟨b, hb, _⟩ := sj
    refine ⟨_, hb, pa, Z1, e1, p1.re, ?_⟩
    cases hf : fi e1 with
    | no => rw [hf] at h; exact h.elim
    | ex c fs e2 => rw [hf] at h; exact fun C d fv Z2 H2 p2 => h C d fv σ Z2 H2 (p1.trans p2).toPost
    | ok q e2 =>
      rw [hf, Rs.bind_ok] at h
      intro i' Z2 H2 p2 q2
      cases he : esc e2 r with
      | no => rw [he] at h; exact h.elim
      | ex c fs e => exact absurd (show escs e2 [r] = .ex c fs e by rw [escs_cons, he]; rfl) (escs_ex _ _ _ _ _)
      | ok x e3 =>
        rw [he, Rs.bind_ok] at h
        obtain ⟨Z3, P3, rv, zz, _⟩ := esc_ok (s := ⟨pa, Zs, H, σ, env⟩) (p1.trans p2) (q1.step p1.re p2) he
        cases ho3 : eget e3 j with
        | own p3 y =>
          cases y with
          | lst ys =>
            cases q with
            | v k =>
              cases q2 with
              | int i =>
                simp only [ho3] at h
                cases hz : setAt ys i x with
                | none => rw [hz] at h; exact h.elim
                | some zs =>
                  rw [hz] at h
                  obtain ⟨n, hn, rfl⟩ := setAt_ix hz
                  have s3 := P3.re.sl j
                  rw [ho3] at s3
                  obtain ⟨b3, hb3, nz3, us, hl3, rl3⟩ := s3
                  rw [hb] at hb3
                  cases hb3
                  refine ⟨b, us, i, n, rfl, rfl, hl3, by rw [← rl3.length]; exact hn, ?_⟩
                  have hy : Hld (gX X) Z3 (upd H2 b (.lst (us.set n u))) (.lst (ys.set n x)) b := ⟨_, upd_same, (rl3.set n rv).gr ⟨fun _ h => h, fun c o hw hc => by
                    rw [upd_ne]; · exact hc
                    intro z
                    subst z
                    rw [hl3] at hc
                    cases hc
                    rcases hw with hw | hw
                    · cases hw
                    · exact nz3 hw⟩⟩
                  exact h σ Z3 _ (P3.trans (P3.re.write ho3 hb hy)).toPost
              | _ => simp only [ho3] at h; exact h.elim
            | own k => simp only [ho3] at h; exact h.elim
            | bor k => simp only [ho3] at h; exact h.elim
          | _ => simp only [ho3] at h; exact h.elim
        | _ => simp only [ho3] at h; exact h.elim
  · rw [if_neg hg] at h
    exact h.elim
/-- a list that is changed, at a place -/
theorem Hld.upd {g : Gm} {Zs : Addr → Prop} {H : Hp} {b : Addr} {us ws : List V} {ys : List Val} (h : H b = some (.lst us)) (nz : ¬ Zs b) (r : RvL g Zs H ys ws) : Hld g Zs (upd H b (.lst ws)) (.lst ys) b :=
  ⟨_, upd_same, r.gr ⟨fun _ h => h, fun c o hw hc => by
    rw [upd_ne]; · exact hc
    intro z
    subst z
    rw [h] at hc
    cases hc
    rcases hw with hw | hw
    · cases hw
    · exact nz hw⟩⟩
end
end Z
/-! ZB: calls of defs. -/
namespace Z
open PySem L2 PySem.Spec
/-! ### what is handed over -/
inductive RAs (g : Gm) (Zs : Addr → Prop) (H : Hp) : List AV → List V → Prop
  | nil : RAs g Zs H [] []
  | v {x : Val} {u : V} {as : List AV} {us : List V} : RvV g Zs H x u → RAs g Zs H as us → RAs g Zs H (.v x :: as) (u :: us)
  | own {x : Val} {a : Addr} {as : List AV} {us : List V} : ¬ Zs a → Hld g Zs H x a → RAs g Zs H as us → RAs g Zs H (.own x :: as) (.ref a :: us)
def OwA (as : List AV) (us : List V) (a : Addr) : Prop := ∃ (i : Nat) (x : Val), as[i]? = some (.own x) ∧ us[i]? = some (.ref a)
def InjA (as : List AV) (us : List V) : Prop := ∀ (i j : Nat) (x y : Val) (a : Addr), as[i]? = some (.own x) → us[i]? = some (.ref a) → as[j]? = some (.own y) → us[j]? = some (.ref a) → i = j
/-- what became of what was handed over -/
def Bk (g : Gm) (Z1 : Addr → Prop) (H1 : Hp) (as : List AV) (us : List V) (ps : Env) : Prop := ∀ (i : Nat) (x : Val) (a : Addr), as[i]? = some (.own x) → us[i]? = some (.ref a) →
  match eget ps i with
  | .own true y => ¬ Z1 a ∧ Hld g Z1 H1 y a
  | .pf y => Z1 a ∧ RvV g Z1 H1 y (.ref a)
  | _ => False
def RRc (g : Gm) (H : Hp) (Z1 : Addr → Prop) (H1 : Hp) : RV → V → Prop
  | .v x, u => RvV g Z1 H1 x u
  | .own x, u => ∃ a, u = .ref a ∧ ¬ Z1 a ∧ Hld g Z1 H1 x a ∧ H a = none
  | .bor _, _ => False
def EndC (g : Gm) (Zs : Addr → Prop) (H : Hp) (as : List AV) (us : List V) (Q : VK) (E : XK) : FR → Prop
  | .ok r ps => ∀ u Z1 H1, Ext (OwA as us) Zs H Z1 H1 → Bk g Z1 H1 as us ps → RRc g H Z1 H1 r u → Q u H1
  | .ex c fs ps => ∀ C d fv Z1 H1, Ext (OwA as us) Zs H Z1 H1 → Bk g Z1 H1 as us ps → g.mg c = some (.ref C) → H1 d = some (.xd fv) → RvF g Z1 H1 fs fv → E (.ref C) (some d) H1
  | .no => False
/-- a def's promise: it does what m says -/
def spM (g : Gm) (m : Fn) : Sp := fun us H Q E => ∃ Zs as, RAs g Zs H as us ∧ InjA as us ∧ Zd Zs H ∧ EndC g Zs H as us Q E (m as)
/-- so many arguments are asked -/
def Arity (n : Nat) (m : Fn) : Prop := ∀ as, as.length ≠ n → m as = .no
theorem RAs.length {g : Gm} {Zs : Addr → Prop} {H : Hp} : ∀ {as : List AV} {us : List V}, RAs g Zs H as us → as.length = us.length
  | _, _, .nil => rfl
  | _, _, .v _ r => by rw [List.length_cons, List.length_cons, RAs.length r]
  | _, _, .own _ _ r => by rw [List.length_cons, List.length_cons, RAs.length r]
theorem RAs.getOwn {g : Gm} {Zs : Addr → Prop} {H : Hp} : ∀ {as : List AV} {us : List V} {i : Nat} {x : Val}, RAs g Zs H as us → as[i]? = some (.own x) → ∃ a, us[i]? = some (.ref a) ∧ ¬ Zs a ∧ Hld g Zs H x a
  | _, _, 0, x, .v _ _, e => by simp at e
  | _, _, 0, x, .own n h r, e => by
    simp at e
    subst e
    exact ⟨_, rfl, n, h⟩
  | _, _, i + 1, x, .v _ r, e => by
    obtain ⟨a, h1, h2⟩ := RAs.getOwn (i := i) (x := x) r (by simpa using e)
    exact ⟨a, by simpa using h1, h2⟩
  | _, _, i + 1, x, .own _ _ r, e => by
    obtain ⟨a, h1, h2⟩ := RAs.getOwn (i := i) (x := x) r (by simpa using e)
    exact ⟨a, by simpa using h1, h2⟩
theorem RAs.owOk {g : Gm} {Zs : Addr → Prop} {H : Hp} {as : List AV} {us : List V} (r : RAs g Zs H as us) : OwOk (OwA as us) Zs H := by
  rintro a ⟨i, x, h1, h2⟩
  obtain ⟨b, h3, n, h⟩ := r.getOwn h1
  rw [h2] at h3; cases h3
  exact ⟨n, h.wr⟩

/-! ### the caller's side -/
/-- values, by places -/
structure RRp (g : Gm) (s : At) (Zt : Addr → Prop) (H' : Hp) (σ' : L2.St) (env' : Env) (rs : List RV) (us : List V) : Prop where
  len : rs.length = us.length
  rr : ∀ (i : Nat) r u, rs[i]? = some r → us[i]? = some u → RR g s Zt H' σ' env' r u
  ne : ∀ (i j : Nat) x y u, i ≠ j → rs[i]? = some (.own x) → rs[j]? = some (.own y) → us[i]? = some u → us[j]? ≠ some u
theorem RRs.p {g : Gm} {s : At} {Zt : Addr → Prop} {H' : Hp} {σ' : L2.St} {env' : Env} : ∀ {rs : List RV} {us : List V}, RRs g s Zt H' σ' env' rs us → RRp g s Zt H' σ' env' rs us
  | _, _, .nil => ⟨rfl, fun i r u h => (by simp at h), fun i j x y u _ h => (by simp at h)⟩
  | r :: rs, u :: us, .cons h t n => by
    have ih := RRs.p t
    refine ⟨by rw [List.length_cons, List.length_cons, ih.len], fun i r' u' h1 h2 => ?_, fun i j x y u' hij h1 h2 h3 h4 => ?_⟩
    · cases i with
      | zero => simp at h1 h2; subst h1; subst h2; exact h
      | succ i => exact ih.rr i r' u' (by simpa using h1) (by simpa using h2)
    · have zip : ∀ {k : Nat} {y : Val} {w : V}, rs[k]? = some (.own y) → us[k]? = some w → (RV.own y, w) ∈ rs.zip us := fun {k y w} a b => by
        refine List.mem_of_getElem? (i := k) ?_
        rw [List.getElem?_zip_eq_some]
        exact ⟨a, b⟩
      cases i with
      | zero =>
        cases j with
        | zero => exact hij rfl
        | succ j =>
          simp at h1 h3
          subst h1; subst h3
          exact n x rfl (.own y) u (zip (by simpa using h2) (by simpa using h4)) ⟨y, rfl⟩ rfl
      | succ i =>
        cases j with
        | zero =>
          simp at h2 h4
          subst h2; subst h4
          exact n y rfl (.own x) u (zip (by simpa using h1) (by simpa using h3)) ⟨x, rfl⟩ rfl
        | succ j => exact ih.ne i j x y u' (by omega) (by simpa using h1) (by simpa using h2) (by simpa using h3) (by simpa using h4)
/-- in another order -/
theorem RRp.perm {g : Gm} {s : At} {Zt : Addr → Prop} {H' : Hp} {σ' : L2.St} {env' : Env} {rs : List RV} {us : List V} (h : RRp g s Zt H' σ' env' rs us) {perm : List Nat} (nd : perm.Nodup) (lt : ∀ i ∈ perm, i < rs.length) :
    RRp g s Zt H' σ' env' (perm.map fun i => rs.getD i (.v .non)) (perm.map fun i => us.getD i .non) := by
  have g1 : ∀ (k : Nat) r, (perm.map fun i => rs.getD i (.v .non))[k]? = some r → ∃ i, perm[k]? = some i ∧ rs[i]? = some r := fun k r e => by
    rw [List.getElem?_map] at e
    cases q : perm[k]? with
    | none => rw [q] at e; cases e
    | some i =>
      rw [q] at e
      have hi := lt i (List.mem_of_getElem? q)
      refine ⟨i, rfl, ?_⟩
      rw [List.getElem?_eq_getElem hi]
      simpa [List.getD_eq_getElem?_getD, List.getElem?_eq_getElem hi] using e
  have g2 : ∀ (k : Nat) r, (perm.map fun i => us.getD i .non)[k]? = some r → ∃ i, perm[k]? = some i ∧ us[i]? = some r := fun k r e => by
    rw [List.getElem?_map] at e
    cases q : perm[k]? with
    | none => rw [q] at e; cases e
    | some i =>
      rw [q] at e
      have hi : i < us.length := by rw [← h.len]; exact lt i (List.mem_of_getElem? q)
      refine ⟨i, rfl, ?_⟩
      rw [List.getElem?_eq_getElem hi]
      simpa [List.getD_eq_getElem?_getD, List.getElem?_eq_getElem hi] using e
  refine ⟨by simp, fun k r u h1 h2 => ?_, fun k l x y u hkl h1 h2 h3 h4 => ?_⟩
  · obtain ⟨i, e1, h1⟩ := g1 k r h1
    obtain ⟨j, e2, h2⟩ := g2 k u h2
    rw [e1] at e2; cases e2
    exact h.rr i r u h1 h2
  · obtain ⟨i, e1, h1⟩ := g1 k _ h1
    obtain ⟨j, e2, h2⟩ := g1 l _ h2
    obtain ⟨i', e3, h3⟩ := g2 k _ h3
    obtain ⟨j', e4, h4⟩ := g2 l _ h4
    rw [e1] at e3; cases e3
    rw [e2] at e4; cases e4
    refine h.ne i j x y u (fun z => hkl ?_) h1 h2 h3 h4
    subst z
    obtain ⟨l1, e1⟩ := List.getElem?_eq_some_iff.mp e1
    obtain ⟨l2, e2⟩ := List.getElem?_eq_some_iff.mp e2
    exact (List.getElem_inj nd).mp (e1.trans e2.symm)
theorem hands_get {e : Env} : ∀ {rs : List RV} {as : List AV}, hands e rs = some as → as.length = rs.length ∧ ∀ (i : Nat) r, rs[i]? = some r → ∃ a, as[i]? = some a ∧ hand e r = some a
  | [], as, h => by cases h; exact ⟨rfl, fun i r h => (by simp at h)⟩
  | r :: rs, as, h => by
    rw [hands_cons] at h
    cases h1 : hand e r with
    | none => rw [h1] at h; cases h
    | some a =>
      cases h2 : hands e rs with
      | none => rw [h1, h2] at h; cases h
      | some as' =>
        rw [h1, h2] at h
        cases h
        obtain ⟨l, ih⟩ := hands_get h2
        refine ⟨by rw [List.length_cons, List.length_cons, l], fun i r' h => ?_⟩
        cases i with
        | zero => simp at h; subst h; exact ⟨a, rfl, h1⟩
        | succ i =>
          obtain ⟨a', h3, h4⟩ := ih i r' (by simpa using h)
          exact ⟨a', by simpa using h3, h4⟩
/-- an own object that is handed over: a new one, or a place's -/
theorem hand_own_cases {e : Env} {r : RV} {x : Val} (h : hand e r = some (.own x)) : r = .own x ∨ ∃ i p, r = .bor i ∧ eget e i = .own p x := by
  cases r with
  | v y => cases h
  | own y => cases h; exact .inl rfl
  | bor i =>
    rw [hand_bor] at h
    cases hs : eget e i with
    | own p y => rw [hs] at h; cases h; exact .inr ⟨i, p, rfl, hs⟩
    | emp => rw [hs] at h; cases h
    | v y => rw [hs] at h; cases h
    | pf y => rw [hs] at h; cases h
    | exn c fs => rw [hs] at h; cases h
theorem nodupN_nd : ∀ {l : List Nat}, nodupN l = true → l.Nodup
  | [], _ => List.nodup_nil
  | i :: is, h => by
    unfold nodupN at h
    rw [Bool.and_eq_true, Bool.not_eq_true'] at h
    refine List.nodup_cons.mpr ⟨fun m => ?_, nodupN_nd h.2⟩
    rw [List.contains_iff_mem.mpr m] at h
    cases h.1
/-- a place is lent once -/
theorem lent_inj {e : Env} : ∀ {rs : List RV}, (lent e rs).Nodup → ∀ (i j k : Nat) (p : Bool) (x : Val), rs[i]? = some (.bor k) → rs[j]? = some (.bor k) → eget e k = .own p x → i = j := by
  have mem : ∀ {rs : List RV} {i k : Nat} {p : Bool} {x : Val}, rs[i]? = some (.bor k) → eget e k = .own p x → k ∈ lent e rs := by
    intro rs
    induction rs with
    | nil => intro i k p x h; simp at h
    | cons r rs ih =>
      intro i k p x h ho
      cases i with
      | zero =>
        simp at h
        subst h
        rw [lent_bor, ho]
        exact List.mem_cons_self
      | succ i =>
        have := ih (i := i) (by simpa using h) ho
        cases r with
        | v y => exact this
        | own y => exact this
        | bor l =>
          rw [lent_bor]
          cases eget e l <;> first | exact this | exact List.mem_cons_of_mem _ this
  intro rs
  induction rs with
  | nil => intro _ i j k p x h; simp at h
  | cons r rs ih =>
    intro nd i j k p x h1 h2 ho
    have nd' : (lent e rs).Nodup := by
      cases r with
      | v y => exact nd
      | own y => exact nd
      | bor l =>
        rw [lent_bor] at nd
        cases hl : eget e l <;> rw [hl] at nd <;> first | exact nd | exact (List.nodup_cons.mp nd).2
    cases i with
    | zero =>
      cases j with
      | zero => rfl
      | succ j =>
        simp at h1
        subst h1
        rw [lent_bor, ho] at nd
        exact absurd (mem (i := j) (by simpa using h2) ho) (List.nodup_cons.mp nd).1
    | succ i =>
      cases j with
      | zero =>
        simp at h2
        subst h2
        rw [lent_bor, ho] at nd
        exact absurd (mem (i := i) (by simpa using h1) ho) (List.nodup_cons.mp nd).1
      | succ j => rw [ih nd' i j k p x (by simpa using h1) (by simpa using h2) ho]
theorem RRp.as {g : Gm} {xc : Xc} {s : At} {pa : List (Option Addr)} {Z1 : Addr → Prop} {H1 : Hp} {σ : L2.St} {e1 : Env} (re : RE g xc pa Z1 H1 σ e1) : ∀ {rs : List RV} {us : List V} {as : List AV}, rs.length = us.length → (∀ (i : Nat) r u, rs[i]? = some r → us[i]? = some u → RR g s Z1 H1 σ e1 r u) → hands e1 rs = some as → RAs g Z1 H1 as us
  | [], [], as, _, _, h => by cases h; exact .nil
  | [], _ :: _, _, h, _, _ => by cases h
  | _ :: _, [], _, h, _, _ => by cases h
  | r :: rs, u :: us, as, hl, hr, h => by
    rw [hands_cons] at h
    cases h1 : hand e1 r with
    | none => rw [h1] at h; cases h
    | some a =>
      cases h2 : hands e1 rs with
      | none => rw [h1, h2] at h; cases h
      | some as' =>
        rw [h1, h2] at h
        cases h
        have ih := RRp.as re (rs := rs) (us := us) (by simpa using hl) (fun i r u a b => hr (i + 1) r u (by simpa using a) (by simpa using b)) h2
        have r0 := hr 0 r u rfl rfl
        cases r with
        | v x => cases h1; exact .v r0 ih
        | own x =>
          cases h1
          obtain ⟨b, e, nz, hh, _⟩ := r0
          subst e
          exact .own nz hh ih
        | bor k =>
          obtain ⟨b, e, hb, _⟩ := r0
          subst e
          rw [hand_bor] at h1
          have q := re.sl k
          rw [hb] at q
          cases hs : eget e1 k with
          | emp => rw [hs] at h1; cases h1
          | exn c fs => rw [hs] at h1; cases h1
          | v y =>
            rw [hs] at h1 q; cases h1
            obtain ⟨w, hw, rv⟩ := q
            cases hw
            exact .v rv ih
          | own p y =>
            rw [hs] at h1 q; cases h1
            obtain ⟨w, hw, nz, hh⟩ := q
            cases hw
            exact .own nz hh ih
          | pf y =>
            rw [hs] at h1 q; cases h1
            obtain ⟨w, hw, _, rv⟩ := q
            cases hw
            exact .v rv ih
theorem lent_mem {e : Env} : ∀ {rs : List RV} {i k : Nat} {p : Bool} {x : Val}, rs[i]? = some (.bor k) → eget e k = .own p x → k ∈ lent e rs
  | [], _, _, _, _, h, _ => by simp at h
  | r :: rs, 0, k, p, x, h, ho => by
    simp at h
    subst h
    rw [lent_bor, ho]
    exact List.mem_cons_self
  | r :: rs, i + 1, k, p, x, h, ho => by
    have := lent_mem (rs := rs) (i := i) (by simpa using h) ho
    cases r with
    | v y => exact this
    | own y => exact this
    | bor l =>
      rw [lent_bor]
      cases eget e l <;> first | exact this | exact List.mem_cons_of_mem _ this
theorem lent_congr {e e' : Env} : ∀ {rs : List RV}, (∀ (i k : Nat), rs[i]? = some (.bor k) → eget e k = eget e' k) → lent e rs = lent e' rs
  | [], _ => rfl
  | r :: rs, h => by
    have ih := lent_congr (e := e) (e' := e') (rs := rs) fun i k q => h (i + 1) k (by simpa using q)
    cases r with
    | v y => exact ih
    | own y => exact ih
    | bor l => rw [lent_bor, lent_bor, h 0 l rfl, ih]
theorem eput_self : ∀ (e : Env) (i : Nat), eput e i (eget e i) = e
  | [], _ => rfl
  | _ :: _, 0 => rfl
  | s :: r, i + 1 => by rw [eget_succ, eput_succ, eput_self r i]
theorem back_non {s p : Slot} (h : ∀ q x, s ≠ .own q x) : back s p = s := by
  cases s with
  | own q x => exact absurd rfl (h q x)
  | _ => rfl
/-- what a place holds behind the call -/
def BkG (rs : List RV) (ps e : Env) (i : Nat) : Prop := (eget (backs e rs ps) i = eget e i ∧ ∀ (k : Nat) p x, rs[k]? = some (.bor i) → eget e i = .own p x → ps.length ≤ k) ∨ ∃ (k : Nat) (p : Bool) (x : Val), rs[k]? = some (.bor i) ∧ eget e i = .own p x ∧ k < ps.length ∧ eget (backs e rs ps) i = back (eget e i) (eget ps k)
theorem backs_get : ∀ {rs : List RV} {ps : Env} {e : Env} (i : Nat), (lent e rs).Nodup → BkG rs ps e i
  | [], ps, e, i, _ => .inl ⟨by rw [backs_nil], fun k p x h => by simp at h⟩
  | r :: rs, [], e, i, _ => .inl ⟨by cases r <;> rfl, fun k p x _ _ => Nat.zero_le _⟩
  | r :: rs, p :: ps, e, i, nd => by
    have shift : ∀ {e' : Env}, (lent e' rs).Nodup → backs e (r :: rs) (p :: ps) = backs e' rs ps → eget e' i = eget e i → (∀ q x, r = .bor i → eget e i ≠ .own q x) → BkG (r :: rs) (p :: ps) e i := fun {e'} nd' hb he hr => by
      have ih := backs_get (rs := rs) (ps := ps) (e := e') i nd'
      unfold BkG at ih ⊢
      rw [hb]
      rw [he] at ih
      rcases ih with ⟨h1, h2⟩ | ⟨k, q, x, h1, h2, h3, h4⟩
      · refine Or.inl ⟨h1, fun k q x hk ho => ?_⟩
        cases k with
        | zero => simp at hk; exact absurd ho (hr q x hk)
        | succ k => exact Nat.succ_le_succ (h2 k q x (by simpa using hk) ho)
      · exact Or.inr ⟨k + 1, q, x, by simpa using h1, h2, Nat.succ_lt_succ h3, by rw [eget_succ]; exact h4⟩
    cases r with
    | v y => exact shift (e' := e) nd rfl rfl (fun q x h => by cases h)
    | own y => exact shift (e' := e) nd rfl rfl (fun q x h => by cases h)
    | bor l =>
      by_cases ho : ∃ q x, eget e l = .own q x
      · obtain ⟨q, x, ho⟩ := ho
        have nd2 : l ∉ lent e rs ∧ (lent e rs).Nodup := by
          rw [lent_bor, ho] at nd
          exact List.nodup_cons.mp nd
        have nob : ∀ (k : Nat), rs[k]? ≠ some (.bor l) := fun k h => nd2.1 (lent_mem h ho)
        have le : lent (eput e l (back (eget e l) p)) rs = lent e rs := lent_congr fun j k h => eget_eput_ne _ _ _ _ fun z => nob j (by rw [z]; exact h)
        by_cases hi : l = i
        · subst hi
          have hl : l < e.length := eget_lt (by rw [ho]; intro h; cases h)
          have ih := backs_get (rs := rs) (ps := ps) (e := eput e l (back (eget e l) p)) l (by rw [le]; exact nd2.2)
          unfold BkG
          rw [backs_bor]
          rcases ih with ⟨h1, _⟩ | ⟨k, _, _, h1, _⟩
          · refine .inr ⟨0, q, x, rfl, ho, Nat.succ_pos _, ?_⟩
            rw [h1, eget_eput_same e l _ hl, eget_zero]
          · exact absurd h1 (nob k)
        · exact shift (e' := eput e l (back (eget e l) p)) (by rw [le]; exact nd2.2) rfl (eget_eput_ne _ _ _ _ hi) (fun q x h => by cases h; exact absurd rfl hi)
      · have hn : ∀ q x, eget e l ≠ .own q x := fun q x h => ho ⟨q, x, h⟩
        have e1 : eput e l (back (eget e l) p) = e := by rw [back_non hn, eput_self]
        have nd' : (lent e rs).Nodup := by
          rw [lent_bor] at nd
          cases hl : eget e l <;> rw [hl] at nd <;> first | exact nd | exact absurd hl (hn _ _)
        exact shift (e' := e) nd' (by rw [backs_bor, e1]) rfl (fun q x h => by cases h; exact hn q x)
section
variable {g : Gm} {xc : Xc} {s : At} {Z1 Z2 : Addr → Prop} {H1 H2 : Hp} {e1 : Env} {rs : List RV} {us : List V} {as : List AV} {ps : Env}
/-- none is handed over twice -/
theorem call_inj (p1 : PostE g xc s.pa s.Zs s.H s.σ s.env Z1 H1 e1) (q1 : RRp g s Z1 H1 s.σ e1 rs us) (ha : hands e1 rs = some as) (nd : nodupN (lent e1 rs) = true) : InjA as us := by
  have re := p1.re
  obtain ⟨al, ag⟩ := hands_get ha
  have nd' := nodupN_nd nd
  -- an own object that is handed over: whose it is
  have whose : ∀ (i : Nat) x a, as[i]? = some (.own x) → us[i]? = some (.ref a) → (rs[i]? = some (.own x) ∧ ¬ Owd e1 s.σ a ∧ (Owd s.env s.σ a ∨ s.H a = none)) ∨ ∃ k p, rs[i]? = some (.bor k) ∧ eget e1 k = .own p x ∧ s.σ[k]? = some (some (.ref a)) := fun i x a h1 h2 => by
    have hi : i < rs.length := by rw [← al]; exact (List.getElem?_eq_some_iff.mp h1).1
    have hr : rs[i]? = some rs[i] := List.getElem?_eq_getElem hi
    obtain ⟨a', h3, h4⟩ := ag i _ hr
    rw [h1] at h3; cases h3
    have r0 := q1.rr i _ _ hr h2
    rcases hand_own_cases h4 with e | ⟨k, p, e, ho⟩
    · rw [e] at r0 hr
      obtain ⟨b, eb, _, _, no, fr⟩ := r0
      cases eb
      exact .inl ⟨hr, no, fr⟩
    · rw [e] at r0 hr
      obtain ⟨b, eb, hb, _⟩ := r0
      cases eb
      exact .inr ⟨k, p, hr, ho, hb⟩
  exact fun i j x y a h1 h2 h3 h4 => by
    rcases whose i x a h1 h2 with ⟨r1, n1, _⟩ | ⟨k, p, r1, o1, s1⟩
    · rcases whose j y a h3 h4 with ⟨r2, n2, _⟩ | ⟨l, q, r2, o2, s2⟩
      · exact Classical.byContradiction fun hij => q1.ne i j x y _ hij r1 r2 h2 h4
      · exact absurd ⟨l, q, y, o2, s2⟩ n1
    · rcases whose j y a h3 h4 with ⟨r2, n2, _⟩ | ⟨l, q, r2, o2, s2⟩
      · exact absurd ⟨k, p, x, o1, s1⟩ n2
      · have e := re.inj k l a ⟨p, x, o1, s1⟩ ⟨q, y, o2, s2⟩
        subst e
        exact lent_inj nd' i j k p x r1 r2 o1
/-- behind the call -/
theorem call_post (p1 : PostE g xc s.pa s.Zs s.H s.σ s.env Z1 H1 e1) (q1 : RRp g s Z1 H1 s.σ e1 rs us) (ha : hands e1 rs = some as) (nd : nodupN (lent e1 rs) = true) (ext : Ext (OwA as us) Z1 H1 Z2 H2) (bk : Bk g Z2 H2 as us ps) :
    PostE g xc s.pa s.Zs s.H s.σ s.env Z2 H2 (backs e1 rs ps) ∧ (∀ a, Owd (backs e1 rs ps) s.σ a → Owd e1 s.σ a) := by
  have re := p1.re
  obtain ⟨al, ag⟩ := hands_get ha
  have nd' := nodupN_nd nd
  have ra := RRp.as re q1.len q1.rr ha
  -- an own object that is handed over: whose it is
  have whose : ∀ (i : Nat) x a, as[i]? = some (.own x) → us[i]? = some (.ref a) → (rs[i]? = some (.own x) ∧ ¬ Owd e1 s.σ a ∧ (Owd s.env s.σ a ∨ s.H a = none)) ∨ ∃ k p, rs[i]? = some (.bor k) ∧ eget e1 k = .own p x ∧ s.σ[k]? = some (some (.ref a)) := fun i x a h1 h2 => by
    have hi : i < rs.length := by rw [← al]; exact (List.getElem?_eq_some_iff.mp h1).1
    have hr : rs[i]? = some rs[i] := List.getElem?_eq_getElem hi
    obtain ⟨a', h3, h4⟩ := ag i _ hr
    rw [h1] at h3; cases h3
    have r0 := q1.rr i _ _ hr h2
    rcases hand_own_cases h4 with e | ⟨k, p, e, ho⟩
    · rw [e] at r0 hr
      obtain ⟨b, eb, _, _, no, fr⟩ := r0
      cases eb
      exact .inl ⟨hr, no, fr⟩
    · rw [e] at r0 hr
      obtain ⟨b, eb, hb, _⟩ := r0
      cases eb
      exact .inr ⟨k, p, hr, ho, hb⟩
  have ow : ∀ a, OwA as us a → Owd e1 s.σ a ∨ Owd s.env s.σ a ∨ s.H a = none := fun a ⟨i, x, h1, h2⟩ => by
    rcases whose i x a h1 h2 with ⟨_, _, f⟩ | ⟨k, p, _, o, s1⟩
    · exact .inr f
    · exact .inl ⟨k, p, x, o, s1⟩
  have ow' : ∀ a, OwA as us a → Owd s.env s.σ a ∨ s.H a = none := fun a h => (ow a h).elim (p1.ow a) id
  have gr := ext.grow ra.owOk
  -- an own place that is not handed over
  have notA : ∀ (k : Nat) p x a, eget e1 k = .own p x → s.σ[k]? = some (some (.ref a)) → OwA as us a → ∃ (i : Nat), rs[i]? = some (.bor k) ∧ as[i]? = some (.own x) ∧ us[i]? = some (.ref a) := fun k p x a ho hs ⟨i, y, h1, h2⟩ => by
    rcases whose i y a h1 h2 with ⟨_, n, _⟩ | ⟨l, q, r2, o2, s2⟩
    · exact absurd ⟨k, p, x, ho, hs⟩ n
    · have e := re.inj k l a ⟨p, x, ho, hs⟩ ⟨q, y, o2, s2⟩
      subst e
      rw [ho] at o2; cases o2
      exact ⟨i, r2, h1, h2⟩
  -- a place that is handed over
  have isA : ∀ (i k : Nat) p x, rs[i]? = some (.bor k) → eget e1 k = .own p x → ∃ a, s.σ[k]? = some (some (.ref a)) ∧ as[i]? = some (.own x) ∧ us[i]? = some (.ref a) := fun i k p x h ho => by
    obtain ⟨a', h3, h4⟩ := ag i _ h
    rw [hand_bor, ho] at h4
    cases h4
    obtain ⟨a, h5, _⟩ := ra.getOwn h3
    have r0 := q1.rr i _ _ h h5
    obtain ⟨b, eb, hb, _⟩ := r0
    cases eb
    exact ⟨a, hb, h3, h5⟩
  have slot : ∀ k, (eget (backs e1 rs ps) k = eget e1 k ∧ ∀ p x a, eget e1 k = .own p x → s.σ[k]? = some (some (.ref a)) → ¬ OwA as us a) ∨ ∃ (p : Bool) (x : Val) (a : Addr) (sl : Slot), eget e1 k = .own p x ∧ s.σ[k]? = some (some (.ref a)) ∧ eget (backs e1 rs ps) k = back (.own p x) sl ∧
      ((∃ y, sl = .own true y ∧ ¬ Z2 a ∧ Hld g Z2 H2 y a) ∨ ∃ y, sl = .pf y ∧ Z2 a ∧ RvV g Z2 H2 y (.ref a)) := fun k => by
    rcases backs_get (ps := ps) k nd' with ⟨h1, h2⟩ | ⟨i, p, x, h1, h2, h3, h4⟩
    · refine .inl ⟨h1, fun p x a ho hs hA => ?_⟩
      obtain ⟨i, r1, a1, u1⟩ := notA k p x a ho hs hA
      have b := bk i x a a1 u1
      rw [eget_out ps i (h2 i p x r1 ho)] at b
      exact b
    · obtain ⟨a, hs, a1, u1⟩ := isA i k p x h1 h2
      have b := bk i x a a1 u1
      refine .inr ⟨p, x, a, eget ps i, h2, hs, by rw [h4, h2], ?_⟩
      cases hp : eget ps i with
      | own q y =>
        rw [hp] at b
        cases q
        · exact b.elim
        · exact .inl ⟨y, rfl, b⟩
      | pf y => rw [hp] at b; exact .inr ⟨y, rfl, b⟩
      | emp => rw [hp] at b; exact b.elim
      | v y => rw [hp] at b; exact b.elim
      | exn c fs => rw [hp] at b; exact b.elim
  have own : ∀ k a, OwnAt (backs e1 rs ps) s.σ k a → OwnAt e1 s.σ k a := fun k a ⟨q, y, h1, h2⟩ => by
    rcases slot k with ⟨h3, _⟩ | ⟨p, x, b, sl, h3, h4, h5, h6⟩
    · rw [h3] at h1; exact ⟨q, y, h1, h2⟩
    · rw [h4] at h2; cases h2
      exact ⟨p, x, h3, h4⟩
  refine ⟨⟨⟨⟨fun a h => ext.zz a (p1.ext.zz a h), fun a h => ?_, fun a o h n => ?_, ext.zd⟩, ⟨?_, fun k => ?_, fun i j a h1 h2 => re.inj i j a (own i a h1) (own j a h2), fun k a h => ?_, ext.zd⟩, fun a ⟨k, h⟩ => p1.ow a ⟨k, own k a h⟩⟩, fun k h => ?_⟩, fun a ⟨k, h⟩ => ⟨k, own k a h⟩⟩
  · rcases ext.zn a h with h | h | h
    · exact p1.ext.zn a h
    · exact .inr (ow' a h)
    · exact .inr (p1.ext.free h)
  · refine ext.hh a o (p1.ext.hh a o h n) fun w => ?_
    rcases ow' a w with w | w
    · exact n w
    · rw [h] at w; cases w
  · have : ∀ (rs : List RV) (ps e : Env), (backs e rs ps).length = e.length := by
      intro rs
      induction rs with
      | nil => intro ps e; rw [backs_nil]
      | cons r rs ih =>
        intro ps e
        cases ps with
        | nil => cases r <;> rfl
        | cons p ps =>
          cases r with
          | v y => exact ih ps e
          | own y => exact ih ps e
          | bor l => rw [backs_bor, ih, eput_length]
    rw [this]
    exact re.len
  · rcases slot k with ⟨h3, h4⟩ | ⟨p, x, a, sl, h3, h4, h5, h6⟩
    · rw [h3]
      have q := re.sl k
      cases hs : eget e1 k with
      | emp => trivial
      | v x =>
        rw [hs] at q
        obtain ⟨u, h, r⟩ := q
        exact ⟨u, h, r.gr gr⟩
      | own p x =>
        rw [hs] at q
        obtain ⟨a, h, nz, r⟩ := q
        have na := h4 p x a hs h
        refine ⟨a, h, fun z => ?_, r.ext ext ra.owOk na⟩
        obtain ⟨o, ho, _⟩ := r.wr
        rcases ext.zn a z with z | z | z
        · exact nz z
        · exact na z
        · rw [ho] at z; cases z
      | pf x =>
        rw [hs] at q
        obtain ⟨a, h, z, r⟩ := q
        exact ⟨a, h, gr.zz a z, r.gr gr⟩
      | exn c fs =>
        rw [hs] at q
        obtain ⟨a, d, C, fv, h1, h2, h3, h4, r⟩ := q
        exact ⟨a, d, C, fv, h1, h2, h3, gr.kp _ _ (.inl rfl) h4, r.gr gr⟩
    · rw [h5]
      rcases h6 with ⟨y, rfl, nz, hl⟩ | ⟨y, rfl, z, rv⟩
      · exact ⟨a, h4, nz, hl⟩
      · cases p
        · exact ⟨_, h4, rv⟩
        · exact ⟨a, h4, z, rv⟩
  · obtain ⟨h1, h2⟩ := re.pin k a h
    refine ⟨h1, ?_⟩
    rcases slot k with ⟨h3, _⟩ | ⟨p, x, b, sl, h3, h4, h5, h6⟩
    · rw [h3]; exact h2
    · rw [h5]
      rw [h3] at h2
      cases p
      · exact h2.elim
      · rcases h6 with ⟨y, rfl, _⟩ | ⟨y, rfl, _⟩ <;> trivial
  · have h := p1.hol k h
    rcases slot k with ⟨h3, _⟩ | ⟨p, x, b, sl, h3, h4, h5, h6⟩
    · rw [h3]; exact h
    · rw [h5]
      cases p <;> (rcases h6 with ⟨y, rfl, _⟩ | ⟨y, rfl, _⟩ <;> trivial)
end
end Z
/-! ZC: calls of defs (the caller), defs by their bodies (the callee). -/
namespace Z
open PySem L2 PySem.Spec
abbrev CXP (P : Program) (w : World) : CXT := L2.CX P w
section
variable {X : Cx} {xc : Xc} {W : WX} {pos : Pos}
theorem call_run {s : At} {m : Fn} {rs : List RV} {us : List V} {Z1 : Addr → Prop} {H1 : Hp} {e1 : Env} {Q : VK} (p1 : PostE (gX X) xc s.pa s.Zs s.H s.σ s.env Z1 H1 e1) (q1 : RRp (gX X) s Z1 H1 s.σ e1 rs us)
    (h : End (gX X) xc s (relE (gX X) s) (callR m rs e1) W Q) : spM (gX X) m us H1 Q (WE W s.σ) := by
  unfold callR at h
  by_cases nd : nodupN (lent e1 rs) = true
  · rw [if_pos nd] at h
    cases ha : hands e1 rs with
    | none => rw [ha] at h; exact h.elim
    | some as =>
      rw [ha, opt_some, Rs.bind_ok] at h
      have ra := RRp.as p1.re q1.len q1.rr ha
      refine ⟨Z1, as, ra, call_inj p1 q1 ha nd, p1.re.zd, ?_⟩
      cases hm : m as with
      | no => rw [hm] at h; exact h.elim
      | ex c fs ps =>
        rw [hm] at h
        intro C d fv Z2 H2 ext bk hg hd hf
        obtain ⟨P, ow⟩ := call_post p1 q1 ha nd ext bk
        exact h C d fv Z2 H2 P hg hd hf
      | ok r ps =>
        rw [hm] at h
        intro u Z2 H2 ext bk hr
        obtain ⟨P, ow⟩ := call_post p1 q1 ha nd ext bk
        refine h u Z2 H2 P ?_
        cases r with
        | v x => exact hr
        | own x =>
          obtain ⟨a, e, nz, hl, hn⟩ := hr
          refine ⟨a, e, nz, hl, fun z => ?_, p1.ext.free hn⟩
          obtain ⟨_, o, ho, _⟩ := p1.re.owOk a (ow a z)
          rw [hn] at ho; cases ho
        | bor i => exact hr.elim
  · rw [if_neg nd] at h
    exact h.elim
/-- f(e, ..) -/
theorem se_call {k : Nat} {f : Addr} {fd : FuncData} {ps : List Str} {m : Fn} {x : Str} {p : Pos} {e : Expr} {es : List Expr} {fa : As} (F : FnOk X.prog X.w X.K X.mg X.base (CXP X.prog X.w) k f fd ps (spM (gX X) m)) (hr : Room k X.A) (tk : Takes X W) (hm : X.mg x = some (.ref f)) (hk : PySem.W.keepIn X.K (.ref f) = true) (hb : Binds X.K fd ps [])
    (ha : SA X xc W (e :: es) fa) (hg : Gl X x := by rfl) (hdb : (x == ("__debug__" : Str)) = false := by decide) (he : starEach (e :: es) X.env = (false, eval e X.env) :: starEach es X.env := by rfl) (hpl : (backTo pos (starEach es X.env)).any (·.1) = false := by rfl) :
    SE X xc W (.Call (.Name x p) (e :: es) [] pos) (eCall m fa) := by
  refine PE_imp (pe_callS F hr hg hm hk hb (passAt tk) ha hdb he hpl) fun σ H Q h => ?_
  obtain ⟨pa, Zs, env, re, h⟩ := h
  exact ⟨pa, Zs, env, re, h.cont fun rs e1 us Z1 H1 _ p1 q1 h => call_run (s := ⟨pa, Zs, H, σ, env⟩) p1 q1.p h⟩
/-- f() -/
theorem se_call0 {k : Nat} {f : Addr} {fd : FuncData} {m : Fn} {x : Str} {p : Pos} (F : FnOk X.prog X.w X.K X.mg X.base (CXP X.prog X.w) k f fd [] (spM (gX X) m)) (hr : Room k X.A) (tk : Takes X W) (hm : X.mg x = some (.ref f)) (hk : PySem.W.keepIn X.K (.ref f) = true) (hb : Binds X.K fd [] [])
    (hg : Gl X x := by rfl) (hdb : (x == ("__debug__" : Str)) = false := by decide) : SE X xc W (.Call (.Name x p) [] [] pos) (eCall m asNil) := by
  refine ⟨fun pins s σ H Q I h => ?_⟩
  refine wpAny_Call_Name_kw (ld_glob I hg hm ?_ hdb)
  refine PySem.W.callWith_K0 I.kIn hk (run_fnS (us := []) (vs := []) F hr hb (passAt tk σ) I .nil ?_)
  obtain ⟨pa, Zs, env, re, h⟩ := h
  exact call_run (s := ⟨pa, Zs, H, σ, env⟩) (PostE.refl re) RRs.nil.p h

/-! ### keywords -/
/-- the keywords' values, so many -/
def PKL (X : Cx) (kws : List Keyword) (t : TA) : Prop := ∀ (pos : Pos) (pins : List (Addr × Obj)) (s : Shared) (σ : L2.St) (H : Hp) (Q : List V → Hp → Prop), Inv X pins σ H s → t σ H Q →
  wpAny (model X.prog X.w) X.A (evalAll ((backToKw pos (keywordEach kws X.env)).map (·.2))) (fun ws s2 => ws.length = kws.length ∧ ∃ vs H', Inv X pins σ H' s2 ∧ Vals vs ws ∧ Q vs H') X.xe s
def PAK (X : Cx) (es : List Expr) (kws : List Keyword) (t : TA) : Prop := ∀ (pos : Pos) (pins : List (Addr × Obj)) (s : Shared) (σ : L2.St) (H : Hp) (Q : List V → Hp → Prop), Inv X pins σ H s → t σ H Q →
  wpAny (model X.prog X.w) X.A (spliced (backTo pos (starEach es X.env))) (fun us s1 => wpAny (model X.prog X.w) X.A (evalAll ((backToKw pos (keywordEach kws X.env)).map (·.2))) (fun ws s2 => us.length = es.length ∧ ws.length = kws.length ∧ ∃ vs H', Inv X pins σ H' s2 ∧ Vals vs (us ++ ws) ∧ Q vs H') X.xe s1) X.xe s
abbrev SK (X : Cx) (xc : Xc) (W : WX) (kws : List Keyword) (f : As) : Prop := PKL X kws (rdA (gX X) xc W f)
abbrev SAK (X : Cx) (xc : Xc) (W : WX) (es : List Expr) (kws : List Keyword) (f : As) : Prop := PAK X es kws (rdA (gX X) xc W f)
theorem sk_nil : SK X xc W [] asNil := fun pos pins s σ H Q I ⟨pa, Zs, env, re, h⟩ => wpAny_evalAll_nil ⟨rfl, [], H, I, .nil, h [] Zs H (PostE.refl re) .nil⟩
theorem sk_cons {nm : Option Str} {kpos : Pos} {e : Expr} {kws : List Keyword} {fa : E} {fr : As} (ha : SE X xc W e fa) (hr : SK X xc W kws fr) : SK X xc W (⟨nm, e, kpos⟩ :: kws) (asCons fa fr) := fun pos pins s σ H Q I h => by
  show wpAny _ _ (evalAll ((do let v ← eval e X.env; standAt pos; pure v) :: (backToKw pos (keywordEach kws X.env)).map (·.2))) _ _ s
  refine wpAny_evalAll_cons (wpAny_bind (thn (ha.run pins s σ H _ I (cons_end h)) fun u s1 ⟨x, H1, I1, r1, q1⟩ => wpAny_bind (wpAny_standAt (wpAny_pure ?_))))
  exact thn (hr pos pins s1 σ H1 _ I1 q1) fun us s2 ⟨l, xs, H2, I2, r2, q2⟩ => ⟨by rw [List.length_cons, List.length_cons, l], x :: xs, H2, I2, .cons r1 r2, q2⟩
theorem sak_nil {kws : List Keyword} {f : As} (h : SK X xc W kws f) : SAK X xc W [] kws f := fun pos pins s σ H Q I q => by
  refine Calls.spliced_nil ?_
  exact thn (h pos pins s σ H Q I q) fun ws s2 ⟨l, vs, H', I', r, q'⟩ => ⟨rfl, l, vs, H', I', r, q'⟩
theorem sak_cons {e : Expr} {es : List Expr} {kws : List Keyword} {fa : E} {fr : As} (ha : SE X xc W e fa) (hr : SAK X xc W es kws fr) (hs : starEach (e :: es) X.env = (false, eval e X.env) :: starEach es X.env := by rfl) : SAK X xc W (e :: es) kws (asCons fa fr) := fun pos pins s σ H Q I q => by
  have q2 := cons_end q
  rw [hs]
  show wpAny _ _ (spliced ((false, eval e X.env) :: backTo pos (starEach es X.env))) _ _ s
  refine Calls.spliced_cons (thn (ha.run pins s σ H _ I q2) fun u s1 ⟨x, H1, I1, r1, q1⟩ => ?_)
  refine thn (hr pos pins s1 σ H1 _ I1 q1) fun us s2 h2 => thn h2 fun ws s3 ⟨l1, l2, xs, H2, I2, r2, q3⟩ => ⟨by rw [List.length_cons, List.length_cons, l1], l2, x :: xs, H2, I2, .cons r1 r2, q3⟩
/-- how the parameters are bound: perm tells, for each parameter, which of the written values it takes -/
def PBinds (K : PySem.W.Frag) (fd : FuncData) (ps ks : List Str) (n : Nat) (perm : List Nat) : Prop :=
  ∀ (s : Shared) (us ws : List Value), K.In s.heap → us.length = n → ws.length = ks.length → BindsTo s fd ⟨us, ks.zip ws⟩ (ps.zip (perm.map fun i => (us ++ ws).getD i .none))
theorem vals_getD {vs : List V} {us : List Value} (r : Vals vs us) (i : Nat) : RelV (vs.getD i .non) (us.getD i .none) := by
  rw [List.getD_eq_getElem?_getD, List.getD_eq_getElem?_getD]
  cases h : vs[i]? with
  | none => rw [r.none_of h]; rfl
  | some x =>
    obtain ⟨u, h1, h2⟩ := r.get h
    rw [h1]
    exact h2
theorem vals_perm {vs : List V} {us : List Value} (r : Vals vs us) : ∀ perm : List Nat, Vals (perm.map fun i => vs.getD i .non) (perm.map fun i => us.getD i .none)
  | [] => .nil
  | i :: is => .cons (vals_getD r i) (vals_perm r is)
/-- f(e, .., k = v, ..) -/
theorem se_callK {k : Nat} {f : Addr} {fd : FuncData} {ps ks : List Str} {n : Nat} {perm : List Nat} {m : Fn} {x : Str} {p : Pos} {es : List Expr} {kws : List Keyword} {fa : As} (F : FnOk X.prog X.w X.K X.mg X.base (CXP X.prog X.w) k f fd ps (spM (gX X) m)) (hr : Room k X.A) (tk : Takes X W) (hm : X.mg x = some (.ref f)) (hk : PySem.W.keepIn X.K (.ref f) = true)
    (hb : PBinds X.K fd ps ks n perm) (ha : SAK X xc W es kws fa) (hn : es.length = n := by rfl) (hkl : kws.length = ks.length := by rfl) (hpn : perm.Nodup := by decide) (hpl : ∀ i ∈ perm, i < n + ks.length := by decide) (hpp : perm.length = ps.length := by rfl)
    (hg : Gl X x := by rfl) (hdb : (x == ("__debug__" : Str)) = false := by decide)
    (hcw : ∀ {s : Shared} {Q : Value → Shared → Prop}, X.K.In s.heap → wpAny (model X.prog X.w) X.A (spliced (backTo pos (starEach es X.env))) (fun us s1 => wpAny (model X.prog X.w) X.A (evalAll ((backToKw pos (keywordEach kws X.env)).map (·.2))) (fun ws s2 => X.K.In s2.heap ∧ wpAny (model X.prog X.w) X.A (call (.ref f) us (ks.zip ws)) Q X.xe s2) X.xe s1) X.xe s →
      wpAny (model X.prog X.w) X.A (callWith pos (.ref f) [] (backTo pos (starEach es X.env)) (backToKw pos (keywordEach kws X.env))) Q X.xe s) :
    SE X xc W (.Call (.Name x p) es kws pos) (eCallK m perm fa) := by
  refine ⟨fun pins s σ H Q I h => ?_⟩
  refine wpAny_Call_Name_kw (ld_glob I hg hm ?_ hdb)
  obtain ⟨pa, Zs, env, re, h⟩ := h
  have hq : rdA (gX X) xc W fa σ H (fun vs H1 => n + ks.length = vs.length → spM (gX X) m (perm.map fun i => vs.getD i .non) H1 Q (WE W σ)) := ⟨pa, Zs, env, re, h.cont fun rs e1 us Z1 H1 _ p1 q1 h hl => call_run (s := ⟨pa, Zs, H, σ, env⟩) p1 (q1.p.perm hpn fun i hi => by rw [q1.p.len, ← hl]; exact hpl i hi) h⟩
  refine hcw I.kIn (thn (ha pos pins s σ H _ I hq) fun us s1 h1 => thn h1 fun ws s2 ⟨l1, l2, vs, H1, I1, r, q⟩ => ⟨I1.kIn, ?_⟩)
  have lv : n + ks.length = vs.length := by rw [r.length, List.length_append, l1, l2, hn, hkl]
  refine wpAny_call (codeAny_mono (F.run X.A X.stack s2 H1 ⟨us, ks.zip ws⟩ _ _ Q (WE W σ) hr I1.env0 (hb s2 us ws I1.kIn (l1.trans hn) (l2.trans hkl)) (vals_perm r perm) (q lv)) fun r s' hq => ?_)
  cases r with
  | error e => exact passAt tk σ pins H1 s2 e s' I1 hq
  | ok fl =>
    cases fl with
    | ret u => exact I1.after hq
    | next => exact False.elim hq
    | brk => exact False.elim hq
    | cont => exact False.elim hq
theorem cw_some {f : Addr} {e : Expr} {es : List Expr} {kws : List Keyword} {ks : List Str} (hk : PySem.W.keepIn X.K (.ref f) = true) (hall : (backToKw pos (keywordEach kws X.env)).all (·.1.isSome) = true := by rfl) (hks : (backToKw pos (keywordEach kws X.env)).filterMap (·.1) = ks := by rfl)
    (he : starEach (e :: es) X.env = (false, eval e X.env) :: starEach es X.env := by rfl) (hpl : ((backTo pos (starEach (e :: es) X.env)).any (·.1) || (backToKw pos (keywordEach kws X.env)).any (·.1.isNone)) = false := by rfl) :
    ∀ {s : Shared} {Q : Value → Shared → Prop}, X.K.In s.heap → wpAny (model X.prog X.w) X.A (spliced (backTo pos (starEach (e :: es) X.env))) (fun us s1 => wpAny (model X.prog X.w) X.A (evalAll ((backToKw pos (keywordEach kws X.env)).map (·.2))) (fun ws s2 => X.K.In s2.heap ∧ wpAny (model X.prog X.w) X.A (call (.ref f) us (ks.zip ws)) Q X.xe s2) X.xe s1) X.xe s →
      wpAny (model X.prog X.w) X.A (callWith pos (.ref f) [] (backTo pos (starEach (e :: es) X.env)) (backToKw pos (keywordEach kws X.env))) Q X.xe s := fun {s Q} hK h => by
  subst hks
  exact PySem.W.callWith_KW hK hk hall h hpl he
/-- f(k = v, ..) -/
theorem se_callK0 {k : Nat} {f : Addr} {fd : FuncData} {ps ks : List Str} {perm : List Nat} {m : Fn} {x : Str} {p : Pos} {kws : List Keyword} {fa : As} (F : FnOk X.prog X.w X.K X.mg X.base (CXP X.prog X.w) k f fd ps (spM (gX X) m)) (hr : Room k X.A) (tk : Takes X W) (hm : X.mg x = some (.ref f)) (hk : PySem.W.keepIn X.K (.ref f) = true)
    (hb : PBinds X.K fd ps ks 0 perm) (ha : SK X xc W kws fa) (hkl : kws.length = ks.length := by rfl) (hpn : perm.Nodup := by decide) (hpl : ∀ i ∈ perm, i < ks.length := by decide)
    (hg : Gl X x := by rfl) (hdb : (x == ("__debug__" : Str)) = false := by decide) (hall : (backToKw pos (keywordEach kws X.env)).all (·.1.isSome) = true := by rfl) (hks : (backToKw pos (keywordEach kws X.env)).filterMap (·.1) = ks := by rfl)
    (hpa : ((backTo pos (starEach [] X.env)).any (·.1) || (backToKw pos (keywordEach kws X.env)).any (·.1.isNone)) = false := by rfl) :
    SE X xc W (.Call (.Name x p) [] kws pos) (eCallK m perm fa) := by
  refine ⟨fun pins s σ H Q I h => ?_⟩
  refine wpAny_Call_Name_kw (ld_glob I hg hm ?_ hdb)
  obtain ⟨pa, Zs, env, re, h⟩ := h
  have hq : rdA (gX X) xc W fa σ H (fun vs H1 => ks.length = vs.length → spM (gX X) m (perm.map fun i => vs.getD i .non) H1 Q (WE W σ)) := ⟨pa, Zs, env, re, h.cont fun rs e1 us Z1 H1 _ p1 q1 h hl => call_run (s := ⟨pa, Zs, H, σ, env⟩) p1 (q1.p.perm hpn fun i hi => by rw [q1.p.len, ← hl]; exact hpl i hi) h⟩
  refine PySem.W.callWith_KW0 (h₀ := X.base) I.ok.mod.kin hk hall (thn (ha pos pins s σ H _ I hq) fun ws s2 ⟨l2, vs, H1, I1, r, q⟩ => ⟨I1.kIn, ?_⟩) hpa
  rw [hks]
  have lv : ks.length = vs.length := by rw [r.length, l2, hkl]
  refine wpAny_call (codeAny_mono (F.run X.A X.stack s2 H1 ⟨[] ++ [], ks.zip ws⟩ _ _ Q (WE W σ) hr I1.env0 (hb s2 [] ws I1.kIn rfl (l2.trans hkl)) (vals_perm r perm) (q lv)) fun r s' hq => ?_)
  cases r with
  | error e => exact passAt tk σ pins H1 s2 e s' I1 hq
  | ok fl =>
    cases fl with
    | ret u => exact I1.after hq
    | next => exact False.elim hq
    | brk => exact False.elim hq
    | cont => exact False.elim hq
end

/-! ### a def by its body -/
theorem Arity.mk {np ns : Nat} {b : S} : Arity np (mkF np ns b) := fun as h => by
  unfold mkF
  rw [if_neg h]
theorem spM_len {g : Gm} {n : Nat} {m : Fn} (ar : Arity n m) {us : List V} {H : Hp} {Q : VK} {E : XK} (h : spM g m us H Q E) : us.length = n := by
  obtain ⟨Zs, as, ra, _, _, e⟩ := h
  apply Classical.byContradiction
  intro hn
  rw [ar as (by rw [ra.length]; exact hn)] at e
  exact e
theorem eget_take : ∀ {e : Env} {n i : Nat}, i < n → eget (e.take n) i = eget e i
  | [], _, _, _ => by simp
  | s :: r, 0, _, h => by omega
  | s :: r, n + 1, 0, _ => rfl
  | s :: r, n + 1, i + 1, h => by rw [List.take_succ_cons, eget_succ, eget_succ]; exact eget_take (by omega)
theorem eget_app : ∀ {e r : Env} {i : Nat}, i < e.length → eget (e ++ r) i = eget e i
  | [], _, _, h => by simp at h
  | s :: e, r, 0, _ => rfl
  | s :: e, r, i + 1, h => by rw [List.cons_append, eget_succ, eget_succ]; exact eget_app (by simpa using h)
theorem eget_app2 : ∀ {e r : Env} {i : Nat}, e.length ≤ i → eget (e ++ r) i = eget r (i - e.length)
  | [], _, _, _ => rfl
  | s :: e, r, 0, h => by simp at h
  | s :: e, r, i + 1, h => by rw [List.cons_append, eget_succ, eget_app2 (by simpa using h), List.length_cons, Nat.add_sub_add_right]
theorem eget_emp : ∀ {n i : Nat}, eget (List.replicate n .emp) i = .emp
  | 0, _ => rfl
  | n + 1, 0 => rfl
  | n + 1, i + 1 => by rw [List.replicate_succ, eget_succ]; exact eget_emp
theorem eget_map {as : List AV} : ∀ {i : Nat}, eget (as.map AV.slot) i = match as[i]? with | some a => a.slot | none => .emp := by
  induction as with
  | nil => intro i; simp
  | cons a as ih => intro i; cases i with
    | zero => rfl
    | succ i => rw [List.map_cons, eget_succ, ih]; simp
def paOf : List AV → List V → List (Option Addr)
  | .own _ :: as, .ref a :: vs => some a :: paOf as vs
  | _ :: as, _ :: vs => none :: paOf as vs
  | _, _ => []
theorem paOf_get : ∀ {as : List AV} {vs : List V} {i : Nat} {a : Addr}, (paOf as vs)[i]? = some (some a) → ∃ x, as[i]? = some (.own x) ∧ vs[i]? = some (.ref a)
  | [], _, _, _, h => by simp [paOf] at h
  | _ :: _, [], i, a, h => by
    rename_i b as
    cases b <;> simp [paOf] at h
  | b :: as, v :: vs, i, a, h => by
    cases i with
    | zero =>
      cases b with
      | v x => simp [paOf] at h
      | own x => cases v <;> simp [paOf] at h; subst h; exact ⟨x, rfl, rfl⟩
    | succ i =>
      have h' : (paOf as vs)[i]? = some (some a) := by
        cases b with
        | v x => simpa [paOf] using h
        | own x => cases v <;> simpa [paOf] using h
      obtain ⟨x, h1, h2⟩ := paOf_get h'
      exact ⟨x, by simpa using h1, by simpa using h2⟩
theorem paOf_of : ∀ {as : List AV} {vs : List V} {i : Nat} {x : Val} {a : Addr}, as[i]? = some (.own x) → vs[i]? = some (.ref a) → (paOf as vs)[i]? = some (some a)
  | [], _, _, _, _, h, _ => by simp at h
  | _ :: _, [], _, _, _, _, h => by simp at h
  | b :: as, v :: vs, 0, x, a, h1, h2 => by simp at h1 h2; subst h1; subst h2; rfl
  | b :: as, v :: vs, i + 1, x, a, h1, h2 => by
    have ih := paOf_of (as := as) (vs := vs) (i := i) (by simpa using h1) (by simpa using h2)
    cases b with
    | v x => simpa [paOf] using ih
    | own x => cases v <;> simpa [paOf] using ih
section
variable {g : Gm} {Zs : Addr → Prop} {H : Hp} {as : List AV} {vs : List V} {np ns : Nat} {N : List Str}
/-- the frame at the entry -/
def entry (as : List AV) (np ns : Nat) : Env := as.map AV.slot ++ List.replicate (ns - np) .emp
theorem entry_get (hl : as.length = np) {i : Nat} : eget (entry as np ns) i = match as[i]? with | some a => a.slot | none => .emp := by
  unfold entry
  by_cases h : i < as.length
  · rw [eget_app (by simpa using h), eget_map]
  · rw [eget_app2 (by simpa using h), eget_emp, List.getElem?_eq_none_iff.mpr (by omega)]
theorem start_get {i : Nat} {u : V} (h : vs[i]? = some u) : (L2.start N vs)[i]? = some (some u) := by
  unfold L2.start
  have hi := (List.getElem?_eq_some_iff.mp h).1
  rw [List.getElem?_append_left (by simpa using hi), List.getElem?_map, h]
  rfl
theorem entry_own (hl : as.length = np) (ra : RAs g Zs H as vs) {i : Nat} {a : Addr} (h : OwnAt (entry as np ns) (L2.start N vs) i a) : ∃ x, as[i]? = some (.own x) ∧ vs[i]? = some (.ref a) := by
  obtain ⟨p, x, h1, h2⟩ := h
  rw [entry_get hl] at h1
  cases e : as[i]? with
  | none => rw [e] at h1; cases h1
  | some b =>
    rw [e] at h1
    cases b with
    | v y => cases h1
    | own y =>
      obtain ⟨b, h3, _⟩ := ra.getOwn e
      rw [start_get h3] at h2
      cases h2
      exact ⟨y, rfl, h3⟩
theorem entry_owd (hl : as.length = np) (ra : RAs g Zs H as vs) {a : Addr} : Owd (entry as np ns) (L2.start N vs) a ↔ OwA as vs a := by
  constructor
  · rintro ⟨i, h⟩
    obtain ⟨x, h1, h2⟩ := entry_own hl ra h
    exact ⟨i, x, h1, h2⟩
  · rintro ⟨i, x, h1, h2⟩
    exact ⟨i, true, x, by rw [entry_get hl, h1]; rfl, start_get h2⟩
theorem RAs.getV : ∀ {as : List AV} {us : List V} {i : Nat} {x : Val}, RAs g Zs H as us → as[i]? = some (.v x) → ∃ u, us[i]? = some u ∧ RvV g Zs H x u
  | _, _, 0, x, .own _ _ _, e => by simp at e
  | _, _, 0, x, .v h r, e => by
    simp at e
    subst e
    exact ⟨_, rfl, h⟩
  | _, _, i + 1, x, .v _ r, e => by
    obtain ⟨a, h1, h2⟩ := RAs.getV (i := i) (x := x) r (by simpa using e)
    exact ⟨a, by simpa using h1, h2⟩
  | _, _, i + 1, x, .own _ _ r, e => by
    obtain ⟨a, h1, h2⟩ := RAs.getV (i := i) (x := x) r (by simpa using e)
    exact ⟨a, by simpa using h1, h2⟩
theorem entry_re (hl : as.length = np) (hn : np ≤ ns) (hN : N.length = ns) (ra : RAs g Zs H as vs) (inj : InjA as vs) (zd : Zd Zs H) : RE g none (paOf as vs) Zs H (L2.start N vs) (entry as np ns) := by
  refine ⟨?_, fun i => ?_, fun i j a h1 h2 => ?_, fun i a h => ?_, zd⟩
  · unfold L2.start entry
    rw [List.length_append, List.length_append, List.length_map, List.length_map, List.length_replicate, List.length_replicate, ← ra.length, hl, hN]
  · rw [entry_get hl]
    cases e : as[i]? with
    | none => trivial
    | some b =>
      cases b with
      | v x =>
        obtain ⟨u, h1, h2⟩ := ra.getV e
        exact ⟨u, start_get h1, h2⟩
      | own x =>
        obtain ⟨a, h1, h2, h3⟩ := ra.getOwn e
        exact ⟨a, start_get h1, h2, h3⟩
  · obtain ⟨x, a1, b1⟩ := entry_own hl ra h1
    obtain ⟨y, a2, b2⟩ := entry_own hl ra h2
    exact inj i j x y a a1 b1 a2 b2
  · obtain ⟨x, h1, h2⟩ := paOf_get h
    refine ⟨start_get h2, ?_⟩
    rw [entry_get hl, h1]
    trivial
variable {Z1 : Addr → Prop} {H1 : Hp} {σ1 : L2.St} {e : Env}
theorem post_c (hl : as.length = np) (ra : RAs g Zs H as vs) (P : Post g none (paOf as vs) Zs H (L2.start N vs) (entry as np ns) Z1 H1 σ1 e) : Ext (OwA as vs) Zs H Z1 H1 ∧ Bk g Z1 H1 as vs (e.take np) := by
  have iff := fun a => entry_owd (N := N) (ns := ns) hl ra (a := a)
  refine ⟨⟨P.ext.zz, fun a h => (P.ext.zn a h).imp id fun z => z.imp (iff a).mp id, fun a o h n => P.ext.hh a o h fun z => n ((iff a).mp z), P.ext.zd⟩, fun i x a h1 h2 => ?_⟩
  obtain ⟨s1, pn⟩ := P.re.pin i a (paOf_of h1 h2)
  have hi : i < np := by rw [← hl]; exact (List.getElem?_eq_some_iff.mp h1).1
  rw [eget_take hi]
  have q := P.re.sl i
  cases hs : eget e i with
  | own p y =>
    rw [hs] at pn q
    cases p
    · exact pn.elim
    · obtain ⟨b, hb, nz, hh⟩ := q
      rw [s1] at hb; cases hb
      exact ⟨nz, hh⟩
  | pf y =>
    rw [hs] at q
    obtain ⟨b, hb, z, rv⟩ := q
    rw [s1] at hb; cases hb
    exact ⟨z, rv⟩
  | emp => rw [hs] at pn; exact pn.elim
  | v y => rw [hs] at pn; exact pn.elim
  | exn c fs => rw [hs] at pn; exact pn.elim
/-- what was handed in is still at its place -/
theorem pinned_at (hl : as.length = np) (ra : RAs g Zs H as vs) (P : Post g none (paOf as vs) Zs H (L2.start N vs) (entry as np ns) Z1 H1 σ1 e) {a : Addr} (h : OwA as vs a) : Z1 a ∨ ∃ i y, eget e i = .own true y ∧ σ1[i]? = some (some (.ref a)) := by
  obtain ⟨i, x, h1, h2⟩ := h
  obtain ⟨s1, pn⟩ := P.re.pin i a (paOf_of h1 h2)
  have q := P.re.sl i
  cases hs : eget e i with
  | own p y =>
    rw [hs] at pn
    cases p
    · exact pn.elim
    · exact .inr ⟨i, y, hs, s1⟩
  | pf y =>
    rw [hs] at q
    obtain ⟨b, hb, z, rv⟩ := q
    rw [s1] at hb; cases hb
    exact .inl z
  | emp => rw [hs] at pn; exact pn.elim
  | v y => rw [hs] at pn; exact pn.elim
  | exn c fs => rw [hs] at pn; exact pn.elim
theorem body_end {b : S} {Q : VK} {E : XK} (hl : as.length = np) (hn : np ≤ ns) (hN : N.length = ns) (ra : RAs g Zs H as vs) (inj : InjA as vs) (zd : Zd Zs H) (h : EndC g Zs H as vs Q E (fin np (b (entry as np ns)))) :
    EndS g none ⟨paOf as vs, Zs, H, L2.start N vs, entry as np ns⟩ (b (entry as np ns)) (fun cls d _ H' => E cls d H') { nx := fun _ H' => Q .non H', rt := Q } := by
  have nfr : ∀ {Z1 : Addr → Prop} {H1 : Hp} {σ1 : L2.St} {e : Env} {a : Addr}, Post g none (paOf as vs) Zs H (L2.start N vs) (entry as np ns) Z1 H1 σ1 e → ¬ Z1 a → (∀ i y, eget e i = .own true y → σ1[i]? ≠ some (some (.ref a))) → (Owd (entry as np ns) (L2.start N vs) a ∨ H a = none) → H a = none := fun {Z1 H1 σ1 e a} P nz no fr => by
    rcases fr with f | f
    · rcases pinned_at hl ra P ((entry_owd hl ra).mp f) with z | ⟨i, y, h1, h2⟩
      · exact absurd z nz
      · exact absurd h2 (no i y h1)
    · exact f
  cases hb : b (entry as np ns) with
  | no => rw [hb] at h; exact h
  | ex c fs e =>
    rw [hb] at h
    intro C d fv σ1 Z1 H1 P hg hd hf
    obtain ⟨ext, bk⟩ := post_c hl ra P
    exact h C d fv Z1 H1 ext bk hg hd hf
  | ok f e =>
    rw [hb] at h
    intro σ1 Z1 H1 P
    obtain ⟨ext, bk⟩ := post_c hl ra P
    cases f with
    | nx => exact h .non Z1 H1 ext bk .non
    | bk => exact h
    | ct => exact h
    | rt r =>
      intro u hr
      cases r with
      | v x => exact h u Z1 H1 ext bk hr
      | own x =>
        obtain ⟨a, eu, nz, hh, no, fr⟩ := hr
        exact h u Z1 H1 ext bk ⟨a, eu, nz, hh, nfr P nz (fun i y h1 h2 => no ⟨i, true, y, h1, h2⟩) fr⟩
      | bor i =>
        obtain ⟨a, eu, hs, _⟩ := hr
        have q := P.re.sl i
        cases ho : eget e i with
        | emp => rw [fin, ho] at h; exact h.elim
        | exn c fs => rw [fin, ho] at h; exact h.elim
        | v x =>
          rw [fin, ho] at h
          rw [ho] at q
          obtain ⟨w, hw, rv⟩ := q
          rw [hs] at hw; cases hw
          exact h u Z1 H1 ext bk (by rw [eu]; exact rv)
        | pf x =>
          rw [fin, ho] at h
          rw [ho] at q
          obtain ⟨w, hw, _, rv⟩ := q
          rw [hs] at hw; cases hw
          exact h u Z1 H1 ext bk (by rw [eu]; exact rv)
        | own p x =>
          rw [fin, ho] at h
          rw [ho] at q
          obtain ⟨w, hw, nz, hh⟩ := q
          rw [hs] at hw; cases hw
          cases p with
          | false =>
            refine h u Z1 H1 ext bk ⟨a, eu, nz, hh, nfr P nz (fun j y h1 h2 => ?_) (P.ow a ⟨i, false, x, ho, hs⟩)⟩
            have e := P.re.inj i j a ⟨false, x, ho, hs⟩ ⟨true, y, h1, h2⟩
            subst e
            rw [ho] at h1
            cases h1
          | true =>
            obtain ⟨re2, ow2, _, rv⟩ := P.re.rest ho hs
            have oa : Owd e σ1 a := ⟨i, true, x, ho, hs⟩
            have P2 : Post g none (paOf as vs) Zs H (L2.start N vs) (entry as np ns) (fun b => Z1 b ∨ b = a) H1 σ1 (eput e i (thaw (.own true x))) := ⟨⟨fun b h => .inl (P.ext.zz b h), fun b h => by
              rcases h with h | h
              · exact P.ext.zn b h
              · subst h; exact .inr (P.ow b oa), P.ext.hh, re2.zd⟩, re2, fun b h => P.ow b (ow2 b h).1⟩
            obtain ⟨ext2, bk2⟩ := post_c hl ra P2
            exact h u _ H1 ext2 bk2 (by rw [eu]; exact rv)
end
/-- a def keeps its promise by its body -/
theorem fn_body {P : Program} {w : World} {K : PySem.W.Frag} {mg : Str → Option Value} {base : Heap} {x qual : Str} {st : Stmt} {f : Addr} {fd : FuncData} {N ps : List Str} {k np ns : Nat} {b : S} (F : Fun K x qual st f fd) (S : FnScope N ps (defScope st)) (hN : N.length = ns := by rfl) (hp : ps.length = np := by rfl) (hn : np ≤ ns := by decide)
    (hbody : ∀ (cdv : Value) (A : Around) (outer : List PySem.Env) (s : Shared) (H : Hp) (E : XK), Room k (A.deeper (PyProof.Rows.envOfC qual (defScope st) s.heap.objs.size f cdv)) →
      SB (cxOf (L2.CX P w) P w K mg base N qual (defScope st) f cdv A outer s H E) none (fun cls d _ H' => E cls d H') (defBody st) b) : FnOk P w K mg base (CXP P w) (k + 1) f fd ps (spM ⟨K, mg⟩ (mkF np ns b)) := by
  refine F.okX S (fun vs H Q E h => by rw [spM_len Arity.mk h, hp]) fun cdv A outer s H vs Q E hr h => ⟨_, hbody cdv A outer s H E hr, ?_⟩
  have hv := spM_len Arity.mk h
  obtain ⟨Zs, as, ra, inj, zd, h⟩ := h
  have hl : as.length = np := by rw [ra.length]; exact hv
  unfold mkF at h
  rw [if_pos hl] at h
  exact ⟨_, Zs, _, entry_re hl hn hN ra inj zd, body_end hl hn hN ra inj zd h⟩
end Z
set_option maxHeartbeats 2000000
/-! Zx: own errors with one field, by field name (printed by gen/mkexc.py). -/
namespace PySem
namespace Zx_given
open PySem.W PySem.Calls PyProof.Rows PySem.HandSPX
/-! ### the text of __init__ -/
def iA (p1 p2 : Pos) : Arguments := { posonlyargs := [], args := [{ arg := "self", annotation := none, pos := p1 }, { arg := "given", annotation := none, pos := p2 }], vararg := none, kwonlyargs := [], kw_defaults := [], kwarg := none, defaults := [] }
def iB (q1 q2 q3 q4 : Pos) : List Stmt := [.Assign [.Attribute (.Name "self" q1) "given" q2] (.Name "given" q3) q4]
def iS : Scope := { kind := .function, names := [(PySem.Str.ofString "self", .local), (PySem.Str.ofString "given", .local)], isGenerator := false, isCoroutine := false, more := [] }
/-- what the written part says of Low, at C, and of its __init__, at fI -/
structure LowTxt (cn qn : Str) (K : Frag) (mg : Str → Option Value) (C fI : Addr) : Prop where
  gC : mg cn = some (.ref C)
  cls : ∃ nm q N bs bm sn sub ab col dd k0 k1 k2 k3 k5, K.lookup C = some (excClassObj nm q C N bs bm true sn sub ab col dd k0 k1 k2 k3 k5 "ValueError.__new__") ∧ refsVE bm = true
  sa : findIn K (.ref C) "__setattr__" = some (some (.builtin "object.__setattr__"))
  ga : findIn K (.ref C) "__getattribute__" = some (some (.builtin "BaseException.__getattribute__"))
  gg : findIn K (.ref C) "__getattr__" = some none
  noN : findIn K (.ref C) "given" = some none
  iC : findIn K (.ref C) "__init__" = some (some (.ref fI))
  tC : typeIn K (.ref fI) = some (.type "function")
  kC : keepIn K (.ref C) = true
  exC : subIn K (.ref C) (.type "BaseException") = some true
  tyC : typeIn K (.ref C) = some (.type "type")
  hdC : hasDictIn K C = true
  te : exmOne K (.ref C) (.ref C) = some true
  fn : ∃ (oc : Value) (od : Option Addr) (doc pm : Value) (an : Option Addr) (cdv ct : Value) (osl : Array (Option Value)) (p1 p2 q1 q2 q3 q4 : Pos),
    K.lookup fI = some ⟨oc, od, .func (fnOf "__init__" qn (iA p1 p2) (iB q1 q2 q3 q4) iS .none .none doc pm an cdv ct), osl⟩ ∧ codeIn K cdv qn = true
theorem one_size (v : Value) : [v].length ≤ sizeLine := by
  rw [sizeLine_eq]
  exact (by decide : 1 ≤ 16777216)
theorem kept_but {K : Frag} {h h' : Heap} {x : Addr} (X : K.In h) (hx : K.lookup x = none) (k : ∀ b o, b ≠ x → h.get? b = some o → h'.get? b = some o) : K.In h' := fun a o e =>
  k a o (fun z => by rw [z, hx] at e; cases e) (X a o e)
theorem ldC {M : Model} {s : Shared} {name : Str} {scope : Scope} {L a : Addr} {cd : Value} {m : Str → Option Value} {x : Str} {pos : Pos} {v : Value} {Q : Value → Shared → Prop} {A : Around} {E : Value → Shared → Prop} (hn : s.heap.Ns L m) (hv : m x = some v) (h : Q v s)
    (hk : scope.kind = .function := by rfl) (hl : (envOfC name scope L a cd).kindOf x = some .local := by rfl) (hd : (x == ("__debug__" : Str)) = false := by decide) :
    wpAny M A (eval (.Name x pos) (envOfC name scope L a cd)) Q E s := wpAny_Name (wpAny_loadName_local hk hl hn hv h) hd
/-- what __init__ leaves of a fresh exception at x -/
structure InitEnd (h h' : Heap) (x C dx t1 : Addr) (v : Value) : Prop where
  keep : ∀ b o, b ≠ x → h.get? b = some o → h'.get? b = some o
  obj : h'.get? x = some { cls := .ref C, dict := some dx, data := .fields #[.ref t1, .none, .none, .none, .bool false, .none] }
  dbig : h.objs.size ≤ dx
  dne : dx ≠ x
  ns : h'.Ns1 dx (fun y => if y = "given" then some v else none)
/-- a made Low -/
structure OwnMade (h h' : Heap) (e C d : Addr) (v : Value) : Prop where
  keep : ∀ b o, h.get? b = some o → h'.get? b = some o
  new : h.objs.size ≤ e
  obj : ∃ oe vs, h'.get? e = some oe ∧ oe.cls = .ref C ∧ oe.dict = some d ∧ oe.data = .fields vs ∧ vs[1]? = some .none
  dbig : h.objs.size ≤ d
  dne : d ≠ e
  ns : h'.Ns1 d (fun y => if y = "given" then some v else none)
section
variable {prog : Program} {w : World} {A : Around} {E : Value → Shared → Prop} {R : Result → Shared → Prop} {s : Shared} {K : Frag} {mg : Str → Option Value} {C fI : Addr} {cn qn : Str}
theorem low_init (T : LowTxt cn qn K mg C fI) {x t0 : Addr} {v : Value} (X : K.In s.heap) (hlim : s.heap.NoLimit) (hx : s.heap.get? x = some (excO C t0)) (hnx : K.lookup x = none) (hroom : A.depth < recursionLimit)
    (hq : ∀ h' tk dx, InitEnd s.heap h' x C dx t0 v → R (.ok (.ret .none)) { s with heap := h', toks := tk }) :
    codeAny (model prog w) A (.call (.ref fI) ⟨[.ref x, v], []⟩) R s := by
  obtain ⟨oc, od, doc, pm, an, cdv, ct, osl, p1, p2, q1, q2, q3, q4, ho, hcd⟩ := T.fn
  obtain ⟨nm, q, N, bs, bm, sn, sub, ab, col, dd, k0, k1, k2, k3, k5, hC, hbm⟩ := T.cls
  have hcl : clsIn K C = some { name := nm, bases := bs, mro := .ref C :: bm, ns := N, qualname := q, hasDict := true, slotNames := sn, subclasses := sub, abstract := ab, collection := col, hasDel := false } := by unfold clsIn; rw [hC] <;> rfl
  refine Att.call_fn (binds := [("self", .ref x), ("given", v)]) X hlim ho hcd hroom (BindsTo.of_eq (by first | rfl | with_unfolding_all rfl)) (by first | rfl | decide | with_unfolding_all rfl) (fun s₁ IC => ?_) rfl rfl rfl
  obtain ⟨h₁, tk₁, rfl⟩ := IC.toInCall.same
  have k : ∀ b o, s.heap.get? b = some o → h₁.get? b = some o := IC.toInCall.keep
  have hn := IC.toInCall.ns
  have hxL : s.heap.objs.size ≠ x := Nat.ne_of_gt (Heap.lt_size hx)
  have X₁ : K.In h₁ := X.keeps k
  have hx₁ := k _ _ hx
  -- self.by = by
  show wpAny _ _ (execs _ _) _ _ _
  refine wpAny_execs_cons (plainObj_wpAny_Assign_Attribute ?_)
  refine ldC (v := v) hn (by first | rfl | with_unfolding_all rfl | kernel_rfl) (ldC (v := .ref x) hn (by first | rfl | with_unfolding_all rfl | kernel_rfl) ?_)
  refine set_plain X₁ (ox := excO C t0) (od := none) ⟨hx₁, rfl, rfl, trivial⟩ T.sa ?_
  refine exc_osa X₁ hx₁ hcl (show refsVE (.ref C :: bm) = true from hbm) rfl T.noN (fun h₃ tk₃ dx k₃ dn dne hx₃ hn₃ => ?_)
  show wpAny _ _ (execs _ _) _ _ _
  have z : s.heap.objs.size < h₁.objs.size := hn.lt
  exact wpAny_execs_nil (hq h₃ tk₃ dx ⟨fun b o hb e => k₃ b o hb (k b o e), hx₃, Nat.le_of_lt (Nat.lt_of_lt_of_le z dn), dne, hn₃⟩)
theorem low_made (T : LowTxt cn qn K mg C fI) {v : Value} (X : K.In s.heap) (hlim : s.heap.NoLimit) (hroom : A.depth + 1 < recursionLimit)
    (hq : ∀ h' tk e d, OwnMade s.heap h' e C d v → R (.ok (.ret (.ref e))) { s with heap := h', toks := tk }) :
    codeAny (model prog w) A (.call (.ref C) ⟨[v], []⟩) R s := by
  obtain ⟨nm, q, N, bs, bm, sn, sub, ab, col, dd, k0, k1, k2, k3, k5, hC, hbm⟩ := T.cls
  obtain ⟨hp, g, dr, tk, os⟩ := s
  have k : ∀ b o, hp.get? b = some o → ((hp.push (kdv_tup [v])).push (excO C hp.objs.size)).get? b = some o := fun b o e => Heap.get?_push_of_some _ (Heap.get?_push_of_some _ e)
  have hget : ((hp.push (kdv_tup [v])).push (excO C hp.objs.size)).get? (hp.objs.size + 1) = some (excO C hp.objs.size) := by heap_get
  have hnx : K.lookup (hp.objs.size + 1) = none := by
    cases e : K.lookup (hp.objs.size + 1) with
    | none => rfl
    | some o =>
      have z : hp.get? (hp.objs.size + 1) = some o := X _ _ e
      exact absurd (Nat.lt_of_succ_lt (Heap.lt_size z)) (Nat.lt_irrefl _)
  refine call_own F.excBase_ValueError (fun X => refsVE_contains X bm hbm) (X _ _ hC) (looks_findIn X T.iC) (fun self => bind_fn X self T.tC) (one_size v) ?_
  refine low_init (s := ⟨(hp.push (kdv_tup [v])).push (excO C hp.objs.size), g, dr, tk, os⟩) T (X.keeps k) (hlim.keeps k) hget hnx ?_ fun h' tk' dx ⟨k', hx, dn, dne, hns⟩ => ?_
  · show A.depth + 1 < recursionLimit
    exact hroom
  · have old : ∀ b o, hp.get? b = some o → h'.get? b = some o := fun b o e => k' b o (Nat.ne_of_lt (Nat.lt_succ_of_lt (Heap.lt_size e))) (k b o e)
    have z : hp.objs.size + 1 + 1 ≤ dx := by
      first
        | (simpa only [Heap.size_push] using dn)
        | exact dn
        | (have q := dn; rw [Heap.size_push, Heap.size_push] at q; exact q)
    exact ⟨rfl, hq h' tk' (hp.objs.size + 1) dx ⟨old, Nat.le_succ _, ⟨_, _, hx, rfl, rfl, rfl, rfl⟩, Nat.le_trans (Nat.le_trans (Nat.le_succ _) (Nat.le_succ _)) z, dne, hns⟩⟩
end
end Zx_given
end PySem
namespace L2
namespace Zx_given
open PySem PySem.Spec PyProof.Rows
theorem relO_low {v : V} {v' : Value} (r : RelV v v') (f : Str) : RelO (List.lookup f [(("given" : Str), v)]) (if f = "given" then some v' else none) := by
  by_cases hw : f = "given"
  · subst hw
    rw [if_pos rfl]
    have q : List.lookup ("given" : Str) [(("given" : Str), v)] = some v := by simp [List.lookup]
    rw [q]
    exact r
  · rw [if_neg hw]
    have qw : (f == ("given" : Str)) = false := by simpa using hw
    have q2 : List.lookup f [(("given" : Str), v)] = none := by simp [List.lookup, qw]
    rw [q2]
    trivial
section
variable {X : Cx} {C fI : Addr} {cn qn : Str}
/-- Low(e) -/
def tMkLow (C : Addr) (ta : TA) : St → Hp → XK → Prop := fun σ H Q => ta σ H fun vs H1 => ∃ v, vs = [v] ∧ ∀ d, H1 d = none → Q (.ref C) (some d) (upd H1 d (.xd [(("given" : Str), v)]))
theorem pmk_low {a : Expr} {ta : TA} {p pos : Pos} {k : Nat} (T : PySem.Zx_given.LowTxt cn qn X.K X.mg C fI) (hr : Room k X.A) (ha : PA X [a] ta) (hg : Gl X cn := by rfl) (hdb : (cn == ("__debug__" : Str)) = false := by decide)
    (he : starEach (a :: []) X.env = (false, eval a X.env) :: starEach [] X.env := by rfl) (hpl : (backTo pos (starEach [] X.env)).any (·.1) = false := by rfl) :
    PMk X (.Call (.Name cn p) [a] [] pos) (tMkLow C ta) := by
  intro pins s σ H Q I h
  refine wpAny_Call_Name_kw (ld_glob I hg T.gC ?_ hdb)
  refine PySem.W.callWith_K (h₀ := X.base) I.ok.mod.kin T.kC (thn (ha.run pos pins s σ H _ I h) fun us s1 hh => ?_) he hpl
  obtain ⟨vs, H1, I1, r1, v, ev, q1⟩ := hh
  subst ev
  refine ⟨I1.kIn, ?_⟩
  cases r1 with
  | cons rv rn =>
    rename_i v' us'
    cases rn
    show wpAny _ _ (call (.ref C) [v']) _ _ _
    have hlim := I1.nolimit
    obtain ⟨hp, g, dr, tk, os⟩ := s1
    refine wpAny_call (PySem.Zx_given.low_made T I1.kIn hlim (by have := hr.dp; omega) fun h' tk' e d M => ?_)
    show MkP X pins σ Q (.ref e) ⟨h', g, dr, tk', os⟩
    obtain ⟨oe, fv, hoe, hc, hd, hdat, h1⟩ := M.obj
    have hns := M.ns
    obtain ⟨G', g1, g2⟩ := restrict h' fun b => decide (b ≠ e)
    have gk : ∀ b, b ≠ e → G'.get? b = h'.get? b := fun b hb => g1 b (decide_eq_true hb)
    have ge : G'.get? e = none := g2 e (by simp)
    have old : ∀ b o, hp.get? b = some o → G'.get? b = some o := fun b o q => (gk b (Nat.ne_of_lt (Nat.lt_of_lt_of_le (Heap.lt_size q) M.new))).trans (M.keep b o q)
    have ob : ObjOk X.prog X.w (upd H1 d (.xd [(("given" : Str), v)])) G' d (.xd [(("given" : Str), v)]) :=
      ⟨_, hns.at (fun o q => (gk d M.dne).trans q), fun f => relO_low rv f⟩
    have J : Inv X pins σ (upd H1 d (.xd [(("given" : Str), v)])) ⟨G', g, dr, tk', os⟩ := I1.laid (t' := tk') old M.dbig ob
    refine ⟨e, oe, fv, ⟨G', g, dr, tk', os⟩, _, .ref C, some d, rfl, J, fun b o q => ?_, ge, hoe, ⟨hc, hd⟩, hdat, h1, ?_, rfl, I1.bare, raises_own T.exC T.tyC, q1 d (I1.hok.fresh M.dbig)⟩
    · by_cases hb : b = e
      · have q' : G'.get? b = some o := q
        rw [hb, ge] at q'; cases q'
      · exact (gk b hb).symm.trans q
    · rw [upd_ne (Ne.symm M.dne)]
      exact I1.hok.fresh M.new
/-- raise Low(e) -/
def tRaiseLow (C : Addr) (W : WX) (ta : TA) : TS := fun _ σ H => tMkLow C ta σ H fun cls d H' => W cls d σ H'
theorem ps_raiseLow {a : Expr} {ta : TA} {W : WX} {p pos pos2 : Pos} {k : Nat} (hc : X.calm = true) (T : PySem.Zx_given.LowTxt cn qn X.K X.mg C fI) (hr : Room k X.A) (tk : Takes X W) (ha : PA X [a] ta) (hg : Gl X cn := by rfl) (hdb : (cn == ("__debug__" : Str)) = false := by decide)
    (he : starEach (a :: []) X.env = (false, eval a X.env) :: starEach [] X.env := by rfl) (hpl : (backTo pos (starEach [] X.env)).any (·.1) = false := by rfl) :
    PS X (.Raise (some (.Call (.Name cn p) [a] [] pos)) none pos2) (tRaiseLow C W ta) := ps_raise hc tk (pmk_low T hr ha hg hdb he hpl)
/-- low.by, low the exception that the suite holds (at a; its class cls, its dict d) -/
def tByLow (C : Addr) (a : Addr) (cls : Value) (d : Option Addr) (te : TE) : TE := fun σ H Q => te σ H fun x H1 => x = .ref a ∧ cls = .ref C ∧ ∃ (dd : Addr) (v : V), d = some dd ∧ H1 dd = some (.xd [(("given" : Str), v)]) ∧ Q v H1
theorem pe_byLow {a : Addr} {oe : Obj} {cls : Value} {d : Option Addr} {pn : List (Addr × Obj)} {e : Expr} {te : TE} {pos : Pos} (T : PySem.Zx_given.LowTxt cn qn X.K X.mg C fI) (hz : Zc cls d oe) (hf : ∃ vs, oe.data = .fields vs) (he : PE (X.suite a ((a, oe) :: pn)) e te)
    (hb : attributeBase e "given" X.env (eval e X.env) = eval e X.env := by rfl) :
    PE (X.suite a ((a, oe) :: pn)) (.Attribute e "given" pos) (tByLow C a cls d te) := by
  refine ⟨fun pins s σ H Q I h => ?_⟩
  refine attr_of hb (thn (he.run pins s σ H _ I h) fun u s1 hh => ?_)
  obtain ⟨x, H1, I1, rx, ex, ec, dd, v, ed, ea, q⟩ := hh
  subst ex
  obtain rfl : u = Value.ref a := rx
  subst ec
  subst ed
  obtain ⟨ha, _⟩ := I1.pin (a, oe) (List.mem_append_left _ List.mem_cons_self)
  obtain ⟨vs, hd⟩ := hf
  have hx : ObjOk X.prog X.w H1 s1.heap dd (.xd [(("given" : Str), v)]) := I1.hok dd _ ea
  obtain ⟨mA, hns, hr⟩ := hx
  obtain ⟨od, ho, hl⟩ := lookIn_ns hns
  have l : List.lookup ("given" : Str) [(("given" : Str), v)] = some v := by simp [List.lookup]
  obtain ⟨u, hu, ru⟩ := RelO.some_of (v := v) (o := mA "given") (by rw [← l]; exact hr "given")
  have J : PySem.W.InstAt s1.heap a oe C (some od) := ⟨ha, hz.1, by unfold PySem.W.notCls; rw [hd] <;> rfl, by rw [hz.2]; exact ho⟩
  exact HandSPX.exc_get I1.kIn J T.ga T.gg T.exC (PySem.W.findObj_own T.hdC T.noN rfl (by rw [hl, hu])) (handed_of ru) ⟨v, H1, I1.tok _, ru, q⟩
end
end Zx_given
end L2
/-! ZD: try with several clauses that name the error. -/
namespace Z
open PySem L2 PySem.Spec
abbrev Sui := Addr → Value → Option Addr → TS
/-- behind a suite its name is gone -/
def goneD (i : Nat) (D : Ends) : Ends := { nx := fun σ' H' => D.nx (σ'.set i none) H', rt := D.rt, bk := fun σ' H' => D.bk (σ'.set i none) H', ct := fun σ' H' => D.ct (σ'.set i none) H' }
def wNm (K : PySem.W.Frag) (Wo : WX) (D : Ends) : List (Value × Nat × Sui) → WX
  | [] => Wo
  | (c, i, ts) :: r => fun cls d σ H => ∃ b, PySem.W.exmOne K cls c = some b ∧ (b = true → ∀ a, H a = none → ts a cls d (goneD i D) (σ.set i (some (.ref a))) H) ∧ (b = false → wNm K Wo D r cls d σ H)
inductive Clauses (X : Cx) : List ExceptHandler → List (Value × Nat × Sui) → Prop
  | nil : Clauses X [] []
  | cons {x n : Str} {c : Value} {i : Nat} {ts : Sui} {b₀ : Stmt} {suite : List Stmt} {np pos' : Pos} {hds : List ExceptHandler} {l : List (Value × Nat × Sui)} (hc : Names X x c) (hi : X.N[i]? = some n) (hl : X.env.kindOf n = some .local)
      (hsu : ∀ (a : Addr) (oe : Obj) (cls : Value) (d : Option Addr) (pn : List (Addr × Obj)), Zc cls d oe → (∃ vs, oe.data = .fields vs) → PSs (X.suite a ((a, oe) :: pn)) (b₀ :: suite) (ts a cls d)) (r : Clauses X hds l) :
      Clauses X (.ExceptHandler (some (.Name x np)) (some n) (b₀ :: suite) pos' :: hds) ((c, i, ts) :: l)
section
variable {X : Cx} {body : List Stmt} {h₀ : ExceptHandler} {hds : List ExceptHandler} {l : List (Value × Nat × Sui)} {pos : Pos} {tb : WX → TS} {Wo : WX}
open PyProof.Rows in
theorem ps_try_named (hs : X.stack = X.env :: X.outer) (hf : X.env.frame = some X.env.locals) (hN : X.N.Nodup) (tk : Takes X Wo)
    (hb : ∀ (W : WX) (pn : List (Addr × Obj)) (xe : Value → Shared → Prop), Takes (X.tr pn xe) W → PassesOwn (model X.prog X.w) X.A X.env xe → PSs (X.tr pn xe) body (tb W))
    (hh : Clauses X (h₀ :: hds) l) : PS X (.Try body (h₀ :: hds) [] [] pos) (fun D σ H => tb (wNm X.K Wo D l) D σ H) := by
  refine ⟨fun pins s σ H D I h => ?_⟩
  have iok := I.ok
  have frs0 : X.A.frames = some (X.env :: X.outer) := iok.frames.trans (congrArg some hs)
  let after : Value → Shared → Prop := fun e s₁ => wpAny (model X.prog X.w) X.A (noteFrame e X.env) (fun _ s₂ => wpAny (model X.prog X.w) X.A (setFlight e none) (fun _ s₃ => wpAny (model X.prog X.w) X.A (handleBy e X.env (h₀ :: hds)) (SP X pins D) X.xe s₃) X.xe s₂) X.xe s₁
  refine wpAny_Try_except (wpAny_mono ((hb (wNm X.K Wo D l) (X.pn ++ pins) after ?air PassesOwn.looking).run [] s σ H D (I.toTry _) h) ?calm fun e s1 he => he)
  case calm =>
    intro f s1 hsp
    cases f with
    | next => exact let ⟨σ', H', J', q⟩ := hsp; wpAny_execs_nil ⟨σ', H', J'.ofTry iok, q⟩
    | brk => exact let ⟨σ', H', J', q⟩ := hsp; ⟨σ', H', J'.ofTry iok, q⟩
    | cont => exact let ⟨σ', H', J', q⟩ := hsp; ⟨σ', H', J'.ofTry iok, q⟩
    | ret u => exact let ⟨v, σ', H', J', r, q⟩ := hsp; ⟨v, σ', H', J'.ofTry iok, r, q⟩
  case air =>
    intro u s' xx
    obtain ⟨a, B, sI, pins', σ', H', cls, d, eu, J', nb, up, sky, na, os, ag, wish⟩ := xx
    subst eu
    have J : Inv X pins σ' H' sI := J'.ofTry iok
    rw [show (X.tr (X.pn ++ pins) after).stack = X.env :: X.outer from hs] at sky
    refine Sky.land Zc.steady frs0 hf sky fun h3 fl3 up3 => ?_
    have J3 : Inv X pins σ' H' { s' with heap := h3 } := J.landed nb fl3.1 (up.trans up3) os ag
    obtain ⟨oe3, vs3, he3, hz3, hd3⟩ := fl3.there
    have out : a ∉ frs (X.env :: X.outer) := fun hm => by
      obtain ⟨_, o', e', hnf⟩ := fl3.2.2.1.mem hm
      rw [he3] at e'
      cases e'
      exact hnf _ hd3
    have nL : a ≠ X.env.locals := fun z => out (List.mem_filterMap.mpr ⟨X.env, List.mem_cons_self, by rw [hf, z]⟩)
    have nF : a ∉ X.fs := fun hm => by
      obtain ⟨e, he, q⟩ := List.mem_filterMap.mp hm
      exact out (List.mem_filterMap.mpr ⟨e, List.mem_cons_of_mem _ he, q⟩)
    have S3 := J3.suite he3 hd3 na nL nF
    have LT : PySem.W.Looks (model X.prog X.w) h3 (typeOf (.ref a)) cls := fun A Q E s k q => wpAny_typeOf_ref (k _ _ he3) (by rw [hz3.1]; exact q)
    have run : ∀ {hds' : List ExceptHandler} {l' : List (Value × Nat × Sui)}, Clauses X hds' l' → wNm X.K Wo D l' cls d σ' H' → wpAny (model X.prog X.w) X.A (handleBy (.ref a) X.env hds') (SP X pins D) X.xe { s' with heap := h3 } := by
      intro hds' l' hk
      induction hk with
      | nil =>
        intro w
        refine wpAny_handleBy_nil ?_
        obtain ⟨k1, k2, k3, oe, vs, T, oT, ts', he, hz, hd, h1, hr⟩ := id fl3
        unfold PySem.passOn
        refine wpAny_bind (wpAny_field he hd h1 ?_)
        rw [if_neg (by simp : ¬ ((Value.ref T == Value.none) = true))]
        have up' : wpAny (model X.prog X.w) X.A (setFlight (.ref a) X.env.frame) (fun _ s4 => wpAny (model X.prog X.w) X.A (throw (.ref a) : Sem Flow) (SP X pins D) X.xe s4) X.xe { s' with heap := h3 } := by
          rw [hf]
          exact HandSPX.setFlight_upZ fl3 fun h4 hh4 up4 => wpAny_throw (tk _ _ ⟨a, B, sI, pins, σ', H', cls, d, rfl, J, nb, (up.trans up3).trans up4, .inr (.inr (by rw [hs]; exact hh4)), na, os, ag, w⟩)
        first
          | exact wpAny_bind (wpAny_pure (wpAny_bind up'))
          | exact wpAny_bind up'
      | @cons x n c i ts b₀ suite np pos' hds2 l2 hc hi hl hsu r ih =>
        intro w
        obtain ⟨b, hb1, hyes, hno⟩ := w
        have LM := PySem.W.exm_one (M := model X.prog X.w) (J3.kIn) LT hb1
        refine wpAny_handleBy_cons (codeAny_handlers_test ?_) (by intro q; cases q)
        have nm : ∀ {Q : Value → Shared → Prop} {E : Value → Shared → Prop}, Q c { s' with heap := h3 } → wpAny (model X.prog X.w) (X.A.mark (some (.ref a))) (eval (.Name x np) X.env) Q E { s' with heap := h3 } := fun {Q E} q => by
          obtain ⟨hg, hdbg, hm | ⟨hm, hv, hnn⟩⟩ := hc
          · exact ld_glob (X := X.suite a ((a, oe3) :: (X.pn ++ pins))) S3 hg hm q hdbg
          · exact ld_blt (X := X.suite a ((a, oe3) :: (X.pn ++ pins))) S3 hg hm hv q hnn hdbg
        refine nm (LM.here ?_)
        cases b with
        | false =>
          show wpAny _ X.A (handleBy (.ref a) X.env hds2) _ _ _
          exact ih (hno rfl)
        | true =>
          refine codeAny_handlers_suite_as (HandSPX.lands_againZ fl3 fun h4 fl4 up4 => ?_)
          have J4 : Inv X pins σ' H' { s' with heap := h4 } := J.landed nb fl4.1 ((up.trans up3).trans up4) os ag
          obtain ⟨oe4, vs4, he4, hz4, hd4⟩ := fl4.there
          refine store_ok (X := X.suite a ((a, oe4) :: (X.pn ++ pins))) (v := .ref a) (J4.suite he4 hd4 na nL nF) hN hi (.inl hl) rfl (fun s5 S5 => ?_) (.inr hl)
          refine wpAny_mono ((hsu a oe4 cls d (X.pn ++ pins) hz4 ⟨_, hd4⟩).run [] s5 _ H' _ S5 (hyes rfl a na)) (fun f s6 hsp => ?_) (fun _ _ z => False.elim z)
          have bye : ∀ {σ6 : L2.St} {H6 : Hp} {Q : Shared → Prop}, Inv (X.suite a ((a, oe4) :: (X.pn ++ pins))) [] σ6 H6 s6 → (∀ s7, Inv X pins (σ6.set i none) H6 s7 → Q s7) →
              wpAny (model X.prog X.w) X.A (do bindName X.env n .none; unbindBehindTheSuite X.env n pos') (fun _ s7 => Q s7) X.xe s6 := fun {σ6 H6 Q} S6 hq => gone_ok (S6.unsuite iok) hN hi hl hq
          cases f with
          | next => exact let ⟨σ6, H6, S6, q6⟩ := hsp; bye S6 fun s7 J7 => ⟨_, _, J7, q6⟩
          | brk => exact let ⟨σ6, H6, S6, q6⟩ := hsp; bye S6 fun s7 J7 => ⟨_, _, J7, q6⟩
          | cont => exact let ⟨σ6, H6, S6, q6⟩ := hsp; bye S6 fun s7 J7 => ⟨_, _, J7, q6⟩
          | ret u => exact let ⟨v6, σ6, H6, S6, r6, q6⟩ := hsp; bye S6 fun s7 J7 => ⟨_, _, _, J7, r6, q6⟩
    exact run hh wish
end
end Z
/-! ZE: raise, try, the error's field. -/
namespace Z
open PySem L2 PySem.Spec
theorem noExn_get : ∀ {e : Env} {i : Nat} {c : Str} {fs : List (Str × Val)}, noExn e = true → eget e i ≠ .exn c fs
  | [], _, _, _, _, h => by cases h
  | s :: r, 0, c, fs, h, k => by rw [eget_zero] at k; subst k; cases h
  | s :: r, i + 1, c, fs, h, k => by
    rw [eget_succ] at k
    refine noExn_get (e := r) (i := i) ?_ k
    cases s <;> first | exact h | (cases h; done)
section
variable {g : Gm} {pa : List (Option Addr)} {Zs : Addr → Prop} {H : Hp} {σ : L2.St} {e : Env} {i : Nat} {a d C : Addr} {c : Str} {fs : List (Str × Val)} {fv : List (Str × V)}
/-- an error is named -/
theorem RE.name (re : RE g none pa Zs H σ e) (hi : i < e.length) (hs : eget e i = .emp) (hg : g.mg c = some (.ref C)) (hd : H d = some (.xd fv)) (hf : RvF g Zs H fs fv) :
    RE g (some (a, .ref C, d)) pa Zs H (σ.set i (some (.ref a))) (eput e i (.exn c fs)) ∧ ∀ b, Owd (eput e i (.exn c fs)) (σ.set i (some (.ref a))) b → Owd e σ b := by
  have hi2 : i < σ.length := by rw [re.len]; exact hi
  have own : ∀ j b, OwnAt (eput e i (.exn c fs)) (σ.set i (some (.ref a))) j b → OwnAt e σ j b := fun j b ⟨p, x, h1, h2⟩ => by
    by_cases h : i = j
    · subst h; rw [eget_eput_same e i _ hi] at h1; cases h1
    · rw [eget_eput_ne e i j _ h] at h1; rw [List.getElem?_set_ne h] at h2; exact ⟨p, x, h1, h2⟩
  refine ⟨⟨by rw [List.length_set, eput_length]; exact re.len, fun j => ?_, fun j k b h1 h2 => re.inj j k b (own j b h1) (own k b h2), fun j b h => ?_, re.zd⟩, fun b ⟨j, h⟩ => ⟨j, own j b h⟩⟩
  · by_cases h : i = j
    · subst h
      rw [eget_eput_same e i _ hi, List.getElem?_set_self hi2]
      exact ⟨a, d, C, fv, rfl, rfl, hg, hd, hf⟩
    · rw [eget_eput_ne e i j _ h, List.getElem?_set_ne h]
      have q := re.sl j
      cases hj : eget e j with
      | exn c fs => rw [hj] at q; obtain ⟨_, _, _, _, z, _⟩ := q; cases z
      | emp => trivial
      | v x => rw [hj] at q; exact q
      | own p x => rw [hj] at q; exact q
      | pf x => rw [hj] at q; exact q
  · obtain ⟨h1, h2⟩ := re.pin j b h
    have hn : i ≠ j := fun z => by rw [← z, hs] at h2; exact h2
    rw [eget_eput_ne e i j _ hn, List.getElem?_set_ne hn]
    exact ⟨h1, h2⟩
/-- its name goes -/
theorem RE.unname {xc : Xc} (re : RE g xc pa Zs H σ e) (hn : noExn (eput e i .emp) = true) (hp : ∀ b, pa[i]? ≠ some (some b)) : RE g none pa Zs H (σ.set i none) (eput e i .emp) ∧ ∀ b, Owd (eput e i .emp) (σ.set i none) b → Owd e σ b := by
  have own : ∀ j b, OwnAt (eput e i .emp) (σ.set i none) j b → OwnAt e σ j b := fun j b ⟨p, x, h1, h2⟩ => by
    by_cases h : i = j
    · subst h
      by_cases hi : i < e.length
      · rw [eget_eput_same e i _ hi] at h1; cases h1
      · rw [eget_out _ _ (by rw [eput_length]; omega)] at h1; cases h1
    · rw [eget_eput_ne e i j _ h] at h1; rw [List.getElem?_set_ne h] at h2; exact ⟨p, x, h1, h2⟩
  refine ⟨⟨by rw [List.length_set, eput_length]; exact re.len, fun j => ?_, fun j k b h1 h2 => re.inj j k b (own j b h1) (own k b h2), fun j b h => ?_, re.zd⟩, fun b ⟨j, h⟩ => ⟨j, own j b h⟩⟩
  · by_cases h : i = j
    · subst h
      by_cases hi : i < e.length
      · rw [eget_eput_same e i _ hi]; trivial
      · rw [eget_out _ _ (by rw [eput_length]; omega)]; trivial
    · rw [List.getElem?_set_ne h]
      have q := re.sl j
      have ne : ∀ c fs, eget (eput e i .emp) j ≠ .exn c fs := fun c fs => noExn_get hn
      rw [eget_eput_ne e i j _ h] at ne ⊢
      cases hj : eget e j with
      | exn c fs => exact absurd hj (ne c fs)
      | emp => trivial
      | v x => rw [hj] at q; exact q
      | own p x => rw [hj] at q; exact q
      | pf x => rw [hj] at q; exact q
  · obtain ⟨h1, h2⟩ := re.pin j b h
    have hn : i ≠ j := fun z => hp b (by rw [z]; exact h)
    rw [eget_eput_ne e i j _ hn, List.getElem?_set_ne hn]
    exact ⟨h1, h2⟩
end
section
variable {X : Cx} {W : WX} {pos : Pos}
def suiOf (g : Gm) (s : S) : Sui := fun a cls d => match d with
  | some dd => rdS g (some (a, cls, dd)) (fun _ _ _ _ => False) s
  | none => fun _ _ _ => False
/-- the clauses, with the functional readings of their suites -/
inductive SCl (X : Cx) (sub : Str → Str → Option Bool) : List ExceptHandler → List (Str × Nat × S) → List (Value × Nat × Sui) → Prop
  | nil : SCl X sub [] [] []
  | cons {x nm : Str} {C : Addr} {i : Nat} {s : S} {b₀ : Stmt} {suite : List Stmt} {np pos' : Pos} {hds : List ExceptHandler} {hs : List (Str × Nat × S)} {l : List (Value × Nat × Sui)} (hm : X.mg x = some (.ref C)) (hsub : ∀ c C', X.mg c = some (.ref C') → ∀ b, sub c x = some b → PySem.W.exmOne X.K (.ref C') (.ref C) = some b)
      (hsu : ∀ (a : Addr) (oe : Obj) (cls : Value) (d : Addr) (pn : List (Addr × Obj)), Zc cls (some d) oe → (∃ vs, oe.data = .fields vs) → SB (X.suite a ((a, oe) :: pn)) (some (a, cls, d)) (fun _ _ _ _ => False) (b₀ :: suite) s) (r : SCl X sub hds hs l)
      (hi : X.N[i]? = some nm := by rfl) (hl : X.env.kindOf nm = some .local := by rfl) (hg : Gl X x := by rfl) (hdb : (x == ("__debug__" : Str)) = false := by decide) :
      SCl X sub (.ExceptHandler (some (.Name x np)) (some nm) (b₀ :: suite) pos' :: hds) ((x, i, s) :: hs) ((.ref C, i, suiOf (gX X) s) :: l)
theorem SCl.cl {sub : Str → Str → Option Bool} {hds : List ExceptHandler} {hs : List (Str × Nat × S)} {l : List (Value × Nat × Sui)} (h : SCl X sub hds hs l) : Clauses X hds l := by
  induction h with
  | nil => exact .nil
  | cons hm hsub hsu r hi hl hg hdb ih =>
    refine .cons ⟨hg, hdb, .inl hm⟩ hi hl (fun a oe cls d pn hz hf => ?_) ih
    cases d with
    | none => exact ⟨fun _ _ _ _ _ _ h => h.elim⟩
    | some d => exact hsu a oe cls d pn hz hf
theorem handle_ok {sub : Str → Str → Option Bool} {hds : List ExceptHandler} {hs : List (Str × Nat × S)} {l : List (Value × Nat × Sui)} (h : SCl X sub hds hs l) {s0 : At} {c : Str} {fs : List (Str × Val)} {fv : List (Str × V)} {C d : Addr} {σ1 : L2.St} {Z1 : Addr → Prop} {H1 : Hp} {e1 : Env} {D : Ends}
    (P : Post (gX X) none s0.pa s0.Zs s0.H s0.σ s0.env Z1 H1 σ1 e1) (hg : X.mg c = some (.ref C)) (hd : H1 d = some (.xd fv)) (hf : RvF (gX X) Z1 H1 fs fv) (he : EndS (gX X) none s0 (handle sub hs c fs e1) W D) : wNm X.K W D l (.ref C) (some d) σ1 H1 := by
  induction h with
  | nil => exact he C d fv σ1 Z1 H1 P hg hd hf
  | @cons x nm C' i s b₀ suite np pos' hds hs l hm hsub hsu r hi hl hg' hdb ih =>
    unfold handle at he
    cases hb : sub c x with
    | none => rw [hb] at he; exact he.elim
    | some b =>
      rw [hb] at he
      refine ⟨b, hsub c C hg b hb, fun eb a ha => ?_, fun eb => ?_⟩
      · subst eb
        dsimp only at he
        cases hs0 : eget e1 i with
        | emp =>
          rw [hs0] at he
          dsimp only at he
          by_cases hi2 : i < e1.length
          · rw [if_pos hi2] at he
            obtain ⟨re', ow'⟩ := P.re.name (a := a) hi2 hs0 hg hd hf
            have np : ∀ b, s0.pa[i]? ≠ some (some b) := fun b h => by
              have := (P.re.pin i b h).2
              rw [hs0] at this
              exact this
            refine ⟨s0.pa, Z1, _, re', ?_⟩
            have fin : ∀ {σ2 : L2.St} {Z2 : Addr → Prop} {H2 : Hp} {e2 : Env}, Post (gX X) (some (a, .ref C, d)) s0.pa Z1 H1 (σ1.set i (some (.ref a))) (eput e1 i (.exn c fs)) Z2 H2 σ2 e2 → noExn (eput e2 i .emp) = true →
                Post (gX X) none s0.pa s0.Zs s0.H s0.σ s0.env Z2 H2 (σ2.set i none) (eput e2 i .emp) ∧ ∀ b, Owd (eput e2 i .emp) (σ2.set i none) b → Owd e2 σ2 b := fun {σ2 Z2 H2 e2} P2 hn => by
              obtain ⟨re2, ow2⟩ := P2.re.unname hn np
              have Q : Post (gX X) none s0.pa Z1 H1 σ1 e1 Z2 H2 (σ2.set i none) (eput e2 i .emp) := ⟨⟨P2.ext.zz, fun b h => (P2.ext.zn b h).imp id fun z => z.imp (ow' b) id, fun b o h n => P2.ext.hh b o h fun z => n (ow' b z), P2.ext.zd⟩, re2, fun b h => (P2.ow b (ow2 b h)).imp (ow' b) id⟩
              exact ⟨P.trans Q, ow2⟩
            cases hr : s (eput e1 i (.exn c fs)) with
            | no => rw [hr] at he; exact he
            | ex c2 fs2 e2 => rw [hr] at he; exact he.elim
            | ok f e2 =>
              rw [hr] at he
              intro σ2 Z2 H2 P2
              have simple : ∀ {f : Fl}, EndS (gX X) none s0 (if noExn (eput e2 i .emp) = true then .ok f (eput e2 i .emp) else .no) W D → ∃ P' : Post (gX X) none s0.pa s0.Zs s0.H s0.σ s0.env Z2 H2 (σ2.set i none) (eput e2 i .emp), EndF (gX X) s0 Z2 H2 (σ2.set i none) (eput e2 i .emp) D f ∧ ∀ b, Owd (eput e2 i .emp) (σ2.set i none) b → Owd e2 σ2 b := fun {f} he => by
                by_cases hn : noExn (eput e2 i .emp) = true
                · rw [if_pos hn] at he
                  obtain ⟨P', ow2⟩ := fin P2 hn
                  exact ⟨P', he _ Z2 H2 P', ow2⟩
                · rw [if_neg hn] at he
                  exact he.elim
              cases f with
              | nx => exact (simple he).2.1
              | bk => exact (simple he).2.1
              | ct => exact (simple he).2.1
              | rt r =>
                intro u hr
                cases r with
                | bor j => exact he.elim
                | v x => exact (simple (f := .rt (.v x)) he).2.1 u hr
                | own x =>
                  obtain ⟨P', h1, h2⟩ := simple (f := .rt (.own x)) he
                  obtain ⟨b, eb, nz, hh, no, fr⟩ := hr
                  refine h1 u ⟨b, eb, nz, hh, fun z => no (h2 b z), ?_⟩
                  rcases fr with fr | fr
                  · exact P.ow b (ow' b fr)
                  · exact P.ext.free fr
          · rw [if_neg hi2] at he
            exact he.elim
        | v x => rw [hs0] at he; exact he.elim
        | own p x => rw [hs0] at he; exact he.elim
        | pf x => rw [hs0] at he; exact he.elim
        | exn c fs => rw [hs0] at he; exact he.elim
      · subst eb
        exact ih he
theorem ss_try {sub : Str → Str → Option Bool} {body : List Stmt} {h₀ : ExceptHandler} {hds : List ExceptHandler} {b : S} {hs : List (Str × Nat × S)} {l : List (Value × Nat × Sui)} (hN : X.N.Nodup) (tk : Takes X W)
    (hb : ∀ (W' : WX) (pn : List (Addr × Obj)) (xe : Value → Shared → Prop), Takes (X.tr pn xe) W' → PassesOwn (model X.prog X.w) X.A X.env xe → SB (X.tr pn xe) none W' body b) (hh : SCl X sub (h₀ :: hds) hs l)
    (hst : X.stack = X.env :: X.outer := by rfl) (hfr : X.env.frame = some X.env.locals := by rfl) : SS X none W (.Try body (h₀ :: hds) [] [] pos) (sTry sub b hs) := by
  refine PS_imp (ps_try_named (tb := fun W' => rdS (gX X) none W' b) hst hfr hN tk (fun W' pn xe t p => hb W' pn xe t p) hh.cl) fun D σ H h => ?_
  obtain ⟨pa, Zs, env, re, h⟩ := h
  refine ⟨pa, Zs, env, re, ?_⟩
  unfold sTry at h
  cases hr : b env with
  | no => rw [hr] at h; exact h
  | ok f e1 => rw [hr] at h; exact h
  | ex c fs e1 =>
    rw [hr] at h
    exact fun C d fv σ1 Z1 H1 P hg hd hf => handle_ok hh (s0 := ⟨pa, Zs, H, σ, env⟩) P hg hd hf h
open L2.Zx_given in
/-- raise cn(a) -/
theorem ss_raise_given {cn qn : Str} {C fI : Addr} {a : Expr} {fa : E} {p pos2 : Pos} {k : Nat} (hc : X.calm = true) (T : PySem.Zx_given.LowTxt cn qn X.K X.mg C fI) (hr : Room k X.A) (tk : Takes X W) (ha : SE X none W a fa) (hg : Gl X cn := by rfl) (hdb : (cn == ("__debug__" : Str)) = false := by decide)
    (he : starEach (a :: []) X.env = (false, eval a X.env) :: starEach [] X.env := by rfl) (hpl : (backTo pos (starEach [] X.env)).any (·.1) = false := by rfl) :
    SS X none W (.Raise (some (.Call (.Name cn p) [a] [] pos)) none pos2) (sRaise cn "given" fa) := by
  refine PS_imp (ps_raise hc tk (pmk_low T hr (pa_cons ha pa_nil he) hg hdb he hpl)) fun D σ H h => ?_
  obtain ⟨pa, Zs, env, re, h⟩ := h
  refine ⟨pa, Zs, env, re, ?_⟩
  unfold sRaise at h
  cases hr : fa env with
  | no => rw [hr] at h; exact h
  | ex c fs e1 => rw [hr] at h; exact fun C d fv Z1 H1 p => h C d fv σ Z1 H1 p.toPost
  | ok r e1 =>
    rw [hr, Rs.bind_ok] at h
    intro u Z1 H1 p1 q1
    cases hx : esc e1 r with
    | no => rw [hx] at h; exact h.elim
    | ex c fs e => exact absurd (show escs e1 [r] = .ex c fs e by rw [escs_cons, hx]; rfl) (escs_ex _ _ _ _ _)
    | ok x e2 =>
      rw [hx, Rs.bind_ok] at h
      obtain ⟨Z2, P2, rv, _⟩ := esc_ok p1 q1 hx
      refine ⟨u, rfl, fun d hd => ?_⟩
      have ex := Ext.new (o := .xd [(("given" : Str), u)]) P2.re.zd hd
      exact h C d _ σ Z2 _ (P2.trans (P2.re.growP ex)).toPost T.gC upd_same (.cons (rv.ext ex (fun _ z => z.elim)) .nil)
open L2.Zx_given in
/-- e.given in a suite -/
theorem se_exn_given (i : Nat) {cn qn : Str} {C fI : Addr} {a d : Addr} {oe : Obj} {cls : Value} {pn : List (Addr × Obj)} {nm : Str} {p0 : Pos} (T : PySem.Zx_given.LowTxt cn qn X.K X.mg C fI) (hz : Zc cls (some d) oe) (hf : ∃ vs, oe.data = .fields vs)
    (he : PE (X.suite a ((a, oe) :: pn)) (.Name nm p0) (tVar i)) (hb : attributeBase (.Name nm p0) "given" X.env (eval (.Name nm p0) X.env) = eval (.Name nm p0) X.env := by rfl) :
    SE (X.suite a ((a, oe) :: pn)) (some (a, cls, d)) W (.Attribute (.Name nm p0) "given" pos) (eExn i cn "given") := by
  refine PE_imp (pe_byLow T hz hf he hb) fun σ H Q h => ?_
  obtain ⟨pa, Zs, env, re, h⟩ := h
  unfold eExn at h
  have q := re.sl i
  cases hs : eget env i with
  | emp => rw [hs] at h; exact h.elim
  | v x => rw [hs] at h; exact h.elim
  | own p x => rw [hs] at h; exact h.elim
  | pf x => rw [hs] at h; exact h.elim
  | exn c fs =>
    rw [hs] at h q
    obtain ⟨a', d', C', fv, e1, e2, hg, hd, hff⟩ := q
    cases e1
    cases hff with
    | nil => exact h.elim
    | cons r t =>
      cases t with
      | cons _ _ => exact h.elim
      | nil =>
        dsimp only at h
        split at h
        · rename_i cc
          obtain ⟨rfl, rfl⟩ := cc
          have hC : X.mg c = some (.ref C') := hg
          rw [T.gC] at hC
          cases hC
          exact ⟨_, e2, rfl, rfl, d, _, rfl, hd, h _ Zs H (PostE.refl re) r⟩
        · exact h.elim
end
end Z
/-! ZF: list comprehensions. -/
namespace Z
open PySem L2 PySem.Spec
/-! ### wiping -/
theorem clr_at : ∀ {vs : List Nat} {e : Env} {i : Nat}, clr e vs = true → i ∈ vs → eget e i = .emp ∨ ∃ x, eget e i = .v x
  | v :: vs, e, i, h, hi => by
    rw [clr_cons, Bool.and_eq_true] at h
    rcases List.mem_cons.mp hi with rfl | hi
    · have h1 := h.1
      cases hs : eget e i with
      | emp => exact .inl rfl
      | v x => exact .inr ⟨x, rfl⟩
      | own p x => rw [hs] at h1; cases h1
      | pf x => rw [hs] at h1; cases h1
      | exn c fs => rw [hs] at h1; cases h1
    · exact clr_at h.2 hi
theorem wip_len : ∀ (vs : List Nat) (e : Env), (wip e vs).length = e.length
  | [], _ => rfl
  | v :: vs, e => by rw [wip_cons, wip_len, eput_length]
theorem unwip_len : ∀ (vs : List Nat) (e1 e : Env), (unwip e1 e vs).length = e.length
  | [], _, _ => rfl
  | v :: vs, e1, e => by rw [unwip_cons, unwip_len, eput_length]
theorem eget_wip_out : ∀ {vs : List Nat} {e : Env} {i : Nat}, i ∉ vs → eget (wip e vs) i = eget e i
  | [], _, _, _ => rfl
  | v :: vs, e, i, h => by
    rw [wip_cons, eget_wip_out (fun m => h (List.mem_cons_of_mem _ m)), eget_eput_ne _ _ _ _ fun z => h (by rw [z]; exact List.mem_cons_self)]
theorem eput_emp {e : Env} {i j : Nat} (h : eget e i = .emp) : eget (eput e j .emp) i = .emp := by
  by_cases hj : j = i
  · subst hj
    by_cases hl : j < e.length
    · exact eget_eput_same e j _ hl
    · rw [eget_out]; rw [eput_length]; omega
  · rw [eget_eput_ne _ _ _ _ hj]; exact h
theorem wip_emp : ∀ {vs : List Nat} {e : Env} {i : Nat}, eget e i = .emp → eget (wip e vs) i = .emp
  | [], _, _, h => h
  | v :: vs, e, i, h => wip_emp (vs := vs) (eput_emp h)
theorem eput_self_emp {e : Env} {i : Nat} : eget (eput e i .emp) i = .emp := by
  by_cases hl : i < e.length
  · exact eget_eput_same e i _ hl
  · rw [eget_out]; rw [eput_length]; omega
theorem eget_wip_in : ∀ {vs : List Nat} {e : Env} {i : Nat}, i ∈ vs → eget (wip e vs) i = .emp
  | v :: vs, e, i, h => by
    rw [wip_cons]
    rcases List.mem_cons.mp h with rfl | h
    · exact wip_emp eput_self_emp
    · exact eget_wip_in h
theorem eget_unwip_out : ∀ {vs : List Nat} {e1 e : Env} {i : Nat}, i ∉ vs → eget (unwip e1 e vs) i = eget e i
  | [], _, _, _, _ => rfl
  | v :: vs, e1, e, i, h => by
    rw [unwip_cons, eget_unwip_out (fun m => h (List.mem_cons_of_mem _ m)), eget_eput_ne _ _ _ _ fun z => h (by rw [z]; exact List.mem_cons_self)]
theorem unwip_keep : ∀ {vs : List Nat} {e1 e : Env} {i : Nat}, eget e i = eget e1 i → i < e.length → eget (unwip e1 e vs) i = eget e1 i
  | [], _, _, _, h, _ => h
  | v :: vs, e1, e, i, h, hl => by
    rw [unwip_cons]
    refine unwip_keep ?_ (by rw [eput_length]; exact hl)
    by_cases hv : v = i
    · subst hv; exact eget_eput_same _ _ _ hl
    · rw [eget_eput_ne _ _ _ _ hv]; exact h
theorem eget_unwip_in : ∀ {vs : List Nat} {e1 e : Env} {i : Nat}, i ∈ vs → i < e.length → eget (unwip e1 e vs) i = eget e1 i
  | v :: vs, e1, e, i, h, hl => by
    rw [unwip_cons]
    rcases List.mem_cons.mp h with rfl | h
    · exact unwip_keep (eget_eput_same _ _ _ hl) (by rw [eput_length]; exact hl)
    · exact eget_unwip_in h (by rw [eput_length]; exact hl)
theorem wipe_in : ∀ {vs : List Nat} {σ : L2.St} {i : Nat} {x : V}, i ∈ vs → (wipe σ vs)[i]? ≠ some (some x) := fun hi h => (wipe_some h).2 hi
theorem wipe_get {σ : L2.St} {i : Nat} : ∀ {vs : List Nat}, i ∈ vs → (wipe σ vs)[i]? = if i < σ.length then some none else none
  | v :: vs, h => by
    unfold wipe
    by_cases hv : v = i
    · subst hv
      by_cases hl : v < σ.length
      · rw [List.getElem?_set_self (by rw [wipe_length]; exact hl), if_pos hl]
      · rw [if_neg hl, List.getElem?_eq_none]; rw [List.length_set, wipe_length]; omega
    · rw [List.getElem?_set_ne hv]
      exact wipe_get ((List.mem_cons.mp h).resolve_left fun e => hv e.symm)
theorem wipe_idem (σ : L2.St) (vs : List Nat) : wipe (wipe σ vs) vs = wipe σ vs := by
  apply List.ext_getElem?
  intro i
  by_cases h : i ∈ vs
  · rw [wipe_get h, wipe_get h, wipe_length]
  · rw [wipe_out h]
theorem wipe_set {σ : L2.St} {vs : List Nat} {i : Nat} {u : Option V} (hi : i ∈ vs) : wipe (σ.set i u) vs = wipe σ vs := by
  apply List.ext_getElem?
  intro j
  by_cases h : j ∈ vs
  · rw [wipe_get h, wipe_get h, List.length_set]
  · rw [wipe_out h, wipe_out h, List.getElem?_set_ne fun e => h (by rw [← e]; exact hi)]
section
variable {g : Gm} {xc : Xc} {pa : List (Option Addr)} {Zs Z1 : Addr → Prop} {H H1 : Hp} {σ σ2 : L2.St} {e e2 : Env} {vs : List Nat}
theorem clr_own {i : Nat} {p : Bool} {x : Val} (hc : clr e vs = true) (h : eget e i = .own p x) : i ∉ vs := fun m => by
  rcases clr_at hc m with z | ⟨y, z⟩ <;> rw [z] at h <;> cases h
theorem owd_wip (hc : clr e vs = true) {a : Addr} : Owd (wip e vs) (wipe σ vs) a ↔ Owd e σ a := by
  constructor
  · rintro ⟨i, p, x, h1, h2⟩
    by_cases m : i ∈ vs
    · exact absurd h2 (wipe_in m)
    · rw [eget_wip_out m] at h1
      rw [wipe_out m] at h2
      exact ⟨i, p, x, h1, h2⟩
  · rintro ⟨i, p, x, h1, h2⟩
    have m := clr_own hc h1
    exact ⟨i, p, x, by rw [eget_wip_out m]; exact h1, by rw [wipe_out m]; exact h2⟩
/-- the block's frame -/
theorem RE.wip (re : RE g xc pa Zs H σ e) (hc : clr e vs = true) : RE g xc pa Zs H (wipe σ vs) (wip e vs) := by
  have own : ∀ i a, OwnAt (Z.wip e vs) (wipe σ vs) i a → OwnAt e σ i a := fun i a ⟨p, x, h1, h2⟩ => by
    by_cases m : i ∈ vs
    · exact absurd h2 (wipe_in m)
    · rw [eget_wip_out m] at h1
      rw [wipe_out m] at h2
      exact ⟨p, x, h1, h2⟩
  refine ⟨by rw [wipe_length, wip_len]; exact re.len, fun i => ?_, fun i j a h1 h2 => re.inj i j a (own i a h1) (own j a h2), fun i a h => ?_, re.zd⟩
  · by_cases m : i ∈ vs
    · rw [eget_wip_in m]; trivial
    · rw [eget_wip_out m, wipe_out m]; exact re.sl i
  · obtain ⟨h1, h2⟩ := re.pin i a h
    have m : i ∉ vs := fun m => by
      rcases clr_at hc m with z | ⟨y, z⟩ <;> rw [z] at h2 <;> exact h2
    rw [eget_wip_out m, wipe_out m]
    exact ⟨h1, h2⟩
/-- behind the block -/
theorem unwip_post {s : At} (P1 : PostE g xc s.pa s.Zs s.H s.σ s.env Z1 H1 e) (hc : clr e vs = true) (P2 : PostE g xc s.pa Z1 H1 (wipe s.σ vs) (wip e vs) Zs H e2) :
    PostE g xc s.pa Z1 H1 s.σ e Zs H (unwip e e2 vs) ∧ ∀ a, Owd (unwip e e2 vs) s.σ a → Owd e2 (wipe s.σ vs) a := by
  have hl : e2.length = e.length := by rw [← P2.re.len, wipe_length, P1.re.len]
  have own : ∀ i a, OwnAt (unwip e e2 vs) s.σ i a → OwnAt e2 (wipe s.σ vs) i a := fun i a ⟨p, x, h1, h2⟩ => by
    by_cases m : i ∈ vs
    · by_cases li : i < e2.length
      · rw [eget_unwip_in m li] at h1
        exact absurd m (clr_own hc h1)
      · rw [eget_out] at h1
        · cases h1
        · rw [unwip_len]; omega
    · rw [eget_unwip_out m] at h1
      exact ⟨p, x, h1, by rw [wipe_out m]; exact h2⟩
  have ext : Ext (Owd e s.σ) Z1 H1 Zs H := ⟨P2.ext.zz, fun a h => (P2.ext.zn a h).imp id fun z => z.imp (owd_wip hc).mp id, fun a o h n => P2.ext.hh a o h fun z => n ((owd_wip hc).mp z), P2.ext.zd⟩
  refine ⟨⟨⟨ext, ⟨by rw [unwip_len, hl]; exact P1.re.len, fun i => ?_, fun i j a h1 h2 => P2.re.inj i j a (own i a h1) (own j a h2), fun i a h => ?_, P2.re.zd⟩, fun a ⟨i, h⟩ => ?_⟩, fun i h => ?_⟩, fun a ⟨i, h⟩ => ⟨i, own i a h⟩⟩
  · by_cases m : i ∈ vs
    · by_cases li : i < e2.length
      · rw [eget_unwip_in m li]
        have q := P1.re.sl i
        rcases clr_at hc m with z | ⟨x, z⟩
        · rw [z]; trivial
        · rw [z] at q ⊢
          obtain ⟨u, h1, r⟩ := q
          exact ⟨u, h1, r.ext ext P1.re.owOk⟩
      · rw [eget_out]
        · trivial
        · rw [unwip_len]; omega
    · rw [eget_unwip_out m]
      have q := P2.re.sl i
      rw [wipe_out m] at q
      exact q
  · obtain ⟨h1, h2⟩ := P2.re.pin i a h
    have m : i ∉ vs := fun m => wipe_in m h1
    rw [wipe_out m] at h1
    rw [eget_unwip_out m]
    exact ⟨h1, h2⟩
  · rcases P2.ow a ⟨i, own i a h⟩ with z | z
    · exact .inl ((owd_wip hc).mp z)
    · exact .inr z
  · by_cases m : i ∈ vs
    · by_cases li : i < e2.length
      · rw [eget_unwip_in m li]; exact h
      · rw [eget_out e i (by omega)] at h; exact h.elim
    · rw [eget_unwip_out m]
      exact P2.hol i (by rw [eget_wip_out m]; exact h)
/-- a list on the side is written -/
theorem RE.side {D : Addr} {us ws : List V} (re : RE g xc pa Zs H σ e) (hD : H D = some (.lst us)) (nz : ¬ Zs D) (no : ¬ Owd e σ D) : RE g xc pa Zs (upd H D (.lst ws)) σ e := by
  have zd : Zd Zs (upd H D (.lst ws)) := fun b h => by
    obtain ⟨u, hu⟩ := re.zd b h
    exact ⟨u, by rw [upd_ne fun z => nz (by rw [← z]; exact h)]; exact hu⟩
  have e1 : Ext (fun b => b = D) Zs H Zs (upd H D (.lst ws)) := ⟨fun _ h => h, fun _ h => .inl h, fun b u h n => by rw [upd_ne n]; exact h, zd⟩
  have d1 : OwOk (fun b => b = D) Zs H := fun b h => by rw [h]; exact ⟨nz, _, hD, rfl⟩
  refine ⟨re.len, fun i => ?_, re.inj, re.pin, zd⟩
  have q := re.sl i
  cases hs : eget e i with
  | emp => trivial
  | v x =>
    rw [hs] at q
    obtain ⟨u, h, r⟩ := q
    exact ⟨u, h, r.ext e1 d1⟩
  | own p x =>
    rw [hs] at q
    obtain ⟨a, h, n, r⟩ := q
    exact ⟨a, h, n, r.ext e1 d1 fun z => no ⟨i, p, x, hs, by rw [h, z]⟩⟩
  | pf x =>
    rw [hs] at q
    obtain ⟨a, h, z, r⟩ := q
    exact ⟨a, h, z, r.ext e1 d1⟩
  | exn c fs =>
    rw [hs] at q
    obtain ⟨a, dd, C, fv, h1, h2, h3, h4, r⟩ := q
    refine ⟨a, dd, C, fv, h1, h2, h3, e1.hh _ _ h4 fun z => ?_, r.ext e1 d1⟩
    rw [z, hD] at h4
    cases h4
theorem RvL.side {D : Addr} {us ws vs' : List V} {xs : List Val} (zd : Zd Zs H) (hD : H D = some (.lst us)) (nz : ¬ Zs D) (r : RvL g Zs H xs vs') : RvL g Zs (upd H D (.lst ws)) xs vs' := by
  have e1 : Ext (fun b => b = D) Zs H Zs (upd H D (.lst ws)) := ⟨fun _ h => h, fun _ h => .inl h, fun b u h n => by rw [upd_ne n]; exact h, fun b h => by
    obtain ⟨u, hu⟩ := zd b h
    exact ⟨u, by rw [upd_ne fun z => nz (by rw [← z]; exact h)]; exact hu⟩⟩
  exact r.ext e1 fun b h => by rw [h]; exact ⟨nz, _, hD, rfl⟩
end
/-! ### targets of a block -/
/-- a target that changes the block's names alone -/
def rdGc (g : Gm) (xc : Xc) (vs : List Nat) (t : Tg) : TG := fun v σ H Q => ∃ pa Zs env x e1, RE g xc pa Zs H σ env ∧ RvV g Zs H x v ∧ t x env = some e1 ∧ ∀ σ1 Z1 H1, Post g xc pa Zs H σ env Z1 H1 σ1 e1 → wipe σ1 vs = wipe σ vs → Q σ1 H1
def rdGcs (g : Gm) (xc : Xc) (vs : List Nat) (ts : List Tg) : TGs := fun us σ H Q => ∃ pa Zs env xs e1, RE g xc pa Zs H σ env ∧ RvL g Zs H xs us ∧ tgs ts xs env = some e1 ∧ ∀ σ1 Z1 H1, Post g xc pa Zs H σ env Z1 H1 σ1 e1 → wipe σ1 vs = wipe σ vs → Q σ1 H1
def TgIn (vs : List Nat) (t : Tg) : Prop := ∀ x e e1, t x e = some e1 → ∀ i, i ∉ vs → eget e1 i = eget e i
def TgsIn (vs : List Nat) (ts : List Tg) : Prop := ∀ xs e e1, tgs ts xs e = some e1 → ∀ i, i ∉ vs → eget e1 i = eget e i
structure SGc (X : Cx) (xc : Xc) (vs : List Nat) (tg : Expr) (t : Tg) : Prop where
  pg : PG X tg (rdGc (gX X) xc vs t)
  inn : TgIn vs t
structure SGcs (X : Cx) (xc : Xc) (vs : List Nat) (tg : List Expr) (t : List Tg) : Prop where
  pg : PGs X tg (rdGcs (gX X) xc vs t)
  inn : TgsIn vs t
section
variable {X : Cx} {xc : Xc} {W : WX} {pos : Pos} {vs : List Nat}
theorem sgc_name (i : Nat) {x : Str} (hN : X.N.Nodup) (hi : X.N[i]? = some x := by rfl) (hv : i ∈ vs := by decide) (hx : Loc X.env.scope x := by first | exact Or.inl rfl | exact Or.inr rfl) (hf : X.fn x = true ∨ X.env.scope.names.lookup x = some .local := by first | exact .inl rfl | exact .inr rfl) : SGc X xc vs (.Name x pos) (tgN i) := by
  refine ⟨PG_imp (pg_name hN hi hx hf) fun v σ H Q h => ?_, fun x e e1 h j hj => ?_⟩
  · obtain ⟨pa, Zs, env, x, e1, re, rv, hz, h⟩ := h
    obtain ⟨Z2, P2, _⟩ := sto_ok (s := ⟨pa, Zs, H, σ, env⟩) (u := v) (r := .v x) (Post.refl re) rv (okE_some hz)
    exact h _ Z2 H P2 (wipe_set hv)
  · obtain ⟨_, _, rfl⟩ := put_some (okE_some h : sto e i (.v x) = .ok () e1)
    exact eget_eput_ne _ _ _ _ fun z => hj (by rw [← z]; exact hv)
theorem sgcs_nil : SGcs X xc vs [] [] := by
  refine ⟨PGs_imp pgs_nil fun us σ H Q h => ?_, fun xs e e1 h j hj => ?_⟩
  · obtain ⟨pa, Zs, env, xs, e1, re, rv, hz, h⟩ := h
    cases rv with
    | nil => cases hz; exact ⟨rfl, h σ Zs H (Post.refl re) rfl⟩
    | cons _ _ => cases hz
  · cases xs with
    | nil => cases h; rfl
    | cons _ _ => cases h
theorem sgcs_cons {e : Expr} {es : List Expr} {t : Tg} {ts : List Tg} (h1 : SGc X xc vs e t) (h2 : SGcs X xc vs es ts) (hs : (assignEach (e :: es) X.env).map (·.2) = assign e X.env :: (assignEach es X.env).map (·.2) := by rfl) : SGcs X xc vs (e :: es) (t :: ts) := by
  refine ⟨PGs_imp (pgs_cons h1.pg h2.pg hs) fun us σ H Q h => ?_, fun xs e e1 h j hj => ?_⟩
  · obtain ⟨pa, Zs, env, xs, e1, re, rv, hz, h⟩ := h
    cases rv with
    | nil => cases hz
    | cons r rs =>
      rw [tgs_cons] at hz
      split at hz
      · rename_i e2 h2
        refine ⟨_, _, rfl, pa, Zs, env, _, e2, re, r, h2, fun σ1 Z1 H1 P1 w1 => ?_⟩
        exact ⟨pa, Z1, e2, _, e1, P1.re, rs.ext P1.ext re.owOk, hz, fun σ2 Z2 H2 P2 w2 => h σ2 Z2 H2 (P1.trans P2) (w2.trans w1)⟩
      · cases hz
  · cases xs with
    | nil => cases h
    | cons x xs =>
      rw [tgs_cons] at h
      split at h
      · rename_i e2 h3
        rw [h2.inn _ _ _ h j hj, h1.inn _ _ _ h3 j hj]
      · cases h
theorem sgc_tup {es : List Expr} {k : Nat} {ts : List Tg} {n : Nat} (hc : X.calm = true) (h : SGcs X xc vs es ts) (hl : ts.length = n := by rfl) (hn : (assignEach es X.env).length = n := by rfl) (hst : (assignEach es X.env).findIdx? (·.1) = none := by rfl) : SGc X xc vs (.Tuple es k pos) (tgT ts) := by
  refine ⟨PG_imp (pg_tup hc h.pg hn hst) fun v σ H Q h => ?_, fun x e e1 hz j hj => ?_⟩
  · obtain ⟨pa, Zs, env, x, e1, re, rv, hz, h⟩ := h
    have tl : ∀ (ts : List Tg) (xs : List Val) (e : Env), tgs ts xs e = some e1 → xs.length = ts.length := by
      intro ts
      induction ts with
      | nil => intro xs e h; cases xs with
        | nil => rfl
        | cons x xs => cases h
      | cons t ts ih => intro xs e h; cases xs with
        | nil => cases h
        | cons x xs =>
          rw [tgs_cons] at h
          split at h
          · rw [List.length_cons, List.length_cons, ih _ _ h]
          · cases h
    cases rv with
    | tup hs r => exact ⟨_, _, rfl, hs, by rw [← r.length, tl _ _ _ hz, hl], pa, Zs, env, _, e1, re, r, hz, h⟩
    | _ => cases hz
  · cases x with
    | tup xs => exact h.inn _ _ _ hz j hj
    | _ => cases hz

/-! ### tests of a block -/
abbrev STs (X : Cx) (xc : Xc) (W : WX) (ifs : List Expr) (f : T) : Prop := PTs X ifs (rdT (gX X) xc W f)
theorem PTs_imp {ifs : List Expr} {t t' : TT} (h : PTs X ifs t) (k : ∀ σ H Q, t' σ H Q → t σ H Q) : PTs X ifs t' := ⟨fun pins s σ H Q I q => h.run pins s σ H Q I (k σ H Q q)⟩
theorem sts_nil : STs X xc W [] Z.tYes := PTs_imp pts_nil fun σ H Q ⟨pa, Zs, env, re, h⟩ => h true Zs H (PostE.refl re) rfl
theorem sts_one {c : Expr} {f : T} (h : ST X xc W c f) : STs X xc W [c] f := pts_one h
abbrev FF : WX := fun _ _ _ _ => False

/-! ### the block -/
section
variable {g : Gm} {pa : List (Option Addr)} {Z1 Z' Z4 : Addr → Prop} {H1 H' H4 : Hp} {σw σ2 : L2.St} {ew e' e1 e4 : Env} {D : Addr} {acc ws : List V} {ys : List Val}
theorem PostE.side (P : PostE g xc pa Z1 H1 σw ew Z' H' e') (fr : H1 D = none) (hD : H' D = some (.lst acc)) (nz : ¬ Z' D) (no : ¬ Owd e' σw D) : PostE g xc pa Z1 H1 σw ew Z' (upd H' D (.lst ws)) e' := by
  have re := P.re.side (ws := ws) hD nz no
  exact ⟨⟨⟨P.ext.zz, P.ext.zn, fun a o h n => by rw [upd_ne (ne_of_none h fr)]; exact P.ext.hh a o h n, re.zd⟩, re, P.ow⟩, P.hol⟩
/-- behind a turn -/
theorem comp_step (hw0 : ∀ i ∈ vs, eget ew i = .emp) (P' : PostE g xc pa Z1 H1 σw ew Z' H' e') (Pa : Post g xc pa Z' H' σw e' Z4 H4 σ2 e4) (w2 : wipe σ2 vs = σw) (hc : clr e4 vs = true) (hol : ∀ i, i ∉ vs → Hol (eget e' i) → Hol (eget e4 i)) (hD : H' D = some (.lst acc)) (ra : RvL g Z' H' ys acc) (nz : ¬ Z' D) (no : ¬ Owd e' σw D) :
    PostE g xc pa Z1 H1 σw ew Z4 H4 (wip e4 vs) ∧ H4 D = some (.lst acc) ∧ RvL g Z4 H4 ys acc ∧ ¬ Z4 D ∧ ¬ Owd (wip e4 vs) σw D := by
  have Q := P'.toPost.trans Pa
  have re : RE g xc pa Z4 H4 σw (wip e4 vs) := by
    have := Pa.re.wip hc
    rw [w2] at this
    exact this
  have ow : ∀ a, Owd (wip e4 vs) σw a → Owd e4 σ2 a := fun a h => by
    rw [← w2] at h
    exact (owd_wip hc).mp h
  refine ⟨⟨⟨Q.ext, re, fun a h => Q.ow a (ow a h)⟩, fun i h => ?_⟩, Pa.ext.hh D _ hD no, ra.ext Pa.ext P'.re.owOk, fun z => ?_, fun z => ?_⟩
  · by_cases m : i ∈ vs
    · rw [hw0 i m] at h; exact h.elim
    · rw [eget_wip_out m]
      exact hol i m (P'.hol i h)
  · rcases Pa.ext.zn D z with z | z | z
    · exact nz z
    · exact no z
    · rw [hD] at z; cases z
  · rcases Pa.ow D (ow D z) with z | z
    · exact no z
    · rw [hD] at z; cases z
/-- one turn -/
theorem comp_turn {t : Tg} {c : T} {a : E} {xs : List Val} {x : Val} {zs : List Val} {e9 : Env} {u : V} (ht : TgIn vs t) (hw : wipe σw vs = σw) (hw0 : ∀ i ∈ vs, eget ew i = .emp)
    (hL : compL vs t c a (x :: xs) e' = .ok zs e9) (fr : H1 D = none) (P' : PostE g xc pa Z1 H1 σw ew Z' H' e') (hD : H' D = some (.lst acc)) (ra : RvL g Z' H' ys acc) (nz : ¬ Z' D) (no : ¬ Owd e' σw D) (lt : acc.length < sizeLine) (rv : RvV g Z' H' x u) (N : Hp → Prop)
    (hN : ∀ Z4 H4 e4 acc4 ys4 zs4, PostE g xc pa Z1 H1 σw ew Z4 H4 e4 → H4 D = some (.lst acc4) → RvL g Z4 H4 ys4 acc4 → ¬ Z4 D → ¬ Owd e4 σw D → acc4.length ≤ acc.length + 1 → ys ++ zs = ys4 ++ zs4 → compL vs t c a xs e4 = .ok zs4 e9 → N H4) :
    rdGc g xc vs t u σw H' fun σ2 H2 => wipe σ2 vs = σw ∧ rdT g xc FF c σ2 H2 fun b H3 => if b = true then rd g xc FF a σ2 H3 fun y H4 => ∃ acc, H4 D = some (.lst acc) ∧ acc.length < sizeLine ∧ N (upd H4 D (.lst (acc ++ [y]))) else N H3 := by
  unfold compL at hL
  cases hz : t x e' with
  | none => rw [hz] at hL; cases hL
  | some e1 =>
    rw [hz] at hL
    dsimp only at hL
    refine ⟨pa, Z', e', x, e1, P'.re, rv, hz, fun σ2 Z2 H2 P2 w2 => ⟨w2.trans hw, pa, Z2, e1, P2.re, ?_⟩⟩
    have w2 := w2.trans hw
    have h1 : ∀ i, i ∉ vs → Hol (eget e' i) → Hol (eget e1 i) := fun i m h => by rw [ht _ _ _ hz i m]; exact h
    cases hc : c e1 with
    | no => rw [hc] at hL; cases hL
    | ex cc fs e2 => rw [hc] at hL; cases hL
    | ok k e2 =>
      rw [hc, Rs.bind_ok] at hL
      intro b Z3 H3 P3 e
      cases e
      cases k with
      | false =>
        rw [if_neg (by simp)] at hL ⊢
        cases hcl : clr e2 vs with
        | false => rw [hcl] at hL; simp at hL
        | true =>
          rw [hcl, if_pos rfl] at hL
          obtain ⟨P5, hD5, ra5, nz5, no5⟩ := comp_step hw0 P' (P2.trans P3.toPost) w2 hcl (fun i m h => P3.hol i (h1 i m h)) hD ra nz no
          exact hN _ _ _ _ _ _ P5 hD5 ra5 nz5 no5 (Nat.le_succ _) rfl hL
      | true =>
        rw [if_pos rfl] at hL ⊢
        refine ⟨pa, Z3, e2, P3.re, ?_⟩
        cases ha : a e2 with
        | no => rw [ha] at hL; cases hL
        | ex cc fs e3 => rw [ha] at hL; cases hL
        | ok r e3 =>
          rw [ha, Rs.bind_ok] at hL
          intro y Z4 H4 P4 R4
          cases he : esc e3 r with
          | no => rw [he] at hL; cases hL
          | ex cc fs e => rw [he] at hL; cases hL
          | ok v e4 =>
            rw [he, Rs.bind_ok] at hL
            obtain ⟨Z5, P5, rv5, _, zn5, hol5, ow5⟩ := esc_ok P4 R4 he
            cases hcl : clr e4 vs with
            | false => rw [hcl] at hL; simp at hL
            | true =>
              rw [hcl, if_pos rfl] at hL
              cases hr : compL vs t c a xs (wip e4 vs) with
              | no => rw [hr] at hL; cases hL
              | ex cc fs e => rw [hr] at hL; cases hL
              | ok zs1 e5 =>
                rw [hr, Rs.bind_ok] at hL
                cases hL
                obtain ⟨P6, hD6, ra6, nz6, no6⟩ := comp_step hw0 P' ((P2.trans P3.toPost).trans P5.toPost) w2 hcl (fun i m h => P5.hol i (P3.hol i (h1 i m h))) hD ra nz no
                refine ⟨acc, hD6, lt, ?_⟩
                refine hN Z5 _ (wip e4 vs) (acc ++ [y]) (ys ++ [v]) zs1 (P6.side fr hD6 nz6 no6) upd_same ?_ nz6 no6 (by rw [List.length_append]; exact Nat.le_refl _) (by rw [List.append_assoc]; rfl) hr
                exact RvL.side P6.re.zd hD6 nz6 (ra6.append (.cons rv5 .nil))
end
theorem comp_end {src : Src} {t : Tg} {c : T} {a : E} {σ : L2.St} {H : Hp} {Q : VK} (ht : TgIn vs t) (h : rd (gX X) xc W (eComp src vs t c a) σ H Q) :
    tLc (rdI (gX X) xc W src) (rdGc (gX X) xc vs t) (rdT (gX X) xc FF c) (rd (gX X) xc FF a) vs σ H Q := by
  obtain ⟨pa, Zs, env, re, h⟩ := h
  refine ⟨pa, Zs, env, re, ?_⟩
  unfold eComp at h
  cases hs : src env with
  | no => rw [hs] at h; exact h
  | ex cc fs e1 => rw [hs] at h; exact h
  | ok xs e1 =>
    rw [hs, Rs.bind_ok] at h
    intro Z1 H1 J P1 wk D hfr
    by_cases hc : (clr e1 vs && decide (xs.length ≤ sizeMax)) = true
    · rw [if_pos hc] at h
      rw [Bool.and_eq_true, decide_eq_true_eq] at hc
      obtain ⟨hc, hsz⟩ := hc
      rw [szm] at hsz
      cases hL : compL vs t c a xs (wip e1 vs) with
      | no => rw [hL] at h; exact h.elim
      | ex cc fs e => rw [hL] at h; exact h.elim
      | ok zs e9 =>
        rw [hL] at h
        dsimp only at h
        have re1 : RE (gX X) xc pa Z1 H1 (wipe σ vs) (wip e1 vs) := P1.re.wip hc
        have nzD : ¬ Z1 D := P1.re.zd.no hfr
        have noD : ¬ Owd (wip e1 vs) (wipe σ vs) D := fun z => by
          obtain ⟨_, o, ho, _⟩ := re1.owOk D z
          rw [hfr] at ho; cases ho
        have e0 := Ext.new (o := .lst []) P1.re.zd hfr
        refine ⟨fun i m H' => m = xs.length - i ∧ i ≤ xs.length ∧ ∃ Z' e' acc ys zs', PostE (gX X) xc pa Z1 H1 (wipe σ vs) (wip e1 vs) Z' H' e' ∧ H' D = some (.lst acc) ∧ RvL (gX X) Z' H' ys acc ∧ ¬ Z' D ∧ ¬ Owd e' (wipe σ vs) D ∧ acc.length ≤ i ∧ zs = ys ++ zs' ∧ compL vs t c a (xs.drop i) e' = .ok zs' e9,
          ⟨xs.length, rfl, Nat.zero_le _, Z1, wip e1 vs, [], [], zs, re1.growP e0, upd_same, .nil, nzD, noD, Nat.le_refl _, rfl, hL⟩, ?_⟩
        rintro i m H' ⟨rfl, hi, Z', e', acc, ys, zs', P', hD, ra, nz, no, la, hzs, hL'⟩
        have wk' := wk Z' H' (P'.toPost.grow re1) P'.re.zd
        by_cases hlt : i < xs.length
        · have hd : xs.drop i = xs[i] :: xs.drop (i + 1) := List.drop_eq_getElem_cons hlt
          rw [hd] at hL'
          have hx : xs[i]? = some xs[i] := List.getElem?_eq_getElem hlt
          obtain ⟨go, yl⟩ := wk'.1 i _ hx
          refine .inr ⟨go, fun H' => i + 1 ≤ xs.length ∧ ∃ Z' e' acc ys zs', PostE (gX X) xc pa Z1 H1 (wipe σ vs) (wip e1 vs) Z' H' e' ∧ H' D = some (.lst acc) ∧ RvL (gX X) Z' H' ys acc ∧ ¬ Z' D ∧ ¬ Owd e' (wipe σ vs) D ∧ acc.length ≤ i + 1 ∧ zs = ys ++ zs' ∧ compL vs t c a (xs.drop (i + 1)) e' = .ok zs' e9, fun H' n => ⟨xs.length - (i + 1), by omega, rfl, n⟩, fun u H3 y => ?_⟩
          obtain ⟨Z3, ex, rv⟩ := yl u H3 y
          have P3 := P'.trans (P'.re.growP ex)
          have nz3 : ¬ Z3 D := fun z => by
            rcases ex.zn D z with z | z | z
            · exact nz z
            · exact z
            · rw [hD] at z; cases z
          refine comp_turn ht (wipe_idem σ vs) (fun i m => eget_wip_in m) hL' hfr P3 (ex.hh D _ hD fun z => z) (ra.ext ex fun _ z => z.elim) nz3 no (by omega) rv _ fun Z4 H4 e4 acc4 ys4 zs4 P4 hD4 ra4 nz4 no4 la4 hz4 hL4 => ?_
          exact ⟨hlt, Z4, e4, acc4, ys4, zs4, P4, hD4, ra4, nz4, no4, by omega, hzs.trans hz4, hL4⟩
        · have e : i = xs.length := by omega
          subst e
          rw [List.drop_length] at hL'
          cases hL'
          rw [List.append_nil] at hzs
          subst hzs
          obtain ⟨P5, ow5⟩ := unwip_post (s := ⟨pa, Zs, H, σ, env⟩) P1 hc P'
          exact .inl ⟨wk'.2 _ (Nat.le_refl _), h (.ref D) Z' H' (P1.trans P5) ⟨D, rfl, nz, ⟨acc, hD, ra⟩, fun z => no (ow5 D z), P1.ext.free hfr⟩⟩
    · rw [if_neg hc] at h
      exact h.elim
variable {elt tg iter : Expr} {ifs : List Expr} {scope : Scope} {own : List (Str × Nat)} {src : Src} {t : Tg} {c : T} {a : E}
/-- [elt for tg in iter if ..] -/
theorem se_comp (own : List (Str × Nat)) (hc : X.calm = true) (hN : X.N.Nodup) (hi : SI X xc W tg iter src) (ok : blkC X.N X.env.scope scope own = true) (ht : ∀ (s : Shared) (H : Hp) (C : Addr) (cl : List (Str × Addr)) (fp : List Addr), SGc (X.blk s H scope (compEnvC scope cl C X.env) fp) xc (own.map (·.2)) tg t)
    (hf : ∀ (s : Shared) (H : Hp) (C : Addr) (cl : List (Str × Addr)) (fp : List Addr), STs (X.blk s H scope (compEnvC scope cl C X.env) fp) xc FF ifs c) (he : ∀ (s : Shared) (H : Hp) (C : Addr) (cl : List (Str × Addr)) (fp : List Addr), SE (X.blk s H scope (compEnvC scope cl C X.env) fp) xc FF elt a)
    (hs : ∀ x, foldedSetIterable iter X.env x = pure x := by intro _; rfl) : SE X xc W (.ListComp elt [⟨tg, iter, ifs, 0⟩] scope pos) (eComp src (own.map (·.2)) t c a) :=
  ⟨fun pins s σ H Q I h => (pe_lc hc hN hi (blkOk_by ok) (fun s H C cl fp => (ht s H C cl fp).pg) (fun s H C cl fp => hf s H C cl fp) (fun s H C cl fp => he s H C cl fp) hs).run pins s σ H Q I (comp_end (ht s H 0 [] []).inn h)⟩
/-- name = [elt for tg in iter if ..], the name a local -/
theorem ss_setComp (i : Nat) {y : Str} {py pos spos : Pos} (own : List (Str × Nat)) (hc : X.calm = true) (hN : X.N.Nodup) (hsi : SI X xc W tg iter src) (ok : blkC X.N X.env.scope scope own = true) (ht : ∀ (s : Shared) (H : Hp) (C : Addr) (cl : List (Str × Addr)) (fp : List Addr), SGc (X.blk s H scope (compEnvC scope cl C X.env) fp) xc (own.map (·.2)) tg t)
    (hf : ∀ (s : Shared) (H : Hp) (C : Addr) (cl : List (Str × Addr)) (fp : List Addr), STs (X.blk s H scope (compEnvC scope cl C X.env) fp) xc FF ifs c) (he : ∀ (s : Shared) (H : Hp) (C : Addr) (cl : List (Str × Addr)) (fp : List Addr), SE (X.blk s H scope (compEnvC scope cl C X.env) fp) xc FF elt a)
    (hsw : swapsWith (.ListComp elt [⟨tg, iter, ifs, 0⟩] scope pos) (some (.Name y py)) spos.line X.env = pure true) (hy : X.N[i]? = some y := by rfl) (hyl : X.env.scope.names.lookup y = some .local := by rfl) (hs : ∀ x, foldedSetIterable iter X.env x = pure x := by intro _; rfl) :
    SS X xc W (.Assign [.Name y py] (.ListComp elt [⟨tg, iter, ifs, 0⟩] scope pos) spos) (sSet i (eComp src (own.map (·.2)) t c a)) := by
  refine ⟨fun pins s σ H D I h => (ps_setLc (wi := rdI (gX X) xc W src) (g := rdGc (gX X) xc (own.map (·.2)) t) (tt := rdT (gX X) xc FF c) (te := rd (gX X) xc FF a) hc hN hy hyl hsw hsi (blkOk_by ok) (fun s H C cl fp => (ht s H C cl fp).pg) (fun s H C cl fp => hf s H C cl fp) (fun s H C cl fp => he s H C cl fp) hs).run pins s σ H D I ?_⟩
  refine comp_end (ht s H 0 [] []).inn ?_
  obtain ⟨pa, Zs, env, re, h⟩ := h
  refine ⟨pa, Zs, env, re, h.cont fun r e1 u Z1 H1 _ p1 q1 h => ?_⟩
  cases hz : sto e1 i r with
  | no => rw [hz] at h; exact h.elim
  | ex c fs e => exact absurd hz sto_ex
  | ok _ e2 =>
    rw [hz, Rs.bind_ok] at h
    obtain ⟨Z2, P2, _⟩ := sto_ok p1.toPost q1 hz
    exact h _ Z2 H1 P2
end
end Z
/-! ZG: defs by name: what stands behind the top, calls of them, the end. -/
namespace Z
open PySem L2 PySem.Spec
/-- a def of the text, by name -/
structure Dk (K : PySem.W.Frag) (mg : Str → Option Value) (x : Str) (st : Stmt) (ps : List Str) : Prop where
  ex : ∃ (f : Addr) (fd : FuncData), Fun K x x st f fd ∧ mg x = some (.ref f) ∧ Binds K fd ps []
/-- a def that keeps its promise, by name -/
structure Cl (P : Program) (w : World) (K : PySem.W.Frag) (mg : Str → Option Value) (base : Heap) (k : Nat) (x : Str) (st : Stmt) (ps : List Str) (m : Fn) : Prop where
  ex : ∃ (f : Addr) (fd : FuncData), Fun K x x st f fd ∧ mg x = some (.ref f) ∧ Binds K fd ps [] ∧ FnOk P w K mg base (CXP P w) k f fd ps (spM ⟨K, mg⟩ m)
/-- a def by its body -/
theorem cl_body {P : Program} {w : World} {K : PySem.W.Frag} {mg : Str → Option Value} {base : Heap} {x : Str} {st : Stmt} {N ps : List Str} {k np ns : Nat} {b : S} (D : Dk K mg x st ps) (S : FnScope N ps (defScope st))
    (hbody : ∀ (f : Addr) (cdv : Value) (A : Around) (outer : List PySem.Env) (s : Shared) (H : Hp) (E : XK), Room k (A.deeper (PyProof.Rows.envOfC x (defScope st) s.heap.objs.size f cdv)) →
      SB (cxOf (L2.CX P w) P w K mg base N x (defScope st) f cdv A outer s H E) none (fun cls d _ H' => E cls d H') (defBody st) b)
    (hN : N.length = ns := by rfl) (hp : ps.length = np := by rfl) (hn : np ≤ ns := by decide) : Cl P w K mg base (k + 1) x st ps (mkF np ns b) := by
  obtain ⟨f, fd, F, hm, hb⟩ := D.ex
  exact ⟨f, fd, F, hm, hb, fn_body F S hN hp hn fun cdv A outer s H E hr => hbody f cdv A outer s H E hr⟩
def noF : Fn := fun _ => .no
theorem cl_no {P : Program} {w : World} {K : PySem.W.Frag} {mg : Str → Option Value} {base : Heap} {x : Str} {st : Stmt} {ps : List Str} {k : Nat} (D : Dk K mg x st ps) : Cl P w K mg base k x st ps noF := by
  obtain ⟨f, fd, F, hm, hb⟩ := D.ex
  refine ⟨f, fd, F, hm, hb, ⟨fun vs H Q E h => ?_, fun A outer s H args us vs Q E _ _ _ _ h => ?_⟩⟩
  · obtain ⟨Zs, as, ra, inj, zd, h⟩ := h
    exact h.elim
  · obtain ⟨Zs, as, ra, inj, zd, h⟩ := h
    exact h.elim
section
variable {X : Cx} {xc : Xc} {W : WX} {pos : Pos}
/-- f(e, ..) -/
theorem se_callC {k : Nat} {x : Str} {st : Stmt} {ps : List Str} {m : Fn} {p : Pos} {e : Expr} {es : List Expr} {fa : As} (C : Cl X.prog X.w X.K X.mg X.base k x st ps m) (hr : Room k X.A) (tk : Takes X W)
    (ha : SA X xc W (e :: es) fa) (hg : Gl X x := by rfl) (hdb : (x == ("__debug__" : Str)) = false := by decide) (he : starEach (e :: es) X.env = (false, eval e X.env) :: starEach es X.env := by rfl) (hpl : (backTo pos (starEach es X.env)).any (·.1) = false := by rfl) :
    SE X xc W (.Call (.Name x p) (e :: es) [] pos) (eCall m fa) := by
  obtain ⟨f, fd, F, hm, hb, ok⟩ := C.ex
  exact se_call ok hr tk hm F.kp hb ha hg hdb he hpl
/-- f() -/
theorem se_callC0 {k : Nat} {x : Str} {st : Stmt} {m : Fn} {p : Pos} (C : Cl X.prog X.w X.K X.mg X.base k x st [] m) (hr : Room k X.A) (tk : Takes X W) (hg : Gl X x := by rfl) (hdb : (x == ("__debug__" : Str)) = false := by decide) :
    SE X xc W (.Call (.Name x p) [] [] pos) (eCall m asNil) := by
  obtain ⟨f, fd, F, hm, hb, ok⟩ := C.ex
  exact se_call0 ok hr tk hm F.kp hb hg hdb
/-- how the parameters are bound, by the def's text -/
def PB (x : Str) (st : Stmt) (ps ks : List Str) (n : Nat) (perm : List Nat) : Prop :=
  ∀ (kV doc pm : Value) (an : Option Addr) (cdv ct : Value) (us ws : List Value), us.length = n → ws.length = ks.length →
    bindArgs (PySem.W.fnOf x x (defArgs st) (defBody st) (defScope st) .none kV doc pm an cdv ct) ⟨us, ks.zip ws⟩ = pure (ps.zip (perm.map fun i => (us ++ ws).getD i .none))
theorem PB.of {K : PySem.W.Frag} {x : Str} {st : Stmt} {f : Addr} {fd : FuncData} {ps ks : List Str} {n : Nat} {perm : List Nat} (F : Fun K x x st f fd) (h : PB x st ps ks n perm) : PBinds K fd ps ks n perm := by
  obtain ⟨oc, od, kV, doc, pm, an, cdv, ct, osl, rfl, lk, hcd⟩ := F.ex
  exact fun s us ws _ h1 h2 => .of_eq (h kV doc pm an cdv ct us ws h1 h2)
/-- f(e, .., k = v, ..) -/
theorem se_callCK {k : Nat} {x : Str} {st : Stmt} {ps ks : List Str} {n : Nat} {perm : List Nat} {m : Fn} {p : Pos} {e : Expr} {es : List Expr} {kws : List Keyword} {fa : As} (C : Cl X.prog X.w X.K X.mg X.base k x st ps m) (hr : Room k X.A) (tk : Takes X W)
    (hb : PB x st ps ks n perm) (ha : SAK X xc W (e :: es) kws fa) (hn : (e :: es).length = n := by rfl) (hkl : kws.length = ks.length := by rfl) (hpn : perm.Nodup := by decide) (hpl : ∀ i ∈ perm, i < n + ks.length := by decide) (hpp : perm.length = ps.length := by rfl)
    (hg : Gl X x := by rfl) (hdb : (x == ("__debug__" : Str)) = false := by decide) (hall : (backToKw pos (keywordEach kws X.env)).all (·.1.isSome) = true := by rfl) (hks : (backToKw pos (keywordEach kws X.env)).filterMap (·.1) = ks := by rfl)
    (he : starEach (e :: es) X.env = (false, eval e X.env) :: starEach es X.env := by rfl) (hst : ((backTo pos (starEach (e :: es) X.env)).any (·.1) || (backToKw pos (keywordEach kws X.env)).any (·.1.isNone)) = false := by rfl) :
    SE X xc W (.Call (.Name x p) (e :: es) kws pos) (eCallK m perm fa) := by
  obtain ⟨f, fd, F, hm, _, ok⟩ := C.ex
  exact se_callK ok hr tk hm F.kp (hb.of F) ha hn hkl hpn hpl hpp hg hdb (cw_some F.kp hall hks he hst)
/-- f(k = v, ..) -/
theorem se_callCK0 {k : Nat} {x : Str} {st : Stmt} {ps ks : List Str} {perm : List Nat} {m : Fn} {p : Pos} {kws : List Keyword} {fa : As} (C : Cl X.prog X.w X.K X.mg X.base k x st ps m) (hr : Room k X.A) (tk : Takes X W)
    (hb : PB x st ps ks 0 perm) (ha : SK X xc W kws fa) (hkl : kws.length = ks.length := by rfl) (hpn : perm.Nodup := by decide) (hpl : ∀ i ∈ perm, i < ks.length := by decide)
    (hg : Gl X x := by rfl) (hdb : (x == ("__debug__" : Str)) = false := by decide) (hall : (backToKw pos (keywordEach kws X.env)).all (·.1.isSome) = true := by rfl) (hks : (backToKw pos (keywordEach kws X.env)).filterMap (·.1) = ks := by rfl)
    (hpa : ((backTo pos (starEach [] X.env)).any (·.1) || (backToKw pos (keywordEach kws X.env)).any (·.1.isNone)) = false := by rfl) :
    SE X xc W (.Call (.Name x p) [] kws pos) (eCallK m perm fa) := by
  obtain ⟨f, fd, F, hm, _, ok⟩ := C.ex
  exact se_callK0 ok hr tk hm F.kp (hb.of F) ha hkl hpn hpl hg hdb hall hks hpa
/-- a number that the top has written -/
theorem se_glob {x : Str} {y : Val} {v : V} {u : Value} {p : Pos} (hm : X.mg x = some u) (r : RelV v u) (rv : ∀ g Zs H, RvV g Zs H y v) (hg : Gl X x := by rfl) (hd : (x == ("__debug__" : Str)) = false := by decide) : SE X xc W (.Name x p) (eC y) := se_c (pe_glob hg hm r hd) rv
theorem se_globI {x : Str} {i : Int} {p : Pos} (hm : ∃ t, X.mg x = some (.int i t)) (hg : Gl X x := by rfl) (hd : (x == ("__debug__" : Str)) = false := by decide) : SE X xc W (.Name x p) (eC (.int i)) := by
  obtain ⟨t, hm⟩ := hm
  exact se_glob (v := .int i) hm ⟨t, rfl⟩ (fun _ _ _ => .int i) hg hd
/-- a, b = x, y; two plain local names -/
theorem ss_par2' (i j : Nat) {x y : Str} {a b : Expr} {fa : As} {px py pt : Pos} {kt k2 pt2} (hc : X.calm = true) (hN : X.N.Nodup) (ha : SA X xc W [a, b] fa) (hw : swappedStores [.Tuple [.Name x px, .Name y py] kt pt] (.Tuple [a, b] k2 pt2) X.env = pure (some [x, y]) := by rfl)
    (hi : X.N[i]? = some x := by rfl) (hj : X.N[j]? = some y := by rfl) (hij : i ≠ j := by decide) (hx : X.env.scope.names.lookup x = some .local := by rfl) (hy : X.env.scope.names.lookup y = some .local := by rfl)
    (hs : swapsWithSole [.Tuple [.Name x px, .Name y py] kt pt] (.Tuple [a, b] k2 pt2) pos.line X.env = pure false := by rfl) :
    SS X xc W (.Assign [.Tuple [.Name x px, .Name y py] kt pt] (.Tuple [a, b] k2 pt2) pos) (sPar [i, j] fa) :=
  ss_par2 i j hc hN ha hi hj hij hx hy fun t h => ps_par hc hN hi hj hij hx hy h hw hs
end
theorem blk_ok {N : List Str} {sc scope : Scope} {own : List (Str × Nat)} (h : blkC N sc scope own = true) : blkC N sc scope own = true := h
/-! ### which errors a clause takes -/
theorem exm_pair {K : PySem.W.Frag} {C S : Addr} {b : Bool} (h1 : PySem.W.subIn K (.ref S) (.type "BaseException") = some true) (h2 : PySem.W.isClsIn K S = true) (h3 : PySem.W.typeIn K (.ref S) = some (.type "type")) (h4 : PySem.W.subIn K (.ref C) (.ref S) = some b) : PySem.W.exmOne K (.ref C) (.ref S) = some b := by
  have e1 : (PySem.W.subIn K (.ref S) (.type "BaseException") == some true) = true := by rw [h1] <;> rfl
  have e2 : ((PySem.W.clsIn K S).isSome && PySem.W.typeIn K (.ref S) == some (.type "type")) = true := by
    have h2' : (PySem.W.clsIn K S).isSome = true := h2
    rw [h2', h3] <;> rfl
  show (if (PySem.W.subIn K (.ref S) (.type "BaseException") == some true) = true then (if ((PySem.W.clsIn K S).isSome && PySem.W.typeIn K (.ref S) == some (.type "type")) = true then PySem.W.subIn K (.ref C) (.ref S) else none) else none) = some b
  rw [if_pos e1, if_pos e2]
  exact h4
def SibR (K : PySem.W.Frag) (mg : Str → Option Value) (c : Str) (C : Addr) (ns : List Str) : Prop := ∀ n ∈ ns, ∃ N, mg n = some (.ref N) ∧ PySem.W.exmOne K (.ref C) (.ref N) = some (c == n)
def SibL (K : PySem.W.Frag) (mg : Str → Option Value) (ns cs : List Str) : Prop := ∀ c ∈ cs, ∃ C, mg c = some (.ref C) ∧ SibR K mg c C ns
/-- classes beside each other -/
abbrev Sib (K : PySem.W.Frag) (mg : Str → Option Value) (ns : List Str) : Prop := SibL K mg ns ns
theorem sibr_nil {K : PySem.W.Frag} {mg : Str → Option Value} {c : Str} {C : Addr} : SibR K mg c C [] := fun n h => by cases h
theorem sibr_cons {K : PySem.W.Frag} {mg : Str → Option Value} {c n : Str} {C N : Addr} {b : Bool} {ns : List Str} (h : mg n = some (.ref N)) (e : PySem.W.exmOne K (.ref C) (.ref N) = some b) (hb : (c == n) = b) (r : SibR K mg c C ns) : SibR K mg c C (n :: ns) := fun m hm => by
  rcases List.mem_cons.mp hm with rfl | hm
  · exact ⟨N, h, by rw [hb]; exact e⟩
  · exact r m hm
theorem sib_nil {K : PySem.W.Frag} {mg : Str → Option Value} {ns : List Str} : SibL K mg ns [] := fun n h => by cases h
theorem sib_cons {K : PySem.W.Frag} {mg : Str → Option Value} {c : Str} {C : Addr} {ns cs : List Str} (h : mg c = some (.ref C)) (e : SibR K mg c C ns) (r : SibL K mg ns cs) : SibL K mg ns (c :: cs) := fun m hm => by
  rcases List.mem_cons.mp hm with rfl | hm
  · exact ⟨C, h, e⟩
  · exact r m hm
def subOf (ns : List Str) : Str → Str → Option Bool := fun c n => if ns.contains c then some (c == n) else none
theorem hsub_of {K : PySem.W.Frag} {mg : Str → Option Value} {ns : List Str} {x : Str} {C : Addr} (S : Sib K mg ns) (hm : mg x = some (.ref C)) (hx : ns.contains x = true := by decide) : ∀ c C', mg c = some (.ref C') → ∀ b, subOf ns c x = some b → PySem.W.exmOne K (.ref C') (.ref C) = some b := by
  intro c C' hc b hb
  unfold subOf at hb
  split at hb
  · rename_i hcn
    obtain ⟨D, hD, r⟩ := S c (List.contains_iff_mem.mp hcn)
    obtain ⟨N, hN, e⟩ := r x (List.contains_iff_mem.mp hx)
    rw [hc] at hD
    rw [hm] at hN
    cases hD
    cases hN
    cases hb
    exact e
  · cases hb
/-- the law's own def: from the head to the functional reading -/
theorem law_end {g : Gm} {H : Hp} {a : Addr} {ns : List Int} {m : Fn} {ps : Env} (ho : Only H) (hs : SqL g.K H a (ns.map V.int)) (hm : m [.v (.scr ns)] = .ok (.v (.bl true)) ps) : spM g m [.ref a] H (fun v _ => v = .bl true) fun _ _ _ => False := by
  have hf : SqF g.K H a (ns.map V.int) := by
    rcases hs with (h | ⟨o, h⟩) | h
    · rcases ho a with z | ⟨o, xs, z⟩
      · rw [z] at h; cases h
      · rw [z] at h; cases h
    · exact .inl ⟨o, h⟩
    · exact .inr h
  refine ⟨fun _ => False, [.v (.scr ns)], .v (.scr hf) .nil, fun i j x y b h1 _ _ _ => ?_, fun _ z => z.elim, ?_⟩
  · cases i with
    | zero => cases h1
    | succ i => simp at h1
  · rw [hm]
    intro u Z1 H1 _ _ hr
    cases hr
    rfl
theorem Fun.uniq {K : PySem.W.Frag} {x : Str} {st : Stmt} {f : Addr} {fd fd' : FuncData} (F : Fun K x x st f fd) (F' : Fun K x x st f fd') : fd = fd' := by
  obtain ⟨oc, od, kV, doc, pm, an, cdv, ct, osl, _, lk, _⟩ := F.ex
  obtain ⟨oc', od', kV', doc', pm', an', cdv', ct', osl', _, lk', _⟩ := F'.ex
  rw [lk] at lk'
  cases lk'
  rfl
/-- the law's def, as the head asks it -/
theorem head_fn {P : Program} {w : World} {K : PySem.W.Frag} {mg : Str → Option Value} {k : Nat} {x : Str} {st : Stmt} {m : Fn} {fa : Addr} (hfa : mg x = some (.ref fa)) (D : Dk K mg x st ["script"]) (C : ∀ base : Heap, Cl P w K mg base k x st ["script"] m)
    (hb : ∀ (kV dc pm : Value) (an : Option Addr) (cd ct : Value) (s : Shared) (u : Value), BindsTo s (PySem.W.fnOf x x (defArgs st) (defBody st) (defScope st) .none kV dc pm an cd ct) ⟨[u], []⟩ [("script", u)]) :
    ∃ fd : FuncData, (∀ (s : Shared) (u : Value), BindsTo s fd ⟨[u], []⟩ [("script", u)]) ∧ ∀ base : Heap, K.In base → base.Ns mainGlobals mg → FnOk P w K mg base (CXP P w) k fa fd ["script"] (fun us H Q E => ∀ mg, spM ⟨K, mg⟩ m us H Q E) := by
  obtain ⟨f, fd, F, hm, _⟩ := D.ex
  rw [hfa] at hm
  cases hm
  refine ⟨fd, ?_, fun base _ _ => ?_⟩
  · obtain ⟨oc, od, kV, doc, pm, an, cdv, ct, osl, rfl, _, _⟩ := F.ex
    exact hb kV doc pm an cdv ct
  · obtain ⟨f', fd', F', hm', _, ok⟩ := (C base).ex
    rw [hfa] at hm'
    cases hm'
    cases Fun.uniq F F'
    exact ok.imp fun vs H Q E h => h mg
/-- THE END: a law that holds by its reading -/
theorem law_walk {l : PySem.W.OpenLaw} {q : Program} {loose : List Str} {XP : (Str → Option Value) → Heap → Prop} {YP : World → Heap → Prop} {d : DefRec} {K : Params → PySem.W.Frag} {k : Nat} {m : Fn} (hpr : ∀ ns : List Int, ns.length ≤ 63 → ∃ ps, m [.v (.scr ns)] = .ok (.v (.bl true)) ps) (hn : l.most = some 63) (hdf : d.params.defaults = [])
    (hr : Room k callerA) (hY : ∀ (w : World) (h : Heap), YP w h → (K w.params).In h)
    (F : ∀ (w : World) (mg : Str → Option Value) (fa : Addr) (h : Heap), (K w.params).In h → h.Ns mainGlobals mg → mg d.name = some (.ref fa) → ∃ fd : FuncData, (∀ (s : Shared) (u : Value), BindsTo s fd ⟨[u], []⟩ [("script", u)]) ∧
      ∀ base : Heap, (K w.params).In base → base.Ns mainGlobals mg → FnOk l.prog w (K w.params) mg base (CXP l.prog w) k fa fd ["script"] (fun us H Q E => ∀ mg, spM ⟨K w.params, mg⟩ m us H Q E)) :
    PySem.W.WalkO q loose XP YP l.row.toRowW d [] (fun f vs => PySem.call f vs) :=
  L2.walk_of (n := 63) (k := k) (x := "script") (CX := fun w => CXP l.prog w) (sp := fun w us H Q E => ∀ mg : Str → Option Value, spM ⟨K w.params, mg⟩ m us H Q E) hn (by decide) hdf hr hY F
    (fun w H a ns hl ho hs mg => by
      obtain ⟨ps, e⟩ := hpr ns hl
      exact law_end ho hs e)
    fun w H s e s' h => by
      obtain ⟨_, _, _, _, _, _, _, _, _, _, _, _, z⟩ := h
      exact z.elim
end Z
/-! ZH: reckoning with the readings: rows for simp. -/
namespace Z
open PySem (Str)
/-- a call's end, the parameters' places forgotten -/
inductive Out where
  | ok (r : RV)
  | ex (c : Str) (fs : List (Str × Val))
  | no
def FR.out : FR → Out
  | .ok r _ => .ok r
  | .ex c fs _ => .ex c fs
  | .no => .no
def Out.at : Out → Env → Rs RV
  | .ok r, e => .ok r e
  | .ex c fs, e => .ex c fs e
  | .no, _ => .no
@[simp] theorem out_ok (r : RV) (e : Env) : (FR.ok r e).out = .ok r := rfl
@[simp] theorem out_ex (c : Str) (fs : List (Str × Val)) (e : Env) : (FR.ex c fs e).out = .ex c fs := rfl
@[simp] theorem at_ok (r : RV) (e : Env) : (Out.ok r).at e = .ok r e := rfl
@[simp] theorem at_ex (c : Str) (fs : List (Str × Val)) (e : Env) : (Out.ex c fs).at e = .ex c fs e := rfl
@[simp] theorem at_no (e : Env) : Out.no.at e = .no := rfl
def rvAV : RV → Option AV
  | .v x => some (.v x)
  | .own x => some (.own x)
  | .bor _ => none
/-- nothing of one's own is handed over -/
theorem callR_out (m : Fn) (e : Env) : ∀ {rs : List RV} {as : List AV}, rs.mapM rvAV = some as → callR m rs e = (m as).out.at e := by
  have key : ∀ {rs : List RV} {as : List AV}, rs.mapM rvAV = some as → lent e rs = [] ∧ hands e rs = some as ∧ ∀ ps, backs e rs ps = e := by
    intro rs
    induction rs with
    | nil => intro as h; cases h; exact ⟨rfl, rfl, fun ps => by cases ps <;> rfl⟩
    | cons r rs ih =>
      intro as h
      rw [List.mapM_cons] at h
      cases r with
      | bor i => cases h
      | v x =>
        cases hr : rs.mapM rvAV with
        | none => rw [hr] at h; cases h
        | some bs =>
          rw [hr] at h
          cases h
          obtain ⟨h1, h2, h3⟩ := ih hr
          exact ⟨h1, by rw [hands_cons, h2]; rfl, fun ps => by cases ps with
            | nil => rfl
            | cons p ps => exact h3 ps⟩
      | own x =>
        cases hr : rs.mapM rvAV with
        | none => rw [hr] at h; cases h
        | some bs =>
          rw [hr] at h
          cases h
          obtain ⟨h1, h2, h3⟩ := ih hr
          exact ⟨h1, by rw [hands_cons, h2]; rfl, fun ps => by cases ps with
            | nil => rfl
            | cons p ps => exact h3 ps⟩
  intro rs as h
  obtain ⟨h1, h2, h3⟩ := key h
  unfold callR
  rw [h1, h2]
  show (match m as with | .ok r ps => Rs.ok r (backs e rs ps) | .ex c fs ps => .ex c fs (backs e rs ps) | .no => .no) = _
  cases m as with
  | ok r ps => show Rs.ok r (backs e rs ps) = _; rw [h3]; rfl
  | ex c fs ps => show Rs.ex c fs (backs e rs ps) = _; rw [h3]; rfl
  | no => rfl
section
variable (m : Fn) (e : Env) (a b c d f g : Val)
@[simp] theorem callR_0 : callR m [] e = (m []).out.at e := callR_out m e rfl
@[simp] theorem callR_1 : callR m [.v a] e = (m [.v a]).out.at e := callR_out m e rfl
@[simp] theorem callR_2 : callR m [.v a, .v b] e = (m [.v a, .v b]).out.at e := callR_out m e rfl
@[simp] theorem callR_3 : callR m [.v a, .v b, .v c] e = (m [.v a, .v b, .v c]).out.at e := callR_out m e rfl
@[simp] theorem callR_4 : callR m [.v a, .v b, .v c, .v d] e = (m [.v a, .v b, .v c, .v d]).out.at e := callR_out m e rfl
@[simp] theorem callR_5 : callR m [.v a, .v b, .v c, .v d, .v f] e = (m [.v a, .v b, .v c, .v d, .v f]).out.at e := callR_out m e rfl
@[simp] theorem callR_6 : callR m [.v a, .v b, .v c, .v d, .v f, .v g] e = (m [.v a, .v b, .v c, .v d, .v f, .v g]).out.at e := callR_out m e rfl
@[simp] theorem callR_o : callR m [.own a] e = (m [.own a]).out.at e := callR_out m e rfl
@[simp] theorem callR_oo : callR m [.own a, .own b] e = (m [.own a, .own b]).out.at e := callR_out m e rfl
@[simp] theorem callR_ov : callR m [.own a, .v b] e = (m [.own a, .v b]).out.at e := callR_out m e rfl
@[simp] theorem callR_vo : callR m [.v a, .own b] e = (m [.v a, .own b]).out.at e := callR_out m e rfl
end
/-- a list of one's own is handed over, first -/
theorem callR_b1 {m : Fn} {e : Env} {i : Nat} {p : Bool} {x : Val} {rs : List RV} {as : List AV} (he : eget e i = .own p x) (hr : rs.mapM rvAV = some as) : callR m (.bor i :: rs) e = match m (.own x :: as) with
    | .ok r (s :: ps) => .ok r (eput e i (back (.own p x) s))
    | .ok r [] => .ok r e
    | .ex c fs (s :: ps) => .ex c fs (eput e i (back (.own p x) s))
    | .ex c fs [] => .ex c fs e
    | .no => .no := by
  have key : ∀ (e : Env) {rs : List RV} {as : List AV}, rs.mapM rvAV = some as → lent e rs = [] ∧ hands e rs = some as ∧ ∀ ps, backs e rs ps = e := by
    intro e rs
    induction rs with
    | nil => intro as h; cases h; exact ⟨rfl, rfl, fun ps => by cases ps <;> rfl⟩
    | cons r rs ih =>
      intro as h
      rw [List.mapM_cons] at h
      cases r with
      | bor i => cases h
      | v x =>
        cases hr : rs.mapM rvAV with
        | none => rw [hr] at h; cases h
        | some bs =>
          rw [hr] at h
          cases h
          obtain ⟨h1, h2, h3⟩ := ih hr
          exact ⟨h1, by rw [hands_cons, h2]; rfl, fun ps => by cases ps with
            | nil => rfl
            | cons p ps => exact h3 ps⟩
      | own x =>
        cases hr : rs.mapM rvAV with
        | none => rw [hr] at h; cases h
        | some bs =>
          rw [hr] at h
          cases h
          obtain ⟨h1, h2, h3⟩ := ih hr
          exact ⟨h1, by rw [hands_cons, h2]; rfl, fun ps => by cases ps with
            | nil => rfl
            | cons p ps => exact h3 ps⟩
  obtain ⟨h1, h2, _⟩ := key e hr
  unfold callR
  rw [lent_bor, he, h1, hands_cons, hand_bor, he, h2]
  show (match m (.own x :: as) with | .ok r ps => Rs.ok r (backs e (.bor i :: rs) ps) | .ex c fs ps => .ex c fs (backs e (.bor i :: rs) ps) | .no => .no) = _
  cases m (.own x :: as) with
  | ok r ps => cases ps with
    | nil => rfl
    | cons s ps => show Rs.ok r _ = _; rw [backs_bor, (key _ hr).2.2, he]
  | ex c fs ps => cases ps with
    | nil => rfl
    | cons s ps => show Rs.ex c fs _ = _; rw [backs_bor, (key _ hr).2.2, he]
  | no => rfl

/-! ### rows -/
@[simp] theorem eV_ap (i : Nat) (e : Env) : eV i e = match eget e i with | .v x => .ok (.v x) e | .own _ _ => .ok (.bor i) e | .pf _ => .ok (.bor i) e | _ => .no := rfl
@[simp] theorem eC_ap (x : Val) (e : Env) : eC x e = .ok (.v x) e := rfl
@[simp] theorem eOp_ap (f : Val → Val → Option RV) (a b : E) (e : Env) : eOp f a b e = (a e).bind fun r e1 => (b e1).bind fun s e2 => (opt (peek e2 r) e2).bind fun x _ => (opt (peek e2 s) e2).bind fun y _ => opt (f x y) e2 := rfl
@[simp] theorem eUn_ap (f : Val → Option RV) (a : E) (e : Env) : eUn f a e = (a e).bind fun r e1 => (opt (peek e1 r) e1).bind fun x _ => opt (f x) e1 := rfl
@[simp] theorem eIf_ap (t : T) (a b : E) (e : Env) : eIf t a b e = (t e).bind fun k e1 => if k then a e1 else b e1 := rfl
@[simp] theorem asNil_ap (e : Env) : asNil e = .ok [] e := rfl
@[simp] theorem asCons_ap (a : E) (r : As) (e : Env) : asCons a r e = (a e).bind fun x e1 => (r e1).bind fun xs e2 => .ok (x :: xs) e2 := rfl
@[simp] theorem eTup_ap (a : As) (e : Env) : eTup a e = (a e).bind fun rs e1 => (escs e1 rs).bind fun xs e2 => if xs.length ≤ sizeMax then .ok (.v (.tup xs)) e2 else .no := rfl
@[simp] theorem eLst_ap (a : As) (e : Env) : eLst a e = (a e).bind fun rs e1 => (escs e1 rs).bind fun xs e2 => if xs.length ≤ sizeMax then .ok (.own (.lst xs)) e2 else .no := rfl
@[simp] theorem eB_ap (f : List Val → Option RV) (a : As) (e : Env) : eB f a e = (a e).bind fun rs e1 => (opt (peeks e1 rs) e1).bind fun xs _ => opt (f xs) e1 := rfl
@[simp] theorem eCall_ap (m : Fn) (a : As) (e : Env) : eCall m a e = (a e).bind fun rs e1 => callR m rs e1 := rfl
@[simp] theorem eCallK_ap (m : Fn) (p : List Nat) (a : As) (e : Env) : eCallK m p a e = (a e).bind fun rs e1 => callR m (p.map fun i => rs.getD i (.v .non)) e1 := rfl
@[simp] theorem eAnd_ap (a b : E) (e : Env) : eAnd a b e = (a e).bind fun r e1 => match r with | .v (.bl true) => b e1 | .v (.bl false) => .ok (.v (.bl false)) e1 | _ => .no := rfl
@[simp] theorem eOr_ap (a b : E) (e : Env) : eOr a b e = (a e).bind fun r e1 => match r with | .v (.bl true) => .ok (.v (.bl true)) e1 | .v (.bl false) => b e1 | _ => .no := rfl
@[simp] theorem eNot_ap (a : E) (e : Env) : eNot a e = (a e).bind fun r e1 => match r with | .v (.bl k) => .ok (.v (.bl (!k))) e1 | _ => .no := rfl
@[simp] theorem eChain_ap (f g : Val → Val → Option RV) (a b c : E) (e : Env) : eChain f g a b c e = (a e).bind fun r e1 => (b e1).bind fun s e2 => (opt (peek e2 r) e2).bind fun x _ => (opt (peek e2 s) e2).bind fun y _ => (opt (f x y) e2).bind fun z _ =>
    match z with
    | .v (.bl true) => (c e2).bind fun t e3 => (opt (peek e3 s) e3).bind fun y _ => (opt (peek e3 t) e3).bind fun w _ => opt (g y w) e3
    | .v (.bl false) => .ok (.v (.bl false)) e2
    | _ => .no := rfl
@[simp] theorem eSl_ap (f : Val → Option Int → Option Int → Option RV) (a : E) (lo hi : Option E) (e : Env) : eSl f a lo hi e = (a e).bind fun r e1 => (oInt lo e1).bind fun l e2 => (oInt hi e2).bind fun u e3 => (opt (peek e3 r) e3).bind fun x _ => opt (f x l u) e3 := rfl
@[simp] theorem tE_ap (a : E) (e : Env) : tE a e = (a e).bind fun r e1 => (opt (peek e1 r) e1).bind fun x _ => opt (truth x) e1 := rfl
@[simp] theorem tAnd_ap (a b : T) (e : Env) : tAnd a b e = (a e).bind fun k e1 => if k then b e1 else .ok false e1 := rfl
@[simp] theorem tOr_ap (a b : T) (e : Env) : tOr a b e = (a e).bind fun k e1 => if k then .ok true e1 else b e1 := rfl
@[simp] theorem tNot_ap (a : T) (e : Env) : tNot a e = (a e).bind fun k e1 => .ok (!k) e1 := rfl
@[simp] theorem tYes_ap (e : Env) : tYes e = .ok true e := rfl
@[simp] theorem sNil_ap (e : Env) : sNil e = .ok .nx e := rfl
@[simp] theorem sPass_ap (e : Env) : sPass e = .ok .nx e := rfl
@[simp] theorem sBrk_ap (e : Env) : sBrk e = .ok .bk e := rfl
@[simp] theorem sCon_ap (e : Env) : sCon e = .ok .ct e := rfl
@[simp] theorem sSeq_ap (a b : S) (e : Env) : sSeq a b e = (a e).bind fun f e1 => match f with | .nx => b e1 | f => .ok f e1 := rfl
@[simp] theorem sSet_ap (i : Nat) (a : E) (e : Env) : sSet i a e = (a e).bind fun r e1 => (sto e1 i r).bind fun _ e2 => .ok .nx e2 := rfl
@[simp] theorem sExp_ap (a : E) (e : Env) : sExp a e = (a e).bind fun _ e1 => .ok .nx e1 := rfl
@[simp] theorem sRet_ap (a : E) (e : Env) : sRet a e = (a e).bind fun r e1 => .ok (.rt r) e1 := rfl
@[simp] theorem sRetN_ap (e : Env) : sRetN e = .ok (.rt (.v .non)) e := rfl
@[simp] theorem sIf_ap (t : T) (a b : S) (e : Env) : sIf t a b e = (t e).bind fun k e1 => if k then a e1 else b e1 := rfl
@[simp] theorem sPar_ap (is : List Nat) (a : As) (e : Env) : sPar is a e = (a e).bind fun rs e1 => (settles e1 rs).bind fun rs' e2 => (stos e2 is rs').bind fun _ e3 => .ok .nx e3 := rfl
@[simp] theorem sFor_ap (s : Src) (t : Tg) (b : S) (e : Env) : sFor s t b e = (s e).bind fun xs e1 => forL t b xs e1 := rfl
@[simp] theorem sUnp_ap (t : Tg) (a : E) (e : Env) : sUnp t a e = (a e).bind fun r e1 => match r with | .v x => (match t x e1 with | some e2 => .ok .nx e2 | none => .no) | _ => .no := by
  rfl
@[simp] theorem sSetIx_ap (j : Nat) (ix a : E) (e : Env) : sSetIx j ix a e = (a e).bind fun r e1 => if isOwnL (eget e1 j) then (ix e1).bind fun q e2 => (esc e2 r).bind fun x e3 => match eget e3 j, q with
  | .own p (.lst xs), .v (.int i) => match setAt xs i x with
    | some ys => .ok .nx (eput e3 j (.own p (.lst ys)))
    | none => .no
  | _, _ => .no
  else .no := rfl
@[simp] theorem sRaise_ap (cn fld : Str) (a : E) (e : Env) : sRaise cn fld a e = (a e).bind fun r e1 => (esc e1 r).bind fun x e2 => .ex cn [(fld, x)] e2 := rfl
@[simp] theorem iSeq_ap (a : E) (e : Env) : iSeq a e = (a e).bind fun r e1 => (esc e1 r).bind fun x e2 => match x with | .lst xs => .ok xs e2 | .tup xs => .ok xs e2 | _ => .no := rfl
def pok : Slot → Bool
  | .own true _ => false
  | .pf _ => false
  | .exn _ _ => false
  | _ => true
@[simp] theorem pok_emp : pok .emp = true := rfl
@[simp] theorem pok_v (x : Val) : pok (.v x) = true := rfl
@[simp] theorem pok_own (x : Val) : pok (.own false x) = true := rfl
@[simp] theorem put_ap (e : Env) (i : Nat) (s : Slot) : put e i s = if i < e.length ∧ pok (eget e i) = true then .ok () (eput e i s) else .no := by
  unfold put
  by_cases h : i < e.length
  · rw [if_pos h]
    cases hs : eget e i with
    | emp => rw [if_pos ⟨h, rfl⟩]
    | v x => rw [if_pos ⟨h, rfl⟩]
    | own p x =>
      cases p
      · rw [if_pos ⟨h, rfl⟩]
      · rw [if_neg (fun z => by cases z.2)]
    | pf x => rw [if_neg (fun z => by cases z.2)]
    | exn c fs => rw [if_neg (fun z => by cases z.2)]
  · rw [if_neg h, if_neg fun z => h z.1]
@[simp] theorem sto_v (e : Env) (i : Nat) (x : Val) : sto e i (.v x) = put e i (.v x) := rfl
@[simp] theorem sto_own (e : Env) (i : Nat) (x : Val) : sto e i (.own x) = put e i (.own false x) := rfl
@[simp] theorem sto_bor (e : Env) (i j : Nat) : sto e i (.bor j) = (esc e (.bor j)).bind fun x e1 => put e1 i (.v x) := rfl
@[simp] theorem fin_nx (np : Nat) (e : Env) : fin np (.ok .nx e) = .ok (.v .non) (e.take np) := rfl
@[simp] theorem fin_v (np : Nat) (x : Val) (e : Env) : fin np (.ok (.rt (.v x)) e) = .ok (.v x) (e.take np) := rfl
@[simp] theorem fin_own (np : Nat) (x : Val) (e : Env) : fin np (.ok (.rt (.own x)) e) = .ok (.own x) (e.take np) := rfl
@[simp] theorem fin_bor (np : Nat) (i : Nat) (e : Env) : fin np (.ok (.rt (.bor i)) e) = match eget e i with
    | .own false x => .ok (.own x) (e.take np)
    | .own true x => .ok (.v x) ((eput e i (.pf x)).take np)
    | .pf x => .ok (.v x) (e.take np)
    | .v x => .ok (.v x) (e.take np)
    | _ => .no := rfl
@[simp] theorem fin_ex (np : Nat) (c : Str) (fs : List (Str × Val)) (e : Env) : fin np (.ex c fs e) = .ex c fs (e.take np) := rfl
theorem mkF_ap {np ns : Nat} {b : S} {as : List AV} (h : as.length = np) : mkF np ns b as = fin np (b (as.map AV.slot ++ List.replicate (ns - np) .emp)) := by
  unfold mkF; rw [if_pos h]
@[simp] theorem mkF_0 (ns : Nat) (t : S) : mkF 0 ns t [] = fin 0 (t (List.replicate (ns - 0) .emp)) := rfl
@[simp] theorem mkF_1 (ns : Nat) (t : S) (a : AV) : mkF 1 ns t [a] = fin 1 (t (a.slot :: List.replicate (ns - 1) .emp)) := rfl
@[simp] theorem mkF_2 (ns : Nat) (t : S) (a b : AV) : mkF 2 ns t [a, b] = fin 2 (t (a.slot :: b.slot :: List.replicate (ns - 2) .emp)) := rfl
@[simp] theorem mkF_3 (ns : Nat) (t : S) (a b c : AV) : mkF 3 ns t [a, b, c] = fin 3 (t (a.slot :: b.slot :: c.slot :: List.replicate (ns - 3) .emp)) := rfl
@[simp] theorem mkF_4 (ns : Nat) (t : S) (a b c d : AV) : mkF 4 ns t [a, b, c, d] = fin 4 (t (a.slot :: b.slot :: c.slot :: d.slot :: List.replicate (ns - 4) .emp)) := rfl
@[simp] theorem mkF_5 (ns : Nat) (t : S) (a b c d f : AV) : mkF 5 ns t [a, b, c, d, f] = fin 5 (t (a.slot :: b.slot :: c.slot :: d.slot :: f.slot :: List.replicate (ns - 5) .emp)) := rfl
@[simp] theorem mkF_6 (ns : Nat) (t : S) (a b c d f g : AV) : mkF 6 ns t [a, b, c, d, f, g] = fin 6 (t (a.slot :: b.slot :: c.slot :: d.slot :: f.slot :: g.slot :: List.replicate (ns - 6) .emp)) := rfl
@[simp] theorem mkF_7 (ns : Nat) (t : S) (a b c d f g h : AV) : mkF 7 ns t [a, b, c, d, f, g, h] = fin 7 (t (a.slot :: b.slot :: c.slot :: d.slot :: f.slot :: g.slot :: h.slot :: List.replicate (ns - 7) .emp)) := rfl
theorem sizeMax_le {n : Nat} (h : n ≤ 16777216) : n ≤ sizeMax := h
@[simp] theorem sizeMax_val : sizeMax = 16777216 := rfl
/-! ### operators within bounds -/
theorem log2_le {i : Int} {n : Nat} (h : i.natAbs < 2 ^ (n + 1)) : i.natAbs.log2 ≤ n := by
  by_cases z : i.natAbs = 0
  · rw [z]; simp
  · have := (Nat.log2_lt z).mpr h
    omega
theorem fMul_ok {i j : Int} (h1 : -1000000000000000000000000000000 ≤ i) (h2 : i ≤ 1000000000000000000000000000000) (h3 : -1000000000000000000000000000000 ≤ j) (h4 : j ≤ 1000000000000000000000000000000) : fMul (.int i) (.int j) = some (.v (.int (i * j))) := by
  have a : i.natAbs.log2 ≤ 199 := log2_le (by omega)
  have b : j.natAbs.log2 ≤ 199 := log2_le (by omega)
  rw [fMul_int, if_pos (by omega)]
theorem fDiv_ok {i j : Int} (h1 : 0 < j) (h2 : j ≤ 1000000000000000000000000000000) : fDiv (.int i) (.int j) = some (.v (.int (i / j))) := by
  have b : j.natAbs.log2 ≤ 199 := log2_le (by omega)
  rw [fDiv_int, if_pos ⟨h1, by omega⟩]
theorem fMod_ok {i j : Int} (h1 : 0 < j) : fMod (.int i) (.int j) = some (.v (.int (i % j))) := by
  rw [fMod_int, if_pos h1]
theorem fPow_ok {i j : Int} (h1 : 0 ≤ j) (h2 : j ≤ 1000000) (h3 : -18446744073709551616 < i) (h4 : i < 18446744073709551616) : fPow (.int i) (.int j) = some (.v (.int (i ^ j.toNat))) := by
  rw [fPow_int, if_pos ⟨h1, h2, by omega⟩]
end Z
/-! ZI: loops of the readings, reckoned with. -/
namespace Z
open PySem (Str)
/-- a loop that runs through -/
theorem forL_run {t : Tg} {b : S} (I : Nat → Env → Prop) : ∀ {xs : List Val} {n : Nat} {e : Env}, I n e → (∀ i x e, xs[i]? = some x → I (n + i) e → ∃ e1 e2, t x e = some e1 ∧ (b e1 = .ok .nx e2 ∨ b e1 = .ok .ct e2) ∧ I (n + i + 1) e2) → ∃ e', forL t b xs e = .ok .nx e' ∧ I (n + xs.length) e'
  | [], n, e, h, _ => ⟨e, rfl, h⟩
  | x :: xs, n, e, h, hs => by
    obtain ⟨e1, e2, h1, h2, h3⟩ := hs 0 x e rfl h
    obtain ⟨e', h4, h5⟩ := forL_run (xs := xs) (n := n + 1) (e := e2) I h3 fun i y e hy hi => by
      have := hs (i + 1) y e (by simpa using hy) (by rw [show n + (i + 1) = n + 1 + i by omega]; exact hi)
      rwa [show n + (i + 1) + 1 = n + 1 + i + 1 by omega] at this
    refine ⟨e', ?_, by rw [List.length_cons, show n + (xs.length + 1) = n + 1 + xs.length by omega]; exact h5⟩
    unfold forL
    simp only [h1]
    rcases h2 with h2 | h2 <;> rw [h2] <;> exact h4
theorem for_run {t : Tg} {b : S} {xs : List Val} {e : Env} (I : Nat → Env → Prop) (h0 : I 0 e) (hs : ∀ i x e, xs[i]? = some x → I i e → ∃ e1 e2, t x e = some e1 ∧ (b e1 = .ok .nx e2 ∨ b e1 = .ok .ct e2) ∧ I (i + 1) e2) : ∃ e', forL t b xs e = .ok .nx e' ∧ I xs.length e' := by
  have := forL_run (n := 0) I h0 fun i x e h k => by
    have := hs i x e h (by simpa using k)
    simpa using this
  simpa using this
theorem rangeV_len (lo : Int) (n : Nat) : (rangeV lo n).length = n := by simp [rangeV]
theorem rangeV_at {lo : Int} {n i : Nat} {x : Val} (h : (rangeV lo n)[i]? = some x) : i < n ∧ x = .int (lo + i) := rangeV_get h
/-- .. over a range -/
theorem range_run {t : Tg} {b : S} {lo : Int} {n : Nat} {e : Env} (I : Nat → Env → Prop) (h0 : I 0 e) (hs : ∀ i e, i < n → I i e → ∃ e1 e2, t (.int (lo + i)) e = some e1 ∧ (b e1 = .ok .nx e2 ∨ b e1 = .ok .ct e2) ∧ I (i + 1) e2) : ∃ e', forL t b (rangeV lo n) e = .ok .nx e' ∧ I n e' := by
  have := for_run (t := t) (b := b) (xs := rangeV lo n) I h0 fun i x e h k => by
    obtain ⟨hi, rfl⟩ := rangeV_at h
    exact hs i e hi k
  rwa [rangeV_len] at this
/-- a comprehension that changes nothing -/
theorem compL_pure {vs : List Nat} {t : Tg} {c : T} {a : E} {e : Env} (p : Val → Bool) (g : Val → Val) : ∀ {xs : List Val}, (∀ x ∈ xs, ∃ e1, t x e = some e1 ∧ c e1 = .ok (p x) e1 ∧ (p x = true → ∃ r, a e1 = .ok r e1 ∧ esc e1 r = .ok (g x) e1) ∧ clr e1 vs = true ∧ wip e1 vs = e) → compL vs t c a xs e = .ok ((xs.filter p).map g) e
  | [], _ => rfl
  | x :: xs, h => by
    obtain ⟨e1, h1, h2, h3, h4, h5⟩ := h x List.mem_cons_self
    have ih := compL_pure (vs := vs) (t := t) (c := c) (a := a) (e := e) p g (xs := xs) fun y hy => h y (List.mem_cons_of_mem _ hy)
    unfold compL
    rw [h1]
    dsimp only
    rw [h2, Rs.bind_ok]
    cases hp : p x with
    | false =>
      rw [List.filter_cons_of_neg (by rw [hp]; simp), h4, h5, if_neg (by simp), if_pos rfl]
      exact ih
    | true =>
      obtain ⟨r, h6, h7⟩ := h3 hp
      rw [List.filter_cons_of_pos (by rw [hp]), if_pos rfl, h6, Rs.bind_ok, h7, Rs.bind_ok, h4, if_pos rfl, h5, ih]
      rfl
theorem compL_none {vs : List Nat} {t : Tg} {c : T} {a : E} {e : Env} {xs : List Val} (h : ∀ x ∈ xs, ∃ e1, t x e = some e1 ∧ c e1 = .ok false e1 ∧ clr e1 vs = true ∧ wip e1 vs = e) : compL vs t c a xs e = .ok [] e := by
  have := compL_pure (vs := vs) (t := t) (c := c) (a := a) (e := e) (fun _ => false) id (xs := xs) fun x hx => by
    obtain ⟨e1, h1, h2, h3, h4⟩ := h x hx
    exact ⟨e1, h1, h2, (fun z => nomatch z), h3, h4⟩
  rw [this]
  have : xs.filter (fun _ => false) = [] := List.filter_eq_nil_iff.mpr fun _ _ z => nomatch z
  rw [this]
  rfl
theorem compL_all {vs : List Nat} {t : Tg} {c : T} {a : E} {e : Env} (g : Val → Val) {xs : List Val} (h : ∀ x ∈ xs, ∃ e1, t x e = some e1 ∧ c e1 = .ok true e1 ∧ (∃ r, a e1 = .ok r e1 ∧ esc e1 r = .ok (g x) e1) ∧ clr e1 vs = true ∧ wip e1 vs = e) : compL vs t c a xs e = .ok (xs.map g) e := by
  have := compL_pure (vs := vs) (t := t) (c := c) (a := a) (e := e) (fun _ => true) g (xs := xs) fun x hx => by
    obtain ⟨e1, h1, h2, h5, h3, h4⟩ := h x hx
    exact ⟨e1, h1, h2, (fun _ => h5), h3, h4⟩
  rw [this]
  have : xs.filter (fun _ => true) = xs := List.filter_eq_self.mpr fun _ _ => rfl
  rw [this]
/-- .. that keeps what it runs over in hand: the frame goes along -/
theorem compL_run {vs : List Nat} {t : Tg} {c : T} {a : E} (I : Nat → List Val → Env → Prop) : ∀ {xs : List Val} {n : Nat} {ys : List Val} {e : Env}, I n ys e →
    (∀ i x zs e, xs[i]? = some x → I (n + i) zs e → ∃ e1 e2 k, t x e = some e1 ∧ c e1 = .ok k e2 ∧ (k = false → clr e2 vs = true ∧ I (n + i + 1) zs (wip e2 vs)) ∧ (k = true → ∃ r e3 y e4, a e2 = .ok r e3 ∧ esc e3 r = .ok y e4 ∧ clr e4 vs = true ∧ I (n + i + 1) (zs ++ [y]) (wip e4 vs))) →
    ∃ ws e', compL vs t c a xs e = .ok ws e' ∧ I (n + xs.length) (ys ++ ws) e'
  | [], n, ys, e, h, _ => ⟨[], e, rfl, by simpa using h⟩
  | x :: xs, n, ys, e, h, hs => by
    obtain ⟨e1, e2, k, h1, h2, h3, h4⟩ := hs 0 x ys e rfl h
    have next : ∀ zs e2, I (n + 0 + 1) zs e2 → ∃ ws e', compL vs t c a xs e2 = .ok ws e' ∧ I (n + (x :: xs).length) (zs ++ ws) e' := fun zs e2 hz => by
      obtain ⟨ws, e', h5, h6⟩ := compL_run (xs := xs) (n := n + 1) (ys := zs) (e := e2) I hz fun i y zs e hy hi => by
        have := hs (i + 1) y zs e (by simpa using hy) (by rw [show n + (i + 1) = n + 1 + i by omega]; exact hi)
        rwa [show n + (i + 1) + 1 = n + 1 + i + 1 by omega] at this
      exact ⟨ws, e', h5, by rw [List.length_cons, show n + (xs.length + 1) = n + 1 + xs.length by omega]; exact h6⟩
    cases k with
    | false =>
      obtain ⟨h5, h6⟩ := h3 rfl
      obtain ⟨ws, e', h7, h8⟩ := next _ _ h6
      refine ⟨ws, e', ?_, h8⟩
      unfold compL
      rw [h1]
      dsimp only
      rw [h2, Rs.bind_ok, if_neg (by simp), h5, if_pos rfl]
      exact h7
    | true =>
      obtain ⟨r, e3, y, e4, h5, h6, h7, h8⟩ := h4 rfl
      obtain ⟨ws, e', h9, h10⟩ := next _ _ h8
      refine ⟨y :: ws, e', ?_, by rw [List.append_cons]; exact h10⟩
      unfold compL
      rw [h1]
      dsimp only
      rw [h2, Rs.bind_ok, if_pos rfl, h5, Rs.bind_ok, h6, Rs.bind_ok, h7, if_pos rfl, h9]
      rfl
@[simp] theorem fEq_int (i j : Int) : fEq (.int i) (.int j) = some (.v (.bl (decide (i = j)))) := by
  unfold fEq
  have : (vok 60 (.int i) && vok 60 (.int j)) = true := rfl
  rw [if_pos this]
  show some (RV.v (Val.bl (i == j))) = _
  rfl
@[simp] theorem fNe_int (i j : Int) : fNe (.int i) (.int j) = some (.v (.bl (decide (i ≠ j)))) := by
  unfold fNe
  have : (vok 60 (.int i) && vok 60 (.int j)) = true := rfl
  rw [if_pos this]
  show some (RV.v (Val.bl (!(i == j)))) = _
  by_cases h : i = j
  · subst h; simp
  · simp [h]
@[simp] theorem fEq_bl (a b : Bool) : fEq (.bl a) (.bl b) = some (.v (.bl (a == b))) := by
  unfold fEq
  have : (vok 60 (.bl a) && vok 60 (.bl b)) = true := rfl
  rw [if_pos this]
  cases a <;> cases b <;> rfl
@[simp] theorem fNe_bl (a b : Bool) : fNe (.bl a) (.bl b) = some (.v (.bl (a != b))) := by
  unfold fNe
  have : (vok 60 (.bl a) && vok 60 (.bl b)) = true := rfl
  rw [if_pos this]
  cases a <;> cases b <;> rfl
@[simp] theorem tgN_v (i : Nat) (x : Val) (e : Env) : tgN i x e = if i < e.length ∧ pok (eget e i) = true then some (eput e i (.v x)) else none := by
  unfold tgN
  rw [sto_v, put_ap]
  split <;> rfl
def inR (i : Int) : Bool := decide (i.natAbs < 4611686018427387904)
theorem inR_of {i : Int} (h1 : -1000000000000 ≤ i) (h2 : i ≤ 1000000000000) : inR i = true := decide_eq_true (by omega)
def rng1 : RV → Env → Rs (List Val)
  | .v (.int j), e => if inR j = true then .ok (rangeV 0 j.toNat) e else .no
  | _, _ => .no
def rng2 : RV → RV → Env → Rs (List Val)
  | .v (.int i), .v (.int j), e => if inR i = true ∧ inR j = true then .ok (rangeV i (j - i).toNat) e else .no
  | _, _, _ => .no
theorem rng1_int {j : Int} (e : Env) (h : inR j = true) : rng1 (.v (.int j)) e = .ok (rangeV 0 j.toNat) e := by
  show (if inR j = true then Rs.ok (rangeV 0 j.toNat) e else Rs.no) = _
  rw [if_pos h]
theorem rng2_int {i j : Int} (e : Env) (h : inR i = true) (h2 : inR j = true) : rng2 (.v (.int i)) (.v (.int j)) e = .ok (rangeV i (j - i).toNat) e := by
  show (if inR i = true ∧ inR j = true then Rs.ok (rangeV i (j - i).toNat) e else Rs.no) = _
  rw [if_pos ⟨h, h2⟩]
theorem inR_iff (i : Int) : inR i = true ↔ i.natAbs < 4611686018427387904 := by
  unfold inR
  rw [decide_eq_true_eq]
@[simp] theorem iRange1_ap (a : E) (e : Env) : iRange1 a e = (a e).bind fun r e1 => rng1 r e1 := by
  unfold iRange1
  congr 1
  funext r e1
  cases r with
  | own x => rfl
  | bor i => rfl
  | v x =>
    cases x with
    | int j =>
      show _ = (if inR j = true then Rs.ok (rangeV 0 j.toNat) e1 else Rs.no)
      dsimp only
      by_cases h : inR j = true
      · rw [if_pos h, if_pos ((inR_iff j).mp h)]
      · rw [if_neg h, if_neg fun z => h ((inR_iff j).mpr z)]
    | _ => rfl
@[simp] theorem iRange2_ap (a b : E) (e : Env) : iRange2 a b e = (a e).bind fun r e1 => (b e1).bind fun s e2 => rng2 r s e2 := by
  unfold iRange2
  congr 1
  funext r e1
  congr 1
  funext s e2
  cases r with
  | own x => rfl
  | bor i => rfl
  | v x =>
    cases x with
    | int i =>
      cases s with
      | own x => rfl
      | bor i => rfl
      | v y =>
        cases y with
        | int j =>
          show _ = (if inR i = true ∧ inR j = true then Rs.ok (rangeV i (j - i).toNat) e2 else Rs.no)
          dsimp only
          by_cases h : inR i = true ∧ inR j = true
          · rw [if_pos h, if_pos ⟨(inR_iff i).mp h.1, (inR_iff j).mp h.2⟩]
          · rw [if_neg h, if_neg fun z => h ⟨(inR_iff i).mpr z.1, (inR_iff j).mpr z.2⟩]
        | _ => rfl
    | _ => rfl
/-! ### errors -/
def tryR (sub : Str → Str → Option Bool) (hs : List (Str × Nat × S)) : Rs Fl → Rs Fl
  | .ex c fs e => handle sub hs c fs e
  | r => r
@[simp] theorem tryR_ok (sub : Str → Str → Option Bool) (hs : List (Str × Nat × S)) (f : Fl) (e : Env) : tryR sub hs (.ok f e) = .ok f e := rfl
@[simp] theorem tryR_ex (sub : Str → Str → Option Bool) (hs : List (Str × Nat × S)) (c : Str) (fs : List (Str × Val)) (e : Env) : tryR sub hs (.ex c fs e) = handle sub hs c fs e := rfl
@[simp] theorem sTry_ap (sub : Str → Str → Option Bool) (b : S) (hs : List (Str × Nat × S)) (e : Env) : sTry sub b hs e = tryR sub hs (b e) := by
  unfold sTry
  cases b e <;> rfl
@[simp] theorem handle_nil (sub : Str → Str → Option Bool) (c : Str) (fs : List (Str × Val)) (e : Env) : handle sub [] c fs e = .ex c fs e := rfl
theorem handle_t {sub : Str → Str → Option Bool} {n : Str} {i : Nat} {s : S} {r : List (Str × Nat × S)} {c : Str} {fs : List (Str × Val)} {e : Env} (h : sub c n = some true) (he : eget e i = .emp) (hi : i < e.length) : handle sub ((n, i, s) :: r) c fs e = leaveS i (s (eput e i (.exn c fs))) := by
  unfold handle
  rw [h]
  dsimp only
  rw [he]
  dsimp only
  rw [if_pos hi]
theorem handle_f {sub : Str → Str → Option Bool} {n : Str} {i : Nat} {s : S} {r : List (Str × Nat × S)} {c : Str} {fs : List (Str × Val)} {e : Env} (h : sub c n = some false) : handle sub ((n, i, s) :: r) c fs e = handle sub r c fs e := by
  conv => lhs; unfold handle
  rw [h]
@[simp] theorem eExn_ap (i : Nat) (cn fld : Str) (e : Env) : eExn i cn fld e = match eget e i with | .exn c [(f, x)] => if c = cn ∧ f = fld then .ok (.v x) e else .no | _ => .no := rfl
@[simp] theorem eComp_ap (s : Src) (vs : List Nat) (t : Tg) (c : T) (a : E) (e : Env) : eComp s vs t c a e = (s e).bind fun xs e1 => if clr e1 vs && decide (xs.length ≤ sizeMax) then match compL vs t c a xs (wip e1 vs) with
    | .ok ys e2 => .ok (.own (.lst ys)) (unwip e1 e2 vs)
    | _ => .no
  else .no := rfl
@[simp] theorem rangeV_length (lo : Int) (n : Nat) : (rangeV lo n).length = n := rangeV_len lo n
theorem mem_rangeV {lo : Int} {n : Nat} {x : Val} (h : x ∈ rangeV lo n) : ∃ i, i < n ∧ x = .int (lo + i) := by
  unfold rangeV at h
  obtain ⟨i, hi, rfl⟩ := List.mem_map.mp h
  exact ⟨i, List.mem_range.mp hi, rfl⟩
@[simp] theorem fIsi_non (T : Bt) : fIsi [T] .non = some (.v (.bl (isB T .non))) := by simp [fIsi, btOf]
@[simp] theorem fIsi_bl (T : Bt) (b : Bool) : fIsi [T] (.bl b) = some (.v (.bl (isB T .bl))) := by simp [fIsi, btOf]
@[simp] theorem fIsi_int (T : Bt) (i : Int) : fIsi [T] (.int i) = some (.v (.bl (isB T .int))) := by simp [fIsi, btOf]
@[simp] theorem fIsi_str (T : Bt) (s : Str) : fIsi [T] (.str s) = some (.v (.bl (isB T .str))) := by simp [fIsi, btOf]
@[simp] theorem fIsi_tup (T : Bt) (xs : List Val) : fIsi [T] (.tup xs) = some (.v (.bl (isB T .tup))) := by simp [fIsi, btOf]
@[simp] theorem fIsi_lst (T : Bt) (xs : List Val) : fIsi [T] (.lst xs) = some (.v (.bl (isB T .lst))) := by simp [fIsi, btOf]
@[simp] theorem isB_ii : isB .int .int = true := rfl
@[simp] theorem isB_ib : isB .int .bl = true := rfl
@[simp] theorem isB_in : isB .int .non = false := rfl
@[simp] theorem isB_is : isB .int .str = false := rfl
@[simp] theorem isB_it : isB .int .tup = false := rfl
@[simp] theorem isB_il : isB .int .lst = false := rfl
@[simp] theorem isB_b (t : Bt) : isB .bl t = decide (t = .bl) := by cases t <;> rfl
@[simp] theorem isB_s (t : Bt) : isB .str t = decide (t = .str) := by cases t <;> rfl
@[simp] theorem isB_t (t : Bt) : isB .tup t = decide (t = .tup) := by cases t <;> rfl
@[simp] theorem isB_l (t : Bt) : isB .lst t = decide (t = .lst) := by cases t <;> rfl
/-- fractions in lowest terms -/
theorem low_uniq {a b c d : Nat} (hb : 0 < b) (hd : 0 < d) (h : a * d = c * b) : a / a.gcd b = c / c.gcd d ∧ b / a.gcd b = d / c.gcd d := by
  have g1 : 0 < a.gcd b := Nat.gcd_pos_of_pos_right _ hb
  have g2 : 0 < c.gcd d := Nat.gcd_pos_of_pos_right _ hd
  have co1 := Nat.coprime_div_gcd_div_gcd g1
  have co2 := Nat.coprime_div_gcd_div_gcd g2
  have ea : a = a / a.gcd b * a.gcd b := (Nat.div_mul_cancel (Nat.gcd_dvd_left a b)).symm
  have eb : b = b / a.gcd b * a.gcd b := (Nat.div_mul_cancel (Nat.gcd_dvd_right a b)).symm
  have ec : c = c / c.gcd d * c.gcd d := (Nat.div_mul_cancel (Nat.gcd_dvd_left c d)).symm
  have ed : d = d / c.gcd d * c.gcd d := (Nat.div_mul_cancel (Nat.gcd_dvd_right c d)).symm
  generalize a / a.gcd b = a' at *
  generalize b / a.gcd b = b' at *
  generalize c / c.gcd d = c' at *
  generalize d / c.gcd d = d' at *
  generalize a.gcd b = g at *
  generalize c.gcd d = k at *
  have e : a' * d' = c' * b' := by
    rw [ea, eb, ec, ed] at h
    have : (g * k) * (a' * d') = (g * k) * (c' * b') := by
      rw [show (g * k) * (a' * d') = a' * g * (d' * k) by simp [Nat.mul_comm, Nat.mul_left_comm, Nat.mul_assoc], h]
      simp [Nat.mul_comm, Nat.mul_left_comm, Nat.mul_assoc]
    exact Nat.eq_of_mul_eq_mul_left (Nat.mul_pos g1 g2) this
  have d1 : b' ∣ d' := co1.symm.dvd_of_dvd_mul_left ⟨c', by rw [e, Nat.mul_comm]⟩
  have d2 : d' ∣ b' := co2.symm.dvd_of_dvd_mul_left ⟨a', by rw [← e, Nat.mul_comm]⟩
  have e2 : b' = d' := Nat.dvd_antisymm d1 d2
  refine ⟨?_, e2⟩
  subst e2
  have hb' : 0 < b' := by
    apply Nat.pos_of_ne_zero
    intro z
    rw [z] at eb
    simp at eb
    omega
  exact Nat.eq_of_mul_eq_mul_right hb' e
end Z
/-! ZJ: methods of lists. -/
namespace Z
open PySem L2 PySem.Spec
section
variable {X : Cx} {xc : Xc} {W : WX} {pos : Pos}
/-- name.append(a) -/
theorem se_app (j : Nat) {x : Str} {a : Expr} {fa : E} {p0 p1 : Pos} (ha : SE X xc W a fa) (hN : X.N[j]? = some x := by rfl) (hv : Vis X.env.scope x := by first | exact Or.inl rfl | exact Or.inr (Or.inl rfl) | exact Or.inr (Or.inr rfl))
    (hd : (x == ("__debug__" : Str)) = false := by decide) (hcd : (x == ("__classdict__" : Str)) = false := by decide)
    (hp : ∀ {to : TE} {t : TA}, PE X (.Name x p0) to → PA X [a] t → PE X (.Call (.Attribute (.Name x p0) "append" p1) [a] [] pos) (tBM X.K "list" rAppend to t) := by intro _ _ h1 h2; exact pe_bm PySem.F.plainAttrs_list PySem.F.slot_list_append PySem.F.type_list_append mt_append h1 h2)
    (hs : starEach [a] X.env = [(false, eval a X.env)] := by rfl) : SE X xc W (.Call (.Attribute (.Name x p0) "append" p1) [a] [] pos) (eApp j fa) := by
  refine PE_imp (hp (pe_var hN hv hd hcd) (sa_cons ha sa_nil hs)) fun σ H Q h => ?_
  obtain ⟨pa, Zs, env, re, h⟩ := h
  unfold eApp at h
  by_cases hg : isOwnL (eget env j) = true
  · rw [if_pos hg] at h
    obtain ⟨p, xs, ho⟩ := isOwnL_some hg
    have sj := re.sl j
    rw [ho] at sj
    obtain ⟨b, hb, nz, us, hH, rl⟩ := sj
    refine ⟨_, hb, .inl ⟨rfl, us, SqL.of hH⟩, pa, Zs, env, re, ?_⟩
    unfold asCons
    cases hf : fa env with
    | no => rw [hf] at h; exact h
    | ex c fs e1 => rw [hf] at h; exact h
    | ok r e1 =>
      rw [hf, Rs.bind_ok] at h
      intro vs Z1 H1 P1 q1
      cases q1 with
      | @cons _ u _ us' q1 qn _ =>
        cases qn
        cases he : esc e1 r with
        | no => rw [he] at h; exact h.elim
        | ex c fs e => exact absurd (show escs e1 [r] = .ex c fs e by rw [escs_cons, he]; rfl) (escs_ex _ _ _ _ _)
        | ok v e2 =>
          rw [he, Rs.bind_ok] at h
          obtain ⟨Z3, P3, rv, zz, _⟩ := esc_ok (s := ⟨pa, Zs, H, σ, env⟩) P1 q1 he
          cases ho3 : eget e2 j with
          | own p3 y =>
            cases y with
            | lst ys =>
              simp only [ho3] at h
              by_cases hz : ys.length < sizeMax
              · rw [if_pos hz] at h
                have s3 := P3.re.sl j
                rw [ho3] at s3
                obtain ⟨b3, hb3, nz3, ws, hl3, rl3⟩ := s3
                rw [hb] at hb3
                cases hb3
                refine ⟨b, ws, u, rfl, rfl, hl3, by rw [← rl3.length, ← szm]; exact hz, ?_⟩
                have hy : Hld (gX X) Z3 (upd H1 b (.lst (ws ++ [u]))) (.lst (ys ++ [v])) b := Hld.upd hl3 nz3 (rl3.append (.cons rv .nil))
                exact h .non Z3 _ (P3.trans (P3.re.write ho3 hb hy)) .non
              · rw [if_neg hz] at h
                exact h.elim
            | _ => simp only [ho3] at h; exact h.elim
          | _ => simp only [ho3] at h; exact h.elim
  · rw [if_neg hg] at h
    exact h.elim
/-- name.extend(a), a a new list -/
theorem se_ext (j : Nat) {x : Str} {a : Expr} {fa : E} {p0 p1 : Pos} (ha : SE X xc W a fa) (hN : X.N[j]? = some x := by rfl) (hv : Vis X.env.scope x := by first | exact Or.inl rfl | exact Or.inr (Or.inl rfl) | exact Or.inr (Or.inr rfl))
    (hd : (x == ("__debug__" : Str)) = false := by decide) (hcd : (x == ("__classdict__" : Str)) = false := by decide)
    (hp : ∀ {to : TE} {t : TA}, PE X (.Name x p0) to → PA X [a] t → PE X (.Call (.Attribute (.Name x p0) "extend" p1) [a] [] pos) (tBM X.K "list" rExtend to t) := by intro _ _ h1 h2; exact pe_bm PySem.F.plainAttrs_list PySem.F.slot_list_extend PySem.F.type_list_extend mt_extend h1 h2)
    (hs : starEach [a] X.env = [(false, eval a X.env)] := by rfl) : SE X xc W (.Call (.Attribute (.Name x p0) "extend" p1) [a] [] pos) (eExt j fa) := by
  refine PE_imp (hp (pe_var hN hv hd hcd) (sa_cons ha sa_nil hs)) fun σ H Q h => ?_
  obtain ⟨pa, Zs, env, re, h⟩ := h
  unfold eExt at h
  by_cases hg : isOwnL (eget env j) = true
  · rw [if_pos hg] at h
    obtain ⟨p, xs, ho⟩ := isOwnL_some hg
    have sj := re.sl j
    rw [ho] at sj
    obtain ⟨b, hb, nz, us, hH, rl⟩ := sj
    refine ⟨_, hb, .inl ⟨rfl, us, SqL.of hH⟩, pa, Zs, env, re, ?_⟩
    unfold asCons
    cases hf : fa env with
    | no => rw [hf] at h; exact h
    | ex c fs e1 => rw [hf] at h; exact h
    | ok r e1 =>
      rw [hf, Rs.bind_ok] at h
      intro vs Z1 H1 P1 q1
      cases q1 with
      | @cons _ u _ us' q1 qn _ =>
        cases qn
        cases ho3 : eget e1 j with
        | own p3 y =>
          cases y with
          | lst ys =>
            cases r with
            | own z =>
              cases z with
              | lst zs =>
                simp only [ho3] at h
                obtain ⟨a', ea, nza, ⟨ts, hta, rta⟩, no, _⟩ := q1
                by_cases hz : ys.length + zs.length ≤ sizeMax
                · rw [if_pos hz] at h
                  have s3 := P1.re.sl j
                  rw [ho3] at s3
                  obtain ⟨b3, hb3, nz3, ws, hl3, rl3⟩ := s3
                  rw [hb] at hb3
                  cases hb3
                  refine ⟨b, a', ws, ts, rfl, by rw [ea], hl3, hta, by rw [← rl3.length, ← rta.length, ← szm]; exact hz, ?_⟩
                  have hy : Hld (gX X) Z1 (upd H1 b (.lst (ws ++ ts))) (.lst (ys ++ zs)) b := Hld.upd hl3 nz3 (rl3.append rta)
                  exact h .non Z1 _ (P1.trans (P1.re.write ho3 hb hy)) .non
                · rw [if_neg hz] at h
                  exact h.elim
              | _ => simp only [ho3] at h; exact h.elim
            | v z => simp only [ho3] at h; exact h.elim
            | bor z => simp only [ho3] at h; exact h.elim
          | _ => simp only [ho3] at h; exact h.elim
        | _ => simp only [ho3] at h; exact h.elim
  · rw [if_neg hg] at h
    exact h.elim
/-- name.pop() -/
theorem se_pop (j : Nat) {x : Str} {p0 p1 : Pos} (hN : X.N[j]? = some x := by rfl) (hv : Vis X.env.scope x := by first | exact Or.inl rfl | exact Or.inr (Or.inl rfl) | exact Or.inr (Or.inr rfl))
    (hd : (x == ("__debug__" : Str)) = false := by decide) (hcd : (x == ("__classdict__" : Str)) = false := by decide)
    (hp : ∀ {to : TE}, PE X (.Name x p0) to → PE X (.Call (.Attribute (.Name x p0) "pop" p1) [] [] pos) (tBM0 X.K "list" rPop to) := by intro _ h1; exact pe_bm0 PySem.F.plainAttrs_list PySem.F.slot_list_pop PySem.F.type_list_pop mt_pop h1) :
    SE X xc W (.Call (.Attribute (.Name x p0) "pop" p1) [] [] pos) (ePop j) := by
  refine PE_imp (hp (pe_var hN hv hd hcd)) fun σ H Q h => ?_
  obtain ⟨pa, Zs, env, re, h⟩ := h
  unfold ePop at h
  cases ho : eget env j with
  | own p y =>
    cases y with
    | lst xs =>
      simp only [ho] at h
      cases hl : xs[xs.length - 1]? with
      | none => rw [hl] at h; exact h.elim
      | some v =>
        rw [hl] at h
        have sj := re.sl j
        rw [ho] at sj
        obtain ⟨b, hb, nz, us, hH, rl⟩ := sj
        obtain ⟨u, hu, rv⟩ := rl.get hl
        refine ⟨_, hb, .inl ⟨rfl, us, SqL.of hH⟩, b, us, u, rfl, rfl, hH, by rw [← rl.length]; exact hu, ?_⟩
        have hy : Hld (gX X) Zs (upd H b (.lst us.dropLast)) (.lst xs.dropLast) b := Hld.upd hH nz rl.dropLast
        have P := re.write ho hb hy
        exact h u Zs _ P (rv.ext P.ext re.owOk)
    | _ => simp only [ho] at h; exact h.elim
  | _ => simp only [ho] at h; exact h.elim
end
end Z
/-! ZK: more built-ins over lists. -/
namespace Z
open PySem L2 PySem.Spec
def mxL : Int → List Int → Int
  | m, [] => m
  | m, n :: r => mxL (if n > m then n else m) r
def mnL : Int → List Int → Int
  | m, [] => m
  | m, n :: r => mnL (if n < m then n else m) r
theorem mxL_mem : ∀ (r : List Int) (m : Int), mxL m r = m ∨ mxL m r ∈ r
  | [], m => .inl rfl
  | n :: r, m => by
    unfold mxL
    rcases mxL_mem r (if n > m then n else m) with h | h
    · rw [h]
      split
      · exact .inr List.mem_cons_self
      · exact .inl rfl
    · exact .inr (List.mem_cons_of_mem _ h)
theorem mxL_ge : ∀ (r : List Int) (m : Int), m ≤ mxL m r ∧ ∀ n ∈ r, n ≤ mxL m r
  | [], m => ⟨Int.le_refl _, fun n h => by cases h⟩
  | n :: r, m => by
    obtain ⟨h1, h2⟩ := mxL_ge r (if n > m then n else m)
    unfold mxL
    have e1 : m ≤ (if n > m then n else m) := by split <;> omega
    have e2 : n ≤ (if n > m then n else m) := by split <;> omega
    generalize (if n > m then n else m) = t at *
    refine ⟨by omega, fun k hk => ?_⟩
    · rcases List.mem_cons.mp hk with rfl | hk
      · omega
      · exact h2 k hk
theorem mnL_mem : ∀ (r : List Int) (m : Int), mnL m r = m ∨ mnL m r ∈ r
  | [], m => .inl rfl
  | n :: r, m => by
    unfold mnL
    rcases mnL_mem r (if n < m then n else m) with h | h
    · rw [h]
      split
      · exact .inr List.mem_cons_self
      · exact .inl rfl
    · exact .inr (List.mem_cons_of_mem _ h)
theorem mnL_le : ∀ (r : List Int) (m : Int), mnL m r ≤ m ∧ ∀ n ∈ r, mnL m r ≤ n
  | [], m => ⟨Int.le_refl _, fun n h => by cases h⟩
  | n :: r, m => by
    obtain ⟨h1, h2⟩ := mnL_le r (if n < m then n else m)
    unfold mnL
    have e1 : (if n < m then n else m) ≤ m := by split <;> omega
    have e2 : (if n < m then n else m) ≤ n := by split <;> omega
    generalize (if n < m then n else m) = t at *
    refine ⟨by omega, fun k hk => ?_⟩
    · rcases List.mem_cons.mp hk with rfl | hk
      · omega
      · exact h2 k hk
/-- the greatest, the least of a list of numbers -/
def fMaxL : List Val → Option RV
  | [.lst xs] => match ints? xs with
    | some (m :: r) => some (.v (.int (mxL m r)))
    | _ => none
  | _ => none
def fMinL : List Val → Option RV
  | [.lst xs] => match ints? xs with
    | some (m :: r) => some (.v (.int (mnL m r)))
    | _ => none
  | _ => none
def bls? : List Val → Option (List Bool)
  | [] => some []
  | .bl b :: r => match bls? r with
    | some bs => some (b :: bs)
    | none => none
  | _ => none
theorem bls?_eq : ∀ {xs : List Val} {bs : List Bool}, bls? xs = some bs → xs = bs.map Val.bl
  | [], _, h => by cases h; rfl
  | x :: r, bs, h => by
    cases x with
    | bl b =>
      unfold bls? at h
      cases hr : bls? r with
      | none => rw [hr] at h; cases h
      | some cs => rw [hr] at h; cases h; rw [bls?_eq hr]; rfl
    | _ => cases h
theorem bls?_map : ∀ bs : List Bool, bls? (bs.map Val.bl) = some bs
  | [] => rfl
  | b :: bs => by
    show (match bls? (bs.map Val.bl) with | some cs => some (b :: cs) | none => none) = _
    rw [bls?_map bs]
theorem RvL.bls {g : Gm} {Zs : Addr → Prop} {H : Hp} : ∀ {bs : List Bool} {us : List V}, RvL g Zs H (bs.map Val.bl) us → us = bs.map V.bl
  | [], _, r => by cases r; rfl
  | b :: bs, _, r => by
    cases r with
    | cons h r => cases h; rw [RvL.bls r]; rfl
/-- all, any of a list of truth values -/
def fAll : List Val → Option RV
  | [.lst xs] => match bls? xs with
    | some bs => some (.v (.bl (bs.all id)))
    | none => none
  | _ => none
def fAny : List Val → Option RV
  | [.lst xs] => match bls? xs with
    | some bs => some (.v (.bl (bs.any id)))
    | none => none
  | _ => none
section
variable {X : Cx}
theorem cs_maxL (hc : X.calm = true) : CallS X (.builtin "max") fMaxL := by
  have cs : ∀ {xs z}, fMaxL xs = some z → ∃ (m : Int) (r : List Int), xs = [.lst ((m :: r).map Val.int)] ∧ z = .v (.int (mxL m r)) := fun {xs z} h => by
    unfold fMaxL at h; split at h
    · split at h
      · rename_i m r e
        cases h
        exact ⟨_, _, by rw [ints?_eq e], rfl⟩
      · cases h
    · cases h
  refine ⟨⟨_, cr_max hc, fun Zs H xs z us Q zd hf hx q => ?_⟩, fun xs i h => ?_⟩
  · obtain ⟨m, r, rfl, rfl⟩ := cs hf
    obtain ⟨u, rfl, h⟩ := hx.one
    obtain ⟨a, ws, rfl, hl, rl⟩ := h.lst
    have := rl.ints
    subst this
    refine ⟨a, m :: r, rfl, .inl hl, Nat.succ_pos _, fun k hk hle => ?_⟩
    have e : k = mxL m r := by
      obtain ⟨g1, g2⟩ := mxL_ge r m
      have h1 : k ≤ mxL m r := by
        rcases List.mem_cons.mp hk with rfl | hk
        · exact g1
        · exact g2 k hk
      have h2 : mxL m r ≤ k := by
        rcases mxL_mem r m with e | e
        · rw [e]; exact hle m List.mem_cons_self
        · exact hle _ (List.mem_cons_of_mem _ e)
      omega
    rw [e]
    exact q.val zd (.int _)
  · obtain ⟨_, _, _, e⟩ := cs h; cases e
theorem cs_minL (hc : X.calm = true) : CallS X (.builtin "min") fMinL := by
  have cs : ∀ {xs z}, fMinL xs = some z → ∃ (m : Int) (r : List Int), xs = [.lst ((m :: r).map Val.int)] ∧ z = .v (.int (mnL m r)) := fun {xs z} h => by
    unfold fMinL at h; split at h
    · split at h
      · rename_i m r e
        cases h
        exact ⟨_, _, by rw [ints?_eq e], rfl⟩
      · cases h
    · cases h
  refine ⟨⟨_, cr_min hc, fun Zs H xs z us Q zd hf hx q => ?_⟩, fun xs i h => ?_⟩
  · obtain ⟨m, r, rfl, rfl⟩ := cs hf
    obtain ⟨u, rfl, h⟩ := hx.one
    obtain ⟨a, ws, rfl, hl, rl⟩ := h.lst
    have := rl.ints
    subst this
    refine ⟨a, m :: r, rfl, .inl hl, Nat.succ_pos _, fun k hk hle => ?_⟩
    have e : k = mnL m r := by
      obtain ⟨g1, g2⟩ := mnL_le r m
      have h1 : mnL m r ≤ k := by
        rcases List.mem_cons.mp hk with rfl | hk
        · exact g1
        · exact g2 k hk
      have h2 : k ≤ mnL m r := by
        rcases mnL_mem r m with e | e
        · rw [e]; exact hle m List.mem_cons_self
        · exact hle _ (List.mem_cons_of_mem _ e)
      omega
    rw [e]
    exact q.val zd (.int _)
  · obtain ⟨_, _, _, e⟩ := cs h; cases e
theorem cs_all (hc : X.calm = true) : CallS X (.builtin "all") fAll := by
  have cs : ∀ {xs z}, fAll xs = some z → ∃ bs : List Bool, xs = [.lst (bs.map Val.bl)] ∧ z = .v (.bl (bs.all id)) := fun {xs z} h => by
    unfold fAll at h; split at h
    · split at h
      · rename_i bs e
        cases h
        exact ⟨_, by rw [bls?_eq e], rfl⟩
      · cases h
    · cases h
  refine ⟨⟨_, cr_all hc, fun Zs H xs z us Q zd hf hx q => ?_⟩, fun xs i h => ?_⟩
  · obtain ⟨bs, rfl, rfl⟩ := cs hf
    obtain ⟨u, rfl, h⟩ := hx.one
    obtain ⟨a, ws, rfl, hl, rl⟩ := h.lst
    have := rl.bls
    subst this
    exact ⟨a, bs, rfl, .inl hl, q.val zd (.bl _)⟩
  · obtain ⟨_, _, e⟩ := cs h; cases e
theorem cs_any (hc : X.calm = true) : CallS X (.builtin "any") fAny := by
  have cs : ∀ {xs z}, fAny xs = some z → ∃ bs : List Bool, xs = [.lst (bs.map Val.bl)] ∧ z = .v (.bl (bs.any id)) := fun {xs z} h => by
    unfold fAny at h; split at h
    · split at h
      · rename_i bs e
        cases h
        exact ⟨_, by rw [bls?_eq e], rfl⟩
      · cases h
    · cases h
  refine ⟨⟨_, cr_any hc, fun Zs H xs z us Q zd hf hx q => ?_⟩, fun xs i h => ?_⟩
  · obtain ⟨bs, rfl, rfl⟩ := cs hf
    obtain ⟨u, rfl, h⟩ := hx.one
    obtain ⟨a, ws, rfl, hl, rl⟩ := h.lst
    have := rl.bls
    subst this
    exact ⟨a, bs, rfl, .inl hl, q.val zd (.bl _)⟩
  · obtain ⟨_, _, e⟩ := cs h; cases e
end
end Z
/-! ZL: enumerate, zip. -/
namespace Z
open PySem L2 PySem.Spec RZ
def enumV (xs : List Val) : List Val := xs.zipIdx.map fun p => .tup [.int (p.2 : Nat), p.1]
def zipV (xs ys : List Val) : List Val := (xs.zip ys).map fun p => .tup [p.1, p.2]
/-- enumerate(a) -/
def iEnumS (a : As) : Src := fun e => (a e).bind fun rs e1 => (escs e1 rs).bind fun xs e2 => match xs with
  | [.lst xs] => .ok (enumV xs) e2
  | _ => .no
/-- zip(a, b) -/
def iZipS (a : As) : Src := fun e => (a e).bind fun rs e1 => (escs e1 rs).bind fun xs e2 => match xs with
  | [.lst xs, .lst ys] => .ok (zipV xs ys) e2
  | [.tup xs, .tup ys] => .ok (zipV xs ys) e2
  | _ => .no
theorem enumV_at {xs : List Val} {i : Nat} {x : Val} (h : (enumV xs)[i]? = some x) : ∃ y, xs[i]? = some y ∧ x = .tup [.int (i : Nat), y] := by
  unfold enumV at h
  rw [List.getElem?_map, List.getElem?_zipIdx] at h
  cases hx : xs[i]? with
  | none => rw [hx] at h; cases h
  | some y =>
    rw [hx] at h
    simp only [Option.map_some, Option.some.injEq] at h
    exact ⟨y, rfl, by rw [← h]; simp⟩
theorem enumV_len {xs : List Val} : (enumV xs).length = xs.length := by simp [enumV]
theorem zipV_at {xs ys : List Val} {i : Nat} {x : Val} (h : (zipV xs ys)[i]? = some x) : ∃ a b, xs[i]? = some a ∧ ys[i]? = some b ∧ x = .tup [a, b] := by
  unfold zipV at h
  rw [List.getElem?_map] at h
  cases hx : (xs.zip ys)[i]? with
  | none => rw [hx] at h; cases h
  | some p =>
    rw [hx] at h
    cases h
    rw [List.getElem?_zip_eq_some] at hx
    exact ⟨p.1, p.2, hx.1, hx.2, rfl⟩
theorem zipV_len {xs ys : List Val} : (zipV xs ys).length = min xs.length ys.length := by simp [zipV]
theorem walk_enum {g : Gm} {Zs : Addr → Prop} {H : Hp} {a : Addr} {xs : List Val} {us : List V} (h : SqZ g Zs H a us) (r : RvL g Zs H xs us) : Walk g Zs H (Ite g.K a) (enumV xs) := by
  intro Z2 H2 gr zd
  have h2 := (gr.sqZ h).sq
  have r2 := r.gr gr
  refine ⟨fun i x hx => ?_, fun i hi => ⟨us, h2, by rw [← r.length, ← enumV_len]; exact hi⟩⟩
  obtain ⟨y, hy, rfl⟩ := enumV_at hx
  obtain ⟨w, hw, _⟩ := r2.get hy
  refine ⟨⟨us, w, h2, hw⟩, fun u H3 q => ?_⟩
  obtain ⟨T, x', eu, hT, eH, hx'⟩ := q
  subst eu eH
  exact ⟨Z2, Ext.new zd hT, .tup (SqT.of upd_same) (.cons (.int _) (.cons ((r2.at hy (hx' us h2)).ext (Ext.new zd hT) fun _ z => z.elim) .nil))⟩
theorem walk_zip {g : Gm} {Zs : Addr → Prop} {H : Hp} {a b : Addr} {xs ys : List Val} {us ws : List V} (h : SqZ g Zs H a us) (r : RvL g Zs H xs us) (k : SqZ g Zs H b ws) (s : RvL g Zs H ys ws) : Walk g Zs H (Itz g.K a b) (zipV xs ys) := by
  intro Z2 H2 gr zd
  have h2 := (gr.sqZ h).sq
  have k2 := (gr.sqZ k).sq
  have r2 := r.gr gr
  have s2 := s.gr gr
  refine ⟨fun i x hx => ?_, fun i hi => ⟨us, ws, h2, k2, by rw [← r.length, ← s.length]; rw [zipV_len] at hi; omega⟩⟩
  obtain ⟨y, z, hy, hz, rfl⟩ := zipV_at hx
  obtain ⟨u1, hu1, _⟩ := r2.get hy
  obtain ⟨u2, hu2, _⟩ := s2.get hz
  refine ⟨⟨us, ws, u1, u2, h2, k2, hu1, hu2⟩, fun u H3 q => ?_⟩
  obtain ⟨T, x', y', eu, hT, eH, hx', hy'⟩ := q
  subst eu eH
  exact ⟨Z2, Ext.new zd hT, .tup (SqT.of upd_same) (.cons ((r2.at hy (hx' us h2)).ext (Ext.new zd hT) fun _ z => z.elim) (.cons ((s2.at hz (hy' ws k2)).ext (Ext.new zd hT) fun _ z => z.elim) .nil))⟩
theorem walk_zipT {g : Gm} {Zs : Addr → Prop} {H : Hp} {a b : Addr} {xs ys : List Val} {us ws : List V} (h : SqT g.K H a us) (r : RvL g Zs H xs us) (k : SqT g.K H b ws) (s : RvL g Zs H ys ws) : Walk g Zs H (ItzT g.K a b) (zipV xs ys) := by
  intro Z2 H2 gr zd
  have h2 := gr.sqT h
  have k2 := gr.sqT k
  have r2 := r.gr gr
  have s2 := s.gr gr
  refine ⟨fun i x hx => ?_, fun i hi => ⟨us, ws, h2, k2, by rw [← r.length, ← s.length]; rw [zipV_len] at hi; omega⟩⟩
  obtain ⟨y, z, hy, hz, rfl⟩ := zipV_at hx
  obtain ⟨u1, hu1, _⟩ := r2.get hy
  obtain ⟨u2, hu2, _⟩ := s2.get hz
  refine ⟨⟨us, ws, u1, u2, h2, k2, hu1, hu2⟩, fun u H3 q => ?_⟩
  obtain ⟨T, x', y', eu, hT, eH, hx', hy'⟩ := q
  subst eu eH
  exact ⟨Z2, Ext.new zd hT, .tup (SqT.of upd_same) (.cons ((r2.at hy (hx' us h2)).ext (Ext.new zd hT) fun _ z => z.elim) (.cons ((s2.at hz (hy' ws k2)).ext (Ext.new zd hT) fun _ z => z.elim) .nil))⟩
section
variable {X : Cx} {xc : Xc} {W : WX} {pos tpos : Pos} {elts : List Expr} {kk : Nat}
theorem si_enum {a : Expr} {fa : As} {p : Pos} (hm : X.mg "enumerate" = none) (ha : SA X xc W [a] fa) (hg : Gl X "enumerate" := by rfl) (hs : starEach [a] X.env = [(false, eval a X.env)] := by rfl) : SI X xc W (.Tuple elts kk tpos) (.Call (.Name "enumerate" p) [a] [] pos) (iEnumS fa) := by
  refine PI_imp (pi_enum hg hm ha hs) fun σ H R h => ?_
  obtain ⟨pa, Zs, env, re, h⟩ := h
  refine ⟨pa, Zs, env, re, ?_⟩
  unfold iEnumS at h
  cases hf : fa env with
  | no => rw [hf] at h; exact h
  | ex c fs e1 => rw [hf] at h; exact h
  | ok rs e1 =>
    rw [hf, Rs.bind_ok] at h
    intro us Z1 H1 p1 q1
    cases he : escs e1 rs with
    | no => rw [he] at h; exact h.elim
    | ex c fs e => exact absurd he (escs_ex _ _ _ _ _)
    | ok xs e2 =>
      rw [he, Rs.bind_ok] at h
      obtain ⟨Z2, P2, rl, _⟩ := escs_ok p1 q1 he
      cases rl with
      | nil => exact h.elim
      | cons rv rr =>
        cases rr with
        | cons _ _ => cases rv <;> exact h.elim
        | nil =>
          cases rv with
          | lst hs r => exact ⟨_, _, rfl, hs.sq, h Z2 H1 _ P2 (walk_enum hs r)⟩
          | _ => exact h.elim
theorem si_zip {a b : Expr} {fa : As} {p : Pos} (hm : X.mg "zip" = none) (ha : SA X xc W [a, b] fa) (hg : Gl X "zip" := by rfl) (hs : starEach [a, b] X.env = (false, eval a X.env) :: starEach [b] X.env := by rfl) (hpl : (backTo pos (starEach [b] X.env)).any (·.1) = false := by rfl) :
    SI X xc W (.Tuple elts kk tpos) (.Call (.Name "zip" p) [a, b] [] pos) (iZipS fa) := by
  refine PI_imp (pi_zipA hg hm ha hs hpl) fun σ H R h => ?_
  obtain ⟨pa, Zs, env, re, h⟩ := h
  refine ⟨pa, Zs, env, re, ?_⟩
  unfold iZipS at h
  cases hf : fa env with
  | no => rw [hf] at h; exact h
  | ex c fs e1 => rw [hf] at h; exact h
  | ok rs e1 =>
    rw [hf, Rs.bind_ok] at h
    intro us Z1 H1 p1 q1
    cases he : escs e1 rs with
    | no => rw [he] at h; exact h.elim
    | ex c fs e => exact absurd he (escs_ex _ _ _ _ _)
    | ok xs e2 =>
      rw [he, Rs.bind_ok] at h
      obtain ⟨Z2, P2, rl, _⟩ := escs_ok p1 q1 he
      cases rl with
      | nil => exact h.elim
      | cons rv rr =>
        cases rr with
        | nil => cases rv <;> exact h.elim
        | cons rw rr =>
          cases rr with
          | cons _ _ => cases rv <;> cases rw <;> exact h.elim
          | nil =>
            cases rv with
            | lst hs r =>
              cases rw with
              | lst ks s => exact ⟨_, _, _, _, rfl, .inl ⟨hs.sq, ks.sq, h Z2 H1 _ P2 (walk_zip hs r ks s)⟩⟩
              | _ => exact h.elim
            | tup hs r =>
              cases rw with
              | tup ks s => exact ⟨_, _, _, _, rfl, .inr ⟨hs, ks, h Z2 H1 _ P2 (walk_zipT hs r ks s)⟩⟩
              | _ => exact h.elim
            | _ => cases rw <;> exact h.elim
end
end Z
/-! ZM: several types at once. -/
namespace Z
open PySem L2 PySem.Spec
/-- name op= a, numbers -/
def sAug (i : Nat) (f : Val → Val → Option RV) (a : E) : S := fun e => match eget e i with
  | .v x => (a e).bind fun r e1 => (opt (peek e1 r) e1).bind fun y _ => match f x y with
    | some (.v z) => (sto e1 i (.v z)).bind fun _ e2 => .ok .nx e2
    | _ => .no
  | _ => .no
section
variable {X : Cx} {xc : Xc} {W : WX} {pos : Pos}
theorem ss_aug (i : Nat) {x : Str} {e : Expr} {fa : E} {op : Operator} {f : Val → Val → Option RV} {pos' : Pos} (hN : X.N.Nodup) (ho : OpS X (inplaceOp op) f) (ha : SE X xc W e fa) (hi : X.N[i]? = some x := by rfl) (hx : Loc X.env.scope x := by first | exact Or.inl rfl | exact Or.inr rfl)
    (hf : X.fn x = true ∨ X.env.scope.names.lookup x = some .local := by first | exact .inl rfl | exact .inr rfl) : SS X xc W (.AugAssign (.Name x pos') op e pos) (sAug i f fa) := by
  obtain ⟨r0, h1, h2⟩ := ho.ex
  refine PS_imp (ps_aug hN hi hx ha h1 hf) fun D σ H h => ?_
  obtain ⟨pa, Zs, env, re, h⟩ := h
  unfold sAug at h
  cases hs : eget env i with
  | v y =>
    simp only [hs] at h
    have q := re.sl i
    rw [hs] at q
    obtain ⟨u, hu, rv⟩ := q
    refine ⟨u, hu, pa, Zs, env, re, h.cont fun r e1 w Z1 H1 _ p1 q1 h => ?_⟩
    cases hp : peek e1 r with
    | none => rw [hp] at h; exact h.elim
    | some y2 =>
      rw [hp, opt_some, Rs.bind_ok] at h
      cases hz : f y y2 with
      | none => rw [hz] at h; exact h.elim
      | some z0 =>
        rw [hz] at h
        cases z0 with
        | own _ => exact h.elim
        | bor _ => exact h.elim
        | v z =>
          dsimp only at h
          refine h2 Z1 H1 y y2 (.v z) u w _ p1.re.zd hz (.inl (rv.ext p1.ext re.owOk)) (peek_rd p1.re q1 hp) fun u' Z2 H2 ex rz => ?_
          cases hst : sto e1 i (.v z) with
          | no => rw [hst] at h; exact h.elim
          | ex c fs e => exact absurd hst sto_ex
          | ok _ e2 =>
            rw [hst, Rs.bind_ok] at h
            obtain ⟨Z3, P3, _⟩ := sto_ok (s := ⟨pa, Zs, H, σ, env⟩) (r := .v z) (u := u') (p1.trans (p1.re.growP ex)).toPost rz hst
            exact h _ Z3 H2 P3
  | _ => simp only [hs] at h; exact h.elim
def iAdd : Val → Val → Option RV
  | .int i, .int j => some (.v (.int (i + j)))
  | _, _ => none
def iSub : Val → Val → Option RV
  | .int i, .int j => some (.v (.int (i - j)))
  | _, _ => none
@[simp] theorem iAdd_int (i j : Int) : iAdd (.int i) (.int j) = some (.v (.int (i + j))) := rfl
@[simp] theorem iSub_int (i j : Int) : iSub (.int i) (.int j) = some (.v (.int (i - j))) := rfl
theorem ios_add : OpS X (inplaceOp .Add) iAdd := os_int0 (c := fun i j => .int (i + j)) iop_add (fun _ _ _ _ _ => .int _) fun x y z h => by
  unfold iAdd at h; split at h <;> cases h; exact ⟨_, _, rfl, rfl, rfl⟩
theorem ios_sub : OpS X (inplaceOp .Sub) iSub := os_int0 (c := fun i j => .int (i - j)) iop_sub (fun _ _ _ _ _ => .int _) fun x y z h => by
  unfold iSub at h; split at h <;> cases h; exact ⟨_, _, rfl, rfl, rfl⟩
theorem pt_nil : PA X [] (fun _ H Q => Q (([] : List Bt).map fun T => V.ty T.name) H) := pa_nil
theorem pt_cons {n : Str} {T : Bt} {Ts : List Bt} {p : Pos} {es : List Expr} (hn : X.mg n = none) (r : PA X es (fun _ H Q => Q (Ts.map fun T => V.ty T.name) H)) (hv : bootBuiltins n = some (.type T.name) := by first | rfl | decide +kernel)
    (hg : Gl X n := by rfl) (hnn : n ≠ "__name__" := by decide) (hnd : (n == ("__debug__" : Str)) = false := by decide) (hs : starEach (.Name n p :: es) X.env = (false, eval (.Name n p) X.env) :: starEach es X.env := by rfl) : PA X (.Name n p :: es) (fun _ H Q => Q ((T :: Ts).map fun T => V.ty T.name) H) :=
  pa_cons (show PE X (.Name n p) (tC (.ty T.name)) from pe_bltn hg hn hv rfl hnn hnd) r hs
end
end Z
/-! ZN: ranges downwards. -/
namespace Z
open PySem L2 PySem.Spec
def rangeD (i : Int) (n : Nat) : List Val := (List.range n).map fun k : Nat => .int (i + (k : Int) * -1)
def rng3 : List RV → Option (List Val)
  | [.v (.int i), .v (.int j), .v (.int c)] => if c = -1 ∧ i.natAbs < 4611686018427387904 ∧ j.natAbs < 4611686018427387904 then some (rangeD i (i - j).toNat) else none
  | _ => none
def iRange3 (a : As) : Src := fun e => (a e).bind fun rs e1 => opt (rng3 rs) e1
theorem rng3_some {rs : List RV} {xs : List Val} (h : rng3 rs = some xs) : ∃ i j : Int, rs = [.v (.int i), .v (.int j), .v (.int (-1))] ∧ i.natAbs < 4611686018427387904 ∧ j.natAbs < 4611686018427387904 ∧ xs = rangeD i (i - j).toNat := by
  unfold rng3 at h
  split at h
  · split at h
    · rename_i hc
      obtain ⟨rfl, hi, hj⟩ := hc
      cases h
      exact ⟨_, _, rfl, hi, hj, rfl⟩
    · cases h
  · cases h
theorem rangeD_get {lo : Int} {n i : Nat} {x : Val} (h : (rangeD lo n)[i]? = some x) : i < n ∧ x = .int (lo + (i : Int) * -1) := by
  unfold rangeD at h
  rw [List.getElem?_map] at h
  by_cases hi : i < n
  · rw [List.getElem?_range hi] at h
    cases h
    exact ⟨hi, rfl⟩
  · rw [List.getElem?_eq_none_iff.mpr (by simpa using hi)] at h
    cases h
theorem walk_rngD {g : Gm} {Zs : Addr → Prop} {H : Hp} {lo : Int} {n : Nat} : Walk g Zs H (Itc lo (-1) n) (rangeD lo n) := by
  intro Z2 H2 gr zd
  refine ⟨fun i x hx => ?_, fun i hi => (by simpa [rangeD] using hi : n ≤ i)⟩
  obtain ⟨hi, rfl⟩ := rangeD_get hx
  refine ⟨hi, fun u H3 y => ?_⟩
  obtain ⟨e, y⟩ := y
  subst e y
  exact ⟨Z2, Ext.refl zd, .int _⟩
section
variable {X : Cx} {xc : Xc} {W : WX} {pos : Pos} {tg : Expr}
theorem si_range3 {a b c : Expr} {fa : As} {p : Pos} (hm : X.mg "range" = none) (ha : SA X xc W [a, b, c] fa) (hg : Gl X "range" := by rfl) (hs : starEach [a, b, c] X.env = (false, eval a X.env) :: starEach [b, c] X.env := by rfl) (hpl : (backTo pos (starEach [b, c] X.env)).any (·.1) = false := by rfl) :
    SI X xc W tg (.Call (.Name "range" p) [a, b, c] [] pos) (iRange3 fa) := by
  refine PI_imp (pi_range3 hg hm ha hs hpl) fun σ H R h => ?_
  obtain ⟨pa, Zs, env, re, h⟩ := h
  refine ⟨pa, Zs, env, re, ?_⟩
  unfold iRange3 at h
  cases hf : fa env with
  | no => rw [hf] at h; exact h
  | ex c fs e1 => rw [hf] at h; exact h
  | ok rs e1 =>
    rw [hf, Rs.bind_ok] at h
    intro us Z1 H1 p1 q1
    cases hr : rng3 rs with
    | none => rw [hr] at h; exact h.elim
    | some xs =>
      rw [hr, opt_some] at h
      obtain ⟨i, j, rfl, hi, hj, rfl⟩ := rng3_some hr
      cases q1 with
      | cons r1 q1 _ =>
        cases q1 with
        | cons r2 q1 _ =>
          cases q1 with
          | cons r3 q1 _ =>
            cases q1
            cases r1
            cases r2
            cases r3
            exact ⟨i, j, -1, _, rfl, RgC.neg (by omega) (by omega) (by omega) (by omega), h Z1 H1 _ p1 walk_rngD⟩
end
end Z
/-! ZO: a < b < c as a test, a, b, c = x, y, z, the least, the greatest, the order of alike data. -/
namespace Z
open PySem L2 PySem.Spec PyProof.Rows
open PySem.W (alike alikeAll dataLt alike_unique keyToks keyToksAll minD maxD AlikeAll reads_keeps min_list_data max_list_data readsAll_at)
section
variable {X : Cx} {xc : Xc} {W : WX} {pos : Pos}
/-- a truth value as a test -/
theorem rd_bool {g : Gm} {f : E} {σ : L2.St} {H : Hp} {Q : Bool → Hp → Prop} (hb : ∀ e r e1, f e = .ok r e1 → ∃ k, r = .v (.bl k)) (h : rdT g xc W (tE f) σ H Q) : rd g xc W f σ H fun v H' => ∃ k, v = .bl k ∧ Q k H' := by
  obtain ⟨pa, Zs, env, re, h⟩ := h
  refine ⟨pa, Zs, env, re, ?_⟩
  unfold tE at h
  cases hq : f env with
  | no => rw [hq] at h; exact h
  | ex c fs e1 => rw [hq] at h; exact h
  | ok r e1 =>
    obtain ⟨k, rfl⟩ := hb _ _ _ hq
    rw [hq] at h
    intro u Z1 H1 p1 q1
    cases q1
    exact ⟨k, rfl, h k Z1 H1 p1 rfl⟩
theorem chain_bl {f g : Val → Val → Option RV} {a b c : E} (hf : ∀ x y z, f x y = some z → ∃ k, z = .v (.bl k)) (hg : ∀ x y z, g x y = some z → ∃ k, z = .v (.bl k)) : ∀ e r e1, eChain f g a b c e = .ok r e1 → ∃ k, r = .v (.bl k) := by
  intro e r e1 h
  unfold eChain at h
  cases h1 : a e with
  | no => rw [h1] at h; cases h
  | ex _ _ _ => rw [h1] at h; cases h
  | ok r1 e2 =>
    rw [h1, Rs.bind_ok] at h
    cases h2 : b e2 with
    | no => rw [h2] at h; cases h
    | ex _ _ _ => rw [h2] at h; cases h
    | ok r2 e3 =>
      rw [h2, Rs.bind_ok] at h
      cases h3 : peek e3 r1 with
      | none => rw [h3] at h; cases h
      | some x =>
        cases h4 : peek e3 r2 with
        | none => rw [h3, h4] at h; cases h
        | some y =>
          rw [h3, h4] at h
          simp only [opt_some, Rs.bind_ok] at h
          cases h5 : f x y with
          | none => rw [h5] at h; cases h
          | some z =>
            obtain ⟨k, rfl⟩ := hf _ _ _ h5
            rw [h5] at h
            simp only [opt_some, Rs.bind_ok] at h
            cases k with
            | false => cases h; exact ⟨_, rfl⟩
            | true =>
              simp only at h
              cases h6 : c e3 with
              | no => rw [h6] at h; cases h
              | ex _ _ _ => rw [h6] at h; cases h
              | ok r3 e4 =>
                rw [h6, Rs.bind_ok] at h
                cases h7 : peek e4 r2 with
                | none => rw [h7] at h; cases h
                | some y' =>
                  cases h8 : peek e4 r3 with
                  | none => rw [h7, h8] at h; cases h
                  | some w =>
                    rw [h7, h8] at h
                    simp only [opt_some, Rs.bind_ok] at h
                    cases h9 : g y' w with
                    | none => rw [h9] at h; cases h
                    | some z' =>
                      rw [h9] at h
                      cases h
                      exact hg _ _ _ h9
/-- what se_chain shows of readings -/
theorem chain_end {op op' : CmpOp} {f f' : Val → Val → Option RV} {fa fb fc : E} {r r' : R2} (hbl : ∀ x y z, f x y = some z → ∃ k, z = .v (.bl k))
    (h2 : ∀ (Zs : Addr → Prop) (H : Hp) (x y : Val) (z : RV) (u w : V) (Q : VK), Zd Zs H → f x y = some z → RdV (gX X) Zs H x u → RdV (gX X) Zs H y w → Ans (gX X) Zs H z Q → r u w H Q)
    (h2' : ∀ (Zs : Addr → Prop) (H : Hp) (x y : Val) (z : RV) (u w : V) (Q : VK), Zd Zs H → f' x y = some z → RdV (gX X) Zs H x u → RdV (gX X) Zs H y w → Ans (gX X) Zs H z Q → r' u w H Q)
    (nb : ∀ x y i, f' x y ≠ some (.bor i)) {σ : L2.St} {H : Hp} {Q : VK} (h : rd (gX X) xc W (eChain f f' fa fb fc) σ H Q) : tChain r r' (rd (gX X) xc W fa) (rd (gX X) xc W fb) (rd (gX X) xc W fc) σ H Q := by
  obtain ⟨pa, Zs, env, re, h⟩ := h
  refine ⟨pa, Zs, env, re, h.cont fun r1 e1 u Z1 H1 _ p1 q1 h => ?_⟩
  refine ⟨pa, Z1, e1, p1.re, (h.shiftE p1).cont fun r2 e2 w Z2 H2 _ p2 q2 h => ?_⟩
  have q1' := q1.step p1.re p2
  cases hx : peek e2 r1 with
  | none => rw [hx] at h; exact h.elim
  | some x =>
    cases hy : peek e2 r2 with
    | none => rw [hx, hy] at h; exact h.elim
    | some y =>
      rw [hx, hy] at h
      cases h3 : f x y with
      | none => simp only [opt_some, Rs.bind_ok, h3, opt_none, Rs.bind_no] at h; exact h.elim
      | some z =>
        simp only [opt_some, Rs.bind_ok, h3] at h
        obtain ⟨k, rfl⟩ := hbl x y z h3
        refine h2 Z2 H2 x y _ u w _ p2.re.zd h3 (peek_rd p2.re q1' hx) (peek_rd p2.re q2 hy) ?_
        intro v Z3 H3 ex rv
        cases rv with
        | bl b =>
          refine ⟨k, rfl, ?_⟩
          have p3 := p2.re.growP ex
          have q2' := q2.step p2.re p3
          cases k with
          | false =>
            rw [if_neg Bool.false_ne_true]
            exact h _ Z3 H3 (p2.trans p3) (.bl false)
          | true =>
            rw [if_pos rfl]
            refine ⟨pa, Z3, e2, p3.re, (h.shiftE (p2.trans p3)).cont fun r4 e4 t Z4 H4 _ p4 q4 h => ?_⟩
            have q2'' := q2'.step p3.re p4
            cases hy : peek e4 r2 with
            | none => rw [hy] at h; exact h.elim
            | some y =>
              cases hw : peek e4 r4 with
              | none => rw [hy, hw] at h; exact h.elim
              | some c' =>
                rw [hy, hw] at h
                cases h5 : f' y c' with
                | none => simp only [opt_some, Rs.bind_ok, h5, opt_none] at h; exact h.elim
                | some z' =>
                  simp only [opt_some, Rs.bind_ok, h5] at h
                  exact h2' Z4 H4 y c' z' _ _ _ p4.re.zd h5 (peek_rd p4.re q2'' hy) (peek_rd p4.re q4 hw) (Ans.of h p4 fun i e => nb y c' i (by rw [h5, e]))
theorem st_chain {op op' : CmpOp} {f f' : Val → Val → Option RV} {a b c : Expr} {fa fb fc : E} (ho : OpS X (compareOp op) f) (ho' : OpS X (compareOp op') f') (hbl : ∀ x y z, f x y = some z → ∃ k, z = .v (.bl k)) (hbl' : ∀ x y z, f' x y = some z → ∃ k, z = .v (.bl k))
    (hp : ∀ (r r' : R2), OpR X (compareOp op) r → OpR X (compareOp op') r' → PT X (.Compare a [op, op'] [b, c] pos) (tTest (tChain r r' (rd (gX X) xc W fa) (rd (gX X) xc W fb) (rd (gX X) xc W fc)))) : ST X xc W (.Compare a [op, op'] [b, c] pos) (tE (eChain f f' fa fb fc)) := by
  obtain ⟨r, h1, h2⟩ := ho.ex
  obtain ⟨r', h1', h2'⟩ := ho'.ex
  refine PT_imp (hp r r' h1 h1') fun σ H Q h => ?_
  exact chain_end (op := op) (op' := op') hbl h2 h2' ho'.nb (rd_bool (chain_bl hbl hbl') h)
/-- a, b, c = x, y, z; three plain local names -/
theorem ss_par3 (i j l : Nat) {x y z : Str} {a b c : Expr} {fa : As} {px py pz pt : Pos} {kt k2 pt2} (hc : X.calm = true) (hN : X.N.Nodup) (ha : SA X xc W [a, b, c] fa)
    (hw : swappedStores [.Tuple [.Name x px, .Name y py, .Name z pz] kt pt] (.Tuple [a, b, c] k2 pt2) X.env = pure (some [x, y, z]) := by rfl)
    (hs : swapsWithSole [.Tuple [.Name x px, .Name y py, .Name z pz] kt pt] (.Tuple [a, b, c] k2 pt2) pos.line X.env = pure false := by rfl)
    (hi : X.N[i]? = some x := by rfl) (hj : X.N[j]? = some y := by rfl) (hl : X.N[l]? = some z := by rfl) (hij : i ≠ j := by decide) (hil : i ≠ l := by decide) (hjl : j ≠ l := by decide)
    (hx : X.env.scope.names.lookup x = some .local := by rfl) (hy : X.env.scope.names.lookup y = some .local := by rfl) (hz : X.env.scope.names.lookup z = some .local := by rfl) :
    SS X xc W (.Assign [.Tuple [.Name x px, .Name y py, .Name z pz] kt pt] (.Tuple [a, b, c] k2 pt2) pos) (sPar [i, j, l] fa) := by
  refine PS_imp (ps_par3 hc hN hi hj hl hij hil hjl hx hy hz ha hw hs) fun D σ H h => ?_
  obtain ⟨pa, Zs, env, re, h⟩ := par_end h
  refine ⟨pa, Zs, env, re, ?_⟩
  cases hq : fa env with
  | no => rw [hq] at h; exact h
  | ex c fs e1 => rw [hq] at h; exact h
  | ok rs e1 =>
    rw [hq] at h
    intro us Z1 H1 p1 q1
    obtain ⟨hl, h1, _⟩ := h us Z1 H1 p1 q1
    obtain ⟨u, w, t, rfl⟩ := len3 hl
    exact ⟨u, w, t, rfl, h1⟩
end

/-! ### alike data -/
/-- the two can be compared place by place (alike, by content) -/
def valike (x y : Val) : Bool := alike (toD x) (toD y)
def vlt (x y : Val) : Bool := dataLt (toD x) (toD y)
def allAlike (xs : List Val) : Bool := xs.all (fun x => vok 60 x && !isN x && xs.all (fun y => valike x y))
def minV (x : Val) (xs : List Val) : Val := xs.foldl (fun a y => if vlt y a then y else a) x
def maxV (x : Val) (xs : List Val) : Val := xs.foldl (fun a y => if vlt a y then y else a) x
def fMinD : List Val → Option RV
  | [.lst (x :: xs)] => if allAlike (x :: xs) then some (.v (minV x xs)) else none
  | _ => none
def fMaxD : List Val → Option RV
  | [.lst (x :: xs)] => if allAlike (x :: xs) then some (.v (maxV x xs)) else none
  | _ => none
theorem toDs_map : ∀ xs : List Val, toDs xs = xs.map toD
  | [] => rfl
  | x :: xs => by rw [toDs, toDs_map xs, List.map_cons]
theorem minV_toD : ∀ (xs : List Val) (x : Val), toD (minV x xs) = minD (toD x) (toDs xs)
  | [], _ => rfl
  | y :: ys, x => by
    rw [toDs]
    show toD (minV (if vlt y x then y else x) ys) = minD (if dataLt (toD y) (toD x) then toD y else toD x) (toDs ys)
    rw [minV_toD ys, ← apply_ite toD] <;> rfl
theorem maxV_toD : ∀ (xs : List Val) (x : Val), toD (maxV x xs) = maxD (toD x) (toDs xs)
  | [], _ => rfl
  | y :: ys, x => by
    rw [toDs]
    show toD (maxV (if vlt x y then y else x) ys) = maxD (if dataLt (toD x) (toD y) then toD y else toD x) (toDs ys)
    rw [maxV_toD ys, ← apply_ite toD] <;> rfl
theorem minV_mem : ∀ (xs : List Val) (x : Val), minV x xs ∈ x :: xs
  | [], x => List.mem_cons_self
  | y :: ys, x => by
    show minV (if vlt y x then y else x) ys ∈ _
    rcases List.mem_cons.mp (minV_mem ys (if vlt y x then y else x)) with h | h
    · rw [h]
      split
      · exact List.mem_cons_of_mem _ List.mem_cons_self
      · exact List.mem_cons_self
    · exact List.mem_cons_of_mem _ (List.mem_cons_of_mem _ h)
theorem maxV_mem : ∀ (xs : List Val) (x : Val), maxV x xs ∈ x :: xs
  | [], x => List.mem_cons_self
  | y :: ys, x => by
    show maxV (if vlt x y then y else x) ys ∈ _
    rcases List.mem_cons.mp (maxV_mem ys (if vlt x y then y else x)) with h | h
    · rw [h]
      split
      · exact List.mem_cons_of_mem _ List.mem_cons_self
      · exact List.mem_cons_self
    · exact List.mem_cons_of_mem _ (List.mem_cons_of_mem _ h)
theorem toDs_inj (n : Nat) (ih : ∀ (x y : Val), vok n x = true → vok n y = true → toD x = toD y → x = y) : ∀ (xs ys : List Val), xs.all (vok n) = true → ys.all (vok n) = true → toDs xs = toDs ys → xs = ys
  | [], [], _, _, _ => rfl
  | [], y :: ys, _, _, e => by rw [toDs, toDs] at e; cases e
  | x :: xs, [], _, _, e => by rw [toDs, toDs] at e; cases e
  | x :: xs, y :: ys, h, k, e => by
    rw [List.all_cons, Bool.and_eq_true] at h k
    rw [toDs, toDs] at e
    obtain ⟨e1, e2⟩ := List.cons.inj e
    rw [ih x y h.1 k.1 e1, toDs_inj n ih xs ys h.2 k.2 e2]
theorem toD_inj : ∀ (n : Nat) (x y : Val), vok n x = true → vok n y = true → toD x = toD y → x = y
  | 0, x, y, h, k, e => by
    cases x <;> first | (cases h; done) | skip
    all_goals (cases y <;> first | (cases k; done) | skip)
    all_goals (simp only [toD] at e; first | rfl | (cases e; rfl) | (cases e; done))
  | n + 1, x, y, h, k, e => by
    cases x <;> first | (cases h; done) | skip
    all_goals (cases y <;> first | (cases k; done) | skip)
    all_goals (simp only [toD] at e; first | rfl | (cases e; done) | skip)
    all_goals first
      | (cases e; rfl)
      | (exact congrArg _ (toDs_inj n (toD_inj n) _ _ h k (PyData.tuple.inj e)))
      | (exact congrArg _ (toDs_inj n (toD_inj n) _ _ h k (PyData.list.inj e)))
theorem toD_none {x : Val} (h : vok 60 x = true) (e : toD x = .none) : isN x = true := by
  cases x <;> first | rfl | (cases h; done) | (simp only [toD] at e; cases e)
theorem allAlike_iff {xs : List Val} (h : allAlike xs = true) : (∀ x ∈ xs, vok 60 x = true ∧ isN x = false) ∧ ∀ x ∈ xs, ∀ y ∈ xs, valike x y = true := by
  unfold allAlike at h
  rw [List.all_eq_true] at h
  refine ⟨fun x m => ?_, fun x m y m' => ?_⟩
  · have q := h x m
    simp only [Bool.and_eq_true, Bool.not_eq_true'] at q
    exact q.1
  · have q := h x m
    simp only [Bool.and_eq_true, List.all_eq_true] at q
    exact q.2 y m'
theorem allAlike_of {xs : List Val} (h1 : ∀ x ∈ xs, vok 60 x = true ∧ isN x = false) (h2 : ∀ x ∈ xs, ∀ y ∈ xs, valike x y = true) : allAlike xs = true := by
  unfold allAlike
  rw [List.all_eq_true]
  intro x m
  simp only [Bool.and_eq_true, Bool.not_eq_true', List.all_eq_true]
  exact ⟨h1 x m, fun y m' => h2 x m y m'⟩
theorem allAlike_D {xs : List Val} (h : allAlike xs = true) : AlikeAll (toDs xs) := by
  obtain ⟨h1, h2⟩ := allAlike_iff h
  rw [toDs_map]
  refine ⟨fun d m d' m' => ?_, fun d m e => ?_⟩
  · obtain ⟨x, hx, rfl⟩ := List.mem_map.mp m
    obtain ⟨y, hy, rfl⟩ := List.mem_map.mp m'
    exact h2 x hx y hy
  · obtain ⟨x, hx, rfl⟩ := List.mem_map.mp m
    obtain ⟨k1, k2⟩ := h1 x hx
    rw [toD_none k1 e] at k2
    cases k2
theorem depth_all : ∀ {xs : List Val} {n : Nat}, (∀ x ∈ xs, vok n x = true) → PyData.depthAll (toDs xs) ≤ n
  | [], n, _ => Nat.zero_le _
  | x :: xs, n, h => by
    rw [toDs, PyData.depthAll]
    exact Nat.max_le.mpr ⟨(vok_shape n x (h x List.mem_cons_self)).2, depth_all fun y m => h y (List.mem_cons_of_mem _ m)⟩
theorem vals_at : ∀ {us : List V} {its : List Value}, Vals us its → ∀ (i : Nat) (v : Value), its[i]? = some v → ∃ u, us[i]? = some u ∧ RelV u v
  | _, _, .nil, i, v, h => by simp at h
  | _, _, .cons r rs, 0, v, h => by
    have e := Option.some.inj (show some _ = some v from h)
    subst e
    exact ⟨_, rfl, r⟩
  | _, _, .cons r rs, i + 1, v, h => by
    obtain ⟨u, h1, h2⟩ := vals_at rs i v (by simpa using h)
    exact ⟨u, by simpa using h1, h2⟩
/-- the least, the greatest of a list of alike data: the item that stands there -/
def rPickD (K : PySem.W.Frag) (pick : PyData → List PyData → PyData) : List V → Hp → VK → Prop := fun vs H Q => ∃ (a : Addr) (us : List V) (d : PyData) (ds : List PyData), vs = [V.ref a] ∧ SqL K H a us ∧ DpAll K H us (d :: ds) ∧ AlikeAll (d :: ds) ∧ PyData.depthAll (d :: ds) ≤ 60 ∧
  ∀ (i : Nat) (u : V), us[i]? = some u → (d :: ds)[i]? = some (pick d ds) → Q u H
section
variable {X : Cx}
theorem minD_mem : ∀ (ds : List PyData) (d : PyData), minD d ds ∈ d :: ds
  | [], x => List.mem_cons_self
  | y :: ys, x => by
    show minD (if dataLt y x then y else x) ys ∈ _
    rcases List.mem_cons.mp (minD_mem ys (if dataLt y x then y else x)) with h | h
    · rw [h]
      split
      · exact List.mem_cons_of_mem _ List.mem_cons_self
      · exact List.mem_cons_self
    · exact List.mem_cons_of_mem _ (List.mem_cons_of_mem _ h)
theorem maxD_mem : ∀ (ds : List PyData) (d : PyData), maxD d ds ∈ d :: ds
  | [], x => List.mem_cons_self
  | y :: ys, x => by
    show maxD (if dataLt x y then y else x) ys ∈ _
    rcases List.mem_cons.mp (maxD_mem ys (if dataLt x y then y else x)) with h | h
    · rw [h]
      split
      · exact List.mem_cons_of_mem _ List.mem_cons_self
      · exact List.mem_cons_self
    · exact List.mem_cons_of_mem _ (List.mem_cons_of_mem _ h)
theorem pick_at {s : Shared} {h' : Heap} {its : List Value} {d p : PyData} {ds : List PyData} {as bs : List Addr} {i : Nat} {v : Value} (hr : ReadsAll s.heap its (d :: ds) as) (ha : AlikeAll (d :: ds)) (hp : p ∈ d :: ds) (hi : its[i]? = some v) (hv : Reads h' v p bs)
    (keep : ∀ b o, s.heap.get? b = some o → h'.get? b = some o) : (d :: ds)[i]? = some p := by
  obtain ⟨cs, r, hlt, hm, _⟩ := readsAll_at hr i v hi
  have e := alike_unique _ _ _ _ _ (ha.1 _ hm _ hp) (reads_keeps keep r) hv
  rw [← e, List.getElem?_eq_getElem hlt, List.getD_eq_getElem?_getD, List.getElem?_eq_getElem hlt]
  rfl
theorem cr_minD (hc : X.calm = true) (hu : X.A.units + 64 < cLine) : CallR X (.builtin "min") (rPickD X.K minD) := by
  intro pins s σ H vs us Q I r h
  obtain ⟨a, ws, d, ds, rfl, hs, hd, ha, hn, q⟩ := h
  obtain ⟨its, rv, hl, _⟩ := I.list hs
  rw [Vals.ref1 r]
  obtain ⟨as, hr⟩ := Dp.readsAll I _ _ _ hd rv
  refine min_list_data (I.ok.hd hc) hl.isList (by simpa using hr) ha (by omega) fun i v h' tk bs hi hv keep => ?_
  have hi' : its[i]? = some v := by simpa using hi
  obtain ⟨u, h1, h2⟩ := vals_at rv i v hi'
  exact ⟨u, H, I.kept keep, h2, q i u h1 (pick_at hr ha (minD_mem ds d) hi' hv keep)⟩
theorem cr_maxD (hc : X.calm = true) (hu : X.A.units + 64 < cLine) : CallR X (.builtin "max") (rPickD X.K maxD) := by
  intro pins s σ H vs us Q I r h
  obtain ⟨a, ws, d, ds, rfl, hs, hd, ha, hn, q⟩ := h
  obtain ⟨its, rv, hl, _⟩ := I.list hs
  rw [Vals.ref1 r]
  obtain ⟨as, hr⟩ := Dp.readsAll I _ _ _ hd rv
  refine max_list_data (I.ok.hd hc) hl.isList (by simpa using hr) ha (by omega) fun i v h' tk bs hi hv keep => ?_
  have hi' : its[i]? = some v := by simpa using hi
  obtain ⟨u, h1, h2⟩ := vals_at rv i v hi'
  exact ⟨u, H, I.kept keep, h2, q i u h1 (pick_at hr ha (maxD_mem ds d) hi' hv keep)⟩
theorem pick_end {g : Gm} {Zs : Addr → Prop} {H : Hp} {x p : Val} {xs : List Val} {pk : PyData} {us : List V} {Q : VK} {i : Nat} {u : V} (z : Zd Zs H) (rl : RvL g Zs H (x :: xs) us) (h1 : ∀ y ∈ x :: xs, vok 60 y = true ∧ isN y = false) (hp : p ∈ x :: xs) (e : toD p = pk)
    (q : Ans g Zs H (.v p) Q) (hi : us[i]? = some u) (hd : (toDs (x :: xs))[i]? = some pk) : Q u H := by
  rw [toDs_map, List.getElem?_map] at hd
  cases hx : (x :: xs)[i]? with
  | none => rw [hx] at hd; cases hd
  | some y =>
    rw [hx] at hd
    have hd' : toD y = pk := Option.some.inj hd
    have my := List.mem_of_getElem? hx
    have ep : y = p := toD_inj 60 _ _ (h1 y my).1 (h1 p hp).1 (hd'.trans e.symm)
    subst ep
    obtain ⟨w, h2, h3⟩ := rl.get hx
    rw [hi] at h2
    cases h2
    exact q.val z h3
theorem cs_minD (hc : X.calm = true) (hu : X.A.units + 64 < cLine) : CallS X (.builtin "min") fMinD := by
  have cs : ∀ {xs z}, fMinD xs = some z → ∃ (x : Val) (r : List Val), xs = [.lst (x :: r)] ∧ allAlike (x :: r) = true ∧ z = .v (minV x r) := fun {xs z} h => by
    unfold fMinD at h; split at h
    · split at h
      · rename_i c
        cases h
        exact ⟨_, _, rfl, c, rfl⟩
      · cases h
    · cases h
  refine ⟨⟨_, cr_minD hc hu, fun Zs H xs z us Q zd hf hx q => ?_⟩, fun xs i h => ?_⟩
  · obtain ⟨x, r, rfl, ca, rfl⟩ := cs hf
    obtain ⟨u, rfl, h⟩ := hx.one
    obtain ⟨a, ws, rfl, hl, rl⟩ := h.lst
    obtain ⟨h1, h2⟩ := allAlike_iff ca
    refine ⟨a, ws, toD x, toDs r, rfl, .inl hl, rl.dp 60 (List.all_eq_true.mpr fun y m => (h1 y m).1), allAlike_D ca, depth_all (xs := x :: r) fun y m => (h1 y m).1, fun i u hi hd => ?_⟩
    exact pick_end zd rl h1 (minV_mem r x) (minV_toD r x) q hi hd
  · obtain ⟨_, _, _, _, e⟩ := cs h; cases e
theorem cs_maxD (hc : X.calm = true) (hu : X.A.units + 64 < cLine) : CallS X (.builtin "max") fMaxD := by
  have cs : ∀ {xs z}, fMaxD xs = some z → ∃ (x : Val) (r : List Val), xs = [.lst (x :: r)] ∧ allAlike (x :: r) = true ∧ z = .v (maxV x r) := fun {xs z} h => by
    unfold fMaxD at h; split at h
    · split at h
      · rename_i c
        cases h
        exact ⟨_, _, rfl, c, rfl⟩
      · cases h
    · cases h
  refine ⟨⟨_, cr_maxD hc hu, fun Zs H xs z us Q zd hf hx q => ?_⟩, fun xs i h => ?_⟩
  · obtain ⟨x, r, rfl, ca, rfl⟩ := cs hf
    obtain ⟨u, rfl, h⟩ := hx.one
    obtain ⟨a, ws, rfl, hl, rl⟩ := h.lst
    obtain ⟨h1, h2⟩ := allAlike_iff ca
    refine ⟨a, ws, toD x, toDs r, rfl, .inl hl, rl.dp 60 (List.all_eq_true.mpr fun y m => (h1 y m).1), allAlike_D ca, depth_all (xs := x :: r) fun y m => (h1 y m).1, fun i u hi hd => ?_⟩
    exact pick_end zd rl h1 (maxV_mem r x) (maxV_toD r x) q hi hd
  · obtain ⟨_, _, _, _, e⟩ := cs h; cases e
/-- one of two readings of a built-in function -/
def fOr (f g : List Val → Option RV) : List Val → Option RV := fun xs => match f xs with
  | some r => some r
  | none => g xs
theorem cs_or {F : Value} {f g : List Val → Option RV} (h : CallS X F f) (k : CallS X F g) : CallS X F (fOr f g) := by
  obtain ⟨r, h1, h2⟩ := h.ex
  obtain ⟨r', k1, k2⟩ := k.ex
  refine ⟨⟨fun vs H Q => r vs H Q ∨ r' vs H Q, ?_, fun Zs H xs z us Q zd hf hx q => ?_⟩, fun xs i e => ?_⟩
  · intro pins s σ H vs us Q I rr h
    rcases h with h | h
    · exact h1 pins s σ H vs us Q I rr h
    · exact k1 pins s σ H vs us Q I rr h
  · unfold fOr at hf
    cases e : f xs with
    | some w =>
      rw [e] at hf
      exact .inl (h2 Zs H xs z us Q zd (by rw [e]; exact hf) hx q)
    | none =>
      rw [e] at hf
      exact .inr (k2 Zs H xs z us Q zd hf hx q)
  · unfold fOr at e
    cases e1 : f xs with
    | some w => rw [e1] at e; exact h.nb xs i (e1.trans e)
    | none => rw [e1] at e; exact k.nb xs i e
def fMinX : List Val → Option RV := fOr fMinL fMinD
def fMaxX : List Val → Option RV := fOr fMaxL fMaxD
theorem cs_minX (hc : X.calm = true) (hu : X.A.units + 64 < cLine) : CallS X (.builtin "min") fMinX := cs_or (cs_minL hc) (cs_minD hc hu)
theorem cs_maxX (hc : X.calm = true) (hu : X.A.units + 64 < cLine) : CallS X (.builtin "max") fMaxX := cs_or (cs_maxL hc) (cs_maxD hc hu)
end
end Z
set_option maxHeartbeats 4000000
/-! ZP: t * k, sum and enumerate of a tuple. -/
namespace L2
open PySem PySem.Spec PyProof.Rows
theorem tuple_mul1 (l : Addr) (items : Array Value) (n : Nat) (dd : Option Addr) (sl : Array (Option Value)) (u : Tok) :
    Meets (Builtin.«tuple.__mul__» ⟨[.ref l, .int 1 u], []⟩) (fun _ R s => s.heap.get? l = some { cls := .type "tuple", dict := dd, data := .seq items n, slots := sl } ∧
      R (.ok (.ret (Value.ref l))) s) :=
  .of_wp fun prog w A R s h => by
    obtain ⟨hp, g, d, tk, os⟩ := s
    obtain ⟨hl, h⟩ := h
    have f1 := AutoSeq1.idx_int
    have c1 : (items.isEmpty || ((1 : Int) == 1)) = true := by simp
    wp_walk using wpAny_loadPart' hl
    repeat (first
      | (refine wpAny_ite_false (decide_eq_false (by simp)) ?_; wp_walk using wpAny_loadPart' hl)
      | (refine wpAny_ite_true (decide_eq_true c1) ?_; wp_walk using wpAny_loadPart' hl))
    exact ⟨_, rfl, h⟩
theorem tuple_mul0 (l : Addr) (items : Array Value) (n : Nat) (dd : Option Addr) (sl : Array (Option Value)) (x : Int) (u : Tok) (c0 : (decide (x < -(2 ^ 63)) || decide (x ≥ 2 ^ 63)) = false) (c1 : (items.isEmpty || x == 1) = false) (c2 : (decide (x ≤ 0) || items.isEmpty) = true) :
    Meets (Builtin.«tuple.__mul__» ⟨[.ref l, .int x u], []⟩) (fun _ R s => s.heap.get? l = some { cls := .type "tuple", dict := dd, data := .seq items n, slots := sl } ∧
      R (.ok (.ret (Value.ref s.heap.objs.size))) { s with heap := s.heap.push { cls := Value.type "tuple", data := Data.seq #[] }, toks := s.toks }) :=
  .of_wp fun prog w A R s h => by
    obtain ⟨hp, g, d, tk, os⟩ := s
    obtain ⟨hl, h⟩ := h
    have f1 := AutoSeq1.idx_int
    wp_walk using wpAny_loadPart' hl
    repeat (first
      | (refine wpAny_ite_false (decide_eq_false (by rw [c0]; exact Bool.false_ne_true)) ?_; wp_walk using wpAny_loadPart' hl)
      | (refine wpAny_ite_false (decide_eq_false (by rw [c1]; exact Bool.false_ne_true)) ?_; wp_walk using wpAny_loadPart' hl)
      | (refine wpAny_ite_true (decide_eq_true c2) ?_; wp_walk using wpAny_loadPart' hl))
    exact ⟨_, rfl, h⟩
def rRepT1 (K : PySem.W.Frag) : R2 := fun x y H Q => ∃ l k xs, x = .ref l ∧ y = .int k ∧ SqT K H l xs ∧ xs ≠ [] ∧ -1000 ≤ k ∧ k ≤ 1 ∧ (k = 1 → Q (.ref l) H) ∧ (k ≠ 1 → ∀ p, H p = none → Q (.ref p) (upd H p (.tup [])))
section
variable {X : Cx}
theorem op_repT1 : OpR X (binaryOp .Mult) (rRepT1 X.K) := by
  intro pins s σ H x y v u Q I rx ry h
  obtain ⟨l, k, xs, rfl, rfl, hT, hne, h1, h2, q1, q0⟩ := h
  cases rx
  obtain ⟨t, rfl⟩ := ry
  obtain ⟨its, r, ⟨⟨cls, dd, data, sl⟩, ho, hc, n, hd⟩, hs⟩ := I.tuple hT
  simp only at hc hd
  subst hc hd
  have hle : its.length = xs.length := r.length.symm
  have hn : its ≠ [] := fun e => hne (by
    rw [e] at hle
    exact List.eq_nil_of_length_eq_zero hle.symm)
  have hi : its.toArray.isEmpty = false := by
    cases its with
    | nil => exact absurd rfl hn
    | cons a b => rfl
  refine wpAny_binaryOp_repeat_ref (T := "tuple") (U := "int") (by decide) ⟨_, ho, rfl⟩ (fun s' => typeIs_int s' k t) noFill_tuple_mul F.fills_int_mul F.slot_int_rmul repeat_tuple F.slot_int_index.lookup
    (call_meets F.slot_int_rmul (typeIs_int s k t) F.entry_int_rmul (F.args_int_rmul_2 _ _) (int_rmul_tuple k t l its.toArray n dd sl) ⟨ho, rfl, ⟨_, ho, rfl⟩, ?_⟩)
  by_cases e : k = 1
  · subst e
    refine call_meets F.slot_tuple_mul ⟨_, ho, rfl⟩ F.entry_tuple_mul (F.args_tuple_mul_2 _ _) (tuple_mul1 l its.toArray n dd sl t) ⟨ho, ?_⟩
    exact ⟨.ref l, H, I, rfl, q1 rfl⟩
  · refine call_meets F.slot_tuple_mul ⟨_, ho, rfl⟩ F.entry_tuple_mul (F.args_tuple_mul_2 _ _) (tuple_mul0 l its.toArray n dd sl k t ?_ ?_ ?_) ⟨ho, ?_⟩
    · rw [decide_eq_false (by omega), decide_eq_false (by omega)] <;> rfl
    · rw [hi, Bool.false_or]
      exact beq_eq_false_iff_ne.mpr e
    · rw [decide_eq_true (show k ≤ 0 by omega), Bool.true_or]
    · refine ⟨.ref s.heap.objs.size, _, I.laid (t' := s.toks) (o := .tup []) (fun b ob q => Heap.get?_push_of_some _ q) (Nat.le_refl _) ?_, rfl, q0 e _ (I.hok.fresh (Nat.le_refl _))⟩
      exact ⟨Nat.zero_le _, [], .nil, IsTup.new _ _⟩
/-- sum of a tuple of ints -/
def rSumT (K : PySem.W.Frag) : List V → Hp → VK → Prop := fun vs H Q => ∃ (a : Addr) (ns : List Int), vs = [V.ref a] ∧ SqT K H a (ns.map V.int) ∧ Q (.int ns.sum) H
theorem iter_tupI {A : Around} {P : Program} {w : World} {E : Value → Shared → Prop} {s : Shared} {l : Addr} {xs : Array Value} {Q : Value → Shared → Prop} (hl : s.heap.IsTuple l xs)
    (h : ∀ s₂ : Shared, s₂ = { s with heap := s.heap.push { cls := .type "tuple_iterator", data := .fields #[.ref l, .int 0 0] } } →
      (s₂.heap.IsTupleIter s.heap.objs.size l 0 ∧ s₂.heap.IsTuple l xs) → (∀ b ∈ [s.heap.objs.size, l], b < s₂.heap.objs.size) → l ≠ s.heap.objs.size → Q (.ref s.heap.objs.size) s₂) :
    wpAny (model P w) A (pyIter (.ref l)) Q E s := by
  have hlt : l < s.heap.objs.size := by obtain ⟨_, e, _⟩ := hl; exact Heap.lt_size e
  refine wpAny_pyIter_tuple hl (h _ rfl ⟨⟨_, Heap.get?_push_size _ rfl, rfl, rfl⟩, hl.push _⟩ (fun b hb => ?_) (Nat.ne_of_lt hlt))
  show b < (s.heap.push _).objs.size
  rw [Heap.size_push]
  rcases List.mem_cons.mp hb with rfl | hb
  · exact Nat.lt_succ_self _
  · rcases List.mem_cons.mp hb with rfl | hb
    · exact Nat.lt_succ_of_lt hlt
    · cases hb
theorem sum_tup_raw {A : Around} {P : Program} {w : World} {E : Value → Shared → Prop} {s : Shared} {l : Addr} {its : List Value} {ns : List Int} {Q : Value → Shared → Prop} (hh : A.handled = none) (hl : s.heap.IsTuple l its.toArray) (hi : IntsAre its ns)
    (h : ∀ h' tk t', (∀ b o, s.heap.get? b = some o → h'.get? b = some o) → Q (.int ns.sum t') { s with heap := h', toks := tk }) : wpAny (model P w) A (call (.builtin "sum") [.ref l]) Q E s := by
  obtain ⟨xs, e⟩ := hi.allInts.items
  have hn : numsOf (intItems xs).toList = ns := by rw [← e]; exact hi.numsOf
  rw [nums_intItems] at hn
  rw [e] at hl
  refine call_sum_walkG (iter_tupI hl fun s₂ e st hfp hlI => ?_)
  subst e
  refine ⟨_, _, _, _, _, _, numAt xs, rfl, Walks.tuple (A := A.in1) hh _ l hlI (intItems xs), st, hfp, (fun _ _ => intItems_at), fun h' tk t' hk => ?_⟩
  have := h h' tk t' fun b o eb => hk b o (fun z => absurd (Heap.lt_size eb) ((List.mem_singleton.mp z) ▸ Nat.lt_irrefl _)) (Heap.get?_push_of_some _ eb)
  have e3 : preSum (numAt xs) (intItems xs).size = ns.sum := by
    rw [show (intItems xs).size = xs.size by simp [intItems], preSum_eq, List.take_of_length_le (by simp), hn]
  rw [e3]
  exact this
theorem cr_sumT (hc : X.calm = true) : CallR X (.builtin "sum") (rSumT X.K) := by
  intro pins s σ H vs us Q I r h
  obtain ⟨a, ns, rfl, hs, q⟩ := h
  obtain ⟨its, rv, hl, _⟩ := I.tuple hs
  rw [Vals.ref1 r]
  exact sum_tup_raw (I.ok.hd hc) (show s.heap.IsTuple a its.toArray from hl) rv.ints fun h' tk t' hk => ⟨.int _, H, I.kept hk, ⟨_, rfl⟩, q⟩
/-! ### enumerate of a tuple -/
theorem meets_enumerate_newT (l : Addr) (items : Array Value) (n : Nat) (dct : Option Addr) (sl : Array (Option Value)) :
    Meets (Builtin.«enumerate.__new__» ⟨[.type "enumerate", .ref l], []⟩) (fun _ R s => s.heap.get? l = some { cls := .type "tuple", dict := dct, data := .seq items n, slots := sl } ∧
      R (.ok (.ret (.ref (s.heap.push { cls := .type "tuple_iterator", data := .fields #[.ref l, .int 0 0] }).objs.size)))
        { s with heap := (s.heap.push { cls := .type "tuple_iterator", data := .fields #[.ref l, .int 0 0] }).push { cls := .type "enumerate", data := .fields #[.none, .bool false, .ref s.heap.objs.size, rawInt 0, .none, .none] } }) :=
  .of_wp fun prog w A R s h => by
    obtain ⟨hp, g, d, tk, os⟩ := s; obtain ⟨hl, h⟩ := h
    have hsub := sub_enumerate
    have hL : Heap.IsTuple (Shared.heap ⟨hp, g, d, tk, os⟩) l items := ⟨_, hl, rfl, n, rfl⟩
    wp_walk using AutoSeq1.wpAny_loadPart' hl
    refine wpAny_stack_any fun st => wpAny_pure ?_
    split
    · rename_i c _ _ _ _ _
      cases (c == Value.type "enumerate")
      · wp_walk using AutoSeq1.wpAny_loadPart' hl, wpAny_pyIter_tuple hL
        exact ⟨_, rfl, h⟩
      · wp_walk using AutoSeq1.wpAny_loadPart' hl, wpAny_pyIter_tuple hL
        exact ⟨_, rfl, h⟩
    · wp_walk using AutoSeq1.wpAny_loadPart' hl, wpAny_pyIter_tuple hL
      exact ⟨_, rfl, h⟩
theorem call_enumerate_tuple {A : Around} {P : Program} {w : World} {E : Value → Shared → Prop} {s : Shared} {l : Addr} {items : Array Value} {Q : Value → Shared → Prop} (hL : s.heap.IsTuple l items)
    (h : ∀ h', IsEnum h' (s.heap.objs.size + 1) s.heap.objs.size 0 .none → h'.IsTupleIter s.heap.objs.size l 0 → h'.objs.size = s.heap.objs.size + 2 →
      (∀ b o, s.heap.get? b = some o → h'.get? b = some o) → Q (.ref (s.heap.objs.size + 1)) { s with heap := h' }) :
    wpAny (model P w) A (call (.type "enumerate") [.ref l]) Q E s := by
  obtain ⟨⟨c, dct, dt, sl⟩, hl, hc, n, hd⟩ := hL
  replace hc : c = .type "tuple" := hc
  replace hd : dt = .seq items n := hd
  subst hc hd
  refine callType_new F.called_enumerate (by decide) (F.typeCall_enumerate_1 _) (F.newCall_enumerate_1 _) (fun obj => F.args_object_init_2 obj _) F.entry_enumerate_new
    (meets_enumerate_newT l items n dct sl) ⟨hl, ?_⟩
  have hz : (s.heap.push { cls := .type "tuple_iterator", data := .fields #[.ref l, .int 0 0] }).objs.size = s.heap.objs.size + 1 := Heap.size_push ..
  show _ ∧ _
  rw [hz]
  have he : IsEnum ((s.heap.push { cls := .type "tuple_iterator", data := .fields #[.ref l, .int 0 0] }).push
      { cls := .type "enumerate", data := .fields #[.none, .bool false, .ref s.heap.objs.size, rawInt 0, .none, .none] }) (s.heap.objs.size + 1) s.heap.objs.size 0 .none := by
    have := Heap.get?_push_size (s.heap.push { cls := .type "tuple_iterator", data := .fields #[.ref l, .int 0 0] })
      (o := { cls := .type "enumerate", data := .fields #[.none, .bool false, .ref s.heap.objs.size, rawInt 0, .none, .none] }) rfl
    rw [hz] at this; exact this
  refine ⟨⟨_, he, rfl⟩, h _ he ⟨_, Heap.get?_push_of_some _ (Heap.get?_push_size _ rfl), rfl, rfl⟩ (by rw [Heap.size_push, hz]) fun b o x => Heap.get?_push_of_some _ (Heap.get?_push_of_some _ x)⟩
def IteT (K : PySem.W.Frag) (a : Addr) : It :=
  ⟨fun i H => ∃ (xs : List V) (x : V), SqT K H a xs ∧ xs[i]? = some x, fun i H v H' => ∃ T x, v = .ref T ∧ H T = none ∧ H' = upd H T (.tup [.int (i : Nat), x]) ∧ ∀ xs, SqT K H a xs → xs[i]? = some x, fun i H => ∃ xs : List V, SqT K H a xs ∧ xs.length ≤ i⟩
theorem turn_enumT {P : Program} {w : World} {K : PySem.W.Frag} {elts : List Expr} {kk : Nat} {tpos : Pos} (a e it : Addr) :
    Turn P w K (.Tuple elts kk tpos) (IteT K a) [e, it] e (fun i h => (∃ old, IsEnum h e it ((i : Nat) : Int) old) ∧ h.IsTupleIter it a i ∧ e ≠ it) where
  mem := by simp
  obj := fun i h st b hb => by
    obtain ⟨⟨old, he⟩, ⟨o, ho, hc, hd⟩, _⟩ := st
    have e' : b = e ∨ b = it := by simpa using hb
    rcases e' with z | z
    · rw [z]; exact ⟨_, he, fun v q => nomatch q⟩
    · rw [z]; exact ⟨o, ho, fun v q => by rw [hd] at q; cases q⟩
  keep := fun i h h' st k => let ⟨⟨old, he⟩, hi, hne⟩ := st; ⟨⟨old, k e (by simp) _ he⟩, hi.at fun o q => k it (by simp) o q, hne⟩
  item := by
    intro X hP hw hK hc i pins s σ H E I hf st hg
    subst hP hw hK
    obtain ⟨⟨old, he⟩, hit, hne⟩ := st
    obtain ⟨xs, x, hq, hx⟩ := hg
    obtain ⟨its, rv, p, hz⟩ := I.tuple hq
    obtain ⟨u, hu, ru⟩ := rv.get hx
    have hel : e < s.heap.objs.size := Heap.lt_size he
    have hil : it < s.heap.objs.size := by obtain ⟨_, q, _⟩ := hit; exact Heap.lt_size q
    have hal : a < s.heap.objs.size := by obtain ⟨_, q, _⟩ := p; exact Heap.lt_size q
    have hai : a ≠ it := fun z => by
      obtain ⟨o1, q1, c1, _⟩ := p
      obtain ⟨o2, q2, c2, _⟩ := hit
      rw [z, q2] at q1
      cases q1
      rw [c2] at c1
      exact absurd (Value.type.inj c1) (by decide)
    have hae : a ≠ e := fun z => by
      obtain ⟨o1, q1, c1, _⟩ := p
      have he' := he
      unfold IsEnum at he'
      rw [z, he'] at q1
      cases q1
      exact absurd (Value.type.inj c1) (by decide)
    have pT : s.heap.IsTuple a its.toArray := p
    have hlt : i < its.toArray.size := by
      rw [List.size_toArray]
      rcases Nat.lt_or_ge i its.length with z | z
      · exact z
      · rw [List.getElem?_eq_none z] at hu; cases hu
    refine wpAny_pyNext_enum_itemD (Draws.tuple (A := X.A.in1) (I.ok.hd hc) it a hai its.toArray) he ⟨hit, pT⟩ hlt hne (fun z => ?_) fun y h' tk hy ho st' hT hsz hk => ?_
    · rcases List.mem_cons.mp z with z | z
      · exact hne z
      · exact hae (List.mem_singleton.mp z).symm
    have ey : y = u := by
      have : its.toArray[i]? = some u := by simpa using hu
      rw [this] at hy
      exact (Option.some.inj hy).symm
    subst ey
    refine ⟨_, rfl, wpAny_letOwnedTupleGo_enum (s := { s with heap := h', toks := tk + 1 }) ho fun h'' he' sb => ?_⟩
    have hT2 : h''.get? s.heap.objs.size = some { cls := .type "tuple", data := .seq #[.int i tk, y] } := (sb.2 _ (Nat.ne_of_gt hel)).trans hT
    have new : ObjOk X.prog X.w (upd H s.heap.objs.size (.tup [.int (i : Nat), x])) h'' s.heap.objs.size (.tup [.int (i : Nat), x]) :=
      ⟨by show 2 ≤ sizeLine; decide, [.int i tk, y], .cons ⟨_, rfl⟩ (.cons ru .nil), ⟨_, hT2, rfl, _, rfl⟩⟩
    have I1 : Inv X pins σ (upd H s.heap.objs.size (.tup [.int (i : Nat), x])) { s with heap := h'', toks := tk + 1 } :=
      I.turnedNew (ch := [e, it]) (fun b ob hb q => (sb.2 b (fun z => hb (by simp [z]))).trans (hk b ob (fun z => hb (by simp [z])) (fun z => hb (by simp [z])) q)) hf (Nat.le_refl _) new
    refine ⟨.ref s.heap.objs.size, _, I1, rfl, ⟨_, x, rfl, I.hok.fresh (Nat.le_refl _), rfl, fun ys hy => by rw [I.tuple_inj hy hq]; exact hx⟩, ⟨⟨y, ?_⟩, st'.1.at fun o q => (sb.2 it (Ne.symm hne)).trans q, hne⟩, fun b hb => ?_⟩
    · have e1 : ((i + 1 : Nat) : Int) = (i : Int) + 1 := by omega
      rw [e1]; exact he'
    · have hb' : b < s.heap.objs.size := by
        have e' : b = e ∨ b = it := by simpa using hb
        rcases e' with z | z
        · rw [z]; exact hel
        · rw [z]; exact hil
      rw [upd_ne (Nat.ne_of_lt hb')]
      exact (hf b hb).1
  done := by
    intro X hP hw hK hc i pins s σ H E I hf st hg
    subst hP hw hK
    obtain ⟨⟨old, he⟩, hit, hne⟩ := st
    obtain ⟨xs, hq, hx⟩ := hg
    obtain ⟨its, rv, p, hz⟩ := I.tuple hq
    obtain ⟨f0, f1, f2, f3, f4, f5⟩ := hf it (by simp)
    have hl := rv.length
    have hT : s.TypeIs (.ref e) "enumerate" := ⟨_, he, rfl⟩
    have pT : s.heap.IsTuple a its.toArray := p
    unfold pyNext
    refine wpAny_bind (wpAny_attempt (wpAny_callSpecial?_slot (name := Str.ofString "__next__") hT F.slot_enumerate_next
      (wpAny_call_entry F.slot_enumerate_next hT F.entry_enumerate_next ?_ (F.args_enumerate_next_1 _))))
    show wpAny _ _ (field (.ref e) 2 >>= _) _ _ _
    refine wpAny_bind (wpAny_field he rfl (x := .ref it) rfl ?_)
    refine wpAny_bind (wpAny_nextOf_tuple_end (I.ok.hd hc) hit pT (by simp; omega) fun h' x he' hx' => ?_)
    obtain ⟨o, ho, hcl⟩ := hx'
    refine wpAny_bind (wpAny_isInstance (T := "StopIteration") (b := true) ⟨o, ho, hcl⟩ isSubtype_stop ?_)
    exact wpAny_pure ⟨rfl, I.turned (t' := s.toks) (fun b o hb q => he' b o hb q) f0 f1 f3 f4 f5⟩
  self := fun A i s Q E st h => let ⟨⟨_, he⟩, _⟩ := st; wpAny_pyIter_enum he h
def iEnumX (K : PySem.W.Frag) (ta : TA) : TI := fun σ H R => ta σ H fun vs H1 => ∃ a xs, vs = [.ref a] ∧ ((SqL K H1 a xs ∧ R (Ite K a) H1) ∨ (SqT K H1 a xs ∧ R (IteT K a) H1))
theorem pi_enumX {e : Expr} {ta : TA} {p pos tpos : Pos} {elts : List Expr} {kk : Nat} (hg : Gl X "enumerate") (hm : X.mg "enumerate" = none) (ha : PA X [e] ta) (hs : starEach [e] X.env = [(false, eval e X.env)] := by rfl) :
    PI X (.Tuple elts kk tpos) (.Call (.Name "enumerate" p) [e] [] pos) (iEnumX X.K ta) := by
  refine ⟨fun pins s σ H R I h => ?_⟩
  refine Call_ (ld_blt I hg hm boot_enumerate (PyProof.Rows.callWith_type1 (thn (ha.run pos pins s σ H _ I h) fun us s1 ⟨vs, H1, I1, r1, q1⟩ => ?_) hs rfl))
  obtain ⟨a, xs, ex, q1⟩ := q1
  subst ex
  cases r1 with
  | cons r rr =>
    cases rr
    cases r
    have fp : ∀ b ∈ [s1.heap.objs.size + 1, s1.heap.objs.size], s1.heap.objs.size ≤ b := fun b hb => by
      have e' : b = s1.heap.objs.size + 1 ∨ b = s1.heap.objs.size := by simpa using hb
      rcases e' with z | z
      · rw [z]; exact Nat.le_add_right _ _
      · rw [z]; exact Nat.le_refl _
    rcases q1 with ⟨hq, q⟩ | ⟨hq, q⟩
    · obtain ⟨its, rv, p', hz⟩ := I1.list hq
      refine call_enumerate_list p'.isList fun h' he hit hsz hk => wpAny_pyIter_enum he ?_
      have I2 : Inv X pins σ H1 { s1 with heap := h' } := I1.kept (t' := s1.toks) hk
      exact ⟨s1.heap.objs.size + 1, [s1.heap.objs.size + 1, s1.heap.objs.size], _, _, H1, rfl, I2, turn_enum a (s1.heap.objs.size + 1) s1.heap.objs.size, ⟨⟨.none, he⟩, hit, Nat.succ_ne_self _⟩, fun b hb => I1.fpOk (fp b hb) (I1.hok.fresh (fp b hb)), q⟩
    · obtain ⟨its, rv, p', hz⟩ := I1.tuple hq
      refine call_enumerate_tuple (show s1.heap.IsTuple a its.toArray from p') fun h' he hit hsz hk => wpAny_pyIter_enum he ?_
      have I2 : Inv X pins σ H1 { s1 with heap := h' } := I1.kept (t' := s1.toks) hk
      exact ⟨s1.heap.objs.size + 1, [s1.heap.objs.size + 1, s1.heap.objs.size], _, _, H1, rfl, I2, turn_enumT a (s1.heap.objs.size + 1) s1.heap.objs.size, ⟨⟨.none, he⟩, hit, Nat.succ_ne_self _⟩, fun b hb => I1.fpOk (fp b hb) (I1.hok.fresh (fp b hb)), q⟩
end
end L2
namespace Z
open PySem L2 PySem.Spec
/-! ### by content -/
def fMulT : Val → Val → Option RV
  | .tup xs, .int k => if xs ≠ [] ∧ -1000 ≤ k ∧ k ≤ 1000 ∧ xs.length ≤ 1000 then some (.v (.tup (List.replicate k.toNat xs).flatten)) else none
  | _, _ => none
def fOr2 (f g : Val → Val → Option RV) : Val → Val → Option RV := fun x y => match f x y with
  | some r => some r
  | none => g x y
section
variable {X : Cx} {xc : Xc} {W : WX} {pos tpos : Pos} {elts : List Expr} {kk : Nat}
theorem os_or {F : Value → Value → Sem Value} {f g : Val → Val → Option RV} (h : OpS X F f) (k : OpS X F g) : OpS X F (fOr2 f g) := by
  obtain ⟨r, h1, h2⟩ := h.ex
  obtain ⟨r', k1, k2⟩ := k.ex
  refine ⟨⟨_, h1.or k1, fun Zs H x y z u w Q zd hf hx hy q => ?_⟩, fun x y i e => ?_⟩
  · unfold fOr2 at hf
    cases e : f x y with
    | some t =>
      rw [e] at hf
      exact .inl (h2 Zs H x y z u w Q zd (by rw [e]; exact hf) hx hy q)
    | none =>
      rw [e] at hf
      exact .inr (k2 Zs H x y z u w Q zd hf hx hy q)
  · unfold fOr2 at e
    cases e1 : f x y with
    | some t => rw [e1] at e; exact h.nb x y i (e1.trans e)
    | none => rw [e1] at e; exact k.nb x y i e
theorem os_mulT : OpS X (binaryOp .Mult) fMulT := by
  have cs : ∀ {x y : Val} {z : RV}, fMulT x y = some z → ∃ xs k, x = .tup xs ∧ y = .int k ∧ xs ≠ [] ∧ -1000 ≤ k ∧ k ≤ 1000 ∧ xs.length ≤ 1000 ∧ z = .v (.tup (List.replicate k.toNat xs).flatten) := fun {x y z} h => by
    unfold fMulT at h
    split at h
    · split at h
      · rename_i c
        cases h
        exact ⟨_, _, rfl, rfl, c.1, c.2.1, c.2.2.1, c.2.2.2, rfl⟩
      · cases h
    · cases h
  refine ⟨⟨_, op_repT.or op_repT1, fun Zs H x y z u w Q zd hf hx hy q => ?_⟩, fun x y i h => ?_⟩
  · obtain ⟨xs, k, rfl, rfl, h1, h2, h3, h4, rfl⟩ := cs hf
    obtain ⟨a, us, rfl, hl, r⟩ := hx.tup
    have hu : us ≠ [] := fun e => by
      subst e
      cases r
      exact h1 rfl
    by_cases e : 2 ≤ k
    · exact .inl ⟨a, k, us, rfl, hy.int, hl, hu, e, h3, by rw [← r.length]; exact h4, fun p hp => q.tup zd (r.flat _) hp⟩
    · refine .inr ⟨a, k, us, rfl, hy.int, hl, hu, h2, by omega, fun e1 => ?_, fun e1 p hp => ?_⟩
      · subst e1
        refine q.val zd (.tup hl ?_)
        show RvL _ _ _ (List.replicate 1 xs).flatten us
        simpa using r
      · have : k.toNat = 0 := by omega
        rw [this] at q
        exact q.tup zd .nil hp
  · obtain ⟨_, _, _, _, _, _, _, _, e⟩ := cs h; cases e
def fMulX : Val → Val → Option RV := fOr2 fMul fMulT
theorem os_mulX : OpS X (binaryOp .Mult) fMulX := os_or os_mul os_mulT
@[simp] theorem fMulX_int (i j : Int) : fMulX (.int i) (.int j) = fMul (.int i) (.int j) := by
  unfold fMulX fOr2
  cases h : fMul (.int i) (.int j) <;> rfl
@[simp] theorem fMulX_lst (xs : List Val) (j : Int) : fMulX (.lst xs) (.int j) = fMul (.lst xs) (.int j) := by
  unfold fMulX fOr2
  cases h : fMul (.lst xs) (.int j) <;> rfl
@[simp] theorem fMulX_tup (xs : List Val) (j : Int) : fMulX (.tup xs) (.int j) = fMulT (.tup xs) (.int j) := rfl
def fSumT : List Val → Option RV
  | [.tup xs] => match ints? xs with
    | some ns => some (.v (.int ns.sum))
    | none => none
  | _ => none
theorem cs_sumT (hc : X.calm = true) : CallS X (.builtin "sum") fSumT := by
  have cs : ∀ {xs z}, fSumT xs = some z → ∃ ns : List Int, xs = [.tup (ns.map Val.int)] ∧ z = .v (.int ns.sum) := fun {xs z} h => by
    unfold fSumT at h; split at h
    · split at h
      · rename_i ns e
        cases h
        exact ⟨_, by rw [ints?_eq e], rfl⟩
      · cases h
    · cases h
  refine ⟨⟨_, cr_sumT hc, fun Zs H xs z us Q zd hf hx q => ?_⟩, fun xs i h => ?_⟩
  · obtain ⟨ns, rfl, rfl⟩ := cs hf
    obtain ⟨u, rfl, h⟩ := hx.one
    obtain ⟨a, ws, rfl, hl, rl⟩ := h.tup
    have := rl.ints
    subst this
    exact ⟨a, ns, rfl, hl, q.val zd (.int _)⟩
  · obtain ⟨_, _, e⟩ := cs h; cases e
def fSumX : List Val → Option RV := fOr fSum fSumT
theorem cs_sumX (hc : X.calm = true) : CallS X (.builtin "sum") fSumX := cs_or (cs_sum hc) (cs_sumT hc)
@[simp] theorem fSumX_lst (xs : List Val) : fSumX [.lst xs] = match ints? xs with | some ns => some (.v (.int ns.sum)) | none => none := by
  unfold fSumX fOr
  rw [fSum_lst]
  cases ints? xs <;> rfl
@[simp] theorem fSumX_tup (xs : List Val) : fSumX [.tup xs] = match ints? xs with | some ns => some (.v (.int ns.sum)) | none => none := rfl
/-- enumerate(a), a list or a tuple -/
def iEnumX (a : As) : Src := fun e => (a e).bind fun rs e1 => (escs e1 rs).bind fun xs e2 => match xs with
  | [.lst xs] => .ok (enumV xs) e2
  | [.tup xs] => .ok (enumV xs) e2
  | _ => .no
@[simp] theorem iEnumX_ap (a : As) (e : Env) : iEnumX a e = (a e).bind fun rs e1 => (escs e1 rs).bind fun xs e2 => match xs with | [.lst xs] => .ok (enumV xs) e2 | [.tup xs] => .ok (enumV xs) e2 | _ => .no := rfl
@[simp] theorem iZipS_ap (a : As) (e : Env) : iZipS a e = (a e).bind fun rs e1 => (escs e1 rs).bind fun xs e2 => match xs with | [.lst xs, .lst ys] => .ok (zipV xs ys) e2 | [.tup xs, .tup ys] => .ok (zipV xs ys) e2 | _ => .no := rfl
theorem walk_enumT {g : Gm} {Zs : Addr → Prop} {H : Hp} {a : Addr} {xs : List Val} {us : List V} (h : SqT g.K H a us) (r : RvL g Zs H xs us) : Walk g Zs H (IteT g.K a) (enumV xs) := by
  intro Z2 H2 gr zd
  have h2 := gr.sqT h
  have r2 := r.gr gr
  refine ⟨fun i x hx => ?_, fun i hi => ⟨us, h2, by rw [← r.length, ← enumV_len]; exact hi⟩⟩
  obtain ⟨y, hy, rfl⟩ := enumV_at hx
  obtain ⟨w, hw, _⟩ := r2.get hy
  refine ⟨⟨us, w, h2, hw⟩, fun u H3 q => ?_⟩
  obtain ⟨T, x', eu, hT, eH, hx'⟩ := q
  subst eu eH
  exact ⟨Z2, Ext.new zd hT, .tup (SqT.of upd_same) (.cons (.int _) (.cons ((r2.at hy (hx' us h2)).ext (Ext.new zd hT) fun _ z => z.elim) .nil))⟩
theorem si_enumX {a : Expr} {fa : As} {p : Pos} (hm : X.mg "enumerate" = none) (ha : SA X xc W [a] fa) (hg : Gl X "enumerate" := by rfl) (hs : starEach [a] X.env = [(false, eval a X.env)] := by rfl) : SI X xc W (.Tuple elts kk tpos) (.Call (.Name "enumerate" p) [a] [] pos) (iEnumX fa) := by
  refine PI_imp (pi_enumX hg hm ha hs) fun σ H R h => ?_
  obtain ⟨pa, Zs, env, re, h⟩ := h
  refine ⟨pa, Zs, env, re, ?_⟩
  unfold iEnumX at h
  cases hf : fa env with
  | no => rw [hf] at h; exact h
  | ex c fs e1 => rw [hf] at h; exact h
  | ok rs e1 =>
    rw [hf, Rs.bind_ok] at h
    intro us Z1 H1 p1 q1
    cases he : escs e1 rs with
    | no => rw [he] at h; exact h.elim
    | ex c fs e => exact absurd he (escs_ex _ _ _ _ _)
    | ok xs e2 =>
      rw [he, Rs.bind_ok] at h
      obtain ⟨Z2, P2, rl, _⟩ := escs_ok p1 q1 he
      cases rl with
      | nil => exact h.elim
      | cons rv rr =>
        cases rr with
        | cons _ _ => cases rv <;> exact h.elim
        | nil =>
          cases rv with
          | lst hs r => exact ⟨_, _, rfl, .inl ⟨hs.sq, h Z2 H1 _ P2 (walk_enum hs r)⟩⟩
          | tup hs r => exact ⟨_, _, rfl, .inr ⟨hs, h Z2 H1 _ P2 (walk_enumT hs r)⟩⟩
          | _ => exact h.elim
end
end Z
/-! ZQ: more rows for simp. -/
namespace Z
open PySem (Str)
@[simp] theorem eApp_ap (j : Nat) (a : E) (e : Env) : eApp j a e = if isOwnL (eget e j) then (a e).bind fun r e1 => (esc e1 r).bind fun x e2 => match eget e2 j with
  | .own p (.lst xs) => if xs.length < sizeMax then .ok (.v .non) (eput e2 j (.own p (.lst (xs ++ [x])))) else .no
  | _ => .no
  else .no := rfl
@[simp] theorem ePop_ap (j : Nat) (e : Env) : ePop j e = match eget e j with
  | .own p (.lst xs) => match xs[xs.length - 1]? with
    | some x => .ok (.v x) (eput e j (.own p (.lst xs.dropLast)))
    | none => .no
  | _ => .no := rfl
@[simp] theorem ePopAt_ap (j : Nat) (a : E) (e : Env) : ePopAt j a e = if isOwnL (eget e j) then (a e).bind fun r e1 => match eget e1 j, r with
  | .own p (.lst xs), .v (.int i) => if 0 ≤ i ∧ i < xs.length then match xs[i.toNat]? with
      | some x => .ok (.v x) (eput e1 j (.own p (.lst (xs.eraseIdx i.toNat))))
      | none => .no
    else .no
  | _, _ => .no
  else .no := rfl
@[simp] theorem eExt_ap (j : Nat) (a : E) (e : Env) : eExt j a e = if isOwnL (eget e j) then (a e).bind fun r e1 => match eget e1 j, r with
  | .own p (.lst xs), .own (.lst ys) => if xs.length + ys.length ≤ sizeMax then .ok (.v .non) (eput e1 j (.own p (.lst (xs ++ ys)))) else .no
  | _, _ => .no
  else .no := rfl
@[simp] theorem sAug_ap (i : Nat) (f : Val → Val → Option RV) (a : E) (e : Env) : sAug i f a e = match eget e i with
  | .v x => (a e).bind fun r e1 => (opt (peek e1 r) e1).bind fun y _ => match f x y with
    | some (.v z) => (sto e1 i (.v z)).bind fun _ e2 => .ok .nx e2
    | _ => .no
  | _ => .no := rfl
@[simp] theorem atV_c0 {α : Type} (x : α) (xs : List α) : Z.atV (x :: xs) 0 = some x := rfl
@[simp] theorem atV_c1 {α : Type} (x y : α) (xs : List α) : Z.atV (x :: y :: xs) 1 = some y := rfl
@[simp] theorem atV_c2 {α : Type} (x y z : α) (xs : List α) : Z.atV (x :: y :: z :: xs) 2 = some z := rfl
@[simp] theorem tgT_tup (ts : List Tg) (xs : List Val) (e : Env) : tgT ts (.tup xs) e = tgs ts xs e := rfl
@[simp] theorem iRange3_ap (a : As) (e : Env) : iRange3 a e = (a e).bind fun rs e1 => opt (rng3 rs) e1 := rfl
theorem rng3_int {i j : Int} (h : inR i = true) (h2 : inR j = true) : rng3 [.v (.int i), .v (.int j), .v (.int (-1))] = some (rangeD i (i - j).toNat) := by
  show (if (-1 : Int) = -1 ∧ i.natAbs < 4611686018427387904 ∧ j.natAbs < 4611686018427387904 then some (rangeD i (i - j).toNat) else none) = _
  rw [if_pos ⟨rfl, (inR_iff i).mp h, (inR_iff j).mp h2⟩]
theorem rangeD_len (i : Int) (n : Nat) : (rangeD i n).length = n := by simp [rangeD]
theorem rangeD_at {i : Int} {n k : Nat} {x : Val} (h : (rangeD i n)[k]? = some x) : k < n ∧ x = .int (i - k) := by
  unfold rangeD at h
  rw [List.getElem?_map] at h
  have hk : k < n := by
    rcases Nat.lt_or_ge k n with z | z
    · exact z
    · rw [List.getElem?_eq_none (by simpa using z)] at h
      cases h
  rw [List.getElem?_range hk] at h
  refine ⟨hk, ?_⟩
  have : Val.int (i + (k : Int) * -1) = x := Option.some.inj h
  rw [← this, show i + (k : Int) * -1 = i - k by omega]
/-- a loop downwards that runs through -/
theorem down_run {t : Tg} {b : S} {hi : Int} {n : Nat} {e : Env} (I : Nat → Env → Prop) (h0 : I 0 e) (hs : ∀ k e, k < n → I k e → ∃ e1 e2, t (.int (hi - k)) e = some e1 ∧ (b e1 = .ok .nx e2 ∨ b e1 = .ok .ct e2) ∧ I (k + 1) e2) : ∃ e', forL t b (rangeD hi n) e = .ok .nx e' ∧ I n e' := by
  have := for_run (t := t) (b := b) (xs := rangeD hi n) I h0 fun k x e h q => by
    obtain ⟨hk, rfl⟩ := rangeD_at h
    exact hs k e hk q
  rwa [rangeD_len] at this
end Z
set_option maxHeartbeats 4000000
/-! ZR: xs[::-1]. -/
namespace HT
open PySem PyProof.Rows
section
variable {prog : Program} {w : World} {A : Around} {E : Value → Shared → Prop} {s : Shared}
theorem adjust_rev (n : Nat) : Builtin.Slice.sliceAdjust none none (-1) (n : Int) = ((n : Int) - 1, -1) := by
  unfold Builtin.Slice.sliceAdjust
  simp
theorem places_rev (n : Nat) : Builtin.Slice.slicePlaces ((n : Int) - 1) (-1) (-1) = n := by
  unfold Builtin.Slice.slicePlaces
  have h1 : ¬ ((-1 : Int) > 0) := by omega
  simp only [h1, if_false]
  by_cases h : n = 0
  · subst h
    simp
  · rw [if_pos (by omega)]
    have : ((n : Int) - 1 - -1 - 1) / (- -1) + 1 = (n : Int) := by
      rw [show (- -1 : Int) = 1 by decide, Int.ediv_one]
      omega
    first
      | omega
      | (rw [show (- -1 : Int) = 1 by decide, Int.ediv_one]; omega)
      | (simp; omega)
theorem sliceApplied_rev {sl : Addr} {vl vu vs : Value} {n : Nat} {Q : Int × Int × Nat → Shared → Prop} (hs : s.heap.IsSliceOf sl vl vu vs) (pl : IsPart vl none) (pu : IsPart vu none) (ps : IsPart vs (some (-1)))
    (h : Q ((n : Int) - 1, -1, n) s) : wpAny (model prog w) A (Builtin.Slice.sliceApplied (.ref sl) (pure (n : Int))) Q E s := by
  obtain ⟨os, hos, hcs, hds⟩ := id hs
  unfold Builtin.Slice.sliceApplied Builtin.Slice.sliceFields
  refine wpAny_bind (wpAny_bind (wpAny_field hos hds (x := vl) rfl (wpAny_bind (wpAny_field hos hds (x := vu) rfl (wpAny_bind (wpAny_field hos hds (x := vs) rfl (wpAny_pure ?_)))))))
  refine wpAny_bind (slicePart_ ps ?_)
  show wpAny _ _ (if ((-1 : Int) == 0) = true then _ else _) _ _ s
  rw [if_neg (by decide)]
  refine wpAny_bind (slicePart_ pl (wpAny_bind (slicePart_ pu (wpAny_bind (wpAny_pure ?_)))))
  show wpAny _ _ (match Builtin.Slice.sliceAdjust none none (-1) (n : Int) with | (lo, hi) => pure (lo, (-1 : Int), Builtin.Slice.slicePlaces lo hi (-1))) _ _ s
  rw [adjust_rev n]
  show wpAny _ _ (pure ((n : Int) - 1, (-1 : Int), Builtin.Slice.slicePlaces ((n : Int) - 1) (-1) (-1))) _ _ s
  rw [places_rev]
  exact wpAny_pure h
theorem fm_congr {α β : Type} {f g : α → Option β} : ∀ {l : List α}, (∀ x ∈ l, f x = g x) → l.filterMap f = l.filterMap g
  | [], _ => rfl
  | x :: l, h => by
    rw [List.filterMap_cons, List.filterMap_cons, h x List.mem_cons_self, fm_congr fun y hy => h y (List.mem_cons_of_mem _ hy)]
theorem pick_rev (xs : Array Value) : ((List.range xs.size).filterMap fun (m : Nat) => xs[(((xs.size : Int) - 1) + (m : Int) * -1).toNat]?).toArray = xs.toList.reverse.toArray := by
  have e : (List.range xs.size).filterMap (fun (m : Nat) => xs[(((xs.size : Int) - 1) + (m : Int) * -1).toNat]?) = ((List.range xs.size).map fun k => xs.size - 1 - k).filterMap (xs[·]?) := by
    rw [List.filterMap_map]
    refine fm_congr fun m hm => ?_
    have := List.mem_range.mp hm
    show xs[(((xs.size : Int) - 1) + (m : Int) * -1).toNat]? = xs[xs.size - 1 - m]?
    rw [show (((xs.size : Int) - 1) + (m : Int) * -1).toNat = xs.size - 1 - m by omega]
  rw [e, PySem.W.krv_range, List.filterMap_reverse, PySem.W.krv_all]
theorem getItem_tuple_rev {t sl : Addr} {items : Array Value} {vl vu vs : Value} {Q : Value → Shared → Prop} (ht : IsTup s.heap t items) (hs : s.heap.IsSliceOf sl vl vu vs) (pl : IsPart vl none) (pu : IsPart vu none) (ps : IsPart vs (some (-1)))
    (h : Q (.ref s.heap.objs.size) { s with heap := s.heap.push { cls := .type "tuple", data := .seq items.toList.reverse.toArray } })
    (hsz : items.size ≤ sizeLine) : wpAny (model prog w) A (getItem (.ref t) (.ref sl)) Q E s := by
  have htake : sizeOk (.seq items.toList.reverse.toArray) := by
    show items.toList.reverse.toArray.size ≤ sizeLine
    rw [List.size_toArray, List.length_reverse, Array.length_toList]
    omega
  obtain ⟨os, hos, hcs, hds⟩ := id hs
  have hTs : s.TypeIs (.ref sl) "slice" := ⟨os, hos, hcs⟩
  unfold getItem
  try with_reducible refine wpAny_holding ?_
  first | refine wpAny_bind (wpAny_pure ?_) | skip
  refine wpAny_bind (wpAny_sequenceKey ht.typeIs (by decide) ?_)
  refine wpAny_bind (wpAny_callSpecial?_slot (name := Str.ofString "__getitem__") ht.typeIs PyProof.Rows.slot_tuple_getitem
    (wpAny_call_entry PyProof.Rows.slot_tuple_getitem ht.typeIs entry_tuple_getitem ?_ (args_tuple_getitem _ _)))
  show wpAny _ _ (Builtin.Tuple.tupleItemsOf (.ref t) >>= _) _ _ s
  refine wpAny_bind (tupleItemsOf_ ht ?_)
  refine wpAny_bind (wpAny_typeOf hTs ?_)
  rw [if_pos (by decide)]
  refine wpAny_bind (sliceApplied_rev hs pl pu ps ?_)
  have hno : ¬ ((((items.size : Int) - 1) == 0 && (-1 : Int) == 1 && items.size == items.size) = true) := by
    have : ((-1 : Int) == 1) = false := rfl
    rw [this]
    simp
  show wpAny _ _ (if (((items.size : Int) - 1) == 0 && (-1 : Int) == 1 && items.size == items.size) = true then _ else _) _ _ s
  rw [if_neg hno, pick_rev]
  first
    | exact wpAny_bind (m := Builtin.Tuple.tupleExact _) (wpAny_newObj_type (wpAny_pure ⟨_, rfl, wpAny_pure h⟩) htake)
    | exact wpAny_bind (m := Builtin.Tuple.tupleExact _) (wpAny_newObj_type (wpAny_bind (wpAny_pure (wpAny_pure ⟨_, rfl, wpAny_pure h⟩))) htake)
    | exact wpAny_bind (wpAny_bind (m := Builtin.Tuple.tupleExact _) (wpAny_newObj_type (wpAny_pure (wpAny_pure ⟨_, rfl, wpAny_pure h⟩)) htake))
    | exact wpAny_bind (wpAny_bind (m := Builtin.Tuple.tupleExact _) (wpAny_newObj_type (wpAny_pure ⟨_, rfl, wpAny_pure h⟩) htake))
end
end HT

namespace L2
open PySem PySem.Spec PyProof.Rows
def tRevA (K : PySem.W.Frag) (te : TE) : TE := fun σ H Q => te σ H fun x H1 => ∃ a xs, x = .ref a ∧ ((SqL K H1 a xs ∧ ∀ p, H1 p = none → Q (.ref p) (upd H1 p (.lst xs.reverse))) ∨ (SqT K H1 a xs ∧ ∀ p, H1 p = none → Q (.ref p) (upd H1 p (.tup xs.reverse))))
theorem pe_revA {X : Cx} {e : Expr} {te : TE} {k : Nat} {p1 p2 p3 pos : Pos} (he : PE X e te) : PE X (.Subscript e (.Slice none none (some (.UnaryOp .USub (.Constant (.int 1) k p1) p2)) p3) pos) (tRevA X.K te) := by
  refine ⟨fun pins s σ H Q I h => ?_⟩
  refine Subscript_ (thn (he.run pins s σ H _ I h) fun v s1 ⟨x, H1, I1, r1, q1⟩ => ?_)
  obtain ⟨a, xs, ex, q1⟩ := q1
  subst ex
  cases r1
  have hst : PO X (some (.UnaryOp .USub (.Constant (.int 1) k p1) p2)) (tPart (tUn (rU fun i => .int (-i)) (tC (.int 1)))) := po_some (pe_un un_neg pe_int)
  refine wpAny_Slice (thn (po_none.run pins s1 σ H1 (fun o H2 => o = none ∧ H2 = H1) I1 ⟨rfl, rfl⟩) fun vl s2 ⟨l, H2, I2, pl, el, e2⟩ => ?_)
  subst el e2
  refine thn (po_none.run pins s2 σ H2 (fun o H3 => o = none ∧ H3 = H2) I2 ⟨rfl, rfl⟩) fun vu s3 ⟨u, H3, I3, pu, eu, e3⟩ => ?_
  subst eu e3
  refine thn (hst.run pins s3 σ H3 (fun o H4 => o = some (-1) ∧ H4 = H3) I3 ⟨1, rfl, -1, rfl, rfl, rfl⟩) fun vs s4 ⟨o, H4, I4, ps, eo, e4⟩ => ?_
  subst eo e4
  have I5 : Inv X pins σ H4 { s4 with heap := s4.heap.push { cls := .type "slice", data := .fields #[vl, vu, vs] } } := I4.kept (t' := s4.toks) fun b ob q => Heap.get?_push_of_some _ q
  show wpAny (model X.prog X.w) X.A (subscriptTail e (.Slice none none (some (.UnaryOp .USub (.Constant (.int 1) k p1) p2)) p3) (.ref a) (.ref s4.heap.objs.size)) (EP X pins σ Q) X.xe { s4 with heap := s4.heap.push { cls := .type "slice", data := .fields #[vl, vu, vs] } }
  rcases q1 with ⟨hx, q⟩ | ⟨hx, q⟩
  · obtain ⟨its, r, ht, hz⟩ := I5.list hx
    have hlen := r.length
    refine tail_any (ops := [.ref a, .ref s4.heap.objs.size]) ht.isList.typeIs (PySem.slot_list_getitem.lookup) ?_ (by with_unfolding_all rfl)
    refine wpAny_getItem_list_slice ht.isList (Heap.IsSliceOf.new _ vl vu vs) pl pu ps (by decide) ?_ (by rw [List.size_toArray]; omega)
    rw [PySem.W.krv_pick]
    refine ⟨.ref _, _, I5.laid (t' := s4.toks) (o := .lst xs.reverse) (fun b ob q => Heap.get?_push_of_some _ q) (Nat.le_refl _) ?_, rfl, q _ (I5.hok.fresh (Nat.le_refl _))⟩
    exact ⟨by rw [List.length_reverse]; exact hz, _, 0, r.reverse, Heap.get?_push_size _ rfl⟩
  · obtain ⟨its, r, ht, hz⟩ := I5.tuple hx
    have hlen := r.length
    refine tail_any (ops := [.ref a, .ref s4.heap.objs.size]) ht.typeIs (PyProof.Rows.slot_tuple_getitem.lookup) ?_ (by with_unfolding_all rfl)
    refine HT.getItem_tuple_rev ht (Heap.IsSliceOf.new _ vl vu vs) pl pu ps ?_ (by rw [List.size_toArray]; omega)
    refine ⟨.ref _, _, I5.laid (t' := s4.toks) (o := .tup xs.reverse) (fun b ob q => Heap.get?_push_of_some _ q) (Nat.le_refl _) ?_, rfl, q _ (I5.hok.fresh (Nat.le_refl _))⟩
    exact ⟨by rw [List.length_reverse]; exact hz, _, r.reverse, IsTup.new _ _⟩
end L2
namespace Z
open PySem L2 PySem.Spec
def fRev : Val → Option RV
  | .lst xs => some (.own (.lst xs.reverse))
  | .tup xs => some (.v (.tup xs.reverse))
  | _ => none
@[simp] theorem fRev_lst (xs : List Val) : fRev (.lst xs) = some (.own (.lst xs.reverse)) := rfl
@[simp] theorem fRev_tup (xs : List Val) : fRev (.tup xs) = some (.v (.tup xs.reverse)) := rfl
theorem RvL.rev {g : Gm} {Zs : Addr → Prop} {H : Hp} : ∀ {xs : List Val} {us : List V}, RvL g Zs H xs us → RvL g Zs H xs.reverse us.reverse
  | _, _, .nil => .nil
  | _, _, .cons h r => by
    rw [List.reverse_cons, List.reverse_cons]
    exact (RvL.rev r).append (.cons h .nil)
section
variable {X : Cx} {xc : Xc} {W : WX} {pos : Pos}
theorem se_rev {e : Expr} {fa : E} {k : Nat} {p1 p2 p3 : Pos} (ha : SE X xc W e fa) : SE X xc W (.Subscript e (.Slice none none (some (.UnaryOp .USub (.Constant (.int 1) k p1) p2)) p3) pos) (eUn fRev fa) := by
  refine PE_imp (pe_revA ha) fun σ H Q h => ?_
  obtain ⟨pa, Zs, env, re, h⟩ := h
  refine ⟨pa, Zs, env, re, h.cont fun r e1 u Z1 H1 _ p1 q1 h => ?_⟩
  cases hx : peek e1 r with
  | none => rw [hx] at h; exact h.elim
  | some x =>
    rw [hx, opt_some, Rs.bind_ok] at h
    have rx := peek_rd p1.re q1 hx
    cases x with
    | lst xs =>
      obtain ⟨a, us, rfl, hl, rl⟩ := rx.lst
      have A := Ans.of h p1 (fun i e => by cases e)
      exact ⟨a, us, rfl, .inl ⟨.inl hl, fun p hp => A.lst p1.re.zd rl.rev hp⟩⟩
    | tup xs =>
      obtain ⟨a, us, rfl, hl, rl⟩ := rx.tup
      have A := Ans.of h p1 (fun i e => by cases e)
      exact ⟨a, us, rfl, .inr ⟨hl, fun p hp => A.tup p1.re.zd rl.rev hp⟩⟩
    | _ => exact h.elim
end
end Z
/-! ZS: while loops, by a measure. -/
namespace Z
open PySem (Str)
theorem while_gen {c : T} {b : S} (R : Rs Fl → Prop) (I : Env → Prop) (μ : Env → Nat)
    (h : ∀ e, I e → ∃ k e1, c e = .ok k e1 ∧ (k = false → R (.ok .nx e1)) ∧ (k = true → (∃ e2, (b e1 = .ok .nx e2 ∨ b e1 = .ok .ct e2) ∧ I e2 ∧ μ e2 < μ e) ∨ ∃ r e2, b e1 = .ok (.rt r) e2 ∧ R (.ok (.rt r) e2))) :
    ∀ n e, I e → μ e < n → R (whileL c b n e) := by
  intro n
  induction n with
  | zero => intro e _ h; omega
  | succ n ih =>
    intro e hi hn
    obtain ⟨k, e1, h1, h2, h3⟩ := h e hi
    unfold whileL
    rw [h1, Rs.bind_ok]
    cases k with
    | false => exact h2 rfl
    | true =>
      rw [if_pos rfl]
      rcases h3 rfl with ⟨e2, h4, h5, h6⟩ | ⟨r, e2, h4, h5⟩
      · rcases h4 with h4 | h4 <;> (rw [h4, Rs.bind_ok]; exact ih e2 h5 (by omega))
      · rw [h4, Rs.bind_ok]; exact h5
@[simp] theorem sWhile_ap (n : Nat) (c : T) (b : S) (e : Env) : sWhile n c b e = whileL c b n e := rfl
end Z
set_option maxHeartbeats 1000000
/-! ZT: tuples that the top has written; zip of a list and a tuple. -/
namespace Z
open PySem L2 PySem.Spec PyProof.Rows
/-! ### a tuple of the top -/
/-- numbers, texts, truth values, None -/
inductive Atom : Val → Value → Prop
  | int (i : Int) (t : Tok) : Atom (.int i) (.int i t)
  | str (x : Str) (t : Tok) : Atom (.str x) (.str x t)
  | bl (b : Bool) : Atom (.bl b) (.bool b)
  | non : Atom .non .none
inductive Atoms : List Val → List Value → Prop
  | nil : Atoms [] []
  | cons {x : Val} {u : Value} {xs : List Val} {us : List Value} : Atom x u → Atoms xs us → Atoms (x :: xs) (u :: us)
theorem Atom.rel {x : Val} {u : Value} (h : Atom x u) : ∃ v, RelV v u ∧ ∀ g Zs H, RvV g Zs H x v := by
  cases h with
  | int i t => exact ⟨.int i, ⟨t, rfl⟩, fun _ _ _ => .int i⟩
  | str x t => exact ⟨.str x, ⟨t, rfl⟩, fun _ _ _ => .str x⟩
  | bl b => exact ⟨.bl b, rfl, fun _ _ _ => .bl b⟩
  | non => exact ⟨.non, rfl, fun _ _ _ => .non⟩
theorem Atoms.rel {xs : List Val} {us : List Value} (h : Atoms xs us) : ∃ vs, Vals vs us ∧ ∀ g Zs H, RvL g Zs H xs vs := by
  induction h with
  | nil => exact ⟨[], .nil, fun _ _ _ => .nil⟩
  | cons a _ ih =>
    obtain ⟨v, r, q⟩ := a.rel
    obtain ⟨vs, rs, qs⟩ := ih
    exact ⟨v :: vs, .cons r rs, fun g Zs H => .cons (q g Zs H) (qs g Zs H)⟩
/-- a tuple that the top has written -/
def TupK (K : PySem.W.Frag) (mg : Str → Option Value) (x : Str) (xs : List Val) : Prop :=
  ∃ a o its n, mg x = some (.ref a) ∧ K.lookup a = some o ∧ o.cls = .type "tuple" ∧ o.data = .seq its n ∧ its.size ≤ sizeLine ∧ Atoms xs its.toList
section
variable {X : Cx} {xc : Xc} {W : WX} {pos tpos : Pos} {elts : List Expr} {kk : Nat}
theorem se_globT {x : Str} {xs : List Val} {p : Pos} (hm : TupK X.K X.mg x xs) (hg : Gl X x := by rfl) (hd : (x == ("__debug__" : Str)) = false := by decide) : SE X xc W (.Name x p) (eC (.tup xs)) := by
  obtain ⟨a, o, its, n, h1, h2, h3, h4, h5, h6⟩ := hm
  obtain ⟨vs, r, q⟩ := h6.rel
  exact PE_imp (pe_glob (v := .ref a) hg h1 rfl hd) fun σ H Q ⟨pa, Zs, env, re, h⟩ => h (.ref a) Zs H (PostE.refl re) (.tup (.inr ⟨o, its, n, h2, h3, h4, h5, r⟩) (q _ _ _))
end
end Z
namespace L2
open PySem PySem.Spec PyProof.Rows RZ
/-! ### zip of a list and a tuple -/
def ItzM (K : PySem.W.Frag) (a b : Addr) : It :=
  ⟨fun i H => ∃ (xs ys : List V) (x y : V), SqL K H a xs ∧ SqT K H b ys ∧ xs[i]? = some x ∧ ys[i]? = some y,
    fun i H v H' => ∃ T x y, v = .ref T ∧ H T = none ∧ H' = upd H T (.tup [x, y]) ∧ (∀ xs, SqL K H a xs → xs[i]? = some x) ∧ ∀ ys, SqT K H b ys → ys[i]? = some y,
    fun i H => ∃ xs ys : List V, SqL K H a xs ∧ SqT K H b ys ∧ (xs.length ≤ i ∨ ys.length ≤ i)⟩
theorem sep_of {a b z TI TO i1 i2 : Addr} (D : ZipApart z TI TO i1 i2 a b) : ZipSep2 z TI TO i1 i2 [i1, a] [i2, b] where
  TIz := D.TIz
  TOz := D.TOz
  TITO := D.TITO
  TIi1 := D.TIi1
  mem1 := by simp
  zf1 := by simp [D.i1z.symm, D.l1z.symm]
  Tf1 := by simp [D.TOi1, D.l1TO.symm]
  TIi2 := D.TIi2
  mem2 := by simp
  zf2 := by simp [D.i2z.symm, D.l2z.symm]
  Tf2 := by simp [D.TOi2, D.l2TO.symm]
  sep1_2 := by simp [D.i12, D.l2i1.symm]
  sep2_1 := by simp [D.i12.symm, D.l1i2.symm]
theorem draws_listEnd {prog : Program} {w : World} {A : Around} (hh : A.handled = none) (it l : Addr) (i : Nat) (items : Array Value) (he : items[i]? = none) :
    Draws prog w A it [it, l] i (fun _ _ => False) (fun j h => j = i ∧ h.IsListIter it l i ∧ h.IsList l items) where
  live := fun _ _ st => let ⟨o, ho, _⟩ := st.2.1; ⟨o, ho⟩
  frame := fun _ _ _ st hk => ⟨st.1, st.2.1.at fun o e => hk it (by simp) o e, st.2.2.at fun o e => hk l (by simp) o e⟩
  item := fun j s Q E hi st hQ => absurd hi (by rw [st.1]; exact Nat.lt_irrefl _)
  done := fun s Q E st hE => wpAny_nextOf_list_end hh st.2.1 st.2.2 he hE
theorem draws_tupleEnd {prog : Program} {w : World} {A : Around} (hh : A.handled = none) (it l : Addr) (i : Nat) (items : Array Value) (he : items[i]? = none) :
    Draws prog w A it [it, l] i (fun _ _ => False) (fun j h => j = i ∧ h.IsTupleIter it l i ∧ h.IsTuple l items) where
  live := fun _ _ st => let ⟨o, ho, _⟩ := st.2.1; ⟨o, ho⟩
  frame := fun _ _ _ st hk => ⟨st.1, st.2.1.at fun o e => hk it (by simp) o e, st.2.2.at fun o e => hk l (by simp) o e⟩
  item := fun j s Q E hi st hQ => absurd hi (by rw [st.1]; exact Nat.lt_irrefl _)
  done := fun s Q E st hE => wpAny_nextOf_tuple_end hh st.2.1 st.2.2 he hE
theorem turn_zipM {P : Program} {w : World} {K : PySem.W.Frag} {elts : List Expr} {kk : Nat} {tpos : Pos} {a b z TI TO i1 i2 : Addr} (D : ZipApart z TI TO i1 i2 a b) :
    Turn P w K (.Tuple elts kk tpos) (ItzM K a b) [z, TI, TO, i1, i2] z (fun i h => IsZip h z TI TO .none ∧ IsPair h TI (.ref i1) (.ref i2) ∧ (∃ x y, IsPair h TO x y) ∧ h.IsListIter i1 a i ∧ h.IsTupleIter i2 b i) where
  mem := by simp
  obj := fun i h st c hc => by
    obtain ⟨hz, hTI, ⟨x, y, hTO⟩, ⟨o1, e1, _, d1⟩, ⟨o2, e2, _, d2⟩⟩ := st
    have e' : c = z ∨ c = TI ∨ c = TO ∨ c = i1 ∨ c = i2 := by simpa using hc
    rcases e' with q | q | q | q | q
    · rw [q]; exact ⟨_, hz, fun v q => nomatch q⟩
    · rw [q]; exact ⟨_, hTI, fun v q => nomatch q⟩
    · rw [q]; exact ⟨_, hTO, fun v q => nomatch q⟩
    · rw [q]; exact ⟨o1, e1, fun v q => by rw [d1] at q; cases q⟩
    · rw [q]; exact ⟨o2, e2, fun v q => by rw [d2] at q; cases q⟩
  keep := fun i h h' st k => by
    obtain ⟨hz, hTI, ⟨x, y, hTO⟩, h1, h2⟩ := st
    exact ⟨k z (by simp) _ hz, k TI (by simp) _ hTI, ⟨x, y, k TO (by simp) _ hTO⟩, h1.at fun o q => k i1 (by simp) o q, h2.at fun o q => k i2 (by simp) o q⟩
  item := by
    intro X hP hw hK hc i pins s σ H E I hf st hg
    subst hP hw hK
    obtain ⟨hz, hTI, ⟨x0, y0, hTO⟩, h1, h2⟩ := st
    obtain ⟨xs, ys, x, y, hqx, hqy, hx, hy⟩ := hg
    obtain ⟨its, rv, p, _⟩ := I.list hqx
    obtain ⟨its2, rv2, p2, _⟩ := I.tuple hqy
    obtain ⟨u, hu, ru⟩ := rv.get hx
    obtain ⟨u2, hu2, ru2⟩ := rv2.get hy
    have hzl : z < s.heap.objs.size := Heap.lt_size hz
    have l1 : i < its.toArray.size := by
      rw [List.size_toArray]
      rcases Nat.lt_or_ge i its.length with q | q
      · exact q
      · rw [List.getElem?_eq_none q] at hu; cases hu
    have l2 : i < its2.toArray.size := by
      rw [List.size_toArray]
      rcases Nat.lt_or_ge i its2.length with q | q
      · exact q
      · rw [List.getElem?_eq_none q] at hu2; cases hu2
    have p2' : s.heap.IsTuple b its2.toArray := p2
    refine wpAny_pyNext_zipD2_item (sep_of D) (Draws.list (A := X.A.in1) (I.ok.hd hc) i1 a D.l1i1 its.toArray) (Draws.tuple (A := X.A.in1) (I.ok.hd hc) i2 b D.l2i2 its2.toArray) hz hTI hTO ⟨h1, p.isList⟩ ⟨h2, p2'⟩ l1 l2 fun x1 x2 h' tk y1 y2 z' TO' d1 d2 hT hsz hk => ?_
    have e1 : x1 = u := by
      have e : its.toArray[i]? = some u := by simpa using hu
      rw [e] at y1
      exact (Option.some.inj y1).symm
    have e2 : x2 = u2 := by
      have e : its2.toArray[i]? = some u2 := by simpa using hu2
      rw [e] at y2
      exact (Option.some.inj y2).symm
    subst e1 e2
    refine ⟨_, rfl, wpAny_letOwnedTupleGo_zip (s := { s with heap := h', toks := tk }) z' fun h'' z'' sb => ?_⟩
    have hT2 : h''.get? s.heap.objs.size = some { cls := .type "tuple", data := .seq #[x1, x2] } := (sb.2 _ (Nat.ne_of_gt hzl)).trans hT
    have new : ObjOk X.prog X.w (upd H s.heap.objs.size (.tup [x, y])) h'' s.heap.objs.size (.tup [x, y]) :=
      ⟨by show 2 ≤ sizeLine; decide, [x1, x2], .cons ru (.cons ru2 .nil), ⟨_, hT2, rfl, _, rfl⟩⟩
    have I1 : Inv X pins σ (upd H s.heap.objs.size (.tup [x, y])) { s with heap := h'', toks := tk } :=
      I.turnedNew (t' := tk) (ch := [z, TI, TO, i1, i2]) (fun c o hb q => (sb.2 c (fun q' => hb (by simp [q']))).trans (hk c o (fun q' => hb (by simp [q'])) (fun q' => hb (by simp [q'])) (fun q' => hb (by simp [q'])) (fun q' => hb (by simp [q'])) q)) hf (Nat.le_refl _) new
    refine ⟨.ref s.heap.objs.size, _, I1, rfl, ⟨_, x, y, rfl, I.hok.fresh (Nat.le_refl _), rfl, fun l hl => by rw [I.list_inj hl hqx]; exact hx, fun l hl => by rw [I.tuple_inj hl hqy]; exact hy⟩, ⟨z'', ?_, ⟨x1, x2, ?_⟩, ?_, ?_⟩, fun c hcm => ?_⟩
    · exact (sb.2 _ D.TIz).trans (hk _ _ D.TIz D.TITO D.TIi1 D.TIi2 hTI)
    · exact (sb.2 _ D.TOz).trans TO'
    · exact d1.1.at fun o q => (sb.2 _ D.i1z).trans q
    · exact d2.1.at fun o q => (sb.2 _ D.i2z).trans q
    · have hlt : c < s.heap.objs.size := by
        have e' : c = z ∨ c = TI ∨ c = TO ∨ c = i1 ∨ c = i2 := by simpa using hcm
        rcases e' with q | q | q | q | q
        · rw [q]; exact hzl
        · rw [q]; exact Heap.lt_size hTI
        · rw [q]; exact Heap.lt_size hTO
        · rw [q]; obtain ⟨_, e1, _⟩ := h1; exact Heap.lt_size e1
        · rw [q]; obtain ⟨_, e2, _⟩ := h2; exact Heap.lt_size e2
      rw [upd_ne (Nat.ne_of_lt hlt)]
      exact (hf c hcm).1
  done := by
    intro X hP hw hK hc i pins s σ H E I hf st hg
    subst hP hw hK
    obtain ⟨hz, hTI, ⟨x0, y0, hTO⟩, h1, h2⟩ := st
    obtain ⟨xs, ys, hqx, hqy, hend⟩ := hg
    obtain ⟨its, rv, p, _⟩ := I.list hqx
    obtain ⟨its2, rv2, p2, _⟩ := I.tuple hqy
    have l1 := rv.length
    have l2 := rv2.length
    have p2' : s.heap.IsTuple b its2.toArray := p2
    have fin : ∀ (h' : Heap) (tk : Nat), (∀ c o, c ≠ z → c ≠ TO → c ≠ i1 → c ≠ i2 → s.heap.get? c = some o → h'.get? c = some o) → (none : Option Value) = none ∧ Inv X pins σ H { s with heap := h', toks := tk } := fun h' tk hk =>
      ⟨rfl, I.turnedL (t' := tk) (ch := [z, TI, TO, i1, i2]) (fun c o hb q => hk c o (fun q' => hb (by simp [q'])) (fun q' => hb (by simp [q'])) (fun q' => hb (by simp [q'])) (fun q' => hb (by simp [q'])) q) hf⟩
    have hh := I.ok.hd hc
    rcases Nat.lt_or_ge i its.toArray.size with q1 | q1
    · rcases Nat.lt_or_ge i its2.toArray.size with q2 | q2
      · exfalso
        rw [List.size_toArray] at q1 q2
        rcases hend with q | q <;> omega
      · exact wpAny_pyNext_zipD2_end (sep_of D) (Draws.list (A := X.A.in1) hh i1 a D.l1i1 its.toArray) (draws_tupleEnd (A := X.A.in1) hh i2 b i its2.toArray (Array.getElem?_eq_none q2)) hz hTI hTO ⟨h1, p.isList⟩ ⟨rfl, h2, p2'⟩ (Nat.le_of_lt q1) (Nat.le_refl _) (.inr rfl) fin
    · rcases Nat.lt_or_ge i its2.toArray.size with q2 | q2
      · exact wpAny_pyNext_zipD2_end (sep_of D) (draws_listEnd (A := X.A.in1) hh i1 a i its.toArray (Array.getElem?_eq_none q1)) (Draws.tuple (A := X.A.in1) hh i2 b D.l2i2 its2.toArray) hz hTI hTO ⟨rfl, h1, p.isList⟩ ⟨h2, p2'⟩ (Nat.le_refl _) (Nat.le_of_lt q2) (.inl rfl) fin
      · exact wpAny_pyNext_zipD2_end (sep_of D) (draws_listEnd (A := X.A.in1) hh i1 a i its.toArray (Array.getElem?_eq_none q1)) (draws_tupleEnd (A := X.A.in1) hh i2 b i its2.toArray (Array.getElem?_eq_none q2)) hz hTI hTO ⟨rfl, h1, p.isList⟩ ⟨rfl, h2, p2'⟩ (Nat.le_refl _) (Nat.le_refl _) (.inl rfl) fin
  self := fun A i s Q E st h => wpAny_pyIter_zip st.1 h
abbrev zm1 (h : Heap) (l1 : Addr) : Heap := h.push { cls := .type "list_iterator", data := .fields #[.ref l1, .int 0 0] }
abbrev zm2 (h : Heap) (l1 l2 : Addr) : Heap := (zm1 h l1).push { cls := .type "tuple_iterator", data := .fields #[.ref l2, .int 0 0] }
abbrev zm3 (h : Heap) (l1 l2 : Addr) : Heap := (zm2 h l1 l2).push { cls := .type "tuple", data := .seq #[.ref h.objs.size, .ref (zm1 h l1).objs.size] }
abbrev zm4 (h : Heap) (l1 l2 : Addr) : Heap := (zm3 h l1 l2).push { cls := .type "tuple", data := .seq #[.none, .none] }
abbrev zm5 (h : Heap) (l1 l2 : Addr) : Heap := (zm4 h l1 l2).push { cls := .type "zip", data := .fields #[.none, .bool false, .bool false, .ref (zm2 h l1 l2).objs.size, .ref (zm3 h l1 l2).objs.size] }
theorem meets_zipM (l1 l2 : Addr) (xs ys : Array Value) :
    Meets (Builtin.«zip.__new__» ⟨[.type "zip", .ref l1, .ref l2], []⟩) (fun _ R s => s.heap.IsList l1 xs ∧ s.heap.IsTuple l2 ys ∧
      R (.ok (.ret (.ref (zm4 s.heap l1 l2).objs.size))) { s with heap := zm5 s.heap l1 l2 }) :=
  .of_wp fun prog w A R s h => by
    obtain ⟨hp, g, d, tk, os⟩ := s; obtain ⟨hl1, hl2, h⟩ := h
    have hsub := sub_zip
    have hL1 : Heap.IsList (Shared.heap ⟨hp, g, d, tk, os⟩) l1 xs := hl1
    have hL2 : Heap.IsTuple (Shared.heap ⟨hp.push { cls := .type "list_iterator", data := .fields #[.ref l1, .int 0 0] }, g, d, tk, os⟩) l2 ys := Heap.IsTuple.push hl2 _
    wp_walk using wpAny_pyIter_list hL1, wpAny_pyIter_tuple hL2
    exact ⟨_, rfl, h⟩
section
variable {P : Program} {w : World} {A : Around} {E : Value → Shared → Prop} {s : Shared}
theorem call_zipM {l1 l2 : Addr} {xs ys : Array Value} {Q : Value → Shared → Prop} (hl1 : s.heap.IsList l1 xs) (hl2 : s.heap.IsTuple l2 ys)
    (h : ∀ h', IsZip h' (s.heap.objs.size + 4) (s.heap.objs.size + 2) (s.heap.objs.size + 3) .none → IsPair h' (s.heap.objs.size + 2) (.ref s.heap.objs.size) (.ref (s.heap.objs.size + 1)) →
      IsPair h' (s.heap.objs.size + 3) .none .none → h'.IsListIter s.heap.objs.size l1 0 → h'.IsTupleIter (s.heap.objs.size + 1) l2 0 →
      (∀ c o, s.heap.get? c = some o → h'.get? c = some o) → Q (.ref (s.heap.objs.size + 4)) { s with heap := h' }) :
    wpAny (model P w) A (call (.type "zip") [.ref l1, .ref l2]) Q E s := by
  refine callType_new F.called_zip (by decide) (F.typeCall_zip_2 _ _) (F.newCall_zip_2 _ _) (fun obj => F.args_object_init_3 obj _ _) F.entry_zip_new
    (meets_zipM l1 l2 xs ys) ⟨hl1, hl2, ?_⟩
  have z1 : (zm1 s.heap l1).objs.size = s.heap.objs.size + 1 := Heap.size_push ..
  have z2 : (zm2 s.heap l1 l2).objs.size = s.heap.objs.size + 2 := by rw [Heap.size_push, z1]
  have z3 : (zm3 s.heap l1 l2).objs.size = s.heap.objs.size + 3 := by rw [Heap.size_push, z2]
  have z4 : (zm4 s.heap l1 l2).objs.size = s.heap.objs.size + 4 := by rw [Heap.size_push, z3]
  have up : ∀ c o, s.heap.get? c = some o → (zm5 s.heap l1 l2).get? c = some o := fun c o x =>
    Heap.get?_push_of_some _ (Heap.get?_push_of_some _ (Heap.get?_push_of_some _ (Heap.get?_push_of_some _ (Heap.get?_push_of_some _ x))))
  have g5 : (zm5 s.heap l1 l2).get? (zm4 s.heap l1 l2).objs.size = some _ := Heap.get?_push_size _ rfl
  have g4 : (zm5 s.heap l1 l2).get? (zm3 s.heap l1 l2).objs.size = some _ := Heap.get?_push_of_some _ (Heap.get?_push_size _ rfl)
  have g3 : (zm5 s.heap l1 l2).get? (zm2 s.heap l1 l2).objs.size = some _ := Heap.get?_push_of_some _ (Heap.get?_push_of_some _ (Heap.get?_push_size _ rfl))
  have g2 : (zm5 s.heap l1 l2).get? (zm1 s.heap l1).objs.size = some _ := Heap.get?_push_of_some _ (Heap.get?_push_of_some _ (Heap.get?_push_of_some _ (Heap.get?_push_size _ rfl)))
  have g1 : (zm5 s.heap l1 l2).get? s.heap.objs.size = some _ := Heap.get?_push_of_some _ (Heap.get?_push_of_some _ (Heap.get?_push_of_some _ (Heap.get?_push_of_some _ (Heap.get?_push_size _ rfl))))
  show _ ∧ _
  rw [z2, z3, z4] at g5
  rw [z1, z2] at g3
  rw [z3] at g4
  rw [z1] at g2
  rw [z4]
  exact ⟨⟨_, g5, rfl⟩, h _ g5 g3 g4 ⟨_, g1, rfl, rfl⟩ ⟨_, g2, rfl, rfl⟩ up⟩
end
section
variable {X : Cx}
def iZipM (K : PySem.W.Frag) (ta : TA) : TI := fun σ H R => ta σ H fun vs H1 => ∃ a b xs ys, vs = [.ref a, .ref b] ∧ SqL K H1 a xs ∧ SqT K H1 b ys ∧ R (ItzM K a b) H1
theorem pi_zipM {e e2 : Expr} {ta : TA} {p pos tpos : Pos} {elts : List Expr} {kk : Nat} (hg : Gl X "zip") (hm : X.mg "zip" = none) (ha : PA X [e, e2] ta)
    (hs : starEach [e, e2] X.env = (false, eval e X.env) :: starEach [e2] X.env := by rfl) (hpl : (backTo pos (starEach [e2] X.env)).any (·.1) = false := by rfl) :
    PI X (.Tuple elts kk tpos) (.Call (.Name "zip" p) [e, e2] [] pos) (iZipM X.K ta) := by
  refine ⟨fun pins s σ H R I h => ?_⟩
  refine Call_ (ld_blt I hg hm PyProof.Rows.boot_zip (PyProof.Rows.callWith_type1 (thn (ha.run pos pins s σ H _ I h) fun us s1 ⟨vs, H1, I1, r1, q1⟩ => ?_) hs hpl))
  obtain ⟨a, b, xs, ys, ex, hqx, hqy, q⟩ := q1
  subst ex
  cases r1 with
  | cons r rr =>
    cases rr with
    | cons r' rr =>
      cases rr
      cases r
      cases r'
      have fresh5 : ∀ c, c ∈ [s1.heap.objs.size + 4, s1.heap.objs.size + 2, s1.heap.objs.size + 3, s1.heap.objs.size, s1.heap.objs.size + 1] → FpOk X pins H1 c := fun c hcm => by
        have e' : c = s1.heap.objs.size + 4 ∨ c = s1.heap.objs.size + 2 ∨ c = s1.heap.objs.size + 3 ∨ c = s1.heap.objs.size ∨ c = s1.heap.objs.size + 1 := by simpa using hcm
        have hle : s1.heap.objs.size ≤ c := by
          rcases e' with z | z | z | z | z
          · rw [z]; exact Nat.le_add_right _ _
          · rw [z]; exact Nat.le_add_right _ _
          · rw [z]; exact Nat.le_add_right _ _
          · rw [z]; exact Nat.le_refl _
          · rw [z]; exact Nat.le_add_right _ _
        exact I1.fpOk hle (I1.hok.fresh hle)
      obtain ⟨its, rv, p1, _⟩ := I1.list hqx
      obtain ⟨its2, rv2, p2, _⟩ := I1.tuple hqy
      obtain ⟨o2, ho2, _⟩ := id p2
      refine call_zipM p1.isList (show s1.heap.IsTuple b its2.toArray from p2) fun h' hz hTI hTO h1 h2 hk => wpAny_pyIter_zip hz ?_
      have I2 : Inv X pins σ H1 { s1 with heap := h' } := I1.kept (t' := s1.toks) hk
      exact ⟨s1.heap.objs.size + 4, [s1.heap.objs.size + 4, s1.heap.objs.size + 2, s1.heap.objs.size + 3, s1.heap.objs.size, s1.heap.objs.size + 1], _, _, H1, rfl, I2, turn_zipM (PySem.W.ktu_apart s1.heap.objs.size a b p1.lt (Heap.lt_size ho2)), ⟨hz, hTI, ⟨_, _, hTO⟩, h1, h2⟩, fresh5, q⟩
end
end L2
namespace Z
open PySem L2 PySem.Spec RZ
theorem walk_zipM {g : Gm} {Zs : Addr → Prop} {H : Hp} {a b : Addr} {xs ys : List Val} {us ws : List V} (h : SqZ g Zs H a us) (r : RvL g Zs H xs us) (k : SqT g.K H b ws) (s : RvL g Zs H ys ws) : Walk g Zs H (ItzM g.K a b) (zipV xs ys) := by
  intro Z2 H2 gr zd
  have h2 := (gr.sqZ h).sq
  have k2 := gr.sqT k
  have r2 := r.gr gr
  have s2 := s.gr gr
  refine ⟨fun i x hx => ?_, fun i hi => ⟨us, ws, h2, k2, by rw [← r.length, ← s.length]; rw [zipV_len] at hi; omega⟩⟩
  obtain ⟨y, z, hy, hz, rfl⟩ := zipV_at hx
  obtain ⟨u1, hu1, _⟩ := r2.get hy
  obtain ⟨u2, hu2, _⟩ := s2.get hz
  refine ⟨⟨us, ws, u1, u2, h2, k2, hu1, hu2⟩, fun u H3 q => ?_⟩
  obtain ⟨T, x', y', eu, hT, eH, hx', hy'⟩ := q
  subst eu eH
  exact ⟨Z2, Ext.new zd hT, .tup (SqT.of upd_same) (.cons ((r2.at hy (hx' us h2)).ext (Ext.new zd hT) fun _ z => z.elim) (.cons ((s2.at hz (hy' ws k2)).ext (Ext.new zd hT) fun _ z => z.elim) .nil))⟩
/-- zip(a, b), a list and a tuple -/
def iZipM (a : As) : Src := fun e => (a e).bind fun rs e1 => (escs e1 rs).bind fun xs e2 => match xs with
  | [.lst xs, .tup ys] => .ok (zipV xs ys) e2
  | _ => .no
@[simp] theorem iZipM_ap (a : As) (e : Env) : iZipM a e = (a e).bind fun rs e1 => (escs e1 rs).bind fun xs e2 => match xs with | [.lst xs, .tup ys] => .ok (zipV xs ys) e2 | _ => .no := rfl
section
variable {X : Cx} {xc : Xc} {W : WX} {pos tpos : Pos} {elts : List Expr} {kk : Nat}
theorem si_zipM {a b : Expr} {fa : As} {p : Pos} (hm : X.mg "zip" = none) (ha : SA X xc W [a, b] fa) (hg : Gl X "zip" := by rfl) (hs : starEach [a, b] X.env = (false, eval a X.env) :: starEach [b] X.env := by rfl) (hpl : (backTo pos (starEach [b] X.env)).any (·.1) = false := by rfl) :
    SI X xc W (.Tuple elts kk tpos) (.Call (.Name "zip" p) [a, b] [] pos) (iZipM fa) := by
  refine PI_imp (pi_zipM hg hm ha hs hpl) fun σ H R h => ?_
  obtain ⟨pa, Zs, env, re, h⟩ := h
  refine ⟨pa, Zs, env, re, ?_⟩
  unfold iZipM at h
  cases hf : fa env with
  | no => rw [hf] at h; exact h
  | ex c fs e1 => rw [hf] at h; exact h
  | ok rs e1 =>
    rw [hf, Rs.bind_ok] at h
    intro us Z1 H1 p1 q1
    cases he : escs e1 rs with
    | no => rw [he] at h; exact h.elim
    | ex c fs e => exact absurd he (escs_ex _ _ _ _ _)
    | ok xs e2 =>
      rw [he, Rs.bind_ok] at h
      obtain ⟨Z2, P2, rl, _⟩ := escs_ok p1 q1 he
      cases rl with
      | nil => exact h.elim
      | cons rv rr =>
        cases rr with
        | nil => cases rv <;> exact h.elim
        | cons rw rr =>
          cases rr with
          | cons _ _ => cases rv <;> cases rw <;> exact h.elim
          | nil =>
            cases rv with
            | lst hs r =>
              cases rw with
              | tup ks s => exact ⟨_, _, _, _, rfl, hs.sq, ks, h Z2 H1 _ P2 (walk_zipM hs r ks s)⟩
              | _ => exact h.elim
            | _ => cases rw <;> exact h.elim
end
end Z
namespace Z
open PySem L2 PySem.Spec RZ
/-- zip(a, b): two lists, two tuples, a list and a tuple -/
def iZipX (a : As) : Src := fun e => match iZipS a e with
  | .no => iZipM a e
  | r => r
section
variable {X : Cx} {xc : Xc} {W : WX} {pos tpos : Pos} {elts : List Expr} {kk : Nat}
theorem si_or {tg e : Expr} {f g : Src} (h : SI X xc W tg e f) (k : SI X xc W tg e g) : SI X xc W tg e (fun e => match f e with | .no => g e | r => r) := by
  refine ⟨fun pins s σ H R I q => ?_⟩
  obtain ⟨pa, Zs, env, re, q⟩ := q
  cases hf : f env with
  | no =>
    simp only [hf] at q
    exact k.run pins s σ H R I ⟨pa, Zs, env, re, q⟩
  | ok xs e1 =>
    simp only [hf] at q
    exact h.run pins s σ H R I ⟨pa, Zs, env, re, by rw [hf]; exact q⟩
  | ex c fs e1 =>
    simp only [hf] at q
    exact h.run pins s σ H R I ⟨pa, Zs, env, re, by rw [hf]; exact q⟩
theorem si_zipX {a b : Expr} {fa : As} {p : Pos} (hm : X.mg "zip" = none) (ha : SA X xc W [a, b] fa) (hg : Gl X "zip" := by rfl) (hs : starEach [a, b] X.env = (false, eval a X.env) :: starEach [b] X.env := by rfl) (hpl : (backTo pos (starEach [b] X.env)).any (·.1) = false := by rfl) :
    SI X xc W (.Tuple elts kk tpos) (.Call (.Name "zip" p) [a, b] [] pos) (iZipX fa) := si_or (si_zip hm ha hg hs hpl) (si_zipM hm ha hg hs hpl)
end
theorem iZipX_ll (a : As) (e e1 e2 : Env) (rs : List RV) (xs ys : List Val) (h : a e = .ok rs e1) (h2 : escs e1 rs = .ok [.lst xs, .lst ys] e2) : iZipX a e = .ok (zipV xs ys) e2 := by
  unfold iZipX; simp [h, h2]
theorem iZipX_tt (a : As) (e e1 e2 : Env) (rs : List RV) (xs ys : List Val) (h : a e = .ok rs e1) (h2 : escs e1 rs = .ok [.tup xs, .tup ys] e2) : iZipX a e = .ok (zipV xs ys) e2 := by
  unfold iZipX; simp [h, h2]
theorem iZipX_lt (a : As) (e e1 e2 : Env) (rs : List RV) (xs ys : List Val) (h : a e = .ok rs e1) (h2 : escs e1 rs = .ok [.lst xs, .tup ys] e2) : iZipX a e = .ok (zipV xs ys) e2 := by
  unfold iZipX; simp [h, h2]
@[simp] theorem iZipX_ap (a : As) (e : Env) : iZipX a e = (a e).bind fun rs e1 => (escs e1 rs).bind fun xs e2 => match xs with | [.lst xs, .lst ys] => .ok (zipV xs ys) e2 | [.tup xs, .tup ys] => .ok (zipV xs ys) e2 | [.lst xs, .tup ys] => .ok (zipV xs ys) e2 | _ => .no := by
  unfold iZipX
  rw [iZipS_ap, iZipM_ap]
  cases a e with
  | no => rfl
  | ex c fs e1 => rfl
  | ok rs e1 =>
    simp only [Rs.bind_ok]
    cases escs e1 rs with
    | no => rfl
    | ex c fs e1 => rfl
    | ok xs e2 =>
      simp only [Rs.bind_ok]
      match xs with
      | [] => rfl
      | [x] => cases x <;> rfl
      | [x, y] => cases x <;> cases y <;> rfl
      | x :: y :: z :: t => cases x <;> cases y <;> rfl
end Z
/-! ZU: bits; sorted of alike data. -/
namespace Z
open PySem L2 PySem.Spec PyProof.Rows
open PySem.W (alike alikeAll dataLt AlikeAll AllAlike Sortable EachIs dataLe readsAll_each sorted_data)
/-! ### bits -/
def fShl : Val → Val → Option RV
  | .int i, .int j => if 0 ≤ j ∧ j ≤ 1000000 ∧ i.natAbs < 2 ^ 64 then some (.v (.int (i * 2 ^ j.toNat))) else none
  | _, _ => none
def fShr : Val → Val → Option RV
  | .int i, .int j => if 0 ≤ j then some (.v (.int (i / 2 ^ j.toNat))) else none
  | _, _ => none
def fBand : Val → Val → Option RV
  | .int i, .int j => some (.v (.int (Builtin.bitAnd i j)))
  | _, _ => none
def fBor : Val → Val → Option RV
  | .int i, .int j => some (.v (.int (Builtin.bitOr i j)))
  | _, _ => none
def fBxor : Val → Val → Option RV
  | .int i, .int j => some (.v (.int (Builtin.bitXor i j)))
  | _, _ => none
section
variable {X : Cx}
theorem os_band : OpS X (binaryOp .BitAnd) fBand := os_int0 (c := fun i j => .int (Builtin.bitAnd i j)) op_and (fun _ _ _ _ _ => .int _) fun x y z h => by
  unfold fBand at h; split at h <;> cases h; exact ⟨_, _, rfl, rfl, rfl⟩
theorem os_bor : OpS X (binaryOp .BitOr) fBor := os_int0 (c := fun i j => .int (Builtin.bitOr i j)) op_or (fun _ _ _ _ _ => .int _) fun x y z h => by
  unfold fBor at h; split at h <;> cases h; exact ⟨_, _, rfl, rfl, rfl⟩
theorem os_bxor : OpS X (binaryOp .BitXor) fBxor := os_int0 (c := fun i j => .int (Builtin.bitXor i j)) op_xor (fun _ _ _ _ _ => .int _) fun x y z h => by
  unfold fBxor at h; split at h <;> cases h; exact ⟨_, _, rfl, rfl, rfl⟩
theorem os_shl : OpS X (binaryOp .LShift) fShl := by
  have cs : ∀ {x y : Val} {z : RV}, fShl x y = some z → ∃ i j, x = .int i ∧ y = .int j ∧ CPow i j ∧ z = .v (.int (i * 2 ^ j.toNat)) := fun {x y z} h => by
    unfold fShl at h
    split at h
    · split at h
      · cases h; exact ⟨_, _, rfl, rfl, by assumption, rfl⟩
      · cases h
    · cases h
  refine ⟨⟨_, op_shl, fun Zs H x y z u w Q zd hf hx hy q => ?_⟩, fun x y i h => ?_⟩
  · obtain ⟨i, j, rfl, rfl, hc, rfl⟩ := cs hf
    exact ⟨i, j, hx.int, hy.int, hc, q.val zd (.int _)⟩
  · obtain ⟨_, _, _, _, _, e⟩ := cs h
    cases e
theorem os_shr : OpS X (binaryOp .RShift) fShr := by
  have cs : ∀ {x y : Val} {z : RV}, fShr x y = some z → ∃ i j, x = .int i ∧ y = .int j ∧ 0 ≤ j ∧ z = .v (.int (i / 2 ^ j.toNat)) := fun {x y z} h => by
    unfold fShr at h
    split at h
    · split at h
      · cases h; exact ⟨_, _, rfl, rfl, by assumption, rfl⟩
      · cases h
    · cases h
  refine ⟨⟨_, op_shr, fun Zs H x y z u w Q zd hf hx hy q => ?_⟩, fun x y i h => ?_⟩
  · obtain ⟨i, j, rfl, rfl, hc, rfl⟩ := cs hf
    exact ⟨i, j, hx.int, hy.int, hc, q.val zd (.int _)⟩
  · obtain ⟨_, _, _, _, _, e⟩ := cs h
    cases e
end
/-! ### sorted -/
def vle (x y : Val) : Bool := dataLe false toD x y
def isTup1 : Val → Bool
  | .tup (_ :: _) => true
  | _ => false
def isTupV : Val → Bool
  | .tup _ => true
  | _ => false
def sortable (xs : List Val) : Bool := allAlike xs && (xs.all isTup1 || xs.all fun x => !isTupV x)
def fSortD : List Val → Option RV
  | [.lst xs] => if sortable xs then some (.own (.lst (xs.mergeSort vle))) else none
  | _ => none
/-- the items, in the order of what they tell -/
def rSortD (K : PySem.W.Frag) : List V → Hp → VK → Prop := fun vs H Q => ∃ (a : Addr) (us : List V) (ds : List PyData), vs = [V.ref a] ∧ SqL K H a us ∧ DpAll K H us ds ∧ AllAlike ds ∧ Sortable ds ∧ PyData.depthAll ds ≤ 60 ∧
  ∀ p, H p = none → Q (.ref p) (upd H p (.lst (((us.zip ds).mergeSort (dataLe false Prod.snd)).map Prod.fst)))
theorem each_vals {out : List Value} : ∀ {bs : List (V × PyData)}, EachIs (fun v b => RelV b.1 v) out bs → Vals (bs.map Prod.fst) out := by
  induction out with
  | nil => intro bs h; cases h; exact .nil
  | cons v vs ih => intro bs h; cases h with | cons r t => exact .cons r (ih t)
theorem vals_each {its : List Value} : ∀ {us : List V} {ds : List PyData}, Vals us its → us.length = ds.length → EachIs (fun v b => RelV b.1 v) its (us.zip ds) := by
  induction its with
  | nil => intro us ds r h; cases r; exact .nil
  | cons v vs ih =>
    intro us ds r h
    cases r with
    | cons r t =>
      cases ds with
      | nil => cases h
      | cons d ds => exact .cons r (ih t (by simpa using h))
theorem dp_len {K : PySem.W.Frag} {H : Hp} : ∀ {us : List V} {ds : List PyData}, DpAll K H us ds → us.length = ds.length
  | _, _, .nil => rfl
  | _, _, .cons _ t => by rw [List.length_cons, List.length_cons, dp_len t]
theorem depth_mem : ∀ {ds : List PyData} {d : PyData} {n : Nat}, PyData.depthAll ds ≤ n → d ∈ ds → d.depth ≤ n
  | e :: ds, d, n, h, m => by
    rw [PyData.depthAll] at h
    have := Nat.max_le.mp h
    rcases List.mem_cons.mp m with rfl | m
    · exact this.1
    · exact depth_mem this.2 m
section
variable {X : Cx}
theorem cr_sortD (hu : X.A.units + 64 < cLine) : CallR X (.builtin "sorted") (rSortD X.K) := by
  intro pins s σ H vs us Q I r h
  obtain ⟨a, ws, ds, rfl, hs, hd, ha, hk, hn, q⟩ := h
  obtain ⟨its, rv, hl, hz⟩ := I.list hs
  rw [Vals.ref1 r]
  obtain ⟨as, hr⟩ := Dp.readsAll I _ _ _ hd rv
  have el := dp_len hd
  have em : (ws.zip ds).map Prod.snd = ds := by rw [List.map_snd_zip]; omega
  have lz : (ws.zip ds).length = ws.length := by rw [List.length_zip]; omega
  refine sorted_data (R := fun v b => RelV b.1 v) (enc := Prod.snd) (bs := ws.zip ds) hl.isList (vals_each rv el) (readsAll_each Prod.snd (by rw [em]; exact hr)) (by rw [em]; exact ha) (by rw [em]; exact hk) (by rw [lz]; exact hz) (fun b hb => ?_) fun out ho eo => ?_
  · have : b.2 ∈ ds := by rw [← em]; exact List.mem_map.mpr ⟨b, hb, rfl⟩
    have := depth_mem hn this
    omega
  · obtain ⟨ep, he'⟩ := PyProof.Rows.sortedAll_at s.heap its out.toArray
    have hlen : (((ws.zip ds).mergeSort (dataLe false Prod.snd)).map Prod.fst).length ≤ sizeLine := by
      rw [List.length_map, List.length_mergeSort, lz]
      exact hz
    exact ⟨.ref _, upd H (s.heap.objs.size + 1) (.lst (((ws.zip ds).mergeSort (dataLe false Prod.snd)).map Prod.fst)), I.laid (t' := s.toks) (fun _ _ => PyProof.Rows.sortedAll_old) (Nat.le_succ _) ⟨hlen, out, ep, each_vals eo, he'⟩, rfl, q _ (I.hok.fresh (Nat.le_succ _))⟩
theorem rvl_pairs {g : Gm} {Zs : Addr → Prop} {H : Hp} : ∀ {L : List (Val × V)}, (∀ p ∈ L, RvV g Zs H p.1 p.2) → RvL g Zs H (L.map Prod.fst) (L.map Prod.snd)
  | [], _ => .nil
  | p :: L, h => .cons (h p List.mem_cons_self) (rvl_pairs fun q m => h q (List.mem_cons_of_mem _ m))
theorem rvl_zip {g : Gm} {Zs : Addr → Prop} {H : Hp} : ∀ {xs : List Val} {us : List V}, RvL g Zs H xs us → ∀ p ∈ xs.zip us, RvV g Zs H p.1 p.2
  | _, _, .nil, p, m => by cases m
  | _, _, .cons h r, p, m => by
    rcases List.mem_cons.mp m with rfl | m
    · exact h
    · exact rvl_zip r p m
theorem zip_toDs : ∀ (xs : List Val) (us : List V), us.zip (toDs xs) = (xs.zip us).map fun p => (p.2, toD p.1)
  | [], us => by cases us <;> rfl
  | x :: xs, [] => rfl
  | x :: xs, u :: us => by
    rw [toDs, List.zip_cons_cons, zip_toDs xs us]
    rfl
theorem sort_rvl {g : Gm} {Zs : Addr → Prop} {H : Hp} {xs : List Val} {us : List V} (r : RvL g Zs H xs us) : RvL g Zs H (xs.mergeSort vle) (((us.zip (toDs xs)).mergeSort (dataLe false Prod.snd)).map Prod.fst) := by
  have hl := r.length
  have e1 : (us.zip (toDs xs)).mergeSort (dataLe false Prod.snd) = ((xs.zip us).mergeSort fun p q => vle p.1 q.1).map fun p => (p.2, toD p.1) := by
    rw [zip_toDs]
    exact (List.map_mergeSort (f := fun p : Val × V => (p.2, toD p.1)) fun a _ b _ => rfl).symm
  have e2 : xs.mergeSort vle = ((xs.zip us).mergeSort fun p q => vle p.1 q.1).map Prod.fst := by
    rw [List.map_mergeSort (s := vle) (f := Prod.fst) fun a _ b _ => rfl, List.map_fst_zip]
    omega
  rw [e1, e2, List.map_map]
  exact rvl_pairs fun p m => rvl_zip r p (List.mem_mergeSort.mp m)
theorem sortable_D {xs : List Val} (h : sortable xs = true) : AllAlike (toDs xs) ∧ Sortable (toDs xs) ∧ (∀ x ∈ xs, vok 60 x = true) := by
  unfold sortable at h
  rw [Bool.and_eq_true, Bool.or_eq_true] at h
  obtain ⟨h1, h2⟩ := h
  obtain ⟨k1, k2⟩ := allAlike_iff h1
  have a := allAlike_D h1
  refine ⟨a.1, ?_, fun x m => (k1 x m).1⟩
  rcases h2 with h2 | h2
  · refine .inl fun d m => ?_
    rw [toDs_map] at m
    obtain ⟨x, hx, rfl⟩ := List.mem_map.mp m
    have := List.all_eq_true.mp h2 x hx
    cases x with
    | tup ys =>
      cases ys with
      | nil => cases this
      | cons y ys => exact ⟨toD y, toDs ys, by rw [toD, toDs]⟩
    | _ => cases this
  · refine .inr fun d m => ⟨a.2 d m, fun ys e => ?_⟩
    rw [toDs_map] at m
    obtain ⟨x, hx, rfl⟩ := List.mem_map.mp m
    have q := List.all_eq_true.mp h2 x hx
    cases x <;> first | (cases q; done) | (simp only [toD] at e; cases e; done)
theorem cs_sortD (hu : X.A.units + 64 < cLine) : CallS X (.builtin "sorted") fSortD := by
  have cs : ∀ {xs z}, fSortD xs = some z → ∃ r : List Val, xs = [.lst r] ∧ sortable r = true ∧ z = .own (.lst (r.mergeSort vle)) := fun {xs z} h => by
    unfold fSortD at h; split at h
    · split at h
      · rename_i c
        cases h
        exact ⟨_, rfl, c, rfl⟩
      · cases h
    · cases h
  refine ⟨⟨_, cr_sortD hu, fun Zs H xs z us Q zd hf hx q => ?_⟩, fun xs i h => ?_⟩
  · obtain ⟨r, rfl, ca, rfl⟩ := cs hf
    obtain ⟨u, rfl, h⟩ := hx.one
    obtain ⟨a, ws, rfl, hl, rl⟩ := h.lst
    obtain ⟨k1, k2, k3⟩ := sortable_D ca
    exact ⟨a, ws, toDs r, rfl, .inl hl, rl.dp 60 (List.all_eq_true.mpr k3), k1, k2, depth_all k3, fun p hp => q.lst zd (sort_rvl rl) hp⟩
  · obtain ⟨_, _, _, e⟩ := cs h; cases e
end
end Z
/-! ZV: dicts; list(range(n)). -/
namespace Z
open PySem L2 PySem.Spec PyProof.Rows
/-! ### by content -/
def kEq : Val → Val → Bool
  | .int i, .int j => i == j
  | .str s, .str t => s == t
  | _, _ => false
def getV (kvs : List (Val × Val)) (k : Val) : Option Val := (kvs.find? fun p => kEq p.1 k).map Prod.snd
def putV (kvs : List (Val × Val)) (k x : Val) : List (Val × Val) := if kvs.any fun p => kEq p.1 k then kvs.map fun p => if kEq p.1 k then (p.1, x) else p else kvs ++ [(k, x)]
def keyOf : Val → Option Key
  | .int i => some (.inl i)
  | .str s => some (.inr s)
  | _ => none
section
variable {g : Gm} {Zs : Addr → Prop} {H : Hp}
theorem RvD.len : ∀ {kvs : List (Val × Val)} {ks : List (Key × V)}, RvD g Zs H kvs ks → kvs.length = ks.length
  | _, _, .nil => rfl
  | _, _, .int _ r => by rw [List.length_cons, List.length_cons, r.len]
  | _, _, .str _ r => by rw [List.length_cons, List.length_cons, r.len]
theorem RvD.keys : ∀ {kvs : List (Val × Val)} {ks : List (Key × V)}, RvD g Zs H kvs ks → RvL g Zs H (kvs.map Prod.fst) (ks.map fun p => kV p.1)
  | _, _, .nil => .nil
  | _, _, .int _ r => .cons (.int _) r.keys
  | _, _, .str _ r => .cons (.str _) r.keys
theorem kEq_int (i j : Int) : kEq (.int i) (.int j) = decide (i = j) := rfl
theorem kEq_str (i j : Str) : kEq (.str i) (.str j) = decide (i = j) := by
  show (i == j) = _
  by_cases h : i = j
  · subst h; simp
  · simp [h]
theorem RvD.get {k : Val} {k' : Key} (hk : keyOf k = some k') : ∀ {kvs : List (Val × Val)} {ks : List (Key × V)}, RvD g Zs H kvs ks → (getV kvs k = none ∧ valV ks k' = none) ∨ ∃ x u, getV kvs k = some x ∧ valV ks k' = some u ∧ RvV g Zs H x u
  | _, _, .nil => .inl ⟨rfl, rfl⟩
  | _, _, .int (i := i) (x := x) (u := u) (xs := xs) (us := us) h r => by
    have ih := RvD.get hk r
    have step : ∀ b : Bool, kEq (.int i) k = b → decide ((Sum.inl i : Key) = k') = b := fun b e => by
      cases k with
      | int j =>
        cases hk
        rw [kEq_int] at e
        rw [← e]
        by_cases q : i = j
        · subst q; simp
        · rw [decide_eq_false q, decide_eq_false (fun z => q (Sum.inl.inj z))]
      | str s =>
        cases hk
        have : kEq (.int i) (.str s) = false := rfl
        rw [← e, this]
        exact decide_eq_false (fun z => nomatch z)
      | _ => cases hk
    unfold getV
    cases hb : kEq (.int i) k with
    | true =>
      refine .inr ⟨x, u, ?_, valV_pos (of_decide_eq_true (step _ hb)), h⟩
      rw [List.find?_cons, hb]
      rfl
    | false =>
      have e2 : valV ((Sum.inl i, u) :: us) k' = valV us k' := valV_neg (of_decide_eq_false (step _ hb))
      rw [List.find?_cons, hb, e2]
      exact ih
  | _, _, .str (s := i) (x := x) (u := u) (xs := xs) (us := us) h r => by
    have ih := RvD.get hk r
    have step : ∀ b : Bool, kEq (.str i) k = b → decide ((Sum.inr i : Key) = k') = b := fun b e => by
      cases k with
      | str j =>
        cases hk
        rw [kEq_str] at e
        rw [← e]
        by_cases q : i = j
        · subst q; simp
        · rw [decide_eq_false q, decide_eq_false (fun z => q (Sum.inr.inj z))]
      | int s =>
        cases hk
        have : kEq (.str i) (.int s) = false := rfl
        rw [← e, this]
        exact decide_eq_false (fun z => nomatch z)
      | _ => cases hk
    unfold getV
    cases hb : kEq (.str i) k with
    | true =>
      refine .inr ⟨x, u, ?_, valV_pos (of_decide_eq_true (step _ hb)), h⟩
      rw [List.find?_cons, hb]
      rfl
    | false =>
      have e2 : valV ((Sum.inr i, u) :: us) k' = valV us k' := valV_neg (of_decide_eq_false (step _ hb))
      rw [List.find?_cons, hb, e2]
      exact ih
theorem keyOf_V {k : Val} {k' : Key} (hk : keyOf k = some k') (u : V) (h : RvV g Zs H k u) : u = kV k' := by
  cases k <;> first | (cases hk; cases h; rfl) | (cases hk; done)
end
def fIxD : Val → Val → Option RV
  | .dic kvs, k => match keyOf k, getV kvs k with
    | some _, some x => some (.v x)
    | _, _ => none
  | _, _ => none
def fLenD : List Val → Option RV
  | [.dic kvs] => some (.v (.int kvs.length))
  | _ => none
def fListD : List Val → Option RV
  | [.dic kvs] => some (.own (.lst (kvs.map Prod.fst)))
  | _ => none
def fLenX : List Val → Option RV := fOr fLen fLenD
def fListX : List Val → Option RV := fOr fList fListD
@[simp] theorem fLenX_lst (xs : List Val) : fLenX [.lst xs] = some (.v (.int xs.length)) := rfl
@[simp] theorem fLenX_tup (xs : List Val) : fLenX [.tup xs] = some (.v (.int xs.length)) := rfl
@[simp] theorem fLenX_scr (xs : List Int) : fLenX [.scr xs] = some (.v (.int xs.length)) := rfl
@[simp] theorem fLenX_dic (xs : List (Val × Val)) : fLenX [.dic xs] = some (.v (.int xs.length)) := rfl
@[simp] theorem fLenX_str (s : Str) : fLenX [.str s] = if s.length ≤ sizeMax then some (.v (.int s.length)) else none := by
  show (match (if s.length ≤ sizeMax then some (RV.v (Val.int s.length)) else none) with | some r => some r | none => fLenD [.str s]) = _
  by_cases h : s.length ≤ sizeMax
  · rw [if_pos h]
  · rw [if_neg h]; rfl
@[simp] theorem fListX_lst (xs : List Val) : fListX [.lst xs] = some (.own (.lst xs)) := rfl
@[simp] theorem fListX_tup (xs : List Val) : fListX [.tup xs] = some (.own (.lst xs)) := rfl
@[simp] theorem fListX_dic (xs : List (Val × Val)) : fListX [.dic xs] = some (.own (.lst (xs.map Prod.fst))) := rfl
section
variable {X : Cx} {xc : Xc} {W : WX} {pos : Pos}
theorem call_lenR : CallR X (.builtin "len") (fun xs H Q => ∃ a kvs, xs = [V.ref a] ∧ Rd H a (.dK kvs) ∧ Q (.int kvs.length) H) := by
  intro pins s σ H xs us Q I r h
  obtain ⟨a, kvs, rfl, ha, q⟩ := h
  obtain ⟨u, rfl, ru⟩ := vals1 r
  cases ru
  exact d_len I ha fun t s' I' => ⟨.int kvs.length, H, I', ⟨t, rfl⟩, q⟩
theorem cs_lenD : CallS X (.builtin "len") fLenD := by
  have cs : ∀ {xs z}, fLenD xs = some z → ∃ kvs, xs = [.dic kvs] ∧ z = .v (.int (kvs.length : Nat)) := fun {xs z} h => by
    unfold fLenD at h; split at h <;> cases h; exact ⟨_, rfl, rfl⟩
  refine ⟨⟨_, call_lenR, fun Zs H xs z us Q zd hf hx q => ?_⟩, fun xs i h => ?_⟩
  · obtain ⟨kvs, rfl, rfl⟩ := cs hf
    obtain ⟨u, rfl, h⟩ := hx.one
    obtain ⟨a, ks, rfl, hr, r⟩ := h.dic
    exact ⟨a, ks, rfl, hr, by rw [← r.len]; exact q.val zd (.int _)⟩
  · obtain ⟨_, _, e⟩ := cs h; cases e
theorem cs_lenX : CallS X (.builtin "len") fLenX := cs_or cs_len cs_lenD
theorem cs_listD (hc : X.calm = true) : CallS X (.type "list") fListD := by
  have cs : ∀ {xs z}, fListD xs = some z → ∃ kvs, xs = [.dic kvs] ∧ z = .own (.lst (kvs.map Prod.fst)) := fun {xs z} h => by
    unfold fListD at h; split at h <;> cases h; exact ⟨_, rfl, rfl⟩
  refine ⟨⟨_, call_listD hc, fun Zs H xs z us Q zd hf hx q => ?_⟩, fun xs i h => ?_⟩
  · obtain ⟨kvs, rfl, rfl⟩ := cs hf
    obtain ⟨u, rfl, h⟩ := hx.one
    obtain ⟨a, ks, rfl, hr, r⟩ := h.dic
    exact ⟨a, ks, rfl, hr, fun p hp => q.lst zd r.keys hp⟩
  · obtain ⟨_, _, e⟩ := cs h; cases e
theorem cs_listX (hc : X.calm = true) : CallS X (.type "list") fListX := cs_or cs_list (cs_listD hc)
/-! ### {} -/
def eDic0 : E := fun e => .ok (.own (.dic [])) e
@[simp] theorem eDic0_ap (e : Env) : eDic0 e = .ok (.own (.dic [])) e := rfl
theorem Ans.dic {g : Gm} {Zs : Addr → Prop} {H : Hp} {xs : List (Val × Val)} {us : List (Key × V)} {Q : VK} {p : Addr} (h : Ans g Zs H (.own (.dic xs)) Q) (z : Zd Zs H) (r : RvD g Zs H xs us) (hp : H p = none) : Q (.ref p) (upd H p (.dK us)) :=
  h p Zs _ (Ext.new z hp) hp (Zd.no z hp) ⟨us, upd_same, r.ext (Ext.new z hp) (fun _ z => z.elim)⟩
theorem se_dic0 : SE X xc W (.Dict [] [] pos) eDic0 :=
  PE_imp pe_dnewK fun σ H Q ⟨pa, Zs, env, re, h⟩ p hp => (Ans.of h (PostE.refl re) fun i e => nomatch e).dic re.zd .nil hp
/-- {i: j}, two numbers -/
def eDicI (i j : Int) : E := fun e => .ok (.own (.dic [(.int i, .int j)])) e
@[simp] theorem eDicI_ap (i j : Int) (e : Env) : eDicI i j e = .ok (.own (.dic [(.int i, .int j)])) e := rfl
theorem se_dicI {i j : Int} {k1 k2 p1 p2} : SE X xc W (.Dict [some (.Constant (.int i) k1 p1)] [.Constant (.int j) k2 p2] pos) (eDicI i j) :=
  PE_imp (pe_disp (pps_cons pe_int pe_int pps_nil) rfl rfl (fun z => nomatch z) (show 1 ≤ 15 by decide)) fun σ H Q ⟨pa, Zs, env, re, h⟩ p hp =>
    ⟨upd_same, [(.inl i, .int j)], rfl, (show 1 ≤ 15 by decide), by
      have e : upd (upd H p (.dK [])) p (.dK (mergeK [] [(Sum.inl i, V.int j)])) = upd H p (.dK [(Sum.inl i, V.int j)]) := by
        funext b
        by_cases hb : b = p
        · subst hb; rw [upd_same, upd_same]; rfl
        · rw [upd_ne hb, upd_ne hb, upd_ne hb]
      rw [e]
      exact (Ans.of h (PostE.refl re) fun i e => nomatch e).dic re.zd (.int (.int _) .nil) hp⟩
/-! ### d[k] -/
theorem se_ixD {a b : Expr} {fa fb : E} (hu : X.A.units + 1 < cLine) (ha : SE X xc W a fa) (hb : SE X xc W b fb) (hs : NoSl b := by exact fun _ _ => rfl) : SE X xc W (.Subscript a b pos) (eOp fIxD fa fb) := by
  have cs : ∀ {x k : Val} {z : RV}, fIxD x k = some z → ∃ kvs k' y, x = .dic kvs ∧ keyOf k = some k' ∧ getV kvs k = some y ∧ z = .v y := fun {x k z} h => by
    unfold fIxD at h
    split at h
    · split at h
      · cases h; exact ⟨_, _, _, rfl, by assumption, by assumption, rfl⟩
      · cases h
    · cases h
  refine PE_imp (pe_dget hu ha hb hs) fun σ H Q h => op_end (r := fun x y H Q => ∃ a v, x = .ref a ∧ DGet H a y (some v) ∧ Q v H) (fun Zs H x y z u w Q zd hf hx hy q => ?_) (fun x y i h => ?_) h
  · obtain ⟨kvs, k', v, rfl, hk, hg, rfl⟩ := cs hf
    obtain ⟨a, ks, rfl, hr, r⟩ := hx.dic
    rcases r.get hk with ⟨e, _⟩ | ⟨v', u', e, e2, rv⟩
    · rw [hg] at e; cases e
    · rw [hg] at e
      cases e
      have hw : w = kV k' := by
        rcases hy with hy | ⟨p, rfl, hy⟩
        · exact keyOf_V hk w hy
        · cases y <;> first | (cases hk; done) | exact hy.elim
      exact ⟨a, u', rfl, .inl ⟨ks, k', hr, hw, e2.symm⟩, q.val zd rv⟩
  · obtain ⟨_, _, _, _, _, _, e⟩ := cs h; cases e
end
end Z
/-! ZW: d.get(k, x), d[k] = v, list(range(n)), tuple(range(n)), a comprehension over a dict. -/
namespace Z
open PySem L2 PySem.Spec PyProof.Rows
def fGet : Val → Val → RV → Option Val
  | .dic kvs, k, .v z => if (keyOf k).isSome then some ((getV kvs k).getD z) else none
  | _, _, _ => none
/-- a.get(k, x) -/
def eGet2 (a k x : E) : E := fun e => (a e).bind fun r1 e1 => (opt (peek e1 r1) e1).bind fun d _ => match d with
  | .dic _ => (k e1).bind fun r2 e2 => (x e2).bind fun r3 e3 => (opt (peek e3 r1) e3).bind fun d' _ => (opt (peek e3 r2) e3).bind fun q _ => match fGet d' q r3 with
    | some z => .ok (.v z) e3
    | none => .no
  | _ => .no
@[simp] theorem eGet2_ap (a k x : E) (e : Env) : eGet2 a k x e = (a e).bind fun r1 e1 => (opt (peek e1 r1) e1).bind fun d _ => match d with
  | .dic _ => (k e1).bind fun r2 e2 => (x e2).bind fun r3 e3 => (opt (peek e3 r1) e3).bind fun d' _ => (opt (peek e3 r2) e3).bind fun q _ => match fGet d' q r3 with
    | some z => .ok (.v z) e3
    | none => .no
  | _ => .no := rfl
section
variable {X : Cx} {xc : Xc} {W : WX} {pos : Pos}
theorem se_get2 {a k x : Expr} {fa fk fx : E} {apos : Pos} (hu : X.A.units + 1 < cLine) (ha : SE X xc W a fa) (hk : SE X xc W k fk) (hx : SE X xc W x fx) (m : M2 X a "get" apos k x pos := by exact ⟨rfl, rfl, rfl, rfl⟩) : SE X xc W (.Call (.Attribute a "get" apos) [k, x] [] pos) (eGet2 fa fk fx) := by
  refine PE_imp (pe_dget2 hu ha hk hx m) fun σ H Q h => ?_
  obtain ⟨pa, Zs, env, re, h⟩ := h
  refine ⟨pa, Zs, env, re, h.cont fun r1 e1 u Z1 H1 _ p1 q1 h => ?_⟩
  cases hp : peek e1 r1 with
  | none => rw [hp] at h; exact h.elim
  | some d =>
    rw [hp] at h
    simp only [opt_some, Rs.bind_ok] at h
    cases d with
    | dic kvs =>
      obtain ⟨a', ks, rfl, hr, r⟩ := (peek_rd p1.re q1 hp).dic
      refine ⟨a', rfl, .inl ⟨ks, hr⟩, pa, Z1, e1, p1.re, (h.shiftE p1).cont fun r2 e2 w Z2 H2 _ p2 q2 h => ?_⟩
      refine ⟨pa, Z2, e2, p2.re, (h.shiftE p2).cont fun r3 e3 v Z3 H3 _ p3 q3 h => ?_⟩
      have q1' := (q1.step p1.re p2).step p2.re p3
      have q2' := q2.step p2.re p3
      cases h1 : peek e3 r1 with
      | none => simp only [h1, opt_none] at h; exact h.elim
      | some d' =>
        cases h2 : peek e3 r2 with
        | none => simp only [h1, h2, opt_some, Rs.bind_ok, opt_none] at h; exact h.elim
        | some q =>
          simp only [h1, h2, opt_some, Rs.bind_ok] at h
          cases hz : fGet d' q r3 with
          | none => rw [hz] at h; exact h.elim
          | some z =>
            rw [hz] at h
            unfold fGet at hz
            split at hz
            · rename_i kvs' k' z'
              split at hz
              · rename_i hs
                cases hz
                obtain ⟨k2, hk2⟩ := Option.isSome_iff_exists.mp hs
                obtain ⟨a2, ks2, e2', hr2, r2'⟩ := (peek_rd p3.re q1' h1).dic
                cases e2'
                have hw : w = kV k2 := by
                  rcases peek_rd p3.re q2' h2 with hy | ⟨p, rfl, hy⟩
                  · exact keyOf_V hk2 w hy
                  · cases q <;> first | (cases hk2; done) | exact hy.elim
                rcases r2'.get hk2 with ⟨g1, g2⟩ | ⟨y, u', g1, g2, rv⟩
                · refine ⟨none, .inl ⟨ks2, k2, hr2, hw, g2.symm⟩, ?_⟩
                  rw [g1] at h
                  exact h v Z3 H3 p3 q3
                · refine ⟨some u', .inl ⟨ks2, k2, hr2, hw, g2.symm⟩, ?_⟩
                  rw [g1] at h
                  exact h u' Z3 H3 p3 rv
              · cases hz
            · cases hz
    | _ => exact h.elim
end
/-! ### d[k] = v -/
def isOwnD : Slot → Bool
  | .own _ (.dic _) => true
  | _ => false
@[simp] theorem isOwnD_own (p : Bool) (xs : List (Val × Val)) : isOwnD (.own p (.dic xs)) = true := rfl
theorem isOwnD_some {s : Slot} (h : isOwnD s = true) : ∃ p xs, s = .own p (.dic xs) := by
  unfold isOwnD at h
  split at h
  · exact ⟨_, _, rfl⟩
  · cases h
/-- name[k] = a, a dict of one's own -/
def sPutD (j : Nat) (k a : E) : S := fun e => (a e).bind fun r e1 => if isOwnD (eget e1 j) then (k e1).bind fun q e2 => (esc e2 r).bind fun x e3 => match eget e3 j, q with
  | .own p (.dic kvs), .v q => if (keyOf q).isSome ∧ kvs.length < sizeMax then .ok .nx (eput e3 j (.own p (.dic (putV kvs q x)))) else .no
  | _, _ => .no
  else .no
@[simp] theorem sPutD_ap (j : Nat) (k a : E) (e : Env) : sPutD j k a e = (a e).bind fun r e1 => if isOwnD (eget e1 j) then (k e1).bind fun q e2 => (esc e2 r).bind fun x e3 => match eget e3 j, q with
  | .own p (.dic kvs), .v q => if (keyOf q).isSome ∧ kvs.length < sizeMax then .ok .nx (eput e3 j (.own p (.dic (putV kvs q x)))) else .no
  | _, _ => .no
  else .no := rfl
theorem kEq_key {p k : Val} {p' k' : Key} (hp : keyOf p = some p') (hk : keyOf k = some k') : kEq p k = decide (p' = k') := by
  cases p <;> first | (cases hp; done) | skip
  all_goals cases k <;> first | (cases hk; done) | skip
  all_goals (cases hp; cases hk)
  · rw [kEq_int]
    rename_i i j
    by_cases q : i = j
    · subst q; simp
    · rw [decide_eq_false q, decide_eq_false (fun z => q (Sum.inl.inj z))]
  · exact (decide_eq_false (fun z => nomatch z)).symm
  · exact (decide_eq_false (fun z => nomatch z)).symm
  · rw [kEq_str]
    rename_i i j
    by_cases q : i = j
    · subst q; simp
    · rw [decide_eq_false q, decide_eq_false (fun z => q (Sum.inr.inj z))]
section
variable {g : Gm} {Zs : Addr → Prop} {H : Hp}
theorem RvD.any {k : Val} {k' : Key} (hk : keyOf k = some k') : ∀ {kvs : List (Val × Val)} {ks : List (Key × V)}, RvD g Zs H kvs ks → (kvs.any fun p => kEq p.1 k) = ks.any fun p => decide (p.1 = k')
  | _, _, .nil => rfl
  | _, _, .int (i := i) h r => by rw [List.any_cons, List.any_cons, RvD.any hk r, kEq_key (p := .int i) rfl hk]
  | _, _, .str (s := i) h r => by rw [List.any_cons, List.any_cons, RvD.any hk r, kEq_key (p := .str i) rfl hk]
theorem RvD.map_put {k x : Val} {k' : Key} {u : V} (hk : keyOf k = some k') (hx : RvV g Zs H x u) : ∀ {kvs : List (Val × Val)} {ks : List (Key × V)}, RvD g Zs H kvs ks → RvD g Zs H (kvs.map fun p => if kEq p.1 k then (p.1, x) else p) (ks.map fun p => if p.1 = k' then (p.1, u) else p)
  | _, _, .nil => .nil
  | _, _, .int (i := i) h r => by
    rw [List.map_cons, List.map_cons, kEq_key (p := .int i) rfl hk]
    by_cases q : (Sum.inl i : Key) = k'
    · rw [if_pos (decide_eq_true q), if_pos q]
      exact .int hx (RvD.map_put hk hx r)
    · rw [if_neg (by simpa using q), if_neg q]
      exact .int h (RvD.map_put hk hx r)
  | _, _, .str (s := i) h r => by
    rw [List.map_cons, List.map_cons, kEq_key (p := .str i) rfl hk]
    by_cases q : (Sum.inr i : Key) = k'
    · rw [if_pos (decide_eq_true q), if_pos q]
      exact .str hx (RvD.map_put hk hx r)
    · rw [if_neg (by simpa using q), if_neg q]
      exact .str h (RvD.map_put hk hx r)
theorem RvD.append {xs ys : List (Val × Val)} {us ws : List (Key × V)} (h : RvD g Zs H xs us) (k : RvD g Zs H ys ws) : RvD g Zs H (xs ++ ys) (us ++ ws) := by
  match h with
  | .nil => exact k
  | .int a r => exact .int a (RvD.append r k)
  | .str a r => exact .str a (RvD.append r k)
theorem RvD.put {k x : Val} {k' : Key} {u : V} {kvs : List (Val × Val)} {ks : List (Key × V)} (hk : keyOf k = some k') (hx : RvV g Zs H x u) (r : RvD g Zs H kvs ks) : RvD g Zs H (putV kvs k x) (putK ks k' u) := by
  unfold putV putK
  rw [r.any hk]
  split
  · exact r.map_put hk hx
  · refine r.append ?_
    cases k <;> first | (cases hk; done) | (cases hk; first | exact .int hx .nil | exact .str hx .nil)
end
theorem Hld.updD {g : Gm} {Zs : Addr → Prop} {H : Hp} {b : Addr} {us ws : List (Key × V)} {ys : List (Val × Val)} (h : H b = some (.dK us)) (nz : ¬ Zs b) (r : RvD g Zs H ys ws) : Hld g Zs (L2.upd H b (.dK ws)) (.dic ys) b :=
  ⟨_, L2.upd_same, r.gr ⟨fun _ h => h, fun c o hw hc => by
    rw [L2.upd_ne]; · exact hc
    intro z
    subst z
    rw [h] at hc
    cases hc
    rcases hw with hw | hw
    · cases hw
    · exact nz hw⟩⟩
section
variable {X : Cx} {xc : Xc} {W : WX} {pos : Pos}
theorem ss_putD (j : Nat) {x : Str} {a ix : Expr} {fa fi : E} {p0 p1 : Pos} (hu : X.A.units + 1 < cLine) (ha : SE X xc W a fa) (hi : SE X xc W ix fi) (hN : X.N[j]? = some x := by rfl) (hv : Vis X.env.scope x := by first | exact Or.inl rfl | exact Or.inr (Or.inl rfl) | exact Or.inr (Or.inr rfl))
    (hd : (x == ("__debug__" : Str)) = false := by decide) (hcd : (x == ("__classdict__" : Str)) = false := by decide)
    (hs : swapsWith a (some (.Subscript (.Name x p0) ix p1)) pos.line X.env = pure false := by rfl) : SS X xc W (.Assign [.Subscript (.Name x p0) ix p1] a pos) (sPutD j fi fa) := by
  refine PS_imp (ps_dput hu (pe_var hN hv hd hcd) hi ha hs) fun D σ H h => ?_
  obtain ⟨pa, Zs, env, re, h⟩ := h
  refine ⟨pa, Zs, env, re, h.cont fun r e1 u Z1 H1 _ p1 q1 h => ?_⟩
  by_cases hg : isOwnD (eget e1 j) = true
  · rw [if_pos hg] at h
    obtain ⟨p, xs, ho⟩ := isOwnD_some hg
    have sj := p1.re.sl j
    rw [ho] at sj
    obtain ⟨b, hb, _⟩ := sj
    refine ⟨_, hb, pa, Z1, e1, p1.re, ?_⟩
    cases hf : fi e1 with
    | no => rw [hf] at h; exact h.elim
    | ex c fs e2 => rw [hf] at h; exact fun C d fv Z2 H2 p2 => h C d fv σ Z2 H2 (p1.trans p2).toPost
    | ok q e2 =>
      rw [hf, Rs.bind_ok] at h
      intro i' Z2 H2 p2 q2
      cases he : esc e2 r with
      | no => rw [he] at h; exact h.elim
      | ex c fs e => exact absurd (show escs e2 [r] = .ex c fs e by rw [escs_cons, he]; rfl) (escs_ex _ _ _ _ _)
      | ok x e3 =>
        rw [he, Rs.bind_ok] at h
        obtain ⟨Z3, P3, rv, zz, _⟩ := esc_ok (s := ⟨pa, Zs, H, σ, env⟩) (p1.trans p2) (q1.step p1.re p2) he
        cases ho3 : eget e3 j with
        | own p3 y =>
          cases y with
          | dic ys =>
            cases q with
            | v k =>
              simp only [ho3] at h
              by_cases hc : (keyOf k).isSome ∧ ys.length < sizeMax
              · rw [if_pos hc] at h
                obtain ⟨k', hk⟩ := Option.isSome_iff_exists.mp hc.1
                have s3 := P3.re.sl j
                rw [ho3] at s3
                obtain ⟨b3, hb3, nz3, ks, hl3, rl3⟩ := s3
                rw [hb] at hb3
                cases hb3
                have hw : i' = kV k' := keyOf_V hk i' q2
                refine ⟨b, _, rfl, .inl ⟨ks, k', hl3, hw, by rw [← rl3.len, ← szm]; exact hc.2, rfl⟩, ?_⟩
                exact h σ Z3 _ (P3.trans (P3.re.write ho3 hb (Hld.updD hl3 nz3 (rl3.put hk rv)))).toPost
              · rw [if_neg hc] at h; exact h.elim
            | own k => simp only [ho3] at h; exact h.elim
            | bor k => simp only [ho3] at h; exact h.elim
          | _ => simp only [ho3] at h; exact h.elim
        | _ => simp only [ho3] at h; exact h.elim
  · rw [if_neg hg] at h
    exact h.elim
end
/-! ### list(range(n)), tuple(range(n)) -/
def rgOk (a b : Int) : Bool := decide (a.natAbs < 4611686018427387904) && decide (b.natAbs < 4611686018427387904) && decide ((b - a).toNat ≤ 16777216)
theorem rgOk_of {a b : Int} (h1 : -1000000 ≤ a) (h2 : a ≤ 1000000) (h3 : -1000000 ≤ b) (h4 : b ≤ 1000000) : rgOk a b = true := by
  unfold rgOk
  rw [Bool.and_eq_true, Bool.and_eq_true, decide_eq_true_eq, decide_eq_true_eq, decide_eq_true_eq]
  omega
theorem rgOk_Rg {a b : Int} (h : rgOk a b = true) : RgOk a b := by
  unfold rgOk at h
  rw [Bool.and_eq_true, Bool.and_eq_true, decide_eq_true_eq, decide_eq_true_eq, decide_eq_true_eq] at h
  unfold RgOk
  omega
def eLRg (t : Bool) (a : E) : E := fun e => (a e).bind fun r e1 => match r with
  | .v (.int n) => if rgOk 0 n then .ok (if t then .v (.tup (rangeV 0 n.toNat)) else .own (.lst (rangeV 0 n.toNat))) e1 else .no
  | _ => .no
@[simp] theorem eLRg_ap (t : Bool) (a : E) (e : Env) : eLRg t a e = (a e).bind fun r e1 => match r with
  | .v (.int n) => if rgOk 0 n then .ok (if t then .v (.tup (rangeV 0 n.toNat)) else .own (.lst (rangeV 0 n.toNat))) e1 else .no
  | _ => .no := rfl
theorem rvl_rg {g : Gm} {Zs : Addr → Prop} {H : Hp} {n : Int} : RvL g Zs H (rangeV 0 n.toNat) (rgV 0 n) := by
  unfold rangeV rgV
  rw [show (n - 0).toNat = n.toNat by omega]
  induction (List.range n.toNat) with
  | nil => exact .nil
  | cons a l ih => exact .cons (.int _) ih
section
variable {X : Cx} {xc : Xc} {W : WX} {pos : Pos}
theorem se_listRg {a : Expr} {fa : E} {p q rp : Pos} (hc : X.calm = true) (hr : X.mg "range" = none) (hm : X.mg "list" = none) (ha : SE X xc W a fa) (hgr : Gl X "range" := by rfl) (hg : Gl X "list" := by rfl)
    (na : starEach [a] X.env = (false, eval a X.env) :: starEach [] X.env := by rfl) (nb : starEach [.Call (.Name "range" q) [a] [] rp] X.env = (false, eval (.Call (.Name "range" q) [a] [] rp) X.env) :: starEach [] X.env := by rfl) :
    SE X xc W (.Call (.Name "list" p) [.Call (.Name "range" q) [a] [] rp] [] pos) (eLRg false fa) := by
  refine PE_imp (pe_listRg hc hg hm (prg_1 hgr hr ha na) nb) fun σ H Q h => ?_
  obtain ⟨pa, Zs, env, re, h⟩ := h
  refine ⟨pa, Zs, env, re, h.cont fun r e1 u Z1 H1 _ p1 q1 h => ?_⟩
  cases r with
  | v x =>
    cases x with
    | int n =>
      dsimp only at h
      by_cases c : rgOk 0 n = true
      · rw [if_pos c] at h
        cases q1
        exact ⟨n, rfl, rgOk_Rg c, fun p hp => (Ans.of h p1 fun i e => nomatch e).lst p1.re.zd rvl_rg hp⟩
      · rw [if_neg c] at h; exact h.elim
    | _ => exact h.elim
  | _ => exact h.elim
theorem se_tupRg {a : Expr} {fa : E} {p q rp : Pos} (hc : X.calm = true) (hr : X.mg "range" = none) (hm : X.mg "tuple" = none) (ha : SE X xc W a fa) (hgr : Gl X "range" := by rfl) (hg : Gl X "tuple" := by rfl)
    (na : starEach [a] X.env = (false, eval a X.env) :: starEach [] X.env := by rfl) (nb : starEach [.Call (.Name "range" q) [a] [] rp] X.env = (false, eval (.Call (.Name "range" q) [a] [] rp) X.env) :: starEach [] X.env := by rfl) :
    SE X xc W (.Call (.Name "tuple" p) [.Call (.Name "range" q) [a] [] rp] [] pos) (eLRg true fa) := by
  refine PE_imp (pe_tupRg hc hg hm (prg_1 hgr hr ha na) nb) fun σ H Q h => ?_
  obtain ⟨pa, Zs, env, re, h⟩ := h
  refine ⟨pa, Zs, env, re, h.cont fun r e1 u Z1 H1 _ p1 q1 h => ?_⟩
  cases r with
  | v x =>
    cases x with
    | int n =>
      dsimp only at h
      by_cases c : rgOk 0 n = true
      · rw [if_pos c] at h
        cases q1
        exact ⟨n, rfl, rgOk_Rg c, fun p hp => (Ans.of h p1 fun i e => nomatch e).tup p1.re.zd rvl_rg hp⟩
      · rw [if_neg c] at h; exact h.elim
    | _ => exact h.elim
  | _ => exact h.elim
end
end Z
/-! ZX: a comprehension over a dict. -/
namespace Z
open PySem L2 PySem.Spec PyProof.Rows
/-- what stands at d is a dict, locked or not -/
def DK (ks : List (Key × V)) (o : HO) : Prop := o = .dK ks ∨ ∃ ob, o = .frz ob (.dK ks)
section
variable {g : Gm} {Zs : Addr → Prop} {H : Hp} {d : Addr} {ks : List (Key × V)} {o1 o2 : HO} (h1 : H d = some o1) (k1 : DK ks o1) (k2 : DK ks o2)
include h1 k1 k2
theorem swap_rd {a : Addr} {u : HO} (hu : (∃ xs, u = .tup xs) ∨ (∃ xs, u = .lst xs) ∨ ∃ ls, u = .dK ls) (h : Rd H a u) : Rd (L2.upd H d o2) a u := by
  by_cases e : a = d
  · subst e
    have : u = .dK ks := by
      rcases h with h | ⟨ob, h⟩
      · rw [h1] at h
        cases h
        rcases k1 with rfl | ⟨ob, rfl⟩
        · rfl
        · rcases hu with ⟨_, e⟩ | ⟨_, e⟩ | ⟨_, e⟩ <;> cases e
      · rw [h1] at h
        cases h
        rcases k1 with e | ⟨ob', e⟩
        · cases e
        · cases e; rfl
    subst this
    rcases k2 with rfl | ⟨ob, rfl⟩
    · exact .inl L2.upd_same
    · exact .inr ⟨ob, L2.upd_same⟩
  · rcases h with h | ⟨ob, h⟩
    · exact .inl (by rw [L2.upd_ne e]; exact h)
    · exact .inr ⟨ob, by rw [L2.upd_ne e]; exact h⟩
theorem swap_at {a : Addr} {u : HO} (hu : ∀ ls, u ≠ .dK ls ∧ ∀ ob, u ≠ .frz ob (.dK ls)) (h : H a = some u) : L2.upd H d o2 a = some u := by
  by_cases e : a = d
  · subst e
    rw [h1] at h
    cases h
    rcases k1 with rfl | ⟨ob, rfl⟩
    · exact absurd rfl (hu ks).1
    · exact absurd rfl ((hu ks).2 ob)
  · rw [L2.upd_ne e]; exact h
end
/-- what values lean on stays -/
structure Sw (H H' : Hp) : Prop where
  rd : ∀ a u, ((∃ xs, u = HO.tup xs) ∨ (∃ xs, u = HO.lst xs) ∨ ∃ ls, u = HO.dK ls) → Rd H a u → Rd H' a u
  ob : ∀ a u, (∀ ls, u ≠ HO.dK ls ∧ ∀ ob, u ≠ HO.frz ob (.dK ls)) → H a = some u → H' a = some u
section
variable {g : Gm} {Zs : Addr → Prop} {H H' : Hp} (e : Sw H H')
include e
theorem Sw.sqT {a : Addr} {us : List V} (h : SqT g.K H a us) : SqT g.K H' a us := by
  rcases h with h | h
  · exact .inl (e.rd _ _ (.inl ⟨_, rfl⟩) h)
  · exact .inr h
theorem Sw.sqZ {a : Addr} {us : List V} (h : SqZ g Zs H a us) : SqZ g Zs H' a us := ⟨h.1, e.ob _ _ (fun ls => ⟨(fun e => nomatch e), fun ob e => nomatch e⟩) h.2⟩
theorem Sw.ins {a C dx : Addr} {fv : List (Str × V)} (h : H a = some (.ins C dx fv)) : H' a = some (.ins C dx fv) := e.ob _ _ (fun ls => ⟨(fun e => nomatch e), fun ob e => nomatch e⟩) h
theorem Sw.dk {a : Addr} {ks : List (Key × V)} (h : Rd H a (.dK ks)) : Rd H' a (.dK ks) := e.rd _ _ (.inr (.inr ⟨_, rfl⟩)) h
theorem Sw.sqF {a : Addr} {us : List V} (h : SqF g.K H a us) : SqF g.K H' a us := by
  rcases h with ⟨o, h⟩ | h
  · exact .inl ⟨o, e.ob _ _ (fun ls => ⟨(fun e => nomatch e), fun ob e => nomatch e⟩) h⟩
  · exact .inr h
mutual
theorem RvV.sw : ∀ {x : Val} {u : V}, RvV g Zs H x u → RvV g Zs H' x u
  | _, _, .non => .non
  | _, _, .bl b => .bl b
  | _, _, .int i => .int i
  | _, _, .str s => .str s
  | _, _, .tup h r => .tup (e.sqT h) (RvL.sw r)
  | _, _, .lst h r => .lst (e.sqZ h) (RvL.sw r)
  | _, _, .dic z h r => .dic z (e.dk h) (RvD.sw r)
  | _, _, .obj z h m r => .obj z (e.ins h) m (RvF.sw r)
  | _, _, .scr h => .scr (e.sqF h)
theorem RvL.sw : ∀ {xs : List Val} {us : List V}, RvL g Zs H xs us → RvL g Zs H' xs us
  | _, _, .nil => .nil
  | _, _, .cons h r => .cons (RvV.sw h) (RvL.sw r)
theorem RvD.sw : ∀ {xs : List (Val × Val)} {us : List (Key × V)}, RvD g Zs H xs us → RvD g Zs H' xs us
  | _, _, .nil => .nil
  | _, _, .int h r => .int (RvV.sw h) (RvD.sw r)
  | _, _, .str h r => .str (RvV.sw h) (RvD.sw r)
theorem RvF.sw : ∀ {xs : List (Str × Val)} {us : List (Str × V)}, RvF g Zs H xs us → RvF g Zs H' xs us
  | _, _, .nil => .nil
  | _, _, .cons h r => .cons (RvV.sw h) (RvF.sw r)
end
end
section
variable {g : Gm} {Zs : Addr → Prop} {H : Hp} {d : Addr} {ks : List (Key × V)} {o1 o2 : HO} (h1 : H d = some o1) (k1 : DK ks o1) (k2 : DK ks o2)
include h1 k1 k2
theorem sw_of : Sw H (L2.upd H d o2) := ⟨fun a u hu h => swap_rd h1 k1 k2 hu h, fun a u hu h => swap_at h1 k1 k2 hu h⟩
theorem Hld.swap {x : Val} {a : Addr} (h : Hld g Zs H x a) (ne : a ≠ d) : Hld g Zs (L2.upd H d o2) x a := by
  match x, h with
  | .lst _, ⟨us, h, r⟩ => exact ⟨us, by rw [L2.upd_ne ne]; exact h, r.sw (sw_of h1 k1 k2)⟩
  | .dic _, ⟨us, h, r⟩ => exact ⟨us, by rw [L2.upd_ne ne]; exact h, r.sw (sw_of h1 k1 k2)⟩
  | .obj _ _, ⟨C, dx, fv, h, m, r⟩ => exact ⟨C, dx, fv, by rw [L2.upd_ne ne]; exact h, m, r.sw (sw_of h1 k1 k2)⟩
theorem RE.swap {xc : Xc} {pa : List (Option Addr)} {σ : L2.St} {env : Env} (hz : Zs d) (re : RE g xc pa Zs H σ env) : RE g xc pa Zs (L2.upd H d o2) σ env := by
  refine ⟨re.len, fun i => ?_, re.inj, re.pin, fun a z => ?_⟩
  · have q := re.sl i
    cases hs : eget env i with
    | emp => trivial
    | v x =>
      rw [hs] at q
      obtain ⟨u, e, r⟩ := q
      exact ⟨u, e, r.sw (sw_of h1 k1 k2)⟩
    | own p x =>
      rw [hs] at q
      obtain ⟨a, e, nz, r⟩ := q
      exact ⟨a, e, nz, Hld.swap h1 k1 k2 (x := x) (a := a) (h := r) fun z => nz (by rw [z]; exact hz)⟩
    | pf x =>
      rw [hs] at q
      obtain ⟨a, e, z, r⟩ := q
      exact ⟨a, e, z, r.sw (sw_of h1 k1 k2)⟩
    | exn c fs =>
      rw [hs] at q
      obtain ⟨a, b, C, fv, e1, e2, e3, e4, r⟩ := q
      exact ⟨a, b, C, fv, e1, e2, e3, swap_at h1 k1 k2 (fun ls => ⟨(fun e => nomatch e), fun ob e => nomatch e⟩) e4, r.sw (sw_of h1 k1 k2)⟩
  · by_cases e : a = d
    · exact ⟨o2, by rw [e]; exact L2.upd_same⟩
    · rw [L2.upd_ne e]; exact re.zd a z
end
theorem upd_upd {H : Hp} {d : Addr} {o o' : HO} : L2.upd (L2.upd H d o) d o' = L2.upd H d o' := by
  funext b
  by_cases hb : b = d
  · subst hb; rw [L2.upd_same, L2.upd_same]
  · rw [L2.upd_ne hb, L2.upd_ne hb, L2.upd_ne hb]
/-- a step under the lock, told of the heap without it -/
theorem PostE.unlock {g : Gm} {xc : Xc} {pa : List (Option Addr)} {Zs Z1 : Addr → Prop} {H H1 : Hp} {σ : L2.St} {env e1 : Env} {d : Addr} {ks : List (Key × V)} {ob : Obj} (re : RE g xc pa Zs H σ env) (hz : Zs d) (hd : H d = some (.dK ks))
    (P : PostE g xc pa Zs (L2.upd H d (.frz ob (.dK ks))) σ env Z1 H1 e1) : H1 d = some (.frz ob (.dK ks)) ∧ PostE g xc pa Zs H σ env Z1 (L2.upd H1 d (.dK ks)) e1 := by
  have no : ¬ Owd env σ d := fun z => (re.owOk d z).1 hz
  have h1 : H1 d = some (.frz ob (.dK ks)) := P.ext.hh d _ L2.upd_same no
  refine ⟨h1, ⟨⟨⟨P.ext.zz, fun a z => ?_, fun a o h n => ?_, fun a z => ?_⟩, P.re.swap h1 (.inr ⟨_, rfl⟩) (.inl rfl) (P.ext.zz _ hz), fun a z => ?_⟩, P.hol⟩⟩
  · rcases P.ext.zn a z with q | q | q
    · exact .inl q
    · exact .inr (.inl q)
    · refine .inr (.inr ?_)
      by_cases e : a = d
      · subst e; rw [L2.upd_same] at q; cases q
      · rw [L2.upd_ne e] at q; exact q
  · by_cases e : a = d
    · subst e
      rw [hd] at h
      cases h
      exact L2.upd_same
    · rw [L2.upd_ne e]
      exact P.ext.hh a o (by rw [L2.upd_ne e]; exact h) n
  · by_cases e : a = d
    · exact ⟨_, by rw [e]; exact L2.upd_same⟩
    · rw [L2.upd_ne e]; exact P.ext.zd a z
  · rcases P.ow a z with q | q
    · exact .inl q
    · refine .inr ?_
      by_cases e : a = d
      · subst e; rw [L2.upd_same] at q; cases q
      · rw [L2.upd_ne e] at q; exact q
theorem RvD.keysA {g g' : Gm} {Zs Z' : Addr → Prop} {H H' : Hp} : ∀ {kvs : List (Val × Val)} {ks : List (Key × V)}, RvD g Zs H kvs ks → RvL g' Z' H' (kvs.map Prod.fst) (ks.map fun p => kV p.1)
  | _, _, .nil => .nil
  | _, _, .int _ r => .cons (.int _) r.keysA
  | _, _, .str _ r => .cons (.str _) r.keysA
theorem walk_keysD {g g' : Gm} {Zs Z' : Addr → Prop} {H H' : Hp} {d : Addr} {ob : Obj} {kvs : List (Val × Val)} {ks : List (Key × V)} (hd : H d = some (.frz ob (.dK ks))) (r : RvD g' Z' H' kvs ks) : Walk g Zs H (Itk d ob ks) (kvs.map Prod.fst) := by
  intro Z2 H2 gr zd
  have h2 : H2 d = some (.frz ob (.dK ks)) := gr.kp _ _ (.inl rfl) hd
  have hl := r.len
  have kr := r.keysA (g' := g) (Z' := Z2) (H' := H2)
  refine ⟨fun i x hx => ⟨⟨h2, ?_⟩, fun u H3 y => ?_⟩, fun i hi => ⟨h2, by rw [List.length_map] at hi; omega⟩⟩
  · have := (List.getElem?_eq_some_iff.mp hx).1
    rw [List.length_map] at this
    omega
  · obtain ⟨e, k, v, hk, ev⟩ := y
    subst e ev
    refine ⟨Z2, Ext.refl zd, ?_⟩
    obtain ⟨w, hw, rw'⟩ := kr.get hx
    rw [List.getElem?_map, hk] at hw
    cases hw
    exact rw'
/-- [.. for .. in name ..], the name a dict -/
def eCompK (j : Nat) (vs : List Nat) (t : Tg) (c : T) (a : E) : E := fun e => (esc e (.bor j)).bind fun x e1 => match x with
  | .dic kvs => eComp (fun e => .ok (kvs.map Prod.fst) e) vs t c a e1
  | _ => .no
@[simp] theorem eCompK_ap (j : Nat) (vs : List Nat) (t : Tg) (c : T) (a : E) (e : Env) : eCompK j vs t c a e = (esc e (.bor j)).bind fun x e1 => match x with
  | .dic kvs => eComp (fun e => .ok (kvs.map Prod.fst) e) vs t c a e1
  | _ => .no := rfl
section
variable {X : Cx} {xc : Xc} {W : WX} {pos : Pos} {elt tg : Expr} {ifs : List Expr} {scope : Scope} {t : Tg} {c : T} {a : E}
theorem compK_no {src : Src} {vs : List Nat} {e : Env} {r : RV} {e1 : Env} (h : eComp src vs t c a e = .ok r e1) : ∃ xs, r = .own (.lst xs) := by
  unfold eComp at h
  cases hs : src e with
  | no => rw [hs] at h; cases h
  | ex _ _ _ => rw [hs] at h; cases h
  | ok xs e2 =>
    rw [hs, Rs.bind_ok] at h
    split at h
    · split at h
      · cases h; exact ⟨_, rfl⟩
      · cases h
    · cases h
theorem se_compK (j : Nat) {x : Str} {p0 : Pos} (own : List (Str × Nat)) (hc : X.calm = true) (hN : X.N.Nodup) (ok : blkC X.N X.env.scope scope own = true) (ht : ∀ (s : Shared) (H : Hp) (C : Addr) (cl : List (Str × Addr)) (fp : List Addr), SGc (X.blk s H scope (compEnvC scope cl C X.env) fp) xc (own.map (·.2)) tg t)
    (hf : ∀ (s : Shared) (H : Hp) (C : Addr) (cl : List (Str × Addr)) (fp : List Addr), STs (X.blk s H scope (compEnvC scope cl C X.env) fp) xc FF ifs c) (he : ∀ (s : Shared) (H : Hp) (C : Addr) (cl : List (Str × Addr)) (fp : List Addr), SE (X.blk s H scope (compEnvC scope cl C X.env) fp) xc FF elt a)
    (hj : X.N[j]? = some x := by rfl) (hv : Vis X.env.scope x := by first | exact Or.inl rfl | exact Or.inr (Or.inl rfl) | exact Or.inr (Or.inr rfl)) (hd : (x == ("__debug__" : Str)) = false := by decide) (hcd : (x == ("__classdict__" : Str)) = false := by decide)
    (hs : ∀ y, foldedSetIterable (.Name x p0) X.env y = pure y := by intro _; rfl) : SE X xc W (.ListComp elt [⟨tg, .Name x p0, ifs, 0⟩] scope pos) (eCompK j (own.map (·.2)) t c a) := by
  have base := pe_lc (pos := pos) (wi := iKeys (tVar j)) (g := rdGc (gX X) xc (own.map (·.2)) t) (tt := rdT (gX X) xc FF c) (te := rd (gX X) xc FF a) hc hN (pi_keys (tg := tg) (pe_var (pos := p0) hj hv hd hcd)) (blkOk_by ok) (fun s H C cl fp => (ht s H C cl fp).pg) (fun s H C cl fp => hf s H C cl fp) (fun s H C cl fp => he s H C cl fp) hs
  refine ⟨fun pins s σ H Q I h => ?_⟩
  -- under the lock
  have under : ∀ {H : Hp} {Q : VK} {pa : List (Option Addr)} {Zs : Addr → Prop} {env : Env} {kvs : List (Val × Val)} {d : Addr} {ob : Obj} {ks : List (Key × V)} {Z0 : Addr → Prop} {H0 : Hp}, RE (gX X) xc pa Zs H σ env → σ[j]? = some (some (.ref d)) → H d = some (.frz ob (.dK ks)) → RvD (gX X) Z0 H0 kvs ks →
      End (gX X) xc ⟨pa, Zs, H, σ, env⟩ (relE (gX X) ⟨pa, Zs, H, σ, env⟩) (eComp (fun e => .ok (kvs.map Prod.fst) e) (own.map (·.2)) t c a env) W Q →
      tLc (iKeys (tVar j)) (rdGc (gX X) xc (own.map (·.2)) t) (rdT (gX X) xc FF c) (rd (gX X) xc FF a) (own.map (·.2)) σ H Q := by
    intro H Q pa Zs env kvs d ob ks Z0 H0 re hσ hd2 r h
    obtain ⟨pa', Zs', env', re', q⟩ := comp_end (X := X) (xc := xc) (W := W) (ht s H 0 [] []).inn (⟨pa, Zs, env, re, h⟩ : rd (gX X) xc W (eComp (fun e => .ok (kvs.map Prod.fst) e) (own.map (·.2)) t c a) σ H Q)
    exact ⟨_, hσ, d, ob, rfl, .inl ⟨ks, hd2, q Zs' H (Itk d ob ks) (PostE.refl re') (walk_keysD hd2 r)⟩⟩
  obtain ⟨pa, Zs, env, re, h⟩ := h
  unfold eCompK at h
  have got : ∃ kvs e1 Z2 u, esc env (.bor j) = .ok (.dic kvs) e1 ∧ PostE (gX X) xc pa Zs H σ env Z2 H e1 ∧ σ[j]? = some (some u) ∧ RvV (gX X) Z2 H (.dic kvs) u := by
    have sj := re.sl j
    have viaR : ∀ x e1, esc env (.bor j) = .ok x e1 → (∃ d, σ[j]? = some (some (.ref d))) → Hol (eget env j) → ∃ Z2 u, PostE (gX X) xc pa Zs H σ env Z2 H e1 ∧ σ[j]? = some (some u) ∧ RvV (gX X) Z2 H x u := fun x e1 he ⟨d, hd⟩ hh => by
      obtain ⟨Z2, P2, rv, _⟩ := esc_ok (s := ⟨pa, Zs, H, σ, env⟩) (r := .bor j) (u := .ref d) (PostE.refl re) ⟨d, rfl, hd, hh⟩ he
      exact ⟨Z2, .ref d, P2, hd, rv⟩
    cases he : esc env (.bor j) with
    | no => rw [he] at h; exact h.elim
    | ex c fs e => exact absurd (show escs env [.bor j] = .ex c fs e by rw [escs_cons, he]; rfl) (escs_ex _ _ _ _ _)
    | ok x e1 =>
      rw [he, Rs.bind_ok] at h
      cases x with
      | dic kvs =>
        cases hs : eget env j with
        | emp => rw [esc_bor, hs] at he; cases he
        | exn c fs => rw [esc_bor, hs] at he; cases he
        | v y =>
          rw [esc_bor, hs] at he
          cases he
          rw [hs] at sj
          obtain ⟨u, eu, rv⟩ := sj
          exact ⟨kvs, env, Zs, u, rfl, PostE.refl re, eu, rv⟩
        | own p y =>
          rw [hs] at sj
          obtain ⟨a, ea, _⟩ := sj
          obtain ⟨Z2, u, P2, h1, h2⟩ := viaR _ _ he ⟨a, ea⟩ (by rw [hs]; trivial)
          exact ⟨kvs, e1, Z2, u, rfl, P2, h1, h2⟩
        | pf y =>
          rw [hs] at sj
          obtain ⟨a, ea, _⟩ := sj
          obtain ⟨Z2, u, P2, h1, h2⟩ := viaR _ _ he ⟨a, ea⟩ (by rw [hs]; trivial)
          exact ⟨kvs, e1, Z2, u, rfl, P2, h1, h2⟩
      | _ => exact h.elim
  obtain ⟨kvs, e1, Z2, u, he, P0, eu, rv⟩ := got
  rw [he, Rs.bind_ok] at h
  dsimp only at h
  have re1 := P0.re
  have h := h.shiftE P0
  cases rv with
  | @dic d ks _ hz hr r =>
    rcases hr with hr | ⟨ob, hr⟩
    · refine (pe_lock base).run pins s σ H Q I ⟨d, .dK ks, hr, trivial, fun ob => ?_⟩
      have re2 : RE (gX X) xc pa Z2 (L2.upd H d (.frz ob (.dK ks))) σ e1 := re1.swap hr (.inl rfl) (.inr ⟨ob, rfl⟩) hz
      refine under re2 eu L2.upd_same r ?_
      cases hq : eComp (fun e => .ok (kvs.map Prod.fst) e) (own.map (·.2)) t c a e1 with
      | no => rw [hq] at h; exact h
      | ex cc fs e3 =>
        exfalso
        unfold eComp at hq
        simp only [Rs.bind_ok] at hq
        split at hq
        · split at hq <;> cases hq
        · cases hq
      | ok r1 e2 =>
        rw [hq] at h
        obtain ⟨xs, rfl⟩ := compK_no hq
        intro b Z1 H1 P rr
        obtain ⟨k1, P2⟩ := PostE.unlock re1 hz hr P
        refine ⟨k1, h b Z1 _ P2 ?_⟩
        obtain ⟨p, e, nz, hl, no, fr⟩ := rr
        have zd' := P.ext.zz _ hz
        refine ⟨p, e, nz, Hld.swap k1 (.inr ⟨_, rfl⟩) (.inl rfl) hl (fun z => nz (by rw [z]; exact zd')), no, ?_⟩
        rcases fr with fr | fr
        · exact .inl fr
        · refine .inr ?_
          by_cases q : p = d
          · subst q
            have : L2.upd H p (.frz ob (.dK ks)) p = none := fr
            rw [L2.upd_same] at this
            cases this
          · have : L2.upd H d (.frz ob (.dK ks)) p = none := fr
            rwa [L2.upd_ne q] at this
    · exact base.run pins s σ H Q I (under re1 eu hr r h)
end
end Z
namespace Z
theorem u1 {n c : Nat} (h : n + 64 < c) : n + 1 < c := by omega
end Z
/-! ZXO: a comprehension over a list of one's own, which stays one's own. -/
namespace Z
open PySem L2 PySem.Spec PyProof.Rows
section
variable {X : Cx} {xc : Xc} {W : WX} {pos : Pos} {elt tg : Expr} {ifs : List Expr} {scope : Scope} {vs : List Nat} {t : Tg} {c : T} {a : E}
theorem comp_endO {pa : List (Option Addr)} {Zs : Addr → Prop} {env : Env} {σ : L2.St} {H : Hp} {Q : VK} {j : Nat} {A : Addr} {us : List V} {xs : List Val} (ht : TgIn vs t) (re : RE (gX X) xc pa Zs H σ env) (hj : σ[j]? = some (some (.ref A))) (hA : H A = some (.lst us)) (nzA : ¬ Zs A) (noA : ¬ Owd env σ A) (r : RvL (gX X) Zs H xs us)
    (h : End (gX X) xc ⟨pa, Zs, H, σ, env⟩ (relE (gX X) ⟨pa, Zs, H, σ, env⟩) (eComp (fun e => .ok xs e) vs t c a env) W Q) :
    tLc (fun σ H R => tVar j σ H fun x H1 => ∃ a, x = .ref a ∧ (((∃ xs, SqL X.K H1 a xs) ∧ R (Itl X.K a) H1) ∨ ((∃ xs, SqT X.K H1 a xs) ∧ R (Itt X.K a) H1))) (rdGc (gX X) xc vs t) (rdT (gX X) xc FF c) (rd (gX X) xc FF a) vs σ H Q := by
  unfold eComp at h
  rw [Rs.bind_ok] at h
  refine ⟨_, hj, A, rfl, .inl ⟨⟨us, .inl (.inl hA)⟩, ?_⟩⟩
  intro D hfr
  have P1 := PostE.refl re
  by_cases hc : (clr env vs && decide (xs.length ≤ sizeMax)) = true
  · rw [if_pos hc] at h
    rw [Bool.and_eq_true, decide_eq_true_eq] at hc
    obtain ⟨hc, hsz⟩ := hc
    rw [szm] at hsz
    cases hL : compL vs t c a xs (wip env vs) with
    | no => rw [hL] at h; exact h.elim
    | ex cc fs e => rw [hL] at h; exact h.elim
    | ok zs e9 =>
      rw [hL] at h
      dsimp only at h
      have re1 : RE (gX X) xc pa Zs H (wipe σ vs) (wip env vs) := P1.re.wip hc
      have nzD : ¬ Zs D := P1.re.zd.no hfr
      have noD : ¬ Owd (wip env vs) (wipe σ vs) D := fun z => by
        obtain ⟨_, o, ho, _⟩ := re1.owOk D z
        rw [hfr] at ho; cases ho
      have noA1 : ¬ Owd (wip env vs) (wipe σ vs) A := fun z => noA ((owd_wip hc).mp z)
      have e0 := Ext.new (o := .lst []) P1.re.zd hfr
      refine ⟨fun i m H' => m = xs.length - i ∧ i ≤ xs.length ∧ ∃ Z' e' acc ys zs', PostE (gX X) xc pa Zs H (wipe σ vs) (wip env vs) Z' H' e' ∧ H' D = some (.lst acc) ∧ RvL (gX X) Z' H' ys acc ∧ ¬ Z' D ∧ ¬ Owd e' (wipe σ vs) D ∧ acc.length ≤ i ∧ zs = ys ++ zs' ∧ compL vs t c a (xs.drop i) e' = .ok zs' e9,
        ⟨xs.length, rfl, Nat.zero_le _, Zs, wip env vs, [], [], zs, re1.growP e0, upd_same, .nil, nzD, noD, Nat.le_refl _, rfl, hL⟩, ?_⟩
      rintro i m H' ⟨rfl, hi, Z', e', acc, ys, zs', P', hD, ra, nz, no, la, hzs, hL'⟩
      have hA' : H' A = some (.lst us) := P'.ext.hh A _ hA noA1
      have r' : RvL (gX X) Z' H' xs us := r.ext P'.ext re1.owOk
      by_cases hlt : i < xs.length
      · have hd : xs.drop i = xs[i] :: xs.drop (i + 1) := List.drop_eq_getElem_cons hlt
        rw [hd] at hL'
        have hx : xs[i]? = some xs[i] := List.getElem?_eq_getElem hlt
        obtain ⟨w, hw, rw'⟩ := r'.get hx
        refine .inr ⟨⟨us, w, .inl (.inl hA'), hw⟩, fun H' => i + 1 ≤ xs.length ∧ ∃ Z' e' acc ys zs', PostE (gX X) xc pa Zs H (wipe σ vs) (wip env vs) Z' H' e' ∧ H' D = some (.lst acc) ∧ RvL (gX X) Z' H' ys acc ∧ ¬ Z' D ∧ ¬ Owd e' (wipe σ vs) D ∧ acc.length ≤ i + 1 ∧ zs = ys ++ zs' ∧ compL vs t c a (xs.drop (i + 1)) e' = .ok zs' e9, fun H' n => ⟨xs.length - (i + 1), by omega, rfl, n⟩, fun u H3 y => ?_⟩
        obtain ⟨e3, y⟩ := y
        subst e3
        have hu := y us (.inl (.inl hA'))
        have rv : RvV (gX X) Z' H3 xs[i] u := r'.at hx hu
        refine comp_turn ht (wipe_idem σ vs) (fun i m => eget_wip_in m) hL' hfr P' hD ra nz no (by omega) rv _ fun Z4 H4 e4 acc4 ys4 zs4 P4 hD4 ra4 nz4 no4 la4 hz4 hL4 => ?_
        exact ⟨hlt, Z4, e4, acc4, ys4, zs4, P4, hD4, ra4, nz4, no4, by omega, hzs.trans hz4, hL4⟩
      · have e : i = xs.length := by omega
        subst e
        rw [List.drop_length] at hL'
        cases hL'
        rw [List.append_nil] at hzs
        subst hzs
        obtain ⟨P5, ow5⟩ := unwip_post (s := ⟨pa, Zs, H, σ, env⟩) P1 hc P'
        exact .inl ⟨⟨us, .inl (.inl hA'), by rw [← r.length]; exact Nat.le_refl _⟩, h (.ref D) Z' H' (P1.trans P5) ⟨D, rfl, nz, ⟨acc, hD, ra⟩, fun z => no (ow5 D z), P1.ext.free hfr⟩⟩
  · rw [if_neg hc] at h
    exact h.elim
/-- .. the place j: hidden while it is walked -/
def eCompO (j : Nat) (vs : List Nat) (t : Tg) (c : T) (a : E) : E := fun e => match eget e j with
  | .own p (.lst xs) => match eComp (fun e => .ok xs e) vs t c a (eput e j .emp) with
    | .ok r e2 => .ok r (eput e2 j (.own p (.lst xs)))
    | _ => .no
  | _ => eComp (iSeq (eV j)) vs t c a e
@[simp] theorem eCompO_ap (j : Nat) (vs : List Nat) (t : Tg) (c : T) (a : E) (e : Env) : eCompO j vs t c a e = match eget e j with
  | .own p (.lst xs) => match eComp (fun e => .ok xs e) vs t c a (eput e j .emp) with
    | .ok r e2 => .ok r (eput e2 j (.own p (.lst xs)))
    | _ => .no
  | _ => eComp (iSeq (eV j)) vs t c a e := rfl
/-- an own place is hidden -/
theorem RE.hide {pa : List (Option Addr)} {Zs : Addr → Prop} {env : Env} {σ : L2.St} {H : Hp} {j : Nat} (re : RE (gX X) xc pa Zs H σ env) : RE (gX X) xc (pa.set j none) Zs H σ (eput env j .emp) := by
  have own : ∀ i a, OwnAt (eput env j .emp) σ i a → OwnAt env σ i a := fun i a ⟨p, x, h1, h2⟩ => by
    by_cases e : j = i
    · subst e
      rw [eput_self_emp] at h1
      cases h1
    · rw [eget_eput_ne _ _ _ _ e] at h1
      exact ⟨p, x, h1, h2⟩
  refine ⟨by rw [eput_length]; exact re.len, fun i => ?_, fun i k a h1 h2 => re.inj i k a (own i a h1) (own k a h2), fun i a h => ?_, re.zd⟩
  · by_cases e : j = i
    · subst e
      rw [eput_self_emp]
      trivial
    · rw [eget_eput_ne _ _ _ _ e]
      exact re.sl i
  · by_cases e : j = i
    · subst e
      rw [List.getElem?_set_self'] at h
      cases hp : pa[j]? <;> rw [hp] at h <;> cases h
    · rw [List.getElem?_set_ne e] at h
      rw [eget_eput_ne _ _ _ _ e]
      exact re.pin i a h
theorem owd_hide {env : Env} {σ : L2.St} {j : Nat} {b : Addr} (h : Owd (eput env j .emp) σ b) : Owd env σ b := by
  obtain ⟨i, p, x, h1, h2⟩ := h
  by_cases e : j = i
  · subst e
    rw [eput_self_emp] at h1
    cases h1
  · rw [eget_eput_ne _ _ _ _ e] at h1
    exact ⟨i, p, x, h1, h2⟩
/-- .. and stands again -/
theorem PostE.unhide {pa : List (Option Addr)} {Zs Z1 : Addr → Prop} {env e2 : Env} {σ : L2.St} {H H1 : Hp} {j : Nat} {p : Bool} {A : Addr} {us : List V} {xs : List Val} (re : RE (gX X) xc pa Zs H σ env) (ho : eget env j = .own p (.lst xs)) (hj : σ[j]? = some (some (.ref A))) (nzA : ¬ Zs A) (hA : H A = some (.lst us)) (r : RvL (gX X) Zs H xs us)
    (noA : ¬ Owd (eput env j .emp) σ A) (P : PostE (gX X) xc (pa.set j none) Zs H σ (eput env j .emp) Z1 H1 e2) : PostE (gX X) xc pa Zs H σ env Z1 H1 (eput e2 j (.own p (.lst xs))) ∧ ∀ b, Owd (eput e2 j (.own p (.lst xs))) σ b → b = A ∨ Owd e2 σ b := by
  have hA1 : H1 A = some (.lst us) := P.ext.hh A _ hA noA
  have nz1 : ¬ Z1 A := fun z => by
    rcases P.ext.zn A z with z | z | z
    · exact nzA z
    · exact noA z
    · rw [hA] at z; cases z
  have no2 : ¬ Owd e2 σ A := fun z => by
    rcases P.ow A z with z | z
    · exact noA z
    · rw [hA] at z; cases z
  have rh := re.hide (j := j)
  have r1 : RvL (gX X) Z1 H1 xs us := r.ext P.ext rh.owOk
  have l2 : j < e2.length := by
    rw [← P.re.len]
    exact (List.getElem?_eq_some_iff.mp hj).1
  have own : ∀ i b, OwnAt (eput e2 j (.own p (.lst xs))) σ i b → (i = j ∧ b = A) ∨ (i ≠ j ∧ OwnAt e2 σ i b) := fun i b ⟨p', x, h1, h2⟩ => by
    by_cases e : j = i
    · subst e
      rw [hj] at h2
      cases h2
      exact .inl ⟨rfl, rfl⟩
    · rw [eget_eput_ne _ _ _ _ e] at h1
      exact .inr ⟨fun z => e z.symm, p', x, h1, h2⟩
  refine ⟨⟨⟨⟨P.ext.zz, fun b z => (P.ext.zn b z).imp id fun z => z.imp owd_hide id, fun b o h n => P.ext.hh b o h fun z => n (owd_hide z), P.ext.zd⟩, ⟨by rw [eput_length]; exact P.re.len, fun i => ?_, fun i k b h1 h2 => ?_, fun i b h => ?_, P.re.zd⟩, fun b ⟨i, h⟩ => ?_⟩, fun i h => ?_⟩, fun b ⟨i, h⟩ => ?_⟩
  · by_cases e : j = i
    · subst e
      rw [eget_eput_same _ _ _ l2]
      exact ⟨A, hj, nz1, ⟨us, hA1, r1⟩⟩
    · rw [eget_eput_ne _ _ _ _ e]
      exact P.re.sl i
  · rcases own i b h1 with ⟨rfl, rfl⟩ | ⟨n1, h1⟩ <;> rcases own k b h2 with ⟨e2', e2''⟩ | ⟨n2, h2⟩
    · exact e2'.symm
    · exact absurd ⟨k, h2⟩ no2
    · subst e2''
      exact absurd ⟨i, h1⟩ no2
    · exact P.re.inj i k b h1 h2
  · by_cases e : j = i
    · subst e
      rw [eget_eput_same _ _ _ l2]
      have := re.pin j b h
      rw [ho] at this
      exact ⟨this.1, by cases p; exact this.2; trivial⟩
    · rw [eget_eput_ne _ _ _ _ e]
      exact P.re.pin i b (by rw [List.getElem?_set_ne e]; exact h)
  · rcases own i b h with ⟨rfl, rfl⟩ | ⟨n1, h1⟩
    · exact .inl ⟨i, p, _, ho, hj⟩
    · exact (P.ow b ⟨i, h1⟩).imp owd_hide id
  · by_cases e : j = i
    · subst e
      rw [eget_eput_same _ _ _ l2]
      trivial
    · rw [eget_eput_ne _ _ _ _ e]
      exact P.hol i (by rw [eget_eput_ne _ _ _ _ e]; exact h)
  · rcases own i b h with ⟨_, rfl⟩ | ⟨n1, h1⟩
    · exact .inl rfl
    · exact .inr ⟨i, h1⟩
theorem se_compO (j : Nat) {x : Str} {p0 : Pos} (own : List (Str × Nat)) (hc : X.calm = true) (hN : X.N.Nodup) (ok : blkC X.N X.env.scope scope own = true) (ht : ∀ (s : Shared) (H : Hp) (C : Addr) (cl : List (Str × Addr)) (fp : List Addr), SGc (X.blk s H scope (compEnvC scope cl C X.env) fp) xc (own.map (·.2)) tg t)
    (hf : ∀ (s : Shared) (H : Hp) (C : Addr) (cl : List (Str × Addr)) (fp : List Addr), STs (X.blk s H scope (compEnvC scope cl C X.env) fp) xc FF ifs c) (he : ∀ (s : Shared) (H : Hp) (C : Addr) (cl : List (Str × Addr)) (fp : List Addr), SE (X.blk s H scope (compEnvC scope cl C X.env) fp) xc FF elt a)
    (hj : X.N[j]? = some x := by rfl) (hv : Vis X.env.scope x := by first | exact Or.inl rfl | exact Or.inr (Or.inl rfl) | exact Or.inr (Or.inr rfl)) (hd : (x == ("__debug__" : Str)) = false := by decide) (hcd : (x == ("__classdict__" : Str)) = false := by decide)
    (hs : ∀ y, foldedSetIterable (.Name x p0) X.env y = pure y := by intro _; rfl) : SE X xc W (.ListComp elt [⟨tg, .Name x p0, ifs, 0⟩] scope pos) (eCompO j (own.map (·.2)) t c a) := by
  have old : SE X xc W (.ListComp elt [⟨tg, .Name x p0, ifs, 0⟩] scope pos) (eComp (iSeq (eV j)) (own.map (·.2)) t c a) := se_comp own hc hN (si_seq (se_var (pos := p0) j hj hv hd hcd)) ok ht hf he hs
  have base := pe_lc (pos := pos) (g := rdGc (gX X) xc (own.map (·.2)) t) (tt := rdT (gX X) xc FF c) (te := rd (gX X) xc FF a) hc hN (pi_seqQ (tg := tg) (pe_var (pos := p0) hj hv hd hcd)) (blkOk_by ok) (fun s H C cl fp => (ht s H C cl fp).pg) (fun s H C cl fp => hf s H C cl fp) (fun s H C cl fp => he s H C cl fp) hs
  refine ⟨fun pins s σ H Q I h => ?_⟩
  obtain ⟨pa, Zs, env, re, h⟩ := h
  unfold eCompO at h
  have other : End (gX X) xc ⟨pa, Zs, H, σ, env⟩ (relE (gX X) ⟨pa, Zs, H, σ, env⟩) (eComp (iSeq (eV j)) (own.map (·.2)) t c a env) W Q → _ := fun h => old.run pins s σ H Q I ⟨pa, Zs, env, re, h⟩
  cases hs : eget env j with
  | own p y =>
    cases y with
    | lst xs =>
      rw [hs] at h
      dsimp only at h
      have sj := re.sl j
      rw [hs] at sj
      obtain ⟨A, hA0, nzA, us, hA, r⟩ := sj
      have noA : ¬ Owd (eput env j .emp) σ A := by
        rintro ⟨i, q, x', h1, h2⟩
        by_cases e : j = i
        · subst e
          rw [eput_self_emp] at h1
          cases h1
        · rw [eget_eput_ne _ _ _ _ e] at h1
          exact e (re.inj j i A ⟨p, _, hs, hA0⟩ ⟨q, x', h1, h2⟩)
      refine base.run pins s σ H Q I (comp_endO (W := W) (ht s H 0 [] []).inn re.hide hA0 hA nzA noA r ?_)
      cases hq : eComp (fun e => .ok xs e) (own.map (·.2)) t c a (eput env j .emp) with
      | no => rw [hq] at h; exact h
      | ex cc fs e3 => rw [hq] at h; exact h.elim
      | ok r1 e2 =>
        rw [hq] at h
        dsimp only at h
        obtain ⟨ys, rfl⟩ := compK_no hq
        intro b Z1 H1 P rr
        obtain ⟨P2, ow2⟩ := PostE.unhide re hs hA0 nzA hA r noA P
        refine h b Z1 H1 P2 ?_
        obtain ⟨B, e, nz, hl, no, fr⟩ := rr
        refine ⟨B, e, nz, hl, fun z => ?_, fr.imp owd_hide id⟩
        rcases ow2 B z with z | z
        · subst z
          rcases fr with z | z
          · exact noA z
          · have : H B = none := z
            rw [hA] at this; cases this
        · exact no z
    | _ => rw [hs] at h; exact other h
  | _ => rw [hs] at h; exact other h
end
end Z
/-! ZY: what the plain proofs share. -/
namespace Z
open PySem (Str)
abbrev vi (n : Nat) : Val := .int (n : Int)
/-- comprehensions over what is told by a list -/
theorem compL_mapf {α : Type} {vs : List Nat} {t : Tg} {c : T} {A : E} {e : Env} (f : α → Val) (p : α → Bool) (g : α → Val) : ∀ {l : List α}, (∀ a ∈ l, ∃ e1, t (f a) e = some e1 ∧ c e1 = .ok (p a) e1 ∧ (p a = true → ∃ r, A e1 = .ok r e1 ∧ esc e1 r = .ok (g a) e1) ∧ clr e1 vs = true ∧ wip e1 vs = e) → compL vs t c A (l.map f) e = .ok ((l.filter p).map g) e
  | [], _ => rfl
  | a :: l, h => by
    obtain ⟨e1, h1, h2, h3, h4, h5⟩ := h a List.mem_cons_self
    have ih := compL_mapf (vs := vs) (t := t) (c := c) (A := A) (e := e) f p g (l := l) fun y hy => h y (List.mem_cons_of_mem _ hy)
    rw [List.map_cons]
    unfold compL
    rw [h1]
    dsimp only
    rw [h2, Rs.bind_ok]
    cases hp : p a with
    | false =>
      rw [List.filter_cons_of_neg (by rw [hp]; simp), h4, h5, if_neg (by simp), if_pos rfl]
      exact ih
    | true =>
      obtain ⟨r, h6, h7⟩ := h3 hp
      rw [List.filter_cons_of_pos (by rw [hp]), if_pos rfl, h6, Rs.bind_ok, h7, Rs.bind_ok, h4, if_pos rfl, h5, ih]
      rfl
theorem compL_map {α : Type} {vs : List Nat} {t : Tg} {c : T} {A : E} {e : Env} (f : α → Val) (g : α → Val) {l : List α} (h : ∀ a ∈ l, ∃ e1, t (f a) e = some e1 ∧ c e1 = .ok true e1 ∧ (∃ r, A e1 = .ok r e1 ∧ esc e1 r = .ok (g a) e1) ∧ clr e1 vs = true ∧ wip e1 vs = e) : compL vs t c A (l.map f) e = .ok (l.map g) e := by
  have := compL_mapf (vs := vs) (t := t) (c := c) (A := A) (e := e) f (fun _ => true) g (l := l) fun a ha => by
    obtain ⟨e1, h1, h2, h5, h3, h4⟩ := h a ha
    exact ⟨e1, h1, h2, (fun _ => h5), h3, h4⟩
  rw [this]
  have : l.filter (fun _ => true) = l := List.filter_eq_self.mpr fun _ _ => rfl
  rw [this]
theorem rng_map {lo : Int} {n : Nat} : rangeV lo n = (List.range n).map fun k : Nat => Val.int (lo + k) := rfl
theorem rng_vi {n : Nat} : rangeV 0 n = (List.range n).map vi := by
  rw [rng_map]
  refine List.map_congr_left fun k _ => ?_
  show Val.int (0 + (k : Int)) = _
  rw [Int.zero_add]
theorem ints_vi : ∀ l : List Nat, ints? (l.map vi) = some (l.map fun n : Nat => (n : Int))
  | [] => rfl
  | a :: l => by
    rw [List.map_cons, ints?_cons, ints_vi l]
    rfl
theorem isum (l : List Nat) : (l.map fun n : Nat => (n : Int)).sum = ((l.sum : Nat) : Int) := by
  induction l with
  | nil => rfl
  | cons a l ih =>
    rw [List.map_cons, List.sum_cons, List.sum_cons, ih]
    omega
theorem atV_nat {α : Type} (xs : List α) (k : Nat) : Z.atV xs (k : Int) = xs[k]? := by
  unfold Z.atV
  rw [if_pos (by omega), Int.toNat_natCast]
theorem atV_vi {l : List Nat} {k : Nat} (h : k < l.length) : Z.atV (l.map vi) (k : Int) = some (vi (l.getD k 0)) := by
  rw [atV_nat, List.getElem?_map, List.getD_eq_getElem?_getD, List.getElem?_eq_getElem h]
  rfl
theorem setAt_vi {l : List Nat} {i m : Nat} (h : i < l.length) : setAt (l.map vi) (i : Int) (.int (m : Int)) = some ((l.set i m).map vi) := by
  unfold setAt
  rw [if_pos (by omega), if_pos (by rw [List.length_map]; omega), Int.toNat_natCast, List.map_set]
theorem atV_last {α : Type} {xs : List α} (h : xs ≠ []) : Z.atV xs (-1) = some (xs.getLast h) := by
  have hl := List.length_pos_iff.mpr h
  unfold Z.atV
  rw [if_neg (by omega), if_pos (by omega)]
  have : (-1 + ((xs.length : Nat) : Int)).toNat = xs.length - 1 := by omega
  rw [this, List.getLast_eq_getElem, List.getElem?_eq_getElem]
/-- a place that holds nothing that is changed -/
def Cv (s : Slot) : Prop := s = .emp ∨ ∃ x, s = .v x
theorem Cv.ok {s : Slot} (h : Cv s) : pok s = true := by rcases h with rfl | ⟨x, rfl⟩ <;> rfl
theorem Cv.e : Cv .emp := .inl rfl
theorem Cv.v {x : Val} : Cv (.v x) := .inr ⟨x, rfl⟩
/-- a place that may be filled -/
def Fr (s : Slot) : Prop := s = .emp ∨ (∃ x, s = .v x) ∨ ∃ x, s = .own false x
theorem Fr.e : Fr .emp := .inl rfl
theorem Fr.v {x : Val} : Fr (.v x) := .inr (.inl ⟨x, rfl⟩)
theorem Fr.o {x : Val} : Fr (.own false x) := .inr (.inr ⟨x, rfl⟩)
theorem Fr.ok {s : Slot} (h : Fr s) : pok s = true := by rcases h with rfl | ⟨x, rfl⟩ | ⟨x, rfl⟩ <;> rfl
theorem Cv.fr {s : Slot} (h : Cv s) : Fr s := by rcases h with rfl | ⟨x, rfl⟩; exact .e; exact .v
theorem seq_nx {a b : S} {e0 e1 : Env} (h : a e0 = .ok .nx e1) : sSeq a b e0 = b e1 := by rw [sSeq_ap, h]; rfl
theorem vok_vis (n : Nat) (l : List Nat) : (l.map vi).all (vok n) = true := by
  rw [List.all_eq_true]
  intro x hx
  obtain ⟨k, _, rfl⟩ := List.mem_map.mp hx
  cases n <;> rfl
theorem fEq_vis (l : List Nat) : fEq (.lst (l.map vi)) (.lst []) = some (.v (.bl (decide (l = [])))) := by
  unfold fEq
  have : vok 60 (.lst (l.map vi)) = true := vok_vis 59 l
  rw [this]
  cases l <;> rfl
theorem fNe_vis (l : List Nat) : fNe (.lst (l.map vi)) (.lst []) = some (.v (.bl (decide (l ≠ [])))) := by
  unfold fNe
  have : vok 60 (.lst (l.map vi)) = true := vok_vis 59 l
  rw [this]
  cases l <;> rfl
@[simp] theorem fIsi_dic (T : Bt) (xs : List (Val × Val)) : fIsi [T] (.dic xs) = some (.v (.bl (isB T .dic))) := by simp [fIsi, btOf]
@[simp] theorem isB_d (t : Bt) : isB .dic t = decide (t = .dic) := by cases t <;> rfl
@[simp] theorem isB_id : isB .int .dic = false := rfl
/-- a number in a row of numbers -/
theorem flat_vis (l : List Nat) : (l.map vi).all isFlat = true := by
  rw [List.all_eq_true]
  intro x hx
  obtain ⟨k, _, rfl⟩ := List.mem_map.mp hx
  rfl
theorem any_vis (p : Nat) (l : List Nat) : ((l.map vi).any fun y => veq y (vi p)) = decide (p ∈ l) := by
  rw [Bool.eq_iff_iff, List.any_eq_true, decide_eq_true_eq]
  constructor
  · rintro ⟨x, hx, e⟩
    obtain ⟨k, hk, rfl⟩ := List.mem_map.mp hx
    have : ((k : Int) == (p : Int)) = true := e
    have : k = p := by have := eq_of_beq this; omega
    rw [← this]; exact hk
  · intro h
    exact ⟨vi p, List.mem_map.mpr ⟨p, h, rfl⟩, by show ((p : Int) == (p : Int)) = true; simp⟩
theorem fIn_vi (p : Nat) (l : List Nat) : fIn (vi p) (.lst (l.map vi)) = some (.v (.bl (decide (p ∈ l)))) := by
  show (if isFlat (vi p) && (l.map vi).all isFlat then some (RV.v (.bl ((l.map vi).any fun y => veq y (vi p)))) else none) = _
  rw [flat_vis, any_vis]
  rfl
theorem fNotIn_vi (p : Nat) (l : List Nat) : fNotIn (vi p) (.lst (l.map vi)) = some (.v (.bl (decide (p ∉ l)))) := by
  show (if isFlat (vi p) && (l.map vi).all isFlat then some (RV.v (.bl (!(l.map vi).any fun y => veq y (vi p)))) else none) = _
  rw [flat_vis, any_vis]
  show some (RV.v (Val.bl (!decide (p ∈ l)))) = _
  by_cases h : p ∈ l <;> simp [h]
/-- a loop over what is told by a list -/
theorem list_run {α : Type} {t : Tg} {b : S} (f : α → Val) {l : List α} {e : Env} (I : Nat → Env → Prop) (h0 : I 0 e) (hs : ∀ i a e, l[i]? = some a → I i e → ∃ e1 e2, t (f a) e = some e1 ∧ (b e1 = .ok .nx e2 ∨ b e1 = .ok .ct e2) ∧ I (i + 1) e2) : ∃ e', forL t b (l.map f) e = .ok .nx e' ∧ I l.length e' := by
  have := for_run (t := t) (b := b) (xs := l.map f) I h0 fun i x e hx hi => by
    rw [List.getElem?_map] at hx
    cases ha : l[i]? with
    | none => rw [ha] at hx; cases hx
    | some a =>
      rw [ha] at hx
      cases hx
      exact hs i a e ha hi
  rwa [List.length_map] at this
end Z
/-! ZZ: pairs of numbers, their order. -/
namespace Z
open PySem (Str)
open PySem.W (alike alikeAll dataLt dataLe dataLt_int dataLt_ii dataLt_pair)
def pr (p : Int × Int) : Val := .tup [.int p.1, .int p.2]
/-- ((a, b), c) -/
def pr3 (t : Int × Int × Int) : Val := .tup [.tup [.int t.1, .int t.2.1], .int t.2.2]
theorem vok_pr (p : Int × Int) (n : Nat) : vok (n + 1) (pr p) = true := by
  show ([Val.int p.1, .int p.2].all (vok n)) = true
  cases n <;> rfl
theorem vok_pr3 (p : Int × Int × Int) (n : Nat) : vok (n + 2) (pr3 p) = true := by
  show ([Val.tup [.int p.1, .int p.2.1], .int p.2.2].all (vok (n + 1))) = true
  cases n <;> rfl
theorem valike_vi (a b : Int) : valike (.int a) (.int b) = true := by simp [valike, alike, toD]
theorem valike_pr (p q : Int × Int) : valike (pr p) (pr q) = true := by simp [valike, pr, toD, toDs, alike, alikeAll]
theorem valike_pr3 (p q : Int × Int × Int) : valike (pr3 p) (pr3 q) = true := by simp [valike, pr3, toD, toDs, alike, alikeAll]
theorem vlt_int (a b : Int) : vlt (.int a) (.int b) = decide (a < b) := dataLt_int a b
theorem vlt_pr (p q : Int × Int) : vlt (pr p) (pr q) = decide (p.1 < q.1 ∨ (p.1 = q.1 ∧ p.2 < q.2)) := dataLt_ii ..
theorem vlt_pr3 (p q : Int × Int × Int) : vlt (pr3 p) (pr3 q) = decide (p.1 < q.1 ∨ (p.1 = q.1 ∧ (p.2.1 < q.2.1 ∨ (p.2.1 = q.2.1 ∧ p.2.2 < q.2.2)))) := by
  show dataLt (.tuple [.tuple [.int p.1, .int p.2.1], .int p.2.2]) (.tuple [.tuple [.int q.1, .int q.2.1], .int q.2.2]) = _
  rw [dataLt_pair (by simp [alike, alikeAll]) (by simp [alike]), dataLt_ii, dataLt_int]
  simp only [PySem.PyData.eqv, PySem.PyData.eqvAll, Bool.and_true, Bool.and_eq_true, beq_iff_eq]
  by_cases h1 : p.1 = q.1
  · by_cases h2 : p.2.1 = q.2.1
    · by_cases h3 : p.2.2 = q.2.2 <;> simp [h1, h2, h3]
    · simp [h1, h2]
  · simp [h1]
theorem allAlike_map {α : Type} (f : α → Val) (h1 : ∀ a, vok 60 (f a) = true) (h2 : ∀ a, isN (f a) = false) (h3 : ∀ a b, valike (f a) (f b) = true) (l : List α) : allAlike (l.map f) = true := by
  refine allAlike_of (fun x hx => ?_) fun x hx y hy => ?_
  · obtain ⟨a, _, rfl⟩ := List.mem_map.mp hx
    exact ⟨h1 a, h2 a⟩
  · obtain ⟨a, _, rfl⟩ := List.mem_map.mp hx
    obtain ⟨b, _, rfl⟩ := List.mem_map.mp hy
    exact h3 a b
/-- the least by an order that decides -/
theorem minV_map {α : Type} (f : α → Val) (lt : α → α → Bool) (h : ∀ a b, vlt (f a) (f b) = lt a b) : ∀ (l : List α) (a : α), minV (f a) (l.map f) = f (l.foldl (fun m y => if lt y m then y else m) a)
  | [], _ => rfl
  | y :: ys, a => by
    show minV (if vlt (f y) (f a) then f y else f a) (ys.map f) = _
    rw [h, ← apply_ite f, minV_map f lt h ys]
    rfl
theorem maxV_map {α : Type} (f : α → Val) (lt : α → α → Bool) (h : ∀ a b, vlt (f a) (f b) = lt a b) : ∀ (l : List α) (a : α), maxV (f a) (l.map f) = f (l.foldl (fun m y => if lt m y then y else m) a)
  | [], _ => rfl
  | y :: ys, a => by
    show maxV (if vlt (f a) (f y) then f y else f a) (ys.map f) = _
    rw [h, ← apply_ite f, maxV_map f lt h ys]
    rfl
theorem fold_pick {α : Type} (c : α → α → Bool) (k : α → Int) (hc : ∀ y m, (c y m = true → k y ≤ k m) ∧ (c y m = false → k m ≤ k y)) : ∀ (l : List α) (a : α), let m := l.foldl (fun m y => if c y m then y else m) a; m ∈ a :: l ∧ ∀ x ∈ a :: l, k m ≤ k x
  | [], a => ⟨List.mem_cons_self, fun x hx => by rw [List.mem_singleton.mp hx]; exact Int.le_refl _⟩
  | y :: ys, a => by
    obtain ⟨h1, h2⟩ := fold_pick c k hc ys (if c y a then y else a)
    have e : k (if c y a then y else a) ≤ k a ∧ k (if c y a then y else a) ≤ k y := by
      cases q : c y a with
      | true => exact ⟨(hc y a).1 q, Int.le_refl _⟩
      | false => exact ⟨Int.le_refl _, (hc y a).2 q⟩
    refine ⟨?_, fun x hx => ?_⟩
    · rcases List.mem_cons.mp h1 with h | h
      · show (ys.foldl _ (if c y a then y else a)) ∈ _
        rw [h]
        cases c y a with
        | true => simp
        | false => simp
      · exact List.mem_cons_of_mem _ (List.mem_cons_of_mem _ h)
    · have hm := h2 _ List.mem_cons_self
      rcases List.mem_cons.mp hx with rfl | hx
      · exact Int.le_trans hm e.1
      · rcases List.mem_cons.mp hx with rfl | hx
        · exact Int.le_trans hm e.2
        · exact h2 x (List.mem_cons_of_mem _ hx)
theorem min_pr {l : List (Int × Int)} (h : l ≠ []) : ∃ m, m ∈ l ∧ (∀ x ∈ l, m.1 ≤ x.1) ∧ fMinX [.lst (l.map pr)] = some (.v (pr m)) := by
  cases l with
  | nil => exact absurd rfl h
  | cons a l =>
    have q := fold_pick (fun y m : Int × Int => decide (y.1 < m.1 ∨ (y.1 = m.1 ∧ y.2 < m.2))) Prod.fst (fun y m => ⟨fun h => by have := of_decide_eq_true h; omega, fun h => by have := of_decide_eq_false h; omega⟩) l a
    refine ⟨_, q.1, q.2, ?_⟩
    have h0 : fMinL [.lst ((a :: l).map pr)] = none := rfl
    unfold fMinX fOr
    rw [h0]
    show (if allAlike ((a :: l).map pr) then some (RV.v (minV (pr a) (l.map pr))) else none) = _
    rw [if_pos (allAlike_map pr (fun p => vok_pr p 59) (fun _ => rfl) valike_pr _), minV_map pr _ vlt_pr]
theorem max_pr {l : List (Int × Int)} (h : l ≠ []) : ∃ m, m ∈ l ∧ (∀ x ∈ l, x.1 ≤ m.1) ∧ fMaxX [.lst (l.map pr)] = some (.v (pr m)) := by
  cases l with
  | nil => exact absurd rfl h
  | cons a l =>
    have q := fold_pick (fun y m : Int × Int => decide (m.1 < y.1 ∨ (m.1 = y.1 ∧ m.2 < y.2))) (fun p => -p.1) (fun y m => ⟨fun h => by have := of_decide_eq_true h; omega, fun h => by have := of_decide_eq_false h; omega⟩) l a
    refine ⟨_, q.1, fun x hx => by have := q.2 x hx; omega, ?_⟩
    have h0 : fMaxL [.lst ((a :: l).map pr)] = none := rfl
    unfold fMaxX fOr
    rw [h0]
    show (if allAlike ((a :: l).map pr) then some (RV.v (maxV (pr a) (l.map pr))) else none) = _
    rw [if_pos (allAlike_map pr (fun p => vok_pr p 59) (fun _ => rfl) valike_pr _), maxV_map pr _ vlt_pr]
/-! ### sorted -/
theorem sort_pr (l : List (Int × Int)) : ∃ l' : List (Int × Int), l'.Perm l ∧ fSortD [.lst (l.map pr)] = some (.own (.lst (l'.map pr))) := by
  refine ⟨l.mergeSort fun a b => vle (pr a) (pr b), List.mergeSort_perm _ _, ?_⟩
  show (if sortable (l.map pr) then some (RV.own (.lst ((l.map pr).mergeSort vle))) else none) = _
  have h1 : sortable (l.map pr) = true := by
    unfold sortable
    rw [allAlike_map pr (fun p => vok_pr p 59) (fun _ => rfl) valike_pr, Bool.true_and, Bool.or_eq_true]
    left
    rw [List.all_map]
    exact List.all_eq_true.mpr fun _ _ => rfl
  rw [if_pos h1, ← List.map_mergeSort (f := pr) (r := fun a b => vle (pr a) (pr b)) fun a _ b _ => rfl]
theorem sort_vi (l : List Nat) : ∃ l' : List Nat, l'.Perm l ∧ fSortD [.lst (l.map vi)] = some (.own (.lst (l'.map vi))) := by
  refine ⟨l.mergeSort fun a b => vle (vi a) (vi b), List.mergeSort_perm _ _, ?_⟩
  show (if sortable (l.map vi) then some (RV.own (.lst ((l.map vi).mergeSort vle))) else none) = _
  have h1 : sortable (l.map vi) = true := by
    unfold sortable
    rw [allAlike_map vi (fun p => rfl) (fun _ => rfl) (fun a b => valike_vi _ _), Bool.true_and, Bool.or_eq_true]
    right
    rw [List.all_map]
    exact List.all_eq_true.mpr fun _ _ => rfl
  rw [if_pos h1, ← List.map_mergeSort (f := vi) (r := fun a b => vle (vi a) (vi b)) fun a _ b _ => rfl]
theorem vle_pr3 (p q : Int × Int × Int) : vle (pr3 p) (pr3 q) = decide (p.1 < q.1 ∨ (p.1 = q.1 ∧ (p.2.1 < q.2.1 ∨ (p.2.1 = q.2.1 ∧ p.2.2 ≤ q.2.2)))) := by
  show (!vlt (pr3 q) (pr3 p)) = _
  rw [vlt_pr3, ← decide_not]
  congr 1
  apply propext
  constructor <;> intro h <;> omega
/-- .. the first one has no greater one behind it -/
theorem sort_pr3 {l : List (Int × Int × Int)} (h : l ≠ []) : ∃ (m : Int × Int × Int) (r : List (Int × Int × Int)), (m :: r).Perm l ∧ (∀ x ∈ l, m.1 < x.1 ∨ (m.1 = x.1 ∧ m.2.1 ≤ x.2.1)) ∧ fSortD [.lst (l.map pr3)] = some (.own (.lst ((m :: r).map pr3))) := by
  have hp := List.mergeSort_perm l fun a b => vle (pr3 a) (pr3 b)
  have hs : (l.mergeSort fun a b => vle (pr3 a) (pr3 b)).Pairwise fun a b => vle (pr3 a) (pr3 b) = true := by
    refine List.pairwise_mergeSort (fun a b c h1 h2 => ?_) (fun a b => ?_) l
    · rw [vle_pr3, decide_eq_true_eq] at *
      omega
    · rw [vle_pr3, vle_pr3, Bool.or_eq_true, decide_eq_true_eq, decide_eq_true_eq]
      omega
  have he : fSortD [.lst (l.map pr3)] = some (.own (.lst ((l.mergeSort fun a b => vle (pr3 a) (pr3 b)).map pr3))) := by
    show (if sortable (l.map pr3) then some (RV.own (.lst ((l.map pr3).mergeSort vle))) else none) = _
    have h1 : sortable (l.map pr3) = true := by
      unfold sortable
      rw [allAlike_map pr3 (fun p => vok_pr3 p 58) (fun _ => rfl) valike_pr3, Bool.true_and, Bool.or_eq_true]
      left
      rw [List.all_map]
      exact List.all_eq_true.mpr fun _ _ => rfl
    rw [if_pos h1, ← List.map_mergeSort (f := pr3) (r := fun a b => vle (pr3 a) (pr3 b)) fun a _ b _ => rfl]
  rw [he]
  generalize (l.mergeSort fun a b => vle (pr3 a) (pr3 b)) = s at *
  cases s with
  | nil => exact absurd hp.symm.eq_nil h
  | cons m r =>
    refine ⟨m, r, hp, fun x hx => ?_, rfl⟩
    have hx := hp.mem_iff.mpr hx
    have hd := (List.pairwise_cons.mp hs).1
    rcases List.mem_cons.mp hx with rfl | hx
    · exact .inr ⟨rfl, Int.le_refl _⟩
    · have := hd x hx
      rw [vle_pr3, decide_eq_true_eq] at this
      omega
theorem mnL_nat : ∀ (l : List Nat) (a : Nat), ∃ m : Nat, mnL (a : Int) (l.map fun n : Nat => (n : Int)) = (m : Int) ∧ m ∈ a :: l ∧ ∀ x ∈ a :: l, m ≤ x
  | [], a => ⟨a, rfl, List.mem_cons_self, fun x hx => by rw [List.mem_singleton.mp hx]; exact Nat.le_refl _⟩
  | y :: ys, a => by
    have e : mnL (a : Int) ((y :: ys).map fun n : Nat => (n : Int)) = mnL ((if y < a then y else a : Nat) : Int) (ys.map fun n : Nat => (n : Int)) := by
      show mnL (if (y : Int) < (a : Int) then (y : Int) else (a : Int)) _ = _
      congr 1
      by_cases h : y < a
      · rw [if_pos h, if_pos (by omega)]
      · rw [if_neg h, if_neg (by omega)]
    obtain ⟨m, h1, h2, h3⟩ := mnL_nat ys (if y < a then y else a)
    have q := h3 _ List.mem_cons_self
    refine ⟨m, e.trans h1, ?_, fun x hx => ?_⟩
    · rcases List.mem_cons.mp h2 with h | h
      · rw [h]; split <;> simp
      · exact List.mem_cons_of_mem _ (List.mem_cons_of_mem _ h)
    · rcases List.mem_cons.mp hx with rfl | hx
      · split at q <;> omega
      · rcases List.mem_cons.mp hx with rfl | hx
        · split at q <;> omega
        · exact h3 x (List.mem_cons_of_mem _ hx)
theorem mxL_nat : ∀ (l : List Nat) (a : Nat), ∃ m : Nat, mxL (a : Int) (l.map fun n : Nat => (n : Int)) = (m : Int) ∧ m ∈ a :: l ∧ ∀ x ∈ a :: l, x ≤ m
  | [], a => ⟨a, rfl, List.mem_cons_self, fun x hx => by rw [List.mem_singleton.mp hx]; exact Nat.le_refl _⟩
  | y :: ys, a => by
    have e : mxL (a : Int) ((y :: ys).map fun n : Nat => (n : Int)) = mxL ((if a < y then y else a : Nat) : Int) (ys.map fun n : Nat => (n : Int)) := by
      show mxL (if (y : Int) > (a : Int) then (y : Int) else (a : Int)) _ = _
      congr 1
      by_cases h : a < y
      · rw [if_pos h, if_pos (by omega)]
      · rw [if_neg h, if_neg (by omega)]
    obtain ⟨m, h1, h2, h3⟩ := mxL_nat ys (if a < y then y else a)
    have q := h3 _ List.mem_cons_self
    refine ⟨m, e.trans h1, ?_, fun x hx => ?_⟩
    · rcases List.mem_cons.mp h2 with h | h
      · rw [h]; split <;> simp
      · exact List.mem_cons_of_mem _ (List.mem_cons_of_mem _ h)
    · rcases List.mem_cons.mp hx with rfl | hx
      · split at q <;> omega
      · rcases List.mem_cons.mp hx with rfl | hx
        · split at q <;> omega
        · exact h3 x (List.mem_cons_of_mem _ hx)
theorem min_vi {l : List Nat} (h : l ≠ []) : ∃ m, m ∈ l ∧ (∀ x ∈ l, m ≤ x) ∧ fMinX [.lst (l.map vi)] = some (.v (vi m)) := by
  cases l with
  | nil => exact absurd rfl h
  | cons a l =>
    obtain ⟨m, h1, h2, h3⟩ := mnL_nat l a
    refine ⟨m, h2, h3, ?_⟩
    have h0 : fMinL [.lst ((a :: l).map vi)] = some (.v (vi m)) := by
      show (match ints? ((a :: l).map vi) with | some (m :: r) => some (RV.v (Val.int (mnL m r))) | _ => none) = _
      rw [ints_vi]
      show some (RV.v (Val.int (mnL (a : Int) (l.map fun n : Nat => (n : Int))))) = _
      rw [h1]
    unfold fMinX fOr
    rw [h0]
theorem max_vi {l : List Nat} (h : l ≠ []) : ∃ m, m ∈ l ∧ (∀ x ∈ l, x ≤ m) ∧ fMaxX [.lst (l.map vi)] = some (.v (vi m)) := by
  cases l with
  | nil => exact absurd rfl h
  | cons a l =>
    obtain ⟨m, h1, h2, h3⟩ := mxL_nat l a
    refine ⟨m, h2, h3, ?_⟩
    have h0 : fMaxL [.lst ((a :: l).map vi)] = some (.v (vi m)) := by
      show (match ints? ((a :: l).map vi) with | some (m :: r) => some (RV.v (Val.int (mxL m r))) | _ => none) = _
      rw [ints_vi]
      show some (RV.v (Val.int (mxL (a : Int) (l.map fun n : Nat => (n : Int))))) = _
      rw [h1]
    unfold fMaxX fOr
    rw [h0]
end Z
/-! ZMB: a list within what a suite has made itself is changed at the suite's end: frames that hold nothing that can be changed within. -/
namespace Z
open PySem L2 PySem.Spec
/-- nothing within that can be changed -/
def flatN : Nat → Val → Bool
  | _, .non => true
  | _, .bl _ => true
  | _, .int _ => true
  | _, .str _ => true
  | _, .scr _ => true
  | n + 1, .tup xs => xs.all (flatN n)
  | _, _ => false
def flatS : Slot → Bool
  | .emp => true
  | .v x => flatN 9 x
  | .own _ (.lst xs) => xs.all (flatN 9)
  | _ => false
def flatE (e : Env) : Bool := e.all flatS
theorem flatE_get : ∀ {e : Env}, flatE e = true → ∀ i, flatS (eget e i) = true
  | [], _, i => by simp [flatS]
  | s :: r, h, i => by
    have h' : flatS s = true ∧ flatE r = true := by simpa [flatE] using h
    cases i with
    | zero => exact h'.1
    | succ i => exact flatE_get h'.2 i
section
variable {g : Gm} {Zs Zt : Addr → Prop} {H H' : Hp}
theorem RvL.of_flat (n : Nat) (ih : ∀ {x : Val} {u : V}, flatN n x = true → RvV g Zs H x u → RvV g Zt H x u) : ∀ {xs : List Val} {us : List V}, xs.all (flatN n) = true → RvL g Zs H xs us → RvL g Zt H xs us
  | [], _, _, .nil => .nil
  | x :: xs, _, h, .cons a r => by
    rw [List.all_cons, Bool.and_eq_true] at h
    exact .cons (ih h.1 a) (RvL.of_flat n ih h.2 r)
theorem RvV.flat : ∀ {n : Nat} {x : Val} {u : V}, flatN n x = true → RvV g Zs H x u → RvV g Zt H x u := by
  intro n
  induction n with
  | zero =>
    intro x u h r
    cases r with
    | non => exact .non
    | bl b => exact .bl b
    | int i => exact .int i
    | str s => exact .str s
    | scr hq => exact .scr hq
    | tup _ _ => cases h
    | lst _ _ => cases h
    | dic _ _ _ => cases h
    | obj _ _ _ _ => cases h
  | succ n ih =>
    intro x u h r
    cases r with
    | non => exact .non
    | bl b => exact .bl b
    | int i => exact .int i
    | str s => exact .str s
    | scr hq => exact .scr hq
    | tup a r => exact .tup a (RvL.of_flat n ih h r)
    | lst _ _ => cases h
    | dic _ _ _ => cases h
    | obj _ _ _ _ => cases h
theorem RvL.flt {n : Nat} {xs : List Val} {us : List V} (h : xs.all (flatN n) = true) (r : RvL g Zs H xs us) : RvL g Zt H xs us := RvL.of_flat n RvV.flat h r
end
abbrev noZ : Addr → Prop := fun _ => False
section
variable {g : Gm} {xc : Xc} {pa : List (Option Addr)} {Zs Z1 : Addr → Prop} {H0 H1 : Hp} {σ0 σ1 : L2.St} {e0 e1 : Env}
/-- a flat frame stands with nothing at rest -/
theorem RE.flat (re : RE g xc pa Zs H0 σ0 e0) (f : flatE e0 = true) : RE g xc pa noZ H0 σ0 e0 := by
  refine ⟨re.len, fun i => ?_, re.inj, re.pin, fun a h => h.elim⟩
  have q := re.sl i
  have k := flatE_get f i
  cases hs : eget e0 i with
  | emp => trivial
  | v x =>
    rw [hs] at q k
    obtain ⟨u, h, r⟩ := q
    exact ⟨u, h, r.flat k⟩
  | own p x =>
    rw [hs] at q k
    obtain ⟨a, h, nz, hl⟩ := q
    cases x with
    | lst xs =>
      obtain ⟨us, h1, r⟩ := hl
      exact ⟨a, h, fun z => z, us, h1, RvL.flt (n := 9) k r⟩
    | _ => cases k
  | pf x => rw [hs] at k; cases k
  | exn c fs => rw [hs] at k; cases k
/-- what was reached with nothing at rest, seen with all that rests -/
theorem post_up (re : RE g xc pa Zs H0 σ0 e0) (P : Post g xc pa noZ H0 σ0 e0 Z1 H1 σ1 e1) : Post g xc pa Zs H0 σ0 e0 (fun a => Z1 a ∨ Zs a) H1 σ1 e1 := by
  have nz : ∀ a, (Owd e0 σ0 a ∨ H0 a = none) → ¬ Zs a := fun a h z => by
    rcases h with h | h
    · exact (re.owOk a h).1 z
    · obtain ⟨o, ho⟩ := re.zd a z
      rw [h] at ho; cases ho
  have nzo : ∀ a, Owd e1 σ1 a → ¬ Zs a := fun a h => nz a (P.ow a h)
  have zd : Zd (fun a => Z1 a ∨ Zs a) H1 := fun a h => by
    rcases h with h | h
    · exact P.ext.zd a h
    · obtain ⟨o, ho⟩ := re.zd a h
      exact ⟨o, P.ext.hh a o ho fun w => (re.owOk a w).1 h⟩
  have gr : Grow Z1 H1 (fun a => Z1 a ∨ Zs a) H1 := Grow.of fun a h => .inl h
  refine ⟨⟨fun a h => .inr h, fun a h => ?_, P.ext.hh, zd⟩, ⟨P.re.len, fun i => ?_, P.re.inj, P.re.pin, zd⟩, P.ow⟩
  · rcases h with h | h
    · rcases P.ext.zn a h with h | h | h
      · exact h.elim
      · exact .inr (.inl h)
      · exact .inr (.inr h)
    · exact .inl h
  · have q := P.re.sl i
    cases hs : eget e1 i with
    | emp => trivial
    | v x =>
      rw [hs] at q
      obtain ⟨u, h, r⟩ := q
      exact ⟨u, h, r.gr gr⟩
    | own p x =>
      rw [hs] at q
      obtain ⟨a, h, n, hl⟩ := q
      refine ⟨a, h, fun z => ?_, ?_⟩
      · rcases z with z | z
        · exact n z
        · exact nzo a ⟨i, p, x, hs, h⟩ z
      · cases x with
        | lst xs => obtain ⟨us, h1, r⟩ := hl; exact ⟨us, h1, r.gr gr⟩
        | dic xs => obtain ⟨us, h1, r⟩ := hl; exact ⟨us, h1, r.gr gr⟩
        | obj c fs => obtain ⟨C, dx, fv, h1, m, r⟩ := hl; exact ⟨C, dx, fv, h1, m, r.gr gr⟩
        | _ => exact hl.elim
    | pf x =>
      rw [hs] at q
      obtain ⟨a, h, z, r⟩ := q
      exact ⟨a, h, .inl z, r.gr gr⟩
    | exn c fs =>
      rw [hs] at q
      obtain ⟨a, d, C, fv, h1, h2, h3, h4, r⟩ := q
      exact ⟨a, d, C, fv, h1, h2, h3, h4, r.gr gr⟩
theorem RR.up (re : RE g xc pa Zs H0 σ0 e0) {r : RV} {u : V} (h : RR g ⟨pa, noZ, H0, σ0, e0⟩ Z1 H1 σ1 e1 r u) : RR g ⟨pa, Zs, H0, σ0, e0⟩ (fun a => Z1 a ∨ Zs a) H1 σ1 e1 r u := by
  have gr : Grow Z1 H1 (fun a => Z1 a ∨ Zs a) H1 := Grow.of fun a h => .inl h
  cases r with
  | v x => exact RvV.gr gr h
  | own x =>
    obtain ⟨a, e, n, hl, no, fr⟩ := h
    refine ⟨a, e, fun z => ?_, ?_, no, fr⟩
    · rcases z with z | z
      · exact n z
      · rcases fr with f | f
        · exact (re.owOk a f).1 z
        · obtain ⟨o, ho⟩ := re.zd a z
          have f : H0 a = none := f
          rw [f] at ho; cases ho
    · cases x with
      | lst xs => obtain ⟨us, h1, r⟩ := hl; exact ⟨us, h1, r.gr gr⟩
      | dic xs => obtain ⟨us, h1, r⟩ := hl; exact ⟨us, h1, r.gr gr⟩
      | obj c fs => obtain ⟨C, dx, fv, h1, m, r⟩ := hl; exact ⟨C, dx, fv, h1, m, r.gr gr⟩
      | _ => exact hl.elim
  | bor i => exact h
end
/-- a suite that began with a flat frame and stands at e -/
def rdU (g : Gm) (xc : Xc) (W : WX) (f : S) : TS := fun D σ H => ∃ pa Zs H0 σ0 e0 Z1 e1, RE g xc pa Zs H0 σ0 e0 ∧ Post g xc pa noZ H0 σ0 e0 Z1 H σ e1 ∧ EndS g xc ⟨pa, Zs, H0, σ0, e0⟩ (f e1) W D
abbrev SU (X : Cx) (xc : Xc) (W : WX) (st : List Stmt) (f : S) : Prop := PSs X st (rdU (gX X) xc W f)
/-- what is not flat is forgotten -/
def forgetS : Slot → Slot
  | .v x => if flatN 9 x then .v x else .emp
  | .own false x => if flatS (.own false x) then .own false x else .emp
  | s => s
def forget (e : Env) : Env := e.map forgetS
theorem eget_forget : ∀ (e : Env) (i : Nat), eget (forget e) i = forgetS (eget e i)
  | [], _ => rfl
  | _ :: _, 0 => rfl
  | _ :: r, i + 1 => eget_forget r i
theorem forgetS_cases (s : Slot) : forgetS s = s ∨ forgetS s = .emp := by
  cases s with
  | v x =>
    by_cases h : flatN 9 x = true
    · exact .inl (if_pos h)
    · exact .inr (if_neg h)
  | own p x =>
    cases p
    · by_cases h : flatS (.own false x) = true
      · exact .inl (if_pos h)
      · exact .inr (if_neg h)
    · exact .inl rfl
  | emp => exact .inl rfl
  | pf x => exact .inl rfl
  | exn c fs => exact .inl rfl
theorem forgetS_pin {s : Slot} (h : Pinned s) : forgetS s = s := by
  cases s with
  | own p x => cases p; exact h.elim; rfl
  | pf x => rfl
  | emp => exact h.elim
  | v x => exact h.elim
  | exn c fs => exact h.elim
theorem RE.forget {g : Gm} {xc : Xc} {pa : List (Option Addr)} {Zs : Addr → Prop} {H : Hp} {σ : L2.St} {e : Env} (re : RE g xc pa Zs H σ e) : Post g xc pa Zs H σ e Zs H σ (Z.forget e) := by
  have own : ∀ i a, OwnAt (Z.forget e) σ i a → OwnAt e σ i a := fun i a ⟨p, x, h1, h2⟩ => by
    rw [eget_forget] at h1
    rcases forgetS_cases (eget e i) with q | q
    · rw [q] at h1; exact ⟨p, x, h1, h2⟩
    · rw [q] at h1; cases h1
  refine ⟨Ext.refl re.zd, ⟨by unfold Z.forget; rw [List.length_map]; exact re.len, fun i => ?_, fun i j a h1 h2 => re.inj i j a (own i a h1) (own j a h2), fun i a h => ?_, re.zd⟩, fun a ⟨i, h⟩ => .inl ⟨i, own i a h⟩⟩
  · rw [eget_forget]
    rcases forgetS_cases (eget e i) with q | q
    · rw [q]; exact re.sl i
    · rw [q]; trivial
  · obtain ⟨h1, h2⟩ := re.pin i a h
    rw [eget_forget, forgetS_pin h2]
    exact ⟨h1, h2⟩
def sFlat (f : S) : S := fun e => if flatE (forget e) then f (forget e) else .no
@[simp] theorem sFlat_ap (f : S) (e : Env) : sFlat f e = if flatE (forget e) then f (forget e) else .no := rfl
theorem sFlat_of {f : S} {e e1 : Env} (h : forget e = e1) (k : flatE e1 = true) : sFlat f e = f e1 := by
  unfold sFlat
  rw [h, if_pos k]
section
variable {X : Cx} {xc : Xc} {W : WX} {pos : Pos}
theorem sb_flat {sts : List Stmt} {f : S} (h : SU X xc W sts f) : SB X xc W sts (sFlat f) := PSs_imp h fun D σ H ⟨pa, Zs, env, re, h⟩ => by
  unfold sFlat at h
  by_cases c : flatE (forget env) = true
  · rw [if_pos c] at h
    have P := re.forget
    exact ⟨pa, Zs, H, σ, forget env, noZ, forget env, P.re, Post.refl (P.re.flat c), EndS.shift h P⟩
  · rw [if_neg c] at h
    exact h.elim
theorem su_end {res : Rs Fl} {D D' : Ends} {g : Gm} {pa : List (Option Addr)} {Zs Z1 : Addr → Prop} {H0 H : Hp} {σ0 σ : L2.St} {e0 e1 : Env} (re : RE g xc pa Zs H0 σ0 e0) (P : Post g xc pa noZ H0 σ0 e0 Z1 H σ e1)
    (h : EndS g xc ⟨pa, Zs, H0, σ0, e0⟩ res W D) (hb : D'.bk = D.bk) (hc : D'.ct = D.ct) (hr : D'.rt = D.rt) (hn : ∀ e2, res ≠ .ok .nx e2) : EndS g xc ⟨pa, Z1, H, σ, e1⟩ res W D' := by
  cases res with
  | no => exact h
  | ex c fs e2 =>
    intro C d fv σ2 Z2 H2 Q hg hd hf
    have T := P.trans Q
    exact h C d fv σ2 _ H2 (post_up re T) hg hd (hf.gr (Grow.of fun a h => .inl h))
  | ok f e2 =>
    intro σ2 Z2 H2 Q
    have T := P.trans Q
    have k := h σ2 _ H2 (post_up re T)
    cases f with
    | nx => exact absurd rfl (hn e2)
    | bk => show D'.bk σ2 H2; rw [hb]; exact k
    | ct => show D'.ct σ2 H2; rw [hc]; exact k
    | rt r =>
      intro u hu
      show D'.rt u H2
      rw [hr]
      refine k u (RR.up (σ1 := σ2) re ?_)
      have : RR g ⟨pa, noZ, H0, σ0, e0⟩ Z2 H2 σ2 e2 r u := hu.backS (s := ⟨pa, noZ, H0, σ0, e0⟩) P
      exact this
theorem su_cons {st : Stmt} {sts : List Stmt} {fa fb : S} (ha : SS X xc W st fa) (hb : SU X xc W sts fb) : SU X xc W (st :: sts) (sSeq fa fb) := PSs_imp (pss_cons ha hb) fun D σ H ⟨pa, Zs, H0, σ0, e0, Z1, e1, re, P, h⟩ => by
  refine ⟨pa, Z1, e1, P.re, ?_⟩
  unfold sSeq at h
  cases hf : fa e1 with
  | no => rw [hf] at h; exact h
  | ex c fs e2 => rw [hf] at h; exact su_end re P h rfl rfl rfl (fun _ z => nomatch z)
  | ok f e2 =>
    rw [hf, Rs.bind_ok] at h
    cases f with
    | nx => exact fun σ2 Z2 H2 Q => ⟨pa, Zs, H0, σ0, e0, Z2, e2, re, P.trans Q, h⟩
    | bk => exact su_end re P h rfl rfl rfl (fun _ z => nomatch z)
    | ct => exact su_end re P h rfl rfl rfl (fun _ z => nomatch z)
    | rt r => exact su_end re P h rfl rfl rfl (fun _ z => nomatch z)
/-- the frame without its place j is flat, and j is no parameter -/
def mutOk (e : Env) (j : Nat) : Bool := flatE (eput e j .emp) && (match eget e j with | .v _ => true | .own false _ => true | _ => false)
/-- e.append(a), e a list within what stands at j, which is no more looked at -/
def sMut (j : Nat) (rv a : E) : S := fun e => (rv e).bind fun r e2 => match r with
  | .v (.lst ys) => (a e2).bind fun q e3 => match q with
    | .v _ => if mutOk e3 j && decide (ys.length < sizeMax) then .ok .nx (eput e3 j .emp) else .no
    | _ => .no
  | _ => .no
@[simp] theorem sMut_ap (j : Nat) (rv a : E) (e : Env) : sMut j rv a e = (rv e).bind fun r e2 => match r with
  | .v (.lst ys) => (a e2).bind fun q e3 => match q with
    | .v _ => if mutOk e3 j && decide (ys.length < sizeMax) then .ok .nx (eput e3 j .emp) else .no
    | _ => .no
  | _ => .no := rfl
theorem mut_end {g : Gm} {pa : List (Option Addr)} {Zs Z3 : Addr → Prop} {H0 H3 : Hp} {σ0 σ : L2.St} {e0 e3 : Env} {j : Nat} {b : Addr} {ws ws' : List V} (re : RE g xc pa Zs H0 σ0 e0) (P : Post g xc pa noZ H0 σ0 e0 Z3 H3 σ e3)
    (ok : mutOk e3 j = true) (hz : Z3 b) (hb : H3 b = some (.lst ws)) : Post g xc pa Zs H0 σ0 e0 Zs (L2.upd H3 b (.lst ws')) σ (eput e3 j .emp) := by
  unfold mutOk at ok
  rw [Bool.and_eq_true] at ok
  obtain ⟨fl, nj⟩ := ok
  have fresh : ¬ Owd e0 σ0 b → H0 b = none := fun n => by
    rcases P.ext.zn b hz with h | h | h
    · exact h.elim
    · exact absurd h n
    · exact h
  have nzb : ∀ a, Owd e3 σ a → a ≠ b := fun a h e => by subst e; exact (P.re.owOk _ h).1 hz
  have own : ∀ i a, OwnAt (eput e3 j .emp) σ i a → OwnAt e3 σ i a := fun i a ⟨p, x, h1, h2⟩ => by
    by_cases q : j = i
    · subst q
      by_cases l : j < e3.length
      · rw [eget_eput_same _ _ _ l] at h1; cases h1
      · rw [eget_out _ _ (by rw [eput_length]; omega)] at h1; cases h1
    · rw [eget_eput_ne _ _ _ _ q] at h1
      exact ⟨p, x, h1, h2⟩
  have nz : ∀ a, (Owd e0 σ0 a ∨ H0 a = none) → ¬ Zs a := fun a h z => by
    rcases h with h | h
    · exact (re.owOk a h).1 z
    · obtain ⟨o, ho⟩ := re.zd a z
      rw [h] at ho; cases ho
  have keep : ∀ a o, H0 a = some o → ¬ Owd e0 σ0 a → L2.upd H3 b (.lst ws') a = some o := fun a o h n => by
    have h3 := P.ext.hh a o h n
    by_cases q : a = b
    · subst q
      rw [fresh n] at h; cases h
    · rw [upd_ne q]; exact h3
  have zd : Zd Zs (L2.upd H3 b (.lst ws')) := fun a h => by
    obtain ⟨o, ho⟩ := re.zd a h
    exact ⟨o, keep a o ho fun w => (re.owOk a w).1 h⟩
  have gr : Grow noZ H3 noZ (L2.upd H3 b (.lst ws')) := ⟨fun _ h => h, fun a u hw h => by
    have q : a ≠ b := fun e => by
      subst e
      rw [hb] at h; cases h
      rcases hw with hw | hw
      · cases hw
      · exact hw
    rw [upd_ne q]; exact h⟩
  refine ⟨⟨fun _ h => h, fun a h => .inl h, keep, zd⟩, ⟨by rw [eput_length]; exact P.re.len, fun i => ?_, fun i k a h1 h2 => P.re.inj i k a (own i a h1) (own k a h2), fun i a h => ?_, zd⟩, fun a ⟨i, h⟩ => P.ow a ⟨i, own i a h⟩⟩
  · have k := flatE_get fl i
    by_cases q : j = i
    · subst q
      by_cases l : j < e3.length
      · rw [eget_eput_same _ _ _ l]; trivial
      · rw [eget_out _ _ (by rw [eput_length]; omega)]; trivial
    · rw [eget_eput_ne _ _ _ _ q] at k ⊢
      have s := P.re.sl i
      cases hs : eget e3 i with
      | emp => trivial
      | v x =>
        rw [hs] at s k
        obtain ⟨u, h, r⟩ := s
        exact ⟨u, h, ((r.flat (Zt := noZ) k).gr gr).flat k⟩
      | own p x =>
        rw [hs] at s k
        obtain ⟨a, h, n, hl⟩ := s
        have oa : Owd e3 σ a := ⟨i, p, x, hs, h⟩
        cases x with
        | lst xs =>
          obtain ⟨us, h1, r⟩ := hl
          exact ⟨a, h, nz a (P.ow a oa), us, by rw [upd_ne (nzb a oa)]; exact h1, RvL.flt (n := 9) k ((RvL.flt (n := 9) (Zt := noZ) k r).gr gr)⟩
        | _ => cases k
      | pf x => rw [hs] at k; cases k
      | exn c fs => rw [hs] at k; cases k
  · obtain ⟨h1, h2⟩ := P.re.pin i a h
    refine ⟨h1, ?_⟩
    by_cases q : j = i
    · subst q
      cases hs : eget e3 j with
      | own p x =>
        rw [hs] at h2 nj
        cases p
        · exact h2.elim
        · cases nj
      | pf x => rw [hs] at nj; cases nj
      | emp => rw [hs] at h2; exact h2.elim
      | v x => rw [hs] at h2; exact h2.elim
      | exn c fs => rw [hs] at h2; exact h2.elim
    · rw [eget_eput_ne _ _ _ _ q]; exact h2
/-- the statement's end -/
theorem mut_run {o a : Expr} {fo fa : E} {D : Ends} {σ : L2.St} {H : Hp} {j : Nat} {fb : Env → Rs Fl} {R : L2.St → Hp → Prop}
    (hk : ∀ {pa : List (Option Addr)} {Zs : Addr → Prop} {H0 : Hp} {σ0 : L2.St} {e0 e' : Env} {H' : Hp}, RE (gX X) xc pa Zs H0 σ0 e0 → Post (gX X) xc pa Zs H0 σ0 e0 Zs H' σ e' → EndS (gX X) xc ⟨pa, Zs, H0, σ0, e0⟩ (fb e') W D → R σ H')
    {pa : List (Option Addr)} {Zs Z1 : Addr → Prop} {H0 : Hp} {σ0 : L2.St} {e0 e1 : Env} (re : RE (gX X) xc pa Zs H0 σ0 e0) (P : Post (gX X) xc pa noZ H0 σ0 e0 Z1 H σ e1) (h : EndS (gX X) xc ⟨pa, Zs, H0, σ0, e0⟩ ((sMut j fo fa e1).bind fun f e2 => match f with | .nx => fb e2 | f => .ok f e2) W D) :
    tBM X.K "list" rAppend (rd (gX X) xc W fo) (rdA (gX X) xc W (asCons fa asNil)) σ H fun _ H' => R σ H' := by
  refine ⟨pa, Z1, e1, P.re, ?_⟩
  unfold sMut at h
  cases hf : fo e1 with
  | no => rw [hf] at h; exact h
  | ex c fs e2 =>
    rw [hf] at h
    intro C d fv Z2 H2 Q hg hd hv
    have T := P.trans Q.toPost
    exact h C d fv σ _ H2 (post_up re T) hg hd (hv.gr (Grow.of fun a h => .inl h))
  | ok r e2 =>
    rw [hf, Rs.bind_ok] at h
    cases r with
    | own x => exact h.elim
    | bor i => exact h.elim
    | v x =>
      cases x with
      | lst ys =>
        intro u Z2 H2 P2 q2
        cases q2 with
        | @lst b us _ sq rl =>
          refine ⟨.inl ⟨rfl, us, SqL.of sq.2⟩, pa, Z2, e2, P2.re, ?_⟩
          unfold asCons
          cases hg : fa e2 with
          | no => dsimp only at h; rw [hg] at h; exact h
          | ex c fs e3 =>
            dsimp only at h
            rw [hg] at h
            intro C d fv Z3 H3 Q hgc hd hv
            have T := P.trans (P2.toPost.trans Q.toPost)
            exact h C d fv σ _ H3 (post_up re T) hgc hd (hv.gr (Grow.of fun a h => .inl h))
          | ok q e3 =>
            dsimp only at h
            rw [hg, Rs.bind_ok] at h
            cases q with
            | own x => exact h.elim
            | bor i => exact h.elim
            | v x =>
              by_cases ok : (mutOk e3 j && decide (ys.length < sizeMax)) = true
              · dsimp only at h
                rw [if_pos ok, Rs.bind_ok] at h
                rw [Bool.and_eq_true, decide_eq_true_eq] at ok
                intro vs Z3 H3 P3 q3
                cases q3 with
                | @cons _ w _ us' q3 qn _ =>
                  cases qn
                  have T := P.trans (P2.toPost.trans P3.toPost)
                  have gr := P3.ext.grow P2.re.owOk
                  have hz : Z3 b := gr.zz b sq.1
                  have hb : H3 b = some (.lst us) := gr.kp b _ (.inr sq.1) sq.2
                  exact ⟨b, us, w, rfl, rfl, hb, by rw [← rl.length, ← szm]; exact ok.2, hk re (mut_end re T ok.1 hz hb) h⟩
              · dsimp only at h
                rw [if_neg ok] at h
                exact h.elim
      | _ => exact h.elim
theorem su_mut (j : Nat) {o a : Expr} {fo fa : E} {p1 p2 : Pos} (ho : SE X xc W o fo) (ha : SE X xc W a fa)
    (hp : ∀ {to : TE} {t : TA}, PE X o to → PA X [a] t → PE X (.Call (.Attribute o "append" p1) [a] [] pos) (tBM X.K "list" rAppend to t) := by intro _ _ h1 h2; exact pe_bm PySem.F.plainAttrs_list PySem.F.slot_list_append PySem.F.type_list_append mt_append h1 h2)
    (hs : starEach [a] X.env = [(false, eval a X.env)] := by rfl) (hw : swapsWith (.Call (.Attribute o "append" p1) [a] [] pos) none p2.line X.env = pure false := by rfl) : SU X xc W [.Expr (.Call (.Attribute o "append" p1) [a] [] pos) p2] (sMut j fo fa) := by
  refine PSs_imp (pss_one (PS_imp (ps_expr (hp ho (sa_cons ha sa_nil hs)) hw) fun D σ H h => h)) fun D σ H ⟨pa, Zs, H0, σ0, e0, Z1, e1, re, P, h⟩ => ?_
  refine mut_run (j := j) (fb := fun e2 => .ok .nx e2) (D := D) (o := o) (a := a) (fun re P h => h σ _ _ P) re P ?_
  have : ((sMut j fo fa e1).bind fun f e2 => match f with | .nx => .ok .nx e2 | f => .ok f e2) = sMut j fo fa e1 := by
    cases sMut j fo fa e1 with
    | ok f e2 => cases f <;> rfl
    | ex c fs e => rfl
    | no => rfl
  rw [this]
  exact h
/-- .. and on -/
theorem su_mutc (j : Nat) {o a : Expr} {sts : List Stmt} {fo fa : E} {fb : S} {p1 p2 : Pos} (ho : SE X xc W o fo) (ha : SE X xc W a fa) (hb : SB X xc W sts fb)
    (hp : ∀ {to : TE} {t : TA}, PE X o to → PA X [a] t → PE X (.Call (.Attribute o "append" p1) [a] [] pos) (tBM X.K "list" rAppend to t) := by intro _ _ h1 h2; exact pe_bm PySem.F.plainAttrs_list PySem.F.slot_list_append PySem.F.type_list_append mt_append h1 h2)
    (hs : starEach [a] X.env = [(false, eval a X.env)] := by rfl) (hw : swapsWith (.Call (.Attribute o "append" p1) [a] [] pos) none p2.line X.env = pure false := by rfl) : SU X xc W (.Expr (.Call (.Attribute o "append" p1) [a] [] pos) p2 :: sts) (sSeq (sMut j fo fa) fb) := by
  refine PSs_imp (pss_cons (PS_imp (ps_expr (hp ho (sa_cons ha sa_nil hs)) hw) fun D σ H h => h) hb) fun D σ H ⟨pa, Zs, H0, σ0, e0, Z1, e1, re, P, h⟩ => ?_
  exact mut_run (j := j) (fb := fb) (D := D) (o := o) (a := a) (R := fun σ' H' => rdS (gX X) xc W fb D σ' H') (fun re P h => ⟨_, _, _, P.re, EndS.shift h P⟩) re P h
end
end Z
/-! ZMC: name.pop(a), name[i] += a, bits of a number. -/
namespace Z
open PySem L2 PySem.Spec
section
variable {X : Cx} {xc : Xc} {W : WX} {pos : Pos}
/-- name.pop(a), a a place from the front -/
def ePopX (j : Nat) (a : E) : E := fun e => if isOwnL (eget e j) then (a e).bind fun r e1 => match eget e1 j, r with
  | .own p (.lst xs), .v (.int i) => if 0 ≤ i ∧ i < xs.length ∧ xs.length ≤ sizeMax then match xs[i.toNat]? with
      | some x => .ok (.v x) (eput e1 j (.own p (.lst (xs.eraseIdx i.toNat))))
      | none => .no
    else .no
  | _, _ => .no
  else .no
@[simp] theorem ePopX_ap (j : Nat) (a : E) (e : Env) : ePopX j a e = if isOwnL (eget e j) then (a e).bind fun r e1 => match eget e1 j, r with
  | .own p (.lst xs), .v (.int i) => if 0 ≤ i ∧ i < xs.length ∧ xs.length ≤ sizeMax then match xs[i.toNat]? with
      | some x => .ok (.v x) (eput e1 j (.own p (.lst (xs.eraseIdx i.toNat))))
      | none => .no
    else .no
  | _, _ => .no
  else .no := rfl
theorem RvL.eraseI {g : Gm} {Zs : Addr → Prop} {H : Hp} : ∀ {xs : List Val} {us : List V} (n : Nat), RvL g Zs H xs us → RvL g Zs H (xs.eraseIdx n) (us.eraseIdx n)
  | _, _, _, .nil => .nil
  | _, _, 0, .cons _ r => r
  | _, _, n + 1, .cons a r => .cons a (r.eraseI n)
theorem se_popX (j : Nat) {x : Str} {a : Expr} {fa : E} {p0 p1 : Pos} (ha : SE X xc W a fa) (hN : X.N[j]? = some x := by rfl) (hv : Vis X.env.scope x := by first | exact Or.inl rfl | exact Or.inr (Or.inl rfl) | exact Or.inr (Or.inr rfl))
    (hd : (x == ("__debug__" : Str)) = false := by decide) (hcd : (x == ("__classdict__" : Str)) = false := by decide)
    (hp : ∀ {to : TE} {t : TA}, PE X (.Name x p0) to → PA X [a] t → PE X (.Call (.Attribute (.Name x p0) "pop" p1) [a] [] pos) (tBM X.K "list" rPopAt to t) := by intro _ _ h1 h2; exact pe_bm PySem.F.plainAttrs_list PySem.F.slot_list_pop PySem.F.type_list_pop mt_popAt h1 h2)
    (hs : starEach [a] X.env = [(false, eval a X.env)] := by rfl) : SE X xc W (.Call (.Attribute (.Name x p0) "pop" p1) [a] [] pos) (ePopX j fa) := by
  refine PE_imp (hp (pe_var hN hv hd hcd) (sa_cons ha sa_nil hs)) fun σ H Q h => ?_
  obtain ⟨pa, Zs, env, re, h⟩ := h
  unfold ePopX at h
  by_cases hg : isOwnL (eget env j) = true
  · rw [if_pos hg] at h
    obtain ⟨p, xs, ho⟩ := isOwnL_some hg
    have sj := re.sl j
    rw [ho] at sj
    obtain ⟨b, hb, nz, us, hH, rl⟩ := sj
    refine ⟨_, hb, .inl ⟨rfl, us, SqL.of hH⟩, pa, Zs, env, re, ?_⟩
    unfold asCons
    cases hf : fa env with
    | no => rw [hf] at h; exact h
    | ex c fs e1 => rw [hf] at h; exact h
    | ok r e1 =>
      rw [hf, Rs.bind_ok] at h
      intro vs Z1 H1 P1 q1
      cases q1 with
      | @cons _ u _ us' q1 qn _ =>
        cases qn
        cases ho3 : eget e1 j with
        | own p3 y =>
          cases y with
          | lst ys =>
            cases r with
            | v k =>
              cases q1 with
              | int i =>
                simp only [ho3] at h
                by_cases hz : 0 ≤ i ∧ i < ys.length ∧ ys.length ≤ sizeMax
                · rw [if_pos hz] at h
                  cases hy : ys[i.toNat]? with
                  | none => rw [hy] at h; exact h.elim
                  | some v =>
                    rw [hy] at h
                    have s3 := P1.re.sl j
                    rw [ho3] at s3
                    obtain ⟨b3, hb3, nz3, ws, hl3, rl3⟩ := s3
                    rw [hb] at hb3
                    cases hb3
                    obtain ⟨w, hw, rv⟩ := rl3.get hy
                    have sz : sizeMax = 16777216 := rfl
                    have l := rl3.length
                    have hi : seqIndex? i ws.length = some i.toNat := by
                      unfold seqIndex?
                      have e1 : ¬ i < 0 := by omega
                      have e2 : (decide (0 ≤ i) && decide (i < (ws.length : Int))) = true := by
                        rw [Bool.and_eq_true, decide_eq_true_eq, decide_eq_true_eq]; omega
                      simp only [if_neg e1, e2, if_true]
                    have b1 : -(2 ^ 63) ≤ i := by omega
                    have b2 : i < 2 ^ 63 := by omega
                    refine ⟨b, ws, i, i.toNat, w, rfl, rfl, hl3, b1, b2, hi, hw, ?_⟩
                    have hh : Hld (gX X) Z1 (upd H1 b (.lst (ws.eraseIdx i.toNat))) (.lst (ys.eraseIdx i.toNat)) b := Hld.upd hl3 nz3 (rl3.eraseI _)
                    have P := P1.re.write ho3 hb hh
                    exact h w Z1 _ (P1.trans P) (rv.ext P.ext P1.re.owOk)
                · rw [if_neg hz] at h
                  exact h.elim
              | _ => simp only [ho3] at h; exact h.elim
            | own k => simp only [ho3] at h; exact h.elim
            | bor k => simp only [ho3] at h; exact h.elim
          | _ => simp only [ho3] at h; exact h.elim
        | _ => simp only [ho3] at h; exact h.elim
  · rw [if_neg hg] at h
    exact h.elim
/-- name[i] op= a, numbers -/
def sAugIx (j : Nat) (f : Val → Val → Option RV) (ix a : E) : S := fun e => if isOwnL (eget e j) then (ix e).bind fun q e1 => match eget e1 j, q with
  | .own _ (.lst xs), .v (.int i) => match (if 0 ≤ i then xs[i.toNat]? else none) with
    | some (.int m) => (a e1).bind fun r e2 => (opt (peek e2 r) e2).bind fun y _ => match f (.int m) y, eget e2 j with
      | some (.v (.int z)), .own p (.lst ys) => match setAt ys i (.int z) with
        | some zs => .ok .nx (eput e2 j (.own p (.lst zs)))
        | none => .no
      | _, _ => .no
    | _ => .no
  | _, _ => .no
  else .no
@[simp] theorem sAugIx_ap (j : Nat) (f : Val → Val → Option RV) (ix a : E) (e : Env) : sAugIx j f ix a e = if isOwnL (eget e j) then (ix e).bind fun q e1 => match eget e1 j, q with
  | .own _ (.lst xs), .v (.int i) => match (if 0 ≤ i then xs[i.toNat]? else none) with
    | some (.int m) => (a e1).bind fun r e2 => (opt (peek e2 r) e2).bind fun y _ => match f (.int m) y, eget e2 j with
      | some (.v (.int z)), .own p (.lst ys) => match setAt ys i (.int z) with
        | some zs => .ok .nx (eput e2 j (.own p (.lst zs)))
        | none => .no
      | _, _ => .no
    | _ => .no
  | _, _ => .no
  else .no := rfl
theorem pg_list : PGet X (fun o i H Q => ∃ a us n v, o = .ref a ∧ i = .int n ∧ H a = some (.lst us) ∧ 0 ≤ n ∧ us[n.toNat]? = some v ∧ Q v H) := by
  intro pins s σ H o i ov iv Q I ro ri h
  obtain ⟨a, us, n, v, rfl, rfl, hl, h0, hv, q⟩ := h
  cases ro
  obtain ⟨t, rfl⟩ := ri
  obtain ⟨its, r, pl, hz⟩ := I.list (.inl (.inl hl))
  obtain ⟨w, ew, rw'⟩ := r.get hv
  have hl2 := r.length
  have hn := line63
  have hlt := (List.getElem?_eq_some_iff.mp hv).1
  exact PySem.wpAny_getItem_list pl.isList h0 (by omega) (by simpa using ew) ⟨v, H, I, rw', q⟩
theorem PostE.grown {g : Gm} {xc : Xc} {pa : List (Option Addr)} {Z0 Z1 : Addr → Prop} {H0 H1 : Hp} {σ : L2.St} {env : Env} (re : RE g xc pa Z0 H0 σ env) (e : Ext (fun _ => False) Z0 H0 Z1 H1) : PostE g xc pa Z0 H0 σ env Z1 H1 env :=
  ⟨⟨⟨e.zz, fun a h => (e.zn a h).imp id fun h => h.elim (fun z => z.elim) .inr, fun a o h _ => e.hh a o h fun z => z, e.zd⟩, re.grow e, fun a h => .inl h⟩, fun _ h => h⟩
theorem ss_augIx (j : Nat) {x : Str} {a ix : Expr} {fa fi : E} {op : Operator} {f : Val → Val → Option RV} {p0 p1 : Pos} (ho : OpS X (inplaceOp op) f) (ha : SE X xc W a fa) (hi : SE X xc W ix fi) (hN : X.N[j]? = some x := by rfl) (hv : Vis X.env.scope x := by first | exact Or.inl rfl | exact Or.inr (Or.inl rfl) | exact Or.inr (Or.inr rfl))
    (hd : (x == ("__debug__" : Str)) = false := by decide) (hcd : (x == ("__classdict__" : Str)) = false := by decide)
    (haug : ∀ ov iv new, augStore ix ov iv new = (do holding [new, ov, iv] (setItem ov iv new); release [new, ov, iv] []; pure .next) := by intros; rfl) : SS X xc W (.AugAssign (.Subscript (.Name x p0) ix p1) op a pos) (sAugIx j f fi fa) := by
  obtain ⟨r, hr, hq⟩ := ho.ex
  refine PS_imp (ps_augS (tip := r) (pe_var hN hv hd hcd) hi pg_list ha hr set_list haug) fun D σ H h => ?_
  obtain ⟨pa, Zs, env, re, h⟩ := h
  unfold sAugIx at h
  by_cases hg : isOwnL (eget env j) = true
  · rw [if_pos hg] at h
    obtain ⟨p, xs, ho0⟩ := isOwnL_some hg
    have sj := re.sl j
    rw [ho0] at sj
    obtain ⟨b, hb, nz, us, hH, rl⟩ := sj
    refine ⟨_, hb, pa, Zs, env, re, ?_⟩
    cases hf : fi env with
    | no => rw [hf] at h; exact h
    | ex c fs e1 => rw [hf] at h; exact fun C d fv Z1 H1 p => h C d fv σ Z1 H1 p.toPost
    | ok q e1 =>
      rw [hf, Rs.bind_ok] at h
      intro i' Z1 H1 P1 q1
      cases ho1 : eget e1 j with
      | own p1' y1 =>
        cases y1 with
        | lst xs1 =>
          cases q with
          | v k =>
            cases q1 with
            | int i =>
              simp only [ho1] at h
              cases hat : (if 0 ≤ i then xs1[i.toNat]? else none) with
              | none => rw [hat] at h; exact h.elim
              | some w =>
                rw [hat] at h
                cases w with
                | int m =>
                  simp only at h
                  have s1 := P1.re.sl j
                  rw [ho1] at s1
                  obtain ⟨b1, hb1, nz1, us1, hl1, rl1⟩ := s1
                  rw [hb] at hb1
                  cases hb1
                  have h0 : 0 ≤ i := by
                    by_cases c : 0 ≤ i
                    · exact c
                    · rw [if_neg c] at hat; cases hat
                  rw [if_pos h0] at hat
                  obtain ⟨v', e', rv⟩ := rl1.get hat
                  cases rv
                  refine ⟨b, us1, i, .int m, rfl, rfl, hl1, h0, e', pa, Z1, e1, P1.re, ?_⟩
                  cases hga : fa e1 with
                  | no => rw [hga] at h; exact h
                  | ex c fs e2 => rw [hga] at h; exact fun C d fv Z2 H2 p2 => h C d fv σ Z2 H2 (P1.trans p2).toPost
                  | ok ra e2 =>
                    rw [hga, Rs.bind_ok] at h
                    intro u2 Z2 H2 P2 q2
                    cases hpk : peek e2 ra with
                    | none => rw [hpk] at h; exact h.elim
                    | some y =>
                      rw [hpk, opt_some, Rs.bind_ok] at h
                      have ry := peek_rd P2.re q2 hpk
                      cases hfx : f (.int m) y with
                      | none => rw [hfx] at h; exact h.elim
                      | some z0 =>
                        rw [hfx] at h
                        cases z0 with
                        | v zv =>
                          cases zv with
                          | int z =>
                            cases ho2 : eget e2 j with
                            | own p2' y2 =>
                              cases y2 with
                              | lst ys =>
                                simp only [ho2] at h
                                cases hst : setAt ys i (.int z) with
                                | none => rw [hst] at h; exact h.elim
                                | some zs =>
                                  rw [hst] at h
                                  refine hq Z2 H2 (.int m) y (.v (.int z)) (.int m) u2 _ P2.re.zd hfx (.inl (.int m)) ry ?_
                                  intro u3 Z3 H3 e3 r3
                                  cases r3
                                  have P3 := PostE.grown P2.re e3
                                  obtain ⟨n2, hn2, rfl⟩ := setAt_ix hst
                                  have s2 := P3.re.sl j
                                  rw [ho2] at s2
                                  obtain ⟨b2, hb2, nz2, us2, hl2, rl2⟩ := s2
                                  rw [hb] at hb2
                                  cases hb2
                                  refine ⟨b, us2, i, n2, rfl, rfl, hl2, by rw [← rl2.length]; exact hn2, ?_⟩
                                  have hy : Hld (gX X) Z3 (upd H3 b (.lst (us2.set n2 (.int z)))) (.lst (ys.set n2 (.int z))) b := Hld.upd hl2 nz2 (rl2.set n2 (.int z))
                                  exact h σ Z3 _ (((P1.trans P2).trans P3).trans (P3.re.write ho2 hb hy)).toPost
                              | _ => simp only [ho2] at h; exact h.elim
                            | _ => simp only [ho2] at h; exact h.elim
                          | _ => simp only at h; exact h.elim
                        | own k => simp only at h; exact h.elim
                        | bor k => simp only at h; exact h.elim
                | _ => simp only at h; exact h.elim
            | _ => simp only [ho1] at h; exact h.elim
          | own k => simp only [ho1] at h; exact h.elim
          | bor k => simp only [ho1] at h; exact h.elim
        | _ => simp only [ho1] at h; exact h.elim
      | _ => simp only [ho1] at h; exact h.elim
  · rw [if_neg hg] at h
    exact h.elim
end
end Z
/-! ZMD: pairs of numbers by their order, exactly. -/
namespace Z
open PySem (Str)
def le2 (a b : Int × Int) : Prop := a.1 < b.1 ∨ (a.1 = b.1 ∧ a.2 ≤ b.2)
instance (a b : Int × Int) : Decidable (le2 a b) := inferInstanceAs (Decidable (_ ∨ _))
theorem le2.refl (a : Int × Int) : le2 a a := .inr ⟨rfl, Int.le_refl _⟩
theorem le2.trans {a b c : Int × Int} (h : le2 a b) (k : le2 b c) : le2 a c := by unfold le2 at *; omega
theorem le2.anti {a b : Int × Int} (h : le2 a b) (k : le2 b a) : a = b := by
  unfold le2 at *
  exact Prod.ext (by omega) (by omega)
theorem fold_rel {α : Type} (c : α → α → Bool) (R : α → α → Prop) (refl : ∀ a, R a a) (trans : ∀ a b c, R a b → R b c → R a c) (hc : ∀ y m, (c y m = true → R y m) ∧ (c y m = false → R m y)) : ∀ (l : List α) (a : α), let m := l.foldl (fun m y => if c y m then y else m) a; m ∈ a :: l ∧ ∀ x ∈ a :: l, R m x
  | [], a => ⟨List.mem_cons_self, fun x hx => by rw [List.mem_singleton.mp hx]; exact refl _⟩
  | y :: ys, a => by
    obtain ⟨h1, h2⟩ := fold_rel c R refl trans hc ys (if c y a then y else a)
    have e : R (if c y a then y else a) a ∧ R (if c y a then y else a) y := by
      cases q : c y a with
      | true => exact ⟨(hc y a).1 q, refl _⟩
      | false => exact ⟨refl _, (hc y a).2 q⟩
    refine ⟨?_, fun x hx => ?_⟩
    · rcases List.mem_cons.mp h1 with h | h
      · show (ys.foldl _ (if c y a then y else a)) ∈ _
        rw [h]
        cases c y a with
        | true => simp
        | false => simp
      · exact List.mem_cons_of_mem _ (List.mem_cons_of_mem _ h)
    · have hm := h2 _ List.mem_cons_self
      rcases List.mem_cons.mp hx with rfl | hx
      · exact trans _ _ _ hm e.1
      · rcases List.mem_cons.mp hx with rfl | hx
        · exact trans _ _ _ hm e.2
        · exact h2 x (List.mem_cons_of_mem _ hx)
theorem min_lex {l : List (Int × Int)} (h : l ≠ []) : ∃ m, m ∈ l ∧ (∀ x ∈ l, le2 m x) ∧ fMinX [.lst (l.map pr)] = some (.v (pr m)) := by
  cases l with
  | nil => exact absurd rfl h
  | cons a l =>
    have q := fold_rel (fun y m : Int × Int => decide (y.1 < m.1 ∨ (y.1 = m.1 ∧ y.2 < m.2))) le2 le2.refl (fun _ _ _ => le2.trans) (fun y m => ⟨fun h => by have := of_decide_eq_true h; unfold le2; omega, fun h => by have := of_decide_eq_false h; unfold le2; omega⟩) l a
    refine ⟨_, q.1, q.2, ?_⟩
    have h0 : fMinL [.lst ((a :: l).map pr)] = none := rfl
    unfold fMinX fOr
    rw [h0]
    show (if allAlike ((a :: l).map pr) then some (RV.v (minV (pr a) (l.map pr))) else none) = _
    rw [if_pos (allAlike_map pr (fun p => vok_pr p 59) (fun _ => rfl) valike_pr _), minV_map pr _ vlt_pr]
theorem max_lex {l : List (Int × Int)} (h : l ≠ []) : ∃ m, m ∈ l ∧ (∀ x ∈ l, le2 x m) ∧ fMaxX [.lst (l.map pr)] = some (.v (pr m)) := by
  cases l with
  | nil => exact absurd rfl h
  | cons a l =>
    have q := fold_rel (fun y m : Int × Int => decide (m.1 < y.1 ∨ (m.1 = y.1 ∧ m.2 < y.2))) (fun a b => le2 b a) le2.refl (fun _ _ _ h k => le2.trans k h) (fun y m => ⟨fun h => by have := of_decide_eq_true h; unfold le2; omega, fun h => by have := of_decide_eq_false h; unfold le2; omega⟩) l a
    refine ⟨_, q.1, q.2, ?_⟩
    have h0 : fMaxL [.lst ((a :: l).map pr)] = none := rfl
    unfold fMaxX fOr
    rw [h0]
    show (if allAlike ((a :: l).map pr) then some (RV.v (maxV (pr a) (l.map pr))) else none) = _
    rw [if_pos (allAlike_map pr (fun p => vok_pr p 59) (fun _ => rfl) valike_pr _), maxV_map pr _ vlt_pr]
theorem vle_pr (p q : Int × Int) : vle (pr p) (pr q) = decide (le2 p q) := by
  show (!vlt (pr q) (pr p)) = _
  rw [vlt_pr, ← decide_not]
  congr 1
  apply propext
  unfold le2
  constructor <;> intro h <;> omega
/-- sorted: the list, in order -/
theorem sort_lex (l : List (Int × Int)) : ∃ l' : List (Int × Int), l'.Perm l ∧ l'.Pairwise le2 ∧ fSortD [.lst (l.map pr)] = some (.own (.lst (l'.map pr))) := by
  refine ⟨l.mergeSort fun a b => vle (pr a) (pr b), List.mergeSort_perm _ _, ?_, ?_⟩
  · have := List.pairwise_mergeSort (le := fun a b : Int × Int => vle (pr a) (pr b)) (fun a b c h1 h2 => by
      rw [vle_pr, decide_eq_true_eq] at *
      exact h1.trans h2) (fun a b => by
      rw [vle_pr, vle_pr, Bool.or_eq_true, decide_eq_true_eq, decide_eq_true_eq]
      unfold le2
      omega) l
    exact this.imp fun h => by rw [vle_pr, decide_eq_true_eq] at h; exact h
  · show (if sortable (l.map pr) then some (RV.own (.lst ((l.map pr).mergeSort vle))) else none) = _
    have h1 : sortable (l.map pr) = true := by
      unfold sortable
      rw [allAlike_map pr (fun p => vok_pr p 59) (fun _ => rfl) valike_pr, Bool.true_and, Bool.or_eq_true]
      left
      rw [List.all_map]
      exact List.all_eq_true.mpr fun _ _ => rfl
    rw [if_pos h1, ← List.map_mergeSort (f := pr) (r := fun a b => vle (pr a) (pr b)) fun a _ b _ => rfl]
theorem sorted_head {l' l : List (Int × Int)} (hp : l'.Perm l) (hs : l'.Pairwise le2) (h : l ≠ []) : ∃ m t, l' = m :: t ∧ m ∈ l ∧ ∀ x ∈ l, le2 m x := by
  cases l' with
  | nil => exact absurd hp.symm.eq_nil h
  | cons m t =>
    refine ⟨m, t, rfl, hp.mem_iff.mp List.mem_cons_self, fun x hx => ?_⟩
    rcases List.mem_cons.mp (hp.mem_iff.mpr hx) with rfl | hx
    · exact le2.refl _
    · exact (List.pairwise_cons.mp hs).1 x hx
theorem sorted_last {l' l : List (Int × Int)} (hp : l'.Perm l) (hs : l'.Pairwise le2) (h : l ≠ []) : ∃ (hn : l' ≠ []), l'.getLast hn ∈ l ∧ ∀ x ∈ l, le2 x (l'.getLast hn) := by
  have hn : l' ≠ [] := fun e => by subst e; exact h hp.symm.eq_nil
  refine ⟨hn, hp.mem_iff.mp (List.getLast_mem hn), fun x hx => ?_⟩
  have hx := hp.mem_iff.mpr hx
  have e := List.dropLast_concat_getLast hn
  rw [← e] at hx hs
  rcases List.mem_append.mp hx with hx | hx
  · exact (List.pairwise_append.mp hs).2.2 x hx _ (by simp)
  · rw [List.mem_singleton.mp hx]; exact le2.refl _
end Z
/-! the law's text, read -/
namespace Z
open PySem L2 PySem.Spec
def top (i : Nat) : Stmt := PySem.Challenge.pw_schedbench_k61_pages_and_rules.main.body.getD i (.Pass ⟨0, 0, 0, 0⟩)
def whileFuel : Nat := 1099511627776
abbrev subL : Str → Str → Option Bool := subOf ["InvalidAsks", "InvalidPlaces", "InvalidRule"]
abbrev s__law_take : Stmt := top 30
abbrev b__law_take_1 : S :=
  (sIf (tAnd (tE (eOp fIx (eV 0) (eC (.int 1)))) (tE (eOp fGt (eOp fIx (eV 0) (eC (.int 0))) (eC (.int 0))))) (sSeq (sSet 2 (eOp fMod (eB fInt (asCons (eOp fIx (eV 0) (eC (.int 0))) asNil)) (eV 1)))
    (sSeq (sSetIx 0 (eC (.int 0)) (eOp fDiv (eOp fIx (eV 0) (eC (.int 0))) (eV 1)))
    (sRet (eV 2)))) sNil)
abbrev b__law_take_2 : S :=
  (sSetIx 0 (eC (.int 3)) (eOp fAdd (eOp fIx (eV 0) (eC (.int 3))) (eC (.int 1))))
abbrev b__law_take_3 : S :=
  (sSet 3 (eOp fMod (eB fInt (asCons (eOp fPow (eOp fAdd (eOp fAdd (eOp fIx (eV 0) (eC (.int 2))) (eOp fMulX (eC (.int 15485863)) (eOp fIx (eV 0) (eC (.int 3))))) (eC (.int 179424673))) (eC (.int 5))) asNil)) (eC (.int 2147483647))))
abbrev b__law_take_4 : S :=
  (sRet (eOp fMod (eB fInt (asCons (eOp fDiv (eOp fMod (eB fInt (asCons (eOp fPow (eOp fAdd (eOp fMulX (eV 3) (eC (.int 48271))) (eOp fMulX (eC (.int 104729)) (eOp fIx (eV 0) (eC (.int 3))))) (eC (.int 3))) asNil)) (eC (.int 2147483587))) (eC (.int 64))) asNil)) (eV 1)))
def b__law_take : S :=
  (sSeq b__law_take_1
    (sSeq b__law_take_2
    (sSeq b__law_take_3
    b__law_take_4)))
def m__law_take : Fn := mkF 2 4 b__law_take
abbrev s__law_asks : Stmt := top 33
abbrev b__law_asks_1 : S :=
  (sPar [5, 4, 6] (asCons (eOp fIx (eLst (asCons (eC (.int 8)) (asCons (eC (.int 5)) (asCons (eC (.int 12)) (asCons (eC (.int 10)) (asCons (eC (.int 3)) (asCons (eC (.int 14)) (asCons (eC (.int 0)) (asCons (eC (.int 40)) asNil))))))))) (eCall m__law_take (asCons (eV 0) (asCons (eC (.int 8)) asNil)))) (asCons (eOp fAdd (eC (.int 1)) (eCall m__law_take (asCons (eV 0) (asCons (eC (.int 9)) asNil)))) (asCons (eCall m__law_take (asCons (eV 0) (asCons (eC (.int 4)) asNil))) asNil))))
abbrev b__law_asks_2 : S :=
  (sIf (tE (eOp fEq (eV 6) (eC (.int 0)))) (sRet (eB fTuple (asCons (eComp (iRange1 (eV 5)) [3] (tgN 3) tYes (eOp fMod (eB fInt (asCons (eV 3) asNil)) (eV 4))) asNil))) sNil)
abbrev b__law_asks_3 : S :=
  (sSet 1 (eComp (iRange1 (eV 5)) [3] (tgN 3) tYes (eCall m__law_take (asCons (eV 0) (asCons (eV 4) asNil)))))
abbrev b__law_asks_4 : S :=
  (sSetIx 1 (eV 3) (eIf (tE (eOp fEq (eCall m__law_take (asCons (eV 0) (asCons (eC (.int 3)) asNil))) (eC (.int 0)))) (eOp fIx (eV 1) (eOp fSub (eV 3) (eC (.int 1)))) (eOp fIx (eV 1) (eV 3))))
abbrev b__law_asks_5 : S :=
  (sIf (tE (eOp fEq (eV 6) (eC (.int 1)))) (sFor (iRange2 (eC (.int 1)) (eV 5)) (tgN 3) b__law_asks_4) sNil)
abbrev b__law_asks_6 : S :=
  (sIf (tAnd (tE (eOp fEq (eV 6) (eC (.int 2)))) (tE (eOp fGt (eV 5) (eC (.int 2))))) (sSeq (sSet 2 (eOp fDiv (eV 5) (eC (.int 2))))
    (sSet 1 (eSl fSl (eOp fAdd (eOp fAdd (eSl fSl (eV 1) none (some (eV 2))) (eSl fSl (eV 1) none (some (eV 2)))) (eV 1)) none (some (eV 5))))) sNil)
abbrev b__law_asks_7 : S :=
  (sRet (eB fTuple (asCons (eV 1) asNil)))
def b__law_asks : S :=
  (sSeq b__law_asks_1
    (sSeq b__law_asks_2
    (sSeq b__law_asks_3
    (sSeq b__law_asks_5
    (sSeq b__law_asks_6
    b__law_asks_7)))))
def m__law_asks : Fn := mkF 1 7 b__law_asks
abbrev s__law_mixed : Stmt := top 32
abbrev b__law_mixed_1 : S :=
  (sPar [3, 2] (asCons (eLRg false (eV 1)) (asCons (eLst asNil) asNil)))
abbrev b__law_mixed_2 : S :=
  (sExp (eApp 2 (ePopX 3 (eCall m__law_take (asCons (eV 0) (asCons (eB fLenX (asCons (eV 3) asNil)) asNil))))))
abbrev b__law_mixed_3 : S :=
  (sWhile whileFuel (tE (eOp fNe (eV 3) (eLst asNil))) b__law_mixed_2)
abbrev b__law_mixed_4 : S :=
  (sRet (eV 2))
def b__law_mixed : S :=
  (sSeq b__law_mixed_1
    (sSeq b__law_mixed_3
    b__law_mixed_4))
def m__law_mixed : Fn := mkF 2 4 b__law_mixed
abbrev s__law_odd_asks : Stmt := top 35
def b__law_odd_asks : S :=
  (sRet (eLst (asCons (eC .non) (asCons (eC (.int 5)) (asCons (eC (.str "01")) (asCons (eLst (asCons (eC (.int 0)) (asCons (eC (.int 1)) asNil))) (asCons (eTup (asCons (eC (.int 9)) asNil)) (asCons (eTup (asCons (eUn fNeg (eC (.int 1))) asNil)) (asCons (eTup (asCons (eC (.int 0)) (asCons (eC (.bl true)) asNil))) (asCons (eTup (asCons (eC (.int 0)) (asCons (eC .non) asNil))) (asCons (eTup (asCons (eTup (asCons (eC (.int 0)) asNil)) asNil)) (asCons eDic0 (asCons (eC (.bl true)) (asCons (eOp fMulX (eTup (asCons (eC (.int 0)) asNil)) (eC (.int 41))) (asCons (eTup (asCons (eC (.int 1)) (asCons (eC (.str "2")) asNil))) asNil)))))))))))))))
def m__law_odd_asks : Fn := mkF 0 0 b__law_odd_asks
abbrev s_is_tuple_of : Stmt := top 9
def b_is_tuple_of : S :=
  (sRet (eAnd (eUn (fIsi [.tup]) (eV 0)) (eOp fEq (eB fLenX (asCons (eV 0) asNil)) (eV 1))))
def m_is_tuple_of : Fn := mkF 2 2 b_is_tuple_of
abbrev s_is_integer : Stmt := top 7
def b_is_integer : S :=
  (sRet (eAnd (eUn (fIsi [.int]) (eV 0)) (eNot (eUn (fIsi [.bl]) (eV 0)))))
def m_is_integer : Fn := mkF 1 1 b_is_integer
abbrev s_is_between : Stmt := top 8
def b_is_between : S :=
  (sRet (eAnd (eCall m_is_integer (asCons (eV 0) asNil)) (eChain fLe fLe (eV 1) (eV 0) (eV 2))))
def m_is_between : Fn := mkF 3 3 b_is_between
abbrev s_is_row : Stmt := top 10
def b_is_row : S :=
  (sRet (eAnd (eCall m_is_tuple_of (asCons (eV 0) (asCons (eV 1) asNil))) (eB fAll (asCons (eComp (iSeq (eV 0)) [4] (tgN 4) tYes (eCall m_is_between (asCons (eV 4) (asCons (eV 2) (asCons (eV 3) asNil))))) asNil))))
def m_is_row : Fn := mkF 4 5 b_is_row
abbrev s_check_asks : Stmt := top 16
def b_check_asks : S :=
  (sIf (tOr (tNot (tE (eUn (fIsi [.tup]) (eV 0)))) (tOr (tE (eOp fGt (eB fLenX (asCons (eV 0) asNil)) (eC (.int 40)))) (tNot (tE (eCall m_is_row (asCons (eV 0) (asCons (eB fLenX (asCons (eV 0) asNil)) (asCons (eC (.int 0)) (asCons (eC (.int 8)) asNil))))))))) (sRaise "InvalidAsks" "given" (eV 0)) sNil)
def m_check_asks : Fn := mkF 1 1 b_check_asks
abbrev s_check_rule : Stmt := top 18
def b_check_rule : S :=
  (sIf (tOr (tNot (tE (eUn (fIsi [.str]) (eV 0)))) (tE (eOp fNotIn (eV 0) (eC (.tup [(.str "oldest"), (.str "unused"), (.str "last"), (.str "farthest")]))))) (sRaise "InvalidRule" "given" (eV 0)) sNil)
def m_check_rule : Fn := mkF 1 1 b_check_rule
abbrev s_last_ask : Stmt := top 19
def b_last_ask : S :=
  (sRet (eOp fIx (eComp (iRange1 (eV 1)) [3] (tgN 3) (tE (eOp fEq (eOp fIx (eV 0) (eV 3)) (eV 2))) (eV 3)) (eUn fNeg (eC (.int 1)))))
def m_last_ask : Fn := mkF 3 4 b_last_ask
abbrev s_next_ask : Stmt := top 20
abbrev b_next_ask_1 : S :=
  (sSet 3 (eComp (iRange2 (eOp fAdd (eV 1) (eC (.int 1))) (eB fLenX (asCons (eV 0) asNil))) [4] (tgN 4) (tE (eOp fEq (eOp fIx (eV 0) (eV 4)) (eV 2))) (eV 4)))
abbrev b_next_ask_2 : S :=
  (sRet (eIf (tE (eOp fNe (eV 3) (eLst asNil))) (eOp fIx (eV 3) (eC (.int 0))) (eB fLenX (asCons (eV 0) asNil))))
def b_next_ask : S :=
  (sSeq b_next_ask_1
    b_next_ask_2)
def m_next_ask : Fn := mkF 3 5 b_next_ask
abbrev s_chosen : Stmt := top 21
abbrev b_chosen_1 : S :=
  (sIf (tE (eOp fEq (eV 3) (eC (.str "oldest")))) (sRet (eOp fIx (eV 2) (eC (.int 0)))) sNil)
abbrev b_chosen_2 : S :=
  (sIf (tE (eOp fEq (eV 3) (eC (.str "farthest")))) (sRet (eOp fIx (eB fMinX (asCons (eComp (iSeq (eV 2)) [5] (tgN 5) tYes (eTup (asCons (eUn fNeg (eCall m_next_ask (asCons (eV 0) (asCons (eV 1) (asCons (eV 5) asNil))))) (asCons (eV 5) asNil)))) asNil)) (eC (.int 1)))) sNil)
abbrev b_chosen_3 : S :=
  (sSet 4 (eComp (iSeq (eV 2)) [5] (tgN 5) tYes (eTup (asCons (eCall m_last_ask (asCons (eV 0) (asCons (eV 1) (asCons (eV 5) asNil)))) (asCons (eV 5) asNil)))))
abbrev b_chosen_4 : S :=
  (sRet (eIf (tE (eOp fEq (eV 3) (eC (.str "unused")))) (eOp fIx (eB fMinX (asCons (eV 4) asNil)) (eC (.int 1))) (eOp fIx (eB fMaxX (asCons (eV 4) asNil)) (eC (.int 1)))))
def b_chosen : S :=
  (sSeq b_chosen_1
    (sSeq b_chosen_2
    (sSeq b_chosen_3
    b_chosen_4)))
def m_chosen : Fn := mkF 4 6 b_chosen
abbrev s_played : Stmt := top 22
abbrev b_played_1 : S :=
  (sPar [3, 4, 5] (asCons (eLst asNil) (asCons (eC (.int 0)) (asCons (eLst asNil) asNil))))
abbrev b_played_2 : S :=
  (sIf (tE (eOp fNotIn (eV 8) (eV 3))) (sSeq (sAug 4 iAdd (eC (.int 1)))
    (sSeq (sIf (tE (eOp fEq (eB fLenX (asCons (eV 3) asNil)) (eV 1))) (sSeq (sSet 7 (eCall m_chosen (asCons (eV 0) (asCons (eV 6) (asCons (eV 3) (asCons (eV 2) asNil))))))
    (sSeq (sExp (eApp 5 (eTup (asCons (eV 6) (asCons (eV 7) asNil)))))
    (sSet 3 (eComp (iSeq (eV 3)) [9] (tgN 9) (tE (eOp fNe (eV 9) (eV 7))) (eV 9))))) sNil)
    (sExp (eApp 3 (eV 8))))) sNil)
abbrev b_played_3 : S :=
  (sFor (iEnumX (asCons (eV 0) asNil)) (tgT [(tgN 6), (tgN 8)]) b_played_2)
abbrev b_played_4 : S :=
  (sRet (eTup (asCons (eV 4) (asCons (eV 5) asNil))))
def b_played : S :=
  (sSeq b_played_1
    (sSeq b_played_3
    b_played_4))
def m_played : Fn := mkF 3 10 b_played
abbrev s_anomaly : Stmt := top 26
abbrev b_anomaly_1 : S :=
  (sExp (eCall m_check_asks (asCons (eV 0) asNil)))
abbrev b_anomaly_2 : S :=
  (sExp (eCall m_check_rule (asCons (eV 1) asNil)))
abbrev b_anomaly_3 : S :=
  (sSet 2 (eComp (iRange2 (eC (.int 1)) (eOp fAdd (eC (.int 5)) (eC (.int 1)))) [4] (tgN 4) tYes (eOp fIx (eCall m_played (asCons (eV 0) (asCons (eV 4) (asCons (eV 1) asNil)))) (eC (.int 0)))))
abbrev b_anomaly_4 : S :=
  (sSet 3 (eComp (iRange1 (eOp fSub (eC (.int 5)) (eC (.int 1)))) [5] (tgN 5) (tE (eOp fLt (eOp fIx (eV 2) (eV 5)) (eOp fIx (eV 2) (eOp fAdd (eV 5) (eC (.int 1)))))) (eOp fAdd (eV 5) (eC (.int 1)))))
abbrev b_anomaly_5 : S :=
  (sRet (eIf (tE (eOp fNe (eV 3) (eLst asNil))) (eOp fIx (eV 3) (eC (.int 0))) (eC .non)))
def b_anomaly : S :=
  (sSeq b_anomaly_1
    (sSeq b_anomaly_2
    (sSeq b_anomaly_3
    (sSeq b_anomaly_4
    b_anomaly_5))))
def m_anomaly : Fn := mkF 2 6 b_anomaly
abbrev s_check_places : Stmt := top 17
def b_check_places : S :=
  (sIf (tNot (tE (eCall m_is_between (asCons (eV 0) (asCons (eC (.int 1)) (asCons (eC (.int 5)) asNil)))))) (sRaise "InvalidPlaces" "given" (eV 0)) sNil)
def m_check_places : Fn := mkF 1 1 b_check_places
abbrev s_check_all : Stmt := top 23
abbrev b_check_all_1 : S :=
  (sExp (eCall m_check_asks (asCons (eV 0) asNil)))
abbrev b_check_all_2 : S :=
  (sExp (eCall m_check_places (asCons (eV 1) asNil)))
abbrev b_check_all_3 : S :=
  (sExp (eCall m_check_rule (asCons (eV 2) asNil)))
def b_check_all : S :=
  (sSeq b_check_all_1
    (sSeq b_check_all_2
    b_check_all_3))
def m_check_all : Fn := mkF 3 3 b_check_all
abbrev s_misses : Stmt := top 24
abbrev b_misses_1 : S :=
  (sExp (eCall m_check_all (asCons (eV 0) (asCons (eV 1) (asCons (eV 2) asNil)))))
abbrev b_misses_2 : S :=
  (sRet (eOp fIx (eCall m_played (asCons (eV 0) (asCons (eV 1) (asCons (eV 2) asNil)))) (eC (.int 0))))
def b_misses : S :=
  (sSeq b_misses_1
    b_misses_2)
def m_misses : Fn := mkF 3 3 b_misses
abbrev s_evicted : Stmt := top 25
abbrev b_evicted_1 : S :=
  (sExp (eCall m_check_all (asCons (eV 0) (asCons (eV 1) (asCons (eV 2) asNil)))))
abbrev b_evicted_2 : S :=
  (sRet (eOp fIx (eCall m_played (asCons (eV 0) (asCons (eV 1) (asCons (eV 2) asNil)))) (eC (.int 1))))
def b_evicted : S :=
  (sSeq b_evicted_1
    b_evicted_2)
def m_evicted : Fn := mkF 3 3 b_evicted
abbrev s__law_said : Stmt := top 36
def b__law_said : S :=
  (sTry subL (sSeq (sIf (tE (eOp fLt (eV 0) (eC (.int 2)))) (sRet (eLst (asCons (eC (.str "told")) (asCons (eIf (tE (eOp fEq (eV 0) (eC (.int 0)))) (eCall m_misses (asCons (eV 1) (asCons (eV 2) (asCons (eV 3) asNil)))) (eCallK m_misses [2, 1, 0] (asCons (eV 3) (asCons (eV 2) (asCons (eV 1) asNil))))) asNil)))) sNil)
    (sSeq (sIf (tE (eOp fLt (eV 0) (eC (.int 4)))) (sRet (eLst (asCons (eC (.str "told")) (asCons (eIf (tE (eOp fEq (eV 0) (eC (.int 2)))) (eCall m_evicted (asCons (eV 1) (asCons (eV 2) (asCons (eV 3) asNil)))) (eCallK m_evicted [2, 1, 0] (asCons (eV 3) (asCons (eV 2) (asCons (eV 1) asNil))))) asNil)))) sNil)
    (sRet (eLst (asCons (eC (.str "told")) (asCons (eIf (tE (eOp fEq (eV 0) (eC (.int 4)))) (eCall m_anomaly (asCons (eV 1) (asCons (eV 3) asNil))) (eCallK m_anomaly [1, 0] (asCons (eV 3) (asCons (eV 1) asNil)))) asNil)))))) [("InvalidAsks", 4, (sRet (eLst (asCons (eC (.str "asks")) (asCons (eExn 4 "InvalidAsks" "given") asNil))))), ("InvalidPlaces", 4, (sRet (eLst (asCons (eC (.str "places")) (asCons (eExn 4 "InvalidPlaces" "given") asNil))))), ("InvalidRule", 4, (sRet (eLst (asCons (eC (.str "rule")) (asCons (eExn 4 "InvalidRule" "given") asNil)))))])
def m__law_said : Fn := mkF 4 5 b__law_said
abbrev s__law_same : Stmt := top 31
def b__law_same (self : Fn) : S :=
  (sSeq (sIf (tOr (tE (eOp fIs (eV 1) (eC .non))) (tE (eUn (fIsi [.bl]) (eV 1)))) (sRet (eIf (tE (eOp fIs (eV 1) (eC .non))) (eOp fIs (eV 0) (eC .non)) (eAnd (eUn (fIsi [.bl]) (eV 0)) (eOp fEq (eOp fIs (eV 0) (eC (.bl true))) (eOp fIs (eV 1) (eC (.bl true))))))) sNil)
    (sSeq (sIf (tE (eUn (fIsi [.int]) (eV 1))) (sRet (eAnd (eUn (fIsi [.int]) (eV 0)) (eAnd (eNot (eUn (fIsi [.bl]) (eV 0))) (eOp fEq (eOp fSub (eB fInt (asCons (eV 0) asNil)) (eV 1)) (eC (.int 0)))))) sNil)
    (sSeq (sIf (tE (eUn (fIsi [.str]) (eV 1))) (sRet (eAnd (eUn (fIsi [.str]) (eV 0)) (eAnd (eOp fEq (eB fLenX (asCons (eV 0) asNil)) (eB fLenX (asCons (eV 1) asNil))) (eOp fEq (eComp (iRange1 (eB fLenX (asCons (eV 1) asNil))) [2] (tgN 2) (tE (eOp fNe (eSl fSl (eV 0) (some (eV 2)) (some (eOp fAdd (eV 2) (eC (.int 1))))) (eOp fIx (eV 1) (eV 2)))) (eV 2)) (eLst asNil))))) sNil)
    (sSeq (sIf (tOr (tE (eOp fNe (eUn (fIsi [.lst]) (eV 0)) (eUn (fIsi [.lst]) (eV 1)))) (tE (eOp fNe (eUn (fIsi [.tup]) (eV 0)) (eUn (fIsi [.tup]) (eV 1))))) (sRet (eC (.bl false))) sNil)
    (sRet (eAnd (eOp fEq (eB fLenX (asCons (eV 0) asNil)) (eB fLenX (asCons (eV 1) asNil))) (eOp fEq (eComp (iRange1 (eB fLenX (asCons (eV 1) asNil))) [2] (tgN 2) (tNot (tE (eCall self (asCons (eOp fIx (eV 0) (eV 2)) (asCons (eOp fIx (eV 1) (eV 2)) asNil))))) (eV 2)) (eLst asNil))))))))
def m__law_same : Nat → Fn
  | 0 => noF
  | n + 1 => mkF 2 3 (b__law_same (m__law_same n))
abbrev s__law_refused : Stmt := top 37
abbrev b__law_refused_1 : S :=
  (sSeq (sSet 2 (eComp (iRange1 (eC (.int 3))) [4] (tgN 4) tYes (eCall m__law_said (asCons (eOp fAdd (eOp fMulX (eC (.int 2)) (eV 4)) (eCall m__law_take (asCons (eV 0) (asCons (eC (.int 2)) asNil)))) (asCons (eV 3) (asCons (eOp fIx (eLst (asCons (eC (.int 2)) (asCons (eC .non) asNil))) (eCall m__law_take (asCons (eV 0) (asCons (eC (.int 2)) asNil)))) (asCons (eC .non) asNil)))))))
    (sIf (tNot (tE (eCall (m__law_same 8) (asCons (eV 2) (asCons (eOp fMulX (eLst (asCons (eLst (asCons (eC (.str "asks")) (asCons (eV 3) asNil))) asNil)) (eC (.int 3))) asNil))))) (sRet (eC (.bl false))) sNil))
abbrev b__law_refused_2 : S :=
  (sFor (iSeq (eCall m__law_odd_asks asNil)) (tgN 3) b__law_refused_1)
abbrev b__law_refused_3 : S :=
  (sSeq (sSet 2 (eLst (asCons (eCall m__law_said (asCons (eCall m__law_take (asCons (eV 0) (asCons (eC (.int 2)) asNil))) (asCons (eV 1) (asCons (eV 3) (asCons (eOp fIx (eLst (asCons (eC (.str "last")) (asCons (eC .non) asNil))) (eCall m__law_take (asCons (eV 0) (asCons (eC (.int 2)) asNil)))) asNil))))) (asCons (eCall m__law_said (asCons (eOp fAdd (eC (.int 2)) (eCall m__law_take (asCons (eV 0) (asCons (eC (.int 2)) asNil)))) (asCons (eV 1) (asCons (eV 3) (asCons (eC .non) asNil))))) asNil))))
    (sIf (tNot (tE (eCall (m__law_same 8) (asCons (eV 2) (asCons (eOp fMulX (eLst (asCons (eLst (asCons (eC (.str "places")) (asCons (eV 3) asNil))) asNil)) (eC (.int 2))) asNil))))) (sRet (eC (.bl false))) sNil))
abbrev b__law_refused_4 : S :=
  (sFor (iSeq (eLst (asCons (eC (.int 0)) (asCons (eC (.int 6)) (asCons (eUn fNeg (eC (.int 1))) (asCons (eC (.bl true)) (asCons (eC .non) (asCons (eC (.str "2")) (asCons (eTup (asCons (eC (.int 2)) asNil)) (asCons (eOp fPow (eC (.int 10)) (eC (.int 29))) asNil)))))))))) (tgN 3) b__law_refused_3)
abbrev b__law_refused_5 : S :=
  (sSeq (sSet 2 (eComp (iRange1 (eC (.int 3))) [4] (tgN 4) tYes (eCall m__law_said (asCons (eOp fAdd (eOp fMulX (eC (.int 2)) (eV 4)) (eCall m__law_take (asCons (eV 0) (asCons (eC (.int 2)) asNil)))) (asCons (eV 1) (asCons (eC (.int 2)) (asCons (eV 3) asNil)))))))
    (sIf (tNot (tE (eCall (m__law_same 8) (asCons (eV 2) (asCons (eOp fMulX (eLst (asCons (eLst (asCons (eC (.str "rule")) (asCons (eV 3) asNil))) asNil)) (eC (.int 3))) asNil))))) (sRet (eC (.bl false))) sNil))
abbrev b__law_refused_6 : S :=
  (sFor (iSeq (eLst (asCons (eC .non) (asCons (eC (.int 5)) (asCons (eC (.str "Last")) (asCons (eC (.str "")) (asCons (eC (.str "newest")) (asCons (eLst (asCons (eC (.str "last")) asNil)) (asCons (eC (.bl true)) (asCons eDic0 (asCons (eTup (asCons (eC (.str "last")) asNil)) asNil))))))))))) (tgN 3) b__law_refused_5)
abbrev b__law_refused_7 : S :=
  (sRet (eC (.bl true)))
def b__law_refused : S :=
  (sSeq b__law_refused_2
    (sSeq b__law_refused_4
    (sSeq b__law_refused_6
    b__law_refused_7)))
def m__law_refused : Fn := mkF 2 5 b__law_refused
abbrev s__law_cached : Stmt := top 34
abbrev b__law_cached_1 : S :=
  (sPar [3, 7, 4] (asCons (eLst asNil) (asCons (eC (.int 0)) (asCons (eLst asNil) asNil))))
abbrev b__law_cached_2 : S :=
  (sSeq (sIf (tE (eOp fNotIn (eOp fIx (eV 0) (eV 5)) (eCompO 3 [10] (tgN 10) tYes (eOp fIx (eV 10) (eC (.int 0)))))) (sSeq (sSet 7 (eOp fAdd (eV 7) (eC (.int 1))))
    (sSeq (sIf (tE (eOp fEq (eB fLenX (asCons (eV 3) asNil)) (eV 1))) (sSeq (sSet 9 (eB fSortD (asCons (eCompO 3 [10] (tgN 10) tYes (eTup (asCons (eOp fIx (eV 10) (eC (.int 1))) (asCons (eOp fIx (eV 10) (eC (.int 0))) asNil)))) asNil)))
    (sSeq (sIf (tE (eOp fNe (eV 2) (eC (.str "oldest")))) (sSet 9 (eB fSortD (asCons (eCompO 3 [10] (tgN 10) tYes (eTup (asCons (eOp fIx (eV 10) (eC (.int 2))) (asCons (eOp fIx (eV 10) (eC (.int 0))) asNil)))) asNil))) sNil)
    (sSeq (sIf (tE (eOp fEq (eV 2) (eC (.str "farthest")))) (sSeq (sSet 6 (eComp (iSeq (eV 3)) [10] (tgN 10) tYes (eComp (iRange2 (eOp fAdd (eV 5) (eC (.int 1))) (eB fLenX (asCons (eV 0) asNil))) [11] (tgN 11) (tE (eOp fEq (eOp fIx (eV 0) (eV 11)) (eOp fIx (eV 10) (eC (.int 0))))) (eV 11))))
    (sSet 9 (eB fSortD (asCons (eComp (iZipX (asCons (eV 3) (asCons (eV 6) asNil))) [10, 12] (tgT [(tgN 10), (tgN 12)]) tYes (eTup (asCons (eIf (tE (eOp fEq (eV 12) (eLst asNil))) (eTup (asCons (eC (.int 0)) (asCons (eOp fIx (eV 10) (eC (.int 0))) asNil))) (eTup (asCons (eC (.int 1)) (asCons (eOp fSub (eC (.int 0)) (eOp fIx (eV 12) (eC (.int 0)))) asNil)))) (asCons (eOp fIx (eV 10) (eC (.int 0))) asNil)))) asNil)))) sNil)
    (sSeq (sSet 8 (eIf (tE (eOp fEq (eV 2) (eC (.str "last")))) (eOp fIx (eOp fIx (eV 9) (eUn fNeg (eC (.int 1)))) (eC (.int 1))) (eOp fIx (eOp fIx (eV 9) (eC (.int 0))) (eC (.int 1)))))
    (sSeq (sExp (eApp 4 (eTup (asCons (eV 5) (asCons (eV 8) asNil)))))
    (sSet 3 (eComp (iSeq (eV 3)) [10] (tgN 10) (tE (eOp fNe (eOp fIx (eV 10) (eC (.int 0))) (eV 8))) (eV 10)))))))) sNil)
    (sExp (eApp 3 (eLst (asCons (eOp fIx (eV 0) (eV 5)) (asCons (eV 5) (asCons (eV 5) asNil)))))))) sNil)
    (sSet 3 (eComp (iSeq (eV 3)) [10] (tgN 10) tYes (eLst (asCons (eOp fIx (eV 10) (eC (.int 0))) (asCons (eOp fIx (eV 10) (eC (.int 1))) (asCons (eIf (tE (eOp fEq (eOp fIx (eV 10) (eC (.int 0))) (eOp fIx (eV 0) (eV 5)))) (eV 5) (eOp fIx (eV 10) (eC (.int 2)))) asNil)))))))
abbrev b__law_cached_3 : S :=
  (sFor (iRange1 (eB fLenX (asCons (eV 0) asNil))) (tgN 5) b__law_cached_2)
abbrev b__law_cached_4 : S :=
  (sRet (eLst (asCons (eV 7) (asCons (eV 4) asNil))))
def b__law_cached : S :=
  (sSeq b__law_cached_1
    (sSeq b__law_cached_3
    b__law_cached_4))
def m__law_cached : Fn := mkF 3 13 b__law_cached
abbrev s__law_right : Stmt := top 38
abbrev b__law_right_1 : S :=
  (sSet 1 (eCall m__law_asks (asCons (eV 0) asNil)))
abbrev b__law_right_2 : S :=
  (sFlat (sSeq (sSet 8 (eCall m__law_said (asCons (eV 9) (asCons (eV 1) (asCons (eV 6) (asCons (eV 7) asNil))))))
    (sSeq (sIf (tNot (tE (eCall (m__law_same 8) (asCons (eV 8) (asCons (eLst (asCons (eC (.str "told")) (asCons (eOp fIx (eCall m__law_cached (asCons (eV 1) (asCons (eV 6) (asCons (eV 7) asNil)))) (eC (.int 1))) asNil))) asNil))))) (sRet (eC (.bl false))) sNil)
    (sMut 8 (eOp fIx (eV 8) (eC (.int 1))) (eTup asNil)))))
abbrev b__law_right_3 : S :=
  (sSeq (sSet 3 (eComp (iRange2 (eC (.int 1)) (eC (.int 6))) [6] (tgN 6) tYes (eOp fIx (eCall m__law_cached (asCons (eV 1) (asCons (eV 6) (asCons (eV 7) asNil)))) (eC (.int 0)))))
    (sSeq (sSet 6 (eOp fAdd (eC (.int 1)) (eCall m__law_take (asCons (eV 0) (asCons (eC (.int 5)) asNil)))))
    (sSeq (sIf (tNot (tE (eCall (m__law_same 8) (asCons (eLst (asCons (eCall m__law_said (asCons (eC (.int 0)) (asCons (eV 1) (asCons (eV 6) (asCons (eV 7) asNil))))) (asCons (eCall m__law_said (asCons (eC (.int 1)) (asCons (eV 1) (asCons (eV 6) (asCons (eV 7) asNil))))) asNil))) (asCons (eOp fMulX (eLst (asCons (eLst (asCons (eC (.str "told")) (asCons (eOp fIx (eV 3) (eOp fSub (eV 6) (eC (.int 1)))) asNil))) asNil)) (eC (.int 2))) asNil))))) (sRet (eC (.bl false))) sNil)
    (sSeq (sFor (iSeq (eLst (asCons (eC (.int 2)) (asCons (eC (.int 3)) asNil)))) (tgN 9) b__law_right_2)
    (sSeq (sSet 10 (eComp (iRange2 (eC (.int 1)) (eC (.int 5))) [11] (tgN 11) (tE (eOp fLt (eOp fIx (eV 3) (eOp fSub (eV 11) (eC (.int 1)))) (eOp fIx (eV 3) (eV 11)))) (eV 11)))
    (sSeq (sSet 4 (eLst (asCons (eC (.str "told")) (asCons (eIf (tE (eOp fNe (eV 10) (eLst asNil))) (eOp fIx (eV 10) (eC (.int 0))) (eC .non)) asNil))))
    (sIf (tNot (tE (eCall (m__law_same 8) (asCons (eLst (asCons (eCall m__law_said (asCons (eC (.int 4)) (asCons (eV 1) (asCons (eC .non) (asCons (eV 7) asNil))))) (asCons (eCall m__law_said (asCons (eC (.int 5)) (asCons (eV 1) (asCons (eC .non) (asCons (eV 7) asNil))))) asNil))) (asCons (eOp fMulX (eLst (asCons (eV 4) asNil)) (eC (.int 2))) asNil))))) (sRet (eC (.bl false))) sNil)))))))
abbrev b__law_right_4 : S :=
  (sFor (iSeq (eLst (asCons (eC (.str "oldest")) (asCons (eC (.str "unused")) (asCons (eC (.str "last")) (asCons (eC (.str "farthest")) asNil)))))) (tgN 7) b__law_right_3)
abbrev b__law_right_5 : S :=
  (sSet 2 (eTup (asCons (eC (.int 0)) (asCons (eC (.int 1)) (asCons (eC (.int 2)) (asCons (eC (.int 3)) (asCons (eC (.int 0)) (asCons (eC (.int 1)) (asCons (eC (.int 4)) (asCons (eC (.int 0)) (asCons (eC (.int 1)) (asCons (eC (.int 2)) (asCons (eC (.int 3)) (asCons (eC (.int 4)) asNil))))))))))))))
abbrev b__law_right_6 : S :=
  (sSet 5 (eCall m__law_mixed (asCons (eV 0) (asCons (eC (.int 9)) asNil))))
abbrev b__law_right_7 : S :=
  (sIf (tNot (tE (eCall (m__law_same 8) (asCons (eCall m_anomaly (asCons (eB fTuple (asCons (eComp (iSeq (eV 2)) [12] (tgN 12) tYes (eOp fIx (eV 5) (eV 12))) asNil)) (asCons (eC (.str "oldest")) asNil))) (asCons (eC (.int 3)) asNil))))) (sRet (eC (.bl false))) sNil)
abbrev b__law_right_8 : S :=
  (sRet (eCall m__law_refused (asCons (eV 0) (asCons (eV 1) asNil))))
def b__law_right : S :=
  (sSeq b__law_right_1
    (sSeq b__law_right_4
    (sSeq b__law_right_5
    (sSeq b__law_right_6
    (sSeq b__law_right_7
    b__law_right_8)))))
def m__law_right : Fn := mkF 1 13 b__law_right
abbrev s__law_box : Stmt := top 29
def b__law_box : S :=
  (sRet (eLst (asCons (eB fAbs (asCons (eV 0) asNil)) (asCons (eOp fGe (eB fAbs (asCons (eV 0) asNil)) (eOp fPow (eC (.int 10)) (eC (.int 18)))) (asCons (eOp fMod (eB fInt (asCons (eB fAbs (asCons (eV 0) asNil)) asNil)) (eC (.int 2147483629))) (asCons (eC (.int 0)) asNil))))))
def m__law_box : Fn := mkF 1 1 b__law_box
abbrev s__law_cell : Stmt := top 28
def b__law_cell : S :=
  (sRet (eIf (tE (eOp fLt (eV 1) (eB fLenX (asCons (eV 0) asNil)))) (eOp fIx (eV 0) (eV 1)) (eOp fAdd (eOp fMulX (eC (.int 6007)) (eV 1)) (eOp fMod (eB fInt (asCons (eB fSumX (asCons (eSl fSl (eV 0) none (some (eC (.int 1)))) asNil)) asNil)) (eC (.int 1000033))))))
def m__law_cell : Fn := mkF 2 2 b__law_cell
abbrev s_law : Stmt := top 39
abbrev b_law_1 : S :=
  (sIf (tNot (tE (eCall m__law_right (asCons (eCall m__law_box (asCons (eCall m__law_cell (asCons (eV 0) (asCons (eV 1) asNil))) asNil)) asNil)))) (sRet (eC (.bl false))) sNil)
abbrev b_law_2 : S :=
  (sFor (iRange1 (eB fMax2 (asCons (eC (.int 2)) (asCons (eB fMin2 (asCons (eC (.int 5)) (asCons (eB fLenX (asCons (eV 0) asNil)) asNil))) asNil)))) (tgN 1) b_law_1)
abbrev b_law_3 : S :=
  (sRet (eC (.bl true)))
def b_law : S :=
  (sSeq b_law_2
    b_law_3)
def m_law : Fn := mkF 1 2 b_law
/-- what the top has written -/
structure Tx0 (K : PySem.W.Frag) (mg : Str → Option Value) : Prop where
  n_int : mg "int" = none
  d__law_take : Dk K mg "_law_take" s__law_take ["box", "many"]
  n_range : mg "range" = none
  n_tuple : mg "tuple" = none
  d__law_asks : Dk K mg "_law_asks" s__law_asks ["box"]
  n_list : mg "list" = none
  n_len : mg "len" = none
  d__law_mixed : Dk K mg "_law_mixed" s__law_mixed ["box", "many"]
  d__law_odd_asks : Dk K mg "_law_odd_asks" s__law_odd_asks []
  n_isinstance : mg "isinstance" = none
  d_is_tuple_of : Dk K mg "is_tuple_of" s_is_tuple_of ["value", "many"]
  n_bool : mg "bool" = none
  d_is_integer : Dk K mg "is_integer" s_is_integer ["value"]
  d_is_between : Dk K mg "is_between" s_is_between ["value", "least", "most"]
  n_all : mg "all" = none
  d_is_row : Dk K mg "is_row" s_is_row ["value", "many", "least", "most"]
  g_MOST_PAGE : ∃ t, mg "MOST_PAGE" = some (.int 8 t)
  g_MOST_ASKS : ∃ t, mg "MOST_ASKS" = some (.int 40 t)
  d_check_asks : Dk K mg "check_asks" s_check_asks ["asks"]
  g_RULES : TupK K mg "RULES" [(.str "oldest"), (.str "unused"), (.str "last"), (.str "farthest")]
  n_str : mg "str" = none
  d_check_rule : Dk K mg "check_rule" s_check_rule ["rule"]
  d_last_ask : Dk K mg "last_ask" s_last_ask ["asks", "index", "page"]
  d_next_ask : Dk K mg "next_ask" s_next_ask ["asks", "index", "page"]
  n_min : mg "min" = none
  n_max : mg "max" = none
  d_chosen : Dk K mg "chosen" s_chosen ["asks", "index", "cache", "rule"]
  n_enumerate : mg "enumerate" = none
  d_played : Dk K mg "played" s_played ["asks", "places", "rule"]
  g_MOST_PLACES : ∃ t, mg "MOST_PLACES" = some (.int 5 t)
  d_anomaly : Dk K mg "anomaly" s_anomaly ["asks", "rule"]
  d_check_places : Dk K mg "check_places" s_check_places ["places"]
  d_check_all : Dk K mg "check_all" s_check_all ["asks", "places", "rule"]
  d_misses : Dk K mg "misses" s_misses ["asks", "places", "rule"]
  d_evicted : Dk K mg "evicted" s_evicted ["asks", "places", "rule"]
  d__law_said : Dk K mg "_law_said" s__law_said ["way", "asks", "places", "rule"]
  d__law_same : Dk K mg "_law_same" s__law_same ["told", "due"]
  d__law_refused : Dk K mg "_law_refused" s__law_refused ["box", "asks"]
  n_sorted : mg "sorted" = none
  n_zip : mg "zip" = none
  d__law_cached : Dk K mg "_law_cached" s__law_cached ["asks", "places", "rule"]
  d__law_right : Dk K mg "_law_right" s__law_right ["box"]
  n_abs : mg "abs" = none
  d__law_box : Dk K mg "_law_box" s__law_box ["great"]
  n_sum : mg "sum" = none
  d__law_cell : Dk K mg "_law_cell" s__law_cell ["script", "k"]
  d_law : Dk K mg "law" s_law ["script"]
  sib : Sib K mg ["InvalidAsks", "InvalidPlaces", "InvalidRule"]
structure Tx (K : PySem.W.Frag) (mg : Str → Option Value) : Type extends Tx0 K mg where
  C_InvalidAsks : Addr
  I_InvalidAsks : Addr
  x_InvalidAsks : PySem.Zx_given.LowTxt "InvalidAsks" "InvalidAsks.__init__" K mg C_InvalidAsks I_InvalidAsks
  C_InvalidRule : Addr
  I_InvalidRule : Addr
  x_InvalidRule : PySem.Zx_given.LowTxt "InvalidRule" "InvalidRule.__init__" K mg C_InvalidRule I_InvalidRule
  C_InvalidPlaces : Addr
  I_InvalidPlaces : Addr
  x_InvalidPlaces : PySem.Zx_given.LowTxt "InvalidPlaces" "InvalidPlaces.__init__" K mg C_InvalidPlaces I_InvalidPlaces
section
variable {P : Program} {w : World} {K : PySem.W.Frag} {mg : Str → Option Value} {base : Heap}
theorem ok__law_take (T : Tx K mg) : Cl P w K mg base 3 "_law_take" s__law_take ["box", "many"] m__law_take :=
  have SC : FnScope ["box", "many", "digit", "mixed"] ["box", "many"] (defScope s__law_take) := ⟨rfl, rfl, rfl, by decide +kernel, rfl, by decide +kernel, by decide +kernel⟩
  cl_body (b := b__law_take) (k := 2) T.d__law_take SC fun f cdv A outer s H E hr =>
    (sb_cons (ss_if (sw_and (st_e (se_ix (se_var 0) se_int)) (sw_and1 (st_cmp os_gt (se_ix (se_var 0) se_int) se_int (hbl := bl_gt)))).st (sb_cons (ss_set 2 SC.nd (se_op os_mod (se_callTy cs_int T.n_int (sa_cons (se_ix (se_var 0) se_int) sa_nil)) (se_var 1)))
    (sb_cons (ss_setIx 0 (se_op os_div (se_ix (se_var 0) se_int) (se_var 1)) se_int)
    (sb_one (ss_ret (se_var 2))))) sb_nil)
    (sb_cons (ss_setIx 0 (se_op os_add (se_ix (se_var 0) se_int) se_int) se_int)
    (sb_cons (ss_set 3 SC.nd (se_op os_mod (se_callTy cs_int T.n_int (sa_cons (se_op os_pow (se_op os_add (se_op os_add (se_ix (se_var 0) se_int) (se_op os_mulX se_int (se_ix (se_var 0) se_int))) se_int) se_int) sa_nil)) se_int))
    (sb_one (ss_ret (se_op os_mod (se_callTy cs_int T.n_int (sa_cons (se_op os_div (se_op os_mod (se_callTy cs_int T.n_int (sa_cons (se_op os_pow (se_op os_add (se_op os_mulX (se_var 3) se_int) (se_op os_mulX se_int (se_ix (se_var 0) se_int))) se_int) sa_nil)) se_int) se_int) sa_nil)) (se_var 1)))))))
theorem ok__law_asks (T : Tx K mg) : Cl P w K mg base 4 "_law_asks" s__law_asks ["box"] m__law_asks :=
  have SC : FnScope ["box", "found", "half", "k", "kinds", "many", "way"] ["box"] (defScope s__law_asks) := ⟨rfl, rfl, rfl, by decide +kernel, rfl, by decide +kernel, by decide +kernel⟩
  cl_body (b := b__law_asks) (k := 3) T.d__law_asks SC fun f cdv A outer s H E hr =>
    (sb_cons (ss_parT (is := [5, 4, 6]) rfl (sa_cons (se_ix (se_lst (sa_cons se_int (sa_cons se_int (sa_cons se_int (sa_cons se_int (sa_cons se_int (sa_cons se_int (sa_cons se_int (sa_cons se_int sa_nil))))))))) (se_callC (ok__law_take T) (hr.mono (by decide)) (takes_of rfl rfl rfl rfl) (sa_cons (se_var 0) (sa_cons se_int sa_nil)))) (sa_cons (se_op os_add se_int (se_callC (ok__law_take T) (hr.mono (by decide)) (takes_of rfl rfl rfl rfl) (sa_cons (se_var 0) (sa_cons se_int sa_nil)))) (sa_cons (se_callC (ok__law_take T) (hr.mono (by decide)) (takes_of rfl rfl rfl rfl) (sa_cons (se_var 0) (sa_cons se_int sa_nil))) sa_nil))) (pgn_cons 5 SC.nd (pgn_cons 4 SC.nd (pgn_cons 6 SC.nd pgn_nil))))
    (sb_cons (ss_if (st_cmp (os_eq hr.units) (se_var 6) se_int (hbl := bl_eq)) (sb_one (ss_ret (se_callTy cs_tuple T.n_tuple (sa_cons (se_comp [("k", 3)] rfl SC.nd (si_range1 T.n_range (se_var 5)) (blk_ok (N := ["box", "found", "half", "k", "kinds", "many", "way"]) (sc := defScope s__law_asks) (by decide +kernel)) (fun _ _ _ _ _ => (sgc_name 3 SC.nd)) (fun _ _ _ _ _ => sts_nil) (fun _ _ _ _ _ => (se_op os_mod (se_callTy cs_int T.n_int (sa_cons (se_var 3) sa_nil)) (se_var 4)))) sa_nil)))) sb_nil)
    (sb_cons (ss_setComp 1 [("k", 3)] rfl SC.nd (si_range1 T.n_range (se_var 5)) (blk_ok (N := ["box", "found", "half", "k", "kinds", "many", "way"]) (sc := defScope s__law_asks) (by decide +kernel)) (fun _ _ _ _ _ => (sgc_name 3 SC.nd)) (fun _ _ _ _ _ => sts_nil) (fun _ _ _ _ _ => (se_callC (ok__law_take T) (hr.mono (by decide)) takes0 (sa_cons (se_var 0) (sa_cons (se_var 4) sa_nil)))) (sw_true rfl rfl rfl (by decide +kernel)))
    (sb_cons (ss_if (st_cmp (os_eq hr.units) (se_var 6) se_int (hbl := bl_eq)) (sb_one (ss_for (passes_of rfl) rfl (si_range2 T.n_range se_int (se_var 5)) (sg_name 3 SC.nd) (sb_one (ss_setIx 1 (se_if (st_cmp (os_eq hr.units) (se_callC (ok__law_take T) (hr.mono (by decide)) (takes_of rfl rfl rfl rfl) (sa_cons (se_var 0) (sa_cons se_int sa_nil))) se_int (hbl := bl_eq)) (se_ix (se_var 1) (se_op os_sub (se_var 3) se_int)) (se_ix (se_var 1) (se_var 3))) (se_var 3))))) sb_nil)
    (sb_cons (ss_if (sw_and (st_cmp (os_eq hr.units) (se_var 6) se_int (hbl := bl_eq)) (sw_and1 (st_cmp os_gt (se_var 5) se_int (hbl := bl_gt)))).st (sb_cons (ss_set 2 SC.nd (se_op os_div (se_var 5) se_int))
    (sb_one (ss_set 1 SC.nd (se_slice (se_op os_add (se_op os_add (se_slice (se_var 1) so_none (so_some (se_var 2))) (se_slice (se_var 1) so_none (so_some (se_var 2)))) (se_var 1)) so_none (so_some (se_var 5)))))) sb_nil)
    (sb_one (ss_ret (se_callTy cs_tuple T.n_tuple (sa_cons (se_var 1) sa_nil)))))))))
theorem ok__law_mixed (T : Tx K mg) : Cl P w K mg base 4 "_law_mixed" s__law_mixed ["box", "many"] m__law_mixed :=
  have SC : FnScope ["box", "many", "found", "left"] ["box", "many"] (defScope s__law_mixed) := ⟨rfl, rfl, rfl, by decide +kernel, rfl, by decide +kernel, by decide +kernel⟩
  cl_body (b := b__law_mixed) (k := 3) T.d__law_mixed SC fun f cdv A outer s H E hr =>
    (sb_cons (ss_par2' 3 2 rfl SC.nd (sa_cons (se_listRg rfl T.n_range T.n_list (se_var 1)) (sa_cons (se_lst sa_nil) sa_nil)))
    (sb_cons (ss_while (passes_of rfl) (st_cmp (os_ne hr.units) (se_var 3) (se_lst sa_nil) (hbl := bl_ne)) (sb_one (ss_exp (se_app 2 (se_popX 3 (se_callC (ok__law_take T) (hr.mono (by decide)) (takes_of rfl rfl rfl rfl) (sa_cons (se_var 0) (sa_cons (se_callB cs_lenX T.n_len (sa_cons (se_var 3) sa_nil)) sa_nil))))))))
    (sb_one (ss_ret (se_var 2)))))
theorem ok__law_odd_asks (T : Tx K mg) : Cl P w K mg base 3 "_law_odd_asks" s__law_odd_asks [] m__law_odd_asks :=
  have SC : FnScope [] [] (defScope s__law_odd_asks) := ⟨rfl, rfl, rfl, by decide +kernel, rfl, by decide +kernel, by decide +kernel⟩
  cl_body (b := b__law_odd_asks) (k := 2) T.d__law_odd_asks SC fun f cdv A outer s H E hr =>
    (sb_one (ss_ret (se_lst (sa_cons se_non (sa_cons se_int (sa_cons se_str (sa_cons (se_lst (sa_cons se_int (sa_cons se_int sa_nil))) (sa_cons (se_tup (sa_cons se_int sa_nil)) (sa_cons (se_tup (sa_cons (se_un us_neg se_int) sa_nil)) (sa_cons (se_tup (sa_cons se_int (sa_cons se_bl sa_nil))) (sa_cons (se_tup (sa_cons se_int (sa_cons se_non sa_nil))) (sa_cons (se_tup (sa_cons (se_tup (sa_cons se_int sa_nil)) sa_nil)) (sa_cons se_dic0 (sa_cons se_bl (sa_cons (se_op os_mulX (se_tup (sa_cons se_int sa_nil)) se_int) (sa_cons (se_tup (sa_cons se_int (sa_cons se_str sa_nil))) sa_nil))))))))))))))))
theorem ok_is_tuple_of (T : Tx K mg) : Cl P w K mg base 3 "is_tuple_of" s_is_tuple_of ["value", "many"] m_is_tuple_of :=
  have SC : FnScope ["value", "many"] ["value", "many"] (defScope s_is_tuple_of) := ⟨rfl, rfl, rfl, by decide +kernel, rfl, by decide +kernel, by decide +kernel⟩
  cl_body (b := b_is_tuple_of) (k := 2) T.d_is_tuple_of SC fun f cdv A outer s H E hr =>
    (sb_one (ss_ret (se_and (se_isi (T := .tup) T.n_isinstance T.n_tuple (se_var 0)) (se_one (se_cmp (os_eq hr.units) (se_callB cs_lenX T.n_len (sa_cons (se_var 0) sa_nil)) (se_var 1))))))
theorem ok_is_integer (T : Tx K mg) : Cl P w K mg base 3 "is_integer" s_is_integer ["value"] m_is_integer :=
  have SC : FnScope ["value"] ["value"] (defScope s_is_integer) := ⟨rfl, rfl, rfl, by decide +kernel, rfl, by decide +kernel, by decide +kernel⟩
  cl_body (b := b_is_integer) (k := 2) T.d_is_integer SC fun f cdv A outer s H E hr =>
    (sb_one (ss_ret (se_and (se_isi (T := .int) T.n_isinstance T.n_int (se_var 0)) (se_one (se_not (se_isi (T := .bl) T.n_isinstance T.n_bool (se_var 0)))))))
theorem ok_is_between (T : Tx K mg) : Cl P w K mg base 4 "is_between" s_is_between ["value", "least", "most"] m_is_between :=
  have SC : FnScope ["value", "least", "most"] ["value", "least", "most"] (defScope s_is_between) := ⟨rfl, rfl, rfl, by decide +kernel, rfl, by decide +kernel, by decide +kernel⟩
  cl_body (b := b_is_between) (k := 3) T.d_is_between SC fun f cdv A outer s H E hr =>
    (sb_one (ss_ret (se_and (se_callC (ok_is_integer T) (hr.mono (by decide)) (takes_of rfl rfl rfl rfl) (sa_cons (se_var 0) sa_nil)) (se_one (se_chain os_le os_le bl_le fun _ _ h h2 => pe_chain h h2 (se_var 1) (se_var 0) (se_var 2))))))
theorem ok_is_row (T : Tx K mg) : Cl P w K mg base 5 "is_row" s_is_row ["value", "many", "least", "most"] m_is_row :=
  have SC : FnScope ["value", "many", "least", "most", "item"] ["value", "many", "least", "most"] (defScope s_is_row) := ⟨rfl, rfl, rfl, by decide +kernel, rfl, by decide +kernel, by decide +kernel⟩
  cl_body (b := b_is_row) (k := 4) T.d_is_row SC fun f cdv A outer s H E hr =>
    (sb_one (ss_ret (se_and (se_callC (ok_is_tuple_of T) (hr.mono (by decide)) (takes_of rfl rfl rfl rfl) (sa_cons (se_var 0) (sa_cons (se_var 1) sa_nil))) (se_one (se_callB (cs_all rfl) T.n_all (sa_cons (se_comp [("item", 4)] rfl SC.nd (si_seq (se_var 0)) (blk_ok (N := ["value", "many", "least", "most", "item"]) (sc := defScope s_is_row) (by decide +kernel)) (fun _ _ _ _ _ => (sgc_name 4 SC.nd)) (fun _ _ _ _ _ => sts_nil) (fun _ _ _ _ _ => (se_callC (ok_is_between T) (hr.mono (by decide)) takes0 (sa_cons (se_var 4) (sa_cons (se_var 2) (sa_cons (se_var 3) sa_nil)))))) sa_nil))))))
theorem ok_check_asks (T : Tx K mg) : Cl P w K mg base 6 "check_asks" s_check_asks ["asks"] m_check_asks :=
  have SC : FnScope ["asks"] ["asks"] (defScope s_check_asks) := ⟨rfl, rfl, rfl, by decide +kernel, rfl, by decide +kernel, by decide +kernel⟩
  cl_body (b := b_check_asks) (k := 5) T.d_check_asks SC fun f cdv A outer s H E hr =>
    (sb_one (ss_if (sw_or (st_not (st_e (se_isi (T := .tup) T.n_isinstance T.n_tuple (se_var 0)))) (sw_or (st_cmp os_gt (se_callB cs_lenX T.n_len (sa_cons (se_var 0) sa_nil)) (se_globI T.g_MOST_ASKS) (hbl := bl_gt)) (sw_or1 (st_not (st_e (se_callC (ok_is_row T) (hr.mono (by decide)) (takes_of rfl rfl rfl rfl) (sa_cons (se_var 0) (sa_cons (se_callB cs_lenX T.n_len (sa_cons (se_var 0) sa_nil)) (sa_cons se_int (sa_cons (se_globI T.g_MOST_PAGE) sa_nil)))))))))).st (sb_one (ss_raise_given rfl T.x_InvalidAsks hr (takes_of rfl rfl rfl rfl) (se_var 0))) sb_nil))
theorem ok_check_rule (T : Tx K mg) : Cl P w K mg base 3 "check_rule" s_check_rule ["rule"] m_check_rule :=
  have SC : FnScope ["rule"] ["rule"] (defScope s_check_rule) := ⟨rfl, rfl, rfl, by decide +kernel, rfl, by decide +kernel, by decide +kernel⟩
  cl_body (b := b_check_rule) (k := 2) T.d_check_rule SC fun f cdv A outer s H E hr =>
    (sb_one (ss_if (sw_or (st_not (st_e (se_isi (T := .str) T.n_isinstance T.n_str (se_var 0)))) (sw_or1 (st_cmp os_notIn (se_var 0) (se_globT T.g_RULES) (hbl := bl_notIn)))).st (sb_one (ss_raise_given rfl T.x_InvalidRule hr (takes_of rfl rfl rfl rfl) (se_var 0))) sb_nil))
theorem ok_last_ask (T : Tx K mg) : Cl P w K mg base 3 "last_ask" s_last_ask ["asks", "index", "page"] m_last_ask :=
  have SC : FnScope ["asks", "index", "page", "place"] ["asks", "index", "page"] (defScope s_last_ask) := ⟨rfl, rfl, rfl, by decide +kernel, rfl, by decide +kernel, by decide +kernel⟩
  cl_body (b := b_last_ask) (k := 2) T.d_last_ask SC fun f cdv A outer s H E hr =>
    (sb_one (ss_ret (se_ix (se_comp [("place", 3)] rfl SC.nd (si_range1 T.n_range (se_var 1)) (blk_ok (N := ["asks", "index", "page", "place"]) (sc := defScope s_last_ask) (by decide +kernel)) (fun _ _ _ _ _ => (sgc_name 3 SC.nd)) (fun _ _ _ _ _ => (sts_one (st_cmp (os_eq hr.units) (se_ix (se_var 0) (se_var 3)) (se_var 2) (hbl := bl_eq)))) (fun _ _ _ _ _ => (se_var 3))) (se_un us_neg se_int))))
theorem ok_next_ask (T : Tx K mg) : Cl P w K mg base 3 "next_ask" s_next_ask ["asks", "index", "page"] m_next_ask :=
  have SC : FnScope ["asks", "index", "page", "found", "place"] ["asks", "index", "page"] (defScope s_next_ask) := ⟨rfl, rfl, rfl, by decide +kernel, rfl, by decide +kernel, by decide +kernel⟩
  cl_body (b := b_next_ask) (k := 2) T.d_next_ask SC fun f cdv A outer s H E hr =>
    (sb_cons (ss_setComp 3 [("place", 4)] rfl SC.nd (si_range2 T.n_range (se_op os_add (se_var 1) se_int) (se_callB cs_lenX T.n_len (sa_cons (se_var 0) sa_nil))) (blk_ok (N := ["asks", "index", "page", "found", "place"]) (sc := defScope s_next_ask) (by decide +kernel)) (fun _ _ _ _ _ => (sgc_name 4 SC.nd)) (fun _ _ _ _ _ => (sts_one (st_cmp (os_eq hr.units) (se_ix (se_var 0) (se_var 4)) (se_var 2) (hbl := bl_eq)))) (fun _ _ _ _ _ => (se_var 4)) (sw_true rfl rfl rfl (by decide +kernel)))
    (sb_one (ss_ret (se_if (st_cmp (os_ne hr.units) (se_var 3) (se_lst sa_nil) (hbl := bl_ne)) (se_ix (se_var 3) se_int) (se_callB cs_lenX T.n_len (sa_cons (se_var 0) sa_nil))))))
theorem ok_chosen (T : Tx K mg) : Cl P w K mg base 4 "chosen" s_chosen ["asks", "index", "cache", "rule"] m_chosen :=
  have SC : FnScope ["asks", "index", "cache", "rule", "rows", "page"] ["asks", "index", "cache", "rule"] (defScope s_chosen) := ⟨rfl, rfl, rfl, by decide +kernel, rfl, by decide +kernel, by decide +kernel⟩
  cl_body (b := b_chosen) (k := 3) T.d_chosen SC fun f cdv A outer s H E hr =>
    (sb_cons (ss_if (st_cmp (os_eq hr.units) (se_var 3) se_str (hbl := bl_eq)) (sb_one (ss_ret (se_ix (se_var 2) se_int))) sb_nil)
    (sb_cons (ss_if (st_cmp (os_eq hr.units) (se_var 3) se_str (hbl := bl_eq)) (sb_one (ss_ret (se_ix (se_callB (cs_minX rfl hr.units) T.n_min (sa_cons (se_comp [("page", 5)] rfl SC.nd (si_seq (se_var 2)) (blk_ok (N := ["asks", "index", "cache", "rule", "rows", "page"]) (sc := defScope s_chosen) (by decide +kernel)) (fun _ _ _ _ _ => (sgc_name 5 SC.nd)) (fun _ _ _ _ _ => sts_nil) (fun _ _ _ _ _ => (se_tup (sa_cons (se_un us_neg (se_callC (ok_next_ask T) (hr.mono (by decide)) takes0 (sa_cons (se_var 0) (sa_cons (se_var 1) (sa_cons (se_var 5) sa_nil))))) (sa_cons (se_var 5) sa_nil))))) sa_nil)) se_int))) sb_nil)
    (sb_cons (ss_setComp 4 [("page", 5)] rfl SC.nd (si_seq (se_var 2)) (blk_ok (N := ["asks", "index", "cache", "rule", "rows", "page"]) (sc := defScope s_chosen) (by decide +kernel)) (fun _ _ _ _ _ => (sgc_name 5 SC.nd)) (fun _ _ _ _ _ => sts_nil) (fun _ _ _ _ _ => (se_tup (sa_cons (se_callC (ok_last_ask T) (hr.mono (by decide)) takes0 (sa_cons (se_var 0) (sa_cons (se_var 1) (sa_cons (se_var 5) sa_nil)))) (sa_cons (se_var 5) sa_nil)))) (sw_true rfl rfl rfl (by decide +kernel)))
    (sb_one (ss_ret (se_if (st_cmp (os_eq hr.units) (se_var 3) se_str (hbl := bl_eq)) (se_ix (se_callB (cs_minX rfl hr.units) T.n_min (sa_cons (se_var 4) sa_nil)) se_int) (se_ix (se_callB (cs_maxX rfl hr.units) T.n_max (sa_cons (se_var 4) sa_nil)) se_int)))))))
theorem ok_played (T : Tx K mg) : Cl P w K mg base 5 "played" s_played ["asks", "places", "rule"] m_played :=
  have SC : FnScope ["asks", "places", "rule", "cache", "count", "found", "index", "out", "page", "other"] ["asks", "places", "rule"] (defScope s_played) := ⟨rfl, rfl, rfl, by decide +kernel, rfl, by decide +kernel, by decide +kernel⟩
  cl_body (b := b_played) (k := 4) T.d_played SC fun f cdv A outer s H E hr =>
    (sb_cons (ss_par3 3 4 5 rfl SC.nd (sa_cons (se_lst sa_nil) (sa_cons se_int (sa_cons (se_lst sa_nil) sa_nil))))
    (sb_cons (ss_for (passes_of rfl) rfl (si_enumX T.n_enumerate (sa_cons (se_var 0) sa_nil)) (sg_tup rfl (sgs_cons (sg_name 6 SC.nd) (sgs_cons (sg_name 8 SC.nd) sgs_nil))) (sb_one (ss_if (st_cmp os_notIn (se_var 8) (se_var 3) (hbl := bl_notIn)) (sb_cons (ss_aug 4 SC.nd ios_add se_int)
    (sb_cons (ss_if (st_cmp (os_eq hr.units) (se_callB cs_lenX T.n_len (sa_cons (se_var 3) sa_nil)) (se_var 1) (hbl := bl_eq)) (sb_cons (ss_set 7 SC.nd (se_callC (ok_chosen T) (hr.mono (by decide)) (takes_of rfl rfl rfl rfl) (sa_cons (se_var 0) (sa_cons (se_var 6) (sa_cons (se_var 3) (sa_cons (se_var 2) sa_nil))))))
    (sb_cons (ss_exp (se_app 5 (se_tup (sa_cons (se_var 6) (sa_cons (se_var 7) sa_nil)))))
    (sb_one (ss_setComp 3 [("other", 9)] rfl SC.nd (si_seq (se_var 3)) (blk_ok (N := ["asks", "places", "rule", "cache", "count", "found", "index", "out", "page", "other"]) (sc := defScope s_played) (by decide +kernel)) (fun _ _ _ _ _ => (sgc_name 9 SC.nd)) (fun _ _ _ _ _ => (sts_one (st_cmp (os_ne hr.units) (se_var 9) (se_var 7) (hbl := bl_ne)))) (fun _ _ _ _ _ => (se_var 9)) (sw_true rfl rfl rfl (by decide +kernel)))))) sb_nil)
    (sb_one (ss_exp (se_app 3 (se_var 8)))))) sb_nil)))
    (sb_one (ss_ret (se_tup (sa_cons (se_var 4) (sa_cons (se_var 5) sa_nil)))))))
theorem ok_anomaly (T : Tx K mg) : Cl P w K mg base 7 "anomaly" s_anomaly ["asks", "rule"] m_anomaly :=
  have SC : FnScope ["asks", "rule", "counts", "found", "places", "place"] ["asks", "rule"] (defScope s_anomaly) := ⟨rfl, rfl, rfl, by decide +kernel, rfl, by decide +kernel, by decide +kernel⟩
  cl_body (b := b_anomaly) (k := 6) T.d_anomaly SC fun f cdv A outer s H E hr =>
    (sb_cons (ss_exp (se_callC (ok_check_asks T) (hr.mono (by decide)) (takes_of rfl rfl rfl rfl) (sa_cons (se_var 0) sa_nil)))
    (sb_cons (ss_exp (se_callC (ok_check_rule T) (hr.mono (by decide)) (takes_of rfl rfl rfl rfl) (sa_cons (se_var 1) sa_nil)))
    (sb_cons (ss_set 2 SC.nd (se_comp [("places", 4)] rfl SC.nd (si_range2 T.n_range se_int (se_op os_add (se_globI T.g_MOST_PLACES) se_int)) (blk_ok (N := ["asks", "rule", "counts", "found", "places", "place"]) (sc := defScope s_anomaly) (by decide +kernel)) (fun _ _ _ _ _ => (sgc_name 4 SC.nd)) (fun _ _ _ _ _ => sts_nil) (fun _ _ _ _ _ => (se_ix (se_callC (ok_played T) (hr.mono (by decide)) takes0 (sa_cons (se_var 0) (sa_cons (se_var 4) (sa_cons (se_var 1) sa_nil)))) se_int))))
    (sb_cons (ss_setComp 3 [("place", 5)] rfl SC.nd (si_range1 T.n_range (se_op os_sub (se_globI T.g_MOST_PLACES) se_int)) (blk_ok (N := ["asks", "rule", "counts", "found", "places", "place"]) (sc := defScope s_anomaly) (by decide +kernel)) (fun _ _ _ _ _ => (sgc_name 5 SC.nd)) (fun _ _ _ _ _ => (sts_one (st_cmp os_lt (se_ix (se_var 2) (se_var 5)) (se_ix (se_var 2) (se_op os_add (se_var 5) se_int)) (hbl := bl_lt)))) (fun _ _ _ _ _ => (se_op os_add (se_var 5) se_int)) (sw_true rfl rfl rfl (by decide +kernel)))
    (sb_one (ss_ret (se_if (st_cmp (os_ne hr.units) (se_var 3) (se_lst sa_nil) (hbl := bl_ne)) (se_ix (se_var 3) se_int) se_non)))))))
theorem ok_check_places (T : Tx K mg) : Cl P w K mg base 5 "check_places" s_check_places ["places"] m_check_places :=
  have SC : FnScope ["places"] ["places"] (defScope s_check_places) := ⟨rfl, rfl, rfl, by decide +kernel, rfl, by decide +kernel, by decide +kernel⟩
  cl_body (b := b_check_places) (k := 4) T.d_check_places SC fun f cdv A outer s H E hr =>
    (sb_one (ss_if (st_not (st_e (se_callC (ok_is_between T) (hr.mono (by decide)) (takes_of rfl rfl rfl rfl) (sa_cons (se_var 0) (sa_cons se_int (sa_cons (se_globI T.g_MOST_PLACES) sa_nil)))))) (sb_one (ss_raise_given rfl T.x_InvalidPlaces hr (takes_of rfl rfl rfl rfl) (se_var 0))) sb_nil))
theorem ok_check_all (T : Tx K mg) : Cl P w K mg base 7 "check_all" s_check_all ["asks", "places", "rule"] m_check_all :=
  have SC : FnScope ["asks", "places", "rule"] ["asks", "places", "rule"] (defScope s_check_all) := ⟨rfl, rfl, rfl, by decide +kernel, rfl, by decide +kernel, by decide +kernel⟩
  cl_body (b := b_check_all) (k := 6) T.d_check_all SC fun f cdv A outer s H E hr =>
    (sb_cons (ss_exp (se_callC (ok_check_asks T) (hr.mono (by decide)) (takes_of rfl rfl rfl rfl) (sa_cons (se_var 0) sa_nil)))
    (sb_cons (ss_exp (se_callC (ok_check_places T) (hr.mono (by decide)) (takes_of rfl rfl rfl rfl) (sa_cons (se_var 1) sa_nil)))
    (sb_one (ss_exp (se_callC (ok_check_rule T) (hr.mono (by decide)) (takes_of rfl rfl rfl rfl) (sa_cons (se_var 2) sa_nil))))))
theorem ok_misses (T : Tx K mg) : Cl P w K mg base 8 "misses" s_misses ["asks", "places", "rule"] m_misses :=
  have SC : FnScope ["asks", "places", "rule"] ["asks", "places", "rule"] (defScope s_misses) := ⟨rfl, rfl, rfl, by decide +kernel, rfl, by decide +kernel, by decide +kernel⟩
  cl_body (b := b_misses) (k := 7) T.d_misses SC fun f cdv A outer s H E hr =>
    (sb_cons (ss_exp (se_callC (ok_check_all T) (hr.mono (by decide)) (takes_of rfl rfl rfl rfl) (sa_cons (se_var 0) (sa_cons (se_var 1) (sa_cons (se_var 2) sa_nil)))))
    (sb_one (ss_ret (se_ix (se_callC (ok_played T) (hr.mono (by decide)) (takes_of rfl rfl rfl rfl) (sa_cons (se_var 0) (sa_cons (se_var 1) (sa_cons (se_var 2) sa_nil)))) se_int))))
theorem ok_evicted (T : Tx K mg) : Cl P w K mg base 8 "evicted" s_evicted ["asks", "places", "rule"] m_evicted :=
  have SC : FnScope ["asks", "places", "rule"] ["asks", "places", "rule"] (defScope s_evicted) := ⟨rfl, rfl, rfl, by decide +kernel, rfl, by decide +kernel, by decide +kernel⟩
  cl_body (b := b_evicted) (k := 7) T.d_evicted SC fun f cdv A outer s H E hr =>
    (sb_cons (ss_exp (se_callC (ok_check_all T) (hr.mono (by decide)) (takes_of rfl rfl rfl rfl) (sa_cons (se_var 0) (sa_cons (se_var 1) (sa_cons (se_var 2) sa_nil)))))
    (sb_one (ss_ret (se_ix (se_callC (ok_played T) (hr.mono (by decide)) (takes_of rfl rfl rfl rfl) (sa_cons (se_var 0) (sa_cons (se_var 1) (sa_cons (se_var 2) sa_nil)))) se_int))))
theorem ok__law_said (T : Tx K mg) : Cl P w K mg base 9 "_law_said" s__law_said ["way", "asks", "places", "rule"] m__law_said :=
  have SC : FnScope ["way", "asks", "places", "rule", "e"] ["way", "asks", "places", "rule"] (defScope s__law_said) := ⟨rfl, rfl, rfl, by decide +kernel, rfl, by decide +kernel, by decide +kernel⟩
  cl_body (b := b__law_said) (k := 8) T.d__law_said SC fun f cdv A outer s H E hr =>
    (sb_one (ss_try SC.nd (takes_of rfl rfl rfl rfl) (fun W pn xe tk pz => (sb_cons (ss_if (st_cmp os_lt (se_var 0) se_int (hbl := bl_lt)) (sb_one (ss_ret (se_lst (sa_cons se_str (sa_cons (se_if (st_cmp (os_eq hr.units) (se_var 0) se_int (hbl := bl_eq)) (se_callC (ok_misses T) (hr.mono (by decide)) tk (sa_cons (se_var 1) (sa_cons (se_var 2) (sa_cons (se_var 3) sa_nil)))) (se_callCK0 (ks := ["rule", "places", "asks"]) (perm := [2, 1, 0]) (ok_misses T) (hr.mono (by decide)) tk (by intro _ _ _ _ _ _ us ws h1 h2; exact match us, ws, h1, h2 with | [], [_, _, _], _, _ => rfl) (sk_cons (se_var 3) (sk_cons (se_var 2) (sk_cons (se_var 1) sk_nil))))) sa_nil))))) sb_nil)
    (sb_cons (ss_if (st_cmp os_lt (se_var 0) se_int (hbl := bl_lt)) (sb_one (ss_ret (se_lst (sa_cons se_str (sa_cons (se_if (st_cmp (os_eq hr.units) (se_var 0) se_int (hbl := bl_eq)) (se_callC (ok_evicted T) (hr.mono (by decide)) tk (sa_cons (se_var 1) (sa_cons (se_var 2) (sa_cons (se_var 3) sa_nil)))) (se_callCK0 (ks := ["rule", "places", "asks"]) (perm := [2, 1, 0]) (ok_evicted T) (hr.mono (by decide)) tk (by intro _ _ _ _ _ _ us ws h1 h2; exact match us, ws, h1, h2 with | [], [_, _, _], _, _ => rfl) (sk_cons (se_var 3) (sk_cons (se_var 2) (sk_cons (se_var 1) sk_nil))))) sa_nil))))) sb_nil)
    (sb_one (ss_ret (se_lst (sa_cons se_str (sa_cons (se_if (st_cmp (os_eq hr.units) (se_var 0) se_int (hbl := bl_eq)) (se_callC (ok_anomaly T) (hr.mono (by decide)) tk (sa_cons (se_var 1) (sa_cons (se_var 3) sa_nil))) (se_callCK0 (ks := ["rule", "asks"]) (perm := [1, 0]) (ok_anomaly T) (hr.mono (by decide)) tk (by intro _ _ _ _ _ _ us ws h1 h2; exact match us, ws, h1, h2 with | [], [_, _], _, _ => rfl) (sk_cons (se_var 3) (sk_cons (se_var 1) sk_nil)))) sa_nil)))))))) (.cons T.x_InvalidAsks.gC (hsub_of T.sib T.x_InvalidAsks.gC) (fun a oe cls d pn hz hf => (sb_one (ss_ret (se_lst (sa_cons se_str (sa_cons (se_exn_given 4 T.x_InvalidAsks hz hf (pv 4)) sa_nil)))))) (.cons T.x_InvalidPlaces.gC (hsub_of T.sib T.x_InvalidPlaces.gC) (fun a oe cls d pn hz hf => (sb_one (ss_ret (se_lst (sa_cons se_str (sa_cons (se_exn_given 4 T.x_InvalidPlaces hz hf (pv 4)) sa_nil)))))) (.cons T.x_InvalidRule.gC (hsub_of T.sib T.x_InvalidRule.gC) (fun a oe cls d pn hz hf => (sb_one (ss_ret (se_lst (sa_cons se_str (sa_cons (se_exn_given 4 T.x_InvalidRule hz hf (pv 4)) sa_nil)))))) .nil)))))
theorem ok__law_same (T : Tx K mg) : ∀ n : Nat, Cl P w K mg base (2 + n) "_law_same" s__law_same ["told", "due"] (m__law_same n)
  | 0 => cl_no T.d__law_same
  | n + 1 =>
  have CS := ok__law_same T n
  have SC : FnScope ["told", "due", "k"] ["told", "due"] (defScope s__law_same) := ⟨rfl, rfl, rfl, by decide +kernel, rfl, by decide +kernel, by decide +kernel⟩
  cl_body (b := b__law_same (m__law_same n)) (k := 2 + n) T.d__law_same SC fun f cdv A outer s H E hr =>
    (sb_cons (ss_if (sw_or (st_cmp os_is (se_var 1) se_non (hbl := bl_is)) (sw_or1 (st_e (se_isi (T := .bl) T.n_isinstance T.n_bool (se_var 1))))).st (sb_one (ss_ret (se_if (st_cmp os_is (se_var 1) se_non (hbl := bl_is)) (se_cmp os_is (se_var 0) se_non) (se_and (se_isi (T := .bl) T.n_isinstance T.n_bool (se_var 0)) (se_one (se_cmp (os_eq hr.units) (se_cmp os_is (se_var 0) se_bl) (se_cmp os_is (se_var 1) se_bl))))))) sb_nil)
    (sb_cons (ss_if (st_e (se_isi (T := .int) T.n_isinstance T.n_int (se_var 1))) (sb_one (ss_ret (se_and (se_isi (T := .int) T.n_isinstance T.n_int (se_var 0)) (se_and (se_not (se_isi (T := .bl) T.n_isinstance T.n_bool (se_var 0))) (se_one (se_cmp (os_eq hr.units) (se_op os_sub (se_callTy cs_int T.n_int (sa_cons (se_var 0) sa_nil)) (se_var 1)) se_int)))))) sb_nil)
    (sb_cons (ss_if (st_e (se_isi (T := .str) T.n_isinstance T.n_str (se_var 1))) (sb_one (ss_ret (se_and (se_isi (T := .str) T.n_isinstance T.n_str (se_var 0)) (se_and (se_cmp (os_eq hr.units) (se_callB cs_lenX T.n_len (sa_cons (se_var 0) sa_nil)) (se_callB cs_lenX T.n_len (sa_cons (se_var 1) sa_nil))) (se_one (se_cmp (os_eq hr.units) (se_comp [("k", 2)] rfl SC.nd (si_range1 T.n_range (se_callB cs_lenX T.n_len (sa_cons (se_var 1) sa_nil))) (blk_ok (N := ["told", "due", "k"]) (sc := defScope s__law_same) (by decide +kernel)) (fun _ _ _ _ _ => (sgc_name 2 SC.nd)) (fun _ _ _ _ _ => (sts_one (st_cmp (os_ne hr.units) (se_slice (se_var 0) (so_some (se_var 2)) (so_some (se_op os_add (se_var 2) se_int))) (se_ix (se_var 1) (se_var 2)) (hbl := bl_ne)))) (fun _ _ _ _ _ => (se_var 2))) (se_lst sa_nil))))))) sb_nil)
    (sb_cons (ss_if (sw_or (st_cmp (os_ne hr.units) (se_isi (T := .lst) T.n_isinstance T.n_list (se_var 0)) (se_isi (T := .lst) T.n_isinstance T.n_list (se_var 1)) (hbl := bl_ne)) (sw_or1 (st_cmp (os_ne hr.units) (se_isi (T := .tup) T.n_isinstance T.n_tuple (se_var 0)) (se_isi (T := .tup) T.n_isinstance T.n_tuple (se_var 1)) (hbl := bl_ne)))).st (sb_one (ss_ret se_bl)) sb_nil)
    (sb_one (ss_ret (se_and (se_cmp (os_eq hr.units) (se_callB cs_lenX T.n_len (sa_cons (se_var 0) sa_nil)) (se_callB cs_lenX T.n_len (sa_cons (se_var 1) sa_nil))) (se_one (se_cmp (os_eq hr.units) (se_comp [("k", 2)] rfl SC.nd (si_range1 T.n_range (se_callB cs_lenX T.n_len (sa_cons (se_var 1) sa_nil))) (blk_ok (N := ["told", "due", "k"]) (sc := defScope s__law_same) (by decide +kernel)) (fun _ _ _ _ _ => (sgc_name 2 SC.nd)) (fun _ _ _ _ _ => (sts_one (st_not (st_e (se_callC CS (hr.mono (by omega)) takes0 (sa_cons (se_ix (se_var 0) (se_var 2)) (sa_cons (se_ix (se_var 1) (se_var 2)) sa_nil))))))) (fun _ _ _ _ _ => (se_var 2))) (se_lst sa_nil))))))))))
theorem ok__law_refused (T : Tx K mg) : Cl P w K mg base 11 "_law_refused" s__law_refused ["box", "asks"] m__law_refused :=
  have SC : FnScope ["box", "asks", "told", "value", "k"] ["box", "asks"] (defScope s__law_refused) := ⟨rfl, rfl, rfl, by decide +kernel, rfl, by decide +kernel, by decide +kernel⟩
  cl_body (b := b__law_refused) (k := 10) T.d__law_refused SC fun f cdv A outer s H E hr =>
    (sb_cons (ss_for (passes_of rfl) rfl (si_seq (se_callC0 (ok__law_odd_asks T) (hr.mono (by decide)) (takes_of rfl rfl rfl rfl))) (sg_name 3 SC.nd) (sb_cons (ss_setComp 2 [("k", 4)] rfl SC.nd (si_range1 T.n_range se_int) (blk_ok (N := ["box", "asks", "told", "value", "k"]) (sc := defScope s__law_refused) (by decide +kernel)) (fun _ _ _ _ _ => (sgc_name 4 SC.nd)) (fun _ _ _ _ _ => sts_nil) (fun _ _ _ _ _ => (se_callC (ok__law_said T) (hr.mono (by decide)) takes0 (sa_cons (se_op os_add (se_op os_mulX se_int (se_var 4)) (se_callC (ok__law_take T) (hr.mono (by decide)) takes0 (sa_cons (se_var 0) (sa_cons se_int sa_nil)))) (sa_cons (se_var 3) (sa_cons (se_ix (se_lst (sa_cons se_int (sa_cons se_non sa_nil))) (se_callC (ok__law_take T) (hr.mono (by decide)) takes0 (sa_cons (se_var 0) (sa_cons se_int sa_nil)))) (sa_cons se_non sa_nil)))))) (sw_true rfl rfl rfl (by decide +kernel)))
    (sb_one (ss_if (st_not (st_e (se_callC (ok__law_same T 8) (hr.mono (by decide)) (takes_of rfl rfl rfl rfl) (sa_cons (se_var 2) (sa_cons (se_op os_mulX (se_lst (sa_cons (se_lst (sa_cons se_str (sa_cons (se_var 3) sa_nil))) sa_nil)) se_int) sa_nil))))) (sb_one (ss_ret se_bl)) sb_nil))))
    (sb_cons (ss_for (passes_of rfl) rfl (si_seq (se_lst (sa_cons se_int (sa_cons se_int (sa_cons (se_un us_neg se_int) (sa_cons se_bl (sa_cons se_non (sa_cons se_str (sa_cons (se_tup (sa_cons se_int sa_nil)) (sa_cons (se_op os_pow se_int se_int) sa_nil)))))))))) (sg_name 3 SC.nd) (sb_cons (ss_set 2 SC.nd (se_lst (sa_cons (se_callC (ok__law_said T) (hr.mono (by decide)) (takes_of rfl rfl rfl rfl) (sa_cons (se_callC (ok__law_take T) (hr.mono (by decide)) (takes_of rfl rfl rfl rfl) (sa_cons (se_var 0) (sa_cons se_int sa_nil))) (sa_cons (se_var 1) (sa_cons (se_var 3) (sa_cons (se_ix (se_lst (sa_cons se_str (sa_cons se_non sa_nil))) (se_callC (ok__law_take T) (hr.mono (by decide)) (takes_of rfl rfl rfl rfl) (sa_cons (se_var 0) (sa_cons se_int sa_nil)))) sa_nil))))) (sa_cons (se_callC (ok__law_said T) (hr.mono (by decide)) (takes_of rfl rfl rfl rfl) (sa_cons (se_op os_add se_int (se_callC (ok__law_take T) (hr.mono (by decide)) (takes_of rfl rfl rfl rfl) (sa_cons (se_var 0) (sa_cons se_int sa_nil)))) (sa_cons (se_var 1) (sa_cons (se_var 3) (sa_cons se_non sa_nil))))) sa_nil))))
    (sb_one (ss_if (st_not (st_e (se_callC (ok__law_same T 8) (hr.mono (by decide)) (takes_of rfl rfl rfl rfl) (sa_cons (se_var 2) (sa_cons (se_op os_mulX (se_lst (sa_cons (se_lst (sa_cons se_str (sa_cons (se_var 3) sa_nil))) sa_nil)) se_int) sa_nil))))) (sb_one (ss_ret se_bl)) sb_nil))))
    (sb_cons (ss_for (passes_of rfl) rfl (si_seq (se_lst (sa_cons se_non (sa_cons se_int (sa_cons se_str (sa_cons se_str (sa_cons se_str (sa_cons (se_lst (sa_cons se_str sa_nil)) (sa_cons se_bl (sa_cons se_dic0 (sa_cons (se_tup (sa_cons se_str sa_nil)) sa_nil))))))))))) (sg_name 3 SC.nd) (sb_cons (ss_setComp 2 [("k", 4)] rfl SC.nd (si_range1 T.n_range se_int) (blk_ok (N := ["box", "asks", "told", "value", "k"]) (sc := defScope s__law_refused) (by decide +kernel)) (fun _ _ _ _ _ => (sgc_name 4 SC.nd)) (fun _ _ _ _ _ => sts_nil) (fun _ _ _ _ _ => (se_callC (ok__law_said T) (hr.mono (by decide)) takes0 (sa_cons (se_op os_add (se_op os_mulX se_int (se_var 4)) (se_callC (ok__law_take T) (hr.mono (by decide)) takes0 (sa_cons (se_var 0) (sa_cons se_int sa_nil)))) (sa_cons (se_var 1) (sa_cons se_int (sa_cons (se_var 3) sa_nil)))))) (sw_true rfl rfl rfl (by decide +kernel)))
    (sb_one (ss_if (st_not (st_e (se_callC (ok__law_same T 8) (hr.mono (by decide)) (takes_of rfl rfl rfl rfl) (sa_cons (se_var 2) (sa_cons (se_op os_mulX (se_lst (sa_cons (se_lst (sa_cons se_str (sa_cons (se_var 3) sa_nil))) sa_nil)) se_int) sa_nil))))) (sb_one (ss_ret se_bl)) sb_nil))))
    (sb_one (ss_ret se_bl)))))
theorem ok__law_cached (T : Tx K mg) : Cl P w K mg base 3 "_law_cached" s__law_cached ["asks", "places", "rule"] m__law_cached :=
  have SC : FnScope ["asks", "places", "rule", "cache", "gone", "k", "later", "missed", "page", "rows", "row", "j", "more"] ["asks", "places", "rule"] (defScope s__law_cached) := ⟨rfl, rfl, rfl, by decide +kernel, rfl, by decide +kernel, by decide +kernel⟩
  cl_body (b := b__law_cached) (k := 2) T.d__law_cached SC fun f cdv A outer s H E hr =>
    (sb_cons (ss_par3 3 7 4 rfl SC.nd (sa_cons (se_lst sa_nil) (sa_cons se_int (sa_cons (se_lst sa_nil) sa_nil))))
    (sb_cons (ss_for (passes_of rfl) rfl (si_range1 T.n_range (se_callB cs_lenX T.n_len (sa_cons (se_var 0) sa_nil))) (sg_name 5 SC.nd) (sb_cons (ss_if (st_cmp os_notIn (se_ix (se_var 0) (se_var 5)) (se_compO 3 [("row", 10)] rfl SC.nd (blk_ok (N := ["asks", "places", "rule", "cache", "gone", "k", "later", "missed", "page", "rows", "row", "j", "more"]) (sc := defScope s__law_cached) (by decide +kernel)) (fun _ _ _ _ _ => (sgc_name 10 SC.nd)) (fun _ _ _ _ _ => sts_nil) (fun _ _ _ _ _ => (se_ix (se_var 10) se_int))) (hbl := bl_notIn)) (sb_cons (ss_set 7 SC.nd (se_op os_add (se_var 7) se_int))
    (sb_cons (ss_if (st_cmp (os_eq hr.units) (se_callB cs_lenX T.n_len (sa_cons (se_var 3) sa_nil)) (se_var 1) (hbl := bl_eq)) (sb_cons (ss_set 9 SC.nd (se_callB (cs_sortD hr.units) T.n_sorted (sa_cons (se_compO 3 [("row", 10)] rfl SC.nd (blk_ok (N := ["asks", "places", "rule", "cache", "gone", "k", "later", "missed", "page", "rows", "row", "j", "more"]) (sc := defScope s__law_cached) (by decide +kernel)) (fun _ _ _ _ _ => (sgc_name 10 SC.nd)) (fun _ _ _ _ _ => sts_nil) (fun _ _ _ _ _ => (se_tup (sa_cons (se_ix (se_var 10) se_int) (sa_cons (se_ix (se_var 10) se_int) sa_nil))))) sa_nil)))
    (sb_cons (ss_if (st_cmp (os_ne hr.units) (se_var 2) se_str (hbl := bl_ne)) (sb_one (ss_set 9 SC.nd (se_callB (cs_sortD hr.units) T.n_sorted (sa_cons (se_compO 3 [("row", 10)] rfl SC.nd (blk_ok (N := ["asks", "places", "rule", "cache", "gone", "k", "later", "missed", "page", "rows", "row", "j", "more"]) (sc := defScope s__law_cached) (by decide +kernel)) (fun _ _ _ _ _ => (sgc_name 10 SC.nd)) (fun _ _ _ _ _ => sts_nil) (fun _ _ _ _ _ => (se_tup (sa_cons (se_ix (se_var 10) se_int) (sa_cons (se_ix (se_var 10) se_int) sa_nil))))) sa_nil)))) sb_nil)
    (sb_cons (ss_if (st_cmp (os_eq hr.units) (se_var 2) se_str (hbl := bl_eq)) (sb_cons (ss_setComp 6 [("row", 10)] rfl SC.nd (si_seq (se_var 3)) (blk_ok (N := ["asks", "places", "rule", "cache", "gone", "k", "later", "missed", "page", "rows", "row", "j", "more"]) (sc := defScope s__law_cached) (by decide +kernel)) (fun _ _ _ _ _ => (sgc_name 10 SC.nd)) (fun _ _ _ _ _ => sts_nil) (fun _ _ _ _ _ => (se_comp [("j", 11)] rfl SC.nd (si_range2 T.n_range (se_op os_add (se_var 5) se_int) (se_callB cs_lenX T.n_len (sa_cons (se_var 0) sa_nil))) (by rfl) (fun _ _ _ _ _ => (sgc_name 11 SC.nd)) (fun _ _ _ _ _ => (sts_one (st_cmp (os_eq hr.units) (se_ix (se_var 0) (se_var 11)) (se_ix (se_var 10) se_int) (hbl := bl_eq)))) (fun _ _ _ _ _ => (se_var 11)))) (sw_true rfl rfl rfl (by decide +kernel)))
    (sb_one (ss_set 9 SC.nd (se_callB (cs_sortD hr.units) T.n_sorted (sa_cons (se_comp [("row", 10), ("more", 12)] rfl SC.nd (si_zipX T.n_zip (sa_cons (se_var 3) (sa_cons (se_var 6) sa_nil))) (blk_ok (N := ["asks", "places", "rule", "cache", "gone", "k", "later", "missed", "page", "rows", "row", "j", "more"]) (sc := defScope s__law_cached) (by decide +kernel)) (fun _ _ _ _ _ => (sgc_tup rfl (sgcs_cons (sgc_name 10 SC.nd) (sgcs_cons (sgc_name 12 SC.nd) sgcs_nil)))) (fun _ _ _ _ _ => sts_nil) (fun _ _ _ _ _ => (se_tup (sa_cons (se_if (st_cmp (os_eq hr.units) (se_var 12) (se_lst sa_nil) (hbl := bl_eq)) (se_tup (sa_cons se_int (sa_cons (se_ix (se_var 10) se_int) sa_nil))) (se_tup (sa_cons se_int (sa_cons (se_op os_sub se_int (se_ix (se_var 12) se_int)) sa_nil)))) (sa_cons (se_ix (se_var 10) se_int) sa_nil))))) sa_nil))))) sb_nil)
    (sb_cons (ss_set 8 SC.nd (se_if (st_cmp (os_eq hr.units) (se_var 2) se_str (hbl := bl_eq)) (se_ix (se_ix (se_var 9) (se_un us_neg se_int)) se_int) (se_ix (se_ix (se_var 9) se_int) se_int)))
    (sb_cons (ss_exp (se_app 4 (se_tup (sa_cons (se_var 5) (sa_cons (se_var 8) sa_nil)))))
    (sb_one (ss_setComp 3 [("row", 10)] rfl SC.nd (si_seq (se_var 3)) (blk_ok (N := ["asks", "places", "rule", "cache", "gone", "k", "later", "missed", "page", "rows", "row", "j", "more"]) (sc := defScope s__law_cached) (by decide +kernel)) (fun _ _ _ _ _ => (sgc_name 10 SC.nd)) (fun _ _ _ _ _ => (sts_one (st_cmp (os_ne hr.units) (se_ix (se_var 10) se_int) (se_var 8) (hbl := bl_ne)))) (fun _ _ _ _ _ => (se_var 10)) (sw_true rfl rfl rfl (by decide +kernel))))))))) sb_nil)
    (sb_one (ss_exp (se_app 3 (se_lst (sa_cons (se_ix (se_var 0) (se_var 5)) (sa_cons (se_var 5) (sa_cons (se_var 5) sa_nil))))))))) sb_nil)
    (sb_one (ss_setComp 3 [("row", 10)] rfl SC.nd (si_seq (se_var 3)) (blk_ok (N := ["asks", "places", "rule", "cache", "gone", "k", "later", "missed", "page", "rows", "row", "j", "more"]) (sc := defScope s__law_cached) (by decide +kernel)) (fun _ _ _ _ _ => (sgc_name 10 SC.nd)) (fun _ _ _ _ _ => sts_nil) (fun _ _ _ _ _ => (se_lst (sa_cons (se_ix (se_var 10) se_int) (sa_cons (se_ix (se_var 10) se_int) (sa_cons (se_if (st_cmp (os_eq hr.units) (se_ix (se_var 10) se_int) (se_ix (se_var 0) (se_var 5)) (hbl := bl_eq)) (se_var 5) (se_ix (se_var 10) se_int)) sa_nil))))) (sw_true rfl rfl rfl (by decide +kernel))))))
    (sb_one (ss_ret (se_lst (sa_cons (se_var 7) (sa_cons (se_var 4) sa_nil)))))))
theorem ok__law_right (T : Tx K mg) : Cl P w K mg base 12 "_law_right" s__law_right ["box"] m__law_right :=
  have SC : FnScope ["box", "asks", "belady", "counts", "due", "names", "places", "rule", "told", "way", "worse", "p", "k"] ["box"] (defScope s__law_right) := ⟨rfl, rfl, rfl, by decide +kernel, rfl, by decide +kernel, by decide +kernel⟩
  cl_body (b := b__law_right) (k := 11) T.d__law_right SC fun f cdv A outer s H E hr =>
    (sb_cons (ss_set 1 SC.nd (se_callC (ok__law_asks T) (hr.mono (by decide)) (takes_of rfl rfl rfl rfl) (sa_cons (se_var 0) sa_nil)))
    (sb_cons (ss_for (passes_of rfl) rfl (si_seq (se_lst (sa_cons se_str (sa_cons se_str (sa_cons se_str (sa_cons se_str sa_nil)))))) (sg_name 7 SC.nd) (sb_cons (ss_set 3 SC.nd (se_comp [("places", 6)] rfl SC.nd (si_range2 T.n_range se_int se_int) (blk_ok (N := ["box", "asks", "belady", "counts", "due", "names", "places", "rule", "told", "way", "worse", "p", "k"]) (sc := defScope s__law_right) (by decide +kernel)) (fun _ _ _ _ _ => (sgc_name 6 SC.nd)) (fun _ _ _ _ _ => sts_nil) (fun _ _ _ _ _ => (se_ix (se_callC (ok__law_cached T) (hr.mono (by decide)) takes0 (sa_cons (se_var 1) (sa_cons (se_var 6) (sa_cons (se_var 7) sa_nil)))) se_int))))
    (sb_cons (ss_set 6 SC.nd (se_op os_add se_int (se_callC (ok__law_take T) (hr.mono (by decide)) (takes_of rfl rfl rfl rfl) (sa_cons (se_var 0) (sa_cons se_int sa_nil)))))
    (sb_cons (ss_if (st_not (st_e (se_callC (ok__law_same T 8) (hr.mono (by decide)) (takes_of rfl rfl rfl rfl) (sa_cons (se_lst (sa_cons (se_callC (ok__law_said T) (hr.mono (by decide)) (takes_of rfl rfl rfl rfl) (sa_cons se_int (sa_cons (se_var 1) (sa_cons (se_var 6) (sa_cons (se_var 7) sa_nil))))) (sa_cons (se_callC (ok__law_said T) (hr.mono (by decide)) (takes_of rfl rfl rfl rfl) (sa_cons se_int (sa_cons (se_var 1) (sa_cons (se_var 6) (sa_cons (se_var 7) sa_nil))))) sa_nil))) (sa_cons (se_op os_mulX (se_lst (sa_cons (se_lst (sa_cons se_str (sa_cons (se_ix (se_var 3) (se_op os_sub (se_var 6) se_int)) sa_nil))) sa_nil)) se_int) sa_nil))))) (sb_one (ss_ret se_bl)) sb_nil)
    (sb_cons (ss_for (passes_of rfl) rfl (si_seq (se_lst (sa_cons se_int (sa_cons se_int sa_nil)))) (sg_name 9 SC.nd) (sb_flat (su_cons (ss_set 8 SC.nd (se_callC (ok__law_said T) (hr.mono (by decide)) (takes_of rfl rfl rfl rfl) (sa_cons (se_var 9) (sa_cons (se_var 1) (sa_cons (se_var 6) (sa_cons (se_var 7) sa_nil))))))
    (su_cons (ss_if (st_not (st_e (se_callC (ok__law_same T 8) (hr.mono (by decide)) (takes_of rfl rfl rfl rfl) (sa_cons (se_var 8) (sa_cons (se_lst (sa_cons se_str (sa_cons (se_ix (se_callC (ok__law_cached T) (hr.mono (by decide)) (takes_of rfl rfl rfl rfl) (sa_cons (se_var 1) (sa_cons (se_var 6) (sa_cons (se_var 7) sa_nil)))) se_int) sa_nil))) sa_nil))))) (sb_one (ss_ret se_bl)) sb_nil)
    (su_mut 8 (se_ix (se_var 8) se_int) (se_tup sa_nil))))))
    (sb_cons (ss_setComp 10 [("p", 11)] rfl SC.nd (si_range2 T.n_range se_int se_int) (blk_ok (N := ["box", "asks", "belady", "counts", "due", "names", "places", "rule", "told", "way", "worse", "p", "k"]) (sc := defScope s__law_right) (by decide +kernel)) (fun _ _ _ _ _ => (sgc_name 11 SC.nd)) (fun _ _ _ _ _ => (sts_one (st_cmp os_lt (se_ix (se_var 3) (se_op os_sub (se_var 11) se_int)) (se_ix (se_var 3) (se_var 11)) (hbl := bl_lt)))) (fun _ _ _ _ _ => (se_var 11)) (sw_true rfl rfl rfl (by decide +kernel)))
    (sb_cons (ss_set 4 SC.nd (se_lst (sa_cons se_str (sa_cons (se_if (st_cmp (os_ne hr.units) (se_var 10) (se_lst sa_nil) (hbl := bl_ne)) (se_ix (se_var 10) se_int) se_non) sa_nil))))
    (sb_one (ss_if (st_not (st_e (se_callC (ok__law_same T 8) (hr.mono (by decide)) (takes_of rfl rfl rfl rfl) (sa_cons (se_lst (sa_cons (se_callC (ok__law_said T) (hr.mono (by decide)) (takes_of rfl rfl rfl rfl) (sa_cons se_int (sa_cons (se_var 1) (sa_cons se_non (sa_cons (se_var 7) sa_nil))))) (sa_cons (se_callC (ok__law_said T) (hr.mono (by decide)) (takes_of rfl rfl rfl rfl) (sa_cons se_int (sa_cons (se_var 1) (sa_cons se_non (sa_cons (se_var 7) sa_nil))))) sa_nil))) (sa_cons (se_op os_mulX (se_lst (sa_cons (se_var 4) sa_nil)) se_int) sa_nil))))) (sb_one (ss_ret se_bl)) sb_nil)))))))))
    (sb_cons (ss_set 2 SC.nd (se_tup (sa_cons se_int (sa_cons se_int (sa_cons se_int (sa_cons se_int (sa_cons se_int (sa_cons se_int (sa_cons se_int (sa_cons se_int (sa_cons se_int (sa_cons se_int (sa_cons se_int (sa_cons se_int sa_nil))))))))))))))
    (sb_cons (ss_set 5 SC.nd (se_callC (ok__law_mixed T) (hr.mono (by decide)) (takes_of rfl rfl rfl rfl) (sa_cons (se_var 0) (sa_cons se_int sa_nil))))
    (sb_cons (ss_if (st_not (st_e (se_callC (ok__law_same T 8) (hr.mono (by decide)) (takes_of rfl rfl rfl rfl) (sa_cons (se_callC (ok_anomaly T) (hr.mono (by decide)) (takes_of rfl rfl rfl rfl) (sa_cons (se_callTy cs_tuple T.n_tuple (sa_cons (se_comp [("k", 12)] rfl SC.nd (si_seq (se_var 2)) (blk_ok (N := ["box", "asks", "belady", "counts", "due", "names", "places", "rule", "told", "way", "worse", "p", "k"]) (sc := defScope s__law_right) (by decide +kernel)) (fun _ _ _ _ _ => (sgc_name 12 SC.nd)) (fun _ _ _ _ _ => sts_nil) (fun _ _ _ _ _ => (se_ix (se_var 5) (se_var 12)))) sa_nil)) (sa_cons se_str sa_nil))) (sa_cons se_int sa_nil))))) (sb_one (ss_ret se_bl)) sb_nil)
    (sb_one (ss_ret (se_callC (ok__law_refused T) (hr.mono (by decide)) (takes_of rfl rfl rfl rfl) (sa_cons (se_var 0) (sa_cons (se_var 1) sa_nil))))))))))
theorem ok__law_box (T : Tx K mg) : Cl P w K mg base 3 "_law_box" s__law_box ["great"] m__law_box :=
  have SC : FnScope ["great"] ["great"] (defScope s__law_box) := ⟨rfl, rfl, rfl, by decide +kernel, rfl, by decide +kernel, by decide +kernel⟩
  cl_body (b := b__law_box) (k := 2) T.d__law_box SC fun f cdv A outer s H E hr =>
    (sb_one (ss_ret (se_lst (sa_cons (se_callB cs_abs T.n_abs (sa_cons (se_var 0) sa_nil)) (sa_cons (se_cmp os_ge (se_callB cs_abs T.n_abs (sa_cons (se_var 0) sa_nil)) (se_op os_pow se_int se_int)) (sa_cons (se_op os_mod (se_callTy cs_int T.n_int (sa_cons (se_callB cs_abs T.n_abs (sa_cons (se_var 0) sa_nil)) sa_nil)) se_int) (sa_cons se_int sa_nil)))))))
theorem ok__law_cell (T : Tx K mg) : Cl P w K mg base 3 "_law_cell" s__law_cell ["script", "k"] m__law_cell :=
  have SC : FnScope ["script", "k"] ["script", "k"] (defScope s__law_cell) := ⟨rfl, rfl, rfl, by decide +kernel, rfl, by decide +kernel, by decide +kernel⟩
  cl_body (b := b__law_cell) (k := 2) T.d__law_cell SC fun f cdv A outer s H E hr =>
    (sb_one (ss_ret (se_if (st_cmp os_lt (se_var 1) (se_callB cs_lenX T.n_len (sa_cons (se_var 0) sa_nil)) (hbl := bl_lt)) (se_ix (se_var 0) (se_var 1)) (se_op os_add (se_op os_mulX se_int (se_var 1)) (se_op os_mod (se_callTy cs_int T.n_int (sa_cons (se_callB (cs_sumX rfl) T.n_sum (sa_cons (se_slice (se_var 0) so_none (so_some se_int)) sa_nil)) sa_nil)) se_int)))))
theorem ok_law (T : Tx K mg) : Cl P w K mg base 13 "law" s_law ["script"] m_law :=
  have SC : FnScope ["script", "k"] ["script"] (defScope s_law) := ⟨rfl, rfl, rfl, by decide +kernel, rfl, by decide +kernel, by decide +kernel⟩
  cl_body (b := b_law) (k := 12) T.d_law SC fun f cdv A outer s H E hr =>
    (sb_cons (ss_for (passes_of rfl) rfl (si_range1 T.n_range (se_callB (cs_max2 rfl) T.n_max (sa_cons se_int (sa_cons (se_callB (cs_min2 rfl) T.n_min (sa_cons se_int (sa_cons (se_callB cs_lenX T.n_len (sa_cons (se_var 0) sa_nil)) sa_nil))) sa_nil)))) (sg_name 1 SC.nd) (sb_one (ss_if (st_not (st_e (se_callC (ok__law_right T) (hr.mono (by decide)) (takes_of rfl rfl rfl rfl) (sa_cons (se_callC (ok__law_box T) (hr.mono (by decide)) (takes_of rfl rfl rfl rfl) (sa_cons (se_callC (ok__law_cell T) (hr.mono (by decide)) (takes_of rfl rfl rfl rfl) (sa_cons (se_var 0) (sa_cons (se_var 1) sa_nil))) sa_nil)) sa_nil)))) (sb_one (ss_ret se_bl)) sb_nil)))
    (sb_one (ss_ret se_bl)))
end
open PySem.HandSPX in
theorem all_mk {K : PySem.W.Frag} {h : Heap} {mg : Str → Option Value} {f__law_take f__law_asks f__law_mixed f__law_odd_asks f_is_tuple_of f_is_integer f_is_between f_is_row f_check_asks a_g_RULES f_check_rule f_last_ask f_next_ask f_chosen f_played f_anomaly f_check_places f_check_all f_misses f_evicted f__law_said f__law_same f__law_refused f__law_cached f__law_right f__law_box f__law_cell f_law C_InvalidAsks I_InvalidAsks C_InvalidRule I_InvalidRule C_InvalidPlaces I_InvalidPlaces : Addr} (X : K.In h) (G : h.Ns mainGlobals mg)
    {od__law_take an__law_take : Option Addr} {sl__law_take : Array (Option Value)} {oc__law_take kV__law_take dc__law_take pm__law_take cd__law_take ct__law_take : Value}
    {od__law_asks an__law_asks : Option Addr} {sl__law_asks : Array (Option Value)} {oc__law_asks kV__law_asks dc__law_asks pm__law_asks cd__law_asks ct__law_asks : Value}
    {od__law_mixed an__law_mixed : Option Addr} {sl__law_mixed : Array (Option Value)} {oc__law_mixed kV__law_mixed dc__law_mixed pm__law_mixed cd__law_mixed ct__law_mixed : Value}
    {od__law_odd_asks an__law_odd_asks : Option Addr} {sl__law_odd_asks : Array (Option Value)} {oc__law_odd_asks kV__law_odd_asks dc__law_odd_asks pm__law_odd_asks cd__law_odd_asks ct__law_odd_asks : Value}
    {od_is_tuple_of an_is_tuple_of : Option Addr} {sl_is_tuple_of : Array (Option Value)} {oc_is_tuple_of kV_is_tuple_of dc_is_tuple_of pm_is_tuple_of cd_is_tuple_of ct_is_tuple_of : Value}
    {od_is_integer an_is_integer : Option Addr} {sl_is_integer : Array (Option Value)} {oc_is_integer kV_is_integer dc_is_integer pm_is_integer cd_is_integer ct_is_integer : Value}
    {od_is_between an_is_between : Option Addr} {sl_is_between : Array (Option Value)} {oc_is_between kV_is_between dc_is_between pm_is_between cd_is_between ct_is_between : Value}
    {od_is_row an_is_row : Option Addr} {sl_is_row : Array (Option Value)} {oc_is_row kV_is_row dc_is_row pm_is_row cd_is_row ct_is_row : Value}
    {od_check_asks an_check_asks : Option Addr} {sl_check_asks : Array (Option Value)} {oc_check_asks kV_check_asks dc_check_asks pm_check_asks cd_check_asks ct_check_asks : Value}
    {o_g_RULES : Option Addr} {s_g_RULES : Array (Option Value)} {m_g_RULES : Nat}
    {od_check_rule an_check_rule : Option Addr} {sl_check_rule : Array (Option Value)} {oc_check_rule kV_check_rule dc_check_rule pm_check_rule cd_check_rule ct_check_rule : Value}
    {od_last_ask an_last_ask : Option Addr} {sl_last_ask : Array (Option Value)} {oc_last_ask kV_last_ask dc_last_ask pm_last_ask cd_last_ask ct_last_ask : Value}
    {od_next_ask an_next_ask : Option Addr} {sl_next_ask : Array (Option Value)} {oc_next_ask kV_next_ask dc_next_ask pm_next_ask cd_next_ask ct_next_ask : Value}
    {od_chosen an_chosen : Option Addr} {sl_chosen : Array (Option Value)} {oc_chosen kV_chosen dc_chosen pm_chosen cd_chosen ct_chosen : Value}
    {od_played an_played : Option Addr} {sl_played : Array (Option Value)} {oc_played kV_played dc_played pm_played cd_played ct_played : Value}
    {od_anomaly an_anomaly : Option Addr} {sl_anomaly : Array (Option Value)} {oc_anomaly kV_anomaly dc_anomaly pm_anomaly cd_anomaly ct_anomaly : Value}
    {od_check_places an_check_places : Option Addr} {sl_check_places : Array (Option Value)} {oc_check_places kV_check_places dc_check_places pm_check_places cd_check_places ct_check_places : Value}
    {od_check_all an_check_all : Option Addr} {sl_check_all : Array (Option Value)} {oc_check_all kV_check_all dc_check_all pm_check_all cd_check_all ct_check_all : Value}
    {od_misses an_misses : Option Addr} {sl_misses : Array (Option Value)} {oc_misses kV_misses dc_misses pm_misses cd_misses ct_misses : Value}
    {od_evicted an_evicted : Option Addr} {sl_evicted : Array (Option Value)} {oc_evicted kV_evicted dc_evicted pm_evicted cd_evicted ct_evicted : Value}
    {od__law_said an__law_said : Option Addr} {sl__law_said : Array (Option Value)} {oc__law_said kV__law_said dc__law_said pm__law_said cd__law_said ct__law_said : Value}
    {od__law_same an__law_same : Option Addr} {sl__law_same : Array (Option Value)} {oc__law_same kV__law_same dc__law_same pm__law_same cd__law_same ct__law_same : Value}
    {od__law_refused an__law_refused : Option Addr} {sl__law_refused : Array (Option Value)} {oc__law_refused kV__law_refused dc__law_refused pm__law_refused cd__law_refused ct__law_refused : Value}
    {od__law_cached an__law_cached : Option Addr} {sl__law_cached : Array (Option Value)} {oc__law_cached kV__law_cached dc__law_cached pm__law_cached cd__law_cached ct__law_cached : Value}
    {od__law_right an__law_right : Option Addr} {sl__law_right : Array (Option Value)} {oc__law_right kV__law_right dc__law_right pm__law_right cd__law_right ct__law_right : Value}
    {od__law_box an__law_box : Option Addr} {sl__law_box : Array (Option Value)} {oc__law_box kV__law_box dc__law_box pm__law_box cd__law_box ct__law_box : Value}
    {od__law_cell an__law_cell : Option Addr} {sl__law_cell : Array (Option Value)} {oc__law_cell kV__law_cell dc__law_cell pm__law_cell cd__law_cell ct__law_cell : Value}
    {od_law an_law : Option Addr} {sl_law : Array (Option Value)} {oc_law kV_law dc_law pm_law cd_law ct_law : Value}
    {nm_InvalidAsks q_InvalidAsks : Str} {N_InvalidAsks : Addr} {bs_InvalidAsks bm_InvalidAsks sub_InvalidAsks : List Value} {sn_InvalidAsks : List Str} {ab_InvalidAsks : Bool} {col_InvalidAsks : Option Bool} {dd_InvalidAsks od_InvalidAsks an_InvalidAsks : Option Addr} {m0_InvalidAsks m1_InvalidAsks m2_InvalidAsks m3_InvalidAsks m5_InvalidAsks : Option Value} {sl_InvalidAsks : Array (Option Value)} {oc_InvalidAsks dc_InvalidAsks pm_InvalidAsks cd_InvalidAsks ct_InvalidAsks : Value}
    {nm_InvalidRule q_InvalidRule : Str} {N_InvalidRule : Addr} {bs_InvalidRule bm_InvalidRule sub_InvalidRule : List Value} {sn_InvalidRule : List Str} {ab_InvalidRule : Bool} {col_InvalidRule : Option Bool} {dd_InvalidRule od_InvalidRule an_InvalidRule : Option Addr} {m0_InvalidRule m1_InvalidRule m2_InvalidRule m3_InvalidRule m5_InvalidRule : Option Value} {sl_InvalidRule : Array (Option Value)} {oc_InvalidRule dc_InvalidRule pm_InvalidRule cd_InvalidRule ct_InvalidRule : Value}
    {nm_InvalidPlaces q_InvalidPlaces : Str} {N_InvalidPlaces : Addr} {bs_InvalidPlaces bm_InvalidPlaces sub_InvalidPlaces : List Value} {sn_InvalidPlaces : List Str} {ab_InvalidPlaces : Bool} {col_InvalidPlaces : Option Bool} {dd_InvalidPlaces od_InvalidPlaces an_InvalidPlaces : Option Addr} {m0_InvalidPlaces m1_InvalidPlaces m2_InvalidPlaces m3_InvalidPlaces m5_InvalidPlaces : Option Value} {sl_InvalidPlaces : Array (Option Value)} {oc_InvalidPlaces dc_InvalidPlaces pm_InvalidPlaces cd_InvalidPlaces ct_InvalidPlaces : Value}
    {t_g_MOST_PAGE t_g_MOST_ASKS t0_g_RULES t1_g_RULES t2_g_RULES t3_g_RULES t_g_MOST_PLACES : Tok}
    (n_int : PySem.W.nsIn K mainGlobals "int" = some none)
    (a__law_take : PySem.W.nsIn K mainGlobals "_law_take" = some (some (.ref f__law_take)))
    (l__law_take : K.lookup f__law_take = some ⟨oc__law_take, od__law_take, .func (PySem.W.fnOf "_law_take" "_law_take" (defArgs s__law_take) (defBody s__law_take) (defScope s__law_take) .none kV__law_take dc__law_take pm__law_take an__law_take cd__law_take ct__law_take), sl__law_take⟩)
    (c__law_take : PySem.W.codeIn K cd__law_take "_law_take" = true)
    (k__law_take : PySem.W.keepIn K (.ref f__law_take) = true)
    (n_range : PySem.W.nsIn K mainGlobals "range" = some none)
    (n_tuple : PySem.W.nsIn K mainGlobals "tuple" = some none)
    (a__law_asks : PySem.W.nsIn K mainGlobals "_law_asks" = some (some (.ref f__law_asks)))
    (l__law_asks : K.lookup f__law_asks = some ⟨oc__law_asks, od__law_asks, .func (PySem.W.fnOf "_law_asks" "_law_asks" (defArgs s__law_asks) (defBody s__law_asks) (defScope s__law_asks) .none kV__law_asks dc__law_asks pm__law_asks an__law_asks cd__law_asks ct__law_asks), sl__law_asks⟩)
    (c__law_asks : PySem.W.codeIn K cd__law_asks "_law_asks" = true)
    (k__law_asks : PySem.W.keepIn K (.ref f__law_asks) = true)
    (n_list : PySem.W.nsIn K mainGlobals "list" = some none)
    (n_len : PySem.W.nsIn K mainGlobals "len" = some none)
    (a__law_mixed : PySem.W.nsIn K mainGlobals "_law_mixed" = some (some (.ref f__law_mixed)))
    (l__law_mixed : K.lookup f__law_mixed = some ⟨oc__law_mixed, od__law_mixed, .func (PySem.W.fnOf "_law_mixed" "_law_mixed" (defArgs s__law_mixed) (defBody s__law_mixed) (defScope s__law_mixed) .none kV__law_mixed dc__law_mixed pm__law_mixed an__law_mixed cd__law_mixed ct__law_mixed), sl__law_mixed⟩)
    (c__law_mixed : PySem.W.codeIn K cd__law_mixed "_law_mixed" = true)
    (k__law_mixed : PySem.W.keepIn K (.ref f__law_mixed) = true)
    (a__law_odd_asks : PySem.W.nsIn K mainGlobals "_law_odd_asks" = some (some (.ref f__law_odd_asks)))
    (l__law_odd_asks : K.lookup f__law_odd_asks = some ⟨oc__law_odd_asks, od__law_odd_asks, .func (PySem.W.fnOf "_law_odd_asks" "_law_odd_asks" (defArgs s__law_odd_asks) (defBody s__law_odd_asks) (defScope s__law_odd_asks) .none kV__law_odd_asks dc__law_odd_asks pm__law_odd_asks an__law_odd_asks cd__law_odd_asks ct__law_odd_asks), sl__law_odd_asks⟩)
    (c__law_odd_asks : PySem.W.codeIn K cd__law_odd_asks "_law_odd_asks" = true)
    (k__law_odd_asks : PySem.W.keepIn K (.ref f__law_odd_asks) = true)
    (n_isinstance : PySem.W.nsIn K mainGlobals "isinstance" = some none)
    (a_is_tuple_of : PySem.W.nsIn K mainGlobals "is_tuple_of" = some (some (.ref f_is_tuple_of)))
    (l_is_tuple_of : K.lookup f_is_tuple_of = some ⟨oc_is_tuple_of, od_is_tuple_of, .func (PySem.W.fnOf "is_tuple_of" "is_tuple_of" (defArgs s_is_tuple_of) (defBody s_is_tuple_of) (defScope s_is_tuple_of) .none kV_is_tuple_of dc_is_tuple_of pm_is_tuple_of an_is_tuple_of cd_is_tuple_of ct_is_tuple_of), sl_is_tuple_of⟩)
    (c_is_tuple_of : PySem.W.codeIn K cd_is_tuple_of "is_tuple_of" = true)
    (k_is_tuple_of : PySem.W.keepIn K (.ref f_is_tuple_of) = true)
    (n_bool : PySem.W.nsIn K mainGlobals "bool" = some none)
    (a_is_integer : PySem.W.nsIn K mainGlobals "is_integer" = some (some (.ref f_is_integer)))
    (l_is_integer : K.lookup f_is_integer = some ⟨oc_is_integer, od_is_integer, .func (PySem.W.fnOf "is_integer" "is_integer" (defArgs s_is_integer) (defBody s_is_integer) (defScope s_is_integer) .none kV_is_integer dc_is_integer pm_is_integer an_is_integer cd_is_integer ct_is_integer), sl_is_integer⟩)
    (c_is_integer : PySem.W.codeIn K cd_is_integer "is_integer" = true)
    (k_is_integer : PySem.W.keepIn K (.ref f_is_integer) = true)
    (a_is_between : PySem.W.nsIn K mainGlobals "is_between" = some (some (.ref f_is_between)))
    (l_is_between : K.lookup f_is_between = some ⟨oc_is_between, od_is_between, .func (PySem.W.fnOf "is_between" "is_between" (defArgs s_is_between) (defBody s_is_between) (defScope s_is_between) .none kV_is_between dc_is_between pm_is_between an_is_between cd_is_between ct_is_between), sl_is_between⟩)
    (c_is_between : PySem.W.codeIn K cd_is_between "is_between" = true)
    (k_is_between : PySem.W.keepIn K (.ref f_is_between) = true)
    (n_all : PySem.W.nsIn K mainGlobals "all" = some none)
    (a_is_row : PySem.W.nsIn K mainGlobals "is_row" = some (some (.ref f_is_row)))
    (l_is_row : K.lookup f_is_row = some ⟨oc_is_row, od_is_row, .func (PySem.W.fnOf "is_row" "is_row" (defArgs s_is_row) (defBody s_is_row) (defScope s_is_row) .none kV_is_row dc_is_row pm_is_row an_is_row cd_is_row ct_is_row), sl_is_row⟩)
    (c_is_row : PySem.W.codeIn K cd_is_row "is_row" = true)
    (k_is_row : PySem.W.keepIn K (.ref f_is_row) = true)
    (g_MOST_PAGE : PySem.W.nsIn K mainGlobals "MOST_PAGE" = some (some (.int 8 t_g_MOST_PAGE)))
    (g_MOST_ASKS : PySem.W.nsIn K mainGlobals "MOST_ASKS" = some (some (.int 40 t_g_MOST_ASKS)))
    (a_check_asks : PySem.W.nsIn K mainGlobals "check_asks" = some (some (.ref f_check_asks)))
    (l_check_asks : K.lookup f_check_asks = some ⟨oc_check_asks, od_check_asks, .func (PySem.W.fnOf "check_asks" "check_asks" (defArgs s_check_asks) (defBody s_check_asks) (defScope s_check_asks) .none kV_check_asks dc_check_asks pm_check_asks an_check_asks cd_check_asks ct_check_asks), sl_check_asks⟩)
    (c_check_asks : PySem.W.codeIn K cd_check_asks "check_asks" = true)
    (k_check_asks : PySem.W.keepIn K (.ref f_check_asks) = true)
    (g_RULES : PySem.W.nsIn K mainGlobals "RULES" = some (some (.ref a_g_RULES)))
    (l_g_RULES : K.lookup a_g_RULES = some ⟨.type "tuple", o_g_RULES, .seq #[.str "oldest" t0_g_RULES, .str "unused" t1_g_RULES, .str "last" t2_g_RULES, .str "farthest" t3_g_RULES] m_g_RULES, s_g_RULES⟩)
    (n_str : PySem.W.nsIn K mainGlobals "str" = some none)
    (a_check_rule : PySem.W.nsIn K mainGlobals "check_rule" = some (some (.ref f_check_rule)))
    (l_check_rule : K.lookup f_check_rule = some ⟨oc_check_rule, od_check_rule, .func (PySem.W.fnOf "check_rule" "check_rule" (defArgs s_check_rule) (defBody s_check_rule) (defScope s_check_rule) .none kV_check_rule dc_check_rule pm_check_rule an_check_rule cd_check_rule ct_check_rule), sl_check_rule⟩)
    (c_check_rule : PySem.W.codeIn K cd_check_rule "check_rule" = true)
    (k_check_rule : PySem.W.keepIn K (.ref f_check_rule) = true)
    (a_last_ask : PySem.W.nsIn K mainGlobals "last_ask" = some (some (.ref f_last_ask)))
    (l_last_ask : K.lookup f_last_ask = some ⟨oc_last_ask, od_last_ask, .func (PySem.W.fnOf "last_ask" "last_ask" (defArgs s_last_ask) (defBody s_last_ask) (defScope s_last_ask) .none kV_last_ask dc_last_ask pm_last_ask an_last_ask cd_last_ask ct_last_ask), sl_last_ask⟩)
    (c_last_ask : PySem.W.codeIn K cd_last_ask "last_ask" = true)
    (k_last_ask : PySem.W.keepIn K (.ref f_last_ask) = true)
    (a_next_ask : PySem.W.nsIn K mainGlobals "next_ask" = some (some (.ref f_next_ask)))
    (l_next_ask : K.lookup f_next_ask = some ⟨oc_next_ask, od_next_ask, .func (PySem.W.fnOf "next_ask" "next_ask" (defArgs s_next_ask) (defBody s_next_ask) (defScope s_next_ask) .none kV_next_ask dc_next_ask pm_next_ask an_next_ask cd_next_ask ct_next_ask), sl_next_ask⟩)
    (c_next_ask : PySem.W.codeIn K cd_next_ask "next_ask" = true)
    (k_next_ask : PySem.W.keepIn K (.ref f_next_ask) = true)
    (n_min : PySem.W.nsIn K mainGlobals "min" = some none)
    (n_max : PySem.W.nsIn K mainGlobals "max" = some none)
    (a_chosen : PySem.W.nsIn K mainGlobals "chosen" = some (some (.ref f_chosen)))
    (l_chosen : K.lookup f_chosen = some ⟨oc_chosen, od_chosen, .func (PySem.W.fnOf "chosen" "chosen" (defArgs s_chosen) (defBody s_chosen) (defScope s_chosen) .none kV_chosen dc_chosen pm_chosen an_chosen cd_chosen ct_chosen), sl_chosen⟩)
    (c_chosen : PySem.W.codeIn K cd_chosen "chosen" = true)
    (k_chosen : PySem.W.keepIn K (.ref f_chosen) = true)
    (n_enumerate : PySem.W.nsIn K mainGlobals "enumerate" = some none)
    (a_played : PySem.W.nsIn K mainGlobals "played" = some (some (.ref f_played)))
    (l_played : K.lookup f_played = some ⟨oc_played, od_played, .func (PySem.W.fnOf "played" "played" (defArgs s_played) (defBody s_played) (defScope s_played) .none kV_played dc_played pm_played an_played cd_played ct_played), sl_played⟩)
    (c_played : PySem.W.codeIn K cd_played "played" = true)
    (k_played : PySem.W.keepIn K (.ref f_played) = true)
    (g_MOST_PLACES : PySem.W.nsIn K mainGlobals "MOST_PLACES" = some (some (.int 5 t_g_MOST_PLACES)))
    (a_anomaly : PySem.W.nsIn K mainGlobals "anomaly" = some (some (.ref f_anomaly)))
    (l_anomaly : K.lookup f_anomaly = some ⟨oc_anomaly, od_anomaly, .func (PySem.W.fnOf "anomaly" "anomaly" (defArgs s_anomaly) (defBody s_anomaly) (defScope s_anomaly) .none kV_anomaly dc_anomaly pm_anomaly an_anomaly cd_anomaly ct_anomaly), sl_anomaly⟩)
    (c_anomaly : PySem.W.codeIn K cd_anomaly "anomaly" = true)
    (k_anomaly : PySem.W.keepIn K (.ref f_anomaly) = true)
    (a_check_places : PySem.W.nsIn K mainGlobals "check_places" = some (some (.ref f_check_places)))
    (l_check_places : K.lookup f_check_places = some ⟨oc_check_places, od_check_places, .func (PySem.W.fnOf "check_places" "check_places" (defArgs s_check_places) (defBody s_check_places) (defScope s_check_places) .none kV_check_places dc_check_places pm_check_places an_check_places cd_check_places ct_check_places), sl_check_places⟩)
    (c_check_places : PySem.W.codeIn K cd_check_places "check_places" = true)
    (k_check_places : PySem.W.keepIn K (.ref f_check_places) = true)
    (a_check_all : PySem.W.nsIn K mainGlobals "check_all" = some (some (.ref f_check_all)))
    (l_check_all : K.lookup f_check_all = some ⟨oc_check_all, od_check_all, .func (PySem.W.fnOf "check_all" "check_all" (defArgs s_check_all) (defBody s_check_all) (defScope s_check_all) .none kV_check_all dc_check_all pm_check_all an_check_all cd_check_all ct_check_all), sl_check_all⟩)
    (c_check_all : PySem.W.codeIn K cd_check_all "check_all" = true)
    (k_check_all : PySem.W.keepIn K (.ref f_check_all) = true)
    (a_misses : PySem.W.nsIn K mainGlobals "misses" = some (some (.ref f_misses)))
    (l_misses : K.lookup f_misses = some ⟨oc_misses, od_misses, .func (PySem.W.fnOf "misses" "misses" (defArgs s_misses) (defBody s_misses) (defScope s_misses) .none kV_misses dc_misses pm_misses an_misses cd_misses ct_misses), sl_misses⟩)
    (c_misses : PySem.W.codeIn K cd_misses "misses" = true)
    (k_misses : PySem.W.keepIn K (.ref f_misses) = true)
    (a_evicted : PySem.W.nsIn K mainGlobals "evicted" = some (some (.ref f_evicted)))
    (l_evicted : K.lookup f_evicted = some ⟨oc_evicted, od_evicted, .func (PySem.W.fnOf "evicted" "evicted" (defArgs s_evicted) (defBody s_evicted) (defScope s_evicted) .none kV_evicted dc_evicted pm_evicted an_evicted cd_evicted ct_evicted), sl_evicted⟩)
    (c_evicted : PySem.W.codeIn K cd_evicted "evicted" = true)
    (k_evicted : PySem.W.keepIn K (.ref f_evicted) = true)
    (a__law_said : PySem.W.nsIn K mainGlobals "_law_said" = some (some (.ref f__law_said)))
    (l__law_said : K.lookup f__law_said = some ⟨oc__law_said, od__law_said, .func (PySem.W.fnOf "_law_said" "_law_said" (defArgs s__law_said) (defBody s__law_said) (defScope s__law_said) .none kV__law_said dc__law_said pm__law_said an__law_said cd__law_said ct__law_said), sl__law_said⟩)
    (c__law_said : PySem.W.codeIn K cd__law_said "_law_said" = true)
    (k__law_said : PySem.W.keepIn K (.ref f__law_said) = true)
    (a__law_same : PySem.W.nsIn K mainGlobals "_law_same" = some (some (.ref f__law_same)))
    (l__law_same : K.lookup f__law_same = some ⟨oc__law_same, od__law_same, .func (PySem.W.fnOf "_law_same" "_law_same" (defArgs s__law_same) (defBody s__law_same) (defScope s__law_same) .none kV__law_same dc__law_same pm__law_same an__law_same cd__law_same ct__law_same), sl__law_same⟩)
    (c__law_same : PySem.W.codeIn K cd__law_same "_law_same" = true)
    (k__law_same : PySem.W.keepIn K (.ref f__law_same) = true)
    (a__law_refused : PySem.W.nsIn K mainGlobals "_law_refused" = some (some (.ref f__law_refused)))
    (l__law_refused : K.lookup f__law_refused = some ⟨oc__law_refused, od__law_refused, .func (PySem.W.fnOf "_law_refused" "_law_refused" (defArgs s__law_refused) (defBody s__law_refused) (defScope s__law_refused) .none kV__law_refused dc__law_refused pm__law_refused an__law_refused cd__law_refused ct__law_refused), sl__law_refused⟩)
    (c__law_refused : PySem.W.codeIn K cd__law_refused "_law_refused" = true)
    (k__law_refused : PySem.W.keepIn K (.ref f__law_refused) = true)
    (n_sorted : PySem.W.nsIn K mainGlobals "sorted" = some none)
    (n_zip : PySem.W.nsIn K mainGlobals "zip" = some none)
    (a__law_cached : PySem.W.nsIn K mainGlobals "_law_cached" = some (some (.ref f__law_cached)))
    (l__law_cached : K.lookup f__law_cached = some ⟨oc__law_cached, od__law_cached, .func (PySem.W.fnOf "_law_cached" "_law_cached" (defArgs s__law_cached) (defBody s__law_cached) (defScope s__law_cached) .none kV__law_cached dc__law_cached pm__law_cached an__law_cached cd__law_cached ct__law_cached), sl__law_cached⟩)
    (c__law_cached : PySem.W.codeIn K cd__law_cached "_law_cached" = true)
    (k__law_cached : PySem.W.keepIn K (.ref f__law_cached) = true)
    (a__law_right : PySem.W.nsIn K mainGlobals "_law_right" = some (some (.ref f__law_right)))
    (l__law_right : K.lookup f__law_right = some ⟨oc__law_right, od__law_right, .func (PySem.W.fnOf "_law_right" "_law_right" (defArgs s__law_right) (defBody s__law_right) (defScope s__law_right) .none kV__law_right dc__law_right pm__law_right an__law_right cd__law_right ct__law_right), sl__law_right⟩)
    (c__law_right : PySem.W.codeIn K cd__law_right "_law_right" = true)
    (k__law_right : PySem.W.keepIn K (.ref f__law_right) = true)
    (n_abs : PySem.W.nsIn K mainGlobals "abs" = some none)
    (a__law_box : PySem.W.nsIn K mainGlobals "_law_box" = some (some (.ref f__law_box)))
    (l__law_box : K.lookup f__law_box = some ⟨oc__law_box, od__law_box, .func (PySem.W.fnOf "_law_box" "_law_box" (defArgs s__law_box) (defBody s__law_box) (defScope s__law_box) .none kV__law_box dc__law_box pm__law_box an__law_box cd__law_box ct__law_box), sl__law_box⟩)
    (c__law_box : PySem.W.codeIn K cd__law_box "_law_box" = true)
    (k__law_box : PySem.W.keepIn K (.ref f__law_box) = true)
    (n_sum : PySem.W.nsIn K mainGlobals "sum" = some none)
    (a__law_cell : PySem.W.nsIn K mainGlobals "_law_cell" = some (some (.ref f__law_cell)))
    (l__law_cell : K.lookup f__law_cell = some ⟨oc__law_cell, od__law_cell, .func (PySem.W.fnOf "_law_cell" "_law_cell" (defArgs s__law_cell) (defBody s__law_cell) (defScope s__law_cell) .none kV__law_cell dc__law_cell pm__law_cell an__law_cell cd__law_cell ct__law_cell), sl__law_cell⟩)
    (c__law_cell : PySem.W.codeIn K cd__law_cell "_law_cell" = true)
    (k__law_cell : PySem.W.keepIn K (.ref f__law_cell) = true)
    (a_law : PySem.W.nsIn K mainGlobals "law" = some (some (.ref f_law)))
    (l_law : K.lookup f_law = some ⟨oc_law, od_law, .func (PySem.W.fnOf "law" "law" (defArgs s_law) (defBody s_law) (defScope s_law) .none kV_law dc_law pm_law an_law cd_law ct_law), sl_law⟩)
    (c_law : PySem.W.codeIn K cd_law "law" = true)
    (k_law : PySem.W.keepIn K (.ref f_law) = true)
    (aC_InvalidAsks : PySem.W.nsIn K mainGlobals "InvalidAsks" = some (some (.ref C_InvalidAsks)))
    (xL_InvalidAsks : K.lookup C_InvalidAsks = some (excClassObj nm_InvalidAsks q_InvalidAsks C_InvalidAsks N_InvalidAsks bs_InvalidAsks bm_InvalidAsks true sn_InvalidAsks sub_InvalidAsks ab_InvalidAsks col_InvalidAsks dd_InvalidAsks m0_InvalidAsks m1_InvalidAsks m2_InvalidAsks m3_InvalidAsks m5_InvalidAsks "ValueError.__new__"))
    (bv_InvalidAsks : refsVE bm_InvalidAsks = true)
    (sa_InvalidAsks : PySem.W.findIn K (.ref C_InvalidAsks) "__setattr__" = some (some (.builtin "object.__setattr__")))
    (ga_InvalidAsks : PySem.W.findIn K (.ref C_InvalidAsks) "__getattribute__" = some (some (.builtin "BaseException.__getattribute__")))
    (gg_InvalidAsks : PySem.W.findIn K (.ref C_InvalidAsks) "__getattr__" = some none)
    (nb_InvalidAsks : PySem.W.findIn K (.ref C_InvalidAsks) "given" = some none)
    (aI_InvalidAsks : PySem.W.findIn K (.ref C_InvalidAsks) "__init__" = some (some (.ref I_InvalidAsks)))
    (tI_InvalidAsks : PySem.W.typeIn K (.ref I_InvalidAsks) = some (.type "function"))
    (lI_InvalidAsks : K.lookup I_InvalidAsks = some ⟨oc_InvalidAsks, od_InvalidAsks, .func (PySem.W.fnOf "__init__" "InvalidAsks.__init__" (PySem.Zx_given.iA ⟨11, 17, 11, 21⟩ ⟨11, 23, 11, 28⟩) (PySem.Zx_given.iB ⟨12, 8, 12, 12⟩ ⟨12, 8, 12, 18⟩ ⟨12, 21, 12, 26⟩ ⟨12, 8, 12, 26⟩) PySem.Zx_given.iS .none .none dc_InvalidAsks pm_InvalidAsks an_InvalidAsks cd_InvalidAsks ct_InvalidAsks), sl_InvalidAsks⟩)
    (cI_InvalidAsks : PySem.W.codeIn K cd_InvalidAsks "InvalidAsks.__init__" = true)
    (kC_InvalidAsks : PySem.W.keepIn K (.ref C_InvalidAsks) = true)
    (eC_InvalidAsks : PySem.W.subIn K (.ref C_InvalidAsks) (.type "BaseException") = some true)
    (tC_InvalidAsks : PySem.W.typeIn K (.ref C_InvalidAsks) = some (.type "type"))
    (hC_InvalidAsks : PySem.W.hasDictIn K C_InvalidAsks = true)
    (iC_InvalidAsks : PySem.W.isClsIn K C_InvalidAsks = true)
    (aC_InvalidRule : PySem.W.nsIn K mainGlobals "InvalidRule" = some (some (.ref C_InvalidRule)))
    (xL_InvalidRule : K.lookup C_InvalidRule = some (excClassObj nm_InvalidRule q_InvalidRule C_InvalidRule N_InvalidRule bs_InvalidRule bm_InvalidRule true sn_InvalidRule sub_InvalidRule ab_InvalidRule col_InvalidRule dd_InvalidRule m0_InvalidRule m1_InvalidRule m2_InvalidRule m3_InvalidRule m5_InvalidRule "ValueError.__new__"))
    (bv_InvalidRule : refsVE bm_InvalidRule = true)
    (sa_InvalidRule : PySem.W.findIn K (.ref C_InvalidRule) "__setattr__" = some (some (.builtin "object.__setattr__")))
    (ga_InvalidRule : PySem.W.findIn K (.ref C_InvalidRule) "__getattribute__" = some (some (.builtin "BaseException.__getattribute__")))
    (gg_InvalidRule : PySem.W.findIn K (.ref C_InvalidRule) "__getattr__" = some none)
    (nb_InvalidRule : PySem.W.findIn K (.ref C_InvalidRule) "given" = some none)
    (aI_InvalidRule : PySem.W.findIn K (.ref C_InvalidRule) "__init__" = some (some (.ref I_InvalidRule)))
    (tI_InvalidRule : PySem.W.typeIn K (.ref I_InvalidRule) = some (.type "function"))
    (lI_InvalidRule : K.lookup I_InvalidRule = some ⟨oc_InvalidRule, od_InvalidRule, .func (PySem.W.fnOf "__init__" "InvalidRule.__init__" (PySem.Zx_given.iA ⟨6, 17, 6, 21⟩ ⟨6, 23, 6, 28⟩) (PySem.Zx_given.iB ⟨7, 8, 7, 12⟩ ⟨7, 8, 7, 18⟩ ⟨7, 21, 7, 26⟩ ⟨7, 8, 7, 26⟩) PySem.Zx_given.iS .none .none dc_InvalidRule pm_InvalidRule an_InvalidRule cd_InvalidRule ct_InvalidRule), sl_InvalidRule⟩)
    (cI_InvalidRule : PySem.W.codeIn K cd_InvalidRule "InvalidRule.__init__" = true)
    (kC_InvalidRule : PySem.W.keepIn K (.ref C_InvalidRule) = true)
    (eC_InvalidRule : PySem.W.subIn K (.ref C_InvalidRule) (.type "BaseException") = some true)
    (tC_InvalidRule : PySem.W.typeIn K (.ref C_InvalidRule) = some (.type "type"))
    (hC_InvalidRule : PySem.W.hasDictIn K C_InvalidRule = true)
    (iC_InvalidRule : PySem.W.isClsIn K C_InvalidRule = true)
    (aC_InvalidPlaces : PySem.W.nsIn K mainGlobals "InvalidPlaces" = some (some (.ref C_InvalidPlaces)))
    (xL_InvalidPlaces : K.lookup C_InvalidPlaces = some (excClassObj nm_InvalidPlaces q_InvalidPlaces C_InvalidPlaces N_InvalidPlaces bs_InvalidPlaces bm_InvalidPlaces true sn_InvalidPlaces sub_InvalidPlaces ab_InvalidPlaces col_InvalidPlaces dd_InvalidPlaces m0_InvalidPlaces m1_InvalidPlaces m2_InvalidPlaces m3_InvalidPlaces m5_InvalidPlaces "ValueError.__new__"))
    (bv_InvalidPlaces : refsVE bm_InvalidPlaces = true)
    (sa_InvalidPlaces : PySem.W.findIn K (.ref C_InvalidPlaces) "__setattr__" = some (some (.builtin "object.__setattr__")))
    (ga_InvalidPlaces : PySem.W.findIn K (.ref C_InvalidPlaces) "__getattribute__" = some (some (.builtin "BaseException.__getattribute__")))
    (gg_InvalidPlaces : PySem.W.findIn K (.ref C_InvalidPlaces) "__getattr__" = some none)
    (nb_InvalidPlaces : PySem.W.findIn K (.ref C_InvalidPlaces) "given" = some none)
    (aI_InvalidPlaces : PySem.W.findIn K (.ref C_InvalidPlaces) "__init__" = some (some (.ref I_InvalidPlaces)))
    (tI_InvalidPlaces : PySem.W.typeIn K (.ref I_InvalidPlaces) = some (.type "function"))
    (lI_InvalidPlaces : K.lookup I_InvalidPlaces = some ⟨oc_InvalidPlaces, od_InvalidPlaces, .func (PySem.W.fnOf "__init__" "InvalidPlaces.__init__" (PySem.Zx_given.iA ⟨15, 17, 15, 21⟩ ⟨15, 23, 15, 28⟩) (PySem.Zx_given.iB ⟨16, 8, 16, 12⟩ ⟨16, 8, 16, 18⟩ ⟨16, 21, 16, 26⟩ ⟨16, 8, 16, 26⟩) PySem.Zx_given.iS .none .none dc_InvalidPlaces pm_InvalidPlaces an_InvalidPlaces cd_InvalidPlaces ct_InvalidPlaces), sl_InvalidPlaces⟩)
    (cI_InvalidPlaces : PySem.W.codeIn K cd_InvalidPlaces "InvalidPlaces.__init__" = true)
    (kC_InvalidPlaces : PySem.W.keepIn K (.ref C_InvalidPlaces) = true)
    (eC_InvalidPlaces : PySem.W.subIn K (.ref C_InvalidPlaces) (.type "BaseException") = some true)
    (tC_InvalidPlaces : PySem.W.typeIn K (.ref C_InvalidPlaces) = some (.type "type"))
    (hC_InvalidPlaces : PySem.W.hasDictIn K C_InvalidPlaces = true)
    (iC_InvalidPlaces : PySem.W.isClsIn K C_InvalidPlaces = true)
    (s_InvalidAsks_InvalidAsks : PySem.W.subIn K (.ref C_InvalidAsks) (.ref C_InvalidAsks) = some true)
    (s_InvalidAsks_InvalidPlaces : PySem.W.subIn K (.ref C_InvalidAsks) (.ref C_InvalidPlaces) = some false)
    (s_InvalidAsks_InvalidRule : PySem.W.subIn K (.ref C_InvalidAsks) (.ref C_InvalidRule) = some false)
    (s_InvalidPlaces_InvalidAsks : PySem.W.subIn K (.ref C_InvalidPlaces) (.ref C_InvalidAsks) = some false)
    (s_InvalidPlaces_InvalidPlaces : PySem.W.subIn K (.ref C_InvalidPlaces) (.ref C_InvalidPlaces) = some true)
    (s_InvalidPlaces_InvalidRule : PySem.W.subIn K (.ref C_InvalidPlaces) (.ref C_InvalidRule) = some false)
    (s_InvalidRule_InvalidAsks : PySem.W.subIn K (.ref C_InvalidRule) (.ref C_InvalidAsks) = some false)
    (s_InvalidRule_InvalidPlaces : PySem.W.subIn K (.ref C_InvalidRule) (.ref C_InvalidPlaces) = some false)
    (s_InvalidRule_InvalidRule : PySem.W.subIn K (.ref C_InvalidRule) (.ref C_InvalidRule) = some true) :
    Nonempty (Tx K mg) :=
  ⟨{ toTx0 := { n_int := PySem.W.mg_none_of X G n_int, d__law_take := ⟨_, _, fun_mk (st := s__law_take) l__law_take c__law_take k__law_take, PySem.W.mg_of X G a__law_take, (fun_mk (st := s__law_take) l__law_take c__law_take k__law_take).binds (ps := ["box", "many"]) fun _ _ _ _ _ _ us hl => match us, hl with | [_, _], _ => rfl⟩, n_range := PySem.W.mg_none_of X G n_range, n_tuple := PySem.W.mg_none_of X G n_tuple, d__law_asks := ⟨_, _, fun_mk (st := s__law_asks) l__law_asks c__law_asks k__law_asks, PySem.W.mg_of X G a__law_asks, (fun_mk (st := s__law_asks) l__law_asks c__law_asks k__law_asks).binds (ps := ["box"]) fun _ _ _ _ _ _ us hl => match us, hl with | [_], _ => rfl⟩, n_list := PySem.W.mg_none_of X G n_list, n_len := PySem.W.mg_none_of X G n_len, d__law_mixed := ⟨_, _, fun_mk (st := s__law_mixed) l__law_mixed c__law_mixed k__law_mixed, PySem.W.mg_of X G a__law_mixed, (fun_mk (st := s__law_mixed) l__law_mixed c__law_mixed k__law_mixed).binds (ps := ["box", "many"]) fun _ _ _ _ _ _ us hl => match us, hl with | [_, _], _ => rfl⟩, d__law_odd_asks := ⟨_, _, fun_mk (st := s__law_odd_asks) l__law_odd_asks c__law_odd_asks k__law_odd_asks, PySem.W.mg_of X G a__law_odd_asks, (fun_mk (st := s__law_odd_asks) l__law_odd_asks c__law_odd_asks k__law_odd_asks).binds (ps := []) fun _ _ _ _ _ _ us hl => match us, hl with | [], _ => rfl⟩, n_isinstance := PySem.W.mg_none_of X G n_isinstance, d_is_tuple_of := ⟨_, _, fun_mk (st := s_is_tuple_of) l_is_tuple_of c_is_tuple_of k_is_tuple_of, PySem.W.mg_of X G a_is_tuple_of, (fun_mk (st := s_is_tuple_of) l_is_tuple_of c_is_tuple_of k_is_tuple_of).binds (ps := ["value", "many"]) fun _ _ _ _ _ _ us hl => match us, hl with | [_, _], _ => rfl⟩, n_bool := PySem.W.mg_none_of X G n_bool, d_is_integer := ⟨_, _, fun_mk (st := s_is_integer) l_is_integer c_is_integer k_is_integer, PySem.W.mg_of X G a_is_integer, (fun_mk (st := s_is_integer) l_is_integer c_is_integer k_is_integer).binds (ps := ["value"]) fun _ _ _ _ _ _ us hl => match us, hl with | [_], _ => rfl⟩, d_is_between := ⟨_, _, fun_mk (st := s_is_between) l_is_between c_is_between k_is_between, PySem.W.mg_of X G a_is_between, (fun_mk (st := s_is_between) l_is_between c_is_between k_is_between).binds (ps := ["value", "least", "most"]) fun _ _ _ _ _ _ us hl => match us, hl with | [_, _, _], _ => rfl⟩, n_all := PySem.W.mg_none_of X G n_all, d_is_row := ⟨_, _, fun_mk (st := s_is_row) l_is_row c_is_row k_is_row, PySem.W.mg_of X G a_is_row, (fun_mk (st := s_is_row) l_is_row c_is_row k_is_row).binds (ps := ["value", "many", "least", "most"]) fun _ _ _ _ _ _ us hl => match us, hl with | [_, _, _, _], _ => rfl⟩, g_MOST_PAGE := ⟨_, PySem.W.mg_of X G g_MOST_PAGE⟩, g_MOST_ASKS := ⟨_, PySem.W.mg_of X G g_MOST_ASKS⟩, d_check_asks := ⟨_, _, fun_mk (st := s_check_asks) l_check_asks c_check_asks k_check_asks, PySem.W.mg_of X G a_check_asks, (fun_mk (st := s_check_asks) l_check_asks c_check_asks k_check_asks).binds (ps := ["asks"]) fun _ _ _ _ _ _ us hl => match us, hl with | [_], _ => rfl⟩, g_RULES := ⟨_, _, _, _, PySem.W.mg_of X G g_RULES, l_g_RULES, rfl, rfl, (show 4 ≤ sizeLine by decide), (.cons (.str _ _) (.cons (.str _ _) (.cons (.str _ _) (.cons (.str _ _) .nil))))⟩, n_str := PySem.W.mg_none_of X G n_str, d_check_rule := ⟨_, _, fun_mk (st := s_check_rule) l_check_rule c_check_rule k_check_rule, PySem.W.mg_of X G a_check_rule, (fun_mk (st := s_check_rule) l_check_rule c_check_rule k_check_rule).binds (ps := ["rule"]) fun _ _ _ _ _ _ us hl => match us, hl with | [_], _ => rfl⟩, d_last_ask := ⟨_, _, fun_mk (st := s_last_ask) l_last_ask c_last_ask k_last_ask, PySem.W.mg_of X G a_last_ask, (fun_mk (st := s_last_ask) l_last_ask c_last_ask k_last_ask).binds (ps := ["asks", "index", "page"]) fun _ _ _ _ _ _ us hl => match us, hl with | [_, _, _], _ => rfl⟩, d_next_ask := ⟨_, _, fun_mk (st := s_next_ask) l_next_ask c_next_ask k_next_ask, PySem.W.mg_of X G a_next_ask, (fun_mk (st := s_next_ask) l_next_ask c_next_ask k_next_ask).binds (ps := ["asks", "index", "page"]) fun _ _ _ _ _ _ us hl => match us, hl with | [_, _, _], _ => rfl⟩, n_min := PySem.W.mg_none_of X G n_min, n_max := PySem.W.mg_none_of X G n_max, d_chosen := ⟨_, _, fun_mk (st := s_chosen) l_chosen c_chosen k_chosen, PySem.W.mg_of X G a_chosen, (fun_mk (st := s_chosen) l_chosen c_chosen k_chosen).binds (ps := ["asks", "index", "cache", "rule"]) fun _ _ _ _ _ _ us hl => match us, hl with | [_, _, _, _], _ => rfl⟩, n_enumerate := PySem.W.mg_none_of X G n_enumerate, d_played := ⟨_, _, fun_mk (st := s_played) l_played c_played k_played, PySem.W.mg_of X G a_played, (fun_mk (st := s_played) l_played c_played k_played).binds (ps := ["asks", "places", "rule"]) fun _ _ _ _ _ _ us hl => match us, hl with | [_, _, _], _ => rfl⟩, g_MOST_PLACES := ⟨_, PySem.W.mg_of X G g_MOST_PLACES⟩, d_anomaly := ⟨_, _, fun_mk (st := s_anomaly) l_anomaly c_anomaly k_anomaly, PySem.W.mg_of X G a_anomaly, (fun_mk (st := s_anomaly) l_anomaly c_anomaly k_anomaly).binds (ps := ["asks", "rule"]) fun _ _ _ _ _ _ us hl => match us, hl with | [_, _], _ => rfl⟩, d_check_places := ⟨_, _, fun_mk (st := s_check_places) l_check_places c_check_places k_check_places, PySem.W.mg_of X G a_check_places, (fun_mk (st := s_check_places) l_check_places c_check_places k_check_places).binds (ps := ["places"]) fun _ _ _ _ _ _ us hl => match us, hl with | [_], _ => rfl⟩, d_check_all := ⟨_, _, fun_mk (st := s_check_all) l_check_all c_check_all k_check_all, PySem.W.mg_of X G a_check_all, (fun_mk (st := s_check_all) l_check_all c_check_all k_check_all).binds (ps := ["asks", "places", "rule"]) fun _ _ _ _ _ _ us hl => match us, hl with | [_, _, _], _ => rfl⟩, d_misses := ⟨_, _, fun_mk (st := s_misses) l_misses c_misses k_misses, PySem.W.mg_of X G a_misses, (fun_mk (st := s_misses) l_misses c_misses k_misses).binds (ps := ["asks", "places", "rule"]) fun _ _ _ _ _ _ us hl => match us, hl with | [_, _, _], _ => rfl⟩, d_evicted := ⟨_, _, fun_mk (st := s_evicted) l_evicted c_evicted k_evicted, PySem.W.mg_of X G a_evicted, (fun_mk (st := s_evicted) l_evicted c_evicted k_evicted).binds (ps := ["asks", "places", "rule"]) fun _ _ _ _ _ _ us hl => match us, hl with | [_, _, _], _ => rfl⟩, d__law_said := ⟨_, _, fun_mk (st := s__law_said) l__law_said c__law_said k__law_said, PySem.W.mg_of X G a__law_said, (fun_mk (st := s__law_said) l__law_said c__law_said k__law_said).binds (ps := ["way", "asks", "places", "rule"]) fun _ _ _ _ _ _ us hl => match us, hl with | [_, _, _, _], _ => rfl⟩, d__law_same := ⟨_, _, fun_mk (st := s__law_same) l__law_same c__law_same k__law_same, PySem.W.mg_of X G a__law_same, (fun_mk (st := s__law_same) l__law_same c__law_same k__law_same).binds (ps := ["told", "due"]) fun _ _ _ _ _ _ us hl => match us, hl with | [_, _], _ => rfl⟩, d__law_refused := ⟨_, _, fun_mk (st := s__law_refused) l__law_refused c__law_refused k__law_refused, PySem.W.mg_of X G a__law_refused, (fun_mk (st := s__law_refused) l__law_refused c__law_refused k__law_refused).binds (ps := ["box", "asks"]) fun _ _ _ _ _ _ us hl => match us, hl with | [_, _], _ => rfl⟩, n_sorted := PySem.W.mg_none_of X G n_sorted, n_zip := PySem.W.mg_none_of X G n_zip, d__law_cached := ⟨_, _, fun_mk (st := s__law_cached) l__law_cached c__law_cached k__law_cached, PySem.W.mg_of X G a__law_cached, (fun_mk (st := s__law_cached) l__law_cached c__law_cached k__law_cached).binds (ps := ["asks", "places", "rule"]) fun _ _ _ _ _ _ us hl => match us, hl with | [_, _, _], _ => rfl⟩, d__law_right := ⟨_, _, fun_mk (st := s__law_right) l__law_right c__law_right k__law_right, PySem.W.mg_of X G a__law_right, (fun_mk (st := s__law_right) l__law_right c__law_right k__law_right).binds (ps := ["box"]) fun _ _ _ _ _ _ us hl => match us, hl with | [_], _ => rfl⟩, n_abs := PySem.W.mg_none_of X G n_abs, d__law_box := ⟨_, _, fun_mk (st := s__law_box) l__law_box c__law_box k__law_box, PySem.W.mg_of X G a__law_box, (fun_mk (st := s__law_box) l__law_box c__law_box k__law_box).binds (ps := ["great"]) fun _ _ _ _ _ _ us hl => match us, hl with | [_], _ => rfl⟩, n_sum := PySem.W.mg_none_of X G n_sum, d__law_cell := ⟨_, _, fun_mk (st := s__law_cell) l__law_cell c__law_cell k__law_cell, PySem.W.mg_of X G a__law_cell, (fun_mk (st := s__law_cell) l__law_cell c__law_cell k__law_cell).binds (ps := ["script", "k"]) fun _ _ _ _ _ _ us hl => match us, hl with | [_, _], _ => rfl⟩, d_law := ⟨_, _, fun_mk (st := s_law) l_law c_law k_law, PySem.W.mg_of X G a_law, (fun_mk (st := s_law) l_law c_law k_law).binds (ps := ["script"]) fun _ _ _ _ _ _ us hl => match us, hl with | [_], _ => rfl⟩, sib := (sib_cons (PySem.W.mg_of X G aC_InvalidAsks) (sibr_cons (PySem.W.mg_of X G aC_InvalidAsks) (exm_pair eC_InvalidAsks iC_InvalidAsks tC_InvalidAsks s_InvalidAsks_InvalidAsks) (by decide) (sibr_cons (PySem.W.mg_of X G aC_InvalidPlaces) (exm_pair eC_InvalidPlaces iC_InvalidPlaces tC_InvalidPlaces s_InvalidAsks_InvalidPlaces) (by decide) (sibr_cons (PySem.W.mg_of X G aC_InvalidRule) (exm_pair eC_InvalidRule iC_InvalidRule tC_InvalidRule s_InvalidAsks_InvalidRule) (by decide) sibr_nil))) (sib_cons (PySem.W.mg_of X G aC_InvalidPlaces) (sibr_cons (PySem.W.mg_of X G aC_InvalidAsks) (exm_pair eC_InvalidAsks iC_InvalidAsks tC_InvalidAsks s_InvalidPlaces_InvalidAsks) (by decide) (sibr_cons (PySem.W.mg_of X G aC_InvalidPlaces) (exm_pair eC_InvalidPlaces iC_InvalidPlaces tC_InvalidPlaces s_InvalidPlaces_InvalidPlaces) (by decide) (sibr_cons (PySem.W.mg_of X G aC_InvalidRule) (exm_pair eC_InvalidRule iC_InvalidRule tC_InvalidRule s_InvalidPlaces_InvalidRule) (by decide) sibr_nil))) (sib_cons (PySem.W.mg_of X G aC_InvalidRule) (sibr_cons (PySem.W.mg_of X G aC_InvalidAsks) (exm_pair eC_InvalidAsks iC_InvalidAsks tC_InvalidAsks s_InvalidRule_InvalidAsks) (by decide) (sibr_cons (PySem.W.mg_of X G aC_InvalidPlaces) (exm_pair eC_InvalidPlaces iC_InvalidPlaces tC_InvalidPlaces s_InvalidRule_InvalidPlaces) (by decide) (sibr_cons (PySem.W.mg_of X G aC_InvalidRule) (exm_pair eC_InvalidRule iC_InvalidRule tC_InvalidRule s_InvalidRule_InvalidRule) (by decide) sibr_nil))) sib_nil))) }, C_InvalidAsks := C_InvalidAsks, I_InvalidAsks := I_InvalidAsks, x_InvalidAsks := { gC := PySem.W.mg_of X G aC_InvalidAsks, cls := ⟨nm_InvalidAsks, q_InvalidAsks, N_InvalidAsks, bs_InvalidAsks, bm_InvalidAsks, sn_InvalidAsks, sub_InvalidAsks, ab_InvalidAsks, col_InvalidAsks, dd_InvalidAsks, m0_InvalidAsks, m1_InvalidAsks, m2_InvalidAsks, m3_InvalidAsks, m5_InvalidAsks, xL_InvalidAsks, bv_InvalidAsks⟩, sa := sa_InvalidAsks, ga := ga_InvalidAsks, gg := gg_InvalidAsks, noN := nb_InvalidAsks, iC := aI_InvalidAsks, tC := tI_InvalidAsks, kC := kC_InvalidAsks, exC := eC_InvalidAsks, tyC := tC_InvalidAsks, hdC := hC_InvalidAsks, te := exm_pair eC_InvalidAsks iC_InvalidAsks tC_InvalidAsks s_InvalidAsks_InvalidAsks, fn := ⟨_, _, _, _, _, _, _, _, _, _, _, _, _, _, lI_InvalidAsks, cI_InvalidAsks⟩ }, C_InvalidRule := C_InvalidRule, I_InvalidRule := I_InvalidRule, x_InvalidRule := { gC := PySem.W.mg_of X G aC_InvalidRule, cls := ⟨nm_InvalidRule, q_InvalidRule, N_InvalidRule, bs_InvalidRule, bm_InvalidRule, sn_InvalidRule, sub_InvalidRule, ab_InvalidRule, col_InvalidRule, dd_InvalidRule, m0_InvalidRule, m1_InvalidRule, m2_InvalidRule, m3_InvalidRule, m5_InvalidRule, xL_InvalidRule, bv_InvalidRule⟩, sa := sa_InvalidRule, ga := ga_InvalidRule, gg := gg_InvalidRule, noN := nb_InvalidRule, iC := aI_InvalidRule, tC := tI_InvalidRule, kC := kC_InvalidRule, exC := eC_InvalidRule, tyC := tC_InvalidRule, hdC := hC_InvalidRule, te := exm_pair eC_InvalidRule iC_InvalidRule tC_InvalidRule s_InvalidRule_InvalidRule, fn := ⟨_, _, _, _, _, _, _, _, _, _, _, _, _, _, lI_InvalidRule, cI_InvalidRule⟩ }, C_InvalidPlaces := C_InvalidPlaces, I_InvalidPlaces := I_InvalidPlaces, x_InvalidPlaces := { gC := PySem.W.mg_of X G aC_InvalidPlaces, cls := ⟨nm_InvalidPlaces, q_InvalidPlaces, N_InvalidPlaces, bs_InvalidPlaces, bm_InvalidPlaces, sn_InvalidPlaces, sub_InvalidPlaces, ab_InvalidPlaces, col_InvalidPlaces, dd_InvalidPlaces, m0_InvalidPlaces, m1_InvalidPlaces, m2_InvalidPlaces, m3_InvalidPlaces, m5_InvalidPlaces, xL_InvalidPlaces, bv_InvalidPlaces⟩, sa := sa_InvalidPlaces, ga := ga_InvalidPlaces, gg := gg_InvalidPlaces, noN := nb_InvalidPlaces, iC := aI_InvalidPlaces, tC := tI_InvalidPlaces, kC := kC_InvalidPlaces, exC := eC_InvalidPlaces, tyC := tC_InvalidPlaces, hdC := hC_InvalidPlaces, te := exm_pair eC_InvalidPlaces iC_InvalidPlaces tC_InvalidPlaces s_InvalidPlaces_InvalidPlaces, fn := ⟨_, _, _, _, _, _, _, _, _, _, _, _, _, _, lI_InvalidPlaces, cI_InvalidPlaces⟩ } }⟩
theorem law_fn {P : Program} {w : World} {K : PySem.W.Frag} {mg : Str → Option Value} {fa : Addr} (hfa : mg "law" = some (.ref fa)) (N : Nonempty (Tx K mg)) : ∃ fd : FuncData, (∀ (s : Shared) (u : Value), BindsTo s fd ⟨[u], []⟩ [("script", u)]) ∧
    ∀ base : Heap, K.In base → base.Ns mainGlobals mg → FnOk P w K mg base (CXP P w) 13 fa fd ["script"] (fun us H Q E => ∀ mg, spM ⟨K, mg⟩ m_law us H Q E) := by
  obtain ⟨T⟩ := N
  exact head_fn hfa T.d_law (fun base => ok_law T) fun _ _ _ _ _ _ _ _ => .of_eq rfl
end Z
namespace Pg
/-! ### caches as sets of the pages 0 .. 8; runs and their misses -/
abbrev Set9 := Nat → Bool
def card (C : Set9) : Nat := (C 0).toNat + (C 1).toNat + (C 2).toNat + (C 3).toNat + (C 4).toNat + (C 5).toNat + (C 6).toNat + (C 7).toNat + (C 8).toNat
def ins (C : Set9) (p : Nat) : Set9 := fun x => C x || x == p
def del (C : Set9) (q : Nat) : Set9 := fun x => C x && x != q
def emp : Set9 := fun _ => false
def Sup (C : Set9) : Prop := ∀ x, C x = true → x < 9
theorem ins_iff {C : Set9} {p x : Nat} : ins C p x = true ↔ C x = true ∨ x = p := by simp [ins]
theorem del_iff {C : Set9} {q x : Nat} : del C q x = true ↔ C x = true ∧ x ≠ q := by simp [del]
theorem le_toNat {a b : Bool} (h : a = true → b = true) : a.toNat ≤ b.toNat := by cases a <;> cases b <;> simp_all
theorem card_mono {C D : Set9} (h : ∀ x, x < 9 → C x = true → D x = true) : card C ≤ card D := by
  unfold card
  have h0 := le_toNat (h 0 (by omega)); have h1 := le_toNat (h 1 (by omega)); have h2 := le_toNat (h 2 (by omega)); have h3 := le_toNat (h 3 (by omega)); have h4 := le_toNat (h 4 (by omega))
  have h5 := le_toNat (h 5 (by omega)); have h6 := le_toNat (h 6 (by omega)); have h7 := le_toNat (h 7 (by omega)); have h8 := le_toNat (h 8 (by omega))
  omega
theorem nine {p : Nat} (h : p < 9) : p = 0 ∨ p = 1 ∨ p = 2 ∨ p = 3 ∨ p = 4 ∨ p = 5 ∨ p = 6 ∨ p = 7 ∨ p = 8 := by omega
theorem card_ins {C : Set9} {p : Nat} (h : p < 9) (hp : C p = false) : card (ins C p) = card C + 1 := by
  unfold card ins
  rcases nine h with rfl | rfl | rfl | rfl | rfl | rfl | rfl | rfl | rfl <;> simp [hp] <;> omega
theorem card_del {C : Set9} {q : Nat} (h : q < 9) (hq : C q = true) : card (del C q) + 1 = card C := by
  unfold card del
  rcases nine h with rfl | rfl | rfl | rfl | rfl | rfl | rfl | rfl | rfl <;> simp [hq] <;> omega
theorem card_emp : card emp = 0 := rfl
theorem Sup.ins {C : Set9} {p : Nat} (h : Sup C) (hp : p < 9) : Sup (ins C p) := fun x hx => by
  rcases ins_iff.mp hx with hx | rfl
  · exact h x hx
  · exact hp
theorem Sup.del {C : Set9} {q : Nat} (h : Sup C) : Sup (del C q) := fun x hx => h x (del_iff.mp hx).1
theorem ex_of_lt {C D : Set9} (h : card C < card D) : ∃ x, x < 9 ∧ D x = true ∧ C x = false := by
  apply Classical.byContradiction
  intro n
  have := card_mono (C := D) (D := C) fun x hx hd => by
    cases hc : C x with
    | true => rfl
    | false => exact absurd ⟨x, hx, hd, hc⟩ n
  omega
theorem ex_of_le {C D : Set9} {b : Nat} (hb : b < 9) (h : card C ≤ card D) (h1 : C b = true) (h2 : D b = false) : ∃ x, x < 9 ∧ D x = true ∧ C x = false := by
  have q := card_ins hb h2
  obtain ⟨x, hx, h3, h4⟩ := ex_of_lt (C := C) (D := ins D b) (by omega)
  rcases ins_iff.mp h3 with h3 | rfl
  · exact ⟨x, hx, h3, h4⟩
  · rw [h1] at h4; cases h4
theorem card_swap {C : Set9} {p q : Nat} (hp : p < 9) (hq : q < 9) (h1 : C p = false) (h2 : C q = true) : card (ins (del C q) p) = card C := by
  have := card_del hq h2
  have := card_ins (C := del C q) hp (by simp [del, h1])
  omega
inductive Run (k : Nat) : Set9 → List Nat → Nat → Prop
  | nil {C : Set9} : Run k C [] 0
  | hit {C : Set9} {p n : Nat} {σ : List Nat} : C p = true → Run k C σ n → Run k C (p :: σ) n
  | add {C : Set9} {p n : Nat} {σ : List Nat} : C p = false → card C < k → Run k (ins C p) σ n → Run k C (p :: σ) (n + 1)
  | swp {C : Set9} {p q n : Nat} {σ : List Nat} : C p = false → card C = k → C q = true → Run k (ins (del C q) p) σ n → Run k C (p :: σ) (n + 1)
/-- a larger cache, or one of the same pages, has not more misses -/
theorem mono {k k' : Nat} (hk : k ≤ k') : ∀ (σ : List Nat) (C D : Set9) (n : Nat), (∀ p ∈ σ, p < 9) → Sup C → Sup D → card C ≤ k → card D ≤ k' → (∀ x, C x = true → D x = true) → Run k C σ n → ∃ m, m ≤ n ∧ Run k' D σ m := by
  intro σ
  induction σ with
  | nil =>
    intro C D n _ _ _ _ _ _ r
    exact ⟨0, Nat.zero_le _, .nil⟩
  | cons p σ ih =>
    intro C D n hσ sC sD cC cD sub r
    have hp := hσ p List.mem_cons_self
    have hσ' : ∀ p ∈ σ, p < 9 := fun x hx => hσ x (List.mem_cons_of_mem _ hx)
    cases hd : D p with
    | true =>
      cases r with
      | hit _ r =>
        obtain ⟨m, h1, h2⟩ := ih C D n hσ' sC sD cC cD sub r
        exact ⟨m, h1, .hit hd h2⟩
      | @add _ _ n' _ hc h r =>
        obtain ⟨m, h1, h2⟩ := ih (ins C p) D n' hσ' (sC.ins hp) sD (by rw [card_ins hp hc]; omega) cD (fun x hx => by rcases ins_iff.mp hx with hx | rfl; exact sub x hx; exact hd) r
        exact ⟨m, by omega, .hit hd h2⟩
      | @swp _ _ q n' _ hc h hq r =>
        obtain ⟨m, h1, h2⟩ := ih (ins (del C q) p) D n' hσ' (sC.del.ins hp) sD (by rw [card_swap hp (sC q hq) hc hq]; omega) cD (fun x hx => by rcases ins_iff.mp hx with hx | rfl; exact sub x (del_iff.mp hx).1; exact hd) r
        exact ⟨m, by omega, .hit hd h2⟩
    | false =>
      by_cases room : card D < k'
      · have cD' : card (ins D p) ≤ k' := by rw [card_ins hp hd]; omega
        cases r with
        | hit hc r => rw [sub p hc] at hd; cases hd
        | @add _ _ n' _ hc h r =>
          obtain ⟨m, h1, h2⟩ := ih (ins C p) (ins D p) n' hσ' (sC.ins hp) (sD.ins hp) (by rw [card_ins hp hc]; omega) cD' (fun x hx => by rcases ins_iff.mp hx with hx | rfl; exact ins_iff.mpr (.inl (sub x hx)); exact ins_iff.mpr (.inr rfl)) r
          exact ⟨m + 1, by omega, .add hd room h2⟩
        | @swp _ _ q n' _ hc h hq r =>
          obtain ⟨m, h1, h2⟩ := ih (ins (del C q) p) (ins D p) n' hσ' (sC.del.ins hp) (sD.ins hp) (by rw [card_swap hp (sC q hq) hc hq]; omega) cD' (fun x hx => by rcases ins_iff.mp hx with hx | rfl; exact ins_iff.mpr (.inl (sub x (del_iff.mp hx).1)); exact ins_iff.mpr (.inr rfl)) r
          exact ⟨m + 1, by omega, .add hd room h2⟩
      · have full : card D = k' := by omega
        cases r with
        | hit hc r => rw [sub p hc] at hd; cases hd
        | @add _ _ n' _ hc h r =>
          obtain ⟨x, x9, xd, xc⟩ := ex_of_lt (C := C) (D := D) (by omega)
          obtain ⟨m, h1, h2⟩ := ih (ins C p) (ins (del D x) p) n' hσ' (sC.ins hp) (sD.del.ins hp) (by rw [card_ins hp hc]; omega) (by rw [card_swap hp x9 hd xd]; omega) (fun y hy => by
            rcases ins_iff.mp hy with hy | rfl
            · exact ins_iff.mpr (.inl (del_iff.mpr ⟨sub y hy, fun e => by rw [e, xc] at hy; cases hy⟩))
            · exact ins_iff.mpr (.inr rfl)) r
          exact ⟨m + 1, by omega, .swp hd full xd h2⟩
        | @swp _ _ q n' _ hc h hq r =>
          obtain ⟨m, h1, h2⟩ := ih (ins (del C q) p) (ins (del D q) p) n' hσ' (sC.del.ins hp) (sD.del.ins hp) (by rw [card_swap hp (sC q hq) hc hq]; omega) (by rw [card_swap hp (sC q hq) hd (sub q hq)]; omega) (fun y hy => by
            rcases ins_iff.mp hy with hy | rfl
            · exact ins_iff.mpr (.inl (del_iff.mpr ⟨sub y (del_iff.mp hy).1, (del_iff.mp hy).2⟩))
            · exact ins_iff.mpr (.inr rfl)) r
          exact ⟨m + 1, by omega, .swp hd full (sub q hq) h2⟩
/-- one page apart: at most one miss more -/
theorem near {k : Nat} : ∀ (σ : List Nat) (C D : Set9) (b n : Nat), (∀ p ∈ σ, p < 9) → Sup C → Sup D → card C ≤ k → card D ≤ k → (∀ x, C x = true → D x = true ∨ x = b) → Run k C σ n → ∃ m, m ≤ n + 1 ∧ Run k D σ m := by
  intro σ
  induction σ with
  | nil =>
    intro C D b n _ _ _ _ _ _ r
    exact ⟨0, Nat.zero_le _, .nil⟩
  | cons p σ ih =>
    intro C D b n hσ sC sD cC cD sub r
    have hp := hσ p List.mem_cons_self
    have hσ' : ∀ p ∈ σ, p < 9 := fun x hx => hσ x (List.mem_cons_of_mem _ hx)
    cases hd : D p with
    | true =>
      cases r with
      | hit _ r =>
        obtain ⟨m, h1, h2⟩ := ih C D b n hσ' sC sD cC cD sub r
        exact ⟨m, h1, .hit hd h2⟩
      | @add _ _ n' _ hc h r =>
        obtain ⟨m, h1, h2⟩ := ih (ins C p) D b n' hσ' (sC.ins hp) sD (by rw [card_ins hp hc]; omega) cD (fun x hx => by rcases ins_iff.mp hx with hx | rfl; exact sub x hx; exact .inl hd) r
        exact ⟨m, by omega, .hit hd h2⟩
      | @swp _ _ q n' _ hc h hq r =>
        obtain ⟨m, h1, h2⟩ := ih (ins (del C q) p) D b n' hσ' (sC.del.ins hp) sD (by rw [card_swap hp (sC q hq) hc hq]; omega) cD (fun x hx => by rcases ins_iff.mp hx with hx | rfl; exact sub x (del_iff.mp hx).1; exact .inl hd) r
        exact ⟨m, by omega, .hit hd h2⟩
    | false =>
      by_cases room : card D < k
      · have cD' : card (ins D p) ≤ k := by rw [card_ins hp hd]; omega
        cases r with
        | hit hc r =>
          have hb : p = b := by rcases sub p hc with e | e; rw [hd] at e; cases e; exact e
          obtain ⟨m, h1, h2⟩ := mono (Nat.le_refl k) σ C (ins D p) n hσ' sC (sD.ins hp) cC cD' (fun x hx => by rcases sub x hx with e | e; exact ins_iff.mpr (.inl e); exact ins_iff.mpr (.inr (by omega))) r
          exact ⟨m + 1, by omega, .add hd room h2⟩
        | @add _ _ n' _ hc h r =>
          obtain ⟨m, h1, h2⟩ := ih (ins C p) (ins D p) b n' hσ' (sC.ins hp) (sD.ins hp) (by rw [card_ins hp hc]; omega) cD' (fun x hx => by
            rcases ins_iff.mp hx with hx | rfl
            · rcases sub x hx with e | e
              · exact .inl (ins_iff.mpr (.inl e))
              · exact .inr e
            · exact .inl (ins_iff.mpr (.inr rfl))) r
          exact ⟨m + 1, by omega, .add hd room h2⟩
        | @swp _ _ q n' _ hc h hq r =>
          obtain ⟨m, h1, h2⟩ := ih (ins (del C q) p) (ins D p) b n' hσ' (sC.del.ins hp) (sD.ins hp) (by rw [card_swap hp (sC q hq) hc hq]; omega) cD' (fun x hx => by
            rcases ins_iff.mp hx with hx | rfl
            · rcases sub x (del_iff.mp hx).1 with e | e
              · exact .inl (ins_iff.mpr (.inl e))
              · exact .inr e
            · exact .inl (ins_iff.mpr (.inr rfl))) r
          exact ⟨m + 1, by omega, .add hd room h2⟩
      · have full : card D = k := by omega
        cases r with
        | hit hc r =>
          have hb : p = b := by rcases sub p hc with e | e; rw [hd] at e; cases e; exact e
          obtain ⟨x, x9, xd, xc⟩ := ex_of_le (C := C) (D := D) hp (by omega) hc hd
          obtain ⟨m, h1, h2⟩ := mono (Nat.le_refl k) σ C (ins (del D x) p) n hσ' sC (sD.del.ins hp) cC (by rw [card_swap hp x9 hd xd]; omega) (fun y hy => by
            rcases sub y hy with e | e
            · exact ins_iff.mpr (.inl (del_iff.mpr ⟨e, fun z => by rw [z, xc] at hy; cases hy⟩))
            · exact ins_iff.mpr (.inr (by omega))) r
          exact ⟨m + 1, by omega, .swp hd full xd h2⟩
        | @add _ _ n' _ hc h r =>
          obtain ⟨x, x9, xd, xc⟩ := ex_of_lt (C := C) (D := D) (by omega)
          obtain ⟨m, h1, h2⟩ := ih (ins C p) (ins (del D x) p) b n' hσ' (sC.ins hp) (sD.del.ins hp) (by rw [card_ins hp hc]; omega) (by rw [card_swap hp x9 hd xd]; omega) (fun y hy => by
            rcases ins_iff.mp hy with hy | rfl
            · rcases sub y hy with e | e
              · exact .inl (ins_iff.mpr (.inl (del_iff.mpr ⟨e, fun z => by rw [z, xc] at hy; cases hy⟩)))
              · exact .inr e
            · exact .inl (ins_iff.mpr (.inr rfl))) r
          exact ⟨m + 1, by omega, .swp hd full xd h2⟩
        | @swp _ _ q n' _ hc h hq r =>
          cases hdq : D q with
          | true =>
            obtain ⟨m, h1, h2⟩ := ih (ins (del C q) p) (ins (del D q) p) b n' hσ' (sC.del.ins hp) (sD.del.ins hp) (by rw [card_swap hp (sC q hq) hc hq]; omega) (by rw [card_swap hp (sC q hq) hd hdq]; omega) (fun y hy => by
              rcases ins_iff.mp hy with hy | rfl
              · have ⟨y1, y2⟩ := del_iff.mp hy
                rcases sub y y1 with e | e
                · exact .inl (ins_iff.mpr (.inl (del_iff.mpr ⟨e, y2⟩)))
                · exact .inr e
              · exact .inl (ins_iff.mpr (.inr rfl))) r
            exact ⟨m + 1, by omega, .swp hd full hdq h2⟩
          | false =>
            have hb : q = b := by rcases sub q hq with e | e; rw [hdq] at e; cases e; exact e
            obtain ⟨x, x9, xd, xc⟩ := ex_of_le (C := C) (D := D) (sC q hq) (by omega) hq hdq
            obtain ⟨m, h1, h2⟩ := ih (ins (del C q) p) (ins (del D x) p) b n' hσ' (sC.del.ins hp) (sD.del.ins hp) (by rw [card_swap hp (sC q hq) hc hq]; omega) (by rw [card_swap hp x9 hd xd]; omega) (fun y hy => by
              rcases ins_iff.mp hy with hy | rfl
              · have ⟨y1, y2⟩ := del_iff.mp hy
                rcases sub y y1 with e | e
                · exact .inl (ins_iff.mpr (.inl (del_iff.mpr ⟨e, fun z => by rw [z, xc] at y1; cases y1⟩)))
                · exact absurd (e.trans hb.symm) y2
              · exact .inl (ins_iff.mpr (.inr rfl))) r
            exact ⟨m + 1, by omega, .swp hd full xd h2⟩
/-- the next use -/
def nx (a : Nat) : List Nat → Nat
  | [] => 0
  | p :: σ => if p = a then 0 else nx a σ + 1
/-- a page that is used sooner, in the place of one that is used later -/
theorem sooner {k : Nat} : ∀ (σ : List Nat) (C D : Set9) (a b n : Nat), (∀ p ∈ σ, p < 9) → Sup C → Sup D → card C ≤ k → card C = card D → a ≠ b → C b = true → C a = false → D a = true → D b = false → (∀ x, x ≠ a → x ≠ b → C x = D x) → nx a σ ≤ nx b σ → Run k C σ n → ∃ m, m ≤ n ∧ Run k D σ m := by
  intro σ
  induction σ with
  | nil =>
    intro C D a b n _ _ _ _ _ _ _ _ _ _ _ _ r
    exact ⟨0, Nat.zero_le _, .nil⟩
  | cons p σ ih =>
    intro C D a b n hσ sC sD cC eq ne cb ca da db ag hx r
    have hp := hσ p List.mem_cons_self
    have hσ' : ∀ p ∈ σ, p < 9 := fun x hx => hσ x (List.mem_cons_of_mem _ hx)
    have a9 := sD a da
    have b9 := sC b cb
    by_cases pa : p = a
    · subst pa
      cases r with
      | hit hc r => rw [ca] at hc; cases hc
      | @add _ _ n' _ hc h r =>
        obtain ⟨m, h1, h2⟩ := near σ (ins C p) D b n' hσ' (sC.ins hp) sD (by rw [card_ins hp hc]; omega) (by omega) (fun x hx => by
          rcases ins_iff.mp hx with hx | rfl
          · by_cases e : x = b
            · exact .inr e
            · exact .inl (by rw [← ag x (fun z => by rw [z, ca] at hx; cases hx) e]; exact hx)
          · exact .inl da) r
        exact ⟨m, h1, .hit da h2⟩
      | @swp _ _ q n' _ hc h hq r =>
        obtain ⟨m, h1, h2⟩ := near σ (ins (del C q) p) D b n' hσ' (sC.del.ins hp) sD (by rw [card_swap hp (sC q hq) hc hq]; omega) (by omega) (fun x hx => by
          rcases ins_iff.mp hx with hx | rfl
          · have hx := (del_iff.mp hx).1
            by_cases e : x = b
            · exact .inr e
            · exact .inl (by rw [← ag x (fun z => by rw [z, ca] at hx; cases hx) e]; exact hx)
          · exact .inl da) r
        exact ⟨m, h1, .hit da h2⟩
    · by_cases pb : p = b
      · subst pb
        simp only [nx, if_neg pa, if_true] at hx
        omega
      · have hx' : nx a σ ≤ nx b σ := by
          simp only [nx, if_neg pa, if_neg pb] at hx
          omega
        have agp := ag p pa pb
        cases r with
        | hit hc r =>
          obtain ⟨m, h1, h2⟩ := ih C D a b n hσ' sC sD cC eq ne cb ca da db ag hx' r
          exact ⟨m, h1, .hit (by rw [← agp]; exact hc) h2⟩
        | @add _ _ n' _ hc h r =>
          have hd : D p = false := by rw [← agp]; exact hc
          obtain ⟨m, h1, h2⟩ := ih (ins C p) (ins D p) a b n' hσ' (sC.ins hp) (sD.ins hp) (by rw [card_ins hp hc]; omega) (by rw [card_ins hp hc, card_ins hp hd]; omega) ne (ins_iff.mpr (.inl cb)) (by simp [ins, ca]; omega) (ins_iff.mpr (.inl da)) (by simp [ins, db]; omega) (fun x xa xb => by
            unfold ins; rw [ag x xa xb]) hx' r
          exact ⟨m + 1, by omega, .add hd (by omega) h2⟩
        | @swp _ _ q n' _ hc h hq r =>
          have hd : D p = false := by rw [← agp]; exact hc
          by_cases qb : q = b
          · subst qb
            obtain ⟨m, h1, h2⟩ := mono (Nat.le_refl k) σ (ins (del C q) p) (ins (del D a) p) n' hσ' (sC.del.ins hp) (sD.del.ins hp) (by rw [card_swap hp b9 hc hq]; omega) (by rw [card_swap hp a9 hd da]; omega) (fun x hx => by
              rcases ins_iff.mp hx with hx | rfl
              · have ⟨y1, y2⟩ := del_iff.mp hx
                have xa : x ≠ a := fun z => by rw [z, ca] at y1; cases y1
                exact ins_iff.mpr (.inl (del_iff.mpr ⟨by rw [← ag x xa y2]; exact y1, xa⟩))
              · exact ins_iff.mpr (.inr rfl)) r
            exact ⟨m + 1, by omega, .swp hd (by omega) da h2⟩
          · have qa : q ≠ a := fun z => by rw [z, ca] at hq; cases hq
            have hdq : D q = true := by rw [← ag q qa qb]; exact hq
            obtain ⟨m, h1, h2⟩ := ih (ins (del C q) p) (ins (del D q) p) a b n' hσ' (sC.del.ins hp) (sD.del.ins hp) (by rw [card_swap hp (sC q hq) hc hq]; omega) (by rw [card_swap hp (sC q hq) hc hq, card_swap hp (sC q hq) hd hdq]; omega) ne
              (ins_iff.mpr (.inl (del_iff.mpr ⟨cb, fun z => qb z.symm⟩))) (by simp [ins, del, ca]; omega) (ins_iff.mpr (.inl (del_iff.mpr ⟨da, fun z => qa z.symm⟩))) (by simp [ins, del, db]; omega) (fun x xa xb => by
              unfold ins del; rw [ag x xa xb]) hx' r
            exact ⟨m + 1, by omega, .swp hd (by omega) hdq h2⟩
/-- a run that drops what is used farthest ahead -/
inductive Far (k : Nat) : Set9 → List Nat → Nat → Prop
  | nil {C : Set9} : Far k C [] 0
  | hit {C : Set9} {p n : Nat} {σ : List Nat} : C p = true → Far k C σ n → Far k C (p :: σ) n
  | add {C : Set9} {p n : Nat} {σ : List Nat} : C p = false → card C < k → Far k (ins C p) σ n → Far k C (p :: σ) (n + 1)
  | swp {C : Set9} {p f n : Nat} {σ : List Nat} : C p = false → card C = k → C f = true → (∀ q, C q = true → nx q σ ≤ nx f σ) → Far k (ins (del C f) p) σ n → Far k C (p :: σ) (n + 1)
theorem Far.run {k : Nat} : ∀ {σ : List Nat} {C : Set9} {n : Nat}, Far k C σ n → Run k C σ n
  | _, _, _, .nil => .nil
  | _, _, _, .hit h r => .hit h r.run
  | _, _, _, .add h c r => .add h c r.run
  | _, _, _, .swp h c q _ r => .swp h c q r.run
/-- Belady: it is best -/
theorem Far.best {k : Nat} : ∀ {σ : List Nat} {C : Set9} {f : Nat}, (∀ p ∈ σ, p < 9) → Sup C → card C ≤ k → Far k C σ f → ∀ n, Run k C σ n → f ≤ n := by
  intro σ
  induction σ with
  | nil => intro C f _ _ _ h n r; cases h; exact Nat.zero_le _
  | cons p σ ih =>
    intro C f hσ sC cC h n r
    have hp := hσ p List.mem_cons_self
    have hσ' : ∀ p ∈ σ, p < 9 := fun x hx => hσ x (List.mem_cons_of_mem _ hx)
    cases h with
    | hit hc h =>
      cases r with
      | hit _ r => exact ih hσ' sC cC h n r
      | add z _ _ => rw [hc] at z; cases z
      | swp z _ _ _ => rw [hc] at z; cases z
    | add hc room h =>
      cases r with
      | hit z _ => rw [hc] at z; cases z
      | add _ _ r => exact Nat.succ_le_succ (ih hσ' (sC.ins hp) (by rw [card_ins hp hc]; omega) h _ r)
      | swp _ z _ _ => omega
    | @swp _ _ g f' _ hc full hg far h =>
      cases r with
      | hit z _ => rw [hc] at z; cases z
      | add _ z _ => omega
      | @swp _ _ q n' _ _ _ hq r =>
        have key : ∃ m, m ≤ n' ∧ Run k (ins (del C g) p) σ m := by
          by_cases e : q = g
          · subst e; exact ⟨n', Nat.le_refl _, r⟩
          · have q9 := sC q hq
            have g9 := sC g hg
            have qp : q ≠ p := fun z => by rw [z, hc] at hq; cases hq
            have gp : g ≠ p := fun z => by rw [z, hc] at hg; cases hg
            exact sooner σ (ins (del C q) p) (ins (del C g) p) q g n' hσ' (sC.del.ins hp) (sC.del.ins hp) (by rw [card_swap hp q9 hc hq]; omega) (by rw [card_swap hp q9 hc hq, card_swap hp g9 hc hg]) e
              (ins_iff.mpr (.inl (del_iff.mpr ⟨hg, fun z => e z.symm⟩))) (by simp [ins, del, qp]) (ins_iff.mpr (.inl (del_iff.mpr ⟨hq, e⟩))) (by simp [ins, del, gp]) (fun x xa xb => by
              have e1 : (x != q) = true := by simpa using xa
              have e2 : (x != g) = true := by simpa using xb
              unfold ins del; rw [e1, e2]) (far q hq) r
        obtain ⟨m, h1, h2⟩ := key
        have := ih hσ' (sC.del.ins hp) (by rw [card_swap hp (sC g hg) hc hg]; omega) h m h2
        omega
end Pg
namespace Pg
/-! ### phases -/
def seenP (p : Nat) (seen : List Nat) : List Nat := if p ∈ seen then seen else seen ++ [p]
/-- how many phases begin -/
def phs (k : Nat) : Bool → List Nat → List Nat → Nat
  | _, _, [] => 0
  | first, seen, p :: σ => if first = true ∨ (p ∉ seen ∧ seen.length = k) then 1 + phs k false [p] σ else phs k false (seenP p seen) σ
theorem len_le_card : ∀ (l : List Nat) (C : Set9), l.Nodup → (∀ x ∈ l, C x = true ∧ x < 9) → l.length ≤ card C
  | [], _, _, _ => Nat.zero_le _
  | a :: l, C, hn, h => by
    obtain ⟨h1, h2⟩ := List.nodup_cons.mp hn
    obtain ⟨ca, a9⟩ := h a List.mem_cons_self
    have ih := len_le_card l (del C a) h2 fun x hx => ⟨del_iff.mpr ⟨(h x (List.mem_cons_of_mem _ hx)).1, fun e => h1 (by rw [← e]; exact hx)⟩, (h x (List.mem_cons_of_mem _ hx)).2⟩
    have := card_del a9 ca
    rw [List.length_cons]
    omega
theorem seenP_mem {p x : Nat} {seen : List Nat} : x ∈ seenP p seen ↔ x ∈ seen ∨ x = p := by
  unfold seenP
  split
  · rename_i h
    exact ⟨.inl, fun h' => h'.elim id fun e => by rw [e]; exact h⟩
  · rw [List.mem_append, List.mem_singleton]
theorem seenP_nodup {p : Nat} {seen : List Nat} (h : seen.Nodup) : (seenP p seen).Nodup := by
  unfold seenP
  split
  · exact h
  · rename_i hp
    rw [List.nodup_append]
    exact ⟨h, by simp, fun a ha b hb e => hp (by rw [← List.mem_singleton.mp hb, ← e]; exact ha)⟩
theorem seenP_len {p k : Nat} {seen : List Nat} (h : seen.length ≤ k) (hn : ¬ (p ∉ seen ∧ seen.length = k)) : (seenP p seen).length ≤ k := by
  unfold seenP
  split
  · exact h
  · rename_i hp
    rw [List.length_append]
    have : seen.length ≠ k := fun e => hn ⟨hp, e⟩
    simp
    omega
open Classical in
/-- no run has fewer misses than there are phases -/
theorem phs_le {k : Nat} : ∀ (σ : List Nat) (C : Set9) (seen : List Nat) (n : Nat), (∀ p ∈ σ, p < 9) → Sup C → card C ≤ k → seen.Nodup → (∀ x ∈ seen, x < 9) → seen.length ≤ k → Run k C σ n → phs k false seen σ ≤ n + (if ∀ x ∈ seen, C x = true then 0 else 1) := by
  intro σ
  induction σ with
  | nil => intro C seen n _ _ _ _ _ _ _; exact Nat.zero_le _
  | cons p σ ih =>
    intro C seen n hσ sC cC nd s9 sl r
    have hp := hσ p List.mem_cons_self
    have hσ' : ∀ p ∈ σ, p < 9 := fun x hx => hσ x (List.mem_cons_of_mem _ hx)
    have after : ∀ (D : Set9) (m : Nat), Sup D → card D ≤ k → D p = true → Run k D σ m → phs k false [p] σ ≤ m := fun D m sD cD dp r => by
      have := ih D [p] m hσ' sD cD (by simp) (by simpa using hp) (by
        have := len_le_card [p] D (by simp) (by simpa using ⟨dp, hp⟩)
        simp at this ⊢
        omega) r
      rw [if_pos (by simpa using dp)] at this
      omega
    unfold phs
    by_cases new : p ∉ seen ∧ seen.length = k
    · rw [if_pos (.inr new)]
      cases r with
      | hit hc r =>
        have := after C n sC cC hc r
        have ns : ¬ ∀ x ∈ seen, C x = true := fun all => by
          have := len_le_card (p :: seen) C (List.nodup_cons.mpr ⟨new.1, nd⟩) fun x hx => by
            rcases List.mem_cons.mp hx with rfl | hx
            · exact ⟨hc, hp⟩
            · exact ⟨all x hx, s9 x hx⟩
          rw [List.length_cons] at this
          omega
        rw [if_neg ns]
        omega
      | @add _ _ n' _ hc h r =>
        have := after _ n' (sC.ins hp) (by rw [card_ins hp hc]; omega) (ins_iff.mpr (.inr rfl)) r
        omega
      | @swp _ _ q n' _ hc h hq r =>
        have := after _ n' (sC.del.ins hp) (by rw [card_swap hp (sC q hq) hc hq]; omega) (ins_iff.mpr (.inr rfl)) r
        omega
    · rw [if_neg (by rintro (h | h); cases h; exact new h)]
      have nd' := seenP_nodup (p := p) nd
      have s9' : ∀ x ∈ seenP p seen, x < 9 := fun x hx => by
        rcases seenP_mem.mp hx with hx | rfl
        · exact s9 x hx
        · exact hp
      have sl' := seenP_len sl new
      cases r with
      | hit hc r =>
        have q := ih C (seenP p seen) n hσ' sC cC nd' s9' sl' r
        by_cases all : ∀ x ∈ seen, C x = true
        · rw [if_pos all]
          rw [if_pos fun x hx => by
            rcases seenP_mem.mp hx with hx | rfl
            · exact all x hx
            · exact hc] at q
          exact q
        · rw [if_neg all]
          have : (if ∀ x ∈ seenP p seen, C x = true then 0 else 1) ≤ 1 := by split <;> omega
          omega
      | @add _ _ n' _ hc h r =>
        have q := ih _ (seenP p seen) n' hσ' (sC.ins hp) (by rw [card_ins hp hc]; omega) nd' s9' sl' r
        have : (if ∀ x ∈ seenP p seen, ins C p x = true then 0 else 1) ≤ 1 := by split <;> omega
        omega
      | @swp _ _ g n' _ hc h hq r =>
        have q := ih _ (seenP p seen) n' hσ' (sC.del.ins hp) (by rw [card_swap hp (sC g hq) hc hq]; omega) nd' s9' sl' r
        have : (if ∀ x ∈ seenP p seen, ins (del C g) p x = true then 0 else 1) ≤ 1 := by split <;> omega
        omega
theorem phs_run {k n : Nat} {σ : List Nat} (hk : 1 ≤ k) (hσ : ∀ p ∈ σ, p < 9) (r : Run k emp σ n) : phs k true [] σ ≤ n := by
  cases σ with
  | nil => exact Nat.zero_le _
  | cons p σ =>
    have hp := hσ p List.mem_cons_self
    have hσ' : ∀ p ∈ σ, p < 9 := fun x hx => hσ x (List.mem_cons_of_mem _ hx)
    unfold phs
    rw [if_pos (.inl rfl)]
    cases r with
    | hit h _ => cases h
    | @add _ _ n' _ hc h r =>
      have := phs_le σ (ins emp p) [p] n' hσ' (Sup.ins (fun x hx => by cases hx) hp) (by rw [card_ins hp rfl, card_emp]; omega) (by simp) (by simpa using hp) (by simp; omega) r
      rw [if_pos (by simp [ins])] at this
      omega
    | swp _ h _ _ => rw [card_emp] at h; omega
/-! ### runs of lists -/
inductive PRun (k : Nat) (ch : Nat → List Nat → Nat → Prop) : Nat → List Nat → List Nat → Nat → Prop
  | nil {i : Nat} {L : List Nat} : PRun k ch i L [] 0
  | hit {i p n : Nat} {L σ : List Nat} : p ∈ L → PRun k ch (i + 1) L σ n → PRun k ch i L (p :: σ) n
  | add {i p n : Nat} {L σ : List Nat} : p ∉ L → L.length ≠ k → PRun k ch (i + 1) (L ++ [p]) σ n → PRun k ch i L (p :: σ) (n + 1)
  | swp {i p f n : Nat} {L σ : List Nat} : p ∉ L → L.length = k → f ∈ L → ch i L f → PRun k ch (i + 1) (L.filter (fun x => x != f) ++ [p]) σ n → PRun k ch i L (p :: σ) (n + 1)
def St (L : List Nat) : Set9 := fun x => decide (x ∈ L)
theorem St_iff {L : List Nat} {x : Nat} : St L x = true ↔ x ∈ L := by simp [St]
theorem St_app {L : List Nat} {p : Nat} : St (L ++ [p]) = ins (St L) p := by
  funext x
  unfold ins
  rw [Bool.eq_iff_iff, Bool.or_eq_true, St_iff, St_iff, List.mem_append, List.mem_singleton, beq_iff_eq]
theorem St_fil {L : List Nat} {f : Nat} : St (L.filter fun x => x != f) = del (St L) f := by
  funext x
  unfold del
  rw [Bool.eq_iff_iff, Bool.and_eq_true, St_iff, St_iff, List.mem_filter]
theorem card_St : ∀ (L : List Nat), L.Nodup → (∀ x ∈ L, x < 9) → card (St L) = L.length := by
  intro L
  induction L with
  | nil => intro _ _; rfl
  | cons a L ih =>
    intro hn h9
    obtain ⟨h1, h2⟩ := List.nodup_cons.mp hn
    have e : St (a :: L) = ins (St L) a := by
      funext x
      unfold ins
      rw [Bool.eq_iff_iff, Bool.or_eq_true, St_iff, St_iff, List.mem_cons, beq_iff_eq]
      exact or_comm
    rw [e, card_ins (h9 a List.mem_cons_self) (by rw [Bool.eq_false_iff]; exact fun z => h1 (St_iff.mp z)), ih h2 fun x hx => h9 x (List.mem_cons_of_mem _ hx), List.length_cons]
theorem fil_len {L : List Nat} {f : Nat} (hn : L.Nodup) (hf : f ∈ L) : (L.filter fun x => x != f).length + 1 = L.length := by
  have : L.filter (fun x => x != f) = L.erase f := by
    rw [hn.erase_eq_filter]
  rw [this, List.length_erase_of_mem hf]
  have := List.length_pos_of_mem hf
  omega
/-- what a list-cache keeps -/
structure LOk (k : Nat) (L : List Nat) : Prop where
  nd : L.Nodup
  n9 : ∀ x ∈ L, x < 9
  le : L.length ≤ k
theorem LOk.app {k p : Nat} {L : List Nat} (h : LOk k L) (hp : p < 9) (hn : p ∉ L) (hl : L.length ≠ k) : LOk k (L ++ [p]) := by
  refine ⟨?_, fun x hx => ?_, ?_⟩
  · rw [List.nodup_append]
    exact ⟨h.nd, by simp, fun a ha b hb e => hn (by rw [← List.mem_singleton.mp hb, ← e]; exact ha)⟩
  · rcases List.mem_append.mp hx with hx | hx
    · exact h.n9 x hx
    · rw [List.mem_singleton.mp hx]; exact hp
  · have := h.le
    rw [List.length_append]
    simp
    omega
theorem LOk.fil {k f : Nat} {L : List Nat} (h : LOk k L) (hf : f ∈ L) : LOk k (L.filter fun x => x != f) ∧ (L.filter fun x => x != f).length ≠ k := by
  have := fil_len h.nd hf
  have := h.le
  exact ⟨⟨h.nd.filter _, fun x hx => h.n9 x (List.mem_filter.mp hx).1, by omega⟩, by omega⟩
theorem LOk.swp {k p f : Nat} {L : List Nat} (h : LOk k L) (hp : p < 9) (hn : p ∉ L) (hf : f ∈ L) : LOk k (L.filter (fun x => x != f) ++ [p]) :=
  (h.fil hf).1.app hp (fun z => hn (List.mem_filter.mp z).1) (h.fil hf).2
theorem St_sup {k : Nat} {L : List Nat} (h : LOk k L) : Sup (St L) := fun x hx => h.n9 x (St_iff.mp hx)
theorem St_false {L : List Nat} {p : Nat} (h : p ∉ L) : St L p = false := by rw [Bool.eq_false_iff]; exact fun z => h (St_iff.mp z)
theorem PRun.run {k : Nat} {ch : Nat → List Nat → Nat → Prop} : ∀ {σ : List Nat} {i : Nat} {L : List Nat} {n : Nat}, (∀ p ∈ σ, p < 9) → LOk k L → PRun k ch i L σ n → Run k (St L) σ n := by
  intro σ
  induction σ with
  | nil => intro i L n _ _ r; cases r; exact .nil
  | cons p σ ih =>
    intro i L n hσ hL r
    have hp := hσ p List.mem_cons_self
    have hσ' : ∀ p ∈ σ, p < 9 := fun x hx => hσ x (List.mem_cons_of_mem _ hx)
    have cL := card_St L hL.nd hL.n9
    have le := hL.le
    cases r with
    | hit h r => exact .hit (St_iff.mpr h) (ih hσ' hL r)
    | add h hl r =>
      have := ih hσ' (hL.app hp h hl) r
      rw [St_app] at this
      exact .add (St_false h) (by omega) this
    | swp h hl hf _ r =>
      have := ih hσ' (hL.swp hp h hf) r
      rw [St_app, St_fil] at this
      exact .swp (St_false h) (by omega) (St_iff.mpr hf) this
/-- .. that drops what is used farthest ahead -/
theorem PRun.far {k : Nat} {asks : List Nat} {ch : Nat → List Nat → Nat → Prop} (hch : ∀ i L f, ch i L f → ∀ q ∈ L, nx q (asks.drop (i + 1)) ≤ nx f (asks.drop (i + 1))) : ∀ {σ : List Nat} {i : Nat} {L : List Nat} {n : Nat}, σ = asks.drop i → (∀ p ∈ σ, p < 9) → LOk k L → PRun k ch i L σ n → Far k (St L) σ n := by
  intro σ
  induction σ with
  | nil => intro i L n _ _ _ r; cases r; exact .nil
  | cons p σ ih =>
    intro i L n hs hσ hL r
    have hp := hσ p List.mem_cons_self
    have hσ' : ∀ p ∈ σ, p < 9 := fun x hx => hσ x (List.mem_cons_of_mem _ hx)
    have cL := card_St L hL.nd hL.n9
    have le := hL.le
    have hs' : σ = asks.drop (i + 1) := by rw [← List.tail_drop, ← hs]; rfl
    cases r with
    | hit h r => exact .hit (St_iff.mpr h) (ih hs' hσ' hL r)
    | add h hl r =>
      have := ih hs' hσ' (hL.app hp h hl) r
      rw [St_app] at this
      exact .add (St_false h) (by omega) this
    | @swp _ _ f _ _ _ h hl hf hc r =>
      have := ih hs' hσ' (hL.swp hp h hf) r
      rw [St_app, St_fil] at this
      exact .swp (St_false h) (by omega) (St_iff.mpr hf) (fun q hq => by rw [hs']; exact hch i L f hc q (St_iff.mp hq)) this
theorem sub_len {l m : List Nat} (hl : l.Nodup) (h9 : ∀ x ∈ l, x < 9) (hm : m.Nodup) (m9 : ∀ x ∈ m, x < 9) (h : ∀ x ∈ l, x ∈ m) : l.length ≤ m.length := by
  rw [← card_St m hm m9]
  exact len_le_card l (St m) hl fun x hx => ⟨St_iff.mpr (h x hx), h9 x hx⟩
/-- the oldest one is dropped: at most k misses in each phase -/
theorem fifo_le {k : Nat} {ch : Nat → List Nat → Nat → Prop} (hch : ∀ i L f, ch i L f → L.head? = some f) : ∀ (σ : List Nat) (i : Nat) (A B seen : List Nat) (n : Nat), (∀ p ∈ σ, p < 9) → LOk k (A ++ B) → LOk k seen → (∀ x ∈ B, x ∈ seen) → PRun k ch i (A ++ B) σ n → n + B.length ≤ k + k * phs k false seen σ := by
  intro σ
  induction σ with
  | nil =>
    intro i A B seen n _ hL hs hB r
    cases r
    have := hL.le
    rw [List.length_append] at this
    omega
  | cons p σ ih =>
    intro i A B seen n hσ hL hs hB r
    have hp := hσ p List.mem_cons_self
    have hσ' : ∀ p ∈ σ, p < 9 := fun x hx => hσ x (List.mem_cons_of_mem _ hx)
    have B9 : ∀ x ∈ B, x < 9 := fun x hx => hL.n9 x (List.mem_append_right _ hx)
    have Bn : B.Nodup := (List.nodup_append.mp hL.nd).2.1
    have Bl : B.length ≤ k := by have := hL.le; rw [List.length_append] at this; omega
    have next : ∀ (f : Nat), p ∉ A ++ B → f ∈ A ++ B → (A ++ B).head? = some f → A ≠ [] → (A ++ B).filter (fun x => x != f) ++ [p] = A.tail ++ (B ++ [p]) := fun f hpn hf hh hA => by
      cases A with
      | nil => exact absurd rfl hA
      | cons a A =>
        have : a = f := by simpa using hh
        subst this
        have nd := List.nodup_cons.mp hL.nd
        have : (a :: A ++ B).filter (fun x => x != a) = A ++ B := by
          show ((a :: (A ++ B)).filter fun x => x != a) = _
          rw [List.filter_cons_of_neg (by simp)]
          refine List.filter_eq_self.mpr fun x hx => ?_
          have : x ≠ a := fun e => nd.1 (by rw [← e]; exact hx)
          simpa using this
        rw [this]
        simp
    unfold phs
    by_cases new : p ∉ seen ∧ seen.length = k
    · rw [if_pos (.inr new), Nat.mul_add, Nat.mul_one]
      have kpos : 1 ≤ k ∨ k = 0 := by omega
      cases r with
      | hit h r =>
        have k1 : 1 ≤ k := by have := List.length_pos_of_mem h; have := hL.le; omega
        have := ih (i + 1) (A ++ B) [] [p] n hσ' (by rw [List.append_nil]; exact hL) ⟨by simp, by simpa using hp, by simpa using k1⟩ (fun x hx => by cases hx) (by rw [List.append_nil]; exact r)
        simp at this
        omega
      | @add _ _ n' _ _ h hl r =>
        have k1 : 1 ≤ k := by have := hL.le; omega
        have := ih (i + 1) (A ++ B) [p] [p] n' hσ' (hL.app hp h hl) ⟨by simp, by simpa using hp, by simpa using k1⟩ (fun x hx => hx) r
        simp at this
        omega
      | @swp _ _ f n' _ _ h hl hf hc r =>
        have k1 : 1 ≤ k := by have := List.length_pos_of_mem hf; have := hL.le; omega
        have := ih (i + 1) ((A ++ B).filter fun x => x != f) [p] [p] n' hσ' (hL.swp hp h hf) ⟨by simp, by simpa using hp, by simpa using k1⟩ (fun x hx => hx) r
        simp at this
        omega
    · rw [if_neg (by rintro (h | h); cases h; exact new h)]
      have hs' : LOk k (seenP p seen) := ⟨seenP_nodup hs.nd, fun x hx => by
        rcases seenP_mem.mp hx with hx | rfl
        · exact hs.n9 x hx
        · exact hp, seenP_len hs.le new⟩
      have hB' : ∀ x ∈ B ++ [p], x ∈ seenP p seen := fun x hx => by
        rcases List.mem_append.mp hx with hx | hx
        · exact seenP_mem.mpr (.inl (hB x hx))
        · exact seenP_mem.mpr (.inr (List.mem_singleton.mp hx))
      have lt : p ∉ A ++ B → B.length < k := fun h => by
        have nd : (B ++ [p]).Nodup := by
          rw [List.nodup_append]
          exact ⟨Bn, by simp, fun a ha b hb e => h (List.mem_append_right _ (by rw [← List.mem_singleton.mp hb, ← e]; exact ha))⟩
        have := sub_len nd (fun x hx => by
          rcases List.mem_append.mp hx with hx | hx
          · exact B9 x hx
          · rw [List.mem_singleton.mp hx]; exact hp) hs'.nd hs'.n9 hB'
        rw [List.length_append] at this
        simp at this
        have := hs'.le
        omega
      cases r with
      | hit h r => exact ih (i + 1) A B (seenP p seen) n hσ' hL hs' (fun x hx => seenP_mem.mpr (.inl (hB x hx))) r
      | @add _ _ n' _ _ h hl r =>
        have q := ih (i + 1) A (B ++ [p]) (seenP p seen) n' hσ' (by rw [← List.append_assoc]; exact hL.app hp h hl) hs' hB' (by rw [← List.append_assoc]; exact r)
        simp at q
        omega
      | @swp _ _ f n' _ _ h hl hf hc r =>
        have hA : A ≠ [] := fun e => by
          subst e
          have := lt h
          rw [List.nil_append] at hl
          omega
        have e := next f h hf (hch _ _ _ hc) hA
        rw [e] at r
        have hL' := hL.swp hp h hf
        rw [e] at hL'
        have q := ih (i + 1) A.tail (B ++ [p]) (seenP p seen) n' hσ' hL' hs' hB' r
        simp at q
        omega
theorem fifo {k n : Nat} {σ : List Nat} {ch : Nat → List Nat → Nat → Prop} (hch : ∀ i L f, ch i L f → L.head? = some f) (hk : 1 ≤ k) (hσ : ∀ p ∈ σ, p < 9) (r : PRun k ch 0 [] σ n) : n ≤ k * phs k true [] σ := by
  cases σ with
  | nil => cases r; exact Nat.zero_le _
  | cons p σ =>
    have hp := hσ p List.mem_cons_self
    have hσ' : ∀ p ∈ σ, p < 9 := fun x hx => hσ x (List.mem_cons_of_mem _ hx)
    unfold phs
    rw [if_pos (.inl rfl)]
    cases r with
    | hit h _ => cases h
    | @add _ _ n' _ _ h hl r =>
      have := fifo_le hch σ 1 [] [p] [p] n' hσ' ⟨by simp, by simpa using hp, by simpa using hk⟩ ⟨by simp, by simpa using hp, by simpa using hk⟩ (fun x hx => hx) r
      simp at this
      rw [Nat.mul_add, Nat.mul_one]
      omega
    | swp _ hl hf _ _ => cases hf
/-- the last ask of a page ahead of i, counted from 1; 0: none -/
def lst (asks : List Nat) (i x : Nat) : Nat := ((List.range i).filter fun j => asks[j]? == some x).foldl (fun _ j => j + 1) 0
theorem lst_succ {asks : List Nat} {i x : Nat} : lst asks (i + 1) x = if asks[i]? = some x then i + 1 else lst asks i x := by
  unfold lst
  rw [List.range_succ, List.filter_append, List.foldl_append]
  by_cases h : asks[i]? = some x
  · rw [if_pos h, List.filter_cons_of_pos (by simpa using h)]
    rfl
  · rw [if_neg h, List.filter_cons_of_neg (by simpa using h)]
    rfl
theorem lst_le {asks : List Nat} {x : Nat} : ∀ i, lst asks i x ≤ i
  | 0 => Nat.le_refl _
  | i + 1 => by
    rw [lst_succ]
    have := lst_le (asks := asks) (x := x) i
    split <;> omega
/-- what is unused for longest is dropped: at most k misses in each phase -/
theorem lru_le {k : Nat} {asks : List Nat} {ch : Nat → List Nat → Nat → Prop} (hch : ∀ i L f, ch i L f → ∀ q ∈ L, lst asks i f ≤ lst asks i q) : ∀ (σ : List Nat) (i t : Nat) (L seen : List Nat) (n : Nat), σ = asks.drop i → (∀ p ∈ σ, p < 9) → LOk k L → LOk k seen → (∀ x ∈ seen, x ∈ L) → (∀ x ∈ seen, t < lst asks i x) → (∀ x ∈ L, x ∉ seen → lst asks i x ≤ t) → t ≤ i → PRun k ch i L σ n → n + seen.length ≤ k + k * phs k false seen σ := by
  intro σ
  induction σ with
  | nil =>
    intro i t L seen n _ _ hL hs _ _ _ _ r
    cases r
    have := hs.le
    omega
  | cons p σ ih =>
    intro i t L seen n hd hσ hL hs hsub hnew hold ht r
    have hp := hσ p List.mem_cons_self
    have hσ' : ∀ p ∈ σ, p < 9 := fun x hx => hσ x (List.mem_cons_of_mem _ hx)
    have hd' : σ = asks.drop (i + 1) := by rw [← List.tail_drop, ← hd]; rfl
    have hat : asks[i]? = some p := by
      have := congrArg List.head? hd
      rw [List.head?_drop] at this
      exact this.symm
    have ls : ∀ x, lst asks (i + 1) x = if x = p then i + 1 else lst asks i x := fun x => by
      rw [lst_succ, hat]
      by_cases e : x = p
      · subst e; simp
      · rw [if_neg (fun z => e (Option.some.inj z).symm), if_neg e]
    unfold phs
    by_cases new : p ∉ seen ∧ seen.length = k
    · rw [if_pos (.inr new), Nat.mul_add, Nat.mul_one]
      have pL : p ∉ L := fun h => by
        have nd := List.nodup_cons.mpr ⟨new.1, hs.nd⟩
        have := sub_len nd (fun x hx => by
          rcases List.mem_cons.mp hx with rfl | hx
          · exact hp
          · exact hs.n9 x hx) hL.nd hL.n9 (fun x hx => by
          rcases List.mem_cons.mp hx with rfl | hx
          · exact h
          · exact hsub x hx)
        rw [List.length_cons] at this
        have := hL.le
        omega
      have lL : L.length = k := by
        have := sub_len hs.nd hs.n9 hL.nd hL.n9 hsub
        have := hL.le
        omega
      cases r with
      | hit h r => exact absurd h pL
      | add h hl r => exact absurd lL hl
      | @swp _ _ f n' _ _ h hl hf hc r =>
        have k1 : 1 ≤ k := by have := List.length_pos_of_mem hf; omega
        have := ih (i + 1) i (L.filter (fun x => x != f) ++ [p]) [p] n' hd' hσ' (hL.swp hp h hf) ⟨by simp, by simpa using hp, by simpa using k1⟩ (fun x hx => List.mem_append_right _ hx) (fun x hx => by
          rw [ls, if_pos (List.mem_singleton.mp hx)]; omega) (fun x hx hn => by
          rw [ls, if_neg (fun e => hn (List.mem_singleton.mpr e))]; exact lst_le i) (by omega) r
        simp at this
        omega
    · rw [if_neg (by rintro (h | h); cases h; exact new h)]
      have hs' : LOk k (seenP p seen) := ⟨seenP_nodup hs.nd, fun x hx => by
        rcases seenP_mem.mp hx with hx | rfl
        · exact hs.n9 x hx
        · exact hp, seenP_len hs.le new⟩
      have hnew' : ∀ x ∈ seenP p seen, t < lst asks (i + 1) x := fun x hx => by
        rw [ls]
        split
        · omega
        · rename_i e
          rcases seenP_mem.mp hx with hx | hx
          · exact hnew x hx
          · exact absurd hx e
      have hold' : ∀ x, x ∈ L → x ∉ seenP p seen → lst asks (i + 1) x ≤ t := fun x hx hn => by
        rw [ls, if_neg (fun e => hn (seenP_mem.mpr (.inr e)))]
        exact hold x hx fun z => hn (seenP_mem.mpr (.inl z))
      cases r with
      | hit h r =>
        have q := ih (i + 1) t L (seenP p seen) n hd' hσ' hL hs' (fun x hx => by
          rcases seenP_mem.mp hx with hx | rfl
          · exact hsub x hx
          · exact h) hnew' (fun x hx hn => hold' x hx hn) (by omega) r
        have : seen.length ≤ (seenP p seen).length := by
          unfold seenP
          split
          · exact Nat.le_refl _
          · rw [List.length_append]; omega
        omega
      | @add _ _ n' _ _ h hl r =>
        have pn : p ∉ seen := fun z => h (hsub p z)
        have el : (seenP p seen).length = seen.length + 1 := by
          unfold seenP
          rw [if_neg pn]
          simp
        have q := ih (i + 1) t (L ++ [p]) (seenP p seen) n' hd' hσ' (hL.app hp h hl) hs' (fun x hx => by
          rcases seenP_mem.mp hx with hx | rfl
          · exact List.mem_append_left _ (hsub x hx)
          · exact List.mem_append_right _ (by simp)) hnew' (fun x hx hn => by
          rcases List.mem_append.mp hx with hx | hx
          · exact hold' x hx hn
          · exact absurd (seenP_mem.mpr (.inr (List.mem_singleton.mp hx))) hn) (by omega) r
        omega
      | @swp _ _ f n' _ _ h hl hf hc r =>
        have pn : p ∉ seen := fun z => h (hsub p z)
        have el : (seenP p seen).length = seen.length + 1 := by
          unfold seenP
          rw [if_neg pn]
          simp
        have lt : seen.length < k := by
          have := hs'.le
          omega
        have fs : f ∉ seen := fun z => by
          have ex : ∃ x ∈ L, x ∉ seen := by
            apply Classical.byContradiction
            intro no
            have := sub_len hL.nd hL.n9 hs.nd hs.n9 fun x hx => Classical.byContradiction fun z => no ⟨x, hx, z⟩
            omega
          obtain ⟨x, hx, hn⟩ := ex
          have h1 := hch _ _ _ hc x hx
          have h2 := hold x hx hn
          have h3 := hnew f z
          omega
        have q := ih (i + 1) t (L.filter (fun x => x != f) ++ [p]) (seenP p seen) n' hd' hσ' (hL.swp hp h hf) hs' (fun x hx => by
          rcases seenP_mem.mp hx with hx | rfl
          · refine List.mem_append_left _ (List.mem_filter.mpr ⟨hsub x hx, ?_⟩)
            have : x ≠ f := fun e => fs (by rw [← e]; exact hx)
            simpa using this
          · exact List.mem_append_right _ (by simp)) hnew' (fun x hx hn => by
          rcases List.mem_append.mp hx with hx | hx
          · exact hold' x (List.mem_filter.mp hx).1 hn
          · exact absurd (seenP_mem.mpr (.inr (List.mem_singleton.mp hx))) hn) (by omega) r
        omega
theorem lru {k n : Nat} {asks : List Nat} {ch : Nat → List Nat → Nat → Prop} (hch : ∀ i L f, ch i L f → ∀ q ∈ L, lst asks i f ≤ lst asks i q) (hk : 1 ≤ k) (hσ : ∀ p ∈ asks, p < 9) (r : PRun k ch 0 [] asks n) : n ≤ k * phs k true [] asks := by
  cases hq : asks with
  | nil => rw [hq] at r; cases r; exact Nat.zero_le _
  | cons p σ =>
    have hp := hσ p (by rw [hq]; exact List.mem_cons_self)
    have hσ' : ∀ p ∈ σ, p < 9 := fun x hx => hσ x (by rw [hq]; exact List.mem_cons_of_mem _ hx)
    have hd : σ = asks.drop 1 := by rw [hq]; rfl
    have hat : asks[0]? = some p := by rw [hq]; rfl
    unfold phs
    rw [if_pos (.inl rfl)]
    rw [hq] at r
    cases r with
    | hit h _ => cases h
    | @add _ _ n' _ _ h hl r =>
      have := lru_le hch σ 1 0 [p] [p] n' hd hσ' ⟨by simp, by simpa using hp, by simpa using hk⟩ ⟨by simp, by simpa using hp, by simpa using hk⟩ (fun x hx => hx) (fun x hx => by
        rw [List.mem_singleton.mp hx, lst_succ, if_pos hat]; omega) (fun x hx hn => absurd hx hn) (by omega) r
      simp at this
      rw [Nat.mul_add, Nat.mul_one]
      omega
    | swp _ hl hf _ _ => cases hf
end Pg
namespace Pg
/-! ### the least number of misses, by sets of pages -/
def msk (m : Nat) : Set9 := fun x => decide (x < 9) && m.testBit x
def pgs (m : Nat) : List Nat := (List.range 9).filter fun q => m.testBit q
def opts (k p m c : Nat) : List (Nat × Nat) := if m.testBit p then [(m, c)] else if (pgs m).length < k then [(m ||| 2 ^ p, c + 1)] else (pgs m).map fun q => ((m ^^^ 2 ^ q) ||| 2 ^ p, c + 1)
theorem msk_sup (m : Nat) : Sup (msk m) := fun x h => by
  unfold msk at h
  rw [Bool.and_eq_true, decide_eq_true_eq] at h
  exact h.1
theorem msk_iff {m x : Nat} : msk m x = true ↔ x < 9 ∧ m.testBit x = true := by
  unfold msk
  rw [Bool.and_eq_true, decide_eq_true_eq]
theorem pgs_mem {m q : Nat} : q ∈ pgs m ↔ msk m q = true := by
  unfold pgs
  rw [List.mem_filter, List.mem_range, msk_iff]
theorem pgs_card (m : Nat) : (pgs m).length = card (msk m) := by
  have e : msk m = St (pgs m) := by
    funext x
    rw [Bool.eq_iff_iff, St_iff, pgs_mem]
  rw [e, card_St]
  · exact List.Pairwise.filter _ List.nodup_range
  · intro x hx
    exact (msk_iff.mp (pgs_mem.mp hx)).1
theorem msk_ins {m p : Nat} (hp : p < 9) : msk (m ||| 2 ^ p) = ins (msk m) p := by
  funext x
  unfold ins
  rw [Bool.eq_iff_iff, Bool.or_eq_true, msk_iff, msk_iff, beq_iff_eq, Nat.testBit_or, Nat.testBit_two_pow, Bool.or_eq_true, decide_eq_true_eq]
  constructor
  · rintro ⟨h, h1 | h1⟩
    · exact .inl ⟨h, h1⟩
    · exact .inr h1.symm
  · rintro (⟨h, h1⟩ | rfl)
    · exact ⟨h, .inl h1⟩
    · exact ⟨hp, .inr rfl⟩
theorem msk_del {m q : Nat} (hq : m.testBit q = true) : msk (m ^^^ 2 ^ q) = del (msk m) q := by
  funext x
  unfold del
  rw [Bool.eq_iff_iff, Bool.and_eq_true, msk_iff, msk_iff, bne_iff_ne, Nat.testBit_xor, Nat.testBit_two_pow]
  by_cases e : x = q
  · subst e
    simp [hq]
  · have : ¬ q = x := fun z => e z.symm
    simp [e, this]
def getN (l : List (Nat × Nat)) (k : Nat) : Option Nat := (l.find? fun p => p.1 == k).map Prod.snd
def putN (l : List (Nat × Nat)) (k v : Nat) : List (Nat × Nat) := if l.any fun p => p.1 == k then l.map fun p => if p.1 == k then (p.1, v) else p else l ++ [(k, v)]
/-- what is stored: the least that was met -/
def putMin (l : List (Nat × Nat)) (o : Nat × Nat) : List (Nat × Nat) := putN l o.1 (min o.2 ((getN l o.1).getD o.2))
theorem getN_mem {l : List (Nat × Nat)} {k c : Nat} (h : getN l k = some c) : (k, c) ∈ l := by
  unfold getN at h
  cases hf : l.find? fun p => p.1 == k with
  | none => rw [hf] at h; cases h
  | some p =>
    rw [hf] at h
    cases h
    have h1 := List.find?_some hf
    have h2 := List.mem_of_find?_eq_some hf
    have : p.1 = k := by simpa using h1
    rw [← this]
    exact h2
theorem getN_none {l : List (Nat × Nat)} {k : Nat} (h : getN l k = none) : ∀ c, (k, c) ∉ l := by
  unfold getN at h
  rw [Option.map_eq_none_iff, List.find?_eq_none] at h
  intro c hc
  have := h (k, c) hc
  simp at this
theorem putN_mem {l : List (Nat × Nat)} {k v x c : Nat} (h : (x, c) ∈ putN l k v) : (x ≠ k ∧ (x, c) ∈ l) ∨ (x = k ∧ c = v) := by
  unfold putN at h
  split at h
  · obtain ⟨p, hp, e⟩ := List.mem_map.mp h
    by_cases q : p.1 = k
    · rw [if_pos (by simpa using q)] at e
      cases e
      exact .inr ⟨q, rfl⟩
    · rw [if_neg (by simpa using q)] at e
      subst e
      exact .inl ⟨q, hp⟩
  · rename_i hn
    rcases List.mem_append.mp h with h' | h'
    · by_cases q : x = k
      · subst q
        exfalso
        apply hn
        rw [List.any_eq_true]
        exact ⟨(x, c), h', by simp⟩
      · exact .inl ⟨q, h'⟩
    · have := List.mem_singleton.mp h'
      cases this
      exact .inr ⟨rfl, rfl⟩
theorem putN_new {l : List (Nat × Nat)} {k v : Nat} : (k, v) ∈ putN l k v := by
  unfold putN
  split
  · rename_i h
    obtain ⟨p, hp, e⟩ := List.any_eq_true.mp h
    have : p.1 = k := by simpa using e
    exact List.mem_map.mpr ⟨p, hp, by rw [if_pos e, this]⟩
  · exact List.mem_append_right _ (by simp)
theorem putN_old {l : List (Nat × Nat)} {k v x c : Nat} (h : (x, c) ∈ l) (hx : x ≠ k) : (x, c) ∈ putN l k v := by
  unfold putN
  split
  · exact List.mem_map.mpr ⟨(x, c), h, by rw [if_neg (by simpa using hx)]⟩
  · exact List.mem_append_left _ h
theorem putN_keys {l : List (Nat × Nat)} {k v : Nat} (h : (l.map Prod.fst).Nodup) : ((putN l k v).map Prod.fst).Nodup := by
  unfold putN
  split
  · have : (l.map fun p => if p.1 == k then (p.1, v) else p).map Prod.fst = l.map Prod.fst := by
      rw [List.map_map]
      refine List.map_congr_left fun p _ => ?_
      show (if p.1 == k then (p.1, v) else p).1 = p.1
      split <;> rfl
    rw [this]
    exact h
  · rename_i hn
    rw [List.map_append, List.nodup_append]
    refine ⟨h, by simp, fun a ha b hb e => ?_⟩
    obtain ⟨p, hp, rfl⟩ := List.mem_map.mp ha
    have : b = k := by simpa using hb
    exact hn (List.any_eq_true.mpr ⟨p, hp, by rw [e, this]; simp⟩)
theorem uniq {l : List (Nat × Nat)} (h : (l.map Prod.fst).Nodup) {k c d : Nat} (h1 : (k, c) ∈ l) (h2 : (k, d) ∈ l) : c = d := by
  induction l with
  | nil => cases h1
  | cons p l ih =>
    rw [List.map_cons] at h
    obtain ⟨n1, n2⟩ := List.nodup_cons.mp h
    rcases List.mem_cons.mp h1 with e1 | h1 <;> rcases List.mem_cons.mp h2 with e2 | h2
    · rw [← e1] at e2; cases e2; rfl
    · exact absurd (List.mem_map.mpr ⟨_, h2, by rw [← e1]⟩) n1
    · exact absurd (List.mem_map.mpr ⟨_, h1, by rw [← e2]⟩) n1
    · exact ih n2 h1 h2
theorem getN_of {l : List (Nat × Nat)} (h : (l.map Prod.fst).Nodup) {k c : Nat} (h1 : (k, c) ∈ l) : getN l k = some c := by
  cases hg : getN l k with
  | none => exact absurd h1 (getN_none hg c)
  | some d => rw [uniq h h1 (getN_mem hg)]
/-- what was put so far: os, the options -/
structure Aft (os : List (Nat × Nat)) (Al : List (Nat × Nat)) : Prop where
  nd : (Al.map Prod.fst).Nodup
  one : ∀ x c, (x, c) ∈ Al → (x, c) ∈ os
  all : ∀ x c, (x, c) ∈ os → ∃ d, (x, d) ∈ Al ∧ d ≤ c
theorem Aft.nil : Aft [] [] := ⟨by simp, fun _ _ h => (by cases h), fun _ _ h => (by cases h)⟩
theorem Aft.put {os Al : List (Nat × Nat)} (h : Aft os Al) (o : Nat × Nat) : Aft (os ++ [o]) (putMin Al o) := by
  obtain ⟨k, v⟩ := o
  unfold putMin
  refine ⟨putN_keys h.nd, fun x c hx => ?_, fun x c hx => ?_⟩
  · rcases putN_mem hx with ⟨_, hx⟩ | ⟨rfl, rfl⟩
    · exact List.mem_append_left _ (h.one x c hx)
    · cases hg : getN Al x with
      | none => simp [hg]
      | some d =>
        simp only [hg, Option.getD_some]
        rcases Nat.le_total v d with q | q
        · rw [Nat.min_eq_left q]; exact List.mem_append_right _ (by simp)
        · rw [Nat.min_eq_right q]; exact List.mem_append_left _ (h.one x d (getN_mem hg))
  · rcases List.mem_append.mp hx with hx | hx
    · obtain ⟨d, h1, h2⟩ := h.all x c hx
      by_cases e : x = k
      · subst e
        rw [getN_of h.nd h1]
        exact ⟨_, putN_new, by simp; omega⟩
      · exact ⟨d, putN_old h1 e, h2⟩
    · have := List.mem_singleton.mp hx
      cases this
      exact ⟨_, putN_new, Nat.min_le_left _ _⟩
/-- the table stands for all runs so far -/
structure Dp (k : Nat) (pre : List Nat) (l : List (Nat × Nat)) : Prop where
  nd : (l.map Prod.fst).Nodup
  cd : ∀ m c, (m, c) ∈ l → card (msk m) ≤ k
  run : ∀ m c, (m, c) ∈ l → ∀ σ n, Run k (msk m) σ n → Run k emp (pre ++ σ) (c + n)
  all : ∀ σ n, Run k emp (pre ++ σ) n → ∃ m c n', (m, c) ∈ l ∧ Run k (msk m) σ n' ∧ c + n' ≤ n
theorem msk_0 : msk 0 = emp := by
  funext x
  rw [Bool.eq_iff_iff, msk_iff]
  simp [emp]
theorem Dp.start {k : Nat} : Dp k [] [(0, 0)] := by
  refine ⟨by simp, fun m c h => ?_, fun m c h σ n r => ?_, fun σ n r => ?_⟩
  · have := List.mem_singleton.mp h
    cases this
    rw [msk_0, card_emp]
    exact Nat.zero_le _
  · have := List.mem_singleton.mp h
    cases this
    rw [msk_0] at r
    simpa using r
  · exact ⟨0, 0, n, by simp, by rw [msk_0]; exact r, by omega⟩
/-- all options of a table -/
def allOpts (k p : Nat) (l : List (Nat × Nat)) : List (Nat × Nat) := l.flatMap fun e => opts k p e.1 e.2
theorem Dp.step {k p : Nat} {pre l Al os : List (Nat × Nat)} {pre : List Nat} (hp : p < 9) (h : Dp k pre l) (ha : Aft os Al) (ho : ∀ e, e ∈ os ↔ e ∈ allOpts k p l) : Dp k (pre ++ [p]) Al := by
  have from' : ∀ x c, (x, c) ∈ Al → ∃ m d, (m, d) ∈ l ∧ (x, c) ∈ opts k p m d := fun x c hx => by
    have := (ho _).mp (ha.one x c hx)
    obtain ⟨e, h1, h2⟩ := List.mem_flatMap.mp this
    exact ⟨e.1, e.2, h1, h2⟩
  have to' : ∀ m d, (m, d) ∈ l → ∀ x c, (x, c) ∈ opts k p m d → ∃ d', (x, d') ∈ Al ∧ d' ≤ c := fun m d hm x c hx => ha.all x c ((ho _).mpr (List.mem_flatMap.mpr ⟨(m, d), hm, hx⟩))
  have kinds : ∀ m d x c, card (msk m) ≤ k → (x, c) ∈ opts k p m d → card (msk x) ≤ k ∧ ∀ σ n, Run k (msk x) σ n → ∃ n', Run k (msk m) (p :: σ) n' ∧ d + n' = c + n := fun m d x c cd hx => by
    unfold opts at hx
    by_cases hb : m.testBit p = true
    · rw [if_pos hb] at hx
      have := List.mem_singleton.mp hx
      cases this
      exact ⟨cd, fun σ n r => ⟨n, .hit (msk_iff.mpr ⟨hp, hb⟩) r, rfl⟩⟩
    · rw [if_neg hb] at hx
      have hm : msk m p = false := by
        rw [Bool.eq_false_iff]
        exact fun z => hb (msk_iff.mp z).2
      by_cases hl : (pgs m).length < k
      · rw [if_pos hl] at hx
        have := List.mem_singleton.mp hx
        cases this
        rw [pgs_card] at hl
        rw [msk_ins hp]
        exact ⟨by rw [card_ins hp hm]; omega, fun σ n r => ⟨n + 1, .add hm hl r, by omega⟩⟩
      · rw [if_neg hl] at hx
        obtain ⟨q, hq, e⟩ := List.mem_map.mp hx
        cases e
        have mq := pgs_mem.mp hq
        rw [pgs_card] at hl
        rw [msk_ins hp, msk_del (msk_iff.mp mq).2]
        exact ⟨by rw [card_swap hp (msk_iff.mp mq).1 hm mq]; exact cd, fun σ n r => ⟨n + 1, .swp hm (by omega) mq r, by omega⟩⟩
  refine ⟨ha.nd, fun x c hx => ?_, fun x c hx σ n r => ?_, fun σ n r => ?_⟩
  · obtain ⟨m, d, hm, hx⟩ := from' x c hx
    exact (kinds m d x c (h.cd m d hm) hx).1
  · obtain ⟨m, d, hm, hx⟩ := from' x c hx
    obtain ⟨n', r', e⟩ := (kinds m d x c (h.cd m d hm) hx).2 σ n r
    have := h.run m d hm (p :: σ) n' r'
    rw [e] at this
    rw [List.append_assoc]
    exact this
  · rw [List.append_assoc] at r
    obtain ⟨m, d, n', hm, r', le⟩ := h.all (p :: σ) n r
    have cd := h.cd m d hm
    cases r' with
    | hit hc r' =>
      have hb := (msk_iff.mp hc).2
      obtain ⟨d', h1, h2⟩ := to' m d hm m d (by unfold opts; rw [if_pos hb]; simp)
      exact ⟨m, d', n', h1, r', by omega⟩
    | @add _ _ n'' _ hc hl r' =>
      have hb : ¬ m.testBit p = true := fun z => by rw [msk_iff.mpr ⟨hp, z⟩] at hc; cases hc
      obtain ⟨d', h1, h2⟩ := to' m d hm (m ||| 2 ^ p) (d + 1) (by unfold opts; rw [if_neg hb, if_pos (by rw [pgs_card]; exact hl)]; simp)
      exact ⟨_, d', n'', h1, by rw [msk_ins hp]; exact r', by omega⟩
    | @swp _ _ q n'' _ hc hl hq r' =>
      have hb : ¬ m.testBit p = true := fun z => by rw [msk_iff.mpr ⟨hp, z⟩] at hc; cases hc
      obtain ⟨d', h1, h2⟩ := to' m d hm ((m ^^^ 2 ^ q) ||| 2 ^ p) (d + 1) (by unfold opts; rw [if_neg hb, if_neg (by rw [pgs_card]; omega)]; exact List.mem_map.mpr ⟨q, pgs_mem.mpr hq, rfl⟩)
      exact ⟨_, d', n'', h1, by rw [msk_ins hp, msk_del (msk_iff.mp hq).2]; exact r', by omega⟩
theorem Dp.least {k f : Nat} {asks : List Nat} {l : List (Nat × Nat)} (h : Dp k asks l) (hσ : ∀ p ∈ asks, p < 9) (hf : Far k emp asks f) : (∃ m, (m, f) ∈ l) ∧ ∀ m c, (m, c) ∈ l → f ≤ c := by
  have best := Far.best hσ (fun x hx => by cases hx) (by rw [card_emp]; exact Nat.zero_le _) hf
  have low : ∀ m c, (m, c) ∈ l → f ≤ c := fun m c hm => by
    have := h.run m c hm [] 0 .nil
    rw [List.append_nil] at this
    exact best _ this
  obtain ⟨m, c, n', hm, r, le⟩ := h.all [] f (by rw [List.append_nil]; exact hf.run)
  have := low m c hm
  have e : c = f := by omega
  exact ⟨⟨m, by rw [← e]; exact hm⟩, low⟩
theorem far_mono {k k' f g : Nat} {asks : List Nat} (hk : k ≤ k') (hσ : ∀ p ∈ asks, p < 9) (hf : Far k emp asks f) (hg : Far k' emp asks g) : g ≤ f := by
  obtain ⟨m, h1, h2⟩ := mono hk asks emp emp f hσ (fun x hx => by cases hx) (fun x hx => by cases hx) (by rw [card_emp]; exact Nat.zero_le _) (by rw [card_emp]; exact Nat.zero_le _) (fun x hx => hx) hf.run
  have := Far.best hσ (fun x hx => by cases hx) (by rw [card_emp]; exact Nat.zero_le _) hg m h2
  omega
theorem far_uniq {k f g : Nat} {asks : List Nat} (hσ : ∀ p ∈ asks, p < 9) (hf : Far k emp asks f) (hg : Far k emp asks g) : f = g := by
  have := far_mono (Nat.le_refl k) hσ hf hg
  have := far_mono (Nat.le_refl k) hσ hg hf
  omega
theorem St_nil : St [] = emp := by
  funext x
  simp [St, emp]
end Pg
namespace Z
/-! ### what is drawn -/
def IsBox (c : Int) (x : Val) : Prop := ∃ (g m n : Int) (b : Bool), x = .lst [.int g, .bl b, .int m, .int n] ∧ 0 ≤ m ∧ m < 2147483629 ∧ 0 ≤ n ∧ n ≤ c
theorem take_ok {c many : Int} {x : Val} (h : IsBox c x) (hc : c ≤ 1000000) (h1 : 1 ≤ many) (h2 : many ≤ 1000000) : ∃ (d : Int) (y : Val), 0 ≤ d ∧ d < many ∧ IsBox (c + 1) y ∧ m__law_take [.own x, .v (.int many)] = .ok (.v (.int d)) [.own true y, .v (.int many)] := by
  obtain ⟨g, m, n, b, rfl, m1, m2, n1, n2⟩ := h
  by_cases hb : b = true ∧ 0 < g
  · obtain ⟨rfl, hg⟩ := hb
    refine ⟨g % many, .lst [.int (g / many), .bl true, .int m, .int n], Int.emod_nonneg _ (by omega), Int.emod_lt_of_pos _ (by omega), ⟨_, _, _, _, rfl, m1, m2, n1, by omega⟩, ?_⟩
    have e1 : fMod (.int g) (.int many) = some (.v (.int (g % many))) := fMod_ok (by omega)
    have e2 : fDiv (.int g) (.int many) = some (.v (.int (g / many))) := fDiv_ok (by omega) (by omega)
    simp [m__law_take, b__law_take, atV, setAt, e1, e2, hg, -fMod_int, -fDiv_int]
  · have e0 : fMul (.int 15485863) (.int (n + 1)) = some (.v (.int (15485863 * (n + 1)))) := fMul_ok (by omega) (by omega) (by omega) (by omega)
    have e1 : fPow (.int (m + 15485863 * (n + 1) + 179424673)) (.int 5) = some (.v (.int ((m + 15485863 * (n + 1) + 179424673) ^ 5))) := fPow_ok (by omega) (by omega) (by omega) (by omega)
    generalize hz : (m + 15485863 * (n + 1) + 179424673) ^ 5 = z at e1
    have e2 : fMod (.int z) (.int 2147483647) = some (.v (.int (z % 2147483647))) := fMod_ok (by omega)
    have z1 := Int.emod_nonneg z (show (2147483647 : Int) ≠ 0 by omega)
    have z2 := Int.emod_lt_of_pos z (show (0 : Int) < 2147483647 by omega)
    generalize hy : z % 2147483647 = y at e2 z1 z2
    have e3 : fMul (.int y) (.int 48271) = some (.v (.int (y * 48271))) := fMul_ok (by omega) (by omega) (by omega) (by omega)
    have e4 : fMul (.int 104729) (.int (n + 1)) = some (.v (.int (104729 * (n + 1)))) := fMul_ok (by omega) (by omega) (by omega) (by omega)
    have e5 : fPow (.int (y * 48271 + 104729 * (n + 1))) (.int 3) = some (.v (.int ((y * 48271 + 104729 * (n + 1)) ^ 3))) := fPow_ok (by omega) (by omega) (by omega) (by omega)
    generalize hw : (y * 48271 + 104729 * (n + 1)) ^ 3 = w at e5
    have e6 : fMod (.int w) (.int 2147483587) = some (.v (.int (w % 2147483587))) := fMod_ok (by omega)
    have e7 : fDiv (.int (w % 2147483587)) (.int 64) = some (.v (.int (w % 2147483587 / 64))) := fDiv_ok (by omega) (by omega)
    have e8 : fMod (.int (w % 2147483587 / 64)) (.int many) = some (.v (.int (w % 2147483587 / 64 % many))) := fMod_ok (by omega)
    refine ⟨w % 2147483587 / 64 % many, .lst [.int g, .bl b, .int m, .int (n + 1)], Int.emod_nonneg _ (by omega), Int.emod_lt_of_pos _ (by omega), ⟨_, _, _, _, rfl, m1, m2, by omega, by omega⟩, ?_⟩
    have hb' : b = false ∨ (b = true ∧ ¬ 0 < g) := by cases b <;> simp_all
    rcases hb' with rfl | ⟨rfl, hg⟩
    · simp [m__law_take, b__law_take, atV, setAt, e0, e1, e2, e3, e4, e5, e6, e7, e8, -fMod_int, -fDiv_int, -fMul_int, -fPow_int]
    · simp [m__law_take, b__law_take, atV, setAt, hg, e0, e1, e2, e3, e4, e5, e6, e7, e8, -fMod_int, -fDiv_int, -fMul_int, -fPow_int]
end Z
namespace Z
open PySem (Str)
open L2
/-! ### the same -/
def good : Nat → Val → Bool
  | _, .non => true
  | _, .bl _ => true
  | _, .int _ => true
  | _, .str s => decide (s.length ≤ 1000000) && s.cps.all (· < 0x110000)
  | n + 1, .lst xs => decide (xs.length ≤ 1000000) && xs.all (good n)
  | n + 1, .tup xs => decide (xs.length ≤ 1000000) && xs.all (good n)
  | _, .dic [] => true
  | _, _ => false
theorem sign_at {s : Str} {k : Nat} (h : k < s.length) : ∃ c, s.cps.toList[k]? = some c ∧ cutS s (some (k : Int)) (some ((k : Int) + 1)) = ⟨#[c]⟩ := by
  have hl : s.cps.toList.length = s.length := by simp [Str.length]
  have hk : k < s.cps.toList.length := by rw [hl]; exact h
  refine ⟨s.cps.toList[k], List.getElem?_eq_getElem hk, ?_⟩
  unfold cutS
  have e : ((k : Int) + 1) = ((k + 1 : Nat) : Int) := by omega
  rw [e, HT.sIx_nat, HT.sIx_nat, Nat.min_eq_left (by omega), Nat.min_eq_left (by omega), List.drop_eq_getElem_cons hk, show k + 1 - k = 1 by omega]
  rfl
theorem fNe_str {s : Str} (h : s.cps.all (· < 0x110000) = true) : fNe (.str s) (.str s) = some (.v (.bl false)) := by
  have e : (vok 60 (.str s) && vok 60 (.str s)) = true := by
    show (s.cps.all (· < 0x110000) && s.cps.all (· < 0x110000)) = true
    rw [h]; rfl
  unfold fNe
  rw [if_pos e]
  show some (RV.v (Val.bl (!(s == s)))) = _
  simp
theorem fEq_nil : fEq (.lst []) (.lst []) = some (.v (.bl true)) := rfl
theorem sign_ok {s : Str} {k : Nat} (h : k < s.length) (ha : s.cps.all (· < 0x110000) = true) : ∃ c, fSl (.str s) (some (k : Int)) (some ((k : Int) + 1)) = (if s.length ≤ sizeMax then some (.v (.str ⟨#[c]⟩)) else none) ∧ fIx (.str s) (.int k) = (if s.length ≤ sizeMax then some (.v (.str ⟨#[c]⟩)) else none) ∧ fNe (.str ⟨#[c]⟩) (.str ⟨#[c]⟩) = some (.v (.bl false)) := by
  obtain ⟨c, h1, h2⟩ := sign_at h
  refine ⟨c, by rw [fSl_str, h2], ?_, fNe_str ?_⟩
  · show (if s.length ≤ sizeMax then (Z.atV s.cps.toList k).map fun c => RV.v (Val.str ⟨#[c]⟩) else none) = _
    have : Z.atV s.cps.toList (k : Int) = some c := by
      unfold Z.atV
      rw [if_pos (by omega), Int.toNat_natCast, h1]
    rw [this]; rfl
  · have hm : c ∈ s.cps := by
      have := List.mem_of_getElem? h1
      simpa using this
    have := Array.all_eq_true'.mp ha c hm
    simpa using this
/-- the sources of a parameter's place -/
inductive PS (x : Val) : Slot → Prop
  | v : PS x (.v x)
  | own : PS x (.own true x)
theorem same_str {s : Str} {n : Nat} {a b : Slot} (ha : PS (.str s) a) (hb : PS (.str s) b) (g : good n (.str s) = true) (self : Fn) : fin 2 (b__law_same self [a, b, .emp]) = .ok (.v (.bl true)) [a, b] := by
  have g' : s.length ≤ 1000000 ∧ s.cps.all (· < 0x110000) = true := by
    cases n <;> simpa [good] using g
  have r1 : inR (s.length : Int) = true := inR_of (by omega) (by omega)
  have hz : s.length ≤ 16777216 := by omega
  have hc : ∀ (a b : Slot), PS (.str s) a → PS (.str s) b → compL [2] (tgN 2) (tE (eOp fNe (eSl fSl (eV 0) (some (eV 2)) (some (eOp fAdd (eV 2) (eC (.int 1))))) (eOp fIx (eV 1) (eV 2)))) (eV 2) (rangeV 0 s.length) [a, b, .emp] = .ok [] [a, b, .emp] := by
    intro a b ha hb
    refine compL_none fun x hx => ?_
    obtain ⟨i, hi, rfl⟩ := mem_rangeV hx
    obtain ⟨c, h1, h2, h3⟩ := sign_ok hi g'.2
    rw [if_pos (show s.length ≤ sizeMax from hz)] at h1 h2
    refine ⟨[a, b, .v (.int (0 + i))], by simp, ?_, by simp, by simp⟩
    cases ha <;> cases hb <;> simp [h1, h2, h3, -fSl_str]
  cases ha <;> cases hb <;> simp [b__law_same, rng1_int _ r1, hz, hc _ _ .v .v, hc _ _ .v .own, hc _ _ .own .v, hc _ _ .own .own, fEq_nil]
theorem same_seq {xs : List Val} {X : Val} {a b : Slot} (hX : X = .lst xs ∨ X = .tup xs) (ha : PS X a) (hb : PS X b) (hl : xs.length ≤ 1000000) (self : Fn) (ih : ∀ x ∈ xs, (self [.v x, .v x]).out = .ok (.v (.bl true))) : fin 2 (b__law_same self [a, b, .emp]) = .ok (.v (.bl true)) [a, b] := by
  have r1 : inR (xs.length : Int) = true := inR_of (by omega) (by omega)
  have hz : xs.length ≤ 16777216 := by omega
  have hc : ∀ (a b : Slot), PS X a → PS X b → compL [2] (tgN 2) (tNot (tE (eCall self (asCons (eOp fIx (eV 0) (eV 2)) (asCons (eOp fIx (eV 1) (eV 2)) asNil))))) (eV 2) (rangeV 0 xs.length) [a, b, .emp] = .ok [] [a, b, .emp] := by
    intro a b ha hb
    refine compL_none fun x hx => ?_
    obtain ⟨i, hi, rfl⟩ := mem_rangeV hx
    have h1 : Z.atV xs (i : Int) = some xs[i] := by
      unfold Z.atV
      rw [if_pos (by omega), Int.toNat_natCast, List.getElem?_eq_getElem hi]
    have h2 := ih xs[i] (List.getElem_mem hi)
    refine ⟨[a, b, .v (.int (0 + i))], by simp, ?_, by simp, by simp⟩
    rcases hX with rfl | rfl <;> cases ha <;> cases hb <;> simp [h1, h2]
  rcases hX with rfl | rfl <;> cases ha <;> cases hb <;> simp [b__law_same, rng1_int _ r1, hz, hc _ _ .v .v, hc _ _ .v .own, hc _ _ .own .v, hc _ _ .own .own, fEq_nil]
theorem same_slots : ∀ (n : Nat) (x : Val), good n x = true → ∀ a b : Slot, PS x a → PS x b → fin 2 (b__law_same (m__law_same n) [a, b, .emp]) = .ok (.v (.bl true)) [a, b] := by
  intro n
  induction n with
  | zero =>
    intro x g a b ha hb
    cases x with
    | non => cases ha <;> cases hb <;> simp [b__law_same]
    | bl k => cases ha <;> cases hb <;> cases k <;> simp [b__law_same]
    | int i => cases ha <;> cases hb <;> simp [b__law_same]
    | str s => exact same_str ha hb g _
    | lst xs => cases g
    | tup xs => cases g
    | dic kvs => cases kvs with
      | nil =>
        have r0 : inR 0 = true := inR_of (by omega) (by omega)
        cases ha <;> cases hb <;> simp [b__law_same, rng1_int _ r0, rangeV, compL, fEq_nil]
      | cons _ _ => cases g
    | obj _ _ => cases g
    | scr _ => cases g
  | succ n ih =>
    intro x g a b ha hb
    have step : ∀ {xs : List Val}, (decide (xs.length ≤ 1000000) && xs.all (good n)) = true → xs.length ≤ 1000000 ∧ ∀ x ∈ xs, (m__law_same (n + 1) [.v x, .v x]).out = .ok (.v (.bl true)) := fun {xs} h => by
      rw [Bool.and_eq_true, decide_eq_true_eq, List.all_eq_true] at h
      refine ⟨h.1, fun x hx => ?_⟩
      have := ih x (h.2 x hx) _ _ .v .v
      show (mkF 2 3 (b__law_same (m__law_same n)) [.v x, .v x]).out = _
      have e : mkF 2 3 (b__law_same (m__law_same n)) [.v x, .v x] = fin 2 (b__law_same (m__law_same n) [.v x, .v x, .emp]) := rfl
      rw [e, this]
      rfl
    cases x with
    | non => cases ha <;> cases hb <;> simp [b__law_same]
    | bl k => cases ha <;> cases hb <;> cases k <;> simp [b__law_same]
    | int i => cases ha <;> cases hb <;> simp [b__law_same]
    | str s => exact same_str ha hb g _
    | lst xs => exact same_seq (.inl rfl) ha hb (step g).1 _ (step g).2
    | tup xs => exact same_seq (.inr rfl) ha hb (step g).1 _ (step g).2
    | dic kvs => cases kvs with
      | nil =>
        have r0 : inR 0 = true := inR_of (by omega) (by omega)
        cases ha <;> cases hb <;> simp [b__law_same, rng1_int _ r0, rangeV, compL, fEq_nil]
      | cons _ _ => cases g
    | obj _ _ => cases g
    | scr _ => cases g
/-- a value and itself -/
theorem same_full {x : Val} (g : good 7 x = true) : m__law_same 8 [.own x, .own x] = .ok (.v (.bl true)) [.own true x, .own true x] := same_slots 7 x g _ _ .own .own
theorem same_vv {x : Val} (g : good 7 x = true) : (m__law_same 8 [.v x, .v x]).out = .ok (.v (.bl true)) := by
  have := same_slots 7 x g _ _ .v .v
  show (fin 2 (b__law_same (m__law_same 7) [.v x, .v x, .emp])).out = _
  rw [this]
  rfl
theorem same_oo {x : Val} (g : good 7 x = true) : (m__law_same 8 [.own x, .own x]).out = .ok (.v (.bl true)) := by
  rw [same_full g]
  rfl
end Z
namespace Z
open PySem (Str)
open Pg
/-! ### the program's checks -/
def isI (x : Val) (lo hi : Int) : Bool := match x with
  | .int n => decide (lo ≤ n) && decide (n ≤ hi)
  | _ => false
def plainV : Val → Bool
  | .non => true
  | .bl _ => true
  | .int _ => true
  | .str _ => true
  | .tup _ => true
  | .lst _ => true
  | .dic _ => true
  | _ => false
theorem between_ok {x : Val} {lo hi : Int} (h : plainV x = true) : (m_is_between [.v x, .v (.int lo), .v (.int hi)]).out = .ok (.v (.bl (isI x lo hi))) := by
  cases x with
  | int n =>
    have e : (m_is_integer [.v (.int n)]).out = .ok (.v (.bl true)) := by simp [m_is_integer, b_is_integer]
    by_cases c : lo ≤ n <;> simp [m_is_between, b_is_between, e, isI, c]
  | non =>
    have e : (m_is_integer [.v .non]).out = .ok (.v (.bl false)) := by simp [m_is_integer, b_is_integer]
    simp [m_is_between, b_is_between, e, isI]
  | bl b =>
    have e : (m_is_integer [.v (.bl b)]).out = .ok (.v (.bl false)) := by simp [m_is_integer, b_is_integer]
    simp [m_is_between, b_is_between, e, isI]
  | str s =>
    have e : (m_is_integer [.v (.str s)]).out = .ok (.v (.bl false)) := by simp [m_is_integer, b_is_integer]
    simp [m_is_between, b_is_between, e, isI]
  | tup s =>
    have e : (m_is_integer [.v (.tup s)]).out = .ok (.v (.bl false)) := by simp [m_is_integer, b_is_integer]
    simp [m_is_between, b_is_between, e, isI]
  | lst s =>
    have e : (m_is_integer [.v (.lst s)]).out = .ok (.v (.bl false)) := by simp [m_is_integer, b_is_integer]
    simp [m_is_between, b_is_between, e, isI]
  | dic s =>
    have e : (m_is_integer [.v (.dic s)]).out = .ok (.v (.bl false)) := by simp [m_is_integer, b_is_integer]
    simp [m_is_between, b_is_between, e, isI]
  | _ => cases h
theorem fAll_bls (bs : List Bool) : fAll [.lst (bs.map Val.bl)] = some (.v (.bl (bs.all id))) := by
  show (match bls? (bs.map Val.bl) with | some bs => some (RV.v (.bl (bs.all id))) | none => none) = _
  rw [bls?_map]
theorem row_ok {xs : List Val} {n : Nat} {lo hi : Int} (hp : ∀ x ∈ xs, plainV x = true) (hl : xs.length ≤ 1000) : (m_is_row [.v (.tup xs), .v (vi n), .v (.int lo), .v (.int hi)]).out = .ok (.v (.bl (decide (xs.length = n) && xs.all fun x => isI x lo hi))) := by
  have e1 : (m_is_tuple_of [.v (.tup xs), .v (vi n)]).out = .ok (.v (.bl (decide (xs.length = n)))) := by
    simp only [vi]
    simp [m_is_tuple_of, b_is_tuple_of]
    omega
  by_cases c : xs.length = n
  · rw [decide_eq_true c] at e1
    have hc : compL [4] (tgN 4) tYes (eCall m_is_between (asCons (eV 4) (asCons (eV 2) (asCons (eV 3) asNil)))) xs [.v (.tup xs), .v (vi n), .v (.int lo), .v (.int hi), .emp] = .ok ((xs.map fun x => isI x lo hi).map Val.bl) [.v (.tup xs), .v (vi n), .v (.int lo), .v (.int hi), .emp] := by
      rw [compL_all (e := [.v (.tup xs), .v (vi n), .v (.int lo), .v (.int hi), .emp]) (fun y => .bl (isI y lo hi)) fun y hy => by
        have eb := between_ok (lo := lo) (hi := hi) (hp y hy)
        refine ⟨[.v (.tup xs), .v (vi n), .v (.int lo), .v (.int hi), .v y], by simp, by simp, ⟨.v (.bl (isI y lo hi)), ?_, by simp⟩, by simp, by simp⟩
        simp [eb], List.map_map]
      rfl
    have ha := fAll_bls (xs.map fun x => isI x lo hi)
    have hid : (xs.map fun x => isI x lo hi).all id = xs.all fun x => isI x lo hi := by rw [List.all_map]; rfl
    rw [hid] at ha
    rw [decide_eq_true c, Bool.true_and]
    generalize (xs.map fun x => isI x lo hi).map Val.bl = L at *
    generalize (xs.all fun x => isI x lo hi) = r at *
    have b1 : xs.length ≤ 16777216 := by omega
    simp only [vi] at *
    simp [m_is_row, b_is_row, e1, hc, ha, b1]
  · rw [decide_eq_false c] at e1
    rw [decide_eq_false c, Bool.false_and]
    simp only [vi] at *
    simp [m_is_row, b_is_row, e1]
/-- asks that fit -/
def askOk : Val → Bool
  | .tup xs => decide (xs.length ≤ 40) && xs.all fun x => isI x 0 8
  | _ => false
theorem check_asks_ok {x : Val} (h : plainV x = true) (hx : ∀ xs, x = .tup xs → (∀ y ∈ xs, plainV y = true) ∧ xs.length ≤ 1000) : (m_check_asks [.v x]).out = if askOk x = true then .ok (.v .non) else .ex "InvalidAsks" [("given", x)] := by
  cases x with
  | tup xs =>
    obtain ⟨h1, h2⟩ := hx xs rfl
    have e := row_ok (n := xs.length) (lo := 0) (hi := 8) h1 h2
    rw [decide_eq_true rfl, Bool.true_and] at e
    have ea : askOk (.tup xs) = (decide (xs.length ≤ 40) && xs.all fun x => isI x 0 8) := rfl
    rw [ea]
    by_cases c : xs.length ≤ 40
    · have c' : ¬ (40 : Int) < (xs.length : Int) := by omega
      rw [decide_eq_true c, Bool.true_and]
      generalize (xs.all fun x => isI x 0 8) = b at *
      have c2 : ¬ 40 < xs.length := by omega
      simp only [vi] at *
      cases b <;> simp [m_check_asks, b_check_asks, e, c', c2]
    · have c' : (40 : Int) < (xs.length : Int) := by omega
      have c2 : 40 < xs.length := by omega
      rw [decide_eq_false c, Bool.false_and]
      simp [m_check_asks, b_check_asks, c', c2]
  | non => simp [m_check_asks, b_check_asks, askOk]
  | bl b => simp [m_check_asks, b_check_asks, askOk]
  | int b => simp [m_check_asks, b_check_asks, askOk]
  | str b => simp [m_check_asks, b_check_asks, askOk]
  | lst b => simp [m_check_asks, b_check_asks, askOk]
  | dic b => simp [m_check_asks, b_check_asks, askOk]
  | _ => cases h
theorem places_ok {x : Val} (h : plainV x = true) : (m_check_places [.v x]).out = if isI x 1 5 = true then .ok (.v .non) else .ex "InvalidPlaces" [("given", x)] := by
  have e := between_ok (lo := 1) (hi := 5) h
  cases c : isI x 1 5 <;> rw [c] at e <;> simp [m_check_places, b_check_places, e]
theorem isI_nat {n : Nat} {lo hi : Int} (h1 : lo ≤ n) (h2 : (n : Int) ≤ hi) : isI (vi n) lo hi = true := by
  simp [isI]; omega
/-- asks that are drawn -/
structure Ask (asks : List Nat) : Prop where
  len : asks.length ≤ 40
  n9 : ∀ p ∈ asks, p < 9
def Av (asks : List Nat) : Val := .tup (asks.map vi)
theorem plain_vis (l : List Nat) : ∀ x ∈ l.map vi, plainV x = true := fun x hx => by
  obtain ⟨k, _, rfl⟩ := List.mem_map.mp hx
  rfl
theorem asks_in {asks : List Nat} (h : Ask asks) : (m_check_asks [.v (Av asks)]).out = .ok (.v .non) := by
  have := check_asks_ok (x := Av asks) rfl fun xs e => by
    cases e
    exact ⟨plain_vis asks, by rw [List.length_map]; have := h.len; omega⟩
  rw [if_pos] at this
  · exact this
  · show (decide _ && _) = true
    rw [decide_eq_true (by rw [List.length_map]; exact h.len), Bool.true_and, List.all_eq_true]
    intro x hx
    obtain ⟨k, hk, rfl⟩ := List.mem_map.mp hx
    have := h.n9 k hk
    exact isI_nat (by omega) (by omega)
theorem places_in {k : Nat} (h1 : 1 ≤ k) (h2 : k ≤ 5) : (m_check_places [.v (vi k)]).out = .ok (.v .non) := by
  have := places_ok (x := vi k) rfl
  rwa [if_pos (isI_nat (by omega) (by omega))] at this
inductive Rule | oldest | unused | last | farthest
def Rule.s : Rule → Str
  | .oldest => "oldest"
  | .unused => "unused"
  | .last => "last"
  | .farthest => "farthest"
theorem rule_in (r : Rule) : (m_check_rule [.v (.str r.s)]).out = .ok (.v .non) := by
  have e : fNotIn (.str r.s) (.tup [.str "oldest", .str "unused", .str "last", .str "farthest"]) = some (.v (.bl false)) := by
    have k : ∀ r : Rule, (isFlat (.str r.s) && [Val.str "oldest", .str "unused", .str "last", .str "farthest"].all isFlat) = true ∧ ([Val.str "oldest", .str "unused", .str "last", .str "farthest"].any fun y => veq y (.str r.s)) = true := fun r => by
      cases r <;> exact ⟨by decide +kernel, by decide +kernel⟩
    obtain ⟨k1, k2⟩ := k r
    show (if (isFlat (.str r.s) && [Val.str "oldest", .str "unused", .str "last", .str "farthest"].all isFlat) = true then some (RV.v (.bl (![Val.str "oldest", .str "unused", .str "last", .str "farthest"].any fun y => veq y (.str r.s)))) else none) = _
    rw [if_pos k1, k2]
    rfl
  simp [m_check_rule, b_check_rule, e]
/-! ### where a page is asked -/
def occ (asks : List Nat) (p lo hi : Nat) : List Nat := (List.range hi).filter fun j => decide (lo ≤ j) && (asks[j]? == some p)
theorem next_ok {asks : List Nat} {i p : Nat} (h : Ask asks) (hi : i < asks.length) : (m_next_ask [.v (Av asks), .v (vi i), .v (vi p)]).out = .ok (.v (vi (i + 1 + nx p (asks.drop (i + 1))))) := by
  have l40 := h.len
  have hc : compL [4] (tgN 4) (tE (eOp fEq (eOp fIx (eV 0) (eV 4)) (eV 2))) (eV 4) (rangeV ((i + 1 : Nat) : Int) (asks.length - (i + 1))) [.v (Av asks), .v (vi i), .v (vi p), .emp, .emp] = .ok (((List.range (asks.length - (i + 1))).filter fun j => asks[i + 1 + j]? == some p).map fun j => vi (i + 1 + j)) [.v (Av asks), .v (vi i), .v (vi p), .emp, .emp] := by
    rw [rng_map]
    refine compL_mapf (fun j : Nat => Val.int (((i + 1 : Nat) : Int) + j)) (fun j => asks[i + 1 + j]? == some p) (fun j => vi (i + 1 + j)) fun j hj => ?_
    have hj := List.mem_range.mp hj
    have a1 := atV_vi (l := asks) (k := i + 1 + j) (by omega)
    have a2 : asks[i + 1 + j]? = some (asks.getD (i + 1 + j) 0) := by
      rw [List.getD_eq_getElem?_getD, List.getElem?_eq_getElem (by omega)]; rfl
    have e1 : ((i + 1 : Nat) : Int) + j = ((i + 1 + j : Nat) : Int) := by omega
    rw [a2, e1]
    generalize asks.getD (i + 1 + j) 0 = g at *
    have eb : (some g == some p) = decide ((g : Int) = (p : Int)) := by
      by_cases q : g = p
      · subst q; simp
      · have : ¬ (g : Int) = (p : Int) := by omega
        simp [q, this]
    rw [eb]
    refine ⟨[.v (Av asks), .v (vi i), .v (vi p), .emp, .v (vi (i + 1 + j))], by simp, ?_, fun _ => ⟨.v (vi (i + 1 + j)), by simp, by simp⟩, by simp, by simp⟩
    unfold Av
    simp only [vi] at *
    generalize ((i + 1 + j : Nat) : Int) = z at *
    simp [a1]
  have key : ∀ (σ : List Nat), ((List.range σ.length).filter fun j => σ[j]? == some p) = [] ∧ nx p σ = σ.length ∨ ∃ r, ((List.range σ.length).filter fun j => σ[j]? == some p) = nx p σ :: r := by
    intro σ
    induction σ with
    | nil => exact .inl ⟨rfl, rfl⟩
    | cons a σ ih =>
      rw [List.length_cons, List.range_succ_eq_map, List.filter_cons]
      by_cases e : a = p
      · subst e
        right
        exact ⟨((List.range σ.length).map Nat.succ).filter fun j => (a :: σ)[j]? == some a, by simp [nx]⟩
      · have e1 : ((a :: σ)[0]? == some p) = false := by simpa using e
        rw [e1, if_neg Bool.false_ne_true, List.filter_map]
        have e2 : ((fun j => (a :: σ)[j]? == some p) ∘ Nat.succ) = fun j => σ[j]? == some p := by
          funext j; simp
        rw [e2]
        have e3 : nx p (a :: σ) = nx p σ + 1 := by simp [nx, e]
        rw [e3]
        rcases ih with ⟨h1, h2⟩ | ⟨r, h1⟩
        · exact .inl ⟨by rw [h1]; rfl, by omega⟩
        · exact .inr ⟨_, by rw [h1]; rfl⟩
  have k := key (asks.drop (i + 1))
  have e0 : ((List.range (asks.drop (i + 1)).length).filter fun j => (asks.drop (i + 1))[j]? == some p) = ((List.range (asks.length - (i + 1))).filter fun j => asks[i + 1 + j]? == some p) := by
    rw [List.length_drop]
    congr 1
    funext j
    rw [List.getElem?_drop]
  rw [e0, List.length_drop] at k
  have r1 : inR ((i + 1 : Nat) : Int) = true := inR_of (by omega) (by omega)
  have r2 : inR (asks.length : Int) = true := inR_of (by omega) (by omega)
  have en : ((asks.length : Int) - ((i + 1 : Nat) : Int)).toNat = asks.length - (i + 1) := by omega
  have hz : asks.length - (i + 1) ≤ 16777216 := by omega
  have e1 : (i : Int) + 1 = ((i + 1 : Nat) : Int) := by omega
  have hm : (asks.map vi).length = asks.length := by simp
  rcases k with ⟨k1, k2⟩ | ⟨r, k1⟩
  · rw [k1] at hc
    have ev : vi (i + 1 + nx p (asks.drop (i + 1))) = vi asks.length := by rw [k2]; congr 1; omega
    have q := fNe_vis []
    rw [ev]
    unfold Av at *
    generalize asks.map vi = A at *
    simp only [vi] at *
    generalize ((i + 1 : Nat) : Int) = z at *
    simp only [List.map_nil] at hc q
    simp [m_next_ask, b_next_ask, e1, hm, rng2_int _ r1 r2, en, hz, hc, q]
  · rw [k1, List.map_cons] at hc
    have q := fNe_vis ((i + 1 + nx p (asks.drop (i + 1))) :: r.map fun j => i + 1 + j)
    rw [List.map_cons, List.map_map] at q
    have er : (vi ∘ fun j => i + 1 + j) = fun j => vi (i + 1 + j) := rfl
    rw [er] at q
    unfold Av at *
    generalize asks.map vi = A at *
    generalize (r.map fun j => vi (i + 1 + j)) = R at *
    generalize (i + 1 + nx p (asks.drop (i + 1))) = N at *
    simp only [vi] at *
    generalize ((i + 1 : Nat) : Int) = z at *
    simp [m_next_ask, b_next_ask, e1, hm, rng2_int _ r1 r2, en, hz, hc, q]
end Z
namespace Z
open PySem (Str)
open Pg
/-! ### the last ask -/
theorem fold_last : ∀ (l : List Nat) (a : Nat), l.foldl (fun _ j => j + 1) a = match l.getLast? with | some x => x + 1 | none => a
  | [], a => rfl
  | x :: l, a => by
    rw [List.foldl_cons, fold_last l (x + 1), List.getLast?_cons]
    cases l.getLast? <;> rfl
theorem last_ok {asks : List Nat} {i p : Nat} (h : Ask asks) (hi : i ≤ asks.length) (hl : 1 ≤ lst asks i p) : (m_last_ask [.v (Av asks), .v (vi i), .v (vi p)]).out = .ok (.v (vi (lst asks i p - 1))) := by
  have l40 := h.len
  have hc : compL [3] (tgN 3) (tE (eOp fEq (eOp fIx (eV 0) (eV 3)) (eV 2))) (eV 3) (rangeV 0 i) [.v (Av asks), .v (vi i), .v (vi p), .emp] = .ok (((List.range i).filter fun j => asks[j]? == some p).map vi) [.v (Av asks), .v (vi i), .v (vi p), .emp] := by
    rw [rng_vi]
    refine compL_mapf vi (fun j => asks[j]? == some p) vi fun j hj => ?_
    have hj := List.mem_range.mp hj
    have a1 := atV_vi (l := asks) (k := j) (by omega)
    have a2 : asks[j]? = some (asks.getD j 0) := by
      rw [List.getD_eq_getElem?_getD, List.getElem?_eq_getElem (by omega)]; rfl
    rw [a2]
    generalize asks.getD j 0 = g at *
    have eb : (some g == some p) = decide ((g : Int) = (p : Int)) := by
      by_cases q : g = p
      · subst q; simp
      · have : ¬ (g : Int) = (p : Int) := by omega
        simp [q, this]
    rw [eb]
    refine ⟨[.v (Av asks), .v (vi i), .v (vi p), .v (vi j)], by simp, ?_, fun _ => ⟨.v (vi j), by simp, by simp⟩, by simp, by simp⟩
    unfold Av
    simp only [vi] at *
    simp [a1]
  unfold lst at hl ⊢
  rw [fold_last] at hl ⊢
  generalize ((List.range i).filter fun j => asks[j]? == some p) = l at *
  cases hq : l.getLast? with
  | none => rw [hq] at hl; simp at hl
  | some x =>
    have hne : l ≠ [] := fun e => by subst e; cases hq
    have hx : (l.map vi).getLast (by simpa using hne) = vi x := by
      rw [List.getLast_map]
      have := List.getLast?_eq_some_getLast hne
      rw [hq] at this
      rw [Option.some.inj this]
    have ha := atV_last (xs := l.map vi) (by simpa using hne)
    rw [hx] at ha
    have r1 : inR (i : Int) = true := inR_of (by omega) (by omega)
    have hz : i ≤ 16777216 := by omega
    simp only [Nat.add_sub_cancel]
    clear hx
    generalize l.map vi = M at *
    simp only [vi] at *
    simp [m_last_ask, b_last_ask, rng1_int _ r1, hz, hc, ha]
/-! ### the rules -/
theorem fEq_of {x y : Val} {b : Bool} (h1 : vok 60 x = true) (h2 : vok 60 y = true) (h : veq x y = b) : fEq x y = some (.v (.bl b)) := by
  unfold fEq
  rw [h1, h2, h]
  rfl
def rEq : Rule → Rule → Bool
  | .oldest, .oldest => true
  | .unused, .unused => true
  | .last, .last => true
  | .farthest, .farthest => true
  | _, _ => false
theorem fEq_rule (r q : Rule) : fEq (.str r.s) (.str q.s) = some (.v (.bl (rEq r q))) := by
  cases r <;> cases q <;> exact fEq_of (by decide +kernel) (by decide +kernel) (by decide +kernel)
theorem fNe_rule (r q : Rule) : fNe (.str r.s) (.str q.s) = some (.v (.bl (!rEq r q))) := by
  have h := fEq_rule r q
  unfold fEq at h
  unfold fNe
  split at h
  · rename_i c
    rw [if_pos c]
    injection h with h; injection h with h; injection h with h
    rw [h]
  · cases h
/-! ### what is dropped, exactly -/
def key (asks : List Nat) (i : Nat) : Rule → Nat → Int × Int
  | .oldest, _ => (0, 0)
  | .unused, p => (((lst asks i p - 1 : Nat) : Int), (p : Int))
  | .last, p => (-((lst asks i p - 1 : Nat) : Int), -(p : Int))
  | .farthest, p => (-((i + 1 + nx p (asks.drop (i + 1)) : Nat) : Int), (p : Int))
def Sel (asks : List Nat) (r : Rule) (i : Nat) (L : List Nat) (f : Nat) : Prop := match r with
  | .oldest => L.head? = some f
  | r => f ∈ L ∧ ∀ q ∈ L, le2 (key asks i r f) (key asks i r q)
theorem Sel.mem {asks : List Nat} {r : Rule} {i : Nat} {L : List Nat} {f : Nat} (h : Sel asks r i L f) : f ∈ L := by
  cases r with
  | oldest => exact List.mem_of_head? h
  | _ => exact h.1
theorem Sel.uniq {asks : List Nat} {r : Rule} {i : Nat} {L : List Nat} {f g : Nat} (h : Sel asks r i L f) (k : Sel asks r i L g) : f = g := by
  cases r with
  | oldest =>
    have h : L.head? = some f := h
    have k : L.head? = some g := k
    rw [h] at k
    exact Option.some.inj k
  | unused => have := congrArg Prod.snd ((h.2 g k.1).anti (k.2 f h.1)); simp only [key] at this; omega
  | last => have := congrArg Prod.snd ((h.2 g k.1).anti (k.2 f h.1)); simp only [key] at this; omega
  | farthest => have := congrArg Prod.snd ((h.2 g k.1).anti (k.2 f h.1)); simp only [key] at this; omega
noncomputable def sel (asks : List Nat) (r : Rule) (i : Nat) (L : List Nat) : Nat := Classical.epsilon fun f => Sel asks r i L f
theorem sel_of {asks : List Nat} {r : Rule} {i : Nat} {L : List Nat} {f : Nat} (h : Sel asks r i L f) : sel asks r i L = f :=
  Sel.uniq (Classical.epsilon_spec (p := fun f => Sel asks r i L f) ⟨f, h⟩) h
theorem sel_ex {asks : List Nat} {r : Rule} {i : Nat} {L : List Nat} (h : L ≠ []) : ∃ f, Sel asks r i L f := by
  have gen : ∃ f, f ∈ L ∧ ∀ q ∈ L, le2 (key asks i r f) (key asks i r q) := by
    obtain ⟨m, hm, hmin, _⟩ := min_lex (l := L.map (key asks i r)) (by simpa using h)
    obtain ⟨f, hf, rfl⟩ := List.mem_map.mp hm
    exact ⟨f, hf, fun q hq => hmin _ (List.mem_map.mpr ⟨q, hq, rfl⟩)⟩
  cases r with
  | oldest => cases L with
    | nil => exact absurd rfl h
    | cons a l => exact ⟨a, rfl⟩
  | _ => exact gen
theorem sel_spec {asks : List Nat} {r : Rule} {i : Nat} {L : List Nat} (h : L ≠ []) : Sel asks r i L (sel asks r i L) := by
  obtain ⟨f, hf⟩ := sel_ex (asks := asks) (r := r) (i := i) h
  rw [sel_of hf]
  exact hf
/-- the places behind the call -/
def kept (xs : List Val) (s : Slot) : Prop := s = .own true (.lst xs) ∨ s = .pf (.lst xs)
theorem chosen_ok {asks L : List Nat} {i : Nat} (r : Rule) (h : Ask asks) (hi : i < asks.length) (hne : L ≠ []) (hL : L.length ≤ 40) (hl : ∀ p ∈ L, 1 ≤ lst asks i p) :
    ∃ s, kept (L.map vi) s ∧ m_chosen [.v (Av asks), .v (vi i), .own (.lst (L.map vi)), .v (.str r.s)] = .ok (.v (vi (sel asks r i L))) [.v (Av asks), .v (vi i), s, .v (.str r.s)] := by
  have q1 : fEq (.str r.s) (.str "oldest") = some (.v (.bl (rEq r .oldest))) := fEq_rule r .oldest
  have q2 : fEq (.str r.s) (.str "farthest") = some (.v (.bl (rEq r .farthest))) := fEq_rule r .farthest
  have q3 : fEq (.str r.s) (.str "unused") = some (.v (.bl (rEq r .unused))) := fEq_rule r .unused
  have hz : (L.map vi).length ≤ 16777216 := by rw [List.length_map]; omega
  have rows : compL [5] (tgN 5) tYes (eTup (asCons (eCall m_last_ask (asCons (eV 0) (asCons (eV 1) (asCons (eV 5) asNil)))) (asCons (eV 5) asNil))) (L.map vi) [.v (Av asks), .v (vi i), .pf (.lst (L.map vi)), .v (.str r.s), .emp, .emp] = .ok ((L.map fun p => (((lst asks i p - 1 : Nat) : Int), (p : Int))).map pr) [.v (Av asks), .v (vi i), .pf (.lst (L.map vi)), .v (.str r.s), .emp, .emp] := by
    rw [List.map_map]
    refine compL_map vi _ fun p hp => ?_
    have e := last_ok h (Nat.le_of_lt hi) (hl p hp)
    refine ⟨[.v (Av asks), .v (vi i), .pf (.lst (L.map vi)), .v (.str r.s), .emp, .v (vi p)], by simp, by simp, ⟨.v (pr (((lst asks i p - 1 : Nat) : Int), (p : Int))), ?_, by simp⟩, by simp, by simp⟩
    unfold pr
    generalize L.map vi = M at *
    generalize Av asks = A at *
    generalize lst asks i p - 1 = n at *
    simp only [vi] at *
    simp [e]
  cases r with
  | oldest =>
    cases L with
    | nil => exact absurd rfl hne
    | cons f L =>
      refine ⟨.own true (.lst ((f :: L).map vi)), .inl rfl, ?_⟩
      rw [sel_of (show Sel asks .oldest i (f :: L) f from rfl)]
      rw [show rEq .oldest .oldest = true from rfl] at q1
      generalize Rule.s .oldest = rs at *
      generalize Av asks = A at *
      simp only [vi, List.map_cons] at *
      simp [m_chosen, b_chosen, q1]
  | farthest =>
    rw [show rEq .farthest .oldest = false from rfl] at q1
    rw [show rEq .farthest .farthest = true from rfl] at q2
    have hc : compL [5] (tgN 5) tYes (eTup (asCons (eUn fNeg (eCall m_next_ask (asCons (eV 0) (asCons (eV 1) (asCons (eV 5) asNil))))) (asCons (eV 5) asNil))) (L.map vi) [.v (Av asks), .v (vi i), .pf (.lst (L.map vi)), .v (.str (Rule.s .farthest)), .emp, .emp] = .ok ((L.map fun p => (-((i + 1 + nx p (asks.drop (i + 1)) : Nat) : Int), (p : Int))).map pr) [.v (Av asks), .v (vi i), .pf (.lst (L.map vi)), .v (.str (Rule.s .farthest)), .emp, .emp] := by
      rw [List.map_map]
      refine compL_map vi _ fun p hp => ?_
      have e := next_ok (p := p) h hi
      refine ⟨[.v (Av asks), .v (vi i), .pf (.lst (L.map vi)), .v (.str (Rule.s .farthest)), .emp, .v (vi p)], by simp, by simp, ⟨.v (pr (-((i + 1 + nx p (asks.drop (i + 1)) : Nat) : Int), (p : Int))), ?_, by simp⟩, by simp, by simp⟩
      unfold pr
      generalize L.map vi = M at *
      generalize Av asks = A at *
      generalize (i + 1 + nx p (asks.drop (i + 1))) = n at *
      simp only [vi] at *
      simp [e]
    obtain ⟨m, hm, hmin, he⟩ := min_lex (l := L.map fun p => (-((i + 1 + nx p (asks.drop (i + 1)) : Nat) : Int), (p : Int))) (by simpa using hne)
    obtain ⟨f, hf, rfl⟩ := List.mem_map.mp hm
    refine ⟨.pf (.lst (L.map vi)), .inr rfl, ?_⟩
    rw [sel_of (show Sel asks .farthest i L f from ⟨hf, fun q hq => hmin _ (List.mem_map.mpr ⟨q, hq, rfl⟩)⟩)]
    · generalize (L.map fun p => (-((i + 1 + nx p (asks.drop (i + 1)) : Nat) : Int), (p : Int))).map pr = R at *
      unfold pr at he
      generalize (-((i + 1 + nx f (asks.drop (i + 1)) : Nat) : Int)) = n at *
      generalize Rule.s .farthest = rs at *
      generalize Av asks = A at *
      generalize L.map vi = M at *
      simp only [vi] at *
      simp [m_chosen, b_chosen, q1, q2, hz, hc, he]
  | unused =>
    rw [show rEq .unused .oldest = false from rfl] at q1
    rw [show rEq .unused .farthest = false from rfl] at q2
    rw [show rEq .unused .unused = true from rfl] at q3
    obtain ⟨m, hm, hmin, he⟩ := min_lex (l := L.map fun p => (((lst asks i p - 1 : Nat) : Int), (p : Int))) (by simpa using hne)
    obtain ⟨f, hf, rfl⟩ := List.mem_map.mp hm
    refine ⟨.pf (.lst (L.map vi)), .inr rfl, ?_⟩
    rw [sel_of (show Sel asks .unused i L f from ⟨hf, fun q hq => hmin _ (List.mem_map.mpr ⟨q, hq, rfl⟩)⟩)]
    · generalize (L.map fun p => (((lst asks i p - 1 : Nat) : Int), (p : Int))).map pr = R at *
      unfold pr at he
      generalize ((lst asks i f - 1 : Nat) : Int) = n at *
      generalize Rule.s .unused = rs at *
      generalize Av asks = A at *
      generalize L.map vi = M at *
      simp only [vi] at *
      simp [m_chosen, b_chosen, q1, q2, q3, hz, rows, he]
  | last =>
    rw [show rEq .last .oldest = false from rfl] at q1
    rw [show rEq .last .farthest = false from rfl] at q2
    rw [show rEq .last .unused = false from rfl] at q3
    obtain ⟨m, hm, hmax, he⟩ := max_lex (l := L.map fun p => (((lst asks i p - 1 : Nat) : Int), (p : Int))) (by simpa using hne)
    obtain ⟨f, hf, rfl⟩ := List.mem_map.mp hm
    refine ⟨.pf (.lst (L.map vi)), .inr rfl, ?_⟩
    rw [sel_of (show Sel asks .last i L f from ⟨hf, fun q hq => by
      have := hmax _ (List.mem_map.mpr ⟨q, hq, rfl⟩)
      unfold le2 key at *
      dsimp only at *
      omega⟩)]
    generalize (L.map fun p => (((lst asks i p - 1 : Nat) : Int), (p : Int))).map pr = R at *
    unfold pr at he
    generalize ((lst asks i f - 1 : Nat) : Int) = n at *
    generalize Rule.s .last = rs at *
    generalize Av asks = A at *
    generalize L.map vi = M at *
    simp only [vi] at *
    simp [m_chosen, b_chosen, q1, q2, q3, hz, rows, he]
/-! ### the run -/
abbrev St3 := List Nat × Nat × List (Nat × Nat)
noncomputable def stp (k : Nat) (asks : List Nat) (r : Rule) (i : Nat) (s : St3) (p : Nat) : St3 :=
  if p ∈ s.1 then s else if s.1.length = k then ((s.1.filter fun x => x != sel asks r i s.1) ++ [p], s.2.1 + 1, s.2.2 ++ [(i, sel asks r i s.1)]) else (s.1 ++ [p], s.2.1 + 1, s.2.2)
noncomputable def rn (k : Nat) (asks : List Nat) (r : Rule) : Nat → St3
  | 0 => ([], 0, [])
  | i + 1 => stp k asks r i (rn k asks r i) (asks.getD i 0)
structure Iv (k : Nat) (asks : List Nat) (i : Nat) (s : St3) : Prop where
  l : LOk k s.1
  a : ∀ q ∈ s.1, 1 ≤ lst asks i q
  g : s.2.2.length ≤ i
theorem Iv.step {k i p : Nat} {asks : List Nat} {r : Rule} {s : St3} (h : Ask asks) (hk : 1 ≤ k) (hp : asks[i]? = some p) (v : Iv k asks i s) : Iv k asks (i + 1) (stp k asks r i s p) := by
  have p9 := h.n9 p (List.mem_of_getElem? hp)
  have up : ∀ q, 1 ≤ lst asks i q → 1 ≤ lst asks (i + 1) q := fun q hq => by
    rw [lst_succ]
    split <;> omega
  have lp : 1 ≤ lst asks (i + 1) p := by rw [lst_succ, if_pos hp]; omega
  unfold stp
  by_cases hin : p ∈ s.1
  · rw [if_pos hin]
    exact ⟨v.l, fun q hq => up q (v.a q hq), by have := v.g; omega⟩
  · rw [if_neg hin]
    by_cases full : s.1.length = k
    · have hne : s.1 ≠ [] := fun e => by rw [e] at full; simp at full; omega
      have hf := (sel_spec (asks := asks) (r := r) (i := i) hne).mem
      rw [if_pos full]
      refine ⟨v.l.swp p9 hin hf, fun q hq => ?_, ?_⟩
      · rcases List.mem_append.mp hq with hq | hq
        · exact up q (v.a q (List.mem_filter.mp hq).1)
        · rw [List.mem_singleton.mp hq]; exact lp
      · have := v.g
        show (s.2.2 ++ [_]).length ≤ i + 1
        rw [List.length_append]
        simp
        omega
    · rw [if_neg full]
      refine ⟨v.l.app p9 hin full, fun q hq => ?_, by have := v.g; show s.2.2.length ≤ i + 1; omega⟩
      rcases List.mem_append.mp hq with hq | hq
      · exact up q (v.a q hq)
      · rw [List.mem_singleton.mp hq]; exact lp
theorem rn_iv {k : Nat} {asks : List Nat} {r : Rule} (h : Ask asks) (hk : 1 ≤ k) : ∀ i, i ≤ asks.length → Iv k asks i (rn k asks r i)
  | 0, _ => ⟨⟨by simp [rn], by simp [rn], by simp [rn]⟩, by simp [rn], by simp [rn]⟩
  | i + 1, hi => by
    have hp : asks[i]? = some (asks.getD i 0) := by rw [List.getD_eq_getElem?_getD, List.getElem?_eq_getElem (by omega)]; rfl
    exact (rn_iv h hk i (by omega)).step h hk hp
def gv (g : Nat × Nat) : Val := .tup [vi g.1, vi g.2]
end Z
namespace Z
open PySem (Str)
open Pg
theorem callR_vvbv {m : Fn} {e : Env} {j : Nat} {x a b c : Val} {r : RV} {s : Slot} (he : eget e j = .own false x) (hm : m [.v a, .v b, .own x, .v c] = .ok r [.v a, .v b, s, .v c]) : callR m [.v a, .v b, .bor j, .v c] e = .ok r (eput e j (back (.own false x) s)) := by
  unfold callR
  have k : lent e [.v a, .v b, .bor j, .v c] = [j] := by
    rw [lent_v, lent_v, lent_bor, he, lent_v, lent_nil]
  have hd : hands e [.v a, .v b, .bor j, .v c] = some [.v a, .v b, .own x, .v c] := by
    rw [hands_cons, hands_cons, hands_cons, hands_cons, hands_nil, hand_bor, he, hand_v, hand_v, hand_v]
  rw [k, hd]
  show (match m [.v a, .v b, .own x, .v c] with | .ok r ps => Rs.ok r (backs e [.v a, .v b, .bor j, .v c] ps) | .ex c' fs ps => .ex c' fs (backs e [.v a, .v b, .bor j, .v c] ps) | .no => .no) = _
  rw [hm]
  show Rs.ok r (backs e [.v a, .v b, .bor j, .v c] [.v a, .v b, s, .v c]) = _
  rw [backs_v, backs_v, backs_bor, he, backs_v, backs_nil]
/-- the frame of played -/
def fp (A : Val) (k : Nat) (rs : Str) (s3 : Slot) (c : Nat) (F : List Val) (s6 s7 s8 : Slot) : Env := [.v A, .v (vi k), .v (.str rs), s3, .v (vi c), .own false (.lst F), s6, s7, s8, .emp]
/-- the cache as it may stand -/
def Ch (L : List Nat) (s : Slot) : Prop := s = .own false (.lst (L.map vi)) ∨ s = .v (.lst (L.map vi))
theorem filt_ok {A : Val} {k c i f p : Nat} {rs : Str} {L : List Nat} {F : List Val} {s3 : Slot} (h3 : Ch L s3) (hL : L.length ≤ 40) :
    (sSet 3 (eComp (iSeq (eV 3)) [9] (tgN 9) (tE (eOp fNe (eV 9) (eV 7))) (eV 9))) (fp A k rs s3 c F (.v (vi i)) (.v (vi f)) (.v (vi p))) = .ok .nx (fp A k rs (.own false (.lst ((L.filter fun x => x != f).map vi))) c F (.v (vi i)) (.v (vi f)) (.v (vi p))) := by
  have hc : compL [9] (tgN 9) (tE (eOp fNe (eV 9) (eV 7))) (eV 9) (L.map vi) (fp A k rs (.v (.lst (L.map vi))) c F (.v (vi i)) (.v (vi f)) (.v (vi p))) = .ok ((L.filter fun x => x != f).map vi) (fp A k rs (.v (.lst (L.map vi))) c F (.v (vi i)) (.v (vi f)) (.v (vi p))) := by
    refine compL_mapf vi (fun x => x != f) vi fun x hx => ?_
    have eb : (x != f) = decide ((x : Int) ≠ (f : Int)) := by
      by_cases q : x = f
      · subst q; simp
      · have : ¬ (x : Int) = (f : Int) := by omega
        simp [q, this]
    rw [eb]
    refine ⟨[.v A, .v (vi k), .v (.str rs), .v (.lst (L.map vi)), .v (vi c), .own false (.lst F), .v (vi i), .v (vi f), .v (vi p), .v (vi x)], by simp [fp], ?_, fun _ => ⟨.v (vi x), by simp, by simp⟩, by simp, by simp [fp]⟩
    generalize L.map vi = M at *
    simp only [vi] at *
    simp
  have hz : (L.map vi).length ≤ 16777216 := by rw [List.length_map]; omega
  generalize (L.filter fun x => x != f).map vi = N at *
  unfold Ch at h3
  generalize L.map vi = M at *
  simp only [fp, vi] at *
  rcases h3 with rfl | rfl <;> simp [hz, hc]
theorem played_2 {asks : List Nat} {k i p : Nat} {r : Rule} {s : St3} {s7 : Slot} (h : Ask asks) (hk : 1 ≤ k) (hk5 : k ≤ 5) (hp : asks[i]? = some p) (v : Iv k asks i s) (c7 : Cv s7) :
    ∃ s7', Cv s7' ∧ b_played_2 (fp (Av asks) k r.s (.own false (.lst (s.1.map vi))) s.2.1 (s.2.2.map gv) (.v (vi i)) s7 (.v (vi p))) = .ok .nx (fp (Av asks) k r.s (.own false (.lst ((stp k asks r i s p).1.map vi))) (stp k asks r i s p).2.1 ((stp k asks r i s p).2.2.map gv) (.v (vi i)) s7' (.v (vi p))) := by
  obtain ⟨L, c, G⟩ := s
  have l40 := h.len
  have hi : i < asks.length := (List.getElem?_eq_some_iff.mp hp).1
  have hL : LOk k L := v.l
  have hl : ∀ q ∈ L, 1 ≤ lst asks i q := v.a
  have hG : G.length ≤ i := v.g
  have hLl := hL.le
  have n1 := fNotIn_vi p L
  have hlen : (L.map vi).length = L.length := by simp
  have p7 := c7.ok
  show ∃ s7', Cv s7' ∧ b_played_2 (fp (Av asks) k r.s (.own false (.lst (L.map vi))) c (G.map gv) (.v (vi i)) s7 (.v (vi p))) = _
  by_cases hin : p ∈ L
  · rw [decide_eq_false (by simpa using hin)] at n1
    have es : stp k asks r i (L, c, G) p = (L, c, G) := by unfold stp; rw [if_pos hin]
    rw [es]
    refine ⟨s7, c7, ?_⟩
    show _ = Rs.ok Fl.nx (fp (Av asks) k r.s (.own false (.lst (L.map vi))) c (G.map gv) (.v (vi i)) s7 (.v (vi p)))
    generalize L.map vi = M at *
    generalize Av asks = A at *
    generalize G.map gv = F at *
    simp only [fp, vi] at *
    simp [n1]
  · rw [decide_eq_true hin] at n1
    have ec : (c : Int) + 1 = ((c + 1 : Nat) : Int) := by omega
    by_cases full : L.length = k
    · have hne : L ≠ [] := fun e => by subst e; simp at full; omega
      obtain ⟨s, hs, ech⟩ := chosen_ok r h hi hne (by omega) hl
      have hf := (sel_spec (asks := asks) (r := r) (i := i) hne).mem
      have es : stp k asks r i (L, c, G) p = ((L.filter fun x => x != sel asks r i L) ++ [p], c + 1, G ++ [(i, sel asks r i L)]) := by unfold stp; rw [if_neg hin, if_pos full]
      rw [es]
      generalize sel asks r i L = f at *
      refine ⟨.v (vi f), .v, ?_⟩
      show _ = Rs.ok Fl.nx (fp (Av asks) k r.s (.own false (.lst (((L.filter fun x => x != f) ++ [p]).map vi))) (c + 1) ((G ++ [(i, f)]).map gv) (.v (vi i)) (.v (vi f)) (.v (vi p)))
      have eG : (G ++ [(i, f)]).map gv = G.map gv ++ [.tup [vi i, vi f]] := by simp [gv]
      rw [eG]
      have lG : (G.map gv).length ≤ i := by rw [List.length_map]; exact hG
      generalize G.map gv = F at *
      · have hcall := callR_vvbv (e := fp (Av asks) k r.s (.own false (.lst (L.map vi))) (c + 1) F (.v (vi i)) s7 (.v (vi p))) (j := 3) rfl ech
        have hC : Ch L (back (.own false (.lst (L.map vi))) s) := by
          rcases hs with rfl | rfl
          · exact .inl rfl
          · exact .inr rfl
        have hfil := filt_ok (A := Av asks) (k := k) (c := c + 1) (i := i) (f := f) (p := p) (rs := r.s) (F := F ++ [.tup [vi i, vi f]]) hC (by omega)
        have hN : (L.filter (fun x => x != f) ++ [p]).map vi = (L.filter fun x => x != f).map vi ++ [vi p] := by simp
        have lN : ((L.filter fun x => x != f).map vi).length < 16777216 := by
          rw [List.length_map]
          have := List.length_filter_le (fun x => x != f) L
          omega
        have lF : F.length < 16777216 := by omega
        have fullI : (L.length : Int) = (k : Int) := by omega
        rw [hN]
        generalize (L.filter fun x => x != f).map vi = N at *
        generalize back (.own false (.lst (L.map vi))) s = s3 at *
        have c3 : pok s3 = true := by rcases hC with rfl | rfl <;> rfl
        clear hC ech
        generalize hM : L.map vi = M at *
        generalize Av asks = A at *
        generalize hS : (sSet 3 (eComp (iSeq (eV 3)) [9] (tgN 9) (tE (eOp fNe (eV 9) (eV 7))) (eV 9))) = S3 at *
        show sIf _ (sSeq _ (sSeq (sIf _ (sSeq _ (sSeq _ (sSet 3 (eComp (iSeq (eV 3)) [9] (tgN 9) (tE (eOp fNe (eV 9) (eV 7))) (eV 9))))) _) _)) _ _ = _
        rw [hS]
        simp only [fp, vi] at *
        generalize ((c + 1 : Nat) : Int) = z at *
        simp [n1, iAdd, hlen, fullI, full, hcall, p7, lF, lN, ec, hfil]
    · have es : stp k asks r i (L, c, G) p = (L ++ [p], c + 1, G) := by unfold stp; rw [if_neg hin, if_neg full]
      rw [es]
      refine ⟨s7, c7, ?_⟩
      show _ = Rs.ok Fl.nx (fp (Av asks) k r.s (.own false (.lst ((L ++ [p]).map vi))) (c + 1) (G.map gv) (.v (vi i)) s7 (.v (vi p)))
      have hN : (L ++ [p]).map vi = L.map vi ++ [vi p] := by simp
      have lN : (L.map vi).length < 16777216 := by rw [hlen]; omega
      have fullI : ¬ (L.length : Int) = (k : Int) := by omega
      rw [hN]
      generalize G.map gv = F at *
      generalize L.map vi = M at *
      generalize Av asks = A at *
      simp only [fp, vi] at *
      generalize ((c + 1 : Nat) : Int) = z at *
      have lL : L.length < 16777216 := by omega
      simp [n1, iAdd, hlen, full, fullI, lL, lN, ec]
theorem enum_at {l : List Nat} {i : Nat} {x : Val} (h : (enumV (l.map vi))[i]? = some x) : ∃ p, l[i]? = some p ∧ x = .tup [vi i, vi p] := by
  obtain ⟨y, hy, rfl⟩ := enumV_at h
  rw [List.getElem?_map] at hy
  cases ha : l[i]? with
  | none => rw [ha] at hy; cases hy
  | some p =>
    rw [ha] at hy
    cases hy
    exact ⟨p, rfl, rfl⟩
theorem played_ok {asks : List Nat} {k : Nat} (r : Rule) (h : Ask asks) (hk : 1 ≤ k) (hk5 : k ≤ 5) : (m_played [.v (Av asks), .v (vi k), .v (.str r.s)]).out = .ok (.v (.tup [vi (rn k asks r asks.length).2.1, .lst ((rn k asks r asks.length).2.2.map gv)])) := by
  have l40 := h.len
  have key : ∃ e', forL (tgT [(tgN 6), (tgN 8)]) b_played_2 (enumV (asks.map vi)) (fp (Av asks) k r.s (.own false (.lst (([] : List Nat).map vi))) 0 [] .emp .emp .emp) = .ok .nx e' ∧
      ∃ s6 s7 s8, (enumV (asks.map vi)).length ≤ asks.length ∧ Cv s6 ∧ Cv s7 ∧ Cv s8 ∧ e' = fp (Av asks) k r.s (.own false (.lst ((rn k asks r (enumV (asks.map vi)).length).1.map vi))) (rn k asks r (enumV (asks.map vi)).length).2.1 ((rn k asks r (enumV (asks.map vi)).length).2.2.map gv) s6 s7 s8 := by
    refine for_run (fun i e => ∃ s6 s7 s8, i ≤ asks.length ∧ Cv s6 ∧ Cv s7 ∧ Cv s8 ∧ e = fp (Av asks) k r.s (.own false (.lst ((rn k asks r i).1.map vi))) (rn k asks r i).2.1 ((rn k asks r i).2.2.map gv) s6 s7 s8) ⟨.emp, .emp, .emp, by omega, .e, .e, .e, rfl⟩ fun i x e hx ⟨s6, s7, s8, hi0, c6, c7, c8, he⟩ => ?_
    subst he
    obtain ⟨p, hp, rfl⟩ := enum_at hx
    have hi := (List.getElem?_eq_some_iff.mp hp).1
    obtain ⟨s7', d7, st⟩ := played_2 (r := r) h hk hk5 hp (rn_iv (r := r) h hk i (by omega)) c7
    have ep : asks.getD i 0 = p := by rw [List.getD_eq_getElem?_getD, hp]; rfl
    have er : rn k asks r (i + 1) = stp k asks r i (rn k asks r i) p := by rw [← ep]; rfl
    rw [er]
    refine ⟨fp (Av asks) k r.s (.own false (.lst ((rn k asks r i).1.map vi))) (rn k asks r i).2.1 ((rn k asks r i).2.2.map gv) (.v (vi i)) s7 (.v (vi p)), _, ?_, .inl st, _, _, _, by omega, .v, d7, .v, rfl⟩
    have p6 := c6.ok
    have p8 := c8.ok
    generalize (rn k asks r i).2.2.map gv = F at *
    simp [fp, tgs, p6, p8]
  obtain ⟨e', h5, s6, s7, s8, _, _, _, _, he⟩ := key
  subst he
  have he : (enumV (asks.map vi)).length = asks.length := by rw [enumV_len, List.length_map]
  rw [he] at h5
  have z0 : vi 0 = Val.int 0 := rfl
  generalize rn k asks r asks.length = R at *
  generalize R.2.2.map gv = F at *
  generalize R.2.1 = c at *
  generalize R.1.map vi = M at *
  unfold Av at *
  generalize asks.map vi = A at *
  simp only [fp, List.map_nil, z0] at h5
  simp only [fp, vi] at *
  simp [m_played, b_played, h5]
theorem check_all_ok {asks : List Nat} {k : Nat} (r : Rule) (h : Ask asks) (hk : 1 ≤ k) (hk5 : k ≤ 5) : (m_check_all [.v (Av asks), .v (vi k), .v (.str r.s)]).out = .ok (.v .non) := by
  have e1 := asks_in h
  have e2 := places_in hk hk5
  have e3 := rule_in r
  generalize Av asks = A at *
  simp only [vi] at *
  simp [m_check_all, b_check_all, e1, e2, e3]
theorem misses_ok {asks : List Nat} {k : Nat} (r : Rule) (h : Ask asks) (hk : 1 ≤ k) (hk5 : k ≤ 5) : (m_misses [.v (Av asks), .v (vi k), .v (.str r.s)]).out = .ok (.v (vi (rn k asks r asks.length).2.1)) := by
  have e1 := played_ok r h hk hk5
  have e2 := check_all_ok r h hk hk5
  generalize rn k asks r asks.length = R at *
  generalize R.2.2.map gv = F at *
  generalize R.2.1 = c at *
  generalize Av asks = A at *
  simp only [vi] at *
  simp [m_misses, b_misses, e1, e2]
theorem evicted_ok {asks : List Nat} {k : Nat} (r : Rule) (h : Ask asks) (hk : 1 ≤ k) (hk5 : k ≤ 5) : (m_evicted [.v (Av asks), .v (vi k), .v (.str r.s)]).out = .ok (.v (.lst ((rn k asks r asks.length).2.2.map gv))) := by
  have e1 := played_ok r h hk hk5
  have e2 := check_all_ok r h hk hk5
  generalize rn k asks r asks.length = R at *
  generalize R.2.2.map gv = F at *
  generalize R.2.1 = c at *
  generalize Av asks = A at *
  simp only [vi] at *
  simp [m_evicted, b_evicted, e1, e2]
end Z
namespace Z
open PySem (Str)
open Pg
/-! ### the law's own play: rows of page, first, last -/
abbrev Row := Nat × Nat × Nat
def r3 (r : Row) : Val := .lst [vi r.1, vi r.2.1, vi r.2.2]
theorem nx_key (p : Nat) : ∀ (σ : List Nat), ((List.range σ.length).filter fun j => σ[j]? == some p) = [] ∧ nx p σ = σ.length ∨ nx p σ < σ.length ∧ ∃ r, ((List.range σ.length).filter fun j => σ[j]? == some p) = nx p σ :: r := by
  intro σ
  induction σ with
  | nil => exact .inl ⟨rfl, rfl⟩
  | cons a σ ih =>
    rw [List.length_cons, List.range_succ_eq_map, List.filter_cons]
    by_cases e : a = p
    · subst e
      right
      exact ⟨by simp [nx], ((List.range σ.length).map Nat.succ).filter fun j => (a :: σ)[j]? == some a, by simp [nx]⟩
    · have e1 : ((a :: σ)[0]? == some p) = false := by simpa using e
      rw [e1, if_neg Bool.false_ne_true, List.filter_map]
      have e2 : ((fun j => (a :: σ)[j]? == some p) ∘ Nat.succ) = fun j => σ[j]? == some p := by
        funext j; simp
      rw [e2]
      have e3 : nx p (a :: σ) = nx p σ + 1 := by simp [nx, e]
      rw [e3]
      rcases ih with ⟨h1, h2⟩ | ⟨h2, r, h1⟩
      · exact .inl ⟨by rw [h1]; rfl, by omega⟩
      · exact .inr ⟨by omega, _, by rw [h1]; rfl⟩
/-- where page p is asked behind i -/
def aft (asks : List Nat) (i p : Nat) : List Nat := ((List.range (asks.length - (i + 1))).filter fun j => asks[i + 1 + j]? == some p).map fun j => i + 1 + j
theorem aft_key (asks : List Nat) (i p : Nat) : aft asks i p = [] ∧ nx p (asks.drop (i + 1)) = asks.length - (i + 1) ∨ nx p (asks.drop (i + 1)) < asks.length - (i + 1) ∧ ∃ r, aft asks i p = (i + 1 + nx p (asks.drop (i + 1))) :: r := by
  have k := nx_key p (asks.drop (i + 1))
  have e0 : ((List.range (asks.drop (i + 1)).length).filter fun j => (asks.drop (i + 1))[j]? == some p) = ((List.range (asks.length - (i + 1))).filter fun j => asks[i + 1 + j]? == some p) := by
    rw [List.length_drop]
    congr 1
    funext j
    rw [List.getElem?_drop]
  rw [e0, List.length_drop] at k
  unfold aft
  rcases k with ⟨h1, h2⟩ | ⟨h2, r, h1⟩
  · exact .inl ⟨by rw [h1]; rfl, h2⟩
  · exact .inr ⟨h2, _, by rw [h1]; rfl⟩
def fc (A : Val) (r : Rule) (k : Nat) (s3 : Slot) (G : List Val) (i : Nat) (s6 : Slot) (c : Nat) (s8 s9 : Slot) : Env := [.v A, .v (vi k), .v (.str r.s), s3, .own false (.lst G), .v (vi i), s6, .v (vi c), s8, s9, .emp, .emp, .emp]
section
variable {A : Val} {asks : List Nat} {k i c : Nat} {s3 s6 s8 s9 : Slot} {G : List Val} {C : List Row} {rl : Rule}
theorem lc_c1 : compL [10] (tgN 10) tYes (eOp fIx (eV 10) (eC (.int 0))) (C.map r3) (fc A rl k s3 G i s6 c s8 s9) = .ok ((C.map Prod.fst).map vi) (fc A rl k s3 G i s6 c s8 s9) := by
  rw [List.map_map]
  refine compL_map r3 _ fun r hr => ?_
  exact ⟨[.v A, .v (vi k), .v (.str rl.s), s3, .own false (.lst G), .v (vi i), s6, .v (vi c), s8, s9, .v (r3 r), .emp, .emp], by simp [fc], by simp, ⟨.v (vi r.1), by simp [r3], by simp⟩, by simp, by simp [fc]⟩
theorem lc_c2 : compL [10] (tgN 10) tYes (eTup (asCons (eOp fIx (eV 10) (eC (.int 1))) (asCons (eOp fIx (eV 10) (eC (.int 0))) asNil))) (C.map r3) (fc A rl k s3 G i s6 c s8 s9) = .ok ((C.map fun r => ((r.2.1 : Int), (r.1 : Int))).map pr) (fc A rl k s3 G i s6 c s8 s9) := by
  rw [List.map_map]
  refine compL_map r3 _ fun r hr => ?_
  exact ⟨[.v A, .v (vi k), .v (.str rl.s), s3, .own false (.lst G), .v (vi i), s6, .v (vi c), s8, s9, .v (r3 r), .emp, .emp], by simp [fc], by simp, ⟨.v (pr ((r.2.1 : Int), (r.1 : Int))), by simp [r3, pr], by simp⟩, by simp, by simp [fc]⟩
theorem lc_c3 : compL [10] (tgN 10) tYes (eTup (asCons (eOp fIx (eV 10) (eC (.int 2))) (asCons (eOp fIx (eV 10) (eC (.int 0))) asNil))) (C.map r3) (fc A rl k s3 G i s6 c s8 s9) = .ok ((C.map fun r => ((r.2.2 : Int), (r.1 : Int))).map pr) (fc A rl k s3 G i s6 c s8 s9) := by
  rw [List.map_map]
  refine compL_map r3 _ fun r hr => ?_
  exact ⟨[.v A, .v (vi k), .v (.str rl.s), s3, .own false (.lst G), .v (vi i), s6, .v (vi c), s8, s9, .v (r3 r), .emp, .emp], by simp [fc], by simp, ⟨.v (pr ((r.2.2 : Int), (r.1 : Int))), by simp [r3, pr], by simp⟩, by simp, by simp [fc]⟩
theorem lc_c4 (h : Ask asks) (hi : i < asks.length) : compL [10] (tgN 10) tYes (eComp (iRange2 (eOp fAdd (eV 5) (eC (.int 1))) (eB fLenX (asCons (eV 0) asNil))) [11] (tgN 11) (tE (eOp fEq (eOp fIx (eV 0) (eV 11)) (eOp fIx (eV 10) (eC (.int 0))))) (eV 11)) (C.map r3) (fc (Av asks) rl k s3 G i s6 c s8 s9) = .ok (C.map fun r => .lst ((aft asks i r.1).map vi)) (fc (Av asks) rl k s3 G i s6 c s8 s9) := by
  have l40 := h.len
  refine compL_map r3 _ fun r hr => ?_
  refine ⟨[.v (Av asks), .v (vi k), .v (.str rl.s), s3, .own false (.lst G), .v (vi i), s6, .v (vi c), s8, s9, .v (r3 r), .emp, .emp], by simp [fc], by simp, ⟨.own (.lst ((aft asks i r.1).map vi)), ?_, by simp⟩, by simp, by simp [fc]⟩
  have hc : compL [11] (tgN 11) (tE (eOp fEq (eOp fIx (eV 0) (eV 11)) (eOp fIx (eV 10) (eC (.int 0))))) (eV 11) (rangeV ((i + 1 : Nat) : Int) (asks.length - (i + 1))) [.v (Av asks), .v (vi k), .v (.str rl.s), s3, .own false (.lst G), .v (vi i), s6, .v (vi c), s8, s9, .v (r3 r), .emp, .emp] = .ok ((aft asks i r.1).map vi) [.v (Av asks), .v (vi k), .v (.str rl.s), s3, .own false (.lst G), .v (vi i), s6, .v (vi c), s8, s9, .v (r3 r), .emp, .emp] := by
    unfold aft
    rw [rng_map, List.map_map]
    refine compL_mapf (fun j : Nat => Val.int (((i + 1 : Nat) : Int) + j)) (fun j => asks[i + 1 + j]? == some r.1) (fun j => vi (i + 1 + j)) fun j hj => ?_
    have hj := List.mem_range.mp hj
    have a1 := atV_vi (l := asks) (k := i + 1 + j) (by omega)
    have a2 : asks[i + 1 + j]? = some (asks.getD (i + 1 + j) 0) := by
      rw [List.getD_eq_getElem?_getD, List.getElem?_eq_getElem (by omega)]; rfl
    have e1 : ((i + 1 : Nat) : Int) + j = ((i + 1 + j : Nat) : Int) := by omega
    rw [a2, e1]
    generalize asks.getD (i + 1 + j) 0 = g at *
    have eb : (some g == some r.1) = decide ((g : Int) = (r.1 : Int)) := by
      by_cases q : g = r.1
      · rw [q]; simp
      · have : ¬ (g : Int) = (r.1 : Int) := by omega
        simp [q, this]
    rw [eb]
    refine ⟨[.v (Av asks), .v (vi k), .v (.str rl.s), s3, .own false (.lst G), .v (vi i), s6, .v (vi c), s8, s9, .v (r3 r), .v (vi (i + 1 + j)), .emp], by simp, ?_, fun _ => ⟨.v (vi (i + 1 + j)), by simp, by simp⟩, by simp, by simp⟩
    unfold Av
    simp only [vi, r3] at *
    generalize ((i + 1 + j : Nat) : Int) = z at *
    simp [a1]
  have q1 : inR ((i + 1 : Nat) : Int) = true := inR_of (by omega) (by omega)
  have q2 : inR (asks.length : Int) = true := inR_of (by omega) (by omega)
  have e1 : (i : Int) + 1 = ((i + 1 : Nat) : Int) := by omega
  have e2 : ((asks.length : Int) - ((i + 1 : Nat) : Int)).toNat = asks.length - (i + 1) := by omega
  have hl : (asks.map vi).length = asks.length := by simp
  have hz : (rangeV ((i + 1 : Nat) : Int) (asks.length - (i + 1))).length ≤ 16777216 := by rw [rangeV_len]; omega
  unfold Av at *
  generalize (aft asks i r.1).map vi = N at *
  generalize asks.map vi = AA at *
  generalize asks.length = n at *
  generalize r3 r = R at *
  simp only [vi] at *
  generalize ((i + 1 : Nat) : Int) = z at *
  simp [e1, hl, rng2_int _ q1 q2, e2, hz, hc]
  omega
theorem zip_map {α : Type} (f g : α → Val) (l : List α) : zipV (l.map f) (l.map g) = l.map fun a => .tup [f a, g a] := by
  unfold zipV
  induction l with
  | nil => rfl
  | cons a l ih => rw [List.map_cons, List.map_cons, List.zip_cons_cons, List.map_cons, ih, List.map_cons]
/-- the law's key of a page -/
def fkey (asks : List Nat) (i p : Nat) : Int × Int × Int := if aft asks i p = [] then (0, (p : Int), (p : Int)) else (1, -((i + 1 + nx p (asks.drop (i + 1)) : Nat) : Int), (p : Int))
theorem lc_c5 : compL [10, 12] (tgT [(tgN 10), (tgN 12)]) tYes (eTup (asCons (eIf (tE (eOp fEq (eV 12) (eLst asNil))) (eTup (asCons (eC (.int 0)) (asCons (eOp fIx (eV 10) (eC (.int 0))) asNil))) (eTup (asCons (eC (.int 1)) (asCons (eOp fSub (eC (.int 0)) (eOp fIx (eV 12) (eC (.int 0)))) asNil)))) (asCons (eOp fIx (eV 10) (eC (.int 0))) asNil))) (zipV (C.map r3) (C.map fun r => .lst ((aft asks i r.1).map vi))) (fc A rl k s3 G i s6 c s8 s9) = .ok ((C.map fun r => fkey asks i r.1).map pr3) (fc A rl k s3 G i s6 c s8 s9) := by
  rw [zip_map, List.map_map]
  refine compL_map _ _ fun r hr => ?_
  refine ⟨[.v A, .v (vi k), .v (.str rl.s), s3, .own false (.lst G), .v (vi i), s6, .v (vi c), s8, s9, .v (r3 r), .emp, .v (.lst ((aft asks i r.1).map vi))], by simp [fc, tgs], by simp, ⟨.v (pr3 (fkey asks i r.1)), ?_, by simp⟩, by simp, by simp [fc]⟩
  have en := fEq_vis (aft asks i r.1)
  unfold fkey
  rcases aft_key asks i r.1 with ⟨h1, h2⟩ | ⟨h2, t, h1⟩
  · rw [if_pos h1]
    rw [h1] at en ⊢
    simp only [List.map_nil, decide_true] at en ⊢
    simp [r3, pr3, en]
  · have ne : aft asks i r.1 ≠ [] := by rw [h1]; simp
    rw [if_neg ne]
    rw [decide_eq_false ne] at en
    rw [h1] at en ⊢
    rw [List.map_cons] at en ⊢
    generalize t.map vi = T at *
    generalize i + 1 + nx r.1 (asks.drop (i + 1)) = z at *
    simp [r3, pr3, en]
theorem lc_c6 {f : Nat} : compL [10] (tgN 10) (tE (eOp fNe (eOp fIx (eV 10) (eC (.int 0))) (eV 8))) (eV 10) (C.map r3) (fc A rl k s3 G i s6 c (.v (vi f)) s9) = .ok ((C.filter fun r => r.1 != f).map r3) (fc A rl k s3 G i s6 c (.v (vi f)) s9) := by
  refine compL_mapf r3 (fun r => r.1 != f) r3 fun r hr => ?_
  have eb : (r.1 != f) = decide ((r.1 : Int) ≠ (f : Int)) := by
    by_cases q : r.1 = f
    · rw [q]; simp
    · have : ¬ (r.1 : Int) = (f : Int) := by omega
      simp [q, this]
  rw [eb]
  refine ⟨[.v A, .v (vi k), .v (.str rl.s), s3, .own false (.lst G), .v (vi i), s6, .v (vi c), .v (vi f), s9, .v (r3 r), .emp, .emp], by simp [fc], by simp [r3], fun _ => ⟨.v (r3 r), by simp, by simp⟩, by simp, by simp [fc]⟩
def upd3 (p i : Nat) (r : Row) : Row := (r.1, r.2.1, if r.1 = p then i else r.2.2)
theorem lc_c7 {p : Nat} (hp : asks[i]? = some p) : compL [10] (tgN 10) tYes (eLst (asCons (eOp fIx (eV 10) (eC (.int 0))) (asCons (eOp fIx (eV 10) (eC (.int 1))) (asCons (eIf (tE (eOp fEq (eOp fIx (eV 10) (eC (.int 0))) (eOp fIx (eV 0) (eV 5)))) (eV 5) (eOp fIx (eV 10) (eC (.int 2)))) asNil)))) (C.map r3) (fc (Av asks) rl k s3 G i s6 c s8 s9) = .ok ((C.map (upd3 p i)).map r3) (fc (Av asks) rl k s3 G i s6 c s8 s9) := by
  rw [List.map_map]
  refine compL_map r3 _ fun r hr => ?_
  refine ⟨[.v (Av asks), .v (vi k), .v (.str rl.s), s3, .own false (.lst G), .v (vi i), s6, .v (vi c), s8, s9, .v (r3 r), .emp, .emp], by simp [fc], by simp, ⟨.own (r3 (upd3 p i r)), ?_, by simp⟩, by simp, by simp [fc]⟩
  have a1 := atV_vi (l := asks) (k := i) (List.getElem?_eq_some_iff.mp hp).1
  have a2 : asks.getD i 0 = p := by rw [List.getD_eq_getElem?_getD, hp]; rfl
  rw [a2] at a1
  unfold Av upd3
  generalize asks.map vi = AA at *
  by_cases q : r.1 = p
  · have qI : (r.1 : Int) = (p : Int) := by omega
    rw [if_pos q]
    simp only [vi, r3] at *
    simp [a1, q, qI]
  · have qI : ¬ (r.1 : Int) = (p : Int) := by omega
    rw [if_neg q]
    simp only [vi, r3] at *
    simp [a1, q, qI]
end
/-! ### the statements -/
def lc_7 : S := (sSet 7 (eOp fAdd (eV 7) (eC (.int 1))))
def lc_r1 : S := (sSet 9 (eB fSortD (asCons (eCompO 3 [10] (tgN 10) tYes (eTup (asCons (eOp fIx (eV 10) (eC (.int 1))) (asCons (eOp fIx (eV 10) (eC (.int 0))) asNil)))) asNil)))
def lc_r2 : S := (sIf (tE (eOp fNe (eV 2) (eC (.str "oldest")))) (sSet 9 (eB fSortD (asCons (eCompO 3 [10] (tgN 10) tYes (eTup (asCons (eOp fIx (eV 10) (eC (.int 2))) (asCons (eOp fIx (eV 10) (eC (.int 0))) asNil)))) asNil))) sNil)
def lc_l6 : S := (sSet 6 (eComp (iSeq (eV 3)) [10] (tgN 10) tYes (eComp (iRange2 (eOp fAdd (eV 5) (eC (.int 1))) (eB fLenX (asCons (eV 0) asNil))) [11] (tgN 11) (tE (eOp fEq (eOp fIx (eV 0) (eV 11)) (eOp fIx (eV 10) (eC (.int 0))))) (eV 11))))
def lc_r3 : S := (sSet 9 (eB fSortD (asCons (eComp (iZipX (asCons (eV 3) (asCons (eV 6) asNil))) [10, 12] (tgT [(tgN 10), (tgN 12)]) tYes (eTup (asCons (eIf (tE (eOp fEq (eV 12) (eLst asNil))) (eTup (asCons (eC (.int 0)) (asCons (eOp fIx (eV 10) (eC (.int 0))) asNil))) (eTup (asCons (eC (.int 1)) (asCons (eOp fSub (eC (.int 0)) (eOp fIx (eV 12) (eC (.int 0)))) asNil)))) (asCons (eOp fIx (eV 10) (eC (.int 0))) asNil)))) asNil)))
def lc_p8 : S := (sSet 8 (eIf (tE (eOp fEq (eV 2) (eC (.str "last")))) (eOp fIx (eOp fIx (eV 9) (eUn fNeg (eC (.int 1)))) (eC (.int 1))) (eOp fIx (eOp fIx (eV 9) (eC (.int 0))) (eC (.int 1)))))
def lc_g4 : S := (sExp (eApp 4 (eTup (asCons (eV 5) (asCons (eV 8) asNil)))))
def lc_f3 : S := (sSet 3 (eComp (iSeq (eV 3)) [10] (tgN 10) (tE (eOp fNe (eOp fIx (eV 10) (eC (.int 0))) (eV 8))) (eV 10)))
def lc_app : S := (sExp (eApp 3 (eLst (asCons (eOp fIx (eV 0) (eV 5)) (asCons (eV 5) (asCons (eV 5) asNil))))))
def lc_reb : S := (sSet 3 (eComp (iSeq (eV 3)) [10] (tgN 10) tYes (eLst (asCons (eOp fIx (eV 10) (eC (.int 0))) (asCons (eOp fIx (eV 10) (eC (.int 1))) (asCons (eIf (tE (eOp fEq (eOp fIx (eV 10) (eC (.int 0))) (eOp fIx (eV 0) (eV 5)))) (eV 5) (eOp fIx (eV 10) (eC (.int 2)))) asNil))))))
def lc_in : T := (tE (eOp fNotIn (eOp fIx (eV 0) (eV 5)) (eCompO 3 [10] (tgN 10) tYes (eOp fIx (eV 10) (eC (.int 0))))))
def lc_full : T := (tE (eOp fEq (eB fLenX (asCons (eV 3) asNil)) (eV 1)))
def lc_far : T := (tE (eOp fEq (eV 2) (eC (.str "farthest"))))
theorem lc_eq : b__law_cached_2 = sSeq (sIf lc_in (sSeq lc_7 (sSeq (sIf lc_full (sSeq lc_r1 (sSeq lc_r2 (sSeq (sIf lc_far (sSeq lc_l6 lc_r3) sNil) (sSeq lc_p8 (sSeq lc_g4 lc_f3))))) sNil) lc_app)) sNil) lc_reb := rfl
end Z
namespace Z
open PySem (Str)
open Pg
theorem sIf_t {t : T} {a b : S} {e e1 : Env} (h : t e = .ok true e1) : sIf t a b e = a e1 := by rw [sIf_ap, h]; rfl
theorem sIf_f {t : T} {a b : S} {e e1 : Env} (h : t e = .ok false e1) : sIf t a b e = b e1 := by rw [sIf_ap, h]; rfl
section
variable {asks : List Nat} {k i c : Nat} {s3 s6 s8 s9 : Slot} {G : List Val} {C : List Row} {rl : Rule}
theorem lc_in_ok {p : Nat} (hp : asks[i]? = some p) (hC : C.length ≤ 40) : lc_in (fc (Av asks) rl k (.own false (.lst (C.map r3))) G i s6 c s8 s9) = .ok (decide (p ∉ C.map Prod.fst)) (fc (Av asks) rl k (.own false (.lst (C.map r3))) G i s6 c s8 s9) := by
  have h1 := lc_c1 (rl := rl) (A := Av asks) (k := k) (i := i) (c := c) (s3 := .emp) (s6 := s6) (s8 := s8) (s9 := s9) (G := G) (C := C)
  have a1 := atV_vi (l := asks) (k := i) (List.getElem?_eq_some_iff.mp hp).1
  have a2 : asks.getD i 0 = p := by rw [List.getD_eq_getElem?_getD, hp]; rfl
  rw [a2] at a1
  have n1 := fNotIn_vi p (C.map Prod.fst)
  have hz : (C.map r3).length ≤ 16777216 := by rw [List.length_map]; omega
  unfold lc_in Av at *
  generalize decide (p ∉ C.map Prod.fst) = b at *
  generalize (C.map Prod.fst).map vi = L at *
  generalize C.map r3 = M at *
  generalize asks.map vi = AA at *
  unfold fc at *
  simp only [vi] at *
  simp [a1, hz, h1, n1]
theorem lc_7_ok : lc_7 (fc (Av asks) rl k s3 G i s6 c s8 s9) = .ok .nx (fc (Av asks) rl k s3 G i s6 (c + 1) s8 s9) := by
  have e : (c : Int) + 1 = ((c + 1 : Nat) : Int) := by omega
  unfold lc_7 fc
  simp only [vi] at *
  rw [← e]
  simp
theorem lc_full_ok (hC : C.length ≤ 40) : lc_full (fc (Av asks) rl k (.own false (.lst (C.map r3))) G i s6 c s8 s9) = .ok (decide (C.length = k)) (fc (Av asks) rl k (.own false (.lst (C.map r3))) G i s6 c s8 s9) := by
  have hl : (C.map r3).length = C.length := by simp
  have eb : decide (C.length = k) = decide ((C.length : Int) = (k : Int)) := by
    by_cases q : C.length = k
    · have : (C.length : Int) = (k : Int) := by omega
      simp [q]
    · have : ¬ (C.length : Int) = (k : Int) := by omega
      simp [q, this]
  rw [eb]
  unfold lc_full
  generalize C.map r3 = M at *
  generalize C.length = n at *
  unfold fc
  simp only [vi] at *
  simp [hl]
theorem lc_r1_ok (hC : C.length ≤ 40) (f9 : Fr s9) : ∃ l' : List (Int × Int), l'.Perm (C.map fun r => ((r.2.1 : Int), (r.1 : Int))) ∧ l'.Pairwise le2 ∧ lc_r1 (fc (Av asks) rl k (.own false (.lst (C.map r3))) G i s6 c s8 s9) = .ok .nx (fc (Av asks) rl k (.own false (.lst (C.map r3))) G i s6 c s8 (.own false (.lst (l'.map pr)))) := by
  have h1 := lc_c2 (rl := rl) (A := Av asks) (k := k) (i := i) (c := c) (s3 := .emp) (s6 := s6) (s8 := s8) (s9 := s9) (G := G) (C := C)
  obtain ⟨l', pm, sd, so⟩ := sort_lex (C.map fun r => ((r.2.1 : Int), (r.1 : Int)))
  have hz : (C.map r3).length ≤ 16777216 := by rw [List.length_map]; omega
  have p9 := f9.ok
  refine ⟨l', pm, sd, ?_⟩
  unfold lc_r1
  clear pm sd
  generalize (C.map fun r => ((r.2.1 : Int), (r.1 : Int))).map pr = L at *
  generalize l'.map pr = L2 at *
  generalize C.map r3 = M at *
  unfold fc at *
  simp only [vi] at *
  simp [hz, h1, so, p9]
theorem lc_r2_no : lc_r2 (fc (Av asks) .oldest k s3 G i s6 c s8 s9) = .ok .nx (fc (Av asks) .oldest k s3 G i s6 c s8 s9) := by
  have q1 : fNe (.str (Rule.s .oldest)) (.str "oldest") = some (.v (.bl false)) := fNe_rule .oldest .oldest
  unfold lc_r2
  unfold fc
  generalize Rule.s .oldest = rs at *
  simp only [vi] at *
  simp [q1]
theorem lc_r2_ok (hr : rl ≠ .oldest) (hC : C.length ≤ 40) (f9 : Fr s9) : ∃ l' : List (Int × Int), l'.Perm (C.map fun r => ((r.2.2 : Int), (r.1 : Int))) ∧ l'.Pairwise le2 ∧ lc_r2 (fc (Av asks) rl k (.own false (.lst (C.map r3))) G i s6 c s8 s9) = .ok .nx (fc (Av asks) rl k (.own false (.lst (C.map r3))) G i s6 c s8 (.own false (.lst (l'.map pr)))) := by
  have h1 := lc_c3 (rl := rl) (A := Av asks) (k := k) (i := i) (c := c) (s3 := .emp) (s6 := s6) (s8 := s8) (s9 := s9) (G := G) (C := C)
  obtain ⟨l', pm, sd, so⟩ := sort_lex (C.map fun r => ((r.2.2 : Int), (r.1 : Int)))
  have hz : (C.map r3).length ≤ 16777216 := by rw [List.length_map]; omega
  have p9 := f9.ok
  have q1 : fNe (.str rl.s) (.str "oldest") = some (.v (.bl true)) := by
    have := fNe_rule rl .oldest
    have e : rEq rl .oldest = false := by cases rl <;> first | rfl | exact absurd rfl hr
    rw [e] at this
    exact this
  refine ⟨l', pm, sd, ?_⟩
  unfold lc_r2
  clear pm sd
  generalize (C.map fun r => ((r.2.2 : Int), (r.1 : Int))).map pr = L at *
  generalize l'.map pr = L2 at *
  generalize C.map r3 = M at *
  unfold fc at *
  generalize rl.s = rs at *
  simp only [vi] at *
  simp [hz, h1, so, p9, q1]
theorem lc_far_ok : lc_far (fc (Av asks) rl k s3 G i s6 c s8 s9) = .ok (rEq rl .farthest) (fc (Av asks) rl k s3 G i s6 c s8 s9) := by
  have q1 : fEq (.str rl.s) (.str "farthest") = some (.v (.bl (rEq rl .farthest))) := fEq_rule rl .farthest
  unfold lc_far fc
  generalize rl.s = rs at *
  simp [q1]
theorem nx_at (p : Nat) : ∀ (σ : List Nat), nx p σ < σ.length → σ[nx p σ]? = some p
  | [], h => by simp at h
  | a :: σ, h => by
    by_cases e : a = p
    · subst e; simp [nx]
    · have e3 : nx p (a :: σ) = nx p σ + 1 := by simp [nx, e]
      rw [e3] at h ⊢
      simp at h
      simpa using nx_at p σ h
theorem lc_l6_ok (h : Ask asks) (hi : i < asks.length) (hC : C.length ≤ 40) (f6 : Fr s6) : lc_l6 (fc (Av asks) rl k (.own false (.lst (C.map r3))) G i s6 c s8 s9) = .ok .nx (fc (Av asks) rl k (.v (.lst (C.map r3))) G i (.own false (.lst (C.map fun r => .lst ((aft asks i r.1).map vi)))) c s8 s9) := by
  have h1 := lc_c4 (rl := rl) (k := k) (i := i) (c := c) (s3 := .v (.lst (C.map r3))) (s6 := s6) (s8 := s8) (s9 := s9) (G := G) (C := C) h hi
  have hz : (C.map r3).length ≤ 16777216 := by rw [List.length_map]; omega
  have p6 := f6.ok
  unfold lc_l6
  generalize (C.map fun r => Val.lst ((aft asks i r.1).map vi)) = L at *
  generalize C.map r3 = M at *
  unfold fc at *
  simp only [vi] at *
  simp [hz, h1, p6]
/-- what is dropped -/
theorem lc_r3_ok (hi : i < asks.length) (hC : C.length ≤ 40) (ne : C ≠ []) (f9 : Fr s9) : ∃ (m : Int × Int × Int) (T : List Val), m.2.2 = (sel asks .farthest i (C.map Prod.fst) : Int) ∧ lc_r3 (fc (Av asks) .farthest k (.v (.lst (C.map r3))) G i (.own false (.lst (C.map fun r => .lst ((aft asks i r.1).map vi)))) c s8 s9) = .ok .nx (fc (Av asks) .farthest k (.v (.lst (C.map r3))) G i (.v (.lst (C.map fun r => .lst ((aft asks i r.1).map vi)))) c s8 (.own false (.lst (pr3 m :: T)))) := by
  have ne2 : (C.map fun r => fkey asks i r.1) ≠ [] := by simpa using ne
  obtain ⟨m, rest, pm, best, so⟩ := sort_pr3 ne2
  have mm : m ∈ C.map fun r => fkey asks i r.1 := pm.mem_iff.mp List.mem_cons_self
  obtain ⟨r, hr, em⟩ := List.mem_map.mp mm
  have m2 : m.2.2 = (r.1 : Int) := by
    rw [← em]
    show (fkey asks i r.1).2.2 = _
    unfold fkey
    split <;> rfl
  have hsel : Sel asks .farthest i (C.map Prod.fst) r.1 := by
    refine ⟨List.mem_map.mpr ⟨r, hr, rfl⟩, fun q hq => ?_⟩
    obtain ⟨r', hr', rfl⟩ := List.mem_map.mp hq
    have b := best _ (List.mem_map.mpr ⟨r', hr', rfl⟩)
    rw [← em] at b
    have k1 := aft_key asks i r.1
    have k2 := aft_key asks i r'.1
    unfold fkey at b
    unfold key le2
    dsimp only
    rcases k1 with ⟨h1, h2⟩ | ⟨h2, t, h1⟩
    · rw [if_pos h1] at b
      rcases k2 with ⟨h3, h4⟩ | ⟨h4, t', h3⟩
      · rw [if_pos h3] at b
        dsimp only at b
        omega
      · omega
    · rw [if_neg (by rw [h1]; simp)] at b
      rcases k2 with ⟨h3, h4⟩ | ⟨h4, t', h3⟩
      · rw [if_pos h3] at b
        dsimp only at b
        omega
      · rw [if_neg (by rw [h3]; simp)] at b
        dsimp only at b
        rcases (by omega : nx r'.1 (asks.drop (i + 1)) < nx r.1 (asks.drop (i + 1)) ∨ nx r.1 (asks.drop (i + 1)) = nx r'.1 (asks.drop (i + 1))) with q | q
        · left; omega
        · right
          have a1 := nx_at r.1 (asks.drop (i + 1)) (by rw [List.length_drop]; exact h2)
          have a2 := nx_at r'.1 (asks.drop (i + 1)) (by rw [List.length_drop]; exact h4)
          rw [q, a2] at a1
          have := Option.some.inj a1
          omega
  rw [sel_of hsel]
  refine ⟨m, rest.map pr3, m2, ?_⟩
  · have h1 := lc_c5 (rl := .farthest) (A := Av asks) (asks := asks) (k := k) (i := i) (c := c) (s3 := .v (.lst (C.map r3))) (s6 := .v (.lst (C.map fun r => .lst ((aft asks i r.1).map vi)))) (s8 := s8) (s9 := s9) (G := G) (C := C)
    have hz : (zipV (C.map r3) (C.map fun r => Val.lst ((aft asks i r.1).map vi))).length ≤ 16777216 := by rw [zipV_len, List.length_map, List.length_map]; omega
    have p9 := f9.ok
    unfold lc_r3
    rw [← List.map_cons]
    clear hsel best pm m2 mm
    generalize (C.map fun r => fkey asks i r.1).map pr3 = L3 at *
    generalize (m :: rest).map pr3 = L4 at *
    generalize (C.map fun r => Val.lst ((aft asks i r.1).map vi)) = L at *
    generalize C.map r3 = M at *
    unfold fc at *
    generalize Rule.s .farthest = rs at *
    simp only [vi] at *
    simp [hz, h1, p9, so]
/-- the rows show what goes -/
def RowsOk (rl : Rule) (R : List Val) (f : Nat) : Prop := (rl = .last → ∃ x, Z.atV R (-1) = some (.tup [x, vi f])) ∧ (rl ≠ .last → ∃ x, Z.atV R 0 = some (.tup [x, vi f]))
theorem lc_p8_ok {f : Nat} {R : List Val} (hm : RowsOk rl R f) (f8 : Fr s8) : lc_p8 (fc (Av asks) rl k s3 G i s6 c s8 (.own false (.lst R))) = .ok .nx (fc (Av asks) rl k s3 G i s6 c (.v (vi f)) (.own false (.lst R))) := by
  have q1 : fEq (.str rl.s) (.str "last") = some (.v (.bl (rEq rl .last))) := fEq_rule rl .last
  have p8 := f8.ok
  unfold lc_p8 fc
  by_cases hl : rl = .last
  · obtain ⟨x, hx⟩ := hm.1 hl
    subst hl
    rw [show rEq .last .last = true from rfl] at q1
    generalize Rule.s .last = rs at *
    simp only [vi] at *
    simp [q1, p8, hx]
  · obtain ⟨x, hx⟩ := hm.2 hl
    have e : rEq rl .last = false := by cases rl <;> first | rfl | exact absurd rfl hl
    rw [e] at q1
    generalize rl.s = rs at *
    simp only [vi] at *
    simp [q1, p8, hx]
/-- the cache, at rest or not -/
def Co (C : List Row) (s : Slot) : Prop := s = .own false (.lst (C.map r3)) ∨ s = .v (.lst (C.map r3))
theorem lc_f3_ok {f : Nat} (h3 : Co C s3) (hC : C.length ≤ 40) : lc_f3 (fc (Av asks) rl k s3 G i s6 c (.v (vi f)) s9) = .ok .nx (fc (Av asks) rl k (.own false (.lst ((C.filter fun r => r.1 != f).map r3))) G i s6 c (.v (vi f)) s9) := by
  have h1 := lc_c6 (rl := rl) (A := Av asks) (k := k) (i := i) (c := c) (s3 := .v (.lst (C.map r3))) (s6 := s6) (s9 := s9) (G := G) (C := C) (f := f)
  have hz : (C.map r3).length ≤ 16777216 := by rw [List.length_map]; omega
  unfold lc_f3
  unfold Co at h3
  generalize (C.filter fun r => r.1 != f).map r3 = N at *
  generalize C.map r3 = M at *
  unfold fc at *
  simp only [vi] at *
  rcases h3 with rfl | rfl <;> simp [hz, h1]
theorem lc_g4_ok {f : Nat} (hG : G.length ≤ 40) : lc_g4 (fc (Av asks) rl k s3 G i s6 c (.v (vi f)) s9) = .ok .nx (fc (Av asks) rl k s3 (G ++ [.tup [vi i, vi f]]) i s6 c (.v (vi f)) s9) := by
  have hz : G.length < 16777216 := by omega
  unfold lc_g4 fc
  simp only [vi] at *
  simp [hz]
theorem lc_app_ok {p : Nat} (hp : asks[i]? = some p) (hC : C.length ≤ 40) : lc_app (fc (Av asks) rl k (.own false (.lst (C.map r3))) G i s6 c s8 s9) = .ok .nx (fc (Av asks) rl k (.own false (.lst ((C ++ [(p, i, i)]).map r3))) G i s6 c s8 s9) := by
  have a1 := atV_vi (l := asks) (k := i) (List.getElem?_eq_some_iff.mp hp).1
  have a2 : asks.getD i 0 = p := by rw [List.getD_eq_getElem?_getD, hp]; rfl
  rw [a2] at a1
  have hz : (C.map r3).length < 16777216 := by rw [List.length_map]; omega
  have eN : (C ++ [(p, i, i)]).map r3 = C.map r3 ++ [r3 (p, i, i)] := by simp
  rw [eN]
  unfold lc_app Av at *
  generalize C.map r3 = M at *
  generalize asks.map vi = AA at *
  unfold fc r3
  simp only [vi] at *
  simp [a1, hz]
theorem lc_reb_ok {p : Nat} (hp : asks[i]? = some p) (hC : C.length ≤ 41) : lc_reb (fc (Av asks) rl k (.own false (.lst (C.map r3))) G i s6 c s8 s9) = .ok .nx (fc (Av asks) rl k (.own false (.lst ((C.map (upd3 p i)).map r3))) G i s6 c s8 s9) := by
  have h1 := lc_c7 (rl := rl) (k := k) (c := c) (s3 := .v (.lst (C.map r3))) (s6 := s6) (s8 := s8) (s9 := s9) (G := G) (C := C) hp
  have hz : (C.map r3).length ≤ 16777216 := by rw [List.length_map]; omega
  unfold lc_reb
  generalize (C.map (upd3 p i)).map r3 = N at *
  generalize C.map r3 = M at *
  unfold fc at *
  simp only [vi] at *
  simp [hz, h1]
/-- the law's rows: when they came, ascending; when they were asked last -/
structure CI (asks : List Nat) (i : Nat) (C : List Row) : Prop where
  asc : C.Pairwise fun a b => a.2.1 < b.2.1
  lt : ∀ r ∈ C, r.2.1 < i
  la : ∀ r ∈ C, r.2.2 + 1 = lst asks i r.1
theorem CI.upd {p : Nat} (hp : asks[i]? = some p) (asc : C.Pairwise fun a b => a.2.1 < b.2.1) (lt : ∀ r ∈ C, r.2.1 < i + 1) (la : ∀ r ∈ C, r.1 = p ∨ r.2.2 + 1 = lst asks i r.1) : CI asks (i + 1) (C.map (upd3 p i)) := by
  refine ⟨?_, fun r hr => ?_, fun r hr => ?_⟩
  · rw [List.pairwise_map]
    exact asc
  · obtain ⟨r', h, rfl⟩ := List.mem_map.mp hr
    exact lt r' h
  · obtain ⟨r', h, rfl⟩ := List.mem_map.mp hr
    show (if r'.1 = p then i else r'.2.2) + 1 = lst asks (i + 1) r'.1
    rw [lst_succ, hp]
    by_cases e : r'.1 = p
    · rw [if_pos e, if_pos (by rw [e])]
    · rw [if_neg e, if_neg (fun z => e (Option.some.inj z).symm)]
      exact (la r' h).resolve_left e
theorem sel_old (ci : CI asks i C) (ne : C ≠ []) {l' : List (Int × Int)} (pm : l'.Perm (C.map fun r => ((r.2.1 : Int), (r.1 : Int)))) (sd : l'.Pairwise le2) : RowsOk .oldest (l'.map pr) (sel asks .oldest i (C.map Prod.fst)) := by
  obtain ⟨m, t, e, hm, hmin⟩ := sorted_head pm sd (by simpa using ne)
  cases C with
  | nil => exact absurd rfl ne
  | cons r0 C' =>
    obtain ⟨r, hr, em⟩ := List.mem_map.mp hm
    have b := hmin ((r0.2.1 : Int), (r0.1 : Int)) (List.mem_map.mpr ⟨r0, List.mem_cons_self, rfl⟩)
    rw [sel_of (show Sel asks .oldest i ((r0 :: C').map Prod.fst) r0.1 from rfl)]
    have hh : r = r0 := by
      rcases List.mem_cons.mp hr with h | h
      · exact h
      · have := (List.pairwise_cons.mp ci.asc).1 r h
        rw [← em] at b
        unfold le2 at b
        dsimp only at b
        omega
    subst hh
    subst e
    refine ⟨(fun z => nomatch z), fun _ => ⟨.int m.1, ?_⟩⟩
    show some (pr m) = _
    rw [← em]
    rfl
theorem sel_un (ci : CI asks i C) (ne : C ≠ []) {l' : List (Int × Int)} (pm : l'.Perm (C.map fun r => ((r.2.2 : Int), (r.1 : Int)))) (sd : l'.Pairwise le2) : RowsOk .unused (l'.map pr) (sel asks .unused i (C.map Prod.fst)) := by
  obtain ⟨m, t, e, hm, hmin⟩ := sorted_head pm sd (by simpa using ne)
  obtain ⟨r, hr, em⟩ := List.mem_map.mp hm
  have hs : Sel asks .unused i (C.map Prod.fst) r.1 := ⟨List.mem_map.mpr ⟨r, hr, rfl⟩, fun q hq => by
    obtain ⟨r', hr', rfl⟩ := List.mem_map.mp hq
    have b := hmin _ (List.mem_map.mpr ⟨r', hr', rfl⟩)
    rw [← em] at b
    have := ci.la r hr
    have := ci.la r' hr'
    unfold le2 key at *
    dsimp only at *
    omega⟩
  rw [sel_of hs]
  subst e
  refine ⟨(fun z => nomatch z), fun _ => ⟨.int m.1, ?_⟩⟩
  show some (pr m) = _
  rw [← em]
  rfl
theorem sel_la (ci : CI asks i C) (ne : C ≠ []) {l' : List (Int × Int)} (pm : l'.Perm (C.map fun r => ((r.2.2 : Int), (r.1 : Int)))) (sd : l'.Pairwise le2) : RowsOk .last (l'.map pr) (sel asks .last i (C.map Prod.fst)) := by
  obtain ⟨hn, hm, hmax⟩ := sorted_last pm sd (by simpa using ne)
  obtain ⟨r, hr, em⟩ := List.mem_map.mp hm
  have hs : Sel asks .last i (C.map Prod.fst) r.1 := ⟨List.mem_map.mpr ⟨r, hr, rfl⟩, fun q hq => by
    obtain ⟨r', hr', rfl⟩ := List.mem_map.mp hq
    have b := hmax _ (List.mem_map.mpr ⟨r', hr', rfl⟩)
    rw [← em] at b
    have := ci.la r hr
    have := ci.la r' hr'
    unfold le2 key at *
    dsimp only at *
    omega⟩
  rw [sel_of hs]
  refine ⟨fun _ => ⟨.int (r.2.2 : Int), ?_⟩, fun z => absurd rfl z⟩
  have h0 : l'.map pr ≠ [] := by simpa using hn
  rw [atV_last h0, List.getLast_map, ← em]
  rfl
def lc_rows : S → S := fun rest => sSeq lc_r1 (sSeq lc_r2 (sSeq (sIf lc_far (sSeq lc_l6 lc_r3) sNil) rest))
theorem lc_rows_ok (h : Ask asks) (hi : i < asks.length) (hC : C.length ≤ 40) (ci : CI asks i C) (ne : C ≠ []) (f6 : Fr s6) (f9 : Fr s9) (rest : S) : ∃ (t3 t6 : Slot) (R : List Val), Co C t3 ∧ Fr t6 ∧ RowsOk rl R (sel asks rl i (C.map Prod.fst)) ∧
    lc_rows rest (fc (Av asks) rl k (.own false (.lst (C.map r3))) G i s6 c s8 s9) = rest (fc (Av asks) rl k t3 G i t6 c s8 (.own false (.lst R))) := by
  unfold lc_rows
  obtain ⟨l1, pm1, sd1, st1⟩ := lc_r1_ok (asks := asks) (rl := rl) (k := k) (i := i) (c := c) (s6 := s6) (s8 := s8) (s9 := s9) (G := G) (C := C) hC f9
  rw [seq_nx st1]
  have hfar := fun (s3 s6 s9 : Slot) => lc_far_ok (asks := asks) (rl := rl) (k := k) (i := i) (c := c) (s3 := s3) (s6 := s6) (s8 := s8) (s9 := s9) (G := G)
  by_cases ho : rl = .oldest
  · subst ho
    refine ⟨.own false (.lst (C.map r3)), s6, l1.map pr, .inl rfl, f6, sel_old ci ne pm1 sd1, ?_⟩
    rw [seq_nx lc_r2_no, seq_nx ((sIf_f (hfar _ _ _)).trans (by rfl : sNil _ = _))]
  · obtain ⟨l2, pm2, sd2, st2⟩ := lc_r2_ok (asks := asks) (rl := rl) (k := k) (i := i) (c := c) (s6 := s6) (s8 := s8) (s9 := .own false (.lst (l1.map pr))) (G := G) (C := C) ho hC .o
    rw [seq_nx st2]
    cases rl with
    | oldest => exact absurd rfl ho
    | unused =>
      refine ⟨.own false (.lst (C.map r3)), s6, l2.map pr, .inl rfl, f6, sel_un ci ne pm2 sd2, ?_⟩
      rw [seq_nx ((sIf_f (hfar _ _ _)).trans (by rfl : sNil _ = _))]
    | last =>
      refine ⟨.own false (.lst (C.map r3)), s6, l2.map pr, .inl rfl, f6, sel_la ci ne pm2 sd2, ?_⟩
      rw [seq_nx ((sIf_f (hfar _ _ _)).trans (by rfl : sNil _ = _))]
    | farthest =>
      have st3 := lc_l6_ok (rl := .farthest) (k := k) (c := c) (s6 := s6) (s8 := s8) (s9 := .own false (.lst (l2.map pr))) (G := G) (C := C) h hi hC f6
      obtain ⟨m, T, hm, st4⟩ := lc_r3_ok (asks := asks) (k := k) (c := c) (s8 := s8) (s9 := .own false (.lst (l2.map pr))) (G := G) (C := C) hi hC ne .o
      refine ⟨.v (.lst (C.map r3)), .v (.lst (C.map fun r => .lst ((aft asks i r.1).map vi))), pr3 m :: T, .inr rfl, .v, ⟨(fun z => nomatch z), fun _ => ⟨.tup [.int m.1, .int m.2.1], ?_⟩⟩, ?_⟩
      · show some (pr3 m) = _
        unfold pr3
        rw [hm]
      · rw [seq_nx ((sIf_t (hfar _ _ _)).trans ((seq_nx st3).trans st4))]
/-- one turn -/
theorem cached_2 {p : Nat} {L : List Nat} {Gn : List (Nat × Nat)} (h : Ask asks) (hk : 1 ≤ k) (hk5 : k ≤ 5) (hp : asks[i]? = some p) (v : Iv k asks i (L, c, Gn)) (eL : C.map Prod.fst = L) (eG : G = Gn.map gv) (ci : CI asks i C) (f6 : Fr s6) (f8 : Fr s8) (f9 : Fr s9) :
    ∃ (C' : List Row) (t6 t8 t9 : Slot), Fr t6 ∧ Fr t8 ∧ Fr t9 ∧ C'.map Prod.fst = (stp k asks rl i (L, c, Gn) p).1 ∧ CI asks (i + 1) C' ∧
      b__law_cached_2 (fc (Av asks) rl k (.own false (.lst (C.map r3))) G i s6 c s8 s9) = .ok .nx (fc (Av asks) rl k (.own false (.lst (C'.map r3))) ((stp k asks rl i (L, c, Gn) p).2.2.map gv) i t6 (stp k asks rl i (L, c, Gn) p).2.1 t8 t9) := by
  subst eL
  subst eG
  have l40 := h.len
  have hi : i < asks.length := (List.getElem?_eq_some_iff.mp hp).1
  have hLl : (C.map Prod.fst).length ≤ k := v.l.le
  rw [List.length_map] at hLl
  have hG : Gn.length ≤ i := v.g
  have pages : ∀ D : List Row, (D.map (upd3 p i)).map Prod.fst = D.map Prod.fst := fun D => by
    rw [List.map_map]
    rfl
  have hin := lc_in_ok (rl := rl) (k := k) (c := c) (s6 := s6) (s8 := s8) (s9 := s9) (G := Gn.map gv) (C := C) hp (by omega)
  rw [lc_eq]
  by_cases hm : p ∈ C.map Prod.fst
  · have es : stp k asks rl i (C.map Prod.fst, c, Gn) p = (C.map Prod.fst, c, Gn) := by unfold stp; rw [if_pos hm]
    rw [es]
    rw [decide_eq_false (by simpa using hm)] at hin
    have reb := lc_reb_ok (rl := rl) (k := k) (c := c) (s6 := s6) (s8 := s8) (s9 := s9) (G := Gn.map gv) (C := C) hp (by omega)
    refine ⟨C.map (upd3 p i), s6, s8, s9, f6, f8, f9, pages C, CI.upd hp ci.asc (fun r hr => by have := ci.lt r hr; omega) (fun r hr => .inr (ci.la r hr)), ?_⟩
    rw [seq_nx ((sIf_f hin).trans (by rfl : sNil _ = _)), reb]
  · rw [decide_eq_true hm] at hin
    have hfull := lc_full_ok (asks := asks) (rl := rl) (k := k) (i := i) (c := c + 1) (s6 := s6) (s8 := s8) (s9 := s9) (G := Gn.map gv) (C := C) (by omega)
    by_cases full : C.length = k
    · have fullL : (C.map Prod.fst).length = k := by rw [List.length_map]; exact full
      have ne : C ≠ [] := fun e => by subst e; simp at full; omega
      rw [decide_eq_true full] at hfull
      have es : stp k asks rl i (C.map Prod.fst, c, Gn) p = (((C.map Prod.fst).filter fun x => x != sel asks rl i (C.map Prod.fst)) ++ [p], c + 1, Gn ++ [(i, sel asks rl i (C.map Prod.fst))]) := by unfold stp; rw [if_neg hm, if_pos fullL]
      rw [es]
      obtain ⟨t3, t6, R, co, g6, ro, st1⟩ := lc_rows_ok (rl := rl) (k := k) (c := c + 1) (s6 := s6) (s8 := s8) (s9 := s9) (G := Gn.map gv) (C := C) h hi (by omega) ci ne f6 f9 (sSeq lc_p8 (sSeq lc_g4 lc_f3))
      generalize hf : sel asks rl i (C.map Prod.fst) = f at *
      have st5 := lc_p8_ok (asks := asks) (k := k) (i := i) (c := c + 1) (s3 := t3) (s6 := t6) (G := Gn.map gv) ro f8
      have st6 := lc_g4_ok (asks := asks) (rl := rl) (k := k) (i := i) (c := c + 1) (s3 := t3) (s6 := t6) (s9 := .own false (.lst R)) (G := Gn.map gv) (f := f) (by rw [List.length_map]; omega)
      have st7 := lc_f3_ok (asks := asks) (rl := rl) (k := k) (i := i) (c := c + 1) (s6 := t6) (s9 := .own false (.lst R)) (G := Gn.map gv ++ [.tup [vi i, vi f]]) (C := C) (f := f) co (by omega)
      have lF : (C.filter fun r => r.1 != f).length ≤ 40 := by
        have := List.length_filter_le (fun r : Row => r.1 != f) C
        omega
      have st8 := lc_app_ok (rl := rl) (k := k) (c := c + 1) (s6 := t6) (s8 := .v (vi f)) (s9 := .own false (.lst R)) (G := Gn.map gv ++ [.tup [vi i, vi f]]) (C := C.filter fun r => r.1 != f) hp lF
      have st9 := lc_reb_ok (rl := rl) (k := k) (c := c + 1) (s6 := t6) (s8 := .v (vi f)) (s9 := .own false (.lst R)) (G := Gn.map gv ++ [.tup [vi i, vi f]]) (C := (C.filter fun r => r.1 != f) ++ [(p, i, i)]) hp (by rw [List.length_append, List.length_singleton]; omega)
      have eL : (((C.filter fun r => r.1 != f) ++ [(p, i, i)]).map (upd3 p i)).map Prod.fst = (C.map Prod.fst).filter (fun x => x != f) ++ [p] := by
        rw [pages, List.map_append, List.filter_map]
        rfl
      have eg : (Gn ++ [(i, f)]).map gv = Gn.map gv ++ [.tup [vi i, vi f]] := by simp [gv]
      refine ⟨((C.filter fun r => r.1 != f) ++ [(p, i, i)]).map (upd3 p i), t6, .v (vi f), .own false (.lst R), g6, .v, .o, eL, CI.upd hp ?_ ?_ ?_, ?_⟩
      · rw [List.pairwise_append]
        refine ⟨ci.asc.sublist List.filter_sublist, by simp, fun a ha b hb => ?_⟩
        rw [List.mem_singleton.mp hb]
        exact ci.lt a (List.mem_filter.mp ha).1
      · intro r hr
        rcases List.mem_append.mp hr with hr | hr
        · have := ci.lt r (List.mem_filter.mp hr).1; omega
        · rw [List.mem_singleton.mp hr]; show i < i + 1; omega
      · intro r hr
        rcases List.mem_append.mp hr with hr | hr
        · exact .inr (ci.la r (List.mem_filter.mp hr).1)
        · rw [List.mem_singleton.mp hr]; exact .inl rfl
      · show _ = Rs.ok Fl.nx (fc (Av asks) rl k (.own false (.lst ((((C.filter fun r => r.1 != f) ++ [(p, i, i)]).map (upd3 p i)).map r3))) ((Gn ++ [(i, f)]).map gv) i t6 (c + 1) (.v (vi f)) (.own false (.lst R)))
        rw [eg]
        rw [seq_nx (e1 := fc (Av asks) rl k (.own false (.lst (((C.filter fun r => r.1 != f) ++ [(p, i, i)]).map r3))) (Gn.map gv ++ [.tup [vi i, vi f]]) i t6 (c + 1) (.v (vi f)) (.own false (.lst R))) ((sIf_t hin).trans ?_), st9]
        rw [seq_nx lc_7_ok, seq_nx (e1 := fc (Av asks) rl k (.own false (.lst ((C.filter fun r => r.1 != f).map r3))) (Gn.map gv ++ [.tup [vi i, vi f]]) i t6 (c + 1) (.v (vi f)) (.own false (.lst R))) ((sIf_t hfull).trans ?_), st8]
        exact st1.trans (by rw [seq_nx st5, seq_nx st6, st7])
    · have fullL : ¬ (C.map Prod.fst).length = k := by rw [List.length_map]; exact full
      rw [decide_eq_false full] at hfull
      have es : stp k asks rl i (C.map Prod.fst, c, Gn) p = (C.map Prod.fst ++ [p], c + 1, Gn) := by unfold stp; rw [if_neg hm, if_neg fullL]
      rw [es]
      have st8 := lc_app_ok (rl := rl) (k := k) (c := c + 1) (s6 := s6) (s8 := s8) (s9 := s9) (G := Gn.map gv) (C := C) hp (by omega)
      have st9 := lc_reb_ok (rl := rl) (k := k) (c := c + 1) (s6 := s6) (s8 := s8) (s9 := s9) (G := Gn.map gv) (C := C ++ [(p, i, i)]) hp (by rw [List.length_append, List.length_singleton]; omega)
      have eL : ((C ++ [(p, i, i)]).map (upd3 p i)).map Prod.fst = C.map Prod.fst ++ [p] := by
        rw [pages, List.map_append]
        rfl
      refine ⟨(C ++ [(p, i, i)]).map (upd3 p i), s6, s8, s9, f6, f8, f9, eL, CI.upd hp ?_ ?_ ?_, ?_⟩
      · rw [List.pairwise_append]
        refine ⟨ci.asc, by simp, fun a ha b hb => ?_⟩
        rw [List.mem_singleton.mp hb]
        exact ci.lt a ha
      · intro r hr
        rcases List.mem_append.mp hr with hr | hr
        · have := ci.lt r hr; omega
        · rw [List.mem_singleton.mp hr]; show i < i + 1; omega
      · intro r hr
        rcases List.mem_append.mp hr with hr | hr
        · exact .inr (ci.la r hr)
        · rw [List.mem_singleton.mp hr]; exact .inl rfl
      · show _ = Rs.ok Fl.nx (fc (Av asks) rl k (.own false (.lst (((C ++ [(p, i, i)]).map (upd3 p i)).map r3))) (Gn.map gv) i s6 (c + 1) s8 s9)
        rw [seq_nx (e1 := fc (Av asks) rl k (.own false (.lst ((C ++ [(p, i, i)]).map r3))) (Gn.map gv) i s6 (c + 1) s8 s9) ((sIf_t hin).trans ?_), st9]
        rw [seq_nx lc_7_ok, seq_nx ((sIf_f hfull).trans (by rfl : sNil _ = _)), st8]
end
theorem cached_ok {asks : List Nat} {k : Nat} (rl : Rule) (h : Ask asks) (hk : 1 ≤ k) (hk5 : k ≤ 5) : (m__law_cached [.v (Av asks), .v (vi k), .v (.str rl.s)]).out = .ok (.own (.lst [vi (rn k asks rl asks.length).2.1, .lst ((rn k asks rl asks.length).2.2.map gv)])) := by
  have l40 := h.len
  have key := range_run (t := tgN 5) (b := b__law_cached_2) (lo := 0) (n := asks.length) (e := [.v (Av asks), .v (vi k), .v (.str rl.s), .own false (.lst []), .own false (.lst []), .emp, .emp, .v (vi 0), .emp, .emp, .emp, .emp, .emp])
    (fun i e => i ≤ asks.length ∧ ∃ (C : List Row) (s5 s6 s8 s9 : Slot), Cv s5 ∧ Fr s6 ∧ Fr s8 ∧ Fr s9 ∧ C.map Prod.fst = (rn k asks rl i).1 ∧ CI asks i C ∧ e = [.v (Av asks), .v (vi k), .v (.str rl.s), .own false (.lst (C.map r3)), .own false (.lst ((rn k asks rl i).2.2.map gv)), s5, s6, .v (vi (rn k asks rl i).2.1), s8, s9, .emp, .emp, .emp])
    ⟨by omega, [], .emp, .emp, .emp, .emp, .e, .e, .e, .e, rfl, ⟨by simp, by simp, by simp⟩, rfl⟩ fun i e hi ⟨_, C, s5, s6, s8, s9, c5, f6, f8, f9, eL, ci, he⟩ => by
      subst he
      have hp : asks[i]? = some asks[i] := List.getElem?_eq_getElem hi
      have ep : asks.getD i 0 = asks[i] := by rw [List.getD_eq_getElem?_getD, hp]; rfl
      have er : rn k asks rl (i + 1) = stp k asks rl i (rn k asks rl i) asks[i] := by rw [← ep]; rfl
      have v := rn_iv (r := rl) h hk i (by omega)
      rw [er]
      generalize rn k asks rl i = s at *
      obtain ⟨L, c, Gn⟩ := s
      obtain ⟨C', t6, t8, t9, g6, g8, g9, eL', ci', st⟩ := cached_2 (rl := rl) (c := c) h hk hk5 hp v eL rfl ci f6 f8 f9
      refine ⟨fc (Av asks) rl k (.own false (.lst (C.map r3))) (Gn.map gv) i s6 c s8 s9, _, ?_, .inl st, by omega, C', .v (vi i), t6, t8, t9, .v, g6, g8, g9, eL', ci', rfl⟩
      have p5 := c5.ok
      have z : (0 : Int) + (i : Int) = (i : Int) := by omega
      rw [z]
      simp [fc, p5]
  obtain ⟨e', h5, _, C, s5, s6, s8, s9, c5, f6, f8, f9, eL, ci, he⟩ := key
  subst he
  have r1 : inR (asks.length : Int) = true := inR_of (by omega) (by omega)
  have hl : (asks.map vi).length = asks.length := by simp
  have hz : (rangeV 0 asks.length).length ≤ 16777216 := by rw [rangeV_len]; omega
  clear eL ci
  generalize rn k asks rl asks.length = R at *
  generalize R.2.2.map gv = F at *
  generalize R.2.1 = c at *
  unfold Av at *
  generalize asks.map vi = A at *
  generalize asks.length = n at *
  generalize C.map r3 = M at *
  generalize rl.s = rs at *
  simp only [vi] at *
  have z0 : ((0 : Nat) : Int) = 0 := rfl
  rw [z0] at h5
  simp [m__law_cached, b__law_cached, hl, rng1_int _ r1, h5]
end Z
namespace Z
open PySem (Str)
open PySem
open Pg
/-! ### the drawn asks -/
theorem IsBox.mono {c c' : Int} {x : Val} (h : IsBox c x) (e : c ≤ c') : IsBox c' x := by
  obtain ⟨g, m, n, b, h1, h2, h3, h4, h5⟩ := h
  exact ⟨g, m, n, b, h1, h2, h3, h4, by omega⟩
theorem take_at {c many : Int} {x : Val} (h : IsBox c x) (hc : c ≤ 1000000) (h1 : 1 ≤ many) (h2 : many ≤ 1000000) : ∃ (d : Nat) (y : Val), (d : Int) < many ∧ IsBox (c + 1) y ∧ ∀ rest : Env, callR m__law_take [.bor 0, .v (.int many)] (.own true x :: rest) = .ok (.v (vi d)) (.own true y :: rest) := by
  obtain ⟨d, y, d0, d1, hy, e⟩ := take_ok h hc h1 h2
  refine ⟨d.toNat, y, by omega, hy, fun rest => ?_⟩
  have hd : (d.toNat : Int) = d := by omega
  rw [callR_b1 (p := true) (x := x) (as := [.v (.int many)]) rfl rfl, e]
  simp [hd]
theorem cut_0n {α : Type} (xs : List α) {j : Nat} (h2 : j ≤ xs.length) : cutG xs none (some (j : Int)) = xs.take j := by
  have e : ∀ d, HT.sIx xs.length d (some (j : Int)) = min j xs.length := fun d => HT.sIx_nat ..
  unfold cutG
  rw [e, Nat.min_eq_left h2]
  show (xs.drop 0).take (j - 0) = _
  rfl
/-- box, found, half, k, kinds, many, way -/
def fa (y : Val) (s1 s2 s3 : Slot) (kinds many way : Nat) : Env := [.own true y, s1, s2, s3, .v (vi kinds), .v (vi many), .v (vi way)]
theorem asks_1 {c : Int} {x : Val} (h : IsBox c x) (hc : c ≤ 1000) : ∃ (y : Val) (kinds many way : Nat), IsBox (c + 3) y ∧ 1 ≤ kinds ∧ kinds ≤ 9 ∧ many ≤ 40 ∧ way < 4 ∧ b__law_asks_1 [.own true x, .emp, .emp, .emp, .emp, .emp, .emp] = .ok .nx (fa y .emp .emp .emp kinds many way) := by
  obtain ⟨d1, y1, l1, b1, e1⟩ := take_at (many := 8) h (by omega) (by omega) (by omega)
  have : ∃ m : Nat, Z.atV [Val.int 8, .int 5, .int 12, .int 10, .int 3, .int 14, .int 0, .int 40] (d1 : Int) = some (vi m) ∧ m ≤ 40 := by
    rcases (by omega : d1 = 0 ∨ d1 = 1 ∨ d1 = 2 ∨ d1 = 3 ∨ d1 = 4 ∨ d1 = 5 ∨ d1 = 6 ∨ d1 = 7) with rfl | rfl | rfl | rfl | rfl | rfl | rfl | rfl
    · exact ⟨8, rfl, by omega⟩
    · exact ⟨5, rfl, by omega⟩
    · exact ⟨12, rfl, by omega⟩
    · exact ⟨10, rfl, by omega⟩
    · exact ⟨3, rfl, by omega⟩
    · exact ⟨14, rfl, by omega⟩
    · exact ⟨0, rfl, by omega⟩
    · exact ⟨40, rfl, by omega⟩
  obtain ⟨m, hm, m1⟩ := this
  obtain ⟨d2, y2, l2, b2, e2⟩ := take_at (many := 9) b1 (by omega) (by omega) (by omega)
  obtain ⟨d3, y3, l3, b3, e3⟩ := take_at (many := 4) b2 (by omega) (by omega) (by omega)
  refine ⟨y3, d2 + 1, m, d3, by rw [show c + 3 = c + 1 + 1 + 1 by omega]; exact b3, by omega, by omega, m1, by omega, ?_⟩
  have ez : (1 : Int) + d2 = ((d2 + 1 : Nat) : Int) := by omega
  simp only [vi] at *
  generalize ((d2 + 1 : Nat) : Int) = z at *
  simp [fa, e1, hm, e2, e3, ez]
  omega
/-- way 0 -/
theorem asks_0 {x : Val} {kinds many way : Nat} (hw : way = 0) (h1 : 1 ≤ kinds) (hm : many ≤ 40) : b__law_asks_2 (fa x .emp .emp .emp kinds many way) = .ok (.rt (.v (.tup (((List.range many).map fun k => k % kinds).map vi)))) (fa x .emp .emp .emp kinds many way) := by
  have hc : compL [3] (tgN 3) tYes (eOp fMod (eB fInt (asCons (eV 3) asNil)) (eV 4)) (rangeV 0 many) (fa x .emp .emp .emp kinds many way) = .ok (((List.range many).map fun k => k % kinds).map vi) (fa x .emp .emp .emp kinds many way) := by
    rw [rng_vi, List.map_map]
    refine compL_map vi _ fun k hk => ?_
    have e : fMod (vi k) (vi kinds) = some (.v (vi (k % kinds))) := by
      rw [fMod_ok (by omega)]
      show some (RV.v (Val.int _)) = some (RV.v (Val.int ((k % kinds : Nat) : Int)))
      rw [Int.natCast_emod]
    refine ⟨[.own true x, .emp, .emp, .v (vi k), .v (vi kinds), .v (vi many), .v (vi way)], by simp [fa], by simp, ⟨.v (vi (k % kinds)), ?_, by simp⟩, by simp, by simp [fa]⟩
    generalize k % kinds = z at *
    simp only [vi] at *
    simp [e, -fMod_int]
  have r1 : inR (many : Int) = true := inR_of (by omega) (by omega)
  have hz : (rangeV 0 many).length ≤ 16777216 := by rw [rangeV_len]; omega
  have hz2 : (((List.range many).map fun k => k % kinds).map vi).length ≤ 16777216 := by rw [List.length_map, List.length_map, List.length_range]; omega
  generalize ((List.range many).map fun k => k % kinds).map vi = L at *
  have hwI : (way : Int) = 0 := by omega
  simp only [fa, vi] at *
  have hm' : many ≤ 16777216 := by omega
  rw [hwI] at hc ⊢
  simp [hm', rng1_int _ r1, hz, hc, hz2]
theorem asks_3 {c : Int} {x : Val} {kinds many way : Nat} (h : IsBox c x) (hc : c ≤ 1000) (h1 : 1 ≤ kinds) (h9 : kinds ≤ 9) (hm : many ≤ 40) :
    ∃ (y : Val) (ds : List Nat), IsBox (c + 40) y ∧ ds.length = many ∧ (∀ d ∈ ds, d < 9) ∧ b__law_asks_3 (fa x .emp .emp .emp kinds many way) = .ok .nx (fa y (.own false (.lst (ds.map vi))) .emp .emp kinds many way) := by
  have key : ∃ wl e', compL [3] (tgN 3) tYes (eCall m__law_take (asCons (eV 0) (asCons (eV 4) asNil))) (rangeV 0 many) (fa x .emp .emp .emp kinds many way) = .ok wl e' ∧ ∃ (y : Val) (ds : List Nat), IsBox (c + ((0 + (rangeV 0 many).length : Nat) : Int)) y ∧ ds.length = 0 + (rangeV 0 many).length ∧ (∀ d ∈ ds, d < 9) ∧ [] ++ wl = ds.map vi ∧ e' = fa y .emp .emp .emp kinds many way := by
    refine compL_run (fun n ys e => ∃ (y : Val) (ds : List Nat), IsBox (c + (n : Int)) y ∧ ds.length = n ∧ (∀ d ∈ ds, d < 9) ∧ ys = ds.map vi ∧ e = fa y .emp .emp .emp kinds many way) ⟨x, [], by simpa using h, rfl, (fun _ h => nomatch h), rfl, rfl⟩ fun i v zs e hi ⟨y, ds, hy, hl, hd, hz, he⟩ => ?_
    subst he hz
    obtain ⟨hi2, rfl⟩ := rangeV_at hi
    obtain ⟨d, y2, l, b2, e2⟩ := take_at (many := (kinds : Int)) hy (by omega) (by omega) (by omega)
    refine ⟨[.own true y, .emp, .emp, .v (.int (0 + i)), .v (vi kinds), .v (vi many), .v (vi way)], _, true, by simp [fa], by simp; rfl, (fun z => nomatch z), fun _ => ⟨.v (vi d), [.own true y2, .emp, .emp, .v (.int (0 + i)), .v (vi kinds), .v (vi many), .v (vi way)], vi d, [.own true y2, .emp, .emp, .v (.int (0 + i)), .v (vi kinds), .v (vi many), .v (vi way)], ?_, by simp, by simp, y2, ds ++ [d], ?_, by simp [hl], ?_, by simp, by simp [fa]⟩⟩
    · simp only [vi] at *
      simp [e2]
    · have : c + ((0 + i + 1 : Nat) : Int) = c + ((0 + i : Nat) : Int) + 1 := by omega
      rw [this]; exact b2
    · intro z hz
      rcases List.mem_append.mp hz with q | q
      · exact hd z q
      · have := List.mem_singleton.mp q; omega
  obtain ⟨wl, e', h5, y, ds, hy, hl, hd, hw, he⟩ := key
  subst he
  rw [rangeV_len] at hl hy
  have hw : wl = ds.map vi := hw
  subst hw
  refine ⟨y, ds, hy.mono (by omega), by omega, hd, ?_⟩
  have r1 : inR (many : Int) = true := inR_of (by omega) (by omega)
  have hz : many ≤ 16777216 := by omega
  generalize ds.map vi = L at *
  simp only [fa, vi] at *
  simp [rng1_int _ r1, hz, h5]
theorem asks_4 {c : Int} {x : Val} {kinds many way k : Nat} {ds : List Nat} (h : IsBox c x) (hc : c ≤ 1000) (hk : 1 ≤ k) (hk2 : k < ds.length) (hd : ∀ d ∈ ds, d < 9) :
    ∃ (y : Val) (ls : List Nat), IsBox (c + 1) y ∧ ls.length = ds.length ∧ (∀ d ∈ ls, d < 9) ∧ b__law_asks_4 (fa x (.own false (.lst (ds.map vi))) .emp (.v (vi k)) kinds many way) = .ok .nx (fa y (.own false (.lst (ls.map vi))) .emp (.v (vi k)) kinds many way) := by
  obtain ⟨d, y, l, b, e⟩ := take_at (many := 3) h (by omega) (by omega) (by omega)
  have a1 := atV_vi (l := ds) (k := k) hk2
  have a2 := atV_vi (l := ds) (k := k - 1) (by omega)
  have q : ((k : Int) - 1) = ((k - 1 : Nat) : Int) := by omega
  have m1 : ds.getD k 0 ∈ ds := by rw [List.getD_eq_getElem?_getD, List.getElem?_eq_getElem hk2]; exact List.getElem_mem _
  have m2 : ds.getD (k - 1) 0 ∈ ds := by rw [List.getD_eq_getElem?_getD, List.getElem?_eq_getElem (show k - 1 < ds.length by omega)]; exact List.getElem_mem _
  have fin' : ∀ v, v ∈ ds → (∀ d ∈ ds.set k v, d < 9) := fun v hv z hz => by
    rcases List.mem_or_eq_of_mem_set hz with q | q
    · exact hd z q
    · rw [q]; exact hd v hv
  by_cases c0 : d = 0
  · subst c0
    have hs := setAt_vi (l := ds) (i := k) (m := ds.getD (k - 1) 0) hk2
    refine ⟨y, ds.set k (ds.getD (k - 1) 0), b, by simp, fin' _ m2, ?_⟩
    generalize (ds.set k (ds.getD (k - 1) 0)).map vi = N at *
    generalize ds.getD (k - 1) 0 = g at *
    generalize ds.map vi = M at *
    simp only [fa, vi] at *
    simp [e, q, a2, hs]
  · have hs := setAt_vi (l := ds) (i := k) (m := ds.getD k 0) hk2
    have cI : ¬ (d : Int) = 0 := by omega
    refine ⟨y, ds.set k (ds.getD k 0), b, by simp, fin' _ m1, ?_⟩
    generalize (ds.set k (ds.getD k 0)).map vi = N at *
    generalize ds.getD k 0 = g at *
    generalize ds.map vi = M at *
    simp only [fa, vi] at *
    simp [e, c0, cI, a1, hs]
theorem asks_5 {c : Int} {x : Val} {kinds many way : Nat} {ds : List Nat} (h : IsBox c x) (hc : c ≤ 500) (hm : many ≤ 40) (hl : ds.length = many) (hd : ∀ d ∈ ds, d < 9) :
    ∃ (y : Val) (ls : List Nat) (s3 : Slot), IsBox (c + 40) y ∧ ls.length = many ∧ (∀ d ∈ ls, d < 9) ∧ b__law_asks_5 (fa x (.own false (.lst (ds.map vi))) .emp .emp kinds many way) = .ok .nx (fa y (.own false (.lst (ls.map vi))) .emp s3 kinds many way) := by
  by_cases hw : way = 1
  · have key : ∃ e', forL (tgN 3) b__law_asks_4 (rangeV 1 (many - 1)) (fa x (.own false (.lst (ds.map vi))) .emp .emp kinds many way) = .ok .nx e' ∧ ∃ (y : Val) (ls : List Nat) (s3 : Slot), IsBox (c + ((many - 1 : Nat) : Int)) y ∧ Cv s3 ∧ ls.length = many ∧ (∀ d ∈ ls, d < 9) ∧ e' = fa y (.own false (.lst (ls.map vi))) .emp s3 kinds many way := by
      refine range_run (fun i e => ∃ (y : Val) (ls : List Nat) (s3 : Slot), IsBox (c + (i : Int)) y ∧ Cv s3 ∧ ls.length = many ∧ (∀ d ∈ ls, d < 9) ∧ e = fa y (.own false (.lst (ls.map vi))) .emp s3 kinds many way) ⟨x, ds, .emp, by simpa using h, .e, hl, hd, rfl⟩ fun i e hi ⟨y, ls, s3, hb, c3, hl2, hd2, he⟩ => ?_
      subst he
      obtain ⟨y2, ls2, b2, l2, d2, st⟩ := asks_4 (kinds := kinds) (many := many) (way := way) (k := 1 + i) hb (by omega) (by omega) (by omega) hd2
      have e1 : (1 : Int) + (i : Int) = ((1 + i : Nat) : Int) := by omega
      refine ⟨fa y (.own false (.lst (ls.map vi))) .emp (.v (vi (1 + i))) kinds many way, _, ?_, .inl st, y2, ls2, _, ?_, .v, by omega, d2, rfl⟩
      · have p3 := c3.ok
        rw [e1]
        simp [fa, p3]
      · have : c + ((i + 1 : Nat) : Int) = c + (i : Int) + 1 := by omega
        rw [this]
        exact b2
    obtain ⟨e', h5, y, ls, s3, hb, c3, hl2, hd2, he⟩ := key
    subst he
    refine ⟨y, ls, s3, hb.mono (by omega), hl2, hd2, ?_⟩
    have r1 : inR (1 : Int) = true := inR_of (by omega) (by omega)
    have r2 : inR (many : Int) = true := inR_of (by omega) (by omega)
    have en : ((many : Int) - 1).toNat = many - 1 := by omega
    have hwI : (way : Int) = 1 := by omega
    generalize ds.map vi = M at *
    generalize ls.map vi = N at *
    simp only [fa, vi] at *
    rw [hwI] at h5 ⊢
    simp [rng2_int _ r1 r2, en, h5]
  · refine ⟨x, ds, .emp, h.mono (by omega), hl, hd, ?_⟩
    have hwI : ¬ (way : Int) = 1 := by omega
    simp only [fa, vi] at *
    simp [hw, hwI]
theorem asks_6 {x : Val} {kinds many way : Nat} {s3 : Slot} {ds : List Nat} (hm : many ≤ 40) (hl : ds.length = many) (hd : ∀ d ∈ ds, d < 9) :
    ∃ (ls : List Nat) (s2 : Slot), ls.length = many ∧ (∀ d ∈ ls, d < 9) ∧ b__law_asks_6 (fa x (.own false (.lst (ds.map vi))) .emp s3 kinds many way) = .ok .nx (fa x (.own false (.lst (ls.map vi))) s2 s3 kinds many way) := by
  by_cases hw : way = 2 ∧ 2 < many
  · obtain ⟨hw, hm2⟩ := hw
    have hwI : (way : Int) = 2 := by omega
    have e0 : fDiv (vi many) (.int 2) = some (.v (vi (many / 2))) := by
      rw [fDiv_ok (by omega) (by omega)]
      show some (RV.v (Val.int _)) = some (RV.v (Val.int ((many / 2 : Nat) : Int)))
      rw [Int.natCast_ediv]
      rfl
    have e1 := cut_0n (ds.map vi) (j := many / 2) (by rw [List.length_map]; omega)
    have tl : (ds.take (many / 2)).length = many / 2 := by rw [List.length_take]; omega
    have e2 := cut_0n (ds.map vi ++ (ds.map vi).take (many / 2)) (j := many) (by rw [List.length_append, List.length_map]; omega)
    have e3 := cut_0n ((ds.map vi).take (many / 2) ++ ((ds.map vi).take (many / 2) ++ ds.map vi)) (j := many) (by simp; omega)
    refine ⟨((ds.take (many / 2)) ++ ((ds.take (many / 2)) ++ ds)).take many, .v (vi (many / 2)), ?_, ?_, ?_⟩
    · rw [List.length_take, List.length_append, List.length_append]; omega
    · intro d hd'
      have hd' := List.mem_of_mem_take hd'
      rcases List.mem_append.mp hd' with q | q
      · exact hd d (List.mem_of_mem_take q)
      · rcases List.mem_append.mp q with q | q
        · exact hd d (List.mem_of_mem_take q)
        · exact hd d q
    · have eL : (((ds.take (many / 2)) ++ ((ds.take (many / 2)) ++ ds)).take many).map vi = ((ds.map vi).take (many / 2) ++ ((ds.map vi).take (many / 2) ++ ds.map vi)).take many := by
        simp
      rw [eL]
      have lM : (ds.map vi).length ≤ 40 := by rw [List.length_map]; omega
      have lT : ((ds.map vi).take (many / 2)).length ≤ 40 := by rw [List.length_take]; omega
      generalize (((ds.map vi).take (many / 2) ++ ((ds.map vi).take (many / 2) ++ ds.map vi)).take many) = R at *
      generalize (ds.map vi).take (many / 2) = T at *
      generalize ds.map vi = M at *
      generalize many / 2 = hf at *
      have mI : (2 : Int) < (many : Int) := by omega
      have z1 : T.length + T.length ≤ 16777216 := by omega
      have z2 : T.length + T.length + M.length ≤ 16777216 := by omega
      simp only [fa, vi] at *
      rw [hwI]
      simp [e0, e1, e3, hm2, mI, z1, z2, -fDiv_int]
  · refine ⟨ds, .emp, hl, hd, ?_⟩
    by_cases h2 : way = 2
    · have hm2 : ¬ 2 < many := fun z => hw ⟨h2, z⟩
      have hwI : (way : Int) = 2 := by omega
      have mI : ¬ (2 : Int) < (many : Int) := by omega
      simp only [fa, vi] at *
      rw [hwI]
      simp [mI]
    · have hwI : ¬ (way : Int) = 2 := by omega
      simp only [fa, vi] at *
      simp [h2, hwI]
theorem asks_ok {x : Val} (h : IsBox 0 x) : ∃ (y : Val) (asks : List Nat), IsBox 83 y ∧ Ask asks ∧ m__law_asks [.own x] = .ok (.v (Av asks)) [.own true y] := by
  obtain ⟨y1, kinds, many, way, b1, k1, k9, hm, hw, e1⟩ := asks_1 h (by omega)
  have e : m__law_asks [.own x] = fin 1 (b__law_asks [.own true x, .emp, .emp, .emp, .emp, .emp, .emp]) := rfl
  rw [e]
  unfold b__law_asks
  rw [seq_nx e1]
  by_cases w0 : way = 0
  · have e2 := asks_0 (x := y1) w0 k1 hm
    refine ⟨y1, (List.range many).map fun k => k % kinds, b1.mono (by omega), ⟨by simp; omega, fun p hp => ?_⟩, ?_⟩
    · obtain ⟨k, _, rfl⟩ := List.mem_map.mp hp
      have := Nat.mod_lt k (show 0 < kinds by omega)
      omega
    · rw [sSeq_ap, e2]
      rfl
  · have e2 : b__law_asks_2 (fa y1 .emp .emp .emp kinds many way) = .ok .nx (fa y1 .emp .emp .emp kinds many way) := by
      have hwI : ¬ (way : Int) = 0 := by omega
      simp only [fa, vi] at *
      simp [w0, hwI]
    obtain ⟨y2, ds, b2, l2, d2, e3⟩ := asks_3 (way := way) b1 (by omega) k1 k9 hm
    obtain ⟨y3, ls, s3, b3, l3, d3, e4⟩ := asks_5 (kinds := kinds) (way := way) b2 (by omega) hm l2 d2
    obtain ⟨ns, s2, l4, d4, e5⟩ := asks_6 (x := y3) (kinds := kinds) (way := way) (s3 := s3) hm l3 d3
    refine ⟨y3, ns, b3.mono (by omega), ⟨by omega, d4⟩, ?_⟩
    rw [seq_nx e2, seq_nx e3, seq_nx e4, seq_nx e5]
    have hz : (ns.map vi).length ≤ 16777216 := by rw [List.length_map]; omega
    unfold Av
    generalize ns.map vi = N at *
    simp only [fa, vi] at *
    simp [hz]
end Z
namespace Z
open PySem (Str)
open Pg
/-! ### drawn orders -/
theorem erase_map {α β : Type} (f : α → β) : ∀ (l : List α) (d : Nat), (l.map f).eraseIdx d = (l.eraseIdx d).map f
  | [], _ => rfl
  | _ :: _, 0 => rfl
  | a :: l, d + 1 => by
    show f a :: (l.map f).eraseIdx d = f a :: (l.eraseIdx d).map f
    rw [erase_map f l d]
theorem erase_perm {α : Type} {a : α} : ∀ {l : List α} {d : Nat}, l[d]? = some a → (a :: l.eraseIdx d).Perm l
  | [], _, h => by simp at h
  | b :: l, 0, h => by simp at h; subst h; exact List.Perm.refl _
  | b :: l, d + 1, h => by
    have ih := erase_perm (l := l) (d := d) (by simpa using h)
    show (a :: b :: l.eraseIdx d).Perm (b :: l)
    exact (List.Perm.swap b a _).trans (ih.cons b)
def fmx (y : Val) (n : Nat) (found left : List Nat) : Env := [.own true y, .v (vi n), .own false (.lst (found.map vi)), .own false (.lst (left.map vi))]
theorem mixed_2 {c : Int} {y : Val} {n : Nat} {found left : List Nat} (h : IsBox c y) (hc : c ≤ 100000) (hl : left ≠ []) (hn : left.length ≤ 1000) (hf : found.length ≤ 1000) :
    ∃ (y' : Val) (a d : Nat), IsBox (c + 1) y' ∧ left[d]? = some a ∧ b__law_mixed_2 (fmx y n found left) = .ok .nx (fmx y' n (found ++ [a]) (left.eraseIdx d)) := by
  have lp := List.length_pos_iff.mpr hl
  obtain ⟨d, y2, ld, b2, e2⟩ := take_at (many := (left.length : Int)) h (by omega) (by omega) (by omega)
  have hd : d < left.length := by omega
  refine ⟨y2, left[d], d, b2, List.getElem?_eq_getElem hd, ?_⟩
  have hlen : (left.map vi).length = left.length := by simp
  have hg : (left.map vi)[d]? = some (vi left[d]) := by rw [List.getElem?_map, List.getElem?_eq_getElem hd]; rfl
  have er := erase_map vi left d
  have hF : (found.map vi).length < 16777216 := by rw [List.length_map]; omega
  have eA : (found ++ [left[d]]).map vi = found.map vi ++ [vi left[d]] := by simp
  have b1 : left.length ≤ 16777216 := by omega
  unfold fmx
  rw [eA, ← er]
  generalize left[d] = a at *
  generalize found.map vi = F at *
  generalize hL : left.map vi = L at *
  simp only [vi] at *
  have hdI : (d : Int) < (left.length : Int) := by omega
  have hq : L[d]? = some (.int (a : Int)) := hg
  simp [hlen, e2, hd, b1, hq, hF]
  exact (List.getElem?_eq_some_iff.mp hq).2
theorem mixed_ok {c : Int} {x : Val} {n : Nat} (h : IsBox c x) (hc : c + n ≤ 10000) (hn : n ≤ 1000) :
    ∃ (y : Val) (L : List Nat), IsBox (c + n) y ∧ L.Perm (List.range n) ∧ m__law_mixed [.own x, .v (vi n)] = .ok (.own (.lst (L.map vi))) [.own true y, .v (vi n)] := by
  have main := while_gen (c := tE (eOp fNe (eV 3) (eLst asNil))) (b := b__law_mixed_2)
    (fun res => ∃ (y : Val) (L : List Nat), IsBox (c + n) y ∧ L.Perm (List.range n) ∧ res = .ok .nx (fmx y n L []))
    (fun e => ∃ (y : Val) (found left : List Nat), IsBox (c + found.length) y ∧ (found ++ left).Perm (List.range n) ∧ e = fmx y n found left)
    (fun e => match eget e 3 with | .own _ (.lst xs) => xs.length | _ => 0)
    (by
      rintro e ⟨y, found, left, hb, pm, rfl⟩
      have tot := pm.length_eq
      rw [List.length_append, List.length_range] at tot
      have ne := fNe_vis left
      refine ⟨decide (left ≠ []), fmx y n found left, ?_, fun k => ?_, fun k => .inl ?_⟩
      · generalize decide (left ≠ []) = b at *
        unfold fmx
        generalize left.map vi = L at *
        simp [ne]
      · have hl : left = [] := by
          have := of_decide_eq_false k
          exact Classical.not_not.mp this
        subst hl
        have tot' : found.length = n := by simpa using tot
        refine ⟨y, found, by rw [tot'] at hb; exact hb, by simpa using pm, rfl⟩
      · have hl := of_decide_eq_true k
        obtain ⟨y', a, d, b2, hd, st⟩ := mixed_2 (n := n) (found := found) hb (by omega) hl (by omega) (by omega)
        have dl := (List.getElem?_eq_some_iff.mp hd).1
        refine ⟨_, .inl st, ⟨y', found ++ [a], left.eraseIdx d, ?_, ?_, rfl⟩, ?_⟩
        · rw [List.length_append]
          have : c + ((found.length + [a].length : Nat) : Int) = c + (found.length : Int) + 1 := by simp; omega
          rw [this]
          exact b2
        · rw [List.append_assoc]
          exact ((erase_perm hd).append_left found).trans pm
        · show ((left.eraseIdx d).map vi).length < (left.map vi).length
          rw [List.length_map, List.length_map, List.length_eraseIdx, if_pos dl]
          omega)
    whileFuel (fmx x n [] (List.range n)) ⟨x, [], List.range n, by simpa using h, List.Perm.refl _, rfl⟩ (by
      show ((List.range n).map vi).length < 1099511627776
      rw [List.length_map, List.length_range]
      omega)
  obtain ⟨y, L, hb, pm, hw⟩ := main
  refine ⟨y, L, hb, pm, ?_⟩
  have rg := rng_vi (n := n)
  unfold fmx at hw
  rw [← rg] at hw
  have ok : rgOk 0 (n : Int) = true := rgOk_of (by omega) (by omega) (by omega) (by omega)
  generalize L.map vi = M at *
  simp only [vi, List.map_nil] at *
  simp [m__law_mixed, b__law_mixed, ok, hw]
end Z
namespace Z
open PySem (Str)
open Pg
/-! ### what the law's call says -/
theorem s_aa : subL "InvalidAsks" "InvalidAsks" = some true := by decide +kernel
theorem s_pa : subL "InvalidPlaces" "InvalidAsks" = some false := by decide +kernel
theorem s_pp : subL "InvalidPlaces" "InvalidPlaces" = some true := by decide +kernel
theorem s_ra : subL "InvalidRule" "InvalidAsks" = some false := by decide +kernel
theorem s_rp : subL "InvalidRule" "InvalidPlaces" = some false := by decide +kernel
theorem s_rr : subL "InvalidRule" "InvalidRule" = some true := by decide +kernel
abbrev saidH : List (Str × Nat × S) := [("InvalidAsks", 4, (sRet (eLst (asCons (eC (.str "asks")) (asCons (eExn 4 "InvalidAsks" "given") asNil))))), ("InvalidPlaces", 4, (sRet (eLst (asCons (eC (.str "places")) (asCons (eExn 4 "InvalidPlaces" "given") asNil))))), ("InvalidRule", 4, (sRet (eLst (asCons (eC (.str "rule")) (asCons (eExn 4 "InvalidRule" "given") asNil)))))]
theorem h_asks {a b c d x : Val} : handle subL saidH "InvalidAsks" [("given", x)] [.v a, .v b, .v c, .v d, .emp] = .ok (.rt (.own (.lst [.str "asks", x]))) [.v a, .v b, .v c, .v d, .emp] := by
  unfold saidH
  rw [handle_t s_aa rfl (by simp)]
  simp
theorem h_places {a b c d x : Val} : handle subL saidH "InvalidPlaces" [("given", x)] [.v a, .v b, .v c, .v d, .emp] = .ok (.rt (.own (.lst [.str "places", x]))) [.v a, .v b, .v c, .v d, .emp] := by
  unfold saidH
  rw [handle_f s_pa, handle_t s_pp rfl (by simp)]
  simp
theorem h_rule {a b c d x : Val} : handle subL saidH "InvalidRule" [("given", x)] [.v a, .v b, .v c, .v d, .emp] = .ok (.rt (.own (.lst [.str "rule", x]))) [.v a, .v b, .v c, .v d, .emp] := by
  unfold saidH
  rw [handle_f s_ra, handle_f s_rp, handle_t s_rr rfl (by simp)]
  simp
inductive Says : Out → Val → Prop
  | told (x : Val) : Says (.ok (.v x)) (.lst [.str "told", x])
  | asks (x : Val) : Says (.ex "InvalidAsks" [("given", x)]) (.lst [.str "asks", x])
  | places (x : Val) : Says (.ex "InvalidPlaces" [("given", x)]) (.lst [.str "places", x])
  | rule (x : Val) : Says (.ex "InvalidRule" [("given", x)]) (.lst [.str "rule", x])
abbrev saidB : S := (sSeq (sIf (tE (eOp fLt (eV 0) (eC (.int 2)))) (sRet (eLst (asCons (eC (.str "told")) (asCons (eIf (tE (eOp fEq (eV 0) (eC (.int 0)))) (eCall m_misses (asCons (eV 1) (asCons (eV 2) (asCons (eV 3) asNil)))) (eCallK m_misses [2, 1, 0] (asCons (eV 3) (asCons (eV 2) (asCons (eV 1) asNil))))) asNil)))) sNil)
    (sSeq (sIf (tE (eOp fLt (eV 0) (eC (.int 4)))) (sRet (eLst (asCons (eC (.str "told")) (asCons (eIf (tE (eOp fEq (eV 0) (eC (.int 2)))) (eCall m_evicted (asCons (eV 1) (asCons (eV 2) (asCons (eV 3) asNil)))) (eCallK m_evicted [2, 1, 0] (asCons (eV 3) (asCons (eV 2) (asCons (eV 1) asNil))))) asNil)))) sNil)
    (sRet (eLst (asCons (eC (.str "told")) (asCons (eIf (tE (eOp fEq (eV 0) (eC (.int 4)))) (eCall m_anomaly (asCons (eV 1) (asCons (eV 3) asNil))) (eCallK m_anomaly [1, 0] (asCons (eV 3) (asCons (eV 1) asNil)))) asNil))))))
theorem said_end {o : Out} {r a b c d : Val} (h : Says o r) (hb : saidB [.v a, .v b, .v c, .v d, .emp] = (match o with | .ok (.v x) => .ok (.rt (.own (.lst [.str "told", x]))) [.v a, .v b, .v c, .v d, .emp] | .ex cn fs => .ex cn fs [.v a, .v b, .v c, .v d, .emp] | _ => .no)) : (m__law_said [.v a, .v b, .v c, .v d]).out = .ok (.own r) := by
  have e : m__law_said [.v a, .v b, .v c, .v d] = fin 4 (tryR subL saidH (saidB [.v a, .v b, .v c, .v d, .emp])) := by
    show fin 4 (sTry subL saidB saidH [.v a, .v b, .v c, .v d, .emp]) = _
    rw [sTry_ap]
  rw [e, hb]
  cases h with
  | told x => rfl
  | asks x => rw [tryR_ex, h_asks]; rfl
  | places x => rw [tryR_ex, h_places]; rfl
  | rule x => rw [tryR_ex, h_rule]; rfl
theorem said_misses {a b c r : Val} {way : Int} (hw : way = 0 ∨ way = 1) (h : Says (m_misses [.v a, .v b, .v c]).out r) : (m__law_said [.v (.int way), .v a, .v b, .v c]).out = .ok (.own r) := by
  refine said_end h ?_
  generalize ho : (m_misses [.v a, .v b, .v c]).out = o at h
  rcases hw with rfl | rfl <;> cases h <;> simp [ho]
theorem said_evicted {a b c r : Val} {way : Int} (hw : way = 2 ∨ way = 3) (h : Says (m_evicted [.v a, .v b, .v c]).out r) : (m__law_said [.v (.int way), .v a, .v b, .v c]).out = .ok (.own r) := by
  refine said_end h ?_
  generalize ho : (m_evicted [.v a, .v b, .v c]).out = o at h
  rcases hw with rfl | rfl <;> cases h <;> simp [ho]
theorem said_anomaly {a b c r : Val} {way : Int} (hw : way = 4 ∨ way = 5) (h : Says (m_anomaly [.v a, .v c]).out r) : (m__law_said [.v (.int way), .v a, .v b, .v c]).out = .ok (.own r) := by
  refine said_end h ?_
  generalize ho : (m_anomaly [.v a, .v c]).out = o at h
  rcases hw with rfl | rfl <;> cases h <;> simp [ho]
/-! ### values that are no asks, no places, no rules -/
def BadA (x : Val) : Prop := (m_check_asks [.v x]).out = .ex "InvalidAsks" [("given", x)]
def BadR (x : Val) : Prop := (m_check_rule [.v x]).out = .ex "InvalidRule" [("given", x)]
theorem badA_of {x : Val} (h : plainV x = true) (hx : ∀ xs, x = .tup xs → (∀ y ∈ xs, plainV y = true) ∧ xs.length ≤ 1000) (h2 : askOk x = false) : BadA x := by
  have := check_asks_ok h hx
  rw [h2] at this
  exact this
theorem misses_bada {x y z : Val} (h : BadA x) : (m_misses [.v x, .v y, .v z]).out = .ex "InvalidAsks" [("given", x)] := by
  unfold BadA at h
  have e : (m_check_all [.v x, .v y, .v z]).out = .ex "InvalidAsks" [("given", x)] := by simp [m_check_all, b_check_all, h]
  simp [m_misses, b_misses, e]
theorem evicted_bada {x y z : Val} (h : BadA x) : (m_evicted [.v x, .v y, .v z]).out = .ex "InvalidAsks" [("given", x)] := by
  unfold BadA at h
  have e : (m_check_all [.v x, .v y, .v z]).out = .ex "InvalidAsks" [("given", x)] := by simp [m_check_all, b_check_all, h]
  simp [m_evicted, b_evicted, e]
theorem anomaly_bada {x z : Val} (h : BadA x) : (m_anomaly [.v x, .v z]).out = .ex "InvalidAsks" [("given", x)] := by
  unfold BadA at h
  simp [m_anomaly, b_anomaly, h]
theorem all_badp {asks : List Nat} {y z : Val} (ha : Ask asks) (hy : plainV y = true) (h5 : isI y 1 5 = false) : (m_check_all [.v (Av asks), .v y, .v z]).out = .ex "InvalidPlaces" [("given", y)] := by
  have e1 := asks_in ha
  have e2 := places_ok hy
  rw [h5] at e2
  generalize Av asks = A at *
  simp [m_check_all, b_check_all, e1, e2]
theorem misses_badp {asks : List Nat} {y z : Val} (ha : Ask asks) (hy : plainV y = true) (h5 : isI y 1 5 = false) : (m_misses [.v (Av asks), .v y, .v z]).out = .ex "InvalidPlaces" [("given", y)] := by
  have e := all_badp (z := z) ha hy h5
  generalize Av asks = A at *
  simp [m_misses, b_misses, e]
theorem evicted_badp {asks : List Nat} {y z : Val} (ha : Ask asks) (hy : plainV y = true) (h5 : isI y 1 5 = false) : (m_evicted [.v (Av asks), .v y, .v z]).out = .ex "InvalidPlaces" [("given", y)] := by
  have e := all_badp (z := z) ha hy h5
  generalize Av asks = A at *
  simp [m_evicted, b_evicted, e]
theorem all_badr {asks : List Nat} {z : Val} (ha : Ask asks) (hz : BadR z) : (m_check_all [.v (Av asks), .v (.int 2), .v z]).out = .ex "InvalidRule" [("given", z)] := by
  have e1 := asks_in ha
  have e2 : (m_check_places [.v (.int 2)]).out = .ok (.v .non) := places_in (k := 2) (by omega) (by omega)
  unfold BadR at hz
  generalize Av asks = A at *
  simp [m_check_all, b_check_all, e1, e2, hz]
theorem misses_badr {asks : List Nat} {z : Val} (ha : Ask asks) (hz : BadR z) : (m_misses [.v (Av asks), .v (.int 2), .v z]).out = .ex "InvalidRule" [("given", z)] := by
  have e := all_badr ha hz
  generalize Av asks = A at *
  simp [m_misses, b_misses, e]
theorem evicted_badr {asks : List Nat} {z : Val} (ha : Ask asks) (hz : BadR z) : (m_evicted [.v (Av asks), .v (.int 2), .v z]).out = .ex "InvalidRule" [("given", z)] := by
  have e := all_badr ha hz
  generalize Av asks = A at *
  simp [m_evicted, b_evicted, e]
theorem anomaly_badr {asks : List Nat} {z : Val} (ha : Ask asks) (hz : BadR z) : (m_anomaly [.v (Av asks), .v z]).out = .ex "InvalidRule" [("given", z)] := by
  have e1 := asks_in ha
  unfold BadR at hz
  generalize Av asks = A at *
  simp [m_anomaly, b_anomaly, e1, hz]
theorem ways {way : Int} (h0 : 0 ≤ way) (h5 : way < 6) : (way = 0 ∨ way = 1) ∨ (way = 2 ∨ way = 3) ∨ (way = 4 ∨ way = 5) := by omega
theorem bada_said {x y z : Val} {way : Int} (h : BadA x) (h0 : 0 ≤ way) (h5 : way < 6) : (m__law_said [.v (.int way), .v x, .v y, .v z]).out = .ok (.own (.lst [.str "asks", x])) := by
  rcases ways h0 h5 with hw | hw | hw
  · exact said_misses hw (by rw [misses_bada h]; exact .asks _)
  · exact said_evicted hw (by rw [evicted_bada h]; exact .asks _)
  · exact said_anomaly hw (by rw [anomaly_bada h]; exact .asks _)
theorem badp_said {asks : List Nat} {y z : Val} {way : Int} (ha : Ask asks) (hy : plainV y = true) (hi : isI y 1 5 = false) (h0 : 0 ≤ way) (h5 : way < 4) : (m__law_said [.v (.int way), .v (Av asks), .v y, .v z]).out = .ok (.own (.lst [.str "places", y])) := by
  rcases (by omega : (way = 0 ∨ way = 1) ∨ (way = 2 ∨ way = 3)) with hw | hw
  · exact said_misses hw (by rw [misses_badp ha hy hi]; exact .places _)
  · exact said_evicted hw (by rw [evicted_badp ha hy hi]; exact .places _)
theorem badr_said {asks : List Nat} {z : Val} {way : Int} (ha : Ask asks) (hz : BadR z) (h0 : 0 ≤ way) (h5 : way < 6) : (m__law_said [.v (.int way), .v (Av asks), .v (.int 2), .v z]).out = .ok (.own (.lst [.str "rule", z])) := by
  rcases ways h0 h5 with hw | hw | hw
  · exact said_misses hw (by rw [misses_badr ha hz]; exact .rule _)
  · exact said_evicted hw (by rw [evicted_badr ha hz]; exact .rule _)
  · exact said_anomaly hw (by rw [anomaly_badr ha hz]; exact .rule _)
/-! ### what is good -/
abbrev tag (s : Str) (x : Val) : Val := .lst [.str s, x]
theorem good_tag {s : Str} {x : Val} (hs : good 5 (.str s) = true) (h : good 5 x = true) : good 6 (tag s x) = true := by
  show (decide (_ ≤ 1000000) && (List.all _ (good 5))) = true
  simp [hs, h]
theorem good_two {x : Val} (h : good 6 x = true) : good 7 (.lst [x, x]) = true := by
  show (decide (_ ≤ 1000000) && (List.all _ (good 6))) = true
  simp [h]
theorem good_three {x : Val} (h : good 6 x = true) : good 7 (.lst [x, x, x]) = true := by
  show (decide (_ ≤ 1000000) && (List.all _ (good 6))) = true
  simp [h]
theorem good_told : good 5 (.str "told") = true := by decide +kernel
theorem good_asks : good 5 (.str "asks") = true := by decide +kernel
theorem good_places : good 5 (.str "places") = true := by decide +kernel
theorem good_rule : good 5 (.str "rule") = true := by decide +kernel
theorem good_vi (n k : Nat) : good n (vi k) = true := by cases n <;> rfl
/-! ### values that are no asks -/
def oddA : List Val := [.non, .int 5, .str "01", .lst [.int 0, .int 1], .tup [.int 9], .tup [.int (-1)], .tup [.int 0, .bl true], .tup [.int 0, .non], .tup [.tup [.int 0]], .dic [], .bl true, .tup (List.replicate 41 (.int 0)), .tup [.int 1, .str "2"]]
theorem t41 : fMulT (.tup [.int 0]) (.int 41) = some (.v (.tup (List.replicate 41 (.int 0)))) := by rfl
theorem odd_ok : (m__law_odd_asks []).out = .ok (.own (.lst oddA)) := by
  unfold oddA
  generalize hr : List.replicate 41 (Val.int 0) = r
  have := t41
  rw [hr] at this
  simp [m__law_odd_asks, b__law_odd_asks, this]
theorem good_01 : good 5 (.str "01") = true := by decide +kernel
theorem good_12 : good 5 (.tup [.int 1, .str "2"]) = true := by decide +kernel
theorem oddA_ok {i : Nat} {v : Val} (h : oddA[i]? = some v) : BadA v ∧ good 5 v = true := by
  have := List.mem_of_getElem? h
  unfold oddA at this
  simp only [List.mem_cons, List.not_mem_nil, or_false] at this
  rcases this with rfl | rfl | rfl | rfl | rfl | rfl | rfl | rfl | rfl | rfl | rfl | rfl | rfl
  · exact ⟨badA_of rfl (fun _ e => nomatch e) rfl, rfl⟩
  · exact ⟨badA_of rfl (fun _ e => nomatch e) rfl, rfl⟩
  · exact ⟨badA_of rfl (fun _ e => nomatch e) rfl, good_01⟩
  · exact ⟨badA_of rfl (fun _ e => nomatch e) rfl, rfl⟩
  · exact ⟨badA_of rfl (fun xs e => by cases e; exact ⟨by simp [plainV], by simp⟩) (by simp [askOk, isI]), rfl⟩
  · exact ⟨badA_of rfl (fun xs e => by cases e; exact ⟨by simp [plainV], by simp⟩) (by simp [askOk, isI]), rfl⟩
  · exact ⟨badA_of rfl (fun xs e => by cases e; exact ⟨by simp [plainV], by simp⟩) (by simp [askOk, isI]), rfl⟩
  · exact ⟨badA_of rfl (fun xs e => by cases e; exact ⟨by simp [plainV], by simp⟩) (by simp [askOk, isI]), rfl⟩
  · exact ⟨badA_of rfl (fun xs e => by cases e; exact ⟨by simp [plainV], by simp⟩) (by simp [askOk, isI]), rfl⟩
  · exact ⟨badA_of rfl (fun _ e => nomatch e) rfl, rfl⟩
  · exact ⟨badA_of rfl (fun _ e => nomatch e) rfl, rfl⟩
  · refine ⟨badA_of rfl (fun xs e => by cases e; exact ⟨fun y hy => by rw [List.eq_of_mem_replicate hy]; rfl, by simp⟩) ?_, ?_⟩
    · have h0 : ∀ b : Bool, (decide ((List.replicate 41 (Val.int 0)).length ≤ 40) && b) = false := fun b => by rw [decide_eq_false (by simp), Bool.false_and]
      exact h0 ((List.replicate 41 (Val.int 0)).all fun x => isI x 0 8)
    · show (decide (_ ≤ 1000000) && (List.all _ (good 4))) = true
      rw [Bool.and_eq_true, decide_eq_true_eq]
      refine ⟨by simp, ?_⟩
      rw [List.all_eq_true]
      intro x hx
      rw [List.eq_of_mem_replicate hx]
      rfl
  · exact ⟨badA_of rfl (fun xs e => by cases e; exact ⟨by simp [plainV], by simp⟩) (by simp [askOk, isI]), good_12⟩
def badP : List Val := [.int 0, .int 6, .int (-1), .bl true, .non, .str "2", .tup [.int 2], .int 100000000000000000000000000000]
theorem good_2 : good 5 (.str "2") = true := by decide +kernel
theorem good_t : good 5 (.tup [.int 2]) = true := by decide +kernel
theorem badP_ok {i : Nat} {v : Val} (h : badP[i]? = some v) : plainV v = true ∧ good 5 v = true ∧ isI v 1 5 = false := by
  have := List.mem_of_getElem? h
  unfold badP at this
  simp only [List.mem_cons, List.not_mem_nil, or_false] at this
  rcases this with rfl | rfl | rfl | rfl | rfl | rfl | rfl | rfl <;> first | exact ⟨rfl, rfl, rfl⟩ | exact ⟨rfl, good_2, rfl⟩ | exact ⟨rfl, good_t, rfl⟩ | exact ⟨rfl, rfl, by simp [isI]⟩
theorem big29 : fPow (.int 10) (.int 29) = some (.v (.int 100000000000000000000000000000)) := by
  rw [fPow_ok (by omega) (by omega) (by omega) (by omega)]
  rfl
theorem badR_str {s : Str} (h : (isFlat (.str s) && [Val.str "oldest", .str "unused", .str "last", .str "farthest"].all isFlat) = true ∧ ([Val.str "oldest", .str "unused", .str "last", .str "farthest"].any fun y => veq y (.str s)) = false) : BadR (.str s) := by
  have e : fNotIn (.str s) (.tup [.str "oldest", .str "unused", .str "last", .str "farthest"]) = some (.v (.bl true)) := by
    obtain ⟨k1, k2⟩ := h
    show (if (isFlat (.str s) && [Val.str "oldest", .str "unused", .str "last", .str "farthest"].all isFlat) = true then some (RV.v (.bl (![Val.str "oldest", .str "unused", .str "last", .str "farthest"].any fun y => veq y (.str s)))) else none) = _
    rw [if_pos k1, k2]
    rfl
  unfold BadR
  simp [m_check_rule, b_check_rule, e]
def badR : List Val := [.non, .int 5, .str "Last", .str "", .str "newest", .lst [.str "last"], .bl true, .dic [], .tup [.str "last"]]
theorem gR1 : good 5 (.str "Last") = true := by decide +kernel
theorem gR2 : good 5 (.str "") = true := by decide +kernel
theorem gR3 : good 5 (.str "newest") = true := by decide +kernel
theorem gR4 : good 5 (.lst [.str "last"]) = true := by decide +kernel
theorem gR5 : good 5 (.tup [.str "last"]) = true := by decide +kernel
theorem badR_ok {i : Nat} {v : Val} (h : badR[i]? = some v) : BadR v ∧ good 5 v = true := by
  have := List.mem_of_getElem? h
  unfold badR at this
  simp only [List.mem_cons, List.not_mem_nil, or_false] at this
  rcases this with rfl | rfl | rfl | rfl | rfl | rfl | rfl | rfl | rfl
  · exact ⟨by simp [BadR, m_check_rule, b_check_rule], rfl⟩
  · exact ⟨by simp [BadR, m_check_rule, b_check_rule], rfl⟩
  · exact ⟨badR_str ⟨by decide +kernel, by decide +kernel⟩, gR1⟩
  · exact ⟨badR_str ⟨by decide +kernel, by decide +kernel⟩, gR2⟩
  · exact ⟨badR_str ⟨by decide +kernel, by decide +kernel⟩, gR3⟩
  · exact ⟨by simp [BadR, m_check_rule, b_check_rule], gR4⟩
  · exact ⟨by simp [BadR, m_check_rule, b_check_rule], rfl⟩
  · exact ⟨by simp [BadR, m_check_rule, b_check_rule], rfl⟩
  · exact ⟨by simp [BadR, m_check_rule, b_check_rule], gR5⟩
end Z
namespace Z
open PySem (Str)
open Pg
/-! ### what is refused -/
/-- box, asks, told, value, k -/
def fF (x A : Val) (s2 s3 : Slot) : Env := [.own true x, .v A, s2, s3, .emp]
theorem same_bo {y : Val} {e : Env} {i : Nat} (g : good 7 y = true) (he : eget e i = .own false y) : callR (m__law_same 8) [.bor i, .own y] e = .ok (.v (.bl true)) (eput e i (.own false y)) := by
  rw [callR_b1 (p := false) (x := y) (as := [.own y]) he rfl, same_full g]
  rfl
theorem rg3 : rangeV 0 3 = [.int 0, .int 1, .int 2] := rfl
theorem m20 : fMul (.int 2) (.int 0) = some (.v (.int 0)) := fMul_ok (by omega) (by omega) (by omega) (by omega)
theorem m21 : fMul (.int 2) (.int 1) = some (.v (.int 2)) := fMul_ok (by omega) (by omega) (by omega) (by omega)
theorem m22 : fMul (.int 2) (.int 2) = some (.v (.int 4)) := fMul_ok (by omega) (by omega) (by omega) (by omega)
section
variable {x : Val} {asks : List Nat} {s2 s3 : Slot}
theorem pick2 (a b : Val) {d : Nat} (h : (d : Int) < 2) : ∃ u, Z.atV [a, b] (d : Int) = some u := by
  rcases (by omega : d = 0 ∨ d = 1) with rfl | rfl
  · exact ⟨_, rfl⟩
  · exact ⟨_, rfl⟩
theorem refused_1 {c : Int} {A v : Val} (h : IsBox c x) (hc : c ≤ 5000) (hb : BadA v) (hg : good 5 v = true) (f2 : Fr s2) :
    ∃ y, IsBox (c + 6) y ∧ b__law_refused_1 (fF x A s2 (.v v)) = .ok .nx (fF y A (.own false (.lst [tag "asks" v, tag "asks" v, tag "asks" v])) (.v v)) := by
  obtain ⟨d1, y1, l1, b1, e1⟩ := take_at (many := 2) h (by omega) (by omega) (by omega)
  obtain ⟨d2, y2, l2, b2, e2⟩ := take_at (many := 2) b1 (by omega) (by omega) (by omega)
  obtain ⟨d3, y3, l3, b3, e3⟩ := take_at (many := 2) b2 (by omega) (by omega) (by omega)
  obtain ⟨d4, y4, l4, b4, e4⟩ := take_at (many := 2) b3 (by omega) (by omega) (by omega)
  obtain ⟨d5, y5, l5, b5, e5⟩ := take_at (many := 2) b4 (by omega) (by omega) (by omega)
  obtain ⟨d6, y6, l6, b6, e6⟩ := take_at (many := 2) b5 (by omega) (by omega) (by omega)
  obtain ⟨u1, hu1⟩ := pick2 (.int 2) .non l2
  obtain ⟨u2, hu2⟩ := pick2 (.int 2) .non l4
  obtain ⟨u3, hu3⟩ := pick2 (.int 2) .non l6
  have q1 := bada_said (y := u1) (z := .non) (way := (d1 : Int)) hb (by omega) (by omega)
  have q2 := bada_said (y := u2) (z := .non) (way := 2 + (d3 : Int)) hb (by omega) (by omega)
  have q3 := bada_said (y := u3) (z := .non) (way := 4 + (d5 : Int)) hb (by omega) (by omega)
  have p2 := f2.ok
  have es := same_bo (e := fF y6 A (.own false (.lst [tag "asks" v, tag "asks" v, tag "asks" v])) (.v v)) (i := 2) (good_three (good_tag good_asks hg)) rfl
  have r3 : inR (3 : Int) = true := inR_of (by omega) (by omega)
  refine ⟨y6, by rw [show c + 6 = c + 1 + 1 + 1 + 1 + 1 + 1 by omega]; exact b6, ?_⟩
  simp only [fF, vi, tag] at *
  simp at es
  simp [rng1_int _ r3, rg3, compL, m20, m21, m22, e1, e2, e3, e4, e5, e6, hu1, hu2, hu3, q1, q2, q3, p2, es, -fMul_int]
theorem refused_2 {c : Int} {A : Val} (h : IsBox c x) (hc : c ≤ 1000) : ∃ y t2 t3, IsBox (c + 78) y ∧ Fr t2 ∧ Cv t3 ∧ b__law_refused_2 (fF x A .emp .emp) = .ok .nx (fF y A t2 t3) := by
  have key : ∃ e', forL (tgN 3) b__law_refused_1 oddA (fF x A .emp .emp) = .ok .nx e' ∧ ∃ y t2 t3, IsBox (c + 6 * (oddA.length : Int)) y ∧ Fr t2 ∧ Cv t3 ∧ e' = fF y A t2 t3 := by
    refine for_run (fun i e => ∃ y t2 t3, IsBox (c + 6 * (i : Int)) y ∧ Fr t2 ∧ Cv t3 ∧ e = fF y A t2 t3) ⟨x, .emp, .emp, by simpa using h, .e, .e, rfl⟩ fun i v e hi ⟨y, t2, t3, hb, f2, f3, he⟩ => ?_
    subst he
    have hi8 : i < 13 := by
      have := (List.getElem?_eq_some_iff.mp hi).1
      simpa [oddA] using this
    obtain ⟨hv, hg⟩ := oddA_ok hi
    obtain ⟨y2, b2, e2⟩ := refused_1 (A := A) hb (by omega) hv hg f2
    have p3 := f3.ok
    refine ⟨fF y A t2 (.v v), _, by simp [fF, p3], .inl e2, y2, _, _, ?_, .o, .v, rfl⟩
    have : c + 6 * ((i + 1 : Nat) : Int) = c + 6 * (i : Int) + 6 := by omega
    rw [this]
    exact b2
  obtain ⟨e', h5, y, t2, t3, hb, f2, f3, he⟩ := key
  subst he
  refine ⟨y, t2, t3, ?_, f2, f3, ?_⟩
  · have : (oddA.length : Int) = 13 := by simp [oddA]
    rw [this] at hb
    exact hb
  · have ho := odd_ok
    generalize oddA = O at *
    simp only [fF] at *
    simp [b__law_refused_2, ho, h5]
theorem refused_3 {c : Int} {v : Val} (h : IsBox c x) (hc : c ≤ 5000) (ha : Ask asks) (hv : plainV v = true) (hi : isI v 1 5 = false) (hg : good 5 v = true) (f2 : Fr s2) :
    ∃ y, IsBox (c + 3) y ∧ b__law_refused_3 (fF x (Av asks) s2 (.v v)) = .ok .nx (fF y (Av asks) (.own false (.lst [tag "places" v, tag "places" v])) (.v v)) := by
  obtain ⟨d1, y1, l1, b1, e1⟩ := take_at (many := 2) h (by omega) (by omega) (by omega)
  obtain ⟨d2, y2, l2, b2, e2⟩ := take_at (many := 2) b1 (by omega) (by omega) (by omega)
  obtain ⟨d3, y3, l3, b3, e3⟩ := take_at (many := 2) b2 (by omega) (by omega) (by omega)
  obtain ⟨u1, hu1⟩ := pick2 (.str "last") .non l2
  have q1 := badp_said (z := u1) (way := (d1 : Int)) ha hv hi (by omega) (by omega)
  have q2 := badp_said (z := .non) (way := 2 + (d3 : Int)) ha hv hi (by omega) (by omega)
  have p2 := f2.ok
  have es := same_bo (e := fF y3 (Av asks) (.own false (.lst [tag "places" v, tag "places" v])) (.v v)) (i := 2) (good_two (good_tag good_places hg)) rfl
  refine ⟨y3, by rw [show c + 3 = c + 1 + 1 + 1 by omega]; exact b3, ?_⟩
  generalize Av asks = A at *
  simp only [fF, vi, tag] at *
  simp at es
  simp [e1, e2, e3, hu1, q1, q2, p2, es]
theorem refused_4 {c : Int} (h : IsBox c x) (hc : c ≤ 1000) (ha : Ask asks) (f2 : Fr s2) (f3 : Cv s3) : ∃ y t2 t3, IsBox (c + 24) y ∧ Fr t2 ∧ Cv t3 ∧ b__law_refused_4 (fF x (Av asks) s2 s3) = .ok .nx (fF y (Av asks) t2 t3) := by
  have key : ∃ e', forL (tgN 3) b__law_refused_3 badP (fF x (Av asks) s2 s3) = .ok .nx e' ∧ ∃ y t2 t3, IsBox (c + 3 * (badP.length : Int)) y ∧ Fr t2 ∧ Cv t3 ∧ e' = fF y (Av asks) t2 t3 := by
    refine for_run (fun i e => ∃ y t2 t3, IsBox (c + 3 * (i : Int)) y ∧ Fr t2 ∧ Cv t3 ∧ e = fF y (Av asks) t2 t3) ⟨x, s2, s3, by simpa using h, f2, f3, rfl⟩ fun i v e hi ⟨y, t2, t3, hb, f2, f3, he⟩ => ?_
    subst he
    have hi8 : i < 8 := by
      have := (List.getElem?_eq_some_iff.mp hi).1
      simpa [badP] using this
    obtain ⟨hv, hg, h4⟩ := badP_ok hi
    obtain ⟨y2, b2, e2⟩ := refused_3 hb (by omega) ha hv h4 hg f2
    have p3 := f3.ok
    refine ⟨fF y (Av asks) t2 (.v v), _, by simp [fF, p3], .inl e2, y2, _, _, ?_, .o, .v, rfl⟩
    have : c + 3 * ((i + 1 : Nat) : Int) = c + 3 * (i : Int) + 3 := by omega
    rw [this]
    exact b2
  obtain ⟨e', h5, y, t2, t3, hb, f2, f3, he⟩ := key
  subst he
  refine ⟨y, t2, t3, ?_, f2, f3, ?_⟩
  · have : (badP.length : Int) = 8 := by simp [badP]
    rw [this] at hb
    exact hb
  · unfold badP at h5
    generalize Av asks = A at *
    simp only [fF] at h5 ⊢
    simp [b__law_refused_4, big29, h5]
theorem refused_5 {c : Int} {v : Val} (h : IsBox c x) (hc : c ≤ 5000) (ha : Ask asks) (hb : BadR v) (hg : good 5 v = true) (f2 : Fr s2) :
    ∃ y, IsBox (c + 3) y ∧ b__law_refused_5 (fF x (Av asks) s2 (.v v)) = .ok .nx (fF y (Av asks) (.own false (.lst [tag "rule" v, tag "rule" v, tag "rule" v])) (.v v)) := by
  obtain ⟨d1, y1, l1, b1, e1⟩ := take_at (many := 2) h (by omega) (by omega) (by omega)
  obtain ⟨d2, y2, l2, b2, e2⟩ := take_at (many := 2) b1 (by omega) (by omega) (by omega)
  obtain ⟨d3, y3, l3, b3, e3⟩ := take_at (many := 2) b2 (by omega) (by omega) (by omega)
  have q1 := badr_said (way := (d1 : Int)) ha hb (by omega) (by omega)
  have q2 := badr_said (way := 2 + (d2 : Int)) ha hb (by omega) (by omega)
  have q3 := badr_said (way := 4 + (d3 : Int)) ha hb (by omega) (by omega)
  have p2 := f2.ok
  have es := same_bo (e := fF y3 (Av asks) (.own false (.lst [tag "rule" v, tag "rule" v, tag "rule" v])) (.v v)) (i := 2) (good_three (good_tag good_rule hg)) rfl
  have r3 : inR (3 : Int) = true := inR_of (by omega) (by omega)
  refine ⟨y3, by rw [show c + 3 = c + 1 + 1 + 1 by omega]; exact b3, ?_⟩
  generalize Av asks = A at *
  simp only [fF, vi, tag] at *
  simp at es
  simp [rng1_int _ r3, rg3, compL, m20, m21, m22, e1, e2, e3, q1, q2, q3, p2, es, -fMul_int]
theorem refused_6 {c : Int} (h : IsBox c x) (hc : c ≤ 1000) (ha : Ask asks) (f2 : Fr s2) (f3 : Cv s3) : ∃ y t2 t3, b__law_refused_6 (fF x (Av asks) s2 s3) = .ok .nx (fF y (Av asks) t2 t3) := by
  have key : ∃ e', forL (tgN 3) b__law_refused_5 badR (fF x (Av asks) s2 s3) = .ok .nx e' ∧ ∃ y t2 t3, IsBox (c + 3 * (badR.length : Int)) y ∧ Fr t2 ∧ Cv t3 ∧ e' = fF y (Av asks) t2 t3 := by
    refine for_run (fun i e => ∃ y t2 t3, IsBox (c + 3 * (i : Int)) y ∧ Fr t2 ∧ Cv t3 ∧ e = fF y (Av asks) t2 t3) ⟨x, s2, s3, by simpa using h, f2, f3, rfl⟩ fun i v e hi ⟨y, t2, t3, hb, f2, f3, he⟩ => ?_
    subst he
    have hi8 : i < 9 := by
      have := (List.getElem?_eq_some_iff.mp hi).1
      simpa [badR] using this
    obtain ⟨hv, hg⟩ := badR_ok hi
    obtain ⟨y2, b2, e2⟩ := refused_5 hb (by omega) ha hv hg f2
    have p3 := f3.ok
    refine ⟨fF y (Av asks) t2 (.v v), _, by simp [fF, p3], .inl e2, y2, _, _, ?_, .o, .v, rfl⟩
    have : c + 3 * ((i + 1 : Nat) : Int) = c + 3 * (i : Int) + 3 := by omega
    rw [this]
    exact b2
  obtain ⟨e', h5, y, t2, t3, hb, f2, f3, he⟩ := key
  subst he
  refine ⟨y, t2, t3, ?_⟩
  unfold badR at h5
  generalize Av asks = A at *
  simp only [fF] at h5 ⊢
  simp [b__law_refused_6, h5]
end
theorem refused_ok {c : Int} {x : Val} {asks : List Nat} (h : IsBox c x) (hc : c ≤ 500) (ha : Ask asks) : ∃ y, m__law_refused [.own x, .v (Av asks)] = .ok (.v (.bl true)) [.own true y, .v (Av asks)] := by
  obtain ⟨y1, t2, t3, b1, f2, f3, e1⟩ := refused_2 (A := Av asks) h (by omega)
  obtain ⟨y2, u2, u3, b2, g2, g3, e2⟩ := refused_4 b1 (by omega) ha f2 f3
  obtain ⟨y3, w2, w3, e3⟩ := refused_6 b2 (by omega) ha g2 g3
  refine ⟨y3, ?_⟩
  have e : m__law_refused [.own x, .v (Av asks)] = fin 2 (b__law_refused (fF x (Av asks) .emp .emp)) := rfl
  rw [e]
  unfold b__law_refused
  rw [seq_nx e1, seq_nx e2, seq_nx e3]
  rfl
end Z
namespace Z
open PySem (Str)
open Pg
/-! ### the least number of places with fewer misses -/
noncomputable def cnt (asks : List Nat) (r : Rule) (k : Nat) : Nat := (rn k asks r asks.length).2.1
def wl (f : Nat → Nat) : List Nat := ((List.range 4).filter fun p => decide (f (p + 1) < f (p + 2))).map fun p => p + 1
def wv (f : Nat → Nat) : Val := match wl f with
  | [] => .non
  | a :: _ => vi a
def five (f : Nat → Nat) : List Nat := (List.range 5).map fun k => f (k + 1)
theorem five_at (f : Nat → Nat) {i : Nat} (h : i < 5) : (five f).getD i 0 = f (i + 1) := by
  unfold five
  rw [List.getD_eq_getElem?_getD, List.getElem?_map, List.getElem?_range h]
  rfl
theorem anomaly_ok {asks : List Nat} (r : Rule) (h : Ask asks) : (m_anomaly [.v (Av asks), .v (.str r.s)]).out = .ok (.v (wv (cnt asks r))) := by
  have e1 := asks_in h
  have e2 := rule_in r
  have c1 : compL [4] (tgN 4) tYes (eOp fIx (eCall m_played (asCons (eV 0) (asCons (eV 4) (asCons (eV 1) asNil)))) (eC (.int 0))) (rangeV 1 5) [.v (Av asks), .v (.str r.s), .emp, .emp, .emp, .emp] = .ok ((five (cnt asks r)).map vi) [.v (Av asks), .v (.str r.s), .emp, .emp, .emp, .emp] := by
    unfold five
    rw [rng_map, List.map_map]
    refine compL_map _ _ fun k hk => ?_
    have hk := List.mem_range.mp hk
    have e := played_ok (k := k + 1) r h (by omega) (by omega)
    have z : (1 : Int) + (k : Int) = ((k + 1 : Nat) : Int) := by omega
    rw [z]
    refine ⟨[.v (Av asks), .v (.str r.s), .emp, .emp, .v (vi (k + 1)), .emp], by simp, by simp, ⟨.v (vi (cnt asks r (k + 1))), ?_, by simp⟩, by simp, by simp⟩
    unfold cnt
    generalize rn (k + 1) asks r asks.length = R at *
    generalize R.2.2.map gv = F at *
    generalize R.2.1 = c at *
    generalize Av asks = A at *
    simp only [vi] at *
    generalize ((k + 1 : Nat) : Int) = kk at *
    simp [e]
  have c2 : compL [5] (tgN 5) (tE (eOp fLt (eOp fIx (eV 2) (eV 5)) (eOp fIx (eV 2) (eOp fAdd (eV 5) (eC (.int 1)))))) (eOp fAdd (eV 5) (eC (.int 1))) (rangeV 0 4) [.v (Av asks), .v (.str r.s), .own false (.lst ((five (cnt asks r)).map vi)), .emp, .emp, .emp] = .ok ((wl (cnt asks r)).map vi) [.v (Av asks), .v (.str r.s), .own false (.lst ((five (cnt asks r)).map vi)), .emp, .emp, .emp] := by
    unfold wl
    rw [rng_vi, List.map_map]
    refine compL_mapf vi (fun p => decide (cnt asks r (p + 1) < cnt asks r (p + 2))) (vi ∘ fun p => p + 1) fun p hp => ?_
    have hp := List.mem_range.mp hp
    have l5 : (five (cnt asks r)).length = 5 := by simp [five]
    have a0 := atV_vi (l := five (cnt asks r)) (k := p) (by omega)
    have a1 := atV_vi (l := five (cnt asks r)) (k := p + 1) (by omega)
    rw [five_at _ (by omega)] at a0 a1
    have z : (p : Int) + 1 = ((p + 1 : Nat) : Int) := by omega
    refine ⟨[.v (Av asks), .v (.str r.s), .own false (.lst ((five (cnt asks r)).map vi)), .emp, .emp, .v (vi p)], by simp, ?_, fun _ => ⟨.v (vi (p + 1)), by simp, by simp⟩, by simp, by simp⟩
    generalize cnt asks r (p + 1) = u at *
    generalize cnt asks r (p + 1 + 1) = w at *
    generalize (five (cnt asks r)).map vi = L at *
    simp only [vi] at *
    generalize ((p + 1 : Nat) : Int) = pp at *
    simp [z, a0, a1]
  have r1 : inR (1 : Int) = true := inR_of (by omega) (by omega)
  have r6 : inR (6 : Int) = true := inR_of (by omega) (by omega)
  have r4 : inR (4 : Int) = true := inR_of (by omega) (by omega)
  have q := fNe_vis (wl (cnt asks r))
  have hw : wv (cnt asks r) = match wl (cnt asks r) with | [] => .non | a :: _ => vi a := rfl
  rw [hw]
  generalize wl (cnt asks r) = W at *
  generalize (five (cnt asks r)).map vi = L at *
  generalize Av asks = A at *
  generalize r.s = rs at *
  cases W with
  | nil =>
    simp only [List.map_nil, vi] at *
    simp [m_anomaly, b_anomaly, e1, e2, rng2_int _ r1 r6, rng1_int _ r4, c1, c2, q]
  | cons a W =>
    simp only [List.map_cons] at *
    generalize W.map vi = V at *
    simp only [vi] at *
    simp [m_anomaly, b_anomaly, e1, e2, rng2_int _ r1 r6, rng1_int _ r4, c1, c2, q]
/-! ### renamed pages -/
def stf (k i : Nat) (s : St3) (p : Nat) : St3 := if p ∈ s.1 then s else if s.1.length = k then ((s.1.filter fun x => x != s.1.headD 0) ++ [p], s.2.1 + 1, s.2.2 ++ [(i, s.1.headD 0)]) else (s.1 ++ [p], s.2.1 + 1, s.2.2)
def rf (k : Nat) (asks : List Nat) : Nat → St3
  | 0 => ([], 0, [])
  | i + 1 => stf k i (rf k asks i) (asks.getD i 0)
theorem rn_old {k : Nat} {asks : List Nat} (hk : 1 ≤ k) : ∀ i, rn k asks .oldest i = rf k asks i
  | 0 => rfl
  | i + 1 => by
    show stp k asks .oldest i (rn k asks .oldest i) (asks.getD i 0) = stf k i (rf k asks i) (asks.getD i 0)
    rw [rn_old hk i]
    generalize rf k asks i = s
    generalize asks.getD i 0 = p
    unfold stp stf
    by_cases hin : p ∈ s.1
    · rw [if_pos hin, if_pos hin]
    · rw [if_neg hin, if_neg hin]
      by_cases full : s.1.length = k
      · have hs : sel asks .oldest i s.1 = s.1.headD 0 := by
          obtain ⟨L, c, G⟩ := s
          cases L with
          | nil => simp at full; omega
          | cons a L => exact sel_of (show Sel asks .oldest i (a :: L) a from rfl)
        rw [if_pos full, if_pos full, hs]
      · rw [if_neg full, if_neg full]
theorem rf_map {k : Nat} {asks : List Nat} (hk : 1 ≤ k) (φ : Nat → Nat) (inj : ∀ a b, φ a = φ b → a = b) : ∀ i, i ≤ asks.length → (rf k (asks.map φ) i).1 = (rf k asks i).1.map φ ∧ (rf k (asks.map φ) i).2.1 = (rf k asks i).2.1
  | 0, _ => ⟨rfl, rfl⟩
  | i + 1, hi => by
    obtain ⟨h1, h2⟩ := rf_map (asks := asks) hk φ inj i (by omega)
    have hp : (asks.map φ).getD i 0 = φ (asks.getD i 0) := by
      rw [List.getD_eq_getElem?_getD, List.getD_eq_getElem?_getD, List.getElem?_map, List.getElem?_eq_getElem (show i < asks.length by omega)]
      rfl
    show (stf k i (rf k (asks.map φ) i) ((asks.map φ).getD i 0)).1 = (stf k i (rf k asks i) (asks.getD i 0)).1.map φ ∧ (stf k i (rf k (asks.map φ) i) ((asks.map φ).getD i 0)).2.1 = (stf k i (rf k asks i) (asks.getD i 0)).2.1
    rw [hp]
    generalize rf k (asks.map φ) i = s' at *
    generalize rf k asks i = s at *
    generalize asks.getD i 0 = p
    obtain ⟨L', c', G'⟩ := s'
    obtain ⟨L, c, G⟩ := s
    have h1 : L' = L.map φ := h1
    have h2 : c' = c := h2
    subst h1
    subst h2
    have hm : φ p ∈ L.map φ ↔ p ∈ L := ⟨fun h => by
      obtain ⟨q, hq, e⟩ := List.mem_map.mp h
      rw [← inj _ _ e]; exact hq, fun h => List.mem_map.mpr ⟨p, h, rfl⟩⟩
    unfold stf
    dsimp only
    by_cases hin : p ∈ L
    · rw [if_pos hin, if_pos (hm.mpr hin)]
      exact ⟨rfl, rfl⟩
    · rw [if_neg hin, if_neg (fun z => hin (hm.mp z)), List.length_map]
      by_cases full : L.length = k
      · rw [if_pos full, if_pos full]
        cases L with
        | nil => simp at full; omega
        | cons a L =>
          refine ⟨?_, rfl⟩
          show ((a :: L).map φ).filter (fun x => x != φ a) ++ [φ p] = (((a :: L).filter fun x => x != a) ++ [p]).map φ
          rw [List.map_append, List.filter_map]
          have : ((fun x => x != φ a) ∘ φ) = fun x => x != a := by
            funext x
            show (φ x != φ a) = (x != a)
            by_cases e : x = a
            · subst e; rw [bne_self_eq_false, bne_self_eq_false]
            · have h1 : (φ x != φ a) = true := bne_iff_ne.mpr fun z => e (inj _ _ z)
              have h2 : (x != a) = true := bne_iff_ne.mpr e
              rw [h1, h2]
          rw [this]
          rfl
      · rw [if_neg full, if_neg full]
        exact ⟨by rw [List.map_append]; rfl, rfl⟩
theorem wl_congr {f g : Nat → Nat} (h : ∀ k, 1 ≤ k → f k = g k) : wl f = wl g := by
  unfold wl
  congr 1
  refine List.filter_congr fun p hp => ?_
  rw [h (p + 1) (by omega), h (p + 2) (by omega)]
theorem wv_three {f g : Nat → Nat} (h : wl f = wl g) (k : wl g = [3]) : wv f = vi 3 := by
  unfold wv
  rw [h, k]
def bel : List Nat := [0, 1, 2, 3, 0, 1, 4, 0, 1, 2, 3, 4]
theorem bel_wl {L : List Nat} (pm : L.Perm (List.range 9)) : Ask (bel.map fun n => L.getD n 0) ∧ wv (cnt (bel.map fun n => L.getD n 0) .oldest) = vi 3 := by
  have hl : L.length = 9 := by rw [pm.length_eq, List.length_range]
  have nd : L.Nodup := pm.nodup_iff.mpr List.nodup_range
  have lt : ∀ n, n < 9 → L.getD n 0 < 9 := fun n hn => by
    have : L.getD n 0 ∈ L := by
      rw [List.getD_eq_getElem?_getD, List.getElem?_eq_getElem (by omega)]
      exact List.getElem_mem _
    exact List.mem_range.mp (pm.mem_iff.mp this)
  have b9 : ∀ n ∈ bel, n < 9 := by decide
  let φ : Nat → Nat := fun n => if n < 9 then L.getD n 0 else n + 9
  have em : (bel.map fun n => L.getD n 0) = bel.map φ := List.map_congr_left fun n hn => by
    show _ = if n < 9 then L.getD n 0 else n + 9
    rw [if_pos (b9 n hn)]
  have inj : ∀ a b, φ a = φ b → a = b := fun a b e => by
    have e : (if a < 9 then L.getD a 0 else a + 9) = (if b < 9 then L.getD b 0 else b + 9) := e
    by_cases ha : a < 9
    · rw [if_pos ha] at e
      have := lt a ha
      by_cases hb : b < 9
      · rw [if_pos hb] at e
        rw [List.getD_eq_getElem?_getD, List.getD_eq_getElem?_getD, List.getElem?_eq_getElem (by omega), List.getElem?_eq_getElem (by omega)] at e
        exact (List.getElem_inj nd).mp e
      · rw [if_neg hb] at e; omega
    · rw [if_neg ha] at e
      by_cases hb : b < 9
      · rw [if_pos hb] at e
        have := lt b hb
        omega
      · rw [if_neg hb] at e; omega
  refine ⟨⟨by simp [bel], fun p hp => ?_⟩, ?_⟩
  · obtain ⟨n, hn, rfl⟩ := List.mem_map.mp hp
    exact lt n (b9 n hn)
  · have hc : ∀ k, 1 ≤ k → cnt (bel.map fun n => L.getD n 0) .oldest k = (rf k bel 12).2.1 := fun k hk => by
      unfold cnt
      have hb : bel.length = 12 := rfl
      rw [em, rn_old hk, List.length_map, hb]
      exact (rf_map (asks := bel) hk φ inj 12 (by rw [hb]; omega)).2
    have hq : wl (fun k => (rf k bel 12).2.1) = [3] := by decide +kernel
    exact wv_three (wl_congr hc) hq
end Z
namespace Z
open PySem (Str)
open Pg
/-! ### the law's turn -/
/-- box, asks, belady, counts, due, names, places, rule, told, way, worse -/
def fR (x A : Val) (s2 s3 s4 s5 s6 s7 s8 s9 s10 : Slot) : Env := [.own true x, .v A, s2, s3, s4, s5, s6, s7, s8, s9, s10, .emp, .emp]
theorem flatN_vis (n : Nat) (l : List Nat) : (l.map vi).all (flatN n) = true := by
  rw [List.all_eq_true]
  intro x hx
  obtain ⟨k, _, rfl⟩ := List.mem_map.mp hx
  cases n <;> rfl
theorem flat_box {c : Int} {x : Val} (h : IsBox c x) : flatS (.own true x) = true := by
  obtain ⟨g, m, n, b, rfl, _⟩ := h
  rfl
theorem flat_Av (asks : List Nat) : flatS (.v (Av asks)) = true := flatN_vis 8 asks
theorem flat_own (l : List Nat) : flatS (.own false (.lst (l.map vi))) = true := flatN_vis 9 l
theorem forgetS_flat {s : Slot} (h : flatS s = true) : forgetS s = s := by
  cases s with
  | v x => exact if_pos h
  | own p x =>
    cases p
    · exact if_pos h
    · rfl
  | emp => rfl
  | pf x => rfl
  | exn c fs => rfl
theorem forgetS_ok {s : Slot} (h : Fr s) : flatS (forgetS s) = true ∧ Fr (forgetS s) := by
  rcases h with rfl | ⟨x, rfl⟩ | ⟨x, rfl⟩
  · exact ⟨rfl, .e⟩
  · by_cases c : flatS (.v x) = true
    · rw [forgetS_flat c]; exact ⟨c, .v⟩
    · have : forgetS (.v x) = .emp := if_neg c
      rw [this]; exact ⟨rfl, .e⟩
  · by_cases c : flatS (.own false x) = true
    · rw [forgetS_flat c]; exact ⟨c, .o⟩
    · have : forgetS (.own false x) = .emp := if_neg c
      rw [this]; exact ⟨rfl, .e⟩
theorem flatE_cons {s : Slot} {e : Env} (h : flatS s = true) (k : flatE e = true) : flatE (s :: e) = true := by
  unfold flatE at *
  rw [List.all_cons, h, k]
  rfl
theorem flatE_nil : flatE [] = true := rfl
section
variable {x : Val} {asks cs : List Nat} {k w : Nat} {r : Rule} {s4 s8 s10 : Slot}
theorem flat_fR {c : Int} (h : IsBox c x) (h4 : flatS s4 = true) (h8 : flatS s8 = true) (h10 : flatS s10 = true) : flatE (fR x (Av asks) .emp (.own false (.lst (cs.map vi))) s4 .emp (.v (vi k)) (.v (.str r.s)) s8 (.v (vi w)) s10) = true :=
  flatE_cons (flat_box h) (flatE_cons (flat_Av asks) (flatE_cons rfl (flatE_cons (flat_own cs) (flatE_cons h4 (flatE_cons rfl (flatE_cons rfl (flatE_cons rfl (flatE_cons h8 (flatE_cons rfl (flatE_cons h10 (flatE_cons rfl (flatE_cons rfl flatE_nil))))))))))))
theorem forget_fR (h4 : Fr s4) (h8 : Fr s8) (h10 : flatS s10 = true) : forget (fR x (Av asks) .emp (.own false (.lst (cs.map vi))) s4 .emp (.v (vi k)) (.v (.str r.s)) s8 (.v (vi w)) s10) = fR x (Av asks) .emp (.own false (.lst (cs.map vi))) (forgetS s4) .emp (.v (vi k)) (.v (.str r.s)) (forgetS s8) (.v (vi w)) s10 := by
  unfold fR forget
  simp only [List.map_cons, List.map_nil]
  rw [forgetS_flat (flat_Av asks), forgetS_flat (flat_own cs), forgetS_flat h10]
  rfl
theorem right_2 {c : Int} (hb : IsBox c x) (h : Ask asks) (hk : 1 ≤ k) (hk5 : k ≤ 5) (hw : w = 2 ∨ w = 3) (h4 : Fr s4) (h8 : Fr s8) (h10 : flatS s10 = true) :
    ∃ t4, Fr t4 ∧ b__law_right_2 (fR x (Av asks) .emp (.own false (.lst (cs.map vi))) s4 .emp (.v (vi k)) (.v (.str r.s)) s8 (.v (vi w)) s10) = .ok .nx (fR x (Av asks) .emp (.own false (.lst (cs.map vi))) t4 .emp (.v (vi k)) (.v (.str r.s)) .emp (.v (vi w)) s10) := by
  obtain ⟨g4, t4⟩ := forgetS_ok h4
  obtain ⟨g8, t8⟩ := forgetS_ok h8
  refine ⟨forgetS s4, t4, ?_⟩
  refine (sFlat_of (forget_fR h4 h8 h10) (flat_fR hb g4 g8 h10)).trans ?_
  have e1 := evicted_ok r h hk hk5
  have e2 := said_evicted (way := (w : Int)) (by omega) (by rw [e1]; exact .told _)
  have e3 := cached_ok r h hk hk5
  have lG := (rn_iv (r := r) h hk asks.length (Nat.le_refl _)).g
  have l40 := h.len
  have gg : good 5 (.lst ((rn k asks r asks.length).2.2.map gv)) = true := by
    show (decide (_ ≤ 1000000) && (List.all _ (good 4))) = true
    rw [Bool.and_eq_true, decide_eq_true_eq]
    refine ⟨by rw [List.length_map]; omega, ?_⟩
    rw [List.all_eq_true]
    intro x hx
    obtain ⟨w, _, rfl⟩ := List.mem_map.mp hx
    rfl
  have lGz : ((rn k asks r asks.length).2.2.map gv).length < 16777216 := by rw [List.length_map]; omega
  have g7 : good 7 (tag "told" (.lst ((rn k asks r asks.length).2.2.map gv))) = true := by
    show (decide (_ ≤ 1000000) && (List.all _ (good 6))) = true
    have : good 6 (.lst ((rn k asks r asks.length).2.2.map gv)) = true := by
      show (decide (_ ≤ 1000000) && (List.all _ (good 5))) = true
      rw [Bool.and_eq_true, decide_eq_true_eq]
      refine ⟨by rw [List.length_map]; omega, ?_⟩
      rw [List.all_eq_true]
      intro x hx
      obtain ⟨w, _, rfl⟩ := List.mem_map.mp hx
      rfl
    have gt : good 6 (.str "told") = true := by decide +kernel
    simp [this, gt]
  clear gg lG
  have p8 := t8.ok
  have mo : mutOk (fR x (Av asks) .emp (.own false (.lst (cs.map vi))) (forgetS s4) .emp (.v (vi k)) (.v (.str r.s)) (.own false (tag "told" (.lst ((rn k asks r asks.length).2.2.map gv)))) (.v (vi w)) s10) 8 = true := by
    unfold mutOk
    rw [Bool.and_eq_true]
    exact ⟨flat_fR hb g4 rfl h10, rfl⟩
  have es := same_bo (e := fR x (Av asks) .emp (.own false (.lst (cs.map vi))) (forgetS s4) .emp (.v (vi k)) (.v (.str r.s)) (.own false (tag "told" (.lst ((rn k asks r asks.length).2.2.map gv)))) (.v (vi w)) s10) (i := 8) g7 rfl
  clear g7
  generalize (rn k asks r asks.length).2.2.map gv = G at *
  generalize (rn k asks r asks.length).2.1 = cc at *
  generalize forgetS s4 = u4 at *
  generalize forgetS s8 = u8 at *
  generalize Av asks = A at *
  generalize cs.map vi = C at *
  generalize r.s = rs at *
  simp only [fR, vi, tag] at *
  simp at es
  simp [e2, e3, es, p8, mo, lGz]
end
def rt_1 : S := (sSet 3 (eComp (iRange2 (eC (.int 1)) (eC (.int 6))) [6] (tgN 6) tYes (eOp fIx (eCall m__law_cached (asCons (eV 1) (asCons (eV 6) (asCons (eV 7) asNil)))) (eC (.int 0)))))
def rt_2 : S := (sSet 6 (eOp fAdd (eC (.int 1)) (eCall m__law_take (asCons (eV 0) (asCons (eC (.int 5)) asNil)))))
def rt_3 : S := (sIf (tNot (tE (eCall (m__law_same 8) (asCons (eLst (asCons (eCall m__law_said (asCons (eC (.int 0)) (asCons (eV 1) (asCons (eV 6) (asCons (eV 7) asNil))))) (asCons (eCall m__law_said (asCons (eC (.int 1)) (asCons (eV 1) (asCons (eV 6) (asCons (eV 7) asNil))))) asNil))) (asCons (eOp fMulX (eLst (asCons (eLst (asCons (eC (.str "told")) (asCons (eOp fIx (eV 3) (eOp fSub (eV 6) (eC (.int 1)))) asNil))) asNil)) (eC (.int 2))) asNil))))) (sRet (eC (.bl false))) sNil)
def rt_4 : S := (sFor (iSeq (eLst (asCons (eC (.int 2)) (asCons (eC (.int 3)) asNil)))) (tgN 9) b__law_right_2)
def rt_5 : S := (sSet 10 (eComp (iRange2 (eC (.int 1)) (eC (.int 5))) [11] (tgN 11) (tE (eOp fLt (eOp fIx (eV 3) (eOp fSub (eV 11) (eC (.int 1)))) (eOp fIx (eV 3) (eV 11)))) (eV 11)))
def rt_6 : S := (sSet 4 (eLst (asCons (eC (.str "told")) (asCons (eIf (tE (eOp fNe (eV 10) (eLst asNil))) (eOp fIx (eV 10) (eC (.int 0))) (eC .non)) asNil))))
def rt_7 : S := (sIf (tNot (tE (eCall (m__law_same 8) (asCons (eLst (asCons (eCall m__law_said (asCons (eC (.int 4)) (asCons (eV 1) (asCons (eC .non) (asCons (eV 7) asNil))))) (asCons (eCall m__law_said (asCons (eC (.int 5)) (asCons (eV 1) (asCons (eC .non) (asCons (eV 7) asNil))))) asNil))) (asCons (eOp fMulX (eLst (asCons (eV 4) asNil)) (eC (.int 2))) asNil))))) (sRet (eC (.bl false))) sNil)
theorem rt_eq : b__law_right_3 = sSeq rt_1 (sSeq rt_2 (sSeq rt_3 (sSeq rt_4 (sSeq rt_5 (sSeq rt_6 rt_7))))) := rfl
section
variable {x : Val} {asks cs : List Nat} {k : Nat} {r : Rule} {s2 s3 s4 s5 s6 s8 s9 s10 : Slot}
theorem rt_1_ok (h : Ask asks) (f3 : Fr s3) (f6 : Cv s6) : rt_1 (fR x (Av asks) s2 s3 s4 s5 s6 (.v (.str r.s)) s8 s9 s10) = .ok .nx (fR x (Av asks) s2 (.own false (.lst ((five (cnt asks r)).map vi))) s4 s5 s6 (.v (.str r.s)) s8 s9 s10) := by
  have c1 : ∀ s6, Cv s6 → compL [6] (tgN 6) tYes (eOp fIx (eCall m__law_cached (asCons (eV 1) (asCons (eV 6) (asCons (eV 7) asNil)))) (eC (.int 0))) (rangeV 1 5) (fR x (Av asks) s2 s3 s4 s5 .emp (.v (.str r.s)) s8 s9 s10) = .ok ((five (cnt asks r)).map vi) (fR x (Av asks) s2 s3 s4 s5 .emp (.v (.str r.s)) s8 s9 s10) := by
    intro s6 f6
    unfold five
    rw [rng_map, List.map_map]
    refine compL_map _ _ fun k hk => ?_
    have hk := List.mem_range.mp hk
    have e := cached_ok (k := k + 1) r h (by omega) (by omega)
    have z : (1 : Int) + (k : Int) = ((k + 1 : Nat) : Int) := by omega
    rw [z]
    refine ⟨fR x (Av asks) s2 s3 s4 s5 (.v (vi (k + 1))) (.v (.str r.s)) s8 s9 s10, by simp [fR], by simp, ⟨.v (vi (cnt asks r (k + 1))), ?_, by simp⟩, by simp [fR], by simp [fR]⟩
    unfold cnt
    generalize rn (k + 1) asks r asks.length = R at *
    generalize R.2.2.map gv = F at *
    generalize R.2.1 = c at *
    generalize Av asks = A at *
    generalize r.s = rs at *
    simp only [vi, fR] at *
    generalize ((k + 1 : Nat) : Int) = kk at *
    simp [e]
  have c1 := c1 s6 f6
  have r1 : inR (1 : Int) = true := inR_of (by omega) (by omega)
  have r6 : inR (6 : Int) = true := inR_of (by omega) (by omega)
  have p3 := f3.ok
  unfold rt_1
  generalize (five (cnt asks r)).map vi = L at *
  generalize Av asks = A at *
  generalize r.s = rs at *
  simp only [fR] at *
  rcases f6 with rfl | ⟨u, rfl⟩ <;> simp [rng2_int _ r1 r6, c1, p3]
theorem rt_2_ok {c : Int} (hb : IsBox c x) (hc : c ≤ 10000) (f6 : Cv s6) : ∃ (y : Val) (k : Nat), IsBox (c + 1) y ∧ 1 ≤ k ∧ k ≤ 5 ∧ rt_2 (fR x (Av asks) s2 s3 s4 s5 s6 (.v (.str r.s)) s8 s9 s10) = .ok .nx (fR y (Av asks) s2 s3 s4 s5 (.v (vi k)) (.v (.str r.s)) s8 s9 s10) := by
  obtain ⟨d, y1, l1, b1, e1⟩ := take_at (many := 5) hb (by omega) (by omega) (by omega)
  refine ⟨y1, d + 1, b1, by omega, by omega, ?_⟩
  have p6 := f6.ok
  have z : (1 : Int) + (d : Int) = ((d + 1 : Nat) : Int) := by omega
  unfold rt_2
  generalize Av asks = A at *
  generalize r.s = rs at *
  simp only [fR, vi] at *
  generalize ((d + 1 : Nat) : Int) = dd at *
  simp [e1, z, p6]
theorem rt_3_ok (h : Ask asks) (hk : 1 ≤ k) (hk5 : k ≤ 5) : rt_3 (fR x (Av asks) s2 (.own false (.lst ((five (cnt asks r)).map vi))) s4 s5 (.v (vi k)) (.v (.str r.s)) s8 s9 s10) = .ok .nx (fR x (Av asks) s2 (.own false (.lst ((five (cnt asks r)).map vi))) s4 s5 (.v (vi k)) (.v (.str r.s)) s8 s9 s10) := by
  have e1 : (m_misses [.v (Av asks), .v (vi k), .v (.str r.s)]).out = .ok (.v (vi (cnt asks r k))) := misses_ok r h hk hk5
  have q0 := said_misses (way := 0) (.inl rfl) (by rw [e1]; exact .told _)
  have q1 := said_misses (way := 1) (.inr rfl) (by rw [e1]; exact .told _)
  have l5 : (five (cnt asks r)).length = 5 := by simp [five]
  have a0 := atV_vi (l := five (cnt asks r)) (k := k - 1) (by omega)
  rw [five_at _ (by omega), show k - 1 + 1 = k by omega] at a0
  have z : (k : Int) - 1 = ((k - 1 : Nat) : Int) := by omega
  have g := same_oo (good_two (good_tag good_told (good_vi 5 (cnt asks r k))))
  unfold rt_3
  generalize cnt asks r k = n at *
  generalize (five (cnt asks r)).map vi = L at *
  generalize Av asks = A at *
  generalize r.s = rs at *
  generalize hkk : k - 1 = kk at *
  simp only [fR, vi, tag] at *
  simp [q0, q1, z, a0, g]
theorem rt_4_ok {c : Int} (hb : IsBox c x) (h : Ask asks) (hk : 1 ≤ k) (hk5 : k ≤ 5) (h4 : Fr s4) (h8 : Fr s8) (h9 : Cv s9) (h10 : flatS s10 = true) :
    ∃ t4 t8 t9, Fr t4 ∧ Fr t8 ∧ Cv t9 ∧ rt_4 (fR x (Av asks) .emp (.own false (.lst (cs.map vi))) s4 .emp (.v (vi k)) (.v (.str r.s)) s8 s9 s10) = .ok .nx (fR x (Av asks) .emp (.own false (.lst (cs.map vi))) t4 .emp (.v (vi k)) (.v (.str r.s)) t8 t9 s10) := by
  obtain ⟨t4, f4, st1⟩ := right_2 (cs := cs) (w := 2) (r := r) hb h hk hk5 (.inl rfl) h4 h8 h10
  obtain ⟨u4, g4, st2⟩ := right_2 (cs := cs) (w := 3) (r := r) (s8 := .emp) hb h hk hk5 (.inr rfl) f4 .e h10
  refine ⟨u4, .emp, .v (vi 3), g4, .e, .v, ?_⟩
  have p9 := h9.ok
  have t2 : tgN 9 (.int 2) (fR x (Av asks) .emp (.own false (.lst (cs.map vi))) s4 .emp (.v (vi k)) (.v (.str r.s)) s8 s9 s10) = some (fR x (Av asks) .emp (.own false (.lst (cs.map vi))) s4 .emp (.v (vi k)) (.v (.str r.s)) s8 (.v (vi 2)) s10) := by
    generalize cs.map vi = C at *
    simp [fR, p9]
  have t3 : tgN 9 (.int 3) (fR x (Av asks) .emp (.own false (.lst (cs.map vi))) t4 .emp (.v (vi k)) (.v (.str r.s)) .emp (.v (vi 2)) s10) = some (fR x (Av asks) .emp (.own false (.lst (cs.map vi))) t4 .emp (.v (vi k)) (.v (.str r.s)) .emp (.v (vi 3)) s10) := by
    generalize cs.map vi = C at *
    simp [fR]
  unfold rt_4
  have src : (iSeq (eLst (asCons (eC (.int 2)) (asCons (eC (.int 3)) asNil)))) (fR x (Av asks) .emp (.own false (.lst (cs.map vi))) s4 .emp (.v (vi k)) (.v (.str r.s)) s8 s9 s10) = .ok [.int 2, .int 3] (fR x (Av asks) .emp (.own false (.lst (cs.map vi))) s4 .emp (.v (vi k)) (.v (.str r.s)) s8 s9 s10) := by
    simp
  show (sFor _ _ _) _ = _
  rw [sFor_ap, src, Rs.bind_ok]
  unfold forL
  rw [t2]
  dsimp only
  rw [st1, Rs.bind_ok]
  dsimp only
  unfold forL
  rw [t3]
  dsimp only
  rw [st2, Rs.bind_ok]
  rfl
theorem rt_5_ok (f10 : Fr s10) : rt_5 (fR x (Av asks) s2 (.own false (.lst ((five (cnt asks r)).map vi))) s4 s5 s6 (.v (.str r.s)) s8 s9 s10) = .ok .nx (fR x (Av asks) s2 (.own false (.lst ((five (cnt asks r)).map vi))) s4 s5 s6 (.v (.str r.s)) s8 s9 (.own false (.lst ((wl (cnt asks r)).map vi)))) := by
  have c2 : compL [11] (tgN 11) (tE (eOp fLt (eOp fIx (eV 3) (eOp fSub (eV 11) (eC (.int 1)))) (eOp fIx (eV 3) (eV 11)))) (eV 11) (rangeV 1 4) (fR x (Av asks) s2 (.own false (.lst ((five (cnt asks r)).map vi))) s4 s5 s6 (.v (.str r.s)) s8 s9 s10) = .ok ((wl (cnt asks r)).map vi) (fR x (Av asks) s2 (.own false (.lst ((five (cnt asks r)).map vi))) s4 s5 s6 (.v (.str r.s)) s8 s9 s10) := by
    unfold wl
    rw [rng_map, List.map_map]
    refine compL_mapf (fun k : Nat => Val.int (1 + (k : Int))) (fun p => decide (cnt asks r (p + 1) < cnt asks r (p + 2))) (vi ∘ fun p => p + 1) fun p hp => ?_
    have hp := List.mem_range.mp hp
    have l5 : (five (cnt asks r)).length = 5 := by simp [five]
    have a0 := atV_vi (l := five (cnt asks r)) (k := p) (by omega)
    have a1 := atV_vi (l := five (cnt asks r)) (k := p + 1) (by omega)
    rw [five_at _ (by omega)] at a0 a1
    have z : (1 : Int) + (p : Int) = ((p + 1 : Nat) : Int) := by omega
    have z2 : ((p + 1 : Nat) : Int) - 1 = (p : Int) := by omega
    rw [z]
    refine ⟨[.own true x, .v (Av asks), s2, .own false (.lst ((five (cnt asks r)).map vi)), s4, s5, s6, .v (.str r.s), s8, s9, s10, .v (vi (p + 1)), .emp], by simp [fR], ?_, fun _ => ⟨.v (vi (p + 1)), by simp, by simp⟩, by simp, by simp [fR]⟩
    generalize cnt asks r (p + 1) = u at *
    generalize cnt asks r (p + 1 + 1) = w at *
    generalize (five (cnt asks r)).map vi = L at *
    simp only [vi] at *
    generalize ((p + 1 : Nat) : Int) = pp at *
    simp [z2, a0, a1]
  have r1 : inR (1 : Int) = true := inR_of (by omega) (by omega)
  have r5 : inR (5 : Int) = true := inR_of (by omega) (by omega)
  have p10 := f10.ok
  unfold rt_5
  generalize (wl (cnt asks r)).map vi = W at *
  generalize (five (cnt asks r)).map vi = L at *
  generalize Av asks = A at *
  generalize r.s = rs at *
  simp only [fR] at *
  simp [rng2_int _ r1 r5, c2, p10]
theorem rt_6_ok (f4 : Fr s4) : rt_6 (fR x (Av asks) s2 s3 s4 s5 s6 (.v (.str r.s)) s8 s9 (.own false (.lst ((wl (cnt asks r)).map vi)))) = .ok .nx (fR x (Av asks) s2 s3 (.own false (tag "told" (wv (cnt asks r)))) s5 s6 (.v (.str r.s)) s8 s9 (.own false (.lst ((wl (cnt asks r)).map vi)))) := by
  have q := fNe_vis (wl (cnt asks r))
  have hw : wv (cnt asks r) = match wl (cnt asks r) with | [] => .non | a :: _ => vi a := rfl
  have p4 := f4.ok
  rw [hw]
  unfold rt_6
  generalize wl (cnt asks r) = W at *
  generalize Av asks = A at *
  generalize r.s = rs at *
  cases W with
  | nil =>
    simp only [List.map_nil, vi, fR, tag] at *
    simp [q, p4]
  | cons a W =>
    simp only [List.map_cons] at *
    generalize W.map vi = V at *
    simp only [vi, fR, tag] at *
    simp [q, p4]
theorem good_wv {n : Nat} {f : Nat → Nat} : good n (wv f) = true := by
  unfold wv
  split
  · cases n <;> rfl
  · exact good_vi _ _
theorem rt_7_ok (h : Ask asks) : rt_7 (fR x (Av asks) s2 s3 (.own false (tag "told" (wv (cnt asks r)))) s5 s6 (.v (.str r.s)) s8 s9 s10) = .ok .nx (fR x (Av asks) s2 s3 (.v (tag "told" (wv (cnt asks r)))) s5 s6 (.v (.str r.s)) s8 s9 s10) := by
  have e1 := anomaly_ok r h
  have q0 := said_anomaly (b := .non) (way := 4) (.inl rfl) (by rw [e1]; exact .told _)
  have q1 := said_anomaly (b := .non) (way := 5) (.inr rfl) (by rw [e1]; exact .told _)
  have g := same_oo (good_two (good_tag good_told (good_wv (n := 5) (f := cnt asks r))))
  unfold rt_7
  generalize wv (cnt asks r) = v at *
  generalize Av asks = A at *
  generalize r.s = rs at *
  simp only [fR, tag] at *
  simp [q0, q1, g]
theorem right_3 {c : Int} (hb : IsBox c x) (hc : c ≤ 10000) (h : Ask asks) (f3 : Fr s3) (f4 : Fr s4) (f6 : Cv s6) (f8 : Fr s8) (f9 : Cv s9) (f10 : Fr s10) (h10 : flatS s10 = true) :
    ∃ y t3 t4 t6 t8 t9 t10, IsBox (c + 1) y ∧ Fr t3 ∧ Fr t4 ∧ Cv t6 ∧ Fr t8 ∧ Cv t9 ∧ Fr t10 ∧ flatS t10 = true ∧ b__law_right_3 (fR x (Av asks) .emp s3 s4 .emp s6 (.v (.str r.s)) s8 s9 s10) = .ok .nx (fR y (Av asks) .emp t3 t4 .emp t6 (.v (.str r.s)) t8 t9 t10) := by
  obtain ⟨y, k, b1, k1, k5, e2⟩ := rt_2_ok (asks := asks) (r := r) (s2 := .emp) (s3 := .own false (.lst ((five (cnt asks r)).map vi))) (s4 := s4) (s5 := .emp) (s8 := s8) (s9 := s9) (s10 := s10) hb hc f6
  obtain ⟨t4, t8, t9, g4, g8, g9, e4⟩ := rt_4_ok (cs := five (cnt asks r)) (r := r) b1 h k1 k5 f4 f8 f9 h10
  refine ⟨y, .own false (.lst ((five (cnt asks r)).map vi)), .v (tag "told" (wv (cnt asks r))), .v (vi k), t8, t9, .own false (.lst ((wl (cnt asks r)).map vi)), b1, .o, .v, .v, g8, g9, .o, flat_own _, ?_⟩
  rw [rt_eq, seq_nx (rt_1_ok h f3 f6), seq_nx e2, seq_nx (rt_3_ok h k1 k5), seq_nx e4, seq_nx (rt_5_ok f10), seq_nx (rt_6_ok g4)]
  exact rt_7_ok h
end
def rules : List Rule := [.oldest, .unused, .last, .farthest]
theorem right_4 {c : Int} {x : Val} {asks : List Nat} (hb : IsBox c x) (hc : c ≤ 1000) (h : Ask asks) : ∃ y t3 t4 t6 t7 t8 t9 t10, IsBox (c + 4) y ∧ b__law_right_4 (fR x (Av asks) .emp .emp .emp .emp .emp .emp .emp .emp .emp) = .ok .nx (fR y (Av asks) .emp t3 t4 .emp t6 t7 t8 t9 t10) := by
  have key : ∃ e', forL (tgN 7) b__law_right_3 (rules.map fun r => .str r.s) (fR x (Av asks) .emp .emp .emp .emp .emp .emp .emp .emp .emp) = .ok .nx e' ∧ ∃ y t3 t4 t6 t7 t8 t9 t10, IsBox (c + (rules.length : Int)) y ∧ Fr t3 ∧ Fr t4 ∧ Cv t6 ∧ Cv t7 ∧ Fr t8 ∧ Cv t9 ∧ Fr t10 ∧ flatS t10 = true ∧ e' = fR y (Av asks) .emp t3 t4 .emp t6 t7 t8 t9 t10 := by
    refine list_run (fun r : Rule => Val.str r.s) (fun i e => ∃ y t3 t4 t6 t7 t8 t9 t10, IsBox (c + (i : Int)) y ∧ Fr t3 ∧ Fr t4 ∧ Cv t6 ∧ Cv t7 ∧ Fr t8 ∧ Cv t9 ∧ Fr t10 ∧ flatS t10 = true ∧ e = fR y (Av asks) .emp t3 t4 .emp t6 t7 t8 t9 t10)
      ⟨x, .emp, .emp, .emp, .emp, .emp, .emp, .emp, by simpa using hb, .e, .e, .e, .e, .e, .e, .e, rfl, rfl⟩ fun i r e hi ⟨y, t3, t4, t6, t7, t8, t9, t10, b1, f3, f4, f6, f7, f8, f9, f10, h10, he⟩ => ?_
    subst he
    have hi8 : i < 4 := (List.getElem?_eq_some_iff.mp hi).1
    obtain ⟨y2, u3, u4, u6, u8, u9, u10, b2, g3, g4, g6, g8, g9, g10, k10, st⟩ := right_3 (r := r) b1 (by omega) h f3 f4 f6 f8 f9 f10 h10
    have p7 := f7.ok
    refine ⟨fR y (Av asks) .emp t3 t4 .emp t6 (.v (.str r.s)) t8 t9 t10, _, by simp [fR, p7], .inl st, y2, u3, u4, u6, _, u8, u9, u10, ?_, g3, g4, g6, .v, g8, g9, g10, k10, rfl⟩
    have : c + ((i + 1 : Nat) : Int) = c + (i : Int) + 1 := by omega
    rw [this]
    exact b2
  obtain ⟨e', h5, y, t3, t4, t6, t7, t8, t9, t10, b1, _, _, _, _, _, _, _, _, he⟩ := key
  subst he
  refine ⟨y, t3, t4, t6, t7, t8, t9, t10, b1, ?_⟩
  have er : (rules.map fun r => Val.str r.s) = [.str "oldest", .str "unused", .str "last", .str "farthest"] := rfl
  rw [er] at h5
  generalize Av asks = A at *
  simp only [fR] at h5 ⊢
  simp [b__law_right_4, h5]
theorem right_ok {x : Val} (h : IsBox 0 x) : (m__law_right [.own x]).out = .ok (.v (.bl true)) := by
  obtain ⟨y1, asks, b1, ha, e1⟩ := asks_ok h
  obtain ⟨y2, t3, t4, t6, t7, t8, t9, t10, b2, e4⟩ := right_4 b1 (by omega) ha
  obtain ⟨y3, L, b3, pm, e6⟩ := mixed_ok (n := 9) b2 (by omega) (by omega)
  obtain ⟨ab, ew⟩ := bel_wl pm
  obtain ⟨y4, e8⟩ := refused_ok b3 (by omega) ha
  have q1 : b__law_right_1 [.own true x, .emp, .emp, .emp, .emp, .emp, .emp, .emp, .emp, .emp, .emp, .emp, .emp] = .ok .nx (fR y1 (Av asks) .emp .emp .emp .emp .emp .emp .emp .emp .emp) := by
    have := callR_b1 (m := m__law_asks) (e := [.own true x, .emp, .emp, .emp, .emp, .emp, .emp, .emp, .emp, .emp, .emp, .emp, .emp]) (i := 0) (p := true) (x := x) (rs := []) (as := []) rfl rfl
    rw [e1] at this
    generalize Av asks = A at *
    simp only [fR] at *
    simp [this]
  have q5 : b__law_right_5 (fR y2 (Av asks) .emp t3 t4 .emp t6 t7 t8 t9 t10) = .ok .nx (fR y2 (Av asks) (.v (Av bel)) t3 t4 .emp t6 t7 t8 t9 t10) := by
    have eb : Av bel = .tup [.int 0, .int 1, .int 2, .int 3, .int 0, .int 1, .int 4, .int 0, .int 1, .int 2, .int 3, .int 4] := rfl
    rw [eb]
    generalize Av asks = A at *
    simp [fR]
  have q6 : b__law_right_6 (fR y2 (Av asks) (.v (Av bel)) t3 t4 .emp t6 t7 t8 t9 t10) = .ok .nx (fR y3 (Av asks) (.v (Av bel)) t3 t4 (.own false (.lst (L.map vi))) t6 t7 t8 t9 t10) := by
    have := callR_b1 (m := m__law_mixed) (e := fR y2 (Av asks) (.v (Av bel)) t3 t4 .emp t6 t7 t8 t9 t10) (i := 0) (p := true) (x := y2) (rs := [.v (.int 9)]) (as := [.v (.int 9)]) rfl rfl
    have e6 : m__law_mixed [.own y2, .v (.int 9)] = .ok (.own (.lst (L.map vi))) [.own true y3, .v (vi 9)] := e6
    rw [e6] at this
    generalize L.map vi = M at *
    generalize Av bel = B at *
    generalize Av asks = A at *
    simp only [fR] at *
    simp at this
    simp [this]
  have q7 : b__law_right_7 (fR y3 (Av asks) (.v (Av bel)) t3 t4 (.own false (.lst (L.map vi))) t6 t7 t8 t9 t10) = .ok .nx (fR y3 (Av asks) (.v (Av bel)) t3 t4 (.own false (.lst (L.map vi))) t6 t7 t8 t9 t10) := by
    have ea := anomaly_ok .oldest ab
    rw [ew] at ea
    have ea : (m_anomaly [.v (Av (bel.map fun n => L.getD n 0)), .v (.str "oldest")]).out = .ok (.v (.int 3)) := ea
    have hl : L.length = 9 := by rw [pm.length_eq, List.length_range]
    have hc : compL [12] (tgN 12) tYes (eOp fIx (eV 5) (eV 12)) (bel.map vi) (fR y3 (Av asks) (.v (Av bel)) t3 t4 (.own false (.lst (L.map vi))) t6 t7 t8 t9 t10) = .ok ((bel.map fun n => L.getD n 0).map vi) (fR y3 (Av asks) (.v (Av bel)) t3 t4 (.own false (.lst (L.map vi))) t6 t7 t8 t9 t10) := by
      rw [List.map_map]
      refine compL_map vi _ fun n hn => ?_
      have b9 : ∀ n ∈ bel, n < 9 := by decide
      have a := atV_vi (l := L) (k := n) (by have := b9 n hn; omega)
      refine ⟨[.own true y3, .v (Av asks), .v (Av bel), t3, t4, .own false (.lst (L.map vi)), t6, t7, t8, t9, t10, .emp, .v (vi n)], by simp [fR], by simp, ⟨.v (vi (L.getD n 0)), ?_, by simp⟩, by simp, by simp [fR]⟩
      generalize L.getD n 0 = g at *
      generalize L.map vi = M at *
      simp only [vi] at *
      simp [a]
    have g := same_vv (x := .int 3) rfl
    have hz : ((bel.map fun n => L.getD n 0).map vi).length ≤ 16777216 := by simp [bel]
    have hb : (bel.map vi).length ≤ 16777216 := by simp [bel]
    have eA : Av (bel.map fun n => L.getD n 0) = .tup ((bel.map fun n => L.getD n 0).map vi) := rfl
    have eB : Av bel = .tup (bel.map vi) := rfl
    rw [eA] at ea
    rw [eB] at hc ⊢
    generalize (bel.map fun n => L.getD n 0).map vi = N at *
    generalize L.map vi = M at *
    generalize bel.map vi = B at *
    generalize Av asks = A at *
    simp only [fR] at *
    simp [hc, hz, hb, ea, g]
  have q8 : b__law_right_8 (fR y3 (Av asks) (.v (Av bel)) t3 t4 (.own false (.lst (L.map vi))) t6 t7 t8 t9 t10) = .ok (.rt (.v (.bl true))) (fR y4 (Av asks) (.v (Av bel)) t3 t4 (.own false (.lst (L.map vi))) t6 t7 t8 t9 t10) := by
    have := callR_b1 (m := m__law_refused) (e := fR y3 (Av asks) (.v (Av bel)) t3 t4 (.own false (.lst (L.map vi))) t6 t7 t8 t9 t10) (i := 0) (p := true) (x := y3) (rs := [.v (Av asks)]) (as := [.v (Av asks)]) rfl rfl
    rw [e8] at this
    generalize L.map vi = M at *
    generalize Av bel = B at *
    generalize Av asks = A at *
    simp only [fR] at *
    simp at this
    simp [this]
  have e : m__law_right [.own x] = fin 1 (b__law_right [.own true x, .emp, .emp, .emp, .emp, .emp, .emp, .emp, .emp, .emp, .emp, .emp, .emp]) := rfl
  rw [e]
  unfold b__law_right
  rw [seq_nx q1, seq_nx e4, seq_nx q5, seq_nx q6, seq_nx q7, q8]
  rfl
end Z
namespace Z
open PySem (Str)
/-! ### the law -/
theorem e18 : fPow (.int 10) (.int 18) = some (.v (.int 1000000000000000000)) := by
  rw [fPow_ok (by omega) (by omega) (by omega) (by omega)]
  rfl
theorem box_ok {g : Int} : ∃ x, IsBox 0 x ∧ (m__law_box [.v (.int g)]).out = .ok (.own x) := by
  have m1 := Int.emod_nonneg (if g < 0 then -g else g) (show (2147483629 : Int) ≠ 0 by omega)
  have m2 := Int.emod_lt_of_pos (if g < 0 then -g else g) (show (0 : Int) < 2147483629 by omega)
  have e1 : fMod (.int (if g < 0 then -g else g)) (.int 2147483629) = some (.v (.int ((if g < 0 then -g else g) % 2147483629))) := fMod_ok (by omega)
  generalize hz : (if g < 0 then -g else g) = z at *
  refine ⟨.lst [.int z, .bl (decide (1000000000000000000 ≤ z)), .int (z % 2147483629), .int 0], ⟨_, _, _, _, rfl, m1, m2, by omega, by omega⟩, ?_⟩
  simp [m__law_box, b__law_box, hz, e1, e18, -fMod_int]
theorem sum_take (ns : List Int) : ∃ t : Int, fSumX [.lst (cutG (ns.map Val.int) none (some 1))] = some (.v (.int t)) := by
  have : ∃ ms : List Int, cutG (ns.map Val.int) none (some 1) = ms.map Val.int := by
    unfold cutG
    exact ⟨(ns.drop _).take _, by rw [List.map_take, List.map_drop]⟩
  obtain ⟨ms, e⟩ := this
  rw [e, fSumX_lst, ints?_map]
  exact ⟨_, rfl⟩
theorem cell_ok {ns : List Int} {k : Nat} (hk : k ≤ 100) : ∃ g : Int, (m__law_cell [.v (.scr ns), .v (vi k)]).out = .ok (.v (.int g)) := by
  by_cases h : k < ns.length
  · have a : Z.atV (ns.map Val.int) (k : Int) = some (.int ns[k]) := by
      unfold Z.atV
      rw [if_pos (by omega), Int.toNat_natCast, List.getElem?_map, List.getElem?_eq_getElem h]
      rfl
    refine ⟨ns[k], ?_⟩
    simp only [vi]
    simp [m__law_cell, b__law_cell, h, a]
  · obtain ⟨t, ht⟩ := sum_take ns
    have e1 : fMod (.int t) (.int 1000033) = some (.v (.int (t % 1000033))) := fMod_ok (by omega)
    have e2 : fMul (.int 6007) (.int k) = some (.v (.int (6007 * (k : Int)))) := fMul_ok (by omega) (by omega) (by omega) (by omega)
    refine ⟨6007 * (k : Int) + t % 1000033, ?_⟩
    simp only [vi]
    simp [m__law_cell, b__law_cell, h, ht, e1, e2, -fMod_int, -fMul_int, -fSumX_lst]
theorem law_ok (ns : List Int) (hl : ns.length ≤ 63) : ∃ ps, m_law [.v (.scr ns)] = .ok (.v (.bl true)) ps := by
  have key : ∀ n : Nat, n ≤ 63 → ∃ e', forL (tgN 1) b_law_1 (rangeV 0 n) [.v (.scr ns), .emp] = .ok .nx e' ∧ ∃ s : Slot, (s = .emp ∨ ∃ x, s = .v x) ∧ e' = [.v (.scr ns), s] := by
    intro n hn
    refine range_run (fun i e => ∃ s : Slot, (s = .emp ∨ ∃ x, s = .v x) ∧ e = [.v (.scr ns), s]) ⟨.emp, .inl rfl, rfl⟩ fun i e hi ⟨s, hs, he⟩ => ?_
    subst he
    obtain ⟨g, e1⟩ := cell_ok (ns := ns) (k := i) (by omega)
    obtain ⟨x, hb, e2⟩ := box_ok (g := g)
    have e3 := right_ok hb
    refine ⟨[.v (.scr ns), .v (vi i)], [.v (.scr ns), .v (vi i)], ?_, .inl ?_, _, .inr ⟨_, rfl⟩, rfl⟩
    · rcases hs with rfl | ⟨u, rfl⟩ <;> simp
    · simp only [vi] at *
      simp [e1, e2, e3]
  have m2 : ∃ n : Nat, n ≤ 63 ∧ (if (if (ns.length : Int) < 5 then (ns.length : Int) else 5) > 2 then (if (ns.length : Int) < 5 then (ns.length : Int) else 5) else 2) = (n : Int) := by
    refine ⟨max 2 (min 5 ns.length), by omega, ?_⟩
    split <;> split <;> omega
  obtain ⟨n, hn, en⟩ := m2
  obtain ⟨e', h1, s, hs, he⟩ := key n hn
  subst he
  have r1 : inR (n : Int) = true := inR_of (by omega) (by omega)
  have en' : (if (2 : Int) < (if (ns.length : Int) < 5 then (ns.length : Int) else 5) then (if (ns.length : Int) < 5 then (ns.length : Int) else 5) else 2) = (n : Int) := en
  refine ⟨[.v (.scr ns)], ?_⟩
  simp [m_law, b_law, en', rng1_int _ r1, h1]
end Z
open PySem PySem.W PyProof.Rows
set_option maxRecDepth 100000 in
set_option maxHeartbeats 0 in
theorem PySem.Challenge.cw_schedbench_k61_pages_and_rules_holds : PySem.Challenge.rw_schedbench_k61_pages_and_rules.Holds := by
  w_on; o_law; k_head; (case hw => w_witness2)
  k_fill
  refine Z.law_walk (l := PySem.Challenge.rw_schedbench_k61_pages_and_rules) (k := 13) (m := Z.m_law) Z.law_ok rfl rfl ⟨rfl, by decide, by decide⟩ (fun w h Y => PySem.W.kIn_of Y) ?F
  case F =>
    intro w mg fa h KX G hmg
    refine Z.law_fn hmg ?zfacts
    case zfacts =>
      refine' Z.all_mk KX G ?n_int ?a__law_take ?l__law_take ?c__law_take ?k__law_take ?n_range ?n_tuple ?a__law_asks ?l__law_asks ?c__law_asks ?k__law_asks ?n_list ?n_len ?a__law_mixed ?l__law_mixed ?c__law_mixed ?k__law_mixed ?a__law_odd_asks ?l__law_odd_asks ?c__law_odd_asks ?k__law_odd_asks ?n_isinstance ?a_is_tuple_of ?l_is_tuple_of ?c_is_tuple_of ?k_is_tuple_of ?n_bool ?a_is_integer ?l_is_integer ?c_is_integer ?k_is_integer ?a_is_between ?l_is_between ?c_is_between ?k_is_between ?n_all ?a_is_row ?l_is_row ?c_is_row ?k_is_row ?g_MOST_PAGE ?g_MOST_ASKS ?a_check_asks ?l_check_asks ?c_check_asks ?k_check_asks ?g_RULES ?l_g_RULES ?n_str ?a_check_rule ?l_check_rule ?c_check_rule ?k_check_rule ?a_last_ask ?l_last_ask ?c_last_ask ?k_last_ask ?a_next_ask ?l_next_ask ?c_next_ask ?k_next_ask ?n_min ?n_max ?a_chosen ?l_chosen ?c_chosen ?k_chosen ?n_enumerate ?a_played ?l_played ?c_played ?k_played ?g_MOST_PLACES ?a_anomaly ?l_anomaly ?c_anomaly ?k_anomaly ?a_check_places ?l_check_places ?c_check_places ?k_check_places ?a_check_all ?l_check_all ?c_check_all ?k_check_all ?a_misses ?l_misses ?c_misses ?k_misses ?a_evicted ?l_evicted ?c_evicted ?k_evicted ?a__law_said ?l__law_said ?c__law_said ?k__law_said ?a__law_same ?l__law_same ?c__law_same ?k__law_same ?a__law_refused ?l__law_refused ?c__law_refused ?k__law_refused ?n_sorted ?n_zip ?a__law_cached ?l__law_cached ?c__law_cached ?k__law_cached ?a__law_right ?l__law_right ?c__law_right ?k__law_right ?n_abs ?a__law_box ?l__law_box ?c__law_box ?k__law_box ?n_sum ?a__law_cell ?l__law_cell ?c__law_cell ?k__law_cell ?a_law ?l_law ?c_law ?k_law ?aC_InvalidAsks ?xL_InvalidAsks ?bv_InvalidAsks ?sa_InvalidAsks ?ga_InvalidAsks ?gg_InvalidAsks ?nb_InvalidAsks ?aI_InvalidAsks ?tI_InvalidAsks ?lI_InvalidAsks ?cI_InvalidAsks ?kC_InvalidAsks ?eC_InvalidAsks ?tC_InvalidAsks ?hC_InvalidAsks ?iC_InvalidAsks ?aC_InvalidRule ?xL_InvalidRule ?bv_InvalidRule ?sa_InvalidRule ?ga_InvalidRule ?gg_InvalidRule ?nb_InvalidRule ?aI_InvalidRule ?tI_InvalidRule ?lI_InvalidRule ?cI_InvalidRule ?kC_InvalidRule ?eC_InvalidRule ?tC_InvalidRule ?hC_InvalidRule ?iC_InvalidRule ?aC_InvalidPlaces ?xL_InvalidPlaces ?bv_InvalidPlaces ?sa_InvalidPlaces ?ga_InvalidPlaces ?gg_InvalidPlaces ?nb_InvalidPlaces ?aI_InvalidPlaces ?tI_InvalidPlaces ?lI_InvalidPlaces ?cI_InvalidPlaces ?kC_InvalidPlaces ?eC_InvalidPlaces ?tC_InvalidPlaces ?hC_InvalidPlaces ?iC_InvalidPlaces ?s_InvalidAsks_InvalidAsks ?s_InvalidAsks_InvalidPlaces ?s_InvalidAsks_InvalidRule ?s_InvalidPlaces_InvalidAsks ?s_InvalidPlaces_InvalidPlaces ?s_InvalidPlaces_InvalidRule ?s_InvalidRule_InvalidAsks ?s_InvalidRule_InvalidPlaces ?s_InvalidRule_InvalidRule
      (case n_int => k_is)
      (case a__law_take => k_is)
      (case l__law_take => k_is)
      (case c__law_take => k_is)
      (case k__law_take => k_is)
      (case n_range => k_is)
      (case n_tuple => k_is)
      (case a__law_asks => k_is)
      (case l__law_asks => k_is)
      (case c__law_asks => k_is)
      (case k__law_asks => k_is)
      (case n_list => k_is)
      (case n_len => k_is)
      (case a__law_mixed => k_is)
      (case l__law_mixed => k_is)
      (case c__law_mixed => k_is)
      (case k__law_mixed => k_is)
      (case a__law_odd_asks => k_is)
      (case l__law_odd_asks => k_is)
      (case c__law_odd_asks => k_is)
      (case k__law_odd_asks => k_is)
      (case n_isinstance => k_is)
      (case a_is_tuple_of => k_is)
      (case l_is_tuple_of => k_is)
      (case c_is_tuple_of => k_is)
      (case k_is_tuple_of => k_is)
      (case n_bool => k_is)
      (case a_is_integer => k_is)
      (case l_is_integer => k_is)
      (case c_is_integer => k_is)
      (case k_is_integer => k_is)
      (case a_is_between => k_is)
      (case l_is_between => k_is)
      (case c_is_between => k_is)
      (case k_is_between => k_is)
      (case n_all => k_is)
      (case a_is_row => k_is)
      (case l_is_row => k_is)
      (case c_is_row => k_is)
      (case k_is_row => k_is)
      (case g_MOST_PAGE => k_is)
      (case g_MOST_ASKS => k_is)
      (case a_check_asks => k_is)
      (case l_check_asks => k_is)
      (case c_check_asks => k_is)
      (case k_check_asks => k_is)
      (case g_RULES => k_is)
      (case l_g_RULES => k_is)
      (case n_str => k_is)
      (case a_check_rule => k_is)
      (case l_check_rule => k_is)
      (case c_check_rule => k_is)
      (case k_check_rule => k_is)
      (case a_last_ask => k_is)
      (case l_last_ask => k_is)
      (case c_last_ask => k_is)
      (case k_last_ask => k_is)
      (case a_next_ask => k_is)
      (case l_next_ask => k_is)
      (case c_next_ask => k_is)
      (case k_next_ask => k_is)
      (case n_min => k_is)
      (case n_max => k_is)
      (case a_chosen => k_is)
      (case l_chosen => k_is)
      (case c_chosen => k_is)
      (case k_chosen => k_is)
      (case n_enumerate => k_is)
      (case a_played => k_is)
      (case l_played => k_is)
      (case c_played => k_is)
      (case k_played => k_is)
      (case g_MOST_PLACES => k_is)
      (case a_anomaly => k_is)
      (case l_anomaly => k_is)
      (case c_anomaly => k_is)
      (case k_anomaly => k_is)
      (case a_check_places => k_is)
      (case l_check_places => k_is)
      (case c_check_places => k_is)
      (case k_check_places => k_is)
      (case a_check_all => k_is)
      (case l_check_all => k_is)
      (case c_check_all => k_is)
      (case k_check_all => k_is)
      (case a_misses => k_is)
      (case l_misses => k_is)
      (case c_misses => k_is)
      (case k_misses => k_is)
      (case a_evicted => k_is)
      (case l_evicted => k_is)
      (case c_evicted => k_is)
      (case k_evicted => k_is)
      (case a__law_said => k_is)
      (case l__law_said => k_is)
      (case c__law_said => k_is)
      (case k__law_said => k_is)
      (case a__law_same => k_is)
      (case l__law_same => k_is)
      (case c__law_same => k_is)
      (case k__law_same => k_is)
      (case a__law_refused => k_is)
      (case l__law_refused => k_is)
      (case c__law_refused => k_is)
      (case k__law_refused => k_is)
      (case n_sorted => k_is)
      (case n_zip => k_is)
      (case a__law_cached => k_is)
      (case l__law_cached => k_is)
      (case c__law_cached => k_is)
      (case k__law_cached => k_is)
      (case a__law_right => k_is)
      (case l__law_right => k_is)
      (case c__law_right => k_is)
      (case k__law_right => k_is)
      (case n_abs => k_is)
      (case a__law_box => k_is)
      (case l__law_box => k_is)
      (case c__law_box => k_is)
      (case k__law_box => k_is)
      (case n_sum => k_is)
      (case a__law_cell => k_is)
      (case l__law_cell => k_is)
      (case c__law_cell => k_is)
      (case k__law_cell => k_is)
      (case a_law => k_is)
      (case l_law => k_is)
      (case c_law => k_is)
      (case k_law => k_is)
      (case aC_InvalidAsks => k_is)
      (case xL_InvalidAsks => k_is)
      (case sa_InvalidAsks => k_is)
      (case ga_InvalidAsks => k_is)
      (case gg_InvalidAsks => k_is)
      (case nb_InvalidAsks => k_is)
      (case aI_InvalidAsks => k_is)
      (case tI_InvalidAsks => k_is)
      (case lI_InvalidAsks => k_is)
      (case cI_InvalidAsks => k_is)
      (case kC_InvalidAsks => k_is)
      (case eC_InvalidAsks => k_is)
      (case tC_InvalidAsks => k_is)
      (case hC_InvalidAsks => k_is)
      (case iC_InvalidAsks => k_is)
      (case aC_InvalidRule => k_is)
      (case xL_InvalidRule => k_is)
      (case sa_InvalidRule => k_is)
      (case ga_InvalidRule => k_is)
      (case gg_InvalidRule => k_is)
      (case nb_InvalidRule => k_is)
      (case aI_InvalidRule => k_is)
      (case tI_InvalidRule => k_is)
      (case lI_InvalidRule => k_is)
      (case cI_InvalidRule => k_is)
      (case kC_InvalidRule => k_is)
      (case eC_InvalidRule => k_is)
      (case tC_InvalidRule => k_is)
      (case hC_InvalidRule => k_is)
      (case iC_InvalidRule => k_is)
      (case aC_InvalidPlaces => k_is)
      (case xL_InvalidPlaces => k_is)
      (case sa_InvalidPlaces => k_is)
      (case ga_InvalidPlaces => k_is)
      (case gg_InvalidPlaces => k_is)
      (case nb_InvalidPlaces => k_is)
      (case aI_InvalidPlaces => k_is)
      (case tI_InvalidPlaces => k_is)
      (case lI_InvalidPlaces => k_is)
      (case cI_InvalidPlaces => k_is)
      (case kC_InvalidPlaces => k_is)
      (case eC_InvalidPlaces => k_is)
      (case tC_InvalidPlaces => k_is)
      (case hC_InvalidPlaces => k_is)
      (case iC_InvalidPlaces => k_is)
      (case s_InvalidAsks_InvalidAsks => first | k_is | rfl)
      (case s_InvalidAsks_InvalidPlaces => first | k_is | rfl)
      (case s_InvalidAsks_InvalidRule => first | k_is | rfl)
      (case s_InvalidPlaces_InvalidAsks => first | k_is | rfl)
      (case s_InvalidPlaces_InvalidPlaces => first | k_is | rfl)
      (case s_InvalidPlaces_InvalidRule => first | k_is | rfl)
      (case s_InvalidRule_InvalidAsks => first | k_is | rfl)
      (case s_InvalidRule_InvalidPlaces => first | k_is | rfl)
      (case s_InvalidRule_InvalidRule => first | k_is | rfl)
      (case bv_InvalidAsks => decide +kernel)
      (case bv_InvalidRule => decide +kernel)
      (case bv_InvalidPlaces => decide +kernel)
#print axioms PySem.Challenge.cw_schedbench_k61_pages_and_rules_holds
