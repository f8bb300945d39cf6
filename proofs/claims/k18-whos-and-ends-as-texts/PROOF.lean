import PyProof.Rows.All
import Wide.All
import OpenK.AllK
import Wide.FinOn
import HandS.ForMost
import HandS.Text
import HandS.FStr
import HandS.RaiseMore
import HandS.Exc
import HandS.ExcOwn
import HandS.TryMany
import HandS.TupAny
import HandS.IsInst
import PyProof.ReprRoads
import KE.KExcIs
import HandS.ExcField
import HandS.ExcIs
import HandS.TryOnly
import HandS.Style
import HandS.WideBits
import PySem.Challenge.RW_onefacers_k18_whos_and_ends_as_texts
set_option Elab.async false
set_option linter.all false
/-! An evaluator of plain data for the part of Python that the program uses: values are trees; a list that is changed is owned by one name. -/
namespace Ev
open PySem

inductive Dat where
  | non | bl (b : Bool) | int (i : Int) | str (s : Str)
  | lst (xs : List Dat) | tup (xs : List Dat) | dic (kvs : List (Dat × Dat))
  | scr (ns : List Int)

inductive Slot where
  | no | val (d : Dat) | own (d : Dat) | exn (c : Str) (fs : List (Str × Dat))
abbrev DEnv := List Slot

inductive Res (α : Type) where
  | ok (a : α) | exc (c : Str) (fs : List (Str × Dat)) (ρ : DEnv) | stuck

def Res.bind {α β : Type} (r : Res α) (f : α → Res β) : Res β :=
  match r with
  | .ok a => f a
  | .exc c fs ρ => .exc c fs ρ
  | .stuck => .stuck

def ofO {α : Type} : Option α → Res α
  | some a => .ok a
  | none => .stuck

theorem bindOk {α β : Type} {a : α} {f : α → Res β} : (Res.ok a).bind f = f a := rfl
theorem ofOs {α : Type} {a : α} : ofO (some a) = .ok a := rfl
theorem Res.bind_ok {α β : Type} {r : Res α} {f : α → Res β} {b : β} (h : r.bind f = .ok b) : ∃ a, r = .ok a ∧ f a = .ok b := by
  cases r with
  | ok a => exact ⟨a, rfl, h⟩
  | exc c fs ρ => cases h
  | stuck => cases h
theorem Res.bind_exc {α β : Type} {r : Res α} {f : α → Res β} {c : Str} {fs : List (Str × Dat)} {ρ : DEnv} (h : r.bind f = .exc c fs ρ) : r = .exc c fs ρ ∨ ∃ a, r = .ok a ∧ f a = .exc c fs ρ := by
  cases r with
  | ok a => exact .inr ⟨a, rfl, h⟩
  | exc c fs ρ => cases h; exact .inl rfl
  | stuck => cases h
theorem ofO_exc {α : Type} {o : Option α} {c : Str} {fs : List (Str × Dat)} {ρ : DEnv} (h : ofO o = .exc c fs ρ) : False := by
  cases o <;> cases h
theorem ofO_ok {α : Type} {o : Option α} {a : α} (h : ofO o = .ok a) : o = some a := by
  cases o with
  | none => cases h
  | some b => cases h; rfl

inductive Mode where
  | frz | fresh | brw (i : Nat)

inductive BI where
  | len | max | min | all | tuple | list | repr | str | int
  deriving DecidableEq

mutual
inductive IE where
  | var (i : Nat)
  | cst (d : Dat)
  | glb (x : Str)
  | tup (es : IEs)
  | lst (es : IEs)
  | dic0
  | dic1 (k v : IE)
  | bin (op : Operator) (a b : IE)
  | neg (a : IE)
  | not (a : IE)
  | and (a b : IE)
  | or (a b : IE)
  | cmp (op : CmpOp) (a b : IE)
  | cmp2 (o p : CmpOp) (a b c : IE)
  | ite (c a b : IE)
  | idx (a b : IE)
  | slcL (a lo : IE)
  | slcR (a hi : IE)
  | call (f : Str) (as : IEs)
  | bi (b : BI) (as : IEs)
  | isi (a : IE) (ty : String)
  | join (o a : IE)
  | upper (o : IE)
  | lc (elt : IE) (tg : Nat) (it : IE) (own : List (Str × Nat))
  | lcI (elt : IE) (tg : Nat) (it : IE) (cond : IE) (own : List (Str × Nat))
  | lcR (elt : IE) (tg : Nat) (a : IE) (own : List (Str × Nat))
  | split (o a : IE)
  | fst (es : IEs)
  | isN (b : Bool) (a : IE)
  | isE (i : Nat) (cs : List Str)
  | fldE (i : Nat) (f : Str)
  | callK (f : Str) (ks : List Str) (as : IEs)
inductive IEs where
  | nil
  | cons (e : IE) (es : IEs)
end

/-- a list that is owned or new is read as it stands now -/
def now (d : Dat) (m : Mode) (ρ : DEnv) : Option Dat :=
  match m with
  | .brw i => (match ρ[i]? with
    | some (.own d') => some d'
    | some (.val d') => some d'
    | _ => none)
  | _ => some d

/-- a value that is handed on: nobody may change it any more -/
def keep (m : Mode) (ρ : DEnv) (d : Dat) : DEnv :=
  match m with
  | .brw i => ρ.set i (.val d)
  | _ => ρ

def sm (n : Nat) : Bool := decide (n ≤ 100000)

mutual
def Dat.toPy : Dat → PyData
  | .non => .none
  | .bl b => .bool b
  | .int i => .int i
  | .str s => .str s
  | .lst xs => .list (toPys xs)
  | .tup xs => .tuple (toPys xs)
  | .dic kvs => .dict (toPyKv kvs)
  | .scr ns => .list (ns.map PyData.int)
def toPys : List Dat → List PyData
  | [] => []
  | d :: ds => d.toPy :: toPys ds
def toPyKv : List (Dat × Dat) → List (PyData × PyData)
  | [] => []
  | (k, v) :: r => (k.toPy, v.toPy) :: toPyKv r
end

def binD (op : Operator) (a b : Dat) : Option (Dat × Mode) :=
  match op, a, b with
  | .Add, .int i, .int j => some (.int (i + j), .frz)
  | .Sub, .int i, .int j => some (.int (i - j), .frz)
  | .Mult, .int i, .int j => if (-(2 ^ 64) < j ∧ j < 2 ^ 64) ∨ (-(2 ^ 64) < i ∧ i < 2 ^ 64) then some (.int (i * j), .frz) else none
  | .Mod, .int i, .int j => if 0 < j then some (.int (i % j), .frz) else none
  | .FloorDiv, .int i, .int j => if 0 < j ∧ j < 1073741824 then some (.int (i / j), .frz) else none
  | .Pow, .int i, .int j => if 0 ≤ j ∧ j ≤ 1000000 ∧ i.natAbs < 2 ^ 64 then some (.int (i ^ j.toNat), .frz) else none
  | .Add, .str x, .str y => if sm (x.length + y.length) then some (.str (x ++ y), .frz) else none
  | .Add, .lst xs, .lst ys => if sm (xs.length + ys.length) then some (.lst (xs ++ ys), .fresh) else none
  | .Add, .tup xs, .tup ys => if sm (xs.length + ys.length) then some (.tup (xs ++ ys), .frz) else none
  | .Mult, .str x, .int j => if 1 < j ∧ j ≤ 1000 ∧ x.length ≤ 100 then some (.str (Txt.mul x j), .frz) else none
  | _, _, _ => none

def Dat.isNon : Dat → Bool
  | .non => true
  | _ => false
/-- flat data, by which == and in are plain -/
def Dat.flat : Dat → Bool
  | .non => true
  | .bl _ => true
  | .int _ => true
  | .str _ => true
  | _ => false

/-- how deep, how wide (bounds for the machine) -/
def Dat.fit (d : Dat) : Bool := PySem.SeqAt.shaped d.toPy

def intsD (p : Int → Int → Bool) (a b : Dat) : Option Bool :=
  match a, b with
  | .int i, .int j => some (p i j)
  | _, _ => none
def inD (a b : Dat) : Option Bool :=
  match b with
  | .str z => (match a with
    | .str w => (match w.cps.toList with
      | [c] => some (decide (c ∈ z.cps.toList))
      | _ => none)
    | _ => none)
  | .lst ys => if a.flat && ys.all Dat.flat then some (ys.any fun y => PyData.eqv y.toPy a.toPy) else none
  | _ => none
/-- == of two plain values of one kind -/
def eqFlat (a b : Dat) : Option Bool :=
  match a, b with
  | .str x, .str y => some (decide (x = y))
  | .int x, .int y => some (decide (x = y))
  | .bl x, .bl y => some (decide (x = y))
  | .non, .non => some true
  | _, _ => none
def eqD (a b : Dat) : Option Bool :=
  match eqFlat a b with
  | some r => some r
  | none => if a.fit && b.fit then some (PyData.eqv a.toPy b.toPy) else
  match b with
  | .tup [] => (match a with | .tup xs => some xs.isEmpty | _ => none)
  | .lst [] => (match a with | .lst xs => some xs.isEmpty | _ => none)
  | _ => none
def cmpD (op : CmpOp) (a b : Dat) : Option Bool :=
  match op with
  | .Lt => intsD (fun i j => decide (i < j)) a b
  | .LtE => intsD (fun i j => decide (i ≤ j)) a b
  | .Gt => intsD (fun i j => decide (j < i)) a b
  | .GtE => intsD (fun i j => decide (j ≤ i)) a b
  | .In => inD a b
  | .NotIn => (inD a b).map (!·)
  | .Eq => eqD a b
  | .NotEq => (match eqFlat a b with
    | some r => some (!r)
    | none => if a.fit && b.fit then some (!PyData.eqv a.toPy b.toPy) else none)
  | _ => none

def Dat.tyn : Dat → String
  | .non => "NoneType" | .bl _ => "bool" | .int _ => "int" | .str _ => "str" | .lst _ => "list" | .tup _ => "tuple" | .dic _ => "dict" | .scr _ => "list"
def tys6 : List String := ["int", "bool", "str", "tuple", "list", "dict"]
def isaN (t ty : String) : Bool := (t == ty) || (t == "bool" && ty == "int")
def Dat.isa (d : Dat) (ty : String) : Option Bool := if ty ∈ tys6 then some (isaN d.tyn ty) else none

def idxD (a b : Dat) : Option Dat :=
  match a, b with
  | .lst xs, .int i => L2.atI xs i
  | .tup xs, .int i => L2.atI xs i
  | .scr ns, .int i => (L2.atI ns i).map .int
  | .str x, .int i => if sm x.length then (L2.atI x.cps.toList i).map fun c => .str ⟨#[c]⟩ else none
  | _, _ => none

/-- the part of a list from lo on, below hi -/
def cut {α : Type} (xs : List α) (lo hi : Option Int) : List α := (xs.drop (HT.sIx xs.length 0 lo)).take (HT.sIx xs.length xs.length hi - HT.sIx xs.length 0 lo)
def slcD (a : Dat) (lo hi : Option Int) : Option (Dat × Mode) :=
  match a with
  | .lst xs => some (.lst (cut xs lo hi), .fresh)
  | .tup xs => some (.tup (cut xs lo hi), .frz)
  | .str x => if sm x.length then some (.str (L2.cutS x lo hi), .frz) else none
  | _ => none

def ints? : List Dat → Option (List Int)
  | [] => some []
  | .int i :: r => (ints? r).map (i :: ·)
  | _ :: _ => none
def strs? : List Dat → Option (List Str)
  | [] => some []
  | .str x :: r => (strs? r).map (x :: ·)
  | _ :: _ => none
def bls? : List Dat → Option (List Bool)
  | [] => some []
  | .bl b :: r => (bls? r).map (b :: ·)
  | _ :: _ => none

mutual
def Dat.noLst : Dat → Bool
  | .lst _ => false
  | .scr _ => false
  | .tup xs => noLsts xs
  | .dic kvs => noLstKv kvs
  | _ => true
def noLsts : List Dat → Bool
  | [] => true
  | d :: ds => d.noLst && noLsts ds
def noLstKv : List (Dat × Dat) → Bool
  | [] => true
  | (k, v) :: r => k.noLst && v.noLst && noLstKv r
end
/-- whose repr is told -/
def Dat.tell (d : Dat) : Bool := d.toPy.showable && decide (d.toPy.depth ≤ 40) && sm d.toPy.shown.length && (!d.toPy.hasDict || d.noLst)

def biD (b : BI) (as : List Dat) : Option (Dat × Mode) :=
  match b, as with
  | .len, [.lst xs] => some (.int xs.length, .frz)
  | .len, [.tup xs] => some (.int xs.length, .frz)
  | .len, [.scr ns] => some (.int ns.length, .frz)
  | .len, [.str x] => if sm x.length then some (.int x.length, .frz) else none
  | .max, [.int i, .int j] => some (.int (if j > i then j else i), .frz)
  | .min, [.int i, .int j] => some (.int (if j < i then j else i), .frz)
  | .max, [.lst xs] => (ints? xs).bind fun ns => match ns with
    | [] => none
    | n :: r => some (.int (r.foldl (fun a b => if b > a then b else a) n), .frz)
  | .all, [.lst xs] => (bls? xs).map fun bs => (.bl (bs.all id), .frz)
  | .tuple, [.lst xs] => some (.tup xs, .frz)
  | .list, [.tup xs] => some (.lst xs, .fresh)
  | .list, [.lst xs] => some (.lst xs, .fresh)
  | .repr, [d] => if d.tell then some (.str d.toPy.shown, .frz) else none
  | .str, [.str x] => some (.str x, .frz)
  | .str, [.int i] => if i.natAbs < 2 ^ 64 then some (.str (toString i), .frz) else none
  | .int, [.int i] => some (.int i, .frz)
  | .int, [.bl b] => some (.int (if b then 1 else 0), .frz)
  | .int, [.str x] => if x.length ≤ 640 then (PySem.intText? x).map fun i => (.int i, .frz) else none
  | _, _ => none

def items : Dat → Option (List Dat)
  | .lst xs => some xs
  | .tup xs => some xs
  | .str x => some (x.cps.toList.map fun c => .str ⟨#[c]⟩)
  | _ => none

/-- a def: which of its parameters it may change; what it comes to: its value, whether that is new, what the changed ones hold then -/
structure FI where
  io : List Bool
  run : List Dat → Res (Dat × Bool × List Dat)

end Ev
namespace Ev
open PySem
/-- what the module's names stand for: plain constants, defs -/
structure Tab where
  con : Str → Option Dat
  fn : Str → Option FI
  /-- of two classes of exceptions, whether the one stands under the other -/
  sub : Str → Str → Option Bool
  /-- the classes of exceptions, each with its fields -/
  exc : Str → Option (List Str)
  /-- by which names a def's parameters may be told -/
  kw : Str → Option (List Str)
section
variable (T : Tab)

/-- the arguments of a def: what is handed on; at the places that may be changed a name's slot -/
inductive GE where
  | val (d : Dat) | slot (i : Nat) | tmp (d : Dat)
abbrev Got := List GE

def ioSlot : IE → Option Nat
  | .var i => some i
  | _ => none

def readArgs (ρ : DEnv) : Got → Option (List Dat)
  | [] => some []
  | .val d :: r => (readArgs ρ r).map (d :: ·)
  | .tmp d :: r => (readArgs ρ r).map (d :: ·)
  | .slot i :: r => (match ρ[i]? with
    | some (.own d) => (readArgs ρ r).map (d :: ·)
    | _ => none)
def putBack (ρ : DEnv) : Got → List Dat → DEnv
  | .val _ :: r, ds => putBack ρ r ds
  | .tmp _ :: r, _ :: ds => putBack ρ r ds
  | .slot i :: r, d :: ds => putBack (ρ.set i (.own d)) r ds
  | _, _ => ρ
/-- .. where the def let an exception out -/
def putX (ρ : DEnv) : Got → DEnv → DEnv
  | .val _ :: r, ss => putX ρ r ss
  | .tmp _ :: r, _ :: ss => putX ρ r ss
  | .slot i :: r, s :: ss => putX (ρ.set i s) r ss
  | _, _ => ρ
def slotsOf : Got → List Nat
  | [] => []
  | .val _ :: r => slotsOf r
  | .tmp _ :: r => slotsOf r
  | .slot i :: r => i :: slotsOf r

def put : Option Dat → List Dat → List Dat
  | some y, ys => y :: ys
  | none, ys => ys
/-- the turns of a comprehension -/
def turns (one : Dat → DEnv → Res (Option Dat × DEnv)) : List Dat → DEnv → Res (List Dat × DEnv)
  | [], ρ => .ok ([], ρ)
  | x :: r, ρ => (one x ρ).bind fun (o, ρ1) => (turns one r ρ1).bind fun (ys, ρ2) => .ok (put o ys, ρ2)

def wipeE (ρ : DEnv) : List Nat → DEnv
  | [] => ρ
  | v :: vs => (wipeE ρ vs).set v .no
/-- behind a comprehension its own names hold again what they held -/
def back (ρ ρ' : DEnv) (vs : List Nat) : DEnv := ρ'.mapIdx fun i s => if vs.contains i then ρ.getD i .no else s
def calmAt (ρ : DEnv) (vs : List Nat) : Bool := vs.all fun v => match ρ[v]? with
  | some (.own _) => false
  | some _ => true
  | none => false
/-- a comprehension: what is walked, one turn -/
def comp (vs : List Nat) (one : Dat → DEnv → Res (Option Dat × DEnv)) (xs : List Dat) (ρ : DEnv) : Res (Dat × Mode × DEnv) :=
  if sm xs.length && calmAt ρ vs then (match turns one xs ρ with
    | .ok (ys, ρ2) => .ok (.lst ys, .fresh, back ρ ρ2 vs)
    | .exc c fs ρ2 => .exc c fs (back ρ ρ2 vs)
    | .stuck => .stuck) else .stuck
/-- a call of a def, its arguments at hand -/
def callD (fi : FI) (g : Got) (ρ1 : DEnv) : Res (Dat × Mode × DEnv) :=
  if (slotsOf g).Nodup ∧ g.length = fi.io.length then
    (ofO (readArgs ρ1 g)).bind fun ds => (match fi.run ds with
      | .ok (d, new, outs) => .ok (d, if new then .fresh else .frz, putBack ρ1 g outs)
      | .exc c fs ss => .exc c fs (putX ρ1 g ss)
      | .stuck => .stuck)
  else .stuck
/-- a part of an f-text, behind what is there -/
def fmtD (acc : Str) : Dat → Option Str
  | .str x => if sm (acc ++ x).length && sm x.length then some (acc ++ x) else none
  | .int i => if i.natAbs < 2 ^ 64 ∧ sm (acc ++ toString i).length = true then some (acc ++ toString i) else none
  | _ => none
def subs (T : Tab) (c : Str) : List Str → Option Bool
  | [] => some false
  | d :: r => (match T.sub c d with
    | some true => some true
    | some false => subs T c r
    | none => none)

/-- one turn of a comprehension, by what its element (and its test) come to -/
def oneOf (e : DEnv → Res (Dat × Mode × DEnv)) (tg : Nat) (vs : List Nat) : Dat → DEnv → Res (Option Dat × DEnv) := fun x ρ' =>
  (e ((wipeE ρ' vs).set tg (.val x))).bind fun (y, m, ρ'') => .ok (some y, keep m ρ'' y)
def oneIf (c e : DEnv → Res (Dat × Mode × DEnv)) (tg : Nat) (vs : List Nat) : Dat → DEnv → Res (Option Dat × DEnv) := fun x ρ' =>
  (c ((wipeE ρ' vs).set tg (.val x))).bind fun (z, _, ρa) => (match z with
    | .bl true => (e ρa).bind fun (y, m, ρ'') => .ok (some y, keep m ρ'' y)
    | .bl false => .ok (none, ρa)
    | _ => .stuck)

mutual
def ev : IE → DEnv → Res (Dat × Mode × DEnv)
  | .var i, ρ => (match ρ[i]? with
    | some (.val d) => .ok (d, .frz, ρ)
    | some (.own d) => .ok (d, .brw i, ρ)
    | _ => .stuck)
  | .cst d, ρ => .ok (d, .frz, ρ)
  | .glb x, ρ => (ofO (T.con x)).bind fun d => .ok (d, .frz, ρ)
  | .tup es, ρ => (evs es ρ).bind fun (ds, ρ1) => if sm ds.length then .ok (.tup ds, .frz, ρ1) else .stuck
  | .lst es, ρ => (evs es ρ).bind fun (ds, ρ1) => if sm ds.length then .ok (.lst ds, .fresh, ρ1) else .stuck
  | .dic0, ρ => .ok (.dic [], .frz, ρ)
  | .dic1 k v, ρ => (ev k ρ).bind fun (x, _, ρ1) => (match x with
      | .str s => (ev v ρ1).bind fun (d, m, ρ2) => .ok (.dic [(.str s, d)], .frz, keep m ρ2 d)
      | _ => .stuck)
  | .bin op a b, ρ => (ev a ρ).bind fun (x, m, ρ1) => (ev b ρ1).bind fun (y, _, ρ2) =>
      (ofO (now x m ρ2)).bind fun x' => (ofO (binD op x' y)).bind fun (d, k) => .ok (d, k, ρ2)
  | .neg a, ρ => (ev a ρ).bind fun (x, _, ρ1) => (match x with | .int i => .ok (.int (-i), .frz, ρ1) | _ => .stuck)
  | .not a, ρ => (ev a ρ).bind fun (x, _, ρ1) => (match x with | .bl b => .ok (.bl (!b), .frz, ρ1) | _ => .stuck)
  | .and a b, ρ => (ev a ρ).bind fun (x, _, ρ1) => (match x with | .bl true => ev b ρ1 | .bl false => .ok (.bl false, .frz, ρ1) | _ => .stuck)
  | .or a b, ρ => (ev a ρ).bind fun (x, _, ρ1) => (match x with | .bl false => ev b ρ1 | .bl true => .ok (.bl true, .frz, ρ1) | _ => .stuck)
  | .cmp op a b, ρ => (ev a ρ).bind fun (x, m, ρ1) => (ev b ρ1).bind fun (y, _, ρ2) =>
      (ofO (now x m ρ2)).bind fun x' => (ofO (cmpD op x' y)).bind fun r => .ok (.bl r, .frz, ρ2)
  | .cmp2 o p a b c, ρ => (ev a ρ).bind fun (x, _, ρ1) => (ev b ρ1).bind fun (y, _, ρ2) => (match x, y with
      | .int i, .int j => (ofO (cmpD o (.int i) (.int j))).bind fun r => (match r with
        | false => .ok (.bl false, .frz, ρ2)
        | true => (ev c ρ2).bind fun (z, _, ρ3) => (match z with
          | .int k => (ofO (cmpD p (.int j) (.int k))).bind fun r' => .ok (.bl r', .frz, ρ3)
          | _ => .stuck))
      | _, _ => .stuck)
  | .ite c a b, ρ => (ev c ρ).bind fun (x, _, ρ1) => (match x with | .bl true => ev a ρ1 | .bl false => ev b ρ1 | _ => .stuck)
  | .idx a b, ρ => (ev a ρ).bind fun (x, m, ρ1) => (ev b ρ1).bind fun (y, _, ρ2) =>
      (ofO (now x m ρ2)).bind fun x' => (ofO (idxD x' y)).bind fun d => .ok (d, .frz, ρ2)
  | .slcL a b, ρ => (ev a ρ).bind fun (x, m, ρ1) => (ev b ρ1).bind fun (y, _, ρ2) =>
      (ofO (now x m ρ2)).bind fun x' => (match y with | .int i => (ofO (slcD x' (some i) none)).bind fun (d, k) => .ok (d, k, ρ2) | _ => .stuck)
  | .slcR a b, ρ => (ev a ρ).bind fun (x, m, ρ1) => (ev b ρ1).bind fun (y, _, ρ2) =>
      (ofO (now x m ρ2)).bind fun x' => (match y with | .int i => (ofO (slcD x' none (some i))).bind fun (d, k) => .ok (d, k, ρ2) | _ => .stuck)
  | .call f as, ρ => (match T.fn f with
    | none => .stuck
    | some fi => (evArgs fi.io as ρ).bind fun (g, ρ1) => callD fi g ρ1)
  | .bi b (.cons a .nil), ρ => (ev a ρ).bind fun (x, _, ρ1) => (ofO (biD b [x])).bind fun (d, k) => .ok (d, k, ρ1)
  | .bi b (.cons a (.cons c .nil)), ρ => (ev a ρ).bind fun (x, m, ρ1) => (ev c ρ1).bind fun (y, _, ρ2) => (ofO (now x m ρ2)).bind fun x' => (ofO (biD b [x', y])).bind fun (d, k) => .ok (d, k, ρ2)
  | .bi _ _, ρ => .stuck
  | .isi a ty, ρ => (ev a ρ).bind fun (x, _, ρ1) => (ofO (x.isa ty)).bind fun b => .ok (.bl b, .frz, ρ1)
  | .join o a, ρ => (ev o ρ).bind fun (x, _, ρ1) => (match x with
      | .str s => (ev a ρ1).bind fun (y, _, ρ2) => (match y with
        | .lst ys => (ofO (strs? ys)).bind fun zs => if sm ((zs.map (·.length)).sum + zs.length * s.length) then .ok (.str (Txt.join s zs), .frz, ρ2) else .stuck
        | _ => .stuck)
      | _ => .stuck)
  | .upper o, ρ => (ev o ρ).bind fun (x, _, ρ1) => (match x with | .str s => if sm s.length then .ok (.str (Txt.upper s), .frz, ρ1) else .stuck | _ => .stuck)
  | .lc elt tg it own, ρ => (ev it ρ).bind fun (x, m, ρ1) => (ofO (items x)).bind fun xs =>
      comp (own.map (·.2)) (oneOf (ev elt) tg (own.map (·.2))) xs (keep m ρ1 x)
  | .lcI elt tg it cond own, ρ => (ev it ρ).bind fun (x, m, ρ1) => (ofO (items x)).bind fun xs =>
      comp (own.map (·.2)) (oneIf (ev cond) (ev elt) tg (own.map (·.2))) xs (keep m ρ1 x)
  | .lcR elt tg a own, ρ => (ev a ρ).bind fun (x, _, ρ1) => (match x with
      | .int j => if -(2 ^ 62) ≤ j ∧ j < 2 ^ 62 then
        comp (own.map (·.2)) (oneOf (ev elt) tg (own.map (·.2))) ((List.range j.toNat).map fun (k : Nat) => .int (k : Int)) ρ1
        else .stuck
      | _ => .stuck)
  | .split o a, ρ => (ev o ρ).bind fun (x, _, ρ1) => (match x with
      | .str s => (ev a ρ1).bind fun (y, _, ρ2) => (match y with
        | .str t => if sm s.length && !(t.length == 0) then .ok (.lst ((Txt.split s t).map .str), .fresh, ρ2) else .stuck
        | _ => .stuck)
      | _ => .stuck)
  | .fst es, ρ => (evF es Str.empty ρ).bind fun (z, ρ1) => .ok (.str z, .frz, ρ1)
  | .isN b a, ρ => (ev a ρ).bind fun (x, _, ρ1) => .ok (.bl (if b then x.isNon else !x.isNon), .frz, ρ1)
  | .isE i cs, ρ => (match ρ[i]? with
    | some (.exn c _) => (ofO (subs T c cs)).bind fun b => .ok (.bl b, .frz, ρ)
    | _ => .stuck)
  | .fldE i f, ρ => (match ρ[i]? with
    | some (.exn c fs) => if (T.exc c).any (·.contains f) then (ofO (fs.lookup f)).bind fun d => .ok (d, .frz, ρ) else .stuck
    | _ => .stuck)
  | .callK f ks as, ρ => (match T.fn f with
    | none => .stuck
    | some fi => if T.kw f = some ks ∧ fi.io.all (!·) = true then (evs as ρ).bind fun (ds, ρ1) => callD fi (ds.map .val) ρ1 else .stuck)
def evF : IEs → Str → DEnv → Res (Str × DEnv)
  | .nil, acc, ρ => .ok (acc, ρ)
  | .cons e es, acc, ρ => (ev e ρ).bind fun (d, _, ρ1) => (ofO (fmtD acc d)).bind fun acc' => evF es acc' ρ1
def evs : IEs → DEnv → Res (List Dat × DEnv)
  | .nil, ρ => .ok ([], ρ)
  | .cons e es, ρ => (ev e ρ).bind fun (d, m, ρ1) => (evs es (keep m ρ1 d)).bind fun (ds, ρ2) => .ok (d :: ds, ρ2)
def evArgs : List Bool → IEs → DEnv → Res (Got × DEnv)
  | _, .nil, ρ => .ok ([], ρ)
  | true :: io, .cons e es, ρ => (match ioSlot e with
    | some i => (match ρ[i]? with
      | some (.own _) => (evArgs io es ρ).bind fun (g, ρ1) => .ok (.slot i :: g, ρ1)
      | _ => .stuck)
    | none => (ev e ρ).bind fun (d, m, ρ1) => (match m with
      | .fresh => (evArgs io es ρ1).bind fun (g, ρ2) => .ok (.tmp d :: g, ρ2)
      | _ => .stuck))
  | false :: io, .cons e es, ρ => (ev e ρ).bind fun (d, m, ρ1) => (evArgs io es (keep m ρ1 d)).bind fun (g, ρ2) => .ok (.val d :: g, ρ2)
  | [], .cons _ _, _ => .stuck
end
end
end Ev
set_option Elab.async false
set_option linter.all false
set_option maxRecDepth 100000
namespace Ev
open PySem PySem.Spec PyProof.Rows L2

/-- the exception that is being handled: its object, its dict, its class -/
structure EA where
  a : Addr
  d : Option Addr
  C : Addr
/-- what stands around the data: the written part, the module's names, what is handled -/
structure KM where
  K : PySem.W.Frag
  mg : Str → Option Value
  ea : Option EA
abbrev _root_.L2.Cx.km (X : Cx) (ea : Option EA) : KM := ⟨X.K, X.mg, ea⟩

def isFrz : HO → Bool
  | .tup _ => true
  | .frz _ _ => true
  | _ => false
/-- what can't change stays -/
def FrzLe (H H' : Hp) : Prop := ∀ a o, H a = some o → isFrz o = true → H' a = some o
theorem FrzLe.refl (H : Hp) : FrzLe H H := fun _ _ h _ => h
theorem FrzLe.trans {H H1 H2 : Hp} (a : FrzLe H H1) (b : FrzLe H1 H2) : FrzLe H H2 := fun x o h f => b x o (a x o h f) f
theorem FrzLe.new {H : Hp} {p : Addr} {o : HO} (h : H p = none) : FrzLe H (upd H p o) := fun a u e _ => by
  rw [upd_ne (ne_of_none e h)]; exact e
theorem FrzLe.mut {H : Hp} {p : Addr} {o u : HO} (h : H p = some u) (f : isFrz u = false) : FrzLe H (upd H p o) := fun a w e g => by
  have n : a ≠ p := fun z => by subst z; rw [h] at e; cases e; rw [f] at g; cases g
  rw [upd_ne n]; exact e

/-- a list that is known to be as it is, or one of the module's own -/
def SqF (K : KM) (H : Hp) (a : Addr) (xs : List V) : Prop := (∃ o, H a = some (.frz o (.lst xs))) ∨ SqL K.K (fun _ => none) a xs
theorem SqF.mono {K : KM} {H H' : Hp} {a : Addr} {xs : List V} (f : FrzLe H H') (h : SqF K H a xs) : SqF K H' a xs := by
  rcases h with ⟨o, h⟩ | h
  · exact .inl ⟨o, f _ _ h rfl⟩
  · exact .inr h
theorem SqF.sq {K : KM} {H : Hp} {a : Addr} {xs : List V} (h : SqF K H a xs) : SqL K.K H a xs := by
  rcases h with ⟨o, h⟩ | (h | ⟨o, h⟩) | h
  · exact .inl (.inr ⟨o, h⟩)
  · cases h
  · cases h
  · exact .inr h
mutual
inductive Is (K : KM) (H : Hp) : V → Dat → Prop
  | non : Is K H .non .non
  | bl (b) : Is K H (.bl b) (.bl b)
  | int (i) : Is K H (.int i) (.int i)
  | str (x) : Is K H (.str x) (.str x)
  | tup {a vs ds} : SqT K.K H a vs → IsL K H vs ds → Is K H (.ref a) (.tup ds)
  | lst {a o vs ds} : H a = some (.frz o (.lst vs)) → IsL K H vs ds → Is K H (.ref a) (.lst ds)
  | scr {a ns} : SqF K H a (ns.map V.int) → Is K H (.ref a) (.scr ns)
  | dic {a} {o : Obj} {es : Array DictEntry} {n : Nat} {ks vs kvs} : H a = some (.frz o (.own a)) → o.cls = .type "dict" → o.data = .dict es n → (a == sysModules) = false →
      Vals ks (es.toList.map (·.key)) → Vals vs (es.toList.map (·.val)) → IsL K H ks (kvs.map (·.1)) → IsL K H vs (kvs.map (·.2)) → Is K H (.ref a) (.dic kvs)
inductive IsL (K : KM) (H : Hp) : List V → List Dat → Prop
  | nil : IsL K H [] []
  | cons {v d vs ds} : Is K H v d → IsL K H vs ds → IsL K H (v :: vs) (d :: ds)
end

theorem sqT_mono {K : KM} {H H' : Hp} {a : Addr} {vs : List V} (f : FrzLe H H') (h : SqT K.K H a vs) : SqT K.K H' a vs := by
  rcases h with (h | ⟨o, h⟩) | h
  · exact .inl (.inl (f _ _ h rfl))
  · exact .inl (.inr ⟨o, f _ _ h rfl⟩)
  · exact .inr h
mutual
theorem Is.mono {K : KM} {H H' : Hp} (f : FrzLe H H') : ∀ {v : V} {d : Dat}, Is K H v d → Is K H' v d
  | _, _, .non => .non
  | _, _, .bl b => .bl b
  | _, _, .int i => .int i
  | _, _, .str x => .str x
  | _, _, .tup a b => .tup (sqT_mono f a) (IsL.mono f b)
  | _, _, .lst a b => .lst (f _ _ a rfl) (IsL.mono f b)
  | _, _, .scr a => .scr (a.mono f)
  | _, _, .dic a b c d e g h i => .dic (f _ _ a rfl) b c d e g (IsL.mono f h) (IsL.mono f i)
theorem IsL.mono {K : KM} {H H' : Hp} (f : FrzLe H H') : ∀ {vs : List V} {ds : List Dat}, IsL K H vs ds → IsL K H' vs ds
  | _, _, .nil => .nil
  | _, _, .cons a b => .cons (Is.mono f a) (IsL.mono f b)
end
theorem IsL.length {K : KM} {H : Hp} : ∀ {vs : List V} {ds : List Dat}, IsL K H vs ds → vs.length = ds.length
  | _, _, .nil => rfl
  | _, _, .cons _ b => by rw [List.length_cons, List.length_cons, b.length]
theorem IsL.append {K : KM} {H : Hp} : ∀ {vs ws : List V} {ds es : List Dat}, IsL K H vs ds → IsL K H ws es → IsL K H (vs ++ ws) (ds ++ es)
  | _, _, _, _, .nil, b => b
  | _, _, _, _, .cons a r, b => .cons a (IsL.append r b)
theorem IsL.get {K : KM} {H : Hp} : ∀ {vs : List V} {ds : List Dat} {i : Nat} {d : Dat}, IsL K H vs ds → ds[i]? = some d → ∃ v, vs[i]? = some v ∧ Is K H v d
  | _, _, i, _, .nil, e => by simp at e
  | _, _, 0, _, .cons a _, e => by simp at e; subst e; exact ⟨_, rfl, a⟩
  | _, _, i + 1, d, .cons _ r, e => by
    obtain ⟨v, h1, h2⟩ := IsL.get (i := i) (d := d) r (by simpa using e)
    exact ⟨v, by simpa using h1, h2⟩
theorem IsL.getV {K : KM} {H : Hp} : ∀ {vs : List V} {ds : List Dat} {i : Nat} {v : V}, IsL K H vs ds → vs[i]? = some v → ∃ d, ds[i]? = some d ∧ Is K H v d
  | _, _, i, _, .nil, e => by simp at e
  | _, _, 0, _, .cons a _, e => by simp at e; subst e; exact ⟨_, rfl, a⟩
  | _, _, i + 1, d, .cons _ r, e => by
    obtain ⟨v, h1, h2⟩ := IsL.getV (i := i) r (by simpa using e)
    exact ⟨v, by simpa using h1, h2⟩
theorem IsL.drop {K : KM} {H : Hp} : ∀ {vs : List V} {ds : List Dat} (n : Nat), IsL K H vs ds → IsL K H (vs.drop n) (ds.drop n)
  | _, _, 0, h => h
  | _, _, _ + 1, .nil => .nil
  | _, _, n + 1, .cons _ r => IsL.drop n r
theorem IsL.take {K : KM} {H : Hp} : ∀ {vs : List V} {ds : List Dat} (n : Nat), IsL K H vs ds → IsL K H (vs.take n) (ds.take n)
  | _, _, 0, _ => .nil
  | _, _, _ + 1, .nil => .nil
  | _, _, n + 1, .cons a r => .cons a (IsL.take n r)

/-- a list that may be changed -/
def Own (K : KM) (H : Hp) (p : Addr) (d : Dat) : Prop := ∃ vs ds, d = .lst ds ∧ H p = some (.lst vs) ∧ IsL K H vs ds
/-- what may be read as d now -/
def Rdb (K : KM) (H : Hp) (v : V) (d : Dat) : Prop := Is K H v d ∨ ∃ p, v = .ref p ∧ Own K H p d

/-- the fields of an exception, in its dict -/
def XdR (K : KM) (H : Hp) (d : Option Addr) (fs : List (Str × Dat)) : Prop :=
  (fs = [] ∧ d = none) ∨ ∃ (dx : Addr) (o : Obj) (vs : List (Str × V)), d = some dx ∧ H dx = some (.frz o (.xd vs)) ∧ vs.map (·.1) = fs.map (·.1) ∧ IsL K H (vs.map (·.2)) (fs.map (·.2))
theorem XdR.mono {K : KM} {H H' : Hp} {d : Option Addr} {fs : List (Str × Dat)} (f : FrzLe H H') (h : XdR K H d fs) : XdR K H' d fs := by
  rcases h with h | ⟨dx, o, vs, h1, h2, h3, h4⟩
  · exact .inl h
  · exact .inr ⟨dx, o, vs, h1, f _ _ h2 rfl, h3, h4.mono f⟩
/-- an exception that flies: its class, its dict -/
def XcR (K : KM) (H : Hp) (cls : Value) (d : Option Addr) (c : Str) (fs : List (Str × Dat)) : Prop := ∃ C, cls = .ref C ∧ K.mg c = some (.ref C) ∧ XdR K H d fs
theorem XcR.mono {K : KM} {H H' : Hp} {cls : Value} {d : Option Addr} {c : Str} {fs : List (Str × Dat)} (f : FrzLe H H') (h : XcR K H cls d c fs) : XcR K H' cls d c fs := by
  obtain ⟨C, h1, h2, h3⟩ := h
  exact ⟨C, h1, h2, h3.mono f⟩
/-- the slots bear the environment; what B knows stands -/
structure REnv (K : KM) (B : Hp) (σ : L2.St) (H : Hp) (ρ : DEnv) : Prop where
  base : ∀ a o, B a = some o → H a = some o
  len : σ.length = ρ.length
  val : ∀ (i : Nat) d, ρ[i]? = some (.val d) → ∃ v, σ[i]? = some (some v) ∧ Is K H v d
  own : ∀ (i : Nat) d, ρ[i]? = some (.own d) → ∃ p, σ[i]? = some (some (.ref p)) ∧ B p = none ∧ Own K H p d
  sep : ∀ (i j : Nat) d e p, ρ[i]? = some (.own d) → ρ[j]? = some (.own e) → σ[i]? = some (some (.ref p)) → σ[j]? = some (some (.ref p)) → i = j
  exn : ∀ (i : Nat) c fs, ρ[i]? = some (.exn c fs) → ∃ e, K.ea = some e ∧ σ[i]? = some (some (.ref e.a)) ∧ K.mg c = some (.ref e.C) ∧ XdR K H e.d fs

def RV (K : KM) (B : Hp) (σ : L2.St) (ρ : DEnv) (H : Hp) (v : V) (d : Dat) : Mode → Prop
  | .frz => Is K H v d
  | .fresh => ∃ p, v = .ref p ∧ Own K H p d ∧ B p = none ∧ ∀ (i : Nat) e, ρ[i]? = some (.own e) → σ[i]? ≠ some (some (.ref p))
  | .brw i => σ[i]? = some (some v) ∧ ρ[i]? = some (.own d)

section
variable {K : KM} {B B' : Hp} {σ : L2.St} {H H' : Hp} {ρ ρ' : DEnv} {v : V} {d : Dat} {m : Mode}
theorem Own.mono {p : Addr} (f : FrzLe H H') (hp : H' p = H p) (h : Own K H p d) : Own K H' p d := by
  obtain ⟨vs, ds, rfl, e, r⟩ := h
  exact ⟨vs, ds, rfl, hp.trans e, r.mono f⟩
theorem Own.some {p : Addr} (h : Own K H p d) : ∃ vs, H p = some (.lst vs) := by
  obtain ⟨vs, ds, rfl, e, r⟩ := h
  exact ⟨vs, e⟩
theorem REnv.weak (R : REnv K B' σ H ρ) (le : ∀ a o, B a = some o → B' a = some o) : REnv K B σ H ρ :=
  ⟨fun a o e => R.base a o (le a o e), R.len, R.val, fun i d e => by
    obtain ⟨p, h1, h2, h3⟩ := R.own i d e
    refine ⟨p, h1, ?_, h3⟩
    cases q : B p with
    | none => rfl
    | some o => exact absurd h2 (by rw [le p o q]; exact fun z => nomatch z), R.sep, R.exn⟩
/-- the heap grows, or what nobody of these owns changes -/
theorem REnv.step (R : REnv K B σ H ρ) (f : FrzLe H H') (hb : ∀ a o, B a = some o → H a = some o → H' a = some o)
    (ho : ∀ (i : Nat) d p, ρ[i]? = some (.own d) → σ[i]? = some (some (.ref p)) → H' p = H p) : REnv K B σ H' ρ :=
  ⟨fun a o e => hb a o e (R.base a o e), R.len, fun i d e => by
    obtain ⟨v, h1, h2⟩ := R.val i d e
    exact ⟨v, h1, h2.mono f⟩, fun i d e => by
    obtain ⟨p, h1, h2, h3⟩ := R.own i d e
    exact ⟨p, h1, h2, h3.mono f (ho i d p e h1)⟩, R.sep, fun i c fs e => by
    obtain ⟨x, h1, h2, h3, h4⟩ := R.exn i c fs e
    exact ⟨x, h1, h2, h3, h4.mono f⟩⟩
theorem REnv.new {p : Addr} {o : HO} (R : REnv K B σ H ρ) (h : H p = none) : REnv K B σ (upd H p o) ρ :=
  R.step (FrzLe.new h) (fun a u _ e => by rw [upd_ne (ne_of_none e h)]; exact e) fun i d q e e2 => by
    obtain ⟨p', h1, h2, h3⟩ := R.own i d e
    rw [e2] at h1; cases h1
    obtain ⟨vs, hv⟩ := h3.some
    rw [upd_ne (ne_of_none hv h)]
theorem REnv.newB {p : Addr} (R : REnv K B σ H ρ) (h : H p = none) : B p = none := by
  cases q : B p with
  | none => rfl
  | some o => rw [R.base p o q] at h; cases h
theorem REnv.newS {p : Addr} (R : REnv K B σ H ρ) (h : H p = none) : ∀ (i : Nat) e, ρ[i]? = some (.own e) → σ[i]? ≠ some (some (.ref p)) := fun i e q z => by
  obtain ⟨p', h1, h2, h3⟩ := R.own i e q
  rw [z] at h1; cases h1
  obtain ⟨vs, hv⟩ := h3.some
  rw [h] at hv; cases hv
/-- a value is carried over what is reckoned next -/
theorem carry {x : Dat} (R : REnv K B σ H ρ) (r : RV K B σ ρ H v x m) : ∃ B1, REnv K B1 σ H ρ ∧ (∀ a o, B a = some o → B1 a = some o) ∧
    ∀ H2 ρ2 x', REnv K B1 σ H2 ρ2 → FrzLe H H2 → now x m ρ2 = some x' → Rdb K H2 v x' := by
  cases m with
  | frz => exact ⟨B, R, fun _ _ h => h, fun H2 ρ2 x' _ f e => by cases e; exact .inl (Is.mono f r)⟩
  | fresh =>
    obtain ⟨p, rfl, ⟨vs, ds, rfl, e, l⟩, bp, ns⟩ := r
    refine ⟨upd B p (.lst vs), ⟨fun a o h => ?_, R.len, R.val, fun i d' h => ?_, R.sep, R.exn⟩, fun a o h => ?_, fun H2 ρ2 x' R2 f h => ?_⟩
    · by_cases z : a = p
      · subst z; rw [upd_same] at h; cases h; exact e
      · rw [upd_ne z] at h; exact R.base a o h
    · obtain ⟨q, h1, h2, h3⟩ := R.own i d' h
      refine ⟨q, h1, ?_, h3⟩
      rw [upd_ne (fun z => ns i d' h (by rw [← z]; exact h1))]
      exact h2
    · rw [upd_ne (fun z => by subst z; rw [bp] at h; cases h)]; exact h
    · cases h
      exact .inr ⟨p, rfl, vs, ds, rfl, R2.base p _ upd_same, l.mono f⟩
  | brw i =>
    obtain ⟨h1, h2⟩ := r
    refine ⟨B, R, fun _ _ h => h, fun H2 ρ2 x' R2 f e => ?_⟩
    unfold now at e
    simp only at e
    split at e
    · rename_i d' q
      cases e
      obtain ⟨p, g1, g2, g3⟩ := R2.own i _ q
      rw [h1] at g1; cases g1
      exact .inr ⟨p, rfl, g3⟩
    · rename_i d' q
      cases e
      obtain ⟨w, g1, g2⟩ := R2.val i _ q
      rw [h1] at g1; cases g1
      exact .inl g2
    · cases e
theorem rdb_of {x : Dat} (R : REnv K B σ H ρ) (r : RV K B σ ρ H v x m) : Rdb K H v x := by
  cases m with
  | frz => exact .inl r
  | fresh => obtain ⟨p, rfl, o, _⟩ := r; exact .inr ⟨p, rfl, o⟩
  | brw i =>
    obtain ⟨h1, h2⟩ := r
    obtain ⟨p, g1, g2, g3⟩ := R.own i _ h2
    rw [h1] at g1; cases g1
    exact .inr ⟨p, rfl, g3⟩

/-! readable values by their kind -/
theorem Rdb.int {i : Int} (h : Rdb K H v (.int i)) : v = .int i := by
  rcases h with h | ⟨p, _, _, _, e, _⟩
  · cases h; rfl
  · cases e
theorem Rdb.str {x : Str} (h : Rdb K H v (.str x)) : v = .str x := by
  rcases h with h | ⟨p, _, _, _, e, _⟩
  · cases h; rfl
  · cases e
theorem Rdb.bl {b : Bool} (h : Rdb K H v (.bl b)) : v = .bl b := by
  rcases h with h | ⟨p, _, _, _, e, _⟩
  · cases h; rfl
  · cases e
theorem Rdb.tup {ds : List Dat} (h : Rdb K H v (.tup ds)) : ∃ a vs, v = .ref a ∧ SqT K.K H a vs ∧ IsL K H vs ds := by
  rcases h with h | ⟨p, _, _, _, e, _⟩
  · cases h with
    | tup a b => exact ⟨_, _, rfl, a, b⟩
  · cases e
theorem Rdb.scr {ns : List Int} (h : Rdb K H v (.scr ns)) : ∃ a, v = .ref a ∧ SqL K.K H a (ns.map V.int) := by
  rcases h with h | ⟨p, _, _, _, e, _⟩
  · cases h with
    | scr a => exact ⟨_, rfl, a.sq⟩
  · cases e
theorem Rdb.lst {ds : List Dat} (h : Rdb K H v (.lst ds)) : ∃ a vs, v = .ref a ∧ SqL K.K H a vs ∧ IsL K H vs ds := by
  rcases h with h | ⟨p, rfl, vs, _, e, h2, h3⟩
  · cases h with
    | lst a b => exact ⟨_, _, rfl, .inl (.inr ⟨_, a⟩), b⟩
  · cases e; exact ⟨p, vs, rfl, .inl (.inl h2), h3⟩
end

/-- the reading: from an environment to a value, in its mode, and the environment behind it -/
def tS (K : KM) (ρ : DEnv) (d : Dat) (m : Mode) (ρ' : DEnv) : TE := fun σ H Q => ∃ B, REnv K B σ H ρ ∧ ∀ v H', REnv K B σ H' ρ' → FrzLe H H' → RV K B σ ρ' H' v d m → Q v H'
def tST (K : KM) (ρ : DEnv) (b : Bool) (ρ' : DEnv) : TT := fun σ H Q => ∃ B, REnv K B σ H ρ ∧ ∀ H', REnv K B σ H' ρ' → FrzLe H H' → Q b H'
def tSA (K : KM) (ρ : DEnv) (ds : List Dat) (ρ' : DEnv) : TA := fun σ H Q => ∃ B, REnv K B σ H ρ ∧ ∀ vs H', REnv K B σ H' ρ' → FrzLe H H' → IsL K H' vs ds → Q vs H'

theorem _root_.L2.PE.imp {X : Cx} {e : Expr} {t t' : TE} (h : PE X e t) (i : ∀ σ H Q, t' σ H Q → t σ H Q) : PE X e t' := ⟨fun pins s σ H Q I q => h.run pins s σ H Q I (i σ H Q q)⟩
theorem _root_.L2.PT.imp {X : Cx} {e : Expr} {t t' : TT} (h : PT X e t) (i : ∀ σ H Q, t' σ H Q → t σ H Q) : PT X e t' := ⟨fun pins s σ H Q I q => h.run pins s σ H Q I (i σ H Q q)⟩
theorem _root_.L2.PA.imp {X : Cx} {e : List Expr} {t t' : TA} (h : PA X e t) (i : ∀ σ H Q, t' σ H Q → t σ H Q) : PA X e t' := ⟨fun pos pins s σ H Q I q => h.run pos pins s σ H Q I (i σ H Q q)⟩
theorem pe_no {X : Cx} {e : Expr} : PE X e (fun _ _ _ => False) := ⟨fun _ _ _ _ _ _ h => h.elim⟩
theorem pt_no {X : Cx} {e : Expr} : PT X e (fun _ _ _ => False) := ⟨fun _ _ _ _ _ _ h => h.elim⟩
theorem pss_no {X : Cx} {e : List Stmt} : PSs X e (fun _ _ _ => False) := ⟨fun _ _ _ _ _ _ h => h.elim⟩

/-- a tracked list is known from now on to be as it is -/
theorem inv_frz {X : Cx} {pins : List (Addr × Obj)} {σ : L2.St} {H : Hp} {s : Shared} {p : Addr} {vs : List V} (I : Inv X pins σ H s) (h : H p = some (.lst vs)) :
    ∃ o, Inv X pins σ (upd H p (.frz o (.lst vs))) s := by
  obtain ⟨z, its, n, r, e⟩ := (show ObjOk X.prog X.w H s.heap p (.lst vs) from I.hok p _ h)
  refine ⟨_, Inv.un (t' := s.toks) (h' := s.heap) (H' := upd H p (.frz { cls := .type "list", data := .seq its.toArray n } (.lst vs))) I ⟨fun b o q _ _ _ => q, fun b o q _ _ _ => ⟨o.slots, q⟩, fun b o q nn _ => ?_, fun b o q _ => ⟨o, q⟩, fun b xs q => ?_, fun b o u q => ?_, fun b ps q => ?_⟩ fun b u q => ?_⟩
  · rw [upd_ne (fun zz => by subst zz; rw [h] at nn; cases nn)]; exact nn
  · rw [upd_ne (fun zz => by subst zz; rw [h] at q; cases q)]; exact q
  · rw [upd_ne (fun zz => by subst zz; rw [h] at q; cases q)]; exact q
  · refine ⟨#[], ?_⟩
    rw [upd_ne (fun zz => by subst zz; rw [h] at q; cases q), q]; simp
  · by_cases zz : b = p
    · subst zz
      rw [upd_same] at q
      cases q
      exact ⟨e, z, its, n, r, e⟩
    · rw [upd_ne zz] at q
      refine (I.hok b u q).stay (fun c w _ hc => hc) (fun c hc => ?_) fun c xs hc => ?_
      · rw [upd_ne (fun y => by subst y; rw [h] at hc; cases hc)]; exact hc
      · rw [upd_ne (fun y => by subst y; rw [h] at hc; cases hc)]; exact hc
/-- a value is handed on: from now on nobody changes it -/
theorem pe_keep {X : Cx} {ea : Option EA} {e : Expr} {ρ ρ1 : DEnv} {d : Dat} {m : Mode} (h : PE X e (tS (X.km ea) ρ d m ρ1)) : PE X e (tS (X.km ea) ρ d .frz (keep m ρ1 d)) := by
  refine ⟨fun pins s σ H Q I q => ?_⟩
  obtain ⟨B, R, k⟩ := q
  refine thn (h.run pins s σ H (fun v H' => REnv (X.km ea) B σ H' ρ1 ∧ FrzLe H H' ∧ RV (X.km ea) B σ ρ1 H' v d m) I ⟨B, R, fun v H' a b c => ⟨a, b, c⟩⟩) fun u s1 hh => ?_
  obtain ⟨v, H1, I1, rv, R1, f1, r⟩ := hh
  cases m with
  | frz => exact ⟨v, H1, I1, rv, k v H1 R1 f1 r⟩
  | fresh =>
    obtain ⟨p, rfl, ⟨vs, ds, rfl, e, l⟩, bp, ns⟩ := r
    obtain ⟨o, J⟩ := inv_frz I1 e
    have f2 : FrzLe H1 (upd H1 p (.frz o (.lst vs))) := FrzLe.mut e rfl
    refine ⟨.ref p, _, J, rv, k _ _ ?_ (f1.trans f2) (.lst upd_same (l.mono f2))⟩
    refine R1.step f2 (fun a u hb ha => ?_) fun i d' q hi hs => ?_
    · rw [upd_ne (fun z => by subst z; rw [bp] at hb; cases hb)]; exact ha
    · rw [upd_ne (fun z => by subst z; exact ns i d' hi hs)]
  | brw i =>
    obtain ⟨h1, h2⟩ := r
    obtain ⟨p, g1, g2, vs, ds, rfl, g3, l⟩ := R1.own i _ h2
    rw [h1] at g1; cases g1
    obtain ⟨o, J⟩ := inv_frz I1 g3
    have f2 : FrzLe H1 (upd H1 p (.frz o (.lst vs))) := FrzLe.mut g3 rfl
    have hi : i < ρ1.length := (List.getElem?_eq_some_iff.mp h2).1
    refine ⟨.ref p, _, J, rv, k _ _ ⟨fun a u hb => ?_, ?_, fun j d' hj => ?_, fun j d' hj => ?_, fun j j' d' e' q a1 a2 a3 a4 => ?_, fun j c fs hj => ?_⟩ (f1.trans f2) (.lst upd_same (l.mono f2))⟩
    · rw [upd_ne (fun z => by subst z; rw [g2] at hb; cases hb)]; exact R1.base a u hb
    · show σ.length = (ρ1.set i _).length
      rw [List.length_set]; exact R1.len
    · have hj' : (ρ1.set i (.val (.lst ds)))[j]? = some (.val d') := hj
      by_cases z : i = j
      · subst z
        rw [List.getElem?_set_self hi] at hj'
        cases hj'
        exact ⟨_, h1, .lst upd_same (l.mono f2)⟩
      · rw [List.getElem?_set_ne z] at hj'
        obtain ⟨w, w1, w2⟩ := R1.val j d' hj'
        exact ⟨w, w1, w2.mono f2⟩
    · have hj' : (ρ1.set i (.val (.lst ds)))[j]? = some (.own d') := hj
      by_cases z : i = j
      · subst z
        rw [List.getElem?_set_self hi] at hj'
        cases hj'
      · rw [List.getElem?_set_ne z] at hj'
        obtain ⟨w, w1, w2, w3⟩ := R1.own j d' hj'
        refine ⟨w, w1, w2, w3.mono f2 (upd_ne fun y => ?_)⟩
        subst y
        exact z (R1.sep i j _ _ w h2 hj' h1 w1)
    · have b1 : (ρ1.set i (.val (.lst ds)))[j]? = some (.own d') := a1
      have b2 : (ρ1.set i (.val (.lst ds)))[j']? = some (.own e') := a2
      have n1 : i ≠ j := fun z => by subst z; rw [List.getElem?_set_self hi] at b1; cases b1
      have n2 : i ≠ j' := fun z => by subst z; rw [List.getElem?_set_self hi] at b2; cases b2
      rw [List.getElem?_set_ne n1] at b1
      rw [List.getElem?_set_ne n2] at b2
      exact R1.sep j j' d' e' q b1 b2 a3 a4
    · have b1 : (ρ1.set i (.val (.lst ds)))[j]? = some (.exn c fs) := hj
      have n1 : i ≠ j := fun z => by subst z; rw [List.getElem?_set_self hi] at b1; cases b1
      rw [List.getElem?_set_ne n1] at b1
      obtain ⟨x, x1, x2, x3, x4⟩ := R1.exn j c fs b1
      exact ⟨x, x1, x2, x3, x4.mono f2⟩
/-- the reading of what lets an exception out: W what is wanted of it -/
def tX (K : KM) (W : WX) (ρ : DEnv) (c : Str) (fs : List (Str × Dat)) (ρ' : DEnv) : TE := fun σ H _ => ∃ B, REnv K B σ H ρ ∧ ∀ cls d H', REnv K B σ H' ρ' → FrzLe H H' → XcR K H' cls d c fs → W cls d σ H'
def tXT (K : KM) (W : WX) (ρ : DEnv) (c : Str) (fs : List (Str × Dat)) (ρ' : DEnv) : TT := fun σ H _ => ∃ B, REnv K B σ H ρ ∧ ∀ cls d H', REnv K B σ H' ρ' → FrzLe H H' → XcR K H' cls d c fs → W cls d σ H'
def tXA (K : KM) (W : WX) (ρ : DEnv) (c : Str) (fs : List (Str × Dat)) (ρ' : DEnv) : TA := fun σ H _ => ∃ B, REnv K B σ H ρ ∧ ∀ cls d H', REnv K B σ H' ρ' → FrzLe H H' → XcR K H' cls d c fs → W cls d σ H'
end Ev
set_option Elab.async false
set_option linter.all false
set_option maxRecDepth 100000
namespace Ev
open PySem PySem.Spec PyProof.Rows L2
variable {ea : Option EA}

theorem sm_le {n : Nat} (h : sm n = true) : n ≤ sizeLine := Nat.le_trans (of_decide_eq_true h) (by decide)
theorem sm_lt {n : Nat} (h : sm n = true) : n < sizeLine := Nat.lt_of_le_of_lt (of_decide_eq_true h) (by decide)

/-! ### from slots to the model's own reading of data -/
theorem reads_ints {h : Heap} : ∀ {ns : List Int} {us : List Value}, Vals (ns.map V.int) us → ∃ as, ReadsAll h us (ns.map PyData.int) as
  | [], _, r => by cases r; exact ⟨[], .nil⟩
  | n :: ns, _, r => by
    cases r with
    | cons a b =>
      obtain ⟨t, rfl⟩ := a
      obtain ⟨as, ra⟩ := reads_ints b
      exact ⟨_, .cons (.int n t) ra⟩
mutual
theorem reads_is {X : Cx} {pins : List (Addr × Obj)} {σ : L2.St} {H : Hp} {s : Shared} (I : Inv X pins σ H s) : ∀ {v : V} {d : Dat}, Is (X.km ea) H v d → ∀ {u : Value}, RelV v u → ∃ as, Reads s.heap u d.toPy as ∧ (d.noLst = true → sysModules ∉ as)
  | _, _, .non, u, r => by cases r; exact ⟨[], .none, fun _ => List.not_mem_nil⟩
  | _, _, .bl b, u, r => by cases r; exact ⟨[], .bool b, fun _ => List.not_mem_nil⟩
  | _, _, .int i, u, r => by obtain ⟨t, rfl⟩ := r; exact ⟨[], .int i t, fun _ => List.not_mem_nil⟩
  | _, _, .str x, u, r => by obtain ⟨t, rfl⟩ := r; exact ⟨[], .str x t, fun _ => List.not_mem_nil⟩
  | _, _, .tup a l, u, r => by
    cases r
    obtain ⟨its, rv, ⟨o, ho, hc, n, hd⟩, _⟩ := I.tuple a
    obtain ⟨as, ra, hn⟩ := reads_isL I l rv
    exact ⟨as, .tuple ho hc hd (by simpa using ra), fun h => hn h⟩
  | _, _, .lst a l, u, r => by
    cases r
    obtain ⟨_, z, its, n, rv, ho⟩ := (show ObjOk X.prog X.w H s.heap _ (.frz _ (.lst _)) from I.hok _ _ a)
    obtain ⟨as, ra, _⟩ := reads_isL I l rv
    exact ⟨_, .list ho rfl rfl (by simpa using ra), fun h => nomatch h⟩
  | _, .scr ns, .scr a, u, r => by
    cases r
    obtain ⟨its, rv, ⟨o, n, ho, hc, _, hd⟩, _⟩ := I.list a.sq
    obtain ⟨as, ra⟩ := reads_ints rv
    exact ⟨_, .list ho hc hd (by simpa using ra), fun h => nomatch h⟩
  | _, .dic kvs, .dic a c e f rk rv lk lv, u, r => by
    cases r
    obtain ⟨ho, _⟩ := (show ObjOk X.prog X.w H s.heap _ (.frz _ (.own _)) from I.hok _ _ a)
    obtain ⟨as, ra, na⟩ := reads_isL I lk rk
    obtain ⟨bs, rb, nb⟩ := reads_isL I lv rv
    refine ⟨_, .dict ho c e (?_ : ReadsAll s.heap _ ((toPyKv kvs).map (·.1)) as) (?_ : ReadsAll s.heap _ ((toPyKv kvs).map (·.2)) bs), fun h => ?_⟩
    · rw [toPyKv_fst]; exact ra
    · rw [toPyKv_snd]; exact rb
    · have h2 := noLstKv_split kvs h
      intro z
      rcases List.mem_append.mp z with z | z
      · rcases List.mem_cons.mp z with z | z
        · subst z; exact absurd f (by decide)
        · exact na h2.1 z
      · exact nb h2.2 z
theorem reads_isL {X : Cx} {pins : List (Addr × Obj)} {σ : L2.St} {H : Hp} {s : Shared} (I : Inv X pins σ H s) : ∀ {vs : List V} {ds : List Dat}, IsL (X.km ea) H vs ds → ∀ {us : List Value}, Vals vs us → ∃ as, ReadsAll s.heap us (toPys ds) as ∧ (noLsts ds = true → sysModules ∉ as)
  | _, _, .nil, us, r => by cases r; exact ⟨[], .nil, fun _ => List.not_mem_nil⟩
  | _, _, .cons a l, us, r => by
    cases r with
    | cons r1 r2 =>
      obtain ⟨as, ra, na⟩ := reads_is I a r1
      obtain ⟨bs, rb, nb⟩ := reads_isL I l r2
      refine ⟨as ++ bs, .cons ra rb, fun h z => ?_⟩
      have h' := Bool.and_eq_true_iff.mp (show (Dat.noLst _ && noLsts _) = true from h)
      rcases List.mem_append.mp z with z | z
      · exact na h'.1 z
      · exact nb h'.2 z
theorem toPyKv_fst : ∀ kvs : List (Dat × Dat), (toPyKv kvs).map (·.1) = toPys (kvs.map (·.1))
  | [] => rfl
  | (k, v) :: r => by simp [toPyKv, toPys, toPyKv_fst r]
theorem toPyKv_snd : ∀ kvs : List (Dat × Dat), (toPyKv kvs).map (·.2) = toPys (kvs.map (·.2))
  | [] => rfl
  | (k, v) :: r => by simp [toPyKv, toPys, toPyKv_snd r]
theorem noLstKv_split : ∀ kvs : List (Dat × Dat), noLstKv kvs = true → noLsts (kvs.map (·.1)) = true ∧ noLsts (kvs.map (·.2)) = true
  | [], _ => ⟨rfl, rfl⟩
  | (k, v) :: r, h => by
    have h1 := Bool.and_eq_true_iff.mp (show (k.noLst && v.noLst && noLstKv r) = true from h)
    have h2 := Bool.and_eq_true_iff.mp h1.1
    have h3 := noLstKv_split r h1.2
    exact ⟨Bool.and_eq_true_iff.mpr ⟨h2.1, h3.1⟩, Bool.and_eq_true_iff.mpr ⟨h2.2, h3.2⟩⟩
end
theorem reads_rdb {X : Cx} {pins : List (Addr × Obj)} {σ : L2.St} {H : Hp} {s : Shared} (I : Inv X pins σ H s) {v : V} {d : Dat} {u : Value} (h : Rdb (X.km ea) H v d) (r : RelV v u) : ∃ as, Reads s.heap u d.toPy as ∧ (d.noLst = true → sysModules ∉ as) := by
  rcases h with h | ⟨p, rfl, vs, ds, rfl, e, l⟩
  · exact reads_is I h r
  · cases r
    obtain ⟨z, its, n, rv, ho⟩ := (show ObjOk X.prog X.w H s.heap _ (.lst _) from I.hok _ _ e)
    obtain ⟨as, ra, _⟩ := reads_isL I l rv
    exact ⟨_, .list ho rfl rfl (by simpa using ra), fun h => nomatch h⟩
end Ev
namespace Ev
open PySem PySem.Spec PyProof.Rows L2
variable {ea : Option EA}
section
variable {X : Cx} {B : Hp} {σ : L2.St} {H : Hp} {ρ : DEnv} {Q : VK} {d : Dat} {v : V}
/-- what is wanted of a value that has come -/
def Want (K : KM) (B : Hp) (σ : L2.St) (ρ : DEnv) (H : Hp) (d : Dat) (m : Mode) (Q : VK) : Prop := ∀ v H', REnv K B σ H' ρ → FrzLe H H' → RV K B σ ρ H' v d m → Q v H'
theorem Want.val {K : KM} (R : REnv K B σ H ρ) (w : Want K B σ ρ H d .frz Q) (h : Is K H v d) : Q v H := w v H R (FrzLe.refl H) h
theorem Want.tup {K : KM} {vs : List V} {ds : List Dat} {p : Addr} (R : REnv K B σ H ρ) (w : Want K B σ ρ H (.tup ds) .frz Q) (l : IsL K H vs ds) (hp : H p = none) : Q (.ref p) (upd H p (.tup vs)) :=
  w _ _ (R.new hp) (FrzLe.new hp) (.tup (.inl (.inl upd_same)) (l.mono (FrzLe.new hp)))
theorem Want.lst {K : KM} {vs : List V} {ds : List Dat} {p : Addr} (R : REnv K B σ H ρ) (w : Want K B σ ρ H (.lst ds) .fresh Q) (l : IsL K H vs ds) (hp : H p = none) : Q (.ref p) (upd H p (.lst vs)) :=
  w _ _ (R.new hp) (FrzLe.new hp) ⟨p, rfl, ⟨vs, ds, rfl, upd_same, l.mono (FrzLe.new hp)⟩, R.newB hp, R.newS hp⟩

/-- two lists, tracked or known, one behind the other -/
def rCatR : R2 := fun x y H Q => ∃ l b xs zs, x = .ref l ∧ y = .ref b ∧ Rd H l (.lst xs) ∧ Rd H b (.lst zs) ∧ xs.length + zs.length ≤ sizeLine ∧ ∀ p, H p = none → Q (.ref p) (upd H p (.lst (xs ++ zs)))
theorem op_catR : OpR X (binaryOp .Add) rCatR := by
  intro pins s σ H x y v u Q I rx ry h
  obtain ⟨l, b, xs, zs, rfl, rfl, h1, h2, hz, q⟩ := h
  cases rx
  cases ry
  obtain ⟨z, its, n, r, e⟩ := (show ObjOk X.prog X.w H s.heap l (.lst xs) from h1.ok I.hok)
  obtain ⟨z2, its2, n2, r2, e2⟩ := (show ObjOk X.prog X.w H s.heap b (.lst zs) from h2.ok I.hok)
  have len1 := r.length
  have len2 := r2.length
  refine PySem.P.add_list e e2 ?_ (by rw [List.size_toArray, List.size_toArray]; omega)
  rw [show its.toArray ++ its2.toArray = (its ++ its2).toArray by simp]
  exact ⟨.ref _, _, I.lnew (t' := s.toks) (r.append r2) (by rw [List.length_append]; omega), rfl, q _ I.fresh⟩
theorem Rdb.lstR {K : KM} {ds : List Dat} (h : Rdb K H v (.lst ds)) : ∃ a vs, v = .ref a ∧ Rd H a (.lst vs) ∧ IsL K H vs ds := by
  rcases h with h | ⟨p, rfl, vs, _, e, h2, h3⟩
  · cases h with
    | lst a b => exact ⟨_, _, rfl, .inr ⟨_, a⟩, b⟩
  · cases e; exact ⟨p, vs, rfl, .inl h2, h3⟩
/-- a text, some times over -/
theorem small_not_long {n : Nat} (h : n ≤ 100 * 1000) : Builtin.Str.tooLong n = false := by
  unfold Builtin.Str.tooLong
  exact decide_eq_false (by have : (100 * 1000 : Nat) < sizeLine := by decide
                            omega)
theorem op_mulS : OpR X (binaryOp .Mult) (fun x y H Q => ∃ (z : Str) (j : Int), x = .str z ∧ y = .int j ∧ (1 < j ∧ j ≤ 1000 ∧ z.length ≤ 100) ∧ Q (.str (Txt.mul z j)) H) := by
  intro pins s σ H x y v u Q I rx ry h
  obtain ⟨z, j, rfl, rfl, ⟨h1, h2, h3⟩, q⟩ := h
  obtain ⟨t, rfl⟩ := rx
  obtain ⟨t', rfl⟩ := ry
  have hj : j.toNat ≤ 1000 := by omega
  refine PySem.SB.mul ⟨?_, fun _ _ => ?_, fun _ _ => ?_⟩ fun t' k => ⟨.str _, H, I.tok _, ⟨_, rfl⟩, q⟩
  · rw [decide_eq_false (by omega), decide_eq_false (by omega)]; rfl
  · intro hh
    have : (2 ^ 63 - 1) / j ≥ (2 ^ 63 - 1) / 1000 := by
      apply Int.le_ediv_of_mul_le (by omega)
      have : ((2 ^ 63 - 1 : Int) / 1000) * j ≤ ((2 ^ 63 - 1 : Int) / 1000) * 1000 := Int.mul_le_mul_of_nonneg_left (by omega) (by decide)
      have h9 : ((2 ^ 63 - 1 : Int) / 1000) * 1000 ≤ 2 ^ 63 - 1 := by decide
      omega
    have h8 : ((2 ^ 63 - 1 : Int) / 1000) > 100 := by decide
    omega
  · have : z.length * j.toNat ≤ 100 * 1000 := Nat.mul_le_mul h3 hj
    exact small_not_long this
theorem bin_snd {op : Operator} {x y : Dat} {m : Mode} (h : binD op x y = some (d, m)) : ∃ r, OpR X (binaryOp op) r ∧
    ∀ B σ ρ H v w Q, REnv (X.km ea) B σ H ρ → Rdb (X.km ea) H v x → Rdb (X.km ea) H w y → Want (X.km ea) B σ ρ H d m Q → r v w H Q := by
  unfold binD at h
  split at h
  · cases h
    exact ⟨_, op_add, fun B σ ρ H v w Q R a b k => ⟨_, _, a.int, b.int, k.val R (.int _)⟩⟩
  · cases h
    exact ⟨_, op_sub, fun B σ ρ H v w Q R a b k => ⟨_, _, a.int, b.int, k.val R (.int _)⟩⟩
  · split at h
    · rename_i c
      cases h
      exact ⟨_, op_mul, fun B σ ρ H v w Q R a b k => ⟨_, _, a.int, b.int, c.symm, k.val R (.int _)⟩⟩
    · cases h
  · split at h
    · rename_i c
      cases h
      exact ⟨_, op_mod, fun B σ ρ H v w Q R a b k => ⟨_, _, a.int, b.int, c, k.val R (.int _)⟩⟩
    · cases h
  · split at h
    · rename_i c
      cases h
      exact ⟨_, op_fdiv, fun B σ ρ H v w Q R a b k => ⟨_, _, a.int, b.int, c, k.val R (.int _)⟩⟩
    · cases h
  · split at h
    · rename_i c
      cases h
      exact ⟨_, op_pow, fun B σ ρ H v w Q R a b k => ⟨_, _, a.int, b.int, c, k.val R (.int _)⟩⟩
    · cases h
  · split at h
    · rename_i c
      cases h
      exact ⟨_, op_add_str, fun B σ ρ H v w Q R a b k => ⟨_, _, a.str, b.str, sm_le c, k.val R (.str _)⟩⟩
    · cases h
  · split at h
    · rename_i c
      cases h
      refine ⟨_, op_catR, fun B σ ρ H v w Q R a b k => ?_⟩
      obtain ⟨p, vs, rfl, hp, l⟩ := a.lstR
      obtain ⟨q, ws, rfl, hq, l2⟩ := b.lstR
      exact ⟨p, q, vs, ws, rfl, rfl, hp, hq, by rw [l.length, l2.length]; exact sm_le c, fun n hn => k.lst R (l.append l2) hn⟩
    · cases h
  · split at h
    · rename_i c
      cases h
      refine ⟨_, op_catA, fun B σ ρ H v w Q R a b k => ?_⟩
      obtain ⟨p, vs, rfl, hp, l⟩ := a.tup
      obtain ⟨q, ws, rfl, hq, l2⟩ := b.tup
      refine ⟨p, q, vs, ws, rfl, rfl, hp, hq, by rw [l.length, l2.length]; exact sm_le c, fun e => ?_, fun _ e => ?_, fun _ _ n hn => k.tup R (l.append l2) hn⟩
      · subst e; cases l; exact k.val R (.tup hq l2)
      · subst e; cases l2
        rw [List.append_nil] at k
        exact k.val R (.tup hp l)
    · cases h
  · split at h
    · rename_i c
      cases h
      exact ⟨_, op_mulS, fun B σ ρ H v w Q R a b k => ⟨_, _, a.str, b.int, c, k.val R (.str _)⟩⟩
    · cases h
  · cases h
end
end Ev
set_option Elab.async false
set_option linter.all false
set_option maxRecDepth 100000
namespace Ev
open PySem PySem.Spec PyProof.Rows L2
variable {ea : Option EA}
section
variable {X : Cx}
theorem op_eqR (hu : X.A.units + 64 < cLine) (dx dy : Dat) (fx : dx.fit = true) (fy : dy.fit = true) : OpR X (compareOp .Eq) (fun x y H Q => Rdb (X.km ea) H x dx ∧ Rdb (X.km ea) H y dy ∧ Q (.bl (PyData.eqv dx.toPy dy.toPy)) H) := by
  intro pins s σ H x y v u Q I rx ry h
  obtain ⟨a, b, q⟩ := h
  obtain ⟨as, ra, _⟩ := reads_rdb I a rx
  obtain ⟨bs, rb, _⟩ := reads_rdb I b ry
  exact eq_dataH ra rb fx fy hu ⟨.bl _, H, I, rfl, q⟩
theorem op_neR (hu : X.A.units + 64 < cLine) (dx dy : Dat) (fx : dx.fit = true) (fy : dy.fit = true) : OpR X (compareOp .NotEq) (fun x y H Q => Rdb (X.km ea) H x dx ∧ Rdb (X.km ea) H y dy ∧ Q (.bl (!PyData.eqv dx.toPy dy.toPy)) H) := by
  intro pins s σ H x y v u Q I rx ry h
  obtain ⟨a, b, q⟩ := h
  obtain ⟨as, ra, _⟩ := reads_rdb I a rx
  obtain ⟨bs, rb, _⟩ := reads_rdb I b ry
  exact ne_dataH ra rb fx fy hu ⟨.bl _, H, I, rfl, q⟩
theorem op_eqT0 (hu : X.A.units + 64 < cLine) : OpR X (compareOp .Eq) (fun x y H Q => ∃ a b xs, x = .ref a ∧ y = .ref b ∧ SqT X.K H a xs ∧ SqT X.K H b [] ∧ Q (.bl xs.isEmpty) H) := by
  intro pins s σ H x y v u Q I rx ry h
  obtain ⟨a, b, xs, rfl, rfl, h1, h2, q⟩ := h
  cases rx
  cases ry
  obtain ⟨its, r, t, _⟩ := I.tuple h1
  obtain ⟨its2, r2, t2, _⟩ := I.tuple h2
  cases r2
  have len := r.length
  have e := PySem.SeqAt.RcAt.tuples (A := X.A) (s := s) (e := fun _ => true) t t2 (by omega) (fun j _ h2 => absurd h2 (Nat.not_lt_zero j))
  refine e X.prog X.w X.xe _ ?_
  have e2 : ((List.range (min its.toArray.size (#[] : Array Value).size)).all (fun _ => true) && its.toArray.size == (#[] : Array Value).size) = xs.isEmpty := by
    cases xs with
    | nil => cases r; rfl
    | cons x xs => cases r; simp
  exact ⟨.bl _, H, I, by rw [← e2]; rfl, q⟩
theorem op_eqL0 (hu : X.A.units + 64 < cLine) : OpR X (compareOp .Eq) (fun x y H Q => ∃ a b xs, x = .ref a ∧ y = .ref b ∧ SqL X.K H a xs ∧ SqL X.K H b [] ∧ Q (.bl xs.isEmpty) H) := by
  intro pins s σ H x y v u Q I rx ry h
  obtain ⟨a, b, xs, rfl, rfl, h1, h2, q⟩ := h
  cases rx
  cases ry
  obtain ⟨its, r, t, _⟩ := I.list h1
  obtain ⟨its2, r2, t2, _⟩ := I.list h2
  cases r2
  cases xs with
  | nil =>
    cases r
    have e := PySem.SeqAt.RcAt.lists (A := X.A) (s := s) (e := fun _ => true) t.isList t2.isList rfl (by omega) (fun j _ h2 => absurd h2 (Nat.not_lt_zero j))
    exact e X.prog X.w X.xe _ ⟨.bl _, H, I, rfl, q⟩
  | cons x xs =>
    cases r
    have e := PySem.SeqAt.RcAt.lists_lengths (A := X.A) (s := s) t.isList t2.isList (by simp) (by omega)
    exact e X.prog X.w X.xe _ ⟨.bl _, H, I, rfl, q⟩

theorem flat_is {K : KM} {H : Hp} {v : V} {d : Dat} (h : Is K H v d) (f : d.flat = true) : flatV v = true := by
  cases h <;> first | rfl | cases f
theorem flat_eq {K : KM} {H : Hp} {v w : V} {a b : Dat} (ha : Is K H v a) (hb : Is K H w b) (fa : a.flat = true) (fb : b.flat = true) : eqV v w = PyData.eqv a.toPy b.toPy := by
  cases ha <;> first | cases fa | skip
  all_goals (cases hb <;> first | cases fb | skip)
  all_goals first | rfl | simp [eqV, PyData.eqv, Dat.toPy]
theorem flat_all {K : KM} {H : Hp} : ∀ {vs : List V} {ds : List Dat}, IsL K H vs ds → ds.all Dat.flat = true → vs.all flatV = true
  | _, _, .nil, _ => rfl
  | _, _, .cons a l, f => by
    have f' := Bool.and_eq_true_iff.mp (show (Dat.flat _ && List.all _ Dat.flat) = true from f)
    rw [List.all_cons, flat_is a f'.1, flat_all l f'.2] <;> rfl
theorem flat_any {K : KM} {H : Hp} {w : V} {b : Dat} (hb : Is K H w b) (fb : b.flat = true) : ∀ {vs : List V} {ds : List Dat}, IsL K H vs ds → ds.all Dat.flat = true → inV w vs = ds.any fun y => PyData.eqv y.toPy b.toPy
  | _, _, .nil, _ => rfl
  | _, _, .cons a l, f => by
    have f' := Bool.and_eq_true_iff.mp (show (Dat.flat _ && List.all _ Dat.flat) = true from f)
    have e := flat_any hb fb l f'.2
    unfold inV at e ⊢
    rw [List.any_cons, List.any_cons, flat_eq a hb f'.1 fb, e]
theorem Rdb.flat {K : KM} {H : Hp} {v : V} {d : Dat} (h : Rdb K H v d) (f : d.flat = true) : Is K H v d := by
  rcases h with h | ⟨p, rfl, vs, ds, rfl, _⟩
  · exact h
  · cases f
theorem sign_of {w : Str} {c : Nat} (h : w.cps.toList = [c]) : w = ⟨#[c]⟩ := by
  obtain ⟨⟨l⟩⟩ := w
  have h' : l = [c] := h
  subst h'
  rfl
theorem in_snd {x y : Dat} {b : Bool} (h : inD x y = some b) : ∃ r r', OpR X (compareOp .In) r ∧ OpR X (compareOp .NotIn) r' ∧
    (∀ H v w Q, Rdb (X.km ea) H v x → Rdb (X.km ea) H w y → Q (.bl b) H → r v w H Q) ∧ ∀ H v w Q, Rdb (X.km ea) H v x → Rdb (X.km ea) H w y → Q (.bl (!b)) H → r' v w H Q := by
  unfold inD at h
  split at h
  · split at h
    · split at h
      · rename_i z c e
        cases h
        have e2 := sign_of e
        subst e2
        exact ⟨_, _, op_in_sign, op_notIn_sign, fun H v w Q a c k => ⟨_, _, a.str, c.str, k⟩, fun H v w Q a c k => ⟨_, _, a.str, c.str, k⟩⟩
      · cases h
    · cases h
  · split at h
    · rename_i f
      have f' := Bool.and_eq_true_iff.mp f
      cases h
      refine ⟨_, _, op_in_seq, op_notIn_seq, fun H v w Q a c k => ?_, fun H v w Q a c k => ?_⟩
      · obtain ⟨p, vs, rfl, hp, l⟩ := c.lst
        refine ⟨p, vs, rfl, .inl hp, flat_is (a.flat f'.1) f'.1, flat_all l f'.2, ?_⟩
        rw [flat_any (a.flat f'.1) f'.1 l f'.2]
        exact k
      · obtain ⟨p, vs, rfl, hp, l⟩ := c.lst
        refine ⟨p, vs, rfl, .inl hp, flat_is (a.flat f'.1) f'.1, flat_all l f'.2, ?_⟩
        rw [flat_any (a.flat f'.1) f'.1 l f'.2]
        exact k
    · cases h
  · cases h
theorem ints_snd {p : Int → Int → Bool} {x y : Dat} {b : Bool} (h : intsD p x y = some b) : ∃ i j, x = .int i ∧ y = .int j ∧ b = p i j := by
  unfold intsD at h
  split at h
  · cases h; exact ⟨_, _, rfl, rfl, rfl⟩
  · cases h
theorem flat_snd {x y : Dat} {b : Bool} (h : eqFlat x y = some b) : ∃ v w : V, scal v w = true ∧ decide (v = w) = b ∧ ∀ K H, (∀ v', Rdb K H v' x → v' = v) ∧ ∀ w', Rdb K H w' y → w' = w := by
  unfold eqFlat at h
  split at h
  · cases h
    rename_i x y
    exact ⟨.str x, .str y, rfl, by by_cases e : x = y <;> simp [e], fun K H => ⟨fun v' q => q.str, fun w' q => q.str⟩⟩
  · cases h
    rename_i x y
    exact ⟨.int x, .int y, rfl, by by_cases e : x = y <;> simp [e], fun K H => ⟨fun v' q => q.int, fun w' q => q.int⟩⟩
  · cases h
    rename_i x y
    exact ⟨.bl x, .bl y, rfl, by by_cases e : x = y <;> simp [e], fun K H => ⟨fun v' q => q.bl, fun w' q => q.bl⟩⟩
  · cases h
    refine ⟨.non, .non, rfl, by simp, fun K H => ⟨fun v' q => ?_, fun w' q => ?_⟩⟩
    · rcases q with q | ⟨p, _, _, _, e, _⟩
      · cases q; rfl
      · cases e
    · rcases q with q | ⟨p, _, _, _, e, _⟩
      · cases q; rfl
      · cases e
  · cases h
theorem eq_snd {x y : Dat} {b : Bool} (hu : X.A.units + 64 < cLine) (h : eqD x y = some b) : ∃ r, OpR X (compareOp .Eq) r ∧
    ∀ H v w Q, Rdb (X.km ea) H v x → Rdb (X.km ea) H w y → Q (.bl b) H → r v w H Q := by
  unfold eqD at h
  split at h
  · rename_i r hf
    cases h
    obtain ⟨v0, w0, s1, s2, s3⟩ := flat_snd hf
    refine ⟨_, op_eq, fun H v w Q a c k => ?_⟩
    have e1 := (s3 (X.km ea) H).1 v a
    have e2 := (s3 (X.km ea) H).2 w c
    subst e1
    subst e2
    exact ⟨s1, by rw [s2]; exact k⟩
  · split at h
    · rename_i f
      have f' := Bool.and_eq_true_iff.mp f
      cases h
      exact ⟨_, op_eqR hu x y f'.1 f'.2, fun H v w Q a c k => ⟨a, c, k⟩⟩
    split at h
    · split at h
      · rename_i xs _ _
        cases h
        refine ⟨_, op_eqT0 hu, fun H v w Q a c k => ?_⟩
        obtain ⟨p, vs, rfl, hp, l⟩ := a.tup
        obtain ⟨q, ws, rfl, hq, l2⟩ := c.tup
        cases l2
        refine ⟨p, q, vs, rfl, rfl, hp, hq, ?_⟩
        have e : vs.isEmpty = xs.isEmpty := by cases l <;> rfl
        rw [e]; exact k
      · cases h
    · split at h
      · rename_i xs _ _
        cases h
        refine ⟨_, op_eqL0 hu, fun H v w Q a c k => ?_⟩
        obtain ⟨p, vs, rfl, hp, l⟩ := a.lst
        obtain ⟨q, ws, rfl, hq, l2⟩ := c.lst
        cases l2
        refine ⟨p, q, vs, rfl, rfl, hp, hq, ?_⟩
        have e : vs.isEmpty = xs.isEmpty := by cases l <;> rfl
        rw [e]; exact k
      · cases h
    · cases h
theorem cmp_snd {op : CmpOp} {x y : Dat} {b : Bool} (hu : X.A.units + 64 < cLine) (h : cmpD op x y = some b) : ∃ r, OpR X (compareOp op) r ∧
    ∀ H v w Q, Rdb (X.km ea) H v x → Rdb (X.km ea) H w y → Q (.bl b) H → r v w H Q := by
  cases op with
  | Lt => obtain ⟨i, j, rfl, rfl, rfl⟩ := ints_snd h; exact ⟨_, op_lt, fun H v w Q a c k => ⟨_, _, a.int, c.int, k⟩⟩
  | LtE => obtain ⟨i, j, rfl, rfl, rfl⟩ := ints_snd h; exact ⟨_, op_le, fun H v w Q a c k => ⟨_, _, a.int, c.int, k⟩⟩
  | Gt => obtain ⟨i, j, rfl, rfl, rfl⟩ := ints_snd h; exact ⟨_, op_gt, fun H v w Q a c k => ⟨_, _, a.int, c.int, k⟩⟩
  | GtE => obtain ⟨i, j, rfl, rfl, rfl⟩ := ints_snd h; exact ⟨_, op_ge, fun H v w Q a c k => ⟨_, _, a.int, c.int, k⟩⟩
  | In => obtain ⟨r, r', h1, _, h3, _⟩ := in_snd (X := X) (show inD x y = some b from h); exact ⟨r, h1, h3⟩
  | NotIn =>
    have h' : (inD x y).map (!·) = some b := h
    cases e : inD x y with
    | none => rw [e] at h'; cases h'
    | some c =>
      rw [e] at h'
      cases h'
      obtain ⟨r, r', _, h2, _, h4⟩ := in_snd (X := X) e
      exact ⟨r', h2, h4⟩
  | Eq => exact eq_snd hu h
  | NotEq =>
    have h' : (match eqFlat x y with
      | some r => some (!r)
      | none => if x.fit && y.fit then some (!PyData.eqv x.toPy y.toPy) else none) = some b := h
    split at h'
    · rename_i r hf
      cases h'
      obtain ⟨v0, w0, s1, s2, s3⟩ := flat_snd hf
      refine ⟨_, op_ne, fun H v w Q a c k => ?_⟩
      have e1 := (s3 (X.km ea) H).1 v a
      have e2 := (s3 (X.km ea) H).2 w c
      subst e1
      subst e2
      exact ⟨s1, by rw [s2]; exact k⟩
    · split at h'
      · rename_i f
        have f' := Bool.and_eq_true_iff.mp f
        cases h'
        exact ⟨_, op_neR hu x y f'.1 f'.2, fun H v w Q a c k => ⟨a, c, k⟩⟩
      · cases h'
  | Is => cases h
  | IsNot => cases h
end
end Ev
set_option Elab.async false
set_option linter.all false
set_option maxRecDepth 100000
namespace Ev
open PySem PySem.Spec PyProof.Rows L2
variable {ea : Option EA}
section
variable {X : Cx}
theorem call_reprR (hg : X.A.guards = some []) (hu : X.A.units + 64 < cLine) (d : Dat) (ht : d.tell = true) : CallR X (.builtin "repr") (fun xs H Q => ∃ x, xs = [x] ∧ Rdb (X.km ea) H x d ∧ Q (.str d.toPy.shown) H) := by
  intro pins s σ H xs us Q I r h
  obtain ⟨x, rfl, a, q⟩ := h
  obtain ⟨u, rfl, rx⟩ := vals1 r
  have t1 := Bool.and_eq_true_iff.mp (show (d.toPy.showable && decide (d.toPy.depth ≤ 40) && sm d.toPy.shown.length && (!d.toPy.hasDict || d.noLst)) = true from ht)
  have t2 := Bool.and_eq_true_iff.mp t1.1
  have t3 := Bool.and_eq_true_iff.mp t2.1
  have t4 : d.toPy.depth ≤ 40 := of_decide_eq_true t3.2
  obtain ⟨as, ra, hn⟩ := reads_rdb I a rx
  have hz : d.toPy.shown.length ≤ sizeLine := sm_le t2.2
  generalize hp : d.toPy = p at *
  cases ra with
  | none => exact PySem.P.repr_of_none ⟨.str _, H, I.tok _, ⟨_, rfl⟩, q⟩
  | bool b => exact PySem.P.repr_of_bool ⟨.str _, H, I.tok _, ⟨_, rfl⟩, q⟩
  | int i t => exact PySem.P.repr_of_int (of_decide_eq_true t3.1) ⟨.str _, H, I.tok _, ⟨_, rfl⟩, q⟩
  | str z t => exact PySem.P.repr_of_str ⟨.str _, H, I.tok _, ⟨_, rfl⟩, q⟩ hz
  | list h1 h2 h3 h4 =>
    refine PySem.repr_of_reads' (h₀ := s.heap) (.list h1 h2 h3 h4) t3.1 (fun hd => ?_) hg (by omega) (fun _ _ e => e) (fun h' u tk k => ⟨.str _, H, I.kept k, ⟨_, rfl⟩, q⟩) hz
    refine hn ?_
    have := t1.2
    rw [hd] at this
    simpa using this
  | tuple h1 h2 h3 h4 =>
    refine PySem.repr_of_reads' (h₀ := s.heap) (.tuple h1 h2 h3 h4) t3.1 (fun hd => ?_) hg (by omega) (fun _ _ e => e) (fun h' u tk k => ⟨.str _, H, I.kept k, ⟨_, rfl⟩, q⟩) hz
    refine hn ?_
    have := t1.2
    rw [hd] at this
    simpa using this
  | dict h1 h2 h3 h4 h5 =>
    refine PySem.repr_of_reads' (h₀ := s.heap) (.dict h1 h2 h3 h4 h5) t3.1 (fun hd => ?_) hg (by omega) (fun _ _ e => e) (fun h' u tk k => ⟨.str _, H, I.kept k, ⟨_, rfl⟩, q⟩) hz
    refine hn ?_
    have := t1.2
    rw [hd] at this
    simpa using this

def BI.name : BI → Str
  | .len => "len" | .max => "max" | .min => "min" | .all => "all" | .tuple => "tuple" | .list => "list" | .repr => "repr" | .str => "str" | .int => "int"
def BI.val : BI → Value
  | .len => .builtin "len" | .max => .builtin "max" | .min => .builtin "min" | .all => .builtin "all" | .tuple => .type "tuple" | .list => .type "list" | .repr => .builtin "repr" | .str => .type "str" | .int => .type "int"
/-- which of them ask that nothing is being handled -/
def BI.cold : BI → Bool
  | .max => true | .min => true | .all => true | _ => false

theorem log_small {i : Int} (h : i.natAbs < 2 ^ 64) : i.natAbs.log2 < 1920 := by
  by_cases z : i.natAbs = 0
  · rw [z]; decide
  · have := (Nat.log2_lt z).mpr h
    omega
theorem ints_is {K : KM} {H : Hp} : ∀ {ds : List Dat} {ns : List Int} {vs : List V}, ints? ds = some ns → IsL K H vs ds → vs = ns.map V.int
  | [], _, _, e, l => by cases e; cases l; rfl
  | .int i :: r, ns, _, e, l => by
    cases l with
    | cons a l =>
      have e' : (ints? r).map (i :: ·) = some ns := e
      cases q : ints? r with
      | none => rw [q] at e'; cases e'
      | some ms =>
        rw [q] at e'
        cases e'
        cases a
        rw [ints_is q l]; rfl
theorem bls_is {K : KM} {H : Hp} : ∀ {ds : List Dat} {ns : List Bool} {vs : List V}, bls? ds = some ns → IsL K H vs ds → vs = ns.map V.bl
  | [], _, _, e, l => by cases e; cases l; rfl
  | .bl i :: r, ns, _, e, l => by
    cases l with
    | cons a l =>
      have e' : (bls? r).map (i :: ·) = some ns := e
      cases q : bls? r with
      | none => rw [q] at e'; cases e'
      | some ms =>
        rw [q] at e'
        cases e'
        cases a
        rw [bls_is q l]; rfl
theorem strs_is {K : KM} {H : Hp} : ∀ {ds : List Dat} {ns : List Str} {vs : List V}, strs? ds = some ns → IsL K H vs ds → vs = ns.map V.str
  | [], _, _, e, l => by cases e; cases l; rfl
  | .str i :: r, ns, _, e, l => by
    cases l with
    | cons a l =>
      have e' : (strs? r).map (i :: ·) = some ns := e
      cases q : strs? r with
      | none => rw [q] at e'; cases e'
      | some ms =>
        rw [q] at e'
        cases e'
        cases a
        rw [strs_is q l]; rfl
theorem max_fold : ∀ (r : List Int) (n : Int), (r.foldl (fun a b => if b > a then b else a) n = n ∨ r.foldl (fun a b => if b > a then b else a) n ∈ r) ∧ n ≤ r.foldl (fun a b => if b > a then b else a) n ∧ ∀ y ∈ r, y ≤ r.foldl (fun a b => if b > a then b else a) n
  | [], n => ⟨.inl rfl, Int.le_refl n, fun y h => nomatch h⟩
  | b :: r, n => by
    rw [List.foldl_cons]
    obtain ⟨h1, h2, h3⟩ := max_fold r (if b > n then b else n)
    refine ⟨?_, ?_, fun y hy => ?_⟩
    · rcases h1 with h1 | h1
      · rw [h1]
        by_cases c : b > n
        · rw [if_pos c]; exact .inr List.mem_cons_self
        · rw [if_neg c]; exact .inl rfl
      · exact .inr (List.mem_cons_of_mem _ h1)
    · refine Int.le_trans ?_ h2
      by_cases c : b > n
      · rw [if_pos c]; omega
      · rw [if_neg c]; omega
    · rcases List.mem_cons.mp hy with rfl | hy
      · refine Int.le_trans ?_ h2
        by_cases c : y > n
        · rw [if_pos c]; omega
        · rw [if_neg c]; omega
      · exact h3 y hy
/-- values that may be read now -/
inductive RdL (K : KM) (H : Hp) : List V → List Dat → Prop
  | nil : RdL K H [] []
  | cons {v d vs ds} : Rdb K H v d → RdL K H vs ds → RdL K H (v :: vs) (d :: ds)
theorem RdL.one {K : KM} {H : Hp} {vs : List V} {d : Dat} (h : RdL K H vs [d]) : ∃ v, vs = [v] ∧ Rdb K H v d := by
  cases h with
  | cons a l => cases l; exact ⟨_, rfl, a⟩
theorem RdL.two {K : KM} {H : Hp} {vs : List V} {d e : Dat} (h : RdL K H vs [d, e]) : ∃ v w, vs = [v, w] ∧ Rdb K H v d ∧ Rdb K H w e := by
  cases h with
  | cons a l => obtain ⟨w, rfl, b⟩ := l.one; exact ⟨_, _, rfl, a, b⟩
theorem bi_snd {b : BI} {as : List Dat} {d : Dat} {m : Mode} (hc : b.cold = true → X.calm = true) (hg : X.A.guards = some []) (hu : X.A.units + 64 < cLine) (h : biD b as = some (d, m)) :
    ∃ r, CallR X b.val r ∧ ∀ B σ ρ H vs Q, REnv (X.km ea) B σ H ρ → RdL (X.km ea) H vs as → Want (X.km ea) B σ ρ H d m Q → r vs H Q := by
  unfold biD at h
  split at h
  · cases h
    refine ⟨_, call_len_seq, fun B σ ρ H vs Q R l k => ?_⟩
    obtain ⟨v, rfl, a⟩ := l.one
    obtain ⟨p, ws, rfl, hp, l⟩ := a.lst
    refine ⟨p, ws, rfl, .inl hp, ?_⟩
    rw [l.length]
    exact k.val R (.int _)
  · cases h
    refine ⟨_, call_len_seq, fun B σ ρ H vs Q R l k => ?_⟩
    obtain ⟨v, rfl, a⟩ := l.one
    obtain ⟨p, ws, rfl, hp, l⟩ := a.tup
    refine ⟨p, ws, rfl, .inr hp, ?_⟩
    rw [l.length]
    exact k.val R (.int _)
  · cases h
    refine ⟨_, call_len_seq, fun B σ ρ H vs Q R l k => ?_⟩
    obtain ⟨v, rfl, a⟩ := l.one
    obtain ⟨p, rfl, hp⟩ := a.scr
    refine ⟨p, _, rfl, .inl hp, ?_⟩
    rw [List.length_map]
    exact k.val R (.int _)
  · split at h
    · rename_i c
      cases h
      refine ⟨_, call_len_str, fun B σ ρ H vs Q R l k => ?_⟩
      obtain ⟨v, rfl, a⟩ := l.one
      rw [a.str]
      exact ⟨_, rfl, sm_le c, k.val R (.int _)⟩
    · cases h
  · cases h
    refine ⟨_, call_max2 (hc rfl), fun B σ ρ H vs Q R l k => ?_⟩
    obtain ⟨v, w, rfl, a, c⟩ := l.two
    rw [a.int, c.int]
    exact ⟨_, _, rfl, k.val R (.int _)⟩
  · cases h
    refine ⟨_, call_min2 (hc rfl), fun B σ ρ H vs Q R l k => ?_⟩
    obtain ⟨v, w, rfl, a, c⟩ := l.two
    rw [a.int, c.int]
    exact ⟨_, _, rfl, k.val R (.int _)⟩
  · rename_i xs
    cases e : ints? xs with
    | none => rw [e] at h; cases h
    | some ns =>
      rw [e] at h
      cases ns with
      | nil => cases h
      | cons n r =>
        cases h
        refine ⟨_, cr_max (hc rfl), fun B σ ρ H vs Q R l k => ?_⟩
        obtain ⟨v, rfl, a⟩ := l.one
        obtain ⟨p, ws, rfl, hp, l⟩ := a.lst
        rw [ints_is e l] at hp
        refine ⟨p, n :: r, rfl, hp, Nat.succ_pos _, fun y h1 h2 => ?_⟩
        obtain ⟨g1, g2, g3⟩ := max_fold r n
        have e1 : y ≤ r.foldl (fun a b => if b > a then b else a) n := by
          rcases List.mem_cons.mp h1 with h1 | h1
          · rw [h1]; exact g2
          · exact g3 y h1
        have e2 : r.foldl (fun a b => if b > a then b else a) n ≤ y := by
          rcases g1 with g1 | g1
          · rw [g1]; exact h2 n List.mem_cons_self
          · exact h2 _ (List.mem_cons_of_mem _ g1)
        rw [Int.le_antisymm e1 e2]
        exact k.val R (.int _)
  · rename_i xs
    cases e : bls? xs with
    | none => rw [e] at h; cases h
    | some bs =>
      rw [e] at h
      cases h
      refine ⟨_, cr_all (hc rfl), fun B σ ρ H vs Q R l k => ?_⟩
      obtain ⟨v, rfl, a⟩ := l.one
      obtain ⟨p, ws, rfl, hp, l⟩ := a.lst
      rw [bls_is e l] at hp
      exact ⟨p, bs, rfl, hp, k.val R (.bl _)⟩
  · cases h
    refine ⟨_, call_tuple_of, fun B σ ρ H vs Q R l k => ?_⟩
    obtain ⟨v, rfl, a⟩ := l.one
    obtain ⟨p, ws, rfl, hp, l⟩ := a.lst
    exact ⟨p, ws, rfl, .inl ⟨hp, fun n hn => k.tup R l hn⟩⟩
  · cases h
    refine ⟨_, call_list_of, fun B σ ρ H vs Q R l k => ?_⟩
    obtain ⟨v, rfl, a⟩ := l.one
    obtain ⟨p, ws, rfl, hp, l⟩ := a.tup
    exact ⟨p, ws, rfl, .inr hp, fun n hn => k.lst R l hn⟩
  · cases h
    refine ⟨_, call_list_of, fun B σ ρ H vs Q R l k => ?_⟩
    obtain ⟨v, rfl, a⟩ := l.one
    obtain ⟨p, ws, rfl, hp, l⟩ := a.lst
    exact ⟨p, ws, rfl, .inl hp, fun n hn => k.lst R l hn⟩
  · split at h
    · rename_i dd c
      cases h
      refine ⟨_, call_reprR (ea := ea) hg hu dd c, fun B σ ρ H vs Q R l k => ?_⟩
      obtain ⟨v, rfl, a⟩ := l.one
      exact ⟨v, rfl, a, k.val R (.str _)⟩
    · cases h
  · cases h
    refine ⟨_, SkE.call_str_str, fun B σ ρ H vs Q R l k => ?_⟩
    obtain ⟨v, rfl, a⟩ := l.one
    rw [a.str]
    exact ⟨_, rfl, k.val R (.str _)⟩
  · split at h
    · rename_i i c
      cases h
      refine ⟨_, call_str_int, fun B σ ρ H vs Q R l k => ?_⟩
      obtain ⟨v, rfl, a⟩ := l.one
      rw [a.int]
      exact ⟨_, rfl, log_small c, k.val R (.str _)⟩
    · cases h
  · cases h
    refine ⟨_, call_int1, fun B σ ρ H vs Q R l k => ?_⟩
    obtain ⟨v, rfl, a⟩ := l.one
    rw [a.int]
    exact .inl ⟨_, rfl, k.val R (.int _)⟩
  · cases h
    refine ⟨_, call_int1, fun B σ ρ H vs Q R l k => ?_⟩
    obtain ⟨v, rfl, a⟩ := l.one
    rw [a.bl]
    exact .inr ⟨_, rfl, k.val R (.int _)⟩
  · split at h
    · rename_i x c
      cases e : PySem.intText? x with
      | none => rw [e] at h; cases h
      | some n =>
        rw [e] at h
        cases h
        refine ⟨_, call_int_str, fun B σ ρ H vs Q R l k => ?_⟩
        obtain ⟨v, rfl, a⟩ := l.one
        rw [a.str]
        exact ⟨_, _, rfl, e, c, k.val R (.int _)⟩
    · cases h
  · cases h
end
end Ev
set_option Elab.async false
set_option linter.all false
set_option maxRecDepth 100000
namespace Ev
open PySem PySem.Spec PyProof.Rows L2
variable {ea : Option EA}

/-! ### what a def promises: plain data in, plain data out -/
def argsR (K : KM) (H : Hp) : List Bool → List V → List Dat → Prop
  | [], [], [] => True
  | true :: io, v :: vs, d :: ds => (∃ p, v = .ref p ∧ Own K H p d) ∧ argsR K H io vs ds
  | false :: io, v :: vs, d :: ds => Is K H v d ∧ argsR K H io vs ds
  | _, _, _ => False
def ioA : List Bool → List V → List Addr
  | true :: io, .ref p :: vs => p :: ioA io vs
  | true :: io, _ :: vs => ioA io vs
  | false :: io, _ :: vs => ioA io vs
  | _, _ => []
def outsR (K : KM) (H : Hp) : List Addr → List Dat → Prop
  | [], [] => True
  | p :: ps, d :: ds => Own K H p d ∧ outsR K H ps ds
  | _, _ => False
/-- .. where an exception left the def: what is known of the changed ones -/
def outsX (K : KM) (H : Hp) : List Addr → DEnv → Prop
  | [], [] => True
  | p :: ps, .own d :: ss => Own K H p d ∧ outsX K H ps ss
  | _ :: ps, .no :: ss => outsX K H ps ss
  | _, _ => False
def Post (K : KM) (io : List Bool) (vs : List V) (H : Hp) (d : Dat) (new : Bool) (outs : List Dat) (v : V) (H' : Hp) : Prop :=
  (∀ a o, H a = some o → a ∉ ioA io vs → H' a = some o) ∧ FrzLe H H' ∧ outsR K H' (ioA io vs) outs ∧
    (if new = true then ∃ p, v = .ref p ∧ H p = none ∧ Own K H' p d else Is K H' v d)
def PostX (K : KM) (io : List Bool) (vs : List V) (H : Hp) (c : Str) (fs : List (Str × Dat)) (ss : DEnv) (cls : Value) (d : Option Addr) (H' : Hp) : Prop :=
  (∀ a o, H a = some o → a ∉ ioA io vs → H' a = some o) ∧ FrzLe H H' ∧ outsX K H' (ioA io vs) ss ∧ XcR K H' cls d c fs
/-- what the plain run comes to -/
def runR (K : KM) (io : List Bool) (vs : List V) (H : Hp) (Q : VK) (E : XK) : Res (Dat × Bool × List Dat) → Prop
  | .ok (d, new, outs) => ∀ v H', Post K io vs H d new outs v H' → Q v H'
  | .exc c fs ss => ∀ cls d H', PostX K io vs H c fs ss cls d H' → E cls d H'
  | .stuck => False
def spD (K : KM) (fi : FI) : Sp := fun vs H Q E => ∃ ds, argsR K H fi.io vs ds ∧ (ioA fi.io vs).Nodup ∧ runR K fi.io vs H Q E (fi.run ds)
theorem argsR_len {K : KM} {H : Hp} : ∀ {io : List Bool} {vs : List V} {ds : List Dat}, argsR K H io vs ds → vs.length = io.length ∧ ds.length = io.length
  | [], [], [], _ => ⟨rfl, rfl⟩
  | true :: io, v :: vs, d :: ds, h => by have := argsR_len h.2; simp [this.1, this.2]
  | false :: io, v :: vs, d :: ds, h => by have := argsR_len h.2; simp [this.1, this.2]

/-- a def that keeps its promise where nothing is being shown -/
structure FnG (P : Program) (w : World) (K : PySem.W.Frag) (mg : Str → Option Value) (base : Heap) (k : Nat) (f : Addr) (fd : FuncData) (ps : List Str) (sp : Sp) : Prop where
  len : ∀ vs H Q E, sp vs H Q E → vs.length = ps.length
  run : ∀ (A : Around) (outer : List PySem.Env) (s : Shared) (H : Hp) (args : Args) (us : List Value) (vs : List V) (Q : VK) (E : XK), Room k A → A.guards = some [] → Env0 P w K mg base A outer s H →
    BindsTo s fd args (ps.zip us) → Vals vs us → sp vs H Q E → codeAny (model P w) A (.call (.ref f) args) (CR (CX P w) outer P w H s Q E) s
theorem FnG.mono {P : Program} {w : World} {K : PySem.W.Frag} {mg : Str → Option Value} {base : Heap} {j k : Nat} {f : Addr} {fd : FuncData} {ps : List Str} {sp : Sp} (G : FnG P w K mg base j f fd ps sp) (h : j ≤ k) : FnG P w K mg base k f fd ps sp :=
  ⟨G.len, fun A outer s H args us vs Q E r => G.run A outer s H args us vs Q E (r.mono h)⟩

/-- an exception in the air of X, noted (if so) at the frame that runs -/
def XEF (X : Cx) (W : WX) (u : Value) (s' : Shared) : Prop :=
  ∃ (a : Addr) (B : Heap) (sI : Shared) (pins : List (Addr × Obj)) (σ : L2.St) (H : Hp) (cls : Value) (d : Option Addr) (L : Addr), X.env.frame = some L ∧
    u = .ref a ∧ Inv X pins σ H sI ∧ (∀ b o, sI.heap.get? b = some o → b ∉ frs X.stack → B.get? b = some o) ∧ sI.heap.UpToSlots s'.heap ∧
      Sky B X.stack a (Zc cls d) L s'.heap ∧ H a = none ∧ s'.os = sI.os ∧ AllBare s'.gens ∧ W cls d σ H
def TakesF (X : Cx) (W : WX) : Prop := ∀ u s', XEF X W u s' → X.xe u s'
theorem takesF_never {X : Cx} : TakesF X (fun _ _ _ _ => False) := fun _ _ ⟨_, _, _, _, _, _, _, _, _, _, _, _, _, _, _, _, _, _, w⟩ => w.elim
theorem XEF.of_call {X : Cx} {W : WX} {E : XK} {pins : List (Addr × Obj)} {σ : L2.St} {H : Hp} {s s' : Shared} {u : Value} {L : Addr} (hf : X.env.frame = some L) (I : Inv X pins σ H s) (hW : ∀ cls d H', E cls d H' → W cls d σ H')
    (c : CX X.prog X.w X.stack H s E u s') : XEF X W u s' := by
  obtain ⟨a, B, sI, pins', σ', H', cls, d, e1, I', e3, e4, sky, e6, e7, e8, w⟩ := XE.of_call (W := fun cls d σ1 H1 => σ1 = σ ∧ W cls d σ H1) I (fun cls d H' h => ⟨rfl, hW cls d H' h⟩) c
  obtain ⟨a0, B0, H0, cls0, d0, q1, fl, _⟩ := c
  cases e1
  refine ⟨_, B, sI, pins', σ', H', cls, d, L, hf, rfl, I', e3, e4, ?_, e6, e7, e8, ?_⟩
  · rcases sky with z | z | z
    · exact .inl z
    · exact .inr (.inl z)
    · exfalso
      cases q1
      obtain ⟨_, _, _, oe, vs, T, oT, ts, g1, _, g2, g3, _, _, g4, g5, g6⟩ := fl
      obtain ⟨_, _, _, oe', vs', T', oT', ts', k1, _, k2, k3, _, _, k4, k5, k6⟩ := z
      rw [g1] at k1; cases k1
      rw [g2] at k2; cases k2
      rw [g3] at k3; cases k3
      rw [g4] at k4; cases k4
      rw [g5] at k5; cases k5
      rw [g6] at k6
      cases k6
  · rw [w.1]; exact w.2

section
variable {X : Cx} {k : Nat} {f : Addr} {fd : FuncData} {ps : List Str} {sp : Sp} {x : Str} {p pos : Pos} {e : Expr} {es : List Expr} {t : TA} {W : WX}
theorem run_fnG {pins : List (Addr × Obj)} {σ : L2.St} {H : Hp} {s : Shared} {Q : VK} {us : List Value} {vs : List V} {args : Args} (F : FnG X.prog X.w X.K X.mg X.base k f fd ps sp) (hr : Room k X.A) (hq : X.A.guards = some []) (tk : TakesF X W) (hf : ∃ L, X.env.frame = some L)
    (hb : BindsTo s fd args (ps.zip us)) (I : Inv X pins σ H s) (r : Vals vs us) (h : sp vs H Q (fun cls d H' => W cls d σ H')) : wpAny (model X.prog X.w) X.A (call (.ref f) args.pos args.kw) (EP X pins σ Q) X.xe s := by
  refine wpAny_call (codeAny_mono (F.run X.A X.stack s H args us vs Q _ hr hq I.env0 hb r h) fun r s' z => ?_)
  cases r with
  | error e =>
    obtain ⟨L, hf⟩ := hf
    exact tk e s' (XEF.of_call hf I (fun _ _ _ h => h) z)
  | ok fl =>
    cases fl with
    | ret u => exact I.after z
    | next => exact False.elim z
    | brk => exact False.elim z
    | cont => exact False.elim z
theorem pe_callG (F : FnG X.prog X.w X.K X.mg X.base k f fd ps sp) (hr : Room k X.A) (hq : X.A.guards = some []) (tk : TakesF X W) (hf : ∃ L, X.env.frame = some L) (hg : Gl X x) (hm : X.mg x = some (.ref f)) (hk : PySem.W.keepIn X.K (.ref f) = true) (hb : Binds X.K fd ps [])
    (ha : PA X (e :: es) t) (hdb : (x == ("__debug__" : Str)) = false) (he : starEach (e :: es) X.env = (false, eval e X.env) :: starEach es X.env) (hpl : (backTo pos (starEach es X.env)).any (·.1) = false) :
    PE X (.Call (.Name x p) (e :: es) [] pos) (fun σ H Q => t σ H fun vs H1 => sp vs H1 Q (fun cls d H' => W cls d σ H')) := by
  constructor
  intro pins s σ H Q I h
  refine wpAny_Call_Name_kw (ld_glob I hg hm (PySem.W.callWith_K (h₀ := X.base) I.ok.mod.kin hk (thn (ha.run pos pins s σ H _ I h) ?_) he hpl) hdb)
  rintro us s1 ⟨vs, H1, I1, r, q⟩
  have hl : us.length = ps.length := by rw [← r.length]; exact F.len _ _ _ _ q
  have hb' := hb s1 us I1.kIn (by rw [List.append_nil]; exact hl)
  rw [List.append_nil] at hb'
  exact ⟨I1.kIn, run_fnG (args := ⟨us, []⟩) F hr hq tk hf hb' I1 r q⟩
end

theorem kw_each {kws : List Keyword} {ks : List Str} {env : PySem.Env} {pos : Pos} (h : kws.map (·.arg) = ks.map some) : (backToKw pos (keywordEach kws env)).all (·.1.isSome) = true ∧ (backToKw pos (keywordEach kws env)).filterMap (·.1) = ks ∧ (backToKw pos (keywordEach kws env)).any (·.1.isNone) = false := by
  induction kws generalizing ks with
  | nil =>
    cases ks with
    | nil => exact ⟨rfl, rfl, rfl⟩
    | cons _ _ => cases h
  | cons k r ih =>
    cases ks with
    | nil => cases h
    | cons x xs =>
      obtain ⟨a, v, p⟩ := k
      have h1 : a = some x := by
        have := congrArg List.head? h
        simpa using this
      have h2 : r.map (·.arg) = xs.map some := by
        have := congrArg List.tail h
        simpa using this
      subst h1
      obtain ⟨i1, i2, i3⟩ := ih h2
      refine ⟨?_, ?_, ?_⟩
      · show (true && (backToKw pos (keywordEach r env)).all (·.1.isSome)) = true
        rw [i1]; rfl
      · show x :: (backToKw pos (keywordEach r env)).filterMap (·.1) = _
        rw [i2]
      · show (false || (backToKw pos (keywordEach r env)).any (·.1.isNone)) = false
        rw [i3]; rfl
theorem pe_callGK {X : Cx} {k : Nat} {f : Addr} {fd : FuncData} {ps : List Str} {sp : Sp} {x : Str} {p pos : Pos} {kws : List Keyword} {t : TA} {W : WX} (F : FnG X.prog X.w X.K X.mg X.base k f fd ps sp) (hr : Room k X.A) (hq : X.A.guards = some []) (tk : TakesF X W) (hf : ∃ L, X.env.frame = some L) (hg : Gl X x) (hm : X.mg x = some (.ref f)) (hk : PySem.W.keepIn X.K (.ref f) = true)
    (hb : ∀ (s : Shared) (us : List Value), X.K.In s.heap → us.length = ps.length → BindsTo s fd ⟨[], ps.zip us⟩ (ps.zip us)) (ha : PK X kws t) (hks : kws.map (·.arg) = ps.map some) (hdb : (x == ("__debug__" : Str)) = false) :
    PE X (.Call (.Name x p) [] kws pos) (fun σ H Q => t σ H fun vs H1 => sp vs H1 Q (fun cls d H' => W cls d σ H')) := by
  constructor
  intro pins s σ H Q I h
  obtain ⟨k1, k2, k3⟩ := kw_each (env := X.env) (pos := pos) hks
  refine wpAny_Call_Name_kw (ld_glob I hg hm (PySem.W.callWith_KW0 (h₀ := X.base) I.ok.mod.kin hk k1 (thn (ha.run pos pins s σ H _ I h) ?_) (by rw [k3]; rfl)) hdb)
  rintro us s1 ⟨vs, H1, I1, r, q⟩
  have hl : us.length = ps.length := by rw [← r.length]; exact F.len _ _ _ _ q
  refine ⟨I1.kIn, ?_⟩
  rw [k2]
  exact run_fnG (args := ⟨[], ps.zip us⟩) F hr hq tk hf (hb s1 us I1.kIn hl) I1 r q

/-- the wish of a def's frame about exceptions -/
theorem takesF_of {X : Cx} {E : XK} (hs : X.stack = X.env :: X.outer) (hf : X.env.frame = some X.env.locals) (hex : X.ex = []) {E₁ : Value → Shared → Prop}
    (hx : X.xe = fun e s' => wpAny (model X.prog X.w) X.A (leaving X.env e) (fun _ s'' => CX X.prog X.w X.outer X.H_0 X.s_0 E e s'') E₁ s') : TakesF X (fun cls d _ H => E cls d H) := fun u s' z => by
  obtain ⟨a, B, sI, pins, σ, H, cls, d, L, e0, e1, I, e3, e4, sky, e6, e7, e8, w⟩ := z
  rw [hf] at e0
  cases e0
  exact takes_of hs hf hex hx u s' ⟨a, B, sI, pins, σ, H, cls, d, e1, I, e3, e4, sky, e6, e7, e8, w⟩
/-- a def's body keeps its promise -/
theorem fnG_of {P : Program} {w : World} {K : PySem.W.Frag} {mg : Str → Option Value} {base : Heap} {k : Nat} {f : Addr} {x qual : Str} {st : Stmt} {fd : FuncData} {N ps : List Str} {sp : Sp}
    (F : Fun K x qual st f fd) (S : FnScope N ps (defScope st)) (len : ∀ vs H Q E, sp vs H Q E → vs.length = ps.length)
    (body : ∀ (cdv : Value) (A : Around) (outer : List PySem.Env) (s : Shared) (H : Hp) (vs : List V) (Q : VK) (E : XK), Room k (A.deeper (envOfC qual (defScope st) s.heap.objs.size f cdv)) → A.guards = some [] → sp vs H Q E →
      ∃ t, PSs (cxOf (CX P w) P w K mg base N qual (defScope st) f cdv A outer s H E) (defBody st) t ∧ t { nx := fun _ H' => Q .non H', rt := Q } (start N vs) H) :
    FnG P w K mg base (k + 1) f fd ps sp := by
  refine ⟨len, fun A outer s H args us vs Q E hr hg e0 hb r hsp => ?_⟩
  obtain ⟨oc, od, kV, doc, pm, an, cdv, ct, osl, rfl, lk, hcd⟩ := F.ex
  have kept : ∀ b o, base.get? b = some o → s.heap.get? b = some o := fun b o e => (e0.bs b o e).1
  have KX : K.In s.heap := e0.mod.kin.keeps kept
  have nl : s.heap.NoLimit := e0.mod.nolimit.keeps kept
  have kinds : ∀ y ∈ ps.zip us, (defScope st).names.lookup y.1 = some .local ∨ ((defScope st).names.lookup y.1 = some .cell ∧ ((cellsFrom (s.heap.objs.size + 1) (defScope st).names []).lookup y.1).isSome = true) := by
    rintro ⟨n, z⟩ hy
    rcases S.par n (List.of_mem_zip hy).1 with c | c
    · exact .inl c
    · exact .inr ⟨c, PySem.W.cellsFrom_some _ _ _ (.inl c)⟩
  refine codeAny_call_function hr.depth (KX _ _ lk) rfl S.co S.gen rfl (PySem.W.codeRec_of KX hcd) (hb _ _ _ _ (wpAny_newFunctionEnv_cells S.kind kinds ?_))
  rintro env rfl s1 ic
  refine ⟨nl.keeps ic.toInCall.keep, codeAny_func ?_⟩
  obtain ⟨t, ht, hq⟩ := body cdv A outer s H vs Q E (hr.deeper _) hg hsp
  have J : Inv (cxOf (CX P w) P w K mg base N qual (defScope st) f cdv A outer s H E) [] (start N vs) H s1 := inv_start S hr.hd e0 (len _ _ _ _ hsp) r ic
  refine wpAny_mono (ht.run [] s1 (start N vs) H _ J hq) ?_ (fun _ _ z => z)
  intro fl s' z
  cases fl with
  | ret u => obtain ⟨v, σ', H', I', rv, q⟩ := z; exact ⟨v, H', I'.os, I'.bare, I'.base, I'.hok, rv, q⟩
  | next => obtain ⟨σ', H', I', q⟩ := z; exact ⟨.non, H', I'.os, I'.bare, I'.base, I'.hok, rfl, q⟩
  | brk => obtain ⟨_, _, _, q⟩ := z; exact q.elim
  | cont => obtain ⟨_, _, _, q⟩ := z; exact q.elim
end Ev
set_option Elab.async false
set_option linter.all false
set_option maxRecDepth 100000
namespace Ev
open PySem PySem.Spec PyProof.Rows L2

def noStar : Expr → Bool
  | .Starred .. => false
  | _ => true
def noSet : Expr → Bool
  | .Set .. => false
  | _ => true
def plainIx : Expr → Bool
  | .Name .. => true
  | .Constant .. => true
  | .BinOp .. => true
  | .Call .. => true
  | .UnaryOp .. => true
  | .Subscript .. => true
  | _ => false
def plainT : Expr → Bool
  | .Name .. => true
  | .Call .. => true
  | .Subscript .. => true
  | .Attribute .. => true
  | _ => false
/-- whose attribute is looked up as it stands -/
def plainO : Expr → Bool
  | .Name .. => true
  | .Constant .. => true
  | .Subscript .. => true
  | _ => false
def vis (sc : Scope) (x : Str) : Bool := match sc.names.lookup x with
  | some .local => true
  | some .cell => true
  | some .free => true
  | _ => false
def glo (sc : Scope) (x : Str) : Bool := match sc.names.lookup x with
  | some .globalImplicit => true
  | _ => false
def isCst : Dat → Const → Bool
  | .non, .none => true
  | .bl b, .bool c => b == c
  | .int i, .int j => i == j
  | .str x, .str y => x == y
  | _, _ => false
def notOdd (x : Str) : Bool := !(x == ("__debug__" : Str)) && !(x == ("__classdict__" : Str))

/-- what may stand as a test -/
def tst : IE → Bool
  | .not a => tst a
  | .and a b => tst a && tst b
  | .or a b => tst a && tst b
  | .cmp .. => true
  | .cmp2 .. => true
  | .isi .. => true
  | .call .. => true
  | .bi .. => true
  | .var _ => true
  | .glb _ => true
  | .idx .. => true
  | .isN .. => true
  | .isE .. => true
  | .callK .. => true
  | _ => false
def isS : IE → Str → Bool
  | .cst (.str w), z => w == z
  | _, _ => false
theorem isS_of {e : IE} {z : Str} (h : isS e z = true) : e = .cst (.str z) := by
  unfold isS at h
  split at h
  · rw [eq_of_beq h]
  · cases h
def nameOf : Expr → Option Str
  | .Name x _ => some x
  | _ => none
mutual
def chk (N : List Str) (hot : Bool) : Scope → IE → Expr → Bool
  | sc, .var i, e => (match e with
    | .Name x _ => decide (N[i]? = some x) && vis sc x && notOdd x
    | _ => false)
  | sc, .cst d, e => (match e with
    | .Constant c _ _ => isCst d c
    | _ => false)
  | sc, .glb x, e => (match e with
    | .Name y _ => decide (x = y) && glo sc x && notOdd x
    | _ => false)
  | sc, .tup es, e => (match e with
    | .Tuple l _ _ => chks N hot sc es l
    | _ => false)
  | sc, .lst es, e => (match e with
    | .List l _ => chks N hot sc es l
    | _ => false)
  | sc, .dic0, e => (match e with
    | .Dict [] [] _ => true
    | _ => false)
  | sc, .dic1 k v, e => (match e with
    | .Dict [some x] [y] _ => chk N hot sc k x && chk N hot sc v y
    | _ => false)
  | sc, .bin op a b, e => (match e with
    | .BinOp x o y _ => decide (op = o) && chk N hot sc a x && chk N hot sc b y
    | _ => false)
  | sc, .neg a, e => (match e with
    | .UnaryOp .USub x _ => chk N hot sc a x
    | _ => false)
  | sc, .not a, e => (match e with
    | .UnaryOp .Not x _ => chk N hot sc a x
    | _ => false)
  | sc, .and a b, e => (match e with
    | .BoolOp .And [x, y] _ => chk N hot sc a x && chk N hot sc b y
    | .BoolOp .And (x :: y :: z :: r) p => chk N hot sc a x && chk N hot sc b (.BoolOp .And (y :: z :: r) p)
    | _ => false)
  | sc, .or a b, e => (match e with
    | .BoolOp .Or [x, y] _ => chk N hot sc a x && chk N hot sc b y
    | .BoolOp .Or (x :: y :: z :: r) p => chk N hot sc a x && chk N hot sc b (.BoolOp .Or (y :: z :: r) p)
    | _ => false)
  | sc, .cmp op a b, e => (match e with
    | .Compare x [o] [y] _ => decide (op = o) && noSet y && chk N hot sc a x && chk N hot sc b y
    | _ => false)
  | sc, .cmp2 op oq a b c, e => (match e with
    | .Compare x [o, p] [y, z] _ => decide (op = o) && decide (oq = p) && noSet z && chk N hot sc a x && chk N hot sc b y && chk N hot sc c z
    | _ => false)
  | sc, .ite c a b, e => (match e with
    | .IfExp z x y _ => tst c && chk N hot sc c z && chk N hot sc a x && chk N hot sc b y
    | _ => false)
  | sc, .idx a b, e => (match e with
    | .Subscript x y _ => plainIx y && chk N hot sc a x && chk N hot sc b y
    | _ => false)
  | sc, .slcL a b, e => (match e with
    | .Subscript x (.Slice (some y) none none _) _ => chk N hot sc a x && chk N hot sc b y
    | _ => false)
  | sc, .slcR a b, e => (match e with
    | .Subscript x (.Slice none (some y) none _) _ => chk N hot sc a x && chk N hot sc b y
    | _ => false)
  | sc, .call f as, e => (match e with
    | .Call (.Name g _) (x :: l) [] _ => !hot && decide (f = g) && glo sc f && notOdd f && chks N hot sc as (x :: l)
    | _ => false)
  | sc, .bi b as, e => (match e with
    | .Call (.Name g _) (x :: l) [] _ => !(hot && b.cold) && decide (b.name = g) && glo sc b.name && chks N hot sc as (x :: l)
    | _ => false)
  | sc, .isi a ty, e => (match e with
    | .Call (.Name g _) [x, .Name t _] [] _ => decide (g = "isinstance") && glo sc "isinstance" && decide (t = Str.ofString ty) && glo sc t && noStar x && chk N hot sc a x
    | _ => false)
  | sc, .join o a, e => (match e with
    | .Call (.Attribute x n ap) [y] [] cp => decide (n = "join") && plainO x && (ap.endLine == cp.line) && noStar y && chk N hot sc o x && chk N hot sc a y
    | _ => false)
  | sc, .upper o, e => (match e with
    | .Call (.Attribute x n ap) [] [] cp => decide (n = "upper") && plainO x && (ap.endLine == cp.line) && chk N hot sc o x
    | _ => false)
  | sc, .lc elt tg it own, e => (match e with
    | .ListComp y [⟨.Name x _, i, [], 0⟩] scope _ => !hot && noSet i && blkC N sc scope own && decide ((x, tg) ∈ own) && own.all (fun p => decide (p.2 < N.length)) && (match scope.names.lookup x with | some .local => true | some .cell => true | _ => false) && chk N hot sc it i && chk N hot (relS scope sc) elt y
    | _ => false)
  | sc, .lcI elt tg it cond own, e => (match e with
    | .ListComp y [⟨.Name x _, i, [c], 0⟩] scope _ => !hot && tst cond && noSet i && blkC N sc scope own && decide ((x, tg) ∈ own) && own.all (fun p => decide (p.2 < N.length)) && (match scope.names.lookup x with | some .local => true | some .cell => true | _ => false) && chk N hot sc it i && chk N hot (relS scope sc) elt y && chk N hot (relS scope sc) cond c
    | _ => false)
  | sc, .lcR elt tg a own, e => (match e with
    | .ListComp y [⟨.Name x _, .Call (.Name r _) [i] [] _, [], 0⟩] scope _ => !hot && decide (r = "range") && glo sc "range" && noStar i && blkC N sc scope own && decide ((x, tg) ∈ own) && own.all (fun p => decide (p.2 < N.length)) && (match scope.names.lookup x with | some .local => true | some .cell => true | _ => false) && chk N hot sc a i && chk N hot (relS scope sc) elt y
    | _ => false)
  | sc, .split o a, e => (match e with
    | .Call (.Attribute x n ap) [y] [] cp => decide (n = "split") && plainO x && (ap.endLine == cp.line) && noStar y && chk N hot sc o x && chk N hot sc a y
    | _ => false)
  | sc, .fst es, e => (match e with
    | .JoinedStr (v1 :: v2 :: rest) _ => chkF N hot sc es (v1 :: v2 :: rest)
    | _ => false)
  | sc, .isN b a, e => (match e with
    | .Compare x [.Is] [.Constant .none _ _] _ => b && chk N hot sc a x
    | .Compare x [.IsNot] [.Constant .none _ _] _ => !b && chk N hot sc a x
    | _ => false)
  | sc, .isE i cs, e => (match e with
    | .Call (.Name g _) [.Name x _, .Name c _] [] _ => decide (g = "isinstance") && glo sc "isinstance" && decide (N[i]? = some x) && vis sc x && notOdd x && decide (cs = [c]) && glo sc c && notOdd c
    | _ => false)
  | sc, .fldE i f, e => (match e with
    | .Attribute (.Name x _) g _ => decide (f = g) && decide (N[i]? = some x) && vis sc x && notOdd x
    | _ => false)
  | sc, .callK f ks as, e => (match e with
    | .Call (.Name g _) [] kws _ => !hot && decide (f = g) && glo sc f && notOdd f && decide (kws.map (·.arg) = ks.map some) && chks N hot sc as (kws.map (·.value))
    | _ => false)
def chkF (N : List Str) (hot : Bool) : Scope → IEs → List Expr → Bool
  | _, .nil, l => (match l with
    | [] => true
    | _ => false)
  | sc, .cons e es, l => (match l with
    | .FormattedValue x (-1) none _ :: r => chk N hot sc e x && chkF N hot sc es r
    | .Constant (.str z) _ _ :: r => isS e z && chkF N hot sc es r
    | _ => false)
def chks (N : List Str) (hot : Bool) : Scope → IEs → List Expr → Bool
  | _, .nil, l => (match l with
    | [] => true
    | _ => false)
  | sc, .cons e es, l => (match l with
    | x :: r => noStar x && chk N hot sc e x && chks N hot sc es r
    | _ => false)
end

/-! ### what such looks are worth -/
theorem star_cons {e : Expr} {es : List Expr} {env : PySem.Env} (h : noStar e = true) : starEach (e :: es) env = (false, eval e env) :: starEach es env := by
  cases e <;> first | rfl | cases h
theorem star_none {es : List Expr} {env : PySem.Env} {pos : Pos} (h : ∀ e ∈ es, noStar e = true) : (backTo pos (starEach es env)).any (·.1) = false := by
  induction es with
  | nil => rfl
  | cons e r ih =>
    rw [star_cons (h e List.mem_cons_self)]
    exact ih fun x hx => h x (List.mem_cons_of_mem _ hx)
theorem chks_star {N : List Str} {hot : Bool} {sc : Scope} : ∀ {es : IEs} {l : List Expr}, chks N hot sc es l = true → ∀ e ∈ l, noStar e = true
  | .nil, [], _, e, h => nomatch h
  | .cons a r, x :: l, h, e, he => by
    have h1 := Bool.and_eq_true_iff.mp (show (noStar x && chk N hot sc a x && chks N hot sc r l) = true from h)
    have h2 := Bool.and_eq_true_iff.mp h1.1
    rcases List.mem_cons.mp he with rfl | he
    · exact h2.1
    · exact chks_star h1.2 e he
theorem noSet_marks {op : CmpOp} {e : Expr} (h : noSet e = true) : behindInMarks op e = false := by
  cases e <;> first | rfl | cases h
theorem noSet_marks2 {o p : CmpOp} {a e : Expr} (h : noSet e = true) : lastMarks [o, p] [a, e] = false := by
  show behindInMarks p e = false
  exact noSet_marks h
theorem noSet_fold {e : Expr} {env : PySem.Env} (h : noSet e = true) : ∀ x, foldedSetIterable e env x = pure x := by
  intro x
  cases e <;> first | rfl | cases h
theorem plain_ix {e : Expr} (h : plainIx e = true) : PlainIx e := by
  cases e <;> first | exact fun _ _ => rfl | cases h
theorem plain_t {e : Expr} {env : PySem.Env} (h : plainT e = true) : ∀ whole, isTrue e env whole = (do let v ← whole; standAt e.pos; holding [v] (truthy v)) := by
  intro whole
  cases e <;> first | rfl | cases h
theorem plain_o {e : Expr} {n : Str} {env : PySem.Env} (h : plainO e = true) : attributeBase e n env (eval e env) = eval e env := by
  cases e <;> first | rfl | cases h
theorem vis_of {sc : Scope} {x : Str} (h : vis sc x = true) : Vis sc x := by
  unfold vis at h
  unfold Vis
  split at h
  · exact .inl (by assumption)
  · exact .inr (.inl (by assumption))
  · exact .inr (.inr (by assumption))
  · cases h
theorem glo_of {X : Cx} {x : Str} (h : glo X.env.scope x = true) : Gl X x := by
  unfold glo at h
  split at h
  · assumption
  · cases h
theorem odd1 {x : Str} (h : notOdd x = true) : (x == ("__debug__" : Str)) = false := by
  have := (Bool.and_eq_true_iff.mp h).1
  simpa using this
theorem odd2 {x : Str} (h : notOdd x = true) : (x == ("__classdict__" : Str)) = false := by
  have := (Bool.and_eq_true_iff.mp h).2
  simpa using this
theorem blk_scope (scope : Scope) (cl : List (Str × Addr)) (C : Addr) (env : PySem.Env) : (compEnvC scope cl C env).scope = relS scope env.scope := rfl
end Ev
set_option Elab.async false
set_option linter.all false
set_option maxRecDepth 100000
namespace Ev
open PySem PySem.Spec PyProof.Rows L2
variable {ea : Option EA}

/-- a def's frame runs -/
structure Frm (X : Cx) (L : Addr) : Prop where
  ex : ∃ e0 o0, X.stack = e0 :: o0 ∧ e0.frame = some L
  fr : X.env.frame = some L
/-- what an own class of exceptions must say -/
structure ExcF (K : PySem.W.Frag) (C : Addr) : Prop where
  hcl : (PySem.W.clsIn K C).isSome = true
  hga : PySem.W.findIn K (.ref C) "__getattribute__" = some (some (.builtin "BaseException.__getattribute__"))
  hgt : PySem.W.findIn K (.ref C) "__getattr__" = some none
  hsub : PySem.W.subIn K (.ref C) (.type "BaseException") = some true
  ha : PySem.W.findIn K (.ref C) "__class__" = some (some (.builtin "object.__class__"))
  hn : PySem.W.specialIn K (.builtin "object.__class__") "__get__" = some (some (.builtin "getset_descriptor.__get__"))
  htk : PySem.W.takesIn K (.builtin "object.__class__") = some true
  hm : PySem.W.mroIn K C (.type "object") = some true
  hd : PySem.W.hasDictIn K C = true
/-- what may be raised by its class's own call -/
structure RaiseF (K : PySem.W.Frag) (C : Addr) : Prop where
  ex : ∃ (B newId initId : String) (bm : List Value), ExcBaseFacts B newId initId bm ∧ PySem.W.excIn K C bm newId = true
  kp : PySem.W.keepIn K (.ref C) = true
  sb : PySem.W.subIn K (.ref C) (.type "BaseException") = some true
  ty : PySem.W.typeIn K (.ref C) = some (.type "type")
/-- what a name that is no def's own stands for -/
def NameM (mg : Str → Option Value) (x : Str) (v : Value) : Prop := mg x = some v ∨ (mg x = none ∧ bootBuiltins x = some v ∧ x ≠ "__name__")
def KwB (K : PySem.W.Frag) (fd : FuncData) (ps : List Str) : Prop := ∀ (s : Shared) (us : List Value), K.In s.heap → us.length = ps.length → BindsTo s fd ⟨[], ps.zip us⟩ (ps.zip us)
/-- what the module's names stand for, below a level -/
structure ModF (T : Tab) (n : Nat) (P : Program) (w : World) (K : PySem.W.Frag) (mg : Str → Option Value) (base : Heap) : Prop where
  bt : ∀ b : BI, mg b.name = none
  isi : mg "isinstance" = none
  rng : mg "range" = none
  tys : ∀ ty : String, ty ∈ ["int", "bool", "str", "tuple", "list", "dict"] → mg (Str.ofString ty) = none
  con : ∀ x d, T.con x = some d → ∃ u v, mg x = some u ∧ RelV v u ∧ ∀ ea H, Is ⟨K, mg, ea⟩ H v d
  fns : ∀ f fi, T.fn f = some fi → ∃ a fd ps k, k ≤ n ∧ mg f = some (.ref a) ∧ PySem.W.keepIn K (.ref a) = true ∧ Binds K fd ps [] ∧ FnG P w K mg base k a fd ps (spD ⟨K, mg, none⟩ fi) ∧ (∀ qs, T.kw f = some qs → ps = qs ∧ KwB K fd ps)
  exf : ∀ c fs, T.exc c = some fs → ∃ C, mg c = some (.ref C) ∧ ExcF K C ∧ ∀ f ∈ fs, PySem.W.findIn K (.ref C) f = some none
  rse : ∀ c, T.exc c = some [] → ∃ C, mg c = some (.ref C) ∧ RaiseF K C
  sub : ∀ c d b, T.sub c d = some b → ∃ C v, mg c = some (.ref C) ∧ ExcF K C ∧ NameM mg d v ∧ ((∃ D, v = .ref D) ∨ ∃ t, v = .type t) ∧ PySem.W.kitOne K (.ref C) v = some b ∧ PySem.W.exmOne K (.ref C) v = some b
structure Good (T : Tab) (n : Nat) (hot : Bool) (ea : Option EA) (X : Cx) : Prop where
  mod : ModF T n X.prog X.w X.K X.mg X.base
  calm : hot = false → X.calm = true
  ea0 : hot = false → ea = none
  room : hot = false → Room n X.A
  nd : X.N.Nodup
  grd : X.A.guards = some []
  hu : X.A.units + 64 < cLine
  frm : ∃ L, Frm X L
  eaf : ∀ e, ea = some e → ∃ oe, (e.a, oe) ∈ X.pn ∧ Zc (.ref e.C) e.d oe ∧ ∃ vs, oe.data = .fields vs

def Shape : List Bool → Got → Prop
  | [], [] => True
  | true :: io, .slot _ :: g => Shape io g
  | true :: io, .tmp _ :: g => Shape io g
  | false :: io, .val _ :: g => Shape io g
  | _, _ => False
def tmpA : List V → Got → List Addr
  | .ref p :: vs, .tmp _ :: g => p :: tmpA vs g
  | _ :: vs, .tmp _ :: g => tmpA vs g
  | _ :: vs, .val _ :: g => tmpA vs g
  | _ :: vs, .slot _ :: g => tmpA vs g
  | _, _ => []
def gotR (K : KM) (B : Hp) (σ : L2.St) (ρ : DEnv) (H : Hp) : List V → Got → Prop
  | [], [] => True
  | v :: vs, .val d :: g => Is K H v d ∧ gotR K B σ ρ H vs g
  | v :: vs, .slot i :: g => σ[i]? = some (some v) ∧ gotR K B σ ρ H vs g
  | v :: vs, .tmp d :: g => (∃ p, v = .ref p ∧ Own K H p d ∧ B p = none ∧ (∀ (i : Nat) e, ρ[i]? = some (.own e) → σ[i]? ≠ some (some (.ref p))) ∧ p ∉ tmpA vs g) ∧ gotR K B σ ρ H vs g
  | _, _ => False
theorem gotR.weak {K : KM} {B B1 : Hp} {σ : L2.St} {ρ : DEnv} {H : Hp} (le : ∀ a, B1 a = none → B a = none) : ∀ {vs : List V} {g : Got}, gotR K B1 σ ρ H vs g → gotR K B σ ρ H vs g
  | [], [], _ => trivial
  | v :: vs, .val d :: g, h => ⟨h.1, gotR.weak le h.2⟩
  | v :: vs, .slot i :: g, h => ⟨h.1, gotR.weak le h.2⟩
  | v :: vs, .tmp d :: g, h => by
    obtain ⟨⟨p, e, o, b, n, t⟩, r⟩ := h
    exact ⟨⟨p, e, o, le p b, n, t⟩, gotR.weak le r⟩
theorem tmp_props {K : KM} {B : Hp} {σ : L2.St} {ρ : DEnv} {H : Hp} : ∀ {vs : List V} {g : Got} {p : Addr}, gotR K B σ ρ H vs g → p ∈ tmpA vs g → B p = none ∧ ∀ (i : Nat) e, ρ[i]? = some (.own e) → σ[i]? ≠ some (some (.ref p))
  | [], [], p, _, h => nomatch h
  | v :: vs, .val d :: g, p, r, h => tmp_props r.2 (by cases v <;> exact h)
  | v :: vs, .slot i :: g, p, r, h => tmp_props r.2 (by cases v <;> exact h)
  | v :: vs, .tmp d :: g, p, r, h => by
    obtain ⟨⟨q, rfl, o, b, n, t⟩, r⟩ := r
    rcases List.mem_cons.mp (show p ∈ q :: tmpA vs g from h) with z | z
    · subst z; exact ⟨b, n⟩
    · exact tmp_props r z
def tSG (K : KM) (ρ : DEnv) (g : Got) (ρ' : DEnv) : TA := fun σ H Q => ∃ B, REnv K B σ H ρ ∧ ∀ vs H', REnv K B σ H' ρ' → FrzLe H H' → gotR K B σ ρ' H' vs g → Q vs H'

theorem args_shape {T : Tab} : ∀ {io : List Bool} {es : IEs} {ρ ρ1 : DEnv} {g : Got}, evArgs T io es ρ = .ok (g, ρ1) → g.length = io.length → Shape io g
  | io, .nil, ρ, ρ1, g, h, hl => by
    simp only [evArgs] at h
    cases h
    cases io with
    | nil => trivial
    | cons _ _ => cases hl
  | true :: io, .cons e es, ρ, ρ1, g, h, hl => by
    simp only [evArgs] at h
    split at h
    · split at h
      · obtain ⟨⟨g', ρ2⟩, h1, h2⟩ := Res.bind_ok h
        cases h2
        exact (show Shape io g' from args_shape h1 (by simpa using hl))
      · cases h
    · obtain ⟨⟨d, m, ρ2⟩, h1, h2⟩ := Res.bind_ok h
      dsimp only at h2
      split at h2
      · obtain ⟨⟨g', ρ3⟩, h3, h4⟩ := Res.bind_ok h2
        cases h4
        exact (show Shape io g' from args_shape h3 (by simpa using hl))
      · cases h2
  | false :: io, .cons e es, ρ, ρ1, g, h, hl => by
    simp only [evArgs] at h
    obtain ⟨⟨d, m, ρ2⟩, h1, h2⟩ := Res.bind_ok h
    obtain ⟨⟨g', ρ3⟩, h3, h4⟩ := Res.bind_ok h2
    cases h4
    exact (show Shape io g' from args_shape h3 (by simpa using hl))
  | [], .cons e es, ρ, ρ1, g, h, hl => by
    simp only [evArgs] at h
    cases h

section
variable {K : KM} {B : Hp} {σ : L2.St} {H H' : Hp} {ρ : DEnv}
theorem map_some {α : Type} {o : Option (List α)} {d : α} {ds : List α} (h : o.map (d :: ·) = some ds) : ∃ es, o = some es ∧ ds = d :: es := by
  cases o with
  | none => cases h
  | some es => cases h; exact ⟨es, rfl, rfl⟩
theorem got_args (R : REnv K B σ H ρ) : ∀ {io : List Bool} {g : Got} {vs : List V} {ds : List Dat}, Shape io g → gotR K B σ ρ H vs g → readArgs ρ g = some ds → argsR K H io vs ds
  | [], [], [], ds, _, _, h => by cases h; trivial
  | true :: io, .slot i :: g, v :: vs, ds, s, r, h => by
    unfold readArgs at h
    split at h
    · rename_i d e
      obtain ⟨es, q, rfl⟩ := map_some h
      obtain ⟨p, h1, h2, h3⟩ := R.own i d e
      rw [r.1] at h1
      cases h1
      exact ⟨⟨p, rfl, h3⟩, got_args R (show Shape io g from s) r.2 q⟩
    · cases h
  | true :: io, .tmp d :: g, v :: vs, ds, s, r, h => by
    obtain ⟨es, q, rfl⟩ := map_some (show (readArgs ρ g).map (d :: ·) = some ds from h)
    obtain ⟨⟨p, e, o, _⟩, r⟩ := r
    exact ⟨⟨p, e, o⟩, got_args R (show Shape io g from s) r q⟩
  | false :: io, .val d :: g, v :: vs, ds, s, r, h => by
    obtain ⟨es, q, rfl⟩ := map_some (show (readArgs ρ g).map (d :: ·) = some ds from h)
    exact ⟨r.1, got_args R (show Shape io g from s) r.2 q⟩
  | [], [], _ :: _, _, _, r, _ => nomatch r
  | true :: _, .slot _ :: _, [], _, _, r, _ => nomatch r
  | true :: _, .tmp _ :: _, [], _, _, r, _ => nomatch r
  | false :: _, .val _ :: _, [], _, _, r, _ => nomatch r
theorem read_own : ∀ {g : Got} {ds : List Dat} {i : Nat}, readArgs ρ g = some ds → i ∈ slotsOf g → ∃ d, ρ[i]? = some (.own d)
  | .val d :: g, ds, i, h, hi => by
    obtain ⟨es, q, rfl⟩ := map_some (show (readArgs ρ g).map (d :: ·) = some ds from h)
    exact read_own q hi
  | .tmp d :: g, ds, i, h, hi => by
    obtain ⟨es, q, rfl⟩ := map_some (show (readArgs ρ g).map (d :: ·) = some ds from h)
    exact read_own q hi
  | .slot j :: g, ds, i, h, hi => by
    unfold readArgs at h
    split at h
    · rename_i d e
      obtain ⟨es, q, rfl⟩ := map_some h
      rcases List.mem_cons.mp (show i ∈ j :: slotsOf g from hi) with z | z
      · subst z; exact ⟨d, e⟩
      · exact read_own q z
    · cases h
theorem ioA_slots : ∀ {io : List Bool} {g : Got} {vs : List V} {p : Addr}, Shape io g → gotR K B σ ρ H vs g → p ∈ ioA io vs → (∃ i ∈ slotsOf g, σ[i]? = some (some (.ref p))) ∨ p ∈ tmpA vs g
  | [], [], [], p, _, _, h => nomatch h
  | true :: io, .slot i :: g, v :: vs, p, s, r, h => by
    have fin : p ∈ ioA io vs → (∃ j ∈ slotsOf (.slot i :: g : Got), σ[j]? = some (some (.ref p))) ∨ p ∈ tmpA (v :: vs) (.slot i :: g) := fun z => by
      rcases ioA_slots (show Shape io g from s) r.2 z with ⟨j, hj, e⟩ | q
      · exact .inl ⟨j, List.mem_cons_of_mem _ hj, e⟩
      · exact .inr (by cases v <;> exact q)
    cases v with
    | ref q =>
      rcases List.mem_cons.mp (show p ∈ q :: ioA io vs from h) with z | z
      · subst z; exact .inl ⟨i, List.mem_cons_self, r.1⟩
      · exact fin z
    | non => exact fin h
    | bl _ => exact fin h
    | int _ => exact fin h
    | str _ => exact fin h
    | byt _ => exact fin h
    | flt _ => exact fin h
    | ty _ => exact fin h
  | true :: io, .tmp d :: g, v :: vs, p, s, r, h => by
    obtain ⟨⟨q, rfl, _⟩, r⟩ := r
    rcases List.mem_cons.mp (show p ∈ q :: ioA io vs from h) with z | z
    · exact .inr (by rw [z]; exact List.mem_cons_self)
    · rcases ioA_slots (show Shape io g from s) r z with ⟨j, hj, e⟩ | y
      · exact .inl ⟨j, hj, e⟩
      · exact .inr (List.mem_cons_of_mem _ y)
  | false :: io, .val d :: g, v :: vs, p, s, r, h => by
    have h' : p ∈ ioA io vs := by cases v <;> exact h
    rcases ioA_slots (show Shape io g from s) r.2 h' with ⟨j, hj, e⟩ | q
    · exact .inl ⟨j, hj, e⟩
    · exact .inr (by cases v <;> exact q)
  | [], [], _ :: _, _, _, r, _ => nomatch r
  | true :: _, .slot _ :: _, [], _, _, r, _ => nomatch r
  | true :: _, .tmp _ :: _, [], _, _, r, _ => nomatch r
  | false :: _, .val _ :: _, [], _, _, r, _ => nomatch r
theorem ioA_nodup (R : REnv K B σ H ρ) : ∀ {io : List Bool} {g : Got} {vs : List V} {ds : List Dat}, Shape io g → gotR K B σ ρ H vs g → readArgs ρ g = some ds → (slotsOf g).Nodup → (ioA io vs).Nodup
  | [], [], [], ds, _, _, _, _ => List.nodup_nil
  | true :: io, .slot i :: g, v :: vs, ds, s, r, h, nd => by
    obtain ⟨d, e⟩ := read_own h (show i ∈ i :: slotsOf g from List.mem_cons_self)
    obtain ⟨p, h1, h2, h3⟩ := R.own i d e
    rw [r.1] at h1
    cases h1
    have nd' := List.nodup_cons.mp (show (i :: slotsOf g).Nodup from nd)
    obtain ⟨es, he⟩ : ∃ es, readArgs ρ g = some es := by
      unfold readArgs at h
      rw [e] at h
      obtain ⟨es, q, _⟩ := map_some h
      exact ⟨es, q⟩
    refine List.nodup_cons.mpr ⟨fun z => ?_, ioA_nodup R (show Shape io g from s) r.2 he nd'.2⟩
    rcases ioA_slots (show Shape io g from s) r.2 z with ⟨j, hj, ej⟩ | q
    · obtain ⟨d', e'⟩ := read_own he hj
      have := R.sep i j d d' p e e' r.1 ej
      subst this
      exact nd'.1 hj
    · exact (tmp_props r.2 q).2 i d e r.1
  | true :: io, .tmp d :: g, v :: vs, ds, s, r, h, nd => by
    obtain ⟨es, he, _⟩ := map_some (show (readArgs ρ g).map (d :: ·) = some ds from h)
    obtain ⟨⟨p, rfl, o, b, n, t⟩, r⟩ := r
    refine List.nodup_cons.mpr ⟨fun z => ?_, ioA_nodup R (show Shape io g from s) r he nd⟩
    rcases ioA_slots (show Shape io g from s) r z with ⟨j, hj, ej⟩ | q
    · obtain ⟨d', e'⟩ := read_own he hj
      exact n j d' e' ej
    · exact t q
  | false :: io, .val d :: g, v :: vs, ds, s, r, h, nd => by
    obtain ⟨es, he, _⟩ := map_some (show (readArgs ρ g).map (d :: ·) = some ds from h)
    have := ioA_nodup R (show Shape io g from s) r.2 he nd
    cases v <;> exact this
  | [], [], _ :: _, _, _, r, _, _ => nomatch r
  | true :: _, .slot _ :: _, [], _, _, r, _, _ => nomatch r
  | true :: _, .tmp _ :: _, [], _, _, r, _, _ => nomatch r
  | false :: _, .val _ :: _, [], _, _, r, _, _ => nomatch r
theorem putBack_len : ∀ {g : Got} {ρ : DEnv} {outs : List Dat}, (putBack ρ g outs).length = ρ.length
  | [], ρ, outs => by cases outs <;> rfl
  | .val _ :: g, ρ, outs => by
    show (putBack ρ g outs).length = _
    exact putBack_len
  | .tmp _ :: g, ρ, [] => rfl
  | .tmp _ :: g, ρ, d :: outs => by
    show (putBack ρ g outs).length = _
    exact putBack_len
  | .slot i :: g, ρ, [] => rfl
  | .slot i :: g, ρ, d :: outs => by
    show (putBack (ρ.set i (.own d)) g outs).length = _
    rw [putBack_len, List.length_set]
theorem putBack_spec : ∀ {io : List Bool} {g : Got} {vs : List V} {ρ ρ0 : DEnv} {outs : List Dat}, Shape io g → gotR K B σ ρ0 H vs g → outsR K H' (ioA io vs) outs → (slotsOf g).Nodup → (∀ i ∈ slotsOf g, i < ρ.length ∧ ∃ p, σ[i]? = some (some (.ref p))) →
    ∀ j, (j ∉ slotsOf g → (putBack ρ g outs)[j]? = ρ[j]?) ∧ (j ∈ slotsOf g → ∃ p d, σ[j]? = some (some (.ref p)) ∧ (putBack ρ g outs)[j]? = some (.own d) ∧ Own K H' p d)
  | [], [], [], ρ, ρ0, outs, _, _, o, _, _, j => by
    cases outs with
    | nil => exact ⟨fun _ => rfl, fun z => nomatch z⟩
    | cons _ _ => exact nomatch o
  | true :: io, .slot i :: g, v :: vs, ρ, ρ0, outs, s, r, o, nd, hs, j => by
    obtain ⟨hi, p, hp⟩ := hs i List.mem_cons_self
    have nd' := List.nodup_cons.mp (show (i :: slotsOf g).Nodup from nd)
    have ev : v = .ref p := by have := r.1.symm.trans hp; cases this; rfl
    subst ev
    cases outs with
    | nil => exact nomatch o
    | cons d outs =>
      have o' : Own K H' p d ∧ outsR K H' (ioA io vs) outs := o
      have ih := putBack_spec (ρ := ρ.set i (.own d)) (show Shape io g from s) r.2 o'.2 nd'.2 (fun k hk => ⟨by rw [List.length_set]; exact (hs k (List.mem_cons_of_mem _ hk)).1, (hs k (List.mem_cons_of_mem _ hk)).2⟩) j
      show ((j ∉ i :: slotsOf g → (putBack (ρ.set i (.own d)) g outs)[j]? = ρ[j]?) ∧ (j ∈ i :: slotsOf g → ∃ p d', σ[j]? = some (some (.ref p)) ∧ (putBack (ρ.set i (.own d)) g outs)[j]? = some (.own d') ∧ Own K H' p d'))
      refine ⟨fun z => ?_, fun z => ?_⟩
      · have z1 : j ≠ i := fun q => z (by rw [q]; exact List.mem_cons_self)
        have z2 : j ∉ slotsOf g := fun q => z (List.mem_cons_of_mem _ q)
        rw [ih.1 z2, List.getElem?_set_ne (Ne.symm z1)]
      · rcases List.mem_cons.mp z with z | z
        · subst z
          refine ⟨p, d, hp, ?_, o'.1⟩
          rw [ih.1 nd'.1, List.getElem?_set_self hi]
        · exact ih.2 z
  | true :: io, .tmp d :: g, v :: vs, ρ, ρ0, outs, s, r, o, nd, hs, j => by
    obtain ⟨⟨p, rfl, _⟩, r⟩ := r
    cases outs with
    | nil => exact nomatch o
    | cons d' outs =>
      have o' : Own K H' p d' ∧ outsR K H' (ioA io vs) outs := o
      exact putBack_spec (ρ := ρ) (show Shape io g from s) r o'.2 nd hs j
  | false :: io, .val d :: g, v :: vs, ρ, ρ0, outs, s, r, o, nd, hs, j => by
    have o' : outsR K H' (ioA io vs) outs := by cases v <;> exact o
    exact putBack_spec (ρ := ρ) (show Shape io g from s) r.2 o' nd hs j
  | [], [], _ :: _, _, _, _, _, r, _, _, _, _ => nomatch r
  | true :: _, .slot _ :: _, [], _, _, _, _, r, _, _, _, _ => nomatch r
  | true :: _, .tmp _ :: _, [], _, _, _, _, r, _, _, _, _ => nomatch r
  | false :: _, .val _ :: _, [], _, _, _, _, r, _, _, _, _ => nomatch r
/-- behind a call -/
theorem call_back {io : List Bool} {g : Got} {vs : List V} {ds outs : List Dat} {d : Dat} {new : Bool} {v : V} (R : REnv K B σ H ρ) (s : Shape io g) (r : gotR K B σ ρ H vs g) (hr : readArgs ρ g = some ds) (nd : (slotsOf g).Nodup)
    (P : Post K io vs H d new outs v H') : REnv K B σ H' (putBack ρ g outs) ∧ RV K B σ (putBack ρ g outs) H' v d (if new = true then .fresh else .frz) := by
  obtain ⟨p1, p2, p3, p4⟩ := P
  have hs : ∀ i ∈ slotsOf g, i < ρ.length ∧ ∃ p, σ[i]? = some (some (.ref p)) := fun i hi => by
    obtain ⟨e, he⟩ := read_own hr hi
    obtain ⟨p, h1, _⟩ := R.own i e he
    exact ⟨(List.getElem?_eq_some_iff.mp he).1, p, h1⟩
  have sp := putBack_spec (ρ := ρ) s r p3 nd hs
  have ownB : ∀ (i : Nat) e, (putBack ρ g outs)[i]? = some (.own e) → ∃ e', ρ[i]? = some (.own e') := fun i e h => by
    by_cases hi : i ∈ slotsOf g
    · exact read_own hr hi
    · rw [(sp i).1 hi] at h; exact ⟨e, h⟩
  refine ⟨⟨fun a o hb => ?_, ?_, fun i e h => ?_, fun i e h => ?_, fun i j e e' p h1 h2 h3 h4 => ?_, fun i c fs h => ?_⟩, ?_⟩
  · refine p1 a o (R.base a o hb) fun ha => ?_
    rcases ioA_slots s r ha with ⟨i, hi, hσ⟩ | q
    · obtain ⟨e, he⟩ := read_own hr hi
      obtain ⟨p, g1, g2, _⟩ := R.own i e he
      rw [hσ] at g1; cases g1
      rw [g2] at hb; cases hb
    · rw [(tmp_props r q).1] at hb; cases hb
  · rw [putBack_len]; exact R.len
  · by_cases hi : i ∈ slotsOf g
    · obtain ⟨p, e', _, g2, _⟩ := (sp i).2 hi
      rw [g2] at h; cases h
    · rw [(sp i).1 hi] at h
      obtain ⟨w, w1, w2⟩ := R.val i e h
      exact ⟨w, w1, w2.mono p2⟩
  · by_cases hi : i ∈ slotsOf g
    · obtain ⟨p, e', g1, g2, g3⟩ := (sp i).2 hi
      rw [g2] at h; cases h
      obtain ⟨e2, he2⟩ := read_own hr hi
      obtain ⟨p', k1, k2, _⟩ := R.own i e2 he2
      rw [g1] at k1; cases k1
      exact ⟨p, g1, k2, g3⟩
    · rw [(sp i).1 hi] at h
      obtain ⟨p, k1, k2, k3⟩ := R.own i e h
      refine ⟨p, k1, k2, k3.mono p2 ?_⟩
      obtain ⟨ws, hw⟩ := k3.some
      rw [hw]
      refine p1 p _ hw fun ha => ?_
      rcases ioA_slots s r ha with ⟨j, hj, hσ⟩ | q
      · obtain ⟨e2, he2⟩ := read_own hr hj
        exact hi (by rw [R.sep i j e e2 p h he2 k1 hσ]; exact hj)
      · exact (tmp_props r q).2 i e h k1
  · obtain ⟨f1, g1⟩ := ownB i e h1
    obtain ⟨f2, g2⟩ := ownB j e' h2
    exact R.sep i j f1 f2 p g1 g2 h3 h4
  · by_cases hi : i ∈ slotsOf g
    · obtain ⟨p, e', _, g2, _⟩ := (sp i).2 hi
      rw [g2] at h; cases h
    · rw [(sp i).1 hi] at h
      obtain ⟨x, x1, x2, x3, x4⟩ := R.exn i c fs h
      exact ⟨x, x1, x2, x3, x4.mono p2⟩
  · cases new with
    | false => exact p4
    | true =>
      obtain ⟨p, rfl, hn, ho⟩ := p4
      refine ⟨p, rfl, ho, R.newB hn, fun i e h => ?_⟩
      obtain ⟨e', he'⟩ := ownB i e h
      exact R.newS hn i e' he'
theorem putX_len : ∀ {g : Got} {ρ ss : DEnv}, (putX ρ g ss).length = ρ.length
  | [], ρ, ss => by cases ss <;> rfl
  | .val _ :: g, ρ, ss => by
    show (putX ρ g ss).length = _
    exact putX_len
  | .tmp _ :: g, ρ, [] => rfl
  | .tmp _ :: g, ρ, d :: ss => by
    show (putX ρ g ss).length = _
    exact putX_len
  | .slot i :: g, ρ, [] => rfl
  | .slot i :: g, ρ, d :: ss => by
    show (putX (ρ.set i d) g ss).length = _
    rw [putX_len, List.length_set]
theorem putX_spec : ∀ {io : List Bool} {g : Got} {vs : List V} {ρ ρ0 ss : DEnv}, Shape io g → gotR K B σ ρ0 H vs g → outsX K H' (ioA io vs) ss → (slotsOf g).Nodup → (∀ i ∈ slotsOf g, i < ρ.length ∧ ∃ p, σ[i]? = some (some (.ref p))) →
    ∀ j, (j ∉ slotsOf g → (putX ρ g ss)[j]? = ρ[j]?) ∧ (j ∈ slotsOf g → ∃ p, σ[j]? = some (some (.ref p)) ∧ ((putX ρ g ss)[j]? = some .no ∨ ∃ d, (putX ρ g ss)[j]? = some (.own d) ∧ Own K H' p d))
  | [], [], [], ρ, ρ0, ss, _, _, o, _, _, j => by
    cases ss with
    | nil => exact ⟨fun _ => rfl, fun z => nomatch z⟩
    | cons _ _ => exact nomatch o
  | true :: io, .slot i :: g, v :: vs, ρ, ρ0, ss, s, r, o, nd, hs, j => by
    obtain ⟨hi, p, hp⟩ := hs i List.mem_cons_self
    have nd' := List.nodup_cons.mp (show (i :: slotsOf g).Nodup from nd)
    have ev : v = .ref p := by have := r.1.symm.trans hp; cases this; rfl
    subst ev
    have key : ∀ (d : Slot) (ss : DEnv), (d = .no ∨ ∃ x, d = .own x ∧ Own K H' p x) → outsX K H' (ioA io vs) ss →
        ((j ∉ i :: slotsOf g → (putX (ρ.set i d) g ss)[j]? = ρ[j]?) ∧ (j ∈ i :: slotsOf g → ∃ p, σ[j]? = some (some (.ref p)) ∧ ((putX (ρ.set i d) g ss)[j]? = some .no ∨ ∃ d', (putX (ρ.set i d) g ss)[j]? = some (.own d') ∧ Own K H' p d'))) := by
      intro d ss hd o'
      have ih := putX_spec (ρ := ρ.set i d) (show Shape io g from s) r.2 o' nd'.2 (fun k hk => ⟨by rw [List.length_set]; exact (hs k (List.mem_cons_of_mem _ hk)).1, (hs k (List.mem_cons_of_mem _ hk)).2⟩) j
      refine ⟨fun z => ?_, fun z => ?_⟩
      · have z1 : j ≠ i := fun q => z (by rw [q]; exact List.mem_cons_self)
        have z2 : j ∉ slotsOf g := fun q => z (List.mem_cons_of_mem _ q)
        rw [ih.1 z2, List.getElem?_set_ne (Ne.symm z1)]
      · rcases List.mem_cons.mp z with z | z
        · subst z
          refine ⟨p, hp, ?_⟩
          rw [ih.1 nd'.1, List.getElem?_set_self hi]
          rcases hd with rfl | ⟨x, rfl, hx⟩
          · exact .inl rfl
          · exact .inr ⟨x, rfl, hx⟩
        · exact ih.2 z
    cases ss with
    | nil => exact nomatch o
    | cons d ss =>
      cases d with
      | no => exact key .no ss (.inl rfl) o
      | own x =>
        have o' : Own K H' p x ∧ outsX K H' (ioA io vs) ss := o
        exact key (.own x) ss (.inr ⟨x, rfl, o'.1⟩) o'.2
      | val _ => exact nomatch o
      | exn _ _ => exact nomatch o
  | true :: io, .tmp d :: g, v :: vs, ρ, ρ0, ss, s, r, o, nd, hs, j => by
    obtain ⟨⟨p, rfl, _⟩, r⟩ := r
    cases ss with
    | nil => exact nomatch o
    | cons d' ss =>
      have o' : outsX K H' (ioA io vs) ss := by
        cases d' with
        | no => exact o
        | own x => exact (show Own K H' p x ∧ outsX K H' (ioA io vs) ss from o).2
        | val _ => exact nomatch o
        | exn _ _ => exact nomatch o
      exact putX_spec (ρ := ρ) (show Shape io g from s) r o' nd hs j
  | false :: io, .val d :: g, v :: vs, ρ, ρ0, ss, s, r, o, nd, hs, j => by
    have o' : outsX K H' (ioA io vs) ss := by cases v <;> exact o
    exact putX_spec (ρ := ρ) (show Shape io g from s) r.2 o' nd hs j
  | [], [], _ :: _, _, _, _, _, r, _, _, _, _ => nomatch r
  | true :: _, .slot _ :: _, [], _, _, _, _, r, _, _, _, _ => nomatch r
  | true :: _, .tmp _ :: _, [], _, _, _, _, r, _, _, _, _ => nomatch r
  | false :: _, .val _ :: _, [], _, _, _, _, r, _, _, _, _ => nomatch r
/-- behind a call that let an exception out -/
theorem call_backX {io : List Bool} {g : Got} {vs : List V} {ds : List Dat} {ss : DEnv} {c : Str} {fs : List (Str × Dat)} {cls : Value} {dd : Option Addr} (R : REnv K B σ H ρ) (s : Shape io g) (r : gotR K B σ ρ H vs g) (hr : readArgs ρ g = some ds) (nd : (slotsOf g).Nodup)
    (P : PostX K io vs H c fs ss cls dd H') : REnv K B σ H' (putX ρ g ss) ∧ XcR K H' cls dd c fs := by
  obtain ⟨p1, p2, p3, p4⟩ := P
  have hs : ∀ i ∈ slotsOf g, i < ρ.length ∧ ∃ p, σ[i]? = some (some (.ref p)) := fun i hi => by
    obtain ⟨e, he⟩ := read_own hr hi
    obtain ⟨p, h1, _⟩ := R.own i e he
    exact ⟨(List.getElem?_eq_some_iff.mp he).1, p, h1⟩
  have sp := putX_spec (ρ := ρ) s r p3 nd hs
  have ownB : ∀ (i : Nat) e, (putX ρ g ss)[i]? = some (.own e) → ∃ e', ρ[i]? = some (.own e') := fun i e h => by
    by_cases hi : i ∈ slotsOf g
    · exact read_own hr hi
    · rw [(sp i).1 hi] at h; exact ⟨e, h⟩
  refine ⟨⟨fun a o hb => ?_, ?_, fun i e h => ?_, fun i e h => ?_, fun i j e e' p h1 h2 h3 h4 => ?_, fun i c fs h => ?_⟩, p4⟩
  · refine p1 a o (R.base a o hb) fun ha => ?_
    rcases ioA_slots s r ha with ⟨i, hi, hσ⟩ | q
    · obtain ⟨e, he⟩ := read_own hr hi
      obtain ⟨p, g1, g2, _⟩ := R.own i e he
      rw [hσ] at g1; cases g1
      rw [g2] at hb; cases hb
    · rw [(tmp_props r q).1] at hb; cases hb
  · rw [putX_len]; exact R.len
  · by_cases hi : i ∈ slotsOf g
    · obtain ⟨p, _, g2 | ⟨e', g2, _⟩⟩ := (sp i).2 hi <;> (rw [g2] at h; cases h)
    · rw [(sp i).1 hi] at h
      obtain ⟨w, w1, w2⟩ := R.val i e h
      exact ⟨w, w1, w2.mono p2⟩
  · by_cases hi : i ∈ slotsOf g
    · obtain ⟨p, g1, g2 | ⟨e', g2, g3⟩⟩ := (sp i).2 hi
      · rw [g2] at h; cases h
      · rw [g2] at h; cases h
        obtain ⟨e2, he2⟩ := read_own hr hi
        obtain ⟨p', k1, k2, _⟩ := R.own i e2 he2
        rw [g1] at k1; cases k1
        exact ⟨p, g1, k2, g3⟩
    · rw [(sp i).1 hi] at h
      obtain ⟨p, k1, k2, k3⟩ := R.own i e h
      refine ⟨p, k1, k2, k3.mono p2 ?_⟩
      obtain ⟨ws, hw⟩ := k3.some
      rw [hw]
      refine p1 p _ hw fun ha => ?_
      rcases ioA_slots s r ha with ⟨j, hj, hσ⟩ | q
      · obtain ⟨e2, he2⟩ := read_own hr hj
        exact hi (by rw [R.sep i j e e2 p h he2 k1 hσ]; exact hj)
      · exact (tmp_props r q).2 i e h k1
  · obtain ⟨f1, g1⟩ := ownB i e h1
    obtain ⟨f2, g2⟩ := ownB j e' h2
    exact R.sep i j f1 f2 p g1 g2 h3 h4
  · by_cases hi : i ∈ slotsOf g
    · obtain ⟨p, _, g2 | ⟨e', g2, _⟩⟩ := (sp i).2 hi <;> (rw [g2] at h; cases h)
    · rw [(sp i).1 hi] at h
      obtain ⟨x, x1, x2, x3, x4⟩ := R.exn i c fs h
      exact ⟨x, x1, x2, x3, x4.mono p2⟩
end
end Ev
set_option Elab.async false
set_option linter.all false
set_option maxRecDepth 100000
namespace Ev
open PySem PySem.Spec PyProof.Rows L2
variable {ea : Option EA}
section
variable {K : KM} {B : Hp} {σ : L2.St} {H H' : Hp} {ρ ρ' : DEnv}
theorem set_get {α : Type} {l : List α} {i j : Nat} {a : α} : (l.set i a)[j]? = if i = j then (if i < l.length then some a else none) else l[j]? := by
  rw [List.getElem?_set]
theorem REnv.setNo (R : REnv K B σ H ρ) (v : Nat) : REnv K B (σ.set v none) H (ρ.set v .no) := by
  refine ⟨R.base, by rw [List.length_set, List.length_set]; exact R.len, fun i d h => ?_, fun i d h => ?_, fun i j d e p h1 h2 h3 h4 => ?_, fun i c fs h => ?_⟩
  · rw [set_get] at h
    split at h
    · split at h <;> cases h
    · rename_i n
      obtain ⟨w, w1, w2⟩ := R.val i d h
      exact ⟨w, by rw [List.getElem?_set_ne n]; exact w1, w2⟩
  · rw [set_get] at h
    split at h
    · split at h <;> cases h
    · rename_i n
      obtain ⟨w, w1, w2⟩ := R.own i d h
      exact ⟨w, by rw [List.getElem?_set_ne n]; exact w1, w2⟩
  · rw [set_get] at h1 h2
    split at h1
    · split at h1 <;> cases h1
    · split at h2
      · split at h2 <;> cases h2
      · rename_i n1 n2
        rw [List.getElem?_set_ne n1] at h3
        rw [List.getElem?_set_ne n2] at h4
        exact R.sep i j d e p h1 h2 h3 h4
  · rw [set_get] at h
    split at h
    · split at h <;> cases h
    · rename_i n
      obtain ⟨x, x1, x2, x3⟩ := R.exn i c fs h
      exact ⟨x, x1, by rw [List.getElem?_set_ne n]; exact x2, x3⟩
theorem REnv.setVal {x : V} {d : Dat} (R : REnv K B σ H ρ) (v : Nat) (hx : Is K H x d) : REnv K B (σ.set v (some x)) H (ρ.set v (.val d)) := by
  refine ⟨R.base, by rw [List.length_set, List.length_set]; exact R.len, fun i e h => ?_, fun i e h => ?_, fun i j e e' p h1 h2 h3 h4 => ?_, fun i c fs h => ?_⟩
  · rw [set_get] at h
    split at h
    · rename_i n
      subst n
      split at h
      · cases h
        rename_i hl
        exact ⟨x, by rw [List.getElem?_set_self (by rw [R.len]; exact hl)], hx⟩
      · cases h
    · rename_i n
      obtain ⟨w, w1, w2⟩ := R.val i e h
      exact ⟨w, by rw [List.getElem?_set_ne n]; exact w1, w2⟩
  · rw [set_get] at h
    split at h
    · split at h <;> cases h
    · rename_i n
      obtain ⟨w, w1, w2⟩ := R.own i e h
      exact ⟨w, by rw [List.getElem?_set_ne n]; exact w1, w2⟩
  · rw [set_get] at h1 h2
    split at h1
    · split at h1 <;> cases h1
    · split at h2
      · split at h2 <;> cases h2
      · rename_i n1 n2
        rw [List.getElem?_set_ne n1] at h3
        rw [List.getElem?_set_ne n2] at h4
        exact R.sep i j e e' p h1 h2 h3 h4
  · rw [set_get] at h
    split at h
    · split at h <;> cases h
    · rename_i n
      obtain ⟨x, x1, x2, x3⟩ := R.exn i c fs h
      exact ⟨x, x1, by rw [List.getElem?_set_ne n]; exact x2, x3⟩
theorem REnv.wipe (R : REnv K B σ H ρ) : ∀ vs : List Nat, REnv K B (L2.wipe σ vs) H (wipeE ρ vs)
  | [] => R
  | v :: vs => (REnv.wipe R vs).setNo v
theorem wipe_get {i : Nat} : ∀ {vs : List Nat}, i ∉ vs → (L2.wipe σ vs)[i]? = σ[i]?
  | [], _ => rfl
  | v :: vs, h => by
    show ((L2.wipe σ vs).set v none)[i]? = _
    rw [List.getElem?_set_ne (fun z => h (by rw [z]; exact List.mem_cons_self)), wipe_get fun z => h (List.mem_cons_of_mem _ z)]
theorem wipeE_get {i : Nat} : ∀ {vs : List Nat}, i ∉ vs → (wipeE ρ vs)[i]? = ρ[i]?
  | [], _ => rfl
  | v :: vs, h => by
    show ((wipeE ρ vs).set v .no)[i]? = _
    rw [List.getElem?_set_ne (fun z => h (by rw [z]; exact List.mem_cons_self)), wipeE_get fun z => h (List.mem_cons_of_mem _ z)]
theorem wipeE_len : ∀ vs : List Nat, (wipeE ρ vs).length = ρ.length
  | [] => rfl
  | v :: vs => by
    show ((wipeE ρ vs).set v .no).length = _
    rw [List.length_set, wipeE_len vs]
theorem wipe_at {i : Nat} : ∀ {vs : List Nat}, i ∈ vs → i < σ.length → (L2.wipe σ vs)[i]? = some none
  | v :: vs, h, hl => by
    show ((L2.wipe σ vs).set v none)[i]? = _
    rw [set_get]
    by_cases z : v = i
    · rw [if_pos z, if_pos (by rw [wipe_length, z]; exact hl)]
    · rw [if_neg z]
      rcases List.mem_cons.mp h with q | q
      · exact absurd q.symm z
      · exact wipe_at q hl
theorem wipe_set {i : Nat} {x : Option V} {vs : List Nat} (h : i ∈ vs) : L2.wipe ((L2.wipe σ vs).set i x) vs = L2.wipe σ vs := by
  apply List.ext_getElem?
  intro j
  by_cases hj : j ∈ vs
  · by_cases hl : j < σ.length
    · rw [wipe_at hj (by rw [List.length_set, wipe_length]; exact hl), wipe_at hj hl]
    · rw [List.getElem?_eq_none (by rw [wipe_length, List.length_set, wipe_length]; omega), List.getElem?_eq_none (by rw [wipe_length]; omega)]
  · rw [wipe_get hj, List.getElem?_set_ne (fun z => hj (by rw [← z]; exact h))]
theorem back_get {vs : List Nat} {i : Nat} : (back ρ ρ' vs)[i]? = (ρ'[i]?).map fun s => if vs.contains i then ρ.getD i .no else s := by
  unfold back
  rw [List.getElem?_mapIdx]
theorem REnv.back {B' : Hp} {H1 H2 : Hp} {ρ1 ρ2 : DEnv} {vs : List Nat} (R1 : REnv K B σ H1 ρ1) (hc : calmAt ρ1 vs = true) (le : ∀ a o, B a = some o → B' a = some o) (f : FrzLe H1 H2) (R2 : REnv K B' (L2.wipe σ vs) H2 (wipeE ρ2 vs)) :
    REnv K B σ H2 (Ev.back ρ1 ρ2 vs) ∧ ∀ (i : Nat) e, (Ev.back ρ1 ρ2 vs)[i]? = some (.own e) → ∃ p, σ[i]? = some (some (.ref p)) ∧ B' p = none := by
  have R2w := R2.weak le
  have len2 : ρ2.length = σ.length := by
    have := R2.len
    rw [wipe_length, wipeE_len] at this
    exact this.symm
  have own : ∀ (i : Nat) e, (Ev.back ρ1 ρ2 vs)[i]? = some (.own e) → i ∉ vs ∧ ρ2[i]? = some (.own e) := fun i e h => by
    rw [back_get] at h
    cases q : ρ2[i]? with
    | none => rw [q] at h; cases h
    | some sl =>
      rw [q] at h
      have h' : (if vs.contains i then ρ1.getD i .no else sl) = Slot.own e := by simpa using h
      by_cases c : i ∈ vs
      · exfalso
        rw [if_pos (List.contains_iff_mem.mpr c)] at h'
        have hh := List.all_eq_true.mp hc i c
        cases q1 : ρ1[i]? with
        | none => rw [q1] at hh; cases hh
        | some z =>
          rw [List.getD_eq_getElem?_getD, q1] at h'
          have h2 : z = Slot.own e := h'
          rw [q1, h2] at hh
          cases hh
      · rw [if_neg (fun z => c (List.contains_iff_mem.mp z))] at h'
        exact ⟨c, by rw [h']⟩
  refine ⟨⟨R2w.base, ?_, fun i d h => ?_, fun i d h => ?_, fun i j d e p h1 h2 h3 h4 => ?_, fun i cc fs h => ?_⟩, fun i e h => ?_⟩
  · unfold Ev.back
    rw [List.length_mapIdx, len2]
  · rw [back_get] at h
    cases q : ρ2[i]? with
    | none => rw [q] at h; cases h
    | some sl =>
      rw [q] at h
      have h' : (if vs.contains i then ρ1.getD i .no else sl) = Slot.val d := by simpa using h
      by_cases c : i ∈ vs
      · rw [if_pos (List.contains_iff_mem.mpr c)] at h'
        cases q1 : ρ1[i]? with
        | none => rw [List.getD_eq_getElem?_getD, q1] at h'; cases h'
        | some z =>
          rw [List.getD_eq_getElem?_getD, q1] at h'
          have h2 : z = Slot.val d := h'
          subst h2
          obtain ⟨w, w1, w2⟩ := R1.val i d q1
          exact ⟨w, w1, w2.mono f⟩
      · rw [if_neg (fun z => c (List.contains_iff_mem.mp z))] at h'
        subst h'
        obtain ⟨w, w1, w2⟩ := R2w.val i d (by rw [wipeE_get c]; exact q)
        rw [wipe_get c] at w1
        exact ⟨w, w1, w2⟩
  · obtain ⟨c, q⟩ := own i d h
    obtain ⟨w, w1, w2⟩ := R2w.own i d (by rw [wipeE_get c]; exact q)
    rw [wipe_get c] at w1
    exact ⟨w, w1, w2⟩
  · obtain ⟨c1, q1⟩ := own i d h1
    obtain ⟨c2, q2⟩ := own j e h2
    exact R2w.sep i j d e p (by rw [wipeE_get c1]; exact q1) (by rw [wipeE_get c2]; exact q2) (by rw [wipe_get c1]; exact h3) (by rw [wipe_get c2]; exact h4)
  · rw [back_get] at h
    cases q : ρ2[i]? with
    | none => rw [q] at h; cases h
    | some sl =>
      rw [q] at h
      have h' : (if vs.contains i then ρ1.getD i .no else sl) = Slot.exn cc fs := by simpa using h
      by_cases c : i ∈ vs
      · rw [if_pos (List.contains_iff_mem.mpr c)] at h'
        cases q1 : ρ1[i]? with
        | none => rw [List.getD_eq_getElem?_getD, q1] at h'; cases h'
        | some z =>
          rw [List.getD_eq_getElem?_getD, q1] at h'
          have h2 : z = Slot.exn cc fs := h'
          subst h2
          obtain ⟨x, x1, x2, x3, x4⟩ := R1.exn i cc fs q1
          exact ⟨x, x1, x2, x3, x4.mono f⟩
      · rw [if_neg (fun z => c (List.contains_iff_mem.mp z))] at h'
        subst h'
        obtain ⟨x, x1, x2, x3⟩ := R2w.exn i cc fs (by rw [wipeE_get c]; exact q)
        rw [wipe_get c] at x2
        exact ⟨x, x1, x2, x3⟩
  · obtain ⟨c, q⟩ := own i e h
    obtain ⟨p, w1, w2, _⟩ := R2.own i e (by rw [wipeE_get c]; exact q)
    rw [wipe_get c] at w1
    exact ⟨p, w1, w2⟩
end

/-- an iterator over values that stay -/
def Walker (J : It) (vs : List V) (H1 : Hp) : Prop := ∀ (i : Nat) H, FrzLe H1 H → (∀ x, vs[i]? = some x → J.go i H ∧ ∀ y H', J.yld i H y H' → H' = H ∧ y = x) ∧ (vs.length ≤ i → J.stop i H)
theorem walker_list {K : KM} {H1 : Hp} {a : Addr} {o : Obj} {vs : List V} (h : H1 a = some (.frz o (.lst vs))) : Walker (Itl K.K a) vs H1 := fun i H f => by
  have q : SqL K.K H a vs := .inl (.inr ⟨o, f _ _ h rfl⟩)
  exact ⟨fun x e => ⟨⟨vs, x, q, e⟩, fun y H' z => ⟨z.1, Option.some.inj ((z.2 vs q).symm.trans e)⟩⟩, fun e => ⟨vs, q, e⟩⟩
theorem walker_tup {K : KM} {H1 : Hp} {a : Addr} {vs : List V} (h : SqT K.K H1 a vs) : Walker (Itt K.K a) vs H1 := fun i H f => by
  have q : SqT K.K H a vs := sqT_mono f h
  exact ⟨fun x e => ⟨⟨vs, x, q, e⟩, fun y H' z => ⟨z.1, Option.some.inj ((z.2 vs q).symm.trans e)⟩⟩, fun e => ⟨vs, q, e⟩⟩
theorem walker_str {H1 : Hp} (x : Str) : Walker (Its x) (x.cps.toList.map fun c => V.str ⟨#[c]⟩) H1 := fun i H f => by
  refine ⟨fun v e => ?_, fun e => ?_⟩
  · rw [List.getElem?_map] at e
    cases q : x.cps.toList[i]? with
    | none => rw [q] at e; cases e
    | some c =>
      rw [q] at e
      cases e
      have hi : i < x.cps.size := by
        have := (List.getElem?_eq_some_iff.mp q).1
        rwa [Array.length_toList] at this
      refine ⟨hi, fun y H' z => ⟨z.1, ?_⟩⟩
      obtain ⟨_, c', e1, rfl⟩ := z
      rw [← Array.getElem?_toList, q] at e1
      cases e1
      rfl
  · rw [List.length_map, Array.length_toList] at e
    exact e
theorem walker_rng {H1 : Hp} (j : Int) : Walker (Itr 0 j.toNat) ((List.range j.toNat).map fun (k : Nat) => V.int (k : Int)) H1 := fun i H f => by
  refine ⟨fun v e => ?_, fun e => ?_⟩
  · rw [List.getElem?_map] at e
    cases q : (List.range j.toNat)[i]? with
    | none => rw [q] at e; cases e
    | some c =>
      rw [q] at e
      cases e
      have hi := (List.getElem?_eq_some_iff.mp q).1
      rw [List.length_range] at hi
      have hc : c = i := by rw [List.getElem?_range hi] at q; exact (Option.some.inj q).symm
      subst hc
      exact ⟨hi, fun y H' z => ⟨z.1, by rw [z.2, Int.zero_add]⟩⟩
  · rw [List.length_map, List.length_range] at e
    exact e

/-- what is wanted of one turn -/
def wantOne (K : KM) (W : WX) (B : Hp) (σ1 : L2.St) (H : Hp) (Qy : V → Hp → Prop) (Qn : Hp → Prop) : Res (Option Dat × DEnv) → Prop
  | .ok (some d, ρ2) => ∀ y H', REnv K B σ1 H' ρ2 → FrzLe H H' → Is K H' y d → Qy y H'
  | .ok (none, ρ2) => ∀ H', REnv K B σ1 H' ρ2 → FrzLe H H' → Qn H'
  | .exc c fs ρ2 => ∀ cls d H', REnv K B σ1 H' ρ2 → FrzLe H H' → XcR K H' cls d c fs → W cls d σ1 H'
  | .stuck => False
def StepOk (K : KM) (W : WX) (vs : List Nat) (tg : Nat) (tt : TT) (te : TE) (one : Dat → DEnv → Res (Option Dat × DEnv)) : Prop :=
  ∀ x ρ' B σ0 H v, REnv K B σ0 H (wipeE ρ' vs) → Is K H v x → ∀ (Qy : V → Hp → Prop) (Qn : Hp → Prop), wantOne K W B (σ0.set tg (some v)) H Qy Qn (one x ρ') →
    tt (σ0.set tg (some v)) H (fun b H3 => if b = true then te (σ0.set tg (some v)) H3 Qy else Qn H3)
/-- what is wanted of a comprehension -/
def wantC (K : KM) (W : WX) (B : Hp) (σ : L2.St) (H : Hp) (Q : VK) : Res (Dat × Mode × DEnv) → Prop
  | .ok (d, m, ρ2) => Want K B σ ρ2 H d m Q
  | .exc c fs ρ2 => ∀ cls d H', REnv K B σ H' ρ2 → FrzLe H H' → XcR K H' cls d c fs → W cls d σ H'
  | .stuck => False
def pre (acc : List Dat) (r : Res (List Dat × DEnv)) : Res (List Dat × DEnv) := r.bind fun (ys, ρ) => .ok (acc ++ ys, ρ)
theorem pre_nil (r : Res (List Dat × DEnv)) : pre [] r = r := by
  cases r <;> rfl
theorem pre_put (acc : List Dat) (o : Option Dat) (r : Res (List Dat × DEnv)) : pre acc (r.bind fun (ys, ρ2) => .ok (put o ys, ρ2)) = pre (acc ++ o.toList) r := by
  cases r with
  | ok a =>
    obtain ⟨ys, ρ⟩ := a
    cases o with
    | none => show Res.ok (acc ++ ys, ρ) = Res.ok ((acc ++ []) ++ ys, ρ); rw [List.append_nil]
    | some y => show Res.ok (acc ++ (y :: ys), ρ) = Res.ok ((acc ++ [y]) ++ ys, ρ); rw [List.append_assoc]; rfl
  | exc c fs ρ => rfl
  | stuck => rfl

theorem comp_snd {K : KM} {W : WX} {J : It} {vs : List Nat} {tg : Nat} {tt : TT} {te : TE} {one : Dat → DEnv → Res (Option Dat × DEnv)} {xs : List Dat} {vI : List V} {ρ1 : DEnv} {B : Hp} {σ : L2.St} {H1 : Hp} {Q : VK}
    (st : StepOk K (fun cls d _ H => W cls d σ H) vs tg tt te one) (l : IsL K H1 vI xs) (wk : Walker J vI H1) (R : REnv K B σ H1 ρ1) (hm : tg ∈ vs) (w : wantC K W B σ H1 Q (comp vs one xs ρ1)) :
    ∀ D, H1 D = none → ∃ Wi : Nat → Nat → Hp → Prop, (∃ m, Wi 0 m (upd H1 D (.lst []))) ∧ ∀ i m H, Wi i m H →
      (J.stop i H ∧ Q (.ref D) H) ∨ (J.go i H ∧ ∃ Nx : Hp → Prop, (∀ H', Nx H' → ∃ m', m' < m ∧ Wi (i + 1) m' H') ∧ ∀ x H', J.yld i H x H' → gName tg x (L2.wipe σ vs) H' fun σ2 H2 => L2.wipe σ2 vs = L2.wipe σ vs ∧ tt σ2 H2 fun b H3 =>
        if b = true then te σ2 H3 fun y H4 => ∃ acc, H4 D = some (.lst acc) ∧ acc.length < sizeLine ∧ Nx (upd H4 D (.lst (acc ++ [y]))) else Nx H3) := by
  intro D hD
  unfold comp at w
  split at w
  case isFalse => exact w.elim
  rename_i hcc
  obtain ⟨hs, hc⟩ := Bool.and_eq_true_iff.mp hcc
  have bD : B D = none := R.newB hD
  have lenI := l.length
  have leD : ∀ z a o, B a = some o → upd B D z a = some o := fun z a o h => by rw [upd_ne (fun e => by subst e; rw [bD] at h; cases h)]; exact h
  refine ⟨fun i m H => ∃ ρi acc accV, m = xs.length - i ∧ i ≤ xs.length ∧ pre acc (turns one (xs.drop i) ρi) = turns one xs ρ1 ∧ H D = some (.lst accV) ∧ IsL K H accV acc ∧ acc.length ≤ i ∧
    REnv K (upd B D (.lst accV)) (L2.wipe σ vs) H (wipeE ρi vs) ∧ FrzLe H1 H, ⟨xs.length, ρ1, [], [], by omega, Nat.zero_le _, pre_nil _, upd_same, .nil, Nat.le_refl _, ?_, FrzLe.new hD⟩, ?_⟩
  · have R' := (R.new (o := .lst []) hD).wipe vs
    refine ⟨fun a o h => ?_, R'.len, R'.val, fun i d h => ?_, R'.sep, R'.exn⟩
    · by_cases z : a = D
      · subst z; rw [upd_same] at h; cases h; exact upd_same
      · rw [upd_ne z] at h; exact R'.base a o h
    · obtain ⟨p, p1, p2, p3⟩ := R'.own i d h
      refine ⟨p, p1, ?_, p3⟩
      have hp : p ≠ D := fun z => by
        subst z
        have iv : i ∉ vs := fun q => by
          have lt : i < σ.length := by
            have := (List.getElem?_eq_some_iff.mp p1).1
            rwa [wipe_length] at this
          rw [wipe_at q lt] at p1
          cases p1
        rw [wipe_get iv] at p1
        rw [wipeE_get iv] at h
        exact R.newS hD i d h p1
      rw [upd_ne hp]; exact p2
  · rintro i m H ⟨ρi, acc, accV, rfl, hi, hturn, hDl, hl, hal, RR, fr⟩
    by_cases hlt : i < xs.length
    · right
      have hx : xs[i]? = some xs[i] := List.getElem?_eq_getElem hlt
      obtain ⟨v, hv, hIs⟩ := l.get hx
      obtain ⟨hgo, hy⟩ := (wk i H fr).1 v hv
      rw [List.drop_eq_getElem_cons hlt] at hturn
      have hturn' : pre acc ((one xs[i] ρi).bind fun (o, ρ1) => (turns one (xs.drop (i + 1)) ρ1).bind fun (ys, ρ2) => .ok (put o ys, ρ2)) = turns one xs ρ1 := hturn
      refine ⟨hgo, fun H' => ∃ ρi' acc' accV', i + 1 ≤ xs.length ∧ pre acc' (turns one (xs.drop (i + 1)) ρi') = turns one xs ρ1 ∧ H' D = some (.lst accV') ∧ IsL K H' accV' acc' ∧ acc'.length ≤ i + 1 ∧
        REnv K (upd B D (.lst accV')) (L2.wipe σ vs) H' (wipeE ρi' vs) ∧ FrzLe H1 H', fun H' ⟨a1, a2, a3, a5, a6, a7, a8, a9, a10, a11⟩ => ⟨xs.length - (i + 1), by omega, a1, a2, a3, rfl, a5, a6, a7, a8, a9, a10, a11⟩, fun x H' hyl => ?_⟩
      obtain ⟨e1, e2⟩ := hy x H' hyl
      subst e1
      subst e2
      show L2.wipe ((L2.wipe σ vs).set tg (some x)) vs = L2.wipe σ vs ∧ tt _ _ _
      refine ⟨wipe_set hm, ?_⟩
      refine st xs[i] ρi (upd B D (.lst accV)) (L2.wipe σ vs) H' x RR (hIs.mono fr) _ _ ?_
      cases ho : one xs[i] ρi with
      | stuck =>
        rw [ho] at hturn'
        have e : turns one xs ρ1 = .stuck := hturn'.symm
        rw [e] at w
        exact w.elim
      | exc c fs ρ2 =>
        rw [ho] at hturn'
        have e : turns one xs ρ1 = .exc c fs ρ2 := hturn'.symm
        rw [e] at w
        intro cls d H4 R4 f4 xc
        have R5 := R4.wipe vs
        rw [wipe_set hm] at R5
        exact w cls d H4 (R.back hc (leD _) (fr.trans f4) R5).1 (fr.trans f4) xc
      | ok a =>
        obtain ⟨o, ρn⟩ := a
        rw [ho] at hturn'
        have h3 : pre (acc ++ o.toList) (turns one (xs.drop (i + 1)) ρn) = turns one xs ρ1 := by
          rw [← pre_put]
          exact hturn'
        cases o with
        | some d =>
          intro y H4 R4 f4 iy
          have hD4 : H4 D = some (.lst accV) := R4.base D _ upd_same
          refine ⟨accV, hD4, ?_, ρn, acc ++ [d], accV ++ [y], hlt, h3, upd_same, ?_, ?_, ?_, fr.trans (f4.trans (FrzLe.mut hD4 rfl))⟩
          · rw [hl.length]
            exact Nat.lt_of_le_of_lt hal (Nat.lt_of_lt_of_le hlt (sm_le hs))
          · exact ((hl.mono f4).append (.cons iy .nil)).mono (FrzLe.mut hD4 rfl)
          · rw [List.length_append]; simp; omega
          · have R5 := R4.wipe vs
            rw [wipe_set hm] at R5
            refine ⟨fun a o' h => ?_, R5.len, fun j d' h => ?_, fun j d' h => ?_, R5.sep, fun j cc fs h => ?_⟩
            · by_cases z : a = D
              · subst z; rw [upd_same] at h; cases h; exact upd_same
              · rw [upd_ne z] at h ⊢
                exact R5.base a o' (by rw [upd_ne z]; exact h)
            · obtain ⟨w', w1, w2⟩ := R5.val j d' h
              exact ⟨w', w1, w2.mono (FrzLe.mut hD4 rfl)⟩
            · obtain ⟨p, p1, p2, p3⟩ := R5.own j d' h
              have pn : p ≠ D := fun z => by subst z; rw [upd_same] at p2; cases p2
              rw [upd_ne pn] at p2
              exact ⟨p, p1, by rw [upd_ne pn]; exact p2, p3.mono (FrzLe.mut hD4 rfl) (upd_ne pn)⟩
            · obtain ⟨x, x1, x2, x3, x4⟩ := R5.exn j cc fs h
              exact ⟨x, x1, x2, x3, x4.mono (FrzLe.mut hD4 rfl)⟩
        | none =>
          intro H4 R4 f4
          have hD4 : H4 D = some (.lst accV) := R4.base D _ upd_same
          have R5 := R4.wipe vs
          rw [wipe_set hm] at R5
          refine ⟨ρn, acc, accV, hlt, ?_, hD4, hl.mono f4, by omega, R5, fr.trans f4⟩
          have h3' : pre (acc ++ []) (turns one (xs.drop (i + 1)) ρn) = turns one xs ρ1 := h3
          rwa [List.append_nil] at h3'
    · left
      have ei : i = xs.length := by omega
      subst ei
      rw [List.drop_length] at hturn
      have e : turns one xs ρ1 = .ok (acc, ρi) := by
        rw [← hturn]
        show Res.ok (acc ++ [], ρi) = _
        rw [List.append_nil]
      rw [e] at w
      refine ⟨(wk _ H fr).2 (by omega), ?_⟩
      obtain ⟨RB, own⟩ := R.back hc (leD _) fr RR
      refine w _ H RB fr ⟨D, rfl, ⟨accV, acc, rfl, hDl, hl⟩, bD, fun j e h => ?_⟩
      obtain ⟨p, p1, p2⟩ := own j e h
      intro z
      rw [p1] at z
      cases z
      rw [upd_same] at p2
      cases p2
end Ev
set_option Elab.async false
set_option linter.all false
set_option maxRecDepth 100000
set_option maxHeartbeats 4000000
/-! A list comprehension whose test or element may let an exception out: its block has no frame of its own, so the exception is noted at the def's frame. -/
namespace Ev
open PySem PySem.Spec PyProof.Rows L2

/-- behind the block: as the library's compPost, but the block's own environment is told where an exception comes out -/
def cpost (M : Model) (A : Around) (E : Value → Shared → Prop) (use : Option (Value → Sem Unit)) (Q : Value → Shared → Prop) (acc : Value) (ce : PySem.Env) : Result → Shared → Prop
  | .ok f, s' => compPost M A E use Q acc ce.locals (.ok f) s'
  | .error x, s' => ∃ m, s'.heap.Ns ce.locals m ∧ ∀ h', Heap.SameBut ce.locals s'.heap h' → wpAny M A (passOn "comprehension.variables-let-go" x ce : Sem Value) (fun _ _ => False) E { s' with heap := h' }

section
variable {M : Model} {A : Around} {E : Value → Shared → Prop} {s : Shared} {env : PySem.Env}
theorem comp_free {e : Expr} {scope : Scope} {pos : Pos} {na first : Sem Value} {g : Comprehension} {gs : List Comprehension} {cl : List (Str × Addr)} {use : Option (Value → Sem Unit)} {Q : Value → Shared → Prop}
    (h1 : clausesOf e = g :: gs) (h2 : ∀ x, foldedSetIterable g.iter env x = pure x) (h3 : closureFor scope env = pure cl) (h4 : scope.kind = .function) (h5 : ∀ x ∈ scope.names, x.2 = .local → scope.names.lookup x.1 = some .local)
    (h : wpAny M A first (fun x s₁ => wpAny M A (pyIter x) (fun it s₂ => wpAny M A na (fun acc s₃ => wpAny M A (newFunctionEnv scope env.globals cl [] env.qual none .none (some env)) (fun ce s₄ =>
        codeAny M A (.compStart e 0 it acc { ce with scope := relabel scope env }) (cpost M A E use Q acc { ce with scope := relabel scope env }) s₄) E s₃) E s₂) E s₁) E s) :
    wpAny M A (comprehension e scope env pos na false first use) Q E s := by
  unfold comprehension
  rw [h3, h1]
  refine wpAny_bind (wpAny_mono h (fun x s₁ k1 => ?_) fun _ _ z => z)
  refine wpAny_bind (wpAny_standAt (wpAny_bind (wpAny_of_eq (h2 x) (wpAny_bind (wpAny_holding (wpAny_mono k1 (fun it s₂ k2 => ?_) fun _ _ z => z))))))
  refine wpAny_standIf (wpAny_bind (wpAny_mono k2 (fun acc s₃ k3 => ?_) fun _ _ z => z))
  refine wpAny_bind (wpAny_pure (wpAny_bind (wpAny_mono k3 (fun ce s₄ k4 => ?_) fun _ _ z => z)))
  dsimp only
  generalize hvs : (scope.names.filter fun x => (x.2 == .local || x.2 == .cell) && x.1 != (".0" : Str)).reverse = vs
  have loc : ∀ x ∈ vs, x.2 = .local → Env.kindOf { ce with scope := relabel scope env } x.1 = some .local := fun x hx hl => by
    rw [← hvs] at hx
    exact lookup_relabel_local (h5 x (List.mem_filter.mp (List.mem_reverse.mp hx)).1 hl)
  have loc2 : ∀ x ∈ vs.drop 1 ++ vs.take 1, x.2 = .local → Env.kindOf { ce with scope := relabel scope env } x.1 = some .local := fun x hx hl => by
    rcases List.mem_append.mp hx with q | q
    · exact loc x (List.mem_of_mem_drop q) hl
    · exact loc x (List.mem_of_mem_take q) hl
  refine wpAny_holding (wpAny_bind (wpAny_attempt (wpAny_holding (wpAny_run (codeAny_mono k4 fun r s' hr => ?_)))))
  cases r with
  | error x =>
    obtain ⟨m, hn, hr⟩ := hr
    refine wpAny_bind (wpAny_holding (wpAny_comp_letGo (cenv := { ce with scope := relabel scope env }) h4 _ s' m loc hn fun h' m' _ hs' => ?_))
    exact wpAny_mono (hr h' hs') (fun _ _ f => f.elim) fun _ _ y => y
  | ok f =>
    cases use with
    | none =>
      obtain ⟨m, hn, hr⟩ := hr
      exact wpAny_bind (wpAny_holding (wpAny_comp_letGo (cenv := { ce with scope := relabel scope env }) h4 _ s' m loc hn fun h' m' _ hs' => wpAny_pure (hr h' hs')))
    | some u =>
      refine wpAny_bind (wpAny_rule (wpAny_bind (wpAny_holding (wpAny_mono hr (fun _ s2 hr' => ?_) fun _ _ z => z))))
      obtain ⟨m, hn, hr'⟩ := hr'
      exact wpAny_bind (wpAny_comp_letGo (cenv := { ce with scope := relabel scope env }) h4 _ s2 m loc2 hn fun h' m' _ hs' => wpAny_pure (hr' h' hs'))
end

/-- the frame is all that is asked of the environment -/
theorem noteFrame_eq {u : Value} {e1 e2 : PySem.Env} (h : e1.frame = e2.frame) : noteFrame u e1 = noteFrame u e2 := by
  unfold noteFrame PySem.frameOf
  rw [h]
theorem Sky.noted {B : Heap} {M : Model} {A : Around} {E₁ : Value → Shared → Prop} {s : Shared} {env : PySem.Env} {outer : List PySem.Env} {L a : Addr} {Z : Obj → Prop} {Q : Unit → Shared → Prop} (hZ : HandSPX.Steady Z) (hfr : A.frames = some (env :: outer)) (hf : env.frame = some L)
    (x : Sky B (env :: outer) a Z L s.heap) (hQ : ∀ h', HandSPX.HeldZ B (env :: outer) a Z L h' → s.heap.UpToSlots h' → Q () { s with heap := h' }) : wpAny M A (noteFrame (.ref a) env) Q E₁ s := by
  rcases x with ⟨hB, hn, hl, oe, vs, he, hz, hd, h1⟩ | fl | hh
  · exact HandSPX.look_newZ hZ hfr hl hf he hB hn hd h1 hz hQ
  · exact HandSPX.looks_onZ hZ hfr hf fl hQ
  · exact HandSPX.againZ hf hh.2.2.2 (hQ s.heap hh (Heap.UpToSlots.refl _))
/-- what the comprehension's exception does to the air of X -/
theorem out_of_block {X : Cx} {W : WX} {L a C : Addr} {B : Heap} {sI s' : Shared} {pins : List (Addr × Obj)} {σ : L2.St} {H : Hp} {cls : Value} {d : Option Addr} {ce : PySem.Env} {Ef : Value → Shared → Prop} {m : Str → Option Value}
    (tk : TakesF X W) (fm : Frm X L) (hce : ce.frame = some L) (hC : ce.locals = C) (I : Inv X pins σ H sI) (nb : ∀ b o, sI.heap.get? b = some o → b ∉ frs X.stack → B.get? b = some o) (up : sI.heap.UpToSlots s'.heap)
    (sky : Sky B X.stack a (Zc cls d) L s'.heap) (na : H a = none) (os : s'.os = sI.os) (ag : AllBare s'.gens) (hn : sI.heap.Ns C m) (fp : FpOk X pins H C) (w : W cls d σ H)
    {use : Option (Value → Sem Unit)} {Qf : Value → Shared → Prop} {acc : Value} :
    wpAny (model X.prog X.w) X.A (noteFrame (.ref a) ce) (fun _ s2 => cpost (model X.prog X.w) X.A X.xe use Qf acc ce (.error (.ref a)) s2) Ef s' := by
  obtain ⟨e0, o0, hst, h0⟩ := fm.ex
  rw [noteFrame_eq (hce.trans h0.symm)]
  have hfr : X.A.frames = some (e0 :: o0) := by rw [I.ok.frames, hst]
  rw [hst] at sky
  refine Sky.noted Zc.steady hfr h0 sky fun h1 hh up1 => ?_
  have up2 := up.trans up1
  have ns1 : h1.Ns C m := up2.ns hn
  subst hC
  refine ⟨m, ns1, fun h2 sb => ?_⟩
  -- the comprehension's own dict, in the ground
  obtain ⟨oC, es, ep, hoC, hdC, hmC⟩ := id hn
  have nfs : ce.locals ∉ frs X.stack := fun z => by
    rcases List.mem_cons.mp (I.stkSub _ z) with q | q
    · exact fp.2.1 q
    · exact fp.2.2.1 q
  have hBC : B.get? ce.locals = some oC := nb _ _ hoC nfs
  obtain ⟨k1, k2, k3, oe, vs, T, oT, ts, g1, gz, g2, g3, gT, gne, g4, g5, g6⟩ := hh
  have neT : T ≠ ce.locals := fun z => by rw [z, hBC] at gT; cases gT
  have neA : a ≠ ce.locals := fun z => by rw [z, hBC] at k2; cases k2
  have lt : ce.locals < h1.objs.size := Heap.lt_size (k1 _ _ hBC)
  -- the heap behind: the dict is let go, or changed
  obtain ⟨G, gG1, gG2⟩ := restrict B fun b => decide (b ≠ ce.locals)
  have GB : ∀ b o, G.get? b = some o → B.get? b = some o ∧ b ≠ ce.locals := fun b o e => by
    by_cases hb : b = ce.locals
    · rw [gG2 b (decide_eq_false fun z => z hb)] at e; cases e
    · exact ⟨by rw [← gG1 b (decide_eq_true hb)]; exact e, hb⟩
  obtain ⟨GI, gI1, gI2⟩ := restrict sI.heap fun b => decide (b ≠ ce.locals)
  have GIs : ∀ b o, GI.get? b = some o → sI.heap.get? b = some o ∧ b ≠ ce.locals := fun b o e => by
    by_cases hb : b = ce.locals
    · rw [gI2 b (decide_eq_false fun z => z hb)] at e; cases e
    · exact ⟨by rw [← gI1 b (decide_eq_true hb)]; exact e, hb⟩
  have sG : G.StaysIn h2 := fun b o e => by
    obtain ⟨q1, q2⟩ := GB b o e
    rw [sb.2 b q2]
    exact k1 b o q1
  have held : HandSPX.HeldZ G (e0 :: o0) a (Zc cls d) L h2 := by
    refine ⟨sG, ?_, ?_, oe, vs, T, oT, ts, ?_, gz, g2, g3, ?_, gne, ?_, g5, g6⟩
    · cases q : G.get? a with
      | none => rfl
      | some o => rw [(GB a o q).1] at k2; cases k2
    · refine funFrames_none (base := B) ?_ fun b hb => ?_
      · have kk : ∀ b ∈ frs (e0 :: o0), b ≠ ce.locals := fun b hb z => nfs (by rw [hst, ← z]; exact hb)
        have go : ∀ l : List PySem.Env, (∀ b ∈ frs l, b ≠ ce.locals) → h1.FunFrames B l → h2.FunFrames B l := by
          intro l
          induction l with
          | nil => intro _ _; trivial
          | cons e r ih =>
            intro hne hl
            obtain ⟨q1, ⟨L', o', q2, q3, q4, q5⟩, q6⟩ := hl
            have hL' : L' ∈ frs (e :: r) := by
              unfold frs
              rw [List.filterMap_cons, q2]
              exact List.mem_cons_self
            refine ⟨q1, ⟨L', o', q2, q3, ?_, q5⟩, ih (fun b hb => hne b ?_) q6⟩
            · rw [sb.2 L' (hne L' hL')]; exact q4
            · unfold frs
              rw [List.filterMap_cons, q2]
              exact List.mem_cons_of_mem _ hb
        exact go _ kk k3
      · cases q : G.get? b with
        | none => rfl
        | some o =>
          have z := (k3.mem hb).1
          rw [(GB b o q).1] at z
          cases z
    · rw [sb.2 a neA]; exact g1
    · cases q : G.get? T with
      | none => rfl
      | some o => rw [(GB T o q).1] at gT; cases gT
    · rw [sb.2 T neT]; exact g4
  have I2 : Inv X pins σ H { sI with heap := GI } := I.turned (t' := sI.toks) (fun b o hb e => by rw [gI1 b (decide_eq_true hb)]; exact e) fp.1 fp.2.1 fp.2.2.2.1 fp.2.2.2.2.1 fp.2.2.2.2.2
  show wpAny _ _ (passOn _ (Value.ref a) ce) _ _ _
  unfold PySem.passOn
  obtain ⟨hkb, hen, hl, hT⟩ := id held
  refine wpAny_bind (wpAny_field (by rw [sb.2 a neA]; exact g1) g2 g3 ?_)
  rw [if_neg (show ¬ ((Value.ref T == Value.none) = true) from by simp)]
  refine wpAny_bind ?_
  rw [hce]
  refine HandSPX.setFlight_onZ held fun h3 held3 up3 => ?_
  refine wpAny_throw (tk _ _ ⟨a, G, { sI with heap := GI }, pins, σ, H, cls, d, L, fm.fr, rfl, I2, fun b o e hb => ?_, ?_, .inr (.inr (by rw [hst]; exact held3)), na, os, ag, w⟩)
  · obtain ⟨q1, q2⟩ := GIs b o e
    rw [gG1 b (decide_eq_true q2)]
    exact nb b o q1 hb
  · intro b o e hd
    obtain ⟨q1, q2⟩ := GIs b o e
    obtain ⟨sl, z⟩ := up2 b o q1 hd
    rw [← sb.2 b q2] at z
    obtain ⟨sl2, z2⟩ := up3 b _ z hd
    exact ⟨sl2, z2⟩
end Ev
set_option Elab.async false
set_option linter.all false
set_option maxRecDepth 100000
set_option maxHeartbeats 4000000
namespace Ev
open PySem PySem.Spec PyProof.Rows L2
/-- a comprehension's block, with a wish about exceptions -/
abbrev _root_.L2.Cx.blkX (X : Cx) (s : Shared) (H : Hp) (scope : Scope) (ce : PySem.Env) (fp : List Addr) (xe : Value → Shared → Prop) : Cx := { X.blk s H scope ce fp with xe := xe }
theorem Inv.toX {X : Cx} {pins : List (Addr × Obj)} {σ : L2.St} {H : Hp} {s : Shared} (I : Inv X pins σ H s) (xe : Value → Shared → Prop) : Inv { X with xe := xe } pins σ H s :=
  ⟨⟨I.ok.mod, I.ok.kind, I.ok.glob, I.ok.blt, I.ok.above, I.ok.inj, I.ok.has, I.ok.cab, I.ok.hd, I.ok.frames, I.ok.stk, I.ok.exf, I.ok.bs, I.ok.bsz, I.ok.noex, I.ok.exfs, I.ok.funs, I.ok.frf⟩, I.os, I.bare, I.base, I.loc, I.cell, I.free, I.freeC, I.pin, I.hok, I.len⟩

section
variable {X : Cx}
/-- the wish in the block: the def's slots are those at the comprehension -/
abbrev wIn (W : WX) (σ : L2.St) : WX := fun cls d _ H => W cls d σ H
theorem lcX {pins : List (Addr × Obj)} {s : Shared} {σ : L2.St} {H : Hp} {Q : VK} {elt tg iter : Expr} {ifs : List Expr} {scope : Scope} {own : List (Str × Nat)} {pos pos' : Pos} {wi : TI} {g : TG} {tt : TT} {te : TE}
    {use : Option (Value → Sem Unit)} {Qf : Value → Shared → Prop} {W : WX} {L : Addr} (hc : X.calm = true) (hN : X.N.Nodup) (I : Inv X pins σ H s) (hi : PI X tg iter wi) (ok : BlkOk X.N X.env.scope scope own) (tk : TakesF X W) (fm : Frm X L)
    (hg : ∀ (s : Shared) (H : Hp) (C : Addr) (cl : List (Str × Addr)) (fp : List Addr) (xe : Value → Shared → Prop), PG (X.blkX s H scope (compEnvC scope cl C X.env) fp xe) tg g)
    (ht : ∀ (s : Shared) (H : Hp) (C : Addr) (cl : List (Str × Addr)) (fp : List Addr) (xe : Value → Shared → Prop), TakesF (X.blkX s H scope (compEnvC scope cl C X.env) fp xe) (wIn W σ) → PTs (X.blkX s H scope (compEnvC scope cl C X.env) fp xe) ifs tt)
    (he : ∀ (s : Shared) (H : Hp) (C : Addr) (cl : List (Str × Addr)) (fp : List Addr) (xe : Value → Shared → Prop), TakesF (X.blkX s H scope (compEnvC scope cl C X.env) fp xe) (wIn W σ) → PE (X.blkX s H scope (compEnvC scope cl C X.env) fp xe) elt te)
    (hs : ∀ x, foldedSetIterable iter X.env x = pure x) (h : tLc wi g tt te (own.map (·.2)) σ H Q)
    (hR : ∀ D C s' m H', Inv X pins σ H' s' → Q (.ref D) H' → s'.heap.Ns C m → FpOk X pins H' C → compPost (model X.prog X.w) X.A X.xe use Qf (.ref D) C (.ok .next) s') :
    wpAny (model X.prog X.w) X.A (comprehension (.ListComp elt [⟨tg, iter, ifs, 0⟩] scope pos) scope X.env pos' (newList []) false (eval iter X.env) use) Qf X.xe s := by
  have hfree : ∀ y ∈ scope.names, y.2 = .free → ∃ c, X.env.cells.lookup y.1 = some c := fun y hy e => (ok.free y hy e).elim (fun k => I.ok.has _ (.inl k)) fun k => I.ok.has _ (.inr k)
  refine comp_free (use := use) rfl hs (closure_ok hfree) ok.kind (fun y hy e => by rw [ok.uniq y hy, e]) (thn (hi.run pins s σ H _ I h) fun xv s1 hx => thn hx fun itv s2 k2 => ?_)
  obtain ⟨it, fp, tn, J, H2, rfl, I2, T, st2, f2, q⟩ := k2
  refine wpAny_newObj_type (newEnv_comp ?_) (by show 0 ≤ sizeLine; decide)
  generalize hD : s2.heap.objs.size = D
  have hDn : H2 D = none := I2.hok.fresh (Nat.le_of_eq hD)
  obtain ⟨Wi, ⟨m0, w0⟩, turn⟩ := q D hDn
  generalize hs3 : ({ s2 with heap := s2.heap.push { cls := .type "list", data := .seq ([] : List Value).toArray } } : Shared) = s3
  have h3 : s3.heap = s2.heap.push { cls := .type "list", data := .seq ([] : List Value).toArray } := by rw [← hs3]
  have I3 : Inv X pins σ (upd H2 D (.lst [])) s3 := by
    rw [← hs3]
    exact I2.laid (t' := s2.toks) (fun b o e => Heap.get?_push_of_some _ e) (Nat.le_of_eq hD) ⟨Nat.zero_le _, [], 0, .nil, by rw [← hD]; exact Heap.get?_push_size _ rfl⟩
  have f3 : ∀ b ∈ fp, FpOk X pins (upd H2 D (.lst [])) b ∧ b < s3.heap.objs.size := fun b hb => by
    obtain ⟨o, e, _⟩ := T.obj _ _ st2 b hb
    have hlt := Heap.lt_size e
    exact ⟨⟨by rw [upd_ne (by rw [← hD]; exact Nat.ne_of_lt hlt)]; exact (f2 b hb).1, (f2 b hb).2⟩, by rw [h3, Heap.size_push]; exact Nat.lt_succ_of_lt hlt⟩
  have st3 : tn 0 s3.heap := T.keep _ _ _ st2 fun b _ o e => by
    rw [h3]
    exact Heap.get?_push_of_some _ e
  have I4 := block_start I3 ok hN f3
  generalize hcl : cellsFrom (s3.heap.objs.size + 1) scope.names (cloFrom X.env.cells scope.names []) = cl at I4 ⊢
  show codeAny _ _ (.compStart (.ListComp elt [⟨tg, iter, ifs, 0⟩] scope pos) 0 (.ref it) (.ref D) (compEnvC scope cl s3.heap.objs.size X.env)) (cpost (model X.prog X.w) X.A X.xe use Qf (.ref D) (compEnvC scope cl s3.heap.objs.size X.env)) _
  have nfp : ∀ b ∈ fp, (upd H2 D (.lst [])) b = none := fun b hb => (f3 b hb).1.1
  have pg := hg s3 (upd H2 D (.lst [])) s3.heap.objs.size cl fp
  have pt := ht s3 (upd H2 D (.lst [])) s3.heap.objs.size cl fp
  have pe := he s3 (upd H2 D (.lst [])) s3.heap.objs.size cl fp
  generalize hce : compEnvC scope cl s3.heap.objs.size X.env = ce at I4 pg pt pe ⊢
  have cL : ce.locals = s3.heap.objs.size := by subst hce; rfl
  have cF : ce.frame = some L := by
    subst hce
    exact fm.fr
  generalize hH3 : upd H2 D (.lst []) = H3 at I3 I4 pg pt pe w0 nfp f3
  generalize hs4 : ({ s3 with heap := pushCells (s3.heap.push { cls := .type "dict", data := .dict #[] }) scope.names } : Shared) = s4 at I4 ⊢
  have st4 : tn 0 s4.heap := T.keep _ _ _ st3 fun b _ o e => by
    rw [← hs4]
    exact pushCells_keeps _ _ _ _ (Heap.get?_push_of_some _ e)
  -- the wish of the block
  obtain ⟨xe, hxe⟩ : ∃ xe : Value → Shared → Prop, xe = notedBy (model X.prog X.w) X.A ce (fun e s' => cpost (model X.prog X.w) X.A X.xe use Qf (.ref D) ce (.error e) s') := ⟨_, rfl⟩
  have back : ∀ {σ' : L2.St} {H' : Hp} {s' : Shared} {pn : List (Addr × Obj)}, Inv (X.blkX s3 H3 scope ce fp xe) pn σ' H' s' → Inv X pins σ H' s' := fun {σ' H' s' pn} I' =>
    I3.call' (ch := fp) I'.os I'.base I'.hok I'.bare fun b hb => ⟨(f3 b hb).1.2.2.2.1, (f3 b hb).1.2.1, (f3 b hb).1.2.2.2.2.1, (f3 b hb).1.2.2.2.2.2⟩
  have cFp : ∀ {σ' : L2.St} {H' : Hp} {s' : Shared} {pn : List (Addr × Obj)}, Inv (X.blkX s3 H3 scope ce fp xe) pn σ' H' s' → (∃ m, s'.heap.Ns s3.heap.objs.size m) ∧ FpOk X pins H' s3.heap.objs.size := fun {σ' H' s' pn} I' => by
    have z : H' ce.locals = none := I'.free
    obtain ⟨m, hn, _⟩ := I'.loc
    have hn : s'.heap.Ns ce.locals m := hn
    rw [cL] at z hn
    exact ⟨⟨m, hn⟩, I3.fpOk (Nat.le_refl _) z⟩
  have tkB : TakesF (X.blkX s3 H3 scope ce fp xe) (wIn W σ) := by
    rintro u s' ⟨a, B, sI, pn, σ', H', cls, d, L', hL', rfl, I', nb, up, sky, na, os, ag, w⟩
    have eL : L' = L := by
      have z : ce.frame = some L' := hL'
      rw [cF] at z
      cases z
      rfl
    subst eL
    show xe (.ref a) s'
    rw [hxe]
    obtain ⟨⟨m, hn⟩, hf⟩ := cFp I'
    exact out_of_block tk fm cF cL (back I') nb up sky na os ag hn hf w
  replace pg := pg xe
  replace pt := pt xe tkB
  replace pe := pe xe tkB
  have I4 : Inv (X.blkX s3 H3 scope ce fp xe) [] (L2.wipe σ (own.map (·.2))) H3 s4 := Inv.toX I4 xe
  have stat : ∀ {σ' : L2.St} {H' : Hp} {s' : Shared}, Inv (X.blkX s3 H3 scope ce fp xe) [] σ' H' s' → (∀ b ∈ fp, H' b = none) → ∀ b ∈ fp, FpOk (X.blkX s3 H3 scope ce fp xe) [] H' b := fun {σ' H' s'} I' hn b hb =>
    ⟨hn b hb, (I'.ok.exf b hb).1, I'.ok.exfs b hb, .inl hb, fun x c e => (I'.ok.exf b hb).2 x c e, fun p hp => nomatch (show p ∈ ([] : List (Addr × Obj)) from hp)⟩
  have loop : codeAny (model X.prog X.w) X.A (.compLoop (.ListComp elt [⟨tg, iter, ifs, 0⟩] scope pos) 0 (.ref it) (.ref D) ce) (cpost (model X.prog X.w) X.A X.xe use Qf (.ref D) ce) s4 := by
    refine compLoop_any (fun n s' => ∃ i H', Inv (X.blkX s3 H3 scope ce fp xe) [] (L2.wipe σ (own.map (·.2))) H' s' ∧ tn i s'.heap ∧ (∀ b ∈ fp, H' b = none) ∧ Wi i n H') ?_ m0 ⟨0, H3, I4, st4, nfp, w0⟩
    rintro n s5 ⟨i, H5, I5, st5, n5, w5⟩
    rw [← hxe]
    rcases turn i n H5 w5 with ⟨stop, qq⟩ | ⟨go, Nx, hNx, step⟩
    · refine thnF (T.done (X.blkX s3 H3 scope ce fp xe) rfl rfl rfl hc i [] s5 _ H5 (fun _ _ => False) I5 (stat I5 n5) st5 stop) fun r s6 ⟨hr, I6⟩ => ?_
      subst hr
      obtain ⟨⟨m, hn⟩, hf⟩ := cFp I6
      show compPost _ _ _ _ _ _ ce.locals _ _
      rw [cL]
      exact hR D s3.heap.objs.size s6 m H5 (back I6) qq hn hf
    · refine thnF (T.item (X.blkX s3 H3 scope ce fp xe) rfl rfl rfl hc i [] s5 _ H5 (fun _ _ => False) I5 (stat I5 n5) st5 go) fun r s6 ⟨u, hr, h6⟩ => ?_
      subst hr
      refine thnF h6 fun _ s7 ⟨x, H7, I7, r7, y7, st7, n7⟩ => ?_
      have I7' := I7.pinned (stat I7 n7) (T.obj _ _ st7)
      refine thn (pg.run _ s7 _ H7 x u _ I7' r7 (step x H7 y7)) fun _ s8 ⟨σ8, H8, I8, hw8, q8⟩ => ?_
      refine thn (pt.run _ s8 σ8 H8 _ I8 q8) fun b s9 ⟨H9, I9, q9⟩ => ?_
      have fin : ∀ {s' : Shared} {H' : Hp}, Inv (X.blkX s3 H3 scope ce fp xe) ([] ++ pinsAt fp s7.heap) σ8 H' s' → Nx H' → ∃ m, m < n ∧ ∃ i H', Inv (X.blkX s3 H3 scope ce fp xe) [] (L2.wipe σ (own.map (·.2))) H' s' ∧ tn i s'.heap ∧ (∀ b ∈ fp, H' b = none) ∧ Wi i m H' := fun {s' H'} I' nx => by
        obtain ⟨m', hm, w'⟩ := hNx H' nx
        have pin' : ∀ b ∈ fp, ∀ o, s7.heap.get? b = some o → s'.heap.get? b = some o ∧ H' b = none := fun b hb o e =>
          let z := I'.pin (b, o) (List.mem_append_right _ (List.mem_append_right _ (mem_pinsAt hb e)))
          ⟨z.1, z.2.1⟩
        refine ⟨m', hm, i + 1, H', (I'.unpinned (pins := [])).weak (by rw [← hw8, wipe_length]) (fun j v e => ?_), T.keep _ _ _ st7 fun b hb o e => (pin' b hb o e).1, fun b hb => ?_, w'⟩
        · rw [← hw8] at e
          exact (wipe_some e).1
        · obtain ⟨o, e, _⟩ := T.obj _ _ st7 b hb
          exact (pin' b hb o e).2
      cases b with
      | false =>
        simp only [Bool.false_eq_true, if_false] at q9 ⊢
        exact fin I9 q9
      | true =>
        simp only [if_true] at q9 ⊢
        refine thn (pe.run _ s9 σ8 H9 _ I9 q9) fun z s10 ⟨yv, H10, I10, r10, acc, hD10, hz10, nx⟩ => ?_
        exact app_ok (X := X.blkX s3 H3 scope ce fp xe) I10 hD10 hz10 r10 fun s11 I11 => fin I11 nx
  exact codeAny_compStart_list loop (T.self X.A 0 _ _ _ st4 loop)
/-- as a value -/
theorem pe_lcX {elt tg iter : Expr} {ifs : List Expr} {scope : Scope} {own : List (Str × Nat)} {pos : Pos} {wi : TI} {g : TG} {tt : L2.St → TT} {te : L2.St → TE} {W : WX} {L : Addr} (hc : X.calm = true) (hN : X.N.Nodup) (hi : PI X tg iter wi) (ok : BlkOk X.N X.env.scope scope own) (tk : TakesF X W) (fm : Frm X L)
    (hg : ∀ (s : Shared) (H : Hp) (C : Addr) (cl : List (Str × Addr)) (fp : List Addr) (xe : Value → Shared → Prop), PG (X.blkX s H scope (compEnvC scope cl C X.env) fp xe) tg g)
    (ht : ∀ (σ : L2.St) (s : Shared) (H : Hp) (C : Addr) (cl : List (Str × Addr)) (fp : List Addr) (xe : Value → Shared → Prop), TakesF (X.blkX s H scope (compEnvC scope cl C X.env) fp xe) (wIn W σ) → PTs (X.blkX s H scope (compEnvC scope cl C X.env) fp xe) ifs (tt σ))
    (he : ∀ (σ : L2.St) (s : Shared) (H : Hp) (C : Addr) (cl : List (Str × Addr)) (fp : List Addr) (xe : Value → Shared → Prop), TakesF (X.blkX s H scope (compEnvC scope cl C X.env) fp xe) (wIn W σ) → PE (X.blkX s H scope (compEnvC scope cl C X.env) fp xe) elt (te σ))
    (hs : ∀ x, foldedSetIterable iter X.env x = pure x) :
    PE X (.ListComp elt [⟨tg, iter, ifs, 0⟩] scope pos) (fun σ H Q => tLc wi g (tt σ) (te σ) (own.map (·.2)) σ H Q) := by
  refine ⟨fun pins s σ H Q I h => ?_⟩
  rw [eval_ListComp]
  refine lcX hc hN I hi ok tk fm hg (ht σ) (he σ) hs h fun D C s' m H' I' q hn f => ⟨m, hn, fun h2 sb => ?_⟩
  obtain ⟨f0, f1, f2, f3, f4, f5⟩ := f
  exact ⟨.ref D, H', I'.turned (t' := s'.toks) (fun b o hb e => (sb.2 b hb).trans e) f0 f1 f3 f4 f5, rfl, q⟩
/-- given to a name on the same row -/
theorem ps_setLcX {i : Nat} {y : Str} {py : Pos} {elt tg iter : Expr} {ifs : List Expr} {scope : Scope} {own : List (Str × Nat)} {pos spos : Pos} {wi : TI} {g : TG} {tt : L2.St → TT} {te : L2.St → TE} {W : WX} {L : Addr} (hc : X.calm = true) (hN : X.N.Nodup) (hy : X.N[i]? = some y) (hyl : X.env.scope.names.lookup y = some .local)
    (hsw : swapsWith (.ListComp elt [⟨tg, iter, ifs, 0⟩] scope pos) (some (.Name y py)) spos.line X.env = pure true) (hi : PI X tg iter wi) (ok : BlkOk X.N X.env.scope scope own) (tk : TakesF X W) (fm : Frm X L)
    (hg : ∀ (s : Shared) (H : Hp) (C : Addr) (cl : List (Str × Addr)) (fp : List Addr) (xe : Value → Shared → Prop), PG (X.blkX s H scope (compEnvC scope cl C X.env) fp xe) tg g)
    (ht : ∀ (σ : L2.St) (s : Shared) (H : Hp) (C : Addr) (cl : List (Str × Addr)) (fp : List Addr) (xe : Value → Shared → Prop), TakesF (X.blkX s H scope (compEnvC scope cl C X.env) fp xe) (wIn W σ) → PTs (X.blkX s H scope (compEnvC scope cl C X.env) fp xe) ifs (tt σ))
    (he : ∀ (σ : L2.St) (s : Shared) (H : Hp) (C : Addr) (cl : List (Str × Addr)) (fp : List Addr) (xe : Value → Shared → Prop), TakesF (X.blkX s H scope (compEnvC scope cl C X.env) fp xe) (wIn W σ) → PE (X.blkX s H scope (compEnvC scope cl C X.env) fp xe) elt (te σ))
    (hs : ∀ x, foldedSetIterable iter X.env x = pure x) :
    PS X (.Assign [.Name y py] (.ListComp elt [⟨tg, iter, ifs, 0⟩] scope pos) spos) (tAsg (fun σ H Q => tLc wi g (tt σ) (te σ) (own.map (·.2)) σ H Q) (gName i)) := by
  refine ⟨fun pins s σ H D I h => ?_⟩
  rw [exec_Assign_Name_used _ _ _ _ hsw]
  refine wpAny_bind (wpAny_standAt (wpAny_bind ?_))
  have h : tLc wi g (tt σ) (te σ) (own.map (·.2)) σ H (fun x H1 => gName i x σ H1 D.nx) := h
  show wpAny _ X.A (do let _ ← comprehension (.ListComp elt [⟨tg, iter, ifs, 0⟩] scope pos) scope X.env _ (newList []) false (eval iter X.env) (some (assign (.Name y py) X.env))) _ _ s
  refine wpAny_bind (thn (lcX (Qf := fun _ s' => SP X pins D .next s') hc hN I hi ok tk fm hg (ht σ) (he σ) hs h fun D' C s' m H' I' q hn f => ?_) fun _ s' hq => wpAny_pure (wpAny_pure hq))
  show wpAny _ _ (assign (.Name y py) X.env (.ref D')) _ _ _
  refine wpAny_assign_Name (store_ok2 (v := V.ref D') I' hN hy (.inl hyl) rfl (fun s2 I2 ⟨a, sb, ha⟩ => ?_) (.inr hyl))
  obtain ⟨f0, f1, f2, f3, f4, f5⟩ := f
  have haC : C ≠ a := ha.elim (fun z => by rw [z]; exact f1) fun z e => f4 y a z e.symm
  exact ⟨m, hn.sameBut sb haC, fun h3 sb3 => ⟨_, H', I2.turned (t' := s2.toks) (fun b o hb e => (sb3.2 b hb).trans e) f0 f1 f3 f4 f5, q⟩⟩
end
end Ev
set_option Elab.async false
set_option linter.all false
set_option maxRecDepth 100000
namespace Ev
open PySem PySem.Spec PyProof.Rows L2
variable {ea : Option EA}
def kinds7 : List String := ["NoneType", "bool", "int", "str", "list", "tuple", "dict"]
theorem kit_all : ∀ t ∈ kinds7, ∀ ty ∈ tys6, kitB t ty = some (isaN t ty) := by decide +kernel
theorem tyn_mem (d : Dat) : d.tyn ∈ kinds7 := by cases d <;> simp [Dat.tyn, kinds7]
theorem isa_is {d : Dat} {ty : String} {b : Bool} (h : d.isa ty = some b) : ty ∈ tys6 ∧ b = isaN d.tyn ty := by
  unfold Dat.isa at h
  split at h
  · cases h; exact ⟨by assumption, rfl⟩
  · cases h
theorem call_isiR {X : Cx} {d : Dat} {ty : String} {b : Bool} (h : d.isa ty = some b) : CallR X (.builtin "isinstance") (fun xs H Q => ∃ x, xs = [x, .ty ty] ∧ Rdb (X.km ea) H x d ∧ Q (.bl b) H) := by
  intro pins s σ H xs us Q I r hh
  obtain ⟨x, rfl, a, q⟩ := hh
  obtain ⟨u1, u2, rfl, r1, r2⟩ := vals2 r
  cases (show u2 = Value.type ty from r2)
  obtain ⟨h1, rfl⟩ := isa_is h
  have e : PySem.W.kitOne X.K (.type d.tyn) (.type ty) = some (isaN d.tyn ty) := kit_ty (kit_all _ (tyn_mem d) _ h1)
  obtain ⟨as, ra, _⟩ := reads_rdb I a r1
  cases d with
  | non => cases ra; exact PySem.W.kia_one PySem.W.kitx_none I.kIn True.intro e (fun z => nomatch z) fun tk => ⟨.bl _, H, I.tok tk, rfl, q⟩
  | bl _ => cases ra; exact PySem.W.kia_one PySem.W.kitx_bool I.kIn True.intro e (fun z => nomatch z) fun tk => ⟨.bl _, H, I.tok tk, rfl, q⟩
  | int _ => cases ra; exact PySem.W.kia_one PySem.W.kitx_int I.kIn True.intro e (fun z => nomatch z) fun tk => ⟨.bl _, H, I.tok tk, rfl, q⟩
  | str _ => cases ra; exact PySem.W.kia_one PySem.W.kitx_str I.kIn True.intro e (fun z => nomatch z) fun tk => ⟨.bl _, H, I.tok tk, rfl, q⟩
  | lst _ =>
    cases ra with
    | list k1 k2 k3 k4 => exact PySem.W.kia_one PySem.W.kitx_list I.kIn ⟨_, k1, k2⟩ e (fun z => nomatch z) fun tk => ⟨.bl _, H, I.tok tk, rfl, q⟩
  | tup _ =>
    cases ra with
    | tuple k1 k2 k3 k4 => exact PySem.W.kia_one PySem.W.kitx_tuple I.kIn ⟨_, k1, k2⟩ e (fun z => nomatch z) fun tk => ⟨.bl _, H, I.tok tk, rfl, q⟩
  | scr _ =>
    cases ra with
    | list k1 k2 k3 k4 => exact PySem.W.kia_one PySem.W.kitx_list I.kIn ⟨_, k1, k2⟩ e (fun z => nomatch z) fun tk => ⟨.bl _, H, I.tok tk, rfl, q⟩
  | dic _ =>
    cases ra with
    | dict k1 k2 k3 k4 k5 => exact PySem.W.kia_one PySem.W.kitx_dict I.kIn ⟨_, k1, k2⟩ e (fun z => nomatch z) fun tk => ⟨.bl _, H, I.tok tk, rfl, q⟩
end Ev
set_option Elab.async false
set_option linter.all false
set_option maxRecDepth 100000
namespace Ev
open PySem PySem.Spec PyProof.Rows L2
variable {ea : Option EA}
theorem pairs_vals {P : Program} {w : World} : ∀ {es : List DictEntry} {kvs : List (Key × V)} {vs : List (Key × Value)}, KV kvs vs → PySem.Pairs (mixKind P w) es vs → Vals (kvs.map fun kv => kV kv.1) (es.map (·.key)) ∧ Vals (kvs.map (·.2)) (es.map (·.val))
  | es, [], vs, r, p => by
    cases r
    cases p
    exact ⟨.nil, .nil⟩
  | es, kv :: kvs, vs, r, p => by
    cases r with
    | @cons a b as bs h t =>
      cases p with
      | @cons e kv' es' kvs' h1 h2 h3 =>
        obtain ⟨i1, i2⟩ := pairs_vals (P := P) (w := w) t h3
        obtain ⟨k, y⟩ := kv
        obtain ⟨e1, e2⟩ := h
        have e1' : k = b.1 := e1
        subst e1'
        refine ⟨.cons ?_ i1, .cons (show RelV y e.val by rw [h2]; exact e2) i2⟩
        have h1' : keyIs b.1 e.key = true := h1
        rcases keyIs_shape h1' with ⟨i, t, q1, q2⟩ | ⟨x, t, q1, q2⟩
        · show RelV (kV b.1) e.key
          rw [q1, q2]; exact ⟨t, rfl⟩
        · show RelV (kV b.1) e.key
          rw [q1, q2]; exact ⟨t, rfl⟩
/-- a dict is known from now on to be as it is -/
theorem inv_frzD {X : Cx} {pins : List (Addr × Obj)} {σ : L2.St} {H : Hp} {s : Shared} {p : Addr} {kvs : List (Key × V)} (I : Inv X pins σ H s) (h : H p = some (.dK kvs)) :
    ∃ (o : Obj) (es : Array DictEntry) (n : Nat), Inv X pins σ (upd H p (.frz o (.own p))) s ∧ o.cls = .type "dict" ∧ o.data = .dict es n ∧ (p == sysModules) = false ∧ Vals (kvs.map fun kv => kV kv.1) (es.toList.map (·.key)) ∧ Vals (kvs.map (·.2)) (es.toList.map (·.val)) := by
  obtain ⟨z, hsys, vs, r, o, es, ep, e, ex, ed, ek, epr, end'⟩ := (show ObjOk X.prog X.w H s.heap p (.dK kvs) from I.hok p _ h)
  obtain ⟨v1, v2⟩ := pairs_vals r epr
  refine ⟨o, es, ep, Inv.un (t' := s.toks) (h' := s.heap) (H' := upd H p (.frz o (.own p))) I ⟨fun b o q _ _ _ => q, fun b o q _ _ _ => ⟨o.slots, q⟩, fun b o q nn _ => ?_, fun b o q _ => ⟨o, q⟩, fun b xs q => ?_, fun b o u q => ?_, fun b ps q => ?_⟩ fun b u q => ?_, ex.1, ed, hsys, v1, v2⟩
  · rw [upd_ne (fun zz => by subst zz; rw [h] at nn; cases nn)]; exact nn
  · rw [upd_ne (fun zz => by subst zz; rw [h] at q; cases q)]; exact q
  · rw [upd_ne (fun zz => by subst zz; rw [h] at q; cases q)]; exact q
  · refine ⟨#[], ?_⟩
    rw [upd_ne (fun zz => by subst zz; rw [h] at q; cases q), q]; simp
  · by_cases zz : b = p
    · subst zz
      rw [upd_same] at q
      cases q
      exact ⟨e, o, e⟩
    · rw [upd_ne zz] at q
      refine (I.hok b u q).stay (fun c w _ hc => hc) (fun c hc => ?_) fun c xs hc => ?_
      · rw [upd_ne (fun y => by subst y; rw [h] at hc; cases hc)]; exact hc
      · rw [upd_ne (fun y => by subst y; rw [h] at hc; cases hc)]; exact hc
/-- a new dict is handed on -/
theorem pe_dic {X : Cx} {e : Expr} {t : TE} (h : PE X e t) : PE X e (fun σ H Q => t σ H fun v H' => ∃ (p : Addr) (kvs : List (Key × V)), v = .ref p ∧ H' p = some (.dK kvs) ∧
    ∀ (o : Obj) (es : Array DictEntry) (n : Nat), o.cls = .type "dict" → o.data = .dict es n → (p == sysModules) = false → Vals (kvs.map fun kv => kV kv.1) (es.toList.map (·.key)) → Vals (kvs.map (·.2)) (es.toList.map (·.val)) →
      Q v (upd H' p (.frz o (.own p)))) := by
  refine ⟨fun pins s σ H Q I q => thn (h.run pins s σ H _ I q) fun u s1 hh => ?_⟩
  obtain ⟨v, H1, I1, rv, p, kvs, rfl, e1, k⟩ := hh
  obtain ⟨o, es, n, J, c1, c2, c3, c4, c5⟩ := inv_frzD I1 e1
  exact ⟨_, _, J, rv, k o es n c1 c2 c3 c4 c5⟩
theorem is_dic {K : KM} {H : Hp} {p : Addr} {o : Obj} {es : Array DictEntry} {n : Nat} {kvs : List (Key × V)} {ds : List (Dat × Dat)} (h : H p = some (.frz o (.own p))) (c1 : o.cls = .type "dict") (c2 : o.data = .dict es n) (c3 : (p == sysModules) = false)
    (c4 : Vals (kvs.map fun kv => kV kv.1) (es.toList.map (·.key))) (c5 : Vals (kvs.map (·.2)) (es.toList.map (·.val))) (l1 : IsL K H (kvs.map fun kv => kV kv.1) (ds.map (·.1))) (l2 : IsL K H (kvs.map (·.2)) (ds.map (·.2))) : Is K H (.ref p) (.dic ds) :=
  .dic h c1 c2 c3 c4 c5 l1 l2
theorem pe_dic0 {X : Cx} {ρ : DEnv} {pos : Pos} : PE X (.Dict [] [] pos) (tS (X.km ea) ρ (.dic []) .frz ρ) := by
  refine (pe_dic pe_dnewK).imp fun σ H Q ⟨B, R, k⟩ => fun p hp => ⟨p, [], rfl, upd_same, fun o es n c1 c2 c3 c4 c5 => ?_⟩
  rw [upd_upd]
  exact k _ _ (R.new hp) (FrzLe.new hp) (is_dic (kvs := []) upd_same c1 c2 c3 c4 c5 .nil .nil)
theorem pe_dic1 {X : Cx} {ρ ρ1 ρ2 : DEnv} {pos : Pos} {k v : Expr} {x : Str} {d : Dat} {m : Mode} (hk : PE X k (tS (X.km ea) ρ (.str x) m ρ1)) (hv : PE X v (tS (X.km ea) ρ1 d .frz ρ2)) : PE X (.Dict [some k] [v] pos) (tS (X.km ea) ρ (.dic [(.str x, d)]) .frz ρ2) := by
  refine (pe_dic (pe_disp (pps_cons hk hv pps_nil) rfl rfl (by simp) (by show 1 ≤ 15; decide))).imp fun σ H Q ⟨B, R, kk⟩ => ?_
  intro p hp
  have bp := R.newB hp
  have R0 : REnv (X.km ea) (upd B p (.dK [])) σ (upd H p (.dK [])) ρ := ⟨fun a o hh => by
      by_cases z : a = p
      · subst z; rw [upd_same] at hh; cases hh; exact upd_same
      · rw [upd_ne z] at hh; exact (R.new hp).base a o hh, R.len, (R.new hp).val, fun i d' hh => by
      obtain ⟨q, q1, q2, q3⟩ := (R.new (o := .dK []) hp).own i d' hh
      exact ⟨q, q1, by rw [upd_ne (fun z => R.newS hp i d' hh (by rw [← z]; exact q1))]; exact q2, q3⟩, R.sep, (R.new hp).exn⟩
  refine ⟨_, R0, fun u H1 R1 f1 ru => ⟨_, R1, fun y H2 R2 f2 ry => ?_⟩⟩
  have eu := (rdb_of R1 ru).str
  subst eu
  have e2 : H2 p = some (.dK []) := R2.base p _ upd_same
  refine ⟨e2, [(Sum.inr x, y)], rfl, (by show 1 ≤ 15; decide), p, [(Sum.inr x, y)], rfl, upd_same, fun o es n c1 c2 c3 c4 c5 => ?_⟩
  rw [upd_upd]
  have le : ∀ a o, B a = some o → upd B p (.dK []) a = some o := fun a o hh => by
    rw [upd_ne (fun z => by subst z; rw [bp] at hh; cases hh)]; exact hh
  have fm : FrzLe H2 (upd H2 p (.frz o (.own p))) := FrzLe.mut e2 rfl
  refine kk _ _ ((R2.weak le).step fm (fun a o' hb ha => ?_) fun i d' q hi hs => ?_) ((FrzLe.new hp).trans (f1.trans (f2.trans fm))) (is_dic (kvs := [(Sum.inr x, y)]) upd_same c1 c2 c3 c4 c5 (.cons (.str x) .nil) (.cons (Is.mono fm ry) .nil))
  · rw [upd_ne (fun z => by subst z; rw [bp] at hb; cases hb)]; exact ha
  · obtain ⟨q', g1, g2, _⟩ := R2.own i d' hi
    rw [hs] at g1
    cases g1
    rw [upd_ne (fun z => by subst z; rw [upd_same] at g2; cases g2)]
section
variable {X : Cx} {W : WX} {ρ ρ1 ρ' : DEnv} {pos : Pos} {k v : Expr} {c : Str} {fs : List (Str × Dat)} {x : Dat} {m : Mode}
theorem pe_dic1X1 (hk : PE X k (tX (X.km ea) W ρ c fs ρ')) : PE X (.Dict [some k] [v] pos) (tX (X.km ea) W ρ c fs ρ') :=
  (pe_dic (pe_disp (pps_cons hk pe_no pps_nil) rfl rfl (by simp) (by show 1 ≤ 15; decide))).imp fun σ H Q ⟨B, R, kk⟩ => fun p hp => ⟨B, R.new hp, fun cls d H' R' f' xc => kk cls d H' R' ((FrzLe.new hp).trans f') xc⟩
theorem pe_dic1X2 (hk : PE X k (tS (X.km ea) ρ x m ρ1)) (hv : PE X v (tX (X.km ea) W ρ1 c fs ρ')) : PE X (.Dict [some k] [v] pos) (tX (X.km ea) W ρ c fs ρ') :=
  (pe_dic (pe_disp (pps_cons hk hv pps_nil) rfl rfl (by simp) (by show 1 ≤ 15; decide))).imp fun σ H Q ⟨B, R, kk⟩ => fun p hp => ⟨B, R.new hp, fun u H1 R1 f1 ru => ⟨B, R1, fun cls d H' R' f' xc => kk cls d H' R' ((FrzLe.new hp).trans (f1.trans f')) xc⟩⟩
end
end Ev
set_option Elab.async false
set_option linter.all false
set_option maxRecDepth 100000
namespace Ev
open PySem PySem.Spec PyProof.Rows L2
variable {ea : Option EA}

/-- the reading of what a piece comes to: a value, or an exception that it lets out -/
def tR (K : KM) (W : WX) (ρ : DEnv) (r : Res (Dat × Mode × DEnv)) : TE := fun σ H Q => ∃ B, REnv K B σ H ρ ∧ wantC K W B σ H Q r
/-- what is handed on -/
def keepR (r : Res (Dat × Mode × DEnv)) : Res (Dat × Mode × DEnv) := r.bind fun (d, m, ρ) => .ok (d, .frz, keep m ρ d)
def tUK (K : KM) (W : WX) (T : Tab) (ie : IE) : TE := fun σ H Q => ∃ ρ, tR K W ρ (keepR (ev T ie ρ)) σ H Q
/-- .. of a test -/
def wantT (K : KM) (W : WX) (B : Hp) (σ : L2.St) (H : Hp) (Q : Bool → Hp → Prop) : Res (Dat × Mode × DEnv) → Prop
  | .ok (.bl b, _, ρ2) => ∀ H', REnv K B σ H' ρ2 → FrzLe H H' → Q b H'
  | .ok _ => False
  | .exc c fs ρ2 => ∀ cls d H', REnv K B σ H' ρ2 → FrzLe H H' → XcR K H' cls d c fs → W cls d σ H'
  | .stuck => False
def tRT (K : KM) (W : WX) (ρ : DEnv) (r : Res (Dat × Mode × DEnv)) : TT := fun σ H Q => ∃ B, REnv K B σ H ρ ∧ wantT K W B σ H Q r
def tUT (K : KM) (W : WX) (T : Tab) (ie : IE) : TT := fun σ H Q => ∃ ρ, tRT K W ρ (ev T ie ρ) σ H Q
section
variable {X : Cx} {T : Tab} {ie : IE} {e : Expr}
theorem pe_UK {W : WX} (h : ∀ ρ, PE X e (tR (X.km ea) W ρ (keepR (ev T ie ρ)))) : PE X e (tUK (X.km ea) W T ie) := ⟨fun pins s σ H Q I ⟨ρ, h2⟩ => (h ρ).run pins s σ H Q I h2⟩
theorem pt_U {W : WX} (h : ∀ ρ, PT X e (tRT (X.km ea) W ρ (ev T ie ρ))) : PT X e (tUT (X.km ea) W T ie) := ⟨fun pins s σ H Q I ⟨ρ, h2⟩ => (h ρ).run pins s σ H Q I h2⟩
/-- the one part is come to, then an exception comes -/
theorem tX_then {K : KM} {W : WX} {ρ ρ1 ρ' : DEnv} {x : Dat} {m : Mode} {c : Str} {fs : List (Str × Dat)} {σ : L2.St} {H : Hp} {Q : VK} {P : V → Hp → Prop} {QQ : V → Hp → VK} (h : tX K W ρ c fs ρ' σ H Q) (hp : ∀ v H1 B, REnv K B σ H1 ρ1 → RV K B σ ρ1 H1 v x m → tX K W ρ1 c fs ρ' σ H1 Q → P v H1) : tS K ρ x m ρ1 σ H P := by
  obtain ⟨B, R, k⟩ := h
  exact ⟨B, R, fun v H1 R1 f1 rv => hp v H1 B R1 rv ⟨B, R1, fun cls d H' R' f' xc => k cls d H' R' (f1.trans f') xc⟩⟩
theorem op_no {op : Operator} : OpR X (binaryOp op) (fun _ _ _ _ => False) := fun _ _ _ _ _ _ _ _ _ _ _ _ h => h.elim
theorem cmp_no {op : CmpOp} : OpR X (compareOp op) (fun _ _ _ _ => False) := fun _ _ _ _ _ _ _ _ _ _ _ _ h => h.elim
/-- two parts, one after the other -/
theorem tS_two {K : KM} {ρ ρ1 ρ2 : DEnv} {x y x' d : Dat} {m k l : Mode} {r : R2} (hx : now x m ρ2 = some x')
    (hr : ∀ B σ H v w Q, REnv K B σ H ρ2 → Rdb K H v x' → Rdb K H w y → Want K B σ ρ2 H d l Q → r v w H Q) (σ : L2.St) (H : Hp) (Q : VK) (h : tS K ρ d l ρ2 σ H Q) : tOp r (tS K ρ x m ρ1) (tS K ρ1 y k ρ2) σ H Q := by
  obtain ⟨B, R, w⟩ := h
  refine ⟨B, R, fun v H1 R1 f1 rv => ?_⟩
  obtain ⟨B1, R1', le, cr⟩ := carry R1 rv
  refine ⟨B1, R1', fun u H2 R2 f2 ru => ?_⟩
  exact hr B σ H2 v u Q (R2.weak le) (cr H2 ρ2 x' R2 f2 hx) (rdb_of R2 ru) fun z H3 R3 f3 rz => w z H3 R3 (f1.trans (f2.trans f3)) rz
theorem tS_one {K : KM} {ρ ρ1 : DEnv} {x d : Dat} {m l : Mode} {r : V → Hp → VK → Prop}
    (hr : ∀ B σ H v Q, REnv K B σ H ρ1 → Rdb K H v x → Want K B σ ρ1 H d l Q → r v H Q) (σ : L2.St) (H : Hp) (Q : VK) (h : tS K ρ d l ρ1 σ H Q) : tS K ρ x m ρ1 σ H (fun v H1 => r v H1 Q) := by
  obtain ⟨B, R, w⟩ := h
  exact ⟨B, R, fun v H1 R1 f1 rv => hr B σ H1 v Q R1 (rdb_of R1 rv) fun z H3 R3 f3 rz => w z H3 R3 (f1.trans f3) rz⟩
theorem idx_snd {x y d : Dat} (h : idxD x y = some d) : ∃ r, IxR X r ∧ ∀ B σ ρ H v w Q, REnv (X.km ea) B σ H ρ → Rdb (X.km ea) H v x → Rdb (X.km ea) H w y → Want (X.km ea) B σ ρ H d .frz Q → r v w H Q := by
  unfold idxD at h
  split at h
  · rename_i xs i
    refine ⟨_, ix_list, fun B σ ρ H v w Q R a b k => ?_⟩
    obtain ⟨p, vs, rfl, hp, l⟩ := a.lst
    have h' := h
    unfold atI at h'
    cases q : ixN xs.length i with
    | none => rw [q] at h'; cases h'
    | some j =>
      rw [q] at h'
      obtain ⟨z, z1, z2⟩ := l.get (i := j) (d := d) h'
      refine ⟨p, vs, i, z, rfl, b.int, hp, ?_, k.val R z2⟩
      unfold atI
      rw [l.length, q]
      exact z1
  · rename_i xs i
    refine ⟨_, ix_tup, fun B σ ρ H v w Q R a b k => ?_⟩
    obtain ⟨p, vs, rfl, hp, l⟩ := a.tup
    have h' := h
    unfold atI at h'
    cases q : ixN xs.length i with
    | none => rw [q] at h'; cases h'
    | some j =>
      rw [q] at h'
      obtain ⟨z, z1, z2⟩ := l.get (i := j) (d := d) h'
      refine ⟨p, vs, i, z, rfl, b.int, hp, ?_, k.val R z2⟩
      unfold atI
      rw [l.length, q]
      exact z1
  · rename_i ns i
    cases q : atI ns i with
    | none => rw [q] at h; cases h
    | some z =>
      rw [q] at h
      cases h
      refine ⟨_, ix_list, fun B σ ρ H v w Q R a b k => ?_⟩
      obtain ⟨p, rfl, hp⟩ := a.scr
      refine ⟨p, _, i, .int z, rfl, b.int, hp, ?_, k.val R (.int z)⟩
      have q' := q
      unfold atI at q' ⊢
      rw [List.length_map]
      cases y : ixN ns.length i with
      | none => rw [y] at q'; cases q'
      | some j =>
        rw [y] at q'
        show (ns.map V.int)[j]? = _
        rw [List.getElem?_map, show ns[j]? = some z from q']
        rfl
  · rename_i x i
    split at h
    · rename_i c
      cases q : atI x.cps.toList i with
      | none => rw [q] at h; cases h
      | some z =>
        rw [q] at h
        cases h
        exact ⟨_, ix_str, fun B σ ρ H v w Q R a b k => ⟨x, i, z, a.str, b.int, sm_le c, q, k.val R (.str _)⟩⟩
    · cases h
  · cases h
theorem cut_is {K : KM} {H : Hp} {vs : List V} {ds : List Dat} (l : IsL K H vs ds) (lo hi : Option Int) : IsL K H (cutV vs lo hi) (cut ds lo hi) := by
  unfold cutV cut
  rw [l.length]
  exact (l.drop _).take _
theorem cut_whole {ds : List Dat} {lo hi : Option Int} (h : HT.sIx ds.length 0 lo = 0 ∧ HT.sIx ds.length ds.length hi = ds.length) : cut ds lo hi = ds := by
  unfold cut
  rw [h.1, h.2, List.drop_zero, Nat.sub_zero, List.take_length]
theorem slc_snd {x d : Dat} {m : Mode} {lo hi : Option Int} (h : slcD x lo hi = some (d, m)) : ∃ r, SlR X r ∧ ∀ B σ ρ H v Q, REnv (X.km ea) B σ H ρ → Rdb (X.km ea) H v x → Want (X.km ea) B σ ρ H d m Q → r v lo hi H Q := by
  unfold slcD at h
  split at h
  · cases h
    refine ⟨_, sl_list, fun B σ ρ H v Q R a k => ?_⟩
    obtain ⟨p, vs, rfl, hp, l⟩ := a.lst
    exact ⟨p, vs, rfl, hp, fun n hn => k.lst R (cut_is l lo hi) hn⟩
  · rename_i xs
    cases h
    refine ⟨_, sl_tupA, fun B σ ρ H v Q R a k => ?_⟩
    obtain ⟨p, vs, rfl, hp, l⟩ := a.tup
    refine ⟨p, vs, rfl, hp, fun hw => ?_, fun _ n hn => k.tup R (cut_is l lo hi) hn⟩
    rw [l.length] at hw
    rw [cut_whole hw] at k
    exact k.val R (.tup hp l)
  · rename_i x
    split at h
    · rename_i c
      cases h
      exact ⟨_, sl_str, fun B σ ρ H v Q R a k => ⟨x, a.str, sm_le c, k.val R (.str _)⟩⟩
    · cases h
  · cases h
theorem bi_boot (b : BI) : bootBuiltins b.name = some b.val := by cases b <;> first | exact PySem.boot_len | exact PyProof.Rows.boot_max | exact PyProof.Rows.boot_min | exact PyProof.Rows.boot_all | exact PyProof.Rows.boot_tuple | exact PyProof.Rows.boot_list | exact PyProof.Rows.boot_repr | exact PyProof.Rows.boot_str | exact PyProof.Rows.boot_int
theorem ty_boot {ty : String} (h : ty ∈ tys6) : bootBuiltins (Str.ofString ty) = some (.type ty) ∧ Str.ofString ty ≠ "__name__" ∧ (Str.ofString ty == ("__debug__" : Str)) = false := by
  unfold tys6 at h
  simp only [List.mem_cons, List.not_mem_nil, or_false] at h
  rcases h with rfl | rfl | rfl | rfl | rfl | rfl
  · exact ⟨PyProof.Rows.boot_int, by decide, by decide⟩
  · exact ⟨PyProof.Rows.boot_bool, by decide, by decide⟩
  · exact ⟨PyProof.Rows.boot_str, by decide, by decide⟩
  · exact ⟨PyProof.Rows.boot_tuple, by decide, by decide⟩
  · exact ⟨PyProof.Rows.boot_list, by decide, by decide⟩
  · exact ⟨PyProof.Rows.boot_dict, by decide, by decide⟩
theorem bi_call {b : BI} {g : Str} {p pos : Pos} {x : Expr} {l : List Expr} {t : TA} {r : List V → Hp → VK → Prop} (hc : CallR X b.val r) (hg : Gl X b.name) (hm : X.mg b.name = none) (ha : PA X (x :: l) t) (hs : ∀ e ∈ x :: l, noStar e = true) :
    PE X (.Call (.Name b.name p) (x :: l) [] pos) (tCB r t) := by
  have h1 : starEach (x :: l) X.env = (false, eval x X.env) :: starEach l X.env := star_cons (hs x List.mem_cons_self)
  have h2 : (backTo pos (starEach l X.env)).any (·.1) = false := star_none fun e he => hs e (List.mem_cons_of_mem _ he)
  have hb := bi_boot b
  cases b with
  | len => exact pe_callB hc hg hm hb ha (by decide) (by decide) h1 h2
  | max => exact pe_callB hc hg hm hb ha (by decide) (by decide) h1 h2
  | min => exact pe_callB hc hg hm hb ha (by decide) (by decide) h1 h2
  | all => exact pe_callB hc hg hm hb ha (by decide) (by decide) h1 h2
  | repr => exact pe_callB hc hg hm hb ha (by decide) (by decide) h1 h2
  | tuple => exact pe_callTy hc hg hm hb ha (by decide) (by decide) h1 h2
  | list => exact pe_callTy hc hg hm hb ha (by decide) (by decide) h1 h2
  | str => exact pe_callTy hc hg hm hb ha (by decide) (by decide) h1 h2
  | int => exact pe_callTy hc hg hm hb ha (by decide) (by decide) h1 h2
end
end Ev
set_option Elab.async false
set_option linter.all false
set_option maxRecDepth 100000
set_option maxHeartbeats 8000000
namespace Ev
open PySem PySem.Spec PyProof.Rows L2
variable {ea : Option EA}
theorem and_and {a b : Bool} (h : (a && b) = true) : a = true ∧ b = true := Bool.and_eq_true_iff.mp h
theorem not_hot {a b : Bool} (h : (!a && b) = true) : a = false ∧ b = true := by
  cases a <;> cases b <;> simp_all

theorem wantC.step {K : KM} {W : WX} {B : Hp} {σ : L2.St} {H H1 : Hp} {Q : VK} {r : Res (Dat × Mode × DEnv)} (f : FrzLe H H1) (h : wantC K W B σ H Q r) : wantC K W B σ H1 Q r := by
  cases r with
  | ok a => exact fun v H' R' f' rv => h v H' R' (f.trans f') rv
  | exc c fs ρ => exact fun cls d H' R' f' xc => h cls d H' R' (f.trans f') xc
  | stuck => exact h
theorem tR_ok {K : KM} {W : WX} {ρ ρ' : DEnv} {d : Dat} {m : Mode} : tR K W ρ (.ok (d, m, ρ')) = tS K ρ d m ρ' := rfl
theorem tR_exc {K : KM} {W : WX} {ρ ρ' : DEnv} {c : Str} {fs : List (Str × Dat)} : tR K W ρ (.exc c fs ρ') = tX K W ρ c fs ρ' := rfl
section
variable {X : Cx} {T : Tab} {n : Nat}
theorem pe_stuck {K : KM} {W : WX} {ρ : DEnv} {e : Expr} : PE X e (tR K W ρ .stuck) := ⟨fun _ _ _ _ _ _ ⟨_, _, h⟩ => h.elim⟩
theorem pt_stuck {K : KM} {W : WX} {ρ : DEnv} {e : Expr} : PT X e (tRT K W ρ .stuck) := ⟨fun _ _ _ _ _ _ ⟨_, _, h⟩ => h.elim⟩
/-- a value that is a truth, as a test -/
theorem pt_of {e : Expr} {ρ ρ' : DEnv} {b : Bool} {m : Mode} (h : PE X e (tS (X.km ea) ρ (.bl b) m ρ')) (hp : plainT e = true) : PT X e (tST (X.km ea) ρ b ρ') := by
  refine (pt_val h (plain_t hp)).imp fun σ H Q q => ?_
  obtain ⟨B, R, k⟩ := q
  exact ⟨B, R, fun v H1 R1 f1 rv => ⟨b, (rdb_of R1 rv).bl, k H1 R1 f1⟩⟩
theorem pt_ofX {e : Expr} {W : WX} {ρ ρ' : DEnv} {c : Str} {fs : List (Str × Dat)} (h : PE X e (tX (X.km ea) W ρ c fs ρ')) (hp : plainT e = true) : PT X e (tXT (X.km ea) W ρ c fs ρ') :=
  (pt_val h (plain_t hp)).imp fun σ H Q q => q
theorem pw_imp {e : Expr} {t t' : TT} (h : PW X e t) (i : ∀ σ H Q, t' σ H Q → t σ H Q) : PW X e t' := ⟨fun wh pins s σ H Q I q => h.run wh pins s σ H Q I (i σ H Q q)⟩
theorem pw_no {e : Expr} : PW X e (fun _ _ _ => False) := ⟨fun _ _ _ _ _ _ _ h => h.elim⟩
theorem pw_bool {op : BoolOp} {l : List Expr} {pos : Pos} {t : TT} (h : PT X (.BoolOp op l pos) t) : PW X (.BoolOp op l pos) t := ⟨fun wh pins s σ H Q I q => h.run pins s σ H Q I q⟩
theorem step_lc {W : WX} {vs : List Nat} {tg : Nat} {elt : IE} {K : KM} : StepOk K W vs tg tYes (tUK K W T elt) (oneOf (ev T elt) tg vs) := by
  intro x ρ' B σ0 H v R hx Qy Qn w
  show (if true = true then tUK K W T elt (σ0.set tg (some v)) H Qy else Qn H)
  rw [if_pos rfl]
  refine ⟨_, B, R.setVal tg hx, ?_⟩
  unfold oneOf at w
  cases h : ev T elt ((wipeE ρ' vs).set tg (.val x)) with
  | ok a => rw [h] at w; exact w
  | exc c fs ρ2 => rw [h] at w; exact w
  | stuck => rw [h] at w; exact w
theorem step_lcI {W : WX} {vs : List Nat} {tg : Nat} {elt cond : IE} {K : KM} : StepOk K W vs tg (tUT K W T cond) (tUK K W T elt) (oneIf (ev T cond) (ev T elt) tg vs) := by
  intro x ρ' B σ0 H v R hx Qy Qn w
  refine ⟨_, B, R.setVal tg hx, ?_⟩
  unfold oneIf at w
  cases h : ev T cond ((wipeE ρ' vs).set tg (.val x)) with
  | stuck => rw [h] at w; exact w
  | exc c fs ρ2 => rw [h] at w; exact w
  | ok a =>
    obtain ⟨z, mz, ρa⟩ := a
    rw [h] at w
    cases z with
    | bl b =>
      cases b with
      | true =>
        intro H' R' f'
        refine iteT ?_
        refine ⟨ρa, B, R', ?_⟩
        have w' : wantOne K W B (σ0.set tg (some v)) H Qy Qn ((ev T elt ρa).bind fun (y, m, ρ2) => .ok (some y, keep m ρ2 y)) := w
        cases h2 : ev T elt ρa with
        | ok a =>
          rw [h2] at w'
          exact fun u H2 R2 f2 ru => w' u H2 R2 (f'.trans f2) ru
        | exc c fs ρ2 =>
          rw [h2] at w'
          exact fun cls d H2 R2 f2 xc => w' cls d H2 R2 (f'.trans f2) xc
        | stuck => rw [h2] at w'; exact w'
      | false =>
        intro H' R' f'
        refine iteF ?_
        have w' : wantOne K W B (σ0.set tg (some v)) H Qy Qn (.ok (none, ρa)) := w
        exact w' H' R' f'
    | _ => exact (show False from w).elim
theorem signs_is {K : KM} {H : Hp} (s : Str) : IsL K H (s.cps.toList.map fun c => V.str ⟨#[c]⟩) (s.cps.toList.map fun c => Dat.str ⟨#[c]⟩) := by
  induction s.cps.toList with
  | nil => exact .nil
  | cons c r ih => exact .cons (.str _) ih
theorem rng_is {K : KM} {H : Hp} (j : Int) : IsL K H ((List.range j.toNat).map fun (k : Nat) => V.int (k : Int)) ((List.range j.toNat).map fun (k : Nat) => Dat.int (k : Int)) := by
  induction (List.range j.toNat) with
  | nil => exact .nil
  | cons c r ih => exact .cons (.int _) ih
theorem own_in {own : List (Str × Nat)} {x : Str} {tg : Nat} (h : (x, tg) ∈ own) : tg ∈ own.map (·.2) := List.mem_map.mpr ⟨_, h, rfl⟩
theorem loc_rel {scope sc : Scope} {x : Str} (h : (match scope.names.lookup x with | some .local => true | some .cell => true | _ => false) = true) :
    Loc (relS scope sc) x ∧ ((scope.names.lookup x == some .cell) = true ∨ (relS scope sc).names.lookup x = some .local) := by
  split at h
  · rename_i e
    have q := lookup_relS_keep (sc := sc) (k := .local) (by decide) e
    exact ⟨.inl q, .inr q⟩
  · rename_i e
    have q := lookup_relS_keep (sc := sc) (k := .cell) (by decide) e
    exact ⟨.inr q, .inl (by rw [e]; rfl)⟩
  · cases h
/-- the parts of a comprehension, by what it comes to -/
def LcP (X : Cx) (K : KM) (W : WX) (ρ : DEnv) (r : Res (Dat × Mode × DEnv)) (y0 tgE i0 : Expr) (ifs : List Expr) (scope : Scope) : Prop :=
  ∃ (wi : TI) (g : TG) (tt : L2.St → TT) (te : L2.St → TE) (own : List (Str × Nat)), PI X tgE i0 wi ∧ BlkOk X.N X.env.scope scope own ∧
    (∀ (s : Shared) (H : Hp) (C : Addr) (cl : List (Str × Addr)) (fp : List Addr) (xe : Value → Shared → Prop), PG (X.blkX s H scope (compEnvC scope cl C X.env) fp xe) tgE g) ∧
    (∀ (σ : L2.St) (s : Shared) (H : Hp) (C : Addr) (cl : List (Str × Addr)) (fp : List Addr) (xe : Value → Shared → Prop), TakesF (X.blkX s H scope (compEnvC scope cl C X.env) fp xe) (wIn W σ) → PTs (X.blkX s H scope (compEnvC scope cl C X.env) fp xe) ifs (tt σ)) ∧
    (∀ (σ : L2.St) (s : Shared) (H : Hp) (C : Addr) (cl : List (Str × Addr)) (fp : List Addr) (xe : Value → Shared → Prop), TakesF (X.blkX s H scope (compEnvC scope cl C X.env) fp xe) (wIn W σ) → PE (X.blkX s H scope (compEnvC scope cl C X.env) fp xe) y0 (te σ)) ∧
    (∀ x, foldedSetIterable i0 X.env x = pure x) ∧ ∀ σ H Q, tR K W ρ r σ H Q → tLc wi g (tt σ) (te σ) (own.map (·.2)) σ H Q
theorem pe_lcP {K : KM} {W : WX} {ρ : DEnv} {r : Res (Dat × Mode × DEnv)} {y0 tgE i0 : Expr} {ifs : List Expr} {scope : Scope} {pos : Pos} {L : Addr} (hc : X.calm = true) (hN : X.N.Nodup) (tk : TakesF X W) (fm : Frm X L) (h : LcP X K W ρ r y0 tgE i0 ifs scope) :
    PE X (.ListComp y0 [⟨tgE, i0, ifs, 0⟩] scope pos) (tR K W ρ r) := by
  obtain ⟨wi, g, tt, te, own, h1, h2, h3, h4, h5, h6, h7⟩ := h
  exact (pe_lcX hc hN h1 h2 tk fm h3 h4 h5 h6).imp h7
/-- the target is a name, the block's parts are at hand -/
theorem lc_mk {W : WX} {ρ : DEnv} {rit : Res (Dat × Mode × DEnv)} {one : Dat → DEnv → Res (Option Dat × DEnv)} {y0 i0 : Expr} {x0 : Str} {p0 : Pos} {ifs : List Expr} {scope : Scope} {own : List (Str × Nat)} {tg : Nat} {tt : L2.St → TT} {te : L2.St → TE}
    (hN : X.N.Nodup) (hb : blkC X.N X.env.scope scope own = true) (hm : (x0, tg) ∈ own) (hl : (match scope.names.lookup x0 with | some .local => true | some .cell => true | _ => false) = true) (hns : noSet i0 = true)
    (hit : PE X i0 (tR (X.km ea) W ρ (keepR rit))) (st : ∀ σ, StepOk (X.km ea) (wIn W σ) (own.map (·.2)) tg (tt σ) (te σ) one)
    (ht : ∀ (σ : L2.St) (s : Shared) (H : Hp) (C : Addr) (cl : List (Str × Addr)) (fp : List Addr) (xe : Value → Shared → Prop), TakesF (X.blkX s H scope (compEnvC scope cl C X.env) fp xe) (wIn W σ) → PTs (X.blkX s H scope (compEnvC scope cl C X.env) fp xe) ifs (tt σ))
    (he : ∀ (σ : L2.St) (s : Shared) (H : Hp) (C : Addr) (cl : List (Str × Addr)) (fp : List Addr) (xe : Value → Shared → Prop), TakesF (X.blkX s H scope (compEnvC scope cl C X.env) fp xe) (wIn W σ) → PE (X.blkX s H scope (compEnvC scope cl C X.env) fp xe) y0 (te σ)) :
    LcP X (X.km ea) W ρ (rit.bind fun (x, m, ρ1) => (ofO (items x)).bind fun xs => comp (own.map (·.2)) one xs (keep m ρ1 x)) y0 (.Name x0 p0) i0 ifs scope := by
  have lo := loc_rel (sc := X.env.scope) hl
  have ok := blkOk_by hb
  have pg : ∀ (s : Shared) (H : Hp) (C : Addr) (cl : List (Str × Addr)) (fp : List Addr) (xe : Value → Shared → Prop), PG (X.blkX s H scope (compEnvC scope cl C X.env) fp xe) (.Name x0 p0) (gName tg) := fun s H C cl fp xe => pg_name hN (ok.ix _ hm) lo.1 lo.2
  cases rit with
  | stuck => exact ⟨_, _, tt, te, own, pi_list hit, ok, pg, ht, he, noSet_fold hns, fun σ H Q ⟨B, R, w⟩ => (show False from w).elim⟩
  | exc c fs ρ2 => exact ⟨_, _, tt, te, own, pi_list hit, ok, pg, ht, he, noSet_fold hns, fun σ H Q h => h⟩
  | ok a =>
    obtain ⟨x, m, ρ1⟩ := a
    have bad : items x = none → LcP X (X.km ea) W ρ ((ofO (items x)).bind fun xs => comp (own.map (·.2)) one xs (keep m ρ1 x)) y0 (.Name x0 p0) i0 ifs scope := fun z =>
      ⟨_, _, tt, te, own, pi_list hit, ok, pg, ht, he, noSet_fold hns, fun σ H Q ⟨B, R, w⟩ => by rw [z] at w; exact (show False from w).elim⟩
    cases x with
    | lst ds =>
      refine ⟨_, _, tt, te, own, pi_list hit, ok, pg, ht, he, noSet_fold hns, fun σ H Q ⟨B, R, w⟩ => ⟨B, R, fun v H1 R1 f1 rv => ?_⟩⟩
      cases rv with
      | lst a l =>
        refine ⟨_, rfl, ⟨_, .inl (.inr ⟨_, a⟩)⟩, ?_⟩
        exact comp_snd (st σ) l (walker_list (K := X.km ea) a) R1 (own_in hm) (wantC.step f1 w)
    | tup ds =>
      refine ⟨_, _, tt, te, own, pi_tup hit, ok, pg, ht, he, noSet_fold hns, fun σ H Q ⟨B, R, w⟩ => ⟨B, R, fun v H1 R1 f1 rv => ?_⟩⟩
      cases rv with
      | tup a l =>
        refine ⟨_, rfl, ⟨_, a⟩, ?_⟩
        exact comp_snd (st σ) l (walker_tup (K := X.km ea) a) R1 (own_in hm) (wantC.step f1 w)
    | str s =>
      refine ⟨_, _, tt, te, own, pi_str hit, ok, pg, ht, he, noSet_fold hns, fun σ H Q ⟨B, R, w⟩ => ⟨B, R, fun v H1 R1 f1 rv => ?_⟩⟩
      cases rv
      refine ⟨_, rfl, ?_⟩
      exact comp_snd (st σ) (signs_is s) (walker_str s) R1 (own_in hm) (wantC.step f1 w)
    | non => exact bad rfl
    | bl _ => exact bad rfl
    | int _ => exact bad rfl
    | dic _ => exact bad rfl
    | scr _ => exact bad rfl
/-- .. over a range -/
theorem lc_mkR {W : WX} {ρ : DEnv} {rit : Res (Dat × Mode × DEnv)} {one : Dat → DEnv → Res (Option Dat × DEnv)} {y0 i0 : Expr} {x0 : Str} {p0 p2 p3 : Pos} {ifs : List Expr} {scope : Scope} {own : List (Str × Nat)} {tg : Nat} {tt : L2.St → TT} {te : L2.St → TE}
    (hN : X.N.Nodup) (hb : blkC X.N X.env.scope scope own = true) (hm : (x0, tg) ∈ own) (hl : (match scope.names.lookup x0 with | some .local => true | some .cell => true | _ => false) = true) (hgl : Gl X "range") (hmg : X.mg "range" = none) (hst : noStar i0 = true)
    (hit : PE X i0 (tR (X.km ea) W ρ rit)) (st : ∀ σ, StepOk (X.km ea) (wIn W σ) (own.map (·.2)) tg (tt σ) (te σ) one)
    (ht : ∀ (σ : L2.St) (s : Shared) (H : Hp) (C : Addr) (cl : List (Str × Addr)) (fp : List Addr) (xe : Value → Shared → Prop), TakesF (X.blkX s H scope (compEnvC scope cl C X.env) fp xe) (wIn W σ) → PTs (X.blkX s H scope (compEnvC scope cl C X.env) fp xe) ifs (tt σ))
    (he : ∀ (σ : L2.St) (s : Shared) (H : Hp) (C : Addr) (cl : List (Str × Addr)) (fp : List Addr) (xe : Value → Shared → Prop), TakesF (X.blkX s H scope (compEnvC scope cl C X.env) fp xe) (wIn W σ) → PE (X.blkX s H scope (compEnvC scope cl C X.env) fp xe) y0 (te σ)) :
    LcP X (X.km ea) W ρ (rit.bind fun (x, _, ρ1) => (match x with
      | .int j => if -(2 ^ 62) ≤ j ∧ j < 2 ^ 62 then comp (own.map (·.2)) one ((List.range j.toNat).map fun (k : Nat) => .int (k : Int)) ρ1 else .stuck
      | _ => .stuck)) y0 (.Name x0 p0) (.Call (.Name "range" p2) [i0] [] p3) ifs scope := by
  have lo := loc_rel (sc := X.env.scope) hl
  have ok := blkOk_by hb
  have pg : ∀ (s : Shared) (H : Hp) (C : Addr) (cl : List (Str × Addr)) (fp : List Addr) (xe : Value → Shared → Prop), PG (X.blkX s H scope (compEnvC scope cl C X.env) fp xe) (.Name x0 p0) (gName tg) := fun s H C cl fp xe => pg_name hN (ok.ix _ hm) lo.1 lo.2
  have pi := pi_range1 (tg := .Name x0 p0) (pos := p3) (p := p2) hgl hmg (pa_cons hit pa_nil (star_cons hst)) (star_cons hst)
  refine ⟨_, _, tt, te, own, pi, ok, pg, ht, he, noSet_fold rfl, fun σ H Q h => ?_⟩
  cases rit with
  | stuck => obtain ⟨B, R, w⟩ := h; exact (show False from w).elim
  | exc c fs ρ2 => exact h
  | ok a =>
    obtain ⟨x, m, ρ1⟩ := a
    obtain ⟨B, R, w⟩ := h
    refine ⟨B, R, fun v H1 R1 f1 rv => ?_⟩
    cases x with
    | int j =>
      have w : wantC (X.km ea) W B σ H Q (if -(2 ^ 62) ≤ j ∧ j < 2 ^ 62 then comp (own.map (·.2)) one ((List.range j.toNat).map fun (k : Nat) => .int (k : Int)) ρ1 else .stuck) := w
      split at w
      · rename_i hj
        have ev1 := (rdb_of R1 rv).int
        subst ev1
        refine ⟨j, rfl, hj.1, hj.2, ?_⟩
        exact comp_snd (st σ) (rng_is j) (walker_rng j) R1 (own_in hm) (wantC.step f1 w)
      · exact (show False from w).elim
    | _ => exact (show False from w).elim
theorem mk_R {K : KM} {W : WX} {ρ : DEnv} {e : Expr} {r : Res (Dat × Mode × DEnv)} (h1 : ∀ {d m ρ'}, r = .ok (d, m, ρ') → PE X e (tS K ρ d m ρ')) (h2 : ∀ {c fs ρ'}, r = .exc c fs ρ' → PE X e (tX K W ρ c fs ρ')) : PE X e (tR K W ρ r) := by
  cases r with
  | ok a => exact h1 rfl
  | exc c fs ρ' => exact h2 rfl
  | stuck => exact pe_stuck
theorem ok_of {K : KM} {W : WX} {ρ ρ' : DEnv} {e : Expr} {r : Res (Dat × Mode × DEnv)} {d : Dat} {m : Mode} (h : PE X e (tR K W ρ r)) (q : r = .ok (d, m, ρ')) : PE X e (tS K ρ d m ρ') := by
  rw [q] at h; exact h
theorem ex_of {K : KM} {W : WX} {ρ ρ' : DEnv} {e : Expr} {r : Res (Dat × Mode × DEnv)} {c : Str} {fs : List (Str × Dat)} (h : PE X e (tR K W ρ r)) (q : r = .exc c fs ρ') : PE X e (tX K W ρ c fs ρ') := by
  rw [q] at h; exact h
theorem keep_of {W : WX} {ρ : DEnv} {e : Expr} {r : Res (Dat × Mode × DEnv)} (h : PE X e (tR (X.km ea) W ρ r)) : PE X e (tR (X.km ea) W ρ (keepR r)) := by
  cases r with
  | ok a => exact pe_keep h
  | exc c fs ρ' => exact h
  | stuck => exact h
theorem mk_RT {K : KM} {W : WX} {ρ : DEnv} {e : Expr} {r : Res (Dat × Mode × DEnv)} (h1 : ∀ {b m ρ'}, r = .ok (.bl b, m, ρ') → PT X e (tST K ρ b ρ')) (h2 : ∀ {c fs ρ'}, r = .exc c fs ρ' → PT X e (tXT K W ρ c fs ρ')) : PT X e (tRT K W ρ r) := by
  cases r with
  | ok a =>
    obtain ⟨d, m, ρ'⟩ := a
    cases d with
    | bl b => exact h1 rfl
    | _ => exact ⟨fun _ _ _ _ _ _ ⟨_, _, h⟩ => (show False from h).elim⟩
  | exc c fs ρ' => exact h2 rfl
  | stuck => exact pt_stuck
theorem okT_of {K : KM} {W : WX} {ρ ρ' : DEnv} {e : Expr} {r : Res (Dat × Mode × DEnv)} {b : Bool} {m : Mode} (h : PT X e (tRT K W ρ r)) (q : r = .ok (.bl b, m, ρ')) : PT X e (tST K ρ b ρ') := by
  rw [q] at h; exact h
theorem exT_of {K : KM} {W : WX} {ρ ρ' : DEnv} {e : Expr} {r : Res (Dat × Mode × DEnv)} {c : Str} {fs : List (Str × Dat)} (h : PT X e (tRT K W ρ r)) (q : r = .exc c fs ρ') : PT X e (tXT K W ρ c fs ρ') := by
  rw [q] at h; exact h
/-- .. of several -/
def wantA (K : KM) (W : WX) (B : Hp) (σ : L2.St) (H : Hp) (Q : List V → Hp → Prop) : Res (List Dat × DEnv) → Prop
  | .ok (ds, ρ2) => ∀ vs H', REnv K B σ H' ρ2 → FrzLe H H' → IsL K H' vs ds → Q vs H'
  | .exc c fs ρ2 => ∀ cls d H', REnv K B σ H' ρ2 → FrzLe H H' → XcR K H' cls d c fs → W cls d σ H'
  | .stuck => False
def tRA (K : KM) (W : WX) (ρ : DEnv) (r : Res (List Dat × DEnv)) : TA := fun σ H Q => ∃ B, REnv K B σ H ρ ∧ wantA K W B σ H Q r
def wantG (K : KM) (W : WX) (B : Hp) (σ : L2.St) (H : Hp) (Q : List V → Hp → Prop) : Res (Got × DEnv) → Prop
  | .ok (g, ρ2) => ∀ vs H', REnv K B σ H' ρ2 → FrzLe H H' → gotR K B σ ρ2 H' vs g → Q vs H'
  | .exc c fs ρ2 => ∀ cls d H', REnv K B σ H' ρ2 → FrzLe H H' → XcR K H' cls d c fs → W cls d σ H'
  | .stuck => False
def tRG (K : KM) (W : WX) (ρ : DEnv) (r : Res (Got × DEnv)) : TA := fun σ H Q => ∃ B, REnv K B σ H ρ ∧ wantG K W B σ H Q r
theorem mk_A {K : KM} {W : WX} {ρ : DEnv} {l : List Expr} {r : Res (List Dat × DEnv)} (h1 : ∀ {ds ρ'}, r = .ok (ds, ρ') → PA X l (tSA K ρ ds ρ')) (h2 : ∀ {c fs ρ'}, r = .exc c fs ρ' → PA X l (tXA K W ρ c fs ρ')) : PA X l (tRA K W ρ r) := by
  cases r with
  | ok a => exact h1 rfl
  | exc c fs ρ' => exact h2 rfl
  | stuck => exact ⟨fun _ _ _ _ _ _ _ ⟨_, _, h⟩ => (show False from h).elim⟩
theorem okA_of {K : KM} {W : WX} {ρ ρ' : DEnv} {l : List Expr} {r : Res (List Dat × DEnv)} {ds : List Dat} (h : PA X l (tRA K W ρ r)) (q : r = .ok (ds, ρ')) : PA X l (tSA K ρ ds ρ') := by
  rw [q] at h; exact h
theorem exA_of {K : KM} {W : WX} {ρ ρ' : DEnv} {l : List Expr} {r : Res (List Dat × DEnv)} {c : Str} {fs : List (Str × Dat)} (h : PA X l (tRA K W ρ r)) (q : r = .exc c fs ρ') : PA X l (tXA K W ρ c fs ρ') := by
  rw [q] at h; exact h
theorem mk_G {K : KM} {W : WX} {ρ : DEnv} {l : List Expr} {r : Res (Got × DEnv)} (h1 : ∀ {g ρ'}, r = .ok (g, ρ') → PA X l (tSG K ρ g ρ')) (h2 : ∀ {c fs ρ'}, r = .exc c fs ρ' → PA X l (tXA K W ρ c fs ρ')) : PA X l (tRG K W ρ r) := by
  cases r with
  | ok a => exact h1 rfl
  | exc c fs ρ' => exact h2 rfl
  | stuck => exact ⟨fun _ _ _ _ _ _ _ ⟨_, _, h⟩ => (show False from h).elim⟩
theorem okG_of {K : KM} {W : WX} {ρ ρ' : DEnv} {l : List Expr} {r : Res (Got × DEnv)} {g : Got} (h : PA X l (tRG K W ρ r)) (q : r = .ok (g, ρ')) : PA X l (tSG K ρ g ρ') := by
  rw [q] at h; exact h
theorem exG_of {K : KM} {W : WX} {ρ ρ' : DEnv} {l : List Expr} {r : Res (Got × DEnv)} {c : Str} {fs : List (Str × Dat)} (h : PA X l (tRG K W ρ r)) (q : r = .exc c fs ρ') : PA X l (tXA K W ρ c fs ρ') := by
  rw [q] at h; exact h
theorem ofO_bx {α β : Type} {o : Option α} {f : α → Res β} {c : Str} {fs : List (Str × Dat)} {ρ : DEnv} (h : (ofO o).bind f = .exc c fs ρ) : ∃ a, o = some a ∧ f a = .exc c fs ρ := by
  cases o with
  | none => cases h
  | some a => exact ⟨a, rfl, h⟩
theorem ix_no : IxR X (fun _ _ _ _ => False) := fun _ _ _ _ _ _ _ _ _ _ _ _ _ _ h _ => h.elim
theorem sl_no : L2.SlR X (fun _ _ _ _ _ => False) := fun _ _ _ _ _ _ _ _ _ _ _ _ _ _ _ _ _ h => h.elim
theorem call_no {f : Value} : CallR X f (fun _ _ _ => False) := fun _ _ _ _ _ _ _ _ _ h => h.elim
/-- a call that comes to a value -/
theorem call_ok {K : KM} {fi : FI} {got : Got} {ρ1 ρ' : DEnv} {d : Dat} {m : Mode} {B : Hp} {σ : L2.St} {H1 : Hp} {vs : List V} {Q : VK} {E : XK} (sh : got.length = fi.io.length → Shape fi.io got) (R1 : REnv K B σ H1 ρ1) (l : gotR K B σ ρ1 H1 vs got)
    (h : callD fi got ρ1 = .ok (d, m, ρ')) (k : ∀ v H', REnv K B σ H' ρ' → FrzLe H1 H' → RV K B σ ρ' H' v d m → Q v H') : spD K fi vs H1 Q E := by
  unfold callD at h
  split at h
  · rename_i hnd
    obtain ⟨ds, h3, h4⟩ := Res.bind_ok h
    have rd := ofO_ok h3
    refine ⟨ds, got_args R1 (sh hnd.2) l rd, ioA_nodup R1 (sh hnd.2) l rd hnd.1, ?_⟩
    cases hr : fi.run ds with
    | ok a =>
      obtain ⟨d', new, outs⟩ := a
      rw [hr] at h4
      cases h4
      intro v H' P
      obtain ⟨R2, rv⟩ := call_back R1 (sh hnd.2) l rd hnd.1 P
      exact k v H' R2 P.2.1 rv
    | exc c fs ss => rw [hr] at h4; cases h4
    | stuck => rw [hr] at h4; cases h4
  · cases h
/-- .. to an exception -/
theorem call_ex {K : KM} {fi : FI} {got : Got} {ρ1 ρ' : DEnv} {c : Str} {fs : List (Str × Dat)} {B : Hp} {σ : L2.St} {H1 : Hp} {vs : List V} {Q : VK} {E : XK} (sh : got.length = fi.io.length → Shape fi.io got) (R1 : REnv K B σ H1 ρ1) (l : gotR K B σ ρ1 H1 vs got)
    (h : callD fi got ρ1 = .exc c fs ρ') (k : ∀ cls d H', REnv K B σ H' ρ' → FrzLe H1 H' → XcR K H' cls d c fs → E cls d H') : spD K fi vs H1 Q E := by
  unfold callD at h
  split at h
  · rename_i hnd
    obtain ⟨ds, rd, h4⟩ := ofO_bx h
    refine ⟨ds, got_args R1 (sh hnd.2) l rd, ioA_nodup R1 (sh hnd.2) l rd hnd.1, ?_⟩
    cases hr : fi.run ds with
    | ok a => rw [hr] at h4; cases h4
    | exc c' fs' ss =>
      rw [hr] at h4
      cases h4
      intro cls d H' P
      obtain ⟨R2, xc⟩ := call_backX R1 (sh hnd.2) l rd hnd.1 P
      exact k cls d H' R2 P.2.1 xc
    | stuck => rw [hr] at h4; cases h4
  · cases h
theorem Good.blk {hot : Bool} (g : Good T n hot ea X) (hh : hot = false) (s : Shared) (H : Hp) (scope : Scope) (cl : List (Str × Addr)) (C : Addr) (fp : List Addr) (xe : Value → Shared → Prop) : Good T n hot ea (X.blkX s H scope (compEnvC scope cl C X.env) fp xe) :=
  ⟨g.mod, g.calm, g.ea0, g.room, g.nd, g.grd, g.hu, by
    obtain ⟨L, fm⟩ := g.frm
    exact ⟨L, fm.ex, fm.fr⟩, fun e he => by rw [g.ea0 hh] at he; cases he⟩
end
end Ev
set_option Elab.async false
set_option linter.all false
set_option maxRecDepth 100000
set_option maxHeartbeats 4000000
/-! What is asked of the exception that is being handled. -/
namespace Ev
open PySem PySem.Spec PyProof.Rows L2
variable {ea : Option EA}
section
variable {X : Cx} {T : Tab} {n : Nat} {hot : Bool}
theorem exn_inst {e : EA} {oe : Obj} {fs : List (Str × Dat)} {pins : List (Addr × Obj)} {σ : L2.St} {H : Hp} {s : Shared} (I : Inv X pins σ H s) (hp : (e.a, oe) ∈ X.pn) (hz : Zc (.ref e.C) e.d oe) (hf : ∃ vs, oe.data = .fields vs) (hx : XdR (X.km ea) H e.d fs) :
    ∃ od, PySem.W.InstAt s.heap e.a oe e.C od := by
  obtain ⟨hget, _⟩ := I.pin (e.a, oe) (List.mem_append.mpr (.inl hp))
  obtain ⟨vs, hv⟩ := hf
  have nc : PySem.W.notCls oe = true := by unfold PySem.W.notCls; rw [hv] <;> rfl
  rcases hx with ⟨_, hd⟩ | ⟨dx, o, ws, hd, hh, _⟩
  · exact ⟨none, hget, hz.1, nc, by rw [hz.2, hd]; trivial⟩
  · obtain ⟨ho, _⟩ := (show ObjOk X.prog X.w H s.heap dx (.frz o (.xd ws)) from I.hok dx _ hh)
    exact ⟨some o, hget, hz.1, nc, by rw [hz.2, hd]; exact ho⟩
/-- isinstance(e, c) -/
theorem call_isX {e : EA} {oe : Obj} {fs : List (Str × Dat)} (F : ExcF X.K e.C) (hp : (e.a, oe) ∈ X.pn) (hz : Zc (.ref e.C) e.d oe) (hf : ∃ vs, oe.data = .fields vs) :
    CallR X (.builtin "isinstance") (fun xs H Q => ∃ (c : V) (cv : Value) (b : Bool), xs = [.ref e.a, c] ∧ (∀ u, RelV c u → u = cv) ∧ PySem.W.kitOne X.K (.ref e.C) cv = some b ∧ XdR (X.km ea) H e.d fs ∧ Q (.bl b) H) := by
  intro pins s σ H xs us Q I r h
  obtain ⟨c, cv, b, rfl, hcv, hk, hx, q⟩ := h
  obtain ⟨u1, u2, rfl, r1, r2⟩ := vals2 r
  cases r1
  cases hcv _ r2
  obtain ⟨od, J⟩ := exn_inst I hp hz hf hx
  exact PySem.W.kia_one (PySem.W.kitx_exc F.hcl F.hga F.hgt F.hsub F.ha F.hn F.htk F.hm) I.kIn J hk (fun z => nomatch z) fun tk => ⟨.bl b, H, I.tok tk, rfl, q⟩
/-- a class by its name -/
theorem pe_cls {x : Str} {p : Pos} {v : Value} (h : NameM X.mg x v) (hv : (∃ C, v = .ref C) ∨ ∃ t, v = .type t) (hg : Gl X x) (ho : notOdd x = true) : ∃ c : V, (∀ u, RelV c u → u = v) ∧ PE X (.Name x p) (fun _ H Q => Q c H) := by
  rcases hv with ⟨C, rfl⟩ | ⟨t, rfl⟩
  · refine ⟨.ref C, fun u z => z, ?_⟩
    rcases h with h | ⟨h1, h2, h3⟩
    · exact (pe_glob (v := .ref C) hg h rfl (odd1 ho)).imp fun σ H Q q => q
    · exact (pe_bltn (v := .ref C) hg h1 h2 rfl h3 (odd1 ho)).imp fun σ H Q q => q
  · refine ⟨.ty t, fun u z => z, ?_⟩
    rcases h with h | ⟨h1, h2, h3⟩
    · exact (pe_glob (v := .ty t) hg h rfl (odd1 ho)).imp fun σ H Q q => q
    · exact (pe_bltn (v := .ty t) hg h1 h2 rfl h3 (odd1 ho)).imp fun σ H Q q => q
theorem subs_one {c d : Str} {b : Bool} (h : subs T c [d] = some b) : T.sub c d = some b := by
  unfold subs at h
  split at h
  · rename_i e; cases h; exact e
  · rename_i e
    unfold subs at h
    cases h
    exact e
  · cases h
theorem pe_isE {i : Nat} {x d c : Str} {p1 p2 p3 pos : Pos} {ρ : DEnv} {fs : List (Str × Dat)} {b : Bool} (g : Good T n hot ea X) (hN : X.N[i]? = some x) (hv : Vis X.env.scope x) (hx : notOdd x = true) (hgi : Gl X "isinstance") (hgd : Gl X d) (hd : notOdd d = true)
    (hr : ρ[i]? = some (.exn c fs)) (hs : subs T c [d] = some b) : PE X (.Call (.Name "isinstance" p1) [.Name x p2, .Name d p3] [] pos) (tS (X.km ea) ρ (.bl b) .frz ρ) := by
  obtain ⟨C, v, m1, F, m2, m3, m4, _⟩ := g.mod.sub c d b (subs_one hs)
  obtain ⟨cv, k1, k2⟩ := pe_cls (p := p3) m2 m3 hgd hd
  cases hea : ea with
  | none =>
    refine (pe_no (X := X)).imp fun σ H Q ⟨B, R, k⟩ => ?_
    obtain ⟨e, z, _⟩ := R.exn i c fs hr
    cases z
  | some e =>
    subst hea
    obtain ⟨oe, hp, hz, hf⟩ := g.eaf e rfl
    by_cases hC : C = e.C
    · subst hC
      refine (pe_callB (call_isX (ea := some e) (fs := fs) F hp hz hf) hgi g.mod.isi PyProof.Rows.boot_isinstance (pa_cons (pe_var hN hv (odd1 hx) (odd2 hx)) (pa_cons k2 pa_nil)) (by decide) (by decide) rfl rfl).imp fun σ H Q ⟨B, R, k⟩ => ?_
      obtain ⟨e', z, x1, x2, x3⟩ := R.exn i c fs hr
      cases z
      exact ⟨_, x1, cv, v, b, rfl, k1, m4, x3, k _ H R (FrzLe.refl H) (.bl b)⟩
    · refine (pe_no (X := X)).imp fun σ H Q ⟨B, R, k⟩ => ?_
      obtain ⟨e', z, x1, x2, x3⟩ := R.exn i c fs hr
      cases z
      have x2' : X.mg c = some (.ref e.C) := x2
      rw [m1] at x2'
      cases x2'
      exact hC rfl
theorem lookup_is {K : KM} {H : Hp} {f : Str} {d : Dat} : ∀ {vs : List (Str × V)} {fs : List (Str × Dat)}, vs.map (·.1) = fs.map (·.1) → IsL K H (vs.map (·.2)) (fs.map (·.2)) → fs.lookup f = some d → ∃ v, vs.lookup f = some v ∧ Is K H v d
  | [], [], _, _, h => by cases h
  | [], _ :: _, e, _, _ => by cases e
  | _ :: _, [], e, _, _ => by cases e
  | (a, v) :: vs, (b, x) :: fs, e, l, h => by
    have e1 : a = b := by
      have := congrArg List.head? e
      simpa using this
    have e2 : vs.map (·.1) = fs.map (·.1) := by
      have := congrArg List.tail e
      simpa using this
    subst e1
    cases l with
    | cons i1 l =>
      rw [List.lookup_cons] at h ⊢
      cases q : f == a with
      | true =>
        rw [q] at h
        cases h
        exact ⟨v, rfl, i1⟩
      | false =>
        rw [q] at h
        exact lookup_is e2 l h
/-- e.f -/
theorem pe_fldE {i : Nat} {x f c : Str} {p2 pos : Pos} {ρ : DEnv} {fs : List (Str × Dat)} {d : Dat} (g : Good T n hot ea X) (hN : X.N[i]? = some x) (hv : Vis X.env.scope x) (hx : notOdd x = true)
    (hr : ρ[i]? = some (.exn c fs)) (hc : (T.exc c).any (·.contains f) = true) (hl : fs.lookup f = some d) : PE X (.Attribute (.Name x p2) f pos) (tS (X.km ea) ρ d .frz ρ) := by
  obtain ⟨names, hc1, hc2⟩ : ∃ names, T.exc c = some names ∧ f ∈ names := by
    cases q : T.exc c with
    | none => rw [q] at hc; cases hc
    | some ns => rw [q] at hc; exact ⟨ns, rfl, List.contains_iff_mem.mp hc⟩
  obtain ⟨C, m1, F, hno⟩ := g.mod.exf c names hc1
  refine ⟨fun pins s σ H Q I h => ?_⟩
  obtain ⟨B, R, k⟩ := h
  obtain ⟨e, z, x1, x2, x3⟩ := R.exn i c fs hr
  have hea : ea = some e := z
  subst hea
  obtain ⟨oe, hp, hz, hf⟩ := g.eaf e rfl
  have x2' : X.mg c = some (.ref e.C) := x2
  rw [m1] at x2'
  cases x2'
  rcases x3 with ⟨rfl, _⟩ | ⟨dx, o, vs, hd, hh, hn, hI⟩
  · cases hl
  refine attr_of (hb := rfl) (thn ((pe_var hN hv (odd1 hx) (odd2 hx)).run pins s σ H (fun v H1 => v = .ref e.a ∧ H1 = H) I ⟨_, x1, rfl, rfl⟩) fun u s1 hq => ?_)
  obtain ⟨v, H1, I1, rv, rfl, rfl⟩ := hq
  obtain rfl : u = Value.ref e.a := rv
  obtain ⟨v, hv1, hv2⟩ := lookup_is hn hI hl
  obtain ⟨ho, mA, hns, hrr⟩ := (show ObjOk X.prog X.w H1 s1.heap dx (.frz o (.xd vs)) from I1.hok dx _ hh)
  obtain ⟨od, ho2, hlk⟩ := lookIn_ns hns
  obtain ⟨u, hu, ru⟩ := RelO.some_of (v := v) (o := mA f) (by rw [← hv1]; exact hrr f)
  obtain ⟨hget, _⟩ := I1.pin (e.a, oe) (List.mem_append.mpr (.inl hp))
  obtain ⟨ws, hw⟩ := hf
  have J : PySem.W.InstAt s1.heap e.a oe e.C (some od) := ⟨hget, hz.1, by unfold PySem.W.notCls; rw [hw] <;> rfl, by rw [hz.2, hd]; exact ho2⟩
  exact HandSPX.exc_get I1.kIn J F.hga F.hgt F.hsub (PySem.W.findObj_own F.hd (hno f hc2) rfl (by rw [hlk, hu])) (handed_of ru) ⟨v, H1, I1.tok _, ru, k v H1 R (FrzLe.refl H1) hv2⟩
end
end Ev
set_option Elab.async false
set_option linter.all false
set_option maxRecDepth 100000
set_option maxHeartbeats 8000000
namespace Ev
open PySem PySem.Spec PyProof.Rows L2
section
variable {X : Cx} {ea : Option EA} {T : Tab} {n : Nat}
theorem pa_no {l : List Expr} : PA X l (fun _ _ _ => False) := ⟨fun _ _ _ _ _ _ _ h => h.elim⟩
theorem pk_no {l : List Keyword} : PK X l (fun _ _ _ => False) := ⟨fun _ _ _ _ _ _ _ h => h.elim⟩
theorem strs_isL {K : KM} {H : Hp} : ∀ ys : List Str, IsL K H (ys.map V.str) (ys.map Dat.str)
  | [] => .nil
  | y :: r => .cons (.str y) (strs_isL r)
theorem isNon_of {K : KM} {H : Hp} {v : V} {x : Dat} (h : Rdb K H v x) : decide (v = .non) = x.isNon := by
  rcases h with h | ⟨p, rfl, _, _, rfl, _⟩
  · cases h <;> first | rfl | exact decide_eq_false (fun z => by cases z)
  · exact decide_eq_false (fun z => by cases z)
theorem shape_vals : ∀ {io : List Bool} {ds : List Dat}, io.all (!·) = true → ds.length = io.length → Shape io (ds.map .val)
  | [], [], _, _ => trivial
  | true :: io, _ :: _, h, _ => by simp at h
  | false :: io, d :: ds, h, hl => shape_vals (io := io) (ds := ds) (by simpa using h) (by simpa using hl)
theorem got_vals {K : KM} {B : Hp} {σ : L2.St} {ρ : DEnv} {H : Hp} : ∀ {vs : List V} {ds : List Dat}, IsL K H vs ds → gotR K B σ ρ H vs (ds.map .val)
  | _, _, .nil => trivial
  | _, _, .cons a l => ⟨a, got_vals l⟩
theorem pt_R {W : WX} {ρ : DEnv} {e : Expr} {r : Res (Dat × Mode × DEnv)} (h : PE X e (tR (X.km ea) W ρ r)) (hp : plainT e = true) : PT X e (tRT (X.km ea) W ρ r) :=
  mk_RT (fun q => pt_of (ok_of h q) hp) fun q => pt_ofX (ex_of h q) hp
/-- .. of the parts of an f-text -/
def wantF (K : KM) (W : WX) (B : Hp) (σ : L2.St) (H : Hp) (Q : Str → Hp → Prop) : Res (Str × DEnv) → Prop
  | .ok (z, ρ2) => ∀ H', REnv K B σ H' ρ2 → FrzLe H H' → Q z H'
  | .exc c fs ρ2 => ∀ cls d H', REnv K B σ H' ρ2 → FrzLe H H' → XcR K H' cls d c fs → W cls d σ H'
  | .stuck => False
theorem wantF.step {K : KM} {W : WX} {B : Hp} {σ : L2.St} {H H1 : Hp} {Q : Str → Hp → Prop} {r : Res (Str × DEnv)} (f : FrzLe H H1) (h : wantF K W B σ H Q r) : wantF K W B σ H1 Q r := by
  cases r with
  | ok a => exact fun H' R' f' => h H' R' (f.trans f')
  | exc c fs ρ => exact fun cls d H' R' f' xc => h cls d H' R' (f.trans f') xc
  | stuck => exact h
def tUR (K : KM) (W : WX) (T : Tab) (ie : IE) : TE := fun σ H Q => ∃ ρ, tR K W ρ (ev T ie ρ) σ H Q
theorem pe_UR {W : WX} {ie : IE} {e : Expr} (h : ∀ ρ, PE X e (tR (X.km ea) W ρ (ev T ie ρ))) : PE X e (tUR (X.km ea) W T ie) := ⟨fun pins s σ H Q I ⟨ρ, h2⟩ => (h ρ).run pins s σ H Q I h2⟩
theorem fmt_str {acc z acc' : Str} (h : fmtD acc (.str z) = some acc') : acc' = acc ++ z ∧ (acc ++ z).length ≤ sizeLine ∧ z.length ≤ sizeLine := by
  have h' : (if (sm (acc ++ z).length && sm z.length) = true then some (acc ++ z) else none) = some acc' := h
  split at h'
  · rename_i c
    cases h'
    exact ⟨rfl, sm_le (and_and c).1, sm_le (and_and c).2⟩
  · cases h'
theorem fmt_int {acc acc' : Str} {i : Int} (h : fmtD acc (.int i) = some acc') : acc' = acc ++ toString i ∧ (acc ++ toString i).length ≤ sizeLine ∧ i.natAbs < 2 ^ 64 := by
  have h' : (if i.natAbs < 2 ^ 64 ∧ sm (acc ++ toString i).length = true then some (acc ++ toString i) else none) = some acc' := h
  split at h'
  · rename_i c
    cases h'
    exact ⟨rfl, sm_le c.2, c.1⟩
  · cases h'
theorem fmt_bad {K : KM} {W : WX} {B : Hp} {σ : L2.St} {H : Hp} {Q : Str → Hp → Prop} {P : Prop} {d : Dat} {acc : Str} {f : Str → Res (Str × DEnv)} (h : fmtD acc d = none) (w : wantF K W B σ H Q ((ofO (fmtD acc d)).bind f)) : P := by
  rw [h] at w
  exact (show False from w).elim
theorem fmt_step {K : KM} {W : WX} {B : Hp} {σ : L2.St} {H : Hp} {Q : Str → Hp → Prop} {ρ : DEnv} {ie : IE} {es : IEs} {acc : Str} {ts : List TE} (R : REnv K B σ H ρ) (w : wantF K W B σ H Q ((ev T ie ρ).bind fun (d, _, ρ1) => (ofO (fmtD acc d)).bind fun acc' => evF T es acc' ρ1))
    (k : ∀ acc' ρ1 H1, REnv K B σ H1 ρ1 → wantF K W B σ H1 Q (evF T es acc' ρ1) → tJs ts acc' σ H1 Q) : tJs (tFmt (tUR K W T ie) :: ts) acc σ H Q := by
  refine ⟨ρ, B, R, ?_⟩
  cases h1 : ev T ie ρ with
  | stuck => rw [h1] at w; exact w
  | exc c fs ρ1 => rw [h1] at w; exact w
  | ok a =>
    obtain ⟨d, m, ρ1⟩ := a
    rw [h1] at w
    intro v H1 R1 f1 rv
    have w' : wantF K W B σ H Q ((ofO (fmtD acc d)).bind fun acc' => evF T es acc' ρ1) := w
    cases q : fmtD acc d with
    | none => rw [q] at w'; exact (show False from w').elim
    | some acc' =>
      rw [q] at w'
      have w2 : wantF K W B σ H Q (evF T es acc' ρ1) := w'
      cases d with
      | str z =>
        obtain ⟨q1, q2, q3⟩ := fmt_str q
        subst q1
        have ev1 := (rdb_of R1 rv).str
        subst ev1
        exact .inl ⟨z, rfl, q3, z, rfl, q2, k _ ρ1 H1 R1 (w2.step f1)⟩
      | int i =>
        obtain ⟨q1, q2, q3⟩ := fmt_int q
        subst q1
        have ev1 := (rdb_of R1 rv).int
        subst ev1
        exact .inr ⟨i, rfl, log_small q3, _, rfl, q2, k _ ρ1 H1 R1 (w2.step f1)⟩
      | _ => cases q
end
section
variable (T : Tab) (n : Nat) (hot : Bool) (ea : Option EA)
/-- a piece is sound: as a value, as a test; several -/
def SndV (ie : IE) : Prop := ∀ {X : Cx} {e : Expr} {W : WX}, Good T n hot ea X → TakesF X W → chk X.N hot X.env.scope ie e = true → ∀ ρ, PE X e (tR (X.km ea) W ρ (ev T ie ρ))
def SndT (ie : IE) : Prop := ∀ {X : Cx} {e : Expr} {W : WX}, Good T n hot ea X → TakesF X W → tst ie = true → chk X.N hot X.env.scope ie e = true → ∀ ρ, PT X e (tRT (X.km ea) W ρ (ev T ie ρ))
def SndVs (es : IEs) : Prop := ∀ {X : Cx} {l : List Expr} {W : WX}, Good T n hot ea X → TakesF X W → chks X.N hot X.env.scope es l = true → ∀ ρ, PA X l (tRA (X.km ea) W ρ (evs T es ρ))
def SndK (es : IEs) : Prop := ∀ {X : Cx} {kws : List Keyword} {W : WX}, Good T n hot ea X → TakesF X W → chks X.N hot X.env.scope es (kws.map (·.value)) = true → ∀ ρ, PK X kws (tRA (X.km ea) W ρ (evs T es ρ))
def SndF (es : IEs) : Prop := ∀ {X : Cx} {l : List Expr} {W : WX}, Good T n hot ea X → TakesF X W → chkF X.N hot X.env.scope es l = true →
    ∃ ts, PJ X l ts ∧ ∀ acc ρ B σ H Q, REnv (X.km ea) B σ H ρ → wantF (X.km ea) W B σ H Q (evF T es acc ρ) → tJs ts acc σ H Q
def SndG (es : IEs) : Prop := ∀ {X : Cx} {l : List Expr} {W : WX}, Good T n hot ea X → TakesF X W → chks X.N hot X.env.scope es l = true → ∀ io ρ, PA X l (tRG (X.km ea) W ρ (evArgs T io es ρ))
end
end Ev
set_option Elab.async false
set_option linter.all false
set_option maxRecDepth 100000
set_option maxHeartbeats 8000000
namespace Ev
open PySem PySem.Spec PyProof.Rows L2
section
variable {T : Tab} {n : Nat} {hot : Bool} {ea : Option EA}
theorem snd_var {i : Nat}  : SndV T n hot ea (.var i) := by
  intro X e W g tk c ρ
  refine mk_R (fun {d m ρ'} h => ?_) (fun {cc fs ρ'} h => ?_)
  · simp only [chk] at c
    split at c
    · rename_i x pos
      have c1 := and_and c
      have c2 := and_and c1.1
      have hN : X.N[i]? = some x := of_decide_eq_true c2.1
      refine (pe_var hN (vis_of c2.2) (odd1 c1.2) (odd2 c1.2)).imp fun σ H Q q => ?_
      obtain ⟨B, R, k⟩ := q
      simp only [ev] at h
      split at h
      · rename_i z
        cases h
        obtain ⟨v, h1, h2⟩ := R.val i _ z
        exact ⟨v, h1, k v H R (FrzLe.refl H) h2⟩
      · rename_i z
        cases h
        obtain ⟨p, h1, h2, h3⟩ := R.own i _ z
        exact ⟨.ref p, h1, k _ H R (FrzLe.refl H) ⟨h1, z⟩⟩
      · cases h
    · cases c
  · simp only [ev] at h
    split at h <;> cases h
theorem snd_cst {d0 : Dat}  : SndV T n hot ea (.cst d0) := by
  intro X e W g tk c ρ
  refine mk_R (fun {d m ρ'} h => ?_) (fun {cc fs ρ'} h => ?_)
  · simp only [ev] at h
    cases h
    simp only [chk] at c
    split at c
    · rename_i cc _ _
      cases d0 with
      | non =>
        cases cc <;> first | cases c | skip
        exact pe_non.imp fun σ H Q ⟨B, R, k⟩ => k _ H R (FrzLe.refl H) .non
      | bl b =>
        cases cc <;> first | cases c | skip
        have := eq_of_beq c
        subst this
        exact pe_bl.imp fun σ H Q ⟨B, R, k⟩ => k _ H R (FrzLe.refl H) (.bl _)
      | int i =>
        cases cc <;> first | cases c | skip
        have := eq_of_beq c
        subst this
        exact pe_int.imp fun σ H Q ⟨B, R, k⟩ => k _ H R (FrzLe.refl H) (.int _)
      | str z =>
        cases cc <;> first | cases c | skip
        have := eq_of_beq c
        subst this
        exact pe_str.imp fun σ H Q ⟨B, R, k⟩ => k _ H R (FrzLe.refl H) (.str _)
      | lst _ => cases c
      | tup _ => cases c
      | dic _ => cases c
      | scr _ => cases c
    · cases c
  · simp only [ev] at h
    cases h
theorem snd_glb {x : Str}  : SndV T n hot ea (.glb x) := by
  intro X e W g tk c ρ
  refine mk_R (fun {d m ρ'} h => ?_) (fun {cc fs ρ'} h => ?_)
  · simp only [ev] at h
    obtain ⟨d', h1, h2⟩ := Res.bind_ok h
    cases h2
    have h3 := ofO_ok h1
    simp only [chk] at c
    split at c
    · have c1 := and_and c
      have c2 := and_and c1.1
      have e1 := of_decide_eq_true c2.1
      subst e1
      obtain ⟨u, v, g1, g2, g3⟩ := g.mod.con x d h3
      exact (pe_glob (glo_of c2.2) g1 g2 (odd1 c1.2)).imp fun σ H Q ⟨B, R, k⟩ => k _ H R (FrzLe.refl H) (g3 ea H)
    · cases c
  · simp only [ev] at h
    obtain ⟨_, _, z⟩ := ofO_bx h
    cases z
theorem snd_tup {es : IEs} (h_es : SndVs T n hot ea es) : SndV T n hot ea (.tup es) := by
  intro X e W g tk c ρ
  refine mk_R (fun {d m ρ'} h => ?_) (fun {cc fs ρ'} h => ?_)
  · simp only [ev] at h
    obtain ⟨⟨ds, ρ1⟩, h1, h2⟩ := Res.bind_ok h
    dsimp only at h2
    split at h2
    · rename_i hz
      cases h2
      simp only [chk] at c
      split at c
      · refine (pe_tup (okA_of (h_es g tk c _) h1)).imp fun σ H Q ⟨B, R, k⟩ => ⟨B, R, fun vs H1 R1 f1 l => ⟨by rw [l.length]; exact sm_le hz, fun p hp => ?_⟩⟩
        exact k _ _ (R1.new hp) (f1.trans (FrzLe.new hp)) (.tup (.inl (.inl upd_same)) (l.mono (FrzLe.new hp)))
      · cases c
    · cases h2
  · simp only [ev] at h
    rcases Res.bind_exc h with h1 | ⟨⟨ds, ρ1⟩, h1, h2⟩
    · simp only [chk] at c
      split at c
      · exact (pe_tup (exA_of (h_es g tk c _) h1)).imp fun σ H Q h => h
      · cases c
    · dsimp only at h2
      split at h2 <;> cases h2
theorem snd_lst {es : IEs} (h_es : SndVs T n hot ea es) : SndV T n hot ea (.lst es) := by
  intro X e W g tk c ρ
  refine mk_R (fun {d m ρ'} h => ?_) (fun {cc fs ρ'} h => ?_)
  · simp only [ev] at h
    obtain ⟨⟨ds, ρ1⟩, h1, h2⟩ := Res.bind_ok h
    dsimp only at h2
    split at h2
    · rename_i hz
      cases h2
      simp only [chk] at c
      split at c
      · refine (pe_lst (okA_of (h_es g tk c _) h1)).imp fun σ H Q ⟨B, R, k⟩ => ⟨B, R, fun vs H1 R1 f1 l => ⟨by rw [l.length]; exact sm_le hz, fun p hp => ?_⟩⟩
        exact k _ _ (R1.new hp) (f1.trans (FrzLe.new hp)) ⟨p, rfl, ⟨vs, ds, rfl, upd_same, l.mono (FrzLe.new hp)⟩, R1.newB hp, R1.newS hp⟩
      · cases c
    · cases h2
  · simp only [ev] at h
    rcases Res.bind_exc h with h1 | ⟨⟨ds, ρ1⟩, h1, h2⟩
    · simp only [chk] at c
      split at c
      · exact (pe_lst (exA_of (h_es g tk c _) h1)).imp fun σ H Q h => h
      · cases c
    · dsimp only at h2
      split at h2 <;> cases h2
theorem snd_dic0   : SndV T n hot ea .dic0 := by
  intro X e W g tk c ρ
  refine mk_R (fun {d m ρ'} h => ?_) (fun {cc fs ρ'} h => ?_)
  · simp only [ev] at h
    cases h
    simp only [chk] at c
    split at c
    · exact pe_dic0
    · cases c
  · simp only [ev] at h
    cases h
theorem snd_dic1 {k : IE} {v : IE} (h_k : SndV T n hot ea k) (h_v : SndV T n hot ea v) : SndV T n hot ea (.dic1 k v) := by
  intro X e W g tk c ρ
  refine mk_R (fun {d m ρ'} h => ?_) (fun {cc fs ρ'} h => ?_)
  · simp only [ev] at h
    obtain ⟨⟨x, m1, ρ1⟩, h1, h2⟩ := Res.bind_ok h
    dsimp only at h2
    split at h2
    · obtain ⟨⟨y, m2, ρ2⟩, h3, h4⟩ := Res.bind_ok h2
      cases h4
      simp only [chk] at c
      split at c
      · have c1 := and_and c
        exact pe_dic1 (ok_of (h_k g tk c1.1 _) h1) (pe_keep (ok_of (h_v g tk c1.2 _) h3))
      · cases c
    · cases h2
  · simp only [ev] at h
    rcases Res.bind_exc h with h1 | ⟨⟨x, m1, ρ1⟩, h1, h2⟩
    · simp only [chk] at c
      split at c
      · have c1 := and_and c
        exact pe_dic1X1 (ex_of (h_k g tk c1.1 _) h1)
      · cases c
    · dsimp only at h2
      split at h2
      · rcases Res.bind_exc h2 with h3 | ⟨⟨y, m2, ρ2⟩, h3, h4⟩
        · simp only [chk] at c
          split at c
          · have c1 := and_and c
            exact pe_dic1X2 (ok_of (h_k g tk c1.1 _) h1) (ex_of (h_v g tk c1.2 _) h3)
          · cases c
        · cases h4
      · cases h2
theorem snd_bin {op : Operator} {a : IE} {b : IE} (h_a : SndV T n hot ea a) (h_b : SndV T n hot ea b) : SndV T n hot ea (.bin op a b) := by
  intro X e W g tk c ρ
  refine mk_R (fun {d m ρ'} h => ?_) (fun {cc fs ρ'} h => ?_)
  · simp only [ev] at h
    obtain ⟨⟨x, m1, ρ1⟩, h1, h2⟩ := Res.bind_ok h
    obtain ⟨⟨y, m2, ρ2⟩, h3, h4⟩ := Res.bind_ok h2
    obtain ⟨x', h5, h6⟩ := Res.bind_ok h4
    obtain ⟨⟨d', k'⟩, h7, h8⟩ := Res.bind_ok h6
    cases h8
    simp only [chk] at c
    split at c
    · have c1 := and_and c
      have c2 := and_and c1.1
      have e1 := of_decide_eq_true c2.1
      subst e1
      obtain ⟨r, hr, hw⟩ := bin_snd (X := X) (ea := ea) (ofO_ok h7)
      exact (pe_op hr (ok_of (h_a g tk c2.2 _) h1) (ok_of (h_b g tk c1.2 _) h3)).imp (tS_two (ofO_ok h5) fun B σ H v w Q R ra rb k => hw B σ _ H v w Q R ra rb k)
    · cases c
  · simp only [chk] at c
    split at c
    · have c1 := and_and c
      have c2 := and_and c1.1
      have e1 := of_decide_eq_true c2.1
      subst e1
      simp only [ev] at h
      rcases Res.bind_exc h with h1 | ⟨⟨x, m1, ρ1⟩, h1, h2⟩
      · exact (pe_op op_no (ex_of (h_a g tk c2.2 _) h1) pe_no).imp fun σ H Q h => h
      · rcases Res.bind_exc h2 with h3 | ⟨⟨y, m2, ρ2⟩, h3, h4⟩
        · exact (pe_op op_no (ok_of (h_a g tk c2.2 _) h1) (ex_of (h_b g tk c1.2 _) h3)).imp fun σ H Q h => tX_then (QQ := fun _ _ => Q) h fun v H1 B R1 rv q => q
        · obtain ⟨_, _, z⟩ := ofO_bx h4
          obtain ⟨_, _, z⟩ := ofO_bx z
          cases z
    · cases c
theorem snd_neg {a : IE} (h_a : SndV T n hot ea a) : SndV T n hot ea (.neg a) := by
  intro X e W g tk c ρ
  refine mk_R (fun {d m ρ'} h => ?_) (fun {cc fs ρ'} h => ?_)
  · simp only [ev] at h
    obtain ⟨⟨x, m1, ρ1⟩, h1, h2⟩ := Res.bind_ok h
    dsimp only at h2
    split at h2
    · cases h2
      simp only [chk] at c
      split at c
      · exact (pe_un un_neg (ok_of (h_a g tk c _) h1)).imp (tS_one fun B σ H v Q R ra k => ⟨_, ra.int, k.val R (.int _)⟩)
      · cases c
    · cases h2
  · simp only [chk] at c
    split at c
    · skip
      simp only [ev] at h
      rcases Res.bind_exc h with h1 | ⟨⟨x, m1, ρ1⟩, h1, h2⟩
      · exact (pe_un un_neg (ex_of (h_a g tk c _) h1)).imp fun σ H Q h => h
      · dsimp only at h2
        split at h2 <;> cases h2
    · cases c
theorem snd_not {a : IE} (h_a : SndV T n hot ea a) : SndV T n hot ea (.not a) := by
  intro X e W g tk c ρ
  refine mk_R (fun {d m ρ'} h => ?_) (fun {cc fs ρ'} h => ?_)
  · simp only [ev] at h
    obtain ⟨⟨x, m1, ρ1⟩, h1, h2⟩ := Res.bind_ok h
    dsimp only at h2
    split at h2
    · cases h2
      simp only [chk] at c
      split at c
      · exact (pe_not (ok_of (h_a g tk c _) h1)).imp (tS_one fun B σ H v Q R ra k => ⟨_, ra.bl, k.val R (.bl _)⟩)
      · cases c
    · cases h2
  · simp only [chk] at c
    split at c
    · skip
      simp only [ev] at h
      rcases Res.bind_exc h with h1 | ⟨⟨x, m1, ρ1⟩, h1, h2⟩
      · exact (pe_not (ex_of (h_a g tk c _) h1)).imp fun σ H Q h => h
      · dsimp only at h2
        split at h2 <;> cases h2
    · cases c
theorem snd_and {a : IE} {b : IE} (h_a : SndV T n hot ea a) (h_b : SndV T n hot ea b) : SndV T n hot ea (.and a b) := by
  intro X e W g tk c ρ
  refine mk_R (fun {d m ρ'} h => ?_) (fun {cc fs ρ'} h => ?_)
  · simp only [ev] at h
    obtain ⟨⟨x, m1, ρ1⟩, h1, h2⟩ := Res.bind_ok h
    have key : ∀ {y : Expr} {pos : Pos} {z : Expr} {r : List Expr}, chk X.N hot X.env.scope a y = true → (∀ {d m ρ'}, ev T b ρ1 = .ok (d, m, ρ') → PE X (.BoolOp .And (z :: r) pos) (tS (X.km ea) ρ1 d m ρ')) → PE X (.BoolOp .And (y :: z :: r) pos) (tS (X.km ea) ρ d m ρ') := by
      intro y pos z r ca hb
      dsimp only at h2
      split at h2
      · refine (pe_and (ok_of (h_a g tk ca _) h1) (hb h2)).imp fun σ H Q ⟨B, R, k⟩ => ⟨B, R, fun v H1 R1 f1 rv => ⟨true, (rdb_of R1 rv).bl, ?_⟩⟩
        refine iteT ?_
        exact ⟨B, R1, fun u H2 R2 f2 ru => k u H2 R2 (f1.trans f2) ru⟩
      · cases h2
        refine (pe_and (ok_of (h_a g tk ca _) h1) (pe_no (e := .BoolOp .And (z :: r) pos))).imp fun σ H Q ⟨B, R, k⟩ => ⟨B, R, fun v H1 R1 f1 rv => ⟨false, (rdb_of R1 rv).bl, ?_⟩⟩
        refine iteF ?_
        exact k _ H1 R1 f1 (.bl false)
      · cases h2
    simp only [chk] at c
    split at c
    · have c1 := and_and c
      exact key c1.1 fun hb => pe_one (ok_of (h_b g tk c1.2 _) hb)
    · have c1 := and_and c
      exact key c1.1 fun hb => ok_of (h_b g tk c1.2 _) hb
    · cases c
  · simp only [ev] at h
    have key : ∀ {y : Expr} {pos : Pos} {z : Expr} {r : List Expr}, chk X.N hot X.env.scope a y = true → (∀ {ρ1 cc fs ρ'}, ev T b ρ1 = .exc cc fs ρ' → PE X (.BoolOp .And (z :: r) pos) (tX (X.km ea) W ρ1 cc fs ρ')) → PE X (.BoolOp .And (y :: z :: r) pos) (tX (X.km ea) W ρ cc fs ρ') := by
      intro y pos z r ca hb
      rcases Res.bind_exc h with h1 | ⟨⟨x, m1, ρ1⟩, h1, h2⟩
      · exact (pe_and (ex_of (h_a g tk ca _) h1) (pe_no (e := .BoolOp .And (z :: r) pos))).imp fun σ H Q h => h
      · dsimp only at h2
        split at h2
        · refine (pe_and (ok_of (h_a g tk ca _) h1) (hb h2)).imp fun σ H Q h => tX_then (QQ := fun _ _ => Q) h fun v H1 B R1 rv q => ⟨true, (rdb_of R1 rv).bl, ?_⟩
          exact iteT q
        · cases h2
        · cases h2
    simp only [chk] at c
    split at c
    · have c1 := and_and c
      exact key c1.1 fun hb => pe_one (ex_of (h_b g tk c1.2 _) hb)
    · have c1 := and_and c
      exact key c1.1 fun hb => ex_of (h_b g tk c1.2 _) hb
    · cases c
theorem snd_or {a : IE} {b : IE} (h_a : SndV T n hot ea a) (h_b : SndV T n hot ea b) : SndV T n hot ea (.or a b) := by
  intro X e W g tk c ρ
  refine mk_R (fun {d m ρ'} h => ?_) (fun {cc fs ρ'} h => ?_)
  · simp only [ev] at h
    obtain ⟨⟨x, m1, ρ1⟩, h1, h2⟩ := Res.bind_ok h
    have key : ∀ {y : Expr} {pos : Pos} {z : Expr} {r : List Expr}, chk X.N hot X.env.scope a y = true → (∀ {d m ρ'}, ev T b ρ1 = .ok (d, m, ρ') → PE X (.BoolOp .Or (z :: r) pos) (tS (X.km ea) ρ1 d m ρ')) → PE X (.BoolOp .Or (y :: z :: r) pos) (tS (X.km ea) ρ d m ρ') := by
      intro y pos z r ca hb
      dsimp only at h2
      split at h2
      · refine (pe_or (ok_of (h_a g tk ca _) h1) (hb h2)).imp fun σ H Q ⟨B, R, k⟩ => ⟨B, R, fun v H1 R1 f1 rv => ⟨false, (rdb_of R1 rv).bl, ?_⟩⟩
        refine iteF ?_
        exact ⟨B, R1, fun u H2 R2 f2 ru => k u H2 R2 (f1.trans f2) ru⟩
      · cases h2
        refine (pe_or (ok_of (h_a g tk ca _) h1) (pe_no (e := .BoolOp .Or (z :: r) pos))).imp fun σ H Q ⟨B, R, k⟩ => ⟨B, R, fun v H1 R1 f1 rv => ⟨true, (rdb_of R1 rv).bl, ?_⟩⟩
        refine iteT ?_
        exact k _ H1 R1 f1 (.bl true)
      · cases h2
    simp only [chk] at c
    split at c
    · have c1 := and_and c
      exact key c1.1 fun hb => pe_one (ok_of (h_b g tk c1.2 _) hb)
    · have c1 := and_and c
      exact key c1.1 fun hb => ok_of (h_b g tk c1.2 _) hb
    · cases c
  · simp only [ev] at h
    have key : ∀ {y : Expr} {pos : Pos} {z : Expr} {r : List Expr}, chk X.N hot X.env.scope a y = true → (∀ {ρ1 cc fs ρ'}, ev T b ρ1 = .exc cc fs ρ' → PE X (.BoolOp .Or (z :: r) pos) (tX (X.km ea) W ρ1 cc fs ρ')) → PE X (.BoolOp .Or (y :: z :: r) pos) (tX (X.km ea) W ρ cc fs ρ') := by
      intro y pos z r ca hb
      rcases Res.bind_exc h with h1 | ⟨⟨x, m1, ρ1⟩, h1, h2⟩
      · exact (pe_or (ex_of (h_a g tk ca _) h1) (pe_no (e := .BoolOp .Or (z :: r) pos))).imp fun σ H Q h => h
      · dsimp only at h2
        split at h2
        · refine (pe_or (ok_of (h_a g tk ca _) h1) (hb h2)).imp fun σ H Q h => tX_then (QQ := fun _ _ => Q) h fun v H1 B R1 rv q => ⟨false, (rdb_of R1 rv).bl, ?_⟩
          exact iteF q
        · cases h2
        · cases h2
    simp only [chk] at c
    split at c
    · have c1 := and_and c
      exact key c1.1 fun hb => pe_one (ex_of (h_b g tk c1.2 _) hb)
    · have c1 := and_and c
      exact key c1.1 fun hb => ex_of (h_b g tk c1.2 _) hb
    · cases c
theorem snd_cmp {op : CmpOp} {a : IE} {b : IE} (h_a : SndV T n hot ea a) (h_b : SndV T n hot ea b) : SndV T n hot ea (.cmp op a b) := by
  intro X e W g tk c ρ
  refine mk_R (fun {d m ρ'} h => ?_) (fun {cc fs ρ'} h => ?_)
  · simp only [ev] at h
    obtain ⟨⟨x, m1, ρ1⟩, h1, h2⟩ := Res.bind_ok h
    obtain ⟨⟨y, m2, ρ2⟩, h3, h4⟩ := Res.bind_ok h2
    obtain ⟨x', h5, h6⟩ := Res.bind_ok h4
    obtain ⟨r', h7, h8⟩ := Res.bind_ok h6
    cases h8
    simp only [chk] at c
    split at c
    · have c1 := and_and c
      have c2 := and_and c1.1
      have c3 := and_and c2.1
      have e1 := of_decide_eq_true c3.1
      subst e1
      obtain ⟨r, hr, hw⟩ := cmp_snd (X := X) (ea := ea) g.hu (ofO_ok h7)
      exact (pe_cmpR hr (ok_of (h_a g tk c2.2 _) h1) (ok_of (h_b g tk c1.2 _) h3) (noSet_marks c3.2)).imp (tS_two (ofO_ok h5) fun B σ H v w Q R ra rb k => hw H v w Q ra rb (k.val R (.bl _)))
    · cases c
  · simp only [chk] at c
    split at c
    · have c1 := and_and c
      have c2 := and_and c1.1
      have c3 := and_and c2.1
      have e1 := of_decide_eq_true c3.1
      subst e1
      simp only [ev] at h
      rcases Res.bind_exc h with h1 | ⟨⟨x, m1, ρ1⟩, h1, h2⟩
      · exact (pe_cmpR cmp_no (ex_of (h_a g tk c2.2 _) h1) pe_no (noSet_marks c3.2)).imp fun σ H Q h => h
      · rcases Res.bind_exc h2 with h3 | ⟨⟨y, m2, ρ2⟩, h3, h4⟩
        · exact (pe_cmpR cmp_no (ok_of (h_a g tk c2.2 _) h1) (ex_of (h_b g tk c1.2 _) h3) (noSet_marks c3.2)).imp fun σ H Q h => tX_then (QQ := fun _ _ => Q) h fun v H1 B R1 rv q => q
        · obtain ⟨_, _, z⟩ := ofO_bx h4
          obtain ⟨_, _, z⟩ := ofO_bx z
          cases z
    · cases c
theorem snd_cmp2 {o : CmpOp} {p : CmpOp} {a : IE} {b : IE} {z : IE} (h_a : SndV T n hot ea a) (h_b : SndV T n hot ea b) (h_z : SndV T n hot ea z) : SndV T n hot ea (.cmp2 o p a b z) := by
  intro X e W g tk c ρ
  refine mk_R (fun {d m ρ'} h => ?_) (fun {cc fs ρ'} h => ?_)
  · simp only [ev] at h
    obtain ⟨⟨x, m1, ρ1⟩, h1, h2⟩ := Res.bind_ok h
    obtain ⟨⟨y, m2, ρ2⟩, h3, h4⟩ := Res.bind_ok h2
    dsimp only at h4
    split at h4
    · obtain ⟨r', h5, h6⟩ := Res.bind_ok h4
      obtain ⟨r, hr, hw⟩ := cmp_snd (X := X) (ea := ea) g.hu (ofO_ok h5)
      simp only [chk] at c
      split at c
      · have c1 := and_and c
        have c2 := and_and c1.1
        have c3 := and_and c2.1
        have c4 := and_and c3.1
        have c5 := and_and c4.1
        have e1 := of_decide_eq_true c5.1
        have e2 := of_decide_eq_true c5.2
        subst e1
        subst e2
        split at h6
        · cases h6
          refine (pe_chain hr cmp_no (ok_of (h_a g tk c3.2 _) h1) (ok_of (h_b g tk c2.2 _) h3) pe_no (noSet_marks2 c4.2)).imp fun σ H Q ⟨B, R, k⟩ => ⟨B, R, fun v H1 R1 f1 rv => ⟨B, R1, fun u H2 R2 f2 ru => ?_⟩⟩
          refine hw H2 v u _ ?_ (rdb_of R2 ru) ⟨false, rfl, ?_⟩
          · have := (rdb_of R1 rv).int
            subst this
            exact .inl (.int _)
          · refine iteF ?_
            exact k _ H2 R2 (f1.trans f2) (.bl false)
        · obtain ⟨⟨w, m3, ρ3⟩, h7, h8⟩ := Res.bind_ok h6
          dsimp only at h8
          split at h8
          · obtain ⟨r2, h9, h10⟩ := Res.bind_ok h8
            cases h10
            obtain ⟨q, hq, hw2⟩ := cmp_snd (X := X) (ea := ea) g.hu (ofO_ok h9)
            refine (pe_chain hr hq (ok_of (h_a g tk c3.2 _) h1) (ok_of (h_b g tk c2.2 _) h3) (ok_of (h_z g tk c1.2 _) h7) (noSet_marks2 c4.2)).imp fun σ H Q ⟨B, R, k⟩ => ⟨B, R, fun v H1 R1 f1 rv => ⟨B, R1, fun u H2 R2 f2 ru => ?_⟩⟩
            have ev1 := (rdb_of R1 rv).int
            have eu1 := (rdb_of R2 ru).int
            subst ev1
            subst eu1
            refine hw H2 _ _ _ (.inl (.int _)) (.inl (.int _)) ⟨true, rfl, ?_⟩
            refine iteT ?_
            exact ⟨B, R2, fun t H3 R3 f3 rt => hw2 H3 _ t _ (.inl (.int _)) (rdb_of R3 rt) (k _ H3 R3 (f1.trans (f2.trans f3)) (.bl _))⟩
          · cases h8
      · cases c
    · cases h4
  · simp only [chk] at c
    split at c
    · have c1 := and_and c
      have c2 := and_and c1.1
      have c3 := and_and c2.1
      have c4 := and_and c3.1
      have c5 := and_and c4.1
      have e1 := of_decide_eq_true c5.1
      have e2 := of_decide_eq_true c5.2
      subst e1
      subst e2
      simp only [ev] at h
      rcases Res.bind_exc h with h1 | ⟨⟨x, m1, ρ1⟩, h1, h2⟩
      · exact (pe_chain cmp_no cmp_no (ex_of (h_a g tk c3.2 _) h1) pe_no pe_no (noSet_marks2 c4.2)).imp fun σ H Q h => h
      · rcases Res.bind_exc h2 with h3 | ⟨⟨y, m2, ρ2⟩, h3, h4⟩
        · exact (pe_chain cmp_no cmp_no (ok_of (h_a g tk c3.2 _) h1) (ex_of (h_b g tk c2.2 _) h3) pe_no (noSet_marks2 c4.2)).imp fun σ H Q h => tX_then (QQ := fun _ _ => Q) h fun v H1 B R1 rv q => q
        · dsimp only at h4
          split at h4
          · obtain ⟨r', h5, h6⟩ := ofO_bx h4
            split at h6
            · cases h6
            · rcases Res.bind_exc h6 with h7 | ⟨⟨w, m3, ρ3⟩, h7, h8⟩
              · obtain ⟨r, hr, hw⟩ := cmp_snd (X := X) (ea := ea) g.hu h5
                refine (pe_chain hr cmp_no (ok_of (h_a g tk c3.2 _) h1) (ok_of (h_b g tk c2.2 _) h3) (ex_of (h_z g tk c1.2 _) h7) (noSet_marks2 c4.2)).imp fun σ H Q ⟨B, R, k⟩ => ⟨B, R, fun v H1 R1 f1 rv => ⟨B, R1, fun u H2 R2 f2 ru => ?_⟩⟩
                have ev1 := (rdb_of R1 rv).int
                have eu1 := (rdb_of R2 ru).int
                subst ev1
                subst eu1
                refine hw H2 _ _ _ (.inl (.int _)) (.inl (.int _)) ⟨true, rfl, ?_⟩
                refine iteT ?_
                exact ⟨B, R2, fun cls d H' R' f' xc => k cls d H' R' (f1.trans (f2.trans f')) xc⟩
              · dsimp only at h8
                split at h8
                · obtain ⟨_, _, z⟩ := ofO_bx h8
                  cases z
                · cases h8
          · cases h4
    · cases c
theorem snd_ite {z : IE} {a : IE} {b : IE} (t_z : SndT T n hot ea z) (h_a : SndV T n hot ea a) (h_b : SndV T n hot ea b) : SndV T n hot ea (.ite z a b) := by
  intro X e W g tk c ρ
  refine mk_R (fun {d m ρ'} h => ?_) (fun {cc fs ρ'} h => ?_)
  · simp only [ev] at h
    obtain ⟨⟨x, m1, ρ1⟩, h1, h2⟩ := Res.bind_ok h
    simp only [chk] at c
    split at c
    · have c1 := and_and c
      have c2 := and_and c1.1
      have c3 := and_and c2.1
      dsimp only at h2
      split at h2
      · refine (pe_ifExp (okT_of (t_z g tk c3.1 c3.2 _) h1) (ok_of (h_a g tk c2.2 _) h2) pe_no).imp fun σ H Q ⟨B, R, k⟩ => ⟨B, R, fun H1 R1 f1 => ?_⟩
        refine iteT ?_
        exact ⟨B, R1, fun u H2 R2 f2 ru => k u H2 R2 (f1.trans f2) ru⟩
      · refine (pe_ifExp (okT_of (t_z g tk c3.1 c3.2 _) h1) pe_no (ok_of (h_b g tk c1.2 _) h2)).imp fun σ H Q ⟨B, R, k⟩ => ⟨B, R, fun H1 R1 f1 => ?_⟩
        refine iteF ?_
        exact ⟨B, R1, fun u H2 R2 f2 ru => k u H2 R2 (f1.trans f2) ru⟩
      · cases h2
    · cases c
  · simp only [ev] at h
    simp only [chk] at c
    split at c
    · have c1 := and_and c
      have c2 := and_and c1.1
      have c3 := and_and c2.1
      rcases Res.bind_exc h with h1 | ⟨⟨x, m1, ρ1⟩, h1, h2⟩
      · exact (pe_ifExp (exT_of (t_z g tk c3.1 c3.2 _) h1) pe_no pe_no).imp fun σ H Q h => h
      · dsimp only at h2
        split at h2
        · refine (pe_ifExp (okT_of (t_z g tk c3.1 c3.2 _) h1) (ex_of (h_a g tk c2.2 _) h2) pe_no).imp fun σ H Q ⟨B, R, k⟩ => ⟨B, R, fun H1 R1 f1 => ?_⟩
          refine iteT ?_
          exact ⟨B, R1, fun cls d H' R' f' xc => k cls d H' R' (f1.trans f') xc⟩
        · refine (pe_ifExp (okT_of (t_z g tk c3.1 c3.2 _) h1) pe_no (ex_of (h_b g tk c1.2 _) h2)).imp fun σ H Q ⟨B, R, k⟩ => ⟨B, R, fun H1 R1 f1 => ?_⟩
          refine iteF ?_
          exact ⟨B, R1, fun cls d H' R' f' xc => k cls d H' R' (f1.trans f') xc⟩
        · cases h2
    · cases c
theorem snd_idx {a : IE} {b : IE} (h_a : SndV T n hot ea a) (h_b : SndV T n hot ea b) : SndV T n hot ea (.idx a b) := by
  intro X e W g tk c ρ
  refine mk_R (fun {d m ρ'} h => ?_) (fun {cc fs ρ'} h => ?_)
  · simp only [ev] at h
    obtain ⟨⟨x, m1, ρ1⟩, h1, h2⟩ := Res.bind_ok h
    obtain ⟨⟨y, m2, ρ2⟩, h3, h4⟩ := Res.bind_ok h2
    obtain ⟨x', h5, h6⟩ := Res.bind_ok h4
    obtain ⟨d', h7, h8⟩ := Res.bind_ok h6
    cases h8
    simp only [chk] at c
    split at c
    · have c1 := and_and c
      have c2 := and_and c1.1
      obtain ⟨r, hr, hw⟩ := idx_snd (X := X) (ea := ea) (ofO_ok h7)
      exact (pe_ix hr (ok_of (h_a g tk c2.2 _) h1) (ok_of (h_b g tk c1.2 _) h3) (plain_ix c2.1)).imp (tS_two (ofO_ok h5) fun B σ H v w Q R ra rb k => hw B σ _ H v w Q R ra rb k)
    · cases c
  · simp only [chk] at c
    split at c
    · have c1 := and_and c
      have c2 := and_and c1.1
      simp only [ev] at h
      rcases Res.bind_exc h with h1 | ⟨⟨x, m1, ρ1⟩, h1, h2⟩
      · exact (pe_ix ix_no (ex_of (h_a g tk c2.2 _) h1) pe_no (plain_ix c2.1)).imp fun σ H Q h => h
      · rcases Res.bind_exc h2 with h3 | ⟨⟨y, m2, ρ2⟩, h3, h4⟩
        · exact (pe_ix ix_no (ok_of (h_a g tk c2.2 _) h1) (ex_of (h_b g tk c1.2 _) h3) (plain_ix c2.1)).imp fun σ H Q h => tX_then (QQ := fun _ _ => Q) h fun v H1 B R1 rv q => q
        · obtain ⟨_, _, z⟩ := ofO_bx h4
          obtain ⟨_, _, z⟩ := ofO_bx z
          cases z
    · cases c
end
end Ev
set_option Elab.async false
set_option linter.all false
set_option maxRecDepth 100000
set_option maxHeartbeats 8000000
namespace Ev
open PySem PySem.Spec PyProof.Rows L2
section
variable {T : Tab} {n : Nat} {hot : Bool} {ea : Option EA}
theorem snd_slcL {a : IE} {b : IE} (h_a : SndV T n hot ea a) (h_b : SndV T n hot ea b) : SndV T n hot ea (.slcL a b) := by
  intro X e W g tk c ρ
  refine mk_R (fun {d m ρ'} h => ?_) (fun {cc fs ρ'} h => ?_)
  · simp only [ev] at h
    obtain ⟨⟨x, m1, ρ1⟩, h1, h2⟩ := Res.bind_ok h
    obtain ⟨⟨y, m2, ρ2⟩, h3, h4⟩ := Res.bind_ok h2
    obtain ⟨x', h5, h6⟩ := Res.bind_ok h4
    dsimp only at h6
    split at h6
    · rename_i i
      obtain ⟨⟨d', k'⟩, h7, h8⟩ := Res.bind_ok h6
      cases h8
      simp only [chk] at c
      split at c
      · have c1 := and_and c
        obtain ⟨r, hr, hw⟩ := slc_snd (X := X) (ea := ea) (ofO_ok h7)
        refine (pe_slice hr (ok_of (h_a g tk c1.1 _) h1) (po_some (ok_of (h_b g tk c1.2 _) h3)) po_none).imp fun σ H Q ⟨B, R, k⟩ => ⟨B, R, fun v H1 R1 f1 rv => ?_⟩
        obtain ⟨B1, R1', le, cr⟩ := carry R1 rv
        refine ⟨B1, R1', fun u H2 R2 f2 ru => ⟨i, (rdb_of R2 ru).int, ?_⟩⟩
        exact hw B σ _ H2 v Q (R2.weak le) (cr H2 _ x' R2 f2 (ofO_ok h5)) fun z H3 R3 f3 rz => k z H3 R3 (f1.trans (f2.trans f3)) rz
      · cases c
    · cases h6
  · simp only [chk] at c
    split at c
    · have c1 := and_and c
      simp only [ev] at h
      rcases Res.bind_exc h with h1 | ⟨⟨x, m1, ρ1⟩, h1, h2⟩
      · exact (pe_slice sl_no (ex_of (h_a g tk c1.1 _) h1) (po_some pe_no) po_none).imp fun σ H Q h => h
      · rcases Res.bind_exc h2 with h3 | ⟨⟨y, m2, ρ2⟩, h3, h4⟩
        · exact (pe_slice sl_no (ok_of (h_a g tk c1.1 _) h1) (po_some (ex_of (h_b g tk c1.2 _) h3)) po_none).imp fun σ H Q h => tX_then (QQ := fun _ _ => Q) h fun v H1 B R1 rv q => q
        · obtain ⟨_, _, z⟩ := ofO_bx h4
          dsimp only at z
          split at z
          · obtain ⟨_, _, z⟩ := ofO_bx z
            cases z
          · cases z
    · cases c
theorem snd_slcR {a : IE} {b : IE} (h_a : SndV T n hot ea a) (h_b : SndV T n hot ea b) : SndV T n hot ea (.slcR a b) := by
  intro X e W g tk c ρ
  refine mk_R (fun {d m ρ'} h => ?_) (fun {cc fs ρ'} h => ?_)
  · simp only [ev] at h
    obtain ⟨⟨x, m1, ρ1⟩, h1, h2⟩ := Res.bind_ok h
    obtain ⟨⟨y, m2, ρ2⟩, h3, h4⟩ := Res.bind_ok h2
    obtain ⟨x', h5, h6⟩ := Res.bind_ok h4
    dsimp only at h6
    split at h6
    · rename_i i
      obtain ⟨⟨d', k'⟩, h7, h8⟩ := Res.bind_ok h6
      cases h8
      simp only [chk] at c
      split at c
      · have c1 := and_and c
        obtain ⟨r, hr, hw⟩ := slc_snd (X := X) (ea := ea) (ofO_ok h7)
        refine (pe_slice hr (ok_of (h_a g tk c1.1 _) h1) po_none (po_some (ok_of (h_b g tk c1.2 _) h3))).imp fun σ H Q ⟨B, R, k⟩ => ⟨B, R, fun v H1 R1 f1 rv => ?_⟩
        obtain ⟨B1, R1', le, cr⟩ := carry R1 rv
        refine ⟨B1, R1', fun u H2 R2 f2 ru => ⟨i, (rdb_of R2 ru).int, ?_⟩⟩
        exact hw B σ _ H2 v Q (R2.weak le) (cr H2 _ x' R2 f2 (ofO_ok h5)) fun z H3 R3 f3 rz => k z H3 R3 (f1.trans (f2.trans f3)) rz
      · cases c
    · cases h6
  · simp only [chk] at c
    split at c
    · have c1 := and_and c
      simp only [ev] at h
      rcases Res.bind_exc h with h1 | ⟨⟨x, m1, ρ1⟩, h1, h2⟩
      · exact (pe_slice sl_no (ex_of (h_a g tk c1.1 _) h1) po_none (po_some pe_no)).imp fun σ H Q h => h
      · rcases Res.bind_exc h2 with h3 | ⟨⟨y, m2, ρ2⟩, h3, h4⟩
        · exact (pe_slice sl_no (ok_of (h_a g tk c1.1 _) h1) po_none (po_some (ex_of (h_b g tk c1.2 _) h3))).imp fun σ H Q h => tX_then (QQ := fun _ _ => Q) h fun v H1 B R1 rv q => q
        · obtain ⟨_, _, z⟩ := ofO_bx h4
          dsimp only at z
          split at z
          · obtain ⟨_, _, z⟩ := ofO_bx z
            cases z
          · cases z
    · cases c
theorem snd_call {f : Str} {as : IEs} (g_as : SndG T n hot ea as) : SndV T n hot ea (.call f as) := by
  intro X e W g tk c ρ
  refine mk_R (fun {d m ρ'} h => ?_) (fun {cc fs ρ'} h => ?_)
  · simp only [ev] at h
    split at h
    · cases h
    · rename_i fi hf
      obtain ⟨⟨got, ρ1⟩, h1, h2⟩ := Res.bind_ok h
      simp only [chk] at c
      split at c
      · have c1 := and_and c
        have c2 := and_and c1.1
        have c3 := and_and c2.1
        have c4 := not_hot c3.1
        have e1 := of_decide_eq_true c4.2
        subst e1
        have e0 := g.ea0 c4.1
        subst e0
        obtain ⟨a, fd, ps, k, hk, g1, g2, g3, g4, _⟩ := g.mod.fns f fi hf
        obtain ⟨L, fm⟩ := g.frm
        have st := chks_star c1.2
        refine (pe_callG g4 ((g.room c4.1).mono hk) g.grd takesF_never ⟨L, fm.fr⟩ (glo_of c3.2) g1 g2 g3 (okG_of (g_as g tk c1.2 _ _) h1) (odd1 c2.2) (star_cons (st _ List.mem_cons_self)) (star_none fun e he => st e (List.mem_cons_of_mem _ he))).imp fun σ H Q ⟨B, R, k⟩ => ⟨B, R, fun vs H1 R1 f1 l => ?_⟩
        exact call_ok (fun hl => args_shape h1 hl) R1 l h2 fun v H' R2 f2 rv => k v H' R2 (f1.trans f2) rv
      · cases c
  · simp only [ev] at h
    split at h
    · cases h
    · rename_i fi hf
      simp only [chk] at c
      split at c
      · have c1 := and_and c
        have c2 := and_and c1.1
        have c3 := and_and c2.1
        have c4 := not_hot c3.1
        have e1 := of_decide_eq_true c4.2
        subst e1
        have e0 := g.ea0 c4.1
        subst e0
        obtain ⟨a, fd, ps, k, hk, g1, g2, g3, g4, _⟩ := g.mod.fns f fi hf
        obtain ⟨L, fm⟩ := g.frm
        have st := chks_star c1.2
        rcases Res.bind_exc h with h1 | ⟨⟨got, ρ1⟩, h1, h2⟩
        · exact (pe_callG g4 ((g.room c4.1).mono hk) g.grd takesF_never ⟨L, fm.fr⟩ (glo_of c3.2) g1 g2 g3 (exG_of (g_as g tk c1.2 _ _) h1) (odd1 c2.2) (star_cons (st _ List.mem_cons_self)) (star_none fun e he => st e (List.mem_cons_of_mem _ he))).imp fun σ H Q h => h
        · refine (pe_callG g4 ((g.room c4.1).mono hk) g.grd tk ⟨L, fm.fr⟩ (glo_of c3.2) g1 g2 g3 (okG_of (g_as g tk c1.2 _ _) h1) (odd1 c2.2) (star_cons (st _ List.mem_cons_self)) (star_none fun e he => st e (List.mem_cons_of_mem _ he))).imp fun σ H Q ⟨B, R, k⟩ => ⟨B, R, fun vs H1 R1 f1 l => ?_⟩
          exact call_ex (fun hl => args_shape h1 hl) R1 l h2 fun cls d H' R2 f2 xc => k cls d H' R2 (f1.trans f2) xc
      · cases c
theorem snd_bi {b : BI} {as : IEs} (h1as : ∀ a r, as = .cons a r → SndV T n hot ea a) (h2as : ∀ a b2 r, as = .cons a (.cons b2 r) → SndV T n hot ea b2) : SndV T n hot ea (.bi b as) := by
  intro X e W g tk c ρ
  refine mk_R (fun {d m ρ'} h => ?_) (fun {cc fs ρ'} h => ?_)
  · simp only [chk] at c
    split at c
    · have c1 := and_and c
      have c2 := and_and c1.1
      have c3 := and_and c2.1
      have e1 := of_decide_eq_true c3.2
      subst e1
      have st := chks_star c1.2
      have cs := c1.2
      have cold : b.cold = true → X.calm = true := fun z => g.calm (by
        have := c3.1
        rw [z] at this
        cases hot <;> simp_all)
      cases as with
      | nil => simp only [ev] at h; cases h
      | cons a as =>
        cases as with
        | nil =>
          simp only [ev] at h
          obtain ⟨⟨x, m1, ρ1⟩, h1, h2⟩ := Res.bind_ok h
          obtain ⟨⟨d', k'⟩, h3, h4⟩ := Res.bind_ok h2
          cases h4
          obtain ⟨r, hr, hw⟩ := bi_snd (X := X) (ea := ea) cold g.grd g.hu (ofO_ok h3)
          simp only [chks] at cs
          have cs1 := and_and cs
          have cs2 := and_and cs1.1
          split at cs1
          · refine (bi_call (g := b.name) hr (glo_of c2.2) (g.mod.bt b) (pa_cons (ok_of ((h1as _ _ rfl) g tk cs2.2 _) h1) pa_nil (star_cons cs2.1)) st).imp (tS_one fun B σ H v Q R ra k => ?_)
            exact hw B σ _ H [v] Q R (.cons ra .nil) k
          · cases cs1.2
        | cons b2 as =>
          cases as with
          | nil =>
            simp only [ev] at h
            obtain ⟨⟨x, m1, ρ1⟩, h1, h2⟩ := Res.bind_ok h
            obtain ⟨⟨y, m2, ρ2⟩, h3, h4⟩ := Res.bind_ok h2
            obtain ⟨x', h5, h6⟩ := Res.bind_ok h4
            obtain ⟨⟨d', k'⟩, h7, h8⟩ := Res.bind_ok h6
            cases h8
            obtain ⟨r, hr, hw⟩ := bi_snd (X := X) (ea := ea) cold g.grd g.hu (ofO_ok h7)
            simp only [chks] at cs
            have cs1 := and_and cs
            have cs2 := and_and cs1.1
            split at cs1
            · have cs3 := and_and cs1.2
              have cs4 := and_and cs3.1
              split at cs3
              · refine (bi_call (g := b.name) hr (glo_of c2.2) (g.mod.bt b) (pa_cons (ok_of ((h1as _ _ rfl) g tk cs2.2 _) h1) (pa_cons (ok_of ((h2as _ _ _ rfl) g tk cs4.2 _) h3) pa_nil (star_cons cs4.1)) (star_cons cs2.1)) st).imp fun σ H Q q => ?_
                exact tS_two (r := fun v w H Q => r [v, w] H Q) (ofO_ok h5) (fun B σ H v w Q R ra rb k => hw B σ _ H [v, w] Q R (.cons ra (.cons rb .nil)) k) σ H Q q
              · cases cs3.2
            · cases cs1.2
          | cons _ _ => simp only [ev] at h; cases h
    · cases c
  · simp only [chk] at c
    split at c
    · have c1 := and_and c
      have c2 := and_and c1.1
      have c3 := and_and c2.1
      have e1 := of_decide_eq_true c3.2
      subst e1
      have st := chks_star c1.2
      have cs := c1.2
      cases as with
      | nil => simp only [ev] at h; cases h
      | cons a as =>
        cases as with
        | nil =>
          simp only [ev] at h
          rcases Res.bind_exc h with h1 | ⟨⟨x, m1, ρ1⟩, h1, h2⟩
          · simp only [chks] at cs
            have cs1 := and_and cs
            have cs2 := and_and cs1.1
            split at cs1
            · exact (bi_call (g := b.name) call_no (glo_of c2.2) (g.mod.bt b) (pa_cons (ex_of ((h1as _ _ rfl) g tk cs2.2 _) h1) pa_nil (star_cons cs2.1)) st).imp fun σ H Q h => h
            · cases cs1.2
          · obtain ⟨_, _, z⟩ := ofO_bx h2
            cases z
        | cons b2 as =>
          cases as with
          | nil =>
            simp only [chks] at cs
            have cs1 := and_and cs
            have cs2 := and_and cs1.1
            split at cs1
            · have cs3 := and_and cs1.2
              have cs4 := and_and cs3.1
              split at cs3
              · simp only [ev] at h
                rcases Res.bind_exc h with h1 | ⟨⟨x, m1, ρ1⟩, h1, h2⟩
                · exact (bi_call (g := b.name) call_no (glo_of c2.2) (g.mod.bt b) (pa_cons (ex_of ((h1as _ _ rfl) g tk cs2.2 _) h1) (pa_cons pe_no pa_nil (star_cons cs4.1)) (star_cons cs2.1)) st).imp fun σ H Q h => h
                · rcases Res.bind_exc h2 with h3 | ⟨⟨y, m2, ρ2⟩, h3, h4⟩
                  · exact (bi_call (g := b.name) call_no (glo_of c2.2) (g.mod.bt b) (pa_cons (ok_of ((h1as _ _ rfl) g tk cs2.2 _) h1) (pa_cons (ex_of ((h2as _ _ _ rfl) g tk cs4.2 _) h3) pa_nil (star_cons cs4.1)) (star_cons cs2.1)) st).imp fun σ H Q h => tX_then (QQ := fun _ _ => Q) h fun v H1 B R1 rv q => q
                  · obtain ⟨_, _, z⟩ := ofO_bx h4
                    obtain ⟨_, _, z⟩ := ofO_bx z
                    cases z
              · cases cs3.2
            · cases cs1.2
          | cons _ _ => simp only [ev] at h; cases h
    · cases c
theorem snd_isi {a : IE} {ty : String} (h_a : SndV T n hot ea a) : SndV T n hot ea (.isi a ty) := by
  intro X e W g tk c ρ
  refine mk_R (fun {d m ρ'} h => ?_) (fun {cc fs ρ'} h => ?_)
  · simp only [ev] at h
    obtain ⟨⟨x, m1, ρ1⟩, h1, h2⟩ := Res.bind_ok h
    obtain ⟨b, h3, h4⟩ := Res.bind_ok h2
    cases h4
    have hi := ofO_ok h3
    have ht := (isa_is hi).1
    obtain ⟨t1, t2, t3⟩ := ty_boot ht
    simp only [chk] at c
    split at c
    · have c1 := and_and c
      have c2 := and_and c1.1
      have c3 := and_and c2.1
      have c4 := and_and c3.1
      have c5 := and_and c4.1
      have e1 := of_decide_eq_true c5.1
      have e2 := of_decide_eq_true c4.2
      subst e1
      subst e2
      refine (pe_callB (call_isiR (ea := ea) hi) (glo_of c5.2) g.mod.isi PyProof.Rows.boot_isinstance (pa_cons (ok_of (h_a g tk c1.2 _) h1) (pa_cons (pe_bltn (v := .ty ty) (glo_of c3.2) (g.mod.tys ty ht) t1 rfl t2 t3) pa_nil) (star_cons c2.2)) (by decide) (by decide) (star_cons c2.2) rfl).imp
        (tS_one fun B σ H v Q R ra k => ⟨v, rfl, ra, k.val R (.bl _)⟩)
    · cases c
  · simp only [chk] at c
    split at c
    · have c1 := and_and c
      have c2 := and_and c1.1
      have c3 := and_and c2.1
      have c4 := and_and c3.1
      have c5 := and_and c4.1
      have e1 := of_decide_eq_true c5.1
      subst e1
      simp only [ev] at h
      rcases Res.bind_exc h with h1 | ⟨⟨x, m1, ρ1⟩, h1, h2⟩
      · exact (pe_callB call_no (glo_of c5.2) g.mod.isi PyProof.Rows.boot_isinstance (pa_cons (ex_of (h_a g tk c1.2 _) h1) (pa_cons pe_no pa_nil) (star_cons c2.2)) (by decide) (by decide) (star_cons c2.2) rfl).imp fun σ H Q h => h
      · obtain ⟨_, _, z⟩ := ofO_bx h2
        cases z
    · cases c
theorem snd_upper {o : IE} (h_o : SndV T n hot ea o) : SndV T n hot ea (.upper o) := by
  intro X e W g tk c ρ
  refine mk_R (fun {d m ρ'} h => ?_) (fun {cc fs ρ'} h => ?_)
  · simp only [ev] at h
    obtain ⟨⟨x, m1, ρ1⟩, h1, h2⟩ := Res.bind_ok h
    dsimp only at h2
    split at h2
    · rename_i s
      split at h2
      · rename_i hz
        cases h2
        simp only [chk] at c
        split at c
        · have c1 := and_and c
          have c2 := and_and c1.1
          have c3 := and_and c2.1
          have e1 := of_decide_eq_true c3.1
          subst e1
          refine (pe_upper (ok_of (h_o g tk c1.2 _) h1) (plain_o c3.2) c2.2).imp fun σ H Q ⟨B, R, k⟩ => ⟨B, R, fun v H1 R1 f1 rv => ?_⟩
          have ev1 := (rdb_of R1 rv).str
          subst ev1
          exact ⟨⟨s, rfl⟩, s, rfl, rfl, Nat.le_trans (of_decide_eq_true hz) (by decide), k _ H1 R1 f1 (.str _)⟩
        · cases c
      · cases h2
    · cases h2
  · simp only [chk] at c
    split at c
    · have c1 := and_and c
      have c2 := and_and c1.1
      have c3 := and_and c2.1
      have e1 := of_decide_eq_true c3.1
      subst e1
      simp only [ev] at h
      rcases Res.bind_exc h with h1 | ⟨⟨x, m1, ρ1⟩, h1, h2⟩
      · exact (pe_upper (ex_of (h_o g tk c1.2 _) h1) (plain_o c3.2) c2.2).imp fun σ H Q h => h
      · dsimp only at h2
        split at h2
        · split at h2 <;> cases h2
        · cases h2
    · cases c
theorem snd_join {o : IE} {a : IE} (h_o : SndV T n hot ea o) (h_a : SndV T n hot ea a) : SndV T n hot ea (.join o a) := by
  intro X e W g tk c ρ
  simp only [chk] at c
  split at c
  · have c1 := and_and c
    have c2 := and_and c1.1
    have c3 := and_and c2.1
    have c4 := and_and c3.1
    have c5 := and_and c4.1
    have e1 := of_decide_eq_true c5.1
    subst e1
    refine mk_R (fun {d m ρ'} h => ?_) (fun {cc fs ρ'} h => ?_)
    · simp only [ev] at h
      obtain ⟨⟨x, m1, ρ1⟩, h1, h2⟩ := Res.bind_ok h
      cases x with
      | str s =>
        obtain ⟨⟨y, m2, ρ2⟩, h3, h4⟩ := Res.bind_ok h2
        dsimp only at h4
        split at h4
        · rename_i ys
          obtain ⟨zs, h5, h6⟩ := Res.bind_ok h4
          split at h6
          · rename_i hz
            cases h6
            refine (pe_join (ok_of (h_o g tk c2.2 _) h1) (ok_of (h_a g tk c1.2 _) h3) (star_cons c3.2) (plain_o c5.2) c4.2).imp fun σ H Q ⟨B, R, k⟩ => ⟨B, R, fun v H1 R1 f1 rv => ?_⟩
            have ev1 := (rdb_of R1 rv).str
            subst ev1
            refine ⟨⟨s, rfl⟩, B, R1, fun u H2 R2 f2 ru => ?_⟩
            obtain ⟨p, vs, rfl, hp, l⟩ := (rdb_of R2 ru).lst
            rw [strs_is (ofO_ok h5) l] at hp
            exact ⟨s, p, zs, rfl, rfl, .inl hp, Nat.le_trans (of_decide_eq_true hz) (by decide), k _ H2 R2 (f1.trans f2) (.str _)⟩
          · cases h6
        · cases h4
      | _ => cases h2
    · simp only [ev] at h
      rcases Res.bind_exc h with h1 | ⟨⟨x, m1, ρ1⟩, h1, h2⟩
      · exact (pe_join (ex_of (h_o g tk c2.2 _) h1) pe_no (star_cons c3.2) (plain_o c5.2) c4.2).imp fun σ H Q h => h
      · cases x with
        | str s =>
          rcases Res.bind_exc h2 with h3 | ⟨⟨y, m2, ρ2⟩, h3, h4⟩
          · refine (pe_join (ok_of (h_o g tk c2.2 _) h1) (ex_of (h_a g tk c1.2 _) h3) (star_cons c3.2) (plain_o c5.2) c4.2).imp fun σ H Q h => tX_then (QQ := fun _ _ => Q) h fun v H1 B R1 rv q => ?_
            have ev1 := (rdb_of R1 rv).str
            subst ev1
            exact ⟨⟨s, rfl⟩, q⟩
          · exfalso
            dsimp only at h4
            split at h4
            · obtain ⟨_, _, z⟩ := ofO_bx h4
              split at z <;> cases z
            · cases h4
        | _ => cases h2
  · cases c
theorem snd_split {o : IE} {a : IE} (h_o : SndV T n hot ea o) (h_a : SndV T n hot ea a) : SndV T n hot ea (.split o a) := by
  intro X e W g tk c ρ
  simp only [chk] at c
  split at c
  · have c1 := and_and c
    have c2 := and_and c1.1
    have c3 := and_and c2.1
    have c4 := and_and c3.1
    have c5 := and_and c4.1
    have e1 := of_decide_eq_true c5.1
    subst e1
    refine mk_R (fun {d m ρ'} h => ?_) (fun {cc fs ρ'} h => ?_)
    · simp only [ev] at h
      obtain ⟨⟨x, m1, ρ1⟩, h1, h2⟩ := Res.bind_ok h
      cases x with
      | str s =>
        obtain ⟨⟨y, m2, ρ2⟩, h3, h4⟩ := Res.bind_ok h2
        dsimp only at h4
        split at h4
        · rename_i t
          split at h4
          · rename_i hz
            have hz' := and_and hz
            cases h4
            refine (pe_split (ok_of (h_o g tk c2.2 _) h1) (ok_of (h_a g tk c1.2 _) h3) (star_cons c3.2) (plain_o c5.2) c4.2).imp fun σ H Q ⟨B, R, k⟩ => ⟨B, R, fun v H1 R1 f1 rv => ?_⟩
            have ev1 := (rdb_of R1 rv).str
            subst ev1
            refine ⟨⟨s, rfl⟩, B, R1, fun u H2 R2 f2 ru => ?_⟩
            have ev2 := (rdb_of R2 ru).str
            subst ev2
            refine ⟨s, t, rfl, rfl, by simpa using hz'.2, ?_, fun p hp => ?_⟩
            · have : s.length ≤ 100000 := of_decide_eq_true hz'.1
              have h9 : (100002 : Nat) ≤ sizeLine := by decide
              omega
            · refine k _ _ (R2.new hp) (f1.trans (f2.trans (FrzLe.new hp))) ⟨p, rfl, ⟨_, _, rfl, upd_same, ?_⟩, R2.newB hp, R2.newS hp⟩
              exact (strs_isL _)
          · cases h4
        · cases h4
      | _ => cases h2
    · simp only [ev] at h
      rcases Res.bind_exc h with h1 | ⟨⟨x, m1, ρ1⟩, h1, h2⟩
      · exact (pe_split (ex_of (h_o g tk c2.2 _) h1) pe_no (star_cons c3.2) (plain_o c5.2) c4.2).imp fun σ H Q h => h
      · cases x with
        | str s =>
          rcases Res.bind_exc h2 with h3 | ⟨⟨y, m2, ρ2⟩, h3, h4⟩
          · refine (pe_split (ok_of (h_o g tk c2.2 _) h1) (ex_of (h_a g tk c1.2 _) h3) (star_cons c3.2) (plain_o c5.2) c4.2).imp fun σ H Q h => tX_then (QQ := fun _ _ => Q) h fun v H1 B R1 rv q => ?_
            have ev1 := (rdb_of R1 rv).str
            subst ev1
            exact ⟨⟨s, rfl⟩, q⟩
          · exfalso
            dsimp only at h4
            split at h4
            · split at h4 <;> cases h4
            · cases h4
        | _ => cases h2
  · cases c
theorem snd_lc {elt : IE} {tg : Nat} {it : IE} {own : List (Str × Nat)} (h_elt : SndV T n hot ea elt) (h_it : SndV T n hot ea it) : SndV T n hot ea (.lc elt tg it own) := by
  intro X e W g tk c ρ
  have c0 := c
  simp only [chk] at c0
  split at c0
  · rename_i y0 x0 p0 i0 scope p1
    have c1 := and_and c0
    have c2 := and_and c1.1
    have c3 := and_and c2.1
    have c4 := and_and c3.1
    have c5 := and_and c4.1
    have c6 := and_and c5.1
    have c7 := not_hot c6.1
    obtain ⟨L, fm⟩ := g.frm
    have pe' : ∀ (σ : L2.St) (s : Shared) (H : Hp) (C : Addr) (cl : List (Str × Addr)) (fp : List Addr) (xe : Value → Shared → Prop), TakesF (X.blkX s H scope (compEnvC scope cl C X.env) fp xe) (wIn W σ) → PE (X.blkX s H scope (compEnvC scope cl C X.env) fp xe) y0 (tUK (X.km ea) (wIn W σ) T elt) := fun σ s H C cl fp xe tk' => pe_UK (X := X.blkX s H scope (compEnvC scope cl C X.env) fp xe) fun ρ' => keep_of (X := X.blkX s H scope (compEnvC scope cl C X.env) fp xe) (h_elt (g.blk c7.1 s H scope cl C fp xe) tk' c1.2 ρ')
    have z := lc_mk (ea := ea) (p0 := p0) (one := oneOf (ev T elt) tg (own.map (·.2))) (tt := fun _ => tYes) (te := fun σ => tUK (X.km ea) (wIn W σ) T elt) g.nd c6.2 (of_decide_eq_true c5.2) c3.2 c7.2 (keep_of (h_it g tk c2.2 ρ)) (fun σ => step_lc) (fun σ s H C cl fp xe tk' => pts_nil) pe'
    simp only [ev]
    exact pe_lcP (g.calm c7.1) g.nd tk fm z
  · cases c0
theorem snd_lcI {elt : IE} {tg : Nat} {it : IE} {cond : IE} {own : List (Str × Nat)} (h_elt : SndV T n hot ea elt) (h_it : SndV T n hot ea it) (t_cond : SndT T n hot ea cond) : SndV T n hot ea (.lcI elt tg it cond own) := by
  intro X e W g tk c ρ
  have c' := c
  simp only [chk] at c'
  split at c'
  · rename_i y0 x0 p0 i0 cc0 scope p1
    have c0 := and_and c'
    have c1 := and_and c0.1
    have c2 := and_and c1.1
    have c3 := and_and c2.1
    have c4 := and_and c3.1
    have c5 := and_and c4.1
    have c6 := and_and c5.1
    have c7 := and_and c6.1
    have c8 := not_hot c7.1
    obtain ⟨L, fm⟩ := g.frm
    have pe' : ∀ (σ : L2.St) (s : Shared) (H : Hp) (C : Addr) (cl : List (Str × Addr)) (fp : List Addr) (xe : Value → Shared → Prop), TakesF (X.blkX s H scope (compEnvC scope cl C X.env) fp xe) (wIn W σ) → PE (X.blkX s H scope (compEnvC scope cl C X.env) fp xe) y0 (tUK (X.km ea) (wIn W σ) T elt) := fun σ s H C cl fp xe tk' => pe_UK (X := X.blkX s H scope (compEnvC scope cl C X.env) fp xe) fun ρ' => keep_of (X := X.blkX s H scope (compEnvC scope cl C X.env) fp xe) (h_elt (g.blk c8.1 s H scope cl C fp xe) tk' c1.2 ρ')
    have pt' : ∀ (σ : L2.St) (s : Shared) (H : Hp) (C : Addr) (cl : List (Str × Addr)) (fp : List Addr) (xe : Value → Shared → Prop), TakesF (X.blkX s H scope (compEnvC scope cl C X.env) fp xe) (wIn W σ) → PTs (X.blkX s H scope (compEnvC scope cl C X.env) fp xe) [cc0] (tUT (X.km ea) (wIn W σ) T cond) := fun σ s H C cl fp xe tk' => pts_one (pt_U (X := X.blkX s H scope (compEnvC scope cl C X.env) fp xe) fun ρ' => t_cond (g.blk c8.1 s H scope cl C fp xe) tk' c8.2 c0.2 ρ')
    have z := lc_mk (ea := ea) (p0 := p0) (one := oneIf (ev T cond) (ev T elt) tg (own.map (·.2))) (tt := fun σ => tUT (X.km ea) (wIn W σ) T cond) (te := fun σ => tUK (X.km ea) (wIn W σ) T elt) g.nd c6.2 (of_decide_eq_true c5.2) c3.2 c7.2 (keep_of (h_it g tk c2.2 ρ)) (fun σ => step_lcI) pt' pe'
    simp only [ev]
    exact pe_lcP (g.calm c8.1) g.nd tk fm z
  · cases c'
theorem snd_lcR {elt : IE} {tg : Nat} {a : IE} {own : List (Str × Nat)} (h_elt : SndV T n hot ea elt) (h_a : SndV T n hot ea a) : SndV T n hot ea (.lcR elt tg a own) := by
  intro X e W g tk c ρ
  have c0 := c
  simp only [chk] at c0
  split at c0
  · rename_i y0 x0 p0 r0 p2 i0 p3 scope p1
    have c1 := and_and c0
    have c2 := and_and c1.1
    have c3 := and_and c2.1
    have c4 := and_and c3.1
    have c5 := and_and c4.1
    have c6 := and_and c5.1
    have c7 := and_and c6.1
    have c8 := and_and c7.1
    have c9 := not_hot c8.1
    have e1 := of_decide_eq_true c9.2
    subst e1
    obtain ⟨L, fm⟩ := g.frm
    have pe' : ∀ (σ : L2.St) (s : Shared) (H : Hp) (C : Addr) (cl : List (Str × Addr)) (fp : List Addr) (xe : Value → Shared → Prop), TakesF (X.blkX s H scope (compEnvC scope cl C X.env) fp xe) (wIn W σ) → PE (X.blkX s H scope (compEnvC scope cl C X.env) fp xe) y0 (tUK (X.km ea) (wIn W σ) T elt) := fun σ s H C cl fp xe tk' => pe_UK (X := X.blkX s H scope (compEnvC scope cl C X.env) fp xe) fun ρ' => keep_of (X := X.blkX s H scope (compEnvC scope cl C X.env) fp xe) (h_elt (g.blk c9.1 s H scope cl C fp xe) tk' c1.2 ρ')
    have z := lc_mkR (ea := ea) (p0 := p0) (p2 := p2) (p3 := p3) (one := oneOf (ev T elt) tg (own.map (·.2))) (tt := fun _ => tYes) (te := fun σ => tUK (X.km ea) (wIn W σ) T elt) g.nd c6.2 (of_decide_eq_true c5.2) c3.2 (glo_of c8.2) g.mod.rng c7.2 (h_a g tk c2.2 ρ) (fun σ => step_lc) (fun σ s H C cl fp xe tk' => pts_nil) pe'
    simp only [ev]
    exact pe_lcP (g.calm c9.1) g.nd tk fm z
  · cases c0
theorem snd_fst {es : IEs} (f_es : SndF T n hot ea es) : SndV T n hot ea (.fst es) := by
  intro X e W g tk c ρ
  simp only [chk] at c
  split at c
  · obtain ⟨ts, h1, h2⟩ := f_es g tk c
    refine (pe_joined h1).imp fun σ H Q ⟨B, R, w⟩ => ?_
    refine h2 Str.empty ρ B σ H _ R ?_
    simp only [ev] at w
    cases q : evF T es Str.empty ρ with
    | ok a =>
      rw [q] at w
      exact fun H' R' f' => w _ H' R' f' (.str _)
    | exc c fs ρ' => rw [q] at w; exact w
    | stuck => rw [q] at w; exact w
  · cases c
theorem snd_isN {b : Bool} {a : IE} (h_a : SndV T n hot ea a) : SndV T n hot ea (.isN b a) := by
  intro X e W g tk c ρ
  simp only [chk] at c
  split at c
  · have c1 := and_and c
    have e1 : b = true := c1.1
    subst e1
    refine mk_R (fun {d m ρ'} h => ?_) (fun {cc fs ρ'} h => ?_)
    · simp only [ev] at h
      obtain ⟨⟨x, m1, ρ1⟩, h1, h2⟩ := Res.bind_ok h
      cases h2
      refine (pe_cmpR op_isN (ok_of (h_a g tk c1.2 _) h1) pe_non (noSet_marks rfl)).imp fun σ H Q ⟨B, R, k⟩ => ⟨B, R, fun v H1 R1 f1 rv => ⟨rfl, ?_⟩⟩
      rw [isNon_of (rdb_of R1 rv)]
      exact k _ H1 R1 f1 (.bl _)
    · simp only [ev] at h
      rcases Res.bind_exc h with h1 | ⟨⟨x, m1, ρ1⟩, h1, h2⟩
      · exact (pe_cmpR cmp_no (ex_of (h_a g tk c1.2 _) h1) pe_no (noSet_marks rfl)).imp fun σ H Q h => h
      · cases h2
  · have c1 := and_and c
    have e1 : b = false := by simpa using c1.1
    subst e1
    refine mk_R (fun {d m ρ'} h => ?_) (fun {cc fs ρ'} h => ?_)
    · simp only [ev] at h
      obtain ⟨⟨x, m1, ρ1⟩, h1, h2⟩ := Res.bind_ok h
      cases h2
      refine (pe_cmpR op_notN (ok_of (h_a g tk c1.2 _) h1) pe_non (noSet_marks rfl)).imp fun σ H Q ⟨B, R, k⟩ => ⟨B, R, fun v H1 R1 f1 rv => ⟨rfl, ?_⟩⟩
      rw [isNon_of (rdb_of R1 rv)]
      exact k _ H1 R1 f1 (.bl _)
    · simp only [ev] at h
      rcases Res.bind_exc h with h1 | ⟨⟨x, m1, ρ1⟩, h1, h2⟩
      · exact (pe_cmpR cmp_no (ex_of (h_a g tk c1.2 _) h1) pe_no (noSet_marks rfl)).imp fun σ H Q h => h
      · cases h2
  · cases c
theorem snd_isE {i : Nat} {cs : List Str}  : SndV T n hot ea (.isE i cs) := by
  intro X e W g tk c ρ
  simp only [chk] at c
  split at c
  · have c1 := and_and c
    have c2 := and_and c1.1
    have c3 := and_and c2.1
    have c4 := and_and c3.1
    have c5 := and_and c4.1
    have c6 := and_and c5.1
    have c7 := and_and c6.1
    have e1 := of_decide_eq_true c7.1
    have e2 := of_decide_eq_true c3.2
    subst e1
    subst e2
    refine mk_R (fun {d m ρ'} h => ?_) (fun {cc fs ρ'} h => ?_)
    · simp only [ev] at h
      split at h
      · rename_i c0 fs0 hr
        obtain ⟨b, h1, h2⟩ := Res.bind_ok h
        cases h2
        exact pe_isE g (of_decide_eq_true c6.2) (vis_of c5.2) c4.2 (glo_of c7.2) (glo_of c2.2) c1.2 hr (ofO_ok h1)
      · cases h
    · simp only [ev] at h
      split at h
      · obtain ⟨_, _, z⟩ := ofO_bx h
        cases z
      · cases h
  · cases c
theorem snd_fldE {i : Nat} {f : Str}  : SndV T n hot ea (.fldE i f) := by
  intro X e W g tk c ρ
  simp only [chk] at c
  split at c
  · have c1 := and_and c
    have c2 := and_and c1.1
    have c3 := and_and c2.1
    have e1 := of_decide_eq_true c3.1
    subst e1
    refine mk_R (fun {d m ρ'} h => ?_) (fun {cc fs ρ'} h => ?_)
    · simp only [ev] at h
      split at h
      · rename_i c0 fs0 hr
        split at h
        · rename_i hc
          obtain ⟨b, h1, h2⟩ := Res.bind_ok h
          cases h2
          exact pe_fldE g (of_decide_eq_true c3.2) (vis_of c2.2) c1.2 hr hc (ofO_ok h1)
        · cases h
      · cases h
    · simp only [ev] at h
      split at h
      · split at h
        · obtain ⟨_, _, z⟩ := ofO_bx h
          cases z
        · cases h
      · cases h
  · cases c
theorem snd_callK {f : Str} {ks : List Str} {as : IEs} (k_as : SndK T n hot ea as) : SndV T n hot ea (.callK f ks as) := by
  intro X e W g tk c ρ
  simp only [chk] at c
  split at c
  · have c1 := and_and c
    have c2 := and_and c1.1
    have c3 := and_and c2.1
    have c4 := and_and c3.1
    have c5 := not_hot c4.1
    have e1 := of_decide_eq_true c5.2
    subst e1
    have e0 := g.ea0 c5.1
    subst e0
    simp only [ev]
    split
    · exact pe_stuck
    · rename_i fi hf
      split
      · rename_i hkw
        obtain ⟨a, fd, ps, k, hk, g1, g2, g3, g4, g5⟩ := g.mod.fns f fi hf
        obtain ⟨rfl, hb⟩ := g5 ks hkw.1
        obtain ⟨L, fm⟩ := g.frm
        refine (pe_callGK g4 ((g.room c5.1).mono hk) g.grd tk ⟨L, fm.fr⟩ (glo_of c4.2) g1 g2 hb (k_as g tk c1.2 ρ) (of_decide_eq_true c2.2) (odd1 c3.2)).imp fun σ H Q ⟨B, R, w⟩ => ⟨B, R, ?_⟩
        cases q : evs T as ρ with
        | ok a =>
          obtain ⟨ds, ρ1⟩ := a
          rw [q] at w
          intro vs H1 R1 f1 l
          have w' : wantC (X.km none) W B σ H Q (callD fi (ds.map .val) ρ1) := w
          cases q2 : callD fi (ds.map .val) ρ1 with
          | ok a =>
            rw [q2] at w'
            exact call_ok (fun hl => shape_vals hkw.2 (by simpa using hl)) R1 (got_vals l) q2 fun v H' R2 f2 rv => w' v H' R2 (f1.trans f2) rv
          | exc c fs ρ2 =>
            rw [q2] at w'
            exact call_ex (fun hl => shape_vals hkw.2 (by simpa using hl)) R1 (got_vals l) q2 fun cls d H' R2 f2 xc => w' cls d H' R2 (f1.trans f2) xc
          | stuck => rw [q2] at w'; exact (show False from w').elim
        | exc c fs ρ1 => rw [q] at w; exact w
        | stuck => rw [q] at w; exact w
      · exact pe_stuck
  · cases c
end
end Ev
set_option Elab.async false
set_option linter.all false
set_option maxRecDepth 100000
set_option maxHeartbeats 8000000
namespace Ev
open PySem PySem.Spec PyProof.Rows L2
section
variable {T : Tab} {n : Nat} {hot : Bool} {ea : Option EA}
theorem sndT_not {a : IE} (t_a : SndT T n hot ea a) : SndT T n hot ea (.not a) := by
  intro X e W g tk t c ρ
  refine mk_RT (fun {b m ρ'} h => ?_) (fun {cc fs ρ'} h => ?_)
  · simp only [ev] at h
    obtain ⟨⟨x, m1, ρ1⟩, h1, h2⟩ := Res.bind_ok h
    dsimp only at h2
    split at h2
    · cases h2
      simp only [chk] at c
      split at c
      · exact (pt_not (okT_of (t_a g tk t c _) h1)).imp fun σ H Q ⟨B, R, k⟩ => ⟨B, R, fun H1 R1 f1 => k H1 R1 f1⟩
      · cases c
    · cases h2
  · simp only [ev] at h
    simp only [chk] at c
    split at c
    · rcases Res.bind_exc h with h1 | ⟨⟨x, m1, ρ1⟩, h1, h2⟩
      · exact (pt_not (exT_of (t_a g tk t c _) h1)).imp fun σ H Q h => h
      · dsimp only at h2
        split at h2 <;> cases h2
    · cases c
theorem sndT_and {a : IE} {b0 : IE} (t_a : SndT T n hot ea a) (t_b0 : SndT T n hot ea b0) : SndT T n hot ea (.and a b0) := by
  intro X e W g tk t c ρ
  refine mk_RT (fun {b m ρ'} h => ?_) (fun {cc fs ρ'} h => ?_)
  · simp only [ev] at h
    obtain ⟨⟨x, m1, ρ1⟩, h1, h2⟩ := Res.bind_ok h
    have t' := and_and (show (tst a && tst b0) = true from t)
    have key : ∀ {y : Expr} {pos : Pos} {z : Expr} {r : List Expr}, chk X.N hot X.env.scope a y = true → (∀ {b m ρ'}, ev T b0 ρ1 = .ok (.bl b, m, ρ') → PW X (.BoolOp .And (z :: r) pos) (tST (X.km ea) ρ1 b ρ')) → PW X (.BoolOp .And (y :: z :: r) pos) (tST (X.km ea) ρ b ρ') := by
      intro y pos z r ca hb
      dsimp only at h2
      split at h2
      · refine pw_imp (pw_and (okT_of (t_a g tk t'.1 ca _) h1) (hb h2)) fun σ H Q ⟨B, R, k⟩ => ⟨B, R, fun H1 R1 f1 => ?_⟩
        refine iteT ?_
        exact ⟨B, R1, fun H2 R2 f2 => k H2 R2 (f1.trans f2)⟩
      · cases h2
        refine pw_imp (pw_and (okT_of (t_a g tk t'.1 ca _) h1) (pw_no (e := .BoolOp .And (z :: r) pos))) fun σ H Q ⟨B, R, k⟩ => ⟨B, R, fun H1 R1 f1 => ?_⟩
        refine iteF ?_
        exact k H1 R1 f1
      · cases h2
    simp only [chk] at c
    split at c
    · have c1 := and_and c
      exact (key c1.1 fun hb => pw_and1 (okT_of (t_b0 g tk t'.2 c1.2 _) hb)).pt
    · rename_i x0 y0 z0 r0 p0
      have c1 := and_and c
      exact (key c1.1 fun hb => pw_bool (okT_of (t_b0 g tk t'.2 c1.2 _) hb)).pt
    · cases c
  · simp only [ev] at h
    have t' := and_and (show (tst a && tst b0) = true from t)
    have key : ∀ {y : Expr} {pos : Pos} {z : Expr} {r : List Expr}, chk X.N hot X.env.scope a y = true → (∀ {ρ1 cc fs ρ'}, ev T b0 ρ1 = .exc cc fs ρ' → PW X (.BoolOp .And (z :: r) pos) (tXT (X.km ea) W ρ1 cc fs ρ')) → PW X (.BoolOp .And (y :: z :: r) pos) (tXT (X.km ea) W ρ cc fs ρ') := by
      intro y pos z r ca hb
      rcases Res.bind_exc h with h1 | ⟨⟨x, m1, ρ1⟩, h1, h2⟩
      · exact pw_imp (pw_and (exT_of (t_a g tk t'.1 ca _) h1) (pw_no (e := .BoolOp .And (z :: r) pos))) fun σ H Q h => h
      · dsimp only at h2
        split at h2
        · refine pw_imp (pw_and (okT_of (t_a g tk t'.1 ca _) h1) (hb h2)) fun σ H Q ⟨B, R, k⟩ => ⟨B, R, fun H1 R1 f1 => ?_⟩
          refine iteT ?_
          exact ⟨B, R1, fun cls d H' R' f' xc => k cls d H' R' (f1.trans f') xc⟩
        · cases h2
        · cases h2
    simp only [chk] at c
    split at c
    · have c1 := and_and c
      exact (key c1.1 fun hb => pw_and1 (exT_of (t_b0 g tk t'.2 c1.2 _) hb)).pt
    · have c1 := and_and c
      exact (key c1.1 fun hb => pw_bool (exT_of (t_b0 g tk t'.2 c1.2 _) hb)).pt
    · cases c
theorem sndT_or {a : IE} {b0 : IE} (t_a : SndT T n hot ea a) (t_b0 : SndT T n hot ea b0) : SndT T n hot ea (.or a b0) := by
  intro X e W g tk t c ρ
  refine mk_RT (fun {b m ρ'} h => ?_) (fun {cc fs ρ'} h => ?_)
  · simp only [ev] at h
    obtain ⟨⟨x, m1, ρ1⟩, h1, h2⟩ := Res.bind_ok h
    have t' := and_and (show (tst a && tst b0) = true from t)
    have key : ∀ {y : Expr} {pos : Pos} {z : Expr} {r : List Expr}, chk X.N hot X.env.scope a y = true → (∀ {b m ρ'}, ev T b0 ρ1 = .ok (.bl b, m, ρ') → PW X (.BoolOp .Or (z :: r) pos) (tST (X.km ea) ρ1 b ρ')) → PW X (.BoolOp .Or (y :: z :: r) pos) (tST (X.km ea) ρ b ρ') := by
      intro y pos z r ca hb
      dsimp only at h2
      split at h2
      · refine pw_imp (pw_or (okT_of (t_a g tk t'.1 ca _) h1) (hb h2)) fun σ H Q ⟨B, R, k⟩ => ⟨B, R, fun H1 R1 f1 => ?_⟩
        refine iteF ?_
        exact ⟨B, R1, fun H2 R2 f2 => k H2 R2 (f1.trans f2)⟩
      · cases h2
        refine pw_imp (pw_or (okT_of (t_a g tk t'.1 ca _) h1) (pw_no (e := .BoolOp .Or (z :: r) pos))) fun σ H Q ⟨B, R, k⟩ => ⟨B, R, fun H1 R1 f1 => ?_⟩
        refine iteT ?_
        exact k H1 R1 f1
      · cases h2
    simp only [chk] at c
    split at c
    · have c1 := and_and c
      exact (key c1.1 fun hb => pw_or1 (okT_of (t_b0 g tk t'.2 c1.2 _) hb)).pt
    · have c1 := and_and c
      exact (key c1.1 fun hb => pw_bool (okT_of (t_b0 g tk t'.2 c1.2 _) hb)).pt
    · cases c
  · simp only [ev] at h
    have t' := and_and (show (tst a && tst b0) = true from t)
    have key : ∀ {y : Expr} {pos : Pos} {z : Expr} {r : List Expr}, chk X.N hot X.env.scope a y = true → (∀ {ρ1 cc fs ρ'}, ev T b0 ρ1 = .exc cc fs ρ' → PW X (.BoolOp .Or (z :: r) pos) (tXT (X.km ea) W ρ1 cc fs ρ')) → PW X (.BoolOp .Or (y :: z :: r) pos) (tXT (X.km ea) W ρ cc fs ρ') := by
      intro y pos z r ca hb
      rcases Res.bind_exc h with h1 | ⟨⟨x, m1, ρ1⟩, h1, h2⟩
      · exact pw_imp (pw_or (exT_of (t_a g tk t'.1 ca _) h1) (pw_no (e := .BoolOp .Or (z :: r) pos))) fun σ H Q h => h
      · dsimp only at h2
        split at h2
        · refine pw_imp (pw_or (okT_of (t_a g tk t'.1 ca _) h1) (hb h2)) fun σ H Q ⟨B, R, k⟩ => ⟨B, R, fun H1 R1 f1 => ?_⟩
          refine iteF ?_
          exact ⟨B, R1, fun cls d H' R' f' xc => k cls d H' R' (f1.trans f') xc⟩
        · cases h2
        · cases h2
    simp only [chk] at c
    split at c
    · have c1 := and_and c
      exact (key c1.1 fun hb => pw_or1 (exT_of (t_b0 g tk t'.2 c1.2 _) hb)).pt
    · have c1 := and_and c
      exact (key c1.1 fun hb => pw_bool (exT_of (t_b0 g tk t'.2 c1.2 _) hb)).pt
    · cases c
theorem sndT_cmp {op : CmpOp} {a : IE} {b0 : IE} (h_a : SndV T n hot ea a) (h_b0 : SndV T n hot ea b0) : SndT T n hot ea (.cmp op a b0) := by
  intro X e W g tk t c ρ
  refine mk_RT (fun {b m ρ'} h => ?_) (fun {cc fs ρ'} h => ?_)
  · simp only [ev] at h
    obtain ⟨⟨x, m1, ρ1⟩, h1, h2⟩ := Res.bind_ok h
    obtain ⟨⟨y, m2, ρ2⟩, h3, h4⟩ := Res.bind_ok h2
    obtain ⟨x', h5, h6⟩ := Res.bind_ok h4
    obtain ⟨r', h7, h8⟩ := Res.bind_ok h6
    cases h8
    simp only [chk] at c
    split at c
    · have c1 := and_and c
      have c2 := and_and c1.1
      have c3 := and_and c2.1
      have e1 := of_decide_eq_true c3.1
      subst e1
      obtain ⟨r, hr, hw⟩ := cmp_snd (X := X) (ea := ea) g.hu (ofO_ok h7)
      refine (pt_cmpR hr (ok_of (h_a g tk c2.2 _) h1) (ok_of (h_b0 g tk c1.2 _) h3) (noSet_marks c3.2)).imp fun σ H Q ⟨B, R, k⟩ => ?_
      refine tS_two (d := .bl b) (l := .frz) (ofO_ok h5) (fun B σ H v w Q R ra rb k => hw H v w Q ra rb (k.val R (.bl _))) σ H _ ⟨B, R, fun v H1 R1 f1 rv => ?_⟩
      exact ⟨b, (rdb_of R1 rv).bl, k H1 R1 f1⟩
    · cases c
  · simp only [chk] at c
    split at c
    · have c1 := and_and c
      have c2 := and_and c1.1
      have c3 := and_and c2.1
      have e1 := of_decide_eq_true c3.1
      subst e1
      simp only [ev] at h
      rcases Res.bind_exc h with h1 | ⟨⟨x, m1, ρ1⟩, h1, h2⟩
      · exact (pt_cmpR cmp_no (ex_of (h_a g tk c2.2 _) h1) pe_no (noSet_marks c3.2)).imp fun σ H Q h => h
      · rcases Res.bind_exc h2 with h3 | ⟨⟨y, m2, ρ2⟩, h3, h4⟩
        · exact (pt_cmpR cmp_no (ok_of (h_a g tk c2.2 _) h1) (ex_of (h_b0 g tk c1.2 _) h3) (noSet_marks c3.2)).imp fun σ H Q h => tX_then (QQ := fun _ _ _ _ => False) (Q := fun _ _ => False) h fun v H1 B R1 rv q => q
        · obtain ⟨_, _, z⟩ := ofO_bx h4
          obtain ⟨_, _, z⟩ := ofO_bx z
          cases z
    · cases c
theorem sndT_cmp2 {o : CmpOp} {p : CmpOp} {a : IE} {b0 : IE} {z : IE} (h_a : SndV T n hot ea a) (h_b0 : SndV T n hot ea b0) (h_z : SndV T n hot ea z) : SndT T n hot ea (.cmp2 o p a b0 z) := by
  intro X e W g tk t c ρ
  refine mk_RT (fun {b m ρ'} h => ?_) (fun {cc fs ρ'} h => ?_)
  · simp only [ev] at h
    obtain ⟨⟨x, m1, ρ1⟩, h1, h2⟩ := Res.bind_ok h
    obtain ⟨⟨y, m2, ρ2⟩, h3, h4⟩ := Res.bind_ok h2
    dsimp only at h4
    split at h4
    · obtain ⟨r', h5, h6⟩ := Res.bind_ok h4
      obtain ⟨r, hr, hw⟩ := cmp_snd (X := X) (ea := ea) g.hu (ofO_ok h5)
      simp only [chk] at c
      split at c
      · have c1 := and_and c
        have c2 := and_and c1.1
        have c3 := and_and c2.1
        have c4 := and_and c3.1
        have c5 := and_and c4.1
        have e1 := of_decide_eq_true c5.1
        have e2 := of_decide_eq_true c5.2
        subst e1
        subst e2
        split at h6
        · cases h6
          refine (pt_chain hr cmp_no (ok_of (h_a g tk c3.2 _) h1) (ok_of (h_b0 g tk c2.2 _) h3) pe_no (noSet_marks2 c4.2)).imp fun σ H Q ⟨B, R, k⟩ => ⟨B, R, fun v H1 R1 f1 rv => ⟨B, R1, fun u H2 R2 f2 ru => ?_⟩⟩
          refine hw H2 v u _ ?_ (rdb_of R2 ru) ⟨false, rfl, ?_⟩
          · have := (rdb_of R1 rv).int
            subst this
            exact .inl (.int _)
          · refine iteF ?_
            exact ⟨false, rfl, k H2 R2 (f1.trans f2)⟩
        · obtain ⟨⟨w, m3, ρ3⟩, h7, h8⟩ := Res.bind_ok h6
          dsimp only at h8
          split at h8
          · obtain ⟨r2, h9, h10⟩ := Res.bind_ok h8
            cases h10
            obtain ⟨q, hq, hw2⟩ := cmp_snd (X := X) (ea := ea) g.hu (ofO_ok h9)
            refine (pt_chain hr hq (ok_of (h_a g tk c3.2 _) h1) (ok_of (h_b0 g tk c2.2 _) h3) (ok_of (h_z g tk c1.2 _) h7) (noSet_marks2 c4.2)).imp fun σ H Q ⟨B, R, k⟩ => ⟨B, R, fun v H1 R1 f1 rv => ⟨B, R1, fun u H2 R2 f2 ru => ?_⟩⟩
            have ev1 := (rdb_of R1 rv).int
            have eu1 := (rdb_of R2 ru).int
            subst ev1
            subst eu1
            refine hw H2 _ _ _ (.inl (.int _)) (.inl (.int _)) ⟨true, rfl, ?_⟩
            refine iteT ?_
            exact ⟨B, R2, fun t H3 R3 f3 rt => hw2 H3 _ t _ (.inl (.int _)) (rdb_of R3 rt) ⟨_, rfl, k H3 R3 (f1.trans (f2.trans f3))⟩⟩
          · cases h8
      · cases c
    · cases h4
  · simp only [chk] at c
    split at c
    · have c1 := and_and c
      have c2 := and_and c1.1
      have c3 := and_and c2.1
      have c4 := and_and c3.1
      have c5 := and_and c4.1
      have e1 := of_decide_eq_true c5.1
      have e2 := of_decide_eq_true c5.2
      subst e1
      subst e2
      simp only [ev] at h
      rcases Res.bind_exc h with h1 | ⟨⟨x, m1, ρ1⟩, h1, h2⟩
      · exact (pt_chain cmp_no cmp_no (ex_of (h_a g tk c3.2 _) h1) pe_no pe_no (noSet_marks2 c4.2)).imp fun σ H Q h => h
      · rcases Res.bind_exc h2 with h3 | ⟨⟨y, m2, ρ2⟩, h3, h4⟩
        · exact (pt_chain cmp_no cmp_no (ok_of (h_a g tk c3.2 _) h1) (ex_of (h_b0 g tk c2.2 _) h3) pe_no (noSet_marks2 c4.2)).imp fun σ H Q h => tX_then (QQ := fun _ _ _ _ => False) (Q := fun _ _ => False) h fun v H1 B R1 rv q => q
        · dsimp only at h4
          split at h4
          · obtain ⟨r', h5, h6⟩ := ofO_bx h4
            split at h6
            · cases h6
            · rcases Res.bind_exc h6 with h7 | ⟨⟨w, m3, ρ3⟩, h7, h8⟩
              · obtain ⟨r, hr, hw⟩ := cmp_snd (X := X) (ea := ea) g.hu h5
                refine (pt_chain hr cmp_no (ok_of (h_a g tk c3.2 _) h1) (ok_of (h_b0 g tk c2.2 _) h3) (ex_of (h_z g tk c1.2 _) h7) (noSet_marks2 c4.2)).imp fun σ H Q ⟨B, R, k⟩ => ⟨B, R, fun v H1 R1 f1 rv => ⟨B, R1, fun u H2 R2 f2 ru => ?_⟩⟩
                have ev1 := (rdb_of R1 rv).int
                have eu1 := (rdb_of R2 ru).int
                subst ev1
                subst eu1
                refine hw H2 _ _ _ (.inl (.int _)) (.inl (.int _)) ⟨true, rfl, ?_⟩
                refine iteT ?_
                exact ⟨B, R2, fun cls d H' R' f' xc => k cls d H' R' (f1.trans (f2.trans f')) xc⟩
              · dsimp only at h8
                split at h8
                · obtain ⟨_, _, z⟩ := ofO_bx h8
                  cases z
                · cases h8
          · cases h4
    · cases c
theorem sndT_isN {b : Bool} {a : IE} (h_a : SndV T n hot ea a) : SndT T n hot ea (.isN b a) := by
  intro X e W g tk t c ρ
  simp only [chk] at c
  split at c
  · have c1 := and_and c
    have e1 : b = true := c1.1
    subst e1
    refine mk_RT (fun {b m ρ'} h => ?_) (fun {cc fs ρ'} h => ?_)
    · simp only [ev] at h
      obtain ⟨⟨x, m1, ρ1⟩, h1, h2⟩ := Res.bind_ok h
      cases h2
      refine (pt_cmpR op_isN (ok_of (h_a g tk c1.2 _) h1) pe_non (noSet_marks rfl)).imp fun σ H Q ⟨B, R, k⟩ => ⟨B, R, fun v H1 R1 f1 rv => ⟨rfl, _, rfl, ?_⟩⟩
      rw [isNon_of (rdb_of R1 rv)]
      exact k H1 R1 f1
    · simp only [ev] at h
      rcases Res.bind_exc h with h1 | ⟨⟨x, m1, ρ1⟩, h1, h2⟩
      · exact (pt_cmpR cmp_no (ex_of (h_a g tk c1.2 _) h1) pe_no (noSet_marks rfl)).imp fun σ H Q h => h
      · cases h2
  · have c1 := and_and c
    have e1 : b = false := by simpa using c1.1
    subst e1
    refine mk_RT (fun {b m ρ'} h => ?_) (fun {cc fs ρ'} h => ?_)
    · simp only [ev] at h
      obtain ⟨⟨x, m1, ρ1⟩, h1, h2⟩ := Res.bind_ok h
      cases h2
      refine (pt_cmpR op_notN (ok_of (h_a g tk c1.2 _) h1) pe_non (noSet_marks rfl)).imp fun σ H Q ⟨B, R, k⟩ => ⟨B, R, fun v H1 R1 f1 rv => ⟨rfl, _, rfl, ?_⟩⟩
      rw [isNon_of (rdb_of R1 rv)]
      exact k H1 R1 f1
    · simp only [ev] at h
      rcases Res.bind_exc h with h1 | ⟨⟨x, m1, ρ1⟩, h1, h2⟩
      · exact (pt_cmpR cmp_no (ex_of (h_a g tk c1.2 _) h1) pe_no (noSet_marks rfl)).imp fun σ H Q h => h
      · cases h2
  · cases c
theorem snds_nil : SndVs T n hot ea .nil := by
  intro X l W g tk c ρ
  simp only [chks] at c
  split at c
  · simp only [evs]
    exact pa_nil.imp fun σ H Q ⟨B, R, k⟩ => k _ H R (FrzLe.refl H) .nil
  · cases c
theorem snds_cons {e : IE} {es : IEs} (h_e : SndV T n hot ea e) (h_es : SndVs T n hot ea es) : SndVs T n hot ea (.cons e es) := by
  intro X l W g tk c ρ
  simp only [chks] at c
  split at c
  · have c1 := and_and c
    have c2 := and_and c1.1
    simp only [evs]
    refine mk_A (fun {ds ρ'} h => ?_) (fun {cc fs ρ'} h => ?_)
    · obtain ⟨⟨x, m1, ρ1⟩, h1, h2⟩ := Res.bind_ok h
      obtain ⟨⟨ys, ρ2⟩, h3, h4⟩ := Res.bind_ok h2
      cases h4
      refine (pa_cons (pe_keep (ok_of (h_e g tk c2.2 _) h1)) (okA_of (h_es g tk c1.2 _) h3) (star_cons c2.1)).imp fun σ H Q ⟨B, R, k⟩ => ⟨B, R, fun v H1 R1 f1 rv => ⟨B, R1, fun vs H2 R2 f2 l => ?_⟩⟩
      exact k _ H2 R2 (f1.trans f2) (.cons (Is.mono f2 rv) l)
    · rcases Res.bind_exc h with h1 | ⟨⟨x, m1, ρ1⟩, h1, h2⟩
      · exact (pa_cons (ex_of (h_e g tk c2.2 _) h1) pa_no (star_cons c2.1)).imp fun σ H Q h => h
      · rcases Res.bind_exc h2 with h3 | ⟨⟨ys, ρ2⟩, h3, h4⟩
        · exact (pa_cons (pe_keep (ok_of (h_e g tk c2.2 _) h1)) (exA_of (h_es g tk c1.2 _) h3) (star_cons c2.1)).imp fun σ H Q ⟨B, R, k⟩ => ⟨B, R, fun v H1 R1 f1 rv => ⟨B, R1, fun cls d H' R' f' xc => k cls d H' R' (f1.trans f') xc⟩⟩
        · cases h4
  · cases c
theorem sndK_nil : SndK T n hot ea .nil := by
  intro X kws W g tk c ρ
  cases kws with
  | nil =>
    simp only [evs]
    exact ⟨fun pos pins s σ H Q I ⟨B, R, k⟩ => pk_nil.run pos pins s σ H Q I (k _ H R (FrzLe.refl H) .nil)⟩
  | cons k r => simp [chks] at c
theorem sndK_cons {e : IE} {es : IEs} (h_e : SndV T n hot ea e) (k_es : SndK T n hot ea es) : SndK T n hot ea (.cons e es) := by
  intro X kws W g tk c ρ
  cases kws with
  | nil => simp [chks] at c
  | cons k r =>
    obtain ⟨nm, e', kp⟩ := k
    have c0 : (noStar e' && chk X.N hot X.env.scope e e' && chks X.N hot X.env.scope es (r.map (·.value))) = true := by
      have := c
      simp only [List.map_cons, chks] at this
      exact this
    have c1 := and_and c0
    have c2 := and_and c1.1
    simp only [evs]
    refine ⟨fun pos pins s σ H Q I ⟨B, R, w⟩ => ?_⟩
    cases h1 : ev T e ρ with
    | stuck => rw [h1] at w; exact (show False from w).elim
    | exc cc fs ρ1 =>
      rw [h1] at w
      exact (pk_cons (kpos := kp) (nm := nm) (ex_of (h_e g tk c2.2 _) h1) (kws := r) (pk_no)).run pos pins s σ H Q I ⟨B, R, w⟩
    | ok a =>
      obtain ⟨x, m1, ρ1⟩ := a
      rw [h1] at w
      refine (pk_cons (kpos := kp) (nm := nm) (pe_keep (ok_of (h_e g tk c2.2 _) h1)) (k_es g tk c1.2 (keep m1 ρ1 x))).run pos pins s σ H Q I ⟨B, R, fun v H1 R1 f1 rv => ⟨B, R1, ?_⟩⟩
      have w' : wantA (X.km ea) W B σ H Q ((evs T es (keep m1 ρ1 x)).bind fun (ds, ρ2) => .ok (x :: ds, ρ2)) := w
      cases h3 : evs T es (keep m1 ρ1 x) with
      | stuck => rw [h3] at w'; exact w'
      | exc cc fs ρ2 =>
        rw [h3] at w'
        exact fun cls d H' R' f' xc => w' cls d H' R' (f1.trans f') xc
      | ok a =>
        rw [h3] at w'
        exact fun vs H2 R2 f2 l => w' _ H2 R2 (f1.trans f2) (.cons (Is.mono f2 rv) l)
theorem sndF_nil : SndF T n hot ea .nil := by
  intro X l W g tk c
  simp only [chkF] at c
  split at c
  · refine ⟨[], .nil, fun acc ρ B σ H Q R w => ?_⟩
    simp only [evF] at w
    exact w H R (FrzLe.refl H)
  · cases c
theorem sndF_cons {e : IE} {es : IEs} (h_e : SndV T n hot ea e) (f_es : SndF T n hot ea es) : SndF T n hot ea (.cons e es) := by
  intro X l W g tk c
  simp only [chkF] at c
  split at c
  · rename_i x0 p0 r0
    have c1 := and_and c
    obtain ⟨ts, t1, t2⟩ := f_es g tk c1.2
    refine ⟨_, .cons (pe_fmt (pe_UR fun ρ => h_e g tk c1.1 ρ)) t1, fun acc ρ B σ H Q R w => ?_⟩
    simp only [evF] at w
    exact fmt_step R w fun acc' ρ1 H1 R1 w1 => t2 acc' ρ1 B σ H1 Q R1 w1
  · rename_i z k0 p0 r0
    have c1 := and_and c
    have ee := isS_of c1.1
    subst ee
    obtain ⟨ts, t1, t2⟩ := f_es g tk c1.2
    refine ⟨_, .cons pe_str t1, fun acc ρ B σ H Q R w => ?_⟩
    simp only [evF, ev] at w
    have w' : wantF (X.km ea) W B σ H Q ((ofO (fmtD acc (.str z))).bind fun acc' => evF T es acc' ρ) := w
    cases q : fmtD acc (.str z) with
    | none => rw [q] at w'; exact (show False from w').elim
    | some acc' =>
      rw [q] at w'
      obtain ⟨q1, q2, q3⟩ := fmt_str q
      subst q1
      exact ⟨z, rfl, q2, t2 _ ρ B σ H Q R w'⟩
  · cases c
theorem sndG_nil : SndG T n hot ea .nil := by
  intro X l W g tk c io ρ
  simp only [chks] at c
  split at c
  · simp only [evArgs]
    exact pa_nil.imp fun σ H Q ⟨B, R, k⟩ => k _ H R (FrzLe.refl H) trivial
  · cases c
theorem sndG_cons {e : IE} {es : IEs} (h_e : SndV T n hot ea e) (g_es : SndG T n hot ea es) : SndG T n hot ea (.cons e es) := by
  intro X l W g tk c io ρ
  refine mk_G (fun {gt ρ'} h => ?_) (fun {cc fs ρ'} h => ?_)
  · simp only [chks] at c
    split at c
    · have c1 := and_and c
      have c2 := and_and c1.1
      cases io with
      | nil => simp only [evArgs] at h; cases h
      | cons b io =>
        cases b with
        | false =>
          simp only [evArgs] at h
          obtain ⟨⟨x, m1, ρ1⟩, h1, h2⟩ := Res.bind_ok h
          obtain ⟨⟨ys, ρ2⟩, h3, h4⟩ := Res.bind_ok h2
          cases h4
          refine (pa_cons (pe_keep (ok_of (h_e g tk c2.2 _) h1)) (okG_of (g_es g tk c1.2 _ _) h3) (star_cons c2.1)).imp fun σ H Q ⟨B, R, k⟩ => ⟨B, R, fun v H1 R1 f1 rv => ⟨B, R1, fun vs H2 R2 f2 l => ?_⟩⟩
          exact k _ H2 R2 (f1.trans f2) ⟨Is.mono f2 rv, l⟩
        | true =>
          simp only [evArgs] at h
          split at h
          · rename_i i hi
            split at h
            · rename_i dd hd
              obtain ⟨⟨ys, ρ2⟩, h3, h4⟩ := Res.bind_ok h
              cases h4
              have ee : e = .var i := by
                cases e <;> first | (cases hi; rfl) | cases hi
              subst ee
              have hv : ev T (.var i) ρ = .ok (dd, .brw i, ρ) := by
                simp only [ev]
                rw [hd]
              refine (pa_cons (ok_of (snd_var g tk c2.2 _) hv) (okG_of (g_es g tk c1.2 _ _) h3) (star_cons c2.1)).imp fun σ H Q ⟨B, R, k⟩ => ⟨B, R, fun v H1 R1 f1 rv => ⟨B, R1, fun vs H2 R2 f2 l => ?_⟩⟩
              exact k _ H2 R2 (f1.trans f2) ⟨rv.1, l⟩
            · cases h
          · obtain ⟨⟨x, m1, ρ1⟩, h1, h2⟩ := Res.bind_ok h
            dsimp only at h2
            split at h2
            · obtain ⟨⟨ys, ρ2⟩, h3, h4⟩ := Res.bind_ok h2
              cases h4
              refine (pa_cons (ok_of (h_e g tk c2.2 _) h1) (okG_of (g_es g tk c1.2 _ _) h3) (star_cons c2.1)).imp fun σ H Q ⟨B, R, k⟩ => ⟨B, R, fun v H1 R1 f1 rv => ?_⟩
              obtain ⟨p, rfl, ⟨vs0, ds0, rfl, e0, l0⟩, bp, ns⟩ := rv
              have R1' : REnv (X.km ea) (upd B p (.lst vs0)) σ H1 ρ1 := ⟨fun a o hh => by
                  by_cases z : a = p
                  · subst z; rw [upd_same] at hh; cases hh; exact e0
                  · rw [upd_ne z] at hh; exact R1.base a o hh, R1.len, R1.val, fun i d' hh => by
                  obtain ⟨q, q1, q2, q3⟩ := R1.own i d' hh
                  exact ⟨q, q1, by rw [upd_ne (fun z => ns i d' hh (by rw [← z]; exact q1))]; exact q2, q3⟩, R1.sep, R1.exn⟩
              refine ⟨_, R1', fun vs H2 R2 f2 l => ?_⟩
              have le : ∀ a o, B a = some o → upd B p (.lst vs0) a = some o := fun a o hh => by
                rw [upd_ne (fun z => by subst z; rw [bp] at hh; cases hh)]; exact hh
              have le' : ∀ a, upd B p (.lst vs0) a = none → B a = none := fun a hh => by
                cases q : B a with
                | none => rfl
                | some o => rw [le a o q] at hh; cases hh
              refine k _ H2 (R2.weak le) (f1.trans f2) ⟨⟨p, rfl, ⟨vs0, ds0, rfl, R2.base p _ upd_same, l0.mono f2⟩, bp, fun i e' hh z => ?_, fun z => ?_⟩, gotR.weak le' l⟩
              · obtain ⟨q, q1, q2, _⟩ := R2.own i e' hh
                rw [z] at q1
                cases q1
                rw [upd_same] at q2
                cases q2
              · have := (tmp_props l z).1
                rw [upd_same] at this
                cases this
            · cases h2
    · cases c
  · simp only [chks] at c
    split at c
    · have c1 := and_and c
      have c2 := and_and c1.1
      cases io with
      | nil => simp only [evArgs] at h; cases h
      | cons b io =>
        cases b with
        | false =>
          simp only [evArgs] at h
          rcases Res.bind_exc h with h1 | ⟨⟨x, m1, ρ1⟩, h1, h2⟩
          · exact (pa_cons (ex_of (h_e g tk c2.2 _) h1) pa_no (star_cons c2.1)).imp fun σ H Q h => h
          · rcases Res.bind_exc h2 with h3 | ⟨⟨ys, ρ2⟩, h3, h4⟩
            · exact (pa_cons (pe_keep (ok_of (h_e g tk c2.2 _) h1)) (exG_of (g_es g tk c1.2 _ _) h3) (star_cons c2.1)).imp fun σ H Q ⟨B, R, k⟩ => ⟨B, R, fun v H1 R1 f1 rv => ⟨B, R1, fun cls d H' R' f' xc => k cls d H' R' (f1.trans f') xc⟩⟩
            · cases h4
        | true =>
          simp only [evArgs] at h
          split at h
          · rename_i i hi
            split at h
            · rename_i dd hd
              have ee : e = .var i := by
                cases e <;> first | (cases hi; rfl) | cases hi
              subst ee
              have hv : ev T (.var i) ρ = .ok (dd, .brw i, ρ) := by
                simp only [ev]
                rw [hd]
              rcases Res.bind_exc h with h3 | ⟨⟨ys, ρ2⟩, h3, h4⟩
              · exact (pa_cons (ok_of (snd_var g tk c2.2 _) hv) (exG_of (g_es g tk c1.2 _ _) h3) (star_cons c2.1)).imp fun σ H Q ⟨B, R, k⟩ => ⟨B, R, fun v H1 R1 f1 rv => ⟨B, R1, fun cls d H' R' f' xc => k cls d H' R' (f1.trans f') xc⟩⟩
              · cases h4
            · cases h
          · rcases Res.bind_exc h with h1 | ⟨⟨x, m1, ρ1⟩, h1, h2⟩
            · exact (pa_cons (ex_of (h_e g tk c2.2 _) h1) pa_no (star_cons c2.1)).imp fun σ H Q h => h
            · dsimp only at h2
              split at h2
              · rcases Res.bind_exc h2 with h3 | ⟨⟨ys, ρ2⟩, h3, h4⟩
                · exact (pa_cons (ok_of (h_e g tk c2.2 _) h1) (exG_of (g_es g tk c1.2 _ _) h3) (star_cons c2.1)).imp fun σ H Q ⟨B, R, k⟩ => ⟨B, R, fun v H1 R1 f1 rv => ⟨B, R1, fun cls d H' R' f' xc => k cls d H' R' (f1.trans f') xc⟩⟩
                · cases h4
              · cases h2
    · cases c
end
end Ev
set_option Elab.async false
set_option linter.all false
set_option maxRecDepth 100000
set_option maxHeartbeats 8000000
namespace Ev
open PySem PySem.Spec PyProof.Rows L2
section
variable {T : Tab} {n : Nat} {hot : Bool} {ea : Option EA}
mutual
theorem sndB : ∀ ie : IE, SndV T n hot ea ie ∧ SndT T n hot ea ie
  | .var i => ⟨snd_var , fun {X e W} g tk t c ρ => pt_R (snd_var  g tk c ρ) (by simp only [chk] at c; split at c <;> first | rfl | cases c)⟩
  | .cst d0 => ⟨snd_cst , fun {X e W} g tk t c ρ => nomatch t⟩
  | .glb x => ⟨snd_glb , fun {X e W} g tk t c ρ => pt_R (snd_glb  g tk c ρ) (by simp only [chk] at c; split at c <;> first | rfl | cases c)⟩
  | .tup es => ⟨snd_tup (sndBs es).1, fun {X e W} g tk t c ρ => nomatch t⟩
  | .lst es => ⟨snd_lst (sndBs es).1, fun {X e W} g tk t c ρ => nomatch t⟩
  | .dic0 => ⟨snd_dic0 , fun {X e W} g tk t c ρ => nomatch t⟩
  | .dic1 k v => ⟨snd_dic1 (sndB k).1 (sndB v).1, fun {X e W} g tk t c ρ => nomatch t⟩
  | .bin op a b => ⟨snd_bin (sndB a).1 (sndB b).1, fun {X e W} g tk t c ρ => nomatch t⟩
  | .neg a => ⟨snd_neg (sndB a).1, fun {X e W} g tk t c ρ => nomatch t⟩
  | .not a => ⟨snd_not (sndB a).1, sndT_not (sndB a).2⟩
  | .and a b => ⟨snd_and (sndB a).1 (sndB b).1, sndT_and (sndB a).2 (sndB b).2⟩
  | .or a b => ⟨snd_or (sndB a).1 (sndB b).1, sndT_or (sndB a).2 (sndB b).2⟩
  | .cmp op a b => ⟨snd_cmp (sndB a).1 (sndB b).1, sndT_cmp (sndB a).1 (sndB b).1⟩
  | .cmp2 o p a b z => ⟨snd_cmp2 (sndB a).1 (sndB b).1 (sndB z).1, sndT_cmp2 (sndB a).1 (sndB b).1 (sndB z).1⟩
  | .ite z a b => ⟨snd_ite (sndB z).2 (sndB a).1 (sndB b).1, fun {X e W} g tk t c ρ => nomatch t⟩
  | .idx a b => ⟨snd_idx (sndB a).1 (sndB b).1, fun {X e W} g tk t c ρ => pt_R (snd_idx (sndB a).1 (sndB b).1 g tk c ρ) (by simp only [chk] at c; split at c <;> first | rfl | cases c)⟩
  | .slcL a b => ⟨snd_slcL (sndB a).1 (sndB b).1, fun {X e W} g tk t c ρ => nomatch t⟩
  | .slcR a b => ⟨snd_slcR (sndB a).1 (sndB b).1, fun {X e W} g tk t c ρ => nomatch t⟩
  | .call f as => ⟨snd_call (sndBs as).2.1, fun {X e W} g tk t c ρ => pt_R (snd_call (sndBs as).2.1 g tk c ρ) (by simp only [chk] at c; split at c <;> first | rfl | cases c)⟩
  | .isi a ty => ⟨snd_isi (sndB a).1, fun {X e W} g tk t c ρ => pt_R (snd_isi (sndB a).1 g tk c ρ) (by simp only [chk] at c; split at c <;> first | rfl | cases c)⟩
  | .join o a => ⟨snd_join (sndB o).1 (sndB a).1, fun {X e W} g tk t c ρ => nomatch t⟩
  | .upper o => ⟨snd_upper (sndB o).1, fun {X e W} g tk t c ρ => nomatch t⟩
  | .lc elt tg it own => ⟨snd_lc (sndB elt).1 (sndB it).1, fun {X e W} g tk t c ρ => nomatch t⟩
  | .lcI elt tg it cond own => ⟨snd_lcI (sndB elt).1 (sndB it).1 (sndB cond).2, fun {X e W} g tk t c ρ => nomatch t⟩
  | .lcR elt tg a own => ⟨snd_lcR (sndB elt).1 (sndB a).1, fun {X e W} g tk t c ρ => nomatch t⟩
  | .split o a => ⟨snd_split (sndB o).1 (sndB a).1, fun {X e W} g tk t c ρ => nomatch t⟩
  | .fst es => ⟨snd_fst (sndBs es).2.2.2, fun {X e W} g tk t c ρ => nomatch t⟩
  | .isN b a => ⟨snd_isN (sndB a).1, sndT_isN (sndB a).1⟩
  | .isE i cs => ⟨snd_isE , fun {X e W} g tk t c ρ => pt_R (snd_isE  g tk c ρ) (by simp only [chk] at c; split at c <;> first | rfl | cases c)⟩
  | .fldE i f => ⟨snd_fldE , fun {X e W} g tk t c ρ => nomatch t⟩
  | .callK f ks as => ⟨snd_callK (sndBs as).2.2.1, fun {X e W} g tk t c ρ => pt_R (snd_callK (sndBs as).2.2.1 g tk c ρ) (by simp only [chk] at c; split at c <;> first | rfl | cases c)⟩
  | .bi b (.nil) => ⟨snd_bi (fun _ _ z => by cases z) (fun _ _ _ z => by cases z), fun {X e W} g tk t c ρ => pt_R (snd_bi (fun _ _ z => by cases z) (fun _ _ _ z => by cases z) g tk c ρ) (by simp only [chk] at c; split at c <;> first | rfl | cases c)⟩
  | .bi b (.cons a .nil) => ⟨snd_bi (fun _ _ z => by cases z; exact (sndB a).1) (fun _ _ _ z => by cases z), fun {X e W} g tk t c ρ => pt_R (snd_bi (fun _ _ z => by cases z; exact (sndB a).1) (fun _ _ _ z => by cases z) g tk c ρ) (by simp only [chk] at c; split at c <;> first | rfl | cases c)⟩
  | .bi b (.cons a (.cons b2 r)) => ⟨snd_bi (fun _ _ z => by cases z; exact (sndB a).1) (fun _ _ _ z => by cases z; exact (sndB b2).1), fun {X e W} g tk t c ρ => pt_R (snd_bi (fun _ _ z => by cases z; exact (sndB a).1) (fun _ _ _ z => by cases z; exact (sndB b2).1) g tk c ρ) (by simp only [chk] at c; split at c <;> first | rfl | cases c)⟩
theorem sndBs : ∀ es : IEs, SndVs T n hot ea es ∧ SndG T n hot ea es ∧ SndK T n hot ea es ∧ SndF T n hot ea es
  | .nil => ⟨snds_nil, sndG_nil, sndK_nil, sndF_nil⟩
  | .cons e es => ⟨snds_cons (sndB e).1 (sndBs es).1, sndG_cons (sndB e).1 (sndBs es).2.1, sndK_cons (sndB e).1 (sndBs es).2.2.1, sndF_cons (sndB e).1 (sndBs es).2.2.2⟩
end
theorem sndR (ie : IE) : SndV T n hot ea ie := (sndB ie).1
theorem sndTR (ie : IE) : SndT T n hot ea ie := (sndB ie).2
theorem sndsR (es : IEs) : SndVs T n hot ea es := (sndBs es).1
end
end Ev
set_option Elab.async false
set_option linter.all false
set_option maxRecDepth 100000
set_option maxHeartbeats 4000000
/-! name, *rest = a list -/
namespace Ev
open PySem PySem.Spec PyProof.Rows L2
theorem walks_shift {prog : Program} {w : World} {A : Around} {I : Addr} {fp wr : List Addr} {n : Nat} {P : Nat → Value → Prop} {St : Nat → Heap → Prop} (W : Walks prog w A I fp wr (n + 1) P St) : Walks prog w A I fp wr n (fun i => P (i + 1)) (fun i => St (i + 1)) where
  sub := W.sub
  frame := fun i h h' st hk => W.frame (i + 1) h h' st hk
  item := fun i s Q E hi st hQ => W.item (i + 1) s Q E (by omega) st hQ
  done := fun s Q E st hQ => W.done s Q E st hQ
  self := fun i s Q E st hQ => W.self (i + 1) s Q E st hQ
theorem items_are {acc : Array Value} {us : List Value} {u : Value} (h : ItemsOf (fun i v => ((u :: us).toArray)[i + 1]? = some v) acc us.length) : acc.toList = us := by
  apply List.ext_getElem?
  intro j
  have hs := h.1
  by_cases hj : j < us.length
  · have hj' : j < acc.size := by omega
    have e := h.2 j acc[j] (by simp [hj'])
    have e2 : us[j]? = some acc[j] := by simpa using e
    rw [e2]
    simp [hj']
  · rw [List.getElem?_eq_none (by simp; omega), List.getElem?_eq_none (by omega)]
section
variable {prog : Program} {w : World} {A : Around} {E : Value → Shared → Prop} {s : Shared}
theorem unpack_star {l : Addr} {u : Value} {us : List Value} {Q : List Value → Shared → Prop} (hh : A.handled = none) (hl : s.heap.IsList l (u :: us).toArray) (hz : us.length ≤ sizeLine) (hb : AllBare s.gens)
    (hQ : ∀ s' : Shared, (∀ b o, s.heap.get? b = some o → s'.heap.get? b = some o) → s'.os = s.os → s'.gens = s.gens → s'.drawn = s.drawn → Q [u, .ref s'.heap.objs.size] { s' with heap := s'.heap.push { cls := .type "list", data := .seq us.toArray } }) :
    wpAny (model prog w) A (unpackItems (.ref l) 2 (some 1)) Q E s := by
  have hlt : l ≠ s.heap.objs.size := by obtain ⟨o, ho, _⟩ := hl; exact Nat.ne_of_lt (Heap.lt_size ho)
  unfold unpackItems
  refine wpAny_bind ?_
  unfold notIterableAtAll
  refine wpAny_bind (wpAny_specialOf hl.typeIs slot_list_iter.lookup ?_)
  refine wpAny_pure ?_
  simp only [Bool.false_eq_true, if_false]
  refine wpAny_bind (wpAny_holding (wpAny_pyIter_list hl ?_))
  refine wpAny_bind (wpAny_holding (PySem.W.kun_draw hlt 1 0 _ _ ⟨_, Heap.get?_push_size _ rfl, rfl, rfl⟩ (hl.push _) (by simp) fun h1 hit1 hs1 => ?_))
  have e1 : List.take 1 (List.drop 0 (u :: us).toArray.toList) = [u] := by simp
  rw [e1]
  rw [if_neg (by simp)]
  have hl1 : h1.IsList l (u :: us).toArray := (hl.push _).extBut hs1.extBut hlt
  have keep1 : ∀ b o, s.heap.get? b = some o → h1.get? b = some o := fun b o e => hs1.extBut b o (Nat.ne_of_lt (Heap.lt_size e)) (Heap.get?_push_of_some _ e)
  have lt1 : s.heap.objs.size < h1.objs.size := by
    have := hs1.1
    rw [this, Heap.size_push]
    exact Nat.lt_succ_self _
  refine wpAny_bind (wpAny_holding ?_)
  have W0 := Walks.list (prog := prog) (w := w) (A := A.in1) hh s.heap.objs.size l hlt (u :: us).toArray
  have hsz : (u :: us).toArray.size = us.length + 1 := by simp
  rw [hsz] at W0
  refine wpAny_collect_iter (T := "list_iterator") (.inr (.inr (.inl rfl))) (walks_shift W0).toS (fun i s' st => ?_) (show _ ∧ _ from ⟨hit1, hl1⟩) (fun b hb => ?_) (by simp) (fun s' acc mv it => ?_) hz
  · obtain ⟨o, e, c, d⟩ := st.1
    exact ⟨o, e, c⟩
  · simp only [List.mem_cons, List.not_mem_nil, or_false] at hb
    rcases hb with rfl | rfl
    · exact lt1
    · obtain ⟨o, ho, _⟩ := hl1
      exact Heap.lt_size ho
  · have ea := items_are it
    rw [ea]
    rw [if_neg (by simp)]
    have e3 : us.take (us.length - (2 - 1 - 1)) = us := by simp
    have e4 : us.drop (us.length - (2 - 1 - 1)) = [] := by simp
    rw [e3, e4]
    refine wpAny_bind (wpAny_newObj_type (wpAny_pure (hQ s' (fun b o e => ?_) mv.os mv.gens mv.drawn)) ?_)
    · refine mv.heap b o (fun z => ?_) (keep1 b o e)
      simp only [List.mem_cons, List.not_mem_nil, or_false] at z
      exact absurd (Heap.lt_size e) (by rw [z]; exact Nat.lt_irrefl _)
    · show us.toArray.size ≤ sizeLine
      simpa using hz
/-- x, *y = the list: y holds a new list -/
def gStar (K : PySem.W.Frag) (i j : Nat) : TG := fun v σ H Q => ∃ a x xs, v = .ref a ∧ SqL K H a (x :: xs) ∧ ∀ p, H p = none → Q ((σ.set i (some x)).set j (some (.ref p))) (upd H p (.lst xs))
theorem pg_star {X : Cx} {x y : Str} {px py ps pos : Pos} {k i j : Nat} (hc : X.calm = true) (h1 : PG X (.Name x px) (gName i)) (h2 : PG X (.Name y py) (gName j)) : PG X (.Tuple [.Name x px, .Starred (.Name y py) ps] k pos) (gStar X.K i j) := by
  refine ⟨fun pins s σ H v u Q I r hw => ?_⟩
  obtain ⟨a, x0, xs, rfl, hq, q⟩ := hw
  cases r
  obtain ⟨its, rv, pl, hz⟩ := I.list hq
  cases rv with
  | @cons _ u0 _ us r0 rs =>
    have hl := rs.length
    rw [PyProof.Rows.assign_Tuple]
    refine wpAny_bind (wpAny_standAt ?_)
    unfold unpack
    refine wpAny_bind (wpAny_holding (unpack_star (I.ok.hd hc) pl.isList (by simp at hz; omega) I.bare fun s' kp os gs dr => ?_))
    have I1 : Inv X pins σ H s' := by
      obtain ⟨hp, g, d, t, o⟩ := s'
      cases os
      cases gs
      cases dr
      exact I.kept (t' := t) kp
    have np : H s'.heap.objs.size = none := I1.hok.fresh (Nat.le_refl _)
    have I2 : Inv X pins σ (upd H s'.heap.objs.size (.lst xs)) { s' with heap := s'.heap.push { cls := .type "list", data := .seq us.toArray } } :=
      I1.laid (t' := s'.toks) (fun b o e => Heap.get?_push_of_some _ e) (Nat.le_refl _) ⟨by simp at hz; omega, us, 0, rs, Heap.get?_push_size _ rfl⟩
    show wpAny _ _ (assignInOrder [assign (.Name x px) X.env, assign (.Name y py) X.env] [u0, .ref s'.heap.objs.size]) _ _ _
    unfold assignInOrder
    refine wpAny_bind (wpAny_holding (thn (h1.run pins _ σ _ x0 u0 (fun σ1 H1 => σ1 = σ.set i (some x0) ∧ H1 = upd H s'.heap.objs.size (.lst xs)) I2 r0 ⟨rfl, rfl⟩) fun _ s3 hh => ?_))
    obtain ⟨σ3, H3, I3, rfl, rfl⟩ := hh
    unfold assignInOrder
    refine wpAny_bind (wpAny_holding (thn (h2.run pins s3 _ _ (.ref s'.heap.objs.size) (.ref s'.heap.objs.size) Q I3 rfl (q _ np)) fun _ s4 hh => ?_))
    unfold assignInOrder
    exact wpAny_pure hh
end
end Ev
set_option Elab.async false
set_option linter.all false
set_option maxRecDepth 100000
set_option maxHeartbeats 4000000
namespace Ev
open PySem PySem.Spec PyProof.Rows L2

/-! ### statements -/
mutual
inductive IS where
  | set (i : Nat) (e : IE)
  | par (is : List Nat) (es : IEs)
  | ret (e : IE)
  | ite (c : IE) (a b : ISs)
  | forV (i : Nat) (it : IE) (body : ISs)
  | forR (i : Nat) (a : IE) (body : ISs)
  | app (i : Nat) (e : IE)
  | unp (is : List Nat) (e : IE)
  | unpS (i j : Nat) (e : IE)
  | rai (c : Str)
  | tryA (body : ISs) (c : Str) (i : Nat) (suite : ISs)
inductive ISs where
  | nil
  | cons (s : IS) (r : ISs)
end
inductive Out where
  | nx (ρ : DEnv)
  | rt (d : Dat) (new : Bool) (ρ : DEnv)

def store (i : Nat) (d : Dat) (m : Mode) (ρ : DEnv) : DEnv :=
  match m with
  | .frz => ρ.set i (.val d)
  | .fresh => ρ.set i (.own d)
  | .brw j => (ρ.set j (.val d)).set i (.val d)
def storeAll : List Nat → List Dat → DEnv → DEnv
  | i :: is, d :: ds, ρ => storeAll is ds (ρ.set i (.val d))
  | _, _, ρ => ρ
def loop (one : Dat → DEnv → Res Out) : List Dat → DEnv → Res Out
  | [], ρ => .ok (.nx ρ)
  | x :: r, ρ => (one x ρ).bind fun o => (match o with
    | .nx ρ1 => loop one r ρ1
    | .rt d new ρ1 => .ok (.rt d new ρ1))
/-- behind an except suite its name holds nothing -/
def Slot.tidy : Slot → Slot
  | .exn _ _ => .no
  | s => s
def clean (ρ : DEnv) : DEnv := ρ.map Slot.tidy
def gone (i : Nat) : Res Out → Res Out
  | .ok (.nx ρ) => .ok (.nx (clean (ρ.set i .no)))
  | .ok (.rt d new ρ) => .ok (.rt d new (clean (ρ.set i .no)))
  | .exc _ _ _ => .stuck
  | .stuck => .stuck
def seqs : Dat → Option (List Dat)
  | .lst xs => some xs
  | .tup xs => some xs
  | _ => none
/-- one turn of a loop -/
def turnOf (e : DEnv → Res Out) (i : Nat) : Dat → DEnv → Res Out := fun y ρ' => e (ρ'.set i (.val y))
section
variable (T : Tab) (ios : List Nat)
mutual
def exec : IS → DEnv → Res Out
  | .set i e, ρ => if i ∈ ios then .stuck else (ev T e ρ).bind fun (d, m, ρ1) => .ok (.nx (store i d m ρ1))
  | .par is es, ρ => if is.any (fun i => ios.contains i) then .stuck else (evs T es ρ).bind fun (ds, ρ1) => if ds.length = is.length then .ok (.nx (storeAll is ds ρ1)) else .stuck
  | .ret e, ρ => (ev T e ρ).bind fun (d, m, ρ1) => (match m with
    | .frz => .ok (.rt d false ρ1)
    | .fresh => .ok (.rt d true ρ1)
    | .brw i => if i ∈ ios then .stuck else .ok (.rt d true (ρ1.set i .no)))
  | .ite c a b, ρ => (ev T c ρ).bind fun (x, _, ρ1) => (match x with
    | .bl true => execs a ρ1
    | .bl false => execs b ρ1
    | _ => .stuck)
  | .forV i it body, ρ => if i ∈ ios then .stuck else (ev T it ρ).bind fun (x, m, ρ1) => (ofO (items x)).bind fun xs => loop (turnOf (execs body) i) xs (keep m ρ1 x)
  | .forR i a body, ρ => if i ∈ ios then .stuck else (ev T a ρ).bind fun (x, _, ρ1) => (match x with
    | .int j => if -(2 ^ 62) ≤ j ∧ j < 2 ^ 62 then loop (turnOf (execs body) i) ((List.range j.toNat).map fun (k : Nat) => .int (k : Int)) ρ1 else .stuck
    | _ => .stuck)
  | .app i e, ρ => (match ρ[i]? with
    | some (.own (.lst _)) => (ev T e ρ).bind fun (d, m, ρ1) => (match (keep m ρ1 d)[i]? with
      | some (.own (.lst ds)) => if sm ds.length then .ok (.nx ((keep m ρ1 d).set i (.own (.lst (ds ++ [d]))))) else .stuck
      | _ => .stuck)
    | _ => .stuck)
  | .unp is e, ρ => if is.any (fun i => ios.contains i) then .stuck else (ev T e ρ).bind fun (d, m, ρ1) => (ofO (seqs d)).bind fun ds => if ds.length = is.length then .ok (.nx (storeAll is ds (keep m ρ1 d))) else .stuck
  | .unpS i j e, ρ => if i ∈ ios ∨ j ∈ ios ∨ i = j then .stuck else (ev T e ρ).bind fun (d, m, ρ1) => (match d with
    | .lst (x :: xs) => .ok (.nx (((keep m ρ1 d).set i (.val x)).set j (.own (.lst xs))))
    | _ => .stuck)
  | .rai c, ρ => (match T.exc c with
    | some [] => .exc c [] ρ
    | _ => .stuck)
  | .tryA body c i suite, ρ => if i ∈ ios then .stuck else (match execs body ρ with
    | .ok o => .ok o
    | .exc c' fs ρ1 => (match T.sub c' c with
      | some true => gone i (execs suite (ρ1.set i (.exn c' fs)))
      | some false => .exc c' fs ρ1
      | none => .stuck)
    | .stuck => .stuck)
def execs : ISs → DEnv → Res Out
  | .nil, ρ => .ok (.nx ρ)
  | .cons s r, ρ => (exec s ρ).bind fun o => (match o with
    | .nx ρ1 => execs r ρ1
    | .rt d new ρ1 => .ok (.rt d new ρ1))
end
end

def isLc : Expr → Bool
  | .ListComp .. => true
  | .SetComp .. => true
  | .DictComp .. => true
  | _ => false
def locB (sc : Scope) (x : Str) : Bool := match sc.names.lookup x with
  | some .local => true
  | some .cell => true
  | _ => false
theorem locB_of {sc : Scope} {x : Str} (h : locB sc x = true) : Loc sc x := by
  unfold locB at h
  split at h
  · exact .inl (by assumption)
  · exact .inr (by assumption)
  · cases h
def parNames (sc : Scope) (ts : List Expr) : List Str := ts.filterMap fun
      | .Name id pos => if sc.names.lookup id == some .local && pos.line == (ts.head?.map (·.pos.line)).getD 0 then some id else none
      | _ => none
/-- the swapped stores of two or three plain names -/
def parB (sc : Scope) (ts vs : List Expr) : Option (List Str) :=
  if (ts.length == 2 || ts.length == 3) && vs.length == ts.length && sc.kind == .function && vs.all noStar then
    if (parNames sc ts).length == ts.length && (parNames sc ts).eraseDups.length == (parNames sc ts).length && !(vs.all (foldedForSure 8)) && !(vs.all (constantsAlone 8)) then some (parNames sc ts) else none
  else none
def isNm (sc : Scope) : Expr → Bool
  | .Name x _ => locB sc x
  | _ => false
/-- a display, or what is handed out as it stands: no swapped stores -/
def isTupE : Expr → Bool
  | .Tuple .. => false
  | .ListComp .. => false
  | .SetComp .. => false
  | .DictComp .. => false
  | _ => true
mutual
def chkS (N : List Str) (hot : Bool) (sc : Scope) : IS → Stmt → Bool
  | .set i e, st => (match st with
    | .Assign [.Name x _] e' _ => decide (N[i]? = some x) && locB sc x && chk N hot sc e e'
    | _ => false)
  | .par is es, st => (match st with
    | .Assign [.Tuple [.Name x px, .Name y py] _ _] (.Tuple [a, b] _ _) _ => (match is with
      | [i, j] => !hot && decide (parB sc [.Name x px, .Name y py] [a, b] = some [x, y]) && decide (N[i]? = some x) && decide (N[j]? = some y) && decide (i ≠ j) && decide (sc.names.lookup x = some .local) && decide (sc.names.lookup y = some .local) && chks N hot sc es [a, b]
      | _ => false)
    | .Assign [.Tuple [.Name x px, .Name y py, .Name z pz] _ _] (.Tuple [a, b, c] _ _) _ => (match is with
      | [i, j, l] => !hot && decide (parB sc [.Name x px, .Name y py, .Name z pz] [a, b, c] = some [x, y, z]) && decide (N[i]? = some x) && decide (N[j]? = some y) && decide (N[l]? = some z) && decide (i ≠ j) && decide (i ≠ l) && decide (j ≠ l) && decide (sc.names.lookup x = some .local) && decide (sc.names.lookup y = some .local) && decide (sc.names.lookup z = some .local) && chks N hot sc es [a, b, c]
      | _ => false)
    | _ => false)
  | .ret e, st => (match st with
    | .Return (some e') _ => chk N hot sc e e'
    | _ => false)
  | .ite c a b, st => (match st with
    | .If c' a' b' _ => tst c && chk N hot sc c c' && chkSs N hot sc a a' && chkSs N hot sc b b'
    | _ => false)
  | .forV i it body, st => (match st with
    | .For (.Name x _) it' b' [] _ => !hot && decide (N[i]? = some x) && locB sc x && noSet it' && chk N hot sc it it' && chkSs N hot sc body b'
    | _ => false)
  | .forR i a body, st => (match st with
    | .For (.Name x _) (.Call (.Name r _) [a'] [] _) b' [] _ => !hot && decide (N[i]? = some x) && locB sc x && decide (r = "range") && glo sc "range" && noStar a' && chk N hot sc a a' && chkSs N hot sc body b'
    | _ => false)
  | .app i e, st => (match st with
    | .Expr (.Call (.Attribute (.Name x _) n ap) [e'] [] cp) _ => decide (n = "append") && decide (N[i]? = some x) && vis sc x && notOdd x && (ap.endLine == cp.line) && noStar e' && chk N hot sc e e'
    | _ => false)
  | .unp is e, st => (match st with
    | .Assign [.Tuple l _ _] e' _ => !hot && isTupE e' && decide (l.map nameOf = (is.map fun i => N[i]?)) && decide is.Nodup && l.all (isNm sc) && chk N hot sc e e'
    | _ => false)
  | .unpS i j e, st => (match st with
    | .Assign [.Tuple [.Name x _, .Starred (.Name y _) _] _ _] e' _ => !hot && isTupE e' && decide (N[i]? = some x) && decide (N[j]? = some y) && locB sc x && locB sc y && chk N hot sc e e'
    | _ => false)
  | .rai c, st => (match st with
    | .Raise (some (.Call (.Name x _) [.Constant (.str _) _ _] [] _)) none _ => !hot && decide (c = x) && glo sc x && notOdd x
    | _ => false)
  | .tryA body c i suite, st => (match st with
    | .Try b' [.ExceptHandler (some (.Name x _)) (some n) (s₀ :: ss) _] [] [] _ => !hot && decide (c = x) && glo sc x && notOdd x && decide (N[i]? = some n) && decide (sc.names.lookup n = some .local) && chkSs N false sc body b' && chkSs N true sc suite (s₀ :: ss)
    | _ => false)
def chkSs (N : List Str) (hot : Bool) (sc : Scope) : ISs → List Stmt → Bool
  | .nil, l => (match l with
    | [] => true
    | _ => false)
  | .cons s r, l => (match l with
    | st :: l' => chkS N hot sc s st && chkSs N hot sc r l'
    | _ => false)
end
theorem no_swap {e : Expr} {x : Str} {p : Pos} {l : Nat} {env : PySem.Env} (h : isLc e = false) : swapsWith e (some (.Name x p)) l env = pure false := by
  cases e <;> first | rfl | cases h
theorem lc_swap {elt : Expr} {gs : List Comprehension} {scope : Scope} {pos py : Pos} {y : Str} {l : Nat} {env : PySem.Env} : swapsWith (.ListComp elt gs scope pos) (some (.Name y py)) l env =
    pure (env.blockKind == .function && env.kindOf y == some .local && py.line == pos.line && !(scope.names.any fun (n, k) => n == y && (k == .local || k == .cell))) := rfl
end Ev
set_option Elab.async false
set_option linter.all false
set_option maxRecDepth 100000
set_option maxHeartbeats 4000000
namespace Ev
open PySem PySem.Spec PyProof.Rows L2
theorem par_swap {ts vs : List Expr} {k k' : Nat} {p p' : Pos} {env : PySem.Env} {names : List Str} (h : parB env.scope ts vs = some names) : swappedStores [.Tuple ts k p] (.Tuple vs k' p') env = pure (some names) := by
  unfold parB at h
  split at h
  · rename_i c
    have c1 := and_and c
    have c2 := and_and c1.1
    have c3 := and_and c2.1
    split at h
    · rename_i d
      have d1 := and_and d
      have d2 := and_and d1.1
      have d3 := and_and d2.1
      cases h
      have hb : env.blockKind = .function := by
        unfold Env.blockKind
        have : env.scope.kind = .function := by simpa using c2.2
        rw [this]; rfl
      have hs : (vs.any fun | .Starred .. => true | _ => false) = false := by
        have := c1.2
        rw [List.all_eq_true] at this
        rw [List.any_eq_false]
        intro e he
        have q := this e he
        cases e <;> first | exact Bool.false_ne_true | cases q
      unfold swappedStores
      simp only [Env.kindOf, hb, hs]
      simp only [c3.1, Bool.not_true, Bool.false_or]
      split
      · rename_i q
        exfalso
        have e1 : (vs.length != ts.length) = false := by unfold bne; rw [c3.2]; rfl
        rw [e1] at q
        simp at q
      · split
        · rename_i q
          cases (show false = true from hs.symm.trans q)
        · refine (if_neg (fun q => ?_)).trans ?_
          · have q' : ((parNames env.scope ts).length != ts.length || (parNames env.scope ts).eraseDups.length != (parNames env.scope ts).length) = true := q
            unfold bne at q'
            rw [d3.1, d3.2] at q'
            cases q'
          · refine (if_neg (fun q => ?_)).trans ?_
            · have := d2.2
              rw [q] at this
              cases this
            · refine (if_neg (fun q => ?_)).trans rfl
              have := d1.2
              rw [q] at this
              cases this
    · cases h
  · cases h
end Ev
set_option Elab.async false
set_option linter.all false
set_option maxRecDepth 100000
set_option maxHeartbeats 8000000
namespace Ev
open PySem PySem.Spec PyProof.Rows L2
variable {ea : Option EA}
theorem _root_.L2.PS.imp {X : Cx} {e : Stmt} {t t' : TS} (h : PS X e t) (i : ∀ D σ H, t' D σ H → t D σ H) : PS X e t' := ⟨fun pins s σ H D I q => h.run pins s σ H D I (i D σ H q)⟩
theorem _root_.L2.PSs.imp {X : Cx} {e : List Stmt} {t t' : TS} (h : PSs X e t) (i : ∀ D σ H, t' D σ H → t D σ H) : PSs X e t' := ⟨fun pins s σ H D I q => h.run pins s σ H D I (i D σ H q)⟩

def Kp (ios : List Nat) (σ σ' : L2.St) : Prop := ∀ i ∈ ios, σ'[i]? = σ[i]?
theorem Kp.refl {ios : List Nat} (σ : L2.St) : Kp ios σ σ := fun _ _ => rfl
theorem Kp.trans {ios : List Nat} {σ σ1 σ2 : L2.St} (a : Kp ios σ σ1) (b : Kp ios σ1 σ2) : Kp ios σ σ2 := fun i h => (b i h).trans (a i h)
theorem Kp.set {ios : List Nat} {σ : L2.St} {i : Nat} {v : Option V} (h : i ∉ ios) : Kp ios σ (σ.set i v) := fun j hj => List.getElem?_set_ne fun z => h (by rw [z]; exact hj)
def nm (new : Bool) : Mode := if new = true then .fresh else .frz
/-- what is wanted of a statement -/
def wantS (K : KM) (W : WX) (B : Hp) (ios : List Nat) (σ : L2.St) (H : Hp) (D : Ends) : Res Out → Prop
  | .ok (.nx ρ') => ∀ σ' H', REnv K B σ' H' ρ' → FrzLe H H' → Kp ios σ σ' → D.nx σ' H'
  | .ok (.rt d new ρ') => ∀ σ' H' v, REnv K B σ' H' ρ' → FrzLe H H' → Kp ios σ σ' → RV K B σ' ρ' H' v d (nm new) → D.rt v H'
  | .exc c fs ρ' => ∀ cls d σ' H', REnv K B σ' H' ρ' → FrzLe H H' → Kp ios σ σ' → XcR K H' cls d c fs → W cls d σ' H'
  | .stuck => False
theorem wantS.step {K : KM} {W : WX} {B : Hp} {ios : List Nat} {σ σ1 : L2.St} {H H1 : Hp} {D : Ends} {r : Res Out} (f : FrzLe H H1) (k : Kp ios σ σ1) (h : wantS K W B ios σ H D r) : wantS K W B ios σ1 H1 D r := by
  cases r with
  | ok o =>
    cases o with
    | nx ρ => exact fun σ' H' R' f' k' => h σ' H' R' (f.trans f') (k.trans k')
    | rt d new ρ => exact fun σ' H' v R' f' k' rv => h σ' H' v R' (f.trans f') (k.trans k') rv
  | exc c fs ρ => exact fun cls d σ' H' R' f' k' xc => h cls d σ' H' R' (f.trans f') (k.trans k') xc
  | stuck => exact h
def tQ (K : KM) (W : WX) (ios : List Nat) (ρ : DEnv) (r : Res Out) : TS := fun D σ H => ∃ B, REnv K B σ H ρ ∧ wantS K W B ios σ H D r
def tQU (K : KM) (W : WX) (T : Tab) (ios : List Nat) (body : ISs) : TS := fun D σ H => ∃ ρ, tQ K W ios ρ (execs T ios body ρ) D σ H
theorem ps_stuck {X : Cx} {K : KM} {W : WX} {ios : List Nat} {ρ : DEnv} {st : Stmt} : PS X st (tQ K W ios ρ .stuck) := ⟨fun _ _ _ _ _ _ ⟨_, _, h⟩ => (show False from h).elim⟩
/-- an exception of an expression, in a statement -/
theorem exc_in {K : KM} {W : WX} {ios : List Nat} {ρ ρ' : DEnv} {c : Str} {fs : List (Str × Dat)} {D : Ends} {σ : L2.St} {H : Hp} {Q : VK} (h : tQ K W ios ρ (.exc c fs ρ') D σ H) : tX K W ρ c fs ρ' σ H Q := by
  obtain ⟨B, R, w⟩ := h
  exact ⟨B, R, fun cls d H' R' f' xc => w cls d σ H' R' f' (Kp.refl σ) xc⟩
theorem exc_inA {K : KM} {W : WX} {ios : List Nat} {ρ ρ' : DEnv} {c : Str} {fs : List (Str × Dat)} {D : Ends} {σ : L2.St} {H : Hp} {Q : List V → Hp → Prop} (h : tQ K W ios ρ (.exc c fs ρ') D σ H) : tXA K W ρ c fs ρ' σ H Q := by
  obtain ⟨B, R, w⟩ := h
  exact ⟨B, R, fun cls d H' R' f' xc => w cls d σ H' R' f' (Kp.refl σ) xc⟩
theorem exc_inT {K : KM} {W : WX} {ios : List Nat} {ρ ρ' : DEnv} {c : Str} {fs : List (Str × Dat)} {D : Ends} {σ : L2.St} {H : Hp} {Q : Bool → Hp → Prop} (h : tQ K W ios ρ (.exc c fs ρ') D σ H) : tXT K W ρ c fs ρ' σ H Q := by
  obtain ⟨B, R, w⟩ := h
  exact ⟨B, R, fun cls d H' R' f' xc => w cls d σ H' R' f' (Kp.refl σ) xc⟩

section
variable {K : KM} {B : Hp} {σ : L2.St} {H : Hp} {ρ : DEnv} {d : Dat}
theorem REnv.setOwn {p : Addr} (R : REnv K B σ H ρ) (i : Nat) (ho : Own K H p d) (bp : B p = none) (ns : ∀ (j : Nat) e, ρ[j]? = some (.own e) → σ[j]? ≠ some (some (.ref p))) : REnv K B (σ.set i (some (.ref p))) H (ρ.set i (.own d)) := by
  refine ⟨R.base, by rw [List.length_set, List.length_set]; exact R.len, fun j e h => ?_, fun j e h => ?_, fun j j' e e' q h1 h2 h3 h4 => ?_, fun j c fs h => ?_⟩
  · rw [set_get] at h
    split at h
    · split at h <;> cases h
    · rename_i n
      obtain ⟨w, w1, w2⟩ := R.val j e h
      exact ⟨w, by rw [List.getElem?_set_ne n]; exact w1, w2⟩
  · rw [set_get] at h
    split at h
    · rename_i n
      subst n
      split at h
      · rename_i hl
        cases h
        exact ⟨p, by rw [List.getElem?_set_self (by rw [R.len]; exact hl)], bp, ho⟩
      · cases h
    · rename_i n
      obtain ⟨w, w1, w2⟩ := R.own j e h
      exact ⟨w, by rw [List.getElem?_set_ne n]; exact w1, w2⟩
  · rw [set_get] at h1 h2 h3 h4
    by_cases n1 : i = j
    · subst n1
      rw [if_pos rfl] at h3
      by_cases n2 : i = j'
      · exact n2
      · rw [if_neg n2] at h2 h4
        split at h3
        · cases h3
          exact absurd h4 (ns j' e' h2)
        · cases h3
    · rw [if_neg n1] at h1 h3
      by_cases n2 : i = j'
      · subst n2
        rw [if_pos rfl] at h4
        split at h4
        · cases h4
          exact absurd h3 (ns j e h1)
        · cases h4
      · rw [if_neg n2] at h2 h4
        exact R.sep j j' e e' q h1 h2 h3 h4
  · rw [set_get] at h
    split at h
    · split at h <;> cases h
    · rename_i n
      obtain ⟨x, x1, x2, x3⟩ := R.exn j c fs h
      exact ⟨x, x1, by rw [List.getElem?_set_ne n]; exact x2, x3⟩
end
/-! ### into an except suite, and out of it -/
mutual
theorem Is.at {K : PySem.W.Frag} {mg : Str → Option Value} {e1 e2 : Option EA} {H : Hp} : ∀ {v : V} {d : Dat}, Is ⟨K, mg, e1⟩ H v d → Is ⟨K, mg, e2⟩ H v d
  | _, _, .non => .non
  | _, _, .bl b => .bl b
  | _, _, .int i => .int i
  | _, _, .str x => .str x
  | _, _, .tup a b => .tup a (IsL.at b)
  | _, _, .lst a b => .lst a (IsL.at b)
  | _, _, .scr a => .scr a
  | _, _, .dic a b c d e g h i => .dic a b c d e g (IsL.at h) (IsL.at i)
theorem IsL.at {K : PySem.W.Frag} {mg : Str → Option Value} {e1 e2 : Option EA} {H : Hp} : ∀ {vs : List V} {ds : List Dat}, IsL ⟨K, mg, e1⟩ H vs ds → IsL ⟨K, mg, e2⟩ H vs ds
  | _, _, .nil => .nil
  | _, _, .cons a b => .cons (Is.at a) (IsL.at b)
end
section
variable {K : PySem.W.Frag} {mg : Str → Option Value} {e1 e2 : Option EA} {B : Hp} {σ : L2.St} {H : Hp} {ρ : DEnv}
theorem Own.at {p : Addr} {d : Dat} (h : Own ⟨K, mg, e1⟩ H p d) : Own ⟨K, mg, e2⟩ H p d := by
  obtain ⟨vs, ds, rfl, e, l⟩ := h
  exact ⟨vs, ds, rfl, e, l.at⟩
theorem XdR.at {d : Option Addr} {fs : List (Str × Dat)} (h : XdR ⟨K, mg, e1⟩ H d fs) : XdR ⟨K, mg, e2⟩ H d fs := by
  rcases h with h | ⟨dx, o, vs, h1, h2, h3, h4⟩
  · exact .inl h
  · exact .inr ⟨dx, o, vs, h1, h2, h3, h4.at⟩
/-- the exception comes to its name -/
theorem REnv.caught {e : EA} {i : Nat} {c : Str} {fs : List (Str × Dat)} (R : REnv ⟨K, mg, none⟩ B σ H ρ) (hm : mg c = some (.ref e.C)) (hx : XdR ⟨K, mg, none⟩ H e.d fs) : REnv ⟨K, mg, some e⟩ B (σ.set i (some (.ref e.a))) H (ρ.set i (.exn c fs)) := by
  refine ⟨R.base, by rw [List.length_set, List.length_set]; exact R.len, fun j d h => ?_, fun j d h => ?_, fun j j' d d' p h1 h2 h3 h4 => ?_, fun j c' fs' h => ?_⟩
  · rw [set_get] at h
    split at h
    · split at h <;> cases h
    · rename_i n
      obtain ⟨w, w1, w2⟩ := R.val j d h
      exact ⟨w, by rw [List.getElem?_set_ne n]; exact w1, w2.at⟩
  · rw [set_get] at h
    split at h
    · split at h <;> cases h
    · rename_i n
      obtain ⟨w, w1, w2, w3⟩ := R.own j d h
      exact ⟨w, by rw [List.getElem?_set_ne n]; exact w1, w2, w3.at⟩
  · rw [set_get] at h1 h2
    split at h1
    · split at h1 <;> cases h1
    · split at h2
      · split at h2 <;> cases h2
      · rename_i n1 n2
        rw [List.getElem?_set_ne n1] at h3
        rw [List.getElem?_set_ne n2] at h4
        exact R.sep j j' d d' p h1 h2 h3 h4
  · rw [set_get] at h
    split at h
    · rename_i n
      subst n
      split at h
      · rename_i hl
        cases h
        exact ⟨e, rfl, by rw [List.getElem?_set_self (by rw [R.len]; exact hl)], hm, hx.at⟩
      · cases h
    · obtain ⟨x, x1, _⟩ := R.exn j c' fs' h
      cases x1
theorem clean_get {i : Nat} : (clean ρ)[i]? = (ρ[i]?).map Slot.tidy := by
  unfold clean
  rw [List.getElem?_map]
theorem clean_own {i : Nat} {d : Dat} (h : (clean ρ)[i]? = some (.own d)) : ρ[i]? = some (.own d) := by
  rw [clean_get] at h
  cases q : ρ[i]? with
  | none => rw [q] at h; cases h
  | some s =>
    rw [q] at h
    cases s <;> first | (cases h; rfl) | cases h
/-- it is gone behind the suite -/
theorem REnv.gone {e : EA} {i : Nat} (R : REnv ⟨K, mg, some e⟩ B σ H ρ) : REnv ⟨K, mg, none⟩ B (σ.set i none) H (clean (ρ.set i .no)) := by
  have R1 := R.setNo i
  refine ⟨R1.base, by unfold clean; rw [List.length_map]; exact R1.len, fun j d h => ?_, fun j d h => ?_, fun j j' d d' p h1 h2 h3 h4 => ?_, fun j c fs h => ?_⟩
  · rw [clean_get] at h
    cases q : (ρ.set i .no)[j]? with
    | none => rw [q] at h; cases h
    | some s =>
      rw [q] at h
      cases s with
      | val x =>
        cases h
        obtain ⟨w, w1, w2⟩ := R1.val j _ q
        exact ⟨w, w1, w2.at⟩
      | no => cases h
      | own _ => cases h
      | exn _ _ => cases h
  · obtain ⟨w, w1, w2, w3⟩ := R1.own j d (clean_own h)
    exact ⟨w, w1, w2, w3.at⟩
  · exact R1.sep j j' d d' p (clean_own h1) (clean_own h2) h3 h4
  · rw [clean_get] at h
    cases q : (ρ.set i .no)[j]? with
    | none => rw [q] at h; cases h
    | some s =>
      rw [q] at h
      cases s <;> cases h
theorem RV.gone {e : EA} {i : Nat} {v : V} {d : Dat} {new : Bool} (h : RV ⟨K, mg, some e⟩ B σ ρ H v d (nm new)) : RV ⟨K, mg, none⟩ B (σ.set i none) (clean (ρ.set i .no)) H v d (nm new) := by
  cases new with
  | false => exact Is.at (show Is ⟨K, mg, some e⟩ H v d from h)
  | true =>
    obtain ⟨p, rfl, ho, bp, ns⟩ := (show RV ⟨K, mg, some e⟩ B σ ρ H v d .fresh from h)
    refine ⟨p, rfl, ho.at, bp, fun j x hj z => ?_⟩
    have h1 := clean_own hj
    rw [set_get] at h1 z
    split at h1
    · split at h1 <;> cases h1
    · rename_i n
      rw [if_neg n] at z
      exact ns j x h1 z
end
end Ev

set_option Elab.async false
set_option linter.all false
set_option maxRecDepth 100000
set_option maxHeartbeats 8000000
namespace Ev
open PySem PySem.Spec PyProof.Rows L2
structure GoodS (T : Tab) (n : Nat) (hot : Bool) (ea : Option EA) (X : Cx) : Prop extends Good T n hot ea X where
  px : PassesOwn (model X.prog X.w) X.A X.env X.xe
  fnT : ∀ x, X.fn x = true
  st0 : X.stack = X.env :: X.outer
  fr0 : X.env.frame = some X.env.locals
theorem takes_ofF {X : Cx} {W : WX} (hf : X.env.frame = some X.env.locals) (tk : TakesF X W) : Takes X W := fun u s' ⟨a, B, sI, pins, σ, H, cls, d, h1, h2, h3, h4, h5, h6, h7, h8, h9⟩ => tk u s' ⟨a, B, sI, pins, σ, H, cls, d, _, hf, h1, h2, h3, h4, h5, h6, h7, h8, h9⟩
theorem takesF_ofT {X : Cx} {W : WX} (hf : X.env.frame = some X.env.locals) (tk : Takes X W) : TakesF X W := fun u s' ⟨a, B, sI, pins, σ, H, cls, d, L, h0, h1, h2, h3, h4, h5, h6, h7, h8, h9⟩ => by
  rw [hf] at h0
  cases h0
  exact tk u s' ⟨a, B, sI, pins, σ, H, cls, d, h1, h2, h3, h4, h5, h6, h7, h8, h9⟩

theorem loop_snd {K : KM} {W : WX} {T : Tab} {ios : List Nat} {J : It} {i : Nat} {body : ISs} {xs : List Dat} {vI : List V} {ρ1 : DEnv} {B : Hp} {σ : L2.St} {H1 : Hp} {D : Ends} (hi : i ∉ ios)
    (l : IsL K H1 vI xs) (wk : Walker J vI H1) (R : REnv K B σ H1 ρ1) (w : wantS K W B ios σ H1 D (loop (turnOf (execs T ios body) i) xs ρ1)) :
    ∃ Wi : Nat → Nat → L2.St → Hp → Prop, (∃ m, Wi 0 m σ H1) ∧ ∀ j m σ H, Wi j m σ H →
      (J.stop j H ∧ D.nx σ H) ∨ (J.go j H ∧ ∃ N : L2.St → Hp → Prop, (∀ σ' H', N σ' H' → ∃ m', m' < m ∧ Wi (j + 1) m' σ' H') ∧ ∀ x H', J.yld j H x H' → gName i x σ H' fun σ2 H2 => tQU K W T ios body { D with nx := N, ct := N, bk := D.nx } σ2 H2) := by
  refine ⟨fun j m σ' H' => ∃ ρk, m = xs.length - j ∧ j ≤ xs.length ∧ loop (turnOf (execs T ios body) i) (xs.drop j) ρk = loop (turnOf (execs T ios body) i) xs ρ1 ∧ REnv K B σ' H' ρk ∧ FrzLe H1 H' ∧ Kp ios σ σ',
    ⟨xs.length, ρ1, by omega, Nat.zero_le _, rfl, R, FrzLe.refl H1, Kp.refl σ⟩, ?_⟩
  rintro j m σ' H' ⟨ρk, rfl, hj, hlo, Rk, fk, kk⟩
  by_cases hlt : j < xs.length
  · right
    obtain ⟨v, hv, hIs⟩ := l.get (List.getElem?_eq_getElem hlt)
    obtain ⟨hgo, hy⟩ := (wk j H' fk).1 v hv
    rw [List.drop_eq_getElem_cons hlt] at hlo
    have hlo' : ((execs T ios body (ρk.set i (.val xs[j]))).bind fun o => (match o with
      | .nx ρ1 => loop (turnOf (execs T ios body) i) (xs.drop (j + 1)) ρ1
      | .rt d new ρ1 => .ok (.rt d new ρ1))) = loop (turnOf (execs T ios body) i) xs ρ1 := hlo
    refine ⟨hgo, fun σ2 H2 => ∃ ρ2, j + 1 ≤ xs.length ∧ loop (turnOf (execs T ios body) i) (xs.drop (j + 1)) ρ2 = loop (turnOf (execs T ios body) i) xs ρ1 ∧ REnv K B σ2 H2 ρ2 ∧ FrzLe H1 H2 ∧ Kp ios σ σ2,
      fun σ2 H2 ⟨ρ2, a1, a2, a3, a4, a5⟩ => ⟨xs.length - (j + 1), by omega, ρ2, rfl, a1, a2, a3, a4, a5⟩, fun x H2 hyl => ?_⟩
    obtain ⟨e1, e2⟩ := hy x H2 hyl
    subst e1
    subst e2
    refine ⟨_, B, Rk.setVal i (hIs.mono fk), ?_⟩
    cases hb : execs T ios body (ρk.set i (.val xs[j])) with
    | stuck =>
      rw [hb] at hlo'
      have e : loop (turnOf (execs T ios body) i) xs ρ1 = .stuck := hlo'.symm
      rw [e] at w
      exact w
    | exc c fs ρ3 =>
      rw [hb] at hlo'
      have e : loop (turnOf (execs T ios body) i) xs ρ1 = .exc c fs ρ3 := hlo'.symm
      rw [e] at w
      exact fun cls d σ3 H3 R3 f3 k3 xc => w cls d σ3 H3 R3 (fk.trans f3) ((kk.trans (Kp.set hi)).trans k3) xc
    | ok o =>
      rw [hb] at hlo'
      cases o with
      | nx ρ3 => exact fun σ3 H3 R3 f3 k3 => ⟨ρ3, hlt, hlo', R3, fk.trans f3, (kk.trans (Kp.set hi)).trans k3⟩
      | rt d new ρ3 =>
        have e : loop (turnOf (execs T ios body) i) xs ρ1 = .ok (.rt d new ρ3) := hlo'.symm
        rw [e] at w
        exact fun σ3 H3 v3 R3 f3 k3 rv => w σ3 H3 v3 R3 (fk.trans f3) ((kk.trans (Kp.set hi)).trans k3) rv
  · left
    have ej : j = xs.length := by omega
    subst ej
    rw [List.drop_length] at hlo
    have e : loop (turnOf (execs T ios body) i) xs ρ1 = .ok (.nx ρk) := hlo.symm
    rw [e] at w
    exact ⟨(wk _ H' fk).2 (by rw [l.length]; omega), w σ' H' Rk fk kk⟩

theorem app_few {e : Expr} {env : PySem.Env} {cp : Pos} (h : noStar e = true) : ((backTo cp (starEach [e] env)).all (fun x => !x.1) && (backToKw cp (keywordEach [] env)).all (fun x => x.1.isSome)
      && decide (([e] : List Expr).length + ([] : List Keyword).length + (if ([] : List Keyword).isEmpty then 0 else 1) < 30)) = true := by
  rw [star_cons h]
  rfl
/-- a statement is sound -/
def SndS (T : Tab) (n : Nat) (ios : List Nat) (is : IS) : Prop := ∀ {hot : Bool} {ea : Option EA} {X : Cx} {st : Stmt} {W : WX}, GoodS T n hot ea X → TakesF X W → chkS X.N hot X.env.scope is st = true → ∀ ρ, PS X st (tQ (X.km ea) W ios ρ (exec T ios is ρ))
def SndSs (T : Tab) (n : Nat) (ios : List Nat) (ss : ISs) : Prop := ∀ {hot : Bool} {ea : Option EA} {X : Cx} {l : List Stmt} {W : WX}, GoodS T n hot ea X → TakesF X W → chkSs X.N hot X.env.scope ss l = true → ∀ ρ, PSs X l (tQ (X.km ea) W ios ρ (execs T ios ss ρ))

/-- the parts of a comprehension that is checked -/
theorem lcP_of {T : Tab} {n : Nat} {hot : Bool} {ea : Option EA} {X : Cx} {W : WX} (g : Good T n hot ea X) (tk : TakesF X W) {ie : IE} {y0 tg it : Expr} {ifs : List Expr} {scope : Scope} {pos : Pos} {k : Int} (c : chk X.N hot X.env.scope ie (.ListComp y0 [⟨tg, it, ifs, k⟩] scope pos) = true) (ρ : DEnv) :
    hot = false ∧ k = 0 ∧ LcP X (X.km ea) W ρ (ev T ie ρ) y0 tg it ifs scope ∧ ∀ d m ρ', ev T ie ρ = .ok (d, m, ρ') → m = .fresh := by
  have fr : ∀ vs one xs ρ0 d m ρ', comp vs one xs ρ0 = .ok (d, m, ρ') → m = .fresh := by
    intro vs one xs ρ0 d m ρ' h
    unfold comp at h
    split at h
    · cases q : turns one xs ρ0 with
      | ok a => rw [q] at h; cases h; rfl
      | exc c fs ρ2 => rw [q] at h; cases h
      | stuck => rw [q] at h; cases h
    · cases h
  cases ie with
  | lc elt tg' it' own =>
    simp only [chk] at c
    split at c
    · rename_i y1 x0 p0 i0 scope1 p1 eq
      cases eq
      have c1 := and_and c
      have c2 := and_and c1.1
      have c3 := and_and c2.1
      have c4 := and_and c3.1
      have c5 := and_and c4.1
      have c6 := and_and c5.1
      have c7 := not_hot c6.1
      have pe' : ∀ (σ : L2.St) (s : Shared) (H : Hp) (C : Addr) (cl : List (Str × Addr)) (fp : List Addr) (xe : Value → Shared → Prop), TakesF (X.blkX s H scope (compEnvC scope cl C X.env) fp xe) (wIn W σ) → PE (X.blkX s H scope (compEnvC scope cl C X.env) fp xe) y0 (tUK (X.km ea) (wIn W σ) T elt) := fun σ s H C cl fp xe tk' => pe_UK (X := X.blkX s H scope (compEnvC scope cl C X.env) fp xe) fun ρ' => keep_of (X := X.blkX s H scope (compEnvC scope cl C X.env) fp xe) (sndR elt (g.blk c7.1 s H scope cl C fp xe) tk' c1.2 ρ')
      refine ⟨c7.1, rfl, ?_, fun d m ρ' h => ?_⟩
      · have z := lc_mk (ea := ea) (p0 := p0) (one := oneOf (ev T elt) tg' (own.map (·.2))) (tt := fun _ => tYes) (te := fun σ => tUK (X.km ea) (wIn W σ) T elt) g.nd c6.2 (of_decide_eq_true c5.2) c3.2 c7.2 (keep_of (sndR it' g tk c2.2 ρ)) (fun σ => step_lc) (fun σ s H C cl fp xe tk' => pts_nil) pe'
        simp only [ev]
        exact z
      · simp only [ev] at h
        obtain ⟨_, _, h3⟩ := Res.bind_ok h
        obtain ⟨_, _, h4⟩ := Res.bind_ok h3
        exact fr _ _ _ _ _ _ _ h4
    · cases c
  | lcI elt tg' it' cond own =>
    simp only [chk] at c
    split at c
    · rename_i y1 x0 p0 i0 cc0 scope1 p1 eq
      cases eq
      have c0 := and_and c
      have c1 := and_and c0.1
      have c2 := and_and c1.1
      have c3 := and_and c2.1
      have c4 := and_and c3.1
      have c5 := and_and c4.1
      have c6 := and_and c5.1
      have c7 := and_and c6.1
      have c8 := not_hot c7.1
      have pe' : ∀ (σ : L2.St) (s : Shared) (H : Hp) (C : Addr) (cl : List (Str × Addr)) (fp : List Addr) (xe : Value → Shared → Prop), TakesF (X.blkX s H scope (compEnvC scope cl C X.env) fp xe) (wIn W σ) → PE (X.blkX s H scope (compEnvC scope cl C X.env) fp xe) y0 (tUK (X.km ea) (wIn W σ) T elt) := fun σ s H C cl fp xe tk' => pe_UK (X := X.blkX s H scope (compEnvC scope cl C X.env) fp xe) fun ρ' => keep_of (X := X.blkX s H scope (compEnvC scope cl C X.env) fp xe) (sndR elt (g.blk c8.1 s H scope cl C fp xe) tk' c1.2 ρ')
      have pt' : ∀ (σ : L2.St) (s : Shared) (H : Hp) (C : Addr) (cl : List (Str × Addr)) (fp : List Addr) (xe : Value → Shared → Prop), TakesF (X.blkX s H scope (compEnvC scope cl C X.env) fp xe) (wIn W σ) → PTs (X.blkX s H scope (compEnvC scope cl C X.env) fp xe) [cc0] (tUT (X.km ea) (wIn W σ) T cond) := fun σ s H C cl fp xe tk' => pts_one (pt_U (X := X.blkX s H scope (compEnvC scope cl C X.env) fp xe) fun ρ' => sndTR cond (g.blk c8.1 s H scope cl C fp xe) tk' c8.2 c0.2 ρ')
      refine ⟨c8.1, rfl, ?_, fun d m ρ' h => ?_⟩
      · have z := lc_mk (ea := ea) (p0 := p0) (one := oneIf (ev T cond) (ev T elt) tg' (own.map (·.2))) (tt := fun σ => tUT (X.km ea) (wIn W σ) T cond) (te := fun σ => tUK (X.km ea) (wIn W σ) T elt) g.nd c6.2 (of_decide_eq_true c5.2) c3.2 c7.2 (keep_of (sndR it' g tk c2.2 ρ)) (fun σ => step_lcI) pt' pe'
        simp only [ev]
        exact z
      · simp only [ev] at h
        obtain ⟨_, _, h3⟩ := Res.bind_ok h
        obtain ⟨_, _, h4⟩ := Res.bind_ok h3
        exact fr _ _ _ _ _ _ _ h4
    · cases c
  | lcR elt tg' a' own =>
    simp only [chk] at c
    split at c
    · rename_i y1 x0 p0 r0 p2 i0 p3 scope1 p1 eq
      cases eq
      have c1 := and_and c
      have c2 := and_and c1.1
      have c3 := and_and c2.1
      have c4 := and_and c3.1
      have c5 := and_and c4.1
      have c6 := and_and c5.1
      have c7 := and_and c6.1
      have c8 := and_and c7.1
      have c9 := not_hot c8.1
      have e1 := of_decide_eq_true c9.2
      subst e1
      have pe' : ∀ (σ : L2.St) (s : Shared) (H : Hp) (C : Addr) (cl : List (Str × Addr)) (fp : List Addr) (xe : Value → Shared → Prop), TakesF (X.blkX s H scope (compEnvC scope cl C X.env) fp xe) (wIn W σ) → PE (X.blkX s H scope (compEnvC scope cl C X.env) fp xe) y0 (tUK (X.km ea) (wIn W σ) T elt) := fun σ s H C cl fp xe tk' => pe_UK (X := X.blkX s H scope (compEnvC scope cl C X.env) fp xe) fun ρ' => keep_of (X := X.blkX s H scope (compEnvC scope cl C X.env) fp xe) (sndR elt (g.blk c9.1 s H scope cl C fp xe) tk' c1.2 ρ')
      refine ⟨c9.1, rfl, ?_, fun d m ρ' h => ?_⟩
      · have z := lc_mkR (ea := ea) (p0 := p0) (p2 := p2) (p3 := p3) (one := oneOf (ev T elt) tg' (own.map (·.2))) (tt := fun _ => tYes) (te := fun σ => tUK (X.km ea) (wIn W σ) T elt) g.nd c6.2 (of_decide_eq_true c5.2) c3.2 (glo_of c8.2) g.mod.rng c7.2 (sndR a' g tk c2.2 ρ) (fun σ => step_lc) (fun σ s H C cl fp xe tk' => pts_nil) pe'
        simp only [ev]
        exact z
      · simp only [ev] at h
        obtain ⟨_, _, h3⟩ := Res.bind_ok h
        try dsimp only at h3
        split at h3
        · split at h3
          · exact fr _ _ _ _ _ _ _ h3
          · cases h3
        · cases h3
    · cases c
  | _ => exfalso; simp only [chk] at c; first | (cases c; done) | (split at c <;> first | (cases c; done) | (rename_i q; cases q))
section
variable {T : Tab} {n : Nat} {ios : List Nat}
theorem sS_set {i : Nat} {e : IE} : SndS T n ios (.set i e) := by
  intro hot ea X st W g tk c ρ
  simp only [exec]
  split
  · exact ps_stuck
  · rename_i hi
    simp only [chkS] at c
    split at c
    · rename_i x px e' pos
      have c1 := and_and c
      have c2 := and_and c1.1
      have hN : X.N[i]? = some x := of_decide_eq_true c2.1
      have key : ∀ (d : Dat) (m m' : Mode) (ρ1 ρ2 : DEnv), PS X (.Assign [.Name x px] e' pos) (tAsg (tS (X.km ea) ρ d m' ρ2) (gName i)) → (∀ B σ H v, REnv (X.km ea) B σ H ρ2 → RV (X.km ea) B σ ρ2 H v d m' → REnv (X.km ea) B (σ.set i (some v)) H (store i d m ρ1)) →
          PS X (.Assign [.Name x px] e' pos) (tQ (X.km ea) W ios ρ (.ok (.nx (store i d m ρ1)))) := fun d m m' ρ1 ρ2 hp hs =>
        hp.imp fun D σ H ⟨B, R, kn⟩ => ⟨B, R, fun v H1 R1 f1 rv => kn _ H1 (hs B σ H1 v R1 rv) f1 (Kp.set hi)⟩
      have fresh : ∀ (d : Dat) (ρ1 : DEnv) B σ H v, REnv (X.km ea) B σ H ρ1 → RV (X.km ea) B σ ρ1 H v d .fresh → REnv (X.km ea) B (σ.set i (some v)) H (store i d .fresh ρ1) := fun d ρ1 B σ H v R rv => by
        obtain ⟨p, rfl, ho, bp, ns⟩ := rv
        exact R.setOwn i ho bp ns
      cases hlc : isLc e' with
      | false =>
        have he := sndR (hot := hot) e g.toGood tk c1.2 ρ
        cases h1 : ev T e ρ with
        | stuck => exact ps_stuck
        | exc cc fs ρ1 => exact (ps_set g.nd hN (locB_of c2.2) (ex_of he h1) (no_swap hlc) (.inl (g.fnT x))).imp fun D σ H h => exc_in (Q := fun _ _ => True) h
        | ok a =>
          obtain ⟨d, m, ρ1⟩ := a
          cases m with
          | frz => exact key d .frz .frz ρ1 ρ1 (ps_set g.nd hN (locB_of c2.2) (ok_of he h1) (no_swap hlc) (.inl (g.fnT x))) fun B σ H v R rv => R.setVal i rv
          | fresh => exact key d .fresh .fresh ρ1 ρ1 (ps_set g.nd hN (locB_of c2.2) (ok_of he h1) (no_swap hlc) (.inl (g.fnT x))) (fresh d ρ1)
          | brw j => exact key d (.brw j) .frz ρ1 _ (ps_set g.nd hN (locB_of c2.2) (pe_keep (ok_of he h1)) (no_swap hlc) (.inl (g.fnT x))) fun B σ H v R rv => R.setVal i rv
      | true =>
        obtain ⟨y0, tg, it, ifs, k, scope, lp, rfl⟩ : ∃ y0 tg it ifs k scope lp, e' = .ListComp y0 [⟨tg, it, ifs, k⟩] scope lp := by
          have c' := c1.2
          cases e' with
          | ListComp y0 gs scope lp =>
            cases e <;> simp only [chk] at c' <;> first | (cases c'; done) | (split at c' <;> first | (cases c'; done) | (rename_i q; cases q; exact ⟨_, _, _, _, _, _, _, rfl⟩))
          | SetComp _ _ _ _ => cases e <;> simp [chk] at c'
          | DictComp _ _ _ _ _ => cases e <;> simp [chk] at c'
          | _ => cases hlc
        obtain ⟨hh, rfl, lp', mf⟩ := lcP_of g.toGood tk c1.2 ρ
        obtain ⟨L, fm⟩ := g.frm
        have both : PS X (.Assign [.Name x px] (.ListComp y0 [⟨tg, it, ifs, 0⟩] scope lp) pos) (tAsg (tR (X.km ea) W ρ (ev T e ρ)) (gName i)) := by
          cases hsw : (X.env.blockKind == .function && X.env.kindOf x == some .local && px.line == lp.line && !(scope.names.any fun (n, k) => n == x && (k == .local || k == .cell))) with
          | false => exact ps_set g.nd hN (locB_of c2.2) (pe_lcP (g.calm hh) g.nd tk fm lp') (by rw [lc_swap, hsw]) (.inl (g.fnT x))
          | true =>
            have s1 := and_and (and_and (and_and hsw).1).1
            have hy : X.env.scope.names.lookup x = some .local := eq_of_beq s1.2
            obtain ⟨wi, gg, tt, te, own, h1, h2, h3, h4, h5, h6, h7⟩ := lp'
            exact (ps_setLcX (g.calm hh) g.nd hN hy (by rw [lc_swap, hsw]) h1 h2 tk fm h3 h4 h5 h6).imp fun D σ H q => h7 σ H _ q
        cases h1 : ev T e ρ with
        | stuck => exact ps_stuck
        | exc cc fs ρ1 => rw [h1] at both; exact both.imp fun D σ H h => exc_in (Q := fun _ _ => True) h
        | ok a =>
          obtain ⟨d, m, ρ1⟩ := a
          have em := mf d m ρ1 h1
          subst em
          rw [h1] at both
          exact key d .fresh .fresh ρ1 ρ1 both (fresh d ρ1)
    · cases c
theorem sS_par {is : List Nat} {es : IEs} : SndS T n ios (.par is es) := by
  intro hot ea X st W g tk c ρ
  simp only [exec]
  split
  · exact ps_stuck
  · rename_i hio
    have nio : ∀ i ∈ is, i ∉ ios := fun i hi z => hio (List.any_eq_true.mpr ⟨i, hi, List.contains_iff_mem.mpr z⟩)
    simp only [chkS] at c
    split at c
    · split at c
      · rename_i i j
        have c1 := and_and c
        have c2 := and_and c1.1
        have c3 := and_and c2.1
        have c4 := and_and c3.1
        have c5 := and_and c4.1
        have c6 := and_and c5.1
        have c7 := not_hot c6.1
        have hes := sndsR (hot := hot) es g.toGood tk c1.2 ρ
        cases h1 : evs T es ρ with
        | stuck => exact ps_stuck
        | exc cc fs ρ1 => exact (ps_par (g.calm c7.1) g.nd (of_decide_eq_true c6.2) (of_decide_eq_true c5.2) (of_decide_eq_true c4.2) (of_decide_eq_true c3.2) (of_decide_eq_true c2.2) (exA_of hes h1) (par_swap (of_decide_eq_true c7.2))).imp fun D σ H h => exc_inA (Q := fun _ _ => True) h
        | ok a =>
          obtain ⟨ds, ρ1⟩ := a
          show PS X _ (tQ (X.km ea) W ios ρ (if ds.length = _ then _ else _))
          split
          · rename_i hlen
            refine (ps_par (g.calm c7.1) g.nd (of_decide_eq_true c6.2) (of_decide_eq_true c5.2) (of_decide_eq_true c4.2) (of_decide_eq_true c3.2) (of_decide_eq_true c2.2) (okA_of hes h1) (par_swap (of_decide_eq_true c7.2))).imp fun D σ H ⟨B, R, kn⟩ => ⟨B, R, fun vs H1 R1 f1 l => ?_⟩
            cases l with
            | nil => cases hlen
            | cons a1 l =>
              cases l with
              | nil => cases hlen
              | cons a2 l =>
                cases l with
                | nil =>
                  refine ⟨_, _, rfl, kn _ H1 ((R1.setVal i a1).setVal j a2) f1 ?_⟩
                  exact (Kp.set (nio i (by simp))).trans (Kp.set (nio j (by simp)))
                | cons _ _ => simp at hlen
          · exact ps_stuck
      · cases c
    · split at c
      · rename_i i j k
        have c1 := and_and c
        have c2 := and_and c1.1
        have c3 := and_and c2.1
        have c4 := and_and c3.1
        have c5 := and_and c4.1
        have c6 := and_and c5.1
        have c7 := and_and c6.1
        have c8 := and_and c7.1
        have c9 := and_and c8.1
        have c10 := and_and c9.1
        have c11 := not_hot c10.1
        have hes := sndsR (hot := hot) es g.toGood tk c1.2 ρ
        cases h1 : evs T es ρ with
        | stuck => exact ps_stuck
        | exc cc fs ρ1 => exact (ps_par3 (g.calm c11.1) g.nd (of_decide_eq_true c10.2) (of_decide_eq_true c9.2) (of_decide_eq_true c8.2) (of_decide_eq_true c7.2) (of_decide_eq_true c6.2) (of_decide_eq_true c5.2) (of_decide_eq_true c4.2) (of_decide_eq_true c3.2) (of_decide_eq_true c2.2) (exA_of hes h1) (par_swap (of_decide_eq_true c11.2))).imp fun D σ H h => exc_inA (Q := fun _ _ => True) h
        | ok a =>
          obtain ⟨ds, ρ1⟩ := a
          show PS X _ (tQ (X.km ea) W ios ρ (if ds.length = _ then _ else _))
          split
          · rename_i hlen
            refine (ps_par3 (g.calm c11.1) g.nd (of_decide_eq_true c10.2) (of_decide_eq_true c9.2) (of_decide_eq_true c8.2) (of_decide_eq_true c7.2) (of_decide_eq_true c6.2) (of_decide_eq_true c5.2) (of_decide_eq_true c4.2) (of_decide_eq_true c3.2) (of_decide_eq_true c2.2) (okA_of hes h1) (par_swap (of_decide_eq_true c11.2))).imp fun D σ H ⟨B, R, kn⟩ => ⟨B, R, fun vs H1 R1 f1 l => ?_⟩
            cases l with
            | nil => cases hlen
            | cons a1 l =>
              cases l with
              | nil => simp at hlen
              | cons a2 l =>
                cases l with
                | nil => simp at hlen
                | cons a3 l =>
                  cases l with
                  | nil =>
                    refine ⟨_, _, _, rfl, kn _ H1 (((R1.setVal i a1).setVal j a2).setVal k a3) f1 ?_⟩
                    exact ((Kp.set (nio i (by simp))).trans (Kp.set (nio j (by simp)))).trans (Kp.set (nio k (by simp)))
                  | cons _ _ => simp at hlen
          · exact ps_stuck
      · cases c
    · cases c
theorem sS_ret {e : IE} : SndS T n ios (.ret e) := by
  intro hot ea X st W g tk c ρ
  simp only [exec]
  simp only [chkS] at c
  split at c
  · have he := sndR (hot := hot) e g.toGood tk c ρ
    cases h1 : ev T e ρ with
    | stuck => exact ps_stuck
    | exc cc fs ρ1 => exact (ps_ret (ex_of he h1)).imp fun D σ H h => exc_in (Q := fun _ _ => True) h
    | ok a =>
      obtain ⟨d, m, ρ1⟩ := a
      have he := ok_of he h1
      cases m with
      | frz => exact (ps_ret he).imp fun D σ H ⟨B, R, kr⟩ => ⟨B, R, fun v H1 R1 f1 rv => kr σ H1 v R1 f1 (Kp.refl σ) rv⟩
      | fresh => exact (ps_ret he).imp fun D σ H ⟨B, R, kr⟩ => ⟨B, R, fun v H1 R1 f1 rv => kr σ H1 v R1 f1 (Kp.refl σ) rv⟩
      | brw i =>
        show PS X _ (tQ (X.km ea) W ios ρ (if i ∈ ios then _ else _))
        split
        · exact ps_stuck
        · rename_i hi
          refine (ps_ret he).imp fun D σ H ⟨B, R, kr⟩ => ⟨B, R, fun v H1 R1 f1 rv => ?_⟩
          obtain ⟨r1, r2⟩ := rv
          obtain ⟨p, g1, g2, g3⟩ := R1.own i _ r2
          rw [r1] at g1
          cases g1
          refine kr (σ.set i none) H1 _ (R1.setNo i) f1 (Kp.set hi) ⟨p, rfl, g3, g2, fun j e hj z => ?_⟩
          rw [set_get] at hj z
          split at hj
          · split at hj <;> cases hj
          · rename_i nij
            rw [if_neg nij] at z
            exact nij (R1.sep i j _ _ p r2 hj r1 z)
  · cases c
theorem sS_ite {z : IE} {a b : ISs} (ha : SndSs T n ios a) (hb : SndSs T n ios b) : SndS T n ios (.ite z a b) := by
  intro hot ea X st W g tk c ρ
  simp only [exec]
  simp only [chkS] at c
  split at c
  · have c1 := and_and c
    have c2 := and_and c1.1
    have c3 := and_and c2.1
    have he := sndTR (hot := hot) z g.toGood tk c3.1 c3.2 ρ
    cases h1 : ev T z ρ with
    | stuck => exact ps_stuck
    | exc cc fs ρ1 => exact (ps_if (exT_of he h1) pss_no pss_no).imp fun D σ H h => exc_inT (Q := fun _ _ => True) h
    | ok x =>
      obtain ⟨d, m, ρ1⟩ := x
      cases d with
      | bl v =>
        cases v with
        | true =>
          refine (ps_if (okT_of he h1) (ha g tk c2.2 ρ1) pss_no).imp fun D σ H ⟨B, R, w⟩ => ⟨B, R, fun H1 R1 f1 => ?_⟩
          refine iteT ?_
          exact ⟨B, R1, wantS.step f1 (Kp.refl σ) w⟩
        | false =>
          refine (ps_if (okT_of he h1) pss_no (hb g tk c1.2 ρ1)).imp fun D σ H ⟨B, R, w⟩ => ⟨B, R, fun H1 R1 f1 => ?_⟩
          refine iteF ?_
          exact ⟨B, R1, wantS.step f1 (Kp.refl σ) w⟩
      | _ => exact ps_stuck
  · cases c
theorem sS_forV {i : Nat} {it : IE} {body : ISs} (hbd : SndSs T n ios body) : SndS T n ios (.forV i it body) := by
  intro hot ea X st W g tk c ρ
  simp only [exec]
  split
  · exact ps_stuck
  · rename_i hi
    simp only [chkS] at c
    split at c
    · rename_i x0 p0 it' b' pos
      have c1 := and_and c
      have c2 := and_and c1.1
      have c3 := and_and c2.1
      have c4 := and_and c3.1
      have c5 := not_hot c4.1
      have hN : X.N[i]? = some x0 := of_decide_eq_true c5.2
      have he := keep_of (sndR (hot := hot) it g.toGood tk c2.2 ρ)
      have pg : PG X (.Name x0 p0) (gName i) := pg_name g.nd hN (locB_of c4.2) (.inl (g.fnT x0))
      have pb : PSs X b' (tQU (X.km ea) W T ios body) := ⟨fun pins s σ H D I ⟨ρ', e2⟩ => (hbd g tk c1.2 ρ').run pins s σ H D I e2⟩
      cases h1 : ev T it ρ with
      | stuck => exact ps_stuck
      | exc cc fs ρ1 =>
        rw [h1] at he
        exact (ps_for g.px (g.calm c5.1) (pi_list he) pg pb (noSet_fold c3.2)).imp fun D σ H h => exc_in (Q := fun _ _ => True) h
      | ok a =>
        obtain ⟨x, m, ρ1⟩ := a
        rw [h1] at he
        cases x with
        | lst ds =>
          refine (ps_for g.px (g.calm c5.1) (pi_list he) pg pb (noSet_fold c3.2)).imp fun D σ H ⟨B, R, w⟩ => ⟨B, R, fun v H1 R1 f1 rv => ?_⟩
          cases rv with
          | lst a l => exact ⟨_, rfl, ⟨_, .inl (.inr ⟨_, a⟩)⟩, loop_snd hi l (walker_list (K := X.km ea) a) R1 (wantS.step f1 (Kp.refl σ) w)⟩
        | tup ds =>
          refine (ps_for g.px (g.calm c5.1) (pi_tup he) pg pb (noSet_fold c3.2)).imp fun D σ H ⟨B, R, w⟩ => ⟨B, R, fun v H1 R1 f1 rv => ?_⟩
          cases rv with
          | tup a l => exact ⟨_, rfl, ⟨_, a⟩, loop_snd hi l (walker_tup (K := X.km ea) a) R1 (wantS.step f1 (Kp.refl σ) w)⟩
        | str s =>
          refine (ps_for g.px (g.calm c5.1) (pi_str he) pg pb (noSet_fold c3.2)).imp fun D σ H ⟨B, R, w⟩ => ⟨B, R, fun v H1 R1 f1 rv => ?_⟩
          cases rv
          exact ⟨_, rfl, loop_snd hi (signs_is s) (walker_str s) R1 (wantS.step f1 (Kp.refl σ) w)⟩
        | _ => exact ps_stuck
    · cases c
theorem sS_forR {i : Nat} {a : IE} {body : ISs} (hbd : SndSs T n ios body) : SndS T n ios (.forR i a body) := by
  intro hot ea X st W g tk c ρ
  simp only [exec]
  split
  · exact ps_stuck
  · rename_i hi
    simp only [chkS] at c
    split at c
    · rename_i x0 p0 r0 p1 a' p2 b' pos
      have c1 := and_and c
      have c2 := and_and c1.1
      have c3 := and_and c2.1
      have c4 := and_and c3.1
      have c5 := and_and c4.1
      have c6 := and_and c5.1
      have c7 := not_hot c6.1
      have hN : X.N[i]? = some x0 := of_decide_eq_true c7.2
      have e1 := of_decide_eq_true c5.2
      subst e1
      have he := sndR (hot := hot) a g.toGood tk c2.2 ρ
      have pg : PG X (.Name x0 p0) (gName i) := pg_name g.nd hN (locB_of c6.2) (.inl (g.fnT x0))
      have pb : PSs X b' (tQU (X.km ea) W T ios body) := ⟨fun pins s σ H D I ⟨ρ', e2⟩ => (hbd g tk c1.2 ρ').run pins s σ H D I e2⟩
      have rule := fun {t : TE} (h : PE X a' t) => ps_for (pos := pos) g.px (g.calm c7.1) (pi_range1 (p := p1) (pos := p2) (glo_of c4.2) g.mod.rng (pa_cons h pa_nil (star_cons c3.2)) (star_cons c3.2)) pg pb (noSet_fold rfl)
      cases h1 : ev T a ρ with
      | stuck => exact ps_stuck
      | exc cc fs ρ1 => exact (rule (ex_of he h1)).imp fun D σ H h => exc_in (Q := fun _ _ => True) h
      | ok v =>
        obtain ⟨x, m, ρ1⟩ := v
        cases x with
        | int j =>
          show PS X _ (tQ (X.km ea) W ios ρ (if -(2 ^ 62) ≤ j ∧ j < 2 ^ 62 then _ else _))
          split
          · rename_i hj
            refine (rule (ok_of he h1)).imp fun D σ H ⟨B, R, w⟩ => ⟨B, R, fun v H1 R1 f1 rv => ?_⟩
            have ev1 := (rdb_of R1 rv).int
            subst ev1
            exact ⟨j, rfl, hj.1, hj.2, loop_snd hi (rng_is j) (walker_rng j) R1 (wantS.step f1 (Kp.refl σ) w)⟩
          · exact ps_stuck
        | _ => exact ps_stuck
    · cases c
theorem sS_app {i : Nat} {e : IE} : SndS T n ios (.app i e) := by
  intro hot ea X st W g tk c ρ
  simp only [chkS] at c
  split at c
  · have c1 := and_and c
    have c2 := and_and c1.1
    have c3 := and_and c2.1
    have c4 := and_and c3.1
    have c5 := and_and c4.1
    have c6 := and_and c5.1
    have e1 := of_decide_eq_true c6.1
    subst e1
    have hN := of_decide_eq_true c6.2
    have he := sndR (hot := hot) e g.toGood tk c1.2 ρ
    simp only [exec]
    split
    · rename_i d0 h0
      cases h1 : ev T e ρ with
      | stuck => exact ps_stuck
      | exc cc fs ρ1 =>
        refine (ps_expr (pe_bm PySem.F.plainAttrs_list PySem.F.slot_list_append PySem.F.type_list_append mt_append (pe_var hN (vis_of c5.2) (odd1 c4.2) (odd2 c4.2)) (pa_cons (ex_of he h1) pa_nil (star_cons c2.2)) rfl (app_few c2.2) c3.2 (star_cons c2.2) rfl)).imp fun D σ H h => ?_
        obtain ⟨B, R, w⟩ := h
        obtain ⟨p, g1, g2, vs0, ds0, e0, g3, g4⟩ := R.own i _ h0
        exact ⟨.ref p, g1, .inl ⟨rfl, vs0, .inl (.inl g3)⟩, exc_in (Q := fun _ _ => True) (D := D) ⟨B, R, w⟩⟩
      | ok a =>
        obtain ⟨d, m, ρ1⟩ := a
        show PS X _ (tQ (X.km ea) W ios ρ (match (keep m ρ1 d)[i]? with | some (.own (.lst ds)) => _ | _ => _))
        split
        · rename_i ds hd
          split
          · rename_i hz
            refine (ps_expr (pe_bm PySem.F.plainAttrs_list PySem.F.slot_list_append PySem.F.type_list_append mt_append (pe_var hN (vis_of c5.2) (odd1 c4.2) (odd2 c4.2)) (pa_cons (pe_keep (ok_of he h1)) pa_nil (star_cons c2.2)) rfl (app_few c2.2) c3.2 (star_cons c2.2) rfl)).imp fun D σ H ⟨B, R, kn⟩ => ?_
            obtain ⟨p, g1, g2, vs0, ds0, e0, g3, g4⟩ := R.own i _ h0
            refine ⟨.ref p, g1, .inl ⟨rfl, vs0, .inl (.inl g3)⟩, B, R, fun v H1 R1 f1 rv => ?_⟩
            obtain ⟨p', k1, k2, vs, ds', e2, k3, k4⟩ := R1.own i _ hd
            rw [g1] at k1
            cases k1
            cases e2
            have fm : FrzLe H1 (upd H1 p (.lst (vs ++ [v]))) := FrzLe.mut k3 rfl
            refine ⟨p, vs, v, rfl, rfl, k3, by rw [k4.length]; exact sm_lt hz, kn σ _ ?_ (f1.trans fm) (Kp.refl σ)⟩
            have hil : i < (keep m ρ1 d).length := (List.getElem?_eq_some_iff.mp hd).1
            refine ⟨fun a o' hb => ?_, ?_, fun j e' hj => ?_, fun j e' hj => ?_, fun j j' a b q a1 a2 a3 a4 => ?_, fun j cc fs hj => ?_⟩
            · rw [upd_ne (fun zz => by subst zz; rw [k2] at hb; cases hb)]; exact R1.base a o' hb
            · rw [List.length_set]; exact R1.len
            · rw [set_get, if_pos hil] at hj
              split at hj
              · cases hj
              · obtain ⟨w, w1, w2⟩ := R1.val j e' hj
                exact ⟨w, w1, w2.mono fm⟩
            · rw [set_get, if_pos hil] at hj
              split at hj
              · rename_i nn
                subst nn
                cases hj
                exact ⟨p, g1, k2, vs ++ [v], _, rfl, upd_same, (k4.append (.cons rv .nil)).mono fm⟩
              · rename_i nn
                obtain ⟨w, w1, w2, w3⟩ := R1.own j e' hj
                refine ⟨w, w1, w2, w3.mono fm (upd_ne fun y => ?_)⟩
                subst y
                exact nn (R1.sep i j _ _ w hd hj g1 w1)
            · have fix : ∀ (jj : Nat) x, ((keep m ρ1 d).set i (.own (.lst (ds ++ [d]))))[jj]? = some (.own x) → ∃ x', (keep m ρ1 d)[jj]? = some (.own x') := fun jj x hx => by
                rw [set_get] at hx
                split at hx
                · rename_i nn; subst nn; exact ⟨_, hd⟩
                · exact ⟨x, hx⟩
              obtain ⟨b1, q1⟩ := fix j a a1
              obtain ⟨b2, q2⟩ := fix j' b a2
              exact R1.sep j j' b1 b2 q q1 q2 a3 a4
            · rw [set_get, if_pos hil] at hj
              split at hj
              · cases hj
              · obtain ⟨x, x1, x2, x3, x4⟩ := R1.exn j cc fs hj
                exact ⟨x, x1, x2, x3, x4.mono fm⟩
          · exact ps_stuck
        · exact ps_stuck
    · exact ps_stuck
  · cases c
end
end Ev
set_option Elab.async false
set_option linter.all false
set_option maxRecDepth 100000
set_option maxHeartbeats 8000000
namespace Ev
open PySem PySem.Spec PyProof.Rows L2
theorem tup_swap {ts : List Expr} {k : Nat} {p : Pos} {e : Expr} {l : Nat} {env : PySem.Env} (h : isTupE e = true) : swapsWithSole [.Tuple ts k p] e l env = pure false ∧ swappedStores [.Tuple ts k p] e env = pure none := by
  cases e <;> first | exact ⟨rfl, rfl⟩ | cases h
/-- several names, one after the other -/
def setAll : List Nat → List V → L2.St → L2.St
  | i :: is, v :: vs, σ => setAll is vs (σ.set i (some v))
  | _, _, σ => σ
def tNm (is : List Nat) : TGs := fun vs σ H Q => vs.length = is.length ∧ Q (setAll is vs σ) H
theorem pgs_nm {X : Cx} (nd : X.N.Nodup) (fn : ∀ x, X.fn x = true) : ∀ {l : List Expr} {is : List Nat}, l.map nameOf = (is.map fun i => X.N[i]?) → (∀ i ∈ is, i < X.N.length) → l.all (isNm X.env.scope) = true →
    PGs X l (tNm is) ∧ (assignEach l X.env).length = is.length ∧ (assignEach l X.env).findIdx? (·.1) = none
  | [], [], _, _, _ => ⟨⟨fun pins s σ H vs us Q I r ⟨hl, q⟩ => by
      cases vs with
      | nil => exact pgs_nil.run pins s σ H [] us Q I r ⟨rfl, q⟩
      | cons _ _ => cases hl⟩, rfl, rfl⟩
  | [], _ :: _, h, _, _ => by simp at h
  | _ :: _, [], h, _, _ => by simp at h
  | t :: l, i :: is, h, hb, ha => by
    have h1 : nameOf t = X.N[i]? := by
      have := congrArg List.head? h
      simpa using this
    have h2 : l.map nameOf = (is.map fun i => X.N[i]?) := by
      have := congrArg List.tail h
      simpa using this
    have a1 : isNm X.env.scope t = true ∧ l.all (isNm X.env.scope) = true := by
      have := ha
      rw [List.all_cons] at this
      exact and_and this
    cases t with
    | Name x p =>
      obtain ⟨i1, i2, i3⟩ := pgs_nm nd fn h2 (fun j hj => hb j (List.mem_cons_of_mem _ hj)) a1.2
      have pg : PG X (.Name x p) (gName i) := pg_name nd h1.symm (locB_of a1.1) (.inl (fn x))
      refine ⟨⟨fun pins s σ H vs us Q I r ⟨hl, q⟩ => ?_⟩, ?_, ?_⟩
      · cases vs with
        | nil => cases hl
        | cons v vs => exact (pgs_cons pg i1).run pins s σ H (v :: vs) us Q I r ⟨v, vs, rfl, by simpa using hl, q⟩
      · show (assignEach l X.env).length + 1 = _
        rw [i2]; rfl
      · show ((false, assign (.Name x p) X.env) :: assignEach l X.env).findIdx? (·.1) = none
        rw [List.findIdx?_cons]
        simp [i3]
    | _ => exact nomatch a1.1
theorem REnv.setAll {K : KM} {B : Hp} {H : Hp} : ∀ {is : List Nat} {vs : List V} {ds : List Dat} {σ : L2.St} {ρ : DEnv}, REnv K B σ H ρ → IsL K H vs ds → vs.length = is.length → REnv K B (setAll is vs σ) H (storeAll is ds ρ)
  | [], [], _, σ, ρ, R, l, _ => by cases l; exact R
  | [], _ :: _, _, _, _, _, _, h => by cases h
  | _ :: _, [], _, _, _, _, _, h => by cases h
  | i :: is, v :: vs, _, σ, ρ, R, l, h => by
    cases l with
    | cons a l => exact REnv.setAll (is := is) (R.setVal i a) l (by simpa using h)
theorem Kp.setAll {ios : List Nat} : ∀ {is : List Nat} {vs : List V} {σ : L2.St}, (∀ i ∈ is, i ∉ ios) → Kp ios σ (setAll is vs σ)
  | [], [], σ, _ => Kp.refl σ
  | [], _ :: _, σ, _ => Kp.refl σ
  | _ :: _, [], σ, _ => Kp.refl σ
  | i :: is, v :: vs, σ, h => (Kp.set (h i List.mem_cons_self)).trans (Kp.setAll (is := is) fun j hj => h j (List.mem_cons_of_mem _ hj))
section
variable {T : Tab} {n : Nat} {ios : List Nat}
theorem sS_unp {is : List Nat} {e : IE} : SndS T n ios (.unp is e) := by
  intro hot ea X st W g tk c ρ
  simp only [exec]
  split
  · exact ps_stuck
  · rename_i hio
    have nio : ∀ i ∈ is, i ∉ ios := fun i hi z => hio (List.any_eq_true.mpr ⟨i, hi, List.contains_iff_mem.mpr z⟩)
    simp only [chkS] at c
    split at c
    · rename_i l k0 p0 e' pos
      have c1 := and_and c
      have c2 := and_and c1.1
      have c3 := and_and c2.1
      have c4 := and_and c3.1
      have c5 := not_hot c4.1
      obtain ⟨s1, s2⟩ := tup_swap (ts := l) (k := k0) (p := p0) (l := pos.line) (env := X.env) c5.2
      have he := keep_of (sndR (hot := hot) e g.toGood tk c1.2 ρ)
      have hb : ∀ i ∈ is, i < X.N.length := fun i hi => by
        have hm := of_decide_eq_true c4.2
        have : X.N[i]? ∈ l.map nameOf := by rw [hm]; exact List.mem_map.mpr ⟨i, hi, rfl⟩
        obtain ⟨t, ht, ht2⟩ := List.mem_map.mp this
        have ht3 := List.all_eq_true.mp c2.2 t ht
        cases t with
        | Name x p => exact (List.getElem?_eq_some_iff.mp ht2.symm).1
        | _ => exact nomatch ht3
      obtain ⟨pg, l1, l2⟩ := pgs_nm g.nd g.fnT (of_decide_eq_true c4.2) hb c2.2
      cases h1 : ev T e ρ with
      | stuck => exact ps_stuck
      | exc cc fs ρ1 =>
        rw [h1] at he
        exact (ps_asg he (pg_tup (g.calm c5.1) pg l1 l2) s1 s2 rfl).imp fun D σ H h => exc_in (Q := fun _ _ => True) h
      | ok a =>
        obtain ⟨d, m, ρ1⟩ := a
        rw [h1] at he
        show PS X _ (tQ (X.km ea) W ios ρ ((ofO (seqs d)).bind fun ds => if ds.length = is.length then .ok (.nx (storeAll is ds (keep m ρ1 d))) else .stuck))
        cases d with
        | tup ds =>
          show PS X _ (tQ (X.km ea) W ios ρ (if ds.length = is.length then _ else _))
          split
          · rename_i hl
            refine (ps_asg he (pg_tup (g.calm c5.1) pg l1 l2) s1 s2 rfl).imp fun D σ H ⟨B, R, w⟩ => ⟨B, R, fun v H1 R1 f1 rv => ?_⟩
            cases rv with
            | tup a l => exact ⟨_, _, rfl, a, by rw [l.length]; exact hl, by rw [l.length]; exact hl, w _ H1 (R1.setAll l (by rw [l.length]; exact hl)) f1 (Kp.setAll nio)⟩
          · exact ps_stuck
        | lst ds =>
          show PS X _ (tQ (X.km ea) W ios ρ (if ds.length = is.length then _ else _))
          split
          · rename_i hl
            refine (ps_asg he (pg_lst (g.calm c5.1) pg l1 l2) s1 s2 rfl).imp fun D σ H ⟨B, R, w⟩ => ⟨B, R, fun v H1 R1 f1 rv => ?_⟩
            cases rv with
            | lst a l => exact ⟨_, _, rfl, .inl (.inr ⟨_, a⟩), by rw [l.length]; exact hl, by rw [l.length]; exact hl, w _ H1 (R1.setAll l (by rw [l.length]; exact hl)) f1 (Kp.setAll nio)⟩
          · exact ps_stuck
        | _ => exact ps_stuck
    · cases c
theorem sS_unpS {i j : Nat} {e : IE} : SndS T n ios (.unpS i j e) := by
  intro hot ea X st W g tk c ρ
  simp only [exec]
  split
  · exact ps_stuck
  · rename_i hio
    simp only [chkS] at c
    split at c
    · rename_i x px y py ps k0 p0 e' pos
      have c1 := and_and c
      have c2 := and_and c1.1
      have c3 := and_and c2.1
      have c4 := and_and c3.1
      have c5 := and_and c4.1
      have c6 := not_hot c5.1
      obtain ⟨s1, s2⟩ := tup_swap (ts := [.Name x px, .Starred (.Name y py) ps]) (k := k0) (p := p0) (l := pos.line) (env := X.env) c6.2
      have he := keep_of (sndR (hot := hot) e g.toGood tk c1.2 ρ)
      have pg : PG X (.Tuple [.Name x px, .Starred (.Name y py) ps] k0 p0) (gStar X.K i j) := pg_star (g.calm c6.1) (pg_name g.nd (of_decide_eq_true c5.2) (locB_of c3.2) (.inl (g.fnT x))) (pg_name g.nd (of_decide_eq_true c4.2) (locB_of c2.2) (.inl (g.fnT y)))
      cases h1 : ev T e ρ with
      | stuck => exact ps_stuck
      | exc cc fs ρ1 =>
        rw [h1] at he
        exact (ps_asg he pg s1 s2 rfl).imp fun D σ H h => exc_in (Q := fun _ _ => True) h
      | ok a =>
        obtain ⟨d, m, ρ1⟩ := a
        rw [h1] at he
        cases d with
        | lst ds =>
          cases ds with
          | nil => exact ps_stuck
          | cons x0 xs =>
            refine (ps_asg he pg s1 s2 rfl).imp fun D σ H ⟨B, R, w⟩ => ⟨B, R, fun v H1 R1 f1 rv => ?_⟩
            cases rv with
            | lst a l =>
              cases l with
              | cons l1 l =>
                refine ⟨_, _, _, rfl, .inl (.inr ⟨_, a⟩), fun p hp => ?_⟩
                refine w _ _ ?_ (f1.trans (FrzLe.new hp)) ((Kp.set fun z => hio (.inl z)).trans (Kp.set fun z => hio (.inr (.inl z))))
                refine REnv.setOwn ((R1.new hp).setVal i (l1.mono (FrzLe.new hp))) j ⟨_, _, rfl, upd_same, l.mono (FrzLe.new hp)⟩ (R1.newB hp) fun k x hk z => ?_
                rw [set_get] at hk z
                split at hk
                · split at hk <;> cases hk
                · rename_i nn
                  rw [if_neg nn] at z
                  exact R1.newS hp k x hk z
        | _ => exact ps_stuck
    · cases c
theorem sS_rai {c0 : Str} : SndS T n ios (.rai c0) := by
  intro hot ea X st W g tk c ρ
  simp only [exec]
  split
  · rename_i he
    simp only [chkS] at c
    split at c
    · have c1 := and_and c
      have c2 := and_and c1.1
      have c3 := not_hot c2.1
      have e1 := of_decide_eq_true c3.2
      subst e1
      obtain ⟨C, m1, F⟩ := g.mod.rse c0 he
      obtain ⟨B, ni, ii, bm, F1, F2⟩ := F.ex
      refine (ps_raise (g.calm c3.1) (takes_ofF g.fr0 tk) (pmk_own F1 F2 m1 F.kp (raises_own F.sb F.ty) (glo_of c2.2) (odd1 c1.2))).imp fun D σ H ⟨B', R, w⟩ => ?_
      exact w (.ref C) none σ H R (FrzLe.refl H) (Kp.refl σ) ⟨C, rfl, m1, .inl ⟨rfl, rfl⟩⟩
    · cases c
  · exact ps_stuck
theorem Good.nox {hot : Bool} {ea : Option EA} {X : Cx} (g : GoodS T n hot ea X) : GoodS T n hot ea X.nox :=
  ⟨⟨g.mod, g.calm, g.ea0, g.room, g.nd, g.grd, g.hu, by
    obtain ⟨L, fm⟩ := g.frm
    exact ⟨L, fm.ex, fm.fr⟩, g.eaf⟩, PassesOwn.never, g.fnT, g.st0, g.fr0⟩
theorem sS_try {body suite : ISs} {c0 : Str} {i : Nat} (hb : SndSs T n ios body) (hs : SndSs T n ios suite) : SndS T n ios (.tryA body c0 i suite) := by
  intro hot ea X st W g tk c ρ
  simp only [exec]
  split
  · exact ps_stuck
  · rename_i hi
    simp only [chkS] at c
    split at c
    · rename_i b' x p1 nm s0 ss p2 p3
      have c1 := and_and c
      have c2 := and_and c1.1
      have c3 := and_and c2.1
      have c4 := and_and c3.1
      have c5 := and_and c4.1
      have c6 := and_and c5.1
      have c7 := not_hot c6.1
      have e1 := of_decide_eq_true c7.2
      subst e1
      have hh := c7.1
      subst hh
      have e0 := g.ea0 rfl
      subst e0
      cases h1 : execs T ios body ρ with
      | stuck => exact ps_stuck
      | ok o =>
        have z := hb (W := fun _ _ _ _ => False) (Good.nox g) takesF_never c2.2 ρ
        rw [h1] at z
        refine (ps_try_thru0 z).imp fun D σ H ⟨B, R, w⟩ => ⟨B, R, ?_⟩
        cases o with
        | nx ρ1 => exact w
        | rt d new ρ1 => exact w
      | exc cc fs ρ1 =>
        show PS X _ (tQ (X.km none) W ios ρ (match T.sub cc c0 with | some true => _ | some false => _ | none => _))
        cases hsub : T.sub cc c0 with
        | none => exact ps_stuck
        | some b =>
          obtain ⟨C, v, m1, F, m2, m3, m4, m5⟩ := g.mod.sub cc c0 b hsub
          have hc : Names X c0 v := ⟨glo_of c6.2, odd1 c5.2, m2⟩
          have hbody : ∀ (W : WX) (pn : List (Addr × Obj)) (xe : Value → Shared → Prop), Takes (X.tr pn xe) W → PassesOwn (model X.prog X.w) X.A X.env xe → PSs (X.tr pn xe) b' (tQ (X.km none) W ios ρ (.exc cc fs ρ1)) := fun W' pn xe tk' px => by
            have z := hb (X := X.tr pn xe) (W := W') (hot := false) (ea := none) ⟨⟨g.mod, g.calm, g.ea0, g.room, g.nd, g.grd, g.hu, by
              obtain ⟨L, fm⟩ := g.frm
              exact ⟨L, fm.ex, fm.fr⟩, fun e he => nomatch he⟩, px, g.fnT, g.st0, g.fr0⟩ (takesF_ofT g.fr0 tk') c2.2 ρ
            rw [h1] at z
            exact z
          have hsu : ∀ (a : Addr) (oe : Obj) (cls : Value) (d : Option Addr) (pn : List (Addr × Obj)), Zc cls d oe → (∃ vs, oe.data = .fields vs) → PSs (X.suite a ((a, oe) :: pn)) (s0 :: ss)
              (fun D σ H => ∃ C ρs, cls = .ref C ∧ tQ ⟨X.K, X.mg, some ⟨a, d, C⟩⟩ (fun _ _ _ _ => False) ios ρs (execs T ios suite ρs) D σ H) := fun a oe cls d pn hz hf => by
            refine ⟨fun pins s σ H D I ⟨C, ρs, e, q⟩ => ?_⟩
            subst e
            have gS : GoodS T n true (some ⟨a, d, C⟩) (X.suite a ((a, oe) :: pn)) := ⟨⟨g.mod, (fun z => nomatch z), (fun z => nomatch z), (fun z => nomatch z), g.nd, g.grd, g.hu, by
              obtain ⟨L, fm⟩ := g.frm
              exact ⟨L, fm.ex, fm.fr⟩, fun e he => by cases he; exact ⟨oe, List.mem_cons_self, hz, hf⟩⟩, PassesOwn.never, g.fnT, g.st0, g.fr0⟩
            exact (hs (X := X.suite a ((a, oe) :: pn)) gS takesF_never c1.2 ρs).run pins s σ H D I q
          refine (ps_try_as g.st0 g.fr0 g.nd (of_decide_eq_true c4.2) (of_decide_eq_true c3.2) hc (takes_ofF g.fr0 tk) hbody hsu).imp fun D σ H ⟨B, R, w⟩ => ⟨B, R, ?_⟩
          intro cls d σ' H' R' f' k' xc
          obtain ⟨C', rfl, m1', xd⟩ := xc
          have eC : C' = C := by
            have z : X.mg cc = some (.ref C') := m1'
            rw [m1] at z
            cases z
            rfl
          subst eC
          refine ⟨b, m5, fun hbt a na => ?_, fun hbf => ?_⟩
          · subst hbt
            refine ⟨C', ρ1.set i (.exn cc fs), rfl, B, REnv.caught (e := ⟨a, d, C'⟩) R' m1 xd, ?_⟩
            have w' : wantS (X.km none) W B ios σ H D (gone i (execs T ios suite (ρ1.set i (.exn cc fs)))) := w
            cases h2 : execs T ios suite (ρ1.set i (.exn cc fs)) with
            | stuck => rw [h2] at w'; exact w'
            | exc c9 f9 r9 => rw [h2] at w'; exact (show False from w').elim
            | ok o =>
              rw [h2] at w'
              cases o with
              | nx ρ2 => exact fun σ2 H2 R2 f2 k2 => w' _ H2 R2.gone (f'.trans f2) (((k'.trans (Kp.set hi)).trans k2).trans (Kp.set hi))
              | rt d2 new ρ2 => exact fun σ2 H2 v2 R2 f2 k2 rv => w' _ H2 v2 R2.gone (f'.trans f2) (((k'.trans (Kp.set hi)).trans k2).trans (Kp.set hi)) rv.gone
          · subst hbf
            exact w (.ref C') d σ' H' R' f' k' ⟨C', rfl, m1, xd⟩
    · cases c
theorem sSs_nil : SndSs T n ios .nil := by
  intro hot ea X l W g tk c ρ
  simp only [execs]
  simp only [chkSs] at c
  split at c
  · exact pss_nil.imp fun D σ H ⟨B, R, w⟩ => w σ H R (FrzLe.refl H) (Kp.refl σ)
  · cases c
theorem sSs_cons {s : IS} {r : ISs} (h1 : SndS T n ios s) (h2 : SndSs T n ios r) : SndSs T n ios (.cons s r) := by
  intro hot ea X l W g tk c ρ
  simp only [execs]
  simp only [chkSs] at c
  split at c
  · have c1 := and_and c
    have hs := h1 g tk c1.1 ρ
    cases q : exec T ios s ρ with
    | stuck => exact ⟨fun _ _ _ _ _ _ ⟨_, _, h⟩ => (show False from h).elim⟩
    | exc cc fs ρ1 =>
      rw [q] at hs
      exact (pss_cons hs pss_no).imp fun D σ H ⟨B, R, w⟩ => ⟨B, R, w⟩
    | ok o =>
      rw [q] at hs
      cases o with
      | nx ρ1 => exact (pss_cons hs (h2 g tk c1.2 ρ1)).imp fun D σ H ⟨B, R, w⟩ => ⟨B, R, fun σ' H' R' f' k' => ⟨B, R', wantS.step f' k' w⟩⟩
      | rt d new ρ1 => exact (pss_cons hs pss_no).imp fun D σ H ⟨B, R, w⟩ => ⟨B, R, fun σ' H' v R' f' k' rv => w σ' H' v R' f' k' rv⟩
  · cases c
end
mutual
theorem sndSR {T : Tab} {n : Nat} {ios : List Nat} : ∀ s : IS, SndS T n ios s
  | .set i e => sS_set
  | .par is es => sS_par
  | .ret e => sS_ret
  | .ite z a b => sS_ite (sndSsR a) (sndSsR b)
  | .forV i it body => sS_forV (sndSsR body)
  | .forR i a body => sS_forR (sndSsR body)
  | .app i e => sS_app
  | .unp is e => sS_unp
  | .unpS i j e => sS_unpS
  | .rai c => sS_rai
  | .tryA body c i suite => sS_try (sndSsR body) (sndSsR suite)
theorem sndSsR {T : Tab} {n : Nat} {ios : List Nat} : ∀ ss : ISs, SndSs T n ios ss
  | .nil => sSs_nil
  | .cons s r => sSs_cons (sndSR s) (sndSsR r)
end
end Ev
set_option Elab.async false
set_option linter.all false
set_option maxRecDepth 100000
set_option maxHeartbeats 8000000
namespace Ev
open PySem PySem.Spec PyProof.Rows L2
variable {ea : Option EA}

def ioIx : Nat → List Bool → List Nat
  | _, [] => []
  | k, true :: r => k :: ioIx (k + 1) r
  | k, false :: r => ioIx (k + 1) r
def env0 : List Bool → List Dat → Nat → DEnv
  | true :: io, d :: ds, n => .own d :: env0 io ds (n - 1)
  | false :: io, d :: ds, n => .val d :: env0 io ds (n - 1)
  | _, _, n => List.replicate n .no
def outsOf (ρ : DEnv) : List Nat → Option (List Dat)
  | [] => some []
  | i :: r => (match ρ[i]? with
    | some (.own d) => (outsOf ρ r).map (d :: ·)
    | _ => none)
/-- what is known of the changed ones where an exception leaves the def -/
def ownOr : Option Slot → Slot
  | some (.own d) => .own d
  | _ => .no
def outsXof (ρ : DEnv) (is : List Nat) : DEnv := is.map fun i => ownOr ρ[i]?
/-- a def by its body -/
def FI.of (T : Tab) (n : Nat) (io : List Bool) (body : ISs) : FI where
  io := io
  run := fun ds => if ds.length = io.length then (match execs T (ioIx 0 io) body (env0 io ds n) with
      | .ok (.nx ρ) => (ofO (outsOf ρ (ioIx 0 io))).bind fun outs => .ok (.non, false, outs)
      | .ok (.rt d new ρ) => (ofO (outsOf ρ (ioIx 0 io))).bind fun outs => .ok (d, new, outs)
      | .exc c fs ρ => .exc c fs (outsXof ρ (ioIx 0 io))
      | .stuck => .stuck)
    else .stuck

section
variable {K : KM} {H : Hp}
theorem env0_len : ∀ {io : List Bool} {ds : List Dat} {n : Nat}, ds.length = io.length → io.length ≤ n → (env0 io ds n).length = n
  | [], [], n, _, _ => by simp [env0]
  | true :: io, d :: ds, n, h, hn => by
    have h' : ds.length = io.length := by simpa using h
    have hn' : io.length + 1 ≤ n := hn
    show (env0 io ds (n - 1)).length + 1 = n
    rw [env0_len h' (by omega)]; omega
  | false :: io, d :: ds, n, h, hn => by
    have h' : ds.length = io.length := by simpa using h
    have hn' : io.length + 1 ≤ n := hn
    show (env0 io ds (n - 1)).length + 1 = n
    rw [env0_len h' (by omega)]; omega
theorem ioA_mem : ∀ {io : List Bool} {vs : List V} {i : Nat} {p : Addr}, io[i]? = some true → vs[i]? = some (.ref p) → p ∈ ioA io vs
  | true :: io, v :: vs, 0, p, _, h => by
    cases h
    exact List.mem_cons_self
  | true :: io, v :: vs, i + 1, p, h1, h2 => by
    have := ioA_mem (io := io) (vs := vs) (i := i) (p := p) h1 h2
    cases v <;> first | exact List.mem_cons_of_mem _ this | exact this
  | false :: io, v :: vs, i + 1, p, h1, h2 => by
    have := ioA_mem (io := io) (vs := vs) (i := i) (p := p) h1 h2
    cases v <;> exact this
theorem ioA_inj : ∀ {io : List Bool} {vs : List V} {i j : Nat} {p : Addr}, (ioA io vs).Nodup → io[i]? = some true → io[j]? = some true → vs[i]? = some (.ref p) → vs[j]? = some (.ref p) → i = j
  | true :: io, v :: vs, 0, 0, p, _, _, _, _, _ => rfl
  | true :: io, v :: vs, 0, j + 1, p, nd, _, h2, h3, h4 => by
    cases h3
    exact absurd (ioA_mem (io := io) (vs := vs) h2 h4) (List.nodup_cons.mp (show (p :: ioA io vs).Nodup from nd)).1
  | true :: io, v :: vs, i + 1, 0, p, nd, h1, _, h3, h4 => by
    cases h4
    exact absurd (ioA_mem (io := io) (vs := vs) h1 h3) (List.nodup_cons.mp (show (p :: ioA io vs).Nodup from nd)).1
  | true :: io, v :: vs, i + 1, j + 1, p, nd, h1, h2, h3, h4 => by
    have nd' : (ioA io vs).Nodup := by cases v <;> first | exact (List.nodup_cons.mp nd).2 | exact nd
    exact congrArg (· + 1) (ioA_inj (io := io) (vs := vs) nd' h1 h2 h3 h4)
  | false :: io, v :: vs, i + 1, j + 1, p, nd, h1, h2, h3, h4 => by
    have nd' : (ioA io vs).Nodup := by cases v <;> exact nd
    exact congrArg (· + 1) (ioA_inj (io := io) (vs := vs) nd' h1 h2 h3 h4)
  | false :: io, v :: vs, 0, _, p, nd, h1, h2, h3, h4 => nomatch h1
  | false :: io, v :: vs, _ + 1, 0, p, nd, h1, h2, h3, h4 => nomatch h2
theorem args_at : ∀ {io : List Bool} {vs : List V} {ds : List Dat} {n i : Nat} {s : Slot}, argsR K H io vs ds → (env0 io ds n)[i]? = some s → s = .no ∨
    (∃ v d, vs[i]? = some v ∧ io[i]? = some false ∧ s = .val d ∧ Is K H v d) ∨ ∃ p d, vs[i]? = some (.ref p) ∧ io[i]? = some true ∧ s = .own d ∧ Own K H p d
  | [], [], [], n, i, s, _, h => by
    have h' : (List.replicate n Slot.no)[i]? = some s := h
    rw [List.getElem?_replicate] at h'
    split at h' <;> cases h'
    exact .inl rfl
  | true :: io, v :: vs, d :: ds, n, 0, s, a, h => by
    cases h
    obtain ⟨p, rfl, o⟩ := a.1
    exact .inr (.inr ⟨p, d, rfl, rfl, rfl, o⟩)
  | false :: io, v :: vs, d :: ds, n, 0, s, a, h => by
    cases h
    exact .inr (.inl ⟨v, d, rfl, rfl, rfl, a.1⟩)
  | true :: io, v :: vs, d :: ds, n, i + 1, s, a, h => args_at (io := io) (vs := vs) (ds := ds) (n := n - 1) (i := i) a.2 h
  | false :: io, v :: vs, d :: ds, n, i + 1, s, a, h => args_at (io := io) (vs := vs) (ds := ds) (n := n - 1) (i := i) a.2 h
theorem start_at {N : List Str} {vs : List V} {i : Nat} {v : V} (h : vs[i]? = some v) : (L2.start N vs)[i]? = some (some v) := by
  unfold L2.start
  have hi := (List.getElem?_eq_some_iff.mp h).1
  rw [List.getElem?_append_left (by rw [List.length_map]; exact hi), List.getElem?_map, h]
  rfl
theorem start_len {N : List Str} {vs : List V} (h : vs.length ≤ N.length) : (L2.start N vs).length = N.length := by
  unfold L2.start
  rw [List.length_append, List.length_map, List.length_replicate]
  omega
theorem renv_start {io : List Bool} {vs : List V} {ds : List Dat} {N : List Str} (a : argsR K H io vs ds) (nd : (ioA io vs).Nodup) (hn : io.length ≤ N.length) :
    REnv K (fun b => if b ∈ ioA io vs then none else H b) (L2.start N vs) H (env0 io ds N.length) := by
  have la := argsR_len a
  refine ⟨fun b o h => ?_, ?_, fun i d h => ?_, fun i d h => ?_, fun i j d e p h1 h2 h3 h4 => ?_, fun i c fs h => ?_⟩
  · by_cases z : b ∈ ioA io vs
    · rw [if_pos z] at h; cases h
    · rw [if_neg z] at h; exact h
  · rw [start_len (by omega), env0_len la.2 hn]
  · rcases args_at a h with z | ⟨v, d', h1, _, e, h3⟩ | ⟨p, d', _, _, e, _⟩
    · cases z
    · cases e; exact ⟨v, start_at h1, h3⟩
    · cases e
  · rcases args_at a h with z | ⟨v, d', h1, _, e, h3⟩ | ⟨p, d', h1, h2, e, h3⟩
    · cases z
    · cases e
    · cases e
      exact ⟨p, start_at h1, if_pos (ioA_mem h2 h1), h3⟩
  · rcases args_at a h1 with z | ⟨v, d', _, _, e, _⟩ | ⟨p1, d1, a1, b1, e, _⟩
    · cases z
    · cases e
    · rcases args_at a h2 with z | ⟨v, d', _, _, e, _⟩ | ⟨p2, d2, a2, b2, e, _⟩
      · cases z
      · cases e
      · have q1 := (start_at (N := N) a1).symm.trans h3
        have q2 := (start_at (N := N) a2).symm.trans h4
        cases q1
        cases q2
        exact ioA_inj nd b1 b2 a1 a2
  · rcases args_at a h with z | ⟨v, d', _, _, e, _⟩ | ⟨p, d', _, _, e, _⟩
    · cases z
    · cases e
    · cases e
theorem outs_are {B : Hp} {σ' : L2.St} {H' : Hp} {ρ' : DEnv} (R : REnv K B σ' H' ρ') : ∀ {k : Nat} {io : List Bool} {vs : List V} {ds outs : List Dat}, argsR K H io vs ds → (∀ j v, io[j]? = some true → vs[j]? = some v → σ'[k + j]? = some (some v)) →
    outsOf ρ' (ioIx k io) = some outs → outsR K H' (ioA io vs) outs ∧ ∀ p ∈ ioA io vs, ∃ (i : Nat) (e : Dat), ρ'[i]? = some (Slot.own e) ∧ σ'[i]? = some (some (V.ref p))
  | k, [], [], [], outs, _, _, h => by
    cases h
    exact ⟨trivial, fun p z => nomatch z⟩
  | k, true :: io, v :: vs, d :: ds, outs, a, hs, h => by
    obtain ⟨p, rfl, o⟩ := a.1
    have h' : (match ρ'[k]? with
      | some (.own d) => (outsOf ρ' (ioIx (k + 1) io)).map (d :: ·)
      | _ => none) = some outs := h
    split at h'
    · rename_i d' hd
      cases q : outsOf ρ' (ioIx (k + 1) io) with
      | none => rw [q] at h'; cases h'
      | some os =>
        rw [q] at h'
        cases h'
        have hk : σ'[k]? = some (some (.ref p)) := hs 0 _ rfl rfl
        obtain ⟨p', g1, g2, g3⟩ := R.own k d' hd
        rw [hk] at g1
        cases g1
        obtain ⟨i1, i2⟩ := outs_are R (k := k + 1) a.2 (fun j w h1 h2 => by
          have := hs (j + 1) w h1 h2
          rw [show k + 1 + j = k + (j + 1) by omega]; exact this) q
        refine ⟨⟨g3, i1⟩, fun q hq => ?_⟩
        rcases List.mem_cons.mp (show q ∈ p :: ioA io vs from hq) with z | z
        · subst z; exact ⟨k, d', hd, hk⟩
        · exact i2 q z
    · cases h'
  | k, false :: io, v :: vs, d :: ds, outs, a, hs, h => by
    obtain ⟨i1, i2⟩ := outs_are R (k := k + 1) (io := io) (vs := vs) (ds := ds) (outs := outs) a.2 (fun j w h1 h2 => by
          have := hs (j + 1) w h1 h2
          rw [show k + 1 + j = k + (j + 1) by omega]; exact this) h
    have e : ioA (false :: io) (v :: vs) = ioA io vs := by cases v <;> rfl
    rw [e]
    exact ⟨i1, i2⟩
theorem outsX_are {B : Hp} {σ' : L2.St} {H' : Hp} {ρ' : DEnv} (R : REnv K B σ' H' ρ') : ∀ {k : Nat} {io : List Bool} {vs : List V} {ds : List Dat}, argsR K H io vs ds → (∀ j v, io[j]? = some true → vs[j]? = some v → σ'[k + j]? = some (some v)) →
    outsX K H' (ioA io vs) (outsXof ρ' (ioIx k io))
  | k, [], [], [], _, _ => trivial
  | k, true :: io, v :: vs, d :: ds, a, hs => by
    obtain ⟨p, rfl, o⟩ := a.1
    have ih := outsX_are R (k := k + 1) (io := io) a.2 (fun j w h1 h2 => by
          have := hs (j + 1) w h1 h2
          rw [show k + 1 + j = k + (j + 1) by omega]; exact this)
    have hk : σ'[k]? = some (some (.ref p)) := hs 0 _ rfl rfl
    show outsX K H' (p :: ioA io vs) (ownOr ρ'[k]? :: outsXof ρ' (ioIx (k + 1) io))
    cases q : ρ'[k]? with
    | none => exact ih
    | some s =>
      cases s with
      | own d' =>
        obtain ⟨p', g1, g2, g3⟩ := R.own k d' q
        rw [hk] at g1
        cases g1
        exact ⟨g3, ih⟩
      | no => exact ih
      | val _ => exact ih
      | exn _ _ => exact ih
  | k, false :: io, v :: vs, d :: ds, a, hs => by
    have ih := outsX_are R (k := k + 1) (io := io) a.2 (fun j w h1 h2 => by
          have := hs (j + 1) w h1 h2
          rw [show k + 1 + j = k + (j + 1) by omega]; exact this)
    have e : ioA (false :: io) (v :: vs) = ioA io vs := by cases v <;> rfl
    rw [e]
    exact ih
theorem ioIx_mem : ∀ {k : Nat} {io : List Bool} {j : Nat}, io[j]? = some true → k + j ∈ ioIx k io
  | k, true :: io, 0, _ => List.mem_cons_self
  | k, true :: io, j + 1, h => by
    have := ioIx_mem (k := k + 1) (io := io) (j := j) h
    refine List.mem_cons_of_mem _ ?_
    rw [show k + (j + 1) = k + 1 + j by omega]; exact this
  | k, false :: io, j + 1, h => by
    have := ioIx_mem (k := k + 1) (io := io) (j := j) h
    show k + (j + 1) ∈ ioIx (k + 1) io
    rw [show k + (j + 1) = k + 1 + j by omega]; exact this
end

theorem dfn {T : Tab} {k : Nat} {P : Program} {w : World} {K : PySem.W.Frag} {mg : Str → Option Value} {base : Heap} {f : Addr} {x qual : Str} {st : Stmt} {fd : FuncData} {N ps : List Str} {io : List Bool} {body : ISs}
    (M : ModF T k P w K mg base) (F : Fun K x qual st f fd) (S : FnScope N ps (defScope st)) (hl : io.length = ps.length) (c : chkSs N false (defScope st) body (defBody st) = true) :
    FnG P w K mg base (k + 1) f fd ps (spD ⟨K, mg, none⟩ (FI.of T N.length io body)) := by
  have hpn : io.length ≤ N.length := by
    have := congrArg List.length S.pre
    rw [List.length_take] at this
    omega
  refine fnG_of F S (fun vs H Q E h => ?_) fun cdv A outer s H vs Q E hr hg h => ?_
  · obtain ⟨ds, a, _⟩ := h
    rw [(argsR_len a).1, ← hl]; rfl
  · obtain ⟨ds, a, nd, k'⟩ := h
    have hrun : runR ⟨K, mg, none⟩ io vs H Q E (if ds.length = io.length then (match execs T (ioIx 0 io) body (env0 io ds N.length) with
      | .ok (.nx ρ) => (ofO (outsOf ρ (ioIx 0 io))).bind fun outs => .ok (.non, false, outs)
      | .ok (.rt d new ρ) => (ofO (outsOf ρ (ioIx 0 io))).bind fun outs => .ok (d, new, outs)
      | .exc c fs ρ => .exc c fs (outsXof ρ (ioIx 0 io))
      | .stuck => .stuck) else .stuck) := k'
    rw [if_pos (show ds.length = io.length from (argsR_len a).2)] at hrun
    have G : GoodS T k false none (cxOf (CX P w) P w K mg base N qual (defScope st) f cdv A outer s H E) :=
      ⟨⟨M, (fun _ => rfl), (fun _ => rfl), (fun _ => hr), S.nd, hg, by have := hr.un; show (A.deeper (envOfC qual (defScope st) s.heap.objs.size f cdv)).units + 64 < cLine; omega, ⟨_, ⟨_, _, rfl, rfl⟩, rfl⟩, fun e he => nomatch he⟩, passes_of rfl, fun _ => rfl, rfl, rfl⟩
    have hb := sndSsR (T := T) (n := k) (ios := ioIx 0 io) body G (takesF_of rfl rfl rfl rfl) c (env0 io ds N.length)
    refine ⟨_, hb, _, renv_start (N := N) a nd hpn, ?_⟩
    have at0 : ∀ {σ' : L2.St}, Kp (ioIx 0 io) (start N vs) σ' → ∀ j v, io[j]? = some true → vs[j]? = some v → σ'[0 + j]? = some (some v) := fun {σ'} kp j v h1 h2 => by
      rw [kp (0 + j) (ioIx_mem h1), Nat.zero_add]; exact start_at h2
    cases hx : execs T (ioIx 0 io) body (env0 io ds N.length) with
    | stuck => rw [hx] at hrun; exact hrun
    | exc cc fs ρ' =>
      rw [hx] at hrun
      intro cls d σ' H' R' f' kp xc
      exact hrun cls d H' ⟨fun b ob hb hn => R'.base b ob ((if_neg hn).trans hb), f', outsX_are R' (k := 0) a (at0 kp), xc⟩
    | ok o =>
      rw [hx] at hrun
      cases o with
      | nx ρ' =>
        have hrun : runR ⟨K, mg, none⟩ io vs H Q E ((ofO (outsOf ρ' (ioIx 0 io))).bind fun outs => .ok (.non, false, outs)) := hrun
        cases ho : outsOf ρ' (ioIx 0 io) with
        | none => rw [ho] at hrun; exact (show False from hrun).elim
        | some outs =>
          rw [ho] at hrun
          intro σ' H' R' f' kp
          obtain ⟨o1, o2⟩ := outs_are R' (k := 0) a (at0 kp) ho
          exact hrun _ H' ⟨fun b ob hb hn => R'.base b ob ((if_neg hn).trans hb), f', o1, .non⟩
      | rt d new ρ' =>
        have hrun : runR ⟨K, mg, none⟩ io vs H Q E ((ofO (outsOf ρ' (ioIx 0 io))).bind fun outs => .ok (d, new, outs)) := hrun
        cases ho : outsOf ρ' (ioIx 0 io) with
        | none => rw [ho] at hrun; exact (show False from hrun).elim
        | some outs =>
          rw [ho] at hrun
          intro σ' H' v R' f' kp rv
          obtain ⟨o1, o2⟩ := outs_are R' (k := 0) a (at0 kp) ho
          refine hrun v H' ⟨fun b ob hb hn => R'.base b ob ((if_neg hn).trans hb), f', o1, ?_⟩
          cases new with
          | false => exact rv
          | true =>
            obtain ⟨p, rfl, ho, bp, ns⟩ := rv
            refine ⟨p, rfl, ?_, ho⟩
            have bp' : (if p ∈ ioA io vs then none else H p) = none := bp
            split at bp'
            · rename_i hp
              obtain ⟨i, e, g1, g2⟩ := o2 p hp
              exact absurd g2 (ns i e g1)
            · exact bp'
/-- one def more -/
def Tab.add (T : Tab) (x : Str) (fi : FI) : Tab := { T with fn := fun y => if y = x then some fi else T.fn y }
theorem ModF.add {T : Tab} {n : Nat} {P : Program} {w : World} {K : PySem.W.Frag} {mg : Str → Option Value} {base : Heap} {x : Str} {fi : FI} {a : Addr} {fd : FuncData} {ps : List Str} (M : ModF T n P w K mg base)
    (h1 : mg x = some (.ref a)) (h2 : PySem.W.keepIn K (.ref a) = true) (h3 : Binds K fd ps []) (h4 : FnG P w K mg base (n + 1) a fd ps (spD ⟨K, mg, none⟩ fi)) (h5 : ∀ qs, T.kw x = some qs → ps = qs ∧ KwB K fd ps) : ModF (T.add x fi) (n + 1) P w K mg base :=
  ⟨M.bt, M.isi, M.rng, M.tys, M.con, fun f g e => by
    have e' : (if f = x then some fi else T.fn f) = some g := e
    split at e'
    · rename_i z
      subst z
      cases e'
      exact ⟨a, fd, ps, n + 1, Nat.le_refl _, h1, h2, h3, h4, h5⟩
    · obtain ⟨a', fd', ps', k', g1, g2⟩ := M.fns f g e'
      exact ⟨a', fd', ps', k', by omega, g2⟩, M.exf, M.rse, M.sub⟩
end Ev
set_option Elab.async false
set_option linter.all false
set_option maxRecDepth 100000
set_option maxHeartbeats 4000000
namespace Ev
open PySem PySem.Spec PyProof.Rows L2
/-- the law's call, by the promise of plain data -/
theorem law_endG {P : Program} {w : World} {K : PySem.W.Frag} {mg mb : Str → Option Value} {k : Nat} {fa a : Addr} {fd : FuncData} {x : Str} {t : Shared} {us : List Value} {ns : List Int} {fi : FI}
    (KX : K.In t.heap) (h1 : t.heap.Ns mainGlobals mg) (h2 : t.heap.Ns builtinsNs mb) (h3 : ∀ y : Str, y ≠ "__name__" → mb y = bootBuiltins y) (h4 : t.heap.NoLimit) (h5 : t.gens = #[])
    (h6 : t.heap.get? a = some { cls := .type "list", data := .seq us.toArray }) (h7 : IntsAre us ns) (h8 : ns.length ≤ sizeLine) (room : Room k callerA)
    (F : ∀ base : Heap, K.In base → base.Ns mainGlobals mg → FnG P w K mg base k fa fd [x] (spD ⟨K, mg, none⟩ fi)) (bnd : ∀ (s : Shared) (u : Value), BindsTo s fd ⟨[u], []⟩ [(x, u)])
    (hio : fi.io = [false]) (hrun : fi.run [.scr ns] = .ok (.bl true, false, [])) :
    codeAny (model P w) callerA (.call (.ref fa) ⟨[.ref a], []⟩) (fun r s' => r = .ok (.ret (.bool true)) ∧ OldK t.heap s'.heap ∧ s'.os = t.os ∧ AllBare s'.gens) t := by
  have rel := vals_ints h7
  have len7 := h7.length
  have core : ∀ H : Hp, (∀ b, H b = none ∨ (b = a ∧ ∃ o u, H b = some (.frz o u))) → SqF ⟨K, mg, none⟩ H a (ns.map V.int) → HOk P w H t.heap → (H a ≠ none → K.lookup a = none) →
      codeAny (model P w) callerA (.call (.ref fa) ⟨[.ref a], []⟩) (fun r s' => r = .ok (.ret (.bool true)) ∧ OldK t.heap s'.heap ∧ s'.os = t.os ∧ AllBare s'.gens) t := by
    intro H only sq hok hK
    have offA : ∀ b, H b ≠ none → b = a := fun b z => by
      rcases only b with q | ⟨q, _⟩
      · exact absurd q z
      · exact q
    have noD : ∀ {b : Addr} {ob : Obj} {es : Array DictEntry} {ep : Nat}, t.heap.get? b = some ob → ob.data = .dict es ep → H b = none := by
      intro b ob es ep e1 e2
      cases q : H b with
      | none => rfl
      | some u =>
        exfalso
        have eb := offA b (by rw [q]; exact fun z => nomatch z)
        subst eb
        rw [h6] at e1
        cases e1
        exact nomatch e2
    have nsT : ∀ {b : Addr} {mm : Str → Option Value}, t.heap.Ns b mm → (hidT t.heap H).Ns b mm := by
      rintro b mm ⟨ob, es, ep, e1, e2, e3⟩
      exact ⟨ob, es, ep, hidT_get e1 (noD e1 e2), e2, e3⟩
    have KB : K.In (hidT t.heap H) := by
      intro b ob e
      refine hidT_get (KX b ob e) ?_
      cases q : H b with
      | none => rfl
      | some u =>
        exfalso
        have eb := offA b (by rw [q]; exact fun z => nomatch z)
        subst eb
        rw [hK (by rw [q]; exact fun z => nomatch z)] at e
        cases e
    obtain ⟨mc, c1, c2⟩ := h4
    have env : Env0 P w K mg (hidT t.heap H) callerA [] t H :=
      ⟨rfl, ⟨KB, nsT h1, ⟨mb, nsT h2, h3⟩, ⟨mc, nsT c1, c2⟩⟩, fun b ob e => of_hidT e, Nat.le_of_eq (hidT_size _ _), trivial, fun b z => (nomatch (show b ∈ ([] : List Addr) from z)), hok, .of_eq h5⟩
    have sp : spD ⟨K, mg, none⟩ fi [.ref a] H (fun v _ => v = .bl true) (fun _ _ _ => False) := by
      refine ⟨[.scr ns], ?_, ?_, ?_⟩
      · rw [hio]; exact ⟨.scr sq, trivial⟩
      · rw [hio]; exact List.nodup_nil
      · rw [hrun]
        intro v H' P
        cases P.2.2.2
        rfl
    refine codeAny_mono ((F _ KB (nsT h1)).run callerA [] t H ⟨[.ref a], []⟩ [.ref a] [.ref a] _ _ room rfl env (bnd t (.ref a)) (.cons rfl .nil) sp) ?_
    intro r s' q
    cases r with
    | error e =>
      obtain ⟨_, _, _, _, _, _, _, _, _, _, _, _, z⟩ := q
      exact z.elim
    | ok fl =>
      cases fl with
      | next => exact False.elim q
      | brk => exact False.elim q
      | cont => exact False.elim q
      | ret u =>
        obtain ⟨v, H', os, bare, un, hok', rv, qv⟩ := q
        have qv' : v = .bl true := qv
        subst qv'
        have eu : u = Value.bool true := rv
        subst eu
        refine ⟨rfl, OldK.of_keep fun b ob e => ?_, os, bare⟩
        rcases only b with z | ⟨z, ob', u', z'⟩
        · exact un.keep b ob e z (fun y => nomatch (show b ∈ ([] : List Addr) from y)) (fun y => nomatch y)
        · obtain ⟨g1, _⟩ := hok b _ z'
          obtain ⟨g2, _⟩ := hok' b _ (un.frzs b ob' _ z')
          rw [e] at g1
          cases g1
          exact g2
  cases hk : K.lookup a with
  | some o =>
    have e := KX a o hk
    rw [h6] at e
    cases e
    exact core (fun _ => none) (fun _ => .inl rfl) (.inr (.inr ⟨_, us.toArray, _, hk, rfl, rfl, rfl, by rw [List.size_toArray, len7]; exact h8, by simpa using rel⟩)) (fun b u z => nomatch z) fun z => absurd rfl z
  | none =>
    have at_a : (fun b => if b = a then some (HO.frz { cls := .type "list", data := .seq us.toArray } (.lst (ns.map V.int))) else none : Hp) a = some (HO.frz { cls := .type "list", data := .seq us.toArray } (.lst (ns.map V.int))) := if_pos rfl
    refine core (fun b => if b = a then some (HO.frz { cls := .type "list", data := .seq us.toArray } (.lst (ns.map V.int))) else none) (fun b => ?_) (.inl ⟨_, at_a⟩) (fun b u z => ?_) fun _ => hk
    · by_cases hb : b = a
      · exact .inr ⟨hb, _, _, if_pos hb⟩
      · exact .inl (if_neg hb)
    · by_cases hb : b = a
      · subst hb
        cases at_a.symm.trans z
        exact ⟨h6, by rw [List.length_map]; exact h8, us, _, rel, h6⟩
      · exact nomatch (show (none : Option HO) = some u from (if_neg hb).symm.trans z)
theorem walk_G {l : PySem.W.OpenLaw} {n k : Nat} {q : Program} {loose : List Str} {XP : (Str → Option Value) → Heap → Prop} {YP : World → Heap → Prop} {d : DefRec} {K : Params → PySem.W.Frag} {x : Str} {fi : FI}
    (hn : l.most = some n) (hn2 : n ≤ sizeLine) (hdf : d.params.defaults = []) (room : Room k callerA) (hY : ∀ (w : World) (h : Heap), YP w h → (K w.params).In h)
    (F : ∀ (w : World) (mg : Str → Option Value) (fa : Addr) (h : Heap), (K w.params).In h → h.Ns mainGlobals mg → mg d.name = some (.ref fa) →
      ∃ fd : FuncData, (∀ (s : Shared) (u : Value), BindsTo s fd ⟨[u], []⟩ [(x, u)]) ∧ ∀ base : Heap, (K w.params).In base → base.Ns mainGlobals mg → FnG l.prog w (K w.params) mg base k fa fd [x] (spD ⟨K w.params, mg, none⟩ fi))
    (hio : fi.io = [false]) (hrun : ∀ ns : List Int, ns.length ≤ n → fi.run [.scr ns] = .ok (.bl true, false, [])) :
    PySem.W.WalkO q loose XP YP l.row.toRowW d [] (fun f vs => PySem.call f vs) := by
  refine Att.attach_call hn hdf ?_
  intro w s₀ s₁ mg mb fa o pm cd doc a vs ns G Y ho hd hcd hmg hobj hints hlen hg
  obtain ⟨fd, bnd, FF⟩ := F w mg fa _ (hY w _ Y) G.T.g hmg
  exact law_endG (hY w _ Y) G.T.g G.T.b G.T.builtins G.T.nolimit hg hobj hints (Nat.le_trans hlen hn2) room FF bnd hio (hrun ns hlen)
end Ev
set_option Elab.async false
set_option linter.all false
set_option maxRecDepth 100000
set_option maxHeartbeats 4000000
namespace Ev
open PySem PySem.Spec PyProof.Rows L2
/-- a number drawn from a pot: its own digits, or numbers mixed -/
def takeN (a b m : Int) : Int × Int × Int :=
  if 0 < a then (a % m, a / m, b) else
    let c := (b * 40014 + 12211) % 2147483563
    (c * c % 2147483399 / 11 % m, a, c)
def takeFI : FI where
  io := [true, false]
  run := fun ds => match ds with
    | [.lst [.int a, .int b], .int m] => if 0 < m ∧ m < 1073741824 then .ok (.int (takeN a b m).1, false, [.lst [.int (takeN a b m).2.1, .int (takeN a b m).2.2]]) else .stuck
    | _ => .stuck
theorem take_no {ds : List Dat} {c : Str} {fs : List (Str × Dat)} {ss : DEnv} (h : takeFI.run ds = .exc c fs ss) : False := by
  simp only [takeFI] at h
  split at h
  · split at h <;> cases h
  · cases h
theorem take_run {ds : List Dat} {d : Dat} {new : Bool} {outs : List Dat} (h : takeFI.run ds = .ok (d, new, outs)) : ∃ a b m : Int, ds = [.lst [.int a, .int b], .int m] ∧ (0 < m ∧ m < 1073741824) ∧ d = .int (takeN a b m).1 ∧ new = false ∧ outs = [.lst [.int (takeN a b m).2.1, .int (takeN a b m).2.2]] := by
  simp only [takeFI] at h
  split at h
  · split at h
    · rename_i c
      cases h
      exact ⟨_, _, _, rfl, c, rfl, rfl, rfl⟩
    · cases h
  · cases h
end Ev
set_option Elab.async false
set_option linter.all false
set_option maxRecDepth 100000
namespace Ev
open PySem PySem.Spec PyProof.Rows L2
section
variable {K : PySem.W.Frag} {C D : Addr} {b : Bool}
theorem cls_of (h : PySem.W.hasDictIn K C = true) : (PySem.W.clsIn K C).isSome = true := by
  obtain ⟨cd, hc, _⟩ := PySem.W.any_some h
  rw [hc]; rfl
theorem kitCls_own (hd : PySem.W.hasDictIn K D = true) (ht : PySem.W.typeIn K (.ref D) = some (.type "type")) (hs : PySem.W.subIn K (.ref C) (.ref D) = some b) : PySem.W.kitCls K (.ref C) (.ref D) = some b := by
  show (if ((PySem.W.clsIn K D).isSome && PySem.W.typeIn K (.ref D) == some (.type "type")) = true then PySem.W.subIn K (.ref C) (.ref D) else none) = some b
  rw [if_pos (by rw [cls_of hd, ht]; rfl), hs]
theorem kitOne_of {v : Value} (hk : PySem.W.kitCls K (.ref C) v = some b) (hself : v = .ref C → b = true) : PySem.W.kitOne K (.ref C) v = some b := by
  unfold PySem.W.kitOne
  split
  · rename_i h
    have e := eq_of_beq h
    rw [hself e.symm]
  · exact hk
theorem exmOne_of {v : Value} (hk : PySem.W.kitCls K (.ref C) v = some b) (hb : PySem.W.subIn K v (.type "BaseException") = some true) : PySem.W.exmOne K (.ref C) v = some b := by
  unfold PySem.W.exmOne
  rw [if_pos (by rw [hb]; rfl), hk]
theorem sub_own {mg : Str → Option Value} {c d : Str} (hc : mg c = some (.ref C)) (F : ExcF K C) (self : PySem.W.subIn K (.ref C) (.ref C) = some true) (hd : mg d = some (.ref D)) (h1 : PySem.W.hasDictIn K D = true) (h2 : PySem.W.typeIn K (.ref D) = some (.type "type"))
    (h3 : PySem.W.subIn K (.ref D) (.type "BaseException") = some true) (hs : PySem.W.subIn K (.ref C) (.ref D) = some b) :
    ∃ C v, mg c = some (.ref C) ∧ ExcF K C ∧ NameM mg d v ∧ ((∃ D, v = .ref D) ∨ ∃ t, v = .type t) ∧ PySem.W.kitOne K (.ref C) v = some b ∧ PySem.W.exmOne K (.ref C) v = some b := by
  have hk := kitCls_own h1 h2 hs
  refine ⟨C, .ref D, hc, F, .inl hd, .inl ⟨D, rfl⟩, kitOne_of hk fun e => ?_, exmOne_of hk h3⟩
  cases e
  rw [self] at hs
  cases hs
  rfl
theorem sub_bltn {mg : Str → Option Value} {c d : Str} {t : String} (hc : mg c = some (.ref C)) (F : ExcF K C) (hd : mg d = none) (hb : bootBuiltins d = some (.type t)) (hn : d ≠ "__name__") (hm : PySem.W.kitMeta t = true)
    (h3 : PySem.W.subIn K (.type t) (.type "BaseException") = some true) (hs : PySem.W.subIn K (.ref C) (.type t) = some b) :
    ∃ C v, mg c = some (.ref C) ∧ ExcF K C ∧ NameM mg d v ∧ ((∃ D, v = .ref D) ∨ ∃ t, v = .type t) ∧ PySem.W.kitOne K (.ref C) v = some b ∧ PySem.W.exmOne K (.ref C) v = some b := by
  have hk : PySem.W.kitCls K (.ref C) (.type t) = some b := by
    show (if PySem.W.kitMeta t = true then PySem.W.subIn K (.ref C) (.type t) else none) = some b
    rw [if_pos hm, hs]
  exact ⟨C, .type t, hc, F, .inr ⟨hd, hb, hn⟩, .inr ⟨t, rfl⟩, (kitOne_of hk fun e => nomatch e), exmOne_of hk h3⟩
theorem kwb_all {fd : FuncData} {ps : List Str} (h : ∀ us : List Value, us.length = ps.length → bindArgs fd ⟨[], ps.zip us⟩ = pure (ps.zip us)) : KwB K fd ps := fun s us _ hl => .of_eq (h us hl)
end
end Ev
set_option Elab.async false
set_option linter.all false
set_option maxRecDepth 100000
set_option maxHeartbeats 4000000
namespace Ev
open PySem
/-! ### rules: a body statement by statement (small terms for the kernel) -/
section
variable {T : Tab} {ios : List Nat}
theorem rOf {n : Nat} {io : List Bool} {body : ISs} {ds : List Dat} {ρ0 ρ : DEnv} {d : Dat} {new : Bool} {outs : List Dat} (h0 : env0 io ds n = ρ0) (hl : ds.length = io.length) (h : execs T (ioIx 0 io) body ρ0 = .ok (.rt d new ρ)) (ho : outsOf ρ (ioIx 0 io) = some outs) :
    (FI.of T n io body).run ds = .ok (d, new, outs) := by
  subst h0
  show (if ds.length = io.length then _ else _) = _
  rw [if_pos hl, h]
  simp only [ho, ofOs, bindOk]
theorem rOfX {n : Nat} {io : List Bool} {body : ISs} {ds : List Dat} {ρ0 ρ : DEnv} {c : Str} {fs : List (Str × Dat)} (h0 : env0 io ds n = ρ0) (hl : ds.length = io.length) (h : execs T (ioIx 0 io) body ρ0 = .exc c fs ρ) :
    (FI.of T n io body).run ds = .exc c fs (outsXof ρ (ioIx 0 io)) := by
  subst h0
  show (if ds.length = io.length then _ else _) = _
  rw [if_pos hl, h]
theorem rIteTX {c : IE} {a b r : ISs} {ρ ρ1 : DEnv} {m : Mode} (h : ev T c ρ = .ok (.bl true, m, ρ1)) {x : Str} {fs : List (Str × Dat)} {ρ2 : DEnv} (ha : execs T ios a ρ1 = .exc x fs ρ2) :
    execs T ios (.cons (.ite c a b) r) ρ = .exc x fs ρ2 := by
  rw [execs, exec, h, bindOk]
  show (execs T ios a ρ1).bind _ = _
  rw [ha]
  rfl
theorem rRai {c : Str} {r : ISs} {ρ : DEnv} (h : T.exc c = some []) : execs T ios (.cons (.rai c) r) ρ = .exc c [] ρ := by
  rw [execs, exec, h]
  rfl
theorem rUnpS {i j : Nat} {e : IE} {r : ISs} {ρ ρ1 : DEnv} {x : Dat} {xs : List Dat} (hi : ¬ (i ∈ ios ∨ j ∈ ios ∨ i = j)) (h : ev T e ρ = .ok (.lst (x :: xs), .fresh, ρ1)) :
    execs T ios (.cons (.unpS i j e) r) ρ = execs T ios r ((ρ1.set i (.val x)).set j (.own (.lst xs))) := by
  rw [execs, exec, if_neg hi, h, bindOk]
  rfl
theorem rUnp {is : List Nat} {e : IE} {r : ISs} {ρ ρ1 : DEnv} {ds : List Dat} (hi : is.any (fun i => ios.contains i) = false) (h : ev T e ρ = .ok (.tup ds, .frz, ρ1)) (hl : ds.length = is.length) :
    execs T ios (.cons (.unp is e) r) ρ = execs T ios r (storeAll is ds ρ1) := by
  rw [execs, exec, if_neg (by rw [hi]; decide), h, bindOk]
  show ((ofO (some ds)).bind fun ds => if ds.length = is.length then _ else _ : Res Out).bind _ = _
  rw [ofOs, bindOk, if_pos hl]
  rfl
theorem rTryN {b s r : ISs} {c : Str} {i : Nat} {ρ ρ1 : DEnv} (hi : i ∉ ios) (h : execs T ios b ρ = .ok (.nx ρ1)) : execs T ios (.cons (.tryA b c i s) r) ρ = execs T ios r ρ1 := by
  rw [execs, exec, if_neg hi, h]
  rfl
theorem rTryX {b s r : ISs} {c x : Str} {fs : List (Str × Dat)} {i : Nat} {ρ ρ1 ρ2 : DEnv} (hi : i ∉ ios) (h : execs T ios b ρ = .exc x fs ρ1) (hx : T.sub x c = some true) (hs : execs T ios s (ρ1.set i (.exn x fs)) = .ok (.nx ρ2)) : execs T ios (.cons (.tryA b c i s) r) ρ = execs T ios r (clean (ρ2.set i .no)) := by
  rw [execs, exec, if_neg hi, h]
  simp only [hx, hs, gone]
  rfl
theorem rSetX {i : Nat} {e : IE} {r : ISs} {ρ ρ1 : DEnv} {c : Str} {fs : List (Str × Dat)} (hi : i ∉ ios) (h : ev T e ρ = .exc c fs ρ1) :
    execs T ios (.cons (.set i e) r) ρ = .exc c fs ρ1 := by
  rw [execs, exec, if_neg hi, h]
  rfl
theorem rRetX {e : IE} {r : ISs} {ρ ρ1 : DEnv} {c : Str} {fs : List (Str × Dat)} (h : ev T e ρ = .exc c fs ρ1) :
    execs T ios (.cons (.ret e) r) ρ = .exc c fs ρ1 := by
  rw [execs, exec, h]
  rfl
theorem rIteT {c : IE} {a b r : ISs} {ρ ρ1 : DEnv} {m : Mode} (h : ev T c ρ = .ok (.bl true, m, ρ1)) {d : Dat} {new : Bool} {ρ2 : DEnv} (ha : execs T ios a ρ1 = .ok (.rt d new ρ2)) :
    execs T ios (.cons (.ite c a b) r) ρ = .ok (.rt d new ρ2) := by
  rw [execs, exec, h, bindOk]
  show (execs T ios a ρ1).bind _ = _
  rw [ha]
  rfl
theorem rIteTn {c : IE} {a b r : ISs} {ρ ρ1 : DEnv} {m : Mode} (h : ev T c ρ = .ok (.bl true, m, ρ1)) {ρ2 : DEnv} (ha : execs T ios a ρ1 = .ok (.nx ρ2)) :
    execs T ios (.cons (.ite c a b) r) ρ = execs T ios r ρ2 := by
  rw [execs, exec, h, bindOk]
  show (execs T ios a ρ1).bind _ = _
  rw [ha]
  rfl
theorem rIteF {c : IE} {a r : ISs} {ρ ρ1 : DEnv} {m : Mode} (h : ev T c ρ = .ok (.bl false, m, ρ1)) :
    execs T ios (.cons (.ite c a .nil) r) ρ = execs T ios r ρ1 := by
  rw [execs, exec, h, bindOk]
  show (execs T ios .nil ρ1).bind _ = _
  rw [execs]
  rfl
theorem rSet {i : Nat} {e : IE} {r : ISs} {ρ ρ1 : DEnv} {d : Dat} {m : Mode} (hi : i ∉ ios) (h : ev T e ρ = .ok (d, m, ρ1)) :
    execs T ios (.cons (.set i e) r) ρ = execs T ios r (store i d m ρ1) := by
  rw [execs, exec, if_neg hi, h, bindOk]
  rfl
theorem rPar {is : List Nat} {es : IEs} {r : ISs} {ρ ρ1 : DEnv} {ds : List Dat} (hi : is.any (fun i => ios.contains i) = false) (h : evs T es ρ = .ok (ds, ρ1)) (hl : ds.length = is.length) :
    execs T ios (.cons (.par is es) r) ρ = execs T ios r (storeAll is ds ρ1) := by
  rw [execs, exec, if_neg (by rw [hi]; decide), h, bindOk]
  show (if ds.length = is.length then _ else _ : Res Out).bind _ = _
  rw [if_pos hl]
  rfl
theorem rRet {e : IE} {r : ISs} {ρ ρ1 : DEnv} {d : Dat} (h : ev T e ρ = .ok (d, .frz, ρ1)) :
    execs T ios (.cons (.ret e) r) ρ = .ok (.rt d false ρ1) := by
  rw [execs, exec, h, bindOk]
  rfl
theorem rRetN {e : IE} {r : ISs} {ρ ρ1 : DEnv} {d : Dat} (h : ev T e ρ = .ok (d, .fresh, ρ1)) :
    execs T ios (.cons (.ret e) r) ρ = .ok (.rt d true ρ1) := by
  rw [execs, exec, h, bindOk]
  rfl
theorem rRetB {e : IE} {r : ISs} {ρ ρ1 : DEnv} {d : Dat} {i : Nat} (hi : i ∉ ios) (h : ev T e ρ = .ok (d, .brw i, ρ1)) :
    execs T ios (.cons (.ret e) r) ρ = .ok (.rt d true (ρ1.set i .no)) := by
  rw [execs, exec, h, bindOk]
  show (if i ∈ ios then _ else _ : Res Out).bind _ = _
  rw [if_neg hi]
  rfl
theorem rApp {i : Nat} {e : IE} {r : ISs} {ρ ρ1 : DEnv} {d : Dat} {m : Mode} {ds0 ds : List Dat} (h0 : ρ[i]? = some (.own (.lst ds0))) (h : ev T e ρ = .ok (d, m, ρ1)) (h1 : (keep m ρ1 d)[i]? = some (.own (.lst ds))) (hs : sm ds.length = true) :
    execs T ios (.cons (.app i e) r) ρ = execs T ios r ((keep m ρ1 d).set i (.own (.lst (ds ++ [d])))) := by
  rw [execs, exec, h0]
  show ((ev T e ρ).bind _).bind _ = _
  rw [h, bindOk]
  show (match (keep m ρ1 d)[i]? with | some (.own (.lst ds)) => _ | _ => _ : Res Out).bind _ = _
  rw [h1]
  show (if sm ds.length = true then _ else _ : Res Out).bind _ = _
  rw [if_pos hs]
  rfl
theorem lt62 (n : Nat) (h : n ≤ 100000) : (n : Int) < 2 ^ 62 := by
  have : (2:Int)^62 = 4611686018427387904 := by decide
  rw [this]
  omega
theorem ge62 (n : Nat) : -(2 ^ 62) ≤ (n : Int) := by
  have : (2:Int)^62 = 4611686018427387904 := by decide
  rw [this]
  omega
theorem ev_lcR {el a : IE} {tg : Nat} {own : List (Str × Nat)} {ρ ρ1 : DEnv} {m : Mode} {n : Nat} (ha : ev T a ρ = .ok (.int (n : Int), m, ρ1)) (hn : n ≤ 100000) :
    ev T (.lcR el tg a own) ρ = comp (own.map (·.2)) (oneOf (ev T el) tg (own.map (·.2))) ((List.range n).map fun (k : Nat) => .int (k : Int)) ρ1 := by
  rw [ev, ha, bindOk]
  simp only []
  rw [if_pos ⟨ge62 n, lt62 n hn⟩, Int.toNat_natCast]
theorem rForR {i : Nat} {a : IE} {body r : ISs} {ρ ρ1 : DEnv} {m : Mode} {n : Nat} (hi : i ∉ ios) (ha : ev T a ρ = .ok (.int (n : Int), m, ρ1)) (hn : n ≤ 100000) :
    execs T ios (.cons (.forR i a body) r) ρ = (loop (turnOf (execs T ios body) i) ((List.range n).map fun (k : Nat) => .int (k : Int)) ρ1).bind fun o => (match o with
      | .nx ρ1 => execs T ios r ρ1
      | .rt d new ρ1 => .ok (.rt d new ρ1)) := by
  rw [execs, exec, if_neg hi, ha, bindOk]
  simp only []
  rw [if_pos ⟨ge62 n, lt62 n hn⟩, Int.toNat_natCast]
  all_goals rfl
theorem rComp {vs : List Nat} {one : Dat → DEnv → Res (Option Dat × DEnv)} {xs ys : List Dat} {ρ ρ2 ρ3 : DEnv} (hs : sm xs.length = true) (hc : calmAt ρ vs = true) (ht : turns one xs ρ = .ok (ys, ρ2)) (hb : back ρ ρ2 vs = ρ3) :
    comp vs one xs ρ = .ok (.lst ys, .fresh, ρ3) := by
  unfold comp
  rw [hs, hc, ht, hb.symm]
  rfl
theorem rCompX {vs : List Nat} {one : Dat → DEnv → Res (Option Dat × DEnv)} {xs : List Dat} {c : Str} {fs : List (Str × Dat)} {ρ ρ2 : DEnv} (hs : sm xs.length = true) (hc : calmAt ρ vs = true) (ht : turns one xs ρ = .exc c fs ρ2) :
    comp vs one xs ρ = .exc c fs (back ρ ρ2 vs) := by
  unfold comp
  rw [hs, hc, ht]
  rfl
end
theorem evCmp {T : Tab} {op : CmpOp} {a b : IE} {x y : Dat} {ρ ρ1 ρ2 : DEnv} {k : Mode} {r : Bool} (ha : ev T a ρ = .ok (x, .frz, ρ1)) (hb : ev T b ρ1 = .ok (y, k, ρ2)) (hr : cmpD op x y = some r) :
    ev T (.cmp op a b) ρ = .ok (.bl r, .frz, ρ2) := by
  rw [ev, ha, bindOk]
  simp only [hb, bindOk, now, ofOs, hr]
theorem evVar {T : Tab} {i : Nat} {d : Dat} {ρ : DEnv} (h : ρ[i]? = some (.val d)) : ev T (.var i) ρ = .ok (d, .frz, ρ) := by
  rw [ev, h]
theorem var0 {T : Tab} {d : Dat} {r : DEnv} : ev T (.var 0) (.val d :: r) = .ok (d, .frz, .val d :: r) := by
  rw [ev]
  rfl
theorem turns_map {f : Dat → DEnv → Res (Option Dat × DEnv)} (g : Dat → Dat) (mk : Slot → DEnv) : ∀ (xs : List Dat) (sl : Slot), (∀ x ∈ xs, ∀ sl, f x (mk sl) = .ok (some (g x), mk (.val x))) → ∃ sl', turns f xs (mk sl) = .ok (xs.map g, mk sl')
  | [], sl, _ => ⟨sl, rfl⟩
  | x :: r, sl, h => by
    obtain ⟨sl', hr⟩ := turns_map g mk r (.val x) fun y hy => h y (List.mem_cons_of_mem _ hy)
    refine ⟨sl', ?_⟩
    simp only [turns, h x List.mem_cons_self sl, bindOk, hr, put, List.map_cons]
theorem at0 {α : Type} (x : α) (r : List α) : L2.atI (x :: r) 0 = some x := by
  simp [L2.atI, L2.ixN]
theorem sm_of {n : Nat} (h : n ≤ 1000) : sm n = true := by
  unfold sm
  exact decide_eq_true (by omega)
theorem sm_lit {n : Nat} (h : n ≤ 1000) : sm n = true := sm_of h
def di (n : Int) : Dat := .int n
def sgn (c : Nat) : Dat := .str ⟨#[c]⟩
theorem bls_map {α : Type} (f : α → Bool) : ∀ xs : List α, bls? (xs.map fun x => Dat.bl (f x)) = some (xs.map f)
  | [] => rfl
  | x :: r => by simp [bls?, bls_map f r]
theorem inD_sign (c : Nat) (z : Str) : inD (sgn c) (.str z) = some (decide (c ∈ z.cps.toList)) := rfl
theorem call1 {T : Tab} {f : Str} {fi : FI} {e : IE} {ρ ρ1 : DEnv} {x d : Dat} {new : Bool} (hf : T.fn f = some fi) (hio : fi.io = [false]) (he : ev T e ρ = .ok (x, .frz, ρ1)) (hr : fi.run [x] = .ok (d, new, [])) :
    ev T (.call f (.cons e .nil)) ρ = .ok (d, if new then .fresh else .frz, ρ1) := by
  rw [ev, hf]
  simp only [hio, evArgs, he, bindOk, keep, callD, slotsOf, List.nodup_nil, List.length_cons, List.length_nil, and_self, if_true, readArgs, ofOs, Option.map, hr, putBack]
theorem call1X {T : Tab} {f : Str} {fi : FI} {e : IE} {ρ ρ1 ss : DEnv} {x : Dat} {c : Str} {fs : List (Str × Dat)} (hf : T.fn f = some fi) (hio : fi.io = [false]) (he : ev T e ρ = .ok (x, .frz, ρ1)) (hr : fi.run [x] = .exc c fs ss) :
    ev T (.call f (.cons e .nil)) ρ = .exc c fs ρ1 := by
  rw [ev, hf]
  simp only [hio, evArgs, he, bindOk, keep, callD, slotsOf, List.nodup_nil, List.length_cons, List.length_nil, and_self, if_true, readArgs, ofOs, Option.map, hr, putX]
theorem call2 {T : Tab} {f : Str} {fi : FI} {e g : IE} {ρ ρ1 ρ2 : DEnv} {x y d : Dat} {new : Bool} (hf : T.fn f = some fi) (hio : fi.io = [false, false]) (he : ev T e ρ = .ok (x, .frz, ρ1)) (hg : ev T g ρ1 = .ok (y, .frz, ρ2)) (hr : fi.run [x, y] = .ok (d, new, [])) :
    ev T (.call f (.cons e (.cons g .nil))) ρ = .ok (d, if new then .fresh else .frz, ρ2) := by
  rw [ev, hf]
  simp only [hio, evArgs, he, hg, bindOk, keep, callD, slotsOf, List.nodup_nil, List.length_cons, List.length_nil, and_self, if_true, readArgs, ofOs, Option.map, hr, putBack]
theorem call2X {T : Tab} {f : Str} {fi : FI} {e g : IE} {ρ ρ1 ρ2 ss : DEnv} {x y : Dat} {c : Str} {fs : List (Str × Dat)} (hf : T.fn f = some fi) (hio : fi.io = [false, false]) (he : ev T e ρ = .ok (x, .frz, ρ1)) (hg : ev T g ρ1 = .ok (y, .frz, ρ2)) (hr : fi.run [x, y] = .exc c fs ss) :
    ev T (.call f (.cons e (.cons g .nil))) ρ = .exc c fs ρ2 := by
  rw [ev, hf]
  simp only [hio, evArgs, he, hg, bindOk, keep, callD, slotsOf, List.nodup_nil, List.length_cons, List.length_nil, and_self, if_true, readArgs, ofOs, Option.map, hr, putX]
theorem callK1 {T : Tab} {f k : Str} {fi : FI} {e : IE} {ρ ρ1 : DEnv} {x d : Dat} {new : Bool} (hf : T.fn f = some fi) (hk : T.kw f = some [k]) (hio : fi.io = [false]) (he : ev T e ρ = .ok (x, .frz, ρ1)) (hr : fi.run [x] = .ok (d, new, [])) :
    ev T (.callK f [k] (.cons e .nil)) ρ = .ok (d, if new then .fresh else .frz, ρ1) := by
  rw [ev, hf]
  simp only [hk, hio, List.all_cons, List.all_nil, Bool.not_false, Bool.and_self, and_self, if_true, evs, he, bindOk, keep, List.map_cons, List.map_nil, callD, slotsOf, List.nodup_nil, List.length_cons, List.length_nil, readArgs, ofOs, Option.map, hr, putBack]
abbrev pot (a b : Int) : Dat := .lst [.int a, .int b]
theorem take_spec (a b : Int) {m : Int} (hm : 0 < m) : 0 ≤ (takeN a b m).1 ∧ (takeN a b m).1 < m := by
  unfold takeN
  split
  · exact ⟨Int.emod_nonneg _ (by omega), Int.emod_lt_of_pos _ hm⟩
  · exact ⟨Int.emod_nonneg _ (by omega), Int.emod_lt_of_pos _ hm⟩
theorem callP1 {T : Tab} {f : Str} {fi : FI} {i : Nat} {ρ : DEnv} {p d p' : Dat} {new : Bool} (hf : T.fn f = some fi) (hio : fi.io = [true]) (h0 : ρ[i]? = some (.own p)) (hr : fi.run [p] = .ok (d, new, [p'])) :
    ev T (.call f (.cons (.var i) .nil)) ρ = .ok (d, if new then .fresh else .frz, ρ.set i (.own p')) := by
  rw [ev, hf]
  simp only [hio, evArgs, ioSlot, h0, bindOk, callD, slotsOf, List.nodup_cons, List.not_mem_nil, not_false_eq_true, List.nodup_nil, List.length_cons, List.length_nil, and_self, if_true, readArgs, ofOs, Option.map, hr, putBack]
theorem callP2 {T : Tab} {f : Str} {fi : FI} {i : Nat} {e : IE} {ρ ρ1 : DEnv} {p0 p x d p' : Dat} {new : Bool} (hf : T.fn f = some fi) (hio : fi.io = [true, false]) (h0 : ρ[i]? = some (.own p0)) (he : ev T e ρ = .ok (x, .frz, ρ1)) (h1 : ρ1[i]? = some (.own p)) (hr : fi.run [p, x] = .ok (d, new, [p'])) :
    ev T (.call f (.cons (.var i) (.cons e .nil))) ρ = .ok (d, if new then .fresh else .frz, ρ1.set i (.own p')) := by
  rw [ev, hf]
  simp only [hio, evArgs, ioSlot, h0, he, keep, bindOk, callD, slotsOf, List.nodup_cons, List.not_mem_nil, not_false_eq_true, List.nodup_nil, List.length_cons, List.length_nil, and_self, if_true, readArgs, h1, ofOs, Option.map, hr, putBack]
theorem callPT {T : Tab} {f : Str} {fi : FI} {i : Nat} {es : IEs} {ρ : DEnv} {p x d p' x' : Dat} {new : Bool} (hf : T.fn f = some fi) (hio : fi.io = [true, true]) (h0 : ρ[i]? = some (.own p)) (he : ev T (.lst es) ρ = .ok (x, .fresh, ρ)) (hr : fi.run [p, x] = .ok (d, new, [p', x'])) :
    ev T (.call f (.cons (.var i) (.cons (.lst es) .nil))) ρ = .ok (d, if new then .fresh else .frz, ρ.set i (.own p')) := by
  rw [ev, hf]
  simp only [hio, evArgs, ioSlot, h0, he, keep, bindOk, callD, slotsOf, List.nodup_cons, List.not_mem_nil, not_false_eq_true, List.nodup_nil, List.length_cons, List.length_nil, and_self, if_true, readArgs, ofOs, Option.map, hr, putBack]
theorem takeRun (a b : Int) {m : Int} (hm : 0 < m ∧ m < 1073741824) : takeFI.run [pot a b, .int m] = .ok (.int (takeN a b m).1, false, [pot (takeN a b m).2.1 (takeN a b m).2.2]) := by
  show (if 0 < m ∧ m < 1073741824 then _ else _) = _
  rw [if_pos hm]
theorem takeC {T : Tab} {i : Nat} {e : IE} {ρ : DEnv} {a b m : Int} (hf : T.fn (Str.ofString "_law_take") = some takeFI) (h0 : ρ[i]? = some (.own (pot a b))) (he : ev T e ρ = .ok (.int m, .frz, ρ)) (hm : 0 < m ∧ m < 1073741824) :
    ∃ r a' b' : Int, (0 ≤ r ∧ r < m) ∧ ev T (.call (Str.ofString "_law_take") (.cons (.var i) (.cons e .nil))) ρ = .ok (.int r, .frz, ρ.set i (.own (pot a' b'))) :=
  ⟨_, _, _, take_spec a b hm.1, callP2 hf rfl h0 he h0 (takeRun a b hm)⟩
theorem takeK {T : Tab} {i : Nat} {ρ : DEnv} {a b : Int} (m : Int) (hf : T.fn (Str.ofString "_law_take") = some takeFI) (h0 : ρ[i]? = some (.own (pot a b))) (hm : 0 < m ∧ m < 1073741824) :
    ∃ r a' b' : Int, (0 ≤ r ∧ r < m) ∧ ev T (.call (Str.ofString "_law_take") (.cons (.var i) (.cons (.cst (.int m)) .nil))) ρ = .ok (.int r, .frz, ρ.set i (.own (pot a' b'))) :=
  takeC hf h0 (by rw [ev]) hm
theorem evBin {T : Tab} {op : Operator} {a b : IE} {x y d : Dat} {ρ ρ1 ρ2 : DEnv} {k j : Mode} (ha : ev T a ρ = .ok (x, .frz, ρ1)) (hb : ev T b ρ1 = .ok (y, k, ρ2)) (hr : binD op x y = some (d, j)) :
    ev T (.bin op a b) ρ = .ok (d, j, ρ2) := by
  rw [ev, ha, bindOk]
  simp only [hb, bindOk, now, ofOs, hr]
theorem evBinF {T : Tab} {op : Operator} {a b : IE} {x y d : Dat} {ρ ρ1 ρ2 : DEnv} {k j : Mode} (ha : ev T a ρ = .ok (x, .fresh, ρ1)) (hb : ev T b ρ1 = .ok (y, k, ρ2)) (hr : binD op x y = some (d, j)) :
    ev T (.bin op a b) ρ = .ok (d, j, ρ2) := by
  rw [ev, ha, bindOk]
  simp only [hb, bindOk, now, ofOs, hr]
theorem evIdx {T : Tab} {a b : IE} {x y d : Dat} {ρ ρ1 ρ2 : DEnv} {k j : Mode} (ha : ev T a ρ = .ok (x, k, ρ1)) (hk : k = .frz ∨ k = .fresh) (hb : ev T b ρ1 = .ok (y, j, ρ2)) (hr : idxD x y = some d) :
    ev T (.idx a b) ρ = .ok (d, .frz, ρ2) := by
  rw [ev, ha, bindOk]
  cases hk with
  | inl h => subst h; simp only [hb, bindOk, now, ofOs, hr]
  | inr h => subst h; simp only [hb, bindOk, now, ofOs, hr]
theorem evIdxB {T : Tab} {i : Nat} {b : IE} {x y d : Dat} {ρ ρ2 : DEnv} {j : Mode} (h0 : ρ[i]? = some (.own x)) (hb : ev T b ρ = .ok (y, j, ρ2)) (h1 : ρ2[i]? = some (.own x)) (hr : idxD x y = some d) :
    ev T (.idx (.var i) b) ρ = .ok (d, .frz, ρ2) := by
  have ha : ev T (.var i) ρ = .ok (x, .brw i, ρ) := by rw [ev, h0]
  rw [ev, ha, bindOk]
  simp only [hb, bindOk, now, h1, ofOs, hr]
theorem evLst {T : Tab} {es : IEs} {ds : List Dat} {ρ ρ1 : DEnv} (h : evs T es ρ = .ok (ds, ρ1)) (hs : sm ds.length = true) : ev T (.lst es) ρ = .ok (.lst ds, .fresh, ρ1) := by
  rw [ev, h, bindOk]
  simp only [hs, if_true]
theorem evTup {T : Tab} {es : IEs} {ds : List Dat} {ρ ρ1 : DEnv} (h : evs T es ρ = .ok (ds, ρ1)) (hs : sm ds.length = true) : ev T (.tup es) ρ = .ok (.tup ds, .frz, ρ1) := by
  rw [ev, h, bindOk]
  simp only [hs, if_true]
theorem evsCons {T : Tab} {e : IE} {es : IEs} {d : Dat} {ds : List Dat} {ρ ρ1 ρ2 : DEnv} {m : Mode} (hm : m = .frz ∨ m = .fresh) (h : ev T e ρ = .ok (d, m, ρ1)) (hs : evs T es ρ1 = .ok (ds, ρ2)) : evs T (.cons e es) ρ = .ok (d :: ds, ρ2) := by
  rw [evs, h, bindOk]
  cases hm with
  | inl e => subst e; simp only [keep, hs, bindOk]
  | inr e => subst e; simp only [keep, hs, bindOk]
theorem evBi1 {T : Tab} {b : BI} {a : IE} {x d : Dat} {ρ ρ1 : DEnv} {m k : Mode} (h : ev T a ρ = .ok (x, m, ρ1)) (hb : biD b [x] = some (d, k)) : ev T (.bi b (.cons a .nil)) ρ = .ok (d, k, ρ1) := by
  rw [ev, h, bindOk]
  simp only [hb, ofOs, bindOk]
theorem atI_mem {α : Type} {xs : List α} {i : Int} (h : 0 ≤ i ∧ i < xs.length) : ∃ x ∈ xs, L2.atI xs i = some x := by
  obtain ⟨h0, h1⟩ := h
  have hj : i.toNat < xs.length := by omega
  refine ⟨xs[i.toNat], List.getElem_mem hj, ?_⟩
  unfold L2.atI L2.ixN
  rw [if_pos h0, if_pos h1]
  show xs[i.toNat]? = _
  rw [List.getElem?_eq_getElem hj]
theorem evCst {T : Tab} {d : Dat} {ρ : DEnv} : ev T (.cst d) ρ = .ok (d, .frz, ρ) := by rw [ev]
theorem evNeg {T : Tab} {e : IE} {i : Int} {ρ ρ1 : DEnv} {m : Mode} (h : ev T e ρ = .ok (.int i, m, ρ1)) : ev T (.neg e) ρ = .ok (.int (-i), .frz, ρ1) := by
  rw [ev, h, bindOk]
theorem evIteT {T : Tab} {c a b : IE} {ρ ρ1 : DEnv} {m : Mode} (h : ev T c ρ = .ok (.bl true, m, ρ1)) : ev T (.ite c a b) ρ = ev T a ρ1 := by
  rw [ev, h, bindOk]
theorem evIteF {T : Tab} {c a b : IE} {ρ ρ1 : DEnv} {m : Mode} (h : ev T c ρ = .ok (.bl false, m, ρ1)) : ev T (.ite c a b) ρ = ev T b ρ1 := by
  rw [ev, h, bindOk]
theorem evBi2 {T : Tab} {b : BI} {a c : IE} {x y d : Dat} {ρ ρ1 ρ2 : DEnv} {m k : Mode} (h : ev T a ρ = .ok (x, .frz, ρ1)) (hc : ev T c ρ1 = .ok (y, m, ρ2)) (hb : biD b [x, y] = some (d, k)) : ev T (.bi b (.cons a (.cons c .nil))) ρ = .ok (d, k, ρ2) := by
  rw [ev, h, bindOk]
  simp only [hc, now, hb, ofOs, bindOk]
theorem evsNil {T : Tab} {ρ : DEnv} : evs T .nil ρ = .ok ([], ρ) := by rw [evs]
theorem binMul (i : Int) {j : Int} (h : -(2 ^ 64) < j ∧ j < 2 ^ 64) : binD .Mult (.int i) (.int j) = some (.int (i * j), .frz) := by
  show (if _ then _ else _) = _
  rw [if_pos (Or.inl h)]
theorem binMul' (i : Int) {j : Int} (h : -(2 ^ 64) < i ∧ i < 2 ^ 64) : binD .Mult (.int i) (.int j) = some (.int (i * j), .frz) := by
  show (if _ then _ else _) = _
  rw [if_pos (Or.inr h)]
theorem binMod (i : Int) {j : Int} (h : 0 < j) : binD .Mod (.int i) (.int j) = some (.int (i % j), .frz) := by
  show (if _ then _ else _) = _
  rw [if_pos h]
theorem joinL_nil : ∀ ps : List (List Nat), TL.joinL [] ps = ps.flatten
  | [] => rfl
  | [p] => by simp [TL.joinL]
  | p :: q :: r => by
    rw [TL.joinL, joinL_nil (q :: r)]
    rfl
theorem join_cs (cs : List Nat) : (Txt.join (Str.ofString "") (cs.map fun c => (⟨#[c]⟩ : Str))).cps.toList = cs := by
  show (Builtin.Str.glued (Str.ofString "") _).cps.toList = _
  rw [StrLaws.glued_eq_join]
  refine (TL.tl_join _ _).trans ?_
  show TL.joinL [] _ = _
  rw [joinL_nil, List.map_map]
  induction cs with
  | nil => rfl
  | cons c r ih =>
    rw [List.map_cons, List.flatten_cons, ih]
    rfl
theorem strs_cs : ∀ cs : List Nat, strs? (cs.map sgn) = some (cs.map fun c => (⟨#[c]⟩ : Str))
  | [] => rfl
  | c :: r => by
    show (strs? (r.map sgn)).map _ = _
    rw [strs_cs r]
    rfl
theorem evLc {T : Tab} {el it : IE} {tg : Nat} {own : List (Str × Nat)} {ρ ρ1 : DEnv} {x : Dat} {xs : List Dat} {m : Mode} (h : ev T it ρ = .ok (x, m, ρ1)) (hx : items x = some xs) :
    ev T (.lc el tg it own) ρ = comp (own.map (·.2)) (oneOf (ev T el) tg (own.map (·.2))) xs (keep m ρ1 x) := by
  rw [ev, h, bindOk]
  simp only [hx, ofOs, bindOk]
theorem evLcI {T : Tab} {el cd it : IE} {tg : Nat} {own : List (Str × Nat)} {ρ ρ1 : DEnv} {x : Dat} {xs : List Dat} {m : Mode} (h : ev T it ρ = .ok (x, m, ρ1)) (hx : items x = some xs) :
    ev T (.lcI el tg it cd own) ρ = comp (own.map (·.2)) (oneIf (ev T cd) (ev T el) tg (own.map (·.2))) xs (keep m ρ1 x) := by
  rw [ev, h, bindOk]
  simp only [hx, ofOs, bindOk]
theorem evJoin {T : Tab} {o a : IE} {ρ ρ1 ρ2 : DEnv} {s : Str} {ys : List Dat} {zs : List Str} {m k : Mode} (h : ev T o ρ = .ok (.str s, m, ρ1)) (ha : ev T a ρ1 = .ok (.lst ys, k, ρ2)) (hz : strs? ys = some zs) (hs : sm ((zs.map (·.length)).sum + zs.length * s.length) = true) :
    ev T (.join o a) ρ = .ok (.str (Txt.join s zs), .frz, ρ2) := by
  rw [ev, h, bindOk]
  simp only [ha, bindOk, hz, ofOs, hs, if_true]
theorem sum_ones : ∀ cs : List Nat, ((cs.map fun c => (⟨#[c]⟩ : Str)).map (·.length)).sum = cs.length
  | [] => rfl
  | c :: r => by
    rw [List.map_cons, List.map_cons, List.sum_cons, sum_ones r, List.length_cons, Nat.add_comm]
    rfl
def isStr (d : Dat) : Prop := ∃ w, d = .str w
theorem str_add (x y : Str) (h : x.length + y.length ≤ 1000) : binD .Add (.str x) (.str y) = some (.str (x ++ y), .frz) := by
  show (if sm (x.length + y.length) = true then _ else _) = _
  rw [if_pos (sm_lit h)]
theorem lst_add (x y : List Dat) (h : x.length + y.length ≤ 1000) : binD .Add (.lst x) (.lst y) = some (.lst (x ++ y), .fresh) := by
  show (if sm (x.length + y.length) = true then _ else _) = _
  rw [if_pos (sm_lit h)]
theorem cut_str (s : Str) (k : Int) (h : s.length ≤ 1000) : slcD (.str s) none (some k) = some (.str (L2.cutS s none (some k)), .frz) := by
  show (if sm s.length = true then _ else _) = _
  rw [if_pos (sm_lit h)]
theorem evSlcR {T : Tab} {a : IE} {x d : Dat} {i : Int} {ρ ρ1 : DEnv} {k : Mode} (ha : ev T a ρ = .ok (x, .frz, ρ1)) (hr : slcD x none (some i) = some (d, k)) :
    ev T (.slcR a (.cst (.int i))) ρ = .ok (d, k, ρ1) := by
  rw [ev, ha, bindOk]
  simp only [evCst, bindOk, now, ofOs, hr]
def lowS (s : Str) : Prop := ∀ c ∈ s.cps.toList, c < 128
theorem evNot {T : Tab} {e : IE} {b : Bool} {ρ ρ1 : DEnv} {m : Mode} (h : ev T e ρ = .ok (.bl b, m, ρ1)) : ev T (.not e) ρ = .ok (.bl (!b), .frz, ρ1) := by
  rw [ev, h, bindOk]
theorem evOrT {T : Tab} {a b : IE} {ρ ρ1 : DEnv} {m : Mode} (h : ev T a ρ = .ok (.bl true, m, ρ1)) : ev T (.or a b) ρ = .ok (.bl true, .frz, ρ1) := by
  rw [ev, h, bindOk]
theorem evOrF {T : Tab} {a b : IE} {ρ ρ1 : DEnv} {m : Mode} (h : ev T a ρ = .ok (.bl false, m, ρ1)) : ev T (.or a b) ρ = ev T b ρ1 := by
  rw [ev, h, bindOk]
theorem evAndT {T : Tab} {a b : IE} {ρ ρ1 : DEnv} {m : Mode} (h : ev T a ρ = .ok (.bl true, m, ρ1)) : ev T (.and a b) ρ = ev T b ρ1 := by
  rw [ev, h, bindOk]
theorem evIsi {T : Tab} {a : IE} {ty : String} {x : Dat} {b : Bool} {ρ ρ1 : DEnv} {m : Mode} (h : ev T a ρ = .ok (x, m, ρ1)) (hb : x.isa ty = some b) : ev T (.isi a ty) ρ = .ok (.bl b, .frz, ρ1) := by
  rw [ev, h, bindOk]
  simp only [hb, ofOs, bindOk]
theorem evGlb {T : Tab} {x : Str} {d : Dat} {ρ : DEnv} (h : T.con x = some d) : ev T (.glb x) ρ = .ok (d, .frz, ρ) := by
  rw [ev, h]
  rfl
theorem evSplit {T : Tab} {o a : IE} {ρ ρ1 ρ2 : DEnv} {s t : Str} {m k : Mode} (h : ev T o ρ = .ok (.str s, m, ρ1)) (ha : ev T a ρ1 = .ok (.str t, k, ρ2)) (hs : (sm s.length && !(t.length == 0)) = true) :
    ev T (.split o a) ρ = .ok (.lst ((Txt.split s t).map .str), .fresh, ρ2) := by
  rw [ev, h, bindOk]
  simp only [ha, bindOk, hs, if_true]
theorem evIsN {T : Tab} {a : IE} {b : Bool} {x : Dat} {ρ ρ1 : DEnv} {m : Mode} (h : ev T a ρ = .ok (x, m, ρ1)) : ev T (.isN b a) ρ = .ok (.bl (if b then x.isNon else !x.isNon), .frz, ρ1) := by
  rw [ev, h, bindOk]
theorem evIsE {T : Tab} {i : Nat} {c d : Str} {fs : List (Str × Dat)} {b : Bool} {ρ : DEnv} (h : ρ[i]? = some (.exn c fs)) (hb : T.sub c d = some b) : ev T (.isE i [d]) ρ = .ok (.bl b, .frz, ρ) := by
  rw [ev, h]
  cases b <;> simp only [subs, hb, ofOs, bindOk]
theorem evSlcL {T : Tab} {a : IE} {x d : Dat} {i : Int} {ρ ρ1 : DEnv} {k j : Mode} (ha : ev T a ρ = .ok (x, j, ρ1)) (hj : j = .frz ∨ j = .fresh) (hr : slcD x (some i) none = some (d, k)) :
    ev T (.slcL a (.cst (.int i))) ρ = .ok (d, k, ρ1) := by
  rw [ev, ha, bindOk]
  cases hj with
  | inl h => subst h; simp only [evCst, bindOk, now, ofOs, hr]
  | inr h => subst h; simp only [evCst, bindOk, now, ofOs, hr]
theorem evCmpF {T : Tab} {op : CmpOp} {a b : IE} {x y : Dat} {ρ ρ1 ρ2 : DEnv} {k : Mode} {r : Bool} (ha : ev T a ρ = .ok (x, .fresh, ρ1)) (hb : ev T b ρ1 = .ok (y, k, ρ2)) (hr : cmpD op x y = some r) :
    ev T (.cmp op a b) ρ = .ok (.bl r, .frz, ρ2) := by
  rw [ev, ha, bindOk]
  simp only [hb, bindOk, now, ofOs, hr]
theorem evBinX {T : Tab} {op : Operator} {a b : IE} {x : Dat} {ρ ρ1 ρ2 : DEnv} {k : Mode} {c : Str} {fs : List (Str × Dat)} (ha : ev T a ρ = .ok (x, k, ρ1)) (hb : ev T b ρ1 = .exc c fs ρ2) :
    ev T (.bin op a b) ρ = .exc c fs ρ2 := by
  rw [ev, ha, bindOk]
  simp only [hb]
  rfl
theorem evBi1X {T : Tab} {b : BI} {a : IE} {ρ ρ1 : DEnv} {c : Str} {fs : List (Str × Dat)} (h : ev T a ρ = .exc c fs ρ1) : ev T (.bi b (.cons a .nil)) ρ = .exc c fs ρ1 := by
  rw [ev, h]
  rfl
theorem evTup2X {T : Tab} {d : Dat} {e : IE} {es : IEs} {ρ ρ1 : DEnv} {c : Str} {fs : List (Str × Dat)} (h : ev T e ρ = .exc c fs ρ1) : ev T (.tup (.cons (.cst d) (.cons e es))) ρ = .exc c fs ρ1 := by
  rw [ev, evs, evCst, bindOk]
  simp only [keep, evs, h]
  rfl
theorem evFst3 {T : Tab} {a b c : IE} {x y z : Dat} {s t u : Str} {ρ ρ1 ρ2 ρ3 : DEnv} {m k j : Mode} (ha : ev T a ρ = .ok (x, m, ρ1)) (h1 : fmtD Str.empty x = some s) (hb : ev T b ρ1 = .ok (y, k, ρ2)) (h2 : fmtD s y = some t) (hc : ev T c ρ2 = .ok (z, j, ρ3)) (h3 : fmtD t z = some u) :
    ev T (.fst (.cons a (.cons b (.cons c .nil)))) ρ = .ok (.str u, .frz, ρ3) := by
  rw [ev, evF, ha, bindOk]
  simp only [h1, ofOs, bindOk, evF, hb, h2, hc, h3]
end Ev
set_option Elab.async false
set_option linter.all false
set_option maxRecDepth 100000
set_option maxHeartbeats 4000000
namespace Ev
open PySem
/-! what may be told: bounds that grow by parts -/
structure NiceL (xs : List Dat) (p b : Nat) : Prop where
  sh : PyData.showableAll (toPys xs) = true
  dp : PyData.depthAll (toPys xs) ≤ p
  lv : PyData.leavesShortAll 25 (toPys xs) = true
  bk : PyData.bulkAll (toPys xs) ≤ b
structure Nice (d : Dat) (p b : Nat) : Prop where
  sh : d.toPy.showable = true
  dp : d.toPy.depth ≤ p
  lv : d.toPy.leavesShort 25 = true
  bk : d.toPy.bulk ≤ b
theorem toPys_append : ∀ xs ys : List Dat, toPys (xs ++ ys) = toPys xs ++ toPys ys
  | [], ys => rfl
  | x :: xs, ys => by
    show _ :: toPys (xs ++ ys) = _
    rw [toPys_append xs ys]
    rfl
theorem niceL_nil (p : Nat) : NiceL [] p 0 := ⟨rfl, Nat.zero_le _, rfl, Nat.le_refl _⟩
theorem niceL_cons {x : Dat} {xs : List Dat} {p b c : Nat} (h : Nice x p b) (hs : NiceL xs p c) : NiceL (x :: xs) p (b + 1 + c) := by
  refine ⟨?_, ?_, ?_, ?_⟩
  · simp only [toPys, PyData.showableAll, h.sh, hs.sh, Bool.and_self]
  · have := h.dp
    have := hs.dp
    simp only [toPys, PyData.depthAll]
    omega
  · simp only [toPys, PyData.leavesShortAll, h.lv, hs.lv, Bool.and_self]
  · have := h.bk
    have := hs.bk
    simp only [toPys, PyData.bulkAll]
    omega
theorem niceL_uncons {x : Dat} {xs : List Dat} {p b : Nat} (h : NiceL (x :: xs) p b) : Nice x p b ∧ NiceL xs p b := by
  obtain ⟨h1, h2, h3, h4⟩ := h
  simp only [toPys, PyData.showableAll, PyData.leavesShortAll, Bool.and_eq_true] at h1 h3
  simp only [toPys, PyData.depthAll, PyData.bulkAll] at h2 h4
  exact ⟨⟨h1.1, by omega, h3.1, by omega⟩, ⟨h1.2, by omega, h3.2, by omega⟩⟩
theorem niceL_mono {xs : List Dat} {p b c : Nat} (h : NiceL xs p b) (hc : b ≤ c) : NiceL xs p c := ⟨h.sh, h.dp, h.lv, Nat.le_trans h.bk hc⟩
theorem nice_mono {d : Dat} {p q b c : Nat} (h : Nice d p b) (hp : p ≤ q) (hc : b ≤ c) : Nice d q c := ⟨h.sh, Nat.le_trans h.dp hp, h.lv, Nat.le_trans h.bk hc⟩
theorem niceL_append {p c : Nat} {ys : List Dat} (hy : NiceL ys p c) : ∀ {xs : List Dat} {b : Nat}, NiceL xs p b → NiceL (xs ++ ys) p (b + c)
  | [], b, h => niceL_mono hy (by omega)
  | x :: xs, b, h => by
    obtain ⟨h1, h2, h3, h4⟩ := h
    simp only [toPys, PyData.showableAll, PyData.leavesShortAll, Bool.and_eq_true] at h1 h3
    simp only [toPys, PyData.depthAll, PyData.bulkAll] at h2 h4
    have ih := niceL_append hy (xs := xs) (b := PyData.bulkAll (toPys xs)) ⟨h1.2, by omega, h3.2, Nat.le_refl _⟩
    have hx : Nice x p x.toPy.bulk := ⟨h1.1, by omega, h3.1, Nat.le_refl _⟩
    exact niceL_mono (niceL_cons hx ih) (by omega)
theorem niceL_drop {p b : Nat} : ∀ {xs : List Dat} (n : Nat), NiceL xs p b → NiceL (xs.drop n) p b
  | [], n, h => by rw [List.drop_nil]; exact h
  | x :: xs, 0, h => h
  | x :: xs, n + 1, h => by
    rw [List.drop_succ_cons]
    exact niceL_drop n (niceL_uncons h).2
theorem niceL_take {p : Nat} : ∀ {xs : List Dat} {b : Nat} (n : Nat), NiceL xs p b → NiceL (xs.take n) p b
  | [], b, n, h => by rw [List.take_nil]; exact h
  | x :: xs, b, 0, h => by rw [List.take_zero]; exact niceL_mono (niceL_nil p) (by omega)
  | x :: xs, b, n + 1, h => by
    obtain ⟨h1, h2, h3, h4⟩ := h
    simp only [toPys, PyData.showableAll, PyData.leavesShortAll, Bool.and_eq_true] at h1 h3
    simp only [toPys, PyData.depthAll, PyData.bulkAll] at h2 h4
    have ih := niceL_take (p := p) (xs := xs) (b := PyData.bulkAll (toPys xs)) n ⟨h1.2, by omega, h3.2, Nat.le_refl _⟩
    have hx : Nice x p x.toPy.bulk := ⟨h1.1, by omega, h3.1, Nat.le_refl _⟩
    rw [List.take_succ_cons]
    exact niceL_mono (niceL_cons hx ih) (by omega)
theorem niceL_cut {p b : Nat} {xs : List Dat} (lo hi : Option Int) (h : NiceL xs p b) : NiceL (cut xs lo hi) p b := niceL_take _ (niceL_drop _ h)
theorem nice_tup {p b : Nat} {xs : List Dat} (h : NiceL xs p b) : Nice (.tup xs) (p + 1) b := by
  refine ⟨?_, ?_, ?_, ?_⟩
  · simp only [Dat.toPy, PyData.showable, h.sh]
  · have := h.dp
    simp only [Dat.toPy, PyData.depth]
    omega
  · simp only [Dat.toPy, PyData.leavesShort, h.lv]
  · have := h.bk
    simp only [Dat.toPy, PyData.bulk]
    omega
theorem nice_lst {p b : Nat} {xs : List Dat} (h : NiceL xs p b) : Nice (.lst xs) (p + 1) b := by
  refine ⟨?_, ?_, ?_, ?_⟩
  · simp only [Dat.toPy, PyData.showable, h.sh]
  · have := h.dp
    simp only [Dat.toPy, PyData.depth]
    omega
  · simp only [Dat.toPy, PyData.leavesShort, h.lv]
  · have := h.bk
    simp only [Dat.toPy, PyData.bulk]
    omega
theorem nice_int {i : Int} (h : i.natAbs < 10 ^ 21) : Nice (.int i) 1 0 := by
  refine ⟨?_, ?_, ?_, ?_⟩
  · have h2 : i.natAbs < 2 ^ 1920 := Nat.lt_of_lt_of_le h (by decide +kernel)
    simp only [Dat.toPy, PyData.showable, decide_eq_true_eq]
    by_cases h0 : i.natAbs = 0
    · rw [h0]; decide
    · exact (Nat.log2_lt h0).mpr h2
  · simp only [Dat.toPy, PyData.depth]
    omega
  · have h2 := int_text_length_le10 (k := 21) (by omega) h
    show PyData.leavesShort 25 (.int i) = true
    rw [PyData.leavesShort]
    refine decide_eq_true ?_
    show (Str.ofString (toString i)).length ≤ 25
    rw [ofString_length]
    omega
  · exact Nat.le_refl _
theorem nice_str {s : Str} (h : lowS s) : Nice (.str s) 1 s.length := by
  refine ⟨rfl, ?_, ?_, Nat.le_refl _⟩
  · simp only [Dat.toPy, PyData.depth]
    omega
  · simp only [Dat.toPy, PyData.leavesShort, List.all_eq_true, decide_eq_true_eq]
    intro c hc
    have := h c hc
    omega
theorem tell_of {d : Dat} {b : Nat} (h : Nice d 40 b) (hb : b ≤ 3000) (hd : d.toPy.hasDict = false ∨ d.noLst = true) : d.tell = true := by
  have h1 := PyData.shown_le_bulk 25 (by omega) d.toPy h.lv
  have h2 := h.bk
  have h3 : sm d.toPy.shown.length = true := decide_eq_true (by omega)
  unfold Dat.tell
  rw [h.sh, decide_eq_true h.dp, h3]
  cases hd with
  | inl hd => rw [hd]; rfl
  | inr hd => rw [hd, Bool.or_true]; rfl
end Ev
set_option Elab.async false
set_option linter.all false
set_option maxRecDepth 100000
set_option maxHeartbeats 4000000
namespace K18
open PySem PySem.Spec PyProof.Rows L2 Ev
def topS (i : Nat) : Stmt := PySem.Challenge.pw_onefacers_k18_whos_and_ends_as_texts.main.body.getD i (.Pass ⟨0, 0, 0, 0⟩)
abbrev st_is_name : Stmt := topS 8
def nn_is_name : List Str := [(Str.ofString "thing"), (Str.ofString "sign")]
def ps_is_name : List Str := [(Str.ofString "thing")]
def io_is_name : List Bool := [false]
def el_is_name_1 : IE := (.cmp .In (.var 1) (.glb (Str.ofString "LETTERS")))
def bd_is_name : ISs := (.cons (.ite (.or (.not (.isi (.var 0) "str")) (.not (.cmp2 .LtE .LtE (.cst (.int 1)) (.bi .len (.cons (.var 0) .nil)) (.glb (Str.ofString "MOST_LETTERS"))))) (.cons (.ret (.cst (.bl false))) .nil) .nil) (.cons (.ret (.bi .all (.cons (.lc el_is_name_1 1 (.var 0) [((Str.ofString "sign"), 1)]) .nil))) .nil))
theorem ck_is_name : chkSs nn_is_name false (defScope st_is_name) bd_is_name (defBody st_is_name) = true := by decide +kernel
theorem sc_is_name : FnScope nn_is_name ps_is_name (defScope st_is_name) := ⟨rfl, rfl, rfl, by decide +kernel, rfl, by decide +kernel, by decide +kernel⟩
abbrev st_who_text : Stmt := topS 12
def nn_who_text : List Str := [(Str.ofString "who"), (Str.ofString "part")]
def ps_who_text : List Str := [(Str.ofString "who")]
def io_who_text : List Bool := [false]
def el_who_text_1 : IE := (.bi .str (.cons (.var 1) .nil))
def bd_who_text : ISs := (.cons (.ret (.join (.glb (Str.ofString "POINT")) (.lc el_who_text_1 1 (.var 0) [((Str.ofString "part"), 1)]))) .nil)
theorem ck_who_text : chkSs nn_who_text false (defScope st_who_text) bd_who_text (defBody st_who_text) = true := by decide +kernel
theorem sc_who_text : FnScope nn_who_text ps_who_text (defScope st_who_text) := ⟨rfl, rfl, rfl, by decide +kernel, rfl, by decide +kernel, by decide +kernel⟩
abbrev st_end_text : Stmt := topS 13
def nn_end_text : List Str := [(Str.ofString "end"), (Str.ofString "who"), (Str.ofString "number")]
def ps_end_text : List Str := [(Str.ofString "end")]
def io_end_text : List Bool := [false]
def bd_end_text : ISs := (.cons (.unp [1, 2] (.var 0)) (.cons (.ret (.fst (.cons (.call (Str.ofString "who_text") (.cons (.var 1) .nil)) (.cons (.glb (Str.ofString "MARK")) (.cons (.var 2) .nil))))) .nil))
theorem ck_end_text : chkSs nn_end_text false (defScope st_end_text) bd_end_text (defBody st_end_text) = true := by decide +kernel
theorem sc_end_text : FnScope nn_end_text ps_end_text (defScope st_end_text) := ⟨rfl, rfl, rfl, by decide +kernel, rfl, by decide +kernel, by decide +kernel⟩
abbrev st_number_of : Stmt := topS 14
def nn_number_of : List Str := [(Str.ofString "word"), (Str.ofString "most"), (Str.ofString "number")]
def ps_number_of : List Str := [(Str.ofString "word"), (Str.ofString "most")]
def io_number_of : List Bool := [false, false]
def lp_number_of_1 : ISs := (.cons (.ite (.cmp .Eq (.bi .str (.cons (.var 2) .nil)) (.var 0)) (.cons (.ret (.var 2)) .nil) .nil) .nil)
def rl_number_of_1 : IS := (.forR 2 (.bin .Add (.var 1) (.cst (.int 1))) lp_number_of_1)
def bd_number_of : ISs := (.cons rl_number_of_1 (.cons (.rai (Str.ofString "NoText")) .nil))
theorem ck_number_of : chkSs nn_number_of false (defScope st_number_of) bd_number_of (defBody st_number_of) = true := by decide +kernel
theorem sc_number_of : FnScope nn_number_of ps_number_of (defScope st_number_of) := ⟨rfl, rfl, rfl, by decide +kernel, rfl, by decide +kernel, by decide +kernel⟩
abbrev st_who_of : Stmt := topS 15
def nn_who_of : List Str := [(Str.ofString "text"), (Str.ofString "name"), (Str.ofString "places"), (Str.ofString "place")]
def ps_who_of : List Str := [(Str.ofString "text")]
def io_who_of : List Bool := [false]
def el_who_of_1 : IE := (.call (Str.ofString "number_of") (.cons (.var 3) (.cons (.glb (Str.ofString "MOST_PLACE")) .nil)))
def bd_who_of : ISs := (.cons (.ite (.not (.isi (.var 0) "str")) (.cons (.rai (Str.ofString "NoText")) .nil) .nil) (.cons (.unpS 1 2 (.split (.var 0) (.glb (Str.ofString "POINT")))) (.cons (.ite (.not (.call (Str.ofString "is_name") (.cons (.var 1) .nil))) (.cons (.rai (Str.ofString "NoText")) .nil) .nil) (.cons (.ret (.bi .tuple (.cons (.bin .Add (.lst (.cons (.var 1) .nil)) (.lc el_who_of_1 3 (.var 2) [((Str.ofString "place"), 3)])) .nil))) .nil))))
theorem ck_who_of : chkSs nn_who_of false (defScope st_who_of) bd_who_of (defBody st_who_of) = true := by decide +kernel
theorem sc_who_of : FnScope nn_who_of ps_who_of (defScope st_who_of) := ⟨rfl, rfl, rfl, by decide +kernel, rfl, by decide +kernel, by decide +kernel⟩
abbrev st__law_pot : Stmt := topS 17
def nn__law_pot : List Str := [(Str.ofString "_law_script"), (Str.ofString "_law_k"), (Str.ofString "_law_cell")]
def ps__law_pot : List Str := [(Str.ofString "_law_script"), (Str.ofString "_law_k")]
def io__law_pot : List Bool := [false, false]
def bd__law_pot : ISs := (.cons (.set 2 (.ite (.cmp .Lt (.var 1) (.bi .len (.cons (.var 0) .nil))) (.idx (.var 0) (.var 1)) (.cst (.int 0)))) (.cons (.ret (.lst (.cons (.bi .max (.cons (.cst (.int 0)) (.cons (.bin .Sub (.var 2) (.bin .Pow (.cst (.int 10)) (.cst (.int 18)))) .nil))) (.cons (.bin .Mod (.bin .Add (.bin .Mult (.bin .Mod (.var 2) (.cst (.int 2147483563))) (.cst (.int 40692))) (.bin .Mult (.cst (.int 30011)) (.bin .Add (.var 1) (.cst (.int 1))))) (.cst (.int 2147483399))) .nil)))) .nil))
theorem ck__law_pot : chkSs nn__law_pot false (defScope st__law_pot) bd__law_pot (defBody st__law_pot) = true := by decide +kernel
theorem sc__law_pot : FnScope nn__law_pot ps__law_pot (defScope st__law_pot) := ⟨rfl, rfl, rfl, by decide +kernel, rfl, by decide +kernel, by decide +kernel⟩
-- _law_take: statement Assign(targets=[Subscript(value=Name(id='_law_pot_here', ctx=Load()), slice=Constant(value=1), ctx=S
abbrev st__law_label : Stmt := topS 19
def nn__law_label : List Str := [(Str.ofString "_law_pot_here"), (Str.ofString "_law_used"), (Str.ofString "_law_letters"), (Str.ofString "_law_size"), (Str.ofString "_law_name"), (Str.ofString "_law_some"), (Str.ofString "_law_k"), (Str.ofString "_law_one")]
def ps__law_label : List Str := [(Str.ofString "_law_pot_here"), (Str.ofString "_law_used")]
def io__law_label : List Bool := [true, true]
def el__law_label_1 : IE := (.var 7)
def cd__law_label_1 : IE := (.cmp .NotIn (.var 7) (.var 1))
def el__law_label_2 : IE := (.bin .Add (.var 7) (.slcR (.var 4) (.cst (.int 7))))
def el__law_label_3 : IE := (.bin .Add (.bin .Add (.var 7) (.var 7)) (.slcR (.var 4) (.cst (.int 6))))
def el__law_label_4 : IE := (.idx (.var 2) (.call (Str.ofString "_law_take") (.cons (.var 0) (.cons (.cst (.int 26)) .nil))))
def rc__law_label_1 : IE := (.lcR el__law_label_4 6 (.var 3) [((Str.ofString "_law_k"), 6)])
def bd__law_label : ISs := (.cons (.set 2 (.cst (.str (Str.ofString "abcdefghijklmnopqrstuvwxyz")))) (.cons (.set 3 (.idx (.lst (.cons (.cst (.int 1)) (.cons (.cst (.int 1)) (.cons (.cst (.int 2)) (.cons (.cst (.int 8)) (.cons (.bin .Add (.cst (.int 1)) (.call (Str.ofString "_law_take") (.cons (.var 0) (.cons (.cst (.int 8)) .nil)))) .nil)))))) (.call (Str.ofString "_law_take") (.cons (.var 0) (.cons (.cst (.int 5)) .nil))))) (.cons (.set 4 (.join (.cst (.str (Str.ofString ""))) rc__law_label_1)) (.cons (.set 5 (.bin .Add (.bin .Add (.lst (.cons (.var 4) .nil)) (.lc el__law_label_2 7 (.var 2) [((Str.ofString "_law_one"), 7)])) (.lc el__law_label_3 7 (.var 2) [((Str.ofString "_law_one"), 7)]))) (.cons (.set 4 (.idx (.lcI el__law_label_1 7 (.var 5) cd__law_label_1 [((Str.ofString "_law_one"), 7)]) (.cst (.int 0)))) (.cons (.app 1 (.var 4)) (.cons (.ret (.var 4)) .nil)))))))
theorem ck__law_label : chkSs nn__law_label false (defScope st__law_label) bd__law_label (defBody st__law_label) = true := by decide +kernel
theorem sc__law_label : FnScope nn__law_label ps__law_label (defScope st__law_label) := ⟨rfl, rfl, rfl, by decide +kernel, rfl, by decide +kernel, by decide +kernel⟩
abbrev st__law_is_label : Stmt := topS 20
def nn__law_is_label : List Str := [(Str.ofString "_law_thing"), (Str.ofString "_law_sign")]
def ps__law_is_label : List Str := [(Str.ofString "_law_thing")]
def io__law_is_label : List Bool := [false]
def el__law_is_label_1 : IE := (.var 1)
def cd__law_is_label_1 : IE := (.cmp .NotIn (.var 1) (.cst (.str (Str.ofString "abcdefghijklmnopqrstuvwxyz"))))
def bd__law_is_label : ISs := (.cons (.ite (.or (.not (.isi (.var 0) "str")) (.not (.cmp2 .Lt .Lt (.cst (.int 0)) (.bi .len (.cons (.var 0) .nil)) (.cst (.int 9))))) (.cons (.ret (.cst (.bl false))) .nil) .nil) (.cons (.ret (.cmp .Eq (.lcI el__law_is_label_1 1 (.var 0) cd__law_is_label_1 [((Str.ofString "_law_sign"), 1)]) (.lst .nil))) .nil))
theorem ck__law_is_label : chkSs nn__law_is_label false (defScope st__law_is_label) bd__law_is_label (defBody st__law_is_label) = true := by decide +kernel
theorem sc__law_is_label : FnScope nn__law_is_label ps__law_is_label (defScope st__law_is_label) := ⟨rfl, rfl, rfl, by decide +kernel, rfl, by decide +kernel, by decide +kernel⟩
abbrev st__law_who_told : Stmt := topS 21
def nn__law_who_told : List Str := [(Str.ofString "_law_word"), (Str.ofString "_law_figures"), (Str.ofString "_law_name"), (Str.ofString "_law_places"), (Str.ofString "_law_k"), (Str.ofString "_law_place")]
def ps__law_who_told : List Str := [(Str.ofString "_law_word")]
def io__law_who_told : List Bool := [false]
def el__law_who_told_1 : IE := (.bi .int (.cons (.var 5) .nil))
def el__law_who_told_2 : IE := (.cmp .In (.var 5) (.var 1))
def el__law_who_told_3 : IE := (.bi .str (.cons (.var 4) .nil))
def rc__law_who_told_1 : IE := (.lcR el__law_who_told_3 4 (.cst (.int 12)) [((Str.ofString "_law_k"), 4)])
def bd__law_who_told : ISs := (.cons (.ite (.not (.isi (.var 0) "str")) (.cons (.ret (.cst .non)) .nil) .nil) (.cons (.par [2, 3] (.cons (.idx (.split (.var 0) (.cst (.str (Str.ofString ".")))) (.cst (.int 0))) (.cons (.slcL (.split (.var 0) (.cst (.str (Str.ofString ".")))) (.cst (.int 1))) .nil))) (.cons (.set 1 rc__law_who_told_1) (.cons (.ite (.or (.not (.call (Str.ofString "_law_is_label") (.cons (.var 2) .nil))) (.not (.bi .all (.cons (.lc el__law_who_told_2 5 (.var 3) [((Str.ofString "_law_place"), 5)]) .nil)))) (.cons (.ret (.cst .non)) .nil) .nil) (.cons (.ret (.bi .tuple (.cons (.bin .Add (.lst (.cons (.var 2) .nil)) (.lc el__law_who_told_1 5 (.var 3) [((Str.ofString "_law_place"), 5)])) .nil))) .nil)))))
theorem ck__law_who_told : chkSs nn__law_who_told false (defScope st__law_who_told) bd__law_who_told (defBody st__law_who_told) = true := by decide +kernel
theorem sc__law_who_told : FnScope nn__law_who_told ps__law_who_told (defScope st__law_who_told) := ⟨rfl, rfl, rfl, by decide +kernel, rfl, by decide +kernel, by decide +kernel⟩
abbrev st__law_tried : Stmt := topS 22
def nn__law_tried : List Str := [(Str.ofString "_law_word"), (Str.ofString "_law_told"), (Str.ofString "e")]
def ps__law_tried : List Str := [(Str.ofString "_law_word")]
def io__law_tried : List Bool := [false]
def su__law_tried_1 : ISs := (.cons (.ite (.and (.isE 2 [(Str.ofString "NoText")]) (.and (.isE 2 [(Str.ofString "ValueError")]) (.not (.isE 2 [(Str.ofString "NoWeb")])))) (.cons (.set 1 (.tup (.cons (.cst (.str (Str.ofString "no"))) (.cons (.cst .non) .nil)))) .nil) .nil) .nil)
def tb__law_tried_1 : ISs := (.cons (.set 1 (.tup (.cons (.cst (.str (Str.ofString "told"))) (.cons (.call (Str.ofString "who_of") (.cons (.var 0) .nil)) .nil)))) .nil)
def ty__law_tried_1 : IS := (.tryA tb__law_tried_1 (Str.ofString "FacerError") 2 su__law_tried_1)
def bd__law_tried : ISs := (.cons (.set 1 (.tup (.cons (.cst (.str (Str.ofString "other"))) (.cons (.cst .non) .nil)))) (.cons ty__law_tried_1 (.cons (.ret (.var 1)) .nil)))
theorem ck__law_tried : chkSs nn__law_tried false (defScope st__law_tried) bd__law_tried (defBody st__law_tried) = true := by decide +kernel
theorem sc__law_tried : FnScope nn__law_tried ps__law_tried (defScope st__law_tried) := ⟨rfl, rfl, rfl, by decide +kernel, rfl, by decide +kernel, by decide +kernel⟩
abbrev st__law_spoilt : Stmt := topS 23
def nn__law_spoilt : List Str := [(Str.ofString "_law_pot_here"), (Str.ofString "_law_word"), (Str.ofString "_law_at"), (Str.ofString "_law_signs"), (Str.ofString "_law_sign"), (Str.ofString "_law_some")]
def ps__law_spoilt : List Str := [(Str.ofString "_law_pot_here"), (Str.ofString "_law_word")]
def io__law_spoilt : List Bool := [true, false]
def bd__law_spoilt : ISs := (.cons (.set 2 (.call (Str.ofString "_law_take") (.cons (.var 0) (.cons (.bin .Add (.bi .len (.cons (.var 1) .nil)) (.cst (.int 1))) .nil)))) (.cons (.set 3 (.cst (.str (Str.ofString ".:abcxyz0123456789- A\n+_")))) (.cons (.set 4 (.idx (.var 3) (.call (Str.ofString "_law_take") (.cons (.var 0) (.cons (.cst (.int 24)) .nil))))) (.cons (.set 5 (.lst (.cons (.bin .Add (.slcR (.var 1) (.var 2)) (.slcL (.var 1) (.bin .Add (.var 2) (.cst (.int 1))))) (.cons (.bin .Add (.bin .Add (.slcR (.var 1) (.var 2)) (.var 4)) (.slcL (.var 1) (.var 2))) (.cons (.bin .Add (.bin .Add (.slcR (.var 1) (.var 2)) (.var 4)) (.slcL (.var 1) (.bin .Add (.var 2) (.cst (.int 1))))) (.cons (.bin .Add (.var 1) (.cst (.str (Str.ofString ".12")))) .nil)))))) (.cons (.set 5 (.bin .Add (.var 5) (.lst (.cons (.bin .Add (.var 1) (.cst (.str (Str.ofString ".")))) (.cons (.bin .Add (.cst (.str (Str.ofString "."))) (.var 1)) (.cons (.bin .Add (.var 1) (.cst (.str (Str.ofString ".01")))) (.cons (.bin .Add (.var 1) (.cst (.str (Str.ofString ".-1")))) (.cons (.bin .Add (.var 1) (.cst (.str (Str.ofString ":0")))) (.cons (.bin .Add (.var 1) (.cst (.str (Str.ofString ".0")))) .nil))))))))) (.cons (.ret (.idx (.bin .Add (.var 5) (.lst (.cons (.bin .Add (.var 1) (.cst (.str (Str.ofString ".+1")))) (.cons (.bin .Add (.var 1) (.cst (.str (Str.ofString ".1_0")))) .nil)))) (.call (Str.ofString "_law_take") (.cons (.var 0) (.cons (.cst (.int 12)) .nil))))) .nil))))))
theorem ck__law_spoilt : chkSs nn__law_spoilt false (defScope st__law_spoilt) bd__law_spoilt (defBody st__law_spoilt) = true := by decide +kernel
theorem sc__law_spoilt : FnScope nn__law_spoilt ps__law_spoilt (defScope st__law_spoilt) := ⟨rfl, rfl, rfl, by decide +kernel, rfl, by decide +kernel, by decide +kernel⟩
abbrev st__law_is_right : Stmt := topS 24
def nn__law_is_right : List Str := [(Str.ofString "_law_word"), (Str.ofString "_law_due"), (Str.ofString "_law_turn")]
def ps__law_is_right : List Str := [(Str.ofString "_law_word")]
def io__law_is_right : List Bool := [false]
def lp__law_is_right_1 : ISs := (.cons (.ite (.cmp .NotEq (.bi .repr (.cons (.call (Str.ofString "_law_tried") (.cons (.var 0) .nil)) .nil)) (.bi .repr (.cons (.ite (.isN true (.var 1)) (.tup (.cons (.cst (.str (Str.ofString "no"))) (.cons (.cst .non) .nil))) (.tup (.cons (.cst (.str (Str.ofString "told"))) (.cons (.var 1) .nil)))) .nil))) (.cons (.ret (.cst (.bl false))) .nil) .nil) .nil)
def rl__law_is_right_1 : IS := (.forR 2 (.cst (.int 2)) lp__law_is_right_1)
def bd__law_is_right : ISs := (.cons (.set 1 (.call (Str.ofString "_law_who_told") (.cons (.var 0) .nil))) (.cons rl__law_is_right_1 (.cons (.ret (.cst (.bl true))) .nil)))
theorem ck__law_is_right : chkSs nn__law_is_right false (defScope st__law_is_right) bd__law_is_right (defBody st__law_is_right) = true := by decide +kernel
theorem sc__law_is_right : FnScope nn__law_is_right ps__law_is_right (defScope st__law_is_right) := ⟨rfl, rfl, rfl, by decide +kernel, rfl, by decide +kernel, by decide +kernel⟩
abbrev st__law_right : Stmt := topS 25
def nn__law_right : List Str := [(Str.ofString "_law_pot_here"), (Str.ofString "_law_many"), (Str.ofString "_law_path"), (Str.ofString "_law_word"), (Str.ofString "_law_bent"), (Str.ofString "_law_odd"), (Str.ofString "_law_number"), (Str.ofString "_law_name"), (Str.ofString "_law_thing"), (Str.ofString "_law_k"), (Str.ofString "_law_place")]
def ps__law_right : List Str := [(Str.ofString "_law_pot_here")]
def io__law_right : List Bool := [true]
def el__law_right_1 : IE := (.call (Str.ofString "_law_is_right") (.cons (.var 8) .nil))
def el__law_right_2 : IE := (.bin .Add (.cst (.str (Str.ofString "."))) (.bi .str (.cons (.var 10) .nil)))
def el__law_right_3 : IE := (.call (Str.ofString "_law_take") (.cons (.var 0) (.cons (.cst (.int 12)) .nil)))
def rc__law_right_1 : IE := (.lcR el__law_right_3 9 (.var 1) [((Str.ofString "_law_k"), 9)])
def bd__law_right : ISs := (.cons (.set 1 (.idx (.lst (.cons (.call (Str.ofString "_law_take") (.cons (.var 0) (.cons (.cst (.int 13)) .nil))) (.cons (.cst (.int 198)) .nil))) (.bi .int (.cons (.cmp .Eq (.call (Str.ofString "_law_take") (.cons (.var 0) (.cons (.cst (.int 8)) .nil))) (.cst (.int 7))) .nil)))) (.cons (.set 2 (.bi .tuple (.cons (.bin .Add (.lst (.cons (.call (Str.ofString "_law_label") (.cons (.var 0) (.cons (.lst .nil) .nil))) .nil)) rc__law_right_1) .nil))) (.cons (.set 3 (.bin .Add (.idx (.var 2) (.cst (.int 0))) (.join (.cst (.str (Str.ofString ""))) (.lc el__law_right_2 10 (.slcL (.var 2) (.cst (.int 1))) [((Str.ofString "_law_place"), 10)])))) (.cons (.ite (.cmp .NotEq (.bi .repr (.cons (.lst (.cons (.call (Str.ofString "who_text") (.cons (.var 2) .nil)) (.cons (.callK (Str.ofString "who_text") [(Str.ofString "who")] (.cons (.var 2) .nil)) (.cons (.call (Str.ofString "who_of") (.cons (.var 3) .nil)) (.cons (.callK (Str.ofString "who_of") [(Str.ofString "text")] (.cons (.var 3) .nil)) .nil))))) .nil)) (.bi .repr (.cons (.lst (.cons (.var 3) (.cons (.var 3) (.cons (.var 2) (.cons (.var 2) .nil))))) .nil))) (.cons (.ret (.cst (.bl false))) .nil) .nil) (.cons (.par [6, 7] (.cons (.call (Str.ofString "_law_take") (.cons (.var 0) (.cons (.cst (.int 7)) .nil))) (.cons (.call (Str.ofString "_law_label") (.cons (.var 0) (.cons (.lst .nil) .nil))) .nil))) (.cons (.ite (.cmp .NotEq (.lst (.cons (.call (Str.ofString "end_text") (.cons (.tup (.cons (.var 2) (.cons (.var 6) .nil))) .nil)) (.cons (.callK (Str.ofString "end_text") [(Str.ofString "end")] (.cons (.tup (.cons (.tup .nil) (.cons (.var 7) .nil))) .nil)) .nil))) (.lst (.cons (.bin .Add (.bin .Add (.var 3) (.cst (.str (Str.ofString ":")))) (.bi .str (.cons (.var 6) .nil))) (.cons (.bin .Add (.cst (.str (Str.ofString ":"))) (.var 7)) .nil)))) (.cons (.ret (.cst (.bl false))) .nil) .nil) (.cons (.set 4 (.call (Str.ofString "_law_spoilt") (.cons (.var 0) (.cons (.var 3) .nil)))) (.cons (.set 5 (.lst (.cons (.cst .non) (.cons (.cst (.int 0)) (.cons (.cst (.bl false)) (.cons (.cst (.bl true)) (.cons (.cst (.str (Str.ofString ""))) (.cons (.tup .nil) (.cons (.lst .nil) (.cons .dic0 (.cons (.var 2) (.cons (.bi .list (.cons (.var 2) .nil)) (.cons (.lst (.cons (.var 3) .nil)) (.cons (.cst (.str (Str.ofString "."))) (.cons (.cst (.str (Str.ofString ":"))) (.cons (.cst (.str (Str.ofString "A"))) (.cons (.cst (.str (Str.ofString ".0"))) .nil))))))))))))))))) (.cons (.ret (.bi .all (.cons (.lc el__law_right_1 8 (.bin .Add (.lst (.cons (.var 4) (.cons (.call (Str.ofString "_law_spoilt") (.cons (.var 0) (.cons (.var 4) .nil))) (.cons (.var 3) .nil)))) (.var 5)) [((Str.ofString "_law_thing"), 8)]) .nil))) .nil)))))))))
theorem ck__law_right : chkSs nn__law_right false (defScope st__law_right) bd__law_right (defBody st__law_right) = true := by decide +kernel
theorem sc__law_right : FnScope nn__law_right ps__law_right (defScope st__law_right) := ⟨rfl, rfl, rfl, by decide +kernel, rfl, by decide +kernel, by decide +kernel⟩
abbrev st_law : Stmt := topS 26
def nn_law : List Str := [(Str.ofString "_law_script"), (Str.ofString "_law_k")]
def ps_law : List Str := [(Str.ofString "_law_script")]
def io_law : List Bool := [false]
def el_law_1 : IE := (.call (Str.ofString "_law_right") (.cons (.call (Str.ofString "_law_pot") (.cons (.var 0) (.cons (.var 1) .nil))) .nil))
def rc_law_1 : IE := (.lcR el_law_1 1 (.bi .max (.cons (.cst (.int 1)) (.cons (.bi .min (.cons (.cst (.int 8)) (.cons (.bi .len (.cons (.var 0) .nil)) .nil))) .nil))) [((Str.ofString "_law_k"), 1)])
def bd_law : ISs := (.cons (.ret (.bi .all (.cons rc_law_1 .nil))) .nil)
theorem ck_law : chkSs nn_law false (defScope st_law) bd_law (defBody st_law) = true := by decide +kernel
theorem sc_law : FnScope nn_law ps_law (defScope st_law) := ⟨rfl, rfl, rfl, by decide +kernel, rfl, by decide +kernel, by decide +kernel⟩
abbrev st__law_take : Stmt := topS 18
theorem sc__law_take : FnScope ["_law_pot_here", "_law_much", "_law_digit"] ["_law_pot_here", "_law_much"] (defScope st__law_take) := ⟨rfl, rfl, rfl, by decide +kernel, rfl, by decide +kernel, by decide +kernel⟩
theorem ok_take {P : Program} {w : World} {K : PySem.W.Frag} {mg : Str → Option Value} {base : Heap} {k : Nat} {f : Addr} {fd : FuncData} (F : Fun K "_law_take" "_law_take" st__law_take f fd) (md : mg "divmod" = none) :
    FnG P w K mg base (k + 1) f fd ["_law_pot_here", "_law_much"] (spD ⟨K, mg, none⟩ takeFI) := by
  refine fnG_of F sc__law_take (fun vs H Q E h => ?_) fun cdv A outer s H vs Q E hr hg h => ?_
  · obtain ⟨ds, a, _⟩ := h
    exact (argsR_len a).1
  · obtain ⟨ds, a, nd, post⟩ := h
    cases hrun : takeFI.run ds with
    | stuck => rw [hrun] at post; exact (show False from post).elim
    | exc c fs ss => exact (take_no hrun).elim
    | ok r =>
    obtain ⟨d, new, outs⟩ := r
    rw [hrun] at post
    have post : ∀ v H', Post ⟨K, mg, none⟩ takeFI.io vs H d new outs v H' → Q v H' := post
    obtain ⟨a0, b0, m0, rfl, hm, rfl, rfl, rfl⟩ := take_run hrun
    obtain ⟨v0, v1, rfl⟩ : ∃ v0 v1, vs = [v0, v1] := by
      have := (argsR_len a).1
      match vs, this with
      | [x, y], _ => exact ⟨x, y, rfl⟩
    obtain ⟨⟨p, rfl, ws, ds', e1, hp, l⟩, i1, _⟩ := a
    cases e1
    cases i1
    cases l with
    | cons q1 l =>
      cases q1
      cases l with
      | cons q2 l =>
        cases q2
        cases l
        refine ⟨_, pss_cons (ps_if (pt_cmpR op_gt (pe_ix ix_list (pv 0) pe_int (fun _ _ => rfl)) pe_int (nomark _))
          (pss_cons (ps_asg (pe_callB call_divmod (by rfl) md (by decide +kernel) (pa_cons (pe_ix ix_list (pv 0) pe_int (fun _ _ => rfl)) (pa_cons (pv 1) pa_nil))) (pg_tup rfl (pgs_cons (pg_sub (pv 0) pe_int set_list) (pgs_cons (pg_name (i := 2) sc__law_take.nd rfl (.inl rfl)) pgs_nil))))
          (pss_one (ps_ret (pv 2)))) pss_nil)
          (pss_cons (ps_asg (pe_op op_mod (pe_op op_add (pe_op op_mul (pe_ix ix_list (pv 0) pe_int (fun _ _ => rfl)) pe_int) pe_int) pe_int) (pg_sub (pv 0) pe_int set_list))
          (pss_one (ps_ret (pe_op op_mod (pe_op op_fdiv (pe_op op_mod (pe_op op_mul (pe_ix ix_list (pv 0) pe_int (fun _ _ => rfl)) (pe_ix ix_list (pv 0) pe_int (fun _ _ => rfl))) pe_int) pe_int) (pv 1))))), ?_⟩
        have sq : SqL K H p [.int a0, .int b0] := .inl (.inl hp)
        refine ⟨.ref p, rfl, p, _, 0, .int a0, rfl, rfl, sq, rfl, a0, 0, rfl, rfl, _, rfl, ite2 (fun c => ?_) (fun c => ?_)⟩
        · have c := of_decide_eq_true c
          refine ⟨.ref p, rfl, p, _, 0, .int a0, rfl, rfl, sq, rfl, .int m0, rfl, a0, m0, rfl, hm, fun q hq => ?_⟩
          have hp1 : upd H q (.tup [.int (a0 / m0), .int (a0 % m0)]) p = some (.lst [.int a0, .int b0]) := by rw [upd_ne (ne_of_none hp hq)]; exact hp
          refine ⟨q, _, rfl, .inl (.inl upd_same), rfl, _, _, rfl, ?_⟩
          refine ⟨.ref p, rfl, p, _, 0, 0, rfl, rfl, hp1, rfl, _, _, rfl, rfl, ?_⟩
          refine ⟨_, rfl, post _ _ ⟨fun b o hb hn => ?_, ?_, ⟨⟨_, _, rfl, upd_same, ?_⟩, trivial⟩, ?_⟩⟩
          · have hn' : b ≠ p := fun z => hn (by rw [z]; exact List.mem_cons_self)
            rw [upd_ne hn', upd_ne (ne_of_none hb hq)]; exact hb
          · exact (FrzLe.new hq).trans (FrzLe.mut hp1 rfl)
          · show IsL ⟨K, mg, none⟩ _ _ [.int (takeN a0 b0 m0).2.1, .int (takeN a0 b0 m0).2.2]
            unfold takeN
            rw [if_pos c]
            exact .cons (.int _) (.cons (.int _) .nil)
          · show Is ⟨K, mg, none⟩ _ _ (.int (takeN a0 b0 m0).1)
            unfold takeN
            rw [if_pos c]
            exact .int _
        · have c : ¬ 0 < a0 := fun z => c (decide_eq_true z)
          refine ⟨.ref p, rfl, p, _, 1, .int b0, rfl, rfl, sq, rfl, b0, 40014, rfl, rfl, .inr ⟨by decide, by decide⟩, _, 12211, rfl, rfl, _, 2147483563, rfl, rfl, by show (0 : Int) < 2147483563; decide, ?_⟩
          refine ⟨.ref p, rfl, p, _, 1, 1, rfl, rfl, hp, rfl, ?_⟩
          have hc0 : 0 ≤ (b0 * 40014 + 12211) % 2147483563 := Int.emod_nonneg _ (by decide)
          have hc1 : (b0 * 40014 + 12211) % 2147483563 < 2147483563 := Int.emod_lt_of_pos _ (by decide)
          have sq2 : SqL K (upd H p (.lst [.int a0, .int ((b0 * 40014 + 12211) % 2147483563)])) p [.int a0, .int ((b0 * 40014 + 12211) % 2147483563)] := .inl (.inl upd_same)
          refine ⟨.ref p, rfl, p, _, 1, .int ((b0 * 40014 + 12211) % 2147483563), rfl, rfl, sq2, rfl, .ref p, rfl, p, _, 1, .int ((b0 * 40014 + 12211) % 2147483563), rfl, rfl, sq2, rfl, _, _, rfl, rfl, .inl ⟨?_, ?_⟩, _, 2147483399, rfl, rfl, by show (0 : Int) < 2147483399; decide, _, 11, rfl, rfl, ⟨by decide, by decide⟩, .int m0, rfl, _, m0, rfl, rfl, hm.1, ?_⟩
          · have : (-(2 ^ 64) : Int) < 0 := by decide
            omega
          · have : (2147483563 : Int) < 2 ^ 64 := by decide
            omega
          refine post _ _ ⟨fun b o hb hn => ?_, FrzLe.mut hp rfl, ⟨⟨_, _, rfl, upd_same, ?_⟩, trivial⟩, ?_⟩
          · rw [upd_ne (fun z => hn (by rw [z]; exact List.mem_cons_self))]; exact hb
          · show IsL ⟨K, mg, none⟩ _ _ [.int (takeN a0 b0 m0).2.1, .int (takeN a0 b0 m0).2.2]
            unfold takeN
            rw [if_neg c]
            exact .cons (.int _) (.cons (.int _) .nil)
          · show Is ⟨K, mg, none⟩ _ _ (.int (takeN a0 b0 m0).1)
            unfold takeN
            rw [if_neg c]
            exact .int _

end K18
set_option Elab.async false
set_option linter.all false
set_option maxRecDepth 100000
set_option maxHeartbeats 4000000
namespace K18
open PySem Ev
def T_0 : Tab where
  con := fun x => if x = (Str.ofString "MOST_LETTERS") then some (.int 8) else if x = (Str.ofString "MOST_PLACE") then some (.int 11) else if x = (Str.ofString "LETTERS") then some (.str (Str.ofString "abcdefghijklmnopqrstuvwxyz")) else if x = (Str.ofString "POINT") then some (.str (Str.ofString ".")) else if x = (Str.ofString "MARK") then some (.str (Str.ofString ":")) else none
  fn := fun _ => none
  sub := fun c d => if c = (Str.ofString "NoText") ∧ d = (Str.ofString "FacerError") then some true else if c = (Str.ofString "NoText") ∧ d = (Str.ofString "NoText") then some true else if c = (Str.ofString "NoText") ∧ d = (Str.ofString "NoWeb") then some false else if c = (Str.ofString "NoText") ∧ d = (Str.ofString "ValueError") then some true else none
  exc := fun c => if c = (Str.ofString "NoText") then some [] else none
  kw := fun f => if f = (Str.ofString "who_text") then some [(Str.ofString "who")] else if f = (Str.ofString "who_of") then some [(Str.ofString "text")] else if f = (Str.ofString "end_text") then some [(Str.ofString "end")] else none
def fi_is_name : FI := FI.of T_0 nn_is_name.length io_is_name bd_is_name
def T_1 : Tab := T_0.add (Str.ofString "is_name") fi_is_name
def fi_who_text : FI := FI.of T_1 nn_who_text.length io_who_text bd_who_text
def T_2 : Tab := T_1.add (Str.ofString "who_text") fi_who_text
def fi_end_text : FI := FI.of T_2 nn_end_text.length io_end_text bd_end_text
def T_3 : Tab := T_2.add (Str.ofString "end_text") fi_end_text
def fi_number_of : FI := FI.of T_3 nn_number_of.length io_number_of bd_number_of
def T_4 : Tab := T_3.add (Str.ofString "number_of") fi_number_of
def fi_who_of : FI := FI.of T_4 nn_who_of.length io_who_of bd_who_of
def T_5 : Tab := T_4.add (Str.ofString "who_of") fi_who_of
def fi__law_pot : FI := FI.of T_5 nn__law_pot.length io__law_pot bd__law_pot
def T_6 : Tab := T_5.add (Str.ofString "_law_pot") fi__law_pot
abbrev fi__law_take : FI := takeFI
def T_7 : Tab := T_6.add (Str.ofString "_law_take") fi__law_take
def fi__law_label : FI := FI.of T_7 nn__law_label.length io__law_label bd__law_label
def T_8 : Tab := T_7.add (Str.ofString "_law_label") fi__law_label
def fi__law_is_label : FI := FI.of T_8 nn__law_is_label.length io__law_is_label bd__law_is_label
def T_9 : Tab := T_8.add (Str.ofString "_law_is_label") fi__law_is_label
def fi__law_who_told : FI := FI.of T_9 nn__law_who_told.length io__law_who_told bd__law_who_told
def T_10 : Tab := T_9.add (Str.ofString "_law_who_told") fi__law_who_told
def fi__law_tried : FI := FI.of T_10 nn__law_tried.length io__law_tried bd__law_tried
def T_11 : Tab := T_10.add (Str.ofString "_law_tried") fi__law_tried
def fi__law_spoilt : FI := FI.of T_11 nn__law_spoilt.length io__law_spoilt bd__law_spoilt
def T_12 : Tab := T_11.add (Str.ofString "_law_spoilt") fi__law_spoilt
def fi__law_is_right : FI := FI.of T_12 nn__law_is_right.length io__law_is_right bd__law_is_right
def T_13 : Tab := T_12.add (Str.ofString "_law_is_right") fi__law_is_right
def fi__law_right : FI := FI.of T_13 nn__law_right.length io__law_right bd__law_right
def T_14 : Tab := T_13.add (Str.ofString "_law_right") fi__law_right
def fi_law : FI := FI.of T_14 nn_law.length io_law bd_law
def T_15 : Tab := T_14.add (Str.ofString "law") fi_law
end K18
set_option Elab.async false
set_option linter.all false
set_option maxRecDepth 100000
set_option maxHeartbeats 4000000
namespace Ev
open PySem
theorem evCmp2F {T : Tab} {o p : CmpOp} {a b c : IE} {i j : Int} {ρ ρ1 ρ2 : DEnv} {m k : Mode} (ha : ev T a ρ = .ok (.int i, m, ρ1)) (hb : ev T b ρ1 = .ok (.int j, k, ρ2)) (h : cmpD o (.int i) (.int j) = some false) :
    ev T (.cmp2 o p a b c) ρ = .ok (.bl false, .frz, ρ2) := by
  rw [ev, ha, bindOk]
  simp only [hb, bindOk, h, ofOs]
theorem evCmp2T {T : Tab} {o p : CmpOp} {a b c : IE} {i j l : Int} {r : Bool} {ρ ρ1 ρ2 ρ3 : DEnv} {m k n : Mode} (ha : ev T a ρ = .ok (.int i, m, ρ1)) (hb : ev T b ρ1 = .ok (.int j, k, ρ2)) (h : cmpD o (.int i) (.int j) = some true) (hc : ev T c ρ2 = .ok (.int l, n, ρ3)) (h' : cmpD p (.int j) (.int l) = some r) :
    ev T (.cmp2 o p a b c) ρ = .ok (.bl r, .frz, ρ3) := by
  rw [ev, ha, bindOk]
  simp only [hb, bindOk, h, ofOs, hc, h']
theorem turns_filt {f : Dat → DEnv → Res (Option Dat × DEnv)} (p : Dat → Bool) (mk : Slot → DEnv) : ∀ (xs : List Dat) (sl : Slot), (∀ x ∈ xs, ∀ sl, f x (mk sl) = .ok (if p x then some x else none, mk (.val x))) → ∃ sl', turns f xs (mk sl) = .ok (xs.filter p, mk sl')
  | [], sl, _ => ⟨sl, rfl⟩
  | x :: r, sl, h => by
    obtain ⟨sl', hr⟩ := turns_filt p mk r (.val x) fun y hy => h y (List.mem_cons_of_mem _ hy)
    refine ⟨sl', ?_⟩
    simp only [turns, h x List.mem_cons_self sl, bindOk, hr]
    by_cases c : p x = true
    · rw [if_pos c, List.filter_cons_of_pos c]
      rfl
    · rw [if_neg c, List.filter_cons_of_neg c]
      rfl
theorem eqD_lst0 (xs : List Dat) : eqD (.lst xs) (.lst []) = some xs.isEmpty := by
  unfold eqD
  simp only [eqFlat]
  split
  · cases xs <;> simp [Dat.toPy, toPys, PyData.eqv, PyData.eqvAll]
  · rfl
end Ev
namespace K18
open PySem Ev
abbrev LET : Str := Str.ofString "abcdefghijklmnopqrstuvwxyz"
def isName (s : Str) : Bool := decide (1 ≤ s.length) && decide (s.length ≤ 8) && s.cps.toList.all fun c => decide (c ∈ LET.cps.toList)
def inLet (d : Dat) : Bool := match inD d (.str LET) with
  | some r => r
  | none => false
theorem inLet_sgn (c : Nat) : inLet (sgn c) = decide (c ∈ LET.cps.toList) := rfl
theorem len_ev {T : Tab} {i : Nat} {s : Str} {ρ : DEnv} (h : ρ[i]? = some (.val (.str s))) (hs : s.length ≤ 1000) : ev T (.bi .len (.cons (.var i) .nil)) ρ = .ok (.int s.length, .frz, ρ) := by
  refine evBi1 (evVar h) ?_
  show (if sm s.length = true then _ else _) = _
  rw [if_pos (sm_lit hs)]
theorem nstr {T : Tab} {s : Str} {r : DEnv} : ev T (.not (.isi (.var 0) "str")) (.val (.str s) :: r) = .ok (.bl false, .frz, .val (.str s) :: r) := evNot (b := true) (evIsi var0 rfl)
theorem run_is_name (s : Str) (hs : s.length ≤ 1000) : fi_is_name.run [.str s] = .ok (.bl (isName s), false, []) := by
  have one : ∀ ρ : DEnv, ev T_0 (.cst (.int 1)) ρ = .ok (.int 1, .frz, ρ) := fun ρ => evCst
  by_cases c1 : (1 : Int) ≤ (s.length : Int)
  · by_cases c2 : (s.length : Int) ≤ 8
    · refine rOf (ρ0 := [.val (.str s), .no]) (ρ := [.val (.str s), .no]) rfl rfl ?_ rfl
      unfold bd_is_name
      have hc : ev T_0 (.not (.cmp2 .LtE .LtE (.cst (.int 1)) (.bi .len (.cons (.var 0) .nil)) (.glb (Str.ofString "MOST_LETTERS")))) [.val (.str s), .no] = .ok (.bl false, .frz, [.val (.str s), .no]) :=
        evNot (b := true) (evCmp2T (one _) (len_ev rfl hs) (congrArg some (decide_eq_true c1)) (evGlb rfl) (congrArg some (decide_eq_true c2)))
      rw [rIteF ((evOrF nstr).trans hc)]
      obtain ⟨sl', ht⟩ := turns_map (f := oneOf (ev T_0 el_is_name_1) 1 [1]) (fun d => .bl (inLet d)) (fun sl => [.val (.str s), sl]) (s.cps.toList.map sgn) .no (by
        intro x hx sl
        obtain ⟨c, _, rfl⟩ := List.mem_map.mp hx
        unfold oneOf
        show (ev T_0 el_is_name_1 [.val (.str s), .val (sgn c)]).bind _ = _
        unfold el_is_name_1
        rw [evCmp (r := inLet (sgn c)) (y := .str LET) (evVar rfl) (evGlb rfl) rfl, bindOk]
        rfl)
      have hl : s.cps.toList.length ≤ 1000 := by rw [Array.length_toList]; exact hs
      refine rRet (evBi1 (x := .lst ((s.cps.toList.map sgn).map fun d => .bl (inLet d))) (m := .fresh) (ρ1 := [.val (.str s), .no]) ?_ ?_)
      · rw [evLc (x := .str s) (xs := s.cps.toList.map sgn) var0 rfl]
        exact rComp (sm_lit (by rw [List.length_map]; exact hl)) rfl ht rfl
      · show (bls? ((s.cps.toList.map sgn).map fun d => .bl (inLet d))).map _ = _
        rw [bls_map]
        unfold isName
        rw [decide_eq_true (show 1 ≤ s.length by omega), decide_eq_true (show s.length ≤ 8 by omega), List.map_map, Bool.true_and, Bool.true_and]
        show some (Dat.bl ((s.cps.toList.map (inLet ∘ sgn)).all id), Mode.frz) = _
        rw [List.all_map]
        rfl
    · refine rOf (ρ0 := [.val (.str s), .no]) (ρ := [.val (.str s), .no]) rfl rfl ?_ rfl
      unfold bd_is_name isName
      rw [decide_eq_false (show ¬ s.length ≤ 8 by omega), Bool.and_false, Bool.false_and]
      have hc : ev T_0 (.not (.cmp2 .LtE .LtE (.cst (.int 1)) (.bi .len (.cons (.var 0) .nil)) (.glb (Str.ofString "MOST_LETTERS")))) [.val (.str s), .no] = .ok (.bl true, .frz, [.val (.str s), .no]) :=
        evNot (b := false) (evCmp2T (one _) (len_ev rfl hs) (congrArg some (decide_eq_true c1)) (evGlb rfl) (congrArg some (decide_eq_false c2)))
      exact rIteT ((evOrF nstr).trans hc) (rRet evCst)
  · refine rOf (ρ0 := [.val (.str s), .no]) (ρ := [.val (.str s), .no]) rfl rfl ?_ rfl
    unfold bd_is_name isName
    rw [decide_eq_false (show ¬ 1 ≤ s.length by omega), Bool.false_and, Bool.false_and]
    have hc : ev T_0 (.not (.cmp2 .LtE .LtE (.cst (.int 1)) (.bi .len (.cons (.var 0) .nil)) (.glb (Str.ofString "MOST_LETTERS")))) [.val (.str s), .no] = .ok (.bl true, .frz, [.val (.str s), .no]) :=
      evNot (b := false) (evCmp2F (one _) (len_ev rfl hs) (congrArg some (decide_eq_false c1)))
    exact rIteT ((evOrF nstr).trans hc) (rRet evCst)
theorem run_is_label (s : Str) (hs : s.length ≤ 1000) : fi__law_is_label.run [.str s] = .ok (.bl (isName s), false, []) := by
  have zero : ∀ ρ : DEnv, ev T_8 (.cst (.int 0)) ρ = .ok (.int 0, .frz, ρ) := fun ρ => evCst
  by_cases c1 : (0 : Int) < (s.length : Int)
  · by_cases c2 : (s.length : Int) < 9
    · refine rOf (ρ0 := [.val (.str s), .no]) (ρ := [.val (.str s), .no]) rfl rfl ?_ rfl
      unfold bd__law_is_label
      have hc : ev T_8 (.not (.cmp2 .Lt .Lt (.cst (.int 0)) (.bi .len (.cons (.var 0) .nil)) (.cst (.int 9)))) [.val (.str s), .no] = .ok (.bl false, .frz, [.val (.str s), .no]) :=
        evNot (b := true) (evCmp2T (zero _) (len_ev rfl hs) (congrArg some (decide_eq_true c1)) evCst (congrArg some (decide_eq_true c2)))
      rw [rIteF ((evOrF nstr).trans hc)]
      obtain ⟨sl', ht⟩ := turns_filt (f := oneIf (ev T_8 cd__law_is_label_1) (ev T_8 el__law_is_label_1) 1 [1]) (fun d => !inLet d) (fun sl => [.val (.str s), sl]) (s.cps.toList.map sgn) .no (by
        intro x hx sl
        obtain ⟨c, _, rfl⟩ := List.mem_map.mp hx
        unfold oneIf
        show (ev T_8 cd__law_is_label_1 [.val (.str s), .val (sgn c)]).bind _ = _
        unfold cd__law_is_label_1 el__law_is_label_1
        rw [evCmp (r := !inLet (sgn c)) (evVar rfl) evCst rfl, bindOk]
        have hv : ev T_8 (.var 1) [.val (.str s), .val (sgn c)] = .ok (sgn c, .frz, [.val (.str s), .val (sgn c)]) := evVar rfl
        cases inLet (sgn c) with
        | true => rfl
        | false =>
          show (ev T_8 (.var 1) [.val (.str s), .val (sgn c)]).bind _ = _
          rw [hv]
          rfl)
      have hl : s.cps.toList.length ≤ 1000 := by rw [Array.length_toList]; exact hs
      refine rRet (evCmpF (x := .lst ((s.cps.toList.map sgn).filter fun d => !inLet d)) (y := .lst []) (k := .fresh) (ρ1 := [.val (.str s), .no]) (ρ2 := [.val (.str s), .no]) ?_ (evLst evsNil rfl) ?_)
      · rw [evLcI (x := .str s) (xs := s.cps.toList.map sgn) var0 rfl]
        exact rComp (sm_lit (by rw [List.length_map]; exact hl)) rfl ht rfl
      · refine (eqD_lst0 _).trans ?_
        unfold isName
        rw [decide_eq_true (show 1 ≤ s.length by omega), decide_eq_true (show s.length ≤ 8 by omega), Bool.true_and, Bool.true_and]
        congr 1
        generalize s.cps.toList = cs
        induction cs with
        | nil => rfl
        | cons c r ih =>
          rw [List.map_cons, List.all_cons, ← inLet_sgn]
          cases h : inLet (sgn c) with
          | true => rw [List.filter_cons_of_neg (by rw [h]; decide), ih, Bool.true_and]
          | false => rw [List.filter_cons_of_pos (by rw [h]; rfl), Bool.false_and]; rfl
    · refine rOf (ρ0 := [.val (.str s), .no]) (ρ := [.val (.str s), .no]) rfl rfl ?_ rfl
      unfold bd__law_is_label isName
      rw [decide_eq_false (show ¬ s.length ≤ 8 by omega), Bool.and_false, Bool.false_and]
      have hc : ev T_8 (.not (.cmp2 .Lt .Lt (.cst (.int 0)) (.bi .len (.cons (.var 0) .nil)) (.cst (.int 9)))) [.val (.str s), .no] = .ok (.bl true, .frz, [.val (.str s), .no]) :=
        evNot (b := false) (evCmp2T (zero _) (len_ev rfl hs) (congrArg some (decide_eq_true c1)) evCst (congrArg some (decide_eq_false c2)))
      exact rIteT ((evOrF nstr).trans hc) (rRet evCst)
  · refine rOf (ρ0 := [.val (.str s), .no]) (ρ := [.val (.str s), .no]) rfl rfl ?_ rfl
    unfold bd__law_is_label isName
    rw [decide_eq_false (show ¬ 1 ≤ s.length by omega), Bool.false_and, Bool.false_and]
    have hc : ev T_8 (.not (.cmp2 .Lt .Lt (.cst (.int 0)) (.bi .len (.cons (.var 0) .nil)) (.cst (.int 9)))) [.val (.str s), .no] = .ok (.bl true, .frz, [.val (.str s), .no]) :=
      evNot (b := false) (evCmp2F (zero _) (len_ev rfl hs) (congrArg some (decide_eq_false c1)))
    exact rIteT ((evOrF nstr).trans hc) (rRet evCst)
end K18
set_option Elab.async false
set_option linter.all false
set_option maxRecDepth 100000
set_option maxHeartbeats 4000000
namespace K18
open PySem Ev
theorem cell_ev (ns : List Int) (k : Nat) : ∃ c : Int, ev T_5 (.ite (.cmp .Lt (.var 1) (.bi .len (.cons (.var 0) .nil))) (.idx (.var 0) (.var 1)) (.cst (.int 0))) [.val (.scr ns), .val (.int k), .no] = .ok (.int c, .frz, [.val (.scr ns), .val (.int k), .no]) := by
  have hc : ev T_5 (.cmp .Lt (.var 1) (.bi .len (.cons (.var 0) .nil))) [.val (.scr ns), .val (.int k), .no] = .ok (.bl (decide ((k : Int) < (ns.length : Int))), .frz, [.val (.scr ns), .val (.int k), .no]) :=
    evCmp (evVar rfl) (evBi1 (evVar rfl) rfl) rfl
  by_cases h : (k : Int) < (ns.length : Int)
  · rw [decide_eq_true h] at hc
    obtain ⟨c, _, hi⟩ := atI_mem (xs := ns) (i := k) ⟨by omega, h⟩
    refine ⟨c, ?_⟩
    rw [evIteT hc]
    refine evIdx (evVar rfl) (Or.inl rfl) (evVar rfl) ?_
    show (L2.atI ns k).map Dat.int = _
    rw [hi]
    rfl
  · rw [decide_eq_false h] at hc
    refine ⟨0, ?_⟩
    rw [evIteF hc]
    exact evCst
theorem run_pot (ns : List Int) (k : Nat) : ∃ a b : Int, fi__law_pot.run [.scr ns, .int k] = .ok (pot a b, true, []) := by
  obtain ⟨c, hc⟩ := cell_ev ns k
  refine ⟨if c - 10 ^ 18 > 0 then c - 10 ^ 18 else 0, (c % 2147483563 * 40692 + 30011 * ((k : Int) + 1)) % 2147483399, rOf (ρ0 := [.val (.scr ns), .val (.int k), .no]) (ρ := [.val (.scr ns), .val (.int k), .val (.int c)]) rfl rfl ?_ rfl⟩
  unfold bd__law_pot
  rw [rSet (by decide) hc]
  show Ev.execs T_5 [] _ [.val (.scr ns), .val (.int k), .val (.int c)] = _
  exact rRetN (evLst (evsCons (Or.inl rfl) (evBi2 evCst (evBin (evVar rfl) (evBin (d := .int (10 ^ 18)) evCst evCst rfl) rfl) rfl) (evsCons (Or.inl rfl) (evBin (evBin (evBin (evBin (evVar rfl) evCst (binMod c (by decide))) evCst (binMul _ (by decide))) (evBin evCst (evBin (evVar rfl) evCst rfl) (binMul' _ (by decide))) rfl) evCst (binMod _ (by decide))) evsNil)) rfl)
theorem tl_take : T_7.fn (Str.ofString "_law_take") = some takeFI := rfl
theorem LET_low : ∀ c ∈ LET.cps.toList, c < 128 := by decide
theorem lab_step (a b : Int) (us n k : Dat) (s4 s5 s6 s7 : Slot) : ∃ (a' b' : Int) (c : Nat), c ∈ LET.cps.toList ∧
    oneOf (ev T_7 el__law_label_4) 6 [6] k [.own (pot a b), .own us, .val (.str LET), .val n, s4, s5, s6, s7] = .ok (some (sgn c), [.own (pot a' b'), .own us, .val (.str LET), .val n, s4, s5, .val k, s7]) := by
  obtain ⟨r, a', b', hr, ht⟩ := takeK (T := T_7) (i := 0) (ρ := [.own (pot a b), .own us, .val (.str LET), .val n, s4, s5, .val k, s7]) 26 tl_take rfl (by decide)
  obtain ⟨c, hc, hi⟩ := atI_mem (xs := LET.cps.toList) (i := r) ⟨hr.1, by rw [show LET.cps.toList.length = 26 by decide]; exact hr.2⟩
  refine ⟨a', b', c, hc, ?_⟩
  have he : ev T_7 el__law_label_4 [.own (pot a b), .own us, .val (.str LET), .val n, s4, s5, .val k, s7] = .ok (sgn c, .frz, [.own (pot a' b'), .own us, .val (.str LET), .val n, s4, s5, .val k, s7]) := by
    unfold el__law_label_4
    refine evIdx (evVar rfl) (Or.inl rfl) ht ?_
    have hs : sm LET.length = true := by decide
    simp only [idxD, hs, if_true, hi, Option.map]
    rfl
  unfold oneOf
  show (ev T_7 el__law_label_4 [.own (pot a b), .own us, .val (.str LET), .val n, s4, s5, .val k, s7]).bind _ = _
  rw [he, bindOk]
  rfl
theorem lab_steps (us n : Dat) (s4 s5 s7 : Slot) : ∀ (ks : List Dat) (a b : Int) (s6 : Slot), ∃ (a' b' : Int) (s6' : Slot) (cs : List Nat), cs.length = ks.length ∧ (∀ c ∈ cs, c ∈ LET.cps.toList) ∧
    turns (oneOf (ev T_7 el__law_label_4) 6 [6]) ks [.own (pot a b), .own us, .val (.str LET), .val n, s4, s5, s6, s7] = .ok (cs.map sgn, [.own (pot a' b'), .own us, .val (.str LET), .val n, s4, s5, s6', s7])
  | [], a, b, s6 => ⟨a, b, s6, [], rfl, (fun c h => nomatch h), rfl⟩
  | k :: ks, a, b, s6 => by
    obtain ⟨a1, b1, c, hc, h1⟩ := lab_step a b us n k s4 s5 s6 s7
    obtain ⟨a', b', s6', cs, h2, h3, h4⟩ := lab_steps us n s4 s5 s7 ks a1 b1 (.val k)
    refine ⟨a', b', s6', c :: cs, by rw [List.length_cons, List.length_cons, h2], ?_, ?_⟩
    · intro x hx
      cases hx with
      | head => exact hc
      | tail _ hx => exact h3 x hx
    · rw [turns, h1, bindOk]
      show (turns _ ks _).bind _ = _
      rw [h4, bindOk]
      rfl
theorem size_ev (a b : Int) (us : Dat) : ∃ (a' b' : Int) (n : Nat), (1 ≤ n ∧ n ≤ 8) ∧
    ev T_7 (.idx (.lst (.cons (.cst (.int 1)) (.cons (.cst (.int 1)) (.cons (.cst (.int 2)) (.cons (.cst (.int 8)) (.cons (.bin .Add (.cst (.int 1)) (.call (Str.ofString "_law_take") (.cons (.var 0) (.cons (.cst (.int 8)) .nil)))) .nil)))))) (.call (Str.ofString "_law_take") (.cons (.var 0) (.cons (.cst (.int 5)) .nil)))) [.own (pot a b), .own us, .val (.str LET), .no, .no, .no, .no, .no] = .ok (.int (n : Int), .frz, [.own (pot a' b'), .own us, .val (.str LET), .no, .no, .no, .no, .no]) := by
  obtain ⟨r, a1, b1, hr, ht⟩ := takeK (T := T_7) (i := 0) (ρ := [.own (pot a b), .own us, .val (.str LET), .no, .no, .no, .no, .no]) 8 tl_take rfl (by decide)
  obtain ⟨q, a', b', hq, hu⟩ := takeK (T := T_7) (i := 0) (ρ := [.own (pot a1 b1), .own us, .val (.str LET), .no, .no, .no, .no, .no]) 5 tl_take rfl (by decide)
  obtain ⟨x, hx, hi⟩ := atI_mem (xs := [(1 : Int), 1, 2, 8, 1 + r]) (i := q) hq
  have hx' : 1 ≤ x ∧ x ≤ 8 := by
    simp only [List.mem_cons, List.not_mem_nil, or_false] at hx
    omega
  refine ⟨a', b', x.toNat, by omega, ?_⟩
  rw [show ((x.toNat : Nat) : Int) = x by omega]
  refine evIdx (x := .lst ([(1 : Int), 1, 2, 8, 1 + r].map di)) (evLst (evsCons (Or.inl rfl) evCst (evsCons (Or.inl rfl) evCst (evsCons (Or.inl rfl) evCst (evsCons (Or.inl rfl) evCst (evsCons (Or.inl rfl) (evBin evCst ht rfl) evsNil))))) rfl) (Or.inr rfl) hu ?_
  show L2.atI ([(1 : Int), 1, 2, 8, 1 + r].map di) q = _
  have e : L2.atI ([(1 : Int), 1, 2, 8, 1 + r].map di) q = (L2.atI [(1 : Int), 1, 2, 8, 1 + r] q).map di := by
    unfold L2.atI
    rw [List.length_map]
    cases L2.ixN [(1 : Int), 1, 2, 8, 1 + r].length q with
    | none => rfl
    | some j => exact List.getElem?_map
  rw [e, hi]
  rfl
theorem name_ev (a b : Int) (us : Dat) (n : Nat) (hn : n ≤ 8) : ∃ (a' b' : Int) (s : Str), s.length = n ∧ (∀ c ∈ s.cps.toList, c ∈ LET.cps.toList) ∧
    ev T_7 (.join (.cst (.str (Str.ofString ""))) rc__law_label_1) [.own (pot a b), .own us, .val (.str LET), .val (.int (n : Int)), .no, .no, .no, .no] = .ok (.str s, .frz, [.own (pot a' b'), .own us, .val (.str LET), .val (.int (n : Int)), .no, .no, .no, .no]) := by
  obtain ⟨a', b', s6, cs, h1, h2, h3⟩ := lab_steps us (.int (n : Int)) .no .no .no ((List.range n).map fun (k : Nat) => .int (k : Int)) a b .no
  rw [List.length_map, List.length_range] at h1
  refine ⟨a', b', Txt.join (Str.ofString "") (cs.map fun c => (⟨#[c]⟩ : Str)), ?_, ?_, ?_⟩
  · show (Txt.join (Str.ofString "") (cs.map fun c => (⟨#[c]⟩ : Str))).cps.size = n
    rw [← Array.length_toList, join_cs, h1]
  · rw [join_cs]
    exact h2
  · refine evJoin evCst (ys := cs.map sgn) (k := .fresh) ?_ (strs_cs cs) ?_
    · unfold rc__law_label_1
      rw [ev_lcR (n := n) (m := .frz) (evVar rfl) (by omega)]
      refine rComp (sm_lit ?_) rfl h3 rfl
      rw [List.length_map, List.length_range]
      omega
    · refine sm_lit ?_
      have e : (Str.ofString "").length = 0 := by decide
      rw [sum_ones, e, Nat.mul_zero, h1]
      omega
section
variable (p us n : Dat) (s : Str) (hs : s.length ≤ 8)
abbrev lenv (sl : Slot) : DEnv := [.own p, .own us, .val (.str LET), .val n, .val (.str s), .no, .no, sl]
theorem one_str (g : Dat → Dat) (e : IE) (he : ∀ c : Nat, ev T_7 e (lenv p us n s (.val (sgn c))) = .ok (g (sgn c), .frz, lenv p us n s (.val (sgn c)))) (hg : ∀ c, isStr (g (sgn c))) :
    ∃ ys : List Dat, ys.length = 26 ∧ (∀ y ∈ ys, isStr y) ∧ ev T_7 (.lc e 7 (.var 2) [((Str.ofString "_law_one"), 7)]) (lenv p us n s .no) = .ok (.lst ys, .fresh, lenv p us n s .no) := by
  obtain ⟨sl', h⟩ := turns_map (f := oneOf (ev T_7 e) 7 [7]) g (fun sl => lenv p us n s sl) (LET.cps.toList.map sgn) .no (by
    intro x hx sl
    obtain ⟨c, _, rfl⟩ := List.mem_map.mp hx
    unfold oneOf
    show (ev T_7 e (lenv p us n s (.val (sgn c)))).bind _ = _
    rw [he, bindOk]
    rfl)
  refine ⟨(LET.cps.toList.map sgn).map g, ?_, ?_, ?_⟩
  · rw [List.length_map, List.length_map]
    decide
  · intro y hy
    obtain ⟨x, hx, rfl⟩ := List.mem_map.mp hy
    obtain ⟨c, _, rfl⟩ := List.mem_map.mp hx
    exact hg c
  · rw [evLc (evVar rfl) rfl]
    exact rComp (by decide) rfl h rfl
end
theorem some_ev (p us n : Dat) (s : Str) (hs : s.length ≤ 8) : ∃ ys : List Dat, ys.length = 52 ∧ (∀ y ∈ ys, isStr y) ∧
    ev T_7 (.bin .Add (.bin .Add (.lst (.cons (.var 4) .nil)) (.lc el__law_label_2 7 (.var 2) [((Str.ofString "_law_one"), 7)])) (.lc el__law_label_3 7 (.var 2) [((Str.ofString "_law_one"), 7)])) (lenv p us n s .no) = .ok (.lst (.str s :: ys), .fresh, lenv p us n s .no) := by
  have c7 := L2.cutS_length s none (some 7)
  have c6 := L2.cutS_length s none (some 6)
  obtain ⟨ys, h1, h2, h3⟩ := one_str p us n s (fun d => match d with | .str w => .str (w ++ L2.cutS s none (some 7)) | d => d) el__law_label_2 (by
    intro c
    unfold el__law_label_2
    exact evBin (evVar rfl) (evSlcR (evVar rfl) (cut_str s 7 (by omega))) (str_add _ _ (by show 1 + _ ≤ _; omega))) (fun c => ⟨_, rfl⟩)
  obtain ⟨zs, g1, g2, g3⟩ := one_str p us n s (fun d => match d with | .str w => .str ((w ++ w) ++ L2.cutS s none (some 6)) | d => d) el__law_label_3 (by
    intro c
    unfold el__law_label_3
    exact evBin (evBin (evVar rfl) (evVar rfl) (str_add _ _ (by show 1 + 1 ≤ _; omega))) (evSlcR (evVar rfl) (cut_str s 6 (by omega))) (str_add _ _ (by rw [Str.length_append]; show 1 + 1 + _ ≤ _; omega))) (fun c => ⟨_, rfl⟩)
  refine ⟨ys ++ zs, by rw [List.length_append]; omega, ?_, ?_⟩
  · intro y hy
    rw [List.mem_append] at hy
    exact hy.elim (h2 y) (g2 y)
  · refine evBinF (x := .lst ([.str s] ++ ys)) (evBinF (evLst (evsCons (Or.inl rfl) (evVar rfl) evsNil) rfl) h3 (lst_add _ _ (by rw [h1]; show 1 + 26 ≤ 1000; decide))) g3 ?_
    rw [lst_add _ _ (by rw [List.length_append, h1, g1]; show 1 + 26 + 26 ≤ 1000; decide)]
    rfl
theorem keep_ev (p n : Dat) (s s0 : Str) (ys : List Dat) (hl : ys.length ≤ 100) (hy : ∀ y ∈ ys, isStr y) :
    ev T_7 (.idx (.lcI el__law_label_1 7 (.var 5) cd__law_label_1 [((Str.ofString "_law_one"), 7)]) (.cst (.int 0))) [.own p, .own (.lst []), .val (.str LET), .val n, .val (.str s0), .own (.lst (.str s :: ys)), .no, .no] = .ok (.str s, .frz, [.own p, .own (.lst []), .val (.str LET), .val n, .val (.str s0), .val (.lst (.str s :: ys)), .no, .no]) := by
  have hv : ev T_7 (.var 5) [.own p, .own (.lst []), .val (.str LET), .val n, .val (.str s0), .own (.lst (.str s :: ys)), .no, .no] = .ok (.lst (.str s :: ys), .brw 5, [.own p, .own (.lst []), .val (.str LET), .val n, .val (.str s0), .own (.lst (.str s :: ys)), .no, .no]) := by rw [ev]; rfl
  obtain ⟨sl', h⟩ := turns_map (f := oneIf (ev T_7 cd__law_label_1) (ev T_7 el__law_label_1) 7 [7]) (fun d => d) (fun sl => [.own p, .own (.lst []), .val (.str LET), .val n, .val (.str s0), .val (.lst (.str s :: ys)), .no, sl]) (.str s :: ys) .no (by
    intro x hx sl
    have hxs : isStr x := by
      cases hx with
      | head => exact ⟨s, rfl⟩
      | tail _ hx => exact hy x hx
    obtain ⟨w, rfl⟩ := hxs
    unfold oneIf
    show (ev T_7 cd__law_label_1 [.own p, .own (.lst []), .val (.str LET), .val n, .val (.str s0), .val (.lst (.str s :: ys)), .no, .val (.str w)]).bind _ = _
    have hu : ev T_7 (.var 1) [.own p, .own (.lst []), .val (.str LET), .val n, .val (.str s0), .val (.lst (.str s :: ys)), .no, .val (.str w)] = .ok (.lst [], .brw 1, [.own p, .own (.lst []), .val (.str LET), .val n, .val (.str s0), .val (.lst (.str s :: ys)), .no, .val (.str w)]) := by rw [ev]; rfl
    have hc : ev T_7 cd__law_label_1 [.own p, .own (.lst []), .val (.str LET), .val n, .val (.str s0), .val (.lst (.str s :: ys)), .no, .val (.str w)] = .ok (.bl true, .frz, [.own p, .own (.lst []), .val (.str LET), .val n, .val (.str s0), .val (.lst (.str s :: ys)), .no, .val (.str w)]) := by
      unfold cd__law_label_1
      exact evCmp (evVar rfl) hu rfl
    have he : ev T_7 el__law_label_1 [.own p, .own (.lst []), .val (.str LET), .val n, .val (.str s0), .val (.lst (.str s :: ys)), .no, .val (.str w)] = .ok (.str w, .frz, [.own p, .own (.lst []), .val (.str LET), .val n, .val (.str s0), .val (.lst (.str s :: ys)), .no, .val (.str w)]) := by
      unfold el__law_label_1
      exact evVar rfl
    rw [hc, bindOk]
    show (ev T_7 el__law_label_1 [.own p, .own (.lst []), .val (.str LET), .val n, .val (.str s0), .val (.lst (.str s :: ys)), .no, .val (.str w)]).bind _ = _
    rw [he, bindOk]
    rfl)
  rw [List.map_id'] at h
  refine evIdx (x := .lst (.str s :: ys)) (k := .fresh) ?_ (Or.inr rfl) evCst (at0 _ _)
  rw [evLcI hv rfl]
  refine rComp (sm_lit ?_) rfl h rfl
  rw [List.length_cons]
  omega
theorem run_label (a b : Int) : ∃ (a' b' : Int) (s : Str), (1 ≤ s.length ∧ s.length ≤ 8) ∧ (∀ c ∈ s.cps.toList, c ∈ LET.cps.toList) ∧ fi__law_label.run [pot a b, .lst []] = .ok (.str s, false, [pot a' b', .lst [.str s]]) := by
  obtain ⟨a1, b1, n, hn, h1⟩ := size_ev a b (.lst [])
  obtain ⟨a', b', s, hs, hlow, h2⟩ := name_ev a1 b1 (.lst []) n hn.2
  obtain ⟨ys, hl, hy, h3⟩ := some_ev (pot a' b') (.lst []) (.int (n : Int)) s (by omega)
  have h4 := keep_ev (pot a' b') (.int (n : Int)) s s ys (by omega) hy
  refine ⟨a', b', s, by omega, hlow, ?_⟩
  refine rOf (ρ0 := [.own (pot a b), .own (.lst []), .no, .no, .no, .no, .no, .no]) (ρ := [.own (pot a' b'), .own (.lst [.str s]), .val (.str LET), .val (.int (n : Int)), .val (.str s), .val (.lst (.str s :: ys)), .no, .no]) rfl rfl ?_ rfl
  unfold bd__law_label
  rw [rSet (d := .str LET) (m := .frz) (ρ1 := [.own (pot a b), .own (.lst []), .no, .no, .no, .no, .no, .no]) (by decide) evCst]
  show Ev.execs T_7 [0, 1] _ [.own (pot a b), .own (.lst []), .val (.str LET), .no, .no, .no, .no, .no] = _
  rw [rSet (by decide) h1]
  show Ev.execs T_7 [0, 1] _ [.own (pot a1 b1), .own (.lst []), .val (.str LET), .val (.int (n : Int)), .no, .no, .no, .no] = _
  rw [rSet (by decide) h2]
  show Ev.execs T_7 [0, 1] _ (lenv (pot a' b') (.lst []) (.int (n : Int)) s .no) = _
  rw [rSet (by decide) h3]
  show Ev.execs T_7 [0, 1] _ [.own (pot a' b'), .own (.lst []), .val (.str LET), .val (.int (n : Int)), .val (.str s), .own (.lst (.str s :: ys)), .no, .no] = _
  rw [rSet (by decide) h4]
  show Ev.execs T_7 [0, 1] _ [.own (pot a' b'), .own (.lst []), .val (.str LET), .val (.int (n : Int)), .val (.str s), .val (.lst (.str s :: ys)), .no, .no] = _
  rw [rApp (ds0 := []) (ds := []) (d := .str s) (m := .frz) (ρ1 := [.own (pot a' b'), .own (.lst []), .val (.str LET), .val (.int (n : Int)), .val (.str s), .val (.lst (.str s :: ys)), .no, .no]) rfl (evVar rfl) rfl rfl]
  exact rRet (evVar rfl)
end K18
set_option Elab.async false
set_option linter.all false
set_option maxRecDepth 100000
set_option maxHeartbeats 4000000
namespace K18
open PySem Ev
abbrev PT : Str := Str.ofString "."
abbrev num (k : Nat) : Str := Str.ofString (toString (k : Int))
def dn (k : Nat) : Dat := .int (k : Int)
def figs : List Str := (List.range 12).map num
theorem num_tl (k : Nat) : (num k).cps.toList = TL.numL k := TL.tl_num k
theorem num_inj {m n : Nat} (h : num m = num n) : m = n := TL.numL_inj (by rw [← num_tl, ← num_tl, h])
theorem num_len {k : Nat} (h : k < 12) : (num k).length ≤ 2 := by
  show (num k).cps.size ≤ 2
  rw [← Array.length_toList, num_tl]
  exact TL.numL_len (by decide) (by omega)
theorem num_figs {k : Nat} (h : k < 12) : num k ∈ figs := List.mem_map.mpr ⟨k, List.mem_range.mpr h, rfl⟩
theorem figs_num {y : Str} (h : y ∈ figs) : ∃ k, k < 12 ∧ y = num k := by
  obtain ⟨k, hk, rfl⟩ := List.mem_map.mp h
  exact ⟨k, List.mem_range.mp hk, rfl⟩
theorem str_num {k : Nat} (h : k < 12) : biD .str [dn k] = some (.str (num k), .frz) := by
  show (if (k : Int).natAbs < 2 ^ 64 then _ else _) = _
  rw [if_pos (by rw [Int.natAbs_natCast]; omega)]
theorem int_str {k : Nat} (h : k < 12) : biD .int [.str (num k)] = some (dn k, .frz) := by
  have hl := num_len h
  show (if (num k).length ≤ 640 then _ else _) = _
  rw [if_pos (by omega), TL.int_num (n := k) (by have := TL.numL_len (n := k) (k := 2) (by decide) (by omega); omega)]
  rfl
/-! number_of -/
abbrev nenv (w : Str) (sl : Slot) : DEnv := [.val (.str w), .val (.int 11), sl]
theorem num_turn (w : Str) {k : Nat} (h : k < 12) (sl : Slot) : turnOf (Ev.execs T_3 [] lp_number_of_1) 2 (dn k) (nenv w sl) = if num k = w then .ok (.rt (dn k) false (nenv w (.val (dn k)))) else .ok (.nx (nenv w (.val (dn k)))) := by
  unfold turnOf lp_number_of_1
  show Ev.execs T_3 [] _ (nenv w (.val (dn k))) = _
  have hc : ev T_3 (.cmp .Eq (.bi .str (.cons (.var 2) .nil)) (.var 0)) (nenv w (.val (dn k))) = .ok (.bl (decide (num k = w)), .frz, nenv w (.val (dn k))) :=
    evCmp (evBi1 (evVar rfl) (str_num h)) (evVar rfl) rfl
  by_cases c : num k = w
  · rw [decide_eq_true c] at hc
    rw [if_pos c]
    exact rIteT hc (rRet (evVar rfl))
  · rw [decide_eq_false c] at hc
    rw [if_neg c, rIteF hc, Ev.execs]
theorem num_loop (w : Str) : ∀ (ks : List Nat) (sl : Slot), (∀ k ∈ ks, k < 12) →
    (∃ k ∈ ks, num k = w ∧ ∃ ρ, loop (turnOf (Ev.execs T_3 [] lp_number_of_1) 2) (ks.map dn) (nenv w sl) = .ok (.rt (dn k) false ρ)) ∨ ((∀ k ∈ ks, num k ≠ w) ∧ ∃ ρ, loop (turnOf (Ev.execs T_3 [] lp_number_of_1) 2) (ks.map dn) (nenv w sl) = .ok (.nx ρ))
  | [], sl, _ => Or.inr ⟨(fun k h => nomatch h), _, rfl⟩
  | k :: ks, sl, h => by
    have ht := num_turn w (h k List.mem_cons_self) sl
    rw [List.map_cons, loop, ht]
    by_cases c : num k = w
    · refine Or.inl ⟨k, List.mem_cons_self, c, nenv w (.val (dn k)), ?_⟩
      rw [if_pos c]
      rfl
    · rw [if_neg c, bindOk]
      cases num_loop w ks (.val (dn k)) fun j hj => h j (List.mem_cons_of_mem _ hj) with
      | inl r =>
        obtain ⟨j, hj, e, ρ, z⟩ := r
        exact Or.inl ⟨j, List.mem_cons_of_mem _ hj, e, ρ, z⟩
      | inr r =>
        obtain ⟨e, ρ, z⟩ := r
        refine Or.inr ⟨fun j hj => ?_, ρ, z⟩
        cases hj with
        | head => exact c
        | tail _ hj => exact e j hj
abbrev NOT : Str := Str.ofString "NoText"
theorem num_body (w : Str) {o : Out} (h : loop (turnOf (Ev.execs T_3 [] lp_number_of_1) 2) ((List.range 12).map dn) (nenv w .no) = .ok o) : Ev.execs T_3 [] bd_number_of (nenv w .no) = (match o with
      | .nx ρ1 => Ev.execs T_3 [] (.cons (.rai (Str.ofString "NoText")) .nil) ρ1
      | .rt d new ρ1 => .ok (.rt d new ρ1)) := by
  unfold bd_number_of rl_number_of_1
  rw [rForR (n := 12) (m := .frz) (ρ1 := nenv w .no) (by decide) (evBin (evVar rfl) evCst rfl) (by decide)]
  have h' : loop (turnOf (Ev.execs T_3 [] lp_number_of_1) 2) ((List.range 12).map fun (k : Nat) => Dat.int (k : Int)) (nenv w .no) = .ok o := h
  rw [h', bindOk]
  cases o <;> rfl
theorem run_num {k : Nat} (h : k < 12) : fi_number_of.run [.str (num k), .int 11] = .ok (dn k, false, []) := by
  cases num_loop (num k) (List.range 12) .no fun j hj => List.mem_range.mp hj with
  | inl r =>
    obtain ⟨j, hj, e, ρ, z⟩ := r
    cases num_inj e
    exact rOf (ρ0 := nenv (num k) .no) (ρ := ρ) rfl rfl (num_body (num k) z) rfl
  | inr r =>
    exact absurd rfl (r.1 k (List.mem_range.mpr h))
theorem run_numX {w : Str} (h : w ∉ figs) : fi_number_of.run [.str w, .int 11] = .exc NOT [] [] := by
  cases num_loop w (List.range 12) .no fun j hj => List.mem_range.mp hj with
  | inl r =>
    obtain ⟨j, hj, e, ρ, z⟩ := r
    exact absurd (List.mem_map.mpr ⟨j, hj, e⟩) h
  | inr r =>
    obtain ⟨_, ρ, z⟩ := r
    exact rOfX (ρ0 := nenv w .no) (ρ := ρ) rfl rfl ((num_body w z).trans (rRai rfl))
/-! who_of -/
theorem fig_cases : ∀ xs : List Str, (∃ ks : List Nat, (∀ k ∈ ks, k < 12) ∧ xs = ks.map num) ∨ ∃ y ∈ xs, y ∉ figs
  | [] => Or.inl ⟨[], fun k h => (nomatch h), rfl⟩
  | x :: xs => by
    by_cases c : x ∈ figs
    · obtain ⟨k, hk, rfl⟩ := figs_num c
      cases fig_cases xs with
      | inl r =>
        obtain ⟨ks, h, rfl⟩ := r
        refine Or.inl ⟨k :: ks, fun j hj => ?_, rfl⟩
        cases hj with
        | head => exact hk
        | tail _ hj => exact h j hj
      | inr r =>
        obtain ⟨y, hy, h⟩ := r
        exact Or.inr ⟨y, List.mem_cons_of_mem _ hy, h⟩
    · exact Or.inr ⟨x, List.mem_cons_self, c⟩
section
variable (s x : Str) (l : Dat)
abbrev wenv (sl : Slot) : DEnv := [.val (.str s), .val (.str x), .val l, sl]
theorem who_one {k : Nat} (h : k < 12) (sl : Slot) : oneOf (ev T_4 el_who_of_1) 3 [3] (.str (num k)) (wenv s x l sl) = .ok (some (dn k), wenv s x l (.val (.str (num k)))) := by
  unfold oneOf el_who_of_1
  show (ev T_4 _ (wenv s x l (.val (.str (num k))))).bind _ = _
  rw [call2 (fi := fi_number_of) (x := .str (num k)) (y := .int 11) rfl rfl (evVar rfl) (evGlb rfl) (run_num h), bindOk]
  rfl
theorem who_oneX {y : Str} (h : y ∉ figs) (sl : Slot) : oneOf (ev T_4 el_who_of_1) 3 [3] (.str y) (wenv s x l sl) = .exc NOT [] (wenv s x l (.val (.str y))) := by
  unfold oneOf el_who_of_1
  show (ev T_4 _ (wenv s x l (.val (.str y)))).bind _ = _
  rw [call2X (fi := fi_number_of) (x := .str y) (y := .int 11) rfl rfl (evVar rfl) (evGlb rfl) (run_numX h)]
  rfl
theorem who_ok : ∀ (ks : List Nat) (sl : Slot), (∀ k ∈ ks, k < 12) → ∃ sl', turns (oneOf (ev T_4 el_who_of_1) 3 [3]) ((ks.map num).map .str) (wenv s x l sl) = .ok (ks.map dn, wenv s x l sl')
  | [], sl, _ => ⟨sl, rfl⟩
  | k :: ks, sl, h => by
    obtain ⟨sl', e⟩ := who_ok ks (.val (.str (num k))) fun j hj => h j (List.mem_cons_of_mem _ hj)
    refine ⟨sl', ?_⟩
    rw [List.map_cons, List.map_cons, turns, who_one s x l (h k List.mem_cons_self), bindOk]
    show (turns _ _ _).bind _ = _
    rw [e, bindOk]
    rfl
theorem who_bad : ∀ (ys : List Str) (sl : Slot), (∃ y ∈ ys, y ∉ figs) → ∃ sl', turns (oneOf (ev T_4 el_who_of_1) 3 [3]) (ys.map .str) (wenv s x l sl) = .exc NOT [] (wenv s x l sl')
  | [], sl, h => nomatch h.choose_spec.1
  | y :: ys, sl, h => by
    by_cases c : y ∈ figs
    · obtain ⟨k, hk, rfl⟩ := figs_num c
      obtain ⟨z, hz, hn⟩ := h
      have hz' : z ∈ ys := by
        cases hz with
        | head => exact absurd c hn
        | tail _ hz => exact hz
      obtain ⟨sl', e⟩ := who_bad ys (.val (.str (num k))) ⟨z, hz', hn⟩
      refine ⟨sl', ?_⟩
      rw [List.map_cons, turns, who_one s x l hk, bindOk]
      show (turns _ _ _).bind _ = _
      rw [e]
      rfl
    · refine ⟨.val (.str y), ?_⟩
      rw [List.map_cons, turns, who_oneX s x l c]
      rfl
end
theorem split_parts (s : Str) : ∃ x xs, Txt.split s PT = x :: xs ∧ x.length ≤ s.length + 1 ∧ xs.length ≤ s.length + 1 := by
  have h1 := PyProof.Rows.split_pos s PT
  have h2 := PyProof.Rows.split_weight s PT (by decide)
  cases e : Txt.split s PT with
  | nil => rw [e] at h1; exact absurd h1 (by decide)
  | cons x xs =>
    rw [e] at h2
    simp only [List.map_cons, List.sum_cons, List.length_cons] at h2
    exact ⟨x, xs, rfl, by omega, by omega⟩
theorem split_ev {T : Tab} {e : IE} {s : Str} {r : DEnv} (hs : s.length ≤ 700) (he : ev T e (.val (.str s) :: r) = .ok (.str PT, .frz, .val (.str s) :: r)) : ev T (.split (.var 0) e) (.val (.str s) :: r) = .ok (.lst ((Txt.split s PT).map .str), .fresh, .val (.str s) :: r) :=
  evSplit var0 he (by rw [sm_lit (show s.length ≤ 1000 by omega)]; decide)
theorem run_who (s x : Str) (xs : List Str) (hs : s.length ≤ 700) (e : Txt.split s PT = x :: xs) (hx : x.length ≤ s.length + 1) (hl : xs.length ≤ s.length + 1) :
    fi_who_of.run [.str s] = if isName x = true then (match turns (oneOf (ev T_4 el_who_of_1) 3 [3]) (xs.map .str) (wenv s x (.lst (xs.map .str)) .no) with
      | .ok (ys, _) => .ok (.tup (.str x :: ys), false, [])
      | .exc c fs _ => .exc c fs []
      | .stuck => .stuck) else .exc NOT [] [] := by
  have h1 := split_ev (T := T_4) (e := .glb (Str.ofString "POINT")) (r := [.no, .no, .no]) hs (evGlb rfl)
  rw [e] at h1
  have hn : ∀ b, isName x = b → ev T_4 (.not (.call (Str.ofString "is_name") (.cons (.var 1) .nil))) [.val (.str s), .val (.str x), .own (.lst (xs.map .str)), .no] = .ok (.bl (!b), .frz, [.val (.str s), .val (.str x), .own (.lst (xs.map .str)), .no]) :=
    fun b hb => evNot (b := b) (call1 (fi := fi_is_name) rfl rfl (evVar rfl) (by rw [run_is_name x (by omega), hb]))
  have hb : ∀ r, Ev.execs T_4 [] (.cons (.ite (.not (.call (Str.ofString "is_name") (.cons (.var 1) .nil))) (.cons (.rai (Str.ofString "NoText")) .nil) .nil) (.cons (.ret (.bi .tuple (.cons (.bin .Add (.lst (.cons (.var 1) .nil)) (.lc el_who_of_1 3 (.var 2) [((Str.ofString "place"), 3)])) .nil))) .nil)) [.val (.str s), .val (.str x), .own (.lst (xs.map .str)), .no] = r → Ev.execs T_4 [] bd_who_of [.val (.str s), .no, .no, .no] = r := by
    intro r h
    unfold bd_who_of
    rw [rIteF nstr, rUnpS (by decide) h1]
    exact h
  by_cases c : isName x = true
  · rw [if_pos c]
    have hv : ev T_4 (.var 2) [.val (.str s), .val (.str x), .own (.lst (xs.map .str)), .no] = .ok (.lst (xs.map .str), .brw 2, [.val (.str s), .val (.str x), .own (.lst (xs.map .str)), .no]) := by rw [ev]; rfl
    have h2 := evLc (el := el_who_of_1) (tg := 3) (own := [((Str.ofString "place"), 3)]) hv (xs := xs.map .str) rfl
    have h2 : ev T_4 (.lc el_who_of_1 3 (.var 2) [((Str.ofString "place"), 3)]) [.val (.str s), .val (.str x), .own (.lst (xs.map .str)), .no] = comp [3] (oneOf (ev T_4 el_who_of_1) 3 [3]) (xs.map .str) (wenv s x (.lst (xs.map .str)) .no) := h2
    have sz : sm (xs.map Dat.str).length = true := sm_lit (by rw [List.length_map]; omega)
    have hx1 : ev T_4 (.lst (.cons (.var 1) .nil)) [.val (.str s), .val (.str x), .own (.lst (xs.map .str)), .no] = .ok (.lst [.str x], .fresh, [.val (.str s), .val (.str x), .own (.lst (xs.map .str)), .no]) := evLst (evsCons (Or.inl rfl) (evVar rfl) evsNil) rfl
    cases fig_cases xs with
    | inl r =>
      obtain ⟨ks, hk, ek⟩ := r
      obtain ⟨sl', ht⟩ := who_ok s x (.lst (xs.map .str)) ks .no hk
      rw [← ek] at ht
      rw [ht]
      refine rOf (ρ0 := [.val (.str s), .no, .no, .no]) (ρ := wenv s x (.lst (xs.map .str)) .no) rfl rfl (hb _ ?_) rfl
      rw [rIteF (hn true c)]
      have hl2 : ks.length ≤ 900 := by have : xs.length = ks.length := by rw [ek, List.length_map]
                                       omega
      exact rRet (evBi1 (evBinF hx1 (h2.trans (rComp sz rfl ht rfl)) (lst_add _ _ (by rw [List.length_map]; show 1 + ks.length ≤ 1000; omega))) rfl)
    | inr r =>
      obtain ⟨sl', ht⟩ := who_bad s x (.lst (xs.map .str)) xs .no r
      rw [ht]
      have h3 := rRetX (T := T_4) (ios := []) (r := .nil) (evBi1X (b := .tuple) (evBinX (op := .Add) hx1 (h2.trans (rCompX sz rfl ht))))
      exact rOfX (ρ0 := [.val (.str s), .no, .no, .no]) rfl rfl (hb _ ((rIteF (hn true c)).trans h3))
  · rw [if_neg c]
    exact rOfX (ρ0 := [.val (.str s), .no, .no, .no]) rfl rfl (hb _ (rIteTX (hn false (Bool.eq_false_iff.mpr c)) (rRai rfl)))
end K18
set_option Elab.async false
set_option linter.all false
set_option maxRecDepth 100000
set_option maxHeartbeats 4000000
namespace K18
open PySem Ev
theorem cut1 {α : Type} (x : α) (r : List α) : cut (x :: r) (some 1) none = r := by
  simp [cut, HT.sIx]
theorem flat_strs : ∀ zs : List Str, (zs.map Dat.str).all Dat.flat = true
  | [] => rfl
  | z :: r => by rw [List.map_cons, List.all_cons, flat_strs r]; rfl
theorem any_strs (y : Str) : ∀ zs : List Str, ((zs.map Dat.str).any fun z => PyData.eqv z.toPy (Dat.str y).toPy) = decide (y ∈ zs)
  | [] => rfl
  | z :: r => by
    rw [List.map_cons, List.any_cons, any_strs y r]
    have e : PyData.eqv (Dat.str z).toPy (Dat.str y).toPy = decide (y = z) := by
      simp only [Dat.toPy, PyData.eqv]
      by_cases c : y = z
      · subst c; simp
      · simp [c, Ne.symm c]
    rw [e]
    by_cases c : y = z
    · simp [c]
    · simp [c]
theorem inD_figs (y : Str) : inD (.str y) (.lst (figs.map .str)) = some (decide (y ∈ figs)) := by
  show (if ((Dat.str y).flat && (figs.map Dat.str).all Dat.flat) = true then some ((figs.map Dat.str).any fun z => PyData.eqv z.toPy (Dat.str y).toPy) else none) = _
  rw [flat_strs, any_strs]
  rfl
section
variable (s x : Str) (xs : List Str)
abbrev tenv (sl : Slot) : DEnv := [.val (.str s), .own (.lst (figs.map .str)), .val (.str x), .val (.lst (xs.map .str)), .no, sl]
theorem fig_ev : ev T_9 rc__law_who_told_1 [.val (.str s), .no, .val (.str x), .val (.lst (xs.map .str)), .no, .no] = .ok (.lst (figs.map .str), .fresh, [.val (.str s), .no, .val (.str x), .val (.lst (xs.map .str)), .no, .no]) := by
  obtain ⟨sl', ht⟩ := turns_map (f := oneOf (ev T_9 el__law_who_told_3) 4 [4]) (fun d => match d with | .int i => .str (Str.ofString (toString i)) | d => d) (fun sl => [.val (.str s), .no, .val (.str x), .val (.lst (xs.map .str)), sl, .no]) ((List.range 12).map fun (k : Nat) => Dat.int (k : Int)) .no (by
    intro d hd sl
    obtain ⟨k, hk, rfl⟩ := List.mem_map.mp hd
    unfold oneOf el__law_who_told_3
    show (ev T_9 _ [.val (.str s), .no, .val (.str x), .val (.lst (xs.map .str)), .val (dn k), .no]).bind _ = _
    rw [evBi1 (evVar rfl) (str_num (List.mem_range.mp hk)), bindOk]
    rfl)
  unfold rc__law_who_told_1
  have h12 : ev T_9 (.cst (.int 12)) [.val (.str s), .no, .val (.str x), .val (.lst (xs.map .str)), .no, .no] = .ok (.int ((12 : Nat) : Int), .frz, [.val (.str s), .no, .val (.str x), .val (.lst (xs.map .str)), .no, .no]) := evCst
  rw [ev_lcR (n := 12) h12 (by decide)]
  refine (rComp (by decide) rfl ht rfl).trans ?_
  rfl
theorem told_in (e : x.length ≤ 800) (hl : xs.length ≤ 800) : ev T_9 (.bi .all (.cons (.lc el__law_who_told_2 5 (.var 3) [((Str.ofString "_law_place"), 5)]) .nil)) (tenv s x xs .no) = .ok (.bl (xs.all fun y => decide (y ∈ figs)), .frz, tenv s x xs .no) := by
  obtain ⟨sl', ht⟩ := turns_map (f := oneOf (ev T_9 el__law_who_told_2) 5 [5]) (fun d => .bl (match d with | .str y => decide (y ∈ figs) | _ => false)) (fun sl => tenv s x xs sl) (xs.map .str) .no (by
    intro d hd sl
    obtain ⟨y, hy, rfl⟩ := List.mem_map.mp hd
    unfold oneOf el__law_who_told_2
    show (ev T_9 _ (tenv s x xs (.val (.str y)))).bind _ = _
    have hv : ev T_9 (.var 1) (tenv s x xs (.val (.str y))) = .ok (.lst (figs.map .str), .brw 1, tenv s x xs (.val (.str y))) := by rw [ev]; rfl
    have hc : ev T_9 (.cmp .In (.var 5) (.var 1)) (tenv s x xs (.val (.str y))) = .ok (.bl (decide (y ∈ figs)), .frz, tenv s x xs (.val (.str y))) := evCmp (x := .str y) (evVar rfl) hv (inD_figs y)
    rw [hc, bindOk]
    rfl)
  refine evBi1 (x := .lst ((xs.map Dat.str).map fun d => .bl (match d with | .str y => decide (y ∈ figs) | _ => false))) (m := .fresh) (ρ1 := tenv s x xs .no) ?_ ?_
  · rw [evLc (x := .lst (xs.map .str)) (xs := xs.map .str) (evVar rfl) rfl]
    exact rComp (sm_lit (by rw [List.length_map]; omega)) rfl ht rfl
  · show (bls? ((xs.map Dat.str).map fun d => .bl (match d with | .str y => decide (y ∈ figs) | _ => false))).map _ = _
    rw [bls_map, List.map_map]
    show some (Dat.bl (List.all _ id), Mode.frz) = _
    rw [List.all_map]
    rfl
theorem told_ok (ys : List Str) : ∀ (ks : List Nat) (sl : Slot), (∀ k ∈ ks, k < 12) → ∃ sl', turns (oneOf (ev T_9 el__law_who_told_1) 5 [5]) ((ks.map num).map .str) (tenv s x ys sl) = .ok (ks.map dn, tenv s x ys sl')
  | [], sl, _ => ⟨sl, rfl⟩
  | k :: ks, sl, h => by
    obtain ⟨sl', e⟩ := told_ok ys ks (.val (.str (num k))) fun j hj => h j (List.mem_cons_of_mem _ hj)
    have h1 : oneOf (ev T_9 el__law_who_told_1) 5 [5] (.str (num k)) (tenv s x ys sl) = .ok (some (dn k), tenv s x ys (.val (.str (num k)))) := by
      unfold oneOf el__law_who_told_1
      show (ev T_9 _ (tenv s x ys (.val (.str (num k))))).bind _ = _
      rw [evBi1 (evVar rfl) (int_str (h k List.mem_cons_self)), bindOk]
      rfl
    refine ⟨sl', ?_⟩
    rw [List.map_cons, List.map_cons, turns, h1, bindOk]
    show (turns _ _ _).bind _ = _
    rw [e, bindOk]
    rfl
end
theorem run_told (s x : Str) (xs : List Str) (hs : s.length ≤ 700) (e : Txt.split s PT = x :: xs) (hx : x.length ≤ s.length + 1) (hl : xs.length ≤ s.length + 1) :
    (isName x = true → ∀ ks : List Nat, (∀ k ∈ ks, k < 12) → xs = ks.map num → fi__law_who_told.run [.str s] = .ok (.tup (.str x :: ks.map dn), false, [])) ∧
    (isName x = true → (∃ y ∈ xs, y ∉ figs) → fi__law_who_told.run [.str s] = .ok (.non, false, [])) ∧
    (isName x = false → fi__law_who_told.run [.str s] = .ok (.non, false, [])) := by
  have h1 := split_ev (T := T_9) (e := .cst (.str PT)) (r := [.no, .no, .no, .no, .no]) hs evCst
  rw [e] at h1
  have h0 : evs T_9 (.cons (.idx (.split (.var 0) (.cst (.str (Str.ofString ".")))) (.cst (.int 0))) (.cons (.slcL (.split (.var 0) (.cst (.str (Str.ofString ".")))) (.cst (.int 1))) .nil)) [.val (.str s), .no, .no, .no, .no, .no] = .ok ([.str x, .lst (xs.map .str)], [.val (.str s), .no, .no, .no, .no, .no]) :=
    evsCons (Or.inl rfl) (evIdx h1 (Or.inr rfl) evCst (at0 _ _)) (evsCons (Or.inr rfl) (evSlcL (k := .fresh) (d := .lst (xs.map .str)) h1 (Or.inr rfl) (by show some (Dat.lst (cut (Dat.str x :: xs.map Dat.str) (some 1) none), Mode.fresh) = _; rw [cut1])) evsNil)
  have hn : ∀ b, isName x = b → ev T_9 (.not (.call (Str.ofString "_law_is_label") (.cons (.var 2) .nil))) (tenv s x xs .no) = .ok (.bl (!b), .frz, tenv s x xs .no) :=
    fun b hb => evNot (b := b) (call1 (fi := fi__law_is_label) rfl rfl (evVar rfl) (by rw [run_is_label x (by omega), hb]))
  have hi := told_in s x xs (by omega) (by omega)
  have hb : ∀ r, Ev.execs T_9 [] (.cons (.ite (.or (.not (.call (Str.ofString "_law_is_label") (.cons (.var 2) .nil))) (.not (.bi .all (.cons (.lc el__law_who_told_2 5 (.var 3) [((Str.ofString "_law_place"), 5)]) .nil)))) (.cons (.ret (.cst .non)) .nil) .nil) (.cons (.ret (.bi .tuple (.cons (.bin .Add (.lst (.cons (.var 2) .nil)) (.lc el__law_who_told_1 5 (.var 3) [((Str.ofString "_law_place"), 5)])) .nil))) .nil)) (tenv s x xs .no) = r → Ev.execs T_9 [] bd__law_who_told [.val (.str s), .no, .no, .no, .no, .no] = r := by
    intro r h
    unfold bd__law_who_told
    rw [rIteF nstr, rPar (by rfl) h0 rfl]
    show Ev.execs T_9 [] _ [.val (.str s), .no, .val (.str x), .val (.lst (xs.map .str)), .no, .no] = _
    rw [rSet (by decide) (fig_ev s x xs)]
    exact h
  refine ⟨fun c ks hk ek => ?_, fun c hy => ?_, fun c => ?_⟩
  · have ha : (xs.all fun y => decide (y ∈ figs)) = true := by
      rw [List.all_eq_true]
      intro y hy
      rw [ek] at hy
      obtain ⟨k, hk', rfl⟩ := List.mem_map.mp hy
      exact decide_eq_true (num_figs (hk k hk'))
    rw [ha] at hi
    obtain ⟨sl', ht⟩ := told_ok s x xs ks .no hk
    rw [← ek] at ht
    have hl2 : xs.length = ks.length := by rw [ek, List.length_map]
    refine rOf (ρ0 := [.val (.str s), .no, .no, .no, .no, .no]) (ρ := tenv s x xs .no) rfl rfl (hb _ ?_) rfl
    rw [rIteF ((evOrF (hn true c)).trans (evNot (b := true) hi))]
    have hx1 : ev T_9 (.lst (.cons (.var 2) .nil)) (tenv s x xs .no) = .ok (.lst [.str x], .fresh, tenv s x xs .no) := evLst (evsCons (Or.inl rfl) (evVar rfl) evsNil) rfl
    have h2 : ev T_9 (.lc el__law_who_told_1 5 (.var 3) [((Str.ofString "_law_place"), 5)]) (tenv s x xs .no) = .ok (.lst (ks.map dn), .fresh, tenv s x xs .no) := by
      rw [evLc (x := .lst (xs.map .str)) (xs := xs.map .str) (evVar rfl) rfl]
      exact rComp (sm_lit (by rw [List.length_map]; omega)) rfl ht rfl
    exact rRet (evBi1 (evBinF hx1 h2 (lst_add _ _ (by rw [List.length_map]; show 1 + ks.length ≤ 1000; omega))) rfl)
  · obtain ⟨y, hy, hf⟩ := hy
    have ha : (xs.all fun y => decide (y ∈ figs)) = false := by
      rw [List.all_eq_false]
      exact ⟨y, hy, by rw [decide_eq_false hf]; decide⟩
    rw [ha] at hi
    refine rOf (ρ0 := [.val (.str s), .no, .no, .no, .no, .no]) (ρ := tenv s x xs .no) rfl rfl (hb _ ?_) rfl
    exact rIteT ((evOrF (hn true c)).trans (evNot (b := false) hi)) (rRet evCst)
  · refine rOf (ρ0 := [.val (.str s), .no, .no, .no, .no, .no]) (ρ := tenv s x xs .no) rfl rfl (hb _ ?_) rfl
    exact rIteT (evOrT (hn false c)) (rRet evCst)
end K18
set_option Elab.async false
set_option linter.all false
set_option maxRecDepth 100000
set_option maxHeartbeats 4000000
namespace K18
open PySem Ev
abbrev dNo : Dat := .tup [.str (Str.ofString "no"), .non]
abbrev dTold (d : Dat) : Dat := .tup [.str (Str.ofString "told"), d]
abbrev dOther : Dat := .tup [.str (Str.ofString "other"), .non]
theorem tup2 {T : Tab} {d : Dat} {e : IE} {ρ : DEnv} {x : Dat} (h : ev T e ρ = .ok (x, .frz, ρ)) : ev T (.tup (.cons (.cst d) (.cons e .nil))) ρ = .ok (.tup [d, x], .frz, ρ) :=
  evTup (evsCons (Or.inl rfl) evCst (evsCons (Or.inl rfl) h evsNil)) rfl
theorem run_tried_ok {d r : Dat} (h : fi_who_of.run [d] = .ok (r, false, [])) : fi__law_tried.run [d] = .ok (dTold r, false, []) := by
  refine rOf (ρ0 := [.val d, .no, .no]) (ρ := [.val d, .val (dTold r), .no]) rfl rfl ?_ rfl
  unfold bd__law_tried ty__law_tried_1 tb__law_tried_1
  rw [rSet (by decide) (tup2 evCst)]
  have h1 : Ev.execs T_10 [] (.cons (.set 1 (.tup (.cons (.cst (.str (Str.ofString "told"))) (.cons (.call (Str.ofString "who_of") (.cons (.var 0) .nil)) .nil)))) .nil) [.val d, .val dOther, .no] = .ok (.nx [.val d, .val (dTold r), .no]) := by
    rw [rSet (by decide) (tup2 (call1 (fi := fi_who_of) rfl rfl var0 h)), Ev.execs]
    rfl
  refine (rTryN (by decide) h1).trans ?_
  exact rRet (evVar rfl)
theorem run_tried_no {d : Dat} (h : fi_who_of.run [d] = .exc NOT [] []) : fi__law_tried.run [d] = .ok (dNo, false, []) := by
  refine rOf (ρ0 := [.val d, .no, .no]) (ρ := [.val d, .val dNo, .no]) rfl rfl ?_ rfl
  unfold bd__law_tried ty__law_tried_1 tb__law_tried_1 su__law_tried_1
  rw [rSet (by decide) (tup2 evCst)]
  have h1 : Ev.execs T_10 [] (.cons (.set 1 (.tup (.cons (.cst (.str (Str.ofString "told"))) (.cons (.call (Str.ofString "who_of") (.cons (.var 0) .nil)) .nil)))) .nil) [.val d, .val dOther, .no] = .exc NOT [] [.val d, .val dOther, .no] :=
    rSetX (by decide) (evTup2X (call1X (fi := fi_who_of) rfl rfl var0 h))
  have h2 : Ev.execs T_10 [] (.cons (.ite (.and (.isE 2 [(Str.ofString "NoText")]) (.and (.isE 2 [(Str.ofString "ValueError")]) (.not (.isE 2 [(Str.ofString "NoWeb")])))) (.cons (.set 1 (.tup (.cons (.cst (.str (Str.ofString "no"))) (.cons (.cst .non) .nil)))) .nil) .nil) .nil) [.val d, .val dOther, .exn NOT []] = .ok (.nx [.val d, .val dNo, .exn NOT []]) := by
    have hc : ev T_10 (.and (.isE 2 [(Str.ofString "NoText")]) (.and (.isE 2 [(Str.ofString "ValueError")]) (.not (.isE 2 [(Str.ofString "NoWeb")])))) [.val d, .val dOther, .exn NOT []] = .ok (.bl true, .frz, [.val d, .val dOther, .exn NOT []]) := by
      refine (evAndT (m := .frz) (ρ1 := [.val d, .val dOther, .exn NOT []]) (evIsE rfl rfl)).trans ?_
      refine (evAndT (m := .frz) (ρ1 := [.val d, .val dOther, .exn NOT []]) (evIsE rfl rfl)).trans ?_
      exact evNot (b := false) (evIsE rfl rfl)
    have hs : Ev.execs T_10 [] (.cons (.set 1 (.tup (.cons (.cst (.str (Str.ofString "no"))) (.cons (.cst .non) .nil)))) .nil) [.val d, .val dOther, .exn NOT []] = .ok (.nx [.val d, .val dNo, .exn NOT []]) := by
      rw [rSet (by decide) (tup2 evCst), Ev.execs]
      rfl
    rw [rIteTn hc hs, Ev.execs]
  refine (rTryX (by decide) h1 rfl h2).trans ?_
  exact rRet (evVar rfl)
theorem run_of_odd {d : Dat} (h : d.isa "str" = some false) : fi_who_of.run [d] = .exc NOT [] [] := by
  refine rOfX (ρ0 := [.val d, .no, .no, .no]) (ρ := [.val d, .no, .no, .no]) rfl rfl ?_
  unfold bd_who_of
  exact rIteTX (evNot (b := false) (evIsi var0 h)) (rRai rfl)
theorem run_told_odd {d : Dat} (h : d.isa "str" = some false) : fi__law_who_told.run [d] = .ok (.non, false, []) := by
  refine rOf (ρ0 := [.val d, .no, .no, .no, .no, .no]) (ρ := [.val d, .no, .no, .no, .no, .no]) rfl rfl ?_ rfl
  unfold bd__law_who_told
  exact rIteT (evNot (b := false) (evIsi var0 h)) (rRet evCst)
def dueOf (d : Dat) : Dat := if d.isNon then dNo else dTold d
theorem rep_ev {T : Tab} {e : IE} {ρ ρ1 : DEnv} {d : Dat} {m : Mode} (h : ev T e ρ = .ok (d, m, ρ1)) (ht : d.tell = true) : ev T (.bi .repr (.cons e .nil)) ρ = .ok (.str d.toPy.shown, .frz, ρ1) := by
  refine evBi1 h ?_
  show (if d.tell = true then _ else _) = _
  rw [if_pos ht]
theorem right_turn {d due k : Dat} (sl : Slot) (h2 : fi__law_tried.run [d] = .ok (dueOf due, false, [])) (ht : (dueOf due).tell = true) : turnOf (Ev.execs T_12 [] lp__law_is_right_1) 2 k [.val d, .val due, sl] = .ok (.nx [.val d, .val due, .val k]) := by
  unfold turnOf lp__law_is_right_1
  show Ev.execs T_12 [] _ [.val d, .val due, .val k] = _
  have h3 := rep_ev (call1 (T := T_12) (f := (Str.ofString "_law_tried")) (fi := fi__law_tried) (e := .var 0) (ρ := [.val d, .val due, .val k]) rfl rfl var0 h2) ht
  have h4 : ev T_12 (.ite (.isN true (.var 1)) (.tup (.cons (.cst (.str (Str.ofString "no"))) (.cons (.cst .non) .nil))) (.tup (.cons (.cst (.str (Str.ofString "told"))) (.cons (.var 1) .nil)))) [.val d, .val due, .val k] = .ok (dueOf due, .frz, [.val d, .val due, .val k]) := by
    have hi : ev T_12 (.isN true (.var 1)) [.val d, .val due, .val k] = .ok (.bl due.isNon, .frz, [.val d, .val due, .val k]) := evIsN (evVar rfl)
    unfold dueOf
    cases e : due.isNon with
    | true =>
      rw [e] at hi
      rw [evIteT hi]
      exact tup2 evCst
    | false =>
      rw [e] at hi
      rw [evIteF hi]
      exact tup2 (evVar rfl)
  rw [rIteF (evCmp h3 (rep_ev h4 ht) (by simp only [cmpD, eqFlat, decide_true, Bool.not_true])), Ev.execs]
theorem run_is_right {d due : Dat} (h1 : fi__law_who_told.run [d] = .ok (due, false, [])) (h2 : fi__law_tried.run [d] = .ok (dueOf due, false, [])) (ht : (dueOf due).tell = true) : fi__law_is_right.run [d] = .ok (.bl true, false, []) := by
  refine rOf (ρ0 := [.val d, .no, .no]) (ρ := [.val d, .val due, .val (.int 1)]) rfl rfl ?_ rfl
  unfold bd__law_is_right
  rw [rSet (by decide) (call1 (fi := fi__law_who_told) rfl rfl var0 h1)]
  show Ev.execs T_12 [] _ [.val d, .val due, .no] = _
  unfold rl__law_is_right_1
  have hc2 : ev T_12 (.cst (.int 2)) [.val d, .val due, .no] = .ok (.int ((2 : Nat) : Int), .frz, [.val d, .val due, .no]) := evCst
  rw [rForR (n := 2) (by decide) hc2 (by decide)]
  have hl : (List.range 2).map (fun (k : Nat) => Dat.int (k : Int)) = [.int 0, .int 1] := rfl
  rw [hl, loop, right_turn _ h2 ht, bindOk]
  show ((loop _ [.int 1] [.val d, .val due, .val (.int 0)]).bind _) = _
  rw [loop, right_turn _ h2 ht, bindOk]
  show ((loop _ [] [.val d, .val due, .val (.int 1)]).bind _) = _
  rw [loop, bindOk]
  exact rRet evCst
theorem tell_no : dNo.tell = true := by decide +kernel
theorem right_odd {d : Dat} (h : d.isa "str" = some false) : fi__law_is_right.run [d] = .ok (.bl true, false, []) :=
  run_is_right (run_told_odd h) (run_tried_no (run_of_odd h)) tell_no
theorem niceL_dn : ∀ ks : List Nat, (∀ k ∈ ks, k < 12) → NiceL (ks.map dn) 1 ks.length
  | [], _ => niceL_nil 1
  | k :: ks, h => by
    have h1 : Nice (dn k) 1 0 := nice_int (by rw [Int.natAbs_natCast]; have := h k List.mem_cons_self; omega)
    have := niceL_cons h1 (niceL_dn ks fun j hj => h j (List.mem_cons_of_mem _ hj))
    rw [List.map_cons, List.length_cons]
    exact niceL_mono this (by omega)

theorem low_name {x : Str} (h : isName x = true) : lowS x ∧ 1 ≤ x.length ∧ x.length ≤ 8 := by
  unfold isName at h
  simp only [Bool.and_eq_true, decide_eq_true_eq, List.all_eq_true] at h
  exact ⟨fun c hc => LET_low c (h.2 c hc), h.1.1, h.1.2⟩
theorem nice_who {x : Str} {ks : List Nat} (h : isName x = true) (hk : ∀ k ∈ ks, k < 12) : Nice (.tup (.str x :: ks.map dn)) 2 (9 + ks.length) := by
  have := low_name h
  have h1 := niceL_cons (nice_str this.1) (niceL_dn ks hk)
  exact nice_mono (nice_tup h1) (by omega) (by omega)
theorem hasDict_dn : ∀ ks : List Nat, PyData.hasDictAll (toPys (ks.map dn)) = false
  | [] => rfl
  | k :: ks => by
    rw [List.map_cons, toPys, PyData.hasDictAll, hasDict_dn ks]
    rfl
theorem right_str (s : Str) (hs : s.length ≤ 700) : fi__law_is_right.run [.str s] = .ok (.bl true, false, []) := by
  obtain ⟨x, xs, e, hx, hl⟩ := split_parts s
  have h1 := run_who s x xs hs e hx hl
  obtain ⟨t1, t2, t3⟩ := run_told s x xs hs e hx hl
  by_cases c : isName x = true
  · rw [if_pos c] at h1
    cases fig_cases xs with
    | inl r =>
      obtain ⟨ks, hk, ek⟩ := r
      obtain ⟨sl', ht⟩ := who_ok s x (.lst (xs.map .str)) ks .no hk
      rw [← ek] at ht
      rw [ht] at h1
      have hl2 : xs.length = ks.length := by rw [ek, List.length_map]
      refine run_is_right (t1 c ks hk ek) (run_tried_ok h1) ?_
      have n1 := nice_who c hk
      have n2 : NiceL [.str (Str.ofString "told"), .tup (.str x :: ks.map dn)] 2 (4 + 1 + (9 + ks.length + 1 + 0)) := niceL_cons (nice_mono (nice_str (s := Str.ofString "told") (by unfold lowS; decide)) (by decide) (by decide)) (niceL_cons n1 (niceL_nil 2))
      refine tell_of (nice_mono (nice_tup n2) (by decide) (Nat.le_refl _)) (by omega) (Or.inl ?_)
      show (dTold (.tup (.str x :: ks.map dn))).toPy.hasDict = false
      simp only [Dat.toPy, toPys, PyData.hasDict, PyData.hasDictAll, hasDict_dn, Bool.or_self]
    | inr r =>
      obtain ⟨sl', ht⟩ := who_bad s x (.lst (xs.map .str)) xs .no r
      rw [ht] at h1
      exact run_is_right (t2 c r) (run_tried_no h1) tell_no
  · rw [if_neg c] at h1
    exact run_is_right (t3 (Bool.eq_false_iff.mpr c)) (run_tried_no h1) tell_no
end K18
set_option Elab.async false
set_option linter.all false
set_option maxRecDepth 100000
set_option maxHeartbeats 4000000
namespace K18
open PySem Ev
/-! the word of a path -/
def wd (x : Str) (ks : List Nat) : Str := Txt.join PT (x :: ks.map num)
theorem str_ext {a b : Str} (h : a.cps.toList = b.cps.toList) : a = b := by
  cases a
  cases b
  congr 1
  exact Array.toList_inj.mp h
theorem joinL_dot (S : List Nat) : ∀ (ps : List (List Nat)) (p : List Nat), TL.joinL S (p :: ps) = p ++ (ps.map (S ++ ·)).flatten
  | [], p => by simp [TL.joinL]
  | q :: r, p => by
    rw [TL.joinL, joinL_dot S r q, List.map_cons, List.flatten_cons, List.append_assoc]
theorem wd_tl (x : Str) (ks : List Nat) : (wd x ks).cps.toList = x.cps.toList ++ (ks.map fun k => 46 :: TL.numL k).flatten := by
  unfold wd
  rw [TL.join_eq]
  refine (TL.tl_join _ _).trans ?_
  rw [List.map_cons, joinL_dot, List.map_map, List.map_map]
  congr 2
  refine List.map_congr_left fun k _ => ?_
  show [46] ++ (num k).cps.toList = _
  rw [num_tl]
  rfl
theorem flat_len : ∀ ks : List Nat, (∀ k ∈ ks, k < 12) → (ks.map fun k => 46 :: TL.numL k).flatten.length ≤ 3 * ks.length
  | [], _ => Nat.le_refl _
  | k :: ks, h => by
    have h1 := flat_len ks fun j hj => h j (List.mem_cons_of_mem _ hj)
    have h2 := TL.numL_len (n := k) (k := 2) (by decide) (by have := h k List.mem_cons_self; omega)
    rw [List.map_cons, List.flatten_cons, List.length_append, List.length_cons, List.length_cons]
    omega
theorem wd_len {x : Str} {ks : List Nat} (hx : x.length ≤ 8) (h : ∀ k ∈ ks, k < 12) : (wd x ks).length ≤ 8 + 3 * ks.length := by
  show (wd x ks).cps.size ≤ _
  have h1 := flat_len ks h
  have h2 : x.cps.toList.length ≤ 8 := by rw [Array.length_toList]; exact hx
  rw [← Array.length_toList, wd_tl, List.length_append]
  omega
theorem wd_low {x : Str} {ks : List Nat} (hx : lowS x) : lowS (wd x ks) := by
  intro c hc
  rw [wd_tl, List.mem_append] at hc
  cases hc with
  | inl h => exact hx c h
  | inr h =>
    obtain ⟨l, hl, hc⟩ := List.mem_flatten.mp h
    obtain ⟨k, _, rfl⟩ := List.mem_map.mp hl
    cases hc with
    | head => decide
    | tail _ hc =>
      have := TL.numL_digits k c hc
      omega
theorem wd_split {x : Str} {ks : List Nat} (hx : 46 ∉ x.cps.toList) : Txt.split (wd x ks) PT = x :: ks.map num := by
  refine TL.split_join (s := 46) (S := []) rfl (by decide +kernel) (by simp) fun p hp => ?_
  cases hp with
  | head => exact hx
  | tail _ hp =>
    obtain ⟨k, _, rfl⟩ := List.mem_map.mp hp
    show 46 ∉ (num k).cps.toList
    rw [num_tl]
    exact TL.numL_free (by omega)
theorem name_free {x : Str} (h : ∀ c ∈ x.cps.toList, c ∈ LET.cps.toList) : 46 ∉ x.cps.toList := fun hm => absurd (h 46 hm) (by decide)
theorem isName_of {x : Str} (h : ∀ c ∈ x.cps.toList, c ∈ LET.cps.toList) (h1 : 1 ≤ x.length ∧ x.length ≤ 8) : isName x = true := by
  unfold isName
  rw [decide_eq_true h1.1, decide_eq_true h1.2]
  simp only [Bool.and_self, Bool.true_and, List.all_eq_true, decide_eq_true_eq]
  exact h
abbrev path (x : Str) (ks : List Nat) : Dat := .tup (.str x :: ks.map dn)
theorem run_of_wd {x : Str} {ks : List Nat} (hx : ∀ c ∈ x.cps.toList, c ∈ LET.cps.toList) (h1 : 1 ≤ x.length ∧ x.length ≤ 8) (hk : ∀ k ∈ ks, k < 12) (hl : ks.length ≤ 198) : fi_who_of.run [.str (wd x ks)] = .ok (path x ks, false, []) := by
  have e := wd_split (ks := ks) (name_free hx)
  have hs := wd_len h1.2 hk
  obtain ⟨x', xs', e', hx', hl'⟩ := split_parts (wd x ks)
  rw [e] at e'
  cases e'
  have h := run_who (wd x ks) x (ks.map num) (by omega) e hx' hl'
  rw [if_pos (isName_of hx h1)] at h
  obtain ⟨sl', ht⟩ := who_ok (wd x ks) x (.lst ((ks.map num).map .str)) ks .no hk
  rw [ht] at h
  exact h
/-! who_text, end_text -/
theorem strs_map : ∀ zs : List Str, strs? (zs.map .str) = some zs
  | [] => rfl
  | z :: r => by
    show (strs? (r.map .str)).map _ = _
    rw [strs_map r]
    rfl
def toS (d : Dat) : Dat := match d with
  | .int i => .str (Str.ofString (toString i))
  | d => d
theorem sum_len : ∀ ks : List Nat, (∀ k ∈ ks, k < 12) → ((ks.map num).map (·.length)).sum ≤ 2 * ks.length
  | [], _ => Nat.le_refl _
  | k :: ks, h => by
    have h1 := sum_len ks fun j hj => h j (List.mem_cons_of_mem _ hj)
    have h2 := num_len (h k List.mem_cons_self)
    rw [List.map_cons, List.map_cons, List.sum_cons, List.length_cons]
    omega
theorem run_text {x : Str} {ks : List Nat} (hx : x.length ≤ 8) (hk : ∀ k ∈ ks, k < 12) (hl : ks.length ≤ 198) : fi_who_text.run [path x ks] = .ok (.str (wd x ks), false, []) := by
  refine rOf (ρ0 := [.val (path x ks), .no]) (ρ := [.val (path x ks), .no]) rfl rfl ?_ rfl
  unfold bd_who_text
  obtain ⟨sl', ht⟩ := turns_map (f := oneOf (ev T_1 el_who_text_1) 1 [1]) toS (fun sl => [.val (path x ks), sl]) (.str x :: ks.map dn) .no (by
    intro d hd sl
    have hb : biD .str [d] = some (toS d, .frz) := by
      cases hd with
      | head => rfl
      | tail _ hd =>
        obtain ⟨k, hk', rfl⟩ := List.mem_map.mp hd
        exact str_num (hk k hk')
    unfold oneOf el_who_text_1
    show (ev T_1 _ [.val (path x ks), .val d]).bind _ = _
    rw [evBi1 (evVar rfl) hb, bindOk]
    rfl)
  have em : (Dat.str x :: ks.map dn).map toS = (x :: ks.map num).map .str := by
    rw [List.map_cons, List.map_cons, List.map_map, List.map_map]
    rfl
  rw [em] at ht
  have hsum := sum_len ks hk
  refine rRet (evJoin (s := PT) (ys := (x :: ks.map num).map .str) (zs := x :: ks.map num) (m := .frz) (k := .fresh) (ρ1 := [.val (path x ks), .no]) (evGlb rfl) ?_ (strs_map _) (sm_lit ?_))
  · rw [evLc (x := path x ks) (xs := .str x :: ks.map dn) var0 rfl]
    exact rComp (sm_lit (by rw [List.length_cons, List.length_map]; omega)) rfl ht rfl
  · have : PT.length = 1 := by decide
    rw [List.map_cons, List.sum_cons, List.length_cons, List.length_map, this]
    omega
theorem run_text0 : fi_who_text.run [.tup []] = .ok (.str Str.empty, false, []) := by
  refine rOf (ρ0 := [.val (.tup []), .no]) (ρ := [.val (.tup []), .no]) rfl rfl ?_ rfl
  unfold bd_who_text
  refine rRet (evJoin (s := PT) (ys := []) (zs := []) (m := .frz) (k := .fresh) (ρ1 := [.val (.tup []), .no]) (evGlb rfl) ?_ rfl rfl)
  rw [evLc (x := .tup []) (xs := []) var0 rfl]
  rfl
abbrev CO : Str := Str.ofString ":"
theorem emp (x : Str) : Str.empty ++ x = x := str_ext (by rw [Str.cps_append, Array.toList_append]; rfl)
theorem fmt_str {a x : Str} (h : (a ++ x).length ≤ 1000) : fmtD a (.str x) = some (a ++ x) := by
  have h2 : x.length ≤ 1000 := by rw [Str.length_append] at h; omega
  show (if (sm (a ++ x).length && sm x.length) = true then _ else _) = _
  rw [sm_lit h, sm_lit h2]
  rfl
theorem fmt_num {a : Str} {k : Nat} (hk : k < 12) (h : (a ++ num k).length ≤ 1000) : fmtD a (dn k) = some (a ++ num k) := by
  show (if (k : Int).natAbs < 2 ^ 64 ∧ sm (a ++ num k).length = true then _ else _) = _
  rw [if_pos ⟨by rw [Int.natAbs_natCast]; omega, sm_lit h⟩]
theorem run_end {w z : Str} {p d : Dat} (h1 : fi_who_text.run [p] = .ok (.str w, false, [])) (hw : w.length ≤ 700) (hz : fmtD (w ++ CO) d = some z) : fi_end_text.run [.tup [p, d]] = .ok (.str z, false, []) := by
  refine rOf (ρ0 := [.val (.tup [p, d]), .no, .no]) (ρ := [.val (.tup [p, d]), .val p, .val d]) rfl rfl ?_ rfl
  unfold bd_end_text
  rw [rUnp (ds := [p, d]) (by decide) var0 rfl]
  show Ev.execs T_2 [] _ [.val (.tup [p, d]), .val p, .val d] = _
  have c1 : CO.length = 1 := by decide
  refine rRet (evFst3 (s := w) (t := w ++ CO) (call1 (fi := fi_who_text) rfl rfl (evVar rfl) h1) ?_ (y := .str CO) (k := .frz) (evGlb rfl) (fmt_str (by rw [Str.length_append, c1]; omega)) (evVar rfl) hz)
  rw [fmt_str (by rw [emp]; omega), emp]
theorem run_end_num {x : Str} {ks : List Nat} {n : Nat} (hx : x.length ≤ 8) (hk : ∀ k ∈ ks, k < 12) (hl : ks.length ≤ 198) (hn : n < 12) : fi_end_text.run [.tup [path x ks, dn n]] = .ok (.str (wd x ks ++ CO ++ num n), false, []) := by
  have h1 := wd_len hx hk
  have h2 := num_len hn
  have c1 : CO.length = 1 := by decide
  exact run_end (run_text hx hk hl) (by omega) (fmt_num hn (by rw [Str.length_append, Str.length_append]; omega))
theorem run_end_name {y : Str} (hy : y.length ≤ 8) : fi_end_text.run [.tup [.tup [], .str y]] = .ok (.str (CO ++ y), false, []) := by
  have c1 : CO.length = 1 := by decide
  refine run_end run_text0 (by decide) ?_
  rw [emp]
  exact fmt_str (by rw [Str.length_append]; omega)
theorem strOk_low {a : Str} (h : lowS a) : PyData.strOk a = true := by
  unfold PyData.strOk
  rw [← Array.all_toList, List.all_eq_true]
  intro c hc
  have := h c hc
  exact decide_eq_true (by omega)
theorem low_app {a b : Str} (ha : lowS a) (hb : lowS b) : lowS (a ++ b) := by
  intro c hc
  rw [Str.cps_append, Array.toList_append, List.mem_append] at hc
  exact hc.elim (ha c) (hb c)
theorem low_num (k : Nat) : lowS (num k) := by
  intro c hc
  rw [num_tl] at hc
  have := TL.numL_digits k c hc
  omega
theorem low_co : lowS CO := by unfold lowS; decide
theorem ne_two {a b : Str} (ha : lowS a) (hb : lowS b) : cmpD .NotEq (.lst [.str a, .str b]) (.lst [.str a, .str b]) = some false := by
  have hf : (Dat.lst [.str a, .str b]).fit = true := by
    simp [Dat.fit, SeqAt.shaped, Dat.toPy, toPys, PyData.canLay0, PyData.canLayAll0, PyData.depth, PyData.depthAll, strOk_low ha, strOk_low hb]
  simp only [cmpD, eqFlat, hf, Bool.and_self, if_true, Dat.toPy, toPys, PyData.eqv, PyData.eqvAll, beq_self_eq_true, Bool.not_true]
end K18
set_option Elab.async false
set_option linter.all false
set_option maxRecDepth 100000
set_option maxHeartbeats 4000000
namespace Ev
open PySem
theorem evSlcRn {T : Tab} {a b : IE} {x d y : Dat} {i : Int} {ρ ρ1 ρ2 : DEnv} {k j : Mode} (ha : ev T a ρ = .ok (x, .frz, ρ1)) (hb : ev T b ρ1 = .ok (.int i, j, ρ2)) (hr : slcD x none (some i) = some (d, k)) :
    ev T (.slcR a b) ρ = .ok (d, k, ρ2) := by
  rw [ev, ha, bindOk]
  simp only [hb, bindOk, now, ofOs, hr]
theorem evSlcLn {T : Tab} {a b : IE} {x d y : Dat} {i : Int} {ρ ρ1 ρ2 : DEnv} {k j : Mode} (ha : ev T a ρ = .ok (x, .frz, ρ1)) (hb : ev T b ρ1 = .ok (.int i, j, ρ2)) (hr : slcD x (some i) none = some (d, k)) :
    ev T (.slcL a b) ρ = .ok (d, k, ρ2) := by
  rw [ev, ha, bindOk]
  simp only [hb, bindOk, now, ofOs, hr]
theorem evBinB {T : Tab} {op : Operator} {i : Nat} {b : IE} {x y d : Dat} {ρ ρ2 : DEnv} {k j : Mode} (ha : ρ[i]? = some (.own x)) (hb : ev T b ρ = .ok (y, k, ρ2)) (h2 : ρ2[i]? = some (.own x)) (hr : binD op x y = some (d, j)) :
    ev T (.bin op (.var i) b) ρ = .ok (d, j, ρ2) := by
  have h0 : ev T (.var i) ρ = .ok (x, .brw i, ρ) := by rw [ev, ha]
  rw [ev, h0, bindOk]
  simp only [hb, bindOk, now, h2, ofOs, hr]
end Ev
namespace K18
open PySem Ev
theorem cutR (z : Str) (n : Nat) : (L2.cutS z none (some (n : Int))).length = min n z.length := by
  show (((z.cps.toList.drop (HT.sIx z.length 0 none)).take (HT.sIx z.length z.length (some (n : Int)) - HT.sIx z.length 0 none)).toArray).size = _
  rw [List.size_toArray, List.length_take, List.length_drop, Array.length_toList, HT.sIx_nat, HT.sIx_none]
  show min (min n z.length - 0) (z.length - 0) = _
  omega
theorem cutL (z : Str) (n : Nat) : (L2.cutS z (some (n : Int)) none).length = z.length - min n z.length := by
  show (((z.cps.toList.drop (HT.sIx z.length 0 (some (n : Int)))).take (HT.sIx z.length z.length none - HT.sIx z.length 0 (some (n : Int)))).toArray).size = _
  rw [List.size_toArray, List.length_take, List.length_drop, Array.length_toList, HT.sIx_nat, HT.sIx_none]
  show min (z.length - min n z.length) (z.length - min n z.length) = _
  omega
theorem slR (z : Str) (n : Nat) (h : z.length ≤ 1000) : slcD (.str z) none (some (n : Int)) = some (.str (L2.cutS z none (some (n : Int))), .frz) := by
  show (if sm z.length = true then _ else _) = _
  rw [if_pos (sm_lit h)]
theorem slL (z : Str) (n : Nat) (h : z.length ≤ 1000) : slcD (.str z) (some (n : Int)) none = some (.str (L2.cutS z (some (n : Int)) none), .frz) := by
  show (if sm z.length = true then _ else _) = _
  rw [if_pos (sm_lit h)]
def okS (b : Nat) (d : Dat) : Prop := ∃ w : Str, d = .str w ∧ w.length ≤ b
abbrev SG : Str := Str.ofString ".:abcxyz0123456789- A\n+_"
theorem run_spoilt (a b : Int) (w : Str) (hw : w.length ≤ 650) : ∃ (a' b' : Int) (z : Str), z.length ≤ w.length + 4 ∧ fi__law_spoilt.run [pot a b, .str w] = .ok (.str z, false, [pot a' b']) := by
  have tk : T_11.fn (Str.ofString "_law_take") = some takeFI := rfl
  -- the place
  have hlen : ev T_11 (.bin .Add (.bi .len (.cons (.var 1) .nil)) (.cst (.int 1))) [.own (pot a b), .val (.str w), .no, .no, .no, .no] = .ok (.int ((w.length : Int) + 1), .frz, [.own (pot a b), .val (.str w), .no, .no, .no, .no]) :=
    evBin (len_ev rfl (by omega)) evCst rfl
  obtain ⟨r, a1, b1, hr, h1⟩ := takeC (T := T_11) (i := 0) tk rfl hlen (by omega)
  obtain ⟨n, rfl⟩ : ∃ n : Nat, r = (n : Int) := ⟨r.toNat, by omega⟩
  obtain ⟨q, a2, b2, hq, h2⟩ := takeK (T := T_11) (i := 0) (ρ := [.own (pot a1 b1), .val (.str w), .val (.int (n : Int)), .val (.str SG), .no, .no]) 24 tk rfl (by decide)
  obtain ⟨c, _, hi⟩ := atI_mem (xs := SG.cps.toList) (i := q) ⟨hq.1, by rw [show SG.cps.toList.length = 24 by decide]; exact hq.2⟩
  have h3 : ev T_11 (.idx (.var 3) (.call (Str.ofString "_law_take") (.cons (.var 0) (.cons (.cst (.int 24)) .nil)))) [.own (pot a1 b1), .val (.str w), .val (.int (n : Int)), .val (.str SG), .no, .no] = .ok (sgn c, .frz, [.own (pot a2 b2), .val (.str w), .val (.int (n : Int)), .val (.str SG), .no, .no]) := by
    refine evIdx (evVar rfl) (Or.inl rfl) h2 ?_
    have hs : sm SG.length = true := by decide
    simp only [idxD, hs, if_true, hi, Option.map]
    rfl
  -- the words
  have e1 := cutR w n
  have e2 := cutL w n
  have e3 := cutL w (n + 1)
  have s1 : (⟨#[c]⟩ : Str).length = 1 := rfl
  let E (sl : Slot) : DEnv := [.own (pot a2 b2), .val (.str w), .val (.int (n : Int)), .val (.str SG), .val (sgn c), sl]
  have vR : ∀ sl, ev T_11 (.slcR (.var 1) (.var 2)) (E sl) = .ok (.str (L2.cutS w none (some (n : Int))), .frz, E sl) := fun sl => evSlcRn (y := .non) (evVar rfl) (evVar rfl) (slR w n (by omega))
  have vL : ∀ sl, ev T_11 (.slcL (.var 1) (.var 2)) (E sl) = .ok (.str (L2.cutS w (some (n : Int)) none), .frz, E sl) := fun sl => evSlcLn (y := .non) (evVar rfl) (evVar rfl) (slL w n (by omega))
  have vL1 : ∀ sl, ev T_11 (.slcL (.var 1) (.bin .Add (.var 2) (.cst (.int 1)))) (E sl) = .ok (.str (L2.cutS w (some ((n + 1 : Nat) : Int)) none), .frz, E sl) := fun sl => evSlcLn (y := .non) (i := ((n + 1 : Nat) : Int)) (evVar rfl) (evBin (evVar rfl) evCst rfl) (slL w (n + 1) (by omega))
  have add : ∀ (e f : IE) (x y : Str) (sl : Slot), ev T_11 e (E sl) = .ok (.str x, .frz, E sl) → ev T_11 f (E sl) = .ok (.str y, .frz, E sl) → x.length + y.length ≤ 1000 → ev T_11 (.bin .Add e f) (E sl) = .ok (.str (x ++ y), .frz, E sl) := fun e f x y sl he hf h => evBin he hf (str_add x y h)
  have vw : ∀ sl, ev T_11 (.var 1) (E sl) = .ok (.str w, .frz, E sl) := fun sl => evVar rfl
  have vc : ∀ sl, ev T_11 (.var 4) (E sl) = .ok (.str ⟨#[c]⟩, .frz, E sl) := fun sl => evVar rfl
  have wc : ∀ (y : Str) (sl : Slot), y.length ≤ 4 → ev T_11 (.bin .Add (.var 1) (.cst (.str y))) (E sl) = .ok (.str (w ++ y), .frz, E sl) := fun y sl h => add _ _ _ _ sl (vw sl) evCst (by omega)
  let l1 : List Dat := [.str (L2.cutS w none (some (n : Int)) ++ L2.cutS w (some ((n + 1 : Nat) : Int)) none), .str (L2.cutS w none (some (n : Int)) ++ ⟨#[c]⟩ ++ L2.cutS w (some (n : Int)) none), .str (L2.cutS w none (some (n : Int)) ++ ⟨#[c]⟩ ++ L2.cutS w (some ((n + 1 : Nat) : Int)) none), .str (w ++ Str.ofString ".12")]
  let l2 : List Dat := [.str (w ++ Str.ofString "."), .str (Str.ofString "." ++ w), .str (w ++ Str.ofString ".01"), .str (w ++ Str.ofString ".-1"), .str (w ++ Str.ofString ":0"), .str (w ++ Str.ofString ".0")]
  let l3 : List Dat := [.str (w ++ Str.ofString ".+1"), .str (w ++ Str.ofString ".1_0")]
  have k1 : (L2.cutS w none (some (n : Int)) ++ (⟨#[c]⟩ : Str)).length ≤ 900 := by rw [Str.length_append]; omega
  have g1 : ev T_11 (.lst (.cons (.bin .Add (.slcR (.var 1) (.var 2)) (.slcL (.var 1) (.bin .Add (.var 2) (.cst (.int 1))))) (.cons (.bin .Add (.bin .Add (.slcR (.var 1) (.var 2)) (.var 4)) (.slcL (.var 1) (.var 2))) (.cons (.bin .Add (.bin .Add (.slcR (.var 1) (.var 2)) (.var 4)) (.slcL (.var 1) (.bin .Add (.var 2) (.cst (.int 1))))) (.cons (.bin .Add (.var 1) (.cst (.str (Str.ofString ".12")))) .nil))))) (E .no) = .ok (.lst l1, .fresh, E .no) := by
    refine evLst (evsCons (Or.inl rfl) (add _ _ _ _ .no (vR .no) (vL1 .no) (by omega)) (evsCons (Or.inl rfl) (add _ _ _ _ .no (add _ _ _ _ .no (vR .no) (vc .no) (by omega)) (vL .no) ?_) (evsCons (Or.inl rfl) (add _ _ _ _ .no (add _ _ _ _ .no (vR .no) (vc .no) (by omega)) (vL1 .no) ?_) (evsCons (Or.inl rfl) (wc (Str.ofString ".12") .no (by decide)) evsNil)))) rfl
    · rw [Str.length_append]; omega
    · rw [Str.length_append]; omega
  have g2 : ev T_11 (.bin .Add (.var 5) (.lst (.cons (.bin .Add (.var 1) (.cst (.str (Str.ofString ".")))) (.cons (.bin .Add (.cst (.str (Str.ofString "."))) (.var 1)) (.cons (.bin .Add (.var 1) (.cst (.str (Str.ofString ".01")))) (.cons (.bin .Add (.var 1) (.cst (.str (Str.ofString ".-1")))) (.cons (.bin .Add (.var 1) (.cst (.str (Str.ofString ":0")))) (.cons (.bin .Add (.var 1) (.cst (.str (Str.ofString ".0")))) .nil)))))))) (E (.own (.lst l1))) = .ok (.lst (l1 ++ l2), .fresh, E (.own (.lst l1))) := by
    have c1 : (Str.ofString ".").length = 1 := by decide
    refine evBinB rfl (evLst (evsCons (Or.inl rfl) (wc (Str.ofString ".") _ (by decide)) (evsCons (Or.inl rfl) (add _ _ _ _ _ evCst (vw _) (by omega)) (evsCons (Or.inl rfl) (wc (Str.ofString ".01") _ (by decide)) (evsCons (Or.inl rfl) (wc (Str.ofString ".-1") _ (by decide)) (evsCons (Or.inl rfl) (wc (Str.ofString ":0") _ (by decide)) (evsCons (Or.inl rfl) (wc (Str.ofString ".0") _ (by decide)) evsNil)))))) rfl) rfl (lst_add l1 l2 (by show 4 + 6 ≤ 1000; decide))
  have g3 : ev T_11 (.bin .Add (.var 5) (.lst (.cons (.bin .Add (.var 1) (.cst (.str (Str.ofString ".+1")))) (.cons (.bin .Add (.var 1) (.cst (.str (Str.ofString ".1_0")))) .nil)))) (E (.own (.lst (l1 ++ l2)))) = .ok (.lst (l1 ++ l2 ++ l3), .fresh, E (.own (.lst (l1 ++ l2)))) :=
    evBinB rfl (evLst (evsCons (Or.inl rfl) (wc (Str.ofString ".+1") _ (by decide)) (evsCons (Or.inl rfl) (wc (Str.ofString ".1_0") _ (by decide)) evsNil)) rfl) rfl (lst_add (l1 ++ l2) l3 (by show 10 + 2 ≤ 1000; decide))
  obtain ⟨p, a', b', hp, h4⟩ := takeK (T := T_11) (i := 0) (ρ := E (.own (.lst (l1 ++ l2)))) 12 tk rfl (by decide)
  obtain ⟨d, hd, hi2⟩ := atI_mem (xs := l1 ++ l2 ++ l3) (i := p) ⟨hp.1, hp.2⟩
  have hz : okS (w.length + 4) d := by
    simp only [l1, l2, l3, List.mem_append, List.mem_cons, List.not_mem_nil, or_false] at hd
    rcases hd with ((h | h | h | h) | h | h | h | h | h | h) | h | h <;> subst h <;> refine ⟨_, rfl, ?_⟩ <;> simp only [Str.length_append] <;> first
      | omega
      | (have : (Str.ofString ".12").length = 3 := by decide
         have : (Str.ofString ".").length = 1 := by decide
         have : (Str.ofString ".01").length = 3 := by decide
         have : (Str.ofString ".-1").length = 3 := by decide
         have : (Str.ofString ":0").length = 2 := by decide
         have : (Str.ofString ".0").length = 2 := by decide
         have : (Str.ofString ".+1").length = 3 := by decide
         have : (Str.ofString ".1_0").length = 4 := by decide
         omega)
  obtain ⟨z, rfl, hz⟩ := hz
  refine ⟨a', b', z, hz, ?_⟩
  refine rOf (ρ0 := [.own (pot a b), .val (.str w), .no, .no, .no, .no]) (ρ := [.own (pot a' b'), .val (.str w), .val (.int (n : Int)), .val (.str SG), .val (sgn c), .own (.lst (l1 ++ l2))]) rfl rfl ?_ rfl
  unfold bd__law_spoilt
  rw [rSet (by decide) h1]
  show Ev.execs T_11 [0] _ [.own (pot a1 b1), .val (.str w), .val (.int (n : Int)), .no, .no, .no] = _
  rw [rSet (d := .str SG) (m := .frz) (ρ1 := [.own (pot a1 b1), .val (.str w), .val (.int (n : Int)), .no, .no, .no]) (by decide) evCst]
  show Ev.execs T_11 [0] _ [.own (pot a1 b1), .val (.str w), .val (.int (n : Int)), .val (.str SG), .no, .no] = _
  rw [rSet (by decide) h3]
  show Ev.execs T_11 [0] _ (E .no) = _
  rw [rSet (by decide) g1]
  show Ev.execs T_11 [0] _ (E (.own (.lst l1))) = _
  rw [rSet (by decide) g2]
  show Ev.execs T_11 [0] _ (E (.own (.lst (l1 ++ l2)))) = _
  exact rRet (evIdx g3 (Or.inr rfl) h4 hi2)
end K18
set_option Elab.async false
set_option linter.all false
set_option maxRecDepth 100000
set_option maxHeartbeats 4000000
namespace Ev
open PySem
theorem callT1 {T : Tab} {f : Str} {fi : FI} {e : IE} {ρ ρ1 : DEnv} {p d p' : Dat} {new : Bool} (hf : T.fn f = some fi) (hio : fi.io = [true]) (hs : ioSlot e = none) (he : ev T e ρ = .ok (p, .fresh, ρ1)) (hr : fi.run [p] = .ok (d, new, [p'])) :
    ev T (.call f (.cons e .nil)) ρ = .ok (d, if new then .fresh else .frz, ρ1) := by
  rw [ev, hf]
  simp only [hio, evArgs, hs, he, bindOk, callD, slotsOf, List.nodup_nil, List.length_cons, List.length_nil, and_self, if_true, readArgs, ofOs, Option.map, hr, putBack]
theorem bls_true {α : Type} : ∀ xs : List α, bls? (xs.map fun _ => Dat.bl true) = some (xs.map fun _ => true)
  | [] => rfl
  | x :: r => by
    show (bls? (r.map fun _ => Dat.bl true)).map _ = _
    rw [bls_true r]
    rfl
theorem all_true {α : Type} : ∀ xs : List α, (xs.map fun _ => true).all id = true
  | [] => rfl
  | x :: r => by rw [List.map_cons, List.all_cons, all_true r]; rfl
theorem all_bi {α : Type} (xs : List α) : biD .all [.lst (xs.map fun _ => Dat.bl true)] = some (.bl true, .frz) := by
  show (bls? (xs.map fun _ => Dat.bl true)).map _ = _
  rw [bls_true]
  show some (Dat.bl ((xs.map fun _ => true).all id), Mode.frz) = _
  rw [all_true]
end Ev
namespace K18
open PySem Ev
/-- the slots of _law_right -/
abbrev R (p s1 s2 s3 s4 s5 s6 s7 s8 s9 s10 : Slot) : DEnv := [p, s1, s2, s3, s4, s5, s6, s7, s8, s9, s10]
theorem tk13 : T_13.fn (Str.ofString "_law_take") = some takeFI := rfl
theorem many_ev (a b : Int) : ∃ (a' b' : Int) (n : Nat), n ≤ 198 ∧ ev T_13 (.idx (.lst (.cons (.call (Str.ofString "_law_take") (.cons (.var 0) (.cons (.cst (.int 13)) .nil))) (.cons (.cst (.int 198)) .nil))) (.bi .int (.cons (.cmp .Eq (.call (Str.ofString "_law_take") (.cons (.var 0) (.cons (.cst (.int 8)) .nil))) (.cst (.int 7))) .nil))) (R (.own (pot a b)) .no .no .no .no .no .no .no .no .no .no) = .ok (.int (n : Int), .frz, R (.own (pot a' b')) .no .no .no .no .no .no .no .no .no .no) := by
  obtain ⟨r, a1, b1, hr, h1⟩ := takeK (T := T_13) (i := 0) (ρ := R (.own (pot a b)) .no .no .no .no .no .no .no .no .no .no) 13 tk13 rfl (by decide)
  obtain ⟨q, a2, b2, hq, h2⟩ := takeK (T := T_13) (i := 0) (ρ := R (.own (pot a1 b1)) .no .no .no .no .no .no .no .no .no .no) 8 tk13 rfl (by decide)
  have hl := evLst (T := T_13) (evsCons (Or.inl rfl) h1 (evsCons (Or.inl rfl) (evCst (d := .int 198)) evsNil)) rfl
  have hb := evBi1 (T := T_13) (b := .int) (d := .int (if decide (q = 7) = true then 1 else 0)) (k := .frz) (evCmp (op := .Eq) (r := decide (q = 7)) h2 (evCst (d := .int 7)) rfl) rfl
  by_cases c : q = 7
  · refine ⟨a2, b2, 198, by decide, evIdx hl (Or.inr rfl) hb ?_⟩
    rw [decide_eq_true c]
    rfl
  · obtain ⟨n, rfl⟩ : ∃ n : Nat, r = (n : Int) := ⟨r.toNat, by omega⟩
    refine ⟨a2, b2, n, by omega, evIdx hl (Or.inr rfl) hb ?_⟩
    rw [decide_eq_false c]
    exact at0 _ _
theorem path_steps (n : Dat) : ∀ (ds : List Dat) (a b : Int) (sl : Slot), ∃ (a' b' : Int) (sl' : Slot) (ks : List Nat), ks.length = ds.length ∧ (∀ k ∈ ks, k < 12) ∧
    turns (oneOf (ev T_13 el__law_right_3) 9 [9]) ds (R (.own (pot a b)) (.val n) .no .no .no .no .no .no .no sl .no) = .ok (ks.map dn, R (.own (pot a' b')) (.val n) .no .no .no .no .no .no .no sl' .no)
  | [], a, b, sl => ⟨a, b, sl, [], rfl, (fun k h => nomatch h), rfl⟩
  | d :: ds, a, b, sl => by
    obtain ⟨r, a1, b1, hr, h1⟩ := takeK (T := T_13) (i := 0) (ρ := R (.own (pot a b)) (.val n) .no .no .no .no .no .no .no (.val d) .no) 12 tk13 rfl (by decide)
    obtain ⟨k, rfl⟩ : ∃ k : Nat, r = (k : Int) := ⟨r.toNat, by omega⟩
    obtain ⟨a', b', sl', ks, h2, h3, h4⟩ := path_steps n ds a1 b1 (.val d)
    refine ⟨a', b', sl', k :: ks, by rw [List.length_cons, List.length_cons, h2], ?_, ?_⟩
    · intro j hj
      cases hj with
      | head => omega
      | tail _ hj => exact h3 j hj
    · have ho : oneOf (ev T_13 el__law_right_3) 9 [9] d (R (.own (pot a b)) (.val n) .no .no .no .no .no .no .no sl .no) = .ok (some (dn k), R (.own (pot a1 b1)) (.val n) .no .no .no .no .no .no .no (.val d) .no) := by
        unfold oneOf el__law_right_3
        show (ev T_13 _ (R (.own (pot a b)) (.val n) .no .no .no .no .no .no .no (.val d) .no)).bind _ = _
        rw [h1, bindOk]
        rfl
      rw [turns, ho, bindOk]
      show (turns _ ds _).bind _ = _
      rw [h4, bindOk]
      rfl
theorem path_ev (a b : Int) (n : Nat) (hn : n ≤ 198) : ∃ (a' b' : Int) (x : Str) (ks : List Nat), ks.length = n ∧ (∀ k ∈ ks, k < 12) ∧ (1 ≤ x.length ∧ x.length ≤ 8) ∧ (∀ c ∈ x.cps.toList, c ∈ LET.cps.toList) ∧
    ev T_13 (.bi .tuple (.cons (.bin .Add (.lst (.cons (.call (Str.ofString "_law_label") (.cons (.var 0) (.cons (.lst .nil) .nil))) .nil)) rc__law_right_1) .nil)) (R (.own (pot a b)) (.val (.int (n : Int))) .no .no .no .no .no .no .no .no .no) = .ok (path x ks, .frz, R (.own (pot a' b')) (.val (.int (n : Int))) .no .no .no .no .no .no .no .no .no) := by
  obtain ⟨a1, b1, x, hx, hlet, h1⟩ := run_label a b
  obtain ⟨a', b', sl', ks, hk, hk2, ht⟩ := path_steps (.int (n : Int)) ((List.range n).map fun (k : Nat) => Dat.int (k : Int)) a1 b1 .no
  rw [List.length_map, List.length_range] at hk
  refine ⟨a', b', x, ks, hk, hk2, hx, hlet, ?_⟩
  have hl := evLst (T := T_13) (evsCons (Or.inl rfl) (callPT (i := 0) (f := Str.ofString "_law_label") (fi := fi__law_label) (ρ := R (.own (pot a b)) (.val (.int (n : Int))) .no .no .no .no .no .no .no .no .no) rfl rfl rfl (evLst evsNil rfl) h1) evsNil) rfl
  have hr : ev T_13 rc__law_right_1 (R (.own (pot a1 b1)) (.val (.int (n : Int))) .no .no .no .no .no .no .no .no .no) = .ok (.lst (ks.map dn), .fresh, R (.own (pot a' b')) (.val (.int (n : Int))) .no .no .no .no .no .no .no .no .no) := by
    unfold rc__law_right_1
    rw [ev_lcR (n := n) (m := .frz) (ρ1 := R (.own (pot a1 b1)) (.val (.int (n : Int))) .no .no .no .no .no .no .no .no .no) (evVar rfl) (by omega)]
    exact rComp (sm_lit (by rw [List.length_map, List.length_range]; omega)) rfl ht rfl
  exact evBi1 (evBinF hl hr (lst_add _ _ (by rw [List.length_map, hk]; show 1 + n ≤ 1000; omega))) rfl
def dot (d : Dat) : Dat := match d with
  | .int i => .str (PT ++ Str.ofString (toString i))
  | d => d
theorem dot_sum : ∀ ks : List Nat, (∀ k ∈ ks, k < 12) → ((ks.map fun k => PT ++ num k).map (·.length)).sum ≤ 3 * ks.length
  | [], _ => Nat.le_refl _
  | k :: ks, h => by
    have h1 := dot_sum ks fun j hj => h j (List.mem_cons_of_mem _ hj)
    have h2 := num_len (h k List.mem_cons_self)
    have c1 : PT.length = 1 := by decide
    rw [List.map_cons, List.map_cons, List.sum_cons, List.length_cons, Str.length_append]
    omega
theorem word_ev (p s1 : Slot) (x : Str) (ks : List Nat) (hx : x.length ≤ 8) (hk : ∀ k ∈ ks, k < 12) (hl : ks.length ≤ 198) :
    ev T_13 (.bin .Add (.idx (.var 2) (.cst (.int 0))) (.join (.cst (.str (Str.ofString ""))) (.lc el__law_right_2 10 (.slcL (.var 2) (.cst (.int 1))) [((Str.ofString "_law_place"), 10)]))) (R p s1 (.val (path x ks)) .no .no .no .no .no .no .no .no) = .ok (.str (wd x ks), .frz, R p s1 (.val (path x ks)) .no .no .no .no .no .no .no .no) := by
  obtain ⟨sl', ht⟩ := turns_map (f := oneOf (ev T_13 el__law_right_2) 10 [10]) dot (fun sl => R p s1 (.val (path x ks)) .no .no .no .no .no .no .no sl) (ks.map dn) .no (by
    intro d hd sl
    obtain ⟨k, hk', rfl⟩ := List.mem_map.mp hd
    unfold oneOf el__law_right_2
    show (ev T_13 _ (R p s1 (.val (path x ks)) .no .no .no .no .no .no .no (.val (dn k)))).bind _ = _
    have c1 : PT.length = 1 := by decide
    have := num_len (hk k hk')
    rw [evBin evCst (evBi1 (evVar rfl) (str_num (hk k hk'))) (str_add PT (num k) (by omega)), bindOk]
    rfl)
  have em : (ks.map dn).map dot = (ks.map fun k => PT ++ num k).map .str := by
    rw [List.map_map, List.map_map]
    rfl
  rw [em] at ht
  have hv : ev T_13 (.slcL (.var 2) (.cst (.int 1))) (R p s1 (.val (path x ks)) .no .no .no .no .no .no .no .no) = .ok (.tup (ks.map dn), .frz, R p s1 (.val (path x ks)) .no .no .no .no .no .no .no .no) :=
    evSlcL (evVar rfl) (Or.inl rfl) (by show some (Dat.tup (cut (Dat.str x :: ks.map dn) (some 1) none), Mode.frz) = _; rw [cut1])
  have hc : ev T_13 (.lc el__law_right_2 10 (.slcL (.var 2) (.cst (.int 1))) [((Str.ofString "_law_place"), 10)]) (R p s1 (.val (path x ks)) .no .no .no .no .no .no .no .no) = .ok (.lst ((ks.map fun k => PT ++ num k).map .str), .fresh, R p s1 (.val (path x ks)) .no .no .no .no .no .no .no .no) := by
    rw [evLc (xs := ks.map dn) hv rfl]
    exact rComp (sm_lit (by rw [List.length_map]; omega)) rfl ht rfl
  have hs := dot_sum ks hk
  have hj := evJoin (T := T_13) (s := Str.ofString "") (m := .frz) (ρ := R p s1 (.val (path x ks)) .no .no .no .no .no .no .no .no) (zs := ks.map fun k => PT ++ num k) evCst hc (strs_map _) (sm_lit (by
    have e : (Str.ofString "").length = 0 := by decide
    rw [e, Nat.mul_zero]
    omega))
  have ew : x ++ Txt.join (Str.ofString "") (ks.map fun k => PT ++ num k) = wd x ks := by
    refine str_ext ?_
    rw [wd_tl, Str.cps_append, Array.toList_append]
    congr 1
    rw [TL.join_eq]
    refine (TL.tl_join _ _).trans ?_
    show TL.joinL [] _ = _
    rw [joinL_nil, List.map_map]
    congr 1
    refine List.map_congr_left fun k _ => ?_
    show (PT ++ num k).cps.toList = _
    rw [Str.cps_append, Array.toList_append, num_tl]
    rfl
  have hlen := wd_len hx hk
  rw [← ew, Str.length_append] at hlen
  have hi : ev T_13 (.idx (.var 2) (.cst (.int 0))) (R p s1 (.val (path x ks)) .no .no .no .no .no .no .no .no) = .ok (.str x, .frz, R p s1 (.val (path x ks)) .no .no .no .no .no .no .no .no) := evIdx (evVar rfl) (Or.inl rfl) evCst (at0 _ _)
  rw [evBin hi hj (str_add _ _ (by omega)), ew]
end K18
set_option Elab.async false
set_option linter.all false
set_option maxRecDepth 100000
set_option maxHeartbeats 4000000
namespace K18
open PySem Ev
theorem tell4 {x : Str} {ks : List Nat} (hn : isName x = true) (hk : ∀ k ∈ ks, k < 12) (hl : ks.length ≤ 198) : (Dat.lst [.str (wd x ks), .str (wd x ks), path x ks, path x ks]).tell = true := by
  have hlow := low_name hn
  have h1 := wd_len hlow.2.2 hk
  have n1 : Nice (.str (wd x ks)) 2 602 := nice_mono (nice_str (wd_low hlow.1)) (by decide) (by omega)
  have n2 : Nice (path x ks) 2 207 := nice_mono (nice_who hn hk) (by decide) (by omega)
  refine tell_of (nice_mono (nice_lst (niceL_cons n1 (niceL_cons n1 (niceL_cons n2 (niceL_cons n2 (niceL_nil 2)))))) (by decide) (Nat.le_refl _)) (by decide) (Or.inl ?_)
  simp only [Dat.toPy, toPys, PyData.hasDict, PyData.hasDictAll, hasDict_dn, Bool.or_self]
theorem four_ev {x : Str} {ks : List Nat} (p s1 : Slot) (hlet : ∀ c ∈ x.cps.toList, c ∈ LET.cps.toList) (hx : 1 ≤ x.length ∧ x.length ≤ 8) (hk : ∀ k ∈ ks, k < 12) (hl : ks.length ≤ 198) :
    ev T_13 (.cmp .NotEq (.bi .repr (.cons (.lst (.cons (.call (Str.ofString "who_text") (.cons (.var 2) .nil)) (.cons (.callK (Str.ofString "who_text") [(Str.ofString "who")] (.cons (.var 2) .nil)) (.cons (.call (Str.ofString "who_of") (.cons (.var 3) .nil)) (.cons (.callK (Str.ofString "who_of") [(Str.ofString "text")] (.cons (.var 3) .nil)) .nil))))) .nil)) (.bi .repr (.cons (.lst (.cons (.var 3) (.cons (.var 3) (.cons (.var 2) (.cons (.var 2) .nil))))) .nil))) (R p s1 (.val (path x ks)) (.val (.str (wd x ks))) .no .no .no .no .no .no .no) = .ok (.bl false, .frz, R p s1 (.val (path x ks)) (.val (.str (wd x ks))) .no .no .no .no .no .no .no) := by
  have ht := tell4 (isName_of hlet hx) hk hl
  have r1 := run_text hx.2 hk hl
  have r2 := run_of_wd hlet hx hk hl
  refine evCmp (rep_ev (evLst (evsCons (Or.inl rfl) (call1 (fi := fi_who_text) rfl rfl (evVar rfl) r1) (evsCons (Or.inl rfl) (callK1 (fi := fi_who_text) rfl rfl rfl (evVar rfl) r1) (evsCons (Or.inl rfl) (call1 (fi := fi_who_of) rfl rfl (evVar rfl) r2) (evsCons (Or.inl rfl) (callK1 (fi := fi_who_of) rfl rfl rfl (evVar rfl) r2) evsNil)))) rfl) ht) (rep_ev (evLst (evsCons (Or.inl rfl) (evVar rfl) (evsCons (Or.inl rfl) (evVar rfl) (evsCons (Or.inl rfl) (evVar rfl) (evsCons (Or.inl rfl) (evVar rfl) evsNil)))) rfl) ht) ?_
  simp only [cmpD, eqFlat, decide_true, Bool.not_true]
theorem ends_ev {x y : Str} {ks : List Nat} {n : Nat} (p s1 : Slot) (hlet : ∀ c ∈ x.cps.toList, c ∈ LET.cps.toList) (hx : 1 ≤ x.length ∧ x.length ≤ 8) (hk : ∀ k ∈ ks, k < 12) (hl : ks.length ≤ 198) (hn : n < 12) (hy : y.length ≤ 8) (hlety : ∀ c ∈ y.cps.toList, c ∈ LET.cps.toList) :
    ev T_13 (.cmp .NotEq (.lst (.cons (.call (Str.ofString "end_text") (.cons (.tup (.cons (.var 2) (.cons (.var 6) .nil))) .nil)) (.cons (.callK (Str.ofString "end_text") [(Str.ofString "end")] (.cons (.tup (.cons (.tup .nil) (.cons (.var 7) .nil))) .nil)) .nil))) (.lst (.cons (.bin .Add (.bin .Add (.var 3) (.cst (.str (Str.ofString ":")))) (.bi .str (.cons (.var 6) .nil))) (.cons (.bin .Add (.cst (.str (Str.ofString ":"))) (.var 7)) .nil)))) (R p s1 (.val (path x ks)) (.val (.str (wd x ks))) .no .no (.val (dn n)) (.val (.str y)) .no .no .no) = .ok (.bl false, .frz, R p s1 (.val (path x ks)) (.val (.str (wd x ks))) .no .no (.val (dn n)) (.val (.str y)) .no .no .no) := by
  have r1 := run_end_num hx.2 hk hl hn
  have r2 := run_end_name hy
  have c1 : CO.length = 1 := by decide
  have h1 := wd_len hx.2 hk
  have h2 := num_len hn
  have lx : lowS x := fun c hc => LET_low c (hlet c hc)
  have ly : lowS y := fun c hc => LET_low c (hlety c hc)
  refine evCmpF (evLst (evsCons (Or.inl rfl) (call1 (fi := fi_end_text) rfl rfl (evTup (evsCons (Or.inl rfl) (evVar rfl) (evsCons (Or.inl rfl) (evVar rfl) evsNil)) rfl) r1) (evsCons (Or.inl rfl) (callK1 (fi := fi_end_text) rfl rfl rfl (evTup (evsCons (Or.inl rfl) (evTup evsNil rfl) (evsCons (Or.inl rfl) (evVar rfl) evsNil)) rfl) r2) evsNil)) rfl) (evLst (evsCons (Or.inl rfl) (evBin (evBin (evVar rfl) evCst (str_add (wd x ks) CO (by omega))) (evBi1 (evVar rfl) (str_num hn)) (str_add _ _ (by rw [Str.length_append]; omega))) (evsCons (Or.inl rfl) (evBin evCst (evVar rfl) (str_add CO y (by omega))) evsNil)) rfl) (ne_two (low_app (low_app (wd_low lx) low_co) (low_num n)) (low_app low_co ly))
theorem run_right (a b : Int) : ∃ a' b' : Int, fi__law_right.run [pot a b] = .ok (.bl true, false, [pot a' b']) := by
  obtain ⟨a1, b1, n, hn, h1⟩ := many_ev a b
  obtain ⟨a2, b2, x, ks, hkn, hk, hx, hlet, h2⟩ := path_ev a1 b1 n hn
  have hl : ks.length ≤ 198 := by omega
  have h3 := word_ev (.own (pot a2 b2)) (.val (.int (n : Int))) x ks hx.2 hk hl
  have h4 := four_ev (.own (pot a2 b2)) (.val (.int (n : Int))) hlet hx hk hl
  obtain ⟨r, a3, b3, hr, h5⟩ := takeK (T := T_13) (i := 0) (ρ := R (.own (pot a2 b2)) (.val (.int (n : Int))) (.val (path x ks)) (.val (.str (wd x ks))) .no .no .no .no .no .no .no) 7 tk13 rfl (by decide)
  obtain ⟨m, rfl⟩ : ∃ m : Nat, r = (m : Int) := ⟨r.toNat, by omega⟩
  obtain ⟨a4, b4, y, hy, hlety, h6⟩ := run_label a3 b3
  have h7 := ends_ev (n := m) (.own (pot a4 b4)) (.val (.int (n : Int))) hlet hx hk hl (by omega) hy.2 hlety
  have hw := wd_len hx.2 hk
  obtain ⟨a5, b5, z, hz, h8⟩ := run_spoilt a4 b4 (wd x ks) (by omega)
  obtain ⟨a6, b6, z2, hz2, h9⟩ := run_spoilt a5 b5 z (by omega)
  let odd : List Dat := [.non, .int 0, .bl false, .bl true, .str (Str.ofString ""), .tup [], .lst [], .dic [], path x ks, .lst (.str x :: ks.map dn), .lst [.str (wd x ks)], .str (Str.ofString "."), .str (Str.ofString ":"), .str (Str.ofString "A"), .str (Str.ofString ".0")]
  let al : List Dat := [.str z, .str z2, .str (wd x ks)] ++ odd
  have hall : ∀ d ∈ al, fi__law_is_right.run [d] = .ok (.bl true, false, []) := by
    intro d hd
    simp only [al, odd, List.cons_append, List.nil_append, List.mem_cons, List.not_mem_nil, or_false] at hd
    rcases hd with h | h | h | h | h | h | h | h | h | h | h | h | h | h | h | h | h | h <;> subst h
    · exact right_str z (by omega)
    · exact right_str z2 (by omega)
    · exact right_str (wd x ks) (by omega)
    · exact right_odd rfl
    · exact right_odd rfl
    · exact right_odd rfl
    · exact right_odd rfl
    · exact right_str _ (by decide)
    · exact right_odd rfl
    · exact right_odd rfl
    · exact right_odd rfl
    · exact right_odd rfl
    · exact right_odd rfl
    · exact right_odd rfl
    · exact right_str _ (by decide)
    · exact right_str _ (by decide)
    · exact right_str _ (by decide)
    · exact right_str _ (by decide)
  refine ⟨a6, b6, ?_⟩
  refine rOf (ρ0 := R (.own (pot a b)) .no .no .no .no .no .no .no .no .no .no) (ρ := R (.own (pot a6 b6)) (.val (.int (n : Int))) (.val (path x ks)) (.val (.str (wd x ks))) (.val (.str z)) (.own (.lst odd)) (.val (dn m)) (.val (.str y)) .no .no .no) rfl rfl ?_ rfl
  unfold bd__law_right
  rw [rSet (by decide) h1]
  show Ev.execs T_13 [0] _ (R (.own (pot a1 b1)) (.val (.int (n : Int))) .no .no .no .no .no .no .no .no .no) = _
  rw [rSet (by decide) h2]
  show Ev.execs T_13 [0] _ (R (.own (pot a2 b2)) (.val (.int (n : Int))) (.val (path x ks)) .no .no .no .no .no .no .no .no) = _
  rw [rSet (by decide) h3]
  show Ev.execs T_13 [0] _ (R (.own (pot a2 b2)) (.val (.int (n : Int))) (.val (path x ks)) (.val (.str (wd x ks))) .no .no .no .no .no .no .no) = _
  rw [rIteF h4]
  rw [rPar (ds := [dn m, .str y]) (ρ1 := R (.own (pot a4 b4)) (.val (.int (n : Int))) (.val (path x ks)) (.val (.str (wd x ks))) .no .no .no .no .no .no .no) rfl (evsCons (Or.inl rfl) h5 (evsCons (Or.inl rfl) (callPT (i := 0) (fi := fi__law_label) rfl rfl rfl (evLst evsNil rfl) h6) evsNil)) rfl]
  show Ev.execs T_13 [0] _ (R (.own (pot a4 b4)) (.val (.int (n : Int))) (.val (path x ks)) (.val (.str (wd x ks))) .no .no (.val (dn m)) (.val (.str y)) .no .no .no) = _
  rw [rIteF h7]
  rw [rSet (d := .str z) (m := .frz) (ρ1 := R (.own (pot a5 b5)) (.val (.int (n : Int))) (.val (path x ks)) (.val (.str (wd x ks))) .no .no (.val (dn m)) (.val (.str y)) .no .no .no) (by decide) (callP2 (i := 0) (fi := fi__law_spoilt) rfl rfl rfl (evVar rfl) rfl h8)]
  show Ev.execs T_13 [0] _ (R (.own (pot a5 b5)) (.val (.int (n : Int))) (.val (path x ks)) (.val (.str (wd x ks))) (.val (.str z)) .no (.val (dn m)) (.val (.str y)) .no .no .no) = _
  have ho : ev T_13 (.lst (.cons (.cst .non) (.cons (.cst (.int 0)) (.cons (.cst (.bl false)) (.cons (.cst (.bl true)) (.cons (.cst (.str (Str.ofString ""))) (.cons (.tup .nil) (.cons (.lst .nil) (.cons .dic0 (.cons (.var 2) (.cons (.bi .list (.cons (.var 2) .nil)) (.cons (.lst (.cons (.var 3) .nil)) (.cons (.cst (.str (Str.ofString "."))) (.cons (.cst (.str (Str.ofString ":"))) (.cons (.cst (.str (Str.ofString "A"))) (.cons (.cst (.str (Str.ofString ".0"))) .nil)))))))))))))))) (R (.own (pot a5 b5)) (.val (.int (n : Int))) (.val (path x ks)) (.val (.str (wd x ks))) (.val (.str z)) .no (.val (dn m)) (.val (.str y)) .no .no .no) = .ok (.lst odd, .fresh, R (.own (pot a5 b5)) (.val (.int (n : Int))) (.val (path x ks)) (.val (.str (wd x ks))) (.val (.str z)) .no (.val (dn m)) (.val (.str y)) .no .no .no) :=
    evLst (evsCons (Or.inl rfl) evCst (evsCons (Or.inl rfl) evCst (evsCons (Or.inl rfl) evCst (evsCons (Or.inl rfl) evCst (evsCons (Or.inl rfl) evCst (evsCons (Or.inl rfl) (evTup evsNil rfl) (evsCons (Or.inr rfl) (evLst evsNil rfl) (evsCons (Or.inl rfl) (by rw [ev]) (evsCons (Or.inl rfl) (evVar rfl) (evsCons (Or.inr rfl) (evBi1 (evVar rfl) rfl) (evsCons (Or.inr rfl) (evLst (evsCons (Or.inl rfl) (evVar rfl) evsNil) rfl) (evsCons (Or.inl rfl) evCst (evsCons (Or.inl rfl) evCst (evsCons (Or.inl rfl) evCst (evsCons (Or.inl rfl) evCst evsNil))))))))))))))) rfl
  rw [rSet (by decide) ho]
  show Ev.execs T_13 [0] _ (R (.own (pot a5 b5)) (.val (.int (n : Int))) (.val (path x ks)) (.val (.str (wd x ks))) (.val (.str z)) (.own (.lst odd)) (.val (dn m)) (.val (.str y)) .no .no .no) = _
  obtain ⟨sl', ht⟩ := turns_map (f := oneOf (ev T_13 el__law_right_1) 8 [8]) (fun _ => .bl true) (fun sl => R (.own (pot a6 b6)) (.val (.int (n : Int))) (.val (path x ks)) (.val (.str (wd x ks))) (.val (.str z)) (.own (.lst odd)) (.val (dn m)) (.val (.str y)) sl .no .no) al .no (by
    intro d hd sl
    unfold oneOf el__law_right_1
    show (ev T_13 _ (R (.own (pot a6 b6)) (.val (.int (n : Int))) (.val (path x ks)) (.val (.str (wd x ks))) (.val (.str z)) (.own (.lst odd)) (.val (dn m)) (.val (.str y)) (.val d) .no .no)).bind _ = _
    rw [call1 (fi := fi__law_is_right) rfl rfl (evVar (d := d) rfl) (hall d hd), bindOk]
    rfl)
  have hv : ev T_13 (.var 5) (R (.own (pot a6 b6)) (.val (.int (n : Int))) (.val (path x ks)) (.val (.str (wd x ks))) (.val (.str z)) (.own (.lst odd)) (.val (dn m)) (.val (.str y)) .no .no .no) = .ok (.lst odd, .brw 5, R (.own (pot a6 b6)) (.val (.int (n : Int))) (.val (path x ks)) (.val (.str (wd x ks))) (.val (.str z)) (.own (.lst odd)) (.val (dn m)) (.val (.str y)) .no .no .no) := by rw [ev]; rfl
  have hb : ev T_13 (.bin .Add (.lst (.cons (.var 4) (.cons (.call (Str.ofString "_law_spoilt") (.cons (.var 0) (.cons (.var 4) .nil))) (.cons (.var 3) .nil)))) (.var 5)) (R (.own (pot a5 b5)) (.val (.int (n : Int))) (.val (path x ks)) (.val (.str (wd x ks))) (.val (.str z)) (.own (.lst odd)) (.val (dn m)) (.val (.str y)) .no .no .no) = .ok (.lst al, .fresh, R (.own (pot a6 b6)) (.val (.int (n : Int))) (.val (path x ks)) (.val (.str (wd x ks))) (.val (.str z)) (.own (.lst odd)) (.val (dn m)) (.val (.str y)) .no .no .no) :=
    evBinF (evLst (evsCons (Or.inl rfl) (evVar rfl) (evsCons (Or.inl rfl) (callP2 (i := 0) (fi := fi__law_spoilt) rfl rfl rfl (evVar rfl) rfl h9) (evsCons (Or.inl rfl) (evVar rfl) evsNil))) rfl) hv (lst_add _ odd (by show 3 + 15 ≤ 1000; decide))
  refine rRet (evBi1 (x := .lst (al.map fun _ => .bl true)) (m := .fresh) ?_ (all_bi al))
  rw [evLc hb (xs := al) rfl]
  exact rComp (sm_lit (by show 18 ≤ 1000; decide)) rfl ht rfl
theorem law_turns (ns : List Int) : ∀ (ks : List Nat) (sl : Slot), ∃ sl', turns (oneOf (ev T_14 el_law_1) 1 [1]) (ks.map fun (k : Nat) => Dat.int (k : Int)) [.val (.scr ns), sl] = .ok (ks.map fun _ => .bl true, [.val (.scr ns), sl'])
  | [], sl => ⟨sl, rfl⟩
  | k :: ks, sl => by
    obtain ⟨a, b, h1⟩ := run_pot ns k
    obtain ⟨a', b', h2⟩ := run_right a b
    obtain ⟨sl', h3⟩ := law_turns ns ks (.val (.int (k : Int)))
    have ho : oneOf (ev T_14 el_law_1) 1 [1] (.int (k : Int)) [.val (.scr ns), sl] = .ok (some (.bl true), [.val (.scr ns), .val (.int (k : Int))]) := by
      unfold oneOf el_law_1
      show (ev T_14 _ [.val (.scr ns), .val (.int (k : Int))]).bind _ = _
      rw [callT1 (fi := fi__law_right) rfl rfl rfl (call2 (fi := fi__law_pot) rfl rfl (evVar rfl) (evVar rfl) h1) h2, bindOk]
      rfl
    refine ⟨sl', ?_⟩
    rw [List.map_cons, turns, ho, bindOk]
    show (turns _ _ _).bind _ = _
    rw [h3, bindOk]
    rfl
theorem law_true (ns : List Int) (hn : ns.length ≤ 63) : fi_law.run [.scr ns] = .ok (.bl true, false, []) := by
  obtain ⟨n, hn8, hlen⟩ : ∃ n : Nat, n ≤ 8 ∧ ev T_14 (.bi .max (.cons (.cst (.int 1)) (.cons (.bi .min (.cons (.cst (.int 8)) (.cons (.bi .len (.cons (.var 0) .nil)) .nil))) .nil))) [.val (.scr ns), .no] = .ok (.int (n : Int), .frz, [.val (.scr ns), .no]) := by
    refine ⟨(if (if (ns.length : Int) < 8 then (ns.length : Int) else 8) > 1 then (if (ns.length : Int) < 8 then (ns.length : Int) else 8) else 1).toNat, ?_, ?_⟩
    · split <;> split <;> omega
    · rw [Int.toNat_of_nonneg (by split <;> split <;> omega)]
      exact evBi2 evCst (evBi2 evCst (evBi1 (evVar rfl) rfl) rfl) rfl
  obtain ⟨sl', h⟩ := law_turns ns (List.range n) .no
  refine rOf (ρ0 := [.val (.scr ns), .no]) (ρ := [.val (.scr ns), .no]) rfl rfl ?_ rfl
  unfold bd_law rc_law_1
  refine rRet (evBi1 (x := .lst ((List.range n).map fun _ => .bl true)) (m := .fresh) (ρ1 := [.val (.scr ns), .no]) ?_ (all_bi _))
  rw [ev_lcR (n := n) hlen (by omega)]
  exact rComp (sm_lit (by rw [List.length_map, List.length_range]; omega)) rfl h rfl
end K18
set_option Elab.async false
set_option linter.all false
set_option maxRecDepth 100000
set_option maxHeartbeats 8000000
namespace K18
open PySem PySem.Spec PyProof.Rows L2 Ev
theorem kw_is_name : T_0.kw (Str.ofString "is_name") = none := by rfl
theorem kw_who_text : T_1.kw (Str.ofString "who_text") = some [(Str.ofString "who")] := by rfl
theorem kw_end_text : T_2.kw (Str.ofString "end_text") = some [(Str.ofString "end")] := by rfl
theorem kw_number_of : T_3.kw (Str.ofString "number_of") = none := by rfl
theorem kw_who_of : T_4.kw (Str.ofString "who_of") = some [(Str.ofString "text")] := by rfl
theorem kw__law_pot : T_5.kw (Str.ofString "_law_pot") = none := by rfl
theorem kw__law_take : T_6.kw (Str.ofString "_law_take") = none := by rfl
theorem kw__law_label : T_7.kw (Str.ofString "_law_label") = none := by rfl
theorem kw__law_is_label : T_8.kw (Str.ofString "_law_is_label") = none := by rfl
theorem kw__law_who_told : T_9.kw (Str.ofString "_law_who_told") = none := by rfl
theorem kw__law_tried : T_10.kw (Str.ofString "_law_tried") = none := by rfl
theorem kw__law_spoilt : T_11.kw (Str.ofString "_law_spoilt") = none := by rfl
theorem kw__law_is_right : T_12.kw (Str.ofString "_law_is_right") = none := by rfl
theorem kw__law_right : T_13.kw (Str.ofString "_law_right") = none := by rfl
theorem kw_law : T_14.kw (Str.ofString "law") = none := by rfl
theorem all_mk {P : Program} {w : World} {K : PySem.W.Frag} {h : Heap} {mg : Str → Option Value} {fa f0 f1 f2 f3 f4 f5 f6 f7 f8 f9 f10 f11 f12 f13 f14 C_FacerError C_NoText C_NoWeb : Addr} (X : K.In h) (G : h.Ns mainGlobals mg) (hfa : mg "law" = some (.ref fa))
    {t0 t1 t2 t3 t4 : Tok}
    {od0 an0 : Option Addr} {sl0 : Array (Option Value)} {oc0 kV0 dc0 pm0 cd0 ct0 : Value}
    {od1 an1 : Option Addr} {sl1 : Array (Option Value)} {oc1 kV1 dc1 pm1 cd1 ct1 : Value}
    {od2 an2 : Option Addr} {sl2 : Array (Option Value)} {oc2 kV2 dc2 pm2 cd2 ct2 : Value}
    {od3 an3 : Option Addr} {sl3 : Array (Option Value)} {oc3 kV3 dc3 pm3 cd3 ct3 : Value}
    {od4 an4 : Option Addr} {sl4 : Array (Option Value)} {oc4 kV4 dc4 pm4 cd4 ct4 : Value}
    {od5 an5 : Option Addr} {sl5 : Array (Option Value)} {oc5 kV5 dc5 pm5 cd5 ct5 : Value}
    {od6 an6 : Option Addr} {sl6 : Array (Option Value)} {oc6 kV6 dc6 pm6 cd6 ct6 : Value}
    {od7 an7 : Option Addr} {sl7 : Array (Option Value)} {oc7 kV7 dc7 pm7 cd7 ct7 : Value}
    {od8 an8 : Option Addr} {sl8 : Array (Option Value)} {oc8 kV8 dc8 pm8 cd8 ct8 : Value}
    {od9 an9 : Option Addr} {sl9 : Array (Option Value)} {oc9 kV9 dc9 pm9 cd9 ct9 : Value}
    {od10 an10 : Option Addr} {sl10 : Array (Option Value)} {oc10 kV10 dc10 pm10 cd10 ct10 : Value}
    {od11 an11 : Option Addr} {sl11 : Array (Option Value)} {oc11 kV11 dc11 pm11 cd11 ct11 : Value}
    {od12 an12 : Option Addr} {sl12 : Array (Option Value)} {oc12 kV12 dc12 pm12 cd12 ct12 : Value}
    {od13 an13 : Option Addr} {sl13 : Array (Option Value)} {oc13 kV13 dc13 pm13 cd13 ct13 : Value}
    {od14 an14 : Option Addr} {sl14 : Array (Option Value)} {oc14 kV14 dc14 pm14 cd14 ct14 : Value}
    (n_FacerError : PySem.W.nsIn K mainGlobals "FacerError" = some (some (.ref C_FacerError)))
    (hd_FacerError : PySem.W.hasDictIn K C_FacerError = true)
    (ht_FacerError : PySem.W.typeIn K (.ref C_FacerError) = some (.type "type"))
    (hb_FacerError : PySem.W.subIn K (.ref C_FacerError) (.type "BaseException") = some true)
    (n_NoText : PySem.W.nsIn K mainGlobals "NoText" = some (some (.ref C_NoText)))
    (hd_NoText : PySem.W.hasDictIn K C_NoText = true)
    (ht_NoText : PySem.W.typeIn K (.ref C_NoText) = some (.type "type"))
    (hb_NoText : PySem.W.subIn K (.ref C_NoText) (.type "BaseException") = some true)
    (n_NoWeb : PySem.W.nsIn K mainGlobals "NoWeb" = some (some (.ref C_NoWeb)))
    (hd_NoWeb : PySem.W.hasDictIn K C_NoWeb = true)
    (ht_NoWeb : PySem.W.typeIn K (.ref C_NoWeb) = some (.type "type"))
    (hb_NoWeb : PySem.W.subIn K (.ref C_NoWeb) (.type "BaseException") = some true)
    (ga_NoText : PySem.W.findIn K (.ref C_NoText) "__getattribute__" = some (some (.builtin "BaseException.__getattribute__")))
    (gt_NoText : PySem.W.findIn K (.ref C_NoText) "__getattr__" = some none)
    (gc_NoText : PySem.W.findIn K (.ref C_NoText) "__class__" = some (some (.builtin "object.__class__")))
    (hm_NoText : PySem.W.mroIn K C_NoText (.type "object") = some true)
    (kp_NoText : PySem.W.keepIn K (.ref C_NoText) = true)
    (se_NoText : PySem.W.subIn K (.ref C_NoText) (.ref C_NoText) = some true)
    (ex_NoText : PySem.W.excIn K C_NoText [.type "ValueError", .type "Exception", .type "BaseException", .type "object"] "ValueError.__new__" = true)
    (s_NoText_FacerError : PySem.W.subIn K (.ref C_NoText) (.ref C_FacerError) = some true)
    (s_NoText_NoText : PySem.W.subIn K (.ref C_NoText) (.ref C_NoText) = some true)
    (s_NoText_NoWeb : PySem.W.subIn K (.ref C_NoText) (.ref C_NoWeb) = some false)
    (s_NoText_ValueError : PySem.W.subIn K (.ref C_NoText) (.type "ValueError") = some true)
    (be_ValueError : PySem.W.subIn K (.type "ValueError") (.type "BaseException") = some true)
    (sp_c : PySem.W.specialIn K (.builtin "object.__class__") "__get__" = some (some (.builtin "getset_descriptor.__get__")))
    (tk_c : PySem.W.takesIn K (.builtin "object.__class__") = some true)
    (a0 : PySem.W.nsIn K mainGlobals "is_name" = some (some (.ref f0)))
    (l0 : K.lookup f0 = some ⟨oc0, od0, .func (PySem.W.fnOf "is_name" "is_name" (defArgs st_is_name) (defBody st_is_name) (defScope st_is_name) .none kV0 dc0 pm0 an0 cd0 ct0), sl0⟩)
    (c0 : PySem.W.codeIn K cd0 "is_name" = true)
    (k0 : PySem.W.keepIn K (.ref f0) = true)
    (a1 : PySem.W.nsIn K mainGlobals "who_text" = some (some (.ref f1)))
    (l1 : K.lookup f1 = some ⟨oc1, od1, .func (PySem.W.fnOf "who_text" "who_text" (defArgs st_who_text) (defBody st_who_text) (defScope st_who_text) .none kV1 dc1 pm1 an1 cd1 ct1), sl1⟩)
    (c1 : PySem.W.codeIn K cd1 "who_text" = true)
    (k1 : PySem.W.keepIn K (.ref f1) = true)
    (a2 : PySem.W.nsIn K mainGlobals "end_text" = some (some (.ref f2)))
    (l2 : K.lookup f2 = some ⟨oc2, od2, .func (PySem.W.fnOf "end_text" "end_text" (defArgs st_end_text) (defBody st_end_text) (defScope st_end_text) .none kV2 dc2 pm2 an2 cd2 ct2), sl2⟩)
    (c2 : PySem.W.codeIn K cd2 "end_text" = true)
    (k2 : PySem.W.keepIn K (.ref f2) = true)
    (a3 : PySem.W.nsIn K mainGlobals "number_of" = some (some (.ref f3)))
    (l3 : K.lookup f3 = some ⟨oc3, od3, .func (PySem.W.fnOf "number_of" "number_of" (defArgs st_number_of) (defBody st_number_of) (defScope st_number_of) .none kV3 dc3 pm3 an3 cd3 ct3), sl3⟩)
    (c3 : PySem.W.codeIn K cd3 "number_of" = true)
    (k3 : PySem.W.keepIn K (.ref f3) = true)
    (a4 : PySem.W.nsIn K mainGlobals "who_of" = some (some (.ref f4)))
    (l4 : K.lookup f4 = some ⟨oc4, od4, .func (PySem.W.fnOf "who_of" "who_of" (defArgs st_who_of) (defBody st_who_of) (defScope st_who_of) .none kV4 dc4 pm4 an4 cd4 ct4), sl4⟩)
    (c4 : PySem.W.codeIn K cd4 "who_of" = true)
    (k4 : PySem.W.keepIn K (.ref f4) = true)
    (a5 : PySem.W.nsIn K mainGlobals "_law_pot" = some (some (.ref f5)))
    (l5 : K.lookup f5 = some ⟨oc5, od5, .func (PySem.W.fnOf "_law_pot" "_law_pot" (defArgs st__law_pot) (defBody st__law_pot) (defScope st__law_pot) .none kV5 dc5 pm5 an5 cd5 ct5), sl5⟩)
    (c5 : PySem.W.codeIn K cd5 "_law_pot" = true)
    (k5 : PySem.W.keepIn K (.ref f5) = true)
    (a6 : PySem.W.nsIn K mainGlobals "_law_take" = some (some (.ref f6)))
    (l6 : K.lookup f6 = some ⟨oc6, od6, .func (PySem.W.fnOf "_law_take" "_law_take" (defArgs st__law_take) (defBody st__law_take) (defScope st__law_take) .none kV6 dc6 pm6 an6 cd6 ct6), sl6⟩)
    (c6 : PySem.W.codeIn K cd6 "_law_take" = true)
    (k6 : PySem.W.keepIn K (.ref f6) = true)
    (a7 : PySem.W.nsIn K mainGlobals "_law_label" = some (some (.ref f7)))
    (l7 : K.lookup f7 = some ⟨oc7, od7, .func (PySem.W.fnOf "_law_label" "_law_label" (defArgs st__law_label) (defBody st__law_label) (defScope st__law_label) .none kV7 dc7 pm7 an7 cd7 ct7), sl7⟩)
    (c7 : PySem.W.codeIn K cd7 "_law_label" = true)
    (k7 : PySem.W.keepIn K (.ref f7) = true)
    (a8 : PySem.W.nsIn K mainGlobals "_law_is_label" = some (some (.ref f8)))
    (l8 : K.lookup f8 = some ⟨oc8, od8, .func (PySem.W.fnOf "_law_is_label" "_law_is_label" (defArgs st__law_is_label) (defBody st__law_is_label) (defScope st__law_is_label) .none kV8 dc8 pm8 an8 cd8 ct8), sl8⟩)
    (c8 : PySem.W.codeIn K cd8 "_law_is_label" = true)
    (k8 : PySem.W.keepIn K (.ref f8) = true)
    (a9 : PySem.W.nsIn K mainGlobals "_law_who_told" = some (some (.ref f9)))
    (l9 : K.lookup f9 = some ⟨oc9, od9, .func (PySem.W.fnOf "_law_who_told" "_law_who_told" (defArgs st__law_who_told) (defBody st__law_who_told) (defScope st__law_who_told) .none kV9 dc9 pm9 an9 cd9 ct9), sl9⟩)
    (c9 : PySem.W.codeIn K cd9 "_law_who_told" = true)
    (k9 : PySem.W.keepIn K (.ref f9) = true)
    (a10 : PySem.W.nsIn K mainGlobals "_law_tried" = some (some (.ref f10)))
    (l10 : K.lookup f10 = some ⟨oc10, od10, .func (PySem.W.fnOf "_law_tried" "_law_tried" (defArgs st__law_tried) (defBody st__law_tried) (defScope st__law_tried) .none kV10 dc10 pm10 an10 cd10 ct10), sl10⟩)
    (c10 : PySem.W.codeIn K cd10 "_law_tried" = true)
    (k10 : PySem.W.keepIn K (.ref f10) = true)
    (a11 : PySem.W.nsIn K mainGlobals "_law_spoilt" = some (some (.ref f11)))
    (l11 : K.lookup f11 = some ⟨oc11, od11, .func (PySem.W.fnOf "_law_spoilt" "_law_spoilt" (defArgs st__law_spoilt) (defBody st__law_spoilt) (defScope st__law_spoilt) .none kV11 dc11 pm11 an11 cd11 ct11), sl11⟩)
    (c11 : PySem.W.codeIn K cd11 "_law_spoilt" = true)
    (k11 : PySem.W.keepIn K (.ref f11) = true)
    (a12 : PySem.W.nsIn K mainGlobals "_law_is_right" = some (some (.ref f12)))
    (l12 : K.lookup f12 = some ⟨oc12, od12, .func (PySem.W.fnOf "_law_is_right" "_law_is_right" (defArgs st__law_is_right) (defBody st__law_is_right) (defScope st__law_is_right) .none kV12 dc12 pm12 an12 cd12 ct12), sl12⟩)
    (c12 : PySem.W.codeIn K cd12 "_law_is_right" = true)
    (k12 : PySem.W.keepIn K (.ref f12) = true)
    (a13 : PySem.W.nsIn K mainGlobals "_law_right" = some (some (.ref f13)))
    (l13 : K.lookup f13 = some ⟨oc13, od13, .func (PySem.W.fnOf "_law_right" "_law_right" (defArgs st__law_right) (defBody st__law_right) (defScope st__law_right) .none kV13 dc13 pm13 an13 cd13 ct13), sl13⟩)
    (c13 : PySem.W.codeIn K cd13 "_law_right" = true)
    (k13 : PySem.W.keepIn K (.ref f13) = true)
    (a14 : PySem.W.nsIn K mainGlobals "law" = some (some (.ref f14)))
    (l14 : K.lookup f14 = some ⟨oc14, od14, .func (PySem.W.fnOf "law" "law" (defArgs st_law) (defBody st_law) (defScope st_law) .none kV14 dc14 pm14 an14 cd14 ct14), sl14⟩)
    (c14 : PySem.W.codeIn K cd14 "law" = true)
    (k14 : PySem.W.keepIn K (.ref f14) = true)
    (z_ValueError : PySem.W.nsIn K mainGlobals "ValueError" = some none)
    (z_all : PySem.W.nsIn K mainGlobals "all" = some none)
    (z_bool : PySem.W.nsIn K mainGlobals "bool" = some none)
    (z_dict : PySem.W.nsIn K mainGlobals "dict" = some none)
    (z_divmod : PySem.W.nsIn K mainGlobals "divmod" = some none)
    (z_int : PySem.W.nsIn K mainGlobals "int" = some none)
    (z_isinstance : PySem.W.nsIn K mainGlobals "isinstance" = some none)
    (z_len : PySem.W.nsIn K mainGlobals "len" = some none)
    (z_list : PySem.W.nsIn K mainGlobals "list" = some none)
    (z_max : PySem.W.nsIn K mainGlobals "max" = some none)
    (z_min : PySem.W.nsIn K mainGlobals "min" = some none)
    (z_range : PySem.W.nsIn K mainGlobals "range" = some none)
    (z_repr : PySem.W.nsIn K mainGlobals "repr" = some none)
    (z_str : PySem.W.nsIn K mainGlobals "str" = some none)
    (z_tuple : PySem.W.nsIn K mainGlobals "tuple" = some none)
    (y0 : PySem.W.nsIn K mainGlobals "MOST_LETTERS" = some (some (.int 8 t0)))
    (y1 : PySem.W.nsIn K mainGlobals "MOST_PLACE" = some (some (.int 11 t1)))
    (y2 : PySem.W.nsIn K mainGlobals "LETTERS" = some (some (.str (Str.ofString "abcdefghijklmnopqrstuvwxyz") t2)))
    (y3 : PySem.W.nsIn K mainGlobals "POINT" = some (some (.str (Str.ofString ".") t3)))
    (y4 : PySem.W.nsIn K mainGlobals "MARK" = some (some (.str (Str.ofString ":") t4)))
    : ∃ fd : FuncData, (∀ (s : Shared) (v : Value), BindsTo s fd ⟨[v], []⟩ [("_law_script", v)]) ∧ ∀ base : Heap, K.In base → base.Ns mainGlobals mg → FnG P w K mg base 15 fa fd ["_law_script"] (spD ⟨K, mg, none⟩ fi_law) := by
  cases hfa.symm.trans (PySem.W.mg_of X G a14)
  have F0 := fun_mk (st := st_is_name) l0 c0 k0
  have b0 := F0.binds (ps := ["thing"]) fun _ _ _ _ _ _ us hl => match us, hl with | [_], _ => rfl
  have F1 := fun_mk (st := st_who_text) l1 c1 k1
  have w1 : KwB K (PySem.W.fnOf "who_text" "who_text" (defArgs st_who_text) (defBody st_who_text) (defScope st_who_text) .none kV1 dc1 pm1 an1 cd1 ct1) ["who"] := kwb_all fun us hl => match us, hl with | [_], _ => rfl
  have b1 := F1.binds (ps := ["who"]) fun _ _ _ _ _ _ us hl => match us, hl with | [_], _ => rfl
  have F2 := fun_mk (st := st_end_text) l2 c2 k2
  have w2 : KwB K (PySem.W.fnOf "end_text" "end_text" (defArgs st_end_text) (defBody st_end_text) (defScope st_end_text) .none kV2 dc2 pm2 an2 cd2 ct2) ["end"] := kwb_all fun us hl => match us, hl with | [_], _ => rfl
  have b2 := F2.binds (ps := ["end"]) fun _ _ _ _ _ _ us hl => match us, hl with | [_], _ => rfl
  have F3 := fun_mk (st := st_number_of) l3 c3 k3
  have b3 := F3.binds (ps := ["word", "most"]) fun _ _ _ _ _ _ us hl => match us, hl with | [_, _], _ => rfl
  have F4 := fun_mk (st := st_who_of) l4 c4 k4
  have w4 : KwB K (PySem.W.fnOf "who_of" "who_of" (defArgs st_who_of) (defBody st_who_of) (defScope st_who_of) .none kV4 dc4 pm4 an4 cd4 ct4) ["text"] := kwb_all fun us hl => match us, hl with | [_], _ => rfl
  have b4 := F4.binds (ps := ["text"]) fun _ _ _ _ _ _ us hl => match us, hl with | [_], _ => rfl
  have F5 := fun_mk (st := st__law_pot) l5 c5 k5
  have b5 := F5.binds (ps := ["_law_script", "_law_k"]) fun _ _ _ _ _ _ us hl => match us, hl with | [_, _], _ => rfl
  have F6 := fun_mk (st := st__law_take) l6 c6 k6
  have b6 := F6.binds (ps := ["_law_pot_here", "_law_much"]) fun _ _ _ _ _ _ us hl => match us, hl with | [_, _], _ => rfl
  have F7 := fun_mk (st := st__law_label) l7 c7 k7
  have b7 := F7.binds (ps := ["_law_pot_here", "_law_used"]) fun _ _ _ _ _ _ us hl => match us, hl with | [_, _], _ => rfl
  have F8 := fun_mk (st := st__law_is_label) l8 c8 k8
  have b8 := F8.binds (ps := ["_law_thing"]) fun _ _ _ _ _ _ us hl => match us, hl with | [_], _ => rfl
  have F9 := fun_mk (st := st__law_who_told) l9 c9 k9
  have b9 := F9.binds (ps := ["_law_word"]) fun _ _ _ _ _ _ us hl => match us, hl with | [_], _ => rfl
  have F10 := fun_mk (st := st__law_tried) l10 c10 k10
  have b10 := F10.binds (ps := ["_law_word"]) fun _ _ _ _ _ _ us hl => match us, hl with | [_], _ => rfl
  have F11 := fun_mk (st := st__law_spoilt) l11 c11 k11
  have b11 := F11.binds (ps := ["_law_pot_here", "_law_word"]) fun _ _ _ _ _ _ us hl => match us, hl with | [_, _], _ => rfl
  have F12 := fun_mk (st := st__law_is_right) l12 c12 k12
  have b12 := F12.binds (ps := ["_law_word"]) fun _ _ _ _ _ _ us hl => match us, hl with | [_], _ => rfl
  have F13 := fun_mk (st := st__law_right) l13 c13 k13
  have b13 := F13.binds (ps := ["_law_pot_here"]) fun _ _ _ _ _ _ us hl => match us, hl with | [_], _ => rfl
  have F14 := fun_mk (st := st_law) l14 c14 k14
  have b14 := F14.binds (ps := ["_law_script"]) fun _ _ _ _ _ _ us hl => match us, hl with | [_], _ => rfl
  refine ⟨PySem.W.fnOf "law" "law" (defArgs st_law) (defBody st_law) (defScope st_law) .none kV14 dc14 pm14 an14 cd14 ct14, fun s v => .of_eq rfl, fun base KB GB => ?_⟩
  have M0 : ModF T_0 0 P w K mg base := by
    refine ⟨fun b => ?_, PySem.W.mg_none_of X G z_isinstance, PySem.W.mg_none_of X G z_range, fun ty hty => ?_, fun x d e => ?_, (fun f fi e => nomatch e), fun c fs e => ?_, fun c e => ?_, fun c d b e => ?_⟩
    · cases b
      · exact PySem.W.mg_none_of X G z_len
      · exact PySem.W.mg_none_of X G z_max
      · exact PySem.W.mg_none_of X G z_min
      · exact PySem.W.mg_none_of X G z_all
      · exact PySem.W.mg_none_of X G z_tuple
      · exact PySem.W.mg_none_of X G z_list
      · exact PySem.W.mg_none_of X G z_repr
      · exact PySem.W.mg_none_of X G z_str
      · exact PySem.W.mg_none_of X G z_int
    · simp only [List.mem_cons, List.not_mem_nil, or_false] at hty
      rcases hty with rfl | rfl | rfl | rfl | rfl | rfl
      · exact PySem.W.mg_none_of X G z_int
      · exact PySem.W.mg_none_of X G z_bool
      · exact PySem.W.mg_none_of X G z_str
      · exact PySem.W.mg_none_of X G z_tuple
      · exact PySem.W.mg_none_of X G z_list
      · exact PySem.W.mg_none_of X G z_dict
    · simp only [T_0] at e
      split at e
      · rename_i z; subst z; cases e; exact ⟨_, .int 8, PySem.W.mg_of X G y0, ⟨_, rfl⟩, fun _ H => .int _⟩
      · skip
        split at e
        · rename_i z; subst z; cases e; exact ⟨_, .int 11, PySem.W.mg_of X G y1, ⟨_, rfl⟩, fun _ H => .int _⟩
        · skip
          split at e
          · rename_i z; subst z; cases e; exact ⟨_, .str _, PySem.W.mg_of X G y2, ⟨_, rfl⟩, fun _ H => .str _⟩
          · skip
            split at e
            · rename_i z; subst z; cases e; exact ⟨_, .str _, PySem.W.mg_of X G y3, ⟨_, rfl⟩, fun _ H => .str _⟩
            · skip
              split at e
              · rename_i z; subst z; cases e; exact ⟨_, .str _, PySem.W.mg_of X G y4, ⟨_, rfl⟩, fun _ H => .str _⟩
              · cases e
    · simp only [T_0] at e
      split at e
      · rename_i z; subst z; cases e; exact ⟨C_NoText, PySem.W.mg_of X G n_NoText, ⟨cls_of hd_NoText, ga_NoText, gt_NoText, hb_NoText, gc_NoText, sp_c, tk_c, hm_NoText, hd_NoText⟩, fun f hf => nomatch hf⟩
      cases e
    · simp only [T_0] at e
      split at e
      · rename_i z; subst z; exact ⟨C_NoText, PySem.W.mg_of X G n_NoText, ⟨⟨_, _, _, _, PySem.F.excBase_ValueError, ex_NoText⟩, kp_NoText, hb_NoText, ht_NoText⟩⟩
      cases e
    · simp only [T_0] at e
      split at e
      · rename_i z; obtain ⟨rfl, rfl⟩ := z; cases e; exact sub_own (PySem.W.mg_of X G n_NoText) ⟨cls_of hd_NoText, ga_NoText, gt_NoText, hb_NoText, gc_NoText, sp_c, tk_c, hm_NoText, hd_NoText⟩ se_NoText (PySem.W.mg_of X G n_FacerError) hd_FacerError ht_FacerError hb_FacerError s_NoText_FacerError
      split at e
      · rename_i z; obtain ⟨rfl, rfl⟩ := z; cases e; exact sub_own (PySem.W.mg_of X G n_NoText) ⟨cls_of hd_NoText, ga_NoText, gt_NoText, hb_NoText, gc_NoText, sp_c, tk_c, hm_NoText, hd_NoText⟩ se_NoText (PySem.W.mg_of X G n_NoText) hd_NoText ht_NoText hb_NoText s_NoText_NoText
      split at e
      · rename_i z; obtain ⟨rfl, rfl⟩ := z; cases e; exact sub_own (PySem.W.mg_of X G n_NoText) ⟨cls_of hd_NoText, ga_NoText, gt_NoText, hb_NoText, gc_NoText, sp_c, tk_c, hm_NoText, hd_NoText⟩ se_NoText (PySem.W.mg_of X G n_NoWeb) hd_NoWeb ht_NoWeb hb_NoWeb s_NoText_NoWeb
      split at e
      · rename_i z; obtain ⟨rfl, rfl⟩ := z; cases e; exact sub_bltn (PySem.W.mg_of X G n_NoText) ⟨cls_of hd_NoText, ga_NoText, gt_NoText, hb_NoText, gc_NoText, sp_c, tk_c, hm_NoText, hd_NoText⟩ (PySem.W.mg_none_of X G z_ValueError) (by decide +kernel) (by decide) (by decide +kernel) be_ValueError s_NoText_ValueError
      cases e
  have M1 : ModF T_1 1 P w K mg base := M0.add (PySem.W.mg_of X G a0) k0 b0 (dfn M0 F0 sc_is_name rfl ck_is_name) (by intro qs e; exact absurd e (by rw [kw_is_name]; exact fun z => nomatch z))
  have M2 : ModF T_2 2 P w K mg base := M1.add (PySem.W.mg_of X G a1) k1 b1 (dfn M1 F1 sc_who_text rfl ck_who_text) (by intro qs e; simp only [kw_who_text] at e; cases e; exact ⟨rfl, w1⟩)
  have M3 : ModF T_3 3 P w K mg base := M2.add (PySem.W.mg_of X G a2) k2 b2 (dfn M2 F2 sc_end_text rfl ck_end_text) (by intro qs e; simp only [kw_end_text] at e; cases e; exact ⟨rfl, w2⟩)
  have M4 : ModF T_4 4 P w K mg base := M3.add (PySem.W.mg_of X G a3) k3 b3 (dfn M3 F3 sc_number_of rfl ck_number_of) (by intro qs e; exact absurd e (by rw [kw_number_of]; exact fun z => nomatch z))
  have M5 : ModF T_5 5 P w K mg base := M4.add (PySem.W.mg_of X G a4) k4 b4 (dfn M4 F4 sc_who_of rfl ck_who_of) (by intro qs e; simp only [kw_who_of] at e; cases e; exact ⟨rfl, w4⟩)
  have M6 : ModF T_6 6 P w K mg base := M5.add (PySem.W.mg_of X G a5) k5 b5 (dfn M5 F5 sc__law_pot rfl ck__law_pot) (by intro qs e; exact absurd e (by rw [kw__law_pot]; exact fun z => nomatch z))
  have M7 : ModF T_7 7 P w K mg base := M6.add (PySem.W.mg_of X G a6) k6 b6 (ok_take F6 (PySem.W.mg_none_of X G z_divmod)) (by intro qs e; exact absurd e (by rw [kw__law_take]; exact fun z => nomatch z))
  have M8 : ModF T_8 8 P w K mg base := M7.add (PySem.W.mg_of X G a7) k7 b7 (dfn M7 F7 sc__law_label rfl ck__law_label) (by intro qs e; exact absurd e (by rw [kw__law_label]; exact fun z => nomatch z))
  have M9 : ModF T_9 9 P w K mg base := M8.add (PySem.W.mg_of X G a8) k8 b8 (dfn M8 F8 sc__law_is_label rfl ck__law_is_label) (by intro qs e; exact absurd e (by rw [kw__law_is_label]; exact fun z => nomatch z))
  have M10 : ModF T_10 10 P w K mg base := M9.add (PySem.W.mg_of X G a9) k9 b9 (dfn M9 F9 sc__law_who_told rfl ck__law_who_told) (by intro qs e; exact absurd e (by rw [kw__law_who_told]; exact fun z => nomatch z))
  have M11 : ModF T_11 11 P w K mg base := M10.add (PySem.W.mg_of X G a10) k10 b10 (dfn M10 F10 sc__law_tried rfl ck__law_tried) (by intro qs e; exact absurd e (by rw [kw__law_tried]; exact fun z => nomatch z))
  have M12 : ModF T_12 12 P w K mg base := M11.add (PySem.W.mg_of X G a11) k11 b11 (dfn M11 F11 sc__law_spoilt rfl ck__law_spoilt) (by intro qs e; exact absurd e (by rw [kw__law_spoilt]; exact fun z => nomatch z))
  have M13 : ModF T_13 13 P w K mg base := M12.add (PySem.W.mg_of X G a12) k12 b12 (dfn M12 F12 sc__law_is_right rfl ck__law_is_right) (by intro qs e; exact absurd e (by rw [kw__law_is_right]; exact fun z => nomatch z))
  have M14 : ModF T_14 14 P w K mg base := M13.add (PySem.W.mg_of X G a13) k13 b13 (dfn M13 F13 sc__law_right rfl ck__law_right) (by intro qs e; exact absurd e (by rw [kw__law_right]; exact fun z => nomatch z))
  exact dfn M14 F14 sc_law rfl ck_law
end K18
open PySem PySem.W PyProof.Rows
set_option maxHeartbeats 0 in
theorem PySem.Challenge.cw_onefacers_k18_whos_and_ends_as_texts_holds : PySem.Challenge.rw_onefacers_k18_whos_and_ends_as_texts.Holds := by
  w_on; o_law; k_head; (case hw => w_witness2)
  k_fill
  refine Ev.walk_G (l := PySem.Challenge.rw_onefacers_k18_whos_and_ends_as_texts) (n := 63) (k := 15) (x := "_law_script") (fi := K18.fi_law) rfl (by decide) rfl ⟨rfl, by decide, by decide⟩ (fun w h Y => PySem.W.kIn_of Y) ?F rfl K18.law_true
  case F =>
    intro w mg fa h KX G hmg
    refine' K18.all_mk KX G hmg ?n_FacerError ?hd_FacerError ?ht_FacerError ?hb_FacerError ?n_NoText ?hd_NoText ?ht_NoText ?hb_NoText ?n_NoWeb ?hd_NoWeb ?ht_NoWeb ?hb_NoWeb ?ga_NoText ?gt_NoText ?gc_NoText ?hm_NoText ?kp_NoText ?se_NoText ?ex_NoText ?s_NoText_FacerError ?s_NoText_NoText ?s_NoText_NoWeb ?s_NoText_ValueError ?be_ValueError ?sp_c ?tk_c ?a0 ?l0 ?c0 ?k0 ?a1 ?l1 ?c1 ?k1 ?a2 ?l2 ?c2 ?k2 ?a3 ?l3 ?c3 ?k3 ?a4 ?l4 ?c4 ?k4 ?a5 ?l5 ?c5 ?k5 ?a6 ?l6 ?c6 ?k6 ?a7 ?l7 ?c7 ?k7 ?a8 ?l8 ?c8 ?k8 ?a9 ?l9 ?c9 ?k9 ?a10 ?l10 ?c10 ?k10 ?a11 ?l11 ?c11 ?k11 ?a12 ?l12 ?c12 ?k12 ?a13 ?l13 ?c13 ?k13 ?a14 ?l14 ?c14 ?k14 ?z_ValueError ?z_all ?z_bool ?z_dict ?z_divmod ?z_int ?z_isinstance ?z_len ?z_list ?z_max ?z_min ?z_range ?z_repr ?z_str ?z_tuple ?y0 ?y1 ?y2 ?y3 ?y4
    (case n_FacerError => k_is); (case hd_FacerError => k_is); (case ht_FacerError => k_is); (case hb_FacerError => k_is); (case n_NoText => k_is); (case hd_NoText => k_is); (case ht_NoText => k_is); (case hb_NoText => k_is); (case n_NoWeb => k_is); (case hd_NoWeb => k_is); (case ht_NoWeb => k_is); (case hb_NoWeb => k_is); (case ga_NoText => k_is); (case gt_NoText => k_is); (case gc_NoText => k_is); (case hm_NoText => k_is); (case kp_NoText => k_is); (case se_NoText => k_is); (case ex_NoText => k_exc); (case s_NoText_FacerError => k_is); (case s_NoText_NoText => k_is); (case s_NoText_NoWeb => k_is); (case s_NoText_ValueError => k_is); (case be_ValueError => k_is); (case sp_c => k_is); (case tk_c => k_is); (case a0 => k_is); (case l0 => k_is); (case c0 => k_is); (case k0 => k_is); (case a1 => k_is); (case l1 => k_is); (case c1 => k_is); (case k1 => k_is); (case a2 => k_is); (case l2 => k_is); (case c2 => k_is); (case k2 => k_is); (case a3 => k_is); (case l3 => k_is); (case c3 => k_is); (case k3 => k_is); (case a4 => k_is); (case l4 => k_is); (case c4 => k_is); (case k4 => k_is); (case a5 => k_is); (case l5 => k_is); (case c5 => k_is); (case k5 => k_is); (case a6 => k_is); (case l6 => k_is); (case c6 => k_is); (case k6 => k_is); (case a7 => k_is); (case l7 => k_is); (case c7 => k_is); (case k7 => k_is); (case a8 => k_is); (case l8 => k_is); (case c8 => k_is); (case k8 => k_is); (case a9 => k_is); (case l9 => k_is); (case c9 => k_is); (case k9 => k_is); (case a10 => k_is); (case l10 => k_is); (case c10 => k_is); (case k10 => k_is); (case a11 => k_is); (case l11 => k_is); (case c11 => k_is); (case k11 => k_is); (case a12 => k_is); (case l12 => k_is); (case c12 => k_is); (case k12 => k_is); (case a13 => k_is); (case l13 => k_is); (case c13 => k_is); (case k13 => k_is); (case a14 => k_is); (case l14 => k_is); (case c14 => k_is); (case k14 => k_is); (case z_ValueError => k_is); (case z_all => k_is); (case z_bool => k_is); (case z_dict => k_is); (case z_divmod => k_is); (case z_int => k_is); (case z_isinstance => k_is); (case z_len => k_is); (case z_list => k_is); (case z_max => k_is); (case z_min => k_is); (case z_range => k_is); (case z_repr => k_is); (case z_str => k_is); (case z_tuple => k_is); (case y0 => k_is); (case y1 => k_is); (case y2 => k_is); (case y3 => k_is); (case y4 => k_is)
