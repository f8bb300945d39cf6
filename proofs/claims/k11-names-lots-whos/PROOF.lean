import PyProof.Rows.All
import Wide.All
import OpenK.AllK
import Wide.FinOn
import HandS.ForMost
import HandS.TupAny
import HandS.IsInst
import PyProof.ReprRoads
import HandS.Style
import HandS.WideBits
import PySem.Challenge.RW_onefacers_k11_names_lots_whos
set_option Elab.async false
set_option linter.all false
/-! An evaluator of plain data for the part of Python that the program uses: values are trees; a list that is changed is owned by one name. -/
namespace Ev
open PySem

inductive Dat where
  | non | bl (b : Bool) | int (i : Int) | str (s : Str)
  | lst (xs : List Dat) | tup (xs : List Dat) | dic (kvs : List (Dat × Dat))
  | scr (ns : List Int)

inductive Res (α : Type) where
  | ok (a : α) | exc (c : Str) (fs : List Dat) | stuck

def Res.bind {α β : Type} (r : Res α) (f : α → Res β) : Res β :=
  match r with
  | .ok a => f a
  | .exc c fs => .exc c fs
  | .stuck => .stuck

def ofO {α : Type} : Option α → Res α
  | some a => .ok a
  | none => .stuck

theorem bindOk {α β : Type} {a : α} {f : α → Res β} : (Res.ok a).bind f = f a := rfl
theorem ofOs {α : Type} {a : α} : ofO (some a) = .ok a := rfl
theorem Res.bind_ok {α β : Type} {r : Res α} {f : α → Res β} {b : β} (h : r.bind f = .ok b) : ∃ a, r = .ok a ∧ f a = .ok b := by
  cases r with
  | ok a => exact ⟨a, rfl, h⟩
  | exc c fs => cases h
  | stuck => cases h
theorem ofO_ok {α : Type} {o : Option α} {a : α} (h : ofO o = .ok a) : o = some a := by
  cases o with
  | none => cases h
  | some b => cases h; rfl

inductive Slot where
  | no | val (d : Dat) | own (d : Dat)
abbrev DEnv := List Slot

inductive Mode where
  | frz | fresh | brw (i : Nat)

inductive BI where
  | len | max | min | all | tuple | list | repr
  deriving DecidableEq

mutual
inductive IE where
  | var (i : Nat)
  | cst (d : Dat)
  | glb (x : Str)
  | tup (es : IEs)
  | lst (es : IEs)
  | dic0
  | dic1 (k v : IE)
  | bin (op : Operator) (a b : IE)
  | neg (a : IE)
  | not (a : IE)
  | and (a b : IE)
  | or (a b : IE)
  | cmp (op : CmpOp) (a b : IE)
  | cmp2 (o p : CmpOp) (a b c : IE)
  | ite (c a b : IE)
  | idx (a b : IE)
  | slcL (a lo : IE)
  | slcR (a hi : IE)
  | call (f : Str) (as : IEs)
  | bi (b : BI) (as : IEs)
  | isi (a : IE) (ty : String)
  | join (o a : IE)
  | upper (o : IE)
  | lc (elt : IE) (tg : Nat) (it : IE) (own : List (Str × Nat))
  | lcI (elt : IE) (tg : Nat) (it : IE) (cond : IE) (own : List (Str × Nat))
  | lcR (elt : IE) (tg : Nat) (a : IE) (own : List (Str × Nat))
inductive IEs where
  | nil
  | cons (e : IE) (es : IEs)
end

/-- a list that is owned or new is read as it stands now -/
def now (d : Dat) (m : Mode) (ρ : DEnv) : Option Dat :=
  match m with
  | .brw i => (match ρ[i]? with
    | some (.own d') => some d'
    | some (.val d') => some d'
    | _ => none)
  | _ => some d

/-- a value that is handed on: nobody may change it any more -/
def keep (m : Mode) (ρ : DEnv) (d : Dat) : DEnv :=
  match m with
  | .brw i => ρ.set i (.val d)
  | _ => ρ

def sm (n : Nat) : Bool := decide (n ≤ 100000)

mutual
def Dat.toPy : Dat → PyData
  | .non => .none
  | .bl b => .bool b
  | .int i => .int i
  | .str s => .str s
  | .lst xs => .list (toPys xs)
  | .tup xs => .tuple (toPys xs)
  | .dic kvs => .dict (toPyKv kvs)
  | .scr ns => .list (ns.map PyData.int)
def toPys : List Dat → List PyData
  | [] => []
  | d :: ds => d.toPy :: toPys ds
def toPyKv : List (Dat × Dat) → List (PyData × PyData)
  | [] => []
  | (k, v) :: r => (k.toPy, v.toPy) :: toPyKv r
end

def binD (op : Operator) (a b : Dat) : Option (Dat × Mode) :=
  match op, a, b with
  | .Add, .int i, .int j => some (.int (i + j), .frz)
  | .Sub, .int i, .int j => some (.int (i - j), .frz)
  | .Mult, .int i, .int j => if (-(2 ^ 64) < j ∧ j < 2 ^ 64) ∨ (-(2 ^ 64) < i ∧ i < 2 ^ 64) then some (.int (i * j), .frz) else none
  | .Mod, .int i, .int j => if 0 < j then some (.int (i % j), .frz) else none
  | .FloorDiv, .int i, .int j => if 0 < j ∧ j < 1073741824 then some (.int (i / j), .frz) else none
  | .Pow, .int i, .int j => if 0 ≤ j ∧ j ≤ 1000000 ∧ i.natAbs < 2 ^ 64 then some (.int (i ^ j.toNat), .frz) else none
  | .Add, .str x, .str y => if sm (x.length + y.length) then some (.str (x ++ y), .frz) else none
  | .Add, .lst xs, .lst ys => if sm (xs.length + ys.length) then some (.lst (xs ++ ys), .fresh) else none
  | .Add, .tup xs, .tup ys => if sm (xs.length + ys.length) then some (.tup (xs ++ ys), .frz) else none
  | .Mult, .str x, .int j => if 1 < j ∧ j ≤ 1000 ∧ x.length ≤ 100 then some (.str (Txt.mul x j), .frz) else none
  | _, _, _ => none

/-- flat data, by which == and in are plain -/
def Dat.flat : Dat → Bool
  | .non => true
  | .bl _ => true
  | .int _ => true
  | .str _ => true
  | _ => false

/-- how deep, how wide (bounds for the machine) -/
def Dat.fit (d : Dat) : Bool := PySem.SeqAt.shaped d.toPy

def intsD (p : Int → Int → Bool) (a b : Dat) : Option Bool :=
  match a, b with
  | .int i, .int j => some (p i j)
  | _, _ => none
def inD (a b : Dat) : Option Bool :=
  match b with
  | .str z => (match a with
    | .str w => (match w.cps.toList with
      | [c] => some (decide (c ∈ z.cps.toList))
      | _ => none)
    | _ => none)
  | .lst ys => if a.flat && ys.all Dat.flat then some (ys.any fun y => PyData.eqv y.toPy a.toPy) else none
  | _ => none
/-- == of two plain values of one kind -/
def eqFlat (a b : Dat) : Option Bool :=
  match a, b with
  | .str x, .str y => some (decide (x = y))
  | .int x, .int y => some (decide (x = y))
  | .bl x, .bl y => some (decide (x = y))
  | .non, .non => some true
  | _, _ => none
def eqD (a b : Dat) : Option Bool :=
  match eqFlat a b with
  | some r => some r
  | none => if a.fit && b.fit then some (PyData.eqv a.toPy b.toPy) else
  match b with
  | .tup [] => (match a with | .tup xs => some xs.isEmpty | _ => none)
  | .lst [] => (match a with | .lst xs => some xs.isEmpty | _ => none)
  | _ => none
def cmpD (op : CmpOp) (a b : Dat) : Option Bool :=
  match op with
  | .Lt => intsD (fun i j => decide (i < j)) a b
  | .LtE => intsD (fun i j => decide (i ≤ j)) a b
  | .Gt => intsD (fun i j => decide (j < i)) a b
  | .GtE => intsD (fun i j => decide (j ≤ i)) a b
  | .In => inD a b
  | .NotIn => (inD a b).map (!·)
  | .Eq => eqD a b
  | .NotEq => (match eqFlat a b with
    | some r => some (!r)
    | none => if a.fit && b.fit then some (!PyData.eqv a.toPy b.toPy) else none)
  | _ => none

def Dat.tyn : Dat → String
  | .non => "NoneType" | .bl _ => "bool" | .int _ => "int" | .str _ => "str" | .lst _ => "list" | .tup _ => "tuple" | .dic _ => "dict" | .scr _ => "list"
def tys6 : List String := ["int", "bool", "str", "tuple", "list", "dict"]
def isaN (t ty : String) : Bool := (t == ty) || (t == "bool" && ty == "int")
def Dat.isa (d : Dat) (ty : String) : Option Bool := if ty ∈ tys6 then some (isaN d.tyn ty) else none

def idxD (a b : Dat) : Option Dat :=
  match a, b with
  | .lst xs, .int i => L2.atI xs i
  | .tup xs, .int i => L2.atI xs i
  | .scr ns, .int i => (L2.atI ns i).map .int
  | .str x, .int i => if sm x.length then (L2.atI x.cps.toList i).map fun c => .str ⟨#[c]⟩ else none
  | _, _ => none

/-- the part of a list from lo on, below hi -/
def cut {α : Type} (xs : List α) (lo hi : Option Int) : List α := (xs.drop (HT.sIx xs.length 0 lo)).take (HT.sIx xs.length xs.length hi - HT.sIx xs.length 0 lo)
def slcD (a : Dat) (lo hi : Option Int) : Option (Dat × Mode) :=
  match a with
  | .lst xs => some (.lst (cut xs lo hi), .fresh)
  | .tup xs => some (.tup (cut xs lo hi), .frz)
  | .str x => if sm x.length then some (.str (L2.cutS x lo hi), .frz) else none
  | _ => none

def ints? : List Dat → Option (List Int)
  | [] => some []
  | .int i :: r => (ints? r).map (i :: ·)
  | _ :: _ => none
def strs? : List Dat → Option (List Str)
  | [] => some []
  | .str x :: r => (strs? r).map (x :: ·)
  | _ :: _ => none
def bls? : List Dat → Option (List Bool)
  | [] => some []
  | .bl b :: r => (bls? r).map (b :: ·)
  | _ :: _ => none

mutual
def Dat.noLst : Dat → Bool
  | .lst _ => false
  | .scr _ => false
  | .tup xs => noLsts xs
  | .dic kvs => noLstKv kvs
  | _ => true
def noLsts : List Dat → Bool
  | [] => true
  | d :: ds => d.noLst && noLsts ds
def noLstKv : List (Dat × Dat) → Bool
  | [] => true
  | (k, v) :: r => k.noLst && v.noLst && noLstKv r
end
/-- whose repr is told -/
def Dat.tell (d : Dat) : Bool := d.toPy.showable && decide (d.toPy.depth ≤ 40) && sm d.toPy.shown.length && (!d.toPy.hasDict || d.noLst)

def biD (b : BI) (as : List Dat) : Option (Dat × Mode) :=
  match b, as with
  | .len, [.lst xs] => some (.int xs.length, .frz)
  | .len, [.tup xs] => some (.int xs.length, .frz)
  | .len, [.scr ns] => some (.int ns.length, .frz)
  | .len, [.str x] => if sm x.length then some (.int x.length, .frz) else none
  | .max, [.int i, .int j] => some (.int (if j > i then j else i), .frz)
  | .min, [.int i, .int j] => some (.int (if j < i then j else i), .frz)
  | .max, [.lst xs] => (ints? xs).bind fun ns => match ns with
    | [] => none
    | n :: r => some (.int (r.foldl (fun a b => if b > a then b else a) n), .frz)
  | .all, [.lst xs] => (bls? xs).map fun bs => (.bl (bs.all id), .frz)
  | .tuple, [.lst xs] => some (.tup xs, .frz)
  | .list, [.tup xs] => some (.lst xs, .fresh)
  | .list, [.lst xs] => some (.lst xs, .fresh)
  | .repr, [d] => if d.tell then some (.str d.toPy.shown, .frz) else none
  | _, _ => none

def items : Dat → Option (List Dat)
  | .lst xs => some xs
  | .tup xs => some xs
  | .str x => some (x.cps.toList.map fun c => .str ⟨#[c]⟩)
  | _ => none

/-- a def: which of its parameters it may change; what it comes to: its value, whether that is new, what the changed ones hold then -/
structure FI where
  io : List Bool
  run : List Dat → Res (Dat × Bool × List Dat)

end Ev
namespace Ev
open PySem
/-- what the module's names stand for: plain constants, defs -/
structure Tab where
  con : Str → Option Dat
  fn : Str → Option FI
section
variable (T : Tab)

/-- the arguments of a def: what is handed on; at the places that may be changed a name's slot -/
inductive GE where
  | val (d : Dat) | slot (i : Nat) | tmp (d : Dat)
abbrev Got := List GE

def ioSlot : IE → Option Nat
  | .var i => some i
  | _ => none

def readArgs (ρ : DEnv) : Got → Option (List Dat)
  | [] => some []
  | .val d :: r => (readArgs ρ r).map (d :: ·)
  | .tmp d :: r => (readArgs ρ r).map (d :: ·)
  | .slot i :: r => (match ρ[i]? with
    | some (.own d) => (readArgs ρ r).map (d :: ·)
    | _ => none)
def putBack (ρ : DEnv) : Got → List Dat → DEnv
  | .val _ :: r, ds => putBack ρ r ds
  | .tmp _ :: r, _ :: ds => putBack ρ r ds
  | .slot i :: r, d :: ds => putBack (ρ.set i (.own d)) r ds
  | _, _ => ρ
def slotsOf : Got → List Nat
  | [] => []
  | .val _ :: r => slotsOf r
  | .tmp _ :: r => slotsOf r
  | .slot i :: r => i :: slotsOf r

def put : Option Dat → List Dat → List Dat
  | some y, ys => y :: ys
  | none, ys => ys
/-- the turns of a comprehension -/
def turns (one : Dat → DEnv → Res (Option Dat × DEnv)) : List Dat → DEnv → Res (List Dat × DEnv)
  | [], ρ => .ok ([], ρ)
  | x :: r, ρ => (one x ρ).bind fun (o, ρ1) => (turns one r ρ1).bind fun (ys, ρ2) => .ok (put o ys, ρ2)

def wipeE (ρ : DEnv) : List Nat → DEnv
  | [] => ρ
  | v :: vs => (wipeE ρ vs).set v .no
/-- behind a comprehension its own names hold again what they held -/
def back (ρ ρ' : DEnv) (vs : List Nat) : DEnv := ρ'.mapIdx fun i s => if vs.contains i then ρ.getD i .no else s
def calmAt (ρ : DEnv) (vs : List Nat) : Bool := vs.all fun v => match ρ[v]? with
  | some (.own _) => false
  | some _ => true
  | none => false
/-- a comprehension: what is walked, one turn -/
def comp (vs : List Nat) (one : Dat → DEnv → Res (Option Dat × DEnv)) (xs : List Dat) (ρ : DEnv) : Res (Dat × Mode × DEnv) :=
  if sm xs.length && calmAt ρ vs then (turns one xs ρ).bind fun (ys, ρ2) => .ok (.lst ys, .fresh, back ρ ρ2 vs) else .stuck

/-- one turn of a comprehension, by what its element (and its test) come to -/
def oneOf (e : DEnv → Res (Dat × Mode × DEnv)) (tg : Nat) (vs : List Nat) : Dat → DEnv → Res (Option Dat × DEnv) := fun x ρ' =>
  (e ((wipeE ρ' vs).set tg (.val x))).bind fun (y, m, ρ'') => .ok (some y, keep m ρ'' y)
def oneIf (c e : DEnv → Res (Dat × Mode × DEnv)) (tg : Nat) (vs : List Nat) : Dat → DEnv → Res (Option Dat × DEnv) := fun x ρ' =>
  (c ((wipeE ρ' vs).set tg (.val x))).bind fun (z, _, ρa) => (match z with
    | .bl true => (e ρa).bind fun (y, m, ρ'') => .ok (some y, keep m ρ'' y)
    | .bl false => .ok (none, ρa)
    | _ => .stuck)

mutual
def ev : IE → DEnv → Res (Dat × Mode × DEnv)
  | .var i, ρ => (match ρ[i]? with
    | some (.val d) => .ok (d, .frz, ρ)
    | some (.own d) => .ok (d, .brw i, ρ)
    | _ => .stuck)
  | .cst d, ρ => .ok (d, .frz, ρ)
  | .glb x, ρ => (ofO (T.con x)).bind fun d => .ok (d, .frz, ρ)
  | .tup es, ρ => (evs es ρ).bind fun (ds, ρ1) => if sm ds.length then .ok (.tup ds, .frz, ρ1) else .stuck
  | .lst es, ρ => (evs es ρ).bind fun (ds, ρ1) => if sm ds.length then .ok (.lst ds, .fresh, ρ1) else .stuck
  | .dic0, ρ => .ok (.dic [], .frz, ρ)
  | .dic1 k v, ρ => (ev k ρ).bind fun (x, _, ρ1) => (match x with
      | .str s => (ev v ρ1).bind fun (d, m, ρ2) => .ok (.dic [(.str s, d)], .frz, keep m ρ2 d)
      | _ => .stuck)
  | .bin op a b, ρ => (ev a ρ).bind fun (x, m, ρ1) => (ev b ρ1).bind fun (y, _, ρ2) =>
      (ofO (now x m ρ2)).bind fun x' => (ofO (binD op x' y)).bind fun (d, k) => .ok (d, k, ρ2)
  | .neg a, ρ => (ev a ρ).bind fun (x, _, ρ1) => (match x with | .int i => .ok (.int (-i), .frz, ρ1) | _ => .stuck)
  | .not a, ρ => (ev a ρ).bind fun (x, _, ρ1) => (match x with | .bl b => .ok (.bl (!b), .frz, ρ1) | _ => .stuck)
  | .and a b, ρ => (ev a ρ).bind fun (x, _, ρ1) => (match x with | .bl true => ev b ρ1 | .bl false => .ok (.bl false, .frz, ρ1) | _ => .stuck)
  | .or a b, ρ => (ev a ρ).bind fun (x, _, ρ1) => (match x with | .bl false => ev b ρ1 | .bl true => .ok (.bl true, .frz, ρ1) | _ => .stuck)
  | .cmp op a b, ρ => (ev a ρ).bind fun (x, m, ρ1) => (ev b ρ1).bind fun (y, _, ρ2) =>
      (ofO (now x m ρ2)).bind fun x' => (ofO (cmpD op x' y)).bind fun r => .ok (.bl r, .frz, ρ2)
  | .cmp2 o p a b c, ρ => (ev a ρ).bind fun (x, _, ρ1) => (ev b ρ1).bind fun (y, _, ρ2) => (match x, y with
      | .int i, .int j => (ofO (cmpD o (.int i) (.int j))).bind fun r => (match r with
        | false => .ok (.bl false, .frz, ρ2)
        | true => (ev c ρ2).bind fun (z, _, ρ3) => (match z with
          | .int k => (ofO (cmpD p (.int j) (.int k))).bind fun r' => .ok (.bl r', .frz, ρ3)
          | _ => .stuck))
      | _, _ => .stuck)
  | .ite c a b, ρ => (ev c ρ).bind fun (x, _, ρ1) => (match x with | .bl true => ev a ρ1 | .bl false => ev b ρ1 | _ => .stuck)
  | .idx a b, ρ => (ev a ρ).bind fun (x, m, ρ1) => (ev b ρ1).bind fun (y, _, ρ2) =>
      (ofO (now x m ρ2)).bind fun x' => (ofO (idxD x' y)).bind fun d => .ok (d, .frz, ρ2)
  | .slcL a b, ρ => (ev a ρ).bind fun (x, m, ρ1) => (ev b ρ1).bind fun (y, _, ρ2) =>
      (ofO (now x m ρ2)).bind fun x' => (match y with | .int i => (ofO (slcD x' (some i) none)).bind fun (d, k) => .ok (d, k, ρ2) | _ => .stuck)
  | .slcR a b, ρ => (ev a ρ).bind fun (x, m, ρ1) => (ev b ρ1).bind fun (y, _, ρ2) =>
      (ofO (now x m ρ2)).bind fun x' => (match y with | .int i => (ofO (slcD x' none (some i))).bind fun (d, k) => .ok (d, k, ρ2) | _ => .stuck)
  | .call f as, ρ => (match T.fn f with
    | none => .stuck
    | some fi => (evArgs fi.io as ρ).bind fun (g, ρ1) =>
        if (slotsOf g).Nodup ∧ g.length = fi.io.length then
          (ofO (readArgs ρ1 g)).bind fun ds => (fi.run ds).bind fun (d, new, outs) =>
            .ok (d, if new then .fresh else .frz, putBack ρ1 g outs)
        else .stuck)
  | .bi b (.cons a .nil), ρ => (ev a ρ).bind fun (x, _, ρ1) => (ofO (biD b [x])).bind fun (d, k) => .ok (d, k, ρ1)
  | .bi b (.cons a (.cons c .nil)), ρ => (ev a ρ).bind fun (x, m, ρ1) => (ev c ρ1).bind fun (y, _, ρ2) => (ofO (now x m ρ2)).bind fun x' => (ofO (biD b [x', y])).bind fun (d, k) => .ok (d, k, ρ2)
  | .bi _ _, ρ => .stuck
  | .isi a ty, ρ => (ev a ρ).bind fun (x, _, ρ1) => (ofO (x.isa ty)).bind fun b => .ok (.bl b, .frz, ρ1)
  | .join o a, ρ => (ev o ρ).bind fun (x, _, ρ1) => (ev a ρ1).bind fun (y, _, ρ2) => (match x, y with
      | .str s, .lst ys => (ofO (strs? ys)).bind fun zs => if sm ((zs.map (·.length)).sum + zs.length * s.length) then .ok (.str (Txt.join s zs), .frz, ρ2) else .stuck
      | _, _ => .stuck)
  | .upper o, ρ => (ev o ρ).bind fun (x, _, ρ1) => (match x with | .str s => if sm s.length then .ok (.str (Txt.upper s), .frz, ρ1) else .stuck | _ => .stuck)
  | .lc elt tg it own, ρ => (ev it ρ).bind fun (x, m, ρ1) => (ofO (items x)).bind fun xs =>
      comp (own.map (·.2)) (oneOf (ev elt) tg (own.map (·.2))) xs (keep m ρ1 x)
  | .lcI elt tg it cond own, ρ => (ev it ρ).bind fun (x, m, ρ1) => (ofO (items x)).bind fun xs =>
      comp (own.map (·.2)) (oneIf (ev cond) (ev elt) tg (own.map (·.2))) xs (keep m ρ1 x)
  | .lcR elt tg a own, ρ => (ev a ρ).bind fun (x, _, ρ1) => (match x with
      | .int j => if -(2 ^ 62) ≤ j ∧ j < 2 ^ 62 then
        comp (own.map (·.2)) (oneOf (ev elt) tg (own.map (·.2))) ((List.range j.toNat).map fun (k : Nat) => .int (k : Int)) ρ1
        else .stuck
      | _ => .stuck)
def evs : IEs → DEnv → Res (List Dat × DEnv)
  | .nil, ρ => .ok ([], ρ)
  | .cons e es, ρ => (ev e ρ).bind fun (d, m, ρ1) => (evs es (keep m ρ1 d)).bind fun (ds, ρ2) => .ok (d :: ds, ρ2)
def evArgs : List Bool → IEs → DEnv → Res (Got × DEnv)
  | _, .nil, ρ => .ok ([], ρ)
  | true :: io, .cons e es, ρ => (match ioSlot e with
    | some i => (match ρ[i]? with
      | some (.own _) => (evArgs io es ρ).bind fun (g, ρ1) => .ok (.slot i :: g, ρ1)
      | _ => .stuck)
    | none => (ev e ρ).bind fun (d, m, ρ1) => (match m with
      | .fresh => (evArgs io es ρ1).bind fun (g, ρ2) => .ok (.tmp d :: g, ρ2)
      | _ => .stuck))
  | false :: io, .cons e es, ρ => (ev e ρ).bind fun (d, m, ρ1) => (evArgs io es (keep m ρ1 d)).bind fun (g, ρ2) => .ok (.val d :: g, ρ2)
  | [], .cons _ _, _ => .stuck
end
end
end Ev
set_option Elab.async false
set_option linter.all false
set_option maxRecDepth 100000
namespace Ev
open PySem PySem.Spec PyProof.Rows L2

def isFrz : HO → Bool
  | .tup _ => true
  | .frz _ _ => true
  | _ => false
/-- what can't change stays -/
def FrzLe (H H' : Hp) : Prop := ∀ a o, H a = some o → isFrz o = true → H' a = some o
theorem FrzLe.refl (H : Hp) : FrzLe H H := fun _ _ h _ => h
theorem FrzLe.trans {H H1 H2 : Hp} (a : FrzLe H H1) (b : FrzLe H1 H2) : FrzLe H H2 := fun x o h f => b x o (a x o h f) f
theorem FrzLe.new {H : Hp} {p : Addr} {o : HO} (h : H p = none) : FrzLe H (upd H p o) := fun a u e _ => by
  rw [upd_ne (ne_of_none e h)]; exact e
theorem FrzLe.mut {H : Hp} {p : Addr} {o u : HO} (h : H p = some u) (f : isFrz u = false) : FrzLe H (upd H p o) := fun a w e g => by
  have n : a ≠ p := fun z => by subst z; rw [h] at e; cases e; rw [f] at g; cases g
  rw [upd_ne n]; exact e

/-- a list that is known to be as it is, or one of the module's own -/
def SqF (K : PySem.W.Frag) (H : Hp) (a : Addr) (xs : List V) : Prop := (∃ o, H a = some (.frz o (.lst xs))) ∨ SqL K (fun _ => none) a xs
theorem SqF.mono {K : PySem.W.Frag} {H H' : Hp} {a : Addr} {xs : List V} (f : FrzLe H H') (h : SqF K H a xs) : SqF K H' a xs := by
  rcases h with ⟨o, h⟩ | h
  · exact .inl ⟨o, f _ _ h rfl⟩
  · exact .inr h
theorem SqF.sq {K : PySem.W.Frag} {H : Hp} {a : Addr} {xs : List V} (h : SqF K H a xs) : SqL K H a xs := by
  rcases h with ⟨o, h⟩ | (h | ⟨o, h⟩) | h
  · exact .inl (.inr ⟨o, h⟩)
  · cases h
  · cases h
  · exact .inr h
mutual
inductive Is (K : PySem.W.Frag) (H : Hp) : V → Dat → Prop
  | non : Is K H .non .non
  | bl (b) : Is K H (.bl b) (.bl b)
  | int (i) : Is K H (.int i) (.int i)
  | str (x) : Is K H (.str x) (.str x)
  | tup {a vs ds} : SqT K H a vs → IsL K H vs ds → Is K H (.ref a) (.tup ds)
  | lst {a o vs ds} : H a = some (.frz o (.lst vs)) → IsL K H vs ds → Is K H (.ref a) (.lst ds)
  | scr {a ns} : SqF K H a (ns.map V.int) → Is K H (.ref a) (.scr ns)
  | dic {a} {o : Obj} {es : Array DictEntry} {n : Nat} {ks vs kvs} : H a = some (.frz o (.own a)) → o.cls = .type "dict" → o.data = .dict es n → (a == sysModules) = false →
      Vals ks (es.toList.map (·.key)) → Vals vs (es.toList.map (·.val)) → IsL K H ks (kvs.map (·.1)) → IsL K H vs (kvs.map (·.2)) → Is K H (.ref a) (.dic kvs)
inductive IsL (K : PySem.W.Frag) (H : Hp) : List V → List Dat → Prop
  | nil : IsL K H [] []
  | cons {v d vs ds} : Is K H v d → IsL K H vs ds → IsL K H (v :: vs) (d :: ds)
end

theorem sqT_mono {K : PySem.W.Frag} {H H' : Hp} {a : Addr} {vs : List V} (f : FrzLe H H') (h : SqT K H a vs) : SqT K H' a vs := by
  rcases h with (h | ⟨o, h⟩) | h
  · exact .inl (.inl (f _ _ h rfl))
  · exact .inl (.inr ⟨o, f _ _ h rfl⟩)
  · exact .inr h
mutual
theorem Is.mono {K : PySem.W.Frag} {H H' : Hp} (f : FrzLe H H') : ∀ {v : V} {d : Dat}, Is K H v d → Is K H' v d
  | _, _, .non => .non
  | _, _, .bl b => .bl b
  | _, _, .int i => .int i
  | _, _, .str x => .str x
  | _, _, .tup a b => .tup (sqT_mono f a) (IsL.mono f b)
  | _, _, .lst a b => .lst (f _ _ a rfl) (IsL.mono f b)
  | _, _, .scr a => .scr (a.mono f)
  | _, _, .dic a b c d e g h i => .dic (f _ _ a rfl) b c d e g (IsL.mono f h) (IsL.mono f i)
theorem IsL.mono {K : PySem.W.Frag} {H H' : Hp} (f : FrzLe H H') : ∀ {vs : List V} {ds : List Dat}, IsL K H vs ds → IsL K H' vs ds
  | _, _, .nil => .nil
  | _, _, .cons a b => .cons (Is.mono f a) (IsL.mono f b)
end
theorem IsL.length {K : PySem.W.Frag} {H : Hp} : ∀ {vs : List V} {ds : List Dat}, IsL K H vs ds → vs.length = ds.length
  | _, _, .nil => rfl
  | _, _, .cons _ b => by rw [List.length_cons, List.length_cons, b.length]
theorem IsL.append {K : PySem.W.Frag} {H : Hp} : ∀ {vs ws : List V} {ds es : List Dat}, IsL K H vs ds → IsL K H ws es → IsL K H (vs ++ ws) (ds ++ es)
  | _, _, _, _, .nil, b => b
  | _, _, _, _, .cons a r, b => .cons a (IsL.append r b)
theorem IsL.get {K : PySem.W.Frag} {H : Hp} : ∀ {vs : List V} {ds : List Dat} {i : Nat} {d : Dat}, IsL K H vs ds → ds[i]? = some d → ∃ v, vs[i]? = some v ∧ Is K H v d
  | _, _, i, _, .nil, e => by simp at e
  | _, _, 0, _, .cons a _, e => by simp at e; subst e; exact ⟨_, rfl, a⟩
  | _, _, i + 1, d, .cons _ r, e => by
    obtain ⟨v, h1, h2⟩ := IsL.get (i := i) (d := d) r (by simpa using e)
    exact ⟨v, by simpa using h1, h2⟩
theorem IsL.getV {K : PySem.W.Frag} {H : Hp} : ∀ {vs : List V} {ds : List Dat} {i : Nat} {v : V}, IsL K H vs ds → vs[i]? = some v → ∃ d, ds[i]? = some d ∧ Is K H v d
  | _, _, i, _, .nil, e => by simp at e
  | _, _, 0, _, .cons a _, e => by simp at e; subst e; exact ⟨_, rfl, a⟩
  | _, _, i + 1, d, .cons _ r, e => by
    obtain ⟨v, h1, h2⟩ := IsL.getV (i := i) r (by simpa using e)
    exact ⟨v, by simpa using h1, h2⟩
theorem IsL.drop {K : PySem.W.Frag} {H : Hp} : ∀ {vs : List V} {ds : List Dat} (n : Nat), IsL K H vs ds → IsL K H (vs.drop n) (ds.drop n)
  | _, _, 0, h => h
  | _, _, _ + 1, .nil => .nil
  | _, _, n + 1, .cons _ r => IsL.drop n r
theorem IsL.take {K : PySem.W.Frag} {H : Hp} : ∀ {vs : List V} {ds : List Dat} (n : Nat), IsL K H vs ds → IsL K H (vs.take n) (ds.take n)
  | _, _, 0, _ => .nil
  | _, _, _ + 1, .nil => .nil
  | _, _, n + 1, .cons a r => .cons a (IsL.take n r)

/-- a list that may be changed -/
def Own (K : PySem.W.Frag) (H : Hp) (p : Addr) (d : Dat) : Prop := ∃ vs ds, d = .lst ds ∧ H p = some (.lst vs) ∧ IsL K H vs ds
/-- what may be read as d now -/
def Rdb (K : PySem.W.Frag) (H : Hp) (v : V) (d : Dat) : Prop := Is K H v d ∨ ∃ p, v = .ref p ∧ Own K H p d

/-- the slots bear the environment; what B knows stands -/
structure REnv (K : PySem.W.Frag) (B : Hp) (σ : L2.St) (H : Hp) (ρ : DEnv) : Prop where
  base : ∀ a o, B a = some o → H a = some o
  len : σ.length = ρ.length
  val : ∀ (i : Nat) d, ρ[i]? = some (.val d) → ∃ v, σ[i]? = some (some v) ∧ Is K H v d
  own : ∀ (i : Nat) d, ρ[i]? = some (.own d) → ∃ p, σ[i]? = some (some (.ref p)) ∧ B p = none ∧ Own K H p d
  sep : ∀ (i j : Nat) d e p, ρ[i]? = some (.own d) → ρ[j]? = some (.own e) → σ[i]? = some (some (.ref p)) → σ[j]? = some (some (.ref p)) → i = j

def RV (K : PySem.W.Frag) (B : Hp) (σ : L2.St) (ρ : DEnv) (H : Hp) (v : V) (d : Dat) : Mode → Prop
  | .frz => Is K H v d
  | .fresh => ∃ p, v = .ref p ∧ Own K H p d ∧ B p = none ∧ ∀ (i : Nat) e, ρ[i]? = some (.own e) → σ[i]? ≠ some (some (.ref p))
  | .brw i => σ[i]? = some (some v) ∧ ρ[i]? = some (.own d)

section
variable {K : PySem.W.Frag} {B B' : Hp} {σ : L2.St} {H H' : Hp} {ρ ρ' : DEnv} {v : V} {d : Dat} {m : Mode}
theorem Own.mono {p : Addr} (f : FrzLe H H') (hp : H' p = H p) (h : Own K H p d) : Own K H' p d := by
  obtain ⟨vs, ds, rfl, e, r⟩ := h
  exact ⟨vs, ds, rfl, hp.trans e, r.mono f⟩
theorem Own.some {p : Addr} (h : Own K H p d) : ∃ vs, H p = some (.lst vs) := by
  obtain ⟨vs, ds, rfl, e, r⟩ := h
  exact ⟨vs, e⟩
theorem REnv.weak (R : REnv K B' σ H ρ) (le : ∀ a o, B a = some o → B' a = some o) : REnv K B σ H ρ :=
  ⟨fun a o e => R.base a o (le a o e), R.len, R.val, fun i d e => by
    obtain ⟨p, h1, h2, h3⟩ := R.own i d e
    refine ⟨p, h1, ?_, h3⟩
    cases q : B p with
    | none => rfl
    | some o => exact absurd h2 (by rw [le p o q]; exact fun z => nomatch z), R.sep⟩
/-- the heap grows, or what nobody of these owns changes -/
theorem REnv.step (R : REnv K B σ H ρ) (f : FrzLe H H') (hb : ∀ a o, B a = some o → H a = some o → H' a = some o)
    (ho : ∀ (i : Nat) d p, ρ[i]? = some (.own d) → σ[i]? = some (some (.ref p)) → H' p = H p) : REnv K B σ H' ρ :=
  ⟨fun a o e => hb a o e (R.base a o e), R.len, fun i d e => by
    obtain ⟨v, h1, h2⟩ := R.val i d e
    exact ⟨v, h1, h2.mono f⟩, fun i d e => by
    obtain ⟨p, h1, h2, h3⟩ := R.own i d e
    exact ⟨p, h1, h2, h3.mono f (ho i d p e h1)⟩, R.sep⟩
theorem REnv.new {p : Addr} {o : HO} (R : REnv K B σ H ρ) (h : H p = none) : REnv K B σ (upd H p o) ρ :=
  R.step (FrzLe.new h) (fun a u _ e => by rw [upd_ne (ne_of_none e h)]; exact e) fun i d q e e2 => by
    obtain ⟨p', h1, h2, h3⟩ := R.own i d e
    rw [e2] at h1; cases h1
    obtain ⟨vs, hv⟩ := h3.some
    rw [upd_ne (ne_of_none hv h)]
theorem REnv.newB {p : Addr} (R : REnv K B σ H ρ) (h : H p = none) : B p = none := by
  cases q : B p with
  | none => rfl
  | some o => rw [R.base p o q] at h; cases h
theorem REnv.newS {p : Addr} (R : REnv K B σ H ρ) (h : H p = none) : ∀ (i : Nat) e, ρ[i]? = some (.own e) → σ[i]? ≠ some (some (.ref p)) := fun i e q z => by
  obtain ⟨p', h1, h2, h3⟩ := R.own i e q
  rw [z] at h1; cases h1
  obtain ⟨vs, hv⟩ := h3.some
  rw [h] at hv; cases hv
/-- a value is carried over what is reckoned next -/
theorem carry {x : Dat} (R : REnv K B σ H ρ) (r : RV K B σ ρ H v x m) : ∃ B1, REnv K B1 σ H ρ ∧ (∀ a o, B a = some o → B1 a = some o) ∧
    ∀ H2 ρ2 x', REnv K B1 σ H2 ρ2 → FrzLe H H2 → now x m ρ2 = some x' → Rdb K H2 v x' := by
  cases m with
  | frz => exact ⟨B, R, fun _ _ h => h, fun H2 ρ2 x' _ f e => by cases e; exact .inl (Is.mono f r)⟩
  | fresh =>
    obtain ⟨p, rfl, ⟨vs, ds, rfl, e, l⟩, bp, ns⟩ := r
    refine ⟨upd B p (.lst vs), ⟨fun a o h => ?_, R.len, R.val, fun i d' h => ?_, R.sep⟩, fun a o h => ?_, fun H2 ρ2 x' R2 f h => ?_⟩
    · by_cases z : a = p
      · subst z; rw [upd_same] at h; cases h; exact e
      · rw [upd_ne z] at h; exact R.base a o h
    · obtain ⟨q, h1, h2, h3⟩ := R.own i d' h
      refine ⟨q, h1, ?_, h3⟩
      rw [upd_ne (fun z => ns i d' h (by rw [← z]; exact h1))]
      exact h2
    · rw [upd_ne (fun z => by subst z; rw [bp] at h; cases h)]; exact h
    · cases h
      exact .inr ⟨p, rfl, vs, ds, rfl, R2.base p _ upd_same, l.mono f⟩
  | brw i =>
    obtain ⟨h1, h2⟩ := r
    refine ⟨B, R, fun _ _ h => h, fun H2 ρ2 x' R2 f e => ?_⟩
    unfold now at e
    simp only at e
    split at e
    · rename_i d' q
      cases e
      obtain ⟨p, g1, g2, g3⟩ := R2.own i _ q
      rw [h1] at g1; cases g1
      exact .inr ⟨p, rfl, g3⟩
    · rename_i d' q
      cases e
      obtain ⟨w, g1, g2⟩ := R2.val i _ q
      rw [h1] at g1; cases g1
      exact .inl g2
    · cases e
theorem rdb_of {x : Dat} (R : REnv K B σ H ρ) (r : RV K B σ ρ H v x m) : Rdb K H v x := by
  cases m with
  | frz => exact .inl r
  | fresh => obtain ⟨p, rfl, o, _⟩ := r; exact .inr ⟨p, rfl, o⟩
  | brw i =>
    obtain ⟨h1, h2⟩ := r
    obtain ⟨p, g1, g2, g3⟩ := R.own i _ h2
    rw [h1] at g1; cases g1
    exact .inr ⟨p, rfl, g3⟩

/-! readable values by their kind -/
theorem Rdb.int {i : Int} (h : Rdb K H v (.int i)) : v = .int i := by
  rcases h with h | ⟨p, _, _, _, e, _⟩
  · cases h; rfl
  · cases e
theorem Rdb.str {x : Str} (h : Rdb K H v (.str x)) : v = .str x := by
  rcases h with h | ⟨p, _, _, _, e, _⟩
  · cases h; rfl
  · cases e
theorem Rdb.bl {b : Bool} (h : Rdb K H v (.bl b)) : v = .bl b := by
  rcases h with h | ⟨p, _, _, _, e, _⟩
  · cases h; rfl
  · cases e
theorem Rdb.tup {ds : List Dat} (h : Rdb K H v (.tup ds)) : ∃ a vs, v = .ref a ∧ SqT K H a vs ∧ IsL K H vs ds := by
  rcases h with h | ⟨p, _, _, _, e, _⟩
  · cases h with
    | tup a b => exact ⟨_, _, rfl, a, b⟩
  · cases e
theorem Rdb.scr {ns : List Int} (h : Rdb K H v (.scr ns)) : ∃ a, v = .ref a ∧ SqL K H a (ns.map V.int) := by
  rcases h with h | ⟨p, _, _, _, e, _⟩
  · cases h with
    | scr a => exact ⟨_, rfl, a.sq⟩
  · cases e
theorem Rdb.lst {ds : List Dat} (h : Rdb K H v (.lst ds)) : ∃ a vs, v = .ref a ∧ SqL K H a vs ∧ IsL K H vs ds := by
  rcases h with h | ⟨p, rfl, vs, _, e, h2, h3⟩
  · cases h with
    | lst a b => exact ⟨_, _, rfl, .inl (.inr ⟨_, a⟩), b⟩
  · cases e; exact ⟨p, vs, rfl, .inl (.inl h2), h3⟩
end

/-- the reading: from an environment to a value, in its mode, and the environment behind it -/
def tS (K : PySem.W.Frag) (ρ : DEnv) (d : Dat) (m : Mode) (ρ' : DEnv) : TE := fun σ H Q => ∃ B, REnv K B σ H ρ ∧ ∀ v H', REnv K B σ H' ρ' → FrzLe H H' → RV K B σ ρ' H' v d m → Q v H'
def tST (K : PySem.W.Frag) (ρ : DEnv) (b : Bool) (ρ' : DEnv) : TT := fun σ H Q => ∃ B, REnv K B σ H ρ ∧ ∀ H', REnv K B σ H' ρ' → FrzLe H H' → Q b H'
def tSA (K : PySem.W.Frag) (ρ : DEnv) (ds : List Dat) (ρ' : DEnv) : TA := fun σ H Q => ∃ B, REnv K B σ H ρ ∧ ∀ vs H', REnv K B σ H' ρ' → FrzLe H H' → IsL K H' vs ds → Q vs H'

theorem _root_.L2.PE.imp {X : Cx} {e : Expr} {t t' : TE} (h : PE X e t) (i : ∀ σ H Q, t' σ H Q → t σ H Q) : PE X e t' := ⟨fun pins s σ H Q I q => h.run pins s σ H Q I (i σ H Q q)⟩
theorem _root_.L2.PT.imp {X : Cx} {e : Expr} {t t' : TT} (h : PT X e t) (i : ∀ σ H Q, t' σ H Q → t σ H Q) : PT X e t' := ⟨fun pins s σ H Q I q => h.run pins s σ H Q I (i σ H Q q)⟩
theorem _root_.L2.PA.imp {X : Cx} {e : List Expr} {t t' : TA} (h : PA X e t) (i : ∀ σ H Q, t' σ H Q → t σ H Q) : PA X e t' := ⟨fun pos pins s σ H Q I q => h.run pos pins s σ H Q I (i σ H Q q)⟩
theorem pe_no {X : Cx} {e : Expr} : PE X e (fun _ _ _ => False) := ⟨fun _ _ _ _ _ _ h => h.elim⟩
theorem pt_no {X : Cx} {e : Expr} : PT X e (fun _ _ _ => False) := ⟨fun _ _ _ _ _ _ h => h.elim⟩
theorem pss_no {X : Cx} {e : List Stmt} : PSs X e (fun _ _ _ => False) := ⟨fun _ _ _ _ _ _ h => h.elim⟩

/-- a tracked list is known from now on to be as it is -/
theorem inv_frz {X : Cx} {pins : List (Addr × Obj)} {σ : L2.St} {H : Hp} {s : Shared} {p : Addr} {vs : List V} (I : Inv X pins σ H s) (h : H p = some (.lst vs)) :
    ∃ o, Inv X pins σ (upd H p (.frz o (.lst vs))) s := by
  obtain ⟨z, its, n, r, e⟩ := (show ObjOk X.prog X.w H s.heap p (.lst vs) from I.hok p _ h)
  refine ⟨_, Inv.un (t' := s.toks) (h' := s.heap) (H' := upd H p (.frz { cls := .type "list", data := .seq its.toArray n } (.lst vs))) I ⟨fun b o q _ _ _ => q, fun b o q _ _ _ => ⟨o.slots, q⟩, fun b o q nn _ => ?_, fun b o q _ => ⟨o, q⟩, fun b xs q => ?_, fun b o u q => ?_, fun b ps q => ?_⟩ fun b u q => ?_⟩
  · rw [upd_ne (fun zz => by subst zz; rw [h] at nn; cases nn)]; exact nn
  · rw [upd_ne (fun zz => by subst zz; rw [h] at q; cases q)]; exact q
  · rw [upd_ne (fun zz => by subst zz; rw [h] at q; cases q)]; exact q
  · refine ⟨#[], ?_⟩
    rw [upd_ne (fun zz => by subst zz; rw [h] at q; cases q), q]; simp
  · by_cases zz : b = p
    · subst zz
      rw [upd_same] at q
      cases q
      exact ⟨e, z, its, n, r, e⟩
    · rw [upd_ne zz] at q
      refine (I.hok b u q).stay (fun c w _ hc => hc) (fun c hc => ?_) fun c xs hc => ?_
      · rw [upd_ne (fun y => by subst y; rw [h] at hc; cases hc)]; exact hc
      · rw [upd_ne (fun y => by subst y; rw [h] at hc; cases hc)]; exact hc
/-- a value is handed on: from now on nobody changes it -/
theorem pe_keep {X : Cx} {e : Expr} {ρ ρ1 : DEnv} {d : Dat} {m : Mode} (h : PE X e (tS X.K ρ d m ρ1)) : PE X e (tS X.K ρ d .frz (keep m ρ1 d)) := by
  refine ⟨fun pins s σ H Q I q => ?_⟩
  obtain ⟨B, R, k⟩ := q
  refine thn (h.run pins s σ H (fun v H' => REnv X.K B σ H' ρ1 ∧ FrzLe H H' ∧ RV X.K B σ ρ1 H' v d m) I ⟨B, R, fun v H' a b c => ⟨a, b, c⟩⟩) fun u s1 hh => ?_
  obtain ⟨v, H1, I1, rv, R1, f1, r⟩ := hh
  cases m with
  | frz => exact ⟨v, H1, I1, rv, k v H1 R1 f1 r⟩
  | fresh =>
    obtain ⟨p, rfl, ⟨vs, ds, rfl, e, l⟩, bp, ns⟩ := r
    obtain ⟨o, J⟩ := inv_frz I1 e
    have f2 : FrzLe H1 (upd H1 p (.frz o (.lst vs))) := FrzLe.mut e rfl
    refine ⟨.ref p, _, J, rv, k _ _ ?_ (f1.trans f2) (.lst upd_same (l.mono f2))⟩
    refine R1.step f2 (fun a u hb ha => ?_) fun i d' q hi hs => ?_
    · rw [upd_ne (fun z => by subst z; rw [bp] at hb; cases hb)]; exact ha
    · rw [upd_ne (fun z => by subst z; exact ns i d' hi hs)]
  | brw i =>
    obtain ⟨h1, h2⟩ := r
    obtain ⟨p, g1, g2, vs, ds, rfl, g3, l⟩ := R1.own i _ h2
    rw [h1] at g1; cases g1
    obtain ⟨o, J⟩ := inv_frz I1 g3
    have f2 : FrzLe H1 (upd H1 p (.frz o (.lst vs))) := FrzLe.mut g3 rfl
    have hi : i < ρ1.length := (List.getElem?_eq_some_iff.mp h2).1
    refine ⟨.ref p, _, J, rv, k _ _ ⟨fun a u hb => ?_, ?_, fun j d' hj => ?_, fun j d' hj => ?_, fun j j' d' e' q a1 a2 a3 a4 => ?_⟩ (f1.trans f2) (.lst upd_same (l.mono f2))⟩
    · rw [upd_ne (fun z => by subst z; rw [g2] at hb; cases hb)]; exact R1.base a u hb
    · show σ.length = (ρ1.set i _).length
      rw [List.length_set]; exact R1.len
    · have hj' : (ρ1.set i (.val (.lst ds)))[j]? = some (.val d') := hj
      by_cases z : i = j
      · subst z
        rw [List.getElem?_set_self hi] at hj'
        cases hj'
        exact ⟨_, h1, .lst upd_same (l.mono f2)⟩
      · rw [List.getElem?_set_ne z] at hj'
        obtain ⟨w, w1, w2⟩ := R1.val j d' hj'
        exact ⟨w, w1, w2.mono f2⟩
    · have hj' : (ρ1.set i (.val (.lst ds)))[j]? = some (.own d') := hj
      by_cases z : i = j
      · subst z
        rw [List.getElem?_set_self hi] at hj'
        cases hj'
      · rw [List.getElem?_set_ne z] at hj'
        obtain ⟨w, w1, w2, w3⟩ := R1.own j d' hj'
        refine ⟨w, w1, w2, w3.mono f2 (upd_ne fun y => ?_)⟩
        subst y
        exact z (R1.sep i j _ _ w h2 hj' h1 w1)
    · have b1 : (ρ1.set i (.val (.lst ds)))[j]? = some (.own d') := a1
      have b2 : (ρ1.set i (.val (.lst ds)))[j']? = some (.own e') := a2
      have n1 : i ≠ j := fun z => by subst z; rw [List.getElem?_set_self hi] at b1; cases b1
      have n2 : i ≠ j' := fun z => by subst z; rw [List.getElem?_set_self hi] at b2; cases b2
      rw [List.getElem?_set_ne n1] at b1
      rw [List.getElem?_set_ne n2] at b2
      exact R1.sep j j' d' e' q b1 b2 a3 a4
end Ev
set_option Elab.async false
set_option linter.all false
set_option maxRecDepth 100000
namespace Ev
open PySem PySem.Spec PyProof.Rows L2

theorem sm_le {n : Nat} (h : sm n = true) : n ≤ sizeLine := Nat.le_trans (of_decide_eq_true h) (by decide)
theorem sm_lt {n : Nat} (h : sm n = true) : n < sizeLine := Nat.lt_of_le_of_lt (of_decide_eq_true h) (by decide)

/-! ### from slots to the model's own reading of data -/
theorem reads_ints {h : Heap} : ∀ {ns : List Int} {us : List Value}, Vals (ns.map V.int) us → ∃ as, ReadsAll h us (ns.map PyData.int) as
  | [], _, r => by cases r; exact ⟨[], .nil⟩
  | n :: ns, _, r => by
    cases r with
    | cons a b =>
      obtain ⟨t, rfl⟩ := a
      obtain ⟨as, ra⟩ := reads_ints b
      exact ⟨_, .cons (.int n t) ra⟩
mutual
theorem reads_is {X : Cx} {pins : List (Addr × Obj)} {σ : L2.St} {H : Hp} {s : Shared} (I : Inv X pins σ H s) : ∀ {v : V} {d : Dat}, Is X.K H v d → ∀ {u : Value}, RelV v u → ∃ as, Reads s.heap u d.toPy as ∧ (d.noLst = true → sysModules ∉ as)
  | _, _, .non, u, r => by cases r; exact ⟨[], .none, fun _ => List.not_mem_nil⟩
  | _, _, .bl b, u, r => by cases r; exact ⟨[], .bool b, fun _ => List.not_mem_nil⟩
  | _, _, .int i, u, r => by obtain ⟨t, rfl⟩ := r; exact ⟨[], .int i t, fun _ => List.not_mem_nil⟩
  | _, _, .str x, u, r => by obtain ⟨t, rfl⟩ := r; exact ⟨[], .str x t, fun _ => List.not_mem_nil⟩
  | _, _, .tup a l, u, r => by
    cases r
    obtain ⟨its, rv, ⟨o, ho, hc, n, hd⟩, _⟩ := I.tuple a
    obtain ⟨as, ra, hn⟩ := reads_isL I l rv
    exact ⟨as, .tuple ho hc hd (by simpa using ra), fun h => hn h⟩
  | _, _, .lst a l, u, r => by
    cases r
    obtain ⟨_, z, its, n, rv, ho⟩ := (show ObjOk X.prog X.w H s.heap _ (.frz _ (.lst _)) from I.hok _ _ a)
    obtain ⟨as, ra, _⟩ := reads_isL I l rv
    exact ⟨_, .list ho rfl rfl (by simpa using ra), fun h => nomatch h⟩
  | _, .scr ns, .scr a, u, r => by
    cases r
    obtain ⟨its, rv, ⟨o, n, ho, hc, _, hd⟩, _⟩ := I.list a.sq
    obtain ⟨as, ra⟩ := reads_ints rv
    exact ⟨_, .list ho hc hd (by simpa using ra), fun h => nomatch h⟩
  | _, .dic kvs, .dic a c e f rk rv lk lv, u, r => by
    cases r
    obtain ⟨ho, _⟩ := (show ObjOk X.prog X.w H s.heap _ (.frz _ (.own _)) from I.hok _ _ a)
    obtain ⟨as, ra, na⟩ := reads_isL I lk rk
    obtain ⟨bs, rb, nb⟩ := reads_isL I lv rv
    refine ⟨_, .dict ho c e (?_ : ReadsAll s.heap _ ((toPyKv kvs).map (·.1)) as) (?_ : ReadsAll s.heap _ ((toPyKv kvs).map (·.2)) bs), fun h => ?_⟩
    · rw [toPyKv_fst]; exact ra
    · rw [toPyKv_snd]; exact rb
    · have h2 := noLstKv_split kvs h
      intro z
      rcases List.mem_append.mp z with z | z
      · rcases List.mem_cons.mp z with z | z
        · subst z; exact absurd f (by decide)
        · exact na h2.1 z
      · exact nb h2.2 z
theorem reads_isL {X : Cx} {pins : List (Addr × Obj)} {σ : L2.St} {H : Hp} {s : Shared} (I : Inv X pins σ H s) : ∀ {vs : List V} {ds : List Dat}, IsL X.K H vs ds → ∀ {us : List Value}, Vals vs us → ∃ as, ReadsAll s.heap us (toPys ds) as ∧ (noLsts ds = true → sysModules ∉ as)
  | _, _, .nil, us, r => by cases r; exact ⟨[], .nil, fun _ => List.not_mem_nil⟩
  | _, _, .cons a l, us, r => by
    cases r with
    | cons r1 r2 =>
      obtain ⟨as, ra, na⟩ := reads_is I a r1
      obtain ⟨bs, rb, nb⟩ := reads_isL I l r2
      refine ⟨as ++ bs, .cons ra rb, fun h z => ?_⟩
      have h' := Bool.and_eq_true_iff.mp (show (Dat.noLst _ && noLsts _) = true from h)
      rcases List.mem_append.mp z with z | z
      · exact na h'.1 z
      · exact nb h'.2 z
theorem toPyKv_fst : ∀ kvs : List (Dat × Dat), (toPyKv kvs).map (·.1) = toPys (kvs.map (·.1))
  | [] => rfl
  | (k, v) :: r => by simp [toPyKv, toPys, toPyKv_fst r]
theorem toPyKv_snd : ∀ kvs : List (Dat × Dat), (toPyKv kvs).map (·.2) = toPys (kvs.map (·.2))
  | [] => rfl
  | (k, v) :: r => by simp [toPyKv, toPys, toPyKv_snd r]
theorem noLstKv_split : ∀ kvs : List (Dat × Dat), noLstKv kvs = true → noLsts (kvs.map (·.1)) = true ∧ noLsts (kvs.map (·.2)) = true
  | [], _ => ⟨rfl, rfl⟩
  | (k, v) :: r, h => by
    have h1 := Bool.and_eq_true_iff.mp (show (k.noLst && v.noLst && noLstKv r) = true from h)
    have h2 := Bool.and_eq_true_iff.mp h1.1
    have h3 := noLstKv_split r h1.2
    exact ⟨Bool.and_eq_true_iff.mpr ⟨h2.1, h3.1⟩, Bool.and_eq_true_iff.mpr ⟨h2.2, h3.2⟩⟩
end
theorem reads_rdb {X : Cx} {pins : List (Addr × Obj)} {σ : L2.St} {H : Hp} {s : Shared} (I : Inv X pins σ H s) {v : V} {d : Dat} {u : Value} (h : Rdb X.K H v d) (r : RelV v u) : ∃ as, Reads s.heap u d.toPy as ∧ (d.noLst = true → sysModules ∉ as) := by
  rcases h with h | ⟨p, rfl, vs, ds, rfl, e, l⟩
  · exact reads_is I h r
  · cases r
    obtain ⟨z, its, n, rv, ho⟩ := (show ObjOk X.prog X.w H s.heap _ (.lst _) from I.hok _ _ e)
    obtain ⟨as, ra, _⟩ := reads_isL I l rv
    exact ⟨_, .list ho rfl rfl (by simpa using ra), fun h => nomatch h⟩
end Ev
namespace Ev
open PySem PySem.Spec PyProof.Rows L2
section
variable {X : Cx} {B : Hp} {σ : L2.St} {H : Hp} {ρ : DEnv} {Q : VK} {d : Dat} {v : V}
/-- what is wanted of a value that has come -/
def Want (K : PySem.W.Frag) (B : Hp) (σ : L2.St) (ρ : DEnv) (H : Hp) (d : Dat) (m : Mode) (Q : VK) : Prop := ∀ v H', REnv K B σ H' ρ → FrzLe H H' → RV K B σ ρ H' v d m → Q v H'
theorem Want.val {K : PySem.W.Frag} (R : REnv K B σ H ρ) (w : Want K B σ ρ H d .frz Q) (h : Is K H v d) : Q v H := w v H R (FrzLe.refl H) h
theorem Want.tup {K : PySem.W.Frag} {vs : List V} {ds : List Dat} {p : Addr} (R : REnv K B σ H ρ) (w : Want K B σ ρ H (.tup ds) .frz Q) (l : IsL K H vs ds) (hp : H p = none) : Q (.ref p) (upd H p (.tup vs)) :=
  w _ _ (R.new hp) (FrzLe.new hp) (.tup (.inl (.inl upd_same)) (l.mono (FrzLe.new hp)))
theorem Want.lst {K : PySem.W.Frag} {vs : List V} {ds : List Dat} {p : Addr} (R : REnv K B σ H ρ) (w : Want K B σ ρ H (.lst ds) .fresh Q) (l : IsL K H vs ds) (hp : H p = none) : Q (.ref p) (upd H p (.lst vs)) :=
  w _ _ (R.new hp) (FrzLe.new hp) ⟨p, rfl, ⟨vs, ds, rfl, upd_same, l.mono (FrzLe.new hp)⟩, R.newB hp, R.newS hp⟩

/-- two lists, tracked or known, one behind the other -/
def rCatR : R2 := fun x y H Q => ∃ l b xs zs, x = .ref l ∧ y = .ref b ∧ Rd H l (.lst xs) ∧ Rd H b (.lst zs) ∧ xs.length + zs.length ≤ sizeLine ∧ ∀ p, H p = none → Q (.ref p) (upd H p (.lst (xs ++ zs)))
theorem op_catR : OpR X (binaryOp .Add) rCatR := by
  intro pins s σ H x y v u Q I rx ry h
  obtain ⟨l, b, xs, zs, rfl, rfl, h1, h2, hz, q⟩ := h
  cases rx
  cases ry
  obtain ⟨z, its, n, r, e⟩ := (show ObjOk X.prog X.w H s.heap l (.lst xs) from h1.ok I.hok)
  obtain ⟨z2, its2, n2, r2, e2⟩ := (show ObjOk X.prog X.w H s.heap b (.lst zs) from h2.ok I.hok)
  have len1 := r.length
  have len2 := r2.length
  refine PySem.P.add_list e e2 ?_ (by rw [List.size_toArray, List.size_toArray]; omega)
  rw [show its.toArray ++ its2.toArray = (its ++ its2).toArray by simp]
  exact ⟨.ref _, _, I.lnew (t' := s.toks) (r.append r2) (by rw [List.length_append]; omega), rfl, q _ I.fresh⟩
theorem Rdb.lstR {K : PySem.W.Frag} {ds : List Dat} (h : Rdb K H v (.lst ds)) : ∃ a vs, v = .ref a ∧ Rd H a (.lst vs) ∧ IsL K H vs ds := by
  rcases h with h | ⟨p, rfl, vs, _, e, h2, h3⟩
  · cases h with
    | lst a b => exact ⟨_, _, rfl, .inr ⟨_, a⟩, b⟩
  · cases e; exact ⟨p, vs, rfl, .inl h2, h3⟩
/-- a text, some times over -/
theorem small_not_long {n : Nat} (h : n ≤ 100 * 1000) : Builtin.Str.tooLong n = false := by
  unfold Builtin.Str.tooLong
  exact decide_eq_false (by have : (100 * 1000 : Nat) < sizeLine := by decide
                            omega)
theorem op_mulS : OpR X (binaryOp .Mult) (fun x y H Q => ∃ (z : Str) (j : Int), x = .str z ∧ y = .int j ∧ (1 < j ∧ j ≤ 1000 ∧ z.length ≤ 100) ∧ Q (.str (Txt.mul z j)) H) := by
  intro pins s σ H x y v u Q I rx ry h
  obtain ⟨z, j, rfl, rfl, ⟨h1, h2, h3⟩, q⟩ := h
  obtain ⟨t, rfl⟩ := rx
  obtain ⟨t', rfl⟩ := ry
  have hj : j.toNat ≤ 1000 := by omega
  refine PySem.SB.mul ⟨?_, fun _ _ => ?_, fun _ _ => ?_⟩ fun t' k => ⟨.str _, H, I.tok _, ⟨_, rfl⟩, q⟩
  · rw [decide_eq_false (by omega), decide_eq_false (by omega)]; rfl
  · intro hh
    have : (2 ^ 63 - 1) / j ≥ (2 ^ 63 - 1) / 1000 := by
      apply Int.le_ediv_of_mul_le (by omega)
      have : ((2 ^ 63 - 1 : Int) / 1000) * j ≤ ((2 ^ 63 - 1 : Int) / 1000) * 1000 := Int.mul_le_mul_of_nonneg_left (by omega) (by decide)
      have h9 : ((2 ^ 63 - 1 : Int) / 1000) * 1000 ≤ 2 ^ 63 - 1 := by decide
      omega
    have h8 : ((2 ^ 63 - 1 : Int) / 1000) > 100 := by decide
    omega
  · have : z.length * j.toNat ≤ 100 * 1000 := Nat.mul_le_mul h3 hj
    exact small_not_long this
theorem bin_snd {op : Operator} {x y : Dat} {m : Mode} (h : binD op x y = some (d, m)) : ∃ r, OpR X (binaryOp op) r ∧
    ∀ B σ ρ H v w Q, REnv X.K B σ H ρ → Rdb X.K H v x → Rdb X.K H w y → Want X.K B σ ρ H d m Q → r v w H Q := by
  unfold binD at h
  split at h
  · cases h
    exact ⟨_, op_add, fun B σ ρ H v w Q R a b k => ⟨_, _, a.int, b.int, k.val R (.int _)⟩⟩
  · cases h
    exact ⟨_, op_sub, fun B σ ρ H v w Q R a b k => ⟨_, _, a.int, b.int, k.val R (.int _)⟩⟩
  · split at h
    · rename_i c
      cases h
      exact ⟨_, op_mul, fun B σ ρ H v w Q R a b k => ⟨_, _, a.int, b.int, c.symm, k.val R (.int _)⟩⟩
    · cases h
  · split at h
    · rename_i c
      cases h
      exact ⟨_, op_mod, fun B σ ρ H v w Q R a b k => ⟨_, _, a.int, b.int, c, k.val R (.int _)⟩⟩
    · cases h
  · split at h
    · rename_i c
      cases h
      exact ⟨_, op_fdiv, fun B σ ρ H v w Q R a b k => ⟨_, _, a.int, b.int, c, k.val R (.int _)⟩⟩
    · cases h
  · split at h
    · rename_i c
      cases h
      exact ⟨_, op_pow, fun B σ ρ H v w Q R a b k => ⟨_, _, a.int, b.int, c, k.val R (.int _)⟩⟩
    · cases h
  · split at h
    · rename_i c
      cases h
      exact ⟨_, op_add_str, fun B σ ρ H v w Q R a b k => ⟨_, _, a.str, b.str, sm_le c, k.val R (.str _)⟩⟩
    · cases h
  · split at h
    · rename_i c
      cases h
      refine ⟨_, op_catR, fun B σ ρ H v w Q R a b k => ?_⟩
      obtain ⟨p, vs, rfl, hp, l⟩ := a.lstR
      obtain ⟨q, ws, rfl, hq, l2⟩ := b.lstR
      exact ⟨p, q, vs, ws, rfl, rfl, hp, hq, by rw [l.length, l2.length]; exact sm_le c, fun n hn => k.lst R (l.append l2) hn⟩
    · cases h
  · split at h
    · rename_i c
      cases h
      refine ⟨_, op_catA, fun B σ ρ H v w Q R a b k => ?_⟩
      obtain ⟨p, vs, rfl, hp, l⟩ := a.tup
      obtain ⟨q, ws, rfl, hq, l2⟩ := b.tup
      refine ⟨p, q, vs, ws, rfl, rfl, hp, hq, by rw [l.length, l2.length]; exact sm_le c, fun e => ?_, fun _ e => ?_, fun _ _ n hn => k.tup R (l.append l2) hn⟩
      · subst e; cases l; exact k.val R (.tup hq l2)
      · subst e; cases l2
        rw [List.append_nil] at k
        exact k.val R (.tup hp l)
    · cases h
  · split at h
    · rename_i c
      cases h
      exact ⟨_, op_mulS, fun B σ ρ H v w Q R a b k => ⟨_, _, a.str, b.int, c, k.val R (.str _)⟩⟩
    · cases h
  · cases h
end
end Ev
set_option Elab.async false
set_option linter.all false
set_option maxRecDepth 100000
namespace Ev
open PySem PySem.Spec PyProof.Rows L2
section
variable {X : Cx}
theorem op_eqR (hu : X.A.units + 64 < cLine) (dx dy : Dat) (fx : dx.fit = true) (fy : dy.fit = true) : OpR X (compareOp .Eq) (fun x y H Q => Rdb X.K H x dx ∧ Rdb X.K H y dy ∧ Q (.bl (PyData.eqv dx.toPy dy.toPy)) H) := by
  intro pins s σ H x y v u Q I rx ry h
  obtain ⟨a, b, q⟩ := h
  obtain ⟨as, ra, _⟩ := reads_rdb I a rx
  obtain ⟨bs, rb, _⟩ := reads_rdb I b ry
  exact eq_dataH ra rb fx fy hu ⟨.bl _, H, I, rfl, q⟩
theorem op_neR (hu : X.A.units + 64 < cLine) (dx dy : Dat) (fx : dx.fit = true) (fy : dy.fit = true) : OpR X (compareOp .NotEq) (fun x y H Q => Rdb X.K H x dx ∧ Rdb X.K H y dy ∧ Q (.bl (!PyData.eqv dx.toPy dy.toPy)) H) := by
  intro pins s σ H x y v u Q I rx ry h
  obtain ⟨a, b, q⟩ := h
  obtain ⟨as, ra, _⟩ := reads_rdb I a rx
  obtain ⟨bs, rb, _⟩ := reads_rdb I b ry
  exact ne_dataH ra rb fx fy hu ⟨.bl _, H, I, rfl, q⟩
theorem op_eqT0 (hu : X.A.units + 64 < cLine) : OpR X (compareOp .Eq) (fun x y H Q => ∃ a b xs, x = .ref a ∧ y = .ref b ∧ SqT X.K H a xs ∧ SqT X.K H b [] ∧ Q (.bl xs.isEmpty) H) := by
  intro pins s σ H x y v u Q I rx ry h
  obtain ⟨a, b, xs, rfl, rfl, h1, h2, q⟩ := h
  cases rx
  cases ry
  obtain ⟨its, r, t, _⟩ := I.tuple h1
  obtain ⟨its2, r2, t2, _⟩ := I.tuple h2
  cases r2
  have len := r.length
  have e := PySem.SeqAt.RcAt.tuples (A := X.A) (s := s) (e := fun _ => true) t t2 (by omega) (fun j _ h2 => absurd h2 (Nat.not_lt_zero j))
  refine e X.prog X.w X.xe _ ?_
  have e2 : ((List.range (min its.toArray.size (#[] : Array Value).size)).all (fun _ => true) && its.toArray.size == (#[] : Array Value).size) = xs.isEmpty := by
    cases xs with
    | nil => cases r; rfl
    | cons x xs => cases r; simp
  exact ⟨.bl _, H, I, by rw [← e2]; rfl, q⟩
theorem op_eqL0 (hu : X.A.units + 64 < cLine) : OpR X (compareOp .Eq) (fun x y H Q => ∃ a b xs, x = .ref a ∧ y = .ref b ∧ SqL X.K H a xs ∧ SqL X.K H b [] ∧ Q (.bl xs.isEmpty) H) := by
  intro pins s σ H x y v u Q I rx ry h
  obtain ⟨a, b, xs, rfl, rfl, h1, h2, q⟩ := h
  cases rx
  cases ry
  obtain ⟨its, r, t, _⟩ := I.list h1
  obtain ⟨its2, r2, t2, _⟩ := I.list h2
  cases r2
  cases xs with
  | nil =>
    cases r
    have e := PySem.SeqAt.RcAt.lists (A := X.A) (s := s) (e := fun _ => true) t.isList t2.isList rfl (by omega) (fun j _ h2 => absurd h2 (Nat.not_lt_zero j))
    exact e X.prog X.w X.xe _ ⟨.bl _, H, I, rfl, q⟩
  | cons x xs =>
    cases r
    have e := PySem.SeqAt.RcAt.lists_lengths (A := X.A) (s := s) t.isList t2.isList (by simp) (by omega)
    exact e X.prog X.w X.xe _ ⟨.bl _, H, I, rfl, q⟩

theorem flat_is {K : PySem.W.Frag} {H : Hp} {v : V} {d : Dat} (h : Is K H v d) (f : d.flat = true) : flatV v = true := by
  cases h <;> first | rfl | cases f
theorem flat_eq {K : PySem.W.Frag} {H : Hp} {v w : V} {a b : Dat} (ha : Is K H v a) (hb : Is K H w b) (fa : a.flat = true) (fb : b.flat = true) : eqV v w = PyData.eqv a.toPy b.toPy := by
  cases ha <;> first | cases fa | skip
  all_goals (cases hb <;> first | cases fb | skip)
  all_goals first | rfl | simp [eqV, PyData.eqv, Dat.toPy]
theorem flat_all {K : PySem.W.Frag} {H : Hp} : ∀ {vs : List V} {ds : List Dat}, IsL K H vs ds → ds.all Dat.flat = true → vs.all flatV = true
  | _, _, .nil, _ => rfl
  | _, _, .cons a l, f => by
    have f' := Bool.and_eq_true_iff.mp (show (Dat.flat _ && List.all _ Dat.flat) = true from f)
    rw [List.all_cons, flat_is a f'.1, flat_all l f'.2] <;> rfl
theorem flat_any {K : PySem.W.Frag} {H : Hp} {w : V} {b : Dat} (hb : Is K H w b) (fb : b.flat = true) : ∀ {vs : List V} {ds : List Dat}, IsL K H vs ds → ds.all Dat.flat = true → inV w vs = ds.any fun y => PyData.eqv y.toPy b.toPy
  | _, _, .nil, _ => rfl
  | _, _, .cons a l, f => by
    have f' := Bool.and_eq_true_iff.mp (show (Dat.flat _ && List.all _ Dat.flat) = true from f)
    have e := flat_any hb fb l f'.2
    unfold inV at e ⊢
    rw [List.any_cons, List.any_cons, flat_eq a hb f'.1 fb, e]
theorem Rdb.flat {K : PySem.W.Frag} {H : Hp} {v : V} {d : Dat} (h : Rdb K H v d) (f : d.flat = true) : Is K H v d := by
  rcases h with h | ⟨p, rfl, vs, ds, rfl, _⟩
  · exact h
  · cases f
theorem sign_of {w : Str} {c : Nat} (h : w.cps.toList = [c]) : w = ⟨#[c]⟩ := by
  obtain ⟨⟨l⟩⟩ := w
  have h' : l = [c] := h
  subst h'
  rfl
theorem in_snd {x y : Dat} {b : Bool} (h : inD x y = some b) : ∃ r r', OpR X (compareOp .In) r ∧ OpR X (compareOp .NotIn) r' ∧
    (∀ H v w Q, Rdb X.K H v x → Rdb X.K H w y → Q (.bl b) H → r v w H Q) ∧ ∀ H v w Q, Rdb X.K H v x → Rdb X.K H w y → Q (.bl (!b)) H → r' v w H Q := by
  unfold inD at h
  split at h
  · split at h
    · split at h
      · rename_i z c e
        cases h
        have e2 := sign_of e
        subst e2
        exact ⟨_, _, op_in_sign, op_notIn_sign, fun H v w Q a c k => ⟨_, _, a.str, c.str, k⟩, fun H v w Q a c k => ⟨_, _, a.str, c.str, k⟩⟩
      · cases h
    · cases h
  · split at h
    · rename_i f
      have f' := Bool.and_eq_true_iff.mp f
      cases h
      refine ⟨_, _, op_in_seq, op_notIn_seq, fun H v w Q a c k => ?_, fun H v w Q a c k => ?_⟩
      · obtain ⟨p, vs, rfl, hp, l⟩ := c.lst
        refine ⟨p, vs, rfl, .inl hp, flat_is (a.flat f'.1) f'.1, flat_all l f'.2, ?_⟩
        rw [flat_any (a.flat f'.1) f'.1 l f'.2]
        exact k
      · obtain ⟨p, vs, rfl, hp, l⟩ := c.lst
        refine ⟨p, vs, rfl, .inl hp, flat_is (a.flat f'.1) f'.1, flat_all l f'.2, ?_⟩
        rw [flat_any (a.flat f'.1) f'.1 l f'.2]
        exact k
    · cases h
  · cases h
theorem ints_snd {p : Int → Int → Bool} {x y : Dat} {b : Bool} (h : intsD p x y = some b) : ∃ i j, x = .int i ∧ y = .int j ∧ b = p i j := by
  unfold intsD at h
  split at h
  · cases h; exact ⟨_, _, rfl, rfl, rfl⟩
  · cases h
theorem flat_snd {x y : Dat} {b : Bool} (h : eqFlat x y = some b) : ∃ v w : V, scal v w = true ∧ decide (v = w) = b ∧ ∀ K H, (∀ v', Rdb K H v' x → v' = v) ∧ ∀ w', Rdb K H w' y → w' = w := by
  unfold eqFlat at h
  split at h
  · cases h
    rename_i x y
    exact ⟨.str x, .str y, rfl, by by_cases e : x = y <;> simp [e], fun K H => ⟨fun v' q => q.str, fun w' q => q.str⟩⟩
  · cases h
    rename_i x y
    exact ⟨.int x, .int y, rfl, by by_cases e : x = y <;> simp [e], fun K H => ⟨fun v' q => q.int, fun w' q => q.int⟩⟩
  · cases h
    rename_i x y
    exact ⟨.bl x, .bl y, rfl, by by_cases e : x = y <;> simp [e], fun K H => ⟨fun v' q => q.bl, fun w' q => q.bl⟩⟩
  · cases h
    refine ⟨.non, .non, rfl, by simp, fun K H => ⟨fun v' q => ?_, fun w' q => ?_⟩⟩
    · rcases q with q | ⟨p, _, _, _, e, _⟩
      · cases q; rfl
      · cases e
    · rcases q with q | ⟨p, _, _, _, e, _⟩
      · cases q; rfl
      · cases e
  · cases h
theorem eq_snd {x y : Dat} {b : Bool} (hu : X.A.units + 64 < cLine) (h : eqD x y = some b) : ∃ r, OpR X (compareOp .Eq) r ∧
    ∀ H v w Q, Rdb X.K H v x → Rdb X.K H w y → Q (.bl b) H → r v w H Q := by
  unfold eqD at h
  split at h
  · rename_i r hf
    cases h
    obtain ⟨v0, w0, s1, s2, s3⟩ := flat_snd hf
    refine ⟨_, op_eq, fun H v w Q a c k => ?_⟩
    have e1 := (s3 X.K H).1 v a
    have e2 := (s3 X.K H).2 w c
    subst e1
    subst e2
    exact ⟨s1, by rw [s2]; exact k⟩
  · split at h
    · rename_i f
      have f' := Bool.and_eq_true_iff.mp f
      cases h
      exact ⟨_, op_eqR hu x y f'.1 f'.2, fun H v w Q a c k => ⟨a, c, k⟩⟩
    split at h
    · split at h
      · rename_i xs _ _
        cases h
        refine ⟨_, op_eqT0 hu, fun H v w Q a c k => ?_⟩
        obtain ⟨p, vs, rfl, hp, l⟩ := a.tup
        obtain ⟨q, ws, rfl, hq, l2⟩ := c.tup
        cases l2
        refine ⟨p, q, vs, rfl, rfl, hp, hq, ?_⟩
        have e : vs.isEmpty = xs.isEmpty := by cases l <;> rfl
        rw [e]; exact k
      · cases h
    · split at h
      · rename_i xs _ _
        cases h
        refine ⟨_, op_eqL0 hu, fun H v w Q a c k => ?_⟩
        obtain ⟨p, vs, rfl, hp, l⟩ := a.lst
        obtain ⟨q, ws, rfl, hq, l2⟩ := c.lst
        cases l2
        refine ⟨p, q, vs, rfl, rfl, hp, hq, ?_⟩
        have e : vs.isEmpty = xs.isEmpty := by cases l <;> rfl
        rw [e]; exact k
      · cases h
    · cases h
theorem cmp_snd {op : CmpOp} {x y : Dat} {b : Bool} (hu : X.A.units + 64 < cLine) (h : cmpD op x y = some b) : ∃ r, OpR X (compareOp op) r ∧
    ∀ H v w Q, Rdb X.K H v x → Rdb X.K H w y → Q (.bl b) H → r v w H Q := by
  cases op with
  | Lt => obtain ⟨i, j, rfl, rfl, rfl⟩ := ints_snd h; exact ⟨_, op_lt, fun H v w Q a c k => ⟨_, _, a.int, c.int, k⟩⟩
  | LtE => obtain ⟨i, j, rfl, rfl, rfl⟩ := ints_snd h; exact ⟨_, op_le, fun H v w Q a c k => ⟨_, _, a.int, c.int, k⟩⟩
  | Gt => obtain ⟨i, j, rfl, rfl, rfl⟩ := ints_snd h; exact ⟨_, op_gt, fun H v w Q a c k => ⟨_, _, a.int, c.int, k⟩⟩
  | GtE => obtain ⟨i, j, rfl, rfl, rfl⟩ := ints_snd h; exact ⟨_, op_ge, fun H v w Q a c k => ⟨_, _, a.int, c.int, k⟩⟩
  | In => obtain ⟨r, r', h1, _, h3, _⟩ := in_snd (X := X) (show inD x y = some b from h); exact ⟨r, h1, h3⟩
  | NotIn =>
    have h' : (inD x y).map (!·) = some b := h
    cases e : inD x y with
    | none => rw [e] at h'; cases h'
    | some c =>
      rw [e] at h'
      cases h'
      obtain ⟨r, r', _, h2, _, h4⟩ := in_snd (X := X) e
      exact ⟨r', h2, h4⟩
  | Eq => exact eq_snd hu h
  | NotEq =>
    have h' : (match eqFlat x y with
      | some r => some (!r)
      | none => if x.fit && y.fit then some (!PyData.eqv x.toPy y.toPy) else none) = some b := h
    split at h'
    · rename_i r hf
      cases h'
      obtain ⟨v0, w0, s1, s2, s3⟩ := flat_snd hf
      refine ⟨_, op_ne, fun H v w Q a c k => ?_⟩
      have e1 := (s3 X.K H).1 v a
      have e2 := (s3 X.K H).2 w c
      subst e1
      subst e2
      exact ⟨s1, by rw [s2]; exact k⟩
    · split at h'
      · rename_i f
        have f' := Bool.and_eq_true_iff.mp f
        cases h'
        exact ⟨_, op_neR hu x y f'.1 f'.2, fun H v w Q a c k => ⟨a, c, k⟩⟩
      · cases h'
  | Is => cases h
  | IsNot => cases h
end
end Ev
set_option Elab.async false
set_option linter.all false
set_option maxRecDepth 100000
namespace Ev
open PySem PySem.Spec PyProof.Rows L2
section
variable {X : Cx}
theorem call_reprR (hg : X.A.guards = some []) (hu : X.A.units + 64 < cLine) (d : Dat) (ht : d.tell = true) : CallR X (.builtin "repr") (fun xs H Q => ∃ x, xs = [x] ∧ Rdb X.K H x d ∧ Q (.str d.toPy.shown) H) := by
  intro pins s σ H xs us Q I r h
  obtain ⟨x, rfl, a, q⟩ := h
  obtain ⟨u, rfl, rx⟩ := vals1 r
  have t1 := Bool.and_eq_true_iff.mp (show (d.toPy.showable && decide (d.toPy.depth ≤ 40) && sm d.toPy.shown.length && (!d.toPy.hasDict || d.noLst)) = true from ht)
  have t2 := Bool.and_eq_true_iff.mp t1.1
  have t3 := Bool.and_eq_true_iff.mp t2.1
  have t4 : d.toPy.depth ≤ 40 := of_decide_eq_true t3.2
  obtain ⟨as, ra, hn⟩ := reads_rdb I a rx
  have hz : d.toPy.shown.length ≤ sizeLine := sm_le t2.2
  generalize hp : d.toPy = p at *
  cases ra with
  | none => exact PySem.P.repr_of_none ⟨.str _, H, I.tok _, ⟨_, rfl⟩, q⟩
  | bool b => exact PySem.P.repr_of_bool ⟨.str _, H, I.tok _, ⟨_, rfl⟩, q⟩
  | int i t => exact PySem.P.repr_of_int (of_decide_eq_true t3.1) ⟨.str _, H, I.tok _, ⟨_, rfl⟩, q⟩
  | str z t => exact PySem.P.repr_of_str ⟨.str _, H, I.tok _, ⟨_, rfl⟩, q⟩ hz
  | list h1 h2 h3 h4 =>
    refine PySem.repr_of_reads' (h₀ := s.heap) (.list h1 h2 h3 h4) t3.1 (fun hd => ?_) hg (by omega) (fun _ _ e => e) (fun h' u tk k => ⟨.str _, H, I.kept k, ⟨_, rfl⟩, q⟩) hz
    refine hn ?_
    have := t1.2
    rw [hd] at this
    simpa using this
  | tuple h1 h2 h3 h4 =>
    refine PySem.repr_of_reads' (h₀ := s.heap) (.tuple h1 h2 h3 h4) t3.1 (fun hd => ?_) hg (by omega) (fun _ _ e => e) (fun h' u tk k => ⟨.str _, H, I.kept k, ⟨_, rfl⟩, q⟩) hz
    refine hn ?_
    have := t1.2
    rw [hd] at this
    simpa using this
  | dict h1 h2 h3 h4 h5 =>
    refine PySem.repr_of_reads' (h₀ := s.heap) (.dict h1 h2 h3 h4 h5) t3.1 (fun hd => ?_) hg (by omega) (fun _ _ e => e) (fun h' u tk k => ⟨.str _, H, I.kept k, ⟨_, rfl⟩, q⟩) hz
    refine hn ?_
    have := t1.2
    rw [hd] at this
    simpa using this

def BI.name : BI → Str
  | .len => "len" | .max => "max" | .min => "min" | .all => "all" | .tuple => "tuple" | .list => "list" | .repr => "repr"
def BI.val : BI → Value
  | .len => .builtin "len" | .max => .builtin "max" | .min => .builtin "min" | .all => .builtin "all" | .tuple => .type "tuple" | .list => .type "list" | .repr => .builtin "repr"

theorem ints_is {K : PySem.W.Frag} {H : Hp} : ∀ {ds : List Dat} {ns : List Int} {vs : List V}, ints? ds = some ns → IsL K H vs ds → vs = ns.map V.int
  | [], _, _, e, l => by cases e; cases l; rfl
  | .int i :: r, ns, _, e, l => by
    cases l with
    | cons a l =>
      have e' : (ints? r).map (i :: ·) = some ns := e
      cases q : ints? r with
      | none => rw [q] at e'; cases e'
      | some ms =>
        rw [q] at e'
        cases e'
        cases a
        rw [ints_is q l]; rfl
theorem bls_is {K : PySem.W.Frag} {H : Hp} : ∀ {ds : List Dat} {ns : List Bool} {vs : List V}, bls? ds = some ns → IsL K H vs ds → vs = ns.map V.bl
  | [], _, _, e, l => by cases e; cases l; rfl
  | .bl i :: r, ns, _, e, l => by
    cases l with
    | cons a l =>
      have e' : (bls? r).map (i :: ·) = some ns := e
      cases q : bls? r with
      | none => rw [q] at e'; cases e'
      | some ms =>
        rw [q] at e'
        cases e'
        cases a
        rw [bls_is q l]; rfl
theorem strs_is {K : PySem.W.Frag} {H : Hp} : ∀ {ds : List Dat} {ns : List Str} {vs : List V}, strs? ds = some ns → IsL K H vs ds → vs = ns.map V.str
  | [], _, _, e, l => by cases e; cases l; rfl
  | .str i :: r, ns, _, e, l => by
    cases l with
    | cons a l =>
      have e' : (strs? r).map (i :: ·) = some ns := e
      cases q : strs? r with
      | none => rw [q] at e'; cases e'
      | some ms =>
        rw [q] at e'
        cases e'
        cases a
        rw [strs_is q l]; rfl
theorem max_fold : ∀ (r : List Int) (n : Int), (r.foldl (fun a b => if b > a then b else a) n = n ∨ r.foldl (fun a b => if b > a then b else a) n ∈ r) ∧ n ≤ r.foldl (fun a b => if b > a then b else a) n ∧ ∀ y ∈ r, y ≤ r.foldl (fun a b => if b > a then b else a) n
  | [], n => ⟨.inl rfl, Int.le_refl n, fun y h => nomatch h⟩
  | b :: r, n => by
    rw [List.foldl_cons]
    obtain ⟨h1, h2, h3⟩ := max_fold r (if b > n then b else n)
    refine ⟨?_, ?_, fun y hy => ?_⟩
    · rcases h1 with h1 | h1
      · rw [h1]
        by_cases c : b > n
        · rw [if_pos c]; exact .inr List.mem_cons_self
        · rw [if_neg c]; exact .inl rfl
      · exact .inr (List.mem_cons_of_mem _ h1)
    · refine Int.le_trans ?_ h2
      by_cases c : b > n
      · rw [if_pos c]; omega
      · rw [if_neg c]; omega
    · rcases List.mem_cons.mp hy with rfl | hy
      · refine Int.le_trans ?_ h2
        by_cases c : y > n
        · rw [if_pos c]; omega
        · rw [if_neg c]; omega
      · exact h3 y hy
/-- values that may be read now -/
inductive RdL (K : PySem.W.Frag) (H : Hp) : List V → List Dat → Prop
  | nil : RdL K H [] []
  | cons {v d vs ds} : Rdb K H v d → RdL K H vs ds → RdL K H (v :: vs) (d :: ds)
theorem RdL.one {K : PySem.W.Frag} {H : Hp} {vs : List V} {d : Dat} (h : RdL K H vs [d]) : ∃ v, vs = [v] ∧ Rdb K H v d := by
  cases h with
  | cons a l => cases l; exact ⟨_, rfl, a⟩
theorem RdL.two {K : PySem.W.Frag} {H : Hp} {vs : List V} {d e : Dat} (h : RdL K H vs [d, e]) : ∃ v w, vs = [v, w] ∧ Rdb K H v d ∧ Rdb K H w e := by
  cases h with
  | cons a l => obtain ⟨w, rfl, b⟩ := l.one; exact ⟨_, _, rfl, a, b⟩
theorem bi_snd {b : BI} {as : List Dat} {d : Dat} {m : Mode} (hc : X.calm = true) (hg : X.A.guards = some []) (hu : X.A.units + 64 < cLine) (h : biD b as = some (d, m)) :
    ∃ r, CallR X b.val r ∧ ∀ B σ ρ H vs Q, REnv X.K B σ H ρ → RdL X.K H vs as → Want X.K B σ ρ H d m Q → r vs H Q := by
  unfold biD at h
  split at h
  · cases h
    refine ⟨_, call_len_seq, fun B σ ρ H vs Q R l k => ?_⟩
    obtain ⟨v, rfl, a⟩ := l.one
    obtain ⟨p, ws, rfl, hp, l⟩ := a.lst
    refine ⟨p, ws, rfl, .inl hp, ?_⟩
    rw [l.length]
    exact k.val R (.int _)
  · cases h
    refine ⟨_, call_len_seq, fun B σ ρ H vs Q R l k => ?_⟩
    obtain ⟨v, rfl, a⟩ := l.one
    obtain ⟨p, ws, rfl, hp, l⟩ := a.tup
    refine ⟨p, ws, rfl, .inr hp, ?_⟩
    rw [l.length]
    exact k.val R (.int _)
  · cases h
    refine ⟨_, call_len_seq, fun B σ ρ H vs Q R l k => ?_⟩
    obtain ⟨v, rfl, a⟩ := l.one
    obtain ⟨p, rfl, hp⟩ := a.scr
    refine ⟨p, _, rfl, .inl hp, ?_⟩
    rw [List.length_map]
    exact k.val R (.int _)
  · split at h
    · rename_i c
      cases h
      refine ⟨_, call_len_str, fun B σ ρ H vs Q R l k => ?_⟩
      obtain ⟨v, rfl, a⟩ := l.one
      rw [a.str]
      exact ⟨_, rfl, sm_le c, k.val R (.int _)⟩
    · cases h
  · cases h
    refine ⟨_, call_max2 hc, fun B σ ρ H vs Q R l k => ?_⟩
    obtain ⟨v, w, rfl, a, c⟩ := l.two
    rw [a.int, c.int]
    exact ⟨_, _, rfl, k.val R (.int _)⟩
  · cases h
    refine ⟨_, call_min2 hc, fun B σ ρ H vs Q R l k => ?_⟩
    obtain ⟨v, w, rfl, a, c⟩ := l.two
    rw [a.int, c.int]
    exact ⟨_, _, rfl, k.val R (.int _)⟩
  · rename_i xs
    cases e : ints? xs with
    | none => rw [e] at h; cases h
    | some ns =>
      rw [e] at h
      cases ns with
      | nil => cases h
      | cons n r =>
        cases h
        refine ⟨_, cr_max hc, fun B σ ρ H vs Q R l k => ?_⟩
        obtain ⟨v, rfl, a⟩ := l.one
        obtain ⟨p, ws, rfl, hp, l⟩ := a.lst
        rw [ints_is e l] at hp
        refine ⟨p, n :: r, rfl, hp, Nat.succ_pos _, fun y h1 h2 => ?_⟩
        obtain ⟨g1, g2, g3⟩ := max_fold r n
        have e1 : y ≤ r.foldl (fun a b => if b > a then b else a) n := by
          rcases List.mem_cons.mp h1 with h1 | h1
          · rw [h1]; exact g2
          · exact g3 y h1
        have e2 : r.foldl (fun a b => if b > a then b else a) n ≤ y := by
          rcases g1 with g1 | g1
          · rw [g1]; exact h2 n List.mem_cons_self
          · exact h2 _ (List.mem_cons_of_mem _ g1)
        rw [Int.le_antisymm e1 e2]
        exact k.val R (.int _)
  · rename_i xs
    cases e : bls? xs with
    | none => rw [e] at h; cases h
    | some bs =>
      rw [e] at h
      cases h
      refine ⟨_, cr_all hc, fun B σ ρ H vs Q R l k => ?_⟩
      obtain ⟨v, rfl, a⟩ := l.one
      obtain ⟨p, ws, rfl, hp, l⟩ := a.lst
      rw [bls_is e l] at hp
      exact ⟨p, bs, rfl, hp, k.val R (.bl _)⟩
  · cases h
    refine ⟨_, call_tuple_of, fun B σ ρ H vs Q R l k => ?_⟩
    obtain ⟨v, rfl, a⟩ := l.one
    obtain ⟨p, ws, rfl, hp, l⟩ := a.lst
    exact ⟨p, ws, rfl, .inl ⟨hp, fun n hn => k.tup R l hn⟩⟩
  · cases h
    refine ⟨_, call_list_of, fun B σ ρ H vs Q R l k => ?_⟩
    obtain ⟨v, rfl, a⟩ := l.one
    obtain ⟨p, ws, rfl, hp, l⟩ := a.tup
    exact ⟨p, ws, rfl, .inr hp, fun n hn => k.lst R l hn⟩
  · cases h
    refine ⟨_, call_list_of, fun B σ ρ H vs Q R l k => ?_⟩
    obtain ⟨v, rfl, a⟩ := l.one
    obtain ⟨p, ws, rfl, hp, l⟩ := a.lst
    exact ⟨p, ws, rfl, .inl hp, fun n hn => k.lst R l hn⟩
  · split at h
    · rename_i dd c
      cases h
      refine ⟨_, call_reprR hg hu dd c, fun B σ ρ H vs Q R l k => ?_⟩
      obtain ⟨v, rfl, a⟩ := l.one
      exact ⟨v, rfl, a, k.val R (.str _)⟩
    · cases h
  · cases h
end
end Ev
set_option Elab.async false
set_option linter.all false
set_option maxRecDepth 100000
namespace Ev
open PySem PySem.Spec PyProof.Rows L2

/-! ### what a def promises: plain data in, plain data out -/
def argsR (K : PySem.W.Frag) (H : Hp) : List Bool → List V → List Dat → Prop
  | [], [], [] => True
  | true :: io, v :: vs, d :: ds => (∃ p, v = .ref p ∧ Own K H p d) ∧ argsR K H io vs ds
  | false :: io, v :: vs, d :: ds => Is K H v d ∧ argsR K H io vs ds
  | _, _, _ => False
def ioA : List Bool → List V → List Addr
  | true :: io, .ref p :: vs => p :: ioA io vs
  | true :: io, _ :: vs => ioA io vs
  | false :: io, _ :: vs => ioA io vs
  | _, _ => []
def outsR (K : PySem.W.Frag) (H : Hp) : List Addr → List Dat → Prop
  | [], [] => True
  | p :: ps, d :: ds => Own K H p d ∧ outsR K H ps ds
  | _, _ => False
def Post (K : PySem.W.Frag) (io : List Bool) (vs : List V) (H : Hp) (d : Dat) (new : Bool) (outs : List Dat) (v : V) (H' : Hp) : Prop :=
  (∀ a o, H a = some o → a ∉ ioA io vs → H' a = some o) ∧ FrzLe H H' ∧ outsR K H' (ioA io vs) outs ∧
    (if new = true then ∃ p, v = .ref p ∧ H p = none ∧ Own K H' p d else Is K H' v d)
def spD (K : PySem.W.Frag) (fi : FI) : List V → Hp → VK → Prop := fun vs H Q => ∃ ds d new outs, fi.run ds = .ok (d, new, outs) ∧ argsR K H fi.io vs ds ∧ (ioA fi.io vs).Nodup ∧
  ∀ v H', Post K fi.io vs H d new outs v H' → Q v H'
theorem argsR_len {K : PySem.W.Frag} {H : Hp} : ∀ {io : List Bool} {vs : List V} {ds : List Dat}, argsR K H io vs ds → vs.length = io.length ∧ ds.length = io.length
  | [], [], [], _ => ⟨rfl, rfl⟩
  | true :: io, v :: vs, d :: ds, h => by have := argsR_len h.2; simp [this.1, this.2]
  | false :: io, v :: vs, d :: ds, h => by have := argsR_len h.2; simp [this.1, this.2]

/-- a def that keeps its promise where nothing is being shown -/
structure FnG (P : Program) (w : World) (K : PySem.W.Frag) (mg : Str → Option Value) (base : Heap) (k : Nat) (f : Addr) (fd : FuncData) (ps : List Str) (sp : List V → Hp → VK → Prop) : Prop where
  len : ∀ vs H Q, sp vs H Q → vs.length = ps.length
  run : ∀ (A : Around) (outer : List PySem.Env) (s : Shared) (H : Hp) (args : Args) (us : List Value) (vs : List V) (Q : VK), Room k A → A.guards = some [] → Env0 P w K mg base A outer s H →
    BindsTo s fd args (ps.zip us) → Vals vs us → sp vs H Q → codeAny (model P w) A (.call (.ref f) args) (CR CX0 outer P w H s Q E0) s
theorem FnG.mono {P : Program} {w : World} {K : PySem.W.Frag} {mg : Str → Option Value} {base : Heap} {j k : Nat} {f : Addr} {fd : FuncData} {ps : List Str} {sp : List V → Hp → VK → Prop} (G : FnG P w K mg base j f fd ps sp) (h : j ≤ k) : FnG P w K mg base k f fd ps sp :=
  ⟨G.len, fun A outer s H args us vs Q r => G.run A outer s H args us vs Q (r.mono h)⟩

section
variable {X : Cx} {k : Nat} {f : Addr} {fd : FuncData} {ps : List Str} {sp : List V → Hp → VK → Prop} {x : Str} {p pos : Pos} {e : Expr} {es : List Expr} {t : TA}
theorem pe_callG (F : FnG X.prog X.w X.K X.mg X.base k f fd ps sp) (hr : Room k X.A) (hq : X.A.guards = some []) (hg : Gl X x) (hm : X.mg x = some (.ref f)) (hk : PySem.W.keepIn X.K (.ref f) = true) (hb : Binds X.K fd ps [])
    (ha : PA X (e :: es) t) (hdb : (x == ("__debug__" : Str)) = false) (he : starEach (e :: es) X.env = (false, eval e X.env) :: starEach es X.env) (hpl : (backTo pos (starEach es X.env)).any (·.1) = false) :
    PE X (.Call (.Name x p) (e :: es) [] pos) (fun σ H Q => t σ H fun vs H1 => sp vs H1 Q) := by
  constructor
  intro pins s σ H Q I h
  refine wpAny_Call_Name_kw (ld_glob I hg hm (PySem.W.callWith_K (h₀ := X.base) I.ok.mod.kin hk (thn (ha.run pos pins s σ H _ I h) ?_) he hpl) hdb)
  rintro us s1 ⟨vs, H1, I1, r, q⟩
  refine ⟨I1.kIn, wpAny_call (codeAny_mono (F.run X.A X.stack s1 H1 ⟨us, []⟩ us vs Q hr hq I1.env0 ?_ r q) ?_)⟩
  · have hl : us.length = ps.length := by rw [← r.length]; exact F.len _ _ _ q
    have hb' := hb s1 us I1.kIn (by rw [List.append_nil]; exact hl)
    rw [List.append_nil] at hb'
    exact hb'
  · intro r s' hq
    cases r with
    | error e => exact False.elim hq
    | ok fl =>
      cases fl with
      | ret u => exact I1.after hq
      | next => exact False.elim hq
      | brk => exact False.elim hq
      | cont => exact False.elim hq
end

/-- a def's body keeps its promise -/
theorem fnG_of {P : Program} {w : World} {K : PySem.W.Frag} {mg : Str → Option Value} {base : Heap} {k : Nat} {f : Addr} {x qual : Str} {st : Stmt} {fd : FuncData} {N ps : List Str} {sp : List V → Hp → VK → Prop}
    (F : Fun K x qual st f fd) (S : FnScope N ps (defScope st)) (len : ∀ vs H Q, sp vs H Q → vs.length = ps.length)
    (body : ∀ (cdv : Value) (A : Around) (outer : List PySem.Env) (s : Shared) (H : Hp) (vs : List V) (Q : VK), Room k (A.deeper (envOfC qual (defScope st) s.heap.objs.size f cdv)) → A.guards = some [] → sp vs H Q →
      ∃ t, PSs (cxOf CX0 P w K mg base N qual (defScope st) f cdv A outer s H E0).nox (defBody st) t ∧ t { nx := fun _ H' => Q .non H', rt := Q } (start N vs) H) :
    FnG P w K mg base (k + 1) f fd ps sp := by
  refine ⟨len, fun A outer s H args us vs Q hr hg e0 hb r hsp => ?_⟩
  obtain ⟨oc, od, kV, doc, pm, an, cdv, ct, osl, rfl, lk, hcd⟩ := F.ex
  have kept : ∀ b o, base.get? b = some o → s.heap.get? b = some o := fun b o e => (e0.bs b o e).1
  have KX : K.In s.heap := e0.mod.kin.keeps kept
  have nl : s.heap.NoLimit := e0.mod.nolimit.keeps kept
  have kinds : ∀ y ∈ ps.zip us, (defScope st).names.lookup y.1 = some .local ∨ ((defScope st).names.lookup y.1 = some .cell ∧ ((cellsFrom (s.heap.objs.size + 1) (defScope st).names []).lookup y.1).isSome = true) := by
    rintro ⟨n, z⟩ hy
    rcases S.par n (List.of_mem_zip hy).1 with c | c
    · exact .inl c
    · exact .inr ⟨c, PySem.W.cellsFrom_some _ _ _ (.inl c)⟩
  refine codeAny_call_function hr.depth (KX _ _ lk) rfl S.co S.gen rfl (PySem.W.codeRec_of KX hcd) (hb _ _ _ _ (wpAny_newFunctionEnv_cells S.kind kinds ?_))
  rintro env rfl s1 ic
  refine ⟨nl.keeps ic.toInCall.keep, codeAny_func ?_⟩
  obtain ⟨t, ht, hq⟩ := body cdv A outer s H vs Q (hr.deeper _) hg hsp
  have J : Inv (cxOf CX0 P w K mg base N qual (defScope st) f cdv A outer s H E0) [] (start N vs) H s1 := inv_start S hr.hd e0 (len _ _ _ hsp) r ic
  refine wpAny_mono (ht.nox.run [] s1 (start N vs) H _ J hq) ?_ (fun _ _ z => z)
  intro fl s' z
  cases fl with
  | ret u => obtain ⟨v, σ', H', I', rv, q⟩ := z; exact ⟨v, H', I'.os, I'.bare, I'.base, I'.hok, rv, q⟩
  | next => obtain ⟨σ', H', I', q⟩ := z; exact ⟨.non, H', I'.os, I'.bare, I'.base, I'.hok, rfl, q⟩
  | brk => obtain ⟨_, _, _, q⟩ := z; exact q.elim
  | cont => obtain ⟨_, _, _, q⟩ := z; exact q.elim
end Ev
set_option Elab.async false
set_option linter.all false
set_option maxRecDepth 100000
namespace Ev
open PySem PySem.Spec PyProof.Rows L2

def noStar : Expr → Bool
  | .Starred .. => false
  | _ => true
def noSet : Expr → Bool
  | .Set .. => false
  | _ => true
def plainIx : Expr → Bool
  | .Name .. => true
  | .Constant .. => true
  | .BinOp .. => true
  | .Call .. => true
  | .UnaryOp .. => true
  | .Subscript .. => true
  | _ => false
def plainT : Expr → Bool
  | .Name .. => true
  | .Call .. => true
  | .Subscript .. => true
  | .Attribute .. => true
  | _ => false
/-- whose attribute is looked up as it stands -/
def plainO : Expr → Bool
  | .Name .. => true
  | .Constant .. => true
  | .Subscript .. => true
  | _ => false
def vis (sc : Scope) (x : Str) : Bool := match sc.names.lookup x with
  | some .local => true
  | some .cell => true
  | some .free => true
  | _ => false
def glo (sc : Scope) (x : Str) : Bool := match sc.names.lookup x with
  | some .globalImplicit => true
  | _ => false
def isCst : Dat → Const → Bool
  | .non, .none => true
  | .bl b, .bool c => b == c
  | .int i, .int j => i == j
  | .str x, .str y => x == y
  | _, _ => false
def notOdd (x : Str) : Bool := !(x == ("__debug__" : Str)) && !(x == ("__classdict__" : Str))

/-- what may stand as a test -/
def tst : IE → Bool
  | .not a => tst a
  | .and a b => tst a && tst b
  | .or a b => tst a && tst b
  | .cmp .. => true
  | .cmp2 .. => true
  | .isi .. => true
  | .call .. => true
  | .bi .. => true
  | .var _ => true
  | .glb _ => true
  | .idx .. => true
  | _ => false
mutual
def chk (N : List Str) : Scope → IE → Expr → Bool
  | sc, .var i, e => (match e with
    | .Name x _ => decide (N[i]? = some x) && vis sc x && notOdd x
    | _ => false)
  | sc, .cst d, e => (match e with
    | .Constant c _ _ => isCst d c
    | _ => false)
  | sc, .glb x, e => (match e with
    | .Name y _ => decide (x = y) && glo sc x && notOdd x
    | _ => false)
  | sc, .tup es, e => (match e with
    | .Tuple l _ _ => chks N sc es l
    | _ => false)
  | sc, .lst es, e => (match e with
    | .List l _ => chks N sc es l
    | _ => false)
  | sc, .dic0, e => (match e with
    | .Dict [] [] _ => true
    | _ => false)
  | sc, .dic1 k v, e => (match e with
    | .Dict [some x] [y] _ => chk N sc k x && chk N sc v y
    | _ => false)
  | sc, .bin op a b, e => (match e with
    | .BinOp x o y _ => decide (op = o) && chk N sc a x && chk N sc b y
    | _ => false)
  | sc, .neg a, e => (match e with
    | .UnaryOp .USub x _ => chk N sc a x
    | _ => false)
  | sc, .not a, e => (match e with
    | .UnaryOp .Not x _ => chk N sc a x
    | _ => false)
  | sc, .and a b, e => (match e with
    | .BoolOp .And [x, y] _ => chk N sc a x && chk N sc b y
    | .BoolOp .And (x :: y :: z :: r) p => chk N sc a x && chk N sc b (.BoolOp .And (y :: z :: r) p)
    | _ => false)
  | sc, .or a b, e => (match e with
    | .BoolOp .Or [x, y] _ => chk N sc a x && chk N sc b y
    | .BoolOp .Or (x :: y :: z :: r) p => chk N sc a x && chk N sc b (.BoolOp .Or (y :: z :: r) p)
    | _ => false)
  | sc, .cmp op a b, e => (match e with
    | .Compare x [o] [y] _ => decide (op = o) && noSet y && chk N sc a x && chk N sc b y
    | _ => false)
  | sc, .cmp2 op oq a b c, e => (match e with
    | .Compare x [o, p] [y, z] _ => decide (op = o) && decide (oq = p) && noSet z && chk N sc a x && chk N sc b y && chk N sc c z
    | _ => false)
  | sc, .ite c a b, e => (match e with
    | .IfExp z x y _ => tst c && chk N sc c z && chk N sc a x && chk N sc b y
    | _ => false)
  | sc, .idx a b, e => (match e with
    | .Subscript x y _ => plainIx y && chk N sc a x && chk N sc b y
    | _ => false)
  | sc, .slcL a b, e => (match e with
    | .Subscript x (.Slice (some y) none none _) _ => chk N sc a x && chk N sc b y
    | _ => false)
  | sc, .slcR a b, e => (match e with
    | .Subscript x (.Slice none (some y) none _) _ => chk N sc a x && chk N sc b y
    | _ => false)
  | sc, .call f as, e => (match e with
    | .Call (.Name g _) (x :: l) [] _ => decide (f = g) && glo sc f && notOdd f && chks N sc as (x :: l)
    | _ => false)
  | sc, .bi b as, e => (match e with
    | .Call (.Name g _) (x :: l) [] _ => decide (b.name = g) && glo sc b.name && chks N sc as (x :: l)
    | _ => false)
  | sc, .isi a ty, e => (match e with
    | .Call (.Name g _) [x, .Name t _] [] _ => decide (g = "isinstance") && glo sc "isinstance" && decide (t = Str.ofString ty) && glo sc t && noStar x && chk N sc a x
    | _ => false)
  | sc, .join o a, e => (match e with
    | .Call (.Attribute x n ap) [y] [] cp => decide (n = "join") && plainO x && (ap.endLine == cp.line) && noStar y && chk N sc o x && chk N sc a y
    | _ => false)
  | sc, .upper o, e => (match e with
    | .Call (.Attribute x n ap) [] [] cp => decide (n = "upper") && plainO x && (ap.endLine == cp.line) && chk N sc o x
    | _ => false)
  | sc, .lc elt tg it own, e => (match e with
    | .ListComp y [⟨.Name x _, i, [], 0⟩] scope _ => noSet i && blkC N sc scope own && decide ((x, tg) ∈ own) && own.all (fun p => decide (p.2 < N.length)) && (match scope.names.lookup x with | some .local => true | some .cell => true | _ => false) && chk N sc it i && chk N (relS scope sc) elt y
    | _ => false)
  | sc, .lcI elt tg it cond own, e => (match e with
    | .ListComp y [⟨.Name x _, i, [c], 0⟩] scope _ => tst cond && noSet i && blkC N sc scope own && decide ((x, tg) ∈ own) && own.all (fun p => decide (p.2 < N.length)) && (match scope.names.lookup x with | some .local => true | some .cell => true | _ => false) && chk N sc it i && chk N (relS scope sc) elt y && chk N (relS scope sc) cond c
    | _ => false)
  | sc, .lcR elt tg a own, e => (match e with
    | .ListComp y [⟨.Name x _, .Call (.Name r _) [i] [] _, [], 0⟩] scope _ => decide (r = "range") && glo sc "range" && noStar i && blkC N sc scope own && decide ((x, tg) ∈ own) && own.all (fun p => decide (p.2 < N.length)) && (match scope.names.lookup x with | some .local => true | some .cell => true | _ => false) && chk N sc a i && chk N (relS scope sc) elt y
    | _ => false)
def chks (N : List Str) : Scope → IEs → List Expr → Bool
  | _, .nil, l => (match l with
    | [] => true
    | _ => false)
  | sc, .cons e es, l => (match l with
    | x :: r => noStar x && chk N sc e x && chks N sc es r
    | _ => false)
end

/-! ### what such looks are worth -/
theorem star_cons {e : Expr} {es : List Expr} {env : PySem.Env} (h : noStar e = true) : starEach (e :: es) env = (false, eval e env) :: starEach es env := by
  cases e <;> first | rfl | cases h
theorem star_none {es : List Expr} {env : PySem.Env} {pos : Pos} (h : ∀ e ∈ es, noStar e = true) : (backTo pos (starEach es env)).any (·.1) = false := by
  induction es with
  | nil => rfl
  | cons e r ih =>
    rw [star_cons (h e List.mem_cons_self)]
    exact ih fun x hx => h x (List.mem_cons_of_mem _ hx)
theorem chks_star {N : List Str} {sc : Scope} : ∀ {es : IEs} {l : List Expr}, chks N sc es l = true → ∀ e ∈ l, noStar e = true
  | .nil, [], _, e, h => nomatch h
  | .cons a r, x :: l, h, e, he => by
    have h1 := Bool.and_eq_true_iff.mp (show (noStar x && chk N sc a x && chks N sc r l) = true from h)
    have h2 := Bool.and_eq_true_iff.mp h1.1
    rcases List.mem_cons.mp he with rfl | he
    · exact h2.1
    · exact chks_star h1.2 e he
theorem noSet_marks {op : CmpOp} {e : Expr} (h : noSet e = true) : behindInMarks op e = false := by
  cases e <;> first | rfl | cases h
theorem noSet_marks2 {o p : CmpOp} {a e : Expr} (h : noSet e = true) : lastMarks [o, p] [a, e] = false := by
  show behindInMarks p e = false
  exact noSet_marks h
theorem noSet_fold {e : Expr} {env : PySem.Env} (h : noSet e = true) : ∀ x, foldedSetIterable e env x = pure x := by
  intro x
  cases e <;> first | rfl | cases h
theorem plain_ix {e : Expr} (h : plainIx e = true) : PlainIx e := by
  cases e <;> first | exact fun _ _ => rfl | cases h
theorem plain_t {e : Expr} {env : PySem.Env} (h : plainT e = true) : ∀ whole, isTrue e env whole = (do let v ← whole; standAt e.pos; holding [v] (truthy v)) := by
  intro whole
  cases e <;> first | rfl | cases h
theorem plain_o {e : Expr} {n : Str} {env : PySem.Env} (h : plainO e = true) : attributeBase e n env (eval e env) = eval e env := by
  cases e <;> first | rfl | cases h
theorem vis_of {sc : Scope} {x : Str} (h : vis sc x = true) : Vis sc x := by
  unfold vis at h
  unfold Vis
  split at h
  · exact .inl (by assumption)
  · exact .inr (.inl (by assumption))
  · exact .inr (.inr (by assumption))
  · cases h
theorem glo_of {X : Cx} {x : Str} (h : glo X.env.scope x = true) : Gl X x := by
  unfold glo at h
  split at h
  · assumption
  · cases h
theorem odd1 {x : Str} (h : notOdd x = true) : (x == ("__debug__" : Str)) = false := by
  have := (Bool.and_eq_true_iff.mp h).1
  simpa using this
theorem odd2 {x : Str} (h : notOdd x = true) : (x == ("__classdict__" : Str)) = false := by
  have := (Bool.and_eq_true_iff.mp h).2
  simpa using this
theorem blk_scope (scope : Scope) (cl : List (Str × Addr)) (C : Addr) (env : PySem.Env) : (compEnvC scope cl C env).scope = relS scope env.scope := rfl
end Ev
set_option Elab.async false
set_option linter.all false
set_option maxRecDepth 100000
namespace Ev
open PySem PySem.Spec PyProof.Rows L2

structure Good (T : Tab) (n : Nat) (X : Cx) : Prop where
  calm : X.calm = true
  nd : X.N.Nodup
  room : Room n X.A
  grd : X.A.guards = some []
  bt : ∀ b : BI, X.mg b.name = none
  isi : X.mg "isinstance" = none
  rng : X.mg "range" = none
  tys : ∀ ty : String, ty ∈ ["int", "bool", "str", "tuple", "list", "dict"] → X.mg (Str.ofString ty) = none
  con : ∀ x d, T.con x = some d → ∃ u v, X.mg x = some u ∧ RelV v u ∧ ∀ H, Is X.K H v d
  fns : ∀ f fi, T.fn f = some fi → ∃ a fd ps k, k ≤ n ∧ X.mg f = some (.ref a) ∧ PySem.W.keepIn X.K (.ref a) = true ∧ Binds X.K fd ps [] ∧ FnG X.prog X.w X.K X.mg X.base k a fd ps (spD X.K fi)
theorem Good.hu {T : Tab} {n : Nat} {X : Cx} (g : Good T n X) : X.A.units + 64 < cLine := by have := g.room.un; omega
theorem Good.blk {T : Tab} {n : Nat} {X : Cx} (g : Good T n X) (s : Shared) (H : Hp) (scope : Scope) (ce : PySem.Env) (fp : List Addr) : Good T n (X.blk s H scope ce fp) :=
  ⟨g.calm, g.nd, g.room, g.grd, g.bt, g.isi, g.rng, g.tys, g.con, g.fns⟩

def Shape : List Bool → Got → Prop
  | [], [] => True
  | true :: io, .slot _ :: g => Shape io g
  | true :: io, .tmp _ :: g => Shape io g
  | false :: io, .val _ :: g => Shape io g
  | _, _ => False
def tmpA : List V → Got → List Addr
  | .ref p :: vs, .tmp _ :: g => p :: tmpA vs g
  | _ :: vs, .tmp _ :: g => tmpA vs g
  | _ :: vs, .val _ :: g => tmpA vs g
  | _ :: vs, .slot _ :: g => tmpA vs g
  | _, _ => []
def gotR (K : PySem.W.Frag) (B : Hp) (σ : L2.St) (ρ : DEnv) (H : Hp) : List V → Got → Prop
  | [], [] => True
  | v :: vs, .val d :: g => Is K H v d ∧ gotR K B σ ρ H vs g
  | v :: vs, .slot i :: g => σ[i]? = some (some v) ∧ gotR K B σ ρ H vs g
  | v :: vs, .tmp d :: g => (∃ p, v = .ref p ∧ Own K H p d ∧ B p = none ∧ (∀ (i : Nat) e, ρ[i]? = some (.own e) → σ[i]? ≠ some (some (.ref p))) ∧ p ∉ tmpA vs g) ∧ gotR K B σ ρ H vs g
  | _, _ => False
theorem gotR.weak {K : PySem.W.Frag} {B B1 : Hp} {σ : L2.St} {ρ : DEnv} {H : Hp} (le : ∀ a, B1 a = none → B a = none) : ∀ {vs : List V} {g : Got}, gotR K B1 σ ρ H vs g → gotR K B σ ρ H vs g
  | [], [], _ => trivial
  | v :: vs, .val d :: g, h => ⟨h.1, gotR.weak le h.2⟩
  | v :: vs, .slot i :: g, h => ⟨h.1, gotR.weak le h.2⟩
  | v :: vs, .tmp d :: g, h => by
    obtain ⟨⟨p, e, o, b, n, t⟩, r⟩ := h
    exact ⟨⟨p, e, o, le p b, n, t⟩, gotR.weak le r⟩
theorem tmp_props {K : PySem.W.Frag} {B : Hp} {σ : L2.St} {ρ : DEnv} {H : Hp} : ∀ {vs : List V} {g : Got} {p : Addr}, gotR K B σ ρ H vs g → p ∈ tmpA vs g → B p = none ∧ ∀ (i : Nat) e, ρ[i]? = some (.own e) → σ[i]? ≠ some (some (.ref p))
  | [], [], p, _, h => nomatch h
  | v :: vs, .val d :: g, p, r, h => tmp_props r.2 (by cases v <;> exact h)
  | v :: vs, .slot i :: g, p, r, h => tmp_props r.2 (by cases v <;> exact h)
  | v :: vs, .tmp d :: g, p, r, h => by
    obtain ⟨⟨q, rfl, o, b, n, t⟩, r⟩ := r
    rcases List.mem_cons.mp (show p ∈ q :: tmpA vs g from h) with z | z
    · subst z; exact ⟨b, n⟩
    · exact tmp_props r z
def tSG (K : PySem.W.Frag) (ρ : DEnv) (g : Got) (ρ' : DEnv) : TA := fun σ H Q => ∃ B, REnv K B σ H ρ ∧ ∀ vs H', REnv K B σ H' ρ' → FrzLe H H' → gotR K B σ ρ' H' vs g → Q vs H'

theorem args_shape {T : Tab} : ∀ {io : List Bool} {es : IEs} {ρ ρ1 : DEnv} {g : Got}, evArgs T io es ρ = .ok (g, ρ1) → g.length = io.length → Shape io g
  | io, .nil, ρ, ρ1, g, h, hl => by
    simp only [evArgs] at h
    cases h
    cases io with
    | nil => trivial
    | cons _ _ => cases hl
  | true :: io, .cons e es, ρ, ρ1, g, h, hl => by
    simp only [evArgs] at h
    split at h
    · split at h
      · obtain ⟨⟨g', ρ2⟩, h1, h2⟩ := Res.bind_ok h
        cases h2
        exact (show Shape io g' from args_shape h1 (by simpa using hl))
      · cases h
    · obtain ⟨⟨d, m, ρ2⟩, h1, h2⟩ := Res.bind_ok h
      dsimp only at h2
      split at h2
      · obtain ⟨⟨g', ρ3⟩, h3, h4⟩ := Res.bind_ok h2
        cases h4
        exact (show Shape io g' from args_shape h3 (by simpa using hl))
      · cases h2
  | false :: io, .cons e es, ρ, ρ1, g, h, hl => by
    simp only [evArgs] at h
    obtain ⟨⟨d, m, ρ2⟩, h1, h2⟩ := Res.bind_ok h
    obtain ⟨⟨g', ρ3⟩, h3, h4⟩ := Res.bind_ok h2
    cases h4
    exact (show Shape io g' from args_shape h3 (by simpa using hl))
  | [], .cons e es, ρ, ρ1, g, h, hl => by
    simp only [evArgs] at h
    cases h

section
variable {K : PySem.W.Frag} {B : Hp} {σ : L2.St} {H H' : Hp} {ρ : DEnv}
theorem map_some {α : Type} {o : Option (List α)} {d : α} {ds : List α} (h : o.map (d :: ·) = some ds) : ∃ es, o = some es ∧ ds = d :: es := by
  cases o with
  | none => cases h
  | some es => cases h; exact ⟨es, rfl, rfl⟩
theorem got_args (R : REnv K B σ H ρ) : ∀ {io : List Bool} {g : Got} {vs : List V} {ds : List Dat}, Shape io g → gotR K B σ ρ H vs g → readArgs ρ g = some ds → argsR K H io vs ds
  | [], [], [], ds, _, _, h => by cases h; trivial
  | true :: io, .slot i :: g, v :: vs, ds, s, r, h => by
    unfold readArgs at h
    split at h
    · rename_i d e
      obtain ⟨es, q, rfl⟩ := map_some h
      obtain ⟨p, h1, h2, h3⟩ := R.own i d e
      rw [r.1] at h1
      cases h1
      exact ⟨⟨p, rfl, h3⟩, got_args R (show Shape io g from s) r.2 q⟩
    · cases h
  | true :: io, .tmp d :: g, v :: vs, ds, s, r, h => by
    obtain ⟨es, q, rfl⟩ := map_some (show (readArgs ρ g).map (d :: ·) = some ds from h)
    obtain ⟨⟨p, e, o, _⟩, r⟩ := r
    exact ⟨⟨p, e, o⟩, got_args R (show Shape io g from s) r q⟩
  | false :: io, .val d :: g, v :: vs, ds, s, r, h => by
    obtain ⟨es, q, rfl⟩ := map_some (show (readArgs ρ g).map (d :: ·) = some ds from h)
    exact ⟨r.1, got_args R (show Shape io g from s) r.2 q⟩
  | [], [], _ :: _, _, _, r, _ => nomatch r
  | true :: _, .slot _ :: _, [], _, _, r, _ => nomatch r
  | true :: _, .tmp _ :: _, [], _, _, r, _ => nomatch r
  | false :: _, .val _ :: _, [], _, _, r, _ => nomatch r
theorem read_own : ∀ {g : Got} {ds : List Dat} {i : Nat}, readArgs ρ g = some ds → i ∈ slotsOf g → ∃ d, ρ[i]? = some (.own d)
  | .val d :: g, ds, i, h, hi => by
    obtain ⟨es, q, rfl⟩ := map_some (show (readArgs ρ g).map (d :: ·) = some ds from h)
    exact read_own q hi
  | .tmp d :: g, ds, i, h, hi => by
    obtain ⟨es, q, rfl⟩ := map_some (show (readArgs ρ g).map (d :: ·) = some ds from h)
    exact read_own q hi
  | .slot j :: g, ds, i, h, hi => by
    unfold readArgs at h
    split at h
    · rename_i d e
      obtain ⟨es, q, rfl⟩ := map_some h
      rcases List.mem_cons.mp (show i ∈ j :: slotsOf g from hi) with z | z
      · subst z; exact ⟨d, e⟩
      · exact read_own q z
    · cases h
theorem ioA_slots : ∀ {io : List Bool} {g : Got} {vs : List V} {p : Addr}, Shape io g → gotR K B σ ρ H vs g → p ∈ ioA io vs → (∃ i ∈ slotsOf g, σ[i]? = some (some (.ref p))) ∨ p ∈ tmpA vs g
  | [], [], [], p, _, _, h => nomatch h
  | true :: io, .slot i :: g, v :: vs, p, s, r, h => by
    have fin : p ∈ ioA io vs → (∃ j ∈ slotsOf (.slot i :: g : Got), σ[j]? = some (some (.ref p))) ∨ p ∈ tmpA (v :: vs) (.slot i :: g) := fun z => by
      rcases ioA_slots (show Shape io g from s) r.2 z with ⟨j, hj, e⟩ | q
      · exact .inl ⟨j, List.mem_cons_of_mem _ hj, e⟩
      · exact .inr (by cases v <;> exact q)
    cases v with
    | ref q =>
      rcases List.mem_cons.mp (show p ∈ q :: ioA io vs from h) with z | z
      · subst z; exact .inl ⟨i, List.mem_cons_self, r.1⟩
      · exact fin z
    | non => exact fin h
    | bl _ => exact fin h
    | int _ => exact fin h
    | str _ => exact fin h
    | byt _ => exact fin h
    | flt _ => exact fin h
    | ty _ => exact fin h
  | true :: io, .tmp d :: g, v :: vs, p, s, r, h => by
    obtain ⟨⟨q, rfl, _⟩, r⟩ := r
    rcases List.mem_cons.mp (show p ∈ q :: ioA io vs from h) with z | z
    · exact .inr (by rw [z]; exact List.mem_cons_self)
    · rcases ioA_slots (show Shape io g from s) r z with ⟨j, hj, e⟩ | y
      · exact .inl ⟨j, hj, e⟩
      · exact .inr (List.mem_cons_of_mem _ y)
  | false :: io, .val d :: g, v :: vs, p, s, r, h => by
    have h' : p ∈ ioA io vs := by cases v <;> exact h
    rcases ioA_slots (show Shape io g from s) r.2 h' with ⟨j, hj, e⟩ | q
    · exact .inl ⟨j, hj, e⟩
    · exact .inr (by cases v <;> exact q)
  | [], [], _ :: _, _, _, r, _ => nomatch r
  | true :: _, .slot _ :: _, [], _, _, r, _ => nomatch r
  | true :: _, .tmp _ :: _, [], _, _, r, _ => nomatch r
  | false :: _, .val _ :: _, [], _, _, r, _ => nomatch r
theorem ioA_nodup (R : REnv K B σ H ρ) : ∀ {io : List Bool} {g : Got} {vs : List V} {ds : List Dat}, Shape io g → gotR K B σ ρ H vs g → readArgs ρ g = some ds → (slotsOf g).Nodup → (ioA io vs).Nodup
  | [], [], [], ds, _, _, _, _ => List.nodup_nil
  | true :: io, .slot i :: g, v :: vs, ds, s, r, h, nd => by
    obtain ⟨d, e⟩ := read_own h (show i ∈ i :: slotsOf g from List.mem_cons_self)
    obtain ⟨p, h1, h2, h3⟩ := R.own i d e
    rw [r.1] at h1
    cases h1
    have nd' := List.nodup_cons.mp (show (i :: slotsOf g).Nodup from nd)
    obtain ⟨es, he⟩ : ∃ es, readArgs ρ g = some es := by
      unfold readArgs at h
      rw [e] at h
      obtain ⟨es, q, _⟩ := map_some h
      exact ⟨es, q⟩
    refine List.nodup_cons.mpr ⟨fun z => ?_, ioA_nodup R (show Shape io g from s) r.2 he nd'.2⟩
    rcases ioA_slots (show Shape io g from s) r.2 z with ⟨j, hj, ej⟩ | q
    · obtain ⟨d', e'⟩ := read_own he hj
      have := R.sep i j d d' p e e' r.1 ej
      subst this
      exact nd'.1 hj
    · exact (tmp_props r.2 q).2 i d e r.1
  | true :: io, .tmp d :: g, v :: vs, ds, s, r, h, nd => by
    obtain ⟨es, he, _⟩ := map_some (show (readArgs ρ g).map (d :: ·) = some ds from h)
    obtain ⟨⟨p, rfl, o, b, n, t⟩, r⟩ := r
    refine List.nodup_cons.mpr ⟨fun z => ?_, ioA_nodup R (show Shape io g from s) r he nd⟩
    rcases ioA_slots (show Shape io g from s) r z with ⟨j, hj, ej⟩ | q
    · obtain ⟨d', e'⟩ := read_own he hj
      exact n j d' e' ej
    · exact t q
  | false :: io, .val d :: g, v :: vs, ds, s, r, h, nd => by
    obtain ⟨es, he, _⟩ := map_some (show (readArgs ρ g).map (d :: ·) = some ds from h)
    have := ioA_nodup R (show Shape io g from s) r.2 he nd
    cases v <;> exact this
  | [], [], _ :: _, _, _, r, _, _ => nomatch r
  | true :: _, .slot _ :: _, [], _, _, r, _, _ => nomatch r
  | true :: _, .tmp _ :: _, [], _, _, r, _, _ => nomatch r
  | false :: _, .val _ :: _, [], _, _, r, _, _ => nomatch r
theorem putBack_len : ∀ {g : Got} {ρ : DEnv} {outs : List Dat}, (putBack ρ g outs).length = ρ.length
  | [], ρ, outs => by cases outs <;> rfl
  | .val _ :: g, ρ, outs => by
    show (putBack ρ g outs).length = _
    exact putBack_len
  | .tmp _ :: g, ρ, [] => rfl
  | .tmp _ :: g, ρ, d :: outs => by
    show (putBack ρ g outs).length = _
    exact putBack_len
  | .slot i :: g, ρ, [] => rfl
  | .slot i :: g, ρ, d :: outs => by
    show (putBack (ρ.set i (.own d)) g outs).length = _
    rw [putBack_len, List.length_set]
theorem putBack_spec : ∀ {io : List Bool} {g : Got} {vs : List V} {ρ ρ0 : DEnv} {outs : List Dat}, Shape io g → gotR K B σ ρ0 H vs g → outsR K H' (ioA io vs) outs → (slotsOf g).Nodup → (∀ i ∈ slotsOf g, i < ρ.length ∧ ∃ p, σ[i]? = some (some (.ref p))) →
    ∀ j, (j ∉ slotsOf g → (putBack ρ g outs)[j]? = ρ[j]?) ∧ (j ∈ slotsOf g → ∃ p d, σ[j]? = some (some (.ref p)) ∧ (putBack ρ g outs)[j]? = some (.own d) ∧ Own K H' p d)
  | [], [], [], ρ, ρ0, outs, _, _, o, _, _, j => by
    cases outs with
    | nil => exact ⟨fun _ => rfl, fun z => nomatch z⟩
    | cons _ _ => exact nomatch o
  | true :: io, .slot i :: g, v :: vs, ρ, ρ0, outs, s, r, o, nd, hs, j => by
    obtain ⟨hi, p, hp⟩ := hs i List.mem_cons_self
    have nd' := List.nodup_cons.mp (show (i :: slotsOf g).Nodup from nd)
    have ev : v = .ref p := by have := r.1.symm.trans hp; cases this; rfl
    subst ev
    cases outs with
    | nil => exact nomatch o
    | cons d outs =>
      have o' : Own K H' p d ∧ outsR K H' (ioA io vs) outs := o
      have ih := putBack_spec (ρ := ρ.set i (.own d)) (show Shape io g from s) r.2 o'.2 nd'.2 (fun k hk => ⟨by rw [List.length_set]; exact (hs k (List.mem_cons_of_mem _ hk)).1, (hs k (List.mem_cons_of_mem _ hk)).2⟩) j
      show ((j ∉ i :: slotsOf g → (putBack (ρ.set i (.own d)) g outs)[j]? = ρ[j]?) ∧ (j ∈ i :: slotsOf g → ∃ p d', σ[j]? = some (some (.ref p)) ∧ (putBack (ρ.set i (.own d)) g outs)[j]? = some (.own d') ∧ Own K H' p d'))
      refine ⟨fun z => ?_, fun z => ?_⟩
      · have z1 : j ≠ i := fun q => z (by rw [q]; exact List.mem_cons_self)
        have z2 : j ∉ slotsOf g := fun q => z (List.mem_cons_of_mem _ q)
        rw [ih.1 z2, List.getElem?_set_ne (Ne.symm z1)]
      · rcases List.mem_cons.mp z with z | z
        · subst z
          refine ⟨p, d, hp, ?_, o'.1⟩
          rw [ih.1 nd'.1, List.getElem?_set_self hi]
        · exact ih.2 z
  | true :: io, .tmp d :: g, v :: vs, ρ, ρ0, outs, s, r, o, nd, hs, j => by
    obtain ⟨⟨p, rfl, _⟩, r⟩ := r
    cases outs with
    | nil => exact nomatch o
    | cons d' outs =>
      have o' : Own K H' p d' ∧ outsR K H' (ioA io vs) outs := o
      exact putBack_spec (ρ := ρ) (show Shape io g from s) r o'.2 nd hs j
  | false :: io, .val d :: g, v :: vs, ρ, ρ0, outs, s, r, o, nd, hs, j => by
    have o' : outsR K H' (ioA io vs) outs := by cases v <;> exact o
    exact putBack_spec (ρ := ρ) (show Shape io g from s) r.2 o' nd hs j
  | [], [], _ :: _, _, _, _, _, r, _, _, _, _ => nomatch r
  | true :: _, .slot _ :: _, [], _, _, _, _, r, _, _, _, _ => nomatch r
  | true :: _, .tmp _ :: _, [], _, _, _, _, r, _, _, _, _ => nomatch r
  | false :: _, .val _ :: _, [], _, _, _, _, r, _, _, _, _ => nomatch r
/-- behind a call -/
theorem call_back {io : List Bool} {g : Got} {vs : List V} {ds outs : List Dat} {d : Dat} {new : Bool} {v : V} (R : REnv K B σ H ρ) (s : Shape io g) (r : gotR K B σ ρ H vs g) (hr : readArgs ρ g = some ds) (nd : (slotsOf g).Nodup)
    (P : Post K io vs H d new outs v H') : REnv K B σ H' (putBack ρ g outs) ∧ RV K B σ (putBack ρ g outs) H' v d (if new = true then .fresh else .frz) := by
  obtain ⟨p1, p2, p3, p4⟩ := P
  have hs : ∀ i ∈ slotsOf g, i < ρ.length ∧ ∃ p, σ[i]? = some (some (.ref p)) := fun i hi => by
    obtain ⟨e, he⟩ := read_own hr hi
    obtain ⟨p, h1, _⟩ := R.own i e he
    exact ⟨(List.getElem?_eq_some_iff.mp he).1, p, h1⟩
  have sp := putBack_spec (ρ := ρ) s r p3 nd hs
  have ownB : ∀ (i : Nat) e, (putBack ρ g outs)[i]? = some (.own e) → ∃ e', ρ[i]? = some (.own e') := fun i e h => by
    by_cases hi : i ∈ slotsOf g
    · exact read_own hr hi
    · rw [(sp i).1 hi] at h; exact ⟨e, h⟩
  refine ⟨⟨fun a o hb => ?_, ?_, fun i e h => ?_, fun i e h => ?_, fun i j e e' p h1 h2 h3 h4 => ?_⟩, ?_⟩
  · refine p1 a o (R.base a o hb) fun ha => ?_
    rcases ioA_slots s r ha with ⟨i, hi, hσ⟩ | q
    · obtain ⟨e, he⟩ := read_own hr hi
      obtain ⟨p, g1, g2, _⟩ := R.own i e he
      rw [hσ] at g1; cases g1
      rw [g2] at hb; cases hb
    · rw [(tmp_props r q).1] at hb; cases hb
  · rw [putBack_len]; exact R.len
  · by_cases hi : i ∈ slotsOf g
    · obtain ⟨p, e', _, g2, _⟩ := (sp i).2 hi
      rw [g2] at h; cases h
    · rw [(sp i).1 hi] at h
      obtain ⟨w, w1, w2⟩ := R.val i e h
      exact ⟨w, w1, w2.mono p2⟩
  · by_cases hi : i ∈ slotsOf g
    · obtain ⟨p, e', g1, g2, g3⟩ := (sp i).2 hi
      rw [g2] at h; cases h
      obtain ⟨e2, he2⟩ := read_own hr hi
      obtain ⟨p', k1, k2, _⟩ := R.own i e2 he2
      rw [g1] at k1; cases k1
      exact ⟨p, g1, k2, g3⟩
    · rw [(sp i).1 hi] at h
      obtain ⟨p, k1, k2, k3⟩ := R.own i e h
      refine ⟨p, k1, k2, k3.mono p2 ?_⟩
      obtain ⟨ws, hw⟩ := k3.some
      rw [hw]
      refine p1 p _ hw fun ha => ?_
      rcases ioA_slots s r ha with ⟨j, hj, hσ⟩ | q
      · obtain ⟨e2, he2⟩ := read_own hr hj
        exact hi (by rw [R.sep i j e e2 p h he2 k1 hσ]; exact hj)
      · exact (tmp_props r q).2 i e h k1
  · obtain ⟨f1, g1⟩ := ownB i e h1
    obtain ⟨f2, g2⟩ := ownB j e' h2
    exact R.sep i j f1 f2 p g1 g2 h3 h4
  · cases new with
    | false => exact p4
    | true =>
      obtain ⟨p, rfl, hn, ho⟩ := p4
      refine ⟨p, rfl, ho, R.newB hn, fun i e h => ?_⟩
      obtain ⟨e', he'⟩ := ownB i e h
      exact R.newS hn i e' he'
end
end Ev
set_option Elab.async false
set_option linter.all false
set_option maxRecDepth 100000
namespace Ev
open PySem PySem.Spec PyProof.Rows L2
section
variable {K : PySem.W.Frag} {B : Hp} {σ : L2.St} {H H' : Hp} {ρ ρ' : DEnv}
theorem set_get {α : Type} {l : List α} {i j : Nat} {a : α} : (l.set i a)[j]? = if i = j then (if i < l.length then some a else none) else l[j]? := by
  rw [List.getElem?_set]
theorem REnv.setNo (R : REnv K B σ H ρ) (v : Nat) : REnv K B (σ.set v none) H (ρ.set v .no) := by
  refine ⟨R.base, by rw [List.length_set, List.length_set]; exact R.len, fun i d h => ?_, fun i d h => ?_, fun i j d e p h1 h2 h3 h4 => ?_⟩
  · rw [set_get] at h
    split at h
    · split at h <;> cases h
    · rename_i n
      obtain ⟨w, w1, w2⟩ := R.val i d h
      exact ⟨w, by rw [List.getElem?_set_ne n]; exact w1, w2⟩
  · rw [set_get] at h
    split at h
    · split at h <;> cases h
    · rename_i n
      obtain ⟨w, w1, w2⟩ := R.own i d h
      exact ⟨w, by rw [List.getElem?_set_ne n]; exact w1, w2⟩
  · rw [set_get] at h1 h2
    split at h1
    · split at h1 <;> cases h1
    · split at h2
      · split at h2 <;> cases h2
      · rename_i n1 n2
        rw [List.getElem?_set_ne n1] at h3
        rw [List.getElem?_set_ne n2] at h4
        exact R.sep i j d e p h1 h2 h3 h4
theorem REnv.setVal {x : V} {d : Dat} (R : REnv K B σ H ρ) (v : Nat) (hx : Is K H x d) : REnv K B (σ.set v (some x)) H (ρ.set v (.val d)) := by
  refine ⟨R.base, by rw [List.length_set, List.length_set]; exact R.len, fun i e h => ?_, fun i e h => ?_, fun i j e e' p h1 h2 h3 h4 => ?_⟩
  · rw [set_get] at h
    split at h
    · rename_i n
      subst n
      split at h
      · cases h
        rename_i hl
        exact ⟨x, by rw [List.getElem?_set_self (by rw [R.len]; exact hl)], hx⟩
      · cases h
    · rename_i n
      obtain ⟨w, w1, w2⟩ := R.val i e h
      exact ⟨w, by rw [List.getElem?_set_ne n]; exact w1, w2⟩
  · rw [set_get] at h
    split at h
    · split at h <;> cases h
    · rename_i n
      obtain ⟨w, w1, w2⟩ := R.own i e h
      exact ⟨w, by rw [List.getElem?_set_ne n]; exact w1, w2⟩
  · rw [set_get] at h1 h2
    split at h1
    · split at h1 <;> cases h1
    · split at h2
      · split at h2 <;> cases h2
      · rename_i n1 n2
        rw [List.getElem?_set_ne n1] at h3
        rw [List.getElem?_set_ne n2] at h4
        exact R.sep i j e e' p h1 h2 h3 h4
theorem REnv.wipe (R : REnv K B σ H ρ) : ∀ vs : List Nat, REnv K B (L2.wipe σ vs) H (wipeE ρ vs)
  | [] => R
  | v :: vs => (REnv.wipe R vs).setNo v
theorem wipe_get {i : Nat} : ∀ {vs : List Nat}, i ∉ vs → (L2.wipe σ vs)[i]? = σ[i]?
  | [], _ => rfl
  | v :: vs, h => by
    show ((L2.wipe σ vs).set v none)[i]? = _
    rw [List.getElem?_set_ne (fun z => h (by rw [z]; exact List.mem_cons_self)), wipe_get fun z => h (List.mem_cons_of_mem _ z)]
theorem wipeE_get {i : Nat} : ∀ {vs : List Nat}, i ∉ vs → (wipeE ρ vs)[i]? = ρ[i]?
  | [], _ => rfl
  | v :: vs, h => by
    show ((wipeE ρ vs).set v .no)[i]? = _
    rw [List.getElem?_set_ne (fun z => h (by rw [z]; exact List.mem_cons_self)), wipeE_get fun z => h (List.mem_cons_of_mem _ z)]
theorem wipeE_len : ∀ vs : List Nat, (wipeE ρ vs).length = ρ.length
  | [] => rfl
  | v :: vs => by
    show ((wipeE ρ vs).set v .no).length = _
    rw [List.length_set, wipeE_len vs]
theorem wipe_at {i : Nat} : ∀ {vs : List Nat}, i ∈ vs → i < σ.length → (L2.wipe σ vs)[i]? = some none
  | v :: vs, h, hl => by
    show ((L2.wipe σ vs).set v none)[i]? = _
    rw [set_get]
    by_cases z : v = i
    · rw [if_pos z, if_pos (by rw [wipe_length, z]; exact hl)]
    · rw [if_neg z]
      rcases List.mem_cons.mp h with q | q
      · exact absurd q.symm z
      · exact wipe_at q hl
theorem wipe_set {i : Nat} {x : Option V} {vs : List Nat} (h : i ∈ vs) : L2.wipe ((L2.wipe σ vs).set i x) vs = L2.wipe σ vs := by
  apply List.ext_getElem?
  intro j
  by_cases hj : j ∈ vs
  · by_cases hl : j < σ.length
    · rw [wipe_at hj (by rw [List.length_set, wipe_length]; exact hl), wipe_at hj hl]
    · rw [List.getElem?_eq_none (by rw [wipe_length, List.length_set, wipe_length]; omega), List.getElem?_eq_none (by rw [wipe_length]; omega)]
  · rw [wipe_get hj, List.getElem?_set_ne (fun z => hj (by rw [← z]; exact h))]
theorem back_get {vs : List Nat} {i : Nat} : (back ρ ρ' vs)[i]? = (ρ'[i]?).map fun s => if vs.contains i then ρ.getD i .no else s := by
  unfold back
  rw [List.getElem?_mapIdx]
theorem REnv.back {B' : Hp} {H1 H2 : Hp} {ρ1 ρ2 : DEnv} {vs : List Nat} (R1 : REnv K B σ H1 ρ1) (hc : calmAt ρ1 vs = true) (le : ∀ a o, B a = some o → B' a = some o) (f : FrzLe H1 H2) (R2 : REnv K B' (L2.wipe σ vs) H2 (wipeE ρ2 vs)) :
    REnv K B σ H2 (Ev.back ρ1 ρ2 vs) ∧ ∀ (i : Nat) e, (Ev.back ρ1 ρ2 vs)[i]? = some (.own e) → ∃ p, σ[i]? = some (some (.ref p)) ∧ B' p = none := by
  have R2w := R2.weak le
  have len2 : ρ2.length = σ.length := by
    have := R2.len
    rw [wipe_length, wipeE_len] at this
    exact this.symm
  have own : ∀ (i : Nat) e, (Ev.back ρ1 ρ2 vs)[i]? = some (.own e) → i ∉ vs ∧ ρ2[i]? = some (.own e) := fun i e h => by
    rw [back_get] at h
    cases q : ρ2[i]? with
    | none => rw [q] at h; cases h
    | some sl =>
      rw [q] at h
      have h' : (if vs.contains i then ρ1.getD i .no else sl) = Slot.own e := by simpa using h
      by_cases c : i ∈ vs
      · exfalso
        rw [if_pos (List.contains_iff_mem.mpr c)] at h'
        have hh := List.all_eq_true.mp hc i c
        cases q1 : ρ1[i]? with
        | none => rw [q1] at hh; cases hh
        | some z =>
          rw [List.getD_eq_getElem?_getD, q1] at h'
          have h2 : z = Slot.own e := h'
          rw [q1, h2] at hh
          cases hh
      · rw [if_neg (fun z => c (List.contains_iff_mem.mp z))] at h'
        exact ⟨c, by rw [h']⟩
  refine ⟨⟨R2w.base, ?_, fun i d h => ?_, fun i d h => ?_, fun i j d e p h1 h2 h3 h4 => ?_⟩, fun i e h => ?_⟩
  · unfold Ev.back
    rw [List.length_mapIdx, len2]
  · rw [back_get] at h
    cases q : ρ2[i]? with
    | none => rw [q] at h; cases h
    | some sl =>
      rw [q] at h
      have h' : (if vs.contains i then ρ1.getD i .no else sl) = Slot.val d := by simpa using h
      by_cases c : i ∈ vs
      · rw [if_pos (List.contains_iff_mem.mpr c)] at h'
        cases q1 : ρ1[i]? with
        | none => rw [List.getD_eq_getElem?_getD, q1] at h'; cases h'
        | some z =>
          rw [List.getD_eq_getElem?_getD, q1] at h'
          have h2 : z = Slot.val d := h'
          subst h2
          obtain ⟨w, w1, w2⟩ := R1.val i d q1
          exact ⟨w, w1, w2.mono f⟩
      · rw [if_neg (fun z => c (List.contains_iff_mem.mp z))] at h'
        subst h'
        obtain ⟨w, w1, w2⟩ := R2w.val i d (by rw [wipeE_get c]; exact q)
        rw [wipe_get c] at w1
        exact ⟨w, w1, w2⟩
  · obtain ⟨c, q⟩ := own i d h
    obtain ⟨w, w1, w2⟩ := R2w.own i d (by rw [wipeE_get c]; exact q)
    rw [wipe_get c] at w1
    exact ⟨w, w1, w2⟩
  · obtain ⟨c1, q1⟩ := own i d h1
    obtain ⟨c2, q2⟩ := own j e h2
    exact R2w.sep i j d e p (by rw [wipeE_get c1]; exact q1) (by rw [wipeE_get c2]; exact q2) (by rw [wipe_get c1]; exact h3) (by rw [wipe_get c2]; exact h4)
  · obtain ⟨c, q⟩ := own i e h
    obtain ⟨p, w1, w2, _⟩ := R2.own i e (by rw [wipeE_get c]; exact q)
    rw [wipe_get c] at w1
    exact ⟨p, w1, w2⟩
end

/-- an iterator over values that stay -/
def Walker (J : It) (vs : List V) (H1 : Hp) : Prop := ∀ (i : Nat) H, FrzLe H1 H → (∀ x, vs[i]? = some x → J.go i H ∧ ∀ y H', J.yld i H y H' → H' = H ∧ y = x) ∧ (vs.length ≤ i → J.stop i H)
theorem walker_list {K : PySem.W.Frag} {H1 : Hp} {a : Addr} {o : Obj} {vs : List V} (h : H1 a = some (.frz o (.lst vs))) : Walker (Itl K a) vs H1 := fun i H f => by
  have q : SqL K H a vs := .inl (.inr ⟨o, f _ _ h rfl⟩)
  exact ⟨fun x e => ⟨⟨vs, x, q, e⟩, fun y H' z => ⟨z.1, Option.some.inj ((z.2 vs q).symm.trans e)⟩⟩, fun e => ⟨vs, q, e⟩⟩
theorem walker_tup {K : PySem.W.Frag} {H1 : Hp} {a : Addr} {vs : List V} (h : SqT K H1 a vs) : Walker (Itt K a) vs H1 := fun i H f => by
  have q : SqT K H a vs := sqT_mono f h
  exact ⟨fun x e => ⟨⟨vs, x, q, e⟩, fun y H' z => ⟨z.1, Option.some.inj ((z.2 vs q).symm.trans e)⟩⟩, fun e => ⟨vs, q, e⟩⟩
theorem walker_str {H1 : Hp} (x : Str) : Walker (Its x) (x.cps.toList.map fun c => V.str ⟨#[c]⟩) H1 := fun i H f => by
  refine ⟨fun v e => ?_, fun e => ?_⟩
  · rw [List.getElem?_map] at e
    cases q : x.cps.toList[i]? with
    | none => rw [q] at e; cases e
    | some c =>
      rw [q] at e
      cases e
      have hi : i < x.cps.size := by
        have := (List.getElem?_eq_some_iff.mp q).1
        rwa [Array.length_toList] at this
      refine ⟨hi, fun y H' z => ⟨z.1, ?_⟩⟩
      obtain ⟨_, c', e1, rfl⟩ := z
      rw [← Array.getElem?_toList, q] at e1
      cases e1
      rfl
  · rw [List.length_map, Array.length_toList] at e
    exact e
theorem walker_rng {H1 : Hp} (j : Int) : Walker (Itr 0 j.toNat) ((List.range j.toNat).map fun (k : Nat) => V.int (k : Int)) H1 := fun i H f => by
  refine ⟨fun v e => ?_, fun e => ?_⟩
  · rw [List.getElem?_map] at e
    cases q : (List.range j.toNat)[i]? with
    | none => rw [q] at e; cases e
    | some c =>
      rw [q] at e
      cases e
      have hi := (List.getElem?_eq_some_iff.mp q).1
      rw [List.length_range] at hi
      have hc : c = i := by rw [List.getElem?_range hi] at q; exact (Option.some.inj q).symm
      subst hc
      exact ⟨hi, fun y H' z => ⟨z.1, by rw [z.2, Int.zero_add]⟩⟩
  · rw [List.length_map, List.length_range] at e
    exact e

def StepOk (K : PySem.W.Frag) (vs : List Nat) (tg : Nat) (tt : TT) (te : TE) (one : Dat → DEnv → Res (Option Dat × DEnv)) : Prop :=
  ∀ x ρ' o ρ'', one x ρ' = .ok (o, ρ'') → ∀ B σ0 H v, REnv K B σ0 H (wipeE ρ' vs) → Is K H v x → ∀ (Qy : V → Hp → Prop) (Qn : Hp → Prop),
    (∀ y d H', o = some d → REnv K B (σ0.set tg (some v)) H' ρ'' → FrzLe H H' → Is K H' y d → Qy y H') → (∀ H', o = none → REnv K B (σ0.set tg (some v)) H' ρ'' → FrzLe H H' → Qn H') →
    tt (σ0.set tg (some v)) H (fun b H3 => if b = true then te (σ0.set tg (some v)) H3 Qy else Qn H3)

theorem comp_snd {K : PySem.W.Frag} {J : It} {vs : List Nat} {tg : Nat} {tt : TT} {te : TE} {one : Dat → DEnv → Res (Option Dat × DEnv)} {xs ys : List Dat} {vI : List V} {ρ1 ρ2 : DEnv} {B : Hp} {σ : L2.St} {H1 : Hp} {Q : VK}
    (st : StepOk K vs tg tt te one) (ht : turns one xs ρ1 = .ok (ys, ρ2)) (l : IsL K H1 vI xs) (wk : Walker J vI H1) (R : REnv K B σ H1 ρ1) (hc : calmAt ρ1 vs = true) (hs : sm xs.length = true) (hm : tg ∈ vs)
    (w : Want K B σ (back ρ1 ρ2 vs) H1 (.lst ys) .fresh Q) :
    ∀ D, H1 D = none → ∃ W : Nat → Nat → Hp → Prop, (∃ m, W 0 m (upd H1 D (.lst []))) ∧ ∀ i m H, W i m H →
      (J.stop i H ∧ Q (.ref D) H) ∨ (J.go i H ∧ ∃ Nx : Hp → Prop, (∀ H', Nx H' → ∃ m', m' < m ∧ W (i + 1) m' H') ∧ ∀ x H', J.yld i H x H' → gName tg x (L2.wipe σ vs) H' fun σ2 H2 => L2.wipe σ2 vs = L2.wipe σ vs ∧ tt σ2 H2 fun b H3 =>
        if b = true then te σ2 H3 fun y H4 => ∃ acc, H4 D = some (.lst acc) ∧ acc.length < sizeLine ∧ Nx (upd H4 D (.lst (acc ++ [y]))) else Nx H3) := by
  intro D hD
  have bD : B D = none := R.newB hD
  have lenI := l.length
  refine ⟨fun i m H => ∃ ρi ysR acc accV, m = xs.length - i ∧ i ≤ xs.length ∧ turns one (xs.drop i) ρi = .ok (ysR, ρ2) ∧ ys = acc ++ ysR ∧ H D = some (.lst accV) ∧ IsL K H accV acc ∧ acc.length ≤ i ∧
    REnv K (upd B D (.lst accV)) (L2.wipe σ vs) H (wipeE ρi vs) ∧ FrzLe H1 H, ⟨xs.length, ρ1, ys, [], [], by omega, Nat.zero_le _, ht, rfl, upd_same, .nil, Nat.le_refl _, ?_, FrzLe.new hD⟩, ?_⟩
  · have R' := (R.new (o := .lst []) hD).wipe vs
    refine ⟨fun a o h => ?_, R'.len, R'.val, fun i d h => ?_, R'.sep⟩
    · by_cases z : a = D
      · subst z; rw [upd_same] at h; cases h; exact upd_same
      · rw [upd_ne z] at h; exact R'.base a o h
    · obtain ⟨p, p1, p2, p3⟩ := R'.own i d h
      refine ⟨p, p1, ?_, p3⟩
      have hp : p ≠ D := fun z => by
        subst z
        have iv : i ∉ vs := fun q => by
          have lt : i < σ.length := by
            have := (List.getElem?_eq_some_iff.mp p1).1
            rwa [wipe_length] at this
          rw [wipe_at q lt] at p1
          cases p1
        rw [wipe_get iv] at p1
        rw [wipeE_get iv] at h
        exact R.newS hD i d h p1
      rw [upd_ne hp]; exact p2
  · rintro i m H ⟨ρi, ysR, acc, accV, rfl, hi, hturn, rfl, hDl, hl, hal, RR, fr⟩
    by_cases hlt : i < xs.length
    · right
      have hx : xs[i]? = some xs[i] := List.getElem?_eq_getElem hlt
      obtain ⟨v, hv, hIs⟩ := l.get hx
      obtain ⟨hgo, hy⟩ := (wk i H fr).1 v hv
      rw [List.drop_eq_getElem_cons hlt] at hturn
      obtain ⟨⟨o, ρn⟩, h1, h2⟩ := Res.bind_ok (show (one xs[i] ρi).bind _ = _ from hturn)
      obtain ⟨⟨yr, ρe⟩, h3, h4⟩ := Res.bind_ok h2
      have h4' : put o yr = ysR ∧ ρe = ρ2 := by
        cases h4; exact ⟨rfl, rfl⟩
      obtain ⟨e4, rfl⟩ := h4'
      refine ⟨hgo, fun H' => ∃ ρi' yr' acc' accV', i + 1 ≤ xs.length ∧ turns one (xs.drop (i + 1)) ρi' = .ok (yr', ρe) ∧ acc ++ ysR = acc' ++ yr' ∧ H' D = some (.lst accV') ∧ IsL K H' accV' acc' ∧ acc'.length ≤ i + 1 ∧
        REnv K (upd B D (.lst accV')) (L2.wipe σ vs) H' (wipeE ρi' vs) ∧ FrzLe H1 H', fun H' ⟨a1, a2, a3, a4, a5, a6, a7, a8, a9, a10, a11, a12⟩ => ⟨xs.length - (i + 1), by omega, a1, a2, a3, a4, rfl, a5, a6, a7, a8, a9, a10, a11, a12⟩, fun x H' hyl => ?_⟩
      obtain ⟨e1, e2⟩ := hy x H' hyl
      subst e1
      subst e2
      show L2.wipe ((L2.wipe σ vs).set tg (some x)) vs = L2.wipe σ vs ∧ tt _ _ _
      refine ⟨wipe_set hm, ?_⟩
      refine st xs[i] ρi o ρn h1 (upd B D (.lst accV)) (L2.wipe σ vs) H' x RR (hIs.mono fr) _ _ (fun y d H4 eo R4 f4 iy => ?_) (fun H4 eo R4 f4 => ?_)
      · have hD4 : H4 D = some (.lst accV) := R4.base D _ upd_same
        refine ⟨accV, hD4, ?_, ρn, yr, acc ++ [d], accV ++ [y], hlt, h3, ?_, upd_same, ?_, ?_, ?_, fr.trans (f4.trans (FrzLe.mut hD4 rfl))⟩
        · rw [hl.length]
          exact Nat.lt_of_le_of_lt hal (Nat.lt_of_lt_of_le hlt (sm_le hs))
        · rw [← e4, eo, List.append_assoc]; rfl
        · exact ((hl.mono f4).append (.cons iy .nil)).mono (FrzLe.mut hD4 rfl)
        · rw [List.length_append]; simp; omega
        · have R5 := R4.wipe vs
          rw [wipe_set hm] at R5
          refine ⟨fun a o' h => ?_, R5.len, fun j d' h => ?_, fun j d' h => ?_, R5.sep⟩
          · by_cases z : a = D
            · subst z; rw [upd_same] at h; cases h; exact upd_same
            · rw [upd_ne z] at h ⊢
              exact R5.base a o' (by rw [upd_ne z]; exact h)
          · obtain ⟨w', w1, w2⟩ := R5.val j d' h
            exact ⟨w', w1, w2.mono (FrzLe.mut hD4 rfl)⟩
          · obtain ⟨p, p1, p2, p3⟩ := R5.own j d' h
            have pn : p ≠ D := fun z => by subst z; rw [upd_same] at p2; cases p2
            rw [upd_ne pn] at p2
            exact ⟨p, p1, by rw [upd_ne pn]; exact p2, p3.mono (FrzLe.mut hD4 rfl) (upd_ne pn)⟩
      · have hD4 : H4 D = some (.lst accV) := R4.base D _ upd_same
        have R5 := R4.wipe vs
        rw [wipe_set hm] at R5
        refine ⟨ρn, yr, acc, accV, hlt, h3, ?_, hD4, hl.mono f4, by omega, R5, fr.trans f4⟩
        rw [← e4, eo]; rfl
    · left
      have ei : i = xs.length := by omega
      subst ei
      rw [List.drop_length] at hturn
      cases hturn
      refine ⟨(wk _ H fr).2 (by omega), ?_⟩
      obtain ⟨RB, own⟩ := R.back hc (fun a o h => by rw [upd_ne (fun z => by subst z; rw [bD] at h; cases h)]; exact h) fr RR
      refine w _ H RB fr ⟨D, rfl, ⟨accV, acc ++ [], rfl, hDl, by rw [List.append_nil]; exact hl⟩, bD, fun j e h => ?_⟩
      obtain ⟨p, p1, p2⟩ := own j e h
      intro z
      rw [p1] at z
      cases z
      rw [upd_same] at p2
      cases p2
end Ev
set_option Elab.async false
set_option linter.all false
set_option maxRecDepth 100000
namespace Ev
open PySem PySem.Spec PyProof.Rows L2
def kinds7 : List String := ["NoneType", "bool", "int", "str", "list", "tuple", "dict"]
theorem kit_all : ∀ t ∈ kinds7, ∀ ty ∈ tys6, kitB t ty = some (isaN t ty) := by decide +kernel
theorem tyn_mem (d : Dat) : d.tyn ∈ kinds7 := by cases d <;> simp [Dat.tyn, kinds7]
theorem isa_is {d : Dat} {ty : String} {b : Bool} (h : d.isa ty = some b) : ty ∈ tys6 ∧ b = isaN d.tyn ty := by
  unfold Dat.isa at h
  split at h
  · cases h; exact ⟨by assumption, rfl⟩
  · cases h
theorem call_isiR {X : Cx} {d : Dat} {ty : String} {b : Bool} (h : d.isa ty = some b) : CallR X (.builtin "isinstance") (fun xs H Q => ∃ x, xs = [x, .ty ty] ∧ Rdb X.K H x d ∧ Q (.bl b) H) := by
  intro pins s σ H xs us Q I r hh
  obtain ⟨x, rfl, a, q⟩ := hh
  obtain ⟨u1, u2, rfl, r1, r2⟩ := vals2 r
  cases (show u2 = Value.type ty from r2)
  obtain ⟨h1, rfl⟩ := isa_is h
  have e : PySem.W.kitOne X.K (.type d.tyn) (.type ty) = some (isaN d.tyn ty) := kit_ty (kit_all _ (tyn_mem d) _ h1)
  obtain ⟨as, ra, _⟩ := reads_rdb I a r1
  cases d with
  | non => cases ra; exact PySem.W.kia_one PySem.W.kitx_none I.kIn True.intro e (fun z => nomatch z) fun tk => ⟨.bl _, H, I.tok tk, rfl, q⟩
  | bl _ => cases ra; exact PySem.W.kia_one PySem.W.kitx_bool I.kIn True.intro e (fun z => nomatch z) fun tk => ⟨.bl _, H, I.tok tk, rfl, q⟩
  | int _ => cases ra; exact PySem.W.kia_one PySem.W.kitx_int I.kIn True.intro e (fun z => nomatch z) fun tk => ⟨.bl _, H, I.tok tk, rfl, q⟩
  | str _ => cases ra; exact PySem.W.kia_one PySem.W.kitx_str I.kIn True.intro e (fun z => nomatch z) fun tk => ⟨.bl _, H, I.tok tk, rfl, q⟩
  | lst _ =>
    cases ra with
    | list k1 k2 k3 k4 => exact PySem.W.kia_one PySem.W.kitx_list I.kIn ⟨_, k1, k2⟩ e (fun z => nomatch z) fun tk => ⟨.bl _, H, I.tok tk, rfl, q⟩
  | tup _ =>
    cases ra with
    | tuple k1 k2 k3 k4 => exact PySem.W.kia_one PySem.W.kitx_tuple I.kIn ⟨_, k1, k2⟩ e (fun z => nomatch z) fun tk => ⟨.bl _, H, I.tok tk, rfl, q⟩
  | scr _ =>
    cases ra with
    | list k1 k2 k3 k4 => exact PySem.W.kia_one PySem.W.kitx_list I.kIn ⟨_, k1, k2⟩ e (fun z => nomatch z) fun tk => ⟨.bl _, H, I.tok tk, rfl, q⟩
  | dic _ =>
    cases ra with
    | dict k1 k2 k3 k4 k5 => exact PySem.W.kia_one PySem.W.kitx_dict I.kIn ⟨_, k1, k2⟩ e (fun z => nomatch z) fun tk => ⟨.bl _, H, I.tok tk, rfl, q⟩
end Ev
set_option Elab.async false
set_option linter.all false
set_option maxRecDepth 100000
namespace Ev
open PySem PySem.Spec PyProof.Rows L2

def tU (K : PySem.W.Frag) (T : Tab) (ie : IE) : TE := fun σ H Q => ∃ ρ d m ρ', ev T ie ρ = .ok (d, m, ρ') ∧ tS K ρ d m ρ' σ H Q
def tUK (K : PySem.W.Frag) (T : Tab) (ie : IE) : TE := fun σ H Q => ∃ ρ d m ρ', ev T ie ρ = .ok (d, m, ρ') ∧ tS K ρ d .frz (keep m ρ' d) σ H Q
def tUT (K : PySem.W.Frag) (T : Tab) (ie : IE) : TT := fun σ H Q => ∃ ρ b m ρ', ev T ie ρ = .ok (.bl b, m, ρ') ∧ tST K ρ b ρ' σ H Q
section
variable {X : Cx} {T : Tab} {ie : IE} {e : Expr}
theorem pe_U (h : ∀ {ρ d m ρ'}, ev T ie ρ = .ok (d, m, ρ') → PE X e (tS X.K ρ d m ρ')) : PE X e (tU X.K T ie) := ⟨fun pins s σ H Q I ⟨ρ, d, m, ρ', h1, h2⟩ => (h h1).run pins s σ H Q I h2⟩
theorem pe_UK (h : ∀ {ρ d m ρ'}, ev T ie ρ = .ok (d, m, ρ') → PE X e (tS X.K ρ d m ρ')) : PE X e (tUK X.K T ie) := ⟨fun pins s σ H Q I ⟨ρ, d, m, ρ', h1, h2⟩ => (pe_keep (h h1)).run pins s σ H Q I h2⟩
theorem pt_U (h : ∀ {ρ b m ρ'}, ev T ie ρ = .ok (.bl b, m, ρ') → PT X e (tST X.K ρ b ρ')) : PT X e (tUT X.K T ie) := ⟨fun pins s σ H Q I ⟨ρ, d, m, ρ', h1, h2⟩ => (h h1).run pins s σ H Q I h2⟩
/-- two parts, one after the other -/
theorem tS_two {K : PySem.W.Frag} {ρ ρ1 ρ2 : DEnv} {x y x' d : Dat} {m k l : Mode} {r : R2} (hx : now x m ρ2 = some x')
    (hr : ∀ B σ H v w Q, REnv K B σ H ρ2 → Rdb K H v x' → Rdb K H w y → Want K B σ ρ2 H d l Q → r v w H Q) (σ : L2.St) (H : Hp) (Q : VK) (h : tS K ρ d l ρ2 σ H Q) : tOp r (tS K ρ x m ρ1) (tS K ρ1 y k ρ2) σ H Q := by
  obtain ⟨B, R, w⟩ := h
  refine ⟨B, R, fun v H1 R1 f1 rv => ?_⟩
  obtain ⟨B1, R1', le, cr⟩ := carry R1 rv
  refine ⟨B1, R1', fun u H2 R2 f2 ru => ?_⟩
  exact hr B σ H2 v u Q (R2.weak le) (cr H2 ρ2 x' R2 f2 hx) (rdb_of R2 ru) fun z H3 R3 f3 rz => w z H3 R3 (f1.trans (f2.trans f3)) rz
theorem tS_one {K : PySem.W.Frag} {ρ ρ1 : DEnv} {x d : Dat} {m l : Mode} {r : V → Hp → VK → Prop}
    (hr : ∀ B σ H v Q, REnv K B σ H ρ1 → Rdb K H v x → Want K B σ ρ1 H d l Q → r v H Q) (σ : L2.St) (H : Hp) (Q : VK) (h : tS K ρ d l ρ1 σ H Q) : tS K ρ x m ρ1 σ H (fun v H1 => r v H1 Q) := by
  obtain ⟨B, R, w⟩ := h
  exact ⟨B, R, fun v H1 R1 f1 rv => hr B σ H1 v Q R1 (rdb_of R1 rv) fun z H3 R3 f3 rz => w z H3 R3 (f1.trans f3) rz⟩
theorem idx_snd {x y d : Dat} (h : idxD x y = some d) : ∃ r, IxR X r ∧ ∀ B σ ρ H v w Q, REnv X.K B σ H ρ → Rdb X.K H v x → Rdb X.K H w y → Want X.K B σ ρ H d .frz Q → r v w H Q := by
  unfold idxD at h
  split at h
  · rename_i xs i
    refine ⟨_, ix_list, fun B σ ρ H v w Q R a b k => ?_⟩
    obtain ⟨p, vs, rfl, hp, l⟩ := a.lst
    have h' := h
    unfold atI at h'
    cases q : ixN xs.length i with
    | none => rw [q] at h'; cases h'
    | some j =>
      rw [q] at h'
      obtain ⟨z, z1, z2⟩ := l.get (i := j) (d := d) h'
      refine ⟨p, vs, i, z, rfl, b.int, hp, ?_, k.val R z2⟩
      unfold atI
      rw [l.length, q]
      exact z1
  · rename_i xs i
    refine ⟨_, ix_tup, fun B σ ρ H v w Q R a b k => ?_⟩
    obtain ⟨p, vs, rfl, hp, l⟩ := a.tup
    have h' := h
    unfold atI at h'
    cases q : ixN xs.length i with
    | none => rw [q] at h'; cases h'
    | some j =>
      rw [q] at h'
      obtain ⟨z, z1, z2⟩ := l.get (i := j) (d := d) h'
      refine ⟨p, vs, i, z, rfl, b.int, hp, ?_, k.val R z2⟩
      unfold atI
      rw [l.length, q]
      exact z1
  · rename_i ns i
    cases q : atI ns i with
    | none => rw [q] at h; cases h
    | some z =>
      rw [q] at h
      cases h
      refine ⟨_, ix_list, fun B σ ρ H v w Q R a b k => ?_⟩
      obtain ⟨p, rfl, hp⟩ := a.scr
      refine ⟨p, _, i, .int z, rfl, b.int, hp, ?_, k.val R (.int z)⟩
      have q' := q
      unfold atI at q' ⊢
      rw [List.length_map]
      cases y : ixN ns.length i with
      | none => rw [y] at q'; cases q'
      | some j =>
        rw [y] at q'
        show (ns.map V.int)[j]? = _
        rw [List.getElem?_map, show ns[j]? = some z from q']
        rfl
  · rename_i x i
    split at h
    · rename_i c
      cases q : atI x.cps.toList i with
      | none => rw [q] at h; cases h
      | some z =>
        rw [q] at h
        cases h
        exact ⟨_, ix_str, fun B σ ρ H v w Q R a b k => ⟨x, i, z, a.str, b.int, sm_le c, q, k.val R (.str _)⟩⟩
    · cases h
  · cases h
theorem cut_is {K : PySem.W.Frag} {H : Hp} {vs : List V} {ds : List Dat} (l : IsL K H vs ds) (lo hi : Option Int) : IsL K H (cutV vs lo hi) (cut ds lo hi) := by
  unfold cutV cut
  rw [l.length]
  exact (l.drop _).take _
theorem cut_whole {ds : List Dat} {lo hi : Option Int} (h : HT.sIx ds.length 0 lo = 0 ∧ HT.sIx ds.length ds.length hi = ds.length) : cut ds lo hi = ds := by
  unfold cut
  rw [h.1, h.2, List.drop_zero, Nat.sub_zero, List.take_length]
theorem slc_snd {x d : Dat} {m : Mode} {lo hi : Option Int} (h : slcD x lo hi = some (d, m)) : ∃ r, SlR X r ∧ ∀ B σ ρ H v Q, REnv X.K B σ H ρ → Rdb X.K H v x → Want X.K B σ ρ H d m Q → r v lo hi H Q := by
  unfold slcD at h
  split at h
  · cases h
    refine ⟨_, sl_list, fun B σ ρ H v Q R a k => ?_⟩
    obtain ⟨p, vs, rfl, hp, l⟩ := a.lst
    exact ⟨p, vs, rfl, hp, fun n hn => k.lst R (cut_is l lo hi) hn⟩
  · rename_i xs
    cases h
    refine ⟨_, sl_tupA, fun B σ ρ H v Q R a k => ?_⟩
    obtain ⟨p, vs, rfl, hp, l⟩ := a.tup
    refine ⟨p, vs, rfl, hp, fun hw => ?_, fun _ n hn => k.tup R (cut_is l lo hi) hn⟩
    rw [l.length] at hw
    rw [cut_whole hw] at k
    exact k.val R (.tup hp l)
  · rename_i x
    split at h
    · rename_i c
      cases h
      exact ⟨_, sl_str, fun B σ ρ H v Q R a k => ⟨x, a.str, sm_le c, k.val R (.str _)⟩⟩
    · cases h
  · cases h
theorem bi_boot (b : BI) : bootBuiltins b.name = some b.val := by cases b <;> first | exact PySem.boot_len | exact PyProof.Rows.boot_max | exact PyProof.Rows.boot_min | exact PyProof.Rows.boot_all | exact PyProof.Rows.boot_tuple | exact PyProof.Rows.boot_list | exact PyProof.Rows.boot_repr
theorem ty_boot {ty : String} (h : ty ∈ tys6) : bootBuiltins (Str.ofString ty) = some (.type ty) ∧ Str.ofString ty ≠ "__name__" ∧ (Str.ofString ty == ("__debug__" : Str)) = false := by
  unfold tys6 at h
  simp only [List.mem_cons, List.not_mem_nil, or_false] at h
  rcases h with rfl | rfl | rfl | rfl | rfl | rfl
  · exact ⟨PyProof.Rows.boot_int, by decide, by decide⟩
  · exact ⟨PyProof.Rows.boot_bool, by decide, by decide⟩
  · exact ⟨PyProof.Rows.boot_str, by decide, by decide⟩
  · exact ⟨PyProof.Rows.boot_tuple, by decide, by decide⟩
  · exact ⟨PyProof.Rows.boot_list, by decide, by decide⟩
  · exact ⟨PyProof.Rows.boot_dict, by decide, by decide⟩
theorem bi_call {b : BI} {g : Str} {p pos : Pos} {x : Expr} {l : List Expr} {t : TA} {r : List V → Hp → VK → Prop} (hc : CallR X b.val r) (hg : Gl X b.name) (hm : X.mg b.name = none) (ha : PA X (x :: l) t) (hs : ∀ e ∈ x :: l, noStar e = true) :
    PE X (.Call (.Name b.name p) (x :: l) [] pos) (tCB r t) := by
  have h1 : starEach (x :: l) X.env = (false, eval x X.env) :: starEach l X.env := star_cons (hs x List.mem_cons_self)
  have h2 : (backTo pos (starEach l X.env)).any (·.1) = false := star_none fun e he => hs e (List.mem_cons_of_mem _ he)
  have hb := bi_boot b
  cases b with
  | len => exact pe_callB hc hg hm hb ha (by decide) (by decide) h1 h2
  | max => exact pe_callB hc hg hm hb ha (by decide) (by decide) h1 h2
  | min => exact pe_callB hc hg hm hb ha (by decide) (by decide) h1 h2
  | all => exact pe_callB hc hg hm hb ha (by decide) (by decide) h1 h2
  | repr => exact pe_callB hc hg hm hb ha (by decide) (by decide) h1 h2
  | tuple => exact pe_callTy hc hg hm hb ha (by decide) (by decide) h1 h2
  | list => exact pe_callTy hc hg hm hb ha (by decide) (by decide) h1 h2
end
end Ev
set_option Elab.async false
set_option linter.all false
set_option maxRecDepth 100000
namespace Ev
open PySem PySem.Spec PyProof.Rows L2
theorem pairs_vals {P : Program} {w : World} : ∀ {es : List DictEntry} {kvs : List (Key × V)} {vs : List (Key × Value)}, KV kvs vs → PySem.Pairs (mixKind P w) es vs → Vals (kvs.map fun kv => kV kv.1) (es.map (·.key)) ∧ Vals (kvs.map (·.2)) (es.map (·.val))
  | es, [], vs, r, p => by
    cases r
    cases p
    exact ⟨.nil, .nil⟩
  | es, kv :: kvs, vs, r, p => by
    cases r with
    | @cons a b as bs h t =>
      cases p with
      | @cons e kv' es' kvs' h1 h2 h3 =>
        obtain ⟨i1, i2⟩ := pairs_vals (P := P) (w := w) t h3
        obtain ⟨k, y⟩ := kv
        obtain ⟨e1, e2⟩ := h
        have e1' : k = b.1 := e1
        subst e1'
        refine ⟨.cons ?_ i1, .cons (show RelV y e.val by rw [h2]; exact e2) i2⟩
        have h1' : keyIs b.1 e.key = true := h1
        rcases keyIs_shape h1' with ⟨i, t, q1, q2⟩ | ⟨x, t, q1, q2⟩
        · show RelV (kV b.1) e.key
          rw [q1, q2]; exact ⟨t, rfl⟩
        · show RelV (kV b.1) e.key
          rw [q1, q2]; exact ⟨t, rfl⟩
/-- a dict is known from now on to be as it is -/
theorem inv_frzD {X : Cx} {pins : List (Addr × Obj)} {σ : L2.St} {H : Hp} {s : Shared} {p : Addr} {kvs : List (Key × V)} (I : Inv X pins σ H s) (h : H p = some (.dK kvs)) :
    ∃ (o : Obj) (es : Array DictEntry) (n : Nat), Inv X pins σ (upd H p (.frz o (.own p))) s ∧ o.cls = .type "dict" ∧ o.data = .dict es n ∧ (p == sysModules) = false ∧ Vals (kvs.map fun kv => kV kv.1) (es.toList.map (·.key)) ∧ Vals (kvs.map (·.2)) (es.toList.map (·.val)) := by
  obtain ⟨z, hsys, vs, r, o, es, ep, e, ex, ed, ek, epr, end'⟩ := (show ObjOk X.prog X.w H s.heap p (.dK kvs) from I.hok p _ h)
  obtain ⟨v1, v2⟩ := pairs_vals r epr
  refine ⟨o, es, ep, Inv.un (t' := s.toks) (h' := s.heap) (H' := upd H p (.frz o (.own p))) I ⟨fun b o q _ _ _ => q, fun b o q _ _ _ => ⟨o.slots, q⟩, fun b o q nn _ => ?_, fun b o q _ => ⟨o, q⟩, fun b xs q => ?_, fun b o u q => ?_, fun b ps q => ?_⟩ fun b u q => ?_, ex.1, ed, hsys, v1, v2⟩
  · rw [upd_ne (fun zz => by subst zz; rw [h] at nn; cases nn)]; exact nn
  · rw [upd_ne (fun zz => by subst zz; rw [h] at q; cases q)]; exact q
  · rw [upd_ne (fun zz => by subst zz; rw [h] at q; cases q)]; exact q
  · refine ⟨#[], ?_⟩
    rw [upd_ne (fun zz => by subst zz; rw [h] at q; cases q), q]; simp
  · by_cases zz : b = p
    · subst zz
      rw [upd_same] at q
      cases q
      exact ⟨e, o, e⟩
    · rw [upd_ne zz] at q
      refine (I.hok b u q).stay (fun c w _ hc => hc) (fun c hc => ?_) fun c xs hc => ?_
      · rw [upd_ne (fun y => by subst y; rw [h] at hc; cases hc)]; exact hc
      · rw [upd_ne (fun y => by subst y; rw [h] at hc; cases hc)]; exact hc
/-- a new dict is handed on -/
theorem pe_dic {X : Cx} {e : Expr} {t : TE} (h : PE X e t) : PE X e (fun σ H Q => t σ H fun v H' => ∃ (p : Addr) (kvs : List (Key × V)), v = .ref p ∧ H' p = some (.dK kvs) ∧
    ∀ (o : Obj) (es : Array DictEntry) (n : Nat), o.cls = .type "dict" → o.data = .dict es n → (p == sysModules) = false → Vals (kvs.map fun kv => kV kv.1) (es.toList.map (·.key)) → Vals (kvs.map (·.2)) (es.toList.map (·.val)) →
      Q v (upd H' p (.frz o (.own p)))) := by
  refine ⟨fun pins s σ H Q I q => thn (h.run pins s σ H _ I q) fun u s1 hh => ?_⟩
  obtain ⟨v, H1, I1, rv, p, kvs, rfl, e1, k⟩ := hh
  obtain ⟨o, es, n, J, c1, c2, c3, c4, c5⟩ := inv_frzD I1 e1
  exact ⟨_, _, J, rv, k o es n c1 c2 c3 c4 c5⟩
theorem is_dic {K : PySem.W.Frag} {H : Hp} {p : Addr} {o : Obj} {es : Array DictEntry} {n : Nat} {kvs : List (Key × V)} {ds : List (Dat × Dat)} (h : H p = some (.frz o (.own p))) (c1 : o.cls = .type "dict") (c2 : o.data = .dict es n) (c3 : (p == sysModules) = false)
    (c4 : Vals (kvs.map fun kv => kV kv.1) (es.toList.map (·.key))) (c5 : Vals (kvs.map (·.2)) (es.toList.map (·.val))) (l1 : IsL K H (kvs.map fun kv => kV kv.1) (ds.map (·.1))) (l2 : IsL K H (kvs.map (·.2)) (ds.map (·.2))) : Is K H (.ref p) (.dic ds) :=
  .dic h c1 c2 c3 c4 c5 l1 l2
theorem pe_dic0 {X : Cx} {ρ : DEnv} {pos : Pos} : PE X (.Dict [] [] pos) (tS X.K ρ (.dic []) .frz ρ) := by
  refine (pe_dic pe_dnewK).imp fun σ H Q ⟨B, R, k⟩ => fun p hp => ⟨p, [], rfl, upd_same, fun o es n c1 c2 c3 c4 c5 => ?_⟩
  rw [upd_upd]
  exact k _ _ (R.new hp) (FrzLe.new hp) (is_dic (kvs := []) upd_same c1 c2 c3 c4 c5 .nil .nil)
theorem pe_dic1 {X : Cx} {ρ ρ1 ρ2 : DEnv} {pos : Pos} {k v : Expr} {x : Str} {d : Dat} {m : Mode} (hk : PE X k (tS X.K ρ (.str x) m ρ1)) (hv : PE X v (tS X.K ρ1 d .frz ρ2)) : PE X (.Dict [some k] [v] pos) (tS X.K ρ (.dic [(.str x, d)]) .frz ρ2) := by
  refine (pe_dic (pe_disp (pps_cons hk hv pps_nil) rfl rfl (by simp) (by show 1 ≤ 15; decide))).imp fun σ H Q ⟨B, R, kk⟩ => ?_
  intro p hp
  have bp := R.newB hp
  have R0 : REnv X.K (upd B p (.dK [])) σ (upd H p (.dK [])) ρ := ⟨fun a o hh => by
      by_cases z : a = p
      · subst z; rw [upd_same] at hh; cases hh; exact upd_same
      · rw [upd_ne z] at hh; exact (R.new hp).base a o hh, R.len, (R.new hp).val, fun i d' hh => by
      obtain ⟨q, q1, q2, q3⟩ := (R.new (o := .dK []) hp).own i d' hh
      exact ⟨q, q1, by rw [upd_ne (fun z => R.newS hp i d' hh (by rw [← z]; exact q1))]; exact q2, q3⟩, R.sep⟩
  refine ⟨_, R0, fun u H1 R1 f1 ru => ⟨_, R1, fun y H2 R2 f2 ry => ?_⟩⟩
  have eu := (rdb_of R1 ru).str
  subst eu
  have e2 : H2 p = some (.dK []) := R2.base p _ upd_same
  refine ⟨e2, [(Sum.inr x, y)], rfl, (by show 1 ≤ 15; decide), p, [(Sum.inr x, y)], rfl, upd_same, fun o es n c1 c2 c3 c4 c5 => ?_⟩
  rw [upd_upd]
  have le : ∀ a o, B a = some o → upd B p (.dK []) a = some o := fun a o hh => by
    rw [upd_ne (fun z => by subst z; rw [bp] at hh; cases hh)]; exact hh
  have fm : FrzLe H2 (upd H2 p (.frz o (.own p))) := FrzLe.mut e2 rfl
  refine kk _ _ ((R2.weak le).step fm (fun a o' hb ha => ?_) fun i d' q hi hs => ?_) ((FrzLe.new hp).trans (f1.trans (f2.trans fm))) (is_dic (kvs := [(Sum.inr x, y)]) upd_same c1 c2 c3 c4 c5 (.cons (.str x) .nil) (.cons (Is.mono fm ry) .nil))
  · rw [upd_ne (fun z => by subst z; rw [bp] at hb; cases hb)]; exact ha
  · obtain ⟨q', g1, g2, _⟩ := R2.own i d' hi
    rw [hs] at g1
    cases g1
    rw [upd_ne (fun z => by subst z; rw [upd_same] at g2; cases g2)]
end Ev
set_option Elab.async false
set_option linter.all false
set_option maxRecDepth 100000
set_option maxHeartbeats 8000000
namespace Ev
open PySem PySem.Spec PyProof.Rows L2
theorem and_and {a b : Bool} (h : (a && b) = true) : a = true ∧ b = true := Bool.and_eq_true_iff.mp h

section
variable {X : Cx} {T : Tab} {n : Nat}
/-- a value that is a truth, as a test -/
theorem pt_of {e : Expr} {ρ ρ' : DEnv} {b : Bool} {m : Mode} (h : PE X e (tS X.K ρ (.bl b) m ρ')) (hp : plainT e = true) : PT X e (tST X.K ρ b ρ') := by
  refine (pt_val h (plain_t hp)).imp fun σ H Q q => ?_
  obtain ⟨B, R, k⟩ := q
  exact ⟨B, R, fun v H1 R1 f1 rv => ⟨b, (rdb_of R1 rv).bl, k H1 R1 f1⟩⟩
theorem pw_imp {e : Expr} {t t' : TT} (h : PW X e t) (i : ∀ σ H Q, t' σ H Q → t σ H Q) : PW X e t' := ⟨fun wh pins s σ H Q I q => h.run wh pins s σ H Q I (i σ H Q q)⟩
theorem pw_no {e : Expr} : PW X e (fun _ _ _ => False) := ⟨fun _ _ _ _ _ _ _ h => h.elim⟩
theorem pw_bool {op : BoolOp} {l : List Expr} {pos : Pos} {t : TT} (h : PT X (.BoolOp op l pos) t) : PW X (.BoolOp op l pos) t := ⟨fun wh pins s σ H Q I q => h.run pins s σ H Q I q⟩
theorem step_lc {vs : List Nat} {tg : Nat} {elt : IE} {K : PySem.W.Frag} : StepOk K vs tg tYes (tUK K T elt) (oneOf (ev T elt) tg vs) := by
  intro x ρ' o ρ'' h B σ0 H v R hx Qy Qn ky kn
  obtain ⟨⟨y, m, ρ3⟩, h1, h2⟩ := Res.bind_ok h
  cases h2
  show (if true = true then tUK K T elt (σ0.set tg (some v)) H Qy else Qn H)
  rw [if_pos rfl]
  exact ⟨_, y, m, ρ3, h1, B, R.setVal tg hx, fun w H' R' f' rv => ky w y H' rfl R' f' rv⟩
theorem step_lcI {vs : List Nat} {tg : Nat} {elt cond : IE} {K : PySem.W.Frag} : StepOk K vs tg (tUT K T cond) (tUK K T elt) (oneIf (ev T cond) (ev T elt) tg vs) := by
  intro x ρ' o ρ'' h B σ0 H v R hx Qy Qn ky kn
  obtain ⟨⟨c, mc, ρa⟩, h1, h2⟩ := Res.bind_ok h
  dsimp only at h2
  split at h2
  · obtain ⟨⟨y, m, ρ3⟩, h3, h4⟩ := Res.bind_ok h2
    cases h4
    refine ⟨_, true, mc, ρa, h1, B, R.setVal tg hx, fun H' R' f' => ?_⟩
    refine iteT ?_
    exact ⟨_, y, m, ρ3, h3, B, R', fun w H'' R'' f'' rv => ky w y H'' rfl R'' (f'.trans f'') rv⟩
  · cases h2
    refine ⟨_, false, mc, _, h1, B, R.setVal tg hx, fun H' R' f' => ?_⟩
    refine iteF ?_
    exact kn H' rfl R' f'
  · cases h2
theorem signs_is {K : PySem.W.Frag} {H : Hp} (s : Str) : IsL K H (s.cps.toList.map fun c => V.str ⟨#[c]⟩) (s.cps.toList.map fun c => Dat.str ⟨#[c]⟩) := by
  induction s.cps.toList with
  | nil => exact .nil
  | cons c r ih => exact .cons (.str _) ih
theorem rng_is {K : PySem.W.Frag} {H : Hp} (j : Int) : IsL K H ((List.range j.toNat).map fun (k : Nat) => V.int (k : Int)) ((List.range j.toNat).map fun (k : Nat) => Dat.int (k : Int)) := by
  induction (List.range j.toNat) with
  | nil => exact .nil
  | cons c r ih => exact .cons (.int _) ih
theorem op_lt0 {X : Cx} {op : CmpOp} : OpR X (compareOp op) (fun _ _ _ _ => False) := fun _ _ _ _ _ _ _ _ _ _ _ _ h => h.elim
theorem own_in {own : List (Str × Nat)} {x : Str} {tg : Nat} (h : (x, tg) ∈ own) : tg ∈ own.map (·.2) := List.mem_map.mpr ⟨_, h, rfl⟩
theorem loc_rel {scope sc : Scope} {x : Str} (h : (match scope.names.lookup x with | some .local => true | some .cell => true | _ => false) = true) :
    Loc (relS scope sc) x ∧ ((scope.names.lookup x == some .cell) = true ∨ (relS scope sc).names.lookup x = some .local) := by
  split at h
  · rename_i e
    have q := lookup_relS_keep (sc := sc) (k := .local) (by decide) e
    exact ⟨.inl q, .inr q⟩
  · rename_i e
    have q := lookup_relS_keep (sc := sc) (k := .cell) (by decide) e
    exact ⟨.inr q, .inl (by rw [e]; rfl)⟩
  · cases h
end
mutual
theorem snd {T : Tab} {n : Nat} : ∀ (ie : IE) {X : Cx} {e : Expr}, Good T n X → chk X.N X.env.scope ie e = true → ∀ {ρ d m ρ'}, ev T ie ρ = .ok (d, m, ρ') → PE X e (tS X.K ρ d m ρ')
  | .var i, X, e, g, c, ρ, d, m, ρ', h => by
    simp only [chk] at c
    split at c
    · rename_i x pos
      have c1 := and_and c
      have c2 := and_and c1.1
      have hN : X.N[i]? = some x := of_decide_eq_true c2.1
      refine (pe_var hN (vis_of c2.2) (odd1 c1.2) (odd2 c1.2)).imp fun σ H Q q => ?_
      obtain ⟨B, R, k⟩ := q
      simp only [ev] at h
      split at h
      · rename_i z
        cases h
        obtain ⟨v, h1, h2⟩ := R.val i _ z
        exact ⟨v, h1, k v H R (FrzLe.refl H) h2⟩
      · rename_i z
        cases h
        obtain ⟨p, h1, h2, h3⟩ := R.own i _ z
        exact ⟨.ref p, h1, k _ H R (FrzLe.refl H) ⟨h1, z⟩⟩
      · cases h
    · cases c
  | .cst d0, X, e, g, c, ρ, d, m, ρ', h => by
    simp only [ev] at h
    cases h
    simp only [chk] at c
    split at c
    · rename_i cc _ _
      cases d0 with
      | non =>
        cases cc <;> first | cases c | skip
        exact pe_non.imp fun σ H Q ⟨B, R, k⟩ => k _ H R (FrzLe.refl H) .non
      | bl b =>
        cases cc <;> first | cases c | skip
        have := eq_of_beq c
        subst this
        exact pe_bl.imp fun σ H Q ⟨B, R, k⟩ => k _ H R (FrzLe.refl H) (.bl _)
      | int i =>
        cases cc <;> first | cases c | skip
        have := eq_of_beq c
        subst this
        exact pe_int.imp fun σ H Q ⟨B, R, k⟩ => k _ H R (FrzLe.refl H) (.int _)
      | str z =>
        cases cc <;> first | cases c | skip
        have := eq_of_beq c
        subst this
        exact pe_str.imp fun σ H Q ⟨B, R, k⟩ => k _ H R (FrzLe.refl H) (.str _)
      | lst _ => cases c
      | tup _ => cases c
      | dic _ => cases c
      | scr _ => cases c
    · cases c
  | .glb x, X, e, g, c, ρ, d, m, ρ', h => by
    simp only [ev] at h
    obtain ⟨d', h1, h2⟩ := Res.bind_ok h
    cases h2
    have h3 := ofO_ok h1
    simp only [chk] at c
    split at c
    · have c1 := and_and c
      have c2 := and_and c1.1
      have e1 := of_decide_eq_true c2.1
      subst e1
      obtain ⟨u, v, g1, g2, g3⟩ := g.con x d h3
      exact (pe_glob (glo_of c2.2) g1 g2 (odd1 c1.2)).imp fun σ H Q ⟨B, R, k⟩ => k _ H R (FrzLe.refl H) (g3 H)
    · cases c
  | .tup es, X, e, g, c, ρ, d, m, ρ', h => by
    simp only [ev] at h
    obtain ⟨⟨ds, ρ1⟩, h1, h2⟩ := Res.bind_ok h
    dsimp only at h2
    split at h2
    · rename_i hz
      cases h2
      simp only [chk] at c
      split at c
      · refine (pe_tup (snds es g c h1)).imp fun σ H Q ⟨B, R, k⟩ => ⟨B, R, fun vs H1 R1 f1 l => ⟨by rw [l.length]; exact sm_le hz, fun p hp => ?_⟩⟩
        exact k _ _ (R1.new hp) (f1.trans (FrzLe.new hp)) (.tup (.inl (.inl upd_same)) (l.mono (FrzLe.new hp)))
      · cases c
    · cases h2
  | .lst es, X, e, g, c, ρ, d, m, ρ', h => by
    simp only [ev] at h
    obtain ⟨⟨ds, ρ1⟩, h1, h2⟩ := Res.bind_ok h
    dsimp only at h2
    split at h2
    · rename_i hz
      cases h2
      simp only [chk] at c
      split at c
      · refine (pe_lst (snds es g c h1)).imp fun σ H Q ⟨B, R, k⟩ => ⟨B, R, fun vs H1 R1 f1 l => ⟨by rw [l.length]; exact sm_le hz, fun p hp => ?_⟩⟩
        exact k _ _ (R1.new hp) (f1.trans (FrzLe.new hp)) ⟨p, rfl, ⟨vs, ds, rfl, upd_same, l.mono (FrzLe.new hp)⟩, R1.newB hp, R1.newS hp⟩
      · cases c
    · cases h2
  | .dic0, X, e, g, c, ρ, d, m, ρ', h => by
    simp only [ev] at h
    cases h
    simp only [chk] at c
    split at c
    · exact pe_dic0
    · cases c
  | .dic1 k v, X, e, g, c, ρ, d, m, ρ', h => by
    simp only [ev] at h
    obtain ⟨⟨x, m1, ρ1⟩, h1, h2⟩ := Res.bind_ok h
    dsimp only at h2
    split at h2
    · obtain ⟨⟨y, m2, ρ2⟩, h3, h4⟩ := Res.bind_ok h2
      cases h4
      simp only [chk] at c
      split at c
      · have c1 := and_and c
        exact pe_dic1 (snd k g c1.1 h1) (pe_keep (snd v g c1.2 h3))
      · cases c
    · cases h2
  | .bin op a b, X, e, g, c, ρ, d, m, ρ', h => by
    simp only [ev] at h
    obtain ⟨⟨x, m1, ρ1⟩, h1, h2⟩ := Res.bind_ok h
    obtain ⟨⟨y, m2, ρ2⟩, h3, h4⟩ := Res.bind_ok h2
    obtain ⟨x', h5, h6⟩ := Res.bind_ok h4
    obtain ⟨⟨d', k'⟩, h7, h8⟩ := Res.bind_ok h6
    cases h8
    simp only [chk] at c
    split at c
    · have c1 := and_and c
      have c2 := and_and c1.1
      have e1 := of_decide_eq_true c2.1
      subst e1
      obtain ⟨r, hr, hw⟩ := bin_snd (X := X) (ofO_ok h7)
      exact (pe_op hr (snd a g c2.2 h1) (snd b g c1.2 h3)).imp (tS_two (ofO_ok h5) fun B σ H v w Q R ra rb k => hw B σ _ H v w Q R ra rb k)
    · cases c
  | .neg a, X, e, g, c, ρ, d, m, ρ', h => by
    simp only [ev] at h
    obtain ⟨⟨x, m1, ρ1⟩, h1, h2⟩ := Res.bind_ok h
    dsimp only at h2
    split at h2
    · cases h2
      simp only [chk] at c
      split at c
      · exact (pe_un un_neg (snd a g c h1)).imp (tS_one fun B σ H v Q R ra k => ⟨_, ra.int, k.val R (.int _)⟩)
      · cases c
    · cases h2
  | .not a, X, e, g, c, ρ, d, m, ρ', h => by
    simp only [ev] at h
    obtain ⟨⟨x, m1, ρ1⟩, h1, h2⟩ := Res.bind_ok h
    dsimp only at h2
    split at h2
    · cases h2
      simp only [chk] at c
      split at c
      · exact (pe_not (snd a g c h1)).imp (tS_one fun B σ H v Q R ra k => ⟨_, ra.bl, k.val R (.bl _)⟩)
      · cases c
    · cases h2
  | .and a b, X, e, g, c, ρ, d, m, ρ', h => by
    simp only [ev] at h
    obtain ⟨⟨x, m1, ρ1⟩, h1, h2⟩ := Res.bind_ok h
    have key : ∀ {y : Expr} {pos : Pos} {z : Expr} {r : List Expr}, chk X.N X.env.scope a y = true → (∀ {d m ρ'}, ev T b ρ1 = .ok (d, m, ρ') → PE X (.BoolOp .And (z :: r) pos) (tS X.K ρ1 d m ρ')) → PE X (.BoolOp .And (y :: z :: r) pos) (tS X.K ρ d m ρ') := by
      intro y pos z r ca hb
      dsimp only at h2
      split at h2
      · refine (pe_and (snd a g ca h1) (hb h2)).imp fun σ H Q ⟨B, R, k⟩ => ⟨B, R, fun v H1 R1 f1 rv => ⟨true, (rdb_of R1 rv).bl, ?_⟩⟩
        refine iteT ?_
        exact ⟨B, R1, fun u H2 R2 f2 ru => k u H2 R2 (f1.trans f2) ru⟩
      · cases h2
        refine (pe_and (snd a g ca h1) (pe_no (e := .BoolOp .And (z :: r) pos))).imp fun σ H Q ⟨B, R, k⟩ => ⟨B, R, fun v H1 R1 f1 rv => ⟨false, (rdb_of R1 rv).bl, ?_⟩⟩
        refine iteF ?_
        exact k _ H1 R1 f1 (.bl false)
      · cases h2
    simp only [chk] at c
    split at c
    · have c1 := and_and c
      exact key c1.1 fun hb => pe_one (snd b g c1.2 hb)
    · have c1 := and_and c
      exact key c1.1 fun hb => snd b g c1.2 hb
    · cases c
  | .or a b, X, e, g, c, ρ, d, m, ρ', h => by
    simp only [ev] at h
    obtain ⟨⟨x, m1, ρ1⟩, h1, h2⟩ := Res.bind_ok h
    have key : ∀ {y : Expr} {pos : Pos} {z : Expr} {r : List Expr}, chk X.N X.env.scope a y = true → (∀ {d m ρ'}, ev T b ρ1 = .ok (d, m, ρ') → PE X (.BoolOp .Or (z :: r) pos) (tS X.K ρ1 d m ρ')) → PE X (.BoolOp .Or (y :: z :: r) pos) (tS X.K ρ d m ρ') := by
      intro y pos z r ca hb
      dsimp only at h2
      split at h2
      · refine (pe_or (snd a g ca h1) (hb h2)).imp fun σ H Q ⟨B, R, k⟩ => ⟨B, R, fun v H1 R1 f1 rv => ⟨false, (rdb_of R1 rv).bl, ?_⟩⟩
        refine iteF ?_
        exact ⟨B, R1, fun u H2 R2 f2 ru => k u H2 R2 (f1.trans f2) ru⟩
      · cases h2
        refine (pe_or (snd a g ca h1) (pe_no (e := .BoolOp .Or (z :: r) pos))).imp fun σ H Q ⟨B, R, k⟩ => ⟨B, R, fun v H1 R1 f1 rv => ⟨true, (rdb_of R1 rv).bl, ?_⟩⟩
        refine iteT ?_
        exact k _ H1 R1 f1 (.bl true)
      · cases h2
    simp only [chk] at c
    split at c
    · have c1 := and_and c
      exact key c1.1 fun hb => pe_one (snd b g c1.2 hb)
    · have c1 := and_and c
      exact key c1.1 fun hb => snd b g c1.2 hb
    · cases c
  | .cmp op a b, X, e, g, c, ρ, d, m, ρ', h => by
    simp only [ev] at h
    obtain ⟨⟨x, m1, ρ1⟩, h1, h2⟩ := Res.bind_ok h
    obtain ⟨⟨y, m2, ρ2⟩, h3, h4⟩ := Res.bind_ok h2
    obtain ⟨x', h5, h6⟩ := Res.bind_ok h4
    obtain ⟨r', h7, h8⟩ := Res.bind_ok h6
    cases h8
    simp only [chk] at c
    split at c
    · have c1 := and_and c
      have c2 := and_and c1.1
      have c3 := and_and c2.1
      have e1 := of_decide_eq_true c3.1
      subst e1
      obtain ⟨r, hr, hw⟩ := cmp_snd (X := X) g.hu (ofO_ok h7)
      exact (pe_cmpR hr (snd a g c2.2 h1) (snd b g c1.2 h3) (noSet_marks c3.2)).imp (tS_two (ofO_ok h5) fun B σ H v w Q R ra rb k => hw H v w Q ra rb (k.val R (.bl _)))
    · cases c
  | .cmp2 o p a b z, X, e, g, c, ρ, d, m, ρ', h => by
    simp only [ev] at h
    obtain ⟨⟨x, m1, ρ1⟩, h1, h2⟩ := Res.bind_ok h
    obtain ⟨⟨y, m2, ρ2⟩, h3, h4⟩ := Res.bind_ok h2
    dsimp only at h4
    split at h4
    · obtain ⟨r', h5, h6⟩ := Res.bind_ok h4
      obtain ⟨r, hr, hw⟩ := cmp_snd (X := X) g.hu (ofO_ok h5)
      simp only [chk] at c
      split at c
      · have c1 := and_and c
        have c2 := and_and c1.1
        have c3 := and_and c2.1
        have c4 := and_and c3.1
        have c5 := and_and c4.1
        have e1 := of_decide_eq_true c5.1
        have e2 := of_decide_eq_true c5.2
        subst e1
        subst e2
        split at h6
        · cases h6
          refine (pe_chain hr op_lt0 (snd a g c3.2 h1) (snd b g c2.2 h3) pe_no (noSet_marks2 c4.2)).imp fun σ H Q ⟨B, R, k⟩ => ⟨B, R, fun v H1 R1 f1 rv => ⟨B, R1, fun u H2 R2 f2 ru => ?_⟩⟩
          refine hw H2 v u _ ?_ (rdb_of R2 ru) ⟨false, rfl, ?_⟩
          · have := (rdb_of R1 rv).int
            subst this
            exact .inl (.int _)
          · refine iteF ?_
            exact k _ H2 R2 (f1.trans f2) (.bl false)
        · obtain ⟨⟨w, m3, ρ3⟩, h7, h8⟩ := Res.bind_ok h6
          dsimp only at h8
          split at h8
          · obtain ⟨r2, h9, h10⟩ := Res.bind_ok h8
            cases h10
            obtain ⟨q, hq, hw2⟩ := cmp_snd (X := X) g.hu (ofO_ok h9)
            refine (pe_chain hr hq (snd a g c3.2 h1) (snd b g c2.2 h3) (snd z g c1.2 h7) (noSet_marks2 c4.2)).imp fun σ H Q ⟨B, R, k⟩ => ⟨B, R, fun v H1 R1 f1 rv => ⟨B, R1, fun u H2 R2 f2 ru => ?_⟩⟩
            have ev1 := (rdb_of R1 rv).int
            have eu1 := (rdb_of R2 ru).int
            subst ev1
            subst eu1
            refine hw H2 _ _ _ (.inl (.int _)) (.inl (.int _)) ⟨true, rfl, ?_⟩
            refine iteT ?_
            exact ⟨B, R2, fun t H3 R3 f3 rt => hw2 H3 _ t _ (.inl (.int _)) (rdb_of R3 rt) (k _ H3 R3 (f1.trans (f2.trans f3)) (.bl _))⟩
          · cases h8
      · cases c
    · cases h4
  | .ite z a b, X, e, g, c, ρ, d, m, ρ', h => by
    simp only [ev] at h
    obtain ⟨⟨x, m1, ρ1⟩, h1, h2⟩ := Res.bind_ok h
    simp only [chk] at c
    split at c
    · have c1 := and_and c
      have c2 := and_and c1.1
      have c3 := and_and c2.1
      dsimp only at h2
      split at h2
      · refine (pe_ifExp (sndT z g c3.1 c3.2 h1) (snd a g c2.2 h2) pe_no).imp fun σ H Q ⟨B, R, k⟩ => ⟨B, R, fun H1 R1 f1 => ?_⟩
        refine iteT ?_
        exact ⟨B, R1, fun u H2 R2 f2 ru => k u H2 R2 (f1.trans f2) ru⟩
      · refine (pe_ifExp (sndT z g c3.1 c3.2 h1) pe_no (snd b g c1.2 h2)).imp fun σ H Q ⟨B, R, k⟩ => ⟨B, R, fun H1 R1 f1 => ?_⟩
        refine iteF ?_
        exact ⟨B, R1, fun u H2 R2 f2 ru => k u H2 R2 (f1.trans f2) ru⟩
      · cases h2
    · cases c
  | .idx a b, X, e, g, c, ρ, d, m, ρ', h => by
    simp only [ev] at h
    obtain ⟨⟨x, m1, ρ1⟩, h1, h2⟩ := Res.bind_ok h
    obtain ⟨⟨y, m2, ρ2⟩, h3, h4⟩ := Res.bind_ok h2
    obtain ⟨x', h5, h6⟩ := Res.bind_ok h4
    obtain ⟨d', h7, h8⟩ := Res.bind_ok h6
    cases h8
    simp only [chk] at c
    split at c
    · have c1 := and_and c
      have c2 := and_and c1.1
      obtain ⟨r, hr, hw⟩ := idx_snd (X := X) (ofO_ok h7)
      exact (pe_ix hr (snd a g c2.2 h1) (snd b g c1.2 h3) (plain_ix c2.1)).imp (tS_two (ofO_ok h5) fun B σ H v w Q R ra rb k => hw B σ _ H v w Q R ra rb k)
    · cases c
  | .slcL a b, X, e, g, c, ρ, d, m, ρ', h => by
    simp only [ev] at h
    obtain ⟨⟨x, m1, ρ1⟩, h1, h2⟩ := Res.bind_ok h
    obtain ⟨⟨y, m2, ρ2⟩, h3, h4⟩ := Res.bind_ok h2
    obtain ⟨x', h5, h6⟩ := Res.bind_ok h4
    dsimp only at h6
    split at h6
    · rename_i i
      obtain ⟨⟨d', k'⟩, h7, h8⟩ := Res.bind_ok h6
      cases h8
      simp only [chk] at c
      split at c
      · have c1 := and_and c
        obtain ⟨r, hr, hw⟩ := slc_snd (X := X) (ofO_ok h7)
        refine (pe_slice hr (snd a g c1.1 h1) (po_some (snd b g c1.2 h3)) po_none).imp fun σ H Q ⟨B, R, k⟩ => ⟨B, R, fun v H1 R1 f1 rv => ?_⟩
        obtain ⟨B1, R1', le, cr⟩ := carry R1 rv
        refine ⟨B1, R1', fun u H2 R2 f2 ru => ⟨i, (rdb_of R2 ru).int, ?_⟩⟩
        exact hw B σ _ H2 v Q (R2.weak le) (cr H2 _ x' R2 f2 (ofO_ok h5)) fun z H3 R3 f3 rz => k z H3 R3 (f1.trans (f2.trans f3)) rz
      · cases c
    · cases h6
  | .slcR a b, X, e, g, c, ρ, d, m, ρ', h => by
    simp only [ev] at h
    obtain ⟨⟨x, m1, ρ1⟩, h1, h2⟩ := Res.bind_ok h
    obtain ⟨⟨y, m2, ρ2⟩, h3, h4⟩ := Res.bind_ok h2
    obtain ⟨x', h5, h6⟩ := Res.bind_ok h4
    dsimp only at h6
    split at h6
    · rename_i i
      obtain ⟨⟨d', k'⟩, h7, h8⟩ := Res.bind_ok h6
      cases h8
      simp only [chk] at c
      split at c
      · have c1 := and_and c
        obtain ⟨r, hr, hw⟩ := slc_snd (X := X) (ofO_ok h7)
        refine (pe_slice hr (snd a g c1.1 h1) po_none (po_some (snd b g c1.2 h3))).imp fun σ H Q ⟨B, R, k⟩ => ⟨B, R, fun v H1 R1 f1 rv => ?_⟩
        obtain ⟨B1, R1', le, cr⟩ := carry R1 rv
        refine ⟨B1, R1', fun u H2 R2 f2 ru => ⟨i, (rdb_of R2 ru).int, ?_⟩⟩
        exact hw B σ _ H2 v Q (R2.weak le) (cr H2 _ x' R2 f2 (ofO_ok h5)) fun z H3 R3 f3 rz => k z H3 R3 (f1.trans (f2.trans f3)) rz
      · cases c
    · cases h6
  | .call f as, X, e, g, c, ρ, d, m, ρ', h => by
    simp only [ev] at h
    split at h
    · cases h
    · rename_i fi hf
      obtain ⟨⟨got, ρ1⟩, h1, h2⟩ := Res.bind_ok h
      dsimp only at h2
      split at h2
      · rename_i hnd
        obtain ⟨ds, h3, h4⟩ := Res.bind_ok h2
        obtain ⟨⟨d', new, outs⟩, h5, h6⟩ := Res.bind_ok h4
        · cases h6
          simp only [chk] at c
          split at c
          · have c1 := and_and c
            have c2 := and_and c1.1
            have c3 := and_and c2.1
            have e1 := of_decide_eq_true c3.1
            subst e1
            obtain ⟨a, fd, ps, k, hk, g1, g2, g3, g4⟩ := g.fns f fi hf
            have st := chks_star c1.2
            refine (pe_callG g4 (g.room.mono hk) g.grd (glo_of c3.2) g1 g2 g3 (sndA as g c1.2 h1) (odd1 c2.2) (star_cons (st _ List.mem_cons_self)) (star_none fun e he => st e (List.mem_cons_of_mem _ he))).imp fun σ H Q ⟨B, R, k⟩ => ⟨B, R, fun vs H1 R1 f1 l => ?_⟩
            have sh := args_shape h1 hnd.2
            have rd := ofO_ok h3
            refine ⟨ds, _, new, outs, h5, got_args R1 sh l rd, ioA_nodup R1 sh l rd hnd.1, fun v H' P => ?_⟩
            obtain ⟨R2, rv⟩ := call_back R1 sh l rd hnd.1 P
            exact k v H' R2 (f1.trans P.2.1) rv
          · cases c
      · cases h2
  | .bi b as, X, e, g, c, ρ, d, m, ρ', h => by
    simp only [chk] at c
    split at c
    · have c1 := and_and c
      have c2 := and_and c1.1
      have e1 := of_decide_eq_true c2.1
      subst e1
      have st := chks_star c1.2
      have cs := c1.2
      cases as with
      | nil => simp only [ev] at h; cases h
      | cons a as =>
        cases as with
        | nil =>
          simp only [ev] at h
          obtain ⟨⟨x, m1, ρ1⟩, h1, h2⟩ := Res.bind_ok h
          obtain ⟨⟨d', k'⟩, h3, h4⟩ := Res.bind_ok h2
          cases h4
          obtain ⟨r, hr, hw⟩ := bi_snd (X := X) g.calm g.grd g.hu (ofO_ok h3)
          simp only [chks] at cs
          have cs1 := and_and cs
          have cs2 := and_and cs1.1
          split at cs1
          · refine (bi_call (g := b.name) hr (glo_of c2.2) (g.bt b) (pa_cons (snd a g cs2.2 h1) pa_nil (star_cons cs2.1)) st).imp (tS_one fun B σ H v Q R ra k => ?_)
            exact hw B σ _ H [v] Q R (.cons ra .nil) k
          · cases cs1.2
        | cons b2 as =>
          cases as with
          | nil =>
            simp only [ev] at h
            obtain ⟨⟨x, m1, ρ1⟩, h1, h2⟩ := Res.bind_ok h
            obtain ⟨⟨y, m2, ρ2⟩, h3, h4⟩ := Res.bind_ok h2
            obtain ⟨x', h5, h6⟩ := Res.bind_ok h4
            obtain ⟨⟨d', k'⟩, h7, h8⟩ := Res.bind_ok h6
            cases h8
            obtain ⟨r, hr, hw⟩ := bi_snd (X := X) g.calm g.grd g.hu (ofO_ok h7)
            simp only [chks] at cs
            have cs1 := and_and cs
            have cs2 := and_and cs1.1
            split at cs1
            · have cs3 := and_and cs1.2
              have cs4 := and_and cs3.1
              split at cs3
              · refine (bi_call (g := b.name) hr (glo_of c2.2) (g.bt b) (pa_cons (snd a g cs2.2 h1) (pa_cons (snd b2 g cs4.2 h3) pa_nil (star_cons cs4.1)) (star_cons cs2.1)) st).imp fun σ H Q q => ?_
                exact tS_two (r := fun v w H Q => r [v, w] H Q) (ofO_ok h5) (fun B σ H v w Q R ra rb k => hw B σ _ H [v, w] Q R (.cons ra (.cons rb .nil)) k) σ H Q q
              · cases cs3.2
            · cases cs1.2
          | cons _ _ => simp only [ev] at h; cases h
    · cases c
  | .isi a ty, X, e, g, c, ρ, d, m, ρ', h => by
    simp only [ev] at h
    obtain ⟨⟨x, m1, ρ1⟩, h1, h2⟩ := Res.bind_ok h
    obtain ⟨b, h3, h4⟩ := Res.bind_ok h2
    cases h4
    have hi := ofO_ok h3
    have ht := (isa_is hi).1
    obtain ⟨t1, t2, t3⟩ := ty_boot ht
    simp only [chk] at c
    split at c
    · have c1 := and_and c
      have c2 := and_and c1.1
      have c3 := and_and c2.1
      have c4 := and_and c3.1
      have c5 := and_and c4.1
      have e1 := of_decide_eq_true c5.1
      have e2 := of_decide_eq_true c4.2
      subst e1
      subst e2
      refine (pe_callB (call_isiR hi) (glo_of c5.2) g.isi PyProof.Rows.boot_isinstance (pa_cons (snd a g c1.2 h1) (pa_cons (pe_bltn (v := .ty ty) (glo_of c3.2) (g.tys ty ht) t1 rfl t2 t3) pa_nil) (star_cons c2.2)) (by decide) (by decide) (star_cons c2.2) rfl).imp
        (tS_one fun B σ H v Q R ra k => ⟨v, rfl, ra, k.val R (.bl _)⟩)
    · cases c
  | .join o a, X, e, g, c, ρ, d, m, ρ', h => by
    simp only [ev] at h
    obtain ⟨⟨x, m1, ρ1⟩, h1, h2⟩ := Res.bind_ok h
    obtain ⟨⟨y, m2, ρ2⟩, h3, h4⟩ := Res.bind_ok h2
    dsimp only at h4
    split at h4
    · rename_i s ys
      obtain ⟨zs, h5, h6⟩ := Res.bind_ok h4
      split at h6
      · rename_i hz
        cases h6
        simp only [chk] at c
        split at c
        · have c1 := and_and c
          have c2 := and_and c1.1
          have c3 := and_and c2.1
          have c4 := and_and c3.1
          have c5 := and_and c4.1
          have e1 := of_decide_eq_true c5.1
          subst e1
          refine (pe_join (snd o g c2.2 h1) (snd a g c1.2 h3) (star_cons c3.2) (plain_o c5.2) c4.2).imp fun σ H Q ⟨B, R, k⟩ => ⟨B, R, fun v H1 R1 f1 rv => ?_⟩
          have ev1 := (rdb_of R1 rv).str
          subst ev1
          refine ⟨⟨s, rfl⟩, B, R1, fun u H2 R2 f2 ru => ?_⟩
          obtain ⟨p, vs, rfl, hp, l⟩ := (rdb_of R2 ru).lst
          rw [strs_is (ofO_ok h5) l] at hp
          exact ⟨s, p, zs, rfl, rfl, .inl hp, Nat.le_trans (of_decide_eq_true hz) (by decide), k _ H2 R2 (f1.trans f2) (.str _)⟩
        · cases c
      · cases h6
    · cases h4
  | .upper o, X, e, g, c, ρ, d, m, ρ', h => by
    simp only [ev] at h
    obtain ⟨⟨x, m1, ρ1⟩, h1, h2⟩ := Res.bind_ok h
    dsimp only at h2
    split at h2
    · rename_i s
      split at h2
      · rename_i hz
        cases h2
        simp only [chk] at c
        split at c
        · have c1 := and_and c
          have c2 := and_and c1.1
          have c3 := and_and c2.1
          have e1 := of_decide_eq_true c3.1
          subst e1
          refine (pe_upper (snd o g c1.2 h1) (plain_o c3.2) c2.2).imp fun σ H Q ⟨B, R, k⟩ => ⟨B, R, fun v H1 R1 f1 rv => ?_⟩
          have ev1 := (rdb_of R1 rv).str
          subst ev1
          exact ⟨⟨s, rfl⟩, s, rfl, rfl, Nat.le_trans (of_decide_eq_true hz) (by decide), k _ H1 R1 f1 (.str _)⟩
        · cases c
      · cases h2
    · cases h2
  | .lc elt tg it own, X, e, g, c, ρ, d, m, ρ', h => by
    simp only [ev] at h
    obtain ⟨⟨x, m1, ρ1⟩, h1, h2⟩ := Res.bind_ok h
    obtain ⟨xs, h3, h4⟩ := Res.bind_ok h2
    unfold comp at h4
    split at h4
    · rename_i hz
      have hz' := and_and hz
      obtain ⟨⟨ys, ρ2⟩, h5, h6⟩ := Res.bind_ok h4
      cases h6
      simp only [chk] at c
      split at c
      · rename_i y0 x0 p0 i0 scope p1
        have c1 := and_and c
        have c2 := and_and c1.1
        have c3 := and_and c2.1
        have c4 := and_and c3.1
        have c5 := and_and c4.1
        have c6 := and_and c5.1
        have hm := of_decide_eq_true c5.2
        have lo := loc_rel (sc := X.env.scope) c3.2
        have he := pe_keep (snd it g c2.2 h1)
        have pg : ∀ (pos : Pos) (s : Shared) (H : Hp) (C : Addr) (cl : List (Str × Addr)) (fp : List Addr), PG (X.blk s H scope (compEnvC scope cl C X.env) fp) (.Name x0 pos) (gName tg) := fun pos s H C cl fp => pg_name g.nd ((blkOk_by c6.2).ix _ hm) lo.1 lo.2
        have pe' : ∀ (s : Shared) (H : Hp) (C : Addr) (cl : List (Str × Addr)) (fp : List Addr), PE (X.blk s H scope (compEnvC scope cl C X.env) fp) y0 (tUK X.K T elt) := fun s H C cl fp => pe_UK (X := X.blk s H scope (compEnvC scope cl C X.env) fp) fun hh => snd elt (X := X.blk s H scope (compEnvC scope cl C X.env) fp) (g.blk s H scope _ fp) c1.2 hh
        cases x with
        | lst ds =>
          cases (show some ds = some xs from ofO_ok h3)
          refine (pe_lc g.calm g.nd (pi_list he) (blkOk_by c6.2) (pg _) (fun _ _ _ _ _ => pts_nil) pe' (noSet_fold c6.1)).imp fun σ H Q ⟨B, R, k⟩ => ⟨B, R, fun v H1 R1 f1 rv => ?_⟩
          cases rv with
          | lst a l =>
            refine ⟨_, rfl, ⟨_, .inl (.inr ⟨_, a⟩)⟩, ?_⟩
            exact comp_snd step_lc h5 l (walker_list a) R1 hz'.2 hz'.1 (own_in hm) fun z H3 R3 f3 rz => k z H3 R3 (f1.trans f3) rz
        | tup ds =>
          cases (show some ds = some xs from ofO_ok h3)
          refine (pe_lc g.calm g.nd (pi_tup he) (blkOk_by c6.2) (pg _) (fun _ _ _ _ _ => pts_nil) pe' (noSet_fold c6.1)).imp fun σ H Q ⟨B, R, k⟩ => ⟨B, R, fun v H1 R1 f1 rv => ?_⟩
          cases rv with
          | tup a l =>
            refine ⟨_, rfl, ⟨_, a⟩, ?_⟩
            exact comp_snd step_lc h5 l (walker_tup a) R1 hz'.2 hz'.1 (own_in hm) fun z H3 R3 f3 rz => k z H3 R3 (f1.trans f3) rz
        | str s =>
          cases (show some (s.cps.toList.map fun c => Dat.str ⟨#[c]⟩) = some xs from ofO_ok h3)
          refine (pe_lc g.calm g.nd (pi_str he) (blkOk_by c6.2) (pg _) (fun _ _ _ _ _ => pts_nil) pe' (noSet_fold c6.1)).imp fun σ H Q ⟨B, R, k⟩ => ⟨B, R, fun v H1 R1 f1 rv => ?_⟩
          cases rv
          refine ⟨_, rfl, ?_⟩
          exact comp_snd step_lc h5 (signs_is s) (walker_str s) R1 hz'.2 hz'.1 (own_in hm) fun z H3 R3 f3 rz => k z H3 R3 (f1.trans f3) rz
        | non => cases ofO_ok h3
        | bl _ => cases ofO_ok h3
        | int _ => cases ofO_ok h3
        | dic _ => cases ofO_ok h3
        | scr _ => cases ofO_ok h3
      · cases c
    · cases h4
  | .lcI elt tg it cond own, X, e, g, c, ρ, d, m, ρ', h => by
    simp only [ev] at h
    obtain ⟨⟨x, m1, ρ1⟩, h1, h2⟩ := Res.bind_ok h
    obtain ⟨xs, h3, h4⟩ := Res.bind_ok h2
    unfold comp at h4
    split at h4
    · rename_i hz
      have hz' := and_and hz
      obtain ⟨⟨ys, ρ2⟩, h5, h6⟩ := Res.bind_ok h4
      cases h6
      simp only [chk] at c
      split at c
      · rename_i y0 x0 p0 i0 cc0 scope p1
        have c0 := and_and c
        have c1 := and_and c0.1
        have c2 := and_and c1.1
        have c3 := and_and c2.1
        have c4 := and_and c3.1
        have c5 := and_and c4.1
        have c6 := and_and c5.1
        have c7 := and_and c6.1
        have hm := of_decide_eq_true c5.2
        have lo := loc_rel (sc := X.env.scope) c3.2
        have he := pe_keep (snd it g c2.2 h1)
        have pg : ∀ (pos : Pos) (s : Shared) (H : Hp) (C : Addr) (cl : List (Str × Addr)) (fp : List Addr), PG (X.blk s H scope (compEnvC scope cl C X.env) fp) (.Name x0 pos) (gName tg) := fun pos s H C cl fp => pg_name g.nd ((blkOk_by c6.2).ix _ hm) lo.1 lo.2
        have pe' : ∀ (s : Shared) (H : Hp) (C : Addr) (cl : List (Str × Addr)) (fp : List Addr), PE (X.blk s H scope (compEnvC scope cl C X.env) fp) y0 (tUK X.K T elt) := fun s H C cl fp => pe_UK (X := X.blk s H scope (compEnvC scope cl C X.env) fp) fun hh => snd elt (X := X.blk s H scope (compEnvC scope cl C X.env) fp) (g.blk s H scope _ fp) c1.2 hh
        have pt' : ∀ (s : Shared) (H : Hp) (C : Addr) (cl : List (Str × Addr)) (fp : List Addr), PTs (X.blk s H scope (compEnvC scope cl C X.env) fp) [cc0] (tUT X.K T cond) := fun s H C cl fp => pts_one (pt_U (X := X.blk s H scope (compEnvC scope cl C X.env) fp) fun hh => sndT cond (X := X.blk s H scope (compEnvC scope cl C X.env) fp) (g.blk s H scope _ fp) c7.1 c0.2 hh)
        cases x with
        | lst ds =>
          cases (show some ds = some xs from ofO_ok h3)
          refine (pe_lc g.calm g.nd (pi_list he) (blkOk_by c6.2) (pg _) pt' pe' (noSet_fold c7.2)).imp fun σ H Q ⟨B, R, k⟩ => ⟨B, R, fun v H1 R1 f1 rv => ?_⟩
          cases rv with
          | lst a l =>
            refine ⟨_, rfl, ⟨_, .inl (.inr ⟨_, a⟩)⟩, ?_⟩
            exact comp_snd step_lcI h5 l (walker_list a) R1 hz'.2 hz'.1 (own_in hm) fun z H3 R3 f3 rz => k z H3 R3 (f1.trans f3) rz
        | tup ds =>
          cases (show some ds = some xs from ofO_ok h3)
          refine (pe_lc g.calm g.nd (pi_tup he) (blkOk_by c6.2) (pg _) pt' pe' (noSet_fold c7.2)).imp fun σ H Q ⟨B, R, k⟩ => ⟨B, R, fun v H1 R1 f1 rv => ?_⟩
          cases rv with
          | tup a l =>
            refine ⟨_, rfl, ⟨_, a⟩, ?_⟩
            exact comp_snd step_lcI h5 l (walker_tup a) R1 hz'.2 hz'.1 (own_in hm) fun z H3 R3 f3 rz => k z H3 R3 (f1.trans f3) rz
        | str s =>
          cases (show some (s.cps.toList.map fun c => Dat.str ⟨#[c]⟩) = some xs from ofO_ok h3)
          refine (pe_lc g.calm g.nd (pi_str he) (blkOk_by c6.2) (pg _) pt' pe' (noSet_fold c7.2)).imp fun σ H Q ⟨B, R, k⟩ => ⟨B, R, fun v H1 R1 f1 rv => ?_⟩
          cases rv
          refine ⟨_, rfl, ?_⟩
          exact comp_snd step_lcI h5 (signs_is s) (walker_str s) R1 hz'.2 hz'.1 (own_in hm) fun z H3 R3 f3 rz => k z H3 R3 (f1.trans f3) rz
        | non => cases ofO_ok h3
        | bl _ => cases ofO_ok h3
        | int _ => cases ofO_ok h3
        | dic _ => cases ofO_ok h3
        | scr _ => cases ofO_ok h3
      · cases c
    · cases h4
  | .lcR elt tg a own, X, e, g, c, ρ, d, m, ρ', h => by
    simp only [ev] at h
    obtain ⟨⟨x, m1, ρ1⟩, h1, h2⟩ := Res.bind_ok h
    dsimp only at h2
    split at h2
    · rename_i j
      split at h2
      · rename_i hj
        unfold comp at h2
        split at h2
        · rename_i hz
          have hz' := and_and hz
          obtain ⟨⟨ys, ρ2⟩, h5, h6⟩ := Res.bind_ok h2
          cases h6
          simp only [chk] at c
          split at c
          · rename_i y0 x0 p0 r0 p2 i0 p3 scope p1
            have c1 := and_and c
            have c2 := and_and c1.1
            have c3 := and_and c2.1
            have c4 := and_and c3.1
            have c5 := and_and c4.1
            have c6 := and_and c5.1
            have c7 := and_and c6.1
            have c8 := and_and c7.1
            have e1 := of_decide_eq_true c8.1
            subst e1
            have hm := of_decide_eq_true c5.2
            have lo := loc_rel (sc := X.env.scope) c3.2
            have pg : ∀ (pos : Pos) (s : Shared) (H : Hp) (C : Addr) (cl : List (Str × Addr)) (fp : List Addr), PG (X.blk s H scope (compEnvC scope cl C X.env) fp) (.Name x0 pos) (gName tg) := fun pos s H C cl fp => pg_name g.nd ((blkOk_by c6.2).ix _ hm) lo.1 lo.2
            have pe' : ∀ (s : Shared) (H : Hp) (C : Addr) (cl : List (Str × Addr)) (fp : List Addr), PE (X.blk s H scope (compEnvC scope cl C X.env) fp) y0 (tUK X.K T elt) := fun s H C cl fp => pe_UK (X := X.blk s H scope (compEnvC scope cl C X.env) fp) fun hh => snd elt (X := X.blk s H scope (compEnvC scope cl C X.env) fp) (g.blk s H scope _ fp) c1.2 hh
            refine (pe_lc g.calm g.nd (pi_range1 (glo_of c8.2) g.rng (pa_cons (snd a g c2.2 h1) pa_nil (star_cons c7.2)) (star_cons c7.2)) (blkOk_by c6.2) (pg _) (fun _ _ _ _ _ => pts_nil) pe' (noSet_fold rfl)).imp fun σ H Q ⟨B, R, k⟩ => ⟨B, R, fun v H1 R1 f1 rv => ?_⟩
            have ev1 := (rdb_of R1 rv).int
            subst ev1
            refine ⟨j, rfl, hj.1, hj.2, ?_⟩
            exact comp_snd step_lc h5 (rng_is j) (walker_rng j) R1 hz'.2 hz'.1 (own_in hm) fun z H3 R3 f3 rz => k z H3 R3 (f1.trans f3) rz
          · cases c
        · cases h2
      · cases h2
    · cases h2
theorem sndT {T : Tab} {n : Nat} : ∀ (ie : IE) {X : Cx} {e : Expr}, Good T n X → tst ie = true → chk X.N X.env.scope ie e = true → ∀ {ρ b m ρ'}, ev T ie ρ = .ok (.bl b, m, ρ') → PT X e (tST X.K ρ b ρ')
  | .not a, X, e, g, t, c, ρ, b, m, ρ', h => by
    simp only [ev] at h
    obtain ⟨⟨x, m1, ρ1⟩, h1, h2⟩ := Res.bind_ok h
    dsimp only at h2
    split at h2
    · cases h2
      simp only [chk] at c
      split at c
      · exact (pt_not (sndT a g t c h1)).imp fun σ H Q ⟨B, R, k⟩ => ⟨B, R, fun H1 R1 f1 => k H1 R1 f1⟩
      · cases c
    · cases h2
  | .and a b0, X, e, g, t, c, ρ, b, m, ρ', h => by
    simp only [ev] at h
    obtain ⟨⟨x, m1, ρ1⟩, h1, h2⟩ := Res.bind_ok h
    have t' := and_and (show (tst a && tst b0) = true from t)
    have key : ∀ {y : Expr} {pos : Pos} {z : Expr} {r : List Expr}, chk X.N X.env.scope a y = true → (∀ {b m ρ'}, ev T b0 ρ1 = .ok (.bl b, m, ρ') → PW X (.BoolOp .And (z :: r) pos) (tST X.K ρ1 b ρ')) → PW X (.BoolOp .And (y :: z :: r) pos) (tST X.K ρ b ρ') := by
      intro y pos z r ca hb
      dsimp only at h2
      split at h2
      · refine pw_imp (pw_and (sndT a g t'.1 ca h1) (hb h2)) fun σ H Q ⟨B, R, k⟩ => ⟨B, R, fun H1 R1 f1 => ?_⟩
        refine iteT ?_
        exact ⟨B, R1, fun H2 R2 f2 => k H2 R2 (f1.trans f2)⟩
      · cases h2
        refine pw_imp (pw_and (sndT a g t'.1 ca h1) (pw_no (e := .BoolOp .And (z :: r) pos))) fun σ H Q ⟨B, R, k⟩ => ⟨B, R, fun H1 R1 f1 => ?_⟩
        refine iteF ?_
        exact k H1 R1 f1
      · cases h2
    simp only [chk] at c
    split at c
    · have c1 := and_and c
      exact (key c1.1 fun hb => pw_and1 (sndT b0 g t'.2 c1.2 hb)).pt
    · rename_i x0 y0 z0 r0 p0
      have c1 := and_and c
      exact (key c1.1 fun hb => pw_bool (sndT b0 g t'.2 c1.2 hb)).pt
    · cases c
  | .or a b0, X, e, g, t, c, ρ, b, m, ρ', h => by
    simp only [ev] at h
    obtain ⟨⟨x, m1, ρ1⟩, h1, h2⟩ := Res.bind_ok h
    have t' := and_and (show (tst a && tst b0) = true from t)
    have key : ∀ {y : Expr} {pos : Pos} {z : Expr} {r : List Expr}, chk X.N X.env.scope a y = true → (∀ {b m ρ'}, ev T b0 ρ1 = .ok (.bl b, m, ρ') → PW X (.BoolOp .Or (z :: r) pos) (tST X.K ρ1 b ρ')) → PW X (.BoolOp .Or (y :: z :: r) pos) (tST X.K ρ b ρ') := by
      intro y pos z r ca hb
      dsimp only at h2
      split at h2
      · refine pw_imp (pw_or (sndT a g t'.1 ca h1) (hb h2)) fun σ H Q ⟨B, R, k⟩ => ⟨B, R, fun H1 R1 f1 => ?_⟩
        refine iteF ?_
        exact ⟨B, R1, fun H2 R2 f2 => k H2 R2 (f1.trans f2)⟩
      · cases h2
        refine pw_imp (pw_or (sndT a g t'.1 ca h1) (pw_no (e := .BoolOp .Or (z :: r) pos))) fun σ H Q ⟨B, R, k⟩ => ⟨B, R, fun H1 R1 f1 => ?_⟩
        refine iteT ?_
        exact k H1 R1 f1
      · cases h2
    simp only [chk] at c
    split at c
    · have c1 := and_and c
      exact (key c1.1 fun hb => pw_or1 (sndT b0 g t'.2 c1.2 hb)).pt
    · have c1 := and_and c
      exact (key c1.1 fun hb => pw_bool (sndT b0 g t'.2 c1.2 hb)).pt
    · cases c
  | .cmp op a b0, X, e, g, t, c, ρ, b, m, ρ', h => by
    simp only [ev] at h
    obtain ⟨⟨x, m1, ρ1⟩, h1, h2⟩ := Res.bind_ok h
    obtain ⟨⟨y, m2, ρ2⟩, h3, h4⟩ := Res.bind_ok h2
    obtain ⟨x', h5, h6⟩ := Res.bind_ok h4
    obtain ⟨r', h7, h8⟩ := Res.bind_ok h6
    cases h8
    simp only [chk] at c
    split at c
    · have c1 := and_and c
      have c2 := and_and c1.1
      have c3 := and_and c2.1
      have e1 := of_decide_eq_true c3.1
      subst e1
      obtain ⟨r, hr, hw⟩ := cmp_snd (X := X) g.hu (ofO_ok h7)
      refine (pt_cmpR hr (snd a g c2.2 h1) (snd b0 g c1.2 h3) (noSet_marks c3.2)).imp fun σ H Q ⟨B, R, k⟩ => ?_
      refine tS_two (d := .bl b) (l := .frz) (ofO_ok h5) (fun B σ H v w Q R ra rb k => hw H v w Q ra rb (k.val R (.bl _))) σ H _ ⟨B, R, fun v H1 R1 f1 rv => ?_⟩
      exact ⟨b, (rdb_of R1 rv).bl, k H1 R1 f1⟩
    · cases c
  | .cmp2 o p a b0 z, X, e, g, t, c, ρ, b, m, ρ', h => by
    simp only [ev] at h
    obtain ⟨⟨x, m1, ρ1⟩, h1, h2⟩ := Res.bind_ok h
    obtain ⟨⟨y, m2, ρ2⟩, h3, h4⟩ := Res.bind_ok h2
    dsimp only at h4
    split at h4
    · obtain ⟨r', h5, h6⟩ := Res.bind_ok h4
      obtain ⟨r, hr, hw⟩ := cmp_snd (X := X) g.hu (ofO_ok h5)
      simp only [chk] at c
      split at c
      · have c1 := and_and c
        have c2 := and_and c1.1
        have c3 := and_and c2.1
        have c4 := and_and c3.1
        have c5 := and_and c4.1
        have e1 := of_decide_eq_true c5.1
        have e2 := of_decide_eq_true c5.2
        subst e1
        subst e2
        split at h6
        · cases h6
          refine (pt_chain hr op_lt0 (snd a g c3.2 h1) (snd b0 g c2.2 h3) pe_no (noSet_marks2 c4.2)).imp fun σ H Q ⟨B, R, k⟩ => ⟨B, R, fun v H1 R1 f1 rv => ⟨B, R1, fun u H2 R2 f2 ru => ?_⟩⟩
          refine hw H2 v u _ ?_ (rdb_of R2 ru) ⟨false, rfl, ?_⟩
          · have := (rdb_of R1 rv).int
            subst this
            exact .inl (.int _)
          · refine iteF ?_
            exact ⟨false, rfl, k H2 R2 (f1.trans f2)⟩
        · obtain ⟨⟨w, m3, ρ3⟩, h7, h8⟩ := Res.bind_ok h6
          dsimp only at h8
          split at h8
          · obtain ⟨r2, h9, h10⟩ := Res.bind_ok h8
            cases h10
            obtain ⟨q, hq, hw2⟩ := cmp_snd (X := X) g.hu (ofO_ok h9)
            refine (pt_chain hr hq (snd a g c3.2 h1) (snd b0 g c2.2 h3) (snd z g c1.2 h7) (noSet_marks2 c4.2)).imp fun σ H Q ⟨B, R, k⟩ => ⟨B, R, fun v H1 R1 f1 rv => ⟨B, R1, fun u H2 R2 f2 ru => ?_⟩⟩
            have ev1 := (rdb_of R1 rv).int
            have eu1 := (rdb_of R2 ru).int
            subst ev1
            subst eu1
            refine hw H2 _ _ _ (.inl (.int _)) (.inl (.int _)) ⟨true, rfl, ?_⟩
            refine iteT ?_
            exact ⟨B, R2, fun t H3 R3 f3 rt => hw2 H3 _ t _ (.inl (.int _)) (rdb_of R3 rt) ⟨_, rfl, k H3 R3 (f1.trans (f2.trans f3))⟩⟩
          · cases h8
      · cases c
    · cases h4
  | .isi a ty, X, e, g, t, c, ρ, b, m, ρ', h => pt_of (snd (.isi a ty) g c h) (by simp only [chk] at c; split at c <;> first | rfl | cases c)
  | .call f as, X, e, g, t, c, ρ, b, m, ρ', h => pt_of (snd (.call f as) g c h) (by simp only [chk] at c; split at c <;> first | rfl | cases c)
  | .bi f as, X, e, g, t, c, ρ, b, m, ρ', h => pt_of (snd (.bi f as) g c h) (by simp only [chk] at c; split at c <;> first | rfl | cases c)
  | .var i, X, e, g, t, c, ρ, b, m, ρ', h => pt_of (snd (.var i) g c h) (by simp only [chk] at c; split at c <;> first | rfl | cases c)
  | .glb i, X, e, g, t, c, ρ, b, m, ρ', h => pt_of (snd (.glb i) g c h) (by simp only [chk] at c; split at c <;> first | rfl | cases c)
  | .idx a b0, X, e, g, t, c, ρ, b, m, ρ', h => pt_of (snd (.idx a b0) g c h) (by simp only [chk] at c; split at c <;> first | rfl | cases c)
  | .cst _, X, e, g, t, c, ρ, b, m, ρ', h => nomatch t
  | .tup _, X, e, g, t, c, ρ, b, m, ρ', h => nomatch t
  | .lst _, X, e, g, t, c, ρ, b, m, ρ', h => nomatch t
  | .dic0, X, e, g, t, c, ρ, b, m, ρ', h => nomatch t
  | .dic1 _ _, X, e, g, t, c, ρ, b, m, ρ', h => nomatch t
  | .bin _ _ _, X, e, g, t, c, ρ, b, m, ρ', h => nomatch t
  | .neg _, X, e, g, t, c, ρ, b, m, ρ', h => nomatch t
  | .ite _ _ _, X, e, g, t, c, ρ, b, m, ρ', h => nomatch t
  | .slcL _ _, X, e, g, t, c, ρ, b, m, ρ', h => nomatch t
  | .slcR _ _, X, e, g, t, c, ρ, b, m, ρ', h => nomatch t
  | .join _ _, X, e, g, t, c, ρ, b, m, ρ', h => nomatch t
  | .upper _, X, e, g, t, c, ρ, b, m, ρ', h => nomatch t
  | .lc _ _ _ _, X, e, g, t, c, ρ, b, m, ρ', h => nomatch t
  | .lcI _ _ _ _ _, X, e, g, t, c, ρ, b, m, ρ', h => nomatch t
  | .lcR _ _ _ _, X, e, g, t, c, ρ, b, m, ρ', h => nomatch t
theorem snds {T : Tab} {n : Nat} : ∀ (es : IEs) {X : Cx} {l : List Expr}, Good T n X → chks X.N X.env.scope es l = true → ∀ {ρ ds ρ'}, evs T es ρ = .ok (ds, ρ') → PA X l (tSA X.K ρ ds ρ')
  | .nil, X, l, g, c, ρ, ds, ρ', h => by
    simp only [evs] at h
    cases h
    simp only [chks] at c
    split at c
    · exact pa_nil.imp fun σ H Q ⟨B, R, k⟩ => k _ H R (FrzLe.refl H) .nil
    · cases c
  | .cons e es, X, l, g, c, ρ, ds, ρ', h => by
    simp only [evs] at h
    obtain ⟨⟨x, m1, ρ1⟩, h1, h2⟩ := Res.bind_ok h
    obtain ⟨⟨ys, ρ2⟩, h3, h4⟩ := Res.bind_ok h2
    cases h4
    simp only [chks] at c
    split at c
    · have c1 := and_and c
      have c2 := and_and c1.1
      refine (pa_cons (pe_keep (snd e g c2.2 h1)) (snds es g c1.2 h3) (star_cons c2.1)).imp fun σ H Q ⟨B, R, k⟩ => ⟨B, R, fun v H1 R1 f1 rv => ⟨B, R1, fun vs H2 R2 f2 l => ?_⟩⟩
      exact k _ H2 R2 (f1.trans f2) (.cons (Is.mono f2 rv) l)
    · cases c
theorem sndA {T : Tab} {n : Nat} : ∀ (es : IEs) {X : Cx} {l : List Expr}, Good T n X → chks X.N X.env.scope es l = true → ∀ {io ρ gt ρ'}, evArgs T io es ρ = .ok (gt, ρ') → PA X l (tSG X.K ρ gt ρ')
  | .nil, X, l, g, c, io, ρ, gt, ρ', h => by
    simp only [evArgs] at h
    cases h
    simp only [chks] at c
    split at c
    · exact pa_nil.imp fun σ H Q ⟨B, R, k⟩ => k _ H R (FrzLe.refl H) trivial
    · cases c
  | .cons e es, X, l, g, c, io, ρ, gt, ρ', h => by
    simp only [chks] at c
    split at c
    · have c1 := and_and c
      have c2 := and_and c1.1
      cases io with
      | nil => simp only [evArgs] at h; cases h
      | cons b io =>
        cases b with
        | false =>
          simp only [evArgs] at h
          obtain ⟨⟨x, m1, ρ1⟩, h1, h2⟩ := Res.bind_ok h
          obtain ⟨⟨ys, ρ2⟩, h3, h4⟩ := Res.bind_ok h2
          cases h4
          refine (pa_cons (pe_keep (snd e g c2.2 h1)) (sndA es g c1.2 h3) (star_cons c2.1)).imp fun σ H Q ⟨B, R, k⟩ => ⟨B, R, fun v H1 R1 f1 rv => ⟨B, R1, fun vs H2 R2 f2 l => ?_⟩⟩
          exact k _ H2 R2 (f1.trans f2) ⟨Is.mono f2 rv, l⟩
        | true =>
          simp only [evArgs] at h
          split at h
          · rename_i i hi
            split at h
            · rename_i dd hd
              obtain ⟨⟨ys, ρ2⟩, h3, h4⟩ := Res.bind_ok h
              cases h4
              have ee : e = .var i := by
                cases e <;> first | (cases hi; rfl) | cases hi
              subst ee
              have hv : ev T (.var i) ρ = .ok (dd, .brw i, ρ) := by
                simp only [ev]
                rw [hd]
              refine (pa_cons (snd (.var i) g c2.2 hv) (sndA es g c1.2 h3) (star_cons c2.1)).imp fun σ H Q ⟨B, R, k⟩ => ⟨B, R, fun v H1 R1 f1 rv => ⟨B, R1, fun vs H2 R2 f2 l => ?_⟩⟩
              exact k _ H2 R2 (f1.trans f2) ⟨rv.1, l⟩
            · cases h
          · obtain ⟨⟨x, m1, ρ1⟩, h1, h2⟩ := Res.bind_ok h
            dsimp only at h2
            split at h2
            · obtain ⟨⟨ys, ρ2⟩, h3, h4⟩ := Res.bind_ok h2
              cases h4
              refine (pa_cons (snd e g c2.2 h1) (sndA es g c1.2 h3) (star_cons c2.1)).imp fun σ H Q ⟨B, R, k⟩ => ⟨B, R, fun v H1 R1 f1 rv => ?_⟩
              obtain ⟨p, rfl, ⟨vs0, ds0, rfl, e0, l0⟩, bp, ns⟩ := rv
              have R1' : REnv X.K (upd B p (.lst vs0)) σ H1 ρ1 := ⟨fun a o hh => by
                  by_cases z : a = p
                  · subst z; rw [upd_same] at hh; cases hh; exact e0
                  · rw [upd_ne z] at hh; exact R1.base a o hh, R1.len, R1.val, fun i d' hh => by
                  obtain ⟨q, q1, q2, q3⟩ := R1.own i d' hh
                  exact ⟨q, q1, by rw [upd_ne (fun z => ns i d' hh (by rw [← z]; exact q1))]; exact q2, q3⟩, R1.sep⟩
              refine ⟨_, R1', fun vs H2 R2 f2 l => ?_⟩
              have le : ∀ a o, B a = some o → upd B p (.lst vs0) a = some o := fun a o hh => by
                rw [upd_ne (fun z => by subst z; rw [bp] at hh; cases hh)]; exact hh
              have le' : ∀ a, upd B p (.lst vs0) a = none → B a = none := fun a hh => by
                cases q : B a with
                | none => rfl
                | some o => rw [le a o q] at hh; cases hh
              refine k _ H2 (R2.weak le) (f1.trans f2) ⟨⟨p, rfl, ⟨vs0, ds0, rfl, R2.base p _ upd_same, l0.mono f2⟩, bp, fun i e' hh z => ?_, fun z => ?_⟩, gotR.weak le' l⟩
              · obtain ⟨q, q1, q2, _⟩ := R2.own i e' hh
                rw [z] at q1
                cases q1
                rw [upd_same] at q2
                cases q2
              · have := (tmp_props l z).1
                rw [upd_same] at this
                cases this
            · cases h2
    · cases c
end
end Ev
set_option Elab.async false
set_option linter.all false
set_option maxRecDepth 100000
set_option maxHeartbeats 4000000
namespace Ev
open PySem PySem.Spec PyProof.Rows L2

/-! ### statements -/
mutual
inductive IS where
  | set (i : Nat) (e : IE)
  | par (is : List Nat) (es : IEs)
  | ret (e : IE)
  | ite (c : IE) (a b : ISs)
  | forV (i : Nat) (it : IE) (body : ISs)
  | forR (i : Nat) (a : IE) (body : ISs)
  | app (i : Nat) (e : IE)
inductive ISs where
  | nil
  | cons (s : IS) (r : ISs)
end
inductive Out where
  | nx (ρ : DEnv)
  | rt (d : Dat) (new : Bool) (ρ : DEnv)

def store (i : Nat) (d : Dat) (m : Mode) (ρ : DEnv) : DEnv :=
  match m with
  | .frz => ρ.set i (.val d)
  | .fresh => ρ.set i (.own d)
  | .brw j => (ρ.set j (.val d)).set i (.val d)
def storeAll : List Nat → List Dat → DEnv → DEnv
  | i :: is, d :: ds, ρ => storeAll is ds (ρ.set i (.val d))
  | _, _, ρ => ρ
def loop (one : Dat → DEnv → Res Out) : List Dat → DEnv → Res Out
  | [], ρ => .ok (.nx ρ)
  | x :: r, ρ => (one x ρ).bind fun o => (match o with
    | .nx ρ1 => loop one r ρ1
    | .rt d new ρ1 => .ok (.rt d new ρ1))
/-- one turn of a loop -/
def turnOf (e : DEnv → Res Out) (i : Nat) : Dat → DEnv → Res Out := fun y ρ' => e (ρ'.set i (.val y))
section
variable (T : Tab) (ios : List Nat)
mutual
def exec : IS → DEnv → Res Out
  | .set i e, ρ => if i ∈ ios then .stuck else (ev T e ρ).bind fun (d, m, ρ1) => .ok (.nx (store i d m ρ1))
  | .par is es, ρ => if is.any (fun i => ios.contains i) then .stuck else (evs T es ρ).bind fun (ds, ρ1) => if ds.length = is.length then .ok (.nx (storeAll is ds ρ1)) else .stuck
  | .ret e, ρ => (ev T e ρ).bind fun (d, m, ρ1) => (match m with
    | .frz => .ok (.rt d false ρ1)
    | .fresh => .ok (.rt d true ρ1)
    | .brw i => if i ∈ ios then .stuck else .ok (.rt d true (ρ1.set i .no)))
  | .ite c a b, ρ => (ev T c ρ).bind fun (x, _, ρ1) => (match x with
    | .bl true => execs a ρ1
    | .bl false => execs b ρ1
    | _ => .stuck)
  | .forV i it body, ρ => if i ∈ ios then .stuck else (ev T it ρ).bind fun (x, m, ρ1) => (ofO (items x)).bind fun xs => loop (turnOf (execs body) i) xs (keep m ρ1 x)
  | .forR i a body, ρ => if i ∈ ios then .stuck else (ev T a ρ).bind fun (x, _, ρ1) => (match x with
    | .int j => if -(2 ^ 62) ≤ j ∧ j < 2 ^ 62 then loop (turnOf (execs body) i) ((List.range j.toNat).map fun (k : Nat) => .int (k : Int)) ρ1 else .stuck
    | _ => .stuck)
  | .app i e, ρ => (match ρ[i]? with
    | some (.own (.lst _)) => (ev T e ρ).bind fun (d, m, ρ1) => (match (keep m ρ1 d)[i]? with
      | some (.own (.lst ds)) => if sm ds.length then .ok (.nx ((keep m ρ1 d).set i (.own (.lst (ds ++ [d]))))) else .stuck
      | _ => .stuck)
    | _ => .stuck)
def execs : ISs → DEnv → Res Out
  | .nil, ρ => .ok (.nx ρ)
  | .cons s r, ρ => (exec s ρ).bind fun o => (match o with
    | .nx ρ1 => execs r ρ1
    | .rt d new ρ1 => .ok (.rt d new ρ1))
end
end

def isLc : Expr → Bool
  | .ListComp .. => true
  | .SetComp .. => true
  | .DictComp .. => true
  | _ => false
def locB (sc : Scope) (x : Str) : Bool := match sc.names.lookup x with
  | some .local => true
  | some .cell => true
  | _ => false
theorem locB_of {sc : Scope} {x : Str} (h : locB sc x = true) : Loc sc x := by
  unfold locB at h
  split at h
  · exact .inl (by assumption)
  · exact .inr (by assumption)
  · cases h
def parNames (sc : Scope) (ts : List Expr) : List Str := ts.filterMap fun
      | .Name id pos => if sc.names.lookup id == some .local && pos.line == (ts.head?.map (·.pos.line)).getD 0 then some id else none
      | _ => none
/-- the swapped stores of two or three plain names -/
def parB (sc : Scope) (ts vs : List Expr) : Option (List Str) :=
  if (ts.length == 2 || ts.length == 3) && vs.length == ts.length && sc.kind == .function && vs.all noStar then
    if (parNames sc ts).length == ts.length && (parNames sc ts).eraseDups.length == (parNames sc ts).length && !(vs.all (foldedForSure 8)) && !(vs.all (constantsAlone 8)) then some (parNames sc ts) else none
  else none
mutual
def chkS (N : List Str) (sc : Scope) : IS → Stmt → Bool
  | .set i e, st => (match st with
    | .Assign [.Name x _] e' _ => decide (N[i]? = some x) && locB sc x && chk N sc e e'
    | _ => false)
  | .par is es, st => (match st with
    | .Assign [.Tuple [.Name x px, .Name y py] _ _] (.Tuple [a, b] _ _) _ => (match is with
      | [i, j] => decide (parB sc [.Name x px, .Name y py] [a, b] = some [x, y]) && decide (N[i]? = some x) && decide (N[j]? = some y) && decide (i ≠ j) && decide (sc.names.lookup x = some .local) && decide (sc.names.lookup y = some .local) && chks N sc es [a, b]
      | _ => false)
    | .Assign [.Tuple [.Name x px, .Name y py, .Name z pz] _ _] (.Tuple [a, b, c] _ _) _ => (match is with
      | [i, j, l] => decide (parB sc [.Name x px, .Name y py, .Name z pz] [a, b, c] = some [x, y, z]) && decide (N[i]? = some x) && decide (N[j]? = some y) && decide (N[l]? = some z) && decide (i ≠ j) && decide (i ≠ l) && decide (j ≠ l) && decide (sc.names.lookup x = some .local) && decide (sc.names.lookup y = some .local) && decide (sc.names.lookup z = some .local) && chks N sc es [a, b, c]
      | _ => false)
    | _ => false)
  | .ret e, st => (match st with
    | .Return (some e') _ => chk N sc e e'
    | _ => false)
  | .ite c a b, st => (match st with
    | .If c' a' b' _ => tst c && chk N sc c c' && chkSs N sc a a' && chkSs N sc b b'
    | _ => false)
  | .forV i it body, st => (match st with
    | .For (.Name x _) it' b' [] _ => decide (N[i]? = some x) && locB sc x && noSet it' && chk N sc it it' && chkSs N sc body b'
    | _ => false)
  | .forR i a body, st => (match st with
    | .For (.Name x _) (.Call (.Name r _) [a'] [] _) b' [] _ => decide (N[i]? = some x) && locB sc x && decide (r = "range") && glo sc "range" && noStar a' && chk N sc a a' && chkSs N sc body b'
    | _ => false)
  | .app i e, st => (match st with
    | .Expr (.Call (.Attribute (.Name x _) n ap) [e'] [] cp) _ => decide (n = "append") && decide (N[i]? = some x) && vis sc x && notOdd x && (ap.endLine == cp.line) && noStar e' && chk N sc e e'
    | _ => false)
def chkSs (N : List Str) (sc : Scope) : ISs → List Stmt → Bool
  | .nil, l => (match l with
    | [] => true
    | _ => false)
  | .cons s r, l => (match l with
    | st :: l' => chkS N sc s st && chkSs N sc r l'
    | _ => false)
end
theorem no_swap {e : Expr} {x : Str} {p : Pos} {l : Nat} {env : PySem.Env} (h : isLc e = false) : swapsWith e (some (.Name x p)) l env = pure false := by
  cases e <;> first | rfl | cases h
theorem lc_swap {elt : Expr} {gs : List Comprehension} {scope : Scope} {pos py : Pos} {y : Str} {l : Nat} {env : PySem.Env} : swapsWith (.ListComp elt gs scope pos) (some (.Name y py)) l env =
    pure (env.blockKind == .function && env.kindOf y == some .local && py.line == pos.line && !(scope.names.any fun (n, k) => n == y && (k == .local || k == .cell))) := rfl
end Ev
set_option Elab.async false
set_option linter.all false
set_option maxRecDepth 100000
set_option maxHeartbeats 4000000
namespace Ev
open PySem PySem.Spec PyProof.Rows L2
theorem par_swap {ts vs : List Expr} {k k' : Nat} {p p' : Pos} {env : PySem.Env} {names : List Str} (h : parB env.scope ts vs = some names) : swappedStores [.Tuple ts k p] (.Tuple vs k' p') env = pure (some names) := by
  unfold parB at h
  split at h
  · rename_i c
    have c1 := and_and c
    have c2 := and_and c1.1
    have c3 := and_and c2.1
    split at h
    · rename_i d
      have d1 := and_and d
      have d2 := and_and d1.1
      have d3 := and_and d2.1
      cases h
      have hb : env.blockKind = .function := by
        unfold Env.blockKind
        have : env.scope.kind = .function := by simpa using c2.2
        rw [this]; rfl
      have hs : (vs.any fun | .Starred .. => true | _ => false) = false := by
        have := c1.2
        rw [List.all_eq_true] at this
        rw [List.any_eq_false]
        intro e he
        have q := this e he
        cases e <;> first | exact Bool.false_ne_true | cases q
      unfold swappedStores
      simp only [Env.kindOf, hb, hs]
      simp only [c3.1, Bool.not_true, Bool.false_or]
      split
      · rename_i q
        exfalso
        have e1 : (vs.length != ts.length) = false := by unfold bne; rw [c3.2]; rfl
        rw [e1] at q
        simp at q
      · split
        · rename_i q
          cases (show false = true from hs.symm.trans q)
        · refine (if_neg (fun q => ?_)).trans ?_
          · have q' : ((parNames env.scope ts).length != ts.length || (parNames env.scope ts).eraseDups.length != (parNames env.scope ts).length) = true := q
            unfold bne at q'
            rw [d3.1, d3.2] at q'
            cases q'
          · refine (if_neg (fun q => ?_)).trans ?_
            · have := d2.2
              rw [q] at this
              cases this
            · refine (if_neg (fun q => ?_)).trans rfl
              have := d1.2
              rw [q] at this
              cases this
    · cases h
  · cases h
end Ev
set_option Elab.async false
set_option linter.all false
set_option maxRecDepth 100000
set_option maxHeartbeats 8000000
namespace Ev
open PySem PySem.Spec PyProof.Rows L2
theorem _root_.L2.PS.imp {X : Cx} {e : Stmt} {t t' : TS} (h : PS X e t) (i : ∀ D σ H, t' D σ H → t D σ H) : PS X e t' := ⟨fun pins s σ H D I q => h.run pins s σ H D I (i D σ H q)⟩
theorem _root_.L2.PSs.imp {X : Cx} {e : List Stmt} {t t' : TS} (h : PSs X e t) (i : ∀ D σ H, t' D σ H → t D σ H) : PSs X e t' := ⟨fun pins s σ H D I q => h.run pins s σ H D I (i D σ H q)⟩

def Kp (ios : List Nat) (σ σ' : L2.St) : Prop := ∀ i ∈ ios, σ'[i]? = σ[i]?
theorem Kp.refl {ios : List Nat} (σ : L2.St) : Kp ios σ σ := fun _ _ => rfl
theorem Kp.trans {ios : List Nat} {σ σ1 σ2 : L2.St} (a : Kp ios σ σ1) (b : Kp ios σ1 σ2) : Kp ios σ σ2 := fun i h => (b i h).trans (a i h)
theorem Kp.set {ios : List Nat} {σ : L2.St} {i : Nat} {v : Option V} (h : i ∉ ios) : Kp ios σ (σ.set i v) := fun j hj => List.getElem?_set_ne fun z => h (by rw [z]; exact hj)
def nm (new : Bool) : Mode := if new = true then .fresh else .frz
def tX (K : PySem.W.Frag) (ios : List Nat) (ρ : DEnv) (o : Out) : TS := fun D σ H => ∃ B, REnv K B σ H ρ ∧
  (∀ σ' H' ρ', o = .nx ρ' → REnv K B σ' H' ρ' → FrzLe H H' → Kp ios σ σ' → D.nx σ' H') ∧
  ∀ σ' H' v d new ρ', o = .rt d new ρ' → REnv K B σ' H' ρ' → FrzLe H H' → Kp ios σ σ' → RV K B σ' ρ' H' v d (nm new) → D.rt v H'
def tXU (K : PySem.W.Frag) (T : Tab) (ios : List Nat) (body : ISs) : TS := fun D σ H => ∃ ρ o, execs T ios body ρ = .ok o ∧ tX K ios ρ o D σ H

section
variable {K : PySem.W.Frag} {B : Hp} {σ : L2.St} {H : Hp} {ρ : DEnv} {d : Dat}
theorem REnv.setOwn {p : Addr} (R : REnv K B σ H ρ) (i : Nat) (ho : Own K H p d) (bp : B p = none) (ns : ∀ (j : Nat) e, ρ[j]? = some (.own e) → σ[j]? ≠ some (some (.ref p))) : REnv K B (σ.set i (some (.ref p))) H (ρ.set i (.own d)) := by
  refine ⟨R.base, by rw [List.length_set, List.length_set]; exact R.len, fun j e h => ?_, fun j e h => ?_, fun j j' e e' q h1 h2 h3 h4 => ?_⟩
  · rw [set_get] at h
    split at h
    · split at h <;> cases h
    · rename_i n
      obtain ⟨w, w1, w2⟩ := R.val j e h
      exact ⟨w, by rw [List.getElem?_set_ne n]; exact w1, w2⟩
  · rw [set_get] at h
    split at h
    · rename_i n
      subst n
      split at h
      · rename_i hl
        cases h
        exact ⟨p, by rw [List.getElem?_set_self (by rw [R.len]; exact hl)], bp, ho⟩
      · cases h
    · rename_i n
      obtain ⟨w, w1, w2⟩ := R.own j e h
      exact ⟨w, by rw [List.getElem?_set_ne n]; exact w1, w2⟩
  · rw [set_get] at h1 h2 h3 h4
    by_cases n1 : i = j
    · subst n1
      rw [if_pos rfl] at h3
      by_cases n2 : i = j'
      · exact n2
      · rw [if_neg n2] at h2 h4
        split at h3
        · cases h3
          exact absurd h4 (ns j' e' h2)
        · cases h3
    · rw [if_neg n1] at h1 h3
      by_cases n2 : i = j'
      · subst n2
        rw [if_pos rfl] at h4
        split at h4
        · cases h4
          exact absurd h3 (ns j e h1)
        · cases h4
      · rw [if_neg n2] at h2 h4
        exact R.sep j j' e e' q h1 h2 h3 h4
end

/-- the parts of a comprehension -/
theorem lcP {T : Tab} {n : Nat} {X : Cx} (g : Good T n X) {ie : IE} {elt tg it : Expr} {ifs : List Expr} {scope : Scope} {pos : Pos} {k : Int} (c : chk X.N X.env.scope ie (.ListComp elt [⟨tg, it, ifs, k⟩] scope pos) = true) {ρ ρ' : DEnv} {d : Dat} {m : Mode} (h : ev T ie ρ = .ok (d, m, ρ')) :
    ∃ wi gg tt te, ∃ own : List (Str × Nat), k = 0 ∧ PI X tg it wi ∧ BlkOk X.N X.env.scope scope own ∧
      (∀ (s : Shared) (H : Hp) (C : Addr) (cl : List (Str × Addr)) (fp : List Addr), PG (X.blk s H scope (compEnvC scope cl C X.env) fp) tg gg) ∧
      (∀ (s : Shared) (H : Hp) (C : Addr) (cl : List (Str × Addr)) (fp : List Addr), PTs (X.blk s H scope (compEnvC scope cl C X.env) fp) ifs tt) ∧
      (∀ (s : Shared) (H : Hp) (C : Addr) (cl : List (Str × Addr)) (fp : List Addr), PE (X.blk s H scope (compEnvC scope cl C X.env) fp) elt te) ∧
      (∀ x, foldedSetIterable it X.env x = pure x) ∧ ∀ σ H Q, tS X.K ρ d m ρ' σ H Q → tLc wi gg tt te (own.map (·.2)) σ H Q := by
  cases ie with
  | lc elt' tg' it' own =>
    simp only [ev] at h
    obtain ⟨⟨x, m1, ρ1⟩, h1, h2⟩ := Res.bind_ok h
    obtain ⟨xs, h3, h4⟩ := Res.bind_ok h2
    unfold comp at h4
    split at h4
    · rename_i hz
      have hz' := and_and hz
      obtain ⟨⟨ys, ρ2⟩, h5, h6⟩ := Res.bind_ok h4
      cases h6
      simp only [chk] at c
      split at c
      · rename_i y0 x0 p0 i0 scope p1 eq
        cases eq
        have c1 := and_and c
        have c2 := and_and c1.1
        have c3 := and_and c2.1
        have c4 := and_and c3.1
        have c5 := and_and c4.1
        have c6 := and_and c5.1
        have hm := of_decide_eq_true c5.2
        have lo := loc_rel (sc := X.env.scope) c3.2
        have he := pe_keep (snd it' g c2.2 h1)
        have pg : ∀ (s : Shared) (H : Hp) (C : Addr) (cl : List (Str × Addr)) (fp : List Addr), PG (X.blk s H scope (compEnvC scope cl C X.env) fp) (.Name x0 p0) (gName tg') := fun s H C cl fp => pg_name g.nd ((blkOk_by c6.2).ix _ hm) lo.1 lo.2
        have pe' : ∀ (s : Shared) (H : Hp) (C : Addr) (cl : List (Str × Addr)) (fp : List Addr), PE (X.blk s H scope (compEnvC scope cl C X.env) fp) elt (tUK X.K T elt') := fun s H C cl fp => pe_UK (X := X.blk s H scope (compEnvC scope cl C X.env) fp) fun hh => snd elt' (X := X.blk s H scope (compEnvC scope cl C X.env) fp) (g.blk s H scope _ fp) c1.2 hh
        cases x with
        | lst ds =>
          cases (show some ds = some xs from ofO_ok h3)
          refine ⟨_, _, _, _, own, rfl, pi_list he, blkOk_by c6.2, pg, (fun _ _ _ _ _ => pts_nil), pe', noSet_fold c6.1, fun σ H Q ⟨B, R, k⟩ => ⟨B, R, fun v H1 R1 f1 rv => ?_⟩⟩
          cases rv with
          | lst a l =>
            refine ⟨_, rfl, ⟨_, .inl (.inr ⟨_, a⟩)⟩, ?_⟩
            exact comp_snd step_lc h5 l (walker_list a) R1 hz'.2 hz'.1 (own_in hm) fun z H3 R3 f3 rz => k z H3 R3 (f1.trans f3) rz
        | tup ds =>
          cases (show some ds = some xs from ofO_ok h3)
          refine ⟨_, _, _, _, own, rfl, pi_tup he, blkOk_by c6.2, pg, (fun _ _ _ _ _ => pts_nil), pe', noSet_fold c6.1, fun σ H Q ⟨B, R, k⟩ => ⟨B, R, fun v H1 R1 f1 rv => ?_⟩⟩
          cases rv with
          | tup a l =>
            refine ⟨_, rfl, ⟨_, a⟩, ?_⟩
            exact comp_snd step_lc h5 l (walker_tup a) R1 hz'.2 hz'.1 (own_in hm) fun z H3 R3 f3 rz => k z H3 R3 (f1.trans f3) rz
        | str s =>
          cases (show some (s.cps.toList.map fun c => Dat.str ⟨#[c]⟩) = some xs from ofO_ok h3)
          refine ⟨_, _, _, _, own, rfl, pi_str he, blkOk_by c6.2, pg, (fun _ _ _ _ _ => pts_nil), pe', noSet_fold c6.1, fun σ H Q ⟨B, R, k⟩ => ⟨B, R, fun v H1 R1 f1 rv => ?_⟩⟩
          cases rv
          refine ⟨_, rfl, ?_⟩
          exact comp_snd step_lc h5 (signs_is s) (walker_str s) R1 hz'.2 hz'.1 (own_in hm) fun z H3 R3 f3 rz => k z H3 R3 (f1.trans f3) rz
        | non => cases ofO_ok h3
        | bl _ => cases ofO_ok h3
        | int _ => cases ofO_ok h3
        | dic _ => cases ofO_ok h3
        | scr _ => cases ofO_ok h3
      · cases c
    · cases h4
  | lcI elt' tg' it' cond' own =>
    simp only [ev] at h
    obtain ⟨⟨x, m1, ρ1⟩, h1, h2⟩ := Res.bind_ok h
    obtain ⟨xs, h3, h4⟩ := Res.bind_ok h2
    unfold comp at h4
    split at h4
    · rename_i hz
      have hz' := and_and hz
      obtain ⟨⟨ys, ρ2⟩, h5, h6⟩ := Res.bind_ok h4
      cases h6
      simp only [chk] at c
      split at c
      · rename_i y0 x0 p0 i0 cc0 scope p1 eq
        cases eq
        have c0 := and_and c
        have c1 := and_and c0.1
        have c2 := and_and c1.1
        have c3 := and_and c2.1
        have c4 := and_and c3.1
        have c5 := and_and c4.1
        have c6 := and_and c5.1
        have c7 := and_and c6.1
        have hm := of_decide_eq_true c5.2
        have lo := loc_rel (sc := X.env.scope) c3.2
        have he := pe_keep (snd it' g c2.2 h1)
        have pg : ∀ (s : Shared) (H : Hp) (C : Addr) (cl : List (Str × Addr)) (fp : List Addr), PG (X.blk s H scope (compEnvC scope cl C X.env) fp) (.Name x0 p0) (gName tg') := fun s H C cl fp => pg_name g.nd ((blkOk_by c6.2).ix _ hm) lo.1 lo.2
        have pe' : ∀ (s : Shared) (H : Hp) (C : Addr) (cl : List (Str × Addr)) (fp : List Addr), PE (X.blk s H scope (compEnvC scope cl C X.env) fp) elt (tUK X.K T elt') := fun s H C cl fp => pe_UK (X := X.blk s H scope (compEnvC scope cl C X.env) fp) fun hh => snd elt' (X := X.blk s H scope (compEnvC scope cl C X.env) fp) (g.blk s H scope _ fp) c1.2 hh
        have pt' : ∀ (s : Shared) (H : Hp) (C : Addr) (cl : List (Str × Addr)) (fp : List Addr), PTs (X.blk s H scope (compEnvC scope cl C X.env) fp) [cc0] (tUT X.K T cond') := fun s H C cl fp => pts_one (pt_U (X := X.blk s H scope (compEnvC scope cl C X.env) fp) fun hh => sndT cond' (X := X.blk s H scope (compEnvC scope cl C X.env) fp) (g.blk s H scope _ fp) c7.1 c0.2 hh)
        cases x with
        | lst ds =>
          cases (show some ds = some xs from ofO_ok h3)
          refine ⟨_, _, _, _, own, rfl, pi_list he, blkOk_by c6.2, pg, pt', pe', noSet_fold c7.2, fun σ H Q ⟨B, R, k⟩ => ⟨B, R, fun v H1 R1 f1 rv => ?_⟩⟩
          cases rv with
          | lst a l =>
            refine ⟨_, rfl, ⟨_, .inl (.inr ⟨_, a⟩)⟩, ?_⟩
            exact comp_snd step_lcI h5 l (walker_list a) R1 hz'.2 hz'.1 (own_in hm) fun z H3 R3 f3 rz => k z H3 R3 (f1.trans f3) rz
        | tup ds =>
          cases (show some ds = some xs from ofO_ok h3)
          refine ⟨_, _, _, _, own, rfl, pi_tup he, blkOk_by c6.2, pg, pt', pe', noSet_fold c7.2, fun σ H Q ⟨B, R, k⟩ => ⟨B, R, fun v H1 R1 f1 rv => ?_⟩⟩
          cases rv with
          | tup a l =>
            refine ⟨_, rfl, ⟨_, a⟩, ?_⟩
            exact comp_snd step_lcI h5 l (walker_tup a) R1 hz'.2 hz'.1 (own_in hm) fun z H3 R3 f3 rz => k z H3 R3 (f1.trans f3) rz
        | str s =>
          cases (show some (s.cps.toList.map fun c => Dat.str ⟨#[c]⟩) = some xs from ofO_ok h3)
          refine ⟨_, _, _, _, own, rfl, pi_str he, blkOk_by c6.2, pg, pt', pe', noSet_fold c7.2, fun σ H Q ⟨B, R, k⟩ => ⟨B, R, fun v H1 R1 f1 rv => ?_⟩⟩
          cases rv
          refine ⟨_, rfl, ?_⟩
          exact comp_snd step_lcI h5 (signs_is s) (walker_str s) R1 hz'.2 hz'.1 (own_in hm) fun z H3 R3 f3 rz => k z H3 R3 (f1.trans f3) rz
        | non => cases ofO_ok h3
        | bl _ => cases ofO_ok h3
        | int _ => cases ofO_ok h3
        | dic _ => cases ofO_ok h3
        | scr _ => cases ofO_ok h3
      · cases c
    · cases h4
  | lcR elt' tg' a' own =>
    simp only [ev] at h
    obtain ⟨⟨x, m1, ρ1⟩, h1, h2⟩ := Res.bind_ok h
    dsimp only at h2
    split at h2
    · rename_i j
      split at h2
      · rename_i hj
        unfold comp at h2
        split at h2
        · rename_i hz
          have hz' := and_and hz
          obtain ⟨⟨ys, ρ2⟩, h5, h6⟩ := Res.bind_ok h2
          cases h6
          simp only [chk] at c
          split at c
          · rename_i y0 x0 p0 r0 p2 i0 p3 scope p1 eq
            cases eq
            have c1 := and_and c
            have c2 := and_and c1.1
            have c3 := and_and c2.1
            have c4 := and_and c3.1
            have c5 := and_and c4.1
            have c6 := and_and c5.1
            have c7 := and_and c6.1
            have c8 := and_and c7.1
            have e1 := of_decide_eq_true c8.1
            subst e1
            have hm := of_decide_eq_true c5.2
            have lo := loc_rel (sc := X.env.scope) c3.2
            have pg : ∀ (s : Shared) (H : Hp) (C : Addr) (cl : List (Str × Addr)) (fp : List Addr), PG (X.blk s H scope (compEnvC scope cl C X.env) fp) (.Name x0 p0) (gName tg') := fun s H C cl fp => pg_name g.nd ((blkOk_by c6.2).ix _ hm) lo.1 lo.2
            have pe' : ∀ (s : Shared) (H : Hp) (C : Addr) (cl : List (Str × Addr)) (fp : List Addr), PE (X.blk s H scope (compEnvC scope cl C X.env) fp) elt (tUK X.K T elt') := fun s H C cl fp => pe_UK (X := X.blk s H scope (compEnvC scope cl C X.env) fp) fun hh => snd elt' (X := X.blk s H scope (compEnvC scope cl C X.env) fp) (g.blk s H scope _ fp) c1.2 hh
            refine ⟨_, _, _, _, own, rfl, pi_range1 (glo_of c8.2) g.rng (pa_cons (snd a' g c2.2 h1) pa_nil (star_cons c7.2)) (star_cons c7.2), blkOk_by c6.2, pg, (fun _ _ _ _ _ => pts_nil), pe', noSet_fold rfl, fun σ H Q ⟨B, R, k⟩ => ⟨B, R, fun v H1 R1 f1 rv => ?_⟩⟩
            have ev1 := (rdb_of R1 rv).int
            subst ev1
            refine ⟨j, rfl, hj.1, hj.2, ?_⟩
            exact comp_snd step_lc h5 (rng_is j) (walker_rng j) R1 hz'.2 hz'.1 (own_in hm) fun z H3 R3 f3 rz => k z H3 R3 (f1.trans f3) rz
          · cases c
        · cases h2
      · cases h2
    · cases h2
  | _ => simp only [chk] at c; cases c
end Ev
set_option Elab.async false
set_option linter.all false
set_option maxRecDepth 100000
set_option maxHeartbeats 8000000
namespace Ev
open PySem PySem.Spec PyProof.Rows L2
structure GoodS (T : Tab) (n : Nat) (X : Cx) : Prop extends Good T n X where
  px : PassesOwn (model X.prog X.w) X.A X.env X.xe
  fnT : ∀ x, X.fn x = true

theorem loop_snd {K : PySem.W.Frag} {T : Tab} {ios : List Nat} {J : It} {i : Nat} {body : ISs} {xs : List Dat} {vI : List V} {ρ1 : DEnv} {o : Out} {B : Hp} {σ : L2.St} {H1 : Hp} {D : Ends} (hi : i ∉ ios)
    (hl : loop (turnOf (execs T ios body) i) xs ρ1 = .ok o) (l : IsL K H1 vI xs) (wk : Walker J vI H1) (R : REnv K B σ H1 ρ1)
    (kn : ∀ σ' H' ρ', o = .nx ρ' → REnv K B σ' H' ρ' → FrzLe H1 H' → Kp ios σ σ' → D.nx σ' H')
    (kr : ∀ σ' H' v d new ρ', o = .rt d new ρ' → REnv K B σ' H' ρ' → FrzLe H1 H' → Kp ios σ σ' → RV K B σ' ρ' H' v d (nm new) → D.rt v H') :
    ∃ W : Nat → Nat → L2.St → Hp → Prop, (∃ m, W 0 m σ H1) ∧ ∀ j m σ H, W j m σ H →
      (J.stop j H ∧ D.nx σ H) ∨ (J.go j H ∧ ∃ N : L2.St → Hp → Prop, (∀ σ' H', N σ' H' → ∃ m', m' < m ∧ W (j + 1) m' σ' H') ∧ ∀ x H', J.yld j H x H' → gName i x σ H' fun σ2 H2 => tXU K T ios body { D with nx := N, ct := N, bk := D.nx } σ2 H2) := by
  refine ⟨fun j m σ' H' => ∃ ρk, m = xs.length - j ∧ j ≤ xs.length ∧ loop (turnOf (execs T ios body) i) (xs.drop j) ρk = .ok o ∧ REnv K B σ' H' ρk ∧ FrzLe H1 H' ∧ Kp ios σ σ',
    ⟨xs.length, ρ1, by omega, Nat.zero_le _, hl, R, FrzLe.refl H1, Kp.refl σ⟩, ?_⟩
  rintro j m σ' H' ⟨ρk, rfl, hj, hlo, Rk, fk, kk⟩
  by_cases hlt : j < xs.length
  · right
    obtain ⟨v, hv, hIs⟩ := l.get (List.getElem?_eq_getElem hlt)
    obtain ⟨hgo, hy⟩ := (wk j H' fk).1 v hv
    rw [List.drop_eq_getElem_cons hlt] at hlo
    obtain ⟨o1, h1, h2⟩ := Res.bind_ok (show (execs T ios body (ρk.set i (.val xs[j]))).bind _ = _ from hlo)
    refine ⟨hgo, fun σ2 H2 => ∃ ρ2, j + 1 ≤ xs.length ∧ loop (turnOf (execs T ios body) i) (xs.drop (j + 1)) ρ2 = .ok o ∧ REnv K B σ2 H2 ρ2 ∧ FrzLe H1 H2 ∧ Kp ios σ σ2,
      fun σ2 H2 ⟨ρ2, a1, a2, a3, a4, a5⟩ => ⟨xs.length - (j + 1), by omega, ρ2, rfl, a1, a2, a3, a4, a5⟩, fun x H2 hyl => ?_⟩
    obtain ⟨e1, e2⟩ := hy x H2 hyl
    subst e1
    subst e2
    refine ⟨_, o1, h1, B, Rk.setVal i (hIs.mono fk), fun σ3 H3 ρ3 eo R3 f3 k3 => ?_, fun σ3 H3 v3 d3 n3 ρ3 eo R3 f3 k3 rv => ?_⟩
    · subst eo
      exact ⟨ρ3, hlt, h2, R3, fk.trans f3, (kk.trans (Kp.set hi)).trans k3⟩
    · subst eo
      cases h2
      exact kr σ3 H3 v3 d3 n3 ρ3 rfl R3 (fk.trans f3) ((kk.trans (Kp.set hi)).trans k3) rv
  · left
    have ej : j = xs.length := by omega
    subst ej
    rw [List.drop_length] at hlo
    cases hlo
    exact ⟨(wk _ H' fk).2 (by rw [l.length]; omega), kn σ' H' ρk rfl Rk fk kk⟩

theorem app_few {e : Expr} {env : PySem.Env} {cp : Pos} (h : noStar e = true) : ((backTo cp (starEach [e] env)).all (fun x => !x.1) && (backToKw cp (keywordEach [] env)).all (fun x => x.1.isSome)
      && decide (([e] : List Expr).length + ([] : List Keyword).length + (if ([] : List Keyword).isEmpty then 0 else 1) < 30)) = true := by
  rw [star_cons h]
  rfl
mutual
theorem sndS {T : Tab} {n : Nat} {ios : List Nat} : ∀ (is : IS) {X : Cx} {st : Stmt}, GoodS T n X → chkS X.N X.env.scope is st = true → ∀ {ρ o}, exec T ios is ρ = .ok o → PS X st (tX X.K ios ρ o)
  | .set i e, X, st, g, c, ρ, o, h => by
    simp only [exec] at h
    split at h
    · cases h
    · rename_i hi
      obtain ⟨⟨d, m, ρ1⟩, h1, h2⟩ := Res.bind_ok h
      cases h2
      simp only [chkS] at c
      split at c
      · rename_i x px e' pos
        have c1 := and_and c
        have c2 := and_and c1.1
        have hN : X.N[i]? = some x := of_decide_eq_true c2.1
        have key : ∀ (m' : Mode) (ρ2 : DEnv), PS X (.Assign [.Name x px] e' pos) (tAsg (tS X.K ρ d m' ρ2) (gName i)) → (∀ B σ H v, REnv X.K B σ H ρ2 → RV X.K B σ ρ2 H v d m' → REnv X.K B (σ.set i (some v)) H (store i d m ρ1)) →
            PS X (.Assign [.Name x px] e' pos) (tX X.K ios ρ (.nx (store i d m ρ1))) := fun m' ρ2 hp hs =>
          hp.imp fun D σ H ⟨B, R, kn, _⟩ => ⟨B, R, fun v H1 R1 f1 rv => kn _ H1 _ rfl (hs B σ H1 v R1 rv) f1 (Kp.set hi)⟩
        cases hlc : isLc e' with
        | false =>
          cases m with
          | frz => exact key .frz ρ1 (ps_set g.nd hN (locB_of c2.2) (snd e g.toGood c1.2 h1) (no_swap hlc) (.inl (g.fnT x))) fun B σ H v R rv => R.setVal i rv
          | fresh =>
            refine key .fresh ρ1 (ps_set g.nd hN (locB_of c2.2) (snd e g.toGood c1.2 h1) (no_swap hlc) (.inl (g.fnT x))) fun B σ H v R rv => ?_
            obtain ⟨p, rfl, ho, bp, ns⟩ := rv
            exact R.setOwn i ho bp ns
          | brw j => exact key .frz _ (ps_set g.nd hN (locB_of c2.2) (pe_keep (snd e g.toGood c1.2 h1)) (no_swap hlc) (.inl (g.fnT x))) fun B σ H v R rv => R.setVal i rv
        | true =>
          have hm : m = .fresh ∧ ∃ elt tg it ifs k scope lp, e' = .ListComp elt [⟨tg, it, ifs, k⟩] scope lp := by
            cases e with
            | lc a1 a2 a3 a4 =>
              have c' := c1.2
              simp only [chk] at c'
              split at c'
              · simp only [ev] at h1
                obtain ⟨_, _, h3⟩ := Res.bind_ok h1
                obtain ⟨_, _, h4⟩ := Res.bind_ok h3
                unfold comp at h4
                split at h4
                · obtain ⟨_, _, h5⟩ := Res.bind_ok h4
                  cases h5
                  exact ⟨rfl, _, _, _, _, _, _, _, rfl⟩
                · cases h4
              · cases c'
            | lcI a1 a2 a3 a4 a5 =>
              have c' := c1.2
              simp only [chk] at c'
              split at c'
              · simp only [ev] at h1
                obtain ⟨_, _, h3⟩ := Res.bind_ok h1
                obtain ⟨_, _, h4⟩ := Res.bind_ok h3
                unfold comp at h4
                split at h4
                · obtain ⟨_, _, h5⟩ := Res.bind_ok h4
                  cases h5
                  exact ⟨rfl, _, _, _, _, _, _, _, rfl⟩
                · cases h4
              · cases c'
            | lcR a1 a2 a3 a4 =>
              have c' := c1.2
              simp only [chk] at c'
              split at c'
              · simp only [ev] at h1
                obtain ⟨_, _, h3⟩ := Res.bind_ok h1
                try dsimp only at h3
                split at h3
                · split at h3
                  · unfold comp at h3
                    split at h3
                    · obtain ⟨_, _, h5⟩ := Res.bind_ok h3
                      cases h5
                      exact ⟨rfl, _, _, _, _, _, _, _, rfl⟩
                    · cases h3
                  · cases h3
                · cases h3
              · cases c'
            | _ => exfalso; have c' := c1.2; cases e' <;> first | (cases hlc; done) | (simp [chk] at c'; done)
          obtain ⟨rfl, elt, tg, it, ifs, k, scope, lp, rfl⟩ := hm
          obtain ⟨wi, gg, tt, te, own, rfl, q1, q2, q3, q4, q5, q6, q7⟩ := lcP g.toGood c1.2 h1
          have fin : ∀ B σ H v, REnv X.K B σ H ρ1 → RV X.K B σ ρ1 H v d .fresh → REnv X.K B (σ.set i (some v)) H (store i d .fresh ρ1) := fun B σ H v R rv => by
            obtain ⟨p, rfl, ho, bp, ns⟩ := rv
            exact R.setOwn i ho bp ns
          cases hsw : (X.env.blockKind == .function && X.env.kindOf x == some .local && px.line == lp.line && !(scope.names.any fun (n, k) => n == x && (k == .local || k == .cell))) with
          | false =>
            exact key .fresh ρ1 (ps_set g.nd hN (locB_of c2.2) (snd e g.toGood c1.2 h1) (by rw [lc_swap, hsw]) (.inl (g.fnT x))) fin
          | true =>
            have s1 := and_and (and_and (and_and hsw).1).1
            have hy : X.env.scope.names.lookup x = some .local := eq_of_beq s1.2
            refine key .fresh ρ1 ((ps_setLc g.calm g.nd hN hy (by rw [lc_swap, hsw]) q1 q2 q3 q4 q5 q6).imp fun D σ H q => ?_) fin
            exact q7 σ H _ q
      · cases c
  | .par is es, X, st, g, c, ρ, o, h => by
    simp only [exec] at h
    split at h
    · cases h
    · rename_i hio
      obtain ⟨⟨ds, ρ1⟩, h1, h2⟩ := Res.bind_ok h
      dsimp only at h2
      split at h2
      · rename_i hlen
        cases h2
        have nio : ∀ i ∈ is, i ∉ ios := fun i hi z => hio (List.any_eq_true.mpr ⟨i, hi, List.contains_iff_mem.mpr z⟩)
        simp only [chkS] at c
        split at c
        · split at c
          · rename_i i j
            have c1 := and_and c
            have c2 := and_and c1.1
            have c3 := and_and c2.1
            have c4 := and_and c3.1
            have c5 := and_and c4.1
            have c6 := and_and c5.1
            refine (ps_par g.calm g.nd (of_decide_eq_true c6.2) (of_decide_eq_true c5.2) (of_decide_eq_true c4.2) (of_decide_eq_true c3.2) (of_decide_eq_true c2.2) (snds es g.toGood c1.2 h1) (par_swap (of_decide_eq_true c6.1))).imp
              fun D σ H ⟨B, R, kn, _⟩ => ⟨B, R, fun vs H1 R1 f1 l => ?_⟩
            cases l with
            | nil => cases hlen
            | cons a1 l =>
              cases l with
              | nil => cases hlen
              | cons a2 l =>
                cases l with
                | nil =>
                  refine ⟨_, _, rfl, kn _ H1 _ rfl ((R1.setVal i a1).setVal j a2) f1 ?_⟩
                  exact (Kp.set (nio i (by simp))).trans (Kp.set (nio j (by simp)))
                | cons _ _ => simp at hlen
          · cases c
        · split at c
          · rename_i i j k
            have c1 := and_and c
            have c2 := and_and c1.1
            have c3 := and_and c2.1
            have c4 := and_and c3.1
            have c5 := and_and c4.1
            have c6 := and_and c5.1
            have c7 := and_and c6.1
            have c8 := and_and c7.1
            have c9 := and_and c8.1
            have c10 := and_and c9.1
            refine (ps_par3 g.calm g.nd (of_decide_eq_true c10.2) (of_decide_eq_true c9.2) (of_decide_eq_true c8.2) (of_decide_eq_true c7.2) (of_decide_eq_true c6.2) (of_decide_eq_true c5.2) (of_decide_eq_true c4.2) (of_decide_eq_true c3.2) (of_decide_eq_true c2.2) (snds es g.toGood c1.2 h1) (par_swap (of_decide_eq_true c10.1))).imp
              fun D σ H ⟨B, R, kn, _⟩ => ⟨B, R, fun vs H1 R1 f1 l => ?_⟩
            cases l with
            | nil => cases hlen
            | cons a1 l =>
              cases l with
              | nil => simp at hlen
              | cons a2 l =>
                cases l with
                | nil => simp at hlen
                | cons a3 l =>
                  cases l with
                  | nil =>
                    refine ⟨_, _, _, rfl, kn _ H1 _ rfl (((R1.setVal i a1).setVal j a2).setVal k a3) f1 ?_⟩
                    exact ((Kp.set (nio i (by simp))).trans (Kp.set (nio j (by simp)))).trans (Kp.set (nio k (by simp)))
                  | cons _ _ => simp at hlen
          · cases c
        · cases c
      · cases h2
  | .ret e, X, st, g, c, ρ, o, h => by
    simp only [exec] at h
    obtain ⟨⟨d, m, ρ1⟩, h1, h2⟩ := Res.bind_ok h
    simp only [chkS] at c
    split at c
    · have he := snd e g.toGood c h1
      dsimp only at h2
      split at h2
      · cases h2
        exact (ps_ret he).imp fun D σ H ⟨B, R, _, kr⟩ => ⟨B, R, fun v H1 R1 f1 rv => kr σ H1 v _ false _ rfl R1 f1 (Kp.refl σ) rv⟩
      · cases h2
        exact (ps_ret he).imp fun D σ H ⟨B, R, _, kr⟩ => ⟨B, R, fun v H1 R1 f1 rv => kr σ H1 v _ true _ rfl R1 f1 (Kp.refl σ) rv⟩
      · rename_i i
        split at h2
        · cases h2
        · rename_i hi
          cases h2
          refine (ps_ret he).imp fun D σ H ⟨B, R, _, kr⟩ => ⟨B, R, fun v H1 R1 f1 rv => ?_⟩
          obtain ⟨r1, r2⟩ := rv
          obtain ⟨p, g1, g2, g3⟩ := R1.own i _ r2
          rw [r1] at g1
          cases g1
          refine kr (σ.set i none) H1 _ _ true _ rfl (R1.setNo i) f1 (Kp.set hi) ⟨p, rfl, g3, g2, fun j e hj z => ?_⟩
          rw [set_get] at hj z
          split at hj
          · split at hj <;> cases hj
          · rename_i nij
            rw [if_neg nij] at z
            exact nij (R1.sep i j _ _ p r2 hj r1 z)
    · cases c
  | .ite z a b, X, st, g, c, ρ, o, h => by
    simp only [exec] at h
    obtain ⟨⟨x, m, ρ1⟩, h1, h2⟩ := Res.bind_ok h
    simp only [chkS] at c
    split at c
    · have c1 := and_and c
      have c2 := and_and c1.1
      have c3 := and_and c2.1
      dsimp only at h2
      split at h2
      · refine (ps_if (sndT z g.toGood c3.1 c3.2 h1) (sndSs a g c2.2 h2) pss_no).imp fun D σ H ⟨B, R, kn, kr⟩ => ⟨B, R, fun H1 R1 f1 => ?_⟩
        refine iteT ?_
        exact ⟨B, R1, fun σ' H' ρ' e R' f' k' => kn σ' H' ρ' e R' (f1.trans f') k', fun σ' H' v d new ρ' e R' f' k' rv => kr σ' H' v d new ρ' e R' (f1.trans f') k' rv⟩
      · refine (ps_if (sndT z g.toGood c3.1 c3.2 h1) pss_no (sndSs b g c1.2 h2)).imp fun D σ H ⟨B, R, kn, kr⟩ => ⟨B, R, fun H1 R1 f1 => ?_⟩
        refine iteF ?_
        exact ⟨B, R1, fun σ' H' ρ' e R' f' k' => kn σ' H' ρ' e R' (f1.trans f') k', fun σ' H' v d new ρ' e R' f' k' rv => kr σ' H' v d new ρ' e R' (f1.trans f') k' rv⟩
      · cases h2
    · cases c
  | .forV i it body, X, st, g, c, ρ, o, h => by
    simp only [exec] at h
    split at h
    · cases h
    · rename_i hi
      obtain ⟨⟨x, m, ρ1⟩, h1, h2⟩ := Res.bind_ok h
      obtain ⟨xs, h3, h4⟩ := Res.bind_ok h2
      simp only [chkS] at c
      split at c
      · rename_i x0 p0 it' b' pos
        have c1 := and_and c
        have c2 := and_and c1.1
        have c3 := and_and c2.1
        have c4 := and_and c3.1
        have hN : X.N[i]? = some x0 := of_decide_eq_true c4.1
        have he := pe_keep (snd it g.toGood c2.2 h1)
        have pg : PG X (.Name x0 p0) (gName i) := pg_name g.nd hN (locB_of c4.2) (.inl (g.fnT x0))
        have pb : PSs X b' (tXU X.K T ios body) := ⟨fun pins s σ H D I ⟨ρ', o', e1, e2⟩ => (sndSs body g c1.2 e1).run pins s σ H D I e2⟩
        cases x with
        | lst ds =>
          cases (show some ds = some xs from ofO_ok h3)
          refine (ps_for g.px g.calm (pi_list he) pg pb (noSet_fold c3.2)).imp fun D σ H ⟨B, R, kn, kr⟩ => ⟨B, R, fun v H1 R1 f1 rv => ?_⟩
          cases rv with
          | lst a l =>
            refine ⟨_, rfl, ⟨_, .inl (.inr ⟨_, a⟩)⟩, ?_⟩
            exact loop_snd hi h4 l (walker_list a) R1 (fun σ' H' ρ' e R' f' k' => kn σ' H' ρ' e R' (f1.trans f') k') fun σ' H' v d new ρ' e R' f' k' rv => kr σ' H' v d new ρ' e R' (f1.trans f') k' rv
        | tup ds =>
          cases (show some ds = some xs from ofO_ok h3)
          refine (ps_for g.px g.calm (pi_tup he) pg pb (noSet_fold c3.2)).imp fun D σ H ⟨B, R, kn, kr⟩ => ⟨B, R, fun v H1 R1 f1 rv => ?_⟩
          cases rv with
          | tup a l =>
            refine ⟨_, rfl, ⟨_, a⟩, ?_⟩
            exact loop_snd hi h4 l (walker_tup a) R1 (fun σ' H' ρ' e R' f' k' => kn σ' H' ρ' e R' (f1.trans f') k') fun σ' H' v d new ρ' e R' f' k' rv => kr σ' H' v d new ρ' e R' (f1.trans f') k' rv
        | str s =>
          cases (show some (s.cps.toList.map fun c => Dat.str ⟨#[c]⟩) = some xs from ofO_ok h3)
          refine (ps_for g.px g.calm (pi_str he) pg pb (noSet_fold c3.2)).imp fun D σ H ⟨B, R, kn, kr⟩ => ⟨B, R, fun v H1 R1 f1 rv => ?_⟩
          cases rv
          refine ⟨_, rfl, ?_⟩
          exact loop_snd hi h4 (signs_is s) (walker_str s) R1 (fun σ' H' ρ' e R' f' k' => kn σ' H' ρ' e R' (f1.trans f') k') fun σ' H' v d new ρ' e R' f' k' rv => kr σ' H' v d new ρ' e R' (f1.trans f') k' rv
        | non => cases ofO_ok h3
        | bl _ => cases ofO_ok h3
        | int _ => cases ofO_ok h3
        | dic _ => cases ofO_ok h3
        | scr _ => cases ofO_ok h3
      · cases c
  | .forR i a body, X, st, g, c, ρ, o, h => by
    simp only [exec] at h
    split at h
    · cases h
    · rename_i hi
      obtain ⟨⟨x, m, ρ1⟩, h1, h2⟩ := Res.bind_ok h
      dsimp only at h2
      split at h2
      · rename_i j
        split at h2
        · rename_i hj
          simp only [chkS] at c
          split at c
          · rename_i x0 p0 r0 p1 a' p2 b' pos
            have c1 := and_and c
            have c2 := and_and c1.1
            have c3 := and_and c2.1
            have c4 := and_and c3.1
            have c5 := and_and c4.1
            have c6 := and_and c5.1
            have hN : X.N[i]? = some x0 := of_decide_eq_true c6.1
            have e1 := of_decide_eq_true c5.2
            subst e1
            have pg : PG X (.Name x0 p0) (gName i) := pg_name g.nd hN (locB_of c6.2) (.inl (g.fnT x0))
            have pb : PSs X b' (tXU X.K T ios body) := ⟨fun pins s σ H D I ⟨ρ', o', e1, e2⟩ => (sndSs body g c1.2 e1).run pins s σ H D I e2⟩
            refine (ps_for g.px g.calm (pi_range1 (glo_of c4.2) g.rng (pa_cons (snd a g.toGood c2.2 h1) pa_nil (star_cons c3.2)) (star_cons c3.2)) pg pb (noSet_fold rfl)).imp fun D σ H ⟨B, R, kn, kr⟩ => ⟨B, R, fun v H1 R1 f1 rv => ?_⟩
            have ev1 := (rdb_of R1 rv).int
            subst ev1
            refine ⟨j, rfl, hj.1, hj.2, ?_⟩
            exact loop_snd hi h2 (rng_is j) (walker_rng j) R1 (fun σ' H' ρ' e R' f' k' => kn σ' H' ρ' e R' (f1.trans f') k') fun σ' H' v d new ρ' e R' f' k' rv => kr σ' H' v d new ρ' e R' (f1.trans f') k' rv
          · cases c
        · cases h2
      · cases h2
  | .app i e, X, st, g, c, ρ, o, h => by
    simp only [exec] at h
    split at h
    · rename_i d0 h0
      obtain ⟨⟨d, m, ρ1⟩, h1, h2⟩ := Res.bind_ok h
      dsimp only at h2
      split at h2
      · rename_i ds hd
        split at h2
        · rename_i hz
          cases h2
          simp only [chkS] at c
          split at c
          · have c1 := and_and c
            have c2 := and_and c1.1
            have c3 := and_and c2.1
            have c4 := and_and c3.1
            have c5 := and_and c4.1
            have c6 := and_and c5.1
            have e1 := of_decide_eq_true c6.1
            subst e1
            have hN := of_decide_eq_true c6.2
            refine (ps_expr (pe_bm PySem.F.plainAttrs_list PySem.F.slot_list_append PySem.F.type_list_append mt_append (pe_var hN (vis_of c5.2) (odd1 c4.2) (odd2 c4.2)) (pa_cons (pe_keep (snd e g.toGood c1.2 h1)) pa_nil (star_cons c2.2)) rfl (app_few c2.2) c3.2 (star_cons c2.2) rfl)).imp
              fun D σ H ⟨B, R, kn, _⟩ => ?_
            obtain ⟨p, g1, g2, vs0, ds0, e0, g3, g4⟩ := R.own i _ h0
            refine ⟨.ref p, g1, .inl ⟨rfl, vs0, .inl (.inl g3)⟩, B, R, fun v H1 R1 f1 rv => ?_⟩
            obtain ⟨p', k1, k2, vs, ds', e2, k3, k4⟩ := R1.own i _ hd
            rw [g1] at k1
            cases k1
            cases e2
            have fm : FrzLe H1 (upd H1 p (.lst (vs ++ [v]))) := FrzLe.mut k3 rfl
            refine ⟨p, vs, v, rfl, rfl, k3, by rw [k4.length]; exact sm_lt hz, kn σ _ _ rfl ?_ (f1.trans fm) (Kp.refl σ)⟩
            have hil : i < (keep m ρ1 d).length := (List.getElem?_eq_some_iff.mp hd).1
            refine ⟨fun a o' hb => ?_, ?_, fun j e' hj => ?_, fun j e' hj => ?_, fun j j' a b q a1 a2 a3 a4 => ?_⟩
            · rw [upd_ne (fun zz => by subst zz; rw [k2] at hb; cases hb)]; exact R1.base a o' hb
            · rw [List.length_set]; exact R1.len
            · rw [set_get, if_pos hil] at hj
              split at hj
              · cases hj
              · obtain ⟨w, w1, w2⟩ := R1.val j e' hj
                exact ⟨w, w1, w2.mono fm⟩
            · rw [set_get, if_pos hil] at hj
              split at hj
              · rename_i nn
                subst nn
                cases hj
                exact ⟨p, g1, k2, vs ++ [v], _, rfl, upd_same, (k4.append (.cons rv .nil)).mono fm⟩
              · rename_i nn
                obtain ⟨w, w1, w2, w3⟩ := R1.own j e' hj
                refine ⟨w, w1, w2, w3.mono fm (upd_ne fun y => ?_)⟩
                subst y
                exact nn (R1.sep i j _ _ w hd hj g1 w1)
            · have fix : ∀ (jj : Nat) x, ((keep m ρ1 d).set i (.own (.lst (ds ++ [d]))))[jj]? = some (.own x) → ∃ x', (keep m ρ1 d)[jj]? = some (.own x') := fun jj x hx => by
                rw [set_get] at hx
                split at hx
                · rename_i nn; subst nn; exact ⟨_, hd⟩
                · exact ⟨x, hx⟩
              obtain ⟨b1, q1⟩ := fix j a a1
              obtain ⟨b2, q2⟩ := fix j' b a2
              exact R1.sep j j' b1 b2 q q1 q2 a3 a4
          · cases c
        · cases h2
      · cases h2
    · cases h
theorem sndSs {T : Tab} {n : Nat} {ios : List Nat} : ∀ (ss : ISs) {X : Cx} {l : List Stmt}, GoodS T n X → chkSs X.N X.env.scope ss l = true → ∀ {ρ o}, execs T ios ss ρ = .ok o → PSs X l (tX X.K ios ρ o)
  | .nil, X, l, g, c, ρ, o, h => by
    simp only [execs] at h
    cases h
    simp only [chkSs] at c
    split at c
    · exact pss_nil.imp fun D σ H ⟨B, R, kn, _⟩ => kn σ H _ rfl R (FrzLe.refl H) (Kp.refl σ)
    · cases c
  | .cons s r, X, l, g, c, ρ, o, h => by
    simp only [execs] at h
    obtain ⟨o1, h1, h2⟩ := Res.bind_ok h
    simp only [chkSs] at c
    split at c
    · have c1 := and_and c
      have hs := sndS (ios := ios) s g c1.1 h1
      try dsimp only at h2
      split at h2
      · refine (pss_cons hs (sndSs (ios := ios) r g c1.2 h2)).imp fun D σ H ⟨B, R, kn, kr⟩ => ⟨B, R, fun σ' H' ρ' e R' f' k' => ?_, fun σ' H' v d new ρ' e => nomatch e⟩
        cases e
        exact ⟨B, R', fun σ2 H2 ρ2 e2 R2 f2 k2 => kn σ2 H2 ρ2 e2 R2 (f'.trans f2) (k'.trans k2), fun σ2 H2 v d new ρ2 e2 R2 f2 k2 rv => kr σ2 H2 v d new ρ2 e2 R2 (f'.trans f2) (k'.trans k2) rv⟩
      · cases h2
        refine (pss_cons hs pss_no).imp fun D σ H ⟨B, R, kn, kr⟩ => ⟨B, R, fun σ' H' ρ' e => (nomatch e), fun σ' H' v d new ρ' e R' f' k' rv => ?_⟩
        cases e
        exact kr σ' H' v _ _ _ rfl R' f' k' rv
    · cases c
end
end Ev
set_option Elab.async false
set_option linter.all false
set_option maxRecDepth 100000
set_option maxHeartbeats 8000000
namespace Ev
open PySem PySem.Spec PyProof.Rows L2

def ioIx : Nat → List Bool → List Nat
  | _, [] => []
  | k, true :: r => k :: ioIx (k + 1) r
  | k, false :: r => ioIx (k + 1) r
def env0 : List Bool → List Dat → Nat → DEnv
  | true :: io, d :: ds, n => .own d :: env0 io ds (n - 1)
  | false :: io, d :: ds, n => .val d :: env0 io ds (n - 1)
  | _, _, n => List.replicate n .no
def outsOf (ρ : DEnv) : List Nat → Option (List Dat)
  | [] => some []
  | i :: r => (match ρ[i]? with
    | some (.own d) => (outsOf ρ r).map (d :: ·)
    | _ => none)
/-- a def by its body -/
def FI.of (T : Tab) (n : Nat) (io : List Bool) (body : ISs) : FI where
  io := io
  run := fun ds => if ds.length = io.length then
      (execs T (ioIx 0 io) body (env0 io ds n)).bind fun o => (match o with
        | .nx ρ => (ofO (outsOf ρ (ioIx 0 io))).bind fun outs => .ok (.non, false, outs)
        | .rt d new ρ => (ofO (outsOf ρ (ioIx 0 io))).bind fun outs => .ok (d, new, outs))
    else .stuck

section
variable {K : PySem.W.Frag} {H : Hp}
theorem env0_len : ∀ {io : List Bool} {ds : List Dat} {n : Nat}, ds.length = io.length → io.length ≤ n → (env0 io ds n).length = n
  | [], [], n, _, _ => by simp [env0]
  | true :: io, d :: ds, n, h, hn => by
    have h' : ds.length = io.length := by simpa using h
    have hn' : io.length + 1 ≤ n := hn
    show (env0 io ds (n - 1)).length + 1 = n
    rw [env0_len h' (by omega)]; omega
  | false :: io, d :: ds, n, h, hn => by
    have h' : ds.length = io.length := by simpa using h
    have hn' : io.length + 1 ≤ n := hn
    show (env0 io ds (n - 1)).length + 1 = n
    rw [env0_len h' (by omega)]; omega
theorem ioA_mem : ∀ {io : List Bool} {vs : List V} {i : Nat} {p : Addr}, io[i]? = some true → vs[i]? = some (.ref p) → p ∈ ioA io vs
  | true :: io, v :: vs, 0, p, _, h => by
    cases h
    exact List.mem_cons_self
  | true :: io, v :: vs, i + 1, p, h1, h2 => by
    have := ioA_mem (io := io) (vs := vs) (i := i) (p := p) h1 h2
    cases v <;> first | exact List.mem_cons_of_mem _ this | exact this
  | false :: io, v :: vs, i + 1, p, h1, h2 => by
    have := ioA_mem (io := io) (vs := vs) (i := i) (p := p) h1 h2
    cases v <;> exact this
theorem ioA_inj : ∀ {io : List Bool} {vs : List V} {i j : Nat} {p : Addr}, (ioA io vs).Nodup → io[i]? = some true → io[j]? = some true → vs[i]? = some (.ref p) → vs[j]? = some (.ref p) → i = j
  | true :: io, v :: vs, 0, 0, p, _, _, _, _, _ => rfl
  | true :: io, v :: vs, 0, j + 1, p, nd, _, h2, h3, h4 => by
    cases h3
    exact absurd (ioA_mem (io := io) (vs := vs) h2 h4) (List.nodup_cons.mp (show (p :: ioA io vs).Nodup from nd)).1
  | true :: io, v :: vs, i + 1, 0, p, nd, h1, _, h3, h4 => by
    cases h4
    exact absurd (ioA_mem (io := io) (vs := vs) h1 h3) (List.nodup_cons.mp (show (p :: ioA io vs).Nodup from nd)).1
  | true :: io, v :: vs, i + 1, j + 1, p, nd, h1, h2, h3, h4 => by
    have nd' : (ioA io vs).Nodup := by cases v <;> first | exact (List.nodup_cons.mp nd).2 | exact nd
    exact congrArg (· + 1) (ioA_inj (io := io) (vs := vs) nd' h1 h2 h3 h4)
  | false :: io, v :: vs, i + 1, j + 1, p, nd, h1, h2, h3, h4 => by
    have nd' : (ioA io vs).Nodup := by cases v <;> exact nd
    exact congrArg (· + 1) (ioA_inj (io := io) (vs := vs) nd' h1 h2 h3 h4)
  | false :: io, v :: vs, 0, _, p, nd, h1, h2, h3, h4 => nomatch h1
  | false :: io, v :: vs, _ + 1, 0, p, nd, h1, h2, h3, h4 => nomatch h2
theorem args_at : ∀ {io : List Bool} {vs : List V} {ds : List Dat} {n i : Nat} {s : Slot}, argsR K H io vs ds → (env0 io ds n)[i]? = some s → s = .no ∨
    (∃ v d, vs[i]? = some v ∧ io[i]? = some false ∧ s = .val d ∧ Is K H v d) ∨ ∃ p d, vs[i]? = some (.ref p) ∧ io[i]? = some true ∧ s = .own d ∧ Own K H p d
  | [], [], [], n, i, s, _, h => by
    have h' : (List.replicate n Slot.no)[i]? = some s := h
    rw [List.getElem?_replicate] at h'
    split at h' <;> cases h'
    exact .inl rfl
  | true :: io, v :: vs, d :: ds, n, 0, s, a, h => by
    cases h
    obtain ⟨p, rfl, o⟩ := a.1
    exact .inr (.inr ⟨p, d, rfl, rfl, rfl, o⟩)
  | false :: io, v :: vs, d :: ds, n, 0, s, a, h => by
    cases h
    exact .inr (.inl ⟨v, d, rfl, rfl, rfl, a.1⟩)
  | true :: io, v :: vs, d :: ds, n, i + 1, s, a, h => args_at (io := io) (vs := vs) (ds := ds) (n := n - 1) (i := i) a.2 h
  | false :: io, v :: vs, d :: ds, n, i + 1, s, a, h => args_at (io := io) (vs := vs) (ds := ds) (n := n - 1) (i := i) a.2 h
theorem start_at {N : List Str} {vs : List V} {i : Nat} {v : V} (h : vs[i]? = some v) : (L2.start N vs)[i]? = some (some v) := by
  unfold L2.start
  have hi := (List.getElem?_eq_some_iff.mp h).1
  rw [List.getElem?_append_left (by rw [List.length_map]; exact hi), List.getElem?_map, h]
  rfl
theorem start_len {N : List Str} {vs : List V} (h : vs.length ≤ N.length) : (L2.start N vs).length = N.length := by
  unfold L2.start
  rw [List.length_append, List.length_map, List.length_replicate]
  omega
theorem renv_start {io : List Bool} {vs : List V} {ds : List Dat} {N : List Str} (a : argsR K H io vs ds) (nd : (ioA io vs).Nodup) (hn : io.length ≤ N.length) :
    REnv K (fun b => if b ∈ ioA io vs then none else H b) (L2.start N vs) H (env0 io ds N.length) := by
  have la := argsR_len a
  refine ⟨fun b o h => ?_, ?_, fun i d h => ?_, fun i d h => ?_, fun i j d e p h1 h2 h3 h4 => ?_⟩
  · by_cases z : b ∈ ioA io vs
    · rw [if_pos z] at h; cases h
    · rw [if_neg z] at h; exact h
  · rw [start_len (by omega), env0_len la.2 hn]
  · rcases args_at a h with z | ⟨v, d', h1, _, e, h3⟩ | ⟨p, d', _, _, e, _⟩
    · cases z
    · cases e; exact ⟨v, start_at h1, h3⟩
    · cases e
  · rcases args_at a h with z | ⟨v, d', h1, _, e, h3⟩ | ⟨p, d', h1, h2, e, h3⟩
    · cases z
    · cases e
    · cases e
      exact ⟨p, start_at h1, if_pos (ioA_mem h2 h1), h3⟩
  · rcases args_at a h1 with z | ⟨v, d', _, _, e, _⟩ | ⟨p1, d1, a1, b1, e, _⟩
    · cases z
    · cases e
    · rcases args_at a h2 with z | ⟨v, d', _, _, e, _⟩ | ⟨p2, d2, a2, b2, e, _⟩
      · cases z
      · cases e
      · have q1 := (start_at (N := N) a1).symm.trans h3
        have q2 := (start_at (N := N) a2).symm.trans h4
        cases q1
        cases q2
        exact ioA_inj nd b1 b2 a1 a2
theorem outs_are {B : Hp} {σ' : L2.St} {H' : Hp} {ρ' : DEnv} (R : REnv K B σ' H' ρ') : ∀ {k : Nat} {io : List Bool} {vs : List V} {ds outs : List Dat}, argsR K H io vs ds → (∀ j v, io[j]? = some true → vs[j]? = some v → σ'[k + j]? = some (some v)) →
    outsOf ρ' (ioIx k io) = some outs → outsR K H' (ioA io vs) outs ∧ ∀ p ∈ ioA io vs, ∃ (i : Nat) (e : Dat), ρ'[i]? = some (Slot.own e) ∧ σ'[i]? = some (some (V.ref p))
  | k, [], [], [], outs, _, _, h => by
    cases h
    exact ⟨trivial, fun p z => nomatch z⟩
  | k, true :: io, v :: vs, d :: ds, outs, a, hs, h => by
    obtain ⟨p, rfl, o⟩ := a.1
    have h' : (match ρ'[k]? with
      | some (.own d) => (outsOf ρ' (ioIx (k + 1) io)).map (d :: ·)
      | _ => none) = some outs := h
    split at h'
    · rename_i d' hd
      cases q : outsOf ρ' (ioIx (k + 1) io) with
      | none => rw [q] at h'; cases h'
      | some os =>
        rw [q] at h'
        cases h'
        have hk : σ'[k]? = some (some (.ref p)) := hs 0 _ rfl rfl
        obtain ⟨p', g1, g2, g3⟩ := R.own k d' hd
        rw [hk] at g1
        cases g1
        obtain ⟨i1, i2⟩ := outs_are R (k := k + 1) a.2 (fun j w h1 h2 => by
          have := hs (j + 1) w h1 h2
          rw [show k + 1 + j = k + (j + 1) by omega]; exact this) q
        refine ⟨⟨g3, i1⟩, fun q hq => ?_⟩
        rcases List.mem_cons.mp (show q ∈ p :: ioA io vs from hq) with z | z
        · subst z; exact ⟨k, d', hd, hk⟩
        · exact i2 q z
    · cases h'
  | k, false :: io, v :: vs, d :: ds, outs, a, hs, h => by
    obtain ⟨i1, i2⟩ := outs_are R (k := k + 1) (io := io) (vs := vs) (ds := ds) (outs := outs) a.2 (fun j w h1 h2 => by
          have := hs (j + 1) w h1 h2
          rw [show k + 1 + j = k + (j + 1) by omega]; exact this) h
    have e : ioA (false :: io) (v :: vs) = ioA io vs := by cases v <;> rfl
    rw [e]
    exact ⟨i1, i2⟩
theorem ioIx_mem : ∀ {k : Nat} {io : List Bool} {j : Nat}, io[j]? = some true → k + j ∈ ioIx k io
  | k, true :: io, 0, _ => List.mem_cons_self
  | k, true :: io, j + 1, h => by
    have := ioIx_mem (k := k + 1) (io := io) (j := j) h
    refine List.mem_cons_of_mem _ ?_
    rw [show k + (j + 1) = k + 1 + j by omega]; exact this
  | k, false :: io, j + 1, h => by
    have := ioIx_mem (k := k + 1) (io := io) (j := j) h
    show k + (j + 1) ∈ ioIx (k + 1) io
    rw [show k + (j + 1) = k + 1 + j by omega]; exact this
end

/-- what the module's names stand for, below a level -/
structure ModF (T : Tab) (n : Nat) (P : Program) (w : World) (K : PySem.W.Frag) (mg : Str → Option Value) (base : Heap) : Prop where
  bt : ∀ b : BI, mg b.name = none
  isi : mg "isinstance" = none
  rng : mg "range" = none
  tys : ∀ ty : String, ty ∈ ["int", "bool", "str", "tuple", "list", "dict"] → mg (Str.ofString ty) = none
  con : ∀ x d, T.con x = some d → ∃ u v, mg x = some u ∧ RelV v u ∧ ∀ H, Is K H v d
  fns : ∀ f fi, T.fn f = some fi → ∃ a fd ps k, k ≤ n ∧ mg f = some (.ref a) ∧ PySem.W.keepIn K (.ref a) = true ∧ Binds K fd ps [] ∧ FnG P w K mg base k a fd ps (spD K fi)

theorem dfn {T : Tab} {k : Nat} {P : Program} {w : World} {K : PySem.W.Frag} {mg : Str → Option Value} {base : Heap} {f : Addr} {x qual : Str} {st : Stmt} {fd : FuncData} {N ps : List Str} {io : List Bool} {body : ISs}
    (M : ModF T k P w K mg base) (F : Fun K x qual st f fd) (S : FnScope N ps (defScope st)) (hl : io.length = ps.length) (c : chkSs N (defScope st) body (defBody st) = true) :
    FnG P w K mg base (k + 1) f fd ps (spD K (FI.of T N.length io body)) := by
  have hpn : io.length ≤ N.length := by
    have := congrArg List.length S.pre
    rw [List.length_take] at this
    omega
  refine fnG_of F S (fun vs H Q h => ?_) fun cdv A outer s H vs Q hr hg h => ?_
  · obtain ⟨ds, d, new, outs, _, a, _⟩ := h
    rw [(argsR_len a).1, ← hl]; rfl
  · obtain ⟨ds, d, new, outs, hrun, a, nd, k'⟩ := h
    have hrun' : (if ds.length = io.length then
      (execs T (ioIx 0 io) body (env0 io ds N.length)).bind fun o => (match o with
        | .nx ρ => (ofO (outsOf ρ (ioIx 0 io))).bind fun outs => .ok (.non, false, outs)
        | .rt d new ρ => (ofO (outsOf ρ (ioIx 0 io))).bind fun outs => .ok (d, new, outs))
      else Res.stuck) = .ok (d, new, outs) := hrun
    rw [if_pos (show ds.length = io.length from (argsR_len a).2)] at hrun'
    obtain ⟨o, h1, h2⟩ := Res.bind_ok hrun'
    have gd : A.guards = some [] → (A.deeper (envOfC qual (defScope st) s.heap.objs.size f cdv)).guards = some [] := fun z => z
    have G : GoodS T k (cxOf CX0 P w K mg base N qual (defScope st) f cdv A outer s H E0).nox :=
      ⟨⟨rfl, S.nd, hr, gd hg, M.bt, M.isi, M.rng, M.tys, M.con, M.fns⟩, PassesOwn.never, fun _ => rfl⟩
    refine ⟨_, sndSs (ios := ioIx 0 io) body G c h1, _, renv_start (N := N) a nd hpn, fun σ' H' ρ' eo R' f' kp => ?_, fun σ' H' v d' new' ρ' eo R' f' kp rv => ?_⟩
    · subst eo
      obtain ⟨outs', h3, h4⟩ := Res.bind_ok h2
      cases h4
      obtain ⟨o1, o2⟩ := outs_are R' (k := 0) a (fun j v h1 h2 => by
        rw [kp (0 + j) (ioIx_mem h1), Nat.zero_add]; exact start_at h2) (ofO_ok h3)
      exact k' _ H' ⟨fun b ob hb hn => R'.base b ob ((if_neg hn).trans hb), f', o1, .non⟩
    · subst eo
      obtain ⟨outs', h3, h4⟩ := Res.bind_ok h2
      cases h4
      obtain ⟨o1, o2⟩ := outs_are R' (k := 0) a (fun j v h1 h2 => by
        rw [kp (0 + j) (ioIx_mem h1), Nat.zero_add]; exact start_at h2) (ofO_ok h3)
      refine k' v H' ⟨fun b ob hb hn => R'.base b ob ((if_neg hn).trans hb), f', o1, ?_⟩
      cases new with
      | false => exact rv
      | true =>
        obtain ⟨p, rfl, ho, bp, ns⟩ := rv
        refine ⟨p, rfl, ?_, ho⟩
        have bp' : (if p ∈ ioA io vs then none else H p) = none := bp
        split at bp'
        · rename_i hp
          obtain ⟨i, e, g1, g2⟩ := o2 p hp
          exact absurd g2 (ns i e g1)
        · exact bp'
/-- one def more -/
def Tab.add (T : Tab) (x : Str) (fi : FI) : Tab := { T with fn := fun y => if y = x then some fi else T.fn y }
theorem ModF.add {T : Tab} {n : Nat} {P : Program} {w : World} {K : PySem.W.Frag} {mg : Str → Option Value} {base : Heap} {x : Str} {fi : FI} {a : Addr} {fd : FuncData} {ps : List Str} (M : ModF T n P w K mg base)
    (h1 : mg x = some (.ref a)) (h2 : PySem.W.keepIn K (.ref a) = true) (h3 : Binds K fd ps []) (h4 : FnG P w K mg base (n + 1) a fd ps (spD K fi)) : ModF (T.add x fi) (n + 1) P w K mg base :=
  ⟨M.bt, M.isi, M.rng, M.tys, M.con, fun f g e => by
    have e' : (if f = x then some fi else T.fn f) = some g := e
    split at e'
    · rename_i z
      subst z
      cases e'
      exact ⟨a, fd, ps, n + 1, Nat.le_refl _, h1, h2, h3, h4⟩
    · obtain ⟨a', fd', ps', k', g1, g2⟩ := M.fns f g e'
      exact ⟨a', fd', ps', k', by omega, g2⟩⟩
end Ev
set_option Elab.async false
set_option linter.all false
set_option maxRecDepth 100000
set_option maxHeartbeats 4000000
namespace Ev
open PySem PySem.Spec PyProof.Rows L2
/-- the law's call, by the promise of plain data -/
theorem law_endG {P : Program} {w : World} {K : PySem.W.Frag} {mg mb : Str → Option Value} {k : Nat} {fa a : Addr} {fd : FuncData} {x : Str} {t : Shared} {us : List Value} {ns : List Int} {fi : FI}
    (KX : K.In t.heap) (h1 : t.heap.Ns mainGlobals mg) (h2 : t.heap.Ns builtinsNs mb) (h3 : ∀ y : Str, y ≠ "__name__" → mb y = bootBuiltins y) (h4 : t.heap.NoLimit) (h5 : t.gens = #[])
    (h6 : t.heap.get? a = some { cls := .type "list", data := .seq us.toArray }) (h7 : IntsAre us ns) (h8 : ns.length ≤ sizeLine) (room : Room k callerA)
    (F : ∀ base : Heap, K.In base → base.Ns mainGlobals mg → FnG P w K mg base k fa fd [x] (spD K fi)) (bnd : ∀ (s : Shared) (u : Value), BindsTo s fd ⟨[u], []⟩ [(x, u)])
    (hio : fi.io = [false]) (hrun : fi.run [.scr ns] = .ok (.bl true, false, [])) :
    codeAny (model P w) callerA (.call (.ref fa) ⟨[.ref a], []⟩) (fun r s' => r = .ok (.ret (.bool true)) ∧ OldK t.heap s'.heap ∧ s'.os = t.os ∧ AllBare s'.gens) t := by
  have rel := vals_ints h7
  have len7 := h7.length
  have core : ∀ H : Hp, (∀ b, H b = none ∨ (b = a ∧ ∃ o u, H b = some (.frz o u))) → SqF K H a (ns.map V.int) → HOk P w H t.heap → (H a ≠ none → K.lookup a = none) →
      codeAny (model P w) callerA (.call (.ref fa) ⟨[.ref a], []⟩) (fun r s' => r = .ok (.ret (.bool true)) ∧ OldK t.heap s'.heap ∧ s'.os = t.os ∧ AllBare s'.gens) t := by
    intro H only sq hok hK
    have offA : ∀ b, H b ≠ none → b = a := fun b z => by
      rcases only b with q | ⟨q, _⟩
      · exact absurd q z
      · exact q
    have noD : ∀ {b : Addr} {ob : Obj} {es : Array DictEntry} {ep : Nat}, t.heap.get? b = some ob → ob.data = .dict es ep → H b = none := by
      intro b ob es ep e1 e2
      cases q : H b with
      | none => rfl
      | some u =>
        exfalso
        have eb := offA b (by rw [q]; exact fun z => nomatch z)
        subst eb
        rw [h6] at e1
        cases e1
        exact nomatch e2
    have nsT : ∀ {b : Addr} {mm : Str → Option Value}, t.heap.Ns b mm → (hidT t.heap H).Ns b mm := by
      rintro b mm ⟨ob, es, ep, e1, e2, e3⟩
      exact ⟨ob, es, ep, hidT_get e1 (noD e1 e2), e2, e3⟩
    have KB : K.In (hidT t.heap H) := by
      intro b ob e
      refine hidT_get (KX b ob e) ?_
      cases q : H b with
      | none => rfl
      | some u =>
        exfalso
        have eb := offA b (by rw [q]; exact fun z => nomatch z)
        subst eb
        rw [hK (by rw [q]; exact fun z => nomatch z)] at e
        cases e
    obtain ⟨mc, c1, c2⟩ := h4
    have env : Env0 P w K mg (hidT t.heap H) callerA [] t H :=
      ⟨rfl, ⟨KB, nsT h1, ⟨mb, nsT h2, h3⟩, ⟨mc, nsT c1, c2⟩⟩, fun b ob e => of_hidT e, Nat.le_of_eq (hidT_size _ _), trivial, fun b z => (nomatch (show b ∈ ([] : List Addr) from z)), hok, .of_eq h5⟩
    have sp : spD K fi [.ref a] H (fun v _ => v = .bl true) := by
      refine ⟨[.scr ns], .bl true, false, [], hrun, ?_, ?_, fun v H' P => ?_⟩
      · rw [hio]; exact ⟨.scr sq, trivial⟩
      · rw [hio]; exact List.nodup_nil
      · cases P.2.2.2
        rfl
    refine codeAny_mono ((F _ KB (nsT h1)).run callerA [] t H ⟨[.ref a], []⟩ [.ref a] [.ref a] _ room rfl env (bnd t (.ref a)) (.cons rfl .nil) sp) ?_
    intro r s' q
    cases r with
    | error e => exact False.elim q
    | ok fl =>
      cases fl with
      | next => exact False.elim q
      | brk => exact False.elim q
      | cont => exact False.elim q
      | ret u =>
        obtain ⟨v, H', os, bare, un, hok', rv, qv⟩ := q
        have qv' : v = .bl true := qv
        subst qv'
        have eu : u = Value.bool true := rv
        subst eu
        refine ⟨rfl, OldK.of_keep fun b ob e => ?_, os, bare⟩
        rcases only b with z | ⟨z, ob', u', z'⟩
        · exact un.keep b ob e z (fun y => nomatch (show b ∈ ([] : List Addr) from y)) (fun y => nomatch y)
        · obtain ⟨g1, _⟩ := hok b _ z'
          obtain ⟨g2, _⟩ := hok' b _ (un.frzs b ob' _ z')
          rw [e] at g1
          cases g1
          exact g2
  cases hk : K.lookup a with
  | some o =>
    have e := KX a o hk
    rw [h6] at e
    cases e
    exact core (fun _ => none) (fun _ => .inl rfl) (.inr (.inr ⟨_, us.toArray, _, hk, rfl, rfl, rfl, by rw [List.size_toArray, len7]; exact h8, by simpa using rel⟩)) (fun b u z => nomatch z) fun z => absurd rfl z
  | none =>
    have at_a : (fun b => if b = a then some (HO.frz { cls := .type "list", data := .seq us.toArray } (.lst (ns.map V.int))) else none : Hp) a = some (HO.frz { cls := .type "list", data := .seq us.toArray } (.lst (ns.map V.int))) := if_pos rfl
    refine core (fun b => if b = a then some (HO.frz { cls := .type "list", data := .seq us.toArray } (.lst (ns.map V.int))) else none) (fun b => ?_) (.inl ⟨_, at_a⟩) (fun b u z => ?_) fun _ => hk
    · by_cases hb : b = a
      · exact .inr ⟨hb, _, _, if_pos hb⟩
      · exact .inl (if_neg hb)
    · by_cases hb : b = a
      · subst hb
        cases at_a.symm.trans z
        exact ⟨h6, by rw [List.length_map]; exact h8, us, _, rel, h6⟩
      · exact nomatch (show (none : Option HO) = some u from (if_neg hb).symm.trans z)
theorem walk_G {l : PySem.W.OpenLaw} {n k : Nat} {q : Program} {loose : List Str} {XP : (Str → Option Value) → Heap → Prop} {YP : World → Heap → Prop} {d : DefRec} {K : Params → PySem.W.Frag} {x : Str} {fi : FI}
    (hn : l.most = some n) (hn2 : n ≤ sizeLine) (hdf : d.params.defaults = []) (room : Room k callerA) (hY : ∀ (w : World) (h : Heap), YP w h → (K w.params).In h)
    (F : ∀ (w : World) (mg : Str → Option Value) (fa : Addr) (h : Heap), (K w.params).In h → h.Ns mainGlobals mg → mg d.name = some (.ref fa) →
      ∃ fd : FuncData, (∀ (s : Shared) (u : Value), BindsTo s fd ⟨[u], []⟩ [(x, u)]) ∧ ∀ base : Heap, (K w.params).In base → base.Ns mainGlobals mg → FnG l.prog w (K w.params) mg base k fa fd [x] (spD (K w.params) fi))
    (hio : fi.io = [false]) (hrun : ∀ ns : List Int, ns.length ≤ n → fi.run [.scr ns] = .ok (.bl true, false, [])) :
    PySem.W.WalkO q loose XP YP l.row.toRowW d [] (fun f vs => PySem.call f vs) := by
  refine Att.attach_call hn hdf ?_
  intro w s₀ s₁ mg mb fa o pm cd doc a vs ns G Y ho hd hcd hmg hobj hints hlen hg
  obtain ⟨fd, bnd, FF⟩ := F w mg fa _ (hY w _ Y) G.T.g hmg
  exact law_endG (hY w _ Y) G.T.g G.T.b G.T.builtins G.T.nolimit hg hobj hints (Nat.le_trans hlen hn2) room FF bnd hio (hrun ns hlen)
end Ev
set_option Elab.async false
set_option linter.all false
set_option maxRecDepth 100000
set_option maxHeartbeats 4000000
namespace Ev
open PySem PySem.Spec PyProof.Rows L2
/-- a number drawn from a pot: its own digits, or numbers mixed -/
def takeN (a b m : Int) : Int × Int × Int :=
  if 0 < a then (a % m, a / m, b) else
    let c := (b * 40014 + 12211) % 2147483563
    (c * c % 2147483399 / 11 % m, a, c)
def takeFI : FI where
  io := [true, false]
  run := fun ds => match ds with
    | [.lst [.int a, .int b], .int m] => if 0 < m ∧ m < 1073741824 then .ok (.int (takeN a b m).1, false, [.lst [.int (takeN a b m).2.1, .int (takeN a b m).2.2]]) else .stuck
    | _ => .stuck
theorem take_run {ds : List Dat} {d : Dat} {new : Bool} {outs : List Dat} (h : takeFI.run ds = .ok (d, new, outs)) : ∃ a b m : Int, ds = [.lst [.int a, .int b], .int m] ∧ (0 < m ∧ m < 1073741824) ∧ d = .int (takeN a b m).1 ∧ new = false ∧ outs = [.lst [.int (takeN a b m).2.1, .int (takeN a b m).2.2]] := by
  simp only [takeFI] at h
  split at h
  · split at h
    · rename_i c
      cases h
      exact ⟨_, _, _, rfl, c, rfl, rfl, rfl⟩
    · cases h
  · cases h
end Ev
set_option Elab.async false
set_option linter.all false
set_option maxRecDepth 100000
set_option maxHeartbeats 4000000
namespace Ev
open PySem
/-! ### rules: a body statement by statement (small terms for the kernel) -/
section
variable {T : Tab} {ios : List Nat}
theorem rOf {n : Nat} {io : List Bool} {body : ISs} {ds : List Dat} {ρ0 ρ : DEnv} {d : Dat} {new : Bool} {outs : List Dat} (h0 : env0 io ds n = ρ0) (hl : ds.length = io.length) (h : execs T (ioIx 0 io) body ρ0 = .ok (.rt d new ρ)) (ho : outsOf ρ (ioIx 0 io) = some outs) :
    (FI.of T n io body).run ds = .ok (d, new, outs) := by
  subst h0
  show (if ds.length = io.length then _ else _) = _
  rw [if_pos hl, h, bindOk]
  show (ofO (outsOf ρ (ioIx 0 io))).bind _ = _
  rw [ho]
  rfl
theorem rIteT {c : IE} {a b r : ISs} {ρ ρ1 : DEnv} {m : Mode} (h : ev T c ρ = .ok (.bl true, m, ρ1)) {d : Dat} {new : Bool} {ρ2 : DEnv} (ha : execs T ios a ρ1 = .ok (.rt d new ρ2)) :
    execs T ios (.cons (.ite c a b) r) ρ = .ok (.rt d new ρ2) := by
  rw [execs, exec, h, bindOk]
  show (execs T ios a ρ1).bind _ = _
  rw [ha]
  rfl
theorem rIteTn {c : IE} {a b r : ISs} {ρ ρ1 : DEnv} {m : Mode} (h : ev T c ρ = .ok (.bl true, m, ρ1)) {ρ2 : DEnv} (ha : execs T ios a ρ1 = .ok (.nx ρ2)) :
    execs T ios (.cons (.ite c a b) r) ρ = execs T ios r ρ2 := by
  rw [execs, exec, h, bindOk]
  show (execs T ios a ρ1).bind _ = _
  rw [ha]
  rfl
theorem rIteF {c : IE} {a r : ISs} {ρ ρ1 : DEnv} {m : Mode} (h : ev T c ρ = .ok (.bl false, m, ρ1)) :
    execs T ios (.cons (.ite c a .nil) r) ρ = execs T ios r ρ1 := by
  rw [execs, exec, h, bindOk]
  show (execs T ios .nil ρ1).bind _ = _
  rw [execs]
  rfl
theorem rSet {i : Nat} {e : IE} {r : ISs} {ρ ρ1 : DEnv} {d : Dat} {m : Mode} (hi : i ∉ ios) (h : ev T e ρ = .ok (d, m, ρ1)) :
    execs T ios (.cons (.set i e) r) ρ = execs T ios r (store i d m ρ1) := by
  rw [execs, exec, if_neg hi, h, bindOk]
  rfl
theorem rPar {is : List Nat} {es : IEs} {r : ISs} {ρ ρ1 : DEnv} {ds : List Dat} (hi : is.any (fun i => ios.contains i) = false) (h : evs T es ρ = .ok (ds, ρ1)) (hl : ds.length = is.length) :
    execs T ios (.cons (.par is es) r) ρ = execs T ios r (storeAll is ds ρ1) := by
  rw [execs, exec, if_neg (by rw [hi]; decide), h, bindOk]
  show (if ds.length = is.length then _ else _ : Res Out).bind _ = _
  rw [if_pos hl]
  rfl
theorem rRet {e : IE} {r : ISs} {ρ ρ1 : DEnv} {d : Dat} (h : ev T e ρ = .ok (d, .frz, ρ1)) :
    execs T ios (.cons (.ret e) r) ρ = .ok (.rt d false ρ1) := by
  rw [execs, exec, h, bindOk]
  rfl
theorem rRetN {e : IE} {r : ISs} {ρ ρ1 : DEnv} {d : Dat} (h : ev T e ρ = .ok (d, .fresh, ρ1)) :
    execs T ios (.cons (.ret e) r) ρ = .ok (.rt d true ρ1) := by
  rw [execs, exec, h, bindOk]
  rfl
theorem rRetB {e : IE} {r : ISs} {ρ ρ1 : DEnv} {d : Dat} {i : Nat} (hi : i ∉ ios) (h : ev T e ρ = .ok (d, .brw i, ρ1)) :
    execs T ios (.cons (.ret e) r) ρ = .ok (.rt d true (ρ1.set i .no)) := by
  rw [execs, exec, h, bindOk]
  show (if i ∈ ios then _ else _ : Res Out).bind _ = _
  rw [if_neg hi]
  rfl
theorem rApp {i : Nat} {e : IE} {r : ISs} {ρ ρ1 : DEnv} {d : Dat} {m : Mode} {ds0 ds : List Dat} (h0 : ρ[i]? = some (.own (.lst ds0))) (h : ev T e ρ = .ok (d, m, ρ1)) (h1 : (keep m ρ1 d)[i]? = some (.own (.lst ds))) (hs : sm ds.length = true) :
    execs T ios (.cons (.app i e) r) ρ = execs T ios r ((keep m ρ1 d).set i (.own (.lst (ds ++ [d])))) := by
  rw [execs, exec, h0]
  show ((ev T e ρ).bind _).bind _ = _
  rw [h, bindOk]
  show (match (keep m ρ1 d)[i]? with | some (.own (.lst ds)) => _ | _ => _ : Res Out).bind _ = _
  rw [h1]
  show (if sm ds.length = true then _ else _ : Res Out).bind _ = _
  rw [if_pos hs]
  rfl
theorem lt62 (n : Nat) (h : n ≤ 100000) : (n : Int) < 2 ^ 62 := by
  have : (2:Int)^62 = 4611686018427387904 := by decide
  rw [this]
  omega
theorem ge62 (n : Nat) : -(2 ^ 62) ≤ (n : Int) := by
  have : (2:Int)^62 = 4611686018427387904 := by decide
  rw [this]
  omega
theorem ev_lcR {el a : IE} {tg : Nat} {own : List (Str × Nat)} {ρ ρ1 : DEnv} {m : Mode} {n : Nat} (ha : ev T a ρ = .ok (.int (n : Int), m, ρ1)) (hn : n ≤ 100000) :
    ev T (.lcR el tg a own) ρ = comp (own.map (·.2)) (oneOf (ev T el) tg (own.map (·.2))) ((List.range n).map fun (k : Nat) => .int (k : Int)) ρ1 := by
  rw [ev, ha, bindOk]
  simp only []
  rw [if_pos ⟨ge62 n, lt62 n hn⟩, Int.toNat_natCast]
theorem rForR {i : Nat} {a : IE} {body r : ISs} {ρ ρ1 : DEnv} {m : Mode} {n : Nat} (hi : i ∉ ios) (ha : ev T a ρ = .ok (.int (n : Int), m, ρ1)) (hn : n ≤ 100000) :
    execs T ios (.cons (.forR i a body) r) ρ = (loop (turnOf (execs T ios body) i) ((List.range n).map fun (k : Nat) => .int (k : Int)) ρ1).bind fun o => (match o with
      | .nx ρ1 => execs T ios r ρ1
      | .rt d new ρ1 => .ok (.rt d new ρ1)) := by
  rw [execs, exec, if_neg hi, ha, bindOk]
  simp only []
  rw [if_pos ⟨ge62 n, lt62 n hn⟩, Int.toNat_natCast]
  all_goals rfl
theorem rComp {vs : List Nat} {one : Dat → DEnv → Res (Option Dat × DEnv)} {xs ys : List Dat} {ρ ρ2 ρ3 : DEnv} (hs : sm xs.length = true) (hc : calmAt ρ vs = true) (ht : turns one xs ρ = .ok (ys, ρ2)) (hb : back ρ ρ2 vs = ρ3) :
    comp vs one xs ρ = .ok (.lst ys, .fresh, ρ3) := by
  unfold comp
  rw [hs, hc, ht, hb.symm]
  rfl
end
end Ev
set_option Elab.async false
set_option linter.all false
set_option maxRecDepth 100000
set_option maxHeartbeats 4000000
namespace K11
open PySem PySem.Spec PyProof.Rows L2 Ev
def topS (i : Nat) : Stmt := PySem.Challenge.pw_onefacers_k11_names_lots_whos.main.body.getD i (.Pass ⟨0, 0, 0, 0⟩)
abbrev st_is_whole : Stmt := topS 7
def nn_is_whole : List Str := [(Str.ofString "thing"), (Str.ofString "least"), (Str.ofString "most")]
def ps_is_whole : List Str := [(Str.ofString "thing"), (Str.ofString "least"), (Str.ofString "most")]
def io_is_whole : List Bool := [false, false, false]
def bd_is_whole : ISs := (.cons (.ret (.and (.isi (.var 0) "int") (.and (.not (.isi (.var 0) "bool")) (.cmp2 .LtE .LtE (.var 1) (.var 0) (.var 2))))) .nil)
theorem ck_is_whole : chkSs nn_is_whole (defScope st_is_whole) bd_is_whole (defBody st_is_whole) = true := by decide +kernel
theorem sc_is_whole : FnScope nn_is_whole ps_is_whole (defScope st_is_whole) := ⟨rfl, rfl, rfl, by decide +kernel, rfl, by decide +kernel, by decide +kernel⟩
abbrev st_is_name : Stmt := topS 8
def nn_is_name : List Str := [(Str.ofString "thing"), (Str.ofString "sign")]
def ps_is_name : List Str := [(Str.ofString "thing")]
def io_is_name : List Bool := [false]
def el_is_name_1 : IE := (.cmp .In (.var 1) (.glb (Str.ofString "LETTERS")))
def bd_is_name : ISs := (.cons (.ite (.or (.not (.isi (.var 0) "str")) (.not (.cmp2 .LtE .LtE (.cst (.int 1)) (.bi .len (.cons (.var 0) .nil)) (.glb (Str.ofString "MOST_LETTERS"))))) (.cons (.ret (.cst (.bl false))) .nil) .nil) (.cons (.ret (.bi .all (.cons (.lc el_is_name_1 1 (.var 0) [((Str.ofString "sign"), 1)]) .nil))) .nil))
theorem ck_is_name : chkSs nn_is_name (defScope st_is_name) bd_is_name (defBody st_is_name) = true := by decide +kernel
theorem sc_is_name : FnScope nn_is_name ps_is_name (defScope st_is_name) := ⟨rfl, rfl, rfl, by decide +kernel, rfl, by decide +kernel, by decide +kernel⟩
abbrev st_is_lots : Stmt := topS 9
def nn_is_lots : List Str := [(Str.ofString "thing"), (Str.ofString "free"), (Str.ofString "lot")]
def ps_is_lots : List Str := [(Str.ofString "thing")]
def io_is_lots : List Bool := [false]
def lp_is_lots_1 : ISs := (.cons (.ite (.not (.call (Str.ofString "is_whole") (.cons (.var 2) (.cons (.cst (.int 0)) (.cons (.var 1) .nil))))) (.cons (.ret (.cst (.bl false))) .nil) .nil) (.cons (.set 1 (.bi .max (.cons (.var 1) (.cons (.bin .Add (.var 2) (.cst (.int 1))) .nil)))) .nil))
def bd_is_lots : ISs := (.cons (.ite (.or (.not (.isi (.var 0) "tuple")) (.cmp .Gt (.bi .len (.cons (.var 0) .nil)) (.glb (Str.ofString "MOST_HANDS")))) (.cons (.ret (.cst (.bl false))) .nil) .nil) (.cons (.set 1 (.cst (.int 0))) (.cons (.forV 2 (.var 0) lp_is_lots_1) (.cons (.ret (.cst (.bl true))) .nil))))
theorem ck_is_lots : chkSs nn_is_lots (defScope st_is_lots) bd_is_lots (defBody st_is_lots) = true := by decide +kernel
theorem sc_is_lots : FnScope nn_is_lots ps_is_lots (defScope st_is_lots) := ⟨rfl, rfl, rfl, by decide +kernel, rfl, by decide +kernel, by decide +kernel⟩
abbrev st_is_who : Stmt := topS 10
def nn_is_who : List Str := [(Str.ofString "thing"), (Str.ofString "place")]
def ps_is_who : List Str := [(Str.ofString "thing")]
def io_is_who : List Bool := [false]
def el_is_who_1 : IE := (.call (Str.ofString "is_whole") (.cons (.var 1) (.cons (.cst (.int 0)) (.cons (.glb (Str.ofString "MOST_PLACE")) .nil))))
def bd_is_who : ISs := (.cons (.ite (.or (.not (.isi (.var 0) "tuple")) (.or (.cmp .Eq (.var 0) (.tup .nil)) (.not (.call (Str.ofString "is_name") (.cons (.idx (.var 0) (.cst (.int 0))) .nil))))) (.cons (.ret (.cst (.bl false))) .nil) .nil) (.cons (.ret (.bi .all (.cons (.lc el_is_who_1 1 (.slcL (.var 0) (.cst (.int 1))) [((Str.ofString "place"), 1)]) .nil))) .nil))
theorem ck_is_who : chkSs nn_is_who (defScope st_is_who) bd_is_who (defBody st_is_who) = true := by decide +kernel
theorem sc_is_who : FnScope nn_is_who ps_is_who (defScope st_is_who) := ⟨rfl, rfl, rfl, by decide +kernel, rfl, by decide +kernel, by decide +kernel⟩
abbrev st__law_pot : Stmt := topS 12
def nn__law_pot : List Str := [(Str.ofString "_law_script"), (Str.ofString "_law_k"), (Str.ofString "_law_cell")]
def ps__law_pot : List Str := [(Str.ofString "_law_script"), (Str.ofString "_law_k")]
def io__law_pot : List Bool := [false, false]
def bd__law_pot : ISs := (.cons (.set 2 (.ite (.cmp .Lt (.var 1) (.bi .len (.cons (.var 0) .nil))) (.idx (.var 0) (.var 1)) (.cst (.int 0)))) (.cons (.ret (.lst (.cons (.bi .max (.cons (.cst (.int 0)) (.cons (.bin .Sub (.var 2) (.bin .Pow (.cst (.int 10)) (.cst (.int 18)))) .nil))) (.cons (.bin .Mod (.bin .Add (.bin .Mult (.bin .Mod (.var 2) (.cst (.int 2147483563))) (.cst (.int 40692))) (.bin .Mult (.cst (.int 30011)) (.bin .Add (.var 1) (.cst (.int 1))))) (.cst (.int 2147483399))) .nil)))) .nil))
theorem ck__law_pot : chkSs nn__law_pot (defScope st__law_pot) bd__law_pot (defBody st__law_pot) = true := by decide +kernel
theorem sc__law_pot : FnScope nn__law_pot ps__law_pot (defScope st__law_pot) := ⟨rfl, rfl, rfl, by decide +kernel, rfl, by decide +kernel, by decide +kernel⟩
-- _law_take: statement Assign(targets=[Subscript(value=Name(id='_law_pot_here', ctx=Load()), slice=Constant(value=1), ctx=S
abbrev st__law_label : Stmt := topS 14
def nn__law_label : List Str := [(Str.ofString "_law_pot_here"), (Str.ofString "_law_used"), (Str.ofString "_law_letters"), (Str.ofString "_law_size"), (Str.ofString "_law_name"), (Str.ofString "_law_some"), (Str.ofString "_law_k"), (Str.ofString "_law_one")]
def ps__law_label : List Str := [(Str.ofString "_law_pot_here"), (Str.ofString "_law_used")]
def io__law_label : List Bool := [true, true]
def el__law_label_1 : IE := (.var 7)
def cd__law_label_1 : IE := (.cmp .NotIn (.var 7) (.var 1))
def el__law_label_2 : IE := (.bin .Add (.var 7) (.slcR (.var 4) (.cst (.int 7))))
def el__law_label_3 : IE := (.bin .Add (.bin .Add (.var 7) (.var 7)) (.slcR (.var 4) (.cst (.int 6))))
def el__law_label_4 : IE := (.idx (.var 2) (.call (Str.ofString "_law_take") (.cons (.var 0) (.cons (.cst (.int 26)) .nil))))
def rc__law_label_1 : IE := (.lcR el__law_label_4 6 (.var 3) [((Str.ofString "_law_k"), 6)])
def bd__law_label : ISs := (.cons (.set 2 (.cst (.str (Str.ofString "abcdefghijklmnopqrstuvwxyz")))) (.cons (.set 3 (.idx (.lst (.cons (.cst (.int 1)) (.cons (.cst (.int 1)) (.cons (.cst (.int 2)) (.cons (.cst (.int 8)) (.cons (.bin .Add (.cst (.int 1)) (.call (Str.ofString "_law_take") (.cons (.var 0) (.cons (.cst (.int 8)) .nil)))) .nil)))))) (.call (Str.ofString "_law_take") (.cons (.var 0) (.cons (.cst (.int 5)) .nil))))) (.cons (.set 4 (.join (.cst (.str (Str.ofString ""))) rc__law_label_1)) (.cons (.set 5 (.bin .Add (.bin .Add (.lst (.cons (.var 4) .nil)) (.lc el__law_label_2 7 (.var 2) [((Str.ofString "_law_one"), 7)])) (.lc el__law_label_3 7 (.var 2) [((Str.ofString "_law_one"), 7)]))) (.cons (.set 4 (.idx (.lcI el__law_label_1 7 (.var 5) cd__law_label_1 [((Str.ofString "_law_one"), 7)]) (.cst (.int 0)))) (.cons (.app 1 (.var 4)) (.cons (.ret (.var 4)) .nil)))))))
theorem ck__law_label : chkSs nn__law_label (defScope st__law_label) bd__law_label (defBody st__law_label) = true := by decide +kernel
theorem sc__law_label : FnScope nn__law_label ps__law_label (defScope st__law_label) := ⟨rfl, rfl, rfl, by decide +kernel, rfl, by decide +kernel, by decide +kernel⟩
abbrev st__law_lots : Stmt := topS 15
def nn__law_lots : List Str := [(Str.ofString "_law_pot_here"), (Str.ofString "_law_many"), (Str.ofString "_law_found"), (Str.ofString "_law_k")]
def ps__law_lots : List Str := [(Str.ofString "_law_pot_here"), (Str.ofString "_law_many")]
def io__law_lots : List Bool := [true, false]
def lp__law_lots_1 : ISs := (.cons (.app 2 (.call (Str.ofString "_law_take") (.cons (.var 0) (.cons (.bin .Add (.bi .max (.cons (.bin .Add (.var 2) (.lst (.cons (.neg (.cst (.int 1))) .nil))) .nil)) (.cst (.int 2))) .nil)))) .nil)
def rl__law_lots_1 : IS := (.forR 3 (.var 1) lp__law_lots_1)
def bd__law_lots : ISs := (.cons (.set 2 (.lst .nil)) (.cons rl__law_lots_1 (.cons (.ret (.bi .tuple (.cons (.var 2) .nil))) .nil)))
theorem ck__law_lots : chkSs nn__law_lots (defScope st__law_lots) bd__law_lots (defBody st__law_lots) = true := by decide +kernel
theorem sc__law_lots : FnScope nn__law_lots ps__law_lots (defScope st__law_lots) := ⟨rfl, rfl, rfl, by decide +kernel, rfl, by decide +kernel, by decide +kernel⟩
abbrev st__law_odd : Stmt := topS 16
def nn__law_odd : List Str := [(Str.ofString "_law_pot_here"), (Str.ofString "_law_some")]
def ps__law_odd : List Str := [(Str.ofString "_law_pot_here")]
def io__law_odd : List Bool := [true]
def bd__law_odd : ISs := (.cons (.set 1 (.lst (.cons (.cst .non) (.cons (.cst (.int 0)) (.cons (.cst (.bl false)) (.cons (.cst (.bl true)) (.cons (.cst (.int 1)) (.cons (.neg (.cst (.int 1))) (.cons (.cst (.int 7)) (.cons (.cst (.str (Str.ofString ""))) (.cons (.cst (.str (Str.ofString "A"))) (.cons (.cst (.str (Str.ofString "a b"))) (.cons (.cst (.str (Str.ofString "a1"))) (.cons (.cst (.str (Str.ofString "abcdefghi"))) (.cons (.cst (.str (Str.ofString "a"))) (.cons (.tup .nil) (.cons (.lst .nil) (.cons .dic0 (.cons (.tup (.cons (.cst (.int 0)) .nil)) (.cons (.lst (.cons (.cst (.int 0)) .nil)) (.cons (.tup (.cons (.cst (.str (Str.ofString "a"))) .nil)) .nil))))))))))))))))))))) (.cons (.set 1 (.bin .Add (.var 1) (.lst (.cons (.lst (.cons (.cst (.str (Str.ofString "a"))) .nil)) (.cons (.tup (.cons (.tup .nil) .nil)) (.cons (.tup (.cons (.cst .non) .nil)) (.cons (.tup (.cons (.cst (.str (Str.ofString "a"))) (.cons (.cst (.int 1)) .nil))) (.cons (.tup (.cons (.cst (.str (Str.ofString "a"))) (.cons (.cst (.int 12)) .nil))) (.cons (.tup (.cons (.cst (.str (Str.ofString "a"))) (.cons (.neg (.cst (.int 1))) .nil))) (.cons (.tup (.cons (.cst (.str (Str.ofString "A"))) .nil)) (.cons (.tup (.cons (.cst (.str (Str.ofString "a"))) (.cons (.cst (.bl true)) .nil))) (.cons (.dic1 (.cst (.str (Str.ofString "a"))) (.tup .nil)) .nil)))))))))))) (.cons (.ret (.idx (.var 1) (.call (Str.ofString "_law_take") (.cons (.var 0) (.cons (.cst (.int 28)) .nil))))) .nil)))
theorem ck__law_odd : chkSs nn__law_odd (defScope st__law_odd) bd__law_odd (defBody st__law_odd) = true := by decide +kernel
theorem sc__law_odd : FnScope nn__law_odd ps__law_odd (defScope st__law_odd) := ⟨rfl, rfl, rfl, by decide +kernel, rfl, by decide +kernel, by decide +kernel⟩
abbrev st__law_is_label : Stmt := topS 17
def nn__law_is_label : List Str := [(Str.ofString "_law_thing"), (Str.ofString "_law_sign")]
def ps__law_is_label : List Str := [(Str.ofString "_law_thing")]
def io__law_is_label : List Bool := [false]
def el__law_is_label_1 : IE := (.var 1)
def cd__law_is_label_1 : IE := (.cmp .NotIn (.var 1) (.cst (.str (Str.ofString "abcdefghijklmnopqrstuvwxyz"))))
def bd__law_is_label : ISs := (.cons (.ite (.or (.not (.isi (.var 0) "str")) (.not (.cmp2 .Lt .Lt (.cst (.int 0)) (.bi .len (.cons (.var 0) .nil)) (.cst (.int 9))))) (.cons (.ret (.cst (.bl false))) .nil) .nil) (.cons (.ret (.cmp .Eq (.lcI el__law_is_label_1 1 (.var 0) cd__law_is_label_1 [((Str.ofString "_law_sign"), 1)]) (.lst .nil))) .nil))
theorem ck__law_is_label : chkSs nn__law_is_label (defScope st__law_is_label) bd__law_is_label (defBody st__law_is_label) = true := by decide +kernel
theorem sc__law_is_label : FnScope nn__law_is_label ps__law_is_label (defScope st__law_is_label) := ⟨rfl, rfl, rfl, by decide +kernel, rfl, by decide +kernel, by decide +kernel⟩
abbrev st__law_is_whole : Stmt := topS 18
def nn__law_is_whole : List Str := [(Str.ofString "_law_thing"), (Str.ofString "_law_low"), (Str.ofString "_law_high")]
def ps__law_is_whole : List Str := [(Str.ofString "_law_thing"), (Str.ofString "_law_low"), (Str.ofString "_law_high")]
def io__law_is_whole : List Bool := [false, false, false]
def bd__law_is_whole : ISs := (.cons (.ret (.and (.isi (.var 0) "int") (.and (.not (.isi (.var 0) "bool")) (.cmp2 .LtE .LtE (.var 1) (.var 0) (.var 2))))) .nil)
theorem ck__law_is_whole : chkSs nn__law_is_whole (defScope st__law_is_whole) bd__law_is_whole (defBody st__law_is_whole) = true := by decide +kernel
theorem sc__law_is_whole : FnScope nn__law_is_whole ps__law_is_whole (defScope st__law_is_whole) := ⟨rfl, rfl, rfl, by decide +kernel, rfl, by decide +kernel, by decide +kernel⟩
abbrev st__law_are_lots : Stmt := topS 19
def nn__law_are_lots : List Str := [(Str.ofString "_law_thing"), (Str.ofString "_law_k"), (Str.ofString "_law_one")]
def ps__law_are_lots : List Str := [(Str.ofString "_law_thing")]
def io__law_are_lots : List Bool := [false]
def el__law_are_lots_1 : IE := (.cmp .LtE (.idx (.var 0) (.var 1)) (.bin .Add (.bi .max (.cons (.bin .Add (.lst (.cons (.neg (.cst (.int 1))) .nil)) (.bi .list (.cons (.slcR (.var 0) (.var 1)) .nil))) .nil)) (.cst (.int 1))))
def el__law_are_lots_2 : IE := (.call (Str.ofString "_law_is_whole") (.cons (.var 2) (.cons (.cst (.int 0)) (.cons (.cst (.int 5)) .nil))))
def rc__law_are_lots_1 : IE := (.lcR el__law_are_lots_1 1 (.bi .len (.cons (.var 0) .nil)) [((Str.ofString "_law_k"), 1)])
def bd__law_are_lots : ISs := (.cons (.ite (.or (.not (.isi (.var 0) "tuple")) (.or (.cmp .Gt (.bi .len (.cons (.var 0) .nil)) (.cst (.int 6))) (.not (.bi .all (.cons (.lc el__law_are_lots_2 2 (.var 0) [((Str.ofString "_law_one"), 2)]) .nil))))) (.cons (.ret (.cst (.bl false))) .nil) .nil) (.cons (.ret (.bi .all (.cons rc__law_are_lots_1 .nil))) .nil))
theorem ck__law_are_lots : chkSs nn__law_are_lots (defScope st__law_are_lots) bd__law_are_lots (defBody st__law_are_lots) = true := by decide +kernel
theorem sc__law_are_lots : FnScope nn__law_are_lots ps__law_are_lots (defScope st__law_are_lots) := ⟨rfl, rfl, rfl, by decide +kernel, rfl, by decide +kernel, by decide +kernel⟩
abbrev st__law_is_path : Stmt := topS 20
def nn__law_is_path : List Str := [(Str.ofString "_law_thing"), (Str.ofString "_law_place")]
def ps__law_is_path : List Str := [(Str.ofString "_law_thing")]
def io__law_is_path : List Bool := [false]
def el__law_is_path_1 : IE := (.call (Str.ofString "_law_is_whole") (.cons (.var 1) (.cons (.cst (.int 0)) (.cons (.cst (.int 11)) .nil))))
def bd__law_is_path : ISs := (.cons (.ite (.or (.not (.isi (.var 0) "tuple")) (.or (.cmp .Lt (.bi .len (.cons (.var 0) .nil)) (.cst (.int 1))) (.not (.call (Str.ofString "_law_is_label") (.cons (.idx (.var 0) (.cst (.int 0))) .nil))))) (.cons (.ret (.cst (.bl false))) .nil) .nil) (.cons (.ret (.bi .all (.cons (.lc el__law_is_path_1 1 (.slcL (.var 0) (.cst (.int 1))) [((Str.ofString "_law_place"), 1)]) .nil))) .nil))
theorem ck__law_is_path : chkSs nn__law_is_path (defScope st__law_is_path) bd__law_is_path (defBody st__law_is_path) = true := by decide +kernel
theorem sc__law_is_path : FnScope nn__law_is_path ps__law_is_path (defScope st__law_is_path) := ⟨rfl, rfl, rfl, by decide +kernel, rfl, by decide +kernel, by decide +kernel⟩
abbrev st__law_path : Stmt := topS 21
def nn__law_path : List Str := [(Str.ofString "_law_pot_here"), (Str.ofString "_law_k")]
def ps__law_path : List Str := [(Str.ofString "_law_pot_here")]
def io__law_path : List Bool := [true]
def el__law_path_1 : IE := (.call (Str.ofString "_law_take") (.cons (.var 0) (.cons (.cst (.int 12)) .nil)))
def rc__law_path_1 : IE := (.lcR el__law_path_1 1 (.call (Str.ofString "_law_take") (.cons (.var 0) (.cons (.cst (.int 10)) .nil))) [((Str.ofString "_law_k"), 1)])
def bd__law_path : ISs := (.cons (.ret (.bi .tuple (.cons (.bin .Add (.lst (.cons (.call (Str.ofString "_law_label") (.cons (.var 0) (.cons (.lst .nil) .nil))) .nil)) rc__law_path_1) .nil))) .nil)
theorem ck__law_path : chkSs nn__law_path (defScope st__law_path) bd__law_path (defBody st__law_path) = true := by decide +kernel
theorem sc__law_path : FnScope nn__law_path ps__law_path (defScope st__law_path) := ⟨rfl, rfl, rfl, by decide +kernel, rfl, by decide +kernel, by decide +kernel⟩
abbrev st__law_spoilt : Stmt := topS 22
def nn__law_spoilt : List Str := [(Str.ofString "_law_pot_here"), (Str.ofString "_law_thing"), (Str.ofString "_law_at"), (Str.ofString "_law_far"), (Str.ofString "_law_way"), (Str.ofString "_law_odd_here")]
def ps__law_spoilt : List Str := [(Str.ofString "_law_pot_here"), (Str.ofString "_law_thing")]
def io__law_spoilt : List Bool := [true, false]
def bd__law_spoilt : ISs := (.cons (.par [4, 5] (.cons (.call (Str.ofString "_law_take") (.cons (.var 0) (.cons (.cst (.int 8)) .nil))) (.cons (.call (Str.ofString "_law_odd") (.cons (.var 0) .nil)) .nil))) (.cons (.set 2 (.call (Str.ofString "_law_take") (.cons (.var 0) (.cons (.bin .Add (.bi .len (.cons (.var 1) .nil)) (.cst (.int 1))) .nil)))) (.cons (.set 3 (.idx (.lst (.cons (.cst (.int 12)) (.cons (.cst (.int 11)) (.cons (.cst (.int 6)) (.cons (.cst (.int 7)) (.cons (.neg (.cst (.int 1))) (.cons (.bin .Pow (.cst (.int 10)) (.cst (.int 20))) (.cons (.neg (.bin .Pow (.cst (.int 10)) (.cst (.int 20)))) (.cons (.cst (.int 2)) .nil))))))))) (.call (Str.ofString "_law_take") (.cons (.var 0) (.cons (.cst (.int 8)) .nil))))) (.cons (.ite (.cmp .Eq (.var 4) (.cst (.int 0))) (.cons (.ret (.bin .Add (.bin .Add (.slcR (.var 1) (.var 2)) (.tup (.cons (.var 5) .nil))) (.slcL (.var 1) (.bin .Add (.var 2) (.cst (.int 1)))))) .nil) .nil) (.cons (.ite (.cmp .Eq (.var 4) (.cst (.int 1))) (.cons (.ret (.bin .Add (.bin .Add (.slcR (.var 1) (.var 2)) (.tup (.cons (.var 3) .nil))) (.slcL (.var 1) (.bin .Add (.var 2) (.cst (.int 1)))))) .nil) .nil) (.cons (.ite (.cmp .Eq (.var 4) (.cst (.int 2))) (.cons (.ret (.bin .Add (.bin .Add (.slcR (.var 1) (.var 2)) (.tup (.cons (.var 3) .nil))) (.slcL (.var 1) (.var 2)))) .nil) .nil) (.cons (.ret (.idx (.lst (.cons (.bi .list (.cons (.var 1) .nil)) (.cons (.slcL (.var 1) (.cst (.int 1))) (.cons (.bin .Add (.var 1) (.var 1)) (.cons (.tup (.cons (.var 1) .nil)) (.cons (.var 5) .nil)))))) (.bin .Sub (.var 4) (.cst (.int 3))))) .nil)))))))
theorem ck__law_spoilt : chkSs nn__law_spoilt (defScope st__law_spoilt) bd__law_spoilt (defBody st__law_spoilt) = true := by decide +kernel
theorem sc__law_spoilt : FnScope nn__law_spoilt ps__law_spoilt (defScope st__law_spoilt) := ⟨rfl, rfl, rfl, by decide +kernel, rfl, by decide +kernel, by decide +kernel⟩
abbrev st__law_near : Stmt := topS 23
def nn__law_near : List Str := [(Str.ofString "_law_pot_here"), (Str.ofString "_law_name"), (Str.ofString "_law_some")]
def ps__law_near : List Str := [(Str.ofString "_law_pot_here"), (Str.ofString "_law_name")]
def io__law_near : List Bool := [true, false]
def bd__law_near : ISs := (.cons (.set 2 (.lst (.cons (.bin .Add (.var 1) (.bin .Mult (.cst (.str (Str.ofString "a"))) (.cst (.int 8)))) (.cons (.bin .Add (.var 1) (.cst (.str (Str.ofString " ")))) (.cons (.upper (.var 1)) (.cons (.bin .Add (.cst (.str (Str.ofString "1"))) (.var 1)) (.cons (.slcL (.var 1) (.cst (.int 1))) (.cons (.lst (.cons (.var 1) .nil)) (.cons (.tup (.cons (.var 1) .nil)) (.cons (.bin .Add (.var 1) (.var 1)) (.cons (.bin .Add (.var 1) (.cst (.str (Str.ofString "\n")))) .nil))))))))))) (.cons (.ret (.bin .Add (.var 2) (.lst (.cons (.dic1 (.var 1) (.tup .nil)) (.cons (.call (Str.ofString "_law_odd") (.cons (.var 0) .nil)) .nil))))) .nil))
theorem ck__law_near : chkSs nn__law_near (defScope st__law_near) bd__law_near (defBody st__law_near) = true := by decide +kernel
theorem sc__law_near : FnScope nn__law_near ps__law_near (defScope st__law_near) := ⟨rfl, rfl, rfl, by decide +kernel, rfl, by decide +kernel, by decide +kernel⟩
abbrev st__law_judged : Stmt := topS 24
def nn__law_judged : List Str := [(Str.ofString "_law_thing")]
def ps__law_judged : List Str := [(Str.ofString "_law_thing")]
def io__law_judged : List Bool := [false]
def bd__law_judged : ISs := (.cons (.ret (.bi .repr (.cons (.lst (.cons (.call (Str.ofString "_law_is_label") (.cons (.var 0) .nil)) (.cons (.call (Str.ofString "_law_are_lots") (.cons (.var 0) .nil)) (.cons (.call (Str.ofString "_law_is_path") (.cons (.var 0) .nil)) .nil)))) .nil))) .nil)
theorem ck__law_judged : chkSs nn__law_judged (defScope st__law_judged) bd__law_judged (defBody st__law_judged) = true := by decide +kernel
theorem sc__law_judged : FnScope nn__law_judged ps__law_judged (defScope st__law_judged) := ⟨rfl, rfl, rfl, by decide +kernel, rfl, by decide +kernel, by decide +kernel⟩
abbrev st__law_right : Stmt := topS 25
def nn__law_right : List Str := [(Str.ofString "_law_thing"), (Str.ofString "_law_kept"), (Str.ofString "_law_turn")]
def ps__law_right : List Str := [(Str.ofString "_law_thing")]
def io__law_right : List Bool := [false]
def lp__law_right_1 : ISs := (.cons (.ite (.cmp .NotEq (.bi .repr (.cons (.lst (.cons (.call (Str.ofString "is_name") (.cons (.var 0) .nil)) (.cons (.call (Str.ofString "is_lots") (.cons (.var 0) .nil)) (.cons (.call (Str.ofString "is_who") (.cons (.var 0) .nil)) .nil)))) .nil)) (.call (Str.ofString "_law_judged") (.cons (.var 0) .nil))) (.cons (.ret (.cst (.bl false))) .nil) .nil) .nil)
def rl__law_right_1 : IS := (.forR 2 (.cst (.int 2)) lp__law_right_1)
def bd__law_right : ISs := (.cons (.set 1 (.bi .repr (.cons (.var 0) .nil))) (.cons rl__law_right_1 (.cons (.ret (.cmp .Eq (.bi .repr (.cons (.var 0) .nil)) (.var 1))) .nil)))
theorem ck__law_right : chkSs nn__law_right (defScope st__law_right) bd__law_right (defBody st__law_right) = true := by decide +kernel
theorem sc__law_right : FnScope nn__law_right ps__law_right (defScope st__law_right) := ⟨rfl, rfl, rfl, by decide +kernel, rfl, by decide +kernel, by decide +kernel⟩
abbrev st_law : Stmt := topS 26
def nn_law : List Str := [(Str.ofString "_law_script"), (Str.ofString "_law_k"), (Str.ofString "_law_pot_here"), (Str.ofString "_law_some"), (Str.ofString "_law_name"), (Str.ofString "_law_lots_here"), (Str.ofString "_law_path_here"), (Str.ofString "_law_thing")]
def ps_law : List Str := [(Str.ofString "_law_script")]
def io_law : List Bool := [false]
def el_law_1 : IE := (.call (Str.ofString "_law_right") (.cons (.var 7) .nil))
def lp_law_1 : ISs := (.cons (.set 2 (.call (Str.ofString "_law_pot") (.cons (.var 0) (.cons (.var 1) .nil)))) (.cons (.par [4, 5, 6] (.cons (.call (Str.ofString "_law_label") (.cons (.var 2) (.cons (.lst .nil) .nil))) (.cons (.call (Str.ofString "_law_lots") (.cons (.var 2) (.cons (.call (Str.ofString "_law_take") (.cons (.var 2) (.cons (.cst (.int 7)) .nil))) .nil))) (.cons (.call (Str.ofString "_law_path") (.cons (.var 2) .nil)) .nil)))) (.cons (.set 3 (.bin .Add (.lst (.cons (.var 4) (.cons (.var 5) (.cons (.var 6) (.cons (.call (Str.ofString "_law_spoilt") (.cons (.var 2) (.cons (.var 5) .nil))) (.cons (.call (Str.ofString "_law_spoilt") (.cons (.var 2) (.cons (.var 6) .nil))) (.cons (.call (Str.ofString "_law_odd") (.cons (.var 2) .nil)) .nil))))))) (.call (Str.ofString "_law_near") (.cons (.var 2) (.cons (.var 4) .nil))))) (.cons (.ite (.not (.bi .all (.cons (.lc el_law_1 7 (.var 3) [((Str.ofString "_law_thing"), 7)]) .nil))) (.cons (.ret (.cst (.bl false))) .nil) .nil) .nil))))
def rl_law_1 : IS := (.forR 1 (.bi .max (.cons (.cst (.int 1)) (.cons (.bi .min (.cons (.cst (.int 8)) (.cons (.bi .len (.cons (.var 0) .nil)) .nil))) .nil))) lp_law_1)
def bd_law : ISs := (.cons (.ite (.cmp .NotEq (.lst (.cons (.glb (Str.ofString "FACE")) (.cons (.glb (Str.ofString "MOST_KINDS")) (.cons (.glb (Str.ofString "MOST_HANDS")) .nil)))) (.lst (.cons (.cst (.int 0)) (.cons (.cst (.int 12)) (.cons (.cst (.int 6)) .nil))))) (.cons (.ret (.cst (.bl false))) .nil) .nil) (.cons rl_law_1 (.cons (.ret (.cst (.bl true))) .nil)))
theorem ck_law : chkSs nn_law (defScope st_law) bd_law (defBody st_law) = true := by decide +kernel
theorem sc_law : FnScope nn_law ps_law (defScope st_law) := ⟨rfl, rfl, rfl, by decide +kernel, rfl, by decide +kernel, by decide +kernel⟩
abbrev st__law_take : Stmt := topS 13
theorem sc__law_take : FnScope ["_law_pot_here", "_law_much", "_law_digit"] ["_law_pot_here", "_law_much"] (defScope st__law_take) := ⟨rfl, rfl, rfl, by decide +kernel, rfl, by decide +kernel, by decide +kernel⟩
theorem ok_take {P : Program} {w : World} {K : PySem.W.Frag} {mg : Str → Option Value} {base : Heap} {k : Nat} {f : Addr} {fd : FuncData} (F : Fun K "_law_take" "_law_take" st__law_take f fd) (md : mg "divmod" = none) :
    FnG P w K mg base (k + 1) f fd ["_law_pot_here", "_law_much"] (spD K takeFI) := by
  refine fnG_of F sc__law_take (fun vs H Q h => ?_) fun cdv A outer s H vs Q hr hg h => ?_
  · obtain ⟨ds, d, new, outs, _, a, _⟩ := h
    exact (argsR_len a).1
  · obtain ⟨ds, d, new, outs, hrun, a, nd, post⟩ := h
    obtain ⟨a0, b0, m0, rfl, hm, rfl, rfl, rfl⟩ := take_run hrun
    obtain ⟨v0, v1, rfl⟩ : ∃ v0 v1, vs = [v0, v1] := by
      have := (argsR_len a).1
      match vs, this with
      | [x, y], _ => exact ⟨x, y, rfl⟩
    obtain ⟨⟨p, rfl, ws, ds', e1, hp, l⟩, i1, _⟩ := a
    cases e1
    cases i1
    cases l with
    | cons q1 l =>
      cases q1
      cases l with
      | cons q2 l =>
        cases q2
        cases l
        refine ⟨_, pss_cons (ps_if (pt_cmpR op_gt (pe_ix ix_list (pv 0) pe_int (fun _ _ => rfl)) pe_int (nomark _))
          (pss_cons (ps_asg (pe_callB call_divmod (by rfl) md (by decide +kernel) (pa_cons (pe_ix ix_list (pv 0) pe_int (fun _ _ => rfl)) (pa_cons (pv 1) pa_nil))) (pg_tup rfl (pgs_cons (pg_sub (pv 0) pe_int set_list) (pgs_cons (pg_name (i := 2) sc__law_take.nd rfl (.inl rfl)) pgs_nil))))
          (pss_one (ps_ret (pv 2)))) pss_nil)
          (pss_cons (ps_asg (pe_op op_mod (pe_op op_add (pe_op op_mul (pe_ix ix_list (pv 0) pe_int (fun _ _ => rfl)) pe_int) pe_int) pe_int) (pg_sub (pv 0) pe_int set_list))
          (pss_one (ps_ret (pe_op op_mod (pe_op op_fdiv (pe_op op_mod (pe_op op_mul (pe_ix ix_list (pv 0) pe_int (fun _ _ => rfl)) (pe_ix ix_list (pv 0) pe_int (fun _ _ => rfl))) pe_int) pe_int) (pv 1))))), ?_⟩
        have sq : SqL K H p [.int a0, .int b0] := .inl (.inl hp)
        refine ⟨.ref p, rfl, p, _, 0, .int a0, rfl, rfl, sq, rfl, a0, 0, rfl, rfl, _, rfl, ite2 (fun c => ?_) (fun c => ?_)⟩
        · have c := of_decide_eq_true c
          refine ⟨.ref p, rfl, p, _, 0, .int a0, rfl, rfl, sq, rfl, .int m0, rfl, a0, m0, rfl, hm, fun q hq => ?_⟩
          have hp1 : upd H q (.tup [.int (a0 / m0), .int (a0 % m0)]) p = some (.lst [.int a0, .int b0]) := by rw [upd_ne (ne_of_none hp hq)]; exact hp
          refine ⟨q, _, rfl, .inl (.inl upd_same), rfl, _, _, rfl, ?_⟩
          refine ⟨.ref p, rfl, p, _, 0, 0, rfl, rfl, hp1, rfl, _, _, rfl, rfl, ?_⟩
          refine ⟨_, rfl, post _ _ ⟨fun b o hb hn => ?_, ?_, ⟨⟨_, _, rfl, upd_same, ?_⟩, trivial⟩, ?_⟩⟩
          · have hn' : b ≠ p := fun z => hn (by rw [z]; exact List.mem_cons_self)
            rw [upd_ne hn', upd_ne (ne_of_none hb hq)]; exact hb
          · exact (FrzLe.new hq).trans (FrzLe.mut hp1 rfl)
          · show IsL K _ _ [.int (takeN a0 b0 m0).2.1, .int (takeN a0 b0 m0).2.2]
            unfold takeN
            rw [if_pos c]
            exact .cons (.int _) (.cons (.int _) .nil)
          · show Is K _ _ (.int (takeN a0 b0 m0).1)
            unfold takeN
            rw [if_pos c]
            exact .int _
        · have c : ¬ 0 < a0 := fun z => c (decide_eq_true z)
          refine ⟨.ref p, rfl, p, _, 1, .int b0, rfl, rfl, sq, rfl, b0, 40014, rfl, rfl, .inr ⟨by decide, by decide⟩, _, 12211, rfl, rfl, _, 2147483563, rfl, rfl, by show (0 : Int) < 2147483563; decide, ?_⟩
          refine ⟨.ref p, rfl, p, _, 1, 1, rfl, rfl, hp, rfl, ?_⟩
          have hc0 : 0 ≤ (b0 * 40014 + 12211) % 2147483563 := Int.emod_nonneg _ (by decide)
          have hc1 : (b0 * 40014 + 12211) % 2147483563 < 2147483563 := Int.emod_lt_of_pos _ (by decide)
          have sq2 : SqL K (upd H p (.lst [.int a0, .int ((b0 * 40014 + 12211) % 2147483563)])) p [.int a0, .int ((b0 * 40014 + 12211) % 2147483563)] := .inl (.inl upd_same)
          refine ⟨.ref p, rfl, p, _, 1, .int ((b0 * 40014 + 12211) % 2147483563), rfl, rfl, sq2, rfl, .ref p, rfl, p, _, 1, .int ((b0 * 40014 + 12211) % 2147483563), rfl, rfl, sq2, rfl, _, _, rfl, rfl, .inl ⟨?_, ?_⟩, _, 2147483399, rfl, rfl, by show (0 : Int) < 2147483399; decide, _, 11, rfl, rfl, ⟨by decide, by decide⟩, .int m0, rfl, _, m0, rfl, rfl, hm.1, ?_⟩
          · have : (-(2 ^ 64) : Int) < 0 := by decide
            omega
          · have : (2147483563 : Int) < 2 ^ 64 := by decide
            omega
          refine post _ _ ⟨fun b o hb hn => ?_, FrzLe.mut hp rfl, ⟨⟨_, _, rfl, upd_same, ?_⟩, trivial⟩, ?_⟩
          · rw [upd_ne (fun z => hn (by rw [z]; exact List.mem_cons_self))]; exact hb
          · show IsL K _ _ [.int (takeN a0 b0 m0).2.1, .int (takeN a0 b0 m0).2.2]
            unfold takeN
            rw [if_neg c]
            exact .cons (.int _) (.cons (.int _) .nil)
          · show Is K _ _ (.int (takeN a0 b0 m0).1)
            unfold takeN
            rw [if_neg c]
            exact .int _
end K11
set_option Elab.async false
set_option linter.all false
set_option maxRecDepth 100000
set_option maxHeartbeats 8000000
namespace K11
open PySem Ev
def T_0 : Tab where
  con := fun x => if x = (Str.ofString "FACE") then some (.int 0) else if x = (Str.ofString "MOST_KINDS") then some (.int 12) else if x = (Str.ofString "MOST_HANDS") then some (.int 6) else if x = (Str.ofString "MOST_LETTERS") then some (.int 8) else if x = (Str.ofString "MOST_PLACE") then some (.int 11) else if x = (Str.ofString "LETTERS") then some (.str (Str.ofString "abcdefghijklmnopqrstuvwxyz")) else none
  fn := fun _ => none
def fi_is_whole : FI := FI.of T_0 nn_is_whole.length io_is_whole bd_is_whole
def T_1 : Tab := T_0.add (Str.ofString "is_whole") fi_is_whole
def fi_is_name : FI := FI.of T_1 nn_is_name.length io_is_name bd_is_name
def T_2 : Tab := T_1.add (Str.ofString "is_name") fi_is_name
def fi_is_lots : FI := FI.of T_2 nn_is_lots.length io_is_lots bd_is_lots
def T_3 : Tab := T_2.add (Str.ofString "is_lots") fi_is_lots
def fi_is_who : FI := FI.of T_3 nn_is_who.length io_is_who bd_is_who
def T_4 : Tab := T_3.add (Str.ofString "is_who") fi_is_who
def fi__law_pot : FI := FI.of T_4 nn__law_pot.length io__law_pot bd__law_pot
def T_5 : Tab := T_4.add (Str.ofString "_law_pot") fi__law_pot
abbrev fi__law_take : FI := takeFI
def T_6 : Tab := T_5.add (Str.ofString "_law_take") fi__law_take
def fi__law_label : FI := FI.of T_6 nn__law_label.length io__law_label bd__law_label
def T_7 : Tab := T_6.add (Str.ofString "_law_label") fi__law_label
def fi__law_lots : FI := FI.of T_7 nn__law_lots.length io__law_lots bd__law_lots
def T_8 : Tab := T_7.add (Str.ofString "_law_lots") fi__law_lots
def fi__law_odd : FI := FI.of T_8 nn__law_odd.length io__law_odd bd__law_odd
def T_9 : Tab := T_8.add (Str.ofString "_law_odd") fi__law_odd
def fi__law_is_label : FI := FI.of T_9 nn__law_is_label.length io__law_is_label bd__law_is_label
def T_10 : Tab := T_9.add (Str.ofString "_law_is_label") fi__law_is_label
def fi__law_is_whole : FI := FI.of T_10 nn__law_is_whole.length io__law_is_whole bd__law_is_whole
def T_11 : Tab := T_10.add (Str.ofString "_law_is_whole") fi__law_is_whole
def fi__law_are_lots : FI := FI.of T_11 nn__law_are_lots.length io__law_are_lots bd__law_are_lots
def T_12 : Tab := T_11.add (Str.ofString "_law_are_lots") fi__law_are_lots
def fi__law_is_path : FI := FI.of T_12 nn__law_is_path.length io__law_is_path bd__law_is_path
def T_13 : Tab := T_12.add (Str.ofString "_law_is_path") fi__law_is_path
def fi__law_path : FI := FI.of T_13 nn__law_path.length io__law_path bd__law_path
def T_14 : Tab := T_13.add (Str.ofString "_law_path") fi__law_path
def fi__law_spoilt : FI := FI.of T_14 nn__law_spoilt.length io__law_spoilt bd__law_spoilt
def T_15 : Tab := T_14.add (Str.ofString "_law_spoilt") fi__law_spoilt
def fi__law_near : FI := FI.of T_15 nn__law_near.length io__law_near bd__law_near
def T_16 : Tab := T_15.add (Str.ofString "_law_near") fi__law_near
def fi__law_judged : FI := FI.of T_16 nn__law_judged.length io__law_judged bd__law_judged
def T_17 : Tab := T_16.add (Str.ofString "_law_judged") fi__law_judged
def fi__law_right : FI := FI.of T_17 nn__law_right.length io__law_right bd__law_right
def T_18 : Tab := T_17.add (Str.ofString "_law_right") fi__law_right
def fi_law : FI := FI.of T_18 nn_law.length io_law bd_law
def T_19 : Tab := T_18.add (Str.ofString "law") fi_law
theorem tc_is_name_MOST_LETTERS : T_1.con (Str.ofString "MOST_LETTERS") = some (.int 8) := rfl
theorem tc_is_name_LETTERS : T_1.con (Str.ofString "LETTERS") = some (.str (Str.ofString "abcdefghijklmnopqrstuvwxyz")) := rfl
theorem tl_is_lots_is_whole : T_2.fn (Str.ofString "is_whole") = some fi_is_whole := rfl
theorem tc_is_lots_MOST_HANDS : T_2.con (Str.ofString "MOST_HANDS") = some (.int 6) := rfl
theorem tl_is_who_is_name : T_3.fn (Str.ofString "is_name") = some fi_is_name := rfl
theorem tl_is_who_is_whole : T_3.fn (Str.ofString "is_whole") = some fi_is_whole := rfl
theorem tc_is_who_MOST_PLACE : T_3.con (Str.ofString "MOST_PLACE") = some (.int 11) := rfl
theorem tl__law_label__law_take : T_6.fn (Str.ofString "_law_take") = some fi__law_take := rfl
theorem tl__law_lots__law_take : T_7.fn (Str.ofString "_law_take") = some fi__law_take := rfl
theorem tl__law_odd__law_take : T_8.fn (Str.ofString "_law_take") = some fi__law_take := rfl
theorem tl__law_are_lots__law_is_whole : T_11.fn (Str.ofString "_law_is_whole") = some fi__law_is_whole := rfl
theorem tl__law_is_path__law_is_label : T_12.fn (Str.ofString "_law_is_label") = some fi__law_is_label := rfl
theorem tl__law_is_path__law_is_whole : T_12.fn (Str.ofString "_law_is_whole") = some fi__law_is_whole := rfl
theorem tl__law_path__law_label : T_13.fn (Str.ofString "_law_label") = some fi__law_label := rfl
theorem tl__law_path__law_take : T_13.fn (Str.ofString "_law_take") = some fi__law_take := rfl
theorem tl__law_spoilt__law_take : T_14.fn (Str.ofString "_law_take") = some fi__law_take := rfl
theorem tl__law_spoilt__law_odd : T_14.fn (Str.ofString "_law_odd") = some fi__law_odd := rfl
theorem tl__law_near__law_odd : T_15.fn (Str.ofString "_law_odd") = some fi__law_odd := rfl
theorem tl__law_judged__law_is_label : T_16.fn (Str.ofString "_law_is_label") = some fi__law_is_label := rfl
theorem tl__law_judged__law_are_lots : T_16.fn (Str.ofString "_law_are_lots") = some fi__law_are_lots := rfl
theorem tl__law_judged__law_is_path : T_16.fn (Str.ofString "_law_is_path") = some fi__law_is_path := rfl
theorem tl__law_right__law_judged : T_17.fn (Str.ofString "_law_judged") = some fi__law_judged := rfl
theorem tl__law_right_is_name : T_17.fn (Str.ofString "is_name") = some fi_is_name := rfl
theorem tl__law_right_is_lots : T_17.fn (Str.ofString "is_lots") = some fi_is_lots := rfl
theorem tl__law_right_is_who : T_17.fn (Str.ofString "is_who") = some fi_is_who := rfl
theorem tl_law__law_pot : T_18.fn (Str.ofString "_law_pot") = some fi__law_pot := rfl
theorem tl_law__law_label : T_18.fn (Str.ofString "_law_label") = some fi__law_label := rfl
theorem tl_law__law_lots : T_18.fn (Str.ofString "_law_lots") = some fi__law_lots := rfl
theorem tl_law__law_path : T_18.fn (Str.ofString "_law_path") = some fi__law_path := rfl
theorem tl_law__law_near : T_18.fn (Str.ofString "_law_near") = some fi__law_near := rfl
theorem tl_law__law_take : T_18.fn (Str.ofString "_law_take") = some fi__law_take := rfl
theorem tl_law__law_spoilt : T_18.fn (Str.ofString "_law_spoilt") = some fi__law_spoilt := rfl
theorem tl_law__law_odd : T_18.fn (Str.ofString "_law_odd") = some fi__law_odd := rfl
theorem tl_law__law_right : T_18.fn (Str.ofString "_law_right") = some fi__law_right := rfl
theorem tc_law_FACE : T_18.con (Str.ofString "FACE") = some (.int 0) := rfl
theorem tc_law_MOST_KINDS : T_18.con (Str.ofString "MOST_KINDS") = some (.int 12) := rfl
theorem tc_law_MOST_HANDS : T_18.con (Str.ofString "MOST_HANDS") = some (.int 6) := rfl
theorem fio_is_whole : fi_is_whole.io = [false, false, false] := rfl
theorem fio_is_name : fi_is_name.io = [false] := rfl
theorem fio_is_lots : fi_is_lots.io = [false] := rfl
theorem fio_is_who : fi_is_who.io = [false] := rfl
theorem fio__law_pot : fi__law_pot.io = [false, false] := rfl
theorem fio__law_take : fi__law_take.io = [true, false] := rfl
theorem fio__law_label : fi__law_label.io = [true, true] := rfl
theorem fio__law_lots : fi__law_lots.io = [true, false] := rfl
theorem fio__law_odd : fi__law_odd.io = [true] := rfl
theorem fio__law_is_label : fi__law_is_label.io = [false] := rfl
theorem fio__law_is_whole : fi__law_is_whole.io = [false, false, false] := rfl
theorem fio__law_are_lots : fi__law_are_lots.io = [false] := rfl
theorem fio__law_is_path : fi__law_is_path.io = [false] := rfl
theorem fio__law_path : fi__law_path.io = [true] := rfl
theorem fio__law_spoilt : fi__law_spoilt.io = [true, false] := rfl
theorem fio__law_near : fi__law_near.io = [true, false] := rfl
theorem fio__law_judged : fi__law_judged.io = [false] := rfl
theorem fio__law_right : fi__law_right.io = [false] := rfl
theorem fio_law : fi_law.io = [false] := rfl
end K11
set_option Elab.async false
set_option linter.all false
set_option maxRecDepth 100000
set_option maxHeartbeats 4000000
namespace K11
open PySem Ev
def isWhole (d : Dat) (lo hi : Int) : Bool := match d with
  | .int i => decide (lo ≤ i) && decide (i ≤ hi)
  | _ => false
theorem run_is_whole (d : Dat) (lo hi : Int) : fi_is_whole.run [d, .int lo, .int hi] = .ok (.bl (isWhole d lo hi), false, []) := by
  cases d with
  | int i =>
    by_cases c : lo ≤ i
    · simp [fi_is_whole, bd_is_whole, io_is_whole, nn_is_whole, isWhole, c, Ev.execs, Ev.exec, Ev.ev, Ev.evs, Ev.evArgs, Ev.bindOk, Ev.ofOs, Ev.env0, Ev.ioIx, Ev.outsOf, Ev.Dat.isa, Ev.isaN, Ev.tys6, Ev.Dat.tyn, Ev.cmpD, Ev.intsD, Ev.binD, Ev.ioSlot, Ev.readArgs, Ev.putBack, Ev.slotsOf, Ev.now, Ev.keep, Ev.store, Ev.storeAll, Ev.idxD, Ev.biD, Ev.sm, Ev.FI.of, Ev.turns, Ev.oneOf, Ev.oneIf, Ev.wipeE, Ev.comp, Ev.calmAt, Ev.put, Ev.loop, Ev.turnOf, Ev.items, Ev.slcD]
    · simp [fi_is_whole, bd_is_whole, io_is_whole, nn_is_whole, isWhole, c, Ev.execs, Ev.exec, Ev.ev, Ev.evs, Ev.evArgs, Ev.bindOk, Ev.ofOs, Ev.env0, Ev.ioIx, Ev.outsOf, Ev.Dat.isa, Ev.isaN, Ev.tys6, Ev.Dat.tyn, Ev.cmpD, Ev.intsD, Ev.binD, Ev.ioSlot, Ev.readArgs, Ev.putBack, Ev.slotsOf, Ev.now, Ev.keep, Ev.store, Ev.storeAll, Ev.idxD, Ev.biD, Ev.sm, Ev.FI.of, Ev.turns, Ev.oneOf, Ev.oneIf, Ev.wipeE, Ev.comp, Ev.calmAt, Ev.put, Ev.loop, Ev.turnOf, Ev.items, Ev.slcD]
  | _ => simp [fi_is_whole, bd_is_whole, io_is_whole, nn_is_whole, isWhole, Ev.execs, Ev.exec, Ev.ev, Ev.evs, Ev.evArgs, Ev.bindOk, Ev.ofOs, Ev.env0, Ev.ioIx, Ev.outsOf, Ev.Dat.isa, Ev.isaN, Ev.tys6, Ev.Dat.tyn, Ev.cmpD, Ev.intsD, Ev.binD, Ev.ioSlot, Ev.readArgs, Ev.putBack, Ev.slotsOf, Ev.now, Ev.keep, Ev.store, Ev.storeAll, Ev.idxD, Ev.biD, Ev.sm, Ev.FI.of, Ev.turns, Ev.oneOf, Ev.oneIf, Ev.wipeE, Ev.comp, Ev.calmAt, Ev.put, Ev.loop, Ev.turnOf, Ev.items, Ev.slcD]
theorem run_law_is_whole (d : Dat) (lo hi : Int) : fi__law_is_whole.run [d, .int lo, .int hi] = .ok (.bl (isWhole d lo hi), false, []) := by
  cases d with
  | int i =>
    by_cases c : lo ≤ i
    · simp [fi__law_is_whole, bd__law_is_whole, io__law_is_whole, nn__law_is_whole, isWhole, c, Ev.execs, Ev.exec, Ev.ev, Ev.evs, Ev.evArgs, Ev.bindOk, Ev.ofOs, Ev.env0, Ev.ioIx, Ev.outsOf, Ev.Dat.isa, Ev.isaN, Ev.tys6, Ev.Dat.tyn, Ev.cmpD, Ev.intsD, Ev.binD, Ev.ioSlot, Ev.readArgs, Ev.putBack, Ev.slotsOf, Ev.now, Ev.keep, Ev.store, Ev.storeAll, Ev.idxD, Ev.biD, Ev.sm, Ev.FI.of, Ev.turns, Ev.oneOf, Ev.oneIf, Ev.wipeE, Ev.comp, Ev.calmAt, Ev.put, Ev.loop, Ev.turnOf, Ev.items, Ev.slcD]
    · simp [fi__law_is_whole, bd__law_is_whole, io__law_is_whole, nn__law_is_whole, isWhole, c, Ev.execs, Ev.exec, Ev.ev, Ev.evs, Ev.evArgs, Ev.bindOk, Ev.ofOs, Ev.env0, Ev.ioIx, Ev.outsOf, Ev.Dat.isa, Ev.isaN, Ev.tys6, Ev.Dat.tyn, Ev.cmpD, Ev.intsD, Ev.binD, Ev.ioSlot, Ev.readArgs, Ev.putBack, Ev.slotsOf, Ev.now, Ev.keep, Ev.store, Ev.storeAll, Ev.idxD, Ev.biD, Ev.sm, Ev.FI.of, Ev.turns, Ev.oneOf, Ev.oneIf, Ev.wipeE, Ev.comp, Ev.calmAt, Ev.put, Ev.loop, Ev.turnOf, Ev.items, Ev.slcD]
  | _ => simp [fi__law_is_whole, bd__law_is_whole, io__law_is_whole, nn__law_is_whole, isWhole, Ev.execs, Ev.exec, Ev.ev, Ev.evs, Ev.evArgs, Ev.bindOk, Ev.ofOs, Ev.env0, Ev.ioIx, Ev.outsOf, Ev.Dat.isa, Ev.isaN, Ev.tys6, Ev.Dat.tyn, Ev.cmpD, Ev.intsD, Ev.binD, Ev.ioSlot, Ev.readArgs, Ev.putBack, Ev.slotsOf, Ev.now, Ev.keep, Ev.store, Ev.storeAll, Ev.idxD, Ev.biD, Ev.sm, Ev.FI.of, Ev.turns, Ev.oneOf, Ev.oneIf, Ev.wipeE, Ev.comp, Ev.calmAt, Ev.put, Ev.loop, Ev.turnOf, Ev.items, Ev.slcD]
end K11
set_option Elab.async false
set_option linter.all false
set_option maxRecDepth 100000
set_option maxHeartbeats 4000000
namespace K11
open PySem Ev
abbrev LET : Str := Str.ofString "abcdefghijklmnopqrstuvwxyz"
def sgn (c : Nat) : Dat := .str ⟨#[c]⟩
def isName (d : Dat) : Bool := match d with
  | .str s => decide (1 ≤ s.length) && decide (s.length ≤ 8) && s.cps.toList.all fun c => decide (c ∈ LET.cps.toList)
  | _ => false
theorem bls_map {α : Type} (f : α → Bool) : ∀ xs : List α, bls? (xs.map fun x => Dat.bl (f x)) = some (xs.map f)
  | [] => rfl
  | x :: r => by simp [bls?, bls_map f r]
theorem eqD_lst0 (xs : List Dat) : eqD (.lst xs) (.lst []) = some xs.isEmpty := by
  unfold eqD
  simp only [eqFlat]
  split
  · cases xs <;> simp [Dat.toPy, toPys, PyData.eqv, PyData.eqvAll]
  · rfl
theorem eqD_tup0 (xs : List Dat) : eqD (.tup xs) (.tup []) = some xs.isEmpty := by
  unfold eqD
  simp only [eqFlat]
  split
  · cases xs <;> simp [Dat.toPy, toPys, PyData.eqv, PyData.eqvAll]
  · rfl
theorem inD_sign (c : Nat) (z : Str) : inD (sgn c) (.str z) = some (decide (c ∈ z.cps.toList)) := rfl
theorem name_turns (d : Dat) : ∀ (cs : List Nat) (sl : Slot), ∃ sl', turns (oneOf (ev T_1 el_is_name_1) 1 [1]) (cs.map sgn) [.val d, sl] = .ok (cs.map (fun c => Dat.bl (decide (c ∈ LET.cps.toList))), [.val d, sl'])
  | [], sl => ⟨sl, rfl⟩
  | c :: cs, sl => by
    obtain ⟨sl', h⟩ := name_turns d cs (.val (sgn c))
    have one : oneOf (ev T_1 el_is_name_1) 1 [1] (sgn c) [.val d, sl] = .ok (some (Dat.bl (decide (c ∈ LET.cps.toList))), [.val d, .val (sgn c)]) := by
      simp [oneOf, el_is_name_1, tc_is_name_LETTERS, inD_sign, Ev.execs, Ev.exec, Ev.ev, Ev.evs, Ev.evArgs, Ev.bindOk, Ev.ofOs, Ev.env0, Ev.ioIx, Ev.outsOf, Ev.Dat.isa, Ev.isaN, Ev.tys6, Ev.Dat.tyn, Ev.cmpD, Ev.intsD, Ev.binD, Ev.ioSlot, Ev.readArgs, Ev.putBack, Ev.slotsOf, Ev.now, Ev.keep, Ev.store, Ev.storeAll, Ev.idxD, Ev.biD, Ev.sm, Ev.FI.of, Ev.wipeE, Ev.comp, Ev.calmAt, Ev.put, Ev.items, Ev.slcD]
    refine ⟨sl', ?_⟩
    simp only [List.map_cons, turns, one, bindOk, h, put]
theorem run_is_name (d : Dat) (hs : ∀ s, d = .str s → sm s.length = true) : fi_is_name.run [d] = .ok (.bl (isName d), false, []) := by
  cases d with
  | str s =>
    have h := hs s rfl
    have h' : s.length ≤ 100000 := of_decide_eq_true h
    by_cases c1 : (1 : Int) ≤ (s.length : Int)
    · by_cases c2 : (s.length : Int) ≤ 8
      · obtain ⟨sl', ht⟩ := name_turns (.str s) s.cps.toList .no
        have e : s.cps.toList.map sgn = s.cps.toList.map (fun c => Dat.str ⟨#[c]⟩) := rfl
        rw [e] at ht
        have n1 : 1 ≤ s.length := by omega
        have n2 : s.length ≤ 8 := by omega
        have n3 : s.cps.size ≤ 100000 := h'
        simp [fi_is_name, bd_is_name, io_is_name, nn_is_name, isName, tc_is_name_MOST_LETTERS, c1, c2, h', n1, n2, n3, ht, back, bls_map, Ev.execs, Ev.exec, Ev.ev, Ev.evs, Ev.evArgs, Ev.bindOk, Ev.ofOs, Ev.env0, Ev.ioIx, Ev.outsOf, Ev.Dat.isa, Ev.isaN, Ev.tys6, Ev.Dat.tyn, Ev.cmpD, Ev.intsD, Ev.binD, Ev.ioSlot, Ev.readArgs, Ev.putBack, Ev.slotsOf, Ev.now, Ev.keep, Ev.store, Ev.storeAll, Ev.idxD, Ev.biD, Ev.sm, Ev.FI.of, Ev.wipeE, Ev.comp, Ev.calmAt, Ev.put, Ev.items, Ev.slcD]
      · have n2 : ¬ s.length ≤ 8 := by omega
        simp [fi_is_name, bd_is_name, io_is_name, nn_is_name, isName, tc_is_name_MOST_LETTERS, c1, c2, n2, h', Ev.execs, Ev.exec, Ev.ev, Ev.evs, Ev.evArgs, Ev.bindOk, Ev.ofOs, Ev.env0, Ev.ioIx, Ev.outsOf, Ev.Dat.isa, Ev.isaN, Ev.tys6, Ev.Dat.tyn, Ev.cmpD, Ev.intsD, Ev.binD, Ev.ioSlot, Ev.readArgs, Ev.putBack, Ev.slotsOf, Ev.now, Ev.keep, Ev.store, Ev.storeAll, Ev.idxD, Ev.biD, Ev.sm, Ev.FI.of, Ev.wipeE, Ev.comp, Ev.calmAt, Ev.put, Ev.items, Ev.slcD]
    · have n1 : ¬ 1 ≤ s.length := by omega
      simp [fi_is_name, bd_is_name, io_is_name, nn_is_name, isName, tc_is_name_MOST_LETTERS, c1, n1, h', Ev.execs, Ev.exec, Ev.ev, Ev.evs, Ev.evArgs, Ev.bindOk, Ev.ofOs, Ev.env0, Ev.ioIx, Ev.outsOf, Ev.Dat.isa, Ev.isaN, Ev.tys6, Ev.Dat.tyn, Ev.cmpD, Ev.intsD, Ev.binD, Ev.ioSlot, Ev.readArgs, Ev.putBack, Ev.slotsOf, Ev.now, Ev.keep, Ev.store, Ev.storeAll, Ev.idxD, Ev.biD, Ev.sm, Ev.FI.of, Ev.wipeE, Ev.comp, Ev.calmAt, Ev.put, Ev.items, Ev.slcD]
  | _ => simp [fi_is_name, bd_is_name, io_is_name, nn_is_name, isName, Ev.execs, Ev.exec, Ev.ev, Ev.evs, Ev.evArgs, Ev.bindOk, Ev.ofOs, Ev.env0, Ev.ioIx, Ev.outsOf, Ev.Dat.isa, Ev.isaN, Ev.tys6, Ev.Dat.tyn, Ev.cmpD, Ev.intsD, Ev.binD, Ev.ioSlot, Ev.readArgs, Ev.putBack, Ev.slotsOf, Ev.now, Ev.keep, Ev.store, Ev.storeAll, Ev.idxD, Ev.biD, Ev.sm, Ev.FI.of, Ev.wipeE, Ev.comp, Ev.calmAt, Ev.put, Ev.items, Ev.slcD]
end K11
set_option Elab.async false
set_option linter.all false
set_option maxRecDepth 100000
set_option maxHeartbeats 4000000
namespace K11
open PySem Ev
/-! the law's own look at names -/
theorem lab_turns (d : Dat) : ∀ (cs : List Nat) (sl : Slot), ∃ sl', turns (oneIf (ev T_9 cd__law_is_label_1) (ev T_9 el__law_is_label_1) 1 [1]) (cs.map sgn) [.val d, sl] = .ok ((cs.filter (fun c => !decide (c ∈ LET.cps.toList))).map sgn, [.val d, sl'])
  | [], sl => ⟨sl, rfl⟩
  | c :: cs, sl => by
    obtain ⟨sl', h⟩ := lab_turns d cs (.val (sgn c))
    refine ⟨sl', ?_⟩
    by_cases hc : c ∈ LET.cps.toList
    · have one : oneIf (ev T_9 cd__law_is_label_1) (ev T_9 el__law_is_label_1) 1 [1] (sgn c) [.val d, sl] = .ok (none, [.val d, .val (sgn c)]) := by
        simp [oneIf, cd__law_is_label_1, el__law_is_label_1, inD_sign, hc, Ev.execs, Ev.exec, Ev.ev, Ev.evs, Ev.evArgs, Ev.bindOk, Ev.ofOs, Ev.env0, Ev.ioIx, Ev.outsOf, Ev.Dat.isa, Ev.isaN, Ev.tys6, Ev.Dat.tyn, Ev.cmpD, Ev.intsD, Ev.binD, Ev.ioSlot, Ev.readArgs, Ev.putBack, Ev.slotsOf, Ev.now, Ev.keep, Ev.store, Ev.storeAll, Ev.idxD, Ev.biD, Ev.sm, Ev.FI.of, Ev.wipeE, Ev.comp, Ev.calmAt, Ev.put, Ev.items, Ev.slcD]
      rw [List.filter_cons_of_neg (by simpa using hc)]
      simp only [List.map_cons, turns, one, bindOk, h, put]
    · have one : oneIf (ev T_9 cd__law_is_label_1) (ev T_9 el__law_is_label_1) 1 [1] (sgn c) [.val d, sl] = .ok (some (sgn c), [.val d, .val (sgn c)]) := by
        simp [oneIf, cd__law_is_label_1, el__law_is_label_1, inD_sign, hc, Ev.execs, Ev.exec, Ev.ev, Ev.evs, Ev.evArgs, Ev.bindOk, Ev.ofOs, Ev.env0, Ev.ioIx, Ev.outsOf, Ev.Dat.isa, Ev.isaN, Ev.tys6, Ev.Dat.tyn, Ev.cmpD, Ev.intsD, Ev.binD, Ev.ioSlot, Ev.readArgs, Ev.putBack, Ev.slotsOf, Ev.now, Ev.keep, Ev.store, Ev.storeAll, Ev.idxD, Ev.biD, Ev.sm, Ev.FI.of, Ev.wipeE, Ev.comp, Ev.calmAt, Ev.put, Ev.items, Ev.slcD]
      rw [List.filter_cons_of_pos (by simpa using hc)]
      simp only [List.map_cons, turns, one, bindOk, h, put]
def badSgns (cs : List Nat) : List Dat := (cs.filter (fun c => !decide (c ∈ LET.cps.toList))).map sgn
theorem bad_empty (cs : List Nat) : (badSgns cs).isEmpty = cs.all fun c => decide (c ∈ LET.cps.toList) := by
  unfold badSgns
  induction cs with
  | nil => rfl
  | cons c cs ih =>
    rw [List.all_cons]
    by_cases hc : c ∈ LET.cps.toList
    · rw [List.filter_cons_of_neg (by rw [decide_eq_true hc]; decide), ih, decide_eq_true hc]
      rfl
    · rw [List.filter_cons_of_pos (by rw [decide_eq_false hc]; decide), decide_eq_false hc]
      rfl
theorem run_law_is_label (d : Dat) (hs : ∀ s, d = .str s → sm s.length = true) : fi__law_is_label.run [d] = .ok (.bl (isName d), false, []) := by
  cases d with
  | str s =>
    have h := hs s rfl
    have h' : s.length ≤ 100000 := of_decide_eq_true h
    by_cases c1 : (0 : Int) < (s.length : Int)
    · by_cases c2 : (s.length : Int) < 9
      · obtain ⟨sl', ht⟩ := lab_turns (.str s) s.cps.toList .no
        have e : s.cps.toList.map sgn = s.cps.toList.map (fun c => Dat.str ⟨#[c]⟩) := rfl
        rw [e] at ht
        change turns _ _ _ = .ok (badSgns s.cps.toList, _) at ht
        have n1 : 1 ≤ s.length := by omega
        have n2 : s.length ≤ 8 := by omega
        have n3 : s.cps.size ≤ 100000 := h'
        have n4 : 0 < s.length := by omega
        have n5 : s.length < 9 := by omega
        simp [fi__law_is_label, bd__law_is_label, io__law_is_label, nn__law_is_label, isName, c1, c2, h', n1, n2, n3, n4, n5, ht, back, eqD_lst0, bad_empty, Ev.execs, Ev.exec, Ev.ev, Ev.evs, Ev.evArgs, Ev.bindOk, Ev.ofOs, Ev.env0, Ev.ioIx, Ev.outsOf, Ev.Dat.isa, Ev.isaN, Ev.tys6, Ev.Dat.tyn, Ev.cmpD, Ev.intsD, Ev.binD, Ev.ioSlot, Ev.readArgs, Ev.putBack, Ev.slotsOf, Ev.now, Ev.keep, Ev.store, Ev.storeAll, Ev.idxD, Ev.biD, Ev.sm, Ev.FI.of, Ev.wipeE, Ev.comp, Ev.calmAt, Ev.put, Ev.items, Ev.slcD]
      · have n2 : ¬ s.length ≤ 8 := by omega
        have n5 : ¬ s.length < 9 := by omega
        have n4 : 0 < s.length := by omega
        simp [fi__law_is_label, bd__law_is_label, io__law_is_label, nn__law_is_label, isName, c1, c2, n2, n4, n5, h', Ev.execs, Ev.exec, Ev.ev, Ev.evs, Ev.evArgs, Ev.bindOk, Ev.ofOs, Ev.env0, Ev.ioIx, Ev.outsOf, Ev.Dat.isa, Ev.isaN, Ev.tys6, Ev.Dat.tyn, Ev.cmpD, Ev.intsD, Ev.binD, Ev.ioSlot, Ev.readArgs, Ev.putBack, Ev.slotsOf, Ev.now, Ev.keep, Ev.store, Ev.storeAll, Ev.idxD, Ev.biD, Ev.sm, Ev.FI.of, Ev.wipeE, Ev.comp, Ev.calmAt, Ev.put, Ev.items, Ev.slcD]
    · have n1 : ¬ 1 ≤ s.length := by omega
      have n4 : ¬ 0 < s.length := by omega
      simp [fi__law_is_label, bd__law_is_label, io__law_is_label, nn__law_is_label, isName, c1, n1, n4, h', Ev.execs, Ev.exec, Ev.ev, Ev.evs, Ev.evArgs, Ev.bindOk, Ev.ofOs, Ev.env0, Ev.ioIx, Ev.outsOf, Ev.Dat.isa, Ev.isaN, Ev.tys6, Ev.Dat.tyn, Ev.cmpD, Ev.intsD, Ev.binD, Ev.ioSlot, Ev.readArgs, Ev.putBack, Ev.slotsOf, Ev.now, Ev.keep, Ev.store, Ev.storeAll, Ev.idxD, Ev.biD, Ev.sm, Ev.FI.of, Ev.wipeE, Ev.comp, Ev.calmAt, Ev.put, Ev.items, Ev.slcD]
  | _ => simp [fi__law_is_label, bd__law_is_label, io__law_is_label, nn__law_is_label, isName, Ev.execs, Ev.exec, Ev.ev, Ev.evs, Ev.evArgs, Ev.bindOk, Ev.ofOs, Ev.env0, Ev.ioIx, Ev.outsOf, Ev.Dat.isa, Ev.isaN, Ev.tys6, Ev.Dat.tyn, Ev.cmpD, Ev.intsD, Ev.binD, Ev.ioSlot, Ev.readArgs, Ev.putBack, Ev.slotsOf, Ev.now, Ev.keep, Ev.store, Ev.storeAll, Ev.idxD, Ev.biD, Ev.sm, Ev.FI.of, Ev.wipeE, Ev.comp, Ev.calmAt, Ev.put, Ev.items, Ev.slcD]
/-! lots -/
def lotsGo : Int → List Dat → Bool
  | _, [] => true
  | f, x :: r => isWhole x 0 f && (match x with
    | .int i => lotsGo (if i + 1 > f then i + 1 else f) r
    | _ => false)
def isLots (d : Dat) : Bool := match d with
  | .tup xs => decide (xs.length ≤ 6) && lotsGo 0 xs
  | _ => false
theorem lots_turn_no (d x : Dat) (f : Int) (sl : Slot) (h : isWhole x 0 f = false) : turnOf (Ev.execs T_2 [] lp_is_lots_1) 2 x [.val d, .val (.int f), sl] = .ok (.rt (.bl false) false [.val d, .val (.int f), .val x]) := by
  simp [turnOf, lp_is_lots_1, tl_is_lots_is_whole, fio_is_whole, run_is_whole, h, Ev.execs, Ev.exec, Ev.ev, Ev.evs, Ev.evArgs, Ev.bindOk, Ev.ofOs, Ev.env0, Ev.ioIx, Ev.outsOf, Ev.Dat.isa, Ev.isaN, Ev.tys6, Ev.Dat.tyn, Ev.cmpD, Ev.intsD, Ev.binD, Ev.ioSlot, Ev.readArgs, Ev.putBack, Ev.slotsOf, Ev.now, Ev.keep, Ev.store, Ev.storeAll, Ev.idxD, Ev.biD, Ev.sm, Ev.FI.of, Ev.wipeE, Ev.comp, Ev.calmAt, Ev.put, Ev.items, Ev.slcD]
theorem lots_turn_yes (d : Dat) (i f : Int) (sl : Slot) (h : isWhole (.int i) 0 f = true) : turnOf (Ev.execs T_2 [] lp_is_lots_1) 2 (.int i) [.val d, .val (.int f), sl] = .ok (.nx [.val d, .val (.int (if i + 1 > f then i + 1 else f)), .val (.int i)]) := by
  simp [turnOf, lp_is_lots_1, tl_is_lots_is_whole, fio_is_whole, run_is_whole, h, Ev.execs, Ev.exec, Ev.ev, Ev.evs, Ev.evArgs, Ev.bindOk, Ev.ofOs, Ev.env0, Ev.ioIx, Ev.outsOf, Ev.Dat.isa, Ev.isaN, Ev.tys6, Ev.Dat.tyn, Ev.cmpD, Ev.intsD, Ev.binD, Ev.ioSlot, Ev.readArgs, Ev.putBack, Ev.slotsOf, Ev.now, Ev.keep, Ev.store, Ev.storeAll, Ev.idxD, Ev.biD, Ev.sm, Ev.FI.of, Ev.wipeE, Ev.comp, Ev.calmAt, Ev.put, Ev.items, Ev.slcD]
theorem lots_loop (d : Dat) : ∀ (xs : List Dat) (f : Int) (sl : Slot), (lotsGo f xs = true → ∃ ρ', loop (turnOf (Ev.execs T_2 [] lp_is_lots_1) 2) xs [.val d, .val (.int f), sl] = .ok (.nx ρ')) ∧
    (lotsGo f xs = false → ∃ ρ', loop (turnOf (Ev.execs T_2 [] lp_is_lots_1) 2) xs [.val d, .val (.int f), sl] = .ok (.rt (.bl false) false ρ'))
  | [], f, sl => ⟨fun _ => ⟨_, rfl⟩, fun h => nomatch h⟩
  | x :: r, f, sl => by
    cases hw : isWhole x 0 f with
    | false =>
      have e : lotsGo f (x :: r) = false := by simp [lotsGo, hw]
      rw [e]
      refine ⟨(fun h => nomatch h), fun _ => ⟨[.val d, .val (.int f), .val x], ?_⟩⟩
      simp only [loop, lots_turn_no d x f sl hw, bindOk]
    | true =>
      cases x with
      | int i =>
        have e : lotsGo f (.int i :: r) = lotsGo (if i + 1 > f then i + 1 else f) r := by simp [lotsGo, hw]
        rw [e]
        simp only [loop, lots_turn_yes d i f sl hw, bindOk]
        exact lots_loop d r _ _
      | _ => cases hw
theorem run_is_lots (d : Dat) : fi_is_lots.run [d] = .ok (.bl (isLots d), false, []) := by
  cases d with
  | tup xs =>
    by_cases c : (6 : Int) < (xs.length : Int)
    · have n : ¬ xs.length ≤ 6 := by omega
      simp [fi_is_lots, bd_is_lots, io_is_lots, nn_is_lots, isLots, tc_is_lots_MOST_HANDS, c, n, Ev.execs, Ev.exec, Ev.ev, Ev.evs, Ev.evArgs, Ev.bindOk, Ev.ofOs, Ev.env0, Ev.ioIx, Ev.outsOf, Ev.Dat.isa, Ev.isaN, Ev.tys6, Ev.Dat.tyn, Ev.cmpD, Ev.intsD, Ev.binD, Ev.ioSlot, Ev.readArgs, Ev.putBack, Ev.slotsOf, Ev.now, Ev.keep, Ev.store, Ev.storeAll, Ev.idxD, Ev.biD, Ev.sm, Ev.FI.of, Ev.wipeE, Ev.comp, Ev.calmAt, Ev.put, Ev.items, Ev.slcD]
    · have n : xs.length ≤ 6 := by omega
      obtain ⟨h1, h2⟩ := lots_loop (.tup xs) xs 0 .no
      cases hl : lotsGo 0 xs with
      | true =>
        obtain ⟨ρ', h⟩ := h1 hl
        simp [fi_is_lots, bd_is_lots, io_is_lots, nn_is_lots, isLots, tc_is_lots_MOST_HANDS, c, n, hl, h, Ev.execs, Ev.exec, Ev.ev, Ev.evs, Ev.evArgs, Ev.bindOk, Ev.ofOs, Ev.env0, Ev.ioIx, Ev.outsOf, Ev.Dat.isa, Ev.isaN, Ev.tys6, Ev.Dat.tyn, Ev.cmpD, Ev.intsD, Ev.binD, Ev.ioSlot, Ev.readArgs, Ev.putBack, Ev.slotsOf, Ev.now, Ev.keep, Ev.store, Ev.storeAll, Ev.idxD, Ev.biD, Ev.sm, Ev.FI.of, Ev.wipeE, Ev.comp, Ev.calmAt, Ev.put, Ev.items, Ev.slcD]
      | false =>
        obtain ⟨ρ', h⟩ := h2 hl
        simp [fi_is_lots, bd_is_lots, io_is_lots, nn_is_lots, isLots, tc_is_lots_MOST_HANDS, c, n, hl, h, Ev.execs, Ev.exec, Ev.ev, Ev.evs, Ev.evArgs, Ev.bindOk, Ev.ofOs, Ev.env0, Ev.ioIx, Ev.outsOf, Ev.Dat.isa, Ev.isaN, Ev.tys6, Ev.Dat.tyn, Ev.cmpD, Ev.intsD, Ev.binD, Ev.ioSlot, Ev.readArgs, Ev.putBack, Ev.slotsOf, Ev.now, Ev.keep, Ev.store, Ev.storeAll, Ev.idxD, Ev.biD, Ev.sm, Ev.FI.of, Ev.wipeE, Ev.comp, Ev.calmAt, Ev.put, Ev.items, Ev.slcD]
  | _ => simp [fi_is_lots, bd_is_lots, io_is_lots, nn_is_lots, isLots, Ev.execs, Ev.exec, Ev.ev, Ev.evs, Ev.evArgs, Ev.bindOk, Ev.ofOs, Ev.env0, Ev.ioIx, Ev.outsOf, Ev.Dat.isa, Ev.isaN, Ev.tys6, Ev.Dat.tyn, Ev.cmpD, Ev.intsD, Ev.binD, Ev.ioSlot, Ev.readArgs, Ev.putBack, Ev.slotsOf, Ev.now, Ev.keep, Ev.store, Ev.storeAll, Ev.idxD, Ev.biD, Ev.sm, Ev.FI.of, Ev.wipeE, Ev.comp, Ev.calmAt, Ev.put, Ev.items, Ev.slcD]
end K11
set_option Elab.async false
set_option linter.all false
set_option maxRecDepth 100000
set_option maxHeartbeats 4000000
namespace K11
open PySem Ev
theorem turns_map {f : Dat → DEnv → Res (Option Dat × DEnv)} (g : Dat → Dat) (mk : Slot → DEnv) : ∀ (xs : List Dat) (sl : Slot), (∀ x ∈ xs, ∀ sl, f x (mk sl) = .ok (some (g x), mk (.val x))) → ∃ sl', turns f xs (mk sl) = .ok (xs.map g, mk sl')
  | [], sl, _ => ⟨sl, rfl⟩
  | x :: r, sl, h => by
    obtain ⟨sl', hr⟩ := turns_map g mk r (.val x) fun y hy => h y (List.mem_cons_of_mem _ hy)
    refine ⟨sl', ?_⟩
    simp only [turns, h x List.mem_cons_self sl, bindOk, hr, put, List.map_cons]
def isWho (d : Dat) : Bool := match d with
  | .tup (x :: r) => isName x && r.all fun y => isWhole y 0 11
  | _ => false
theorem cut1 {α : Type} (x : α) (r : List α) : cut (x :: r) (some 1) none = r := by
  simp [cut, HT.sIx]
theorem at0 {α : Type} (x : α) (r : List α) : L2.atI (x :: r) 0 = some x := by
  simp [L2.atI, L2.ixN]
theorem who_turns (d : Dat) (r : List Dat) : ∃ sl', turns (oneOf (ev T_3 el_is_who_1) 1 [1]) r [.val d, .no] = .ok (r.map (fun y => .bl (isWhole y 0 11)), [.val d, sl']) := by
  refine turns_map (fun y => .bl (isWhole y 0 11)) (fun sl => [.val d, sl]) r .no fun y _ sl => ?_
  simp [oneOf, el_is_who_1, tl_is_who_is_whole, fio_is_whole, run_is_whole, tc_is_who_MOST_PLACE, Ev.execs, Ev.exec, Ev.ev, Ev.evs, Ev.evArgs, Ev.bindOk, Ev.ofOs, Ev.env0, Ev.ioIx, Ev.outsOf, Ev.Dat.isa, Ev.isaN, Ev.tys6, Ev.Dat.tyn, Ev.cmpD, Ev.intsD, Ev.binD, Ev.ioSlot, Ev.readArgs, Ev.putBack, Ev.slotsOf, Ev.now, Ev.keep, Ev.store, Ev.storeAll, Ev.idxD, Ev.biD, Ev.sm, Ev.FI.of, Ev.wipeE, Ev.comp, Ev.calmAt, Ev.put, Ev.items, Ev.slcD]
theorem path_turns (d : Dat) (r : List Dat) : ∃ sl', turns (oneOf (ev T_12 el__law_is_path_1) 1 [1]) r [.val d, .no] = .ok (r.map (fun y => .bl (isWhole y 0 11)), [.val d, sl']) := by
  refine turns_map (fun y => .bl (isWhole y 0 11)) (fun sl => [.val d, sl]) r .no fun y _ sl => ?_
  simp [oneOf, el__law_is_path_1, tl__law_is_path__law_is_whole, fio__law_is_whole, run_law_is_whole, Ev.execs, Ev.exec, Ev.ev, Ev.evs, Ev.evArgs, Ev.bindOk, Ev.ofOs, Ev.env0, Ev.ioIx, Ev.outsOf, Ev.Dat.isa, Ev.isaN, Ev.tys6, Ev.Dat.tyn, Ev.cmpD, Ev.intsD, Ev.binD, Ev.ioSlot, Ev.readArgs, Ev.putBack, Ev.slotsOf, Ev.now, Ev.keep, Ev.store, Ev.storeAll, Ev.idxD, Ev.biD, Ev.sm, Ev.FI.of, Ev.wipeE, Ev.comp, Ev.calmAt, Ev.put, Ev.items, Ev.slcD]
def SmD (d : Dat) : Prop := (∀ s, d = .str s → s.length ≤ 1000) ∧ (∀ xs, d = .tup xs → xs.length ≤ 1000) ∧ ∀ s r, d = .tup (.str s :: r) → s.length ≤ 1000
theorem sm_of {n : Nat} (h : n ≤ 1000) : sm n = true := by
  unfold sm
  exact decide_eq_true (by omega)
theorem run_is_who (d : Dat) (hs : SmD d) : fi_is_who.run [d] = .ok (.bl (isWho d), false, []) := by
  cases d with
  | tup xs =>
    cases xs with
    | nil => simp [fi_is_who, bd_is_who, io_is_who, nn_is_who, isWho, eqD_tup0, Ev.execs, Ev.exec, Ev.ev, Ev.evs, Ev.evArgs, Ev.bindOk, Ev.ofOs, Ev.env0, Ev.ioIx, Ev.outsOf, Ev.Dat.isa, Ev.isaN, Ev.tys6, Ev.Dat.tyn, Ev.cmpD, Ev.intsD, Ev.binD, Ev.ioSlot, Ev.readArgs, Ev.putBack, Ev.slotsOf, Ev.now, Ev.keep, Ev.store, Ev.storeAll, Ev.idxD, Ev.biD, Ev.sm, Ev.FI.of, Ev.wipeE, Ev.comp, Ev.calmAt, Ev.put, Ev.items, Ev.slcD]
    | cons x r =>
      have hx := run_is_name x fun s e => sm_of (hs.2.2 s r (by rw [e]))
      cases hn : isName x with
      | false => 
        rw [hn] at hx
        simp [fi_is_who, bd_is_who, io_is_who, nn_is_who, isWho, eqD_tup0, at0, tl_is_who_is_name, fio_is_name, hx, hn, Ev.execs, Ev.exec, Ev.ev, Ev.evs, Ev.evArgs, Ev.bindOk, Ev.ofOs, Ev.env0, Ev.ioIx, Ev.outsOf, Ev.Dat.isa, Ev.isaN, Ev.tys6, Ev.Dat.tyn, Ev.cmpD, Ev.intsD, Ev.binD, Ev.ioSlot, Ev.readArgs, Ev.putBack, Ev.slotsOf, Ev.now, Ev.keep, Ev.store, Ev.storeAll, Ev.idxD, Ev.biD, Ev.sm, Ev.FI.of, Ev.wipeE, Ev.comp, Ev.calmAt, Ev.put, Ev.items, Ev.slcD]
      | true =>
        rw [hn] at hx
        have hr : r.length ≤ 100000 := by
          have := hs.2.1 _ rfl
          simp at this
          omega
        obtain ⟨sl', ht⟩ := who_turns (.tup (x :: r)) r
        simp [fi_is_who, bd_is_who, io_is_who, nn_is_who, isWho, eqD_tup0, at0, tl_is_who_is_name, fio_is_name, hx, hn, cut1, ht, hr, back, bls_map, Ev.execs, Ev.exec, Ev.ev, Ev.evs, Ev.evArgs, Ev.bindOk, Ev.ofOs, Ev.env0, Ev.ioIx, Ev.outsOf, Ev.Dat.isa, Ev.isaN, Ev.tys6, Ev.Dat.tyn, Ev.cmpD, Ev.intsD, Ev.binD, Ev.ioSlot, Ev.readArgs, Ev.putBack, Ev.slotsOf, Ev.now, Ev.keep, Ev.store, Ev.storeAll, Ev.idxD, Ev.biD, Ev.sm, Ev.FI.of, Ev.wipeE, Ev.comp, Ev.calmAt, Ev.put, Ev.items, Ev.slcD]
  | _ => simp [fi_is_who, bd_is_who, io_is_who, nn_is_who, isWho, Ev.execs, Ev.exec, Ev.ev, Ev.evs, Ev.evArgs, Ev.bindOk, Ev.ofOs, Ev.env0, Ev.ioIx, Ev.outsOf, Ev.Dat.isa, Ev.isaN, Ev.tys6, Ev.Dat.tyn, Ev.cmpD, Ev.intsD, Ev.binD, Ev.ioSlot, Ev.readArgs, Ev.putBack, Ev.slotsOf, Ev.now, Ev.keep, Ev.store, Ev.storeAll, Ev.idxD, Ev.biD, Ev.sm, Ev.FI.of, Ev.wipeE, Ev.comp, Ev.calmAt, Ev.put, Ev.items, Ev.slcD]
theorem run_law_is_path (d : Dat) (hs : SmD d) : fi__law_is_path.run [d] = .ok (.bl (isWho d), false, []) := by
  cases d with
  | tup xs =>
    cases xs with
    | nil => simp [fi__law_is_path, bd__law_is_path, io__law_is_path, nn__law_is_path, isWho, Ev.execs, Ev.exec, Ev.ev, Ev.evs, Ev.evArgs, Ev.bindOk, Ev.ofOs, Ev.env0, Ev.ioIx, Ev.outsOf, Ev.Dat.isa, Ev.isaN, Ev.tys6, Ev.Dat.tyn, Ev.cmpD, Ev.intsD, Ev.binD, Ev.ioSlot, Ev.readArgs, Ev.putBack, Ev.slotsOf, Ev.now, Ev.keep, Ev.store, Ev.storeAll, Ev.idxD, Ev.biD, Ev.sm, Ev.FI.of, Ev.wipeE, Ev.comp, Ev.calmAt, Ev.put, Ev.items, Ev.slcD]
    | cons x r =>
      have hx := run_law_is_label x fun s e => sm_of (hs.2.2 s r (by rw [e]))
      have hl : ¬ ((r.length : Int) + 1 < 1) := by omega
      cases hn : isName x with
      | false => 
        rw [hn] at hx
        simp [fi__law_is_path, bd__law_is_path, io__law_is_path, nn__law_is_path, isWho, hl, at0, tl__law_is_path__law_is_label, fio__law_is_label, hx, hn, Ev.execs, Ev.exec, Ev.ev, Ev.evs, Ev.evArgs, Ev.bindOk, Ev.ofOs, Ev.env0, Ev.ioIx, Ev.outsOf, Ev.Dat.isa, Ev.isaN, Ev.tys6, Ev.Dat.tyn, Ev.cmpD, Ev.intsD, Ev.binD, Ev.ioSlot, Ev.readArgs, Ev.putBack, Ev.slotsOf, Ev.now, Ev.keep, Ev.store, Ev.storeAll, Ev.idxD, Ev.biD, Ev.sm, Ev.FI.of, Ev.wipeE, Ev.comp, Ev.calmAt, Ev.put, Ev.items, Ev.slcD]
      | true =>
        rw [hn] at hx
        have hr : r.length ≤ 100000 := by
          have := hs.2.1 _ rfl
          simp at this
          omega
        obtain ⟨sl', ht⟩ := path_turns (.tup (x :: r)) r
        simp [fi__law_is_path, bd__law_is_path, io__law_is_path, nn__law_is_path, isWho, hl, at0, tl__law_is_path__law_is_label, fio__law_is_label, hx, hn, cut1, ht, hr, back, bls_map, Ev.execs, Ev.exec, Ev.ev, Ev.evs, Ev.evArgs, Ev.bindOk, Ev.ofOs, Ev.env0, Ev.ioIx, Ev.outsOf, Ev.Dat.isa, Ev.isaN, Ev.tys6, Ev.Dat.tyn, Ev.cmpD, Ev.intsD, Ev.binD, Ev.ioSlot, Ev.readArgs, Ev.putBack, Ev.slotsOf, Ev.now, Ev.keep, Ev.store, Ev.storeAll, Ev.idxD, Ev.biD, Ev.sm, Ev.FI.of, Ev.wipeE, Ev.comp, Ev.calmAt, Ev.put, Ev.items, Ev.slcD]
  | _ => simp [fi__law_is_path, bd__law_is_path, io__law_is_path, nn__law_is_path, isWho, Ev.execs, Ev.exec, Ev.ev, Ev.evs, Ev.evArgs, Ev.bindOk, Ev.ofOs, Ev.env0, Ev.ioIx, Ev.outsOf, Ev.Dat.isa, Ev.isaN, Ev.tys6, Ev.Dat.tyn, Ev.cmpD, Ev.intsD, Ev.binD, Ev.ioSlot, Ev.readArgs, Ev.putBack, Ev.slotsOf, Ev.now, Ev.keep, Ev.store, Ev.storeAll, Ev.idxD, Ev.biD, Ev.sm, Ev.FI.of, Ev.wipeE, Ev.comp, Ev.calmAt, Ev.put, Ev.items, Ev.slcD]
end K11
set_option Elab.async false
set_option linter.all false
set_option maxRecDepth 100000
set_option maxHeartbeats 4000000
namespace K11
open PySem Ev
theorem sm_lit {n : Nat} (h : n ≤ 1000) : sm n = true := sm_of h
/-! the law's own look at lots -/
def mx (ns : List Int) : Int := ns.foldl (fun a b => if b > a then b else a) (-1)
def di (n : Int) : Dat := .int n
theorem mx_snoc (p : List Int) (i : Int) : mx (p ++ [i]) = if i > mx p then i else mx p := by
  simp [mx, List.foldl_append]
def lotsAll (p : List Int) : List Int → Bool
  | [] => true
  | i :: r => decide (i ≤ mx p + 1) && lotsAll (p ++ [i]) r
theorem lotsGo_all : ∀ (r p : List Int), (∀ i ∈ r, 0 ≤ i) → lotsGo (mx p + 1) (r.map di) = lotsAll p r
  | [], p, _ => rfl
  | i :: r, p, h => by
    have h0 := h i List.mem_cons_self
    have ih := lotsGo_all r (p ++ [i]) fun j hj => h j (List.mem_cons_of_mem _ hj)
    rw [mx_snoc] at ih
    have e : (if i + 1 > mx p + 1 then i + 1 else mx p + 1) = (if i > mx p then i else mx p) + 1 := by
      split <;> split <;> omega
    simp only [List.map_cons, di, lotsGo, isWhole, lotsAll, decide_eq_true h0, Bool.true_and]
    rw [e]
    exact congrArg _ ih
theorem lotsGo_whole : ∀ (xs : List Dat) (f : Int), f + xs.length ≤ 6 → lotsGo f xs = true → xs.all (fun x => isWhole x 0 5) = true
  | [], _, _, _ => rfl
  | x :: r, f, hl, h => by
    cases x with
    | int i =>
      simp only [lotsGo, isWhole, Bool.and_eq_true, decide_eq_true_eq] at h
      obtain ⟨⟨h0, h1⟩, h2⟩ := h
      simp only [List.length_cons] at hl
      have ih := lotsGo_whole r _ (by split <;> omega) h2
      rw [List.all_cons, ih]
      simp [isWhole]
      omega
    | _ => simp [lotsGo, isWhole] at h
theorem wholes : ∀ (xs : List Dat), xs.all (fun x => isWhole x 0 5) = true → ∃ ns : List Int, xs = ns.map di ∧ ∀ i ∈ ns, 0 ≤ i
  | [], _ => ⟨[], rfl, fun _ h => nomatch h⟩
  | x :: r, h => by
    rw [List.all_cons, Bool.and_eq_true] at h
    obtain ⟨ns, e, hn⟩ := wholes r h.2
    cases x with
    | int i =>
      refine ⟨i :: ns, by rw [e]; rfl, ?_⟩
      intro j hj
      have h1 := h.1
      simp only [isWhole, Bool.and_eq_true, decide_eq_true_eq] at h1
      cases hj with
      | head => exact h1.1
      | tail _ hj => exact hn j hj
    | _ => exact absurd h.1 (by simp [isWhole])
theorem ints_di : ∀ ns : List Int, ints? (ns.map di) = some ns
  | [] => rfl
  | i :: r => by simp [ints?, di, ints_di r, show r.map di = r.map di from rfl]
def lotAt (ns : List Int) (k : Nat) : Bool := decide (ns.getD k 0 ≤ mx (ns.take k) + 1)
theorem lotAt_all : ∀ (r p : List Int), ((List.range r.length).map fun k => lotAt (p ++ r) (p.length + k)).all id = lotsAll p r
  | [], p => rfl
  | i :: r, p => by
    have ih := lotAt_all r (p ++ [i])
    rw [List.length_cons, List.range_succ_eq_map, List.map_cons, List.all_cons, List.map_map, lotsAll, ← ih]
    have e0 : lotAt (p ++ i :: r) (p.length + 0) = decide (i ≤ mx p + 1) := by
      simp [lotAt, List.getD]
    rw [e0]
    have e1 : ((fun k => lotAt (p ++ i :: r) (p.length + k)) ∘ Nat.succ) = fun k => lotAt (p ++ [i] ++ r) ((p ++ [i]).length + k) := by
      funext k
      simp only [Function.comp, List.append_assoc, List.length_append, List.length_cons, List.length_nil, List.cons_append, List.nil_append]
      exact congrArg _ (by omega)
    rw [e1]
    rfl
theorem atI_map (ns : List Int) (k : Nat) (h : k < ns.length) : L2.atI (ns.map di) (k : Int) = some (di (ns.getD k 0)) := by
  simp [L2.atI, L2.ixN, h, List.getD]
theorem cutR_map (ns : List Int) (k : Nat) (h : k < ns.length) : cut (ns.map di) none (some (k : Int)) = (ns.take k).map di := by
  have e : min k (ns.map di).length = k := by rw [List.length_map]; omega
  simp only [cut, HT.sIx_nat, HT.sIx_none, List.drop_zero, Nat.sub_zero, e, List.map_take]
theorem all_bls (p : Dat → Bool) (xs : List Dat) : ∃ bs, bls? (xs.map fun y => .bl (p y)) = some bs ∧ bs.all id = xs.all p :=
  ⟨xs.map p, bls_map p xs, by rw [List.all_map]; rfl⟩
theorem lots1_turns (d : Dat) (xs : List Dat) : ∃ ys bs sl', turns (oneOf (ev T_11 el__law_are_lots_2) 2 [2]) xs [.val d, .no, .no] = .ok (ys, [.val d, .no, sl']) ∧ bls? ys = some bs ∧ bs.all id = xs.all (fun x => isWhole x 0 5) := by
  obtain ⟨sl', h⟩ := turns_map (f := oneOf (ev T_11 el__law_are_lots_2) 2 [2]) (fun y => .bl (isWhole y 0 5)) (fun sl => [.val d, .no, sl]) xs .no fun y _ sl => by
    simp [oneOf, el__law_are_lots_2, tl__law_are_lots__law_is_whole, fio__law_is_whole, run_law_is_whole, Ev.execs, Ev.exec, Ev.ev, Ev.evs, Ev.evArgs, Ev.bindOk, Ev.ofOs, Ev.env0, Ev.ioIx, Ev.outsOf, Ev.Dat.isa, Ev.isaN, Ev.tys6, Ev.Dat.tyn, Ev.cmpD, Ev.intsD, Ev.binD, Ev.ioSlot, Ev.readArgs, Ev.putBack, Ev.slotsOf, Ev.now, Ev.keep, Ev.store, Ev.storeAll, Ev.idxD, Ev.biD, Ev.sm, Ev.FI.of, Ev.wipeE, Ev.comp, Ev.calmAt, Ev.put, Ev.items, Ev.slcD]
  obtain ⟨bs, h1, h2⟩ := all_bls (fun x => isWhole x 0 5) xs
  exact ⟨_, bs, sl', h, h1, h2⟩
def lotAtD (ns : List Int) (d : Dat) : Dat := match d with
  | .int k => .bl (lotAt ns k.toNat)
  | _ => .non
theorem lots2_turns (ns : List Int) (hn : ns.length ≤ 6) : ∃ ys bs sl', turns (oneOf (ev T_11 el__law_are_lots_1) 1 [1]) ((List.range ns.length).map fun (k : Nat) => Dat.int (k : Int)) [.val (.tup (ns.map di)), .no, .no] = .ok (ys, [.val (.tup (ns.map di)), sl', .no]) ∧ bls? ys = some bs ∧ bs.all id = ((List.range ns.length).map fun k => lotAt ns k).all id := by
  obtain ⟨sl', h⟩ := turns_map (f := oneOf (ev T_11 el__law_are_lots_1) 1 [1]) (lotAtD ns) (fun sl => [.val (.tup (ns.map di)), sl, .no]) ((List.range ns.length).map fun (k : Nat) => Dat.int (k : Int)) .no fun y hy sl => by
    obtain ⟨k, hk, rfl⟩ := List.mem_map.mp hy
    have hk' := List.mem_range.mp hk
    have hi : ints? (Dat.int (-1) :: List.take k (ns.map di)) = some (-1 :: ns.take k) := by
      rw [← List.map_take]
      exact ints_di (-1 :: ns.take k)
    have hm : 1 + min k ns.length ≤ 100000 := by omega
    have hm' : min k ns.length + 1 ≤ 100000 := by omega
    simp only [oneOf, el__law_are_lots_1, Ev.execs, Ev.exec, Ev.ev, Ev.evs, Ev.evArgs, Ev.bindOk, Ev.ofOs, Ev.env0, Ev.ioIx, Ev.outsOf, Ev.Dat.isa, Ev.isaN, Ev.tys6, Ev.Dat.tyn, Ev.cmpD, Ev.intsD, Ev.binD, Ev.ioSlot, Ev.readArgs, Ev.putBack, Ev.slotsOf, Ev.now, Ev.keep, Ev.store, Ev.storeAll, Ev.idxD, Ev.biD, Ev.sm, Ev.FI.of, Ev.wipeE, Ev.comp, Ev.calmAt, Ev.put, Ev.items, Ev.slcD]
    simp [atI_map ns k hk', cutR_map ns k hk', hi, hm, hm', Ev.execs, Ev.exec, Ev.ev, Ev.evs, Ev.evArgs, Ev.bindOk, Ev.ofOs, Ev.env0, Ev.ioIx, Ev.outsOf, Ev.Dat.isa, Ev.isaN, Ev.tys6, Ev.Dat.tyn, Ev.cmpD, Ev.intsD, Ev.binD, Ev.ioSlot, Ev.readArgs, Ev.putBack, Ev.slotsOf, Ev.now, Ev.keep, Ev.store, Ev.storeAll, Ev.idxD, Ev.biD, Ev.sm, Ev.FI.of, Ev.wipeE, Ev.comp, Ev.calmAt, Ev.put, Ev.items, Ev.slcD, lotAtD, lotAt, di, mx]
  rw [List.map_map] at h
  exact ⟨_, _, sl', h, bls_map (fun k => lotAt ns k) (List.range ns.length), rfl⟩
end K11
set_option Elab.async false
set_option linter.all false
set_option maxRecDepth 100000
set_option maxHeartbeats 4000000
namespace K11
open PySem Ev
theorem lots_far (xs : List Dat) (c : (6 : Int) < (xs.length : Int)) : fi__law_are_lots.run [.tup xs] = .ok (.bl false, false, []) := by
  simp [fi__law_are_lots, bd__law_are_lots, io__law_are_lots, nn__law_are_lots, c, Ev.execs, Ev.exec, Ev.ev, Ev.evs, Ev.evArgs, Ev.bindOk, Ev.ofOs, Ev.env0, Ev.ioIx, Ev.outsOf, Ev.Dat.isa, Ev.isaN, Ev.tys6, Ev.Dat.tyn, Ev.cmpD, Ev.intsD, Ev.binD, Ev.ioSlot, Ev.readArgs, Ev.putBack, Ev.slotsOf, Ev.now, Ev.keep, Ev.store, Ev.storeAll, Ev.idxD, Ev.biD, Ev.sm, Ev.FI.of, Ev.wipeE, Ev.comp, Ev.calmAt, Ev.put, Ev.items, Ev.slcD]
theorem lots_odd (xs : List Dat) (n : xs.length ≤ 6) (hw : xs.all (fun x => isWhole x 0 5) = false) : fi__law_are_lots.run [.tup xs] = .ok (.bl false, false, []) := by
  have c : ¬ (6 : Int) < (xs.length : Int) := by omega
  have n' : xs.length ≤ 100000 := by omega
  obtain ⟨ys, bs, sl', h1, hb, hbe⟩ := lots1_turns (.tup xs) xs
  rw [hw] at hbe
  simp [fi__law_are_lots, bd__law_are_lots, io__law_are_lots, nn__law_are_lots, c, n', h1, back, hb, hbe, Ev.execs, Ev.exec, Ev.ev, Ev.evs, Ev.evArgs, Ev.bindOk, Ev.ofOs, Ev.env0, Ev.ioIx, Ev.outsOf, Ev.Dat.isa, Ev.isaN, Ev.tys6, Ev.Dat.tyn, Ev.cmpD, Ev.intsD, Ev.binD, Ev.ioSlot, Ev.readArgs, Ev.putBack, Ev.slotsOf, Ev.now, Ev.keep, Ev.store, Ev.storeAll, Ev.idxD, Ev.biD, Ev.sm, Ev.FI.of, Ev.wipeE, Ev.comp, Ev.calmAt, Ev.put, Ev.items, Ev.slcD]
theorem lots_hc (ns : List Int) (ys2 : List Dat) (sl2 : Slot) (hn' : ns.length ≤ 100000) (hk : ns.length ≤ 1000) (h2 : turns (oneOf (ev T_11 el__law_are_lots_1) 1 [1]) ((List.range ns.length).map fun (k : Nat) => Dat.int (k : Int)) [.val (.tup (ns.map di)), .no, .no] = .ok (ys2, [.val (.tup (ns.map di)), sl2, .no])) : ev T_11 rc__law_are_lots_1 [.val (.tup (ns.map di)), .no, .no] = .ok (.lst ys2, .fresh, [.val (.tup (ns.map di)), .no, .no]) := by
    unfold rc__law_are_lots_1
    have ha : ev T_11 (.bi .len (.cons (.var 0) .nil)) [.val (.tup (ns.map di)), .no, .no] = .ok (.int (ns.length : Int), .frz, [.val (.tup (ns.map di)), .no, .no]) := by simp [sm_lit, Ev.execs, Ev.exec, Ev.ev, Ev.evs, Ev.evArgs, Ev.bindOk, Ev.ofOs, Ev.env0, Ev.ioIx, Ev.outsOf, Ev.Dat.isa, Ev.isaN, Ev.tys6, Ev.Dat.tyn, Ev.cmpD, Ev.intsD, Ev.binD, Ev.ioSlot, Ev.readArgs, Ev.putBack, Ev.slotsOf, Ev.now, Ev.keep, Ev.store, Ev.storeAll, Ev.idxD, Ev.biD, Ev.FI.of, Ev.wipeE, Ev.comp, Ev.calmAt, Ev.put, Ev.items, Ev.slcD]
    rw [ev_lcR ha hn']
    simp [comp, calmAt, sm_lit, hk, h2, back, bindOk]
theorem lots_A (xs ys : List Dat) (bs : List Bool) (sl' : Slot) (hk : xs.length ≤ 100000) (c' : ¬ (6 : Int) < (xs.length : Int)) (hb : bls? ys = some bs) (hbe : bs.all id = true) (h1 : turns (oneOf (ev T_11 el__law_are_lots_2) 2 [2]) xs [.val (.tup xs), .no, .no] = .ok (ys, [.val (.tup xs), .no, sl'])) :
   ev T_11 (.or (.not (.isi (.var 0) "tuple")) (.or (.cmp .Gt (.bi .len (.cons (.var 0) .nil)) (.cst (.int 6))) (.not (.bi .all (.cons (.lc el__law_are_lots_2 2 (.var 0) [((Str.ofString "_law_one"), 2)]) .nil))))) [.val (.tup xs), .no, .no] = .ok (.bl false, .frz, [.val (.tup xs), .no, .no]) := by
  simp [c', h1, hb, hbe, back, hk, Ev.execs, Ev.exec, Ev.ev, Ev.evs, Ev.evArgs, Ev.bindOk, Ev.ofOs, Ev.env0, Ev.ioIx, Ev.outsOf, Ev.Dat.isa, Ev.isaN, Ev.tys6, Ev.Dat.tyn, Ev.cmpD, Ev.intsD, Ev.binD, Ev.ioSlot, Ev.readArgs, Ev.putBack, Ev.slotsOf, Ev.now, Ev.keep, Ev.store, Ev.storeAll, Ev.idxD, Ev.biD, Ev.sm, Ev.FI.of, Ev.wipeE, Ev.comp, Ev.calmAt, Ev.put, Ev.items, Ev.slcD]
theorem lots_B (xs ys2 : List Dat) (bs2 : List Bool) (hb2 : bls? ys2 = some bs2) 
  (hc : ev T_11 rc__law_are_lots_1 [.val (.tup xs), .no, .no] = .ok (.lst ys2, .fresh, [.val (.tup xs), .no, .no])) : ev T_11 (.bi .all (.cons rc__law_are_lots_1 .nil)) [.val (.tup xs), .no, .no] = .ok (.bl (bs2.all id), .frz, [.val (.tup xs), .no, .no]) := by
  simp [hc, hb2, back, Ev.execs, Ev.exec, Ev.ev, Ev.evs, Ev.evArgs, Ev.bindOk, Ev.ofOs, Ev.env0, Ev.ioIx, Ev.outsOf, Ev.Dat.isa, Ev.isaN, Ev.tys6, Ev.Dat.tyn, Ev.cmpD, Ev.intsD, Ev.binD, Ev.ioSlot, Ev.readArgs, Ev.putBack, Ev.slotsOf, Ev.now, Ev.keep, Ev.store, Ev.storeAll, Ev.idxD, Ev.biD, Ev.sm, Ev.FI.of, Ev.wipeE, Ev.comp, Ev.calmAt, Ev.put, Ev.items, Ev.slcD]
theorem lots_all' (xs ys ys2 : List Dat) (bs bs2 : List Bool) (sl' : Slot) (hk : xs.length ≤ 100000) (c' : ¬ (6 : Int) < (xs.length : Int)) (hb : bls? ys = some bs) (hb2 : bls? ys2 = some bs2) (hbe : bs.all id = true) (h1 : turns (oneOf (ev T_11 el__law_are_lots_2) 2 [2]) xs [.val (.tup xs), .no, .no] = .ok (ys, [.val (.tup xs), .no, sl']))
  (hc : ev T_11 rc__law_are_lots_1 [.val (.tup xs), .no, .no] = .ok (.lst ys2, .fresh, [.val (.tup xs), .no, .no])) : fi__law_are_lots.run [.tup xs] = .ok (.bl (bs2.all id), false, []) := by
  exact rOf (ρ0 := [.val (.tup xs), .no, .no]) rfl rfl ((rIteF (lots_A xs ys bs sl' hk c' hb hbe h1)).trans (rRet (lots_B xs ys2 bs2 hb2 hc))) rfl
theorem lots_all (ns : List Int) (hn : ns.length ≤ 6) (hw : (ns.map di).all (fun x => isWhole x 0 5) = true) : ∃ bs : List Bool, fi__law_are_lots.run [.tup (ns.map di)] = .ok (.bl (bs.all id), false, []) ∧ bs.all id = ((List.range ns.length).map fun k => lotAt ns k).all id := by
  obtain ⟨ys, bs, sl', h1, hb, hbe⟩ := lots1_turns (.tup (ns.map di)) (ns.map di)
  rw [hw] at hbe
  obtain ⟨ys2, bs2, sl2, h2, hb2, hbe2⟩ := lots2_turns ns hn
  refine ⟨bs2, lots_all' (ns.map di) ys ys2 bs bs2 sl' ?_ ?_ hb hb2 hbe h1 (lots_hc ns ys2 sl2 (by omega) (by omega) h2), hbe2⟩
  · rw [List.length_map]; omega
  · rw [List.length_map]; omega
theorem run_law_are_lots (d : Dat) : fi__law_are_lots.run [d] = .ok (.bl (isLots d), false, []) := by
  cases d with
  | tup xs =>
    by_cases n : xs.length ≤ 6
    · cases hw : xs.all (fun x => isWhole x 0 5) with
      | false =>
        have hl : lotsGo 0 xs = false := by
          cases hl : lotsGo 0 xs with
          | false => rfl
          | true => exact absurd (lotsGo_whole xs 0 (by omega) hl) (by rw [hw]; decide)
        rw [lots_odd xs n hw, isLots, hl, Bool.and_false]
      | true =>
        obtain ⟨ns, e, hp⟩ := wholes xs hw
        subst e
        have hn : ns.length ≤ 6 := by simpa using n
        obtain ⟨bs, h1, h2⟩ := lots_all ns hn hw
        have hl : lotsGo 0 (ns.map di) = ((List.range ns.length).map fun k => lotAt ns k).all id := by
          have e1 := lotsGo_all ns [] hp
          have e2 := lotAt_all ns []
          simp only [List.nil_append, List.length_nil, Nat.zero_add] at e2
          rw [e2]
          exact e1
        rw [h1, isLots, hl, h2, decide_eq_true n, Bool.true_and]
    · rw [lots_far xs (by omega), isLots, decide_eq_false n, Bool.false_and]
  | _ => simp [fi__law_are_lots, bd__law_are_lots, io__law_are_lots, nn__law_are_lots, isLots, Ev.execs, Ev.exec, Ev.ev, Ev.evs, Ev.evArgs, Ev.bindOk, Ev.ofOs, Ev.env0, Ev.ioIx, Ev.outsOf, Ev.Dat.isa, Ev.isaN, Ev.tys6, Ev.Dat.tyn, Ev.cmpD, Ev.intsD, Ev.binD, Ev.ioSlot, Ev.readArgs, Ev.putBack, Ev.slotsOf, Ev.now, Ev.keep, Ev.store, Ev.storeAll, Ev.idxD, Ev.biD, Ev.sm, Ev.FI.of, Ev.wipeE, Ev.comp, Ev.calmAt, Ev.put, Ev.items, Ev.slcD]
end K11
set_option Elab.async false
set_option linter.all false
set_option maxRecDepth 100000
set_option maxHeartbeats 4000000
namespace K11
open PySem Ev
def three (d : Dat) : Dat := .lst [.bl (isName d), .bl (isLots d), .bl (isWho d)]
theorem tell3 (a b c : Bool) : (Dat.lst [.bl a, .bl b, .bl c]).tell = true := by
  cases a <;> cases b <;> cases c <;> decide +kernel
theorem smd_str {d : Dat} (h : SmD d) : ∀ s, d = .str s → sm s.length = true := fun s e => sm_of (h.1 s e)
theorem call1 {T : Tab} {f : Str} {fi : FI} {e : IE} {ρ ρ1 : DEnv} {x d : Dat} {new : Bool} (hf : T.fn f = some fi) (hio : fi.io = [false]) (he : ev T e ρ = .ok (x, .frz, ρ1)) (hr : fi.run [x] = .ok (d, new, [])) :
    ev T (.call f (.cons e .nil)) ρ = .ok (d, if new then .fresh else .frz, ρ1) := by
  rw [ev, hf]
  simp only [hio, evArgs, he, bindOk, keep, slotsOf, List.nodup_nil, List.length_cons, List.length_nil, and_self, if_true, readArgs, ofOs, Option.map, hr, putBack]
theorem rep3 {T : Tab} {f g h : IE} {ρ : DEnv} {a b c : Bool} (hf : ev T f ρ = .ok (.bl a, .frz, ρ)) (hg : ev T g ρ = .ok (.bl b, .frz, ρ)) (hh : ev T h ρ = .ok (.bl c, .frz, ρ)) :
    ev T (.bi .repr (.cons (.lst (.cons f (.cons g (.cons h .nil)))) .nil)) ρ = .ok (.str (Dat.lst [.bl a, .bl b, .bl c]).toPy.shown, .frz, ρ) := by
  have ht := tell3 a b c
  have h3 : ev T (.lst (.cons f (.cons g (.cons h .nil)))) ρ = .ok (.lst [.bl a, .bl b, .bl c], .fresh, ρ) := by
    rw [ev]
    simp only [evs, hf, hg, hh, bindOk, keep, List.length_cons, List.length_nil]
    rfl
  rw [ev, h3, bindOk]
  show (ofO (if (Dat.lst [.bl a, .bl b, .bl c]).tell = true then _ else _)).bind _ = _
  rw [if_pos ht]
  rfl
theorem evCmp {T : Tab} {op : CmpOp} {a b : IE} {x y : Dat} {ρ ρ1 ρ2 : DEnv} {k : Mode} {r : Bool} (ha : ev T a ρ = .ok (x, .frz, ρ1)) (hb : ev T b ρ1 = .ok (y, k, ρ2)) (hr : cmpD op x y = some r) :
    ev T (.cmp op a b) ρ = .ok (.bl r, .frz, ρ2) := by
  rw [ev, ha, bindOk]
  simp only [hb, bindOk, now, ofOs, hr]
theorem evVar {T : Tab} {i : Nat} {d : Dat} {ρ : DEnv} (h : ρ[i]? = some (.val d)) : ev T (.var i) ρ = .ok (d, .frz, ρ) := by
  rw [ev, h]
theorem var0 {T : Tab} {d : Dat} {r : DEnv} : ev T (.var 0) (.val d :: r) = .ok (d, .frz, .val d :: r) := by
  rw [ev]
  rfl
def shown3 (d : Dat) : Dat := .str (Dat.lst [.bl (isName d), .bl (isLots d), .bl (isWho d)]).toPy.shown
theorem run_law_judged (d : Dat) (hs : SmD d) : fi__law_judged.run [d] = .ok (shown3 d, false, []) := by
  refine rOf (ρ0 := [.val d]) rfl rfl (rRet (rep3 ?_ ?_ ?_)) rfl
  · exact call1 (tl__law_judged__law_is_label) rfl var0 (run_law_is_label d (smd_str hs))
  · exact call1 (tl__law_judged__law_are_lots) rfl var0 (run_law_are_lots d)
  · exact call1 (tl__law_judged__law_is_path) rfl var0 (run_law_is_path d hs)
theorem right_turn (d k : Dat) (x sl : Slot) (hs : SmD d) : turnOf (Ev.execs T_17 [] lp__law_right_1) 2 k [.val d, x, sl] = .ok (.nx [.val d, x, .val k]) := by
  unfold turnOf
  show execs T_17 [] lp__law_right_1 [.val d, x, .val k] = _
  unfold lp__law_right_1
  have h1 : ev T_17 (.bi .repr (.cons (.lst (.cons (.call (Str.ofString "is_name") (.cons (.var 0) .nil)) (.cons (.call (Str.ofString "is_lots") (.cons (.var 0) .nil)) (.cons (.call (Str.ofString "is_who") (.cons (.var 0) .nil)) .nil)))) .nil)) [.val d, x, .val k] = .ok (shown3 d, .frz, [.val d, x, .val k]) := by
    refine rep3 ?_ ?_ ?_
    · exact call1 (tl__law_right_is_name) rfl var0 (run_is_name d (smd_str hs))
    · exact call1 (tl__law_right_is_lots) rfl var0 (run_is_lots d)
    · exact call1 (tl__law_right_is_who) rfl var0 (run_is_who d hs)
  have h2 : ev T_17 (.call (Str.ofString "_law_judged") (.cons (.var 0) .nil)) [.val d, x, .val k] = .ok (shown3 d, .frz, [.val d, x, .val k]) := call1 (tl__law_right__law_judged) rfl var0 (run_law_judged d hs)
  rw [rIteF (evCmp h1 h2 (by simp only [cmpD, eqFlat, shown3, decide_true, Bool.not_true])), Ev.execs]
theorem run_law_right (d : Dat) (hs : SmD d) (ht : d.tell = true) : fi__law_right.run [d] = .ok (.bl true, false, []) := by
  have hr : ∀ ρ : DEnv, ρ[0]? = some (.val d) → ev T_17 (.bi .repr (.cons (.var 0) .nil)) ρ = .ok (.str d.toPy.shown, .frz, ρ) := by
    intro ρ h
    rw [ev, ev, h]
    simp only [bindOk]
    show (ofO (if d.tell = true then _ else _)).bind _ = _
    rw [if_pos ht]
    rfl
  refine rOf (ρ0 := [.val d, .no, .no]) (ρ := [.val d, .val (.str d.toPy.shown), .val (.int 1)]) rfl rfl ?_ rfl
  unfold bd__law_right
  rw [rSet (by decide) (hr _ rfl)]
  show execs T_17 [] _ [.val d, .val (.str d.toPy.shown), .no] = _
  unfold rl__law_right_1
  rw [rForR (n := 2) (m := .frz) (ρ1 := [.val d, .val (.str d.toPy.shown), .no]) (by decide) (by rw [ev]; rfl) (by decide)]
  have hl : (List.range 2).map (fun (k : Nat) => Dat.int (k : Int)) = [.int 0, .int 1] := rfl
  rw [hl, loop, right_turn d _ _ _ hs, bindOk]
  show ((loop _ [.int 1] [.val d, .val (.str d.toPy.shown), .val (.int 0)]).bind _) = _
  rw [loop, right_turn d _ _ _ hs, bindOk]
  show ((loop _ [] [.val d, .val (.str d.toPy.shown), .val (.int 1)]).bind _) = _
  rw [loop, bindOk]
  refine rRet ?_
  exact evCmp (hr _ rfl) (evVar rfl) (by simp only [cmpD, eqD, eqFlat, decide_true])
end K11
set_option Elab.async false
set_option linter.all false
set_option maxRecDepth 100000
set_option maxHeartbeats 4000000
namespace K11
open PySem Ev
/-! what may be told: bounds that grow by parts -/
structure NiceL (xs : List Dat) (p b : Nat) : Prop where
  sh : PyData.showableAll (toPys xs) = true
  dp : PyData.depthAll (toPys xs) ≤ p
  lv : PyData.leavesShortAll 25 (toPys xs) = true
  bk : PyData.bulkAll (toPys xs) ≤ b
structure Nice (d : Dat) (p b : Nat) : Prop where
  sh : d.toPy.showable = true
  dp : d.toPy.depth ≤ p
  lv : d.toPy.leavesShort 25 = true
  bk : d.toPy.bulk ≤ b
theorem toPys_append : ∀ xs ys : List Dat, toPys (xs ++ ys) = toPys xs ++ toPys ys
  | [], ys => rfl
  | x :: xs, ys => by
    show _ :: toPys (xs ++ ys) = _
    rw [toPys_append xs ys]
    rfl
theorem niceL_nil (p : Nat) : NiceL [] p 0 := ⟨rfl, Nat.zero_le _, rfl, Nat.le_refl _⟩
theorem niceL_cons {x : Dat} {xs : List Dat} {p b c : Nat} (h : Nice x p b) (hs : NiceL xs p c) : NiceL (x :: xs) p (b + 1 + c) := by
  refine ⟨?_, ?_, ?_, ?_⟩
  · simp only [toPys, PyData.showableAll, h.sh, hs.sh, Bool.and_self]
  · have := h.dp
    have := hs.dp
    simp only [toPys, PyData.depthAll]
    omega
  · simp only [toPys, PyData.leavesShortAll, h.lv, hs.lv, Bool.and_self]
  · have := h.bk
    have := hs.bk
    simp only [toPys, PyData.bulkAll]
    omega
theorem niceL_uncons {x : Dat} {xs : List Dat} {p b : Nat} (h : NiceL (x :: xs) p b) : Nice x p b ∧ NiceL xs p b := by
  obtain ⟨h1, h2, h3, h4⟩ := h
  simp only [toPys, PyData.showableAll, PyData.leavesShortAll, Bool.and_eq_true] at h1 h3
  simp only [toPys, PyData.depthAll, PyData.bulkAll] at h2 h4
  exact ⟨⟨h1.1, by omega, h3.1, by omega⟩, ⟨h1.2, by omega, h3.2, by omega⟩⟩
theorem niceL_mono {xs : List Dat} {p b c : Nat} (h : NiceL xs p b) (hc : b ≤ c) : NiceL xs p c := ⟨h.sh, h.dp, h.lv, Nat.le_trans h.bk hc⟩
theorem nice_mono {d : Dat} {p q b c : Nat} (h : Nice d p b) (hp : p ≤ q) (hc : b ≤ c) : Nice d q c := ⟨h.sh, Nat.le_trans h.dp hp, h.lv, Nat.le_trans h.bk hc⟩
theorem niceL_append {p c : Nat} {ys : List Dat} (hy : NiceL ys p c) : ∀ {xs : List Dat} {b : Nat}, NiceL xs p b → NiceL (xs ++ ys) p (b + c)
  | [], b, h => niceL_mono hy (by omega)
  | x :: xs, b, h => by
    obtain ⟨h1, h2, h3, h4⟩ := h
    simp only [toPys, PyData.showableAll, PyData.leavesShortAll, Bool.and_eq_true] at h1 h3
    simp only [toPys, PyData.depthAll, PyData.bulkAll] at h2 h4
    have ih := niceL_append hy (xs := xs) (b := PyData.bulkAll (toPys xs)) ⟨h1.2, by omega, h3.2, Nat.le_refl _⟩
    have hx : Nice x p x.toPy.bulk := ⟨h1.1, by omega, h3.1, Nat.le_refl _⟩
    exact niceL_mono (niceL_cons hx ih) (by omega)
theorem niceL_drop {p b : Nat} : ∀ {xs : List Dat} (n : Nat), NiceL xs p b → NiceL (xs.drop n) p b
  | [], n, h => by rw [List.drop_nil]; exact h
  | x :: xs, 0, h => h
  | x :: xs, n + 1, h => by
    rw [List.drop_succ_cons]
    exact niceL_drop n (niceL_uncons h).2
theorem niceL_take {p : Nat} : ∀ {xs : List Dat} {b : Nat} (n : Nat), NiceL xs p b → NiceL (xs.take n) p b
  | [], b, n, h => by rw [List.take_nil]; exact h
  | x :: xs, b, 0, h => by rw [List.take_zero]; exact niceL_mono (niceL_nil p) (by omega)
  | x :: xs, b, n + 1, h => by
    obtain ⟨h1, h2, h3, h4⟩ := h
    simp only [toPys, PyData.showableAll, PyData.leavesShortAll, Bool.and_eq_true] at h1 h3
    simp only [toPys, PyData.depthAll, PyData.bulkAll] at h2 h4
    have ih := niceL_take (p := p) (xs := xs) (b := PyData.bulkAll (toPys xs)) n ⟨h1.2, by omega, h3.2, Nat.le_refl _⟩
    have hx : Nice x p x.toPy.bulk := ⟨h1.1, by omega, h3.1, Nat.le_refl _⟩
    rw [List.take_succ_cons]
    exact niceL_mono (niceL_cons hx ih) (by omega)
theorem niceL_cut {p b : Nat} {xs : List Dat} (lo hi : Option Int) (h : NiceL xs p b) : NiceL (cut xs lo hi) p b := niceL_take _ (niceL_drop _ h)
theorem nice_tup {p b : Nat} {xs : List Dat} (h : NiceL xs p b) : Nice (.tup xs) (p + 1) b := by
  refine ⟨?_, ?_, ?_, ?_⟩
  · simp only [Dat.toPy, PyData.showable, h.sh]
  · have := h.dp
    simp only [Dat.toPy, PyData.depth]
    omega
  · simp only [Dat.toPy, PyData.leavesShort, h.lv]
  · have := h.bk
    simp only [Dat.toPy, PyData.bulk]
    omega
theorem nice_lst {p b : Nat} {xs : List Dat} (h : NiceL xs p b) : Nice (.lst xs) (p + 1) b := by
  refine ⟨?_, ?_, ?_, ?_⟩
  · simp only [Dat.toPy, PyData.showable, h.sh]
  · have := h.dp
    simp only [Dat.toPy, PyData.depth]
    omega
  · simp only [Dat.toPy, PyData.leavesShort, h.lv]
  · have := h.bk
    simp only [Dat.toPy, PyData.bulk]
    omega
theorem nice_int {i : Int} (h : i.natAbs < 10 ^ 21) : Nice (.int i) 1 0 := by
  refine ⟨?_, ?_, ?_, ?_⟩
  · have h2 : i.natAbs < 2 ^ 1920 := Nat.lt_of_lt_of_le h (by decide +kernel)
    simp only [Dat.toPy, PyData.showable, decide_eq_true_eq]
    by_cases h0 : i.natAbs = 0
    · rw [h0]; decide
    · exact (Nat.log2_lt h0).mpr h2
  · simp only [Dat.toPy, PyData.depth]
    omega
  · have h2 := int_text_length_le10 (k := 21) (by omega) h
    show PyData.leavesShort 25 (.int i) = true
    rw [PyData.leavesShort]
    refine decide_eq_true ?_
    show (Str.ofString (toString i)).length ≤ 25
    rw [ofString_length]
    omega
  · exact Nat.le_refl _
def lowS (s : Str) : Prop := ∀ c ∈ s.cps.toList, c < 128
theorem nice_str {s : Str} (h : lowS s) : Nice (.str s) 1 s.length := by
  refine ⟨rfl, ?_, ?_, Nat.le_refl _⟩
  · simp only [Dat.toPy, PyData.depth]
    omega
  · simp only [Dat.toPy, PyData.leavesShort, List.all_eq_true, decide_eq_true_eq]
    intro c hc
    have := h c hc
    omega
theorem tell_of {d : Dat} {b : Nat} (h : Nice d 40 b) (hb : b ≤ 3000) (hd : d.toPy.hasDict = false ∨ d.noLst = true) : d.tell = true := by
  have h1 := PyData.shown_le_bulk 25 (by omega) d.toPy h.lv
  have h2 := h.bk
  have h3 : sm d.toPy.shown.length = true := decide_eq_true (by omega)
  unfold Dat.tell
  rw [h.sh, decide_eq_true h.dp, h3]
  cases hd with
  | inl hd => rw [hd]; rfl
  | inr hd => rw [hd, Bool.or_true]; rfl
end K11
set_option Elab.async false
set_option linter.all false
set_option maxRecDepth 100000
set_option maxHeartbeats 4000000
namespace K11
open PySem Ev
/-! calls that draw from the pot -/
abbrev pot (a b : Int) : Dat := .lst [.int a, .int b]
theorem take_spec (a b : Int) {m : Int} (hm : 0 < m) : 0 ≤ (takeN a b m).1 ∧ (takeN a b m).1 < m := by
  unfold takeN
  split
  · exact ⟨Int.emod_nonneg _ (by omega), Int.emod_lt_of_pos _ hm⟩
  · exact ⟨Int.emod_nonneg _ (by omega), Int.emod_lt_of_pos _ hm⟩
theorem callP1 {T : Tab} {f : Str} {fi : FI} {i : Nat} {ρ : DEnv} {p d p' : Dat} {new : Bool} (hf : T.fn f = some fi) (hio : fi.io = [true]) (h0 : ρ[i]? = some (.own p)) (hr : fi.run [p] = .ok (d, new, [p'])) :
    ev T (.call f (.cons (.var i) .nil)) ρ = .ok (d, if new then .fresh else .frz, ρ.set i (.own p')) := by
  rw [ev, hf]
  simp only [hio, evArgs, ioSlot, h0, bindOk, slotsOf, List.nodup_cons, List.not_mem_nil, not_false_eq_true, List.nodup_nil, List.length_cons, List.length_nil, and_self, if_true, readArgs, ofOs, Option.map, hr, putBack]
theorem callP2 {T : Tab} {f : Str} {fi : FI} {i : Nat} {e : IE} {ρ ρ1 : DEnv} {p0 p x d p' : Dat} {new : Bool} (hf : T.fn f = some fi) (hio : fi.io = [true, false]) (h0 : ρ[i]? = some (.own p0)) (he : ev T e ρ = .ok (x, .frz, ρ1)) (h1 : ρ1[i]? = some (.own p)) (hr : fi.run [p, x] = .ok (d, new, [p'])) :
    ev T (.call f (.cons (.var i) (.cons e .nil))) ρ = .ok (d, if new then .fresh else .frz, ρ1.set i (.own p')) := by
  rw [ev, hf]
  simp only [hio, evArgs, ioSlot, h0, he, keep, bindOk, slotsOf, List.nodup_cons, List.not_mem_nil, not_false_eq_true, List.nodup_nil, List.length_cons, List.length_nil, and_self, if_true, readArgs, h1, ofOs, Option.map, hr, putBack]
theorem callPT {T : Tab} {f : Str} {fi : FI} {i : Nat} {es : IEs} {ρ : DEnv} {p x d p' x' : Dat} {new : Bool} (hf : T.fn f = some fi) (hio : fi.io = [true, true]) (h0 : ρ[i]? = some (.own p)) (he : ev T (.lst es) ρ = .ok (x, .fresh, ρ)) (hr : fi.run [p, x] = .ok (d, new, [p', x'])) :
    ev T (.call f (.cons (.var i) (.cons (.lst es) .nil))) ρ = .ok (d, if new then .fresh else .frz, ρ.set i (.own p')) := by
  rw [ev, hf]
  simp only [hio, evArgs, ioSlot, h0, he, keep, bindOk, slotsOf, List.nodup_cons, List.not_mem_nil, not_false_eq_true, List.nodup_nil, List.length_cons, List.length_nil, and_self, if_true, readArgs, ofOs, Option.map, hr, putBack]
theorem takeRun (a b : Int) {m : Int} (hm : 0 < m ∧ m < 1073741824) : takeFI.run [pot a b, .int m] = .ok (.int (takeN a b m).1, false, [pot (takeN a b m).2.1 (takeN a b m).2.2]) := by
  show (if 0 < m ∧ m < 1073741824 then _ else _) = _
  rw [if_pos hm]
theorem takeC {T : Tab} {i : Nat} {e : IE} {ρ : DEnv} {a b m : Int} (hf : T.fn (Str.ofString "_law_take") = some takeFI) (h0 : ρ[i]? = some (.own (pot a b))) (he : ev T e ρ = .ok (.int m, .frz, ρ)) (hm : 0 < m ∧ m < 1073741824) :
    ∃ r a' b' : Int, (0 ≤ r ∧ r < m) ∧ ev T (.call (Str.ofString "_law_take") (.cons (.var i) (.cons e .nil))) ρ = .ok (.int r, .frz, ρ.set i (.own (pot a' b'))) :=
  ⟨_, _, _, take_spec a b hm.1, callP2 hf rfl h0 he h0 (takeRun a b hm)⟩
theorem takeK {T : Tab} {i : Nat} {ρ : DEnv} {a b : Int} (m : Int) (hf : T.fn (Str.ofString "_law_take") = some takeFI) (h0 : ρ[i]? = some (.own (pot a b))) (hm : 0 < m ∧ m < 1073741824) :
    ∃ r a' b' : Int, (0 ≤ r ∧ r < m) ∧ ev T (.call (Str.ofString "_law_take") (.cons (.var i) (.cons (.cst (.int m)) .nil))) ρ = .ok (.int r, .frz, ρ.set i (.own (pot a' b'))) :=
  takeC hf h0 (by rw [ev]) hm
/-! more rules for expressions -/
theorem evBin {T : Tab} {op : Operator} {a b : IE} {x y d : Dat} {ρ ρ1 ρ2 : DEnv} {k j : Mode} (ha : ev T a ρ = .ok (x, .frz, ρ1)) (hb : ev T b ρ1 = .ok (y, k, ρ2)) (hr : binD op x y = some (d, j)) :
    ev T (.bin op a b) ρ = .ok (d, j, ρ2) := by
  rw [ev, ha, bindOk]
  simp only [hb, bindOk, now, ofOs, hr]
theorem evBinF {T : Tab} {op : Operator} {a b : IE} {x y d : Dat} {ρ ρ1 ρ2 : DEnv} {k j : Mode} (ha : ev T a ρ = .ok (x, .fresh, ρ1)) (hb : ev T b ρ1 = .ok (y, k, ρ2)) (hr : binD op x y = some (d, j)) :
    ev T (.bin op a b) ρ = .ok (d, j, ρ2) := by
  rw [ev, ha, bindOk]
  simp only [hb, bindOk, now, ofOs, hr]
theorem evIdx {T : Tab} {a b : IE} {x y d : Dat} {ρ ρ1 ρ2 : DEnv} {k j : Mode} (ha : ev T a ρ = .ok (x, k, ρ1)) (hk : k = .frz ∨ k = .fresh) (hb : ev T b ρ1 = .ok (y, j, ρ2)) (hr : idxD x y = some d) :
    ev T (.idx a b) ρ = .ok (d, .frz, ρ2) := by
  rw [ev, ha, bindOk]
  cases hk with
  | inl h => subst h; simp only [hb, bindOk, now, ofOs, hr]
  | inr h => subst h; simp only [hb, bindOk, now, ofOs, hr]
theorem evIdxB {T : Tab} {i : Nat} {b : IE} {x y d : Dat} {ρ ρ2 : DEnv} {j : Mode} (h0 : ρ[i]? = some (.own x)) (hb : ev T b ρ = .ok (y, j, ρ2)) (h1 : ρ2[i]? = some (.own x)) (hr : idxD x y = some d) :
    ev T (.idx (.var i) b) ρ = .ok (d, .frz, ρ2) := by
  have ha : ev T (.var i) ρ = .ok (x, .brw i, ρ) := by rw [ev, h0]
  rw [ev, ha, bindOk]
  simp only [hb, bindOk, now, h1, ofOs, hr]
theorem evLst {T : Tab} {es : IEs} {ds : List Dat} {ρ ρ1 : DEnv} (h : evs T es ρ = .ok (ds, ρ1)) (hs : sm ds.length = true) : ev T (.lst es) ρ = .ok (.lst ds, .fresh, ρ1) := by
  rw [ev, h, bindOk]
  simp only [hs, if_true]
theorem evTup {T : Tab} {es : IEs} {ds : List Dat} {ρ ρ1 : DEnv} (h : evs T es ρ = .ok (ds, ρ1)) (hs : sm ds.length = true) : ev T (.tup es) ρ = .ok (.tup ds, .frz, ρ1) := by
  rw [ev, h, bindOk]
  simp only [hs, if_true]
theorem evsCons {T : Tab} {e : IE} {es : IEs} {d : Dat} {ds : List Dat} {ρ ρ1 ρ2 : DEnv} {m : Mode} (hm : m = .frz ∨ m = .fresh) (h : ev T e ρ = .ok (d, m, ρ1)) (hs : evs T es ρ1 = .ok (ds, ρ2)) : evs T (.cons e es) ρ = .ok (d :: ds, ρ2) := by
  rw [evs, h, bindOk]
  cases hm with
  | inl e => subst e; simp only [keep, hs, bindOk]
  | inr e => subst e; simp only [keep, hs, bindOk]
theorem evBi1 {T : Tab} {b : BI} {a : IE} {x d : Dat} {ρ ρ1 : DEnv} {m k : Mode} (h : ev T a ρ = .ok (x, m, ρ1)) (hb : biD b [x] = some (d, k)) : ev T (.bi b (.cons a .nil)) ρ = .ok (d, k, ρ1) := by
  rw [ev, h, bindOk]
  simp only [hb, ofOs, bindOk]
/-! the odd things -/
def odds : List Dat := [.non, .int 0, .bl false, .bl true, .int 1, .int (-1), .int 7, .str (Str.ofString ""), .str (Str.ofString "A"), .str (Str.ofString "a b"), .str (Str.ofString "a1"), .str (Str.ofString "abcdefghi"), .str (Str.ofString "a"), .tup [], .lst [], .dic [], .tup [.int 0], .lst [.int 0], .tup [.str (Str.ofString "a")]] ++
  [.lst [.str (Str.ofString "a")], .tup [.tup []], .tup [.non], .tup [.str (Str.ofString "a"), .int 1], .tup [.str (Str.ofString "a"), .int 12], .tup [.str (Str.ofString "a"), .int (-1)], .tup [.str (Str.ofString "A")], .tup [.str (Str.ofString "a"), .bl true], .dic [(.str (Str.ofString "a"), .tup [])]]
theorem atI_mem {α : Type} {xs : List α} {i : Int} (h : 0 ≤ i ∧ i < xs.length) : ∃ x ∈ xs, L2.atI xs i = some x := by
  obtain ⟨h0, h1⟩ := h
  have hj : i.toNat < xs.length := by omega
  refine ⟨xs[i.toNat], List.getElem_mem hj, ?_⟩
  unfold L2.atI L2.ixN
  rw [if_pos h0, if_pos h1]
  show xs[i.toNat]? = _
  rw [List.getElem?_eq_getElem hj]
theorem run_odd (a b : Int) : ∃ d ∈ odds, ∃ a' b' : Int, fi__law_odd.run [pot a b] = .ok (d, false, [pot a' b']) := by
  obtain ⟨r, a', b', hr, ht⟩ := takeK (T := T_8) (i := 0) (ρ := [.own (pot a b), .own (.lst odds)]) 28 tl__law_odd__law_take rfl (by decide)
  obtain ⟨d, hd, hi⟩ := atI_mem (xs := odds) (i := r) ⟨hr.1, hr.2⟩
  refine ⟨d, hd, a', b', ?_⟩
  refine rOf (ρ0 := [.own (pot a b), .no]) (ρ := [.own (pot a' b'), .own (.lst odds)]) rfl rfl ?_ rfl
  unfold bd__law_odd
  rw [rSet (d := .lst (odds.take 19)) (m := .fresh) (ρ1 := [.own (pot a b), .no]) (by decide) (by rfl)]
  show Ev.execs T_8 [0] _ [.own (pot a b), .own (.lst (odds.take 19))] = _
  rw [rSet (d := .lst odds) (m := .fresh) (ρ1 := [.own (pot a b), .own (.lst (odds.take 19))]) (by decide) (by rfl)]
  show Ev.execs T_8 [0] _ [.own (pot a b), .own (.lst odds)] = _
  exact rRet (evIdxB rfl ht rfl hi)
end K11
set_option Elab.async false
set_option linter.all false
set_option maxRecDepth 100000
set_option maxHeartbeats 4000000
namespace K11
open PySem Ev
theorem evCst {T : Tab} {d : Dat} {ρ : DEnv} : ev T (.cst d) ρ = .ok (d, .frz, ρ) := by rw [ev]
theorem evNeg {T : Tab} {e : IE} {i : Int} {ρ ρ1 : DEnv} {m : Mode} (h : ev T e ρ = .ok (.int i, m, ρ1)) : ev T (.neg e) ρ = .ok (.int (-i), .frz, ρ1) := by
  rw [ev, h, bindOk]
theorem evIteT {T : Tab} {c a b : IE} {ρ ρ1 : DEnv} {m : Mode} (h : ev T c ρ = .ok (.bl true, m, ρ1)) : ev T (.ite c a b) ρ = ev T a ρ1 := by
  rw [ev, h, bindOk]
theorem evIteF {T : Tab} {c a b : IE} {ρ ρ1 : DEnv} {m : Mode} (h : ev T c ρ = .ok (.bl false, m, ρ1)) : ev T (.ite c a b) ρ = ev T b ρ1 := by
  rw [ev, h, bindOk]
theorem evBi2 {T : Tab} {b : BI} {a c : IE} {x y d : Dat} {ρ ρ1 ρ2 : DEnv} {m k : Mode} (h : ev T a ρ = .ok (x, .frz, ρ1)) (hc : ev T c ρ1 = .ok (y, m, ρ2)) (hb : biD b [x, y] = some (d, k)) : ev T (.bi b (.cons a (.cons c .nil))) ρ = .ok (d, k, ρ2) := by
  rw [ev, h, bindOk]
  simp only [hc, now, hb, ofOs, bindOk]
theorem evsNil {T : Tab} {ρ : DEnv} : evs T .nil ρ = .ok ([], ρ) := by rw [evs]
theorem binMul (i : Int) {j : Int} (h : -(2 ^ 64) < j ∧ j < 2 ^ 64) : binD .Mult (.int i) (.int j) = some (.int (i * j), .frz) := by
  show (if _ then _ else _) = _
  rw [if_pos (Or.inl h)]
theorem binMul' (i : Int) {j : Int} (h : -(2 ^ 64) < i ∧ i < 2 ^ 64) : binD .Mult (.int i) (.int j) = some (.int (i * j), .frz) := by
  show (if _ then _ else _) = _
  rw [if_pos (Or.inr h)]
theorem binMod (i : Int) {j : Int} (h : 0 < j) : binD .Mod (.int i) (.int j) = some (.int (i % j), .frz) := by
  show (if _ then _ else _) = _
  rw [if_pos h]
theorem cell_ev (ns : List Int) (k : Nat) : ∃ c : Int, ev T_4 (.ite (.cmp .Lt (.var 1) (.bi .len (.cons (.var 0) .nil))) (.idx (.var 0) (.var 1)) (.cst (.int 0))) [.val (.scr ns), .val (.int k), .no] = .ok (.int c, .frz, [.val (.scr ns), .val (.int k), .no]) := by
  have hc : ev T_4 (.cmp .Lt (.var 1) (.bi .len (.cons (.var 0) .nil))) [.val (.scr ns), .val (.int k), .no] = .ok (.bl (decide ((k : Int) < (ns.length : Int))), .frz, [.val (.scr ns), .val (.int k), .no]) :=
    evCmp (evVar rfl) (evBi1 (evVar rfl) rfl) rfl
  by_cases h : (k : Int) < (ns.length : Int)
  · rw [decide_eq_true h] at hc
    obtain ⟨c, _, hi⟩ := atI_mem (xs := ns) (i := k) ⟨by omega, h⟩
    refine ⟨c, ?_⟩
    rw [evIteT hc]
    refine evIdx (evVar rfl) (Or.inl rfl) (evVar rfl) ?_
    show (L2.atI ns k).map Dat.int = _
    rw [hi]
    rfl
  · rw [decide_eq_false h] at hc
    refine ⟨0, ?_⟩
    rw [evIteF hc]
    exact evCst
theorem run_pot (ns : List Int) (k : Nat) : ∃ a b : Int, fi__law_pot.run [.scr ns, .int k] = .ok (pot a b, true, []) := by
  obtain ⟨c, hc⟩ := cell_ev ns k
  refine ⟨if c - 10 ^ 18 > 0 then c - 10 ^ 18 else 0, (c % 2147483563 * 40692 + 30011 * ((k : Int) + 1)) % 2147483399, rOf (ρ0 := [.val (.scr ns), .val (.int k), .no]) (ρ := [.val (.scr ns), .val (.int k), .val (.int c)]) rfl rfl ?_ rfl⟩
  unfold bd__law_pot
  rw [rSet (by decide) hc]
  show Ev.execs T_4 [] _ [.val (.scr ns), .val (.int k), .val (.int c)] = _
  exact rRetN (evLst (evsCons (Or.inl rfl) (evBi2 evCst (evBin (evVar rfl) (evBin (d := .int (10 ^ 18)) evCst evCst rfl) rfl) rfl) (evsCons (Or.inl rfl) (evBin (evBin (evBin (evBin (evVar rfl) evCst (binMod c (by decide))) evCst (binMul _ (by decide))) (evBin evCst (evBin (evVar rfl) evCst rfl) (binMul' _ (by decide))) rfl) evCst (binMod _ (by decide))) evsNil)) rfl)
/-! lots -/
theorem fold_in {B : Int} : ∀ (r : List Int) (n : Int), (-1 ≤ n ∧ n < B) → (∀ i ∈ r, -1 ≤ i ∧ i < B) → -1 ≤ r.foldl (fun a b => if b > a then b else a) n ∧ r.foldl (fun a b => if b > a then b else a) n < B
  | [], n, h, _ => h
  | i :: r, n, h, hr => by
    rw [List.foldl_cons]
    refine fold_in r _ ?_ fun j hj => hr j (List.mem_cons_of_mem _ hj)
    have := hr i List.mem_cons_self
    split
    · exact this
    · exact h
theorem max_in {B : Int} (ns : List Int) (hB : 0 ≤ B) (h : ∀ i ∈ ns, -1 ≤ i ∧ i < B) : ∃ m : Int, (-1 ≤ m ∧ m < B) ∧ biD .max [.lst (ns.map di ++ [.int (-1)])] = some (.int m, .frz) := by
  have e : ns.map di ++ [.int (-1)] = (ns ++ [-1]).map di := by rw [List.map_append]; rfl
  have h2 : ∀ i ∈ ns ++ [-1], -1 ≤ i ∧ i < B := by
    intro i hi
    rw [List.mem_append] at hi
    cases hi with
    | inl hi => exact h i hi
    | inr hi =>
      rw [List.mem_singleton] at hi
      omega
  have hn : ns ++ [-1] ≠ [] := by simp
  rw [e]
  revert h2 hn
  generalize ns ++ [-1] = l
  intro h2 hn
  cases l with
  | nil => exact absurd rfl hn
  | cons n r =>
    refine ⟨_, fold_in r n (h2 n List.mem_cons_self) fun j hj => h2 j (List.mem_cons_of_mem _ hj), ?_⟩
    show (ints? ((n :: r).map di)).bind _ = _
    rw [ints_di]
    rfl
theorem lots_step (a b : Int) (many k : Dat) (sl : Slot) (ns : List Int) (hl : ns.length ≤ 100) (h : ∀ i ∈ ns, -1 ≤ i ∧ i < (ns.length : Int)) : ∃ a' b' r : Int, (0 ≤ r ∧ r < (ns.length : Int) + 1) ∧
    turnOf (Ev.execs T_7 [0] lp__law_lots_1) 3 k [.own (pot a b), .val many, .own (.lst (ns.map di)), sl] = .ok (.nx [.own (pot a' b'), .val many, .own (.lst ((ns ++ [r]).map di)), .val k]) := by
  obtain ⟨m, hm, hb⟩ := max_in ns (by omega) h
  have he : ev T_7 (.bin .Add (.bi .max (.cons (.bin .Add (.var 2) (.lst (.cons (.neg (.cst (.int 1))) .nil))) .nil)) (.cst (.int 2))) [.own (pot a b), .val many, .own (.lst (ns.map di)), .val k] = .ok (.int (m + 2), .frz, [.own (pot a b), .val many, .own (.lst (ns.map di)), .val k]) := by
    refine evBin (evBi1 (m := .fresh) (x := .lst (ns.map di ++ [.int (-1)])) ?_ hb) evCst rfl
    have ha : ev T_7 (.var 2) [.own (pot a b), .val many, .own (.lst (ns.map di)), .val k] = .ok (.lst (ns.map di), .brw 2, [.own (pot a b), .val many, .own (.lst (ns.map di)), .val k]) := by rw [ev]; rfl
    have hv : ev T_7 (.lst (.cons (.neg (.cst (.int 1))) .nil)) [.own (pot a b), .val many, .own (.lst (ns.map di)), .val k] = .ok (.lst [.int (-1)], .fresh, [.own (pot a b), .val many, .own (.lst (ns.map di)), .val k]) := evLst (evsCons (Or.inl rfl) (evNeg evCst) evsNil) rfl
    rw [ev, ha, bindOk]
    simp only [hv, bindOk]
    show (ofO (if sm ((ns.map di).length + [Dat.int (-1)].length) = true then _ else _)).bind _ = _
    rw [if_pos (sm_lit (by rw [List.length_map]; show ns.length + 1 ≤ 1000; omega))]
    rfl
  obtain ⟨r, a', b', hr, ht⟩ := takeC (T := T_7) (i := 0) tl__law_lots__law_take rfl he (by omega)
  refine ⟨a', b', r, by omega, ?_⟩
  unfold turnOf lp__law_lots_1
  show Ev.execs T_7 [0] _ [.own (pot a b), .val many, .own (.lst (ns.map di)), .val k] = _
  rw [rApp (ds := ns.map di) rfl ht rfl (sm_lit (by rw [List.length_map]; omega)), Ev.execs, List.map_append]
  rfl
end K11
set_option Elab.async false
set_option linter.all false
set_option maxRecDepth 100000
set_option maxHeartbeats 4000000
namespace K11
open PySem Ev
theorem lots_steps (many : Dat) : ∀ (ks : List Dat) (a b : Int) (sl : Slot) (ns : List Int), ns.length + ks.length ≤ 100 → (∀ i ∈ ns, -1 ≤ i ∧ i < (ns.length : Int)) → ∃ (a' b' : Int) (sl' : Slot) (ms : List Int), ms.length = ns.length + ks.length ∧ (∀ i ∈ ms, -1 ≤ i ∧ i < (ms.length : Int)) ∧
    loop (turnOf (Ev.execs T_7 [0] lp__law_lots_1) 3) ks [.own (pot a b), .val many, .own (.lst (ns.map di)), sl] = .ok (.nx [.own (pot a' b'), .val many, .own (.lst (ms.map di)), sl'])
  | [], a, b, sl, ns, hl, h => ⟨a, b, sl, ns, rfl, h, by rw [loop]⟩
  | k :: ks, a, b, sl, ns, hl, h => by
    rw [List.length_cons] at hl
    obtain ⟨a1, b1, r, hr, ht⟩ := lots_step a b many k sl ns (by omega) h
    have hl2 : (ns ++ [r]).length = ns.length + 1 := by rw [List.length_append]; rfl
    obtain ⟨a', b', sl', ms, h1, h2, h3⟩ := lots_steps many ks a1 b1 (.val k) (ns ++ [r]) (by omega) (by
      intro i hi
      rw [List.mem_append] at hi
      rw [hl2]
      cases hi with
      | inl hi =>
        have := h i hi
        omega
      | inr hi =>
        rw [List.mem_singleton] at hi
        omega)
    refine ⟨a', b', sl', ms, by rw [h1, hl2, List.length_cons]; omega, h2, ?_⟩
    rw [loop, ht, bindOk]
    exact h3
theorem run_lots (a b : Int) (n : Nat) (hn : n ≤ 50) : ∃ (a' b' : Int) (ms : List Int), ms.length = n ∧ (∀ i ∈ ms, -1 ≤ i ∧ i < (ms.length : Int)) ∧ fi__law_lots.run [pot a b, .int n] = .ok (.tup (ms.map di), false, [pot a' b']) := by
  obtain ⟨a', b', sl', ms, h1, h2, h3⟩ := lots_steps (.int n) ((List.range n).map fun (k : Nat) => .int (k : Int)) a b .no [] (by simp; omega) (fun i hi => nomatch hi)
  refine ⟨a', b', ms, by simpa using h1, h2, ?_⟩
  refine rOf (ρ0 := [.own (pot a b), .val (.int n), .no, .no]) (ρ := [.own (pot a' b'), .val (.int n), .own (.lst (ms.map di)), sl']) rfl rfl ?_ rfl
  unfold bd__law_lots
  rw [rSet (d := .lst []) (m := .fresh) (ρ1 := [.own (pot a b), .val (.int n), .no, .no]) (by decide) (evLst evsNil rfl)]
  show Ev.execs T_7 [0] _ [.own (pot a b), .val (.int n), .own (.lst []), .no] = _
  unfold rl__law_lots_1
  rw [rForR (n := n) (m := .frz) (ρ1 := [.own (pot a b), .val (.int n), .own (.lst []), .no]) (by decide) (evVar rfl) (by omega)]
  have h3' : loop (turnOf (Ev.execs T_7 [0] lp__law_lots_1) 3) ((List.range n).map fun (k : Nat) => .int (k : Int)) [.own (pot a b), .val (.int n), .own (.lst []), .no] = _ := h3
  rw [h3', bindOk]
  have ha : ev T_7 (.var 2) [.own (pot a' b'), .val (.int n), .own (.lst (ms.map di)), sl'] = .ok (.lst (ms.map di), .brw 2, [.own (pot a' b'), .val (.int n), .own (.lst (ms.map di)), sl']) := by rw [ev]; rfl
  exact rRet (evBi1 ha rfl)
end K11
set_option Elab.async false
set_option linter.all false
set_option maxRecDepth 100000
set_option maxHeartbeats 4000000
namespace K11
open PySem Ev
theorem joinL_nil : ∀ ps : List (List Nat), TL.joinL [] ps = ps.flatten
  | [] => rfl
  | [p] => by simp [TL.joinL]
  | p :: q :: r => by
    rw [TL.joinL, joinL_nil (q :: r)]
    rfl
theorem join_cs (cs : List Nat) : (Txt.join (Str.ofString "") (cs.map fun c => (⟨#[c]⟩ : Str))).cps.toList = cs := by
  show (Builtin.Str.glued (Str.ofString "") _).cps.toList = _
  rw [StrLaws.glued_eq_join]
  refine (TL.tl_join _ _).trans ?_
  show TL.joinL [] _ = _
  rw [joinL_nil, List.map_map]
  induction cs with
  | nil => rfl
  | cons c r ih =>
    rw [List.map_cons, List.flatten_cons, ih]
    rfl
theorem strs_cs : ∀ cs : List Nat, strs? (cs.map sgn) = some (cs.map fun c => (⟨#[c]⟩ : Str))
  | [] => rfl
  | c :: r => by
    show (strs? (r.map sgn)).map _ = _
    rw [strs_cs r]
    rfl
theorem LET_low : ∀ c ∈ LET.cps.toList, c < 128 := by decide
theorem lab_step (a b : Int) (us n k : Dat) (s4 s5 s6 s7 : Slot) : ∃ (a' b' : Int) (c : Nat), c < 128 ∧
    oneOf (ev T_6 el__law_label_4) 6 [6] k [.own (pot a b), .own us, .val (.str LET), .val n, s4, s5, s6, s7] = .ok (some (sgn c), [.own (pot a' b'), .own us, .val (.str LET), .val n, s4, s5, .val k, s7]) := by
  obtain ⟨r, a', b', hr, ht⟩ := takeK (T := T_6) (i := 0) (ρ := [.own (pot a b), .own us, .val (.str LET), .val n, s4, s5, .val k, s7]) 26 tl__law_label__law_take rfl (by decide)
  obtain ⟨c, hc, hi⟩ := atI_mem (xs := LET.cps.toList) (i := r) ⟨hr.1, by rw [show LET.cps.toList.length = 26 by decide]; exact hr.2⟩
  refine ⟨a', b', c, LET_low c hc, ?_⟩
  have he : ev T_6 el__law_label_4 [.own (pot a b), .own us, .val (.str LET), .val n, s4, s5, .val k, s7] = .ok (sgn c, .frz, [.own (pot a' b'), .own us, .val (.str LET), .val n, s4, s5, .val k, s7]) := by
    unfold el__law_label_4
    refine evIdx (evVar rfl) (Or.inl rfl) ht ?_
    have hs : sm LET.length = true := by decide
    simp only [idxD, hs, if_true, hi, Option.map]
    rfl
  unfold oneOf
  show (ev T_6 el__law_label_4 [.own (pot a b), .own us, .val (.str LET), .val n, s4, s5, .val k, s7]).bind _ = _
  rw [he, bindOk]
  rfl
theorem lab_steps (us n : Dat) (s4 s5 s7 : Slot) : ∀ (ks : List Dat) (a b : Int) (s6 : Slot), ∃ (a' b' : Int) (s6' : Slot) (cs : List Nat), cs.length = ks.length ∧ (∀ c ∈ cs, c < 128) ∧
    turns (oneOf (ev T_6 el__law_label_4) 6 [6]) ks [.own (pot a b), .own us, .val (.str LET), .val n, s4, s5, s6, s7] = .ok (cs.map sgn, [.own (pot a' b'), .own us, .val (.str LET), .val n, s4, s5, s6', s7])
  | [], a, b, s6 => ⟨a, b, s6, [], rfl, (fun c h => nomatch h), rfl⟩
  | k :: ks, a, b, s6 => by
    obtain ⟨a1, b1, c, hc, h1⟩ := lab_step a b us n k s4 s5 s6 s7
    obtain ⟨a', b', s6', cs, h2, h3, h4⟩ := lab_steps us n s4 s5 s7 ks a1 b1 (.val k)
    refine ⟨a', b', s6', c :: cs, by rw [List.length_cons, List.length_cons, h2], ?_, ?_⟩
    · intro x hx
      cases hx with
      | head => exact hc
      | tail _ hx => exact h3 x hx
    · rw [turns, h1, bindOk]
      show (turns _ ks _).bind _ = _
      rw [h4, bindOk]
      rfl
theorem size_ev (a b : Int) (us : Dat) : ∃ (a' b' : Int) (n : Nat), (1 ≤ n ∧ n ≤ 8) ∧
    ev T_6 (.idx (.lst (.cons (.cst (.int 1)) (.cons (.cst (.int 1)) (.cons (.cst (.int 2)) (.cons (.cst (.int 8)) (.cons (.bin .Add (.cst (.int 1)) (.call (Str.ofString "_law_take") (.cons (.var 0) (.cons (.cst (.int 8)) .nil)))) .nil)))))) (.call (Str.ofString "_law_take") (.cons (.var 0) (.cons (.cst (.int 5)) .nil)))) [.own (pot a b), .own us, .val (.str LET), .no, .no, .no, .no, .no] = .ok (.int (n : Int), .frz, [.own (pot a' b'), .own us, .val (.str LET), .no, .no, .no, .no, .no]) := by
  obtain ⟨r, a1, b1, hr, ht⟩ := takeK (T := T_6) (i := 0) (ρ := [.own (pot a b), .own us, .val (.str LET), .no, .no, .no, .no, .no]) 8 tl__law_label__law_take rfl (by decide)
  obtain ⟨q, a', b', hq, hu⟩ := takeK (T := T_6) (i := 0) (ρ := [.own (pot a1 b1), .own us, .val (.str LET), .no, .no, .no, .no, .no]) 5 tl__law_label__law_take rfl (by decide)
  obtain ⟨x, hx, hi⟩ := atI_mem (xs := [(1 : Int), 1, 2, 8, 1 + r]) (i := q) hq
  have hx' : 1 ≤ x ∧ x ≤ 8 := by
    simp only [List.mem_cons, List.not_mem_nil, or_false] at hx
    omega
  refine ⟨a', b', x.toNat, by omega, ?_⟩
  rw [show ((x.toNat : Nat) : Int) = x by omega]
  refine evIdx (x := .lst ([(1 : Int), 1, 2, 8, 1 + r].map di)) (evLst (evsCons (Or.inl rfl) evCst (evsCons (Or.inl rfl) evCst (evsCons (Or.inl rfl) evCst (evsCons (Or.inl rfl) evCst (evsCons (Or.inl rfl) (evBin evCst ht rfl) evsNil))))) rfl) (Or.inr rfl) hu ?_
  show L2.atI ([(1 : Int), 1, 2, 8, 1 + r].map di) q = _
  have e : L2.atI ([(1 : Int), 1, 2, 8, 1 + r].map di) q = (L2.atI [(1 : Int), 1, 2, 8, 1 + r] q).map di := by
    unfold L2.atI
    rw [List.length_map]
    cases L2.ixN [(1 : Int), 1, 2, 8, 1 + r].length q with
    | none => rfl
    | some j => exact List.getElem?_map
  rw [e, hi]
  rfl
end K11
set_option Elab.async false
set_option linter.all false
set_option maxRecDepth 100000
set_option maxHeartbeats 4000000
namespace K11
open PySem Ev
theorem evLc {T : Tab} {el it : IE} {tg : Nat} {own : List (Str × Nat)} {ρ ρ1 : DEnv} {x : Dat} {xs : List Dat} {m : Mode} (h : ev T it ρ = .ok (x, m, ρ1)) (hx : items x = some xs) :
    ev T (.lc el tg it own) ρ = comp (own.map (·.2)) (oneOf (ev T el) tg (own.map (·.2))) xs (keep m ρ1 x) := by
  rw [ev, h, bindOk]
  simp only [hx, ofOs, bindOk]
theorem evLcI {T : Tab} {el cd it : IE} {tg : Nat} {own : List (Str × Nat)} {ρ ρ1 : DEnv} {x : Dat} {xs : List Dat} {m : Mode} (h : ev T it ρ = .ok (x, m, ρ1)) (hx : items x = some xs) :
    ev T (.lcI el tg it cd own) ρ = comp (own.map (·.2)) (oneIf (ev T cd) (ev T el) tg (own.map (·.2))) xs (keep m ρ1 x) := by
  rw [ev, h, bindOk]
  simp only [hx, ofOs, bindOk]
theorem evJoin {T : Tab} {o a : IE} {ρ ρ1 ρ2 : DEnv} {s : Str} {ys : List Dat} {zs : List Str} {m k : Mode} (h : ev T o ρ = .ok (.str s, m, ρ1)) (ha : ev T a ρ1 = .ok (.lst ys, k, ρ2)) (hz : strs? ys = some zs) (hs : sm ((zs.map (·.length)).sum + zs.length * s.length) = true) :
    ev T (.join o a) ρ = .ok (.str (Txt.join s zs), .frz, ρ2) := by
  rw [ev, h, bindOk]
  simp only [ha, bindOk, hz, ofOs, hs, if_true]
theorem sum_ones : ∀ cs : List Nat, ((cs.map fun c => (⟨#[c]⟩ : Str)).map (·.length)).sum = cs.length
  | [] => rfl
  | c :: r => by
    rw [List.map_cons, List.map_cons, List.sum_cons, sum_ones r, List.length_cons, Nat.add_comm]
    rfl
theorem name_ev (a b : Int) (us : Dat) (n : Nat) (hn : n ≤ 8) : ∃ (a' b' : Int) (s : Str), s.length = n ∧ lowS s ∧
    ev T_6 (.join (.cst (.str (Str.ofString ""))) rc__law_label_1) [.own (pot a b), .own us, .val (.str LET), .val (.int (n : Int)), .no, .no, .no, .no] = .ok (.str s, .frz, [.own (pot a' b'), .own us, .val (.str LET), .val (.int (n : Int)), .no, .no, .no, .no]) := by
  obtain ⟨a', b', s6, cs, h1, h2, h3⟩ := lab_steps us (.int (n : Int)) .no .no .no ((List.range n).map fun (k : Nat) => .int (k : Int)) a b .no
  rw [List.length_map, List.length_range] at h1
  refine ⟨a', b', Txt.join (Str.ofString "") (cs.map fun c => (⟨#[c]⟩ : Str)), ?_, ?_, ?_⟩
  · show (Txt.join (Str.ofString "") (cs.map fun c => (⟨#[c]⟩ : Str))).cps.size = n
    rw [← Array.length_toList, join_cs, h1]
  · unfold lowS
    rw [join_cs]
    exact h2
  · refine evJoin evCst (ys := cs.map sgn) (k := .fresh) ?_ (strs_cs cs) ?_
    · unfold rc__law_label_1
      rw [ev_lcR (n := n) (m := .frz) (evVar rfl) (by omega)]
      refine rComp (sm_lit ?_) rfl h3 rfl
      rw [List.length_map, List.length_range]
      omega
    · refine sm_lit ?_
      have e : (Str.ofString "").length = 0 := by decide
      rw [sum_ones, e, Nat.mul_zero, h1]
      omega
def isStr (d : Dat) : Prop := ∃ w, d = .str w
theorem str_add (x y : Str) (h : x.length + y.length ≤ 1000) : binD .Add (.str x) (.str y) = some (.str (x ++ y), .frz) := by
  show (if sm (x.length + y.length) = true then _ else _) = _
  rw [if_pos (sm_lit h)]
theorem lst_add (x y : List Dat) (h : x.length + y.length ≤ 1000) : binD .Add (.lst x) (.lst y) = some (.lst (x ++ y), .fresh) := by
  show (if sm (x.length + y.length) = true then _ else _) = _
  rw [if_pos (sm_lit h)]
theorem cut_str (s : Str) (k : Int) (h : s.length ≤ 1000) : slcD (.str s) none (some k) = some (.str (L2.cutS s none (some k)), .frz) := by
  show (if sm s.length = true then _ else _) = _
  rw [if_pos (sm_lit h)]
theorem evSlcR {T : Tab} {a : IE} {x d : Dat} {i : Int} {ρ ρ1 : DEnv} {k : Mode} (ha : ev T a ρ = .ok (x, .frz, ρ1)) (hr : slcD x none (some i) = some (d, k)) :
    ev T (.slcR a (.cst (.int i))) ρ = .ok (d, k, ρ1) := by
  rw [ev, ha, bindOk]
  simp only [evCst, bindOk, now, ofOs, hr]
section
variable (p us n : Dat) (s : Str) (hs : s.length ≤ 8)
abbrev lenv (sl : Slot) : DEnv := [.own p, .own us, .val (.str LET), .val n, .val (.str s), .no, .no, sl]
theorem one_str (g : Dat → Dat) (e : IE) (he : ∀ c : Nat, ev T_6 e (lenv p us n s (.val (sgn c))) = .ok (g (sgn c), .frz, lenv p us n s (.val (sgn c)))) (hg : ∀ c, isStr (g (sgn c))) :
    ∃ ys : List Dat, ys.length = 26 ∧ (∀ y ∈ ys, isStr y) ∧ ev T_6 (.lc e 7 (.var 2) [((Str.ofString "_law_one"), 7)]) (lenv p us n s .no) = .ok (.lst ys, .fresh, lenv p us n s .no) := by
  obtain ⟨sl', h⟩ := turns_map (f := oneOf (ev T_6 e) 7 [7]) g (fun sl => lenv p us n s sl) (LET.cps.toList.map sgn) .no (by
    intro x hx sl
    obtain ⟨c, _, rfl⟩ := List.mem_map.mp hx
    unfold oneOf
    show (ev T_6 e (lenv p us n s (.val (sgn c)))).bind _ = _
    rw [he, bindOk]
    rfl)
  refine ⟨(LET.cps.toList.map sgn).map g, ?_, ?_, ?_⟩
  · rw [List.length_map, List.length_map]
    decide
  · intro y hy
    obtain ⟨x, hx, rfl⟩ := List.mem_map.mp hy
    obtain ⟨c, _, rfl⟩ := List.mem_map.mp hx
    exact hg c
  · rw [evLc (evVar rfl) rfl]
    exact rComp (by decide) rfl h rfl
end
theorem some_ev (p us n : Dat) (s : Str) (hs : s.length ≤ 8) : ∃ ys : List Dat, ys.length = 52 ∧ (∀ y ∈ ys, isStr y) ∧
    ev T_6 (.bin .Add (.bin .Add (.lst (.cons (.var 4) .nil)) (.lc el__law_label_2 7 (.var 2) [((Str.ofString "_law_one"), 7)])) (.lc el__law_label_3 7 (.var 2) [((Str.ofString "_law_one"), 7)])) (lenv p us n s .no) = .ok (.lst (.str s :: ys), .fresh, lenv p us n s .no) := by
  have c7 := L2.cutS_length s none (some 7)
  have c6 := L2.cutS_length s none (some 6)
  obtain ⟨ys, h1, h2, h3⟩ := one_str p us n s (fun d => match d with | .str w => .str (w ++ L2.cutS s none (some 7)) | d => d) el__law_label_2 (by
    intro c
    unfold el__law_label_2
    exact evBin (evVar rfl) (evSlcR (evVar rfl) (cut_str s 7 (by omega))) (str_add _ _ (by show 1 + _ ≤ _; omega))) (fun c => ⟨_, rfl⟩)
  obtain ⟨zs, g1, g2, g3⟩ := one_str p us n s (fun d => match d with | .str w => .str ((w ++ w) ++ L2.cutS s none (some 6)) | d => d) el__law_label_3 (by
    intro c
    unfold el__law_label_3
    exact evBin (evBin (evVar rfl) (evVar rfl) (str_add _ _ (by show 1 + 1 ≤ _; omega))) (evSlcR (evVar rfl) (cut_str s 6 (by omega))) (str_add _ _ (by rw [Str.length_append]; show 1 + 1 + _ ≤ _; omega))) (fun c => ⟨_, rfl⟩)
  refine ⟨ys ++ zs, by rw [List.length_append]; omega, ?_, ?_⟩
  · intro y hy
    rw [List.mem_append] at hy
    exact hy.elim (h2 y) (g2 y)
  · refine evBinF (x := .lst ([.str s] ++ ys)) (evBinF (evLst (evsCons (Or.inl rfl) (evVar rfl) evsNil) rfl) h3 (lst_add _ _ (by rw [h1]; show 1 + 26 ≤ 1000; decide))) g3 ?_
    rw [lst_add _ _ (by rw [List.length_append, h1, g1]; show 1 + 26 + 26 ≤ 1000; decide)]
    rfl
end K11
set_option Elab.async false
set_option linter.all false
set_option maxRecDepth 100000
set_option maxHeartbeats 4000000
namespace K11
open PySem Ev
theorem keep_ev (p n : Dat) (s s0 : Str) (ys : List Dat) (hl : ys.length ≤ 100) (hy : ∀ y ∈ ys, isStr y) :
    ev T_6 (.idx (.lcI el__law_label_1 7 (.var 5) cd__law_label_1 [((Str.ofString "_law_one"), 7)]) (.cst (.int 0))) [.own p, .own (.lst []), .val (.str LET), .val n, .val (.str s0), .own (.lst (.str s :: ys)), .no, .no] = .ok (.str s, .frz, [.own p, .own (.lst []), .val (.str LET), .val n, .val (.str s0), .val (.lst (.str s :: ys)), .no, .no]) := by
  have hv : ev T_6 (.var 5) [.own p, .own (.lst []), .val (.str LET), .val n, .val (.str s0), .own (.lst (.str s :: ys)), .no, .no] = .ok (.lst (.str s :: ys), .brw 5, [.own p, .own (.lst []), .val (.str LET), .val n, .val (.str s0), .own (.lst (.str s :: ys)), .no, .no]) := by rw [ev]; rfl
  obtain ⟨sl', h⟩ := turns_map (f := oneIf (ev T_6 cd__law_label_1) (ev T_6 el__law_label_1) 7 [7]) (fun d => d) (fun sl => [.own p, .own (.lst []), .val (.str LET), .val n, .val (.str s0), .val (.lst (.str s :: ys)), .no, sl]) (.str s :: ys) .no (by
    intro x hx sl
    have hxs : isStr x := by
      cases hx with
      | head => exact ⟨s, rfl⟩
      | tail _ hx => exact hy x hx
    obtain ⟨w, rfl⟩ := hxs
    unfold oneIf
    show (ev T_6 cd__law_label_1 [.own p, .own (.lst []), .val (.str LET), .val n, .val (.str s0), .val (.lst (.str s :: ys)), .no, .val (.str w)]).bind _ = _
    have hu : ev T_6 (.var 1) [.own p, .own (.lst []), .val (.str LET), .val n, .val (.str s0), .val (.lst (.str s :: ys)), .no, .val (.str w)] = .ok (.lst [], .brw 1, [.own p, .own (.lst []), .val (.str LET), .val n, .val (.str s0), .val (.lst (.str s :: ys)), .no, .val (.str w)]) := by rw [ev]; rfl
    have hc : ev T_6 cd__law_label_1 [.own p, .own (.lst []), .val (.str LET), .val n, .val (.str s0), .val (.lst (.str s :: ys)), .no, .val (.str w)] = .ok (.bl true, .frz, [.own p, .own (.lst []), .val (.str LET), .val n, .val (.str s0), .val (.lst (.str s :: ys)), .no, .val (.str w)]) := by
      unfold cd__law_label_1
      exact evCmp (evVar rfl) hu rfl
    have he : ev T_6 el__law_label_1 [.own p, .own (.lst []), .val (.str LET), .val n, .val (.str s0), .val (.lst (.str s :: ys)), .no, .val (.str w)] = .ok (.str w, .frz, [.own p, .own (.lst []), .val (.str LET), .val n, .val (.str s0), .val (.lst (.str s :: ys)), .no, .val (.str w)]) := by
      unfold el__law_label_1
      exact evVar rfl
    rw [hc, bindOk]
    show (ev T_6 el__law_label_1 [.own p, .own (.lst []), .val (.str LET), .val n, .val (.str s0), .val (.lst (.str s :: ys)), .no, .val (.str w)]).bind _ = _
    rw [he, bindOk]
    rfl)
  rw [List.map_id'] at h
  refine evIdx (x := .lst (.str s :: ys)) (k := .fresh) ?_ (Or.inr rfl) evCst (at0 _ _)
  rw [evLcI hv rfl]
  refine rComp (sm_lit ?_) rfl h rfl
  rw [List.length_cons]
  omega
theorem run_label (a b : Int) : ∃ (a' b' : Int) (s : Str), (1 ≤ s.length ∧ s.length ≤ 8) ∧ lowS s ∧ fi__law_label.run [pot a b, .lst []] = .ok (.str s, false, [pot a' b', .lst [.str s]]) := by
  obtain ⟨a1, b1, n, hn, h1⟩ := size_ev a b (.lst [])
  obtain ⟨a', b', s, hs, hlow, h2⟩ := name_ev a1 b1 (.lst []) n hn.2
  obtain ⟨ys, hl, hy, h3⟩ := some_ev (pot a' b') (.lst []) (.int (n : Int)) s (by omega)
  have h4 := keep_ev (pot a' b') (.int (n : Int)) s s ys (by omega) hy
  refine ⟨a', b', s, by omega, hlow, ?_⟩
  refine rOf (ρ0 := [.own (pot a b), .own (.lst []), .no, .no, .no, .no, .no, .no]) (ρ := [.own (pot a' b'), .own (.lst [.str s]), .val (.str LET), .val (.int (n : Int)), .val (.str s), .val (.lst (.str s :: ys)), .no, .no]) rfl rfl ?_ rfl
  unfold bd__law_label
  rw [rSet (d := .str LET) (m := .frz) (ρ1 := [.own (pot a b), .own (.lst []), .no, .no, .no, .no, .no, .no]) (by decide) evCst]
  show Ev.execs T_6 [0, 1] _ [.own (pot a b), .own (.lst []), .val (.str LET), .no, .no, .no, .no, .no] = _
  rw [rSet (by decide) h1]
  show Ev.execs T_6 [0, 1] _ [.own (pot a1 b1), .own (.lst []), .val (.str LET), .val (.int (n : Int)), .no, .no, .no, .no] = _
  rw [rSet (by decide) h2]
  show Ev.execs T_6 [0, 1] _ (lenv (pot a' b') (.lst []) (.int (n : Int)) s .no) = _
  rw [rSet (by decide) h3]
  show Ev.execs T_6 [0, 1] _ [.own (pot a' b'), .own (.lst []), .val (.str LET), .val (.int (n : Int)), .val (.str s), .own (.lst (.str s :: ys)), .no, .no] = _
  rw [rSet (by decide) h4]
  show Ev.execs T_6 [0, 1] _ [.own (pot a' b'), .own (.lst []), .val (.str LET), .val (.int (n : Int)), .val (.str s), .val (.lst (.str s :: ys)), .no, .no] = _
  rw [rApp (ds0 := []) (ds := []) (d := .str s) (m := .frz) (ρ1 := [.own (pot a' b'), .own (.lst []), .val (.str LET), .val (.int (n : Int)), .val (.str s), .val (.lst (.str s :: ys)), .no, .no]) rfl (evVar rfl) rfl rfl]
  exact rRet (evVar rfl)
end K11
set_option Elab.async false
set_option linter.all false
set_option maxRecDepth 100000
set_option maxHeartbeats 4000000
namespace K11
open PySem Ev
theorem path_step (a b : Int) (k : Dat) (sl : Slot) : ∃ a' b' r : Int, (0 ≤ r ∧ r < 12) ∧ oneOf (ev T_13 el__law_path_1) 1 [1] k [.own (pot a b), sl] = .ok (some (di r), [.own (pot a' b'), .val k]) := by
  obtain ⟨r, a', b', hr, ht⟩ := takeK (T := T_13) (i := 0) (ρ := [.own (pot a b), .val k]) 12 tl__law_path__law_take rfl (by decide)
  refine ⟨a', b', r, hr, ?_⟩
  unfold oneOf el__law_path_1
  show (ev T_13 _ [.own (pot a b), .val k]).bind _ = _
  rw [ht, bindOk]
  rfl
theorem path_steps : ∀ (ks : List Dat) (a b : Int) (sl : Slot), ∃ (a' b' : Int) (sl' : Slot) (ns : List Int), ns.length = ks.length ∧ (∀ i ∈ ns, 0 ≤ i ∧ i < 12) ∧ turns (oneOf (ev T_13 el__law_path_1) 1 [1]) ks [.own (pot a b), sl] = .ok (ns.map di, [.own (pot a' b'), sl'])
  | [], a, b, sl => ⟨a, b, sl, [], rfl, (fun c h => nomatch h), rfl⟩
  | k :: ks, a, b, sl => by
    obtain ⟨a1, b1, r, hr, h1⟩ := path_step a b k sl
    obtain ⟨a', b', sl', ns, h2, h3, h4⟩ := path_steps ks a1 b1 (.val k)
    refine ⟨a', b', sl', r :: ns, by rw [List.length_cons, List.length_cons, h2], ?_, ?_⟩
    · intro x hx
      cases hx with
      | head => exact hr
      | tail _ hx => exact h3 x hx
    · rw [turns, h1, bindOk]
      show (turns _ ks _).bind _ = _
      rw [h4, bindOk]
      rfl
theorem run_path (a b : Int) : ∃ (a' b' : Int) (s : Str) (ns : List Int), s.length ≤ 8 ∧ lowS s ∧ ns.length ≤ 9 ∧ (∀ i ∈ ns, 0 ≤ i ∧ i < 12) ∧ fi__law_path.run [pot a b] = .ok (.tup (.str s :: ns.map di), false, [pot a' b']) := by
  obtain ⟨a1, b1, s, hs, hlow, h1⟩ := run_label a b
  obtain ⟨r, a2, b2, hr, ht⟩ := takeK (T := T_13) (i := 0) (ρ := [.own (pot a1 b1), .no]) 10 tl__law_path__law_take rfl (by decide)
  obtain ⟨n, rfl⟩ : ∃ n : Nat, r = (n : Int) := ⟨r.toNat, by omega⟩
  obtain ⟨a', b', sl', ns, h2, h3, h4⟩ := path_steps ((List.range n).map fun (k : Nat) => .int (k : Int)) a2 b2 .no
  rw [List.length_map, List.length_range] at h2
  refine ⟨a', b', s, ns, hs.2, hlow, by omega, h3, ?_⟩
  refine rOf (ρ0 := [.own (pot a b), .no]) (ρ := [.own (pot a' b'), .no]) rfl rfl ?_ rfl
  unfold bd__law_path
  refine rRet (evBi1 (x := .lst (.str s :: ns.map di)) (m := .fresh) (evBinF (x := .lst [.str s]) (ρ1 := [.own (pot a1 b1), .no]) (evLst (evsCons (Or.inl rfl) (callPT (i := 0) (p' := pot a1 b1) tl__law_path__law_label rfl rfl (evLst evsNil rfl) h1) evsNil) rfl) (y := .lst (ns.map di)) (k := .fresh) ?_ ?_) rfl)
  · unfold rc__law_path_1
    rw [ev_lcR (n := n) (m := .frz) ht (by omega)]
    refine rComp (sm_lit ?_) rfl h4 rfl
    rw [List.length_map, List.length_range]
    omega
  · refine lst_add _ _ ?_
    rw [List.length_map]
    show 1 + _ ≤ _
    omega
end K11
set_option Elab.async false
set_option linter.all false
set_option maxRecDepth 100000
set_option maxHeartbeats 4000000
namespace K11
open PySem Ev
/-! what is fine to be looked at -/
def Fine (d : Dat) : Prop := SmD d ∧ d.tell = true
def Lf (d : Dat) : Prop := (∃ i : Int, d = .int i ∧ i.natAbs < 10 ^ 21) ∨ ∃ s : Str, d = .str s ∧ lowS s ∧ s.length ≤ 16
structure Part (y : Dat) : Prop where
  ni : Nice y 5 50
  dl : y.toPy.hasDict = false ∨ y.noLst = true
  st : ∀ s, y = .str s → s.length ≤ 1000
def smB (y : Dat) : Bool := match y with
  | .str s => decide (s.length ≤ 1000)
  | .tup xs => decide (xs.length ≤ 1000) && (match xs with
    | .str s :: _ => decide (s.length ≤ 1000)
    | _ => true)
  | _ => true
theorem smd_of {y : Dat} (h : smB y = true) : SmD y := by
  refine ⟨?_, ?_, ?_⟩
  · intro s e
    subst e
    exact of_decide_eq_true h
  · intro xs e
    subst e
    simp only [smB, Bool.and_eq_true] at h
    exact of_decide_eq_true h.1
  · intro s r e
    subst e
    simp only [smB, Bool.and_eq_true] at h
    exact of_decide_eq_true h.2
def oddB (y : Dat) : Bool := y.toPy.showable && decide (y.toPy.depth ≤ 5) && y.toPy.leavesShort 25 && decide (y.toPy.bulk ≤ 50) && (!y.toPy.hasDict || y.noLst) && smB y
theorem odds_ok : odds.all oddB = true := by decide +kernel
theorem odd_part {y : Dat} (h : y ∈ odds) : Part y ∧ SmD y := by
  have hb := List.all_eq_true.mp odds_ok y h
  simp only [oddB, Bool.and_eq_true, decide_eq_true_eq] at hb
  obtain ⟨⟨⟨⟨⟨h1, h2⟩, h3⟩, h4⟩, h5⟩, h6⟩ := hb
  refine ⟨⟨⟨h1, h2, h3, h4⟩, ?_, (smd_of h6).1⟩, smd_of h6⟩
  cases hd : y.toPy.hasDict with
  | false => exact Or.inl rfl
  | true =>
    rw [hd] at h5
    exact Or.inr (by simpa using h5)
theorem lf_nice {d : Dat} (h : Lf d) : Nice d 5 16 ∧ d.toPy.hasDict = false ∧ d.noLst = true ∧ ∀ s, d = .str s → s.length ≤ 1000 := by
  cases h with
  | inl h =>
    obtain ⟨i, rfl, hi⟩ := h
    exact ⟨nice_mono (nice_int hi) (by omega) (by omega), rfl, rfl, (fun s e => nomatch e)⟩
  | inr h =>
    obtain ⟨s, rfl, hs, hl⟩ := h
    exact ⟨nice_mono (nice_str hs) (by omega) hl, rfl, rfl, fun t e => by cases e; omega⟩
theorem lf_part {d : Dat} (h : Lf d) : Part d := ⟨nice_mono (lf_nice h).1 (by omega) (by omega), Or.inl (lf_nice h).2.1, (lf_nice h).2.2.2⟩
theorem lf_fine {d : Dat} (h : Lf d) : Fine d := by
  have hn := lf_nice h
  refine ⟨⟨hn.2.2.2, ?_, ?_⟩, tell_of (nice_mono hn.1 (by omega) (Nat.le_refl _)) (by omega) (Or.inl hn.2.1)⟩
  · intro xs e
    subst e
    cases h with
    | inl h => obtain ⟨_, e, _⟩ := h; cases e
    | inr h => obtain ⟨_, e, _⟩ := h; cases e
  · intro s r e
    subst e
    cases h with
    | inl h => obtain ⟨_, e, _⟩ := h; cases e
    | inr h => obtain ⟨_, e, _⟩ := h; cases e
theorem odd_fine {y : Dat} (h : y ∈ odds) : Fine y := by
  have hp := odd_part h
  exact ⟨hp.2, tell_of (nice_mono hp.1.ni (by omega) (Nat.le_refl _)) (by omega) hp.1.dl⟩
theorem lfs_nice : ∀ (xs : List Dat), (∀ x ∈ xs, Lf x) → NiceL xs 5 (17 * xs.length) ∧ PyData.hasDictAll (toPys xs) = false ∧ noLsts xs = true
  | [], _ => ⟨niceL_nil 5, rfl, rfl⟩
  | x :: xs, h => by
    have hx := lf_nice (h x List.mem_cons_self)
    have hs := lfs_nice xs fun y hy => h y (List.mem_cons_of_mem _ hy)
    refine ⟨niceL_mono (niceL_cons hx.1 hs.1) (by rw [List.length_cons]; omega), ?_, ?_⟩
    · simp only [toPys, PyData.hasDictAll, hx.2.1, hs.2.1, Bool.or_self]
    · simp only [noLsts, hx.2.2.1, hs.2.2, Bool.and_self]
theorem hasDict_app : ∀ (xs ys : List PyData), PyData.hasDictAll (xs ++ ys) = (PyData.hasDictAll xs || PyData.hasDictAll ys)
  | [], ys => rfl
  | x :: xs, ys => by
    rw [List.cons_append, PyData.hasDictAll, PyData.hasDictAll, hasDict_app xs ys, Bool.or_assoc]
theorem noLsts_app : ∀ (xs ys : List Dat), noLsts (xs ++ ys) = (noLsts xs && noLsts ys)
  | [], ys => rfl
  | x :: xs, ys => by
    rw [List.cons_append, noLsts, noLsts, noLsts_app xs ys, Bool.and_assoc]
theorem head_str {s : Str} {r us vs : List Dat} {y : Dat} (h : us ++ y :: vs = .str s :: r) : .str s = y ∨ .str s ∈ us := by
  cases us with
  | nil => rw [List.nil_append] at h; cases h; exact Or.inl rfl
  | cons u us => rw [List.cons_append] at h; cases h; exact Or.inr List.mem_cons_self
/-- a tuple of leaves round one part -/
theorem fine_mid {us vs : List Dat} {y : Dat} (hu : ∀ x ∈ us, Lf x) (hv : ∀ x ∈ vs, Lf x) (hy : Part y) (hl : us.length + vs.length ≤ 100) : Fine (.tup (us ++ y :: vs)) := by
  have n1 := lfs_nice us hu
  have n2 := lfs_nice vs hv
  refine ⟨⟨(fun s e => nomatch e), ?_, ?_⟩, ?_⟩
  · intro xs e
    cases e
    rw [List.length_append, List.length_cons]
    omega
  · intro s r e
    injection e with e
    cases head_str e with
    | inl h => exact hy.st s h.symm
    | inr h => exact (lf_nice (hu _ h)).2.2.2 s rfl
  · refine tell_of (nice_mono (nice_tup (niceL_append (niceL_cons hy.ni n2.1) n1.1)) (by omega) (Nat.le_refl _)) (by omega) ?_
    cases hy.dl with
    | inl h =>
      refine Or.inl ?_
      show PyData.hasDictAll (toPys (us ++ y :: vs)) = false
      rw [toPys_append, hasDict_app, n1.2.1]
      show (y.toPy.hasDict || PyData.hasDictAll (toPys vs)) = false
      rw [h, n2.2.1]
      rfl
    | inr h =>
      refine Or.inr ?_
      show noLsts (us ++ y :: vs) = true
      rw [noLsts_app, n1.2.2]
      show (y.noLst && noLsts vs) = true
      rw [h, n2.2.2]
      rfl
theorem fine_lfs {us : List Dat} (hu : ∀ x ∈ us, Lf x) (hl : us.length ≤ 100) : Fine (.tup us) := by
  have n1 := lfs_nice us hu
  refine ⟨⟨(fun s e => nomatch e), ?_, ?_⟩, tell_of (nice_mono (nice_tup n1.1) (by omega) (Nat.le_refl _)) (by omega) (Or.inl n1.2.1)⟩
  · intro xs e
    cases e
    omega
  · intro s r e
    injection e with e
    exact (lf_nice (hu (.str s) (by rw [e]; exact List.mem_cons_self))).2.2.2 s rfl
theorem fine_lst {us : List Dat} (hu : ∀ x ∈ us, Lf x) (hl : us.length ≤ 100) : Fine (.lst us) := by
  have n1 := lfs_nice us hu
  exact ⟨⟨(fun s e => nomatch e), (fun s e => nomatch e), (fun s r e => nomatch e)⟩, tell_of (nice_mono (nice_lst n1.1) (by omega) (Nat.le_refl _)) (by omega) (Or.inl n1.2.1)⟩
theorem tup_part {us : List Dat} (hu : ∀ x ∈ us, Lf x) (hl : us.length ≤ 100) : Fine (.tup [.tup us]) := by
  have n1 := lfs_nice us hu
  refine ⟨smd_of rfl, tell_of (nice_mono (nice_tup (niceL_cons (nice_tup n1.1) (niceL_nil 6))) (by omega) (Nat.le_refl _)) (by omega) (Or.inl ?_)⟩
  show (PyData.hasDictAll (toPys us) || false) = false
  rw [n1.2.1]
  rfl
end K11
set_option Elab.async false
set_option linter.all false
set_option maxRecDepth 100000
set_option maxHeartbeats 4000000
namespace K11
open PySem Ev
theorem cut_len {α : Type} (xs : List α) (lo hi : Option Int) : (cut xs lo hi).length ≤ xs.length := by
  unfold cut
  rw [List.length_take, List.length_drop]
  omega
theorem cut_mem {α : Type} {xs : List α} {lo hi : Option Int} {x : α} (h : x ∈ cut xs lo hi) : x ∈ xs := List.mem_of_mem_drop (List.mem_of_mem_take h)
theorem tup_add (x y : List Dat) (h : x.length + y.length ≤ 1000) : binD .Add (.tup x) (.tup y) = some (.tup (x ++ y), .frz) := by
  show (if sm (x.length + y.length) = true then _ else _) = _
  rw [if_pos (sm_lit h)]
theorem evCutR {T : Tab} {a b : IE} {xs : List Dat} {i : Int} {ρ ρ1 ρ2 : DEnv} {k : Mode} (ha : ev T a ρ = .ok (.tup xs, .frz, ρ1)) (hb : ev T b ρ1 = .ok (.int i, k, ρ2)) :
    ev T (.slcR a b) ρ = .ok (.tup (cut xs none (some i)), .frz, ρ2) := by
  rw [ev, ha, bindOk]
  simp only [hb, bindOk, now, ofOs, slcD]
theorem evCutL {T : Tab} {a b : IE} {xs : List Dat} {i : Int} {ρ ρ1 ρ2 : DEnv} {k : Mode} (ha : ev T a ρ = .ok (.tup xs, .frz, ρ1)) (hb : ev T b ρ1 = .ok (.int i, k, ρ2)) :
    ev T (.slcL a b) ρ = .ok (.tup (cut xs (some i) none), .frz, ρ2) := by
  rw [ev, ha, bindOk]
  simp only [hb, bindOk, now, ofOs, slcD]
theorem mid_ev {T : Tab} {a b c d e : IE} {xs : List Dat} {y : Dat} {i j : Int} {ρ : DEnv} (hl : xs.length ≤ 10) (ha : ev T a ρ = .ok (.tup xs, .frz, ρ)) (hb : ev T b ρ = .ok (.int i, .frz, ρ)) (hc : ev T c ρ = .ok (y, .frz, ρ)) (hd : ev T d ρ = .ok (.int j, .frz, ρ)) :
    ev T (.bin .Add (.bin .Add (.slcR a b) (.tup (.cons c .nil))) (.slcL a d)) ρ = .ok (.tup (cut xs none (some i) ++ y :: cut xs (some j) none), .frz, ρ) := by
  have l1 := cut_len xs none (some i)
  have l2 := cut_len xs (some j) none
  have e1 : (cut xs none (some i) ++ [y]) ++ cut xs (some j) none = cut xs none (some i) ++ y :: cut xs (some j) none := by simp
  rw [← e1]
  refine evBin (evBin (evCutR ha hb) (evTup (evsCons (Or.inl rfl) hc evsNil) rfl) (tup_add _ _ (by show _ + 1 ≤ _; omega))) (evCutL ha hd) (tup_add _ _ (by rw [List.length_append]; show _ + 1 + _ ≤ _; omega))
theorem run_spoilt (a b : Int) (xs : List Dat) (hx : ∀ x ∈ xs, Lf x) (hl : xs.length ≤ 10) : ∃ (a' b' : Int) (d : Dat), Fine d ∧ fi__law_spoilt.run [pot a b, .tup xs] = .ok (d, false, [pot a' b']) := by
  obtain ⟨w, a1, b1, hw, h1⟩ := takeK (T := T_14) (i := 0) (ρ := [.own (pot a b), .val (.tup xs), .no, .no, .no, .no]) 8 tl__law_spoilt__law_take rfl (by decide)
  obtain ⟨o, ho, a2, b2, h2⟩ := run_odd a1 b1
  obtain ⟨t, a3, b3, ht, h3⟩ := takeC (T := T_14) (i := 0) (ρ := [.own (pot a2 b2), .val (.tup xs), .no, .no, .val (.int w), .val o]) (e := .bin .Add (.bi .len (.cons (.var 1) .nil)) (.cst (.int 1))) (m := (xs.length : Int) + 1) tl__law_spoilt__law_take rfl (evBin (evBi1 (evVar rfl) rfl) evCst rfl) (by omega)
  obtain ⟨q, a4, b4, hq, h4⟩ := takeK (T := T_14) (i := 0) (ρ := [.own (pot a3 b3), .val (.tup xs), .val (.int t), .no, .val (.int w), .val o]) 8 tl__law_spoilt__law_take rfl (by decide)
  obtain ⟨f, hf, hi⟩ := atI_mem (xs := [Dat.int 12, .int 11, .int 6, .int 7, .int (-1), .int (10 ^ 20), .int (-(10 ^ 20)), .int 2]) (i := q) hq
  have hfl : Lf f := by
    simp only [List.mem_cons, List.not_mem_nil, or_false] at hf
    rcases hf with rfl | rfl | rfl | rfl | rfl | rfl | rfl | rfl <;> exact Or.inl ⟨_, rfl, by decide⟩
  have hcut : ∀ lo hi, ∀ x ∈ cut xs lo hi, Lf x := fun lo hi x h => hx x (cut_mem h)
  have hcl := fun lo hi => cut_len xs lo hi
  suffices h : ∃ d : Dat, Fine d ∧ Ev.execs T_14 [0] bd__law_spoilt [.own (pot a b), .val (.tup xs), .no, .no, .no, .no] = .ok (.rt d false [.own (pot a4 b4), .val (.tup xs), .val (.int t), .val f, .val (.int w), .val o]) by
    obtain ⟨d, hd, he⟩ := h
    exact ⟨a4, b4, d, hd, rOf (ρ0 := [.own (pot a b), .val (.tup xs), .no, .no, .no, .no]) rfl rfl he rfl⟩
  unfold bd__law_spoilt
  rw [rPar (ds := [.int w, o]) (ρ1 := [.own (pot a2 b2), .val (.tup xs), .no, .no, .no, .no]) rfl (evsCons (Or.inl rfl) h1 (evsCons (Or.inl rfl) (callP1 (i := 0) (p := pot a1 b1) tl__law_spoilt__law_odd rfl rfl h2) evsNil)) rfl]
  have s2 : storeAll [4, 5] [.int w, o] [.own (pot a2 b2), .val (.tup xs), .no, .no, .no, .no] = [.own (pot a2 b2), .val (.tup xs), .no, .no, .val (.int w), .val o] := rfl
  rw [s2, rSet (by decide) h3]
  have s3 : store 2 (.int t) .frz ([.own (pot a2 b2), .val (.tup xs), .no, .no, .val (.int w), .val o].set 0 (.own (pot a3 b3))) = [.own (pot a3 b3), .val (.tup xs), .val (.int t), .no, .val (.int w), .val o] := rfl
  rw [s3, rSet (d := f) (m := .frz) (ρ1 := [.own (pot a4 b4), .val (.tup xs), .val (.int t), .no, .val (.int w), .val o]) (by decide) (evIdx (k := .fresh) (evLst (evsCons (Or.inl rfl) evCst (evsCons (Or.inl rfl) evCst (evsCons (Or.inl rfl) evCst (evsCons (Or.inl rfl) evCst (evsCons (Or.inl rfl) (evNeg evCst) (evsCons (Or.inl rfl) (evBin evCst evCst rfl) (evsCons (Or.inl rfl) (evNeg (evBin evCst evCst rfl)) (evsCons (Or.inl rfl) evCst evsNil)))))))) rfl) (Or.inr rfl) h4 hi)]
  have s4 : store 3 f .frz [.own (pot a4 b4), .val (.tup xs), .val (.int t), .no, .val (.int w), .val o] = [.own (pot a4 b4), .val (.tup xs), .val (.int t), .val f, .val (.int w), .val o] := rfl
  rw [s4]
  generalize hρ : [Slot.own (pot a4 b4), .val (.tup xs), .val (.int t), .val f, .val (.int w), .val o] = ρ
  have v1 : ev T_14 (.var 1) ρ = .ok (.tup xs, .frz, ρ) := evVar (by rw [← hρ]; rfl)
  have v2 : ev T_14 (.var 2) ρ = .ok (.int t, .frz, ρ) := evVar (by rw [← hρ]; rfl)
  have v3 : ev T_14 (.var 3) ρ = .ok (f, .frz, ρ) := evVar (by rw [← hρ]; rfl)
  have v4 : ev T_14 (.var 4) ρ = .ok (.int w, .frz, ρ) := evVar (by rw [← hρ]; rfl)
  have v5 : ev T_14 (.var 5) ρ = .ok (o, .frz, ρ) := evVar (by rw [← hρ]; rfl)
  have eqn : ∀ k : Int, ev T_14 (.cmp .Eq (.var 4) (.cst (.int k))) ρ = .ok (.bl (decide (w = k)), .frz, ρ) := fun k => evCmp v4 evCst rfl
  by_cases w0 : w = 0
  · have e := eqn 0
    rw [decide_eq_true w0] at e
    exact ⟨_, fine_mid (hcut _ _) (hcut _ _) (odd_part ho).1 (by have := hcl none (some t); have := hcl (some (t + 1)) none; omega), rIteT e (rRet (mid_ev (e := .var 0) hl v1 v2 v5 (evBin v2 evCst rfl)))⟩
  have e0 := eqn 0
  rw [decide_eq_false w0] at e0
  rw [rIteF e0]
  by_cases w1 : w = 1
  · have e := eqn 1
    rw [decide_eq_true w1] at e
    exact ⟨_, fine_mid (hcut _ _) (hcut _ _) (lf_part hfl) (by have := hcl none (some t); have := hcl (some (t + 1)) none; omega), rIteT e (rRet (mid_ev (e := .var 0) hl v1 v2 v3 (evBin v2 evCst rfl)))⟩
  have e1 := eqn 1
  rw [decide_eq_false w1] at e1
  rw [rIteF e1]
  by_cases w2 : w = 2
  · have e := eqn 2
    rw [decide_eq_true w2] at e
    exact ⟨_, fine_mid (hcut _ _) (hcut _ _) (lf_part hfl) (by have := hcl none (some t); have := hcl (some t) none; omega), rIteT e (rRet (mid_ev (e := .var 0) hl v1 v2 v3 v2))⟩
  have e2 := eqn 2
  rw [decide_eq_false w2] at e2
  rw [rIteF e2]
  obtain ⟨d, hd, hdi⟩ := atI_mem (xs := [Dat.lst xs, .tup (cut xs (some 1) none), .tup (xs ++ xs), .tup [.tup xs], o]) (i := w - 3) (by show 0 ≤ w - 3 ∧ w - 3 < 5; omega)
  refine ⟨d, ?_, rRet (evIdx (k := .fresh) (evLst (evsCons (Or.inr rfl) (evBi1 v1 rfl) (evsCons (Or.inl rfl) (evCutL v1 evCst) (evsCons (Or.inl rfl) (evBin v1 v1 (tup_add _ _ (by omega))) (evsCons (Or.inl rfl) (evTup (evsCons (Or.inl rfl) v1 evsNil) rfl) (evsCons (Or.inl rfl) v5 evsNil))))) rfl) (Or.inr rfl) (evBin v4 evCst rfl) hdi)⟩
  simp only [List.mem_cons, List.not_mem_nil, or_false] at hd
  rcases hd with rfl | rfl | rfl | rfl | rfl
  · exact fine_lst hx (by omega)
  · exact fine_lfs (hcut _ _) (by have := hcl (some 1) none; omega)
  · exact fine_lfs (fun x h => (List.mem_append.mp h).elim (hx x) (hx x)) (by rw [List.length_append]; omega)
  · exact tup_part hx (by omega)
  · exact odd_fine ho
end K11
set_option Elab.async false
set_option linter.all false
set_option maxRecDepth 100000
set_option maxHeartbeats 4000000
namespace K11
open PySem Ev
theorem low_app {x y : Str} (hx : lowS x) (hy : lowS y) : lowS (x ++ y) := by
  intro c hc
  have e : (x ++ y).cps.toList = x.cps.toList ++ y.cps.toList := TL.tl_append x y
  rw [e] at hc
  exact (List.mem_append.mp hc).elim (hx c) (hy c)
theorem low_cut {x : Str} (hx : lowS x) (lo hi : Option Int) : lowS (L2.cutS x lo hi) := by
  intro c hc
  unfold L2.cutS at hc
  exact hx c (List.mem_of_mem_drop (List.mem_of_mem_take hc))
theorem up1_low (c : Nat) (h : c < 128) : PyProof.Rows.up1 c < 128 := by
  unfold PyProof.Rows.up1
  split <;> omega
theorem low_upper {x : Str} (hx : lowS x) : lowS (Txt.upper x) ∧ (Txt.upper x).length = x.length := by
  rw [PyProof.Rows.upper_ascii hx]
  refine ⟨?_, ?_⟩
  · intro c hc
    rw [Array.toList_map] at hc
    obtain ⟨d, hd, rfl⟩ := List.mem_map.mp hc
    exact up1_low d (hx d hd)
  · exact Array.size_map
theorem lf_str {s : Str} (h : lowS s) (hl : s.length ≤ 16) : Lf (.str s) := Or.inr ⟨s, rfl, h, hl⟩
theorem fine_dic {s : Str} (h : lowS s) (hl : s.length ≤ 16) : Fine (.dic [(.str s, .tup [])]) := by
  refine ⟨⟨(fun s e => nomatch e), (fun s e => nomatch e), (fun s r e => nomatch e)⟩, tell_of (b := s.length + 0 + 2 + 0) ⟨rfl, ?_, ?_, Nat.le_refl _⟩ (by omega) (Or.inr rfl)⟩
  · show 1 + 1 ≤ 40
    decide
  · have := (nice_str h).lv
    show (PyData.leavesShort 25 (.str s) && PyData.leavesShort 25 (.tuple []) && true) = true
    have e : PyData.leavesShort 25 (.str s) = true := this
    rw [e]
    rfl
theorem evUpper {T : Tab} {o : IE} {ρ ρ1 : DEnv} {s : Str} {m : Mode} (h : ev T o ρ = .ok (.str s, m, ρ1)) (hs : s.length ≤ 1000) : ev T (.upper o) ρ = .ok (.str (Txt.upper s), .frz, ρ1) := by
  rw [ev, h, bindOk]
  simp only [sm_lit hs, if_true]
theorem evSlcLs {T : Tab} {a : IE} {s : Str} {i : Int} {ρ ρ1 : DEnv} (ha : ev T a ρ = .ok (.str s, .frz, ρ1)) (hs : s.length ≤ 1000) :
    ev T (.slcL a (.cst (.int i))) ρ = .ok (.str (L2.cutS s (some i) none), .frz, ρ1) := by
  rw [ev, ha, bindOk]
  simp only [evCst, bindOk, now, ofOs, slcD, sm_lit hs, if_true]
theorem evDic1 {T : Tab} {k v : IE} {s : Str} {d : Dat} {ρ ρ1 ρ2 : DEnv} {m : Mode} (hk : ev T k ρ = .ok (.str s, m, ρ1)) (hv : ev T v ρ1 = .ok (d, .frz, ρ2)) : ev T (.dic1 k v) ρ = .ok (.dic [(.str s, d)], .frz, ρ2) := by
  rw [ev, hk, bindOk]
  simp only [hv, bindOk, keep]
theorem run_near (a b : Int) (s : Str) (hlow : lowS s) (hl : s.length ≤ 8) : ∃ (a' b' : Int) (ds : List Dat), ds.length = 11 ∧ (∀ d ∈ ds, Fine d) ∧ fi__law_near.run [pot a b, .str s] = .ok (.lst ds, true, [pot a' b']) := by
  obtain ⟨o, ho, a', b', h2⟩ := run_odd a b
  have la : lowS (Txt.mul (Str.ofString "a") 8) ∧ (Txt.mul (Str.ofString "a") 8).length = 8 := by
    unfold lowS
    decide +kernel
  have l1 : lowS (Str.ofString " ") ∧ (Str.ofString " ").length = 1 := by
    unfold lowS
    decide
  have l2 : lowS (Str.ofString "1") ∧ (Str.ofString "1").length = 1 := by
    unfold lowS
    decide
  have l3 : lowS (Str.ofString "\n") ∧ (Str.ofString "\n").length = 1 := by
    unfold lowS
    decide
  have hu := low_upper hlow
  have hc := L2.cutS_length s (some 1) none
  have v1 : ∀ x : Slot, ev T_15 (.var 1) [.own (pot a b), .val (.str s), x] = .ok (.str s, .frz, [.own (pot a b), .val (.str s), x]) := fun x => evVar rfl
  have ne : Lf (.str s) := lf_str hlow (by omega)
  let ys : List Dat := [.str (s ++ Txt.mul (Str.ofString "a") 8), .str (s ++ Str.ofString " "), .str (Txt.upper s), .str (Str.ofString "1" ++ s), .str (L2.cutS s (some 1) none), .lst [.str s], .tup [.str s], .str (s ++ s), .str (s ++ Str.ofString "\n")]
  refine ⟨a', b', ys ++ [.dic [(.str s, .tup [])], o], rfl, ?_, ?_⟩
  · intro d hd
    simp only [ys, List.cons_append, List.nil_append, List.mem_cons, List.not_mem_nil, or_false] at hd
    rcases hd with rfl | rfl | rfl | rfl | rfl | rfl | rfl | rfl | rfl | rfl | rfl
    · exact lf_fine (lf_str (low_app hlow la.1) (by rw [Str.length_append]; omega))
    · exact lf_fine (lf_str (low_app hlow l1.1) (by rw [Str.length_append]; omega))
    · exact lf_fine (lf_str hu.1 (by omega))
    · exact lf_fine (lf_str (low_app l2.1 hlow) (by rw [Str.length_append]; omega))
    · exact lf_fine (lf_str (low_cut hlow _ _) (by omega))
    · exact fine_lst (fun x hx => by rw [List.mem_singleton] at hx; rw [hx]; exact ne) (by show 1 ≤ 100; omega)
    · exact fine_lfs (fun x hx => by rw [List.mem_singleton] at hx; rw [hx]; exact ne) (by show 1 ≤ 100; omega)
    · exact lf_fine (lf_str (low_app hlow hlow) (by rw [Str.length_append]; omega))
    · exact lf_fine (lf_str (low_app hlow l3.1) (by rw [Str.length_append]; omega))
    · exact fine_dic hlow (by omega)
    · exact odd_fine ho
  · refine rOf (ρ0 := [.own (pot a b), .val (.str s), .no]) (ρ := [.own (pot a' b'), .val (.str s), .own (.lst ys)]) rfl rfl ?_ rfl
    unfold bd__law_near
    rw [rSet (d := .lst ys) (m := .fresh) (ρ1 := [.own (pot a b), .val (.str s), .no]) (by decide) (evLst (evsCons (Or.inl rfl) (evBin (v1 _) (evBin evCst evCst rfl) (str_add _ _ (by omega))) (evsCons (Or.inl rfl) (evBin (v1 _) evCst (str_add _ _ (by omega))) (evsCons (Or.inl rfl) (evUpper (v1 _) (by omega)) (evsCons (Or.inl rfl) (evBin evCst (v1 _) (str_add _ _ (by omega))) (evsCons (Or.inl rfl) (evSlcLs (v1 _) (by omega)) (evsCons (Or.inr rfl) (evLst (evsCons (Or.inl rfl) (v1 _) evsNil) rfl) (evsCons (Or.inl rfl) (evTup (evsCons (Or.inl rfl) (v1 _) evsNil) rfl) (evsCons (Or.inl rfl) (evBin (v1 _) (v1 _) (str_add _ _ (by omega))) (evsCons (Or.inl rfl) (evBin (v1 _) evCst (str_add _ _ (by omega))) evsNil))))))))) rfl)]
    have s2 : store 2 (.lst ys) .fresh [.own (pot a b), .val (.str s), .no] = [.own (pot a b), .val (.str s), .own (.lst ys)] := rfl
    rw [s2]
    refine rRetN ?_
    have ha : ev T_15 (.var 2) [.own (pot a b), .val (.str s), .own (.lst ys)] = .ok (.lst ys, .brw 2, [.own (pot a b), .val (.str s), .own (.lst ys)]) := by rw [ev]; rfl
    have hb : ev T_15 (.lst (.cons (.dic1 (.var 1) (.tup .nil)) (.cons (.call (Str.ofString "_law_odd") (.cons (.var 0) .nil)) .nil))) [.own (pot a b), .val (.str s), .own (.lst ys)] = .ok (.lst [.dic [(.str s, .tup [])], o], .fresh, [.own (pot a' b'), .val (.str s), .own (.lst ys)]) :=
      evLst (evsCons (Or.inl rfl) (evDic1 (v1 _) (evTup evsNil rfl)) (evsCons (Or.inl rfl) (callP1 (i := 0) (p := pot a b) tl__law_near__law_odd rfl rfl h2) evsNil)) rfl
    rw [ev, ha, bindOk]
    simp only [hb, bindOk]
    rfl
end K11
set_option Elab.async false
set_option linter.all false
set_option maxRecDepth 100000
set_option maxHeartbeats 4000000
namespace K11
open PySem Ev
theorem call2 {T : Tab} {f : Str} {fi : FI} {e g : IE} {ρ : DEnv} {x y d : Dat} {new : Bool} (hf : T.fn f = some fi) (hio : fi.io = [false, false]) (he : ev T e ρ = .ok (x, .frz, ρ)) (hg : ev T g ρ = .ok (y, .frz, ρ)) (hr : fi.run [x, y] = .ok (d, new, [])) :
    ev T (.call f (.cons e (.cons g .nil))) ρ = .ok (d, if new then .fresh else .frz, ρ) := by
  rw [ev, hf]
  simp only [hio, evArgs, he, hg, bindOk, keep, slotsOf, List.nodup_nil, List.length_cons, List.length_nil, and_self, if_true, readArgs, ofOs, Option.map, hr, putBack]
theorem bls_true : ∀ xs : List Dat, bls? (xs.map fun _ => Dat.bl true) = some (xs.map fun _ => true)
  | [] => rfl
  | x :: r => by
    show (bls? (r.map fun _ => Dat.bl true)).map _ = _
    rw [bls_true r]
    rfl
theorem all_true : ∀ xs : List Dat, (xs.map fun _ => true).all id = true
  | [] => rfl
  | x :: r => all_true r
theorem law_turn (ns : List Int) (k : Nat) (s1 s2 s3 s4 s5 s6 : Slot) : ∃ t2 t3 t4 t5 t6 : Slot, turnOf (Ev.execs T_18 [] lp_law_1) 1 (.int (k : Int)) [.val (.scr ns), s1, s2, s3, s4, s5, s6, .no] = .ok (.nx [.val (.scr ns), .val (.int (k : Int)), t2, t3, t4, t5, t6, .no]) := by
  obtain ⟨a0, b0, h0⟩ := run_pot ns k
  obtain ⟨a1, b1, s, hs, hlow, h1⟩ := run_label a0 b0
  obtain ⟨r, a2, b2, hr, h2⟩ := takeK (T := T_18) (i := 2) (ρ := [.val (.scr ns), .val (.int (k : Int)), .own (pot a1 b1), s3, s4, s5, s6, .no]) 7 tl_law__law_take rfl (by decide)
  obtain ⟨n, rfl⟩ : ∃ n : Nat, r = (n : Int) := ⟨r.toNat, by omega⟩
  obtain ⟨a3, b3, ms, hm1, hm2, h3⟩ := run_lots a2 b2 n (by omega)
  obtain ⟨a4, b4, z, ps, hz, hzl, hp1, hp2, h4⟩ := run_path a3 b3
  have lots_lf : ∀ x ∈ ms.map di, Lf x := by
    intro x hx
    obtain ⟨i, hi, rfl⟩ := List.mem_map.mp hx
    have := hm2 i hi
    exact Or.inl ⟨i, rfl, by omega⟩
  have path_lf : ∀ x ∈ Dat.str z :: ps.map di, Lf x := by
    intro x hx
    cases hx with
    | head => exact lf_str hzl (by omega)
    | tail _ hx =>
      obtain ⟨i, hi, rfl⟩ := List.mem_map.mp hx
      have := hp2 i hi
      exact Or.inl ⟨i, rfl, by omega⟩
  have lots_len : (ms.map di).length ≤ 10 := by rw [List.length_map]; omega
  have path_len : (Dat.str z :: ps.map di).length ≤ 10 := by rw [List.length_cons, List.length_map]; omega
  obtain ⟨a5, b5, d5, f5, h5⟩ := run_spoilt a4 b4 (ms.map di) lots_lf lots_len
  obtain ⟨a6, b6, d6, f6, h6⟩ := run_spoilt a5 b5 (Dat.str z :: ps.map di) path_lf path_len
  obtain ⟨o, ho, a7, b7, h7⟩ := run_odd a6 b6
  obtain ⟨a8, b8, ds, hds, hdf, h8⟩ := run_near a7 b7 s hlow hs.2
  generalize hL : Dat.tup (ms.map di) = L at *
  generalize hP : Dat.tup (Dat.str z :: ps.map di) = P at *
  have fL : Fine L := by rw [← hL]; exact fine_lfs lots_lf (by omega)
  have fP : Fine P := by rw [← hP]; exact fine_lfs path_lf (by omega)
  have fs : Fine (.str s) := lf_fine (lf_str hlow (by omega))
  let al : List Dat := [.str s, L, P, d5, d6, o] ++ ds
  have hal : al.length = 17 := by
    show ([.str s, L, P, d5, d6, o] ++ ds : List Dat).length = 17
    rw [List.length_append, hds]
    rfl
  have fal : ∀ x ∈ al, Fine x := by
    intro x hx
    rcases List.mem_append.mp hx with hx | hx
    · simp only [List.mem_cons, List.not_mem_nil, or_false] at hx
      rcases hx with rfl | rfl | rfl | rfl | rfl | rfl
      · exact fs
      · exact fL
      · exact fP
      · exact f5
      · exact f6
      · exact odd_fine ho
    · exact hdf x hx
  refine ⟨.own (pot a8 b8), .val (.lst al), .val (.str s), .val L, .val P, ?_⟩
  unfold turnOf lp_law_1
  have e0 : [Slot.val (.scr ns), s1, s2, s3, s4, s5, s6, .no].set 1 (.val (.int (k : Int))) = [.val (.scr ns), .val (.int (k : Int)), s2, s3, s4, s5, s6, .no] := rfl
  rw [e0, rSet (d := pot a0 b0) (m := .fresh) (ρ1 := [.val (.scr ns), .val (.int (k : Int)), s2, s3, s4, s5, s6, .no]) (by decide) (call2 tl_law__law_pot rfl (evVar rfl) (evVar rfl) h0)]
  have e1 : store 2 (pot a0 b0) .fresh [.val (.scr ns), .val (.int (k : Int)), s2, s3, s4, s5, s6, .no] = [.val (.scr ns), .val (.int (k : Int)), .own (pot a0 b0), s3, s4, s5, s6, .no] := rfl
  rw [e1, rPar (ds := [.str s, L, P]) (ρ1 := [.val (.scr ns), .val (.int (k : Int)), .own (pot a4 b4), s3, s4, s5, s6, .no]) rfl (evsCons (Or.inl rfl) (callPT (i := 2) (p' := pot a1 b1) tl_law__law_label rfl rfl (evLst evsNil rfl) h1) (evsCons (Or.inl rfl) (callP2 (i := 2) (p0 := pot a1 b1) (p := pot a2 b2) (p' := pot a3 b3) tl_law__law_lots rfl rfl h2 rfl h3) (evsCons (Or.inl rfl) (callP1 (i := 2) (p := pot a3 b3) (p' := pot a4 b4) tl_law__law_path rfl rfl h4) evsNil))) rfl]
  have e2 : storeAll [4, 5, 6] [.str s, L, P] [.val (.scr ns), .val (.int (k : Int)), .own (pot a4 b4), s3, s4, s5, s6, .no] = [.val (.scr ns), .val (.int (k : Int)), .own (pot a4 b4), s3, .val (.str s), .val L, .val P, .no] := rfl
  rw [e2, rSet (d := .lst al) (m := .fresh) (ρ1 := [.val (.scr ns), .val (.int (k : Int)), .own (pot a8 b8), s3, .val (.str s), .val L, .val P, .no]) (by decide) (evBinF (x := .lst [.str s, L, P, d5, d6, o]) (y := .lst ds) (k := .fresh) (evLst (evsCons (Or.inl rfl) (evVar rfl) (evsCons (Or.inl rfl) (evVar rfl) (evsCons (Or.inl rfl) (evVar rfl) (evsCons (Or.inl rfl) (callP2 (i := 2) (p0 := pot a4 b4) (p := pot a4 b4) (p' := pot a5 b5) tl_law__law_spoilt rfl rfl (evVar rfl) rfl h5) (evsCons (Or.inl rfl) (callP2 (i := 2) (p0 := pot a5 b5) (p := pot a5 b5) (p' := pot a6 b6) tl_law__law_spoilt rfl rfl (evVar rfl) rfl h6) (evsCons (Or.inl rfl) (callP1 (i := 2) (p := pot a6 b6) (p' := pot a7 b7) tl_law__law_odd rfl rfl h7) evsNil)))))) rfl) (callP2 (i := 2) (p0 := pot a7 b7) (p := pot a7 b7) (p' := pot a8 b8) tl_law__law_near rfl rfl (evVar rfl) rfl h8) (lst_add _ _ (by rw [hds]; show 6 + 11 ≤ 1000; omega)))]
  have e3 : store 3 (.lst al) .fresh [.val (.scr ns), .val (.int (k : Int)), .own (pot a8 b8), s3, .val (.str s), .val L, .val P, .no] = [.val (.scr ns), .val (.int (k : Int)), .own (pot a8 b8), .own (.lst al), .val (.str s), .val L, .val P, .no] := rfl
  rw [e3]
  have hv : ev T_18 (.var 3) [.val (.scr ns), .val (.int (k : Int)), .own (pot a8 b8), .own (.lst al), .val (.str s), .val L, .val P, .no] = .ok (.lst al, .brw 3, [.val (.scr ns), .val (.int (k : Int)), .own (pot a8 b8), .own (.lst al), .val (.str s), .val L, .val P, .no]) := by rw [ev]; rfl
  obtain ⟨sl', ht⟩ := turns_map (f := oneOf (ev T_18 el_law_1) 7 [7]) (fun _ => .bl true) (fun sl => [.val (.scr ns), .val (.int (k : Int)), .own (pot a8 b8), .val (.lst al), .val (.str s), .val L, .val P, sl]) al .no (by
    intro x hx sl
    have fx := fal x hx
    unfold oneOf el_law_1
    show (ev T_18 _ [.val (.scr ns), .val (.int (k : Int)), .own (pot a8 b8), .val (.lst al), .val (.str s), .val L, .val P, .val x]).bind _ = _
    rw [call1 tl_law__law_right rfl (evVar (d := x) rfl) (run_law_right x fx.1 fx.2), bindOk]
    rfl)
  have hc : ev T_18 (.lc el_law_1 7 (.var 3) [((Str.ofString "_law_thing"), 7)]) [.val (.scr ns), .val (.int (k : Int)), .own (pot a8 b8), .own (.lst al), .val (.str s), .val L, .val P, .no] = .ok (.lst (al.map fun _ => .bl true), .fresh, [.val (.scr ns), .val (.int (k : Int)), .own (pot a8 b8), .val (.lst al), .val (.str s), .val L, .val P, .no]) := by
    rw [evLc hv rfl]
    exact rComp (sm_lit (by omega)) rfl ht rfl
  have hb : biD .all [.lst (al.map fun _ => Dat.bl true)] = some (.bl true, .frz) := by
    show (bls? (al.map fun _ => Dat.bl true)).map _ = _
    rw [bls_true]
    show some (Dat.bl ((al.map fun _ => true).all id), Mode.frz) = _
    rw [all_true]
  have hn : ev T_18 (.not (.bi .all (.cons (.lc el_law_1 7 (.var 3) [((Str.ofString "_law_thing"), 7)]) .nil))) [.val (.scr ns), .val (.int (k : Int)), .own (pot a8 b8), .own (.lst al), .val (.str s), .val L, .val P, .no] = .ok (.bl false, .frz, [.val (.scr ns), .val (.int (k : Int)), .own (pot a8 b8), .val (.lst al), .val (.str s), .val L, .val P, .no]) := by
    rw [ev, evBi1 hc hb, bindOk]
    rfl
  rw [rIteF hn, Ev.execs]
theorem law_turns (ns : List Int) : ∀ (ks : List Nat) (s1 s2 s3 s4 s5 s6 : Slot), ∃ t1 t2 t3 t4 t5 t6 : Slot, loop (turnOf (Ev.execs T_18 [] lp_law_1) 1) (ks.map fun (k : Nat) => .int (k : Int)) [.val (.scr ns), s1, s2, s3, s4, s5, s6, .no] = .ok (.nx [.val (.scr ns), t1, t2, t3, t4, t5, t6, .no])
  | [], s1, s2, s3, s4, s5, s6 => ⟨s1, s2, s3, s4, s5, s6, rfl⟩
  | k :: ks, s1, s2, s3, s4, s5, s6 => by
    obtain ⟨t2, t3, t4, t5, t6, h⟩ := law_turn ns k s1 s2 s3 s4 s5 s6
    obtain ⟨u1, u2, u3, u4, u5, u6, h'⟩ := law_turns ns ks (.val (.int (k : Int))) t2 t3 t4 t5 t6
    refine ⟨u1, u2, u3, u4, u5, u6, ?_⟩
    rw [List.map_cons, loop, h, bindOk]
    exact h'
theorem law_true (ns : List Int) (hn : ns.length ≤ 63) : fi_law.run [.scr ns] = .ok (.bl true, false, []) := by
  obtain ⟨n, hn8, hlen⟩ : ∃ n : Nat, n ≤ 8 ∧ ev T_18 (.bi .max (.cons (.cst (.int 1)) (.cons (.bi .min (.cons (.cst (.int 8)) (.cons (.bi .len (.cons (.var 0) .nil)) .nil))) .nil))) [.val (.scr ns), .no, .no, .no, .no, .no, .no, .no] = .ok (.int (n : Int), .frz, [.val (.scr ns), .no, .no, .no, .no, .no, .no, .no]) := by
    refine ⟨(if (if (ns.length : Int) < 8 then (ns.length : Int) else 8) > 1 then (if (ns.length : Int) < 8 then (ns.length : Int) else 8) else 1).toNat, ?_, ?_⟩
    · split <;> split <;> omega
    · rw [Int.toNat_of_nonneg (by split <;> split <;> omega)]
      exact evBi2 evCst (evBi2 evCst (evBi1 (evVar rfl) rfl) rfl) rfl
  obtain ⟨t1, t2, t3, t4, t5, t6, h⟩ := law_turns ns (List.range n) .no .no .no .no .no .no
  refine rOf (ρ0 := [.val (.scr ns), .no, .no, .no, .no, .no, .no, .no]) (ρ := [.val (.scr ns), t1, t2, t3, t4, t5, t6, .no]) rfl rfl ?_ rfl
  unfold bd_law
  have hc : ev T_18 (.cmp .NotEq (.lst (.cons (.glb (Str.ofString "FACE")) (.cons (.glb (Str.ofString "MOST_KINDS")) (.cons (.glb (Str.ofString "MOST_HANDS")) .nil)))) (.lst (.cons (.cst (.int 0)) (.cons (.cst (.int 12)) (.cons (.cst (.int 6)) .nil))))) [.val (.scr ns), .no, .no, .no, .no, .no, .no, .no] = .ok (.bl false, .frz, [.val (.scr ns), .no, .no, .no, .no, .no, .no, .no]) := by rfl
  rw [rIteF hc]
  unfold rl_law_1
  rw [rForR (n := n) (m := .frz) (ρ1 := [.val (.scr ns), .no, .no, .no, .no, .no, .no, .no]) (by decide) hlen (by omega)]
  have h' : loop (turnOf (Ev.execs T_18 [] lp_law_1) 1) ((List.range n).map fun (k : Nat) => Dat.int (k : Int)) [.val (.scr ns), .no, .no, .no, .no, .no, .no, .no] = _ := h
  have hio : ioIx 0 io_law = [] := rfl
  rw [hio, h', bindOk]
  exact rRet evCst
end K11
set_option Elab.async false
set_option linter.all false
set_option maxRecDepth 100000
set_option maxHeartbeats 8000000
namespace K11
open PySem PySem.Spec PyProof.Rows L2 Ev
theorem all_mk {P : Program} {w : World} {K : PySem.W.Frag} {h : Heap} {mg : Str → Option Value} {fa f0 f1 f2 f3 f4 f5 f6 f7 f8 f9 f10 f11 f12 f13 f14 f15 f16 f17 f18 : Addr} (X : K.In h) (G : h.Ns mainGlobals mg) (hfa : mg "law" = some (.ref fa))
    {t0 t1 t2 t3 t4 t5 : Tok}
    {od0 an0 : Option Addr} {sl0 : Array (Option Value)} {oc0 kV0 dc0 pm0 cd0 ct0 : Value}
    {od1 an1 : Option Addr} {sl1 : Array (Option Value)} {oc1 kV1 dc1 pm1 cd1 ct1 : Value}
    {od2 an2 : Option Addr} {sl2 : Array (Option Value)} {oc2 kV2 dc2 pm2 cd2 ct2 : Value}
    {od3 an3 : Option Addr} {sl3 : Array (Option Value)} {oc3 kV3 dc3 pm3 cd3 ct3 : Value}
    {od4 an4 : Option Addr} {sl4 : Array (Option Value)} {oc4 kV4 dc4 pm4 cd4 ct4 : Value}
    {od5 an5 : Option Addr} {sl5 : Array (Option Value)} {oc5 kV5 dc5 pm5 cd5 ct5 : Value}
    {od6 an6 : Option Addr} {sl6 : Array (Option Value)} {oc6 kV6 dc6 pm6 cd6 ct6 : Value}
    {od7 an7 : Option Addr} {sl7 : Array (Option Value)} {oc7 kV7 dc7 pm7 cd7 ct7 : Value}
    {od8 an8 : Option Addr} {sl8 : Array (Option Value)} {oc8 kV8 dc8 pm8 cd8 ct8 : Value}
    {od9 an9 : Option Addr} {sl9 : Array (Option Value)} {oc9 kV9 dc9 pm9 cd9 ct9 : Value}
    {od10 an10 : Option Addr} {sl10 : Array (Option Value)} {oc10 kV10 dc10 pm10 cd10 ct10 : Value}
    {od11 an11 : Option Addr} {sl11 : Array (Option Value)} {oc11 kV11 dc11 pm11 cd11 ct11 : Value}
    {od12 an12 : Option Addr} {sl12 : Array (Option Value)} {oc12 kV12 dc12 pm12 cd12 ct12 : Value}
    {od13 an13 : Option Addr} {sl13 : Array (Option Value)} {oc13 kV13 dc13 pm13 cd13 ct13 : Value}
    {od14 an14 : Option Addr} {sl14 : Array (Option Value)} {oc14 kV14 dc14 pm14 cd14 ct14 : Value}
    {od15 an15 : Option Addr} {sl15 : Array (Option Value)} {oc15 kV15 dc15 pm15 cd15 ct15 : Value}
    {od16 an16 : Option Addr} {sl16 : Array (Option Value)} {oc16 kV16 dc16 pm16 cd16 ct16 : Value}
    {od17 an17 : Option Addr} {sl17 : Array (Option Value)} {oc17 kV17 dc17 pm17 cd17 ct17 : Value}
    {od18 an18 : Option Addr} {sl18 : Array (Option Value)} {oc18 kV18 dc18 pm18 cd18 ct18 : Value}
    (a0 : PySem.W.nsIn K mainGlobals "is_whole" = some (some (.ref f0)))
    (l0 : K.lookup f0 = some ⟨oc0, od0, .func (PySem.W.fnOf "is_whole" "is_whole" (defArgs st_is_whole) (defBody st_is_whole) (defScope st_is_whole) .none kV0 dc0 pm0 an0 cd0 ct0), sl0⟩)
    (c0 : PySem.W.codeIn K cd0 "is_whole" = true)
    (k0 : PySem.W.keepIn K (.ref f0) = true)
    (a1 : PySem.W.nsIn K mainGlobals "is_name" = some (some (.ref f1)))
    (l1 : K.lookup f1 = some ⟨oc1, od1, .func (PySem.W.fnOf "is_name" "is_name" (defArgs st_is_name) (defBody st_is_name) (defScope st_is_name) .none kV1 dc1 pm1 an1 cd1 ct1), sl1⟩)
    (c1 : PySem.W.codeIn K cd1 "is_name" = true)
    (k1 : PySem.W.keepIn K (.ref f1) = true)
    (a2 : PySem.W.nsIn K mainGlobals "is_lots" = some (some (.ref f2)))
    (l2 : K.lookup f2 = some ⟨oc2, od2, .func (PySem.W.fnOf "is_lots" "is_lots" (defArgs st_is_lots) (defBody st_is_lots) (defScope st_is_lots) .none kV2 dc2 pm2 an2 cd2 ct2), sl2⟩)
    (c2 : PySem.W.codeIn K cd2 "is_lots" = true)
    (k2 : PySem.W.keepIn K (.ref f2) = true)
    (a3 : PySem.W.nsIn K mainGlobals "is_who" = some (some (.ref f3)))
    (l3 : K.lookup f3 = some ⟨oc3, od3, .func (PySem.W.fnOf "is_who" "is_who" (defArgs st_is_who) (defBody st_is_who) (defScope st_is_who) .none kV3 dc3 pm3 an3 cd3 ct3), sl3⟩)
    (c3 : PySem.W.codeIn K cd3 "is_who" = true)
    (k3 : PySem.W.keepIn K (.ref f3) = true)
    (a4 : PySem.W.nsIn K mainGlobals "_law_pot" = some (some (.ref f4)))
    (l4 : K.lookup f4 = some ⟨oc4, od4, .func (PySem.W.fnOf "_law_pot" "_law_pot" (defArgs st__law_pot) (defBody st__law_pot) (defScope st__law_pot) .none kV4 dc4 pm4 an4 cd4 ct4), sl4⟩)
    (c4 : PySem.W.codeIn K cd4 "_law_pot" = true)
    (k4 : PySem.W.keepIn K (.ref f4) = true)
    (a5 : PySem.W.nsIn K mainGlobals "_law_take" = some (some (.ref f5)))
    (l5 : K.lookup f5 = some ⟨oc5, od5, .func (PySem.W.fnOf "_law_take" "_law_take" (defArgs st__law_take) (defBody st__law_take) (defScope st__law_take) .none kV5 dc5 pm5 an5 cd5 ct5), sl5⟩)
    (c5 : PySem.W.codeIn K cd5 "_law_take" = true)
    (k5 : PySem.W.keepIn K (.ref f5) = true)
    (a6 : PySem.W.nsIn K mainGlobals "_law_label" = some (some (.ref f6)))
    (l6 : K.lookup f6 = some ⟨oc6, od6, .func (PySem.W.fnOf "_law_label" "_law_label" (defArgs st__law_label) (defBody st__law_label) (defScope st__law_label) .none kV6 dc6 pm6 an6 cd6 ct6), sl6⟩)
    (c6 : PySem.W.codeIn K cd6 "_law_label" = true)
    (k6 : PySem.W.keepIn K (.ref f6) = true)
    (a7 : PySem.W.nsIn K mainGlobals "_law_lots" = some (some (.ref f7)))
    (l7 : K.lookup f7 = some ⟨oc7, od7, .func (PySem.W.fnOf "_law_lots" "_law_lots" (defArgs st__law_lots) (defBody st__law_lots) (defScope st__law_lots) .none kV7 dc7 pm7 an7 cd7 ct7), sl7⟩)
    (c7 : PySem.W.codeIn K cd7 "_law_lots" = true)
    (k7 : PySem.W.keepIn K (.ref f7) = true)
    (a8 : PySem.W.nsIn K mainGlobals "_law_odd" = some (some (.ref f8)))
    (l8 : K.lookup f8 = some ⟨oc8, od8, .func (PySem.W.fnOf "_law_odd" "_law_odd" (defArgs st__law_odd) (defBody st__law_odd) (defScope st__law_odd) .none kV8 dc8 pm8 an8 cd8 ct8), sl8⟩)
    (c8 : PySem.W.codeIn K cd8 "_law_odd" = true)
    (k8 : PySem.W.keepIn K (.ref f8) = true)
    (a9 : PySem.W.nsIn K mainGlobals "_law_is_label" = some (some (.ref f9)))
    (l9 : K.lookup f9 = some ⟨oc9, od9, .func (PySem.W.fnOf "_law_is_label" "_law_is_label" (defArgs st__law_is_label) (defBody st__law_is_label) (defScope st__law_is_label) .none kV9 dc9 pm9 an9 cd9 ct9), sl9⟩)
    (c9 : PySem.W.codeIn K cd9 "_law_is_label" = true)
    (k9 : PySem.W.keepIn K (.ref f9) = true)
    (a10 : PySem.W.nsIn K mainGlobals "_law_is_whole" = some (some (.ref f10)))
    (l10 : K.lookup f10 = some ⟨oc10, od10, .func (PySem.W.fnOf "_law_is_whole" "_law_is_whole" (defArgs st__law_is_whole) (defBody st__law_is_whole) (defScope st__law_is_whole) .none kV10 dc10 pm10 an10 cd10 ct10), sl10⟩)
    (c10 : PySem.W.codeIn K cd10 "_law_is_whole" = true)
    (k10 : PySem.W.keepIn K (.ref f10) = true)
    (a11 : PySem.W.nsIn K mainGlobals "_law_are_lots" = some (some (.ref f11)))
    (l11 : K.lookup f11 = some ⟨oc11, od11, .func (PySem.W.fnOf "_law_are_lots" "_law_are_lots" (defArgs st__law_are_lots) (defBody st__law_are_lots) (defScope st__law_are_lots) .none kV11 dc11 pm11 an11 cd11 ct11), sl11⟩)
    (c11 : PySem.W.codeIn K cd11 "_law_are_lots" = true)
    (k11 : PySem.W.keepIn K (.ref f11) = true)
    (a12 : PySem.W.nsIn K mainGlobals "_law_is_path" = some (some (.ref f12)))
    (l12 : K.lookup f12 = some ⟨oc12, od12, .func (PySem.W.fnOf "_law_is_path" "_law_is_path" (defArgs st__law_is_path) (defBody st__law_is_path) (defScope st__law_is_path) .none kV12 dc12 pm12 an12 cd12 ct12), sl12⟩)
    (c12 : PySem.W.codeIn K cd12 "_law_is_path" = true)
    (k12 : PySem.W.keepIn K (.ref f12) = true)
    (a13 : PySem.W.nsIn K mainGlobals "_law_path" = some (some (.ref f13)))
    (l13 : K.lookup f13 = some ⟨oc13, od13, .func (PySem.W.fnOf "_law_path" "_law_path" (defArgs st__law_path) (defBody st__law_path) (defScope st__law_path) .none kV13 dc13 pm13 an13 cd13 ct13), sl13⟩)
    (c13 : PySem.W.codeIn K cd13 "_law_path" = true)
    (k13 : PySem.W.keepIn K (.ref f13) = true)
    (a14 : PySem.W.nsIn K mainGlobals "_law_spoilt" = some (some (.ref f14)))
    (l14 : K.lookup f14 = some ⟨oc14, od14, .func (PySem.W.fnOf "_law_spoilt" "_law_spoilt" (defArgs st__law_spoilt) (defBody st__law_spoilt) (defScope st__law_spoilt) .none kV14 dc14 pm14 an14 cd14 ct14), sl14⟩)
    (c14 : PySem.W.codeIn K cd14 "_law_spoilt" = true)
    (k14 : PySem.W.keepIn K (.ref f14) = true)
    (a15 : PySem.W.nsIn K mainGlobals "_law_near" = some (some (.ref f15)))
    (l15 : K.lookup f15 = some ⟨oc15, od15, .func (PySem.W.fnOf "_law_near" "_law_near" (defArgs st__law_near) (defBody st__law_near) (defScope st__law_near) .none kV15 dc15 pm15 an15 cd15 ct15), sl15⟩)
    (c15 : PySem.W.codeIn K cd15 "_law_near" = true)
    (k15 : PySem.W.keepIn K (.ref f15) = true)
    (a16 : PySem.W.nsIn K mainGlobals "_law_judged" = some (some (.ref f16)))
    (l16 : K.lookup f16 = some ⟨oc16, od16, .func (PySem.W.fnOf "_law_judged" "_law_judged" (defArgs st__law_judged) (defBody st__law_judged) (defScope st__law_judged) .none kV16 dc16 pm16 an16 cd16 ct16), sl16⟩)
    (c16 : PySem.W.codeIn K cd16 "_law_judged" = true)
    (k16 : PySem.W.keepIn K (.ref f16) = true)
    (a17 : PySem.W.nsIn K mainGlobals "_law_right" = some (some (.ref f17)))
    (l17 : K.lookup f17 = some ⟨oc17, od17, .func (PySem.W.fnOf "_law_right" "_law_right" (defArgs st__law_right) (defBody st__law_right) (defScope st__law_right) .none kV17 dc17 pm17 an17 cd17 ct17), sl17⟩)
    (c17 : PySem.W.codeIn K cd17 "_law_right" = true)
    (k17 : PySem.W.keepIn K (.ref f17) = true)
    (a18 : PySem.W.nsIn K mainGlobals "law" = some (some (.ref f18)))
    (l18 : K.lookup f18 = some ⟨oc18, od18, .func (PySem.W.fnOf "law" "law" (defArgs st_law) (defBody st_law) (defScope st_law) .none kV18 dc18 pm18 an18 cd18 ct18), sl18⟩)
    (c18 : PySem.W.codeIn K cd18 "law" = true)
    (k18 : PySem.W.keepIn K (.ref f18) = true)
    (z_all : PySem.W.nsIn K mainGlobals "all" = some none)
    (z_bool : PySem.W.nsIn K mainGlobals "bool" = some none)
    (z_dict : PySem.W.nsIn K mainGlobals "dict" = some none)
    (z_divmod : PySem.W.nsIn K mainGlobals "divmod" = some none)
    (z_int : PySem.W.nsIn K mainGlobals "int" = some none)
    (z_isinstance : PySem.W.nsIn K mainGlobals "isinstance" = some none)
    (z_len : PySem.W.nsIn K mainGlobals "len" = some none)
    (z_list : PySem.W.nsIn K mainGlobals "list" = some none)
    (z_max : PySem.W.nsIn K mainGlobals "max" = some none)
    (z_min : PySem.W.nsIn K mainGlobals "min" = some none)
    (z_range : PySem.W.nsIn K mainGlobals "range" = some none)
    (z_repr : PySem.W.nsIn K mainGlobals "repr" = some none)
    (z_str : PySem.W.nsIn K mainGlobals "str" = some none)
    (z_tuple : PySem.W.nsIn K mainGlobals "tuple" = some none)
    (y0 : PySem.W.nsIn K mainGlobals "FACE" = some (some (.int 0 t0)))
    (y1 : PySem.W.nsIn K mainGlobals "MOST_KINDS" = some (some (.int 12 t1)))
    (y2 : PySem.W.nsIn K mainGlobals "MOST_HANDS" = some (some (.int 6 t2)))
    (y3 : PySem.W.nsIn K mainGlobals "MOST_LETTERS" = some (some (.int 8 t3)))
    (y4 : PySem.W.nsIn K mainGlobals "MOST_PLACE" = some (some (.int 11 t4)))
    (y5 : PySem.W.nsIn K mainGlobals "LETTERS" = some (some (.str (Str.ofString "abcdefghijklmnopqrstuvwxyz") t5)))
    : ∃ fd : FuncData, (∀ (s : Shared) (v : Value), BindsTo s fd ⟨[v], []⟩ [("_law_script", v)]) ∧ ∀ base : Heap, K.In base → base.Ns mainGlobals mg → FnG P w K mg base 19 fa fd ["_law_script"] (spD K fi_law) := by
  cases hfa.symm.trans (PySem.W.mg_of X G a18)
  have F0 := fun_mk (st := st_is_whole) l0 c0 k0
  have b0 := F0.binds (ps := ["thing", "least", "most"]) fun _ _ _ _ _ _ us hl => match us, hl with | [_, _, _], _ => rfl
  have F1 := fun_mk (st := st_is_name) l1 c1 k1
  have b1 := F1.binds (ps := ["thing"]) fun _ _ _ _ _ _ us hl => match us, hl with | [_], _ => rfl
  have F2 := fun_mk (st := st_is_lots) l2 c2 k2
  have b2 := F2.binds (ps := ["thing"]) fun _ _ _ _ _ _ us hl => match us, hl with | [_], _ => rfl
  have F3 := fun_mk (st := st_is_who) l3 c3 k3
  have b3 := F3.binds (ps := ["thing"]) fun _ _ _ _ _ _ us hl => match us, hl with | [_], _ => rfl
  have F4 := fun_mk (st := st__law_pot) l4 c4 k4
  have b4 := F4.binds (ps := ["_law_script", "_law_k"]) fun _ _ _ _ _ _ us hl => match us, hl with | [_, _], _ => rfl
  have F5 := fun_mk (st := st__law_take) l5 c5 k5
  have b5 := F5.binds (ps := ["_law_pot_here", "_law_much"]) fun _ _ _ _ _ _ us hl => match us, hl with | [_, _], _ => rfl
  have F6 := fun_mk (st := st__law_label) l6 c6 k6
  have b6 := F6.binds (ps := ["_law_pot_here", "_law_used"]) fun _ _ _ _ _ _ us hl => match us, hl with | [_, _], _ => rfl
  have F7 := fun_mk (st := st__law_lots) l7 c7 k7
  have b7 := F7.binds (ps := ["_law_pot_here", "_law_many"]) fun _ _ _ _ _ _ us hl => match us, hl with | [_, _], _ => rfl
  have F8 := fun_mk (st := st__law_odd) l8 c8 k8
  have b8 := F8.binds (ps := ["_law_pot_here"]) fun _ _ _ _ _ _ us hl => match us, hl with | [_], _ => rfl
  have F9 := fun_mk (st := st__law_is_label) l9 c9 k9
  have b9 := F9.binds (ps := ["_law_thing"]) fun _ _ _ _ _ _ us hl => match us, hl with | [_], _ => rfl
  have F10 := fun_mk (st := st__law_is_whole) l10 c10 k10
  have b10 := F10.binds (ps := ["_law_thing", "_law_low", "_law_high"]) fun _ _ _ _ _ _ us hl => match us, hl with | [_, _, _], _ => rfl
  have F11 := fun_mk (st := st__law_are_lots) l11 c11 k11
  have b11 := F11.binds (ps := ["_law_thing"]) fun _ _ _ _ _ _ us hl => match us, hl with | [_], _ => rfl
  have F12 := fun_mk (st := st__law_is_path) l12 c12 k12
  have b12 := F12.binds (ps := ["_law_thing"]) fun _ _ _ _ _ _ us hl => match us, hl with | [_], _ => rfl
  have F13 := fun_mk (st := st__law_path) l13 c13 k13
  have b13 := F13.binds (ps := ["_law_pot_here"]) fun _ _ _ _ _ _ us hl => match us, hl with | [_], _ => rfl
  have F14 := fun_mk (st := st__law_spoilt) l14 c14 k14
  have b14 := F14.binds (ps := ["_law_pot_here", "_law_thing"]) fun _ _ _ _ _ _ us hl => match us, hl with | [_, _], _ => rfl
  have F15 := fun_mk (st := st__law_near) l15 c15 k15
  have b15 := F15.binds (ps := ["_law_pot_here", "_law_name"]) fun _ _ _ _ _ _ us hl => match us, hl with | [_, _], _ => rfl
  have F16 := fun_mk (st := st__law_judged) l16 c16 k16
  have b16 := F16.binds (ps := ["_law_thing"]) fun _ _ _ _ _ _ us hl => match us, hl with | [_], _ => rfl
  have F17 := fun_mk (st := st__law_right) l17 c17 k17
  have b17 := F17.binds (ps := ["_law_thing"]) fun _ _ _ _ _ _ us hl => match us, hl with | [_], _ => rfl
  have F18 := fun_mk (st := st_law) l18 c18 k18
  have b18 := F18.binds (ps := ["_law_script"]) fun _ _ _ _ _ _ us hl => match us, hl with | [_], _ => rfl
  refine ⟨PySem.W.fnOf "law" "law" (defArgs st_law) (defBody st_law) (defScope st_law) .none kV18 dc18 pm18 an18 cd18 ct18, fun s v => .of_eq rfl, fun base KB GB => ?_⟩
  have M0 : ModF T_0 0 P w K mg base := by
    refine ⟨fun b => ?_, PySem.W.mg_none_of X G z_isinstance, PySem.W.mg_none_of X G z_range, fun ty hty => ?_, fun x d e => ?_, fun f fi e => nomatch e⟩
    · cases b
      · exact PySem.W.mg_none_of X G z_len
      · exact PySem.W.mg_none_of X G z_max
      · exact PySem.W.mg_none_of X G z_min
      · exact PySem.W.mg_none_of X G z_all
      · exact PySem.W.mg_none_of X G z_tuple
      · exact PySem.W.mg_none_of X G z_list
      · exact PySem.W.mg_none_of X G z_repr
    · simp only [List.mem_cons, List.not_mem_nil, or_false] at hty
      rcases hty with rfl | rfl | rfl | rfl | rfl | rfl
      · exact PySem.W.mg_none_of X G z_int
      · exact PySem.W.mg_none_of X G z_bool
      · exact PySem.W.mg_none_of X G z_str
      · exact PySem.W.mg_none_of X G z_tuple
      · exact PySem.W.mg_none_of X G z_list
      · exact PySem.W.mg_none_of X G z_dict
    · simp only [T_0] at e
      split at e
      · rename_i z; subst z; cases e; exact ⟨_, .int 0, PySem.W.mg_of X G y0, ⟨_, rfl⟩, fun H => .int _⟩
      · skip
        split at e
        · rename_i z; subst z; cases e; exact ⟨_, .int 12, PySem.W.mg_of X G y1, ⟨_, rfl⟩, fun H => .int _⟩
        · skip
          split at e
          · rename_i z; subst z; cases e; exact ⟨_, .int 6, PySem.W.mg_of X G y2, ⟨_, rfl⟩, fun H => .int _⟩
          · skip
            split at e
            · rename_i z; subst z; cases e; exact ⟨_, .int 8, PySem.W.mg_of X G y3, ⟨_, rfl⟩, fun H => .int _⟩
            · skip
              split at e
              · rename_i z; subst z; cases e; exact ⟨_, .int 11, PySem.W.mg_of X G y4, ⟨_, rfl⟩, fun H => .int _⟩
              · skip
                split at e
                · rename_i z; subst z; cases e; exact ⟨_, .str _, PySem.W.mg_of X G y5, ⟨_, rfl⟩, fun H => .str _⟩
                · cases e
  have M1 : ModF T_1 1 P w K mg base := M0.add (PySem.W.mg_of X G a0) k0 b0 (dfn M0 F0 sc_is_whole rfl ck_is_whole)
  have M2 : ModF T_2 2 P w K mg base := M1.add (PySem.W.mg_of X G a1) k1 b1 (dfn M1 F1 sc_is_name rfl ck_is_name)
  have M3 : ModF T_3 3 P w K mg base := M2.add (PySem.W.mg_of X G a2) k2 b2 (dfn M2 F2 sc_is_lots rfl ck_is_lots)
  have M4 : ModF T_4 4 P w K mg base := M3.add (PySem.W.mg_of X G a3) k3 b3 (dfn M3 F3 sc_is_who rfl ck_is_who)
  have M5 : ModF T_5 5 P w K mg base := M4.add (PySem.W.mg_of X G a4) k4 b4 (dfn M4 F4 sc__law_pot rfl ck__law_pot)
  have M6 : ModF T_6 6 P w K mg base := M5.add (PySem.W.mg_of X G a5) k5 b5 (ok_take F5 (PySem.W.mg_none_of X G z_divmod))
  have M7 : ModF T_7 7 P w K mg base := M6.add (PySem.W.mg_of X G a6) k6 b6 (dfn M6 F6 sc__law_label rfl ck__law_label)
  have M8 : ModF T_8 8 P w K mg base := M7.add (PySem.W.mg_of X G a7) k7 b7 (dfn M7 F7 sc__law_lots rfl ck__law_lots)
  have M9 : ModF T_9 9 P w K mg base := M8.add (PySem.W.mg_of X G a8) k8 b8 (dfn M8 F8 sc__law_odd rfl ck__law_odd)
  have M10 : ModF T_10 10 P w K mg base := M9.add (PySem.W.mg_of X G a9) k9 b9 (dfn M9 F9 sc__law_is_label rfl ck__law_is_label)
  have M11 : ModF T_11 11 P w K mg base := M10.add (PySem.W.mg_of X G a10) k10 b10 (dfn M10 F10 sc__law_is_whole rfl ck__law_is_whole)
  have M12 : ModF T_12 12 P w K mg base := M11.add (PySem.W.mg_of X G a11) k11 b11 (dfn M11 F11 sc__law_are_lots rfl ck__law_are_lots)
  have M13 : ModF T_13 13 P w K mg base := M12.add (PySem.W.mg_of X G a12) k12 b12 (dfn M12 F12 sc__law_is_path rfl ck__law_is_path)
  have M14 : ModF T_14 14 P w K mg base := M13.add (PySem.W.mg_of X G a13) k13 b13 (dfn M13 F13 sc__law_path rfl ck__law_path)
  have M15 : ModF T_15 15 P w K mg base := M14.add (PySem.W.mg_of X G a14) k14 b14 (dfn M14 F14 sc__law_spoilt rfl ck__law_spoilt)
  have M16 : ModF T_16 16 P w K mg base := M15.add (PySem.W.mg_of X G a15) k15 b15 (dfn M15 F15 sc__law_near rfl ck__law_near)
  have M17 : ModF T_17 17 P w K mg base := M16.add (PySem.W.mg_of X G a16) k16 b16 (dfn M16 F16 sc__law_judged rfl ck__law_judged)
  have M18 : ModF T_18 18 P w K mg base := M17.add (PySem.W.mg_of X G a17) k17 b17 (dfn M17 F17 sc__law_right rfl ck__law_right)
  exact dfn M18 F18 sc_law rfl ck_law
end K11
open PySem PySem.W PyProof.Rows
set_option maxHeartbeats 0 in
theorem PySem.Challenge.cw_onefacers_k11_names_lots_whos_holds : PySem.Challenge.rw_onefacers_k11_names_lots_whos.Holds := by
  w_on; o_law; k_head; (case hw => w_witness2)
  k_fill
  refine Ev.walk_G (l := PySem.Challenge.rw_onefacers_k11_names_lots_whos) (n := 63) (k := 19) (x := "_law_script") (fi := K11.fi_law) rfl (by decide) rfl ⟨rfl, by decide, by decide⟩ (fun w h Y => PySem.W.kIn_of Y) ?F rfl K11.law_true
  case F =>
    intro w mg fa h KX G hmg
    refine' K11.all_mk KX G hmg ?a0 ?l0 ?c0 ?k0 ?a1 ?l1 ?c1 ?k1 ?a2 ?l2 ?c2 ?k2 ?a3 ?l3 ?c3 ?k3 ?a4 ?l4 ?c4 ?k4 ?a5 ?l5 ?c5 ?k5 ?a6 ?l6 ?c6 ?k6 ?a7 ?l7 ?c7 ?k7 ?a8 ?l8 ?c8 ?k8 ?a9 ?l9 ?c9 ?k9 ?a10 ?l10 ?c10 ?k10 ?a11 ?l11 ?c11 ?k11 ?a12 ?l12 ?c12 ?k12 ?a13 ?l13 ?c13 ?k13 ?a14 ?l14 ?c14 ?k14 ?a15 ?l15 ?c15 ?k15 ?a16 ?l16 ?c16 ?k16 ?a17 ?l17 ?c17 ?k17 ?a18 ?l18 ?c18 ?k18 ?z_all ?z_bool ?z_dict ?z_divmod ?z_int ?z_isinstance ?z_len ?z_list ?z_max ?z_min ?z_range ?z_repr ?z_str ?z_tuple ?y0 ?y1 ?y2 ?y3 ?y4 ?y5
    (case a0 => k_is); (case l0 => k_is); (case c0 => k_is); (case k0 => k_is); (case a1 => k_is); (case l1 => k_is); (case c1 => k_is); (case k1 => k_is); (case a2 => k_is); (case l2 => k_is); (case c2 => k_is); (case k2 => k_is); (case a3 => k_is); (case l3 => k_is); (case c3 => k_is); (case k3 => k_is); (case a4 => k_is); (case l4 => k_is); (case c4 => k_is); (case k4 => k_is); (case a5 => k_is); (case l5 => k_is); (case c5 => k_is); (case k5 => k_is); (case a6 => k_is); (case l6 => k_is); (case c6 => k_is); (case k6 => k_is); (case a7 => k_is); (case l7 => k_is); (case c7 => k_is); (case k7 => k_is); (case a8 => k_is); (case l8 => k_is); (case c8 => k_is); (case k8 => k_is); (case a9 => k_is); (case l9 => k_is); (case c9 => k_is); (case k9 => k_is); (case a10 => k_is); (case l10 => k_is); (case c10 => k_is); (case k10 => k_is); (case a11 => k_is); (case l11 => k_is); (case c11 => k_is); (case k11 => k_is); (case a12 => k_is); (case l12 => k_is); (case c12 => k_is); (case k12 => k_is); (case a13 => k_is); (case l13 => k_is); (case c13 => k_is); (case k13 => k_is); (case a14 => k_is); (case l14 => k_is); (case c14 => k_is); (case k14 => k_is); (case a15 => k_is); (case l15 => k_is); (case c15 => k_is); (case k15 => k_is); (case a16 => k_is); (case l16 => k_is); (case c16 => k_is); (case k16 => k_is); (case a17 => k_is); (case l17 => k_is); (case c17 => k_is); (case k17 => k_is); (case a18 => k_is); (case l18 => k_is); (case c18 => k_is); (case k18 => k_is); (case z_all => k_is); (case z_bool => k_is); (case z_dict => k_is); (case z_divmod => k_is); (case z_int => k_is); (case z_isinstance => k_is); (case z_len => k_is); (case z_list => k_is); (case z_max => k_is); (case z_min => k_is); (case z_range => k_is); (case z_repr => k_is); (case z_str => k_is); (case z_tuple => k_is); (case y0 => k_is); (case y1 => k_is); (case y2 => k_is); (case y3 => k_is); (case y4 => k_is); (case y5 => k_is)
