import PyProof.Rows.All
import Wide.All
import OpenK.AllK
import Wide.FinOn
import HandS.ExcInit
import HandS.ExcOwn
import PyProof.ExcBaseAll.LookupError
import PyProof.ExcBaseAll.RuntimeError
import PyProof.ExcBaseAll.ArithmeticError
import PyProof.ExcBaseAll.ValueError
import HandS.Words
import HandS.FStr
import HandS.Style
import HandS.ExcValue
import HandS.ForMost
import HandS.Text
import HandS.RaiseMore
import HandS.Exc
import HandS.TryMany
import HandS.TupAny
import HandS.List
import HandS.IsInst
import PyProof.ReprRoads
import HandS.Small
import KE.KExcIs
import HandS.ExcField
import HandS.ExcIs
import HandS.TryOnly
import HandS.WideBits
import PySem.Challenge.RW_onefacers_k19_errors_made
set_option Elab.async false
set_option linter.all false
set_option maxRecDepth 100000
set_option maxHeartbeats 4000000
/-! Own classes of errors over any of the built-in ones: making, first fields, further fields. -/
namespace Ev
open PySem PySem.W PySem.Calls PyProof.Rows PySem.HandSPX L2
open Builtin Builtin.ObjectAttr
/-- own classes ahead, then what the built-in one stands under -/
def ownsT (tl : List Value) : List Value → Bool
  | .ref _ :: r => ownsT tl r
  | l => l == tl
theorem ownsT_split {tl : List Value} : ∀ l : List Value, ownsT tl l = true → ∃ rs : List Addr, l = rs.map Value.ref ++ tl := by
  intro l
  induction l with
  | nil => intro e; exact ⟨[], eq_of_beq (show (([] : List Value) == tl) = true from e)⟩
  | cons a r ih =>
    intro e
    by_cases h : ∃ c, a = .ref c
    · obtain ⟨c, rfl⟩ := h
      obtain ⟨rs, z⟩ := ih e
      exact ⟨c :: rs, by rw [z]; rfl⟩
    · refine ⟨[], ?_⟩
      cases a <;> first | exact eq_of_beq e | exact absurd ⟨_, rfl⟩ h
theorem owns_has (Y : String) (tl : List Value) : ∀ rs : List Addr, (rs.map Value.ref ++ tl).contains (.type Y) = tl.contains (.type Y)
  | [] => rfl
  | c :: rs => by
    rw [List.map_cons, List.cons_append, List.contains_cons, owns_has Y tl rs]
    rfl
theorem owns_pass {tl : List Value} {x : Value} (h : refuseLoop x "__setattr__" tl = pure ()) : ∀ rs : List Addr, refuseLoop x "__setattr__" (rs.map Value.ref ++ tl) = pure ()
  | [] => h
  | c :: rs => by
    rw [List.map_cons, List.cons_append, refuseLoop_ref]
    exact owns_pass h rs
/-- what is wanted of the built-in class: N makes, I sets -/
structure XB (tl : List Value) (N newId I initId : String) : Prop where
  nStar : (N != "*") = true
  nSplit : splitId newId = some (N, "__new__")
  nKind : builtinKind newId = some .builtinFn
  nRow : Manifest.signature? newId = some ⟨.any, N, N, .cls, [⟨"args", .varPos, false⟩, ⟨"kwargs", .varKw, false⟩]⟩
  nEnds : newId.endsWith ".__new__" = true
  nOwner : newId.dropRight 8 = N
  nEntry : entryFor table newId = some Builtin.«BaseException.__new__»
  nCanon : Manifest.canonical newId = Manifest.canonical "BaseException.__new__"
  nQuiet : newId.startsWith "lifetime." = false
  iPlain : plainId initId = true
  iEntry : entryFor table initId = some Builtin.«BaseException.__init__»
  iSplit : splitId initId = some (I, "__init__")
  iKind : builtinKind initId = some .slot
  iRow : Manifest.signature? initId = some ⟨.positional, "*", I, .self, [⟨"args", .varPos, false⟩]⟩
  iStar : (I != "*") = true
  hasN : tl.contains (.type N) = true
  hasI : tl.contains (.type I) = true
  hasO : tl.contains (.type "object") = true
  noA : tl.contains (.type "AttributeError") = false
  noN : tl.contains (.type "NameError") = false
  pass : ∀ x, refuseLoop x "__setattr__" tl = pure ()
theorem XB.of {B newId initId : String} {tl : List Value} (F : ExcBaseFacts B newId initId tl) (ho : tl.contains (.type "object") = true) (hp : ∀ x, refuseLoop x "__setattr__" tl = pure ()) : XB tl B newId B initId :=
  ⟨F.noStar, F.newSplit, F.newKind, F.newRow, F.ends, F.owner, F.entry, F.canon, F.quiet, F.init.plain, F.initEntry, F.initSplit, F.initKind, F.initRow, F.noStar, F.hasB, F.hasB, ho, F.noAttr, F.noName, hp⟩
abbrev tlV : List Value := [.type "ValueError", .type "Exception", .type "BaseException", .type "object"]
abbrev tlL : List Value := [.type "LookupError", .type "Exception", .type "BaseException", .type "object"]
abbrev tlK : List Value := [.type "KeyError", .type "LookupError", .type "Exception", .type "BaseException", .type "object"]
abbrev tlR : List Value := [.type "RuntimeError", .type "Exception", .type "BaseException", .type "object"]
abbrev tlA : List Value := [.type "ArithmeticError", .type "Exception", .type "BaseException", .type "object"]
theorem xbV : XB tlV "ValueError" "ValueError.__new__" "ValueError" "ValueError.__init__" := .of F.excBase_ValueError (by decide +kernel) fun x => by kernel_rfl
theorem xbL : XB tlL "LookupError" "LookupError.__new__" "LookupError" "LookupError.__init__" := .of F.excBase_LookupError (by decide +kernel) fun x => by kernel_rfl
theorem xbR : XB tlR "RuntimeError" "RuntimeError.__new__" "RuntimeError" "RuntimeError.__init__" := .of F.excBase_RuntimeError (by decide +kernel) fun x => by kernel_rfl
theorem xbA : XB tlA "ArithmeticError" "ArithmeticError.__new__" "ArithmeticError" "ArithmeticError.__init__" := .of F.excBase_ArithmeticError (by decide +kernel) fun x => by kernel_rfl
theorem xbK : XB tlK "LookupError" "LookupError.__new__" "KeyError" "KeyError.__init__" :=
  ⟨F.excBase_LookupError.noStar, F.excBase_LookupError.newSplit, F.excBase_LookupError.newKind, F.excBase_LookupError.newRow, F.excBase_LookupError.ends, F.excBase_LookupError.owner, F.excBase_LookupError.entry, F.excBase_LookupError.canon, F.excBase_LookupError.quiet,
    excClass_KeyError.init.plain, excClass_KeyError.initEntry, excClass_KeyError.initSplit, excClass_KeyError.initKind, by kernel_rfl, by decide +kernel, by decide +kernel, by decide +kernel, by decide +kernel, by decide +kernel, by decide +kernel, fun x => by kernel_rfl⟩
end Ev
set_option Elab.async false
set_option linter.all false
set_option maxRecDepth 100000
set_option maxHeartbeats 4000000
namespace Ev
open PySem PySem.W PySem.Calls PySem.HandSPX
open Builtin Builtin.ObjectAttr
section
variable {prog : Program} {w : World} {A : Around} {E : Value → Shared → Prop} {R : Result → Shared → Prop} {hh : Heap} {g : Array GenState} {d : Drawn} {t : Nat} {os : OsState}
variable {nm q : Str} {C S : Addr} {bs bm tl : List Value} {hd : Bool} {sn : List Str} {sub : List Value} {ab : Bool} {col : Option Bool} {dd : Option Addr} {k0 k1 k2 k3 k5 : Option Value} {N newId I initId : String}
/-- the class of the errors, in the heap -/
abbrev ErrC (hh : Heap) (nm q : Str) (C S : Addr) (bs bm : List Value) (hd : Bool) (sn : List Str) (sub : List Value) (ab : Bool) (col : Option Bool) (dd : Option Addr) (k0 k1 k2 k3 k5 : Option Value) (newId : String) : Prop :=
  hh.get? C = some (excClassObj nm q C S bs bm hd sn sub ab col dd k0 k1 k2 k3 k5 newId)
theorem mro_has {Y : String} {b : Bool} (hm : ownsT tl bm = true) (h : tl.contains (.type Y) = b) : (Value.ref C :: bm).contains (.type Y) = b := by
  obtain ⟨rs, rfl⟩ := ownsT_split bm hm
  rw [List.contains_cons, owns_has, h]
  cases b <;> rfl
theorem chk_new {M : Model} {kw : List (Str × Value)} (F : XB tl N newId I initId) (hm : ownsT tl bm = true) {us : List Value} {Q : Unit → Shared → Prop} (hC : ErrC hh nm q C S bs bm hd sn sub ab col dd k0 k1 k2 k3 k5 newId) (z : Q () ⟨hh, g, d, t, os⟩) :
    wpAny M A (checkBuiltinCall newId ⟨.ref C :: us, kw⟩) Q E ⟨hh, g, d, t, os⟩ := by
  have e1 := mro_has (C := C) hm F.hasN
  have e2 := F.nStar
  simp only [checkBuiltinCall, F.nKind, F.nSplit, F.nRow]
  repeat (first | refine wpAny_loadPart_at hC ?_
                | (refine wpAny_isSubtype_exc hC ?_; rw [e1])
                | refine wpAny_staticBase_exc hC ?_ | refine wpAny_madeBy_exc hC ?_
                | simp only [bne_self_eq_false, Bool.false_eq_true, if_false] | wp_step)
  exact z
theorem chk_init {M : Model} (F : XB tl N newId I initId) (hm : ownsT tl bm = true) {x : Addr} {ox : Obj} {us : List Value} {Q : Unit → Shared → Prop} (hC : ErrC hh nm q C S bs bm hd sn sub ab col dd k0 k1 k2 k3 k5 newId) (hx : hh.get? x = some ox)
    (hc : ox.cls = .ref C) (z : Q () ⟨hh, g, d, t, os⟩) : wpAny M A (checkBuiltinCall initId ⟨.ref x :: us, []⟩) Q E ⟨hh, g, d, t, os⟩ := by
  have e1 := mro_has (C := C) hm F.hasI
  have e2 := F.iStar
  simp only [checkBuiltinCall, F.iKind, F.iSplit, F.iRow]
  repeat (first | (with_reducible refine wpAny_loadPart_at hx ?_; rw [hc])
                | with_reducible refine wpAny_loadPart_at hC ?_
                | (with_reducible refine wpAny_isSubtype_exc hC ?_; rw [e1]) | wp_step)
  refine wpAny_onRaise ?_
  have e3 : ∀ (a b : String) (n : Nat), Bind.check ⟨.positional, "*", I, .self, [⟨"args", .varPos, false⟩]⟩ a b n (List.map (fun p => p.fst) ({ pos := Value.ref x :: us } : Args).kw) = pure () := fun a b n => check_star_args _ _ _ _ _ _
  rw [e3]
  exact wpAny_pure z
theorem new_err {kw : List (Str × Value)} (F : XB tl N newId I initId) (hm : ownsT tl bm = true) {us : List Value} (hC : ErrC hh nm q C S bs bm hd sn sub ab col dd k0 k1 k2 k3 k5 newId) (hl : us.length ≤ sizeLine)
    (z : R (.ok (.ret (.ref (hh.objs.size + 1)))) ⟨(hh.push (kdv_tup us)).push (excO C hh.objs.size), g, d, t, os⟩) : codeAny (model prog w) A (.builtin newId ⟨.ref C :: us, kw⟩) R ⟨hh, g, d, t, os⟩ := by
  have e0 := F.nEnds
  have e1 := mro_has (C := C) hm F.hasN
  have e2 := mro_has (C := C) hm F.noA
  have e3 := mro_has (C := C) hm F.noN
  refine codeAny_builtinAt F.nEntry ?_
  unfold Builtin.«BaseException.__new__»
  refine wpAt_bind ?_
  show wpAt _ _ _ (stack >>= _) _ _ _
  refine wpAt_bind (wpAt_stack fun pp bb => wpAt_of_wpAny ?_)
  wp_walk
  refine wpAt_of_wpAny ?_
  rw [F.nOwner]
  repeat (first | with_reducible refine wpAny_madeHere_exc F.nCanon hC ?_
                | with_reducible refine wpAny_loadPart_at hC ?_
                | (with_reducible refine wpAny_isSubtype_exc hC ?_; first | rw [e1] | rw [e2] | rw [e3]) | wp_step)
  show R _ _
  rw [Heap.size_push]
  exact z
theorem tcall_err {kw : List (Str × Value)} (F : XB tl N newId I initId) (hm : ownsT tl bm = true) {us : List Value} {fI : Addr} {Q : Fin → Shared → Prop} (hC : ErrC hh nm q C S bs bm hd sn sub ab col dd k0 k1 k2 k3 k5 newId)
    (hi : Looks (model prog w) hh (typeLookup (.ref C) "__init__") (some (.ref fI))) (hb : ∀ x, Looks (model prog w) hh (bindSpecial (.ref fI) x) (.ref fI, [x])) (hl : us.length ≤ sizeLine)
    (z : codeAny (model prog w) A (.call (.ref fI) ⟨.ref (hh.objs.size + 1) :: us, kw⟩) (fun r s' => match r with | .ok (.ret v) => v = .none ∧ Q (.done (.ret (.ref (hh.objs.size + 1)))) s' | .ok _ => False | .error e => E e s') ⟨(hh.push (kdv_tup us)).push (excO C hh.objs.size), g, d, t, os⟩) :
    wpAny (model prog w) A (Builtin.«type.__call__» ⟨.ref C :: us, kw⟩) Q E ⟨hh, g, d, t, os⟩ := by
  repeat (first | with_reducible refine wpAny_loadPart_at hC ?_
                | with_reducible refine wpAny_madeBy_exc hC ?_ | wp_step)
  refine codeAny_call_builtin_code (Code.quiet_builtin _ F.nQuiet) (chk_new F hm hC (new_err F hm hC hl ?_))
  show wpAny _ _ _ _ _ _
  have kp : ∀ b o, hh.get? b = some o → ((hh.push (kdv_tup us)).push (excO C hh.objs.size)).get? b = some o := fun b o e => Heap.get?_push_of_some _ (Heap.get?_push_of_some _ e)
  have c1 := kp _ _ hC
  have c2 : ((hh.push (kdv_tup us)).push (excO C hh.objs.size)).get? (hh.objs.size + 1) = some (excO C hh.objs.size) := by heap_get
  have c3 : (Value.ref C :: bm).contains (.ref C) = true := by simp
  have c4 := hi.keeps kp
  have c5 := (hb (.ref (hh.objs.size + 1))).keeps kp
  unfold isInstance
  repeat (first | with_reducible refine wpAny_loadPart_at c2 ?_
                | (with_reducible refine wpAny_isSubtype_exc c1 ?_; rw [c3]) | wp_step)
  show wpAny _ _ (typeLookup (.ref C) _) _ _ _
  refine c4.at (wpAny_holding (wpAny_bind (c5.at (wpAny_bind (wpAny_call (codeAny_mono z fun r s' y => ?_))))))
  cases r with
  | error e => exact y
  | ok fl =>
    cases fl with
    | ret v =>
      obtain ⟨rfl, y⟩ := y
      first
        | exact wpAny_pure (wpAny_pure y)
        | (wp_walk; exact y)
    | next => exact y.elim
    | brk => exact y.elim
    | cont => exact y.elim
theorem call_err {kw : List (Str × Value)} (F : XB tl N newId I initId) (hm : ownsT tl bm = true) {us : List Value} {fI : Addr} (hC : ErrC hh nm q C S bs bm hd sn sub ab col dd k0 k1 k2 k3 k5 newId)
    (hi : Looks (model prog w) hh (typeLookup (.ref C) "__init__") (some (.ref fI))) (hb : ∀ x, Looks (model prog w) hh (bindSpecial (.ref fI) x) (.ref fI, [x])) (hl : us.length ≤ sizeLine)
    (z : codeAny (model prog w) (A.under (.builtin "type.__call__" ⟨.ref C :: us, kw⟩)) (.call (.ref fI) ⟨.ref (hh.objs.size + 1) :: us, kw⟩) (InitBack (hh.objs.size + 1) R) ⟨(hh.push (kdv_tup us)).push (excO C hh.objs.size), g, d, t, os⟩) :
    codeAny (model prog w) A (.call (.ref C) ⟨us, kw⟩) R ⟨hh, g, d, t, os⟩ := by
  have f1 := tc_lookup
  have f2 := tc_bind (.ref C)
  have f3 : (⟨hh, g, d, t, os⟩ : Shared).TypeIs (.ref C) "type" := ⟨_, hC, rfl⟩
  refine codeAny_of_tree ?_
  show wpAny _ _ (callAny (.ref C) _) _ _ _
  repeat (any_goals (first | assumption | with_reducible refine wpAny_loadPart_at hC ?_ | wp_step))
  refine ⟨rfl, ?_⟩
  refine codeAny_call_builtin_at (Code.quiet_builtin _ (by decide +kernel)) entry_typeCall (wpAny_check_type_call_sub hC (tcall_err F hm hC hi hb hl (codeAny_mono z fun r s' y => ?_)))
  rcases r with e | (v | _ | _ | _) <;> exact y
/-- B.__init__(x, ..): its arguments are laid anew -/
theorem init_err (F : XB tl N newId I initId) (hm : ownsT tl bm = true) {x t0 : Addr} {us : List Value} (hC : ErrC hh nm q C S bs bm hd sn sub ab col dd k0 k1 k2 k3 k5 newId) (hx : hh.get? x = some (excO C t0)) (hl : us.length ≤ sizeLine)
    (z : ∀ h' t1, (∀ b o, b ≠ x → hh.get? b = some o → h'.get? b = some o) → h'.get? x = some (excO C t1) → R (.ok (.ret .none)) ⟨h', g, d, t, os⟩) :
    codeAny (model prog w) A (.call (.builtin initId) ⟨.ref x :: us, []⟩) R ⟨hh, g, d, t, os⟩ := by
  refine codeAny_call_builtin F.iPlain F.iEntry (chk_init F hm hC hx rfl ?_)
  wp_walk
  refine z _ hh.objs.size (fun b o hb ho => ?_) ?_
  · rw [Heap.get?_update_other _ _ (Ne.symm hb)]; exact Heap.get?_push_of_some _ ho
  · rw [Heap.get?_update_self _ (Heap.get?_push_of_some _ hx) rfl] <;> rfl
end
end Ev
set_option Elab.async false
set_option linter.all false
set_option maxRecDepth 100000
set_option maxHeartbeats 4000000
/-! A field of such an error is set. -/
namespace Ev
open PySem PySem.W PySem.Calls PyProof.Rows PySem.HandSPX PySem.OEX
open Builtin Builtin.ObjectAttr
section
variable {prog : Program} {w : World} {A : Around} {E : Value → Shared → Prop} {R : Result → Shared → Prop} {hp : Heap} {g : Array GenState} {d : Drawn} {t : Nat} {os : OsState}
variable {K : W.Frag} {nm : Str} {tk : Tok} {v : Value} {x C : Addr} {fv : Array Value} {cd : ClassData} {tl : List Value} {N newId I initId : String}
/-- up to the store itself -/
theorem osa_way {dx : Option Addr} {od : Option Obj} (XF : XB tl N newId I initId) (KX : K.In hp) (J : W.InstAt hp x { cls := .ref C, dict := dx, data := .fields fv } C od) (hcd : W.clsIn K C = some cd) (hm : ownsT tl cd.mro = true) (ha : W.findIn K (.ref C) nm = some none)
    (z : wpAny (model prog w) A.in1 (storeInOwnDict (.ref x) (.ref C) (.str nm tk) nm v false) (fun fin s' => match fin with
      | .done f => R (.ok f) s'
      | .again c' => c'.quiet = true ∧ codeAny (model prog w) A c' R s') (fun e s' => R (.error e) s') ⟨hp, g, d, t, os⟩) :
    codeAny (model prog w) A (.call (.builtin "object.__setattr__") ⟨[.ref x, .str nm tk, v], []⟩) R ⟨hp, g, d, t, os⟩ := by
  obtain ⟨rs, hrs⟩ := ownsT_split _ hm
  have S := F.store_object
  have hob : cd.mro.contains (.type "object") = true := by rw [hrs, owns_has]; exact XF.hasO
  have hne : cd.mro.isEmpty = false := by
    cases e : cd.mro with
    | nil => rw [e] at hob; cases hob
    | cons _ _ => rfl
  have sb : W.Looks (model prog w) hp (isInstance (.ref x) (.type "object")) true := J.type.andThen (W.looks_mroIn KX (by unfold W.mroIn; rw [hcd, Option.bind_some, hob, if_neg (by rw [hne]; decide)]))
  have pas : refuseLoop (.ref x) "__setattr__" cd.mro = pure () := by rw [hrs]; exact owns_pass (XF.pass _) rs
  have l1 : W.Looks (model prog w) hp (mroOf (.ref C)) cd.mro := (W.looks_clsIn KX hcd).andThen .now
  have l2 : W.Looks (model prog w) hp (storeTaker? none) none := .now
  refine codeAny_call_builtin S.slot.plain S.entry (@W.check_slot (model prog w) _ _ ⟨hp, g, d, t, os⟩ "object.__setattr__" "object" "__setattr__" (.ref x) [.str nm tk, v] [] _ S.kind S.split sb (S.args (.ref x) (.str nm tk) v) ?_)
  rw [W.osa_eq, refuse_eq]
  refine wpAny_bind (wpAny_bind (J.type.at (wpAny_bind (l1.at ?_))))
  rw [pas]
  exact wpAny_pure (wpAny_bind (J.type.at (wpAny_bind ((W.looks_findIn KX ha).at (wpAny_bind (l2.at z))))))
/-- the first field: the dict comes into being -/
theorem osa_first (XF : XB tl N newId I initId) (KX : K.In hp) (hx : hp.get? x = some { cls := .ref C, data := .fields fv }) (hcd : W.clsIn K C = some cd) (hm : ownsT tl cd.mro = true) (hh : cd.hasDict = true) (ha : W.findIn K (.ref C) nm = some none)
    (z : ∀ h' tk' dx, (∀ b o, b ≠ x → hp.get? b = some o → h'.get? b = some o) → hp.objs.size ≤ dx → dx ≠ x → h'.get? x = some { cls := .ref C, dict := some dx, data := .fields fv } → h'.Ns1 dx (fun y => if y = nm then some v else none) →
      R (.ok (.ret .none)) ⟨h', g, d, tk', os⟩) : codeAny (model prog w) A (.call (.builtin "object.__setattr__") ⟨[.ref x, .str nm tk, v], []⟩) R ⟨hp, g, d, t, os⟩ := by
  refine osa_way XF KX (od := none) ⟨hx, rfl, rfl, trivial⟩ hcd hm ha ?_
  have hc : W.Looks (model prog w) hp (classData C) cd := W.looks_clsIn KX hcd
  have hxs : x ≠ hp.objs.size := Nat.ne_of_lt (Heap.lt_size hx)
  obtain ⟨cn, bs, mro, ns, qn, hd, sn, sb, ab, col, del⟩ := cd
  dsimp only at hh
  subst hh
  unfold storeInOwnDict ownDictForStores
  repeat (first | with_reducible refine store_in_new ?_ ?_
                | with_reducible refine wpAny_loadPart_at hx ?_
                | with_reducible refine hc.at ?_ | wp_step)
  · exact ⟨_, #[], _, (Heap.get?_update_ne _ _ _ _ hxs.symm).trans (Heap.get?_push_at rfl rfl), rfl, fun _ he => absurd he (by simp), fun _ => rfl⟩
  · intro h' tk' hn hs
    have hx1 : (hp.push { cls := .type "dict", data := .dict #[] }).get? x = some { cls := .ref C, data := .fields fv } := Heap.get?_push_of_some _ hx
    refine z h' tk' hp.objs.size (fun b o hb ho => ?_) (Nat.le_refl _) hxs.symm ?_ hn
    · rw [hs.2 b (Nat.ne_of_lt (Heap.lt_size ho)), Heap.get?_update_ne _ _ _ _ hb]
      exact Heap.get?_push_of_some _ ho
    · rw [hs.2 x hxs]
      exact Heap.get?_update_self _ hx1 rfl
/-- a further one -/
theorem osa_next {dx : Addr} {m0 : Str → Option Value} {nl : List Str} (XF : XB tl N newId I initId) (KX : K.In hp) (hx : hp.get? x = some { cls := .ref C, dict := some dx, data := .fields fv }) (hns : hp.Ns1 dx m0) (hw : Within m0 nl) (hz : nl.length ≤ 1000)
    (hcd : W.clsIn K C = some cd) (hm : ownsT tl cd.mro = true) (hh : cd.hasDict = true) (ha : W.findIn K (.ref C) nm = some none)
    (z : ∀ h' tk', (∀ b o, b ≠ dx → hp.get? b = some o → h'.get? b = some o) → h'.Ns1 dx (fun y => if y = nm then some v else m0 y) → R (.ok (.ret .none)) ⟨h', g, d, tk', os⟩) :
    codeAny (model prog w) A (.call (.builtin "object.__setattr__") ⟨[.ref x, .str nm tk, v], []⟩) R ⟨hp, g, d, t, os⟩ := by
  obtain ⟨oD, _, _, hoD, _, _⟩ := hns.count hw
  refine osa_way XF KX (od := some oD) ⟨hx, rfl, rfl, hoD⟩ hcd hm ha ?_
  have hc : W.Looks (model prog w) hp (classData C) cd := W.looks_clsIn KX hcd
  obtain ⟨cn, bs, mro, ns, qn, hd, sn, sb, ab, col, del⟩ := cd
  dsimp only at hh
  subst hh
  unfold storeInOwnDict ownDictForStores
  repeat (first | with_reducible refine store_in_old hns hw hz ?_
                | with_reducible refine wpAny_loadPart_at hx ?_
                | with_reducible refine hc.at ?_ | wp_step)
  intro h' tk' hn hs
  exact z h' tk' (fun b o hb ho => (hs.2 b hb).trans ho) hn
end
end Ev
set_option Elab.async false
set_option linter.all false
set_option maxRecDepth 100000
set_option maxHeartbeats 4000000
/-! Errors of own classes in the hand layer's words. -/
namespace Ev
open PySem PySem.W PySem.Calls PyProof.Rows PySem.HandSPX L2 PySem.OEX
/-- what the written part says of an own class of errors -/
structure OxC (K : PySem.W.Frag) (C : Addr) (tl : List Value) (N newId I initId : String) : Prop where
  xb : XB tl N newId I initId
  cls : ∃ nm q S bs bm sn sub ab col dd k0 k1 k2 k3 k5, K.lookup C = some (excClassObj nm q C S bs bm true sn sub ab col dd k0 k1 k2 k3 k5 newId) ∧ ownsT tl bm = true
  sa : PySem.W.findIn K (.ref C) "__setattr__" = some (some (.builtin "object.__setattr__"))
  exC : PySem.W.subIn K (.ref C) (.type "BaseException") = some true
  tyC : PySem.W.typeIn K (.ref C) = some (.type "type")
  kC : PySem.W.keepIn K (.ref C) = true
section
variable {X : Cx} {pins : List (Addr × Obj)} {σ : L2.St} {H : Hp} {s : Shared} {a C dx : Addr} {f : Str} {y : V} {u : Value} {fs : List (Str × V)} {Q : Unit → Shared → Prop} {E : Value → Shared → Prop} {A : Around} {tl : List Value} {N newId I initId : String}
theorem at_other {b : Addr} {o v : HO} (ha : H a = some o) (hb : H b = some v) (hne : o ≠ v) : b ≠ a := fun z => by
  subst z
  rw [ha] at hb
  exact hne (Option.some.inj hb)
theorem oxs_first (T : OxC X.K C tl N newId I initId) (J : Inv X pins σ H s) (e : H a = some (exo a C none)) (hno : PySem.W.findIn X.K (.ref C) f = some none) (ry : RelV y u)
    (k : ∀ dx s', H dx = none → dx ≠ a → Inv X pins σ (upd (upd H dx (exd dx [(f, y)])) a (exo a C (some dx))) s' → Q () s') : wpAny (model X.prog X.w) A (setAttr (.ref a) f u) Q E s := by
  obtain ⟨nm, q, S, bs, bm, sn, sub, ab, col, dd, k0, k1, k2, k3, k5, hC, hbm⟩ := T.cls
  have hcl : PySem.W.clsIn X.K C = some { name := nm, bases := bs, mro := .ref C :: bm, ns := S, qualname := q, hasDict := true, slotNames := sn, subclasses := sub, abstract := ab, collection := col, hasDel := false } := by
    unfold PySem.W.clsIn
    rw [hC]
  obtain ⟨t1, ho⟩ := exo_at J.hok e
  obtain ⟨hp, g, d, t, os⟩ := s
  refine PySem.W.set_plain J.kIn (ox := { cls := .ref C, dict := none, data := .fields #[.ref t1, .none, .none, .none, .bool false, .none] }) (od := none) ⟨ho, rfl, rfl, trivial⟩ T.sa (osa_first T.xb J.kIn ho hcl (show ownsT tl (.ref C :: bm) = true from hbm) rfl hno fun h' tk' dx kp dn dne hx hn => ?_)
  have hnd : H dx = none := J.hok.fresh dn
  have c1 : ∀ {b : Addr} {o : Obj}, hp.get? b = some o → b ≠ dx := fun {b o} q z => by
    subst z
    exact absurd (Heap.lt_size q) (Nat.not_lt.mpr dn)
  have c2 : ∀ {b : Addr}, H b = none → b ≠ a := fun {b} n z => by
    subst z
    rw [e] at n
    cases n
  refine k dx _ hnd dne (J.un (t' := tk') ⟨fun b o q n _ _ => kp b o (c2 n) q, fun b o q n _ _ => ⟨o.slots, kp b o (c2 n) q⟩, fun b o q n _ => ?_, fun b o q _ => ?_, fun b xs q => ?_, fun b o v q => ?_, fun b ps q => ⟨#[], ?_⟩⟩ fun b o q => ?_)
  · rw [upd_ne (c2 n), upd_ne (c1 q)]; exact n
  · by_cases hb : b = a
    · subst hb; exact ⟨_, hx⟩
    · exact ⟨o, kp b o hb q⟩
  · rw [upd_ne (at_other e q exo_tup), upd_ne (ne_of_none q hnd)]; exact q
  · rw [upd_ne (at_other e q exo_frz), upd_ne (ne_of_none q hnd)]; exact q
  · rw [upd_ne (at_other e q exo_tbl), upd_ne (ne_of_none q hnd), q]; simp
  · by_cases hb : b = a
    · subst hb
      rw [upd_same] at q
      cases q
      exact exo_ok hx
    · rw [upd_ne hb] at q
      by_cases hd : b = dx
      · subst hd
        rw [upd_same] at q
        cases q
        exact exd_ok hn (relO_put (fs := []) ry fun g => True.intro)
      · rw [upd_ne hd] at q
        refine (J.hok b o q).stay (fun c v hc z => kp c v ?_ z) (fun c hc => ?_) fun c xs hc => ?_
        · rcases hc with rfl | hc
          · exact hb
          · exact at_other e hc exo_own
        · rw [upd_ne (at_other e hc exo_own), upd_ne (ne_of_none hc hnd)]; exact hc
        · rw [upd_ne (at_other e hc exo_tup), upd_ne (ne_of_none hc hnd)]; exact hc
theorem oxs_next (T : OxC X.K C tl N newId I initId) (J : Inv X pins σ H s) (e : H a = some (exo a C (some dx))) (ed : H dx = some (exd dx fs)) (hl : fs.length ≤ 900) (hno : PySem.W.findIn X.K (.ref C) f = some none) (ry : RelV y u)
    (k : ∀ s', Inv X pins σ (upd H dx (exd dx ((f, y) :: fs))) s' → Q () s') : wpAny (model X.prog X.w) A (setAttr (.ref a) f u) Q E s := by
  obtain ⟨nm, q, S, bs, bm, sn, sub, ab, col, dd, k0, k1, k2, k3, k5, hC, hbm⟩ := T.cls
  have hcl : PySem.W.clsIn X.K C = some { name := nm, bases := bs, mro := .ref C :: bm, ns := S, qualname := q, hasDict := true, slotNames := sn, subclasses := sub, abstract := ab, collection := col, hasDel := false } := by
    unfold PySem.W.clsIn
    rw [hC]
  obtain ⟨t1, ho⟩ := exo_at J.hok e
  obtain ⟨mA, hns, rel⟩ := exd_at J.hok ed
  obtain ⟨hp, g, d, t, os⟩ := s
  obtain ⟨oD, _, _, hoD, _, _⟩ := hns.count (within_of rel)
  refine PySem.W.set_plain J.kIn (ox := { cls := .ref C, dict := some dx, data := .fields #[.ref t1, .none, .none, .none, .bool false, .none] }) (od := some oD) ⟨ho, rfl, rfl, hoD⟩ T.sa
    (osa_next T.xb J.kIn ho hns (within_of rel) (by rw [List.length_map]; omega) hcl (show ownsT tl (.ref C :: bm) = true from hbm) rfl hno fun h' tk' kp hn => ?_)
  obtain ⟨o1, _, _, e1, _⟩ := id hn
  exact k _ (J.write (t' := tk') (x := dx) (e := dx) (o := exd dx ((f, y) :: fs)) (by rw [ed]; exact True.intro) (.inl rfl) kp ⟨o1, e1⟩ (exd_ok hn (relO_put ry rel)))
theorem upd_self {o : HO} (e : H a = some o) : upd H a o = H := by
  funext b
  by_cases h : b = a
  · rw [h, upd_same, e]
  · rw [upd_ne h]
theorem oxi_ok {us : List Value} {Q : Value → Shared → Prop} (T : OxC X.K C tl N newId I initId) (J : Inv X pins σ H s) (e : H a = some (exo a C none)) (hl : us.length ≤ sizeLine) (k : ∀ s', Inv X pins σ H s' → Q .none s') :
    wpAny (model X.prog X.w) A (call (.builtin initId) (.ref a :: us)) Q E s := by
  obtain ⟨nm, q, S, bs, bm, sn, sub, ab, col, dd, k0, k1, k2, k3, k5, hC, hbm⟩ := T.cls
  obtain ⟨t1, ho⟩ := exo_at J.hok e
  obtain ⟨hp, g, d, t, os⟩ := s
  refine wpAny_call (init_err T.xb hbm (J.kIn _ _ hC) ho hl fun h' t2 kp hx => k _ ?_)
  have Z := J.write (t' := t) (x := a) (e := a) (o := exo a C none) (by rw [e]; exact True.intro) (.inl rfl) kp ⟨_, hx⟩ (exo_ok hx)
  rw [upd_self e] at Z
  exact Z
end
/-- B.__init__(self, ..) -/
def tXI (K : PySem.W.Frag) (initId : String) (ta : TA) : TE := fun σ H Q => ta σ H fun vs H1 => ∃ (a C : Addr) (ws : List V) (tl : List Value) (N newId I : String), vs = .ref a :: ws ∧ ws.length ≤ 1000 ∧ OxC K C tl N newId I initId ∧ H1 a = some (exo a C none) ∧ Q .non H1
/-- self.f = e -/
def tXs (K : PySem.W.Frag) (f : Str) (to te : TE) : TS := fun D σ H => te σ H fun y H1 => to σ H1 fun x H2 => ∃ (a C : Addr) (tl : List Value) (N newId I initId : String), x = .ref a ∧ OxC K C tl N newId I initId ∧ PySem.W.findIn K (.ref C) f = some none ∧
  ((H2 a = some (exo a C none) ∧ ∀ dx, H2 dx = none → dx ≠ a → D.nx σ (upd (upd H2 dx (exd dx [(f, y)])) a (exo a C (some dx)))) ∨
    ∃ (dx : Addr) (fs : List (Str × V)), H2 a = some (exo a C (some dx)) ∧ H2 dx = some (exd dx fs) ∧ fs.length ≤ 900 ∧ D.nx σ (upd H2 dx (exd dx ((f, y) :: fs))))
section
variable {X : Cx} {o e : Expr} {es : List Expr} {to te : TE} {ta : TA} {f x : Str} {p p' p1 p2 pos : Pos} {initId : String}
theorem ps_xs (ho : PE X o to) (he : PE X e te) (hs : swapsWith e (some (.Attribute o f p')) pos.line X.env = pure false := by rfl) : PS X (.Assign [.Attribute o f p'] e pos) (tXs X.K f to te) := by
  refine ⟨fun pins s σ H D I h => plainObj_wpAny_Assign_Attribute (thn (he.run pins s σ H _ I h) fun v s1 z1 => ?_) hs⟩
  obtain ⟨y, H1, I1, r1, q1⟩ := z1
  refine thn (ho.run pins s1 σ H1 _ I1 q1) fun u s2 z2 => ?_
  obtain ⟨x, H2, I2, r2, a, C, tl, N, newId, I, initId, ex, T, hno, q⟩ := z2
  subst ex
  obtain rfl : u = Value.ref a := r2
  rcases q with ⟨ea, q⟩ | ⟨dx, fs, ea, ed, hl, q⟩
  · exact oxs_first T I2 ea hno r1 fun dx s' n ne J => ⟨σ, _, J, q dx n ne⟩
  · exact oxs_next T I2 ea ed hl hno r1 fun s' J => ⟨σ, _, J, q⟩
theorem init_end {pins : List (Addr × Obj)} {σ : L2.St} {H : Hp} {s : Shared} {Q : VK} (I : Inv X pins σ H s) (ha : PA X (e :: es) ta) (h : tXI X.K initId ta σ H Q) (he : starEach (e :: es) X.env = (false, eval e X.env) :: starEach es X.env) (hpl : (backTo pos (starEach es X.env)).any (·.1) = false) :
    wpAny (model X.prog X.w) X.A (callWith pos (Value.builtin initId) [] (backTo pos (starEach (e :: es) X.env)) []) (EP X pins σ Q) X.xe s := by
  refine PyProof.Rows.callWith_method1 (thn (ha.run pos pins _ σ H _ I h) fun us s1 z => ?_) he hpl
  obtain ⟨vs, H1, I1, r1, a, C, ws, tl, N, newId, I, ev, hl, T, ea, q⟩ := z
  subst ev
  cases r1 with
  | @cons _ u0 _ ur ra rw' =>
    obtain rfl : u0 = Value.ref a := ra
    refine oxi_ok T I1 ea ?_ fun s' J => ⟨.non, H1, J, rfl, q⟩
    have := Paired.length rw'
    have := sizeLine_eq
    omega
/-- .. by the built-in class's own name -/
theorem pe_binit {T : String} {pl : Sem Bool} (hg : Gl X x) (hm : X.mg x = none) (hb : bootBuiltins x = some (.type T)) (hn : x ≠ "__name__") (hd : (x == ("__debug__" : Str)) = false) (ty : typeOf (.type T) = pure (.type "type")) (st : Manifest.isStub T = false)
    (vV : PySem.W.findCls X.K (.type T) (.type "type") "__init__" = some (.val (.builtin initId))) (hh : PySem.W.handedIn (.builtin initId) = true) (ha : PA X (e :: es) ta)
    (hc : eval (.Call (.Attribute (.Name x p1) "__init__" p2) (e :: es) [] pos) X.env = (do
      let ov ← eval (.Name x p1) X.env
      standAt p2.atName
      let (f, first) ← holding [ov] (getMethod ov "__init__" pl)
      callWith pos f first (backTo pos (starEach (e :: es) X.env)) (backToKw pos (keywordEach [] X.env))) := by rfl)
    (he : starEach (e :: es) X.env = (false, eval e X.env) :: starEach es X.env := by rfl) (hpl : (backTo pos (starEach es X.env)).any (·.1) = false := by rfl) :
    PE X (.Call (.Attribute (.Name x p1) "__init__" p2) (e :: es) [] pos) (tXI X.K initId ta) := by
  refine ⟨fun pins s σ H Q I h => PySem.W.methodCall_KW (ld_blt I hg hm hb ?_ hn hd) hc⟩
  obtain ⟨m, fr⟩ := I.fr
  exact PySem.W.method_type fr I.ok.mod.kin ty st vV hh (init_end (I.tok _) ha h he hpl)
/-- .. by an own class that has none of its own -/
theorem pe_cinit {pl : Sem Bool} {CF : Addr} {mc : Value} (hg : Gl X x) (hm : X.mg x = some (.ref CF)) (hk : PySem.W.keepIn X.K (.ref CF) = true) (hd : (x == ("__debug__" : Str)) = false)
    (g1 : PySem.W.specialIn X.K (.ref CF) "__getattribute__" = some (some (.builtin "type.__getattribute__"))) (g2 : PySem.W.typeIn X.K (.ref CF) = some mc) (g3 : PySem.W.readsIn X.K CF mc = true)
    (vV : PySem.W.findCls X.K (.ref CF) mc "__init__" = some (.val (.builtin initId))) (hh : PySem.W.handedIn (.builtin initId) = true) (ha : PA X (e :: es) ta)
    (hc : eval (.Call (.Attribute (.Name x p1) "__init__" p2) (e :: es) [] pos) X.env = (do
      let ov ← eval (.Name x p1) X.env
      standAt p2.atName
      let (f, first) ← holding [ov] (getMethod ov "__init__" pl)
      callWith pos f first (backTo pos (starEach (e :: es) X.env)) (backToKw pos (keywordEach [] X.env))) := by rfl)
    (he : starEach (e :: es) X.env = (false, eval e X.env) :: starEach es X.env := by rfl) (hpl : (backTo pos (starEach es X.env)).any (·.1) = false := by rfl) :
    PE X (.Call (.Attribute (.Name x p1) "__init__" p2) (e :: es) [] pos) (tXI X.K initId ta) := by
  refine ⟨fun pins s σ H Q I h => PySem.W.methodCall_KW (ld_glob I hg hm ?_ hd) hc⟩
  obtain ⟨m, fr⟩ := I.fr
  exact PySem.W.method_of_cls fr I.ok.mod.kin g1 (PySem.W.cls_val fr I.ok.mod.kin g2 g3 vV hh (init_end (I.tok _) ha h he hpl))
end
end Ev
set_option Elab.async false
set_option linter.all false
/-! An evaluator of plain data for the part of Python that the program uses: values are trees; a list that is changed is owned by one name. -/
namespace Ev
open PySem

inductive Dat where
  | non | bl (b : Bool) | int (i : Int) | str (s : Str)
  | lst (xs : List Dat) | tup (xs : List Dat) | dic (kvs : List (Dat × Dat))
  | scr (ns : List Int)
  | obj (c : Str) (fs : List (Str × Dat))

inductive Slot where
  | no | val (d : Dat) | own (d : Dat) | exn (c : Str) (fs : List (Str × Dat))
abbrev DEnv := List Slot

inductive Res (α : Type) where
  | ok (a : α) | exc (c : Str) (fs : List (Str × Dat)) (ρ : DEnv) | stuck

def Res.bind {α β : Type} (r : Res α) (f : α → Res β) : Res β :=
  match r with
  | .ok a => f a
  | .exc c fs ρ => .exc c fs ρ
  | .stuck => .stuck

def ofO {α : Type} : Option α → Res α
  | some a => .ok a
  | none => .stuck

theorem bindOk {α β : Type} {a : α} {f : α → Res β} : (Res.ok a).bind f = f a := rfl
theorem ofOs {α : Type} {a : α} : ofO (some a) = .ok a := rfl
theorem Res.bind_ok {α β : Type} {r : Res α} {f : α → Res β} {b : β} (h : r.bind f = .ok b) : ∃ a, r = .ok a ∧ f a = .ok b := by
  cases r with
  | ok a => exact ⟨a, rfl, h⟩
  | exc c fs ρ => cases h
  | stuck => cases h
theorem Res.bind_exc {α β : Type} {r : Res α} {f : α → Res β} {c : Str} {fs : List (Str × Dat)} {ρ : DEnv} (h : r.bind f = .exc c fs ρ) : r = .exc c fs ρ ∨ ∃ a, r = .ok a ∧ f a = .exc c fs ρ := by
  cases r with
  | ok a => exact .inr ⟨a, rfl, h⟩
  | exc c fs ρ => cases h; exact .inl rfl
  | stuck => cases h
theorem ofO_exc {α : Type} {o : Option α} {c : Str} {fs : List (Str × Dat)} {ρ : DEnv} (h : ofO o = .exc c fs ρ) : False := by
  cases o <;> cases h
theorem ofO_ok {α : Type} {o : Option α} {a : α} (h : ofO o = .ok a) : o = some a := by
  cases o with
  | none => cases h
  | some b => cases h; rfl

inductive Mode where
  | frz | fresh | brw (i : Nat)

inductive BI where
  | len | max | min | all | tuple | list | repr | str | int
  deriving DecidableEq

/-- what is done to one value -/
inductive P1 where
  | fld (f : Str)
  | isC (cs : List Str)

mutual
inductive IE where
  | var (i : Nat)
  | cst (d : Dat)
  | glb (x : Str)
  | tup (es : IEs)
  | lst (es : IEs)
  | dic0
  | dic1 (k v : IE)
  | bin (op : Operator) (a b : IE)
  | neg (a : IE)
  | not (a : IE)
  | and (a b : IE)
  | or (a b : IE)
  | cmp (op : CmpOp) (a b : IE)
  | cmp2 (o p : CmpOp) (a b c : IE)
  | ite (c a b : IE)
  | idx (a b : IE)
  | slcL (a lo : IE)
  | slcR (a hi : IE)
  | call (f : Str) (as : IEs)
  | bi (b : BI) (as : IEs)
  | isi (a : IE) (ty : String)
  | join (o a : IE)
  | upper (o : IE)
  | lc (elt : IE) (tg : Nat) (it : IE) (own : List (Str × Nat))
  | lcI (elt : IE) (tg : Nat) (it : IE) (cond : IE) (own : List (Str × Nat))
  | lcR (elt : IE) (tg : Nat) (a : IE) (own : List (Str × Nat))
  | split (o a : IE)
  | fst (es : IEs)
  | isN (b : Bool) (a : IE)
  | isE (i : Nat) (cs : List Str)
  | fldE (i : Nat) (f : Str)
  | callK (f : Str) (ks : List Str) (as : IEs)
  | mk (c : Str) (as : IEs)
  | mkK (c : Str) (ks : List Str) (as : IEs)
  | pr (p : P1) (a : IE)
  | lcT (elt : IE) (tgs : List Nat) (it : IE) (own : List (Str × Nat))
inductive IEs where
  | nil
  | cons (e : IE) (es : IEs)
end

/-- a list that is owned or new is read as it stands now -/
def now (d : Dat) (m : Mode) (ρ : DEnv) : Option Dat :=
  match m with
  | .brw i => (match ρ[i]? with
    | some (.own d') => some d'
    | some (.val d') => some d'
    | _ => none)
  | _ => some d

/-- a value that is handed on: nobody may change it any more -/
def keep (m : Mode) (ρ : DEnv) (d : Dat) : DEnv :=
  match m with
  | .brw i => ρ.set i (.val d)
  | _ => ρ

def sm (n : Nat) : Bool := decide (n ≤ 100000)

mutual
def Dat.toPy : Dat → PyData
  | .non => .none
  | .bl b => .bool b
  | .int i => .int i
  | .str s => .str s
  | .lst xs => .list (toPys xs)
  | .tup xs => .tuple (toPys xs)
  | .dic kvs => .dict (toPyKv kvs)
  | .scr ns => .list (ns.map PyData.int)
  | .obj _ _ => .none
def toPys : List Dat → List PyData
  | [] => []
  | d :: ds => d.toPy :: toPys ds
def toPyKv : List (Dat × Dat) → List (PyData × PyData)
  | [] => []
  | (k, v) :: r => (k.toPy, v.toPy) :: toPyKv r
end

def binD (op : Operator) (a b : Dat) : Option (Dat × Mode) :=
  match op, a, b with
  | .Add, .int i, .int j => some (.int (i + j), .frz)
  | .Sub, .int i, .int j => some (.int (i - j), .frz)
  | .Mult, .int i, .int j => if (-(2 ^ 64) < j ∧ j < 2 ^ 64) ∨ (-(2 ^ 64) < i ∧ i < 2 ^ 64) then some (.int (i * j), .frz) else none
  | .Mod, .int i, .int j => if 0 < j then some (.int (i % j), .frz) else none
  | .FloorDiv, .int i, .int j => if 0 < j ∧ j < 1073741824 then some (.int (i / j), .frz) else none
  | .Pow, .int i, .int j => if 0 ≤ j ∧ j ≤ 1000000 ∧ i.natAbs < 2 ^ 64 then some (.int (i ^ j.toNat), .frz) else none
  | .Add, .str x, .str y => if sm (x.length + y.length) then some (.str (x ++ y), .frz) else none
  | .Add, .lst xs, .lst ys => if sm (xs.length + ys.length) then some (.lst (xs ++ ys), .fresh) else none
  | .Add, .tup xs, .tup ys => if sm (xs.length + ys.length) then some (.tup (xs ++ ys), .frz) else none
  | .Mult, .lst xs, .int j => if 0 ≤ j ∧ j ≤ 1000 ∧ xs.length ≤ 1000 then some (.lst (List.replicate j.toNat xs).flatten, .fresh) else none
  | .Mult, .str x, .int j => if 1 < j ∧ j ≤ 1000 ∧ x.length ≤ 100 then some (.str (Txt.mul x j), .frz) else none
  | _, _, _ => none

def Dat.isNon : Dat → Bool
  | .non => true
  | _ => false
/-- flat data, by which == and in are plain -/
def Dat.flat : Dat → Bool
  | .non => true
  | .bl _ => true
  | .int _ => true
  | .str _ => true
  | _ => false

mutual
/-- no object within -/
def Dat.pure : Dat → Bool
  | .lst xs => pures xs
  | .tup xs => pures xs
  | .dic kvs => pureKv kvs
  | .obj _ _ => false
  | _ => true
def pures : List Dat → Bool
  | [] => true
  | d :: ds => d.pure && pures ds
def pureKv : List (Dat × Dat) → Bool
  | [] => true
  | (k, v) :: r => k.pure && v.pure && pureKv r
end
/-- how deep, how wide (bounds for the machine) -/
def Dat.fit (d : Dat) : Bool := d.pure && PySem.SeqAt.shaped d.toPy

def intsD (p : Int → Int → Bool) (a b : Dat) : Option Bool :=
  match a, b with
  | .int i, .int j => some (p i j)
  | _, _ => none
def inD (a b : Dat) : Option Bool :=
  match b with
  | .str z => (match a with
    | .str w => (match w.cps.toList with
      | [c] => some (decide (c ∈ z.cps.toList))
      | _ => none)
    | _ => none)
  | .lst ys => if a.flat && ys.all Dat.flat then some (ys.any fun y => PyData.eqv y.toPy a.toPy) else none
  | _ => none
/-- == of two plain values of one kind -/
def eqFlat (a b : Dat) : Option Bool :=
  match a, b with
  | .str x, .str y => some (decide (x = y))
  | .int x, .int y => some (decide (x = y))
  | .bl x, .bl y => some (decide (x = y))
  | .non, .non => some true
  | _, _ => none
def eqD (a b : Dat) : Option Bool :=
  match eqFlat a b with
  | some r => some r
  | none => if a.fit && b.fit then some (PyData.eqv a.toPy b.toPy) else
  match b with
  | .tup [] => (match a with | .tup xs => some xs.isEmpty | _ => none)
  | .lst [] => (match a with | .lst xs => some xs.isEmpty | _ => none)
  | _ => none
def cmpD (op : CmpOp) (a b : Dat) : Option Bool :=
  match op with
  | .Lt => intsD (fun i j => decide (i < j)) a b
  | .LtE => intsD (fun i j => decide (i ≤ j)) a b
  | .Gt => intsD (fun i j => decide (j < i)) a b
  | .GtE => intsD (fun i j => decide (j ≤ i)) a b
  | .In => inD a b
  | .NotIn => (inD a b).map (!·)
  | .Eq => eqD a b
  | .NotEq => (match eqFlat a b with
    | some r => some (!r)
    | none => if a.fit && b.fit then some (!PyData.eqv a.toPy b.toPy) else none)
  | _ => none

def Dat.tyn : Dat → String
  | .non => "NoneType" | .bl _ => "bool" | .int _ => "int" | .str _ => "str" | .lst _ => "list" | .tup _ => "tuple" | .dic _ => "dict" | .scr _ => "list" | .obj _ _ => "object"
def tys6 : List String := ["int", "bool", "str", "tuple", "list", "dict"]
def isaN (t ty : String) : Bool := (t == ty) || (t == "bool" && ty == "int")
def Dat.isObj : Dat → Bool
  | .obj _ _ => true
  | _ => false
def Dat.isa (d : Dat) (ty : String) : Option Bool := if ty ∈ tys6 ∧ d.isObj = false then some (isaN d.tyn ty) else none

def idxD (a b : Dat) : Option Dat :=
  match a, b with
  | .lst xs, .int i => L2.atI xs i
  | .tup xs, .int i => L2.atI xs i
  | .scr ns, .int i => (L2.atI ns i).map .int
  | .str x, .int i => if sm x.length then (L2.atI x.cps.toList i).map fun c => .str ⟨#[c]⟩ else none
  | _, _ => none

/-- the part of a list from lo on, below hi -/
def cut {α : Type} (xs : List α) (lo hi : Option Int) : List α := (xs.drop (HT.sIx xs.length 0 lo)).take (HT.sIx xs.length xs.length hi - HT.sIx xs.length 0 lo)
def slcD (a : Dat) (lo hi : Option Int) : Option (Dat × Mode) :=
  match a with
  | .lst xs => some (.lst (cut xs lo hi), .fresh)
  | .tup xs => some (.tup (cut xs lo hi), .frz)
  | .str x => if sm x.length then some (.str (L2.cutS x lo hi), .frz) else none
  | _ => none

def ints? : List Dat → Option (List Int)
  | [] => some []
  | .int i :: r => (ints? r).map (i :: ·)
  | _ :: _ => none
def strs? : List Dat → Option (List Str)
  | [] => some []
  | .str x :: r => (strs? r).map (x :: ·)
  | _ :: _ => none
def bls? : List Dat → Option (List Bool)
  | [] => some []
  | .bl b :: r => (bls? r).map (b :: ·)
  | _ :: _ => none

mutual
def Dat.noLst : Dat → Bool
  | .lst xs => noLsts xs
  | .scr _ => false
  | .tup xs => noLsts xs
  | .dic kvs => noLstKv kvs
  | _ => true
def noLsts : List Dat → Bool
  | [] => true
  | d :: ds => d.noLst && noLsts ds
def noLstKv : List (Dat × Dat) → Bool
  | [] => true
  | (k, v) :: r => k.noLst && v.noLst && noLstKv r
end
/-- whose repr is told -/
def Dat.tell (d : Dat) : Bool := d.pure && d.toPy.showable && decide (d.toPy.depth ≤ 40) && sm d.toPy.shown.length && (!d.toPy.hasDict || d.noLst)

def biD (b : BI) (as : List Dat) : Option (Dat × Mode) :=
  match b, as with
  | .len, [.lst xs] => some (.int xs.length, .frz)
  | .len, [.tup xs] => some (.int xs.length, .frz)
  | .len, [.scr ns] => some (.int ns.length, .frz)
  | .len, [.str x] => if sm x.length then some (.int x.length, .frz) else none
  | .max, [.int i, .int j] => some (.int (if j > i then j else i), .frz)
  | .min, [.int i, .int j] => some (.int (if j < i then j else i), .frz)
  | .max, [.lst xs] => (ints? xs).bind fun ns => match ns with
    | [] => none
    | n :: r => some (.int (r.foldl (fun a b => if b > a then b else a) n), .frz)
  | .all, [.lst xs] => (bls? xs).map fun bs => (.bl (bs.all id), .frz)
  | .tuple, [.lst xs] => some (.tup xs, .frz)
  | .list, [.tup xs] => some (.lst xs, .fresh)
  | .list, [.lst xs] => some (.lst xs, .fresh)
  | .repr, [d] => if d.tell then some (.str d.toPy.shown, .frz) else none
  | .str, [.str x] => some (.str x, .frz)
  | .str, [.int i] => if i.natAbs < 2 ^ 64 then some (.str (toString i), .frz) else none
  | .int, [.int i] => some (.int i, .frz)
  | .int, [.bl b] => some (.int (if b then 1 else 0), .frz)
  | .int, [.str x] => if x.length ≤ 640 then (PySem.intText? x).map fun i => (.int i, .frz) else none
  | _, _ => none

def items : Dat → Option (List Dat)
  | .lst xs => some xs
  | .tup xs => some xs
  | .str x => some (x.cps.toList.map fun c => .str ⟨#[c]⟩)
  | _ => none

/-- a def: which of its parameters it may change; what it comes to: its value, whether that is new, what the changed ones hold then -/
structure FI where
  io : List Bool
  run : List Dat → Res (Dat × Bool × List Dat)

end Ev
namespace Ev
open PySem
/-- what the module's names stand for: plain constants, defs -/
structure Tab where
  con : Str → Option Dat
  fn : Str → Option FI
  /-- of two classes of exceptions, whether the one stands under the other -/
  sub : Str → Str → Option Bool
  /-- the classes of exceptions, each with its fields -/
  exc : Str → Option (List Str)
  /-- by which names a def's parameters may be told -/
  kw : Str → Option (List Str)
  /-- which values a class of exceptions with fields takes -/
  takes : Str → List Dat → Bool
  /-- in which orders its parameters may be told by their names -/
  mkw : Str → List Str → Bool
  /-- names that stand for classes -/
  cls : Str → Bool
section
variable (T : Tab)

/-- the arguments of a def: what is handed on; at the places that may be changed a name's slot -/
inductive GE where
  | val (d : Dat) | slot (i : Nat) | tmp (d : Dat)
abbrev Got := List GE

def ioSlot : IE → Option Nat
  | .var i => some i
  | _ => none

def readArgs (ρ : DEnv) : Got → Option (List Dat)
  | [] => some []
  | .val d :: r => (readArgs ρ r).map (d :: ·)
  | .tmp d :: r => (readArgs ρ r).map (d :: ·)
  | .slot i :: r => (match ρ[i]? with
    | some (.own d) => (readArgs ρ r).map (d :: ·)
    | _ => none)
def putBack (ρ : DEnv) : Got → List Dat → DEnv
  | .val _ :: r, ds => putBack ρ r ds
  | .tmp _ :: r, _ :: ds => putBack ρ r ds
  | .slot i :: r, d :: ds => putBack (ρ.set i (.own d)) r ds
  | _, _ => ρ
/-- .. where the def let an exception out -/
def putX (ρ : DEnv) : Got → DEnv → DEnv
  | .val _ :: r, ss => putX ρ r ss
  | .tmp _ :: r, _ :: ss => putX ρ r ss
  | .slot i :: r, s :: ss => putX (ρ.set i s) r ss
  | _, _ => ρ
def slotsOf : Got → List Nat
  | [] => []
  | .val _ :: r => slotsOf r
  | .tmp _ :: r => slotsOf r
  | .slot i :: r => i :: slotsOf r

def put : Option Dat → List Dat → List Dat
  | some y, ys => y :: ys
  | none, ys => ys
/-- the turns of a comprehension -/
def turns (one : Dat → DEnv → Res (Option Dat × DEnv)) : List Dat → DEnv → Res (List Dat × DEnv)
  | [], ρ => .ok ([], ρ)
  | x :: r, ρ => (one x ρ).bind fun (o, ρ1) => (turns one r ρ1).bind fun (ys, ρ2) => .ok (put o ys, ρ2)

def wipeE (ρ : DEnv) : List Nat → DEnv
  | [] => ρ
  | v :: vs => (wipeE ρ vs).set v .no
/-- behind a comprehension its own names hold again what they held -/
def back (ρ ρ' : DEnv) (vs : List Nat) : DEnv := ρ'.mapIdx fun i s => if vs.contains i then ρ.getD i .no else s
def calmAt (ρ : DEnv) (vs : List Nat) : Bool := vs.all fun v => match ρ[v]? with
  | some (.own _) => false
  | some _ => true
  | none => false
/-- a comprehension: what is walked, one turn -/
def comp (vs : List Nat) (one : Dat → DEnv → Res (Option Dat × DEnv)) (xs : List Dat) (ρ : DEnv) : Res (Dat × Mode × DEnv) :=
  if sm xs.length && calmAt ρ vs then (match turns one xs ρ with
    | .ok (ys, ρ2) => .ok (.lst ys, .fresh, back ρ ρ2 vs)
    | .exc c fs ρ2 => .exc c fs (back ρ ρ2 vs)
    | .stuck => .stuck) else .stuck
/-- a call of a def, its arguments at hand -/
def callD (fi : FI) (g : Got) (ρ1 : DEnv) : Res (Dat × Mode × DEnv) :=
  if (slotsOf g).Nodup ∧ g.length = fi.io.length then
    (ofO (readArgs ρ1 g)).bind fun ds => (match fi.run ds with
      | .ok (d, new, outs) => .ok (d, if new then .fresh else .frz, putBack ρ1 g outs)
      | .exc c fs ss => .exc c fs (putX ρ1 g ss)
      | .stuck => .stuck)
  else .stuck
/-- a part of an f-text, behind what is there -/
def fmtD (acc : Str) : Dat → Option Str
  | .str x => if sm (acc ++ x).length && sm x.length then some (acc ++ x) else none
  | .int i => if i.natAbs < 2 ^ 64 ∧ sm (acc ++ toString i).length = true then some (acc ++ toString i) else none
  | _ => none
def subs (T : Tab) (c : Str) : List Str → Option Bool
  | [] => some false
  | d :: r => (match T.sub c d with
    | some true => some true
    | some false => subs T c r
    | none => none)

/-- C(e, ..) -/
def mkD (T : Tab) (c : Str) (fs : List Str) (ds : List Dat) : Option Dat :=
  match fs with
  | [] => if ds.length = 1 then some (.obj c []) else none
  | f :: fs => if ds.length = fs.length + 1 ∧ T.takes c ds = true then some (.obj c (((f :: fs).zip ds).reverse)) else none
/-- what was told by names, by places -/
def byNames (ns ks : List Str) (ds : List Dat) : Option (List Dat) := ns.mapM fun n => (ks.zip ds).lookup n
def mkDK (T : Tab) (c : Str) (ks fs : List Str) (ds : List Dat) : Option Dat :=
  if ds.length = fs.length ∧ ks.length = fs.length then (byNames fs ks ds).bind fun es => if T.takes c es = true then some (.obj c ((fs.zip es).reverse)) else none else none
def fldD (T : Tab) (f : Str) : Dat → Option Dat
  | .obj c fs => if (T.exc c).any (·.contains f) then fs.lookup f else none
  | _ => none
def isCD (T : Tab) (cs : List Str) : Dat → Option Bool
  | .obj c _ => subs T c cs
  | _ => none
/-- what the tables must say of it -/
def okP (T : Tab) : P1 → Bool
  | .fld _ => true
  | .isC cs => cs.all T.cls && !cs.isEmpty
/-- what is done to one value -/
def pr1D (T : Tab) : P1 → Dat → Option (Dat × Mode)
  | .fld f, x => (fldD T f x).map fun d => (d, .frz)
  | .isC cs, x => (isCD T cs x).map fun b => (.bl b, .frz)
/-- the parts of a tuple, each into its slot -/
def storeAll : List Nat → List Dat → DEnv → DEnv
  | i :: is, d :: ds, ρ => storeAll is ds (ρ.set i (.val d))
  | _, _, ρ => ρ
def oneTup (e : DEnv → Res (Dat × Mode × DEnv)) (tgs : List Nat) (vs : List Nat) : Dat → DEnv → Res (Option Dat × DEnv) := fun x ρ' =>
  (match x with
  | .tup ds => if ds.length = tgs.length then (e (storeAll tgs ds (wipeE ρ' vs))).bind fun (y, m, ρ'') => .ok (some y, keep m ρ'' y) else .stuck
  | _ => .stuck)
/-- one turn of a comprehension, by what its element (and its test) come to -/
def oneOf (e : DEnv → Res (Dat × Mode × DEnv)) (tg : Nat) (vs : List Nat) : Dat → DEnv → Res (Option Dat × DEnv) := fun x ρ' =>
  (e ((wipeE ρ' vs).set tg (.val x))).bind fun (y, m, ρ'') => .ok (some y, keep m ρ'' y)
def oneIf (c e : DEnv → Res (Dat × Mode × DEnv)) (tg : Nat) (vs : List Nat) : Dat → DEnv → Res (Option Dat × DEnv) := fun x ρ' =>
  (c ((wipeE ρ' vs).set tg (.val x))).bind fun (z, _, ρa) => (match z with
    | .bl true => (e ρa).bind fun (y, m, ρ'') => .ok (some y, keep m ρ'' y)
    | .bl false => .ok (none, ρa)
    | _ => .stuck)

mutual
def ev : IE → DEnv → Res (Dat × Mode × DEnv)
  | .var i, ρ => (match ρ[i]? with
    | some (.val d) => .ok (d, .frz, ρ)
    | some (.own d) => .ok (d, .brw i, ρ)
    | _ => .stuck)
  | .cst d, ρ => .ok (d, .frz, ρ)
  | .glb x, ρ => (ofO (T.con x)).bind fun d => .ok (d, .frz, ρ)
  | .tup es, ρ => (evs es ρ).bind fun (ds, ρ1) => if sm ds.length then .ok (.tup ds, .frz, ρ1) else .stuck
  | .lst es, ρ => (evs es ρ).bind fun (ds, ρ1) => if sm ds.length then .ok (.lst ds, .fresh, ρ1) else .stuck
  | .dic0, ρ => .ok (.dic [], .frz, ρ)
  | .dic1 k v, ρ => (ev k ρ).bind fun (x, _, ρ1) => (match x with
      | .str s => (ev v ρ1).bind fun (d, m, ρ2) => .ok (.dic [(.str s, d)], .frz, keep m ρ2 d)
      | _ => .stuck)
  | .bin op a b, ρ => (ev a ρ).bind fun (x, m, ρ1) => (ev b ρ1).bind fun (y, _, ρ2) =>
      (ofO (now x m ρ2)).bind fun x' => (ofO (binD op x' y)).bind fun (d, k) => .ok (d, k, ρ2)
  | .neg a, ρ => (ev a ρ).bind fun (x, _, ρ1) => (match x with | .int i => .ok (.int (-i), .frz, ρ1) | _ => .stuck)
  | .not a, ρ => (ev a ρ).bind fun (x, _, ρ1) => (match x with | .bl b => .ok (.bl (!b), .frz, ρ1) | _ => .stuck)
  | .and a b, ρ => (ev a ρ).bind fun (x, _, ρ1) => (match x with | .bl true => ev b ρ1 | .bl false => .ok (.bl false, .frz, ρ1) | _ => .stuck)
  | .or a b, ρ => (ev a ρ).bind fun (x, _, ρ1) => (match x with | .bl false => ev b ρ1 | .bl true => .ok (.bl true, .frz, ρ1) | _ => .stuck)
  | .cmp op a b, ρ => (ev a ρ).bind fun (x, m, ρ1) => (ev b ρ1).bind fun (y, _, ρ2) =>
      (ofO (now x m ρ2)).bind fun x' => (ofO (cmpD op x' y)).bind fun r => .ok (.bl r, .frz, ρ2)
  | .cmp2 o p a b c, ρ => (ev a ρ).bind fun (x, _, ρ1) => (ev b ρ1).bind fun (y, _, ρ2) => (match x, y with
      | .int i, .int j => (ofO (cmpD o (.int i) (.int j))).bind fun r => (match r with
        | false => .ok (.bl false, .frz, ρ2)
        | true => (ev c ρ2).bind fun (z, _, ρ3) => (match z with
          | .int k => (ofO (cmpD p (.int j) (.int k))).bind fun r' => .ok (.bl r', .frz, ρ3)
          | _ => .stuck))
      | _, _ => .stuck)
  | .ite c a b, ρ => (ev c ρ).bind fun (x, _, ρ1) => (match x with | .bl true => ev a ρ1 | .bl false => ev b ρ1 | _ => .stuck)
  | .idx a b, ρ => (ev a ρ).bind fun (x, m, ρ1) => (ev b ρ1).bind fun (y, _, ρ2) =>
      (ofO (now x m ρ2)).bind fun x' => (ofO (idxD x' y)).bind fun d => .ok (d, .frz, ρ2)
  | .slcL a b, ρ => (ev a ρ).bind fun (x, m, ρ1) => (ev b ρ1).bind fun (y, _, ρ2) =>
      (ofO (now x m ρ2)).bind fun x' => (match y with | .int i => (ofO (slcD x' (some i) none)).bind fun (d, k) => .ok (d, k, ρ2) | _ => .stuck)
  | .slcR a b, ρ => (ev a ρ).bind fun (x, m, ρ1) => (ev b ρ1).bind fun (y, _, ρ2) =>
      (ofO (now x m ρ2)).bind fun x' => (match y with | .int i => (ofO (slcD x' none (some i))).bind fun (d, k) => .ok (d, k, ρ2) | _ => .stuck)
  | .call f as, ρ => (match T.fn f with
    | none => .stuck
    | some fi => (evArgs fi.io as ρ).bind fun (g, ρ1) => callD fi g ρ1)
  | .bi b (.cons a .nil), ρ => (ev a ρ).bind fun (x, _, ρ1) => (ofO (biD b [x])).bind fun (d, k) => .ok (d, k, ρ1)
  | .bi b (.cons a (.cons c .nil)), ρ => (ev a ρ).bind fun (x, m, ρ1) => (ev c ρ1).bind fun (y, _, ρ2) => (ofO (now x m ρ2)).bind fun x' => (ofO (biD b [x', y])).bind fun (d, k) => .ok (d, k, ρ2)
  | .bi _ _, ρ => .stuck
  | .isi a ty, ρ => (ev a ρ).bind fun (x, _, ρ1) => (ofO (x.isa ty)).bind fun b => .ok (.bl b, .frz, ρ1)
  | .join o a, ρ => (ev o ρ).bind fun (x, _, ρ1) => (match x with
      | .str s => (ev a ρ1).bind fun (y, _, ρ2) => (match y with
        | .lst ys => (ofO (strs? ys)).bind fun zs => if sm ((zs.map (·.length)).sum + zs.length * s.length) then .ok (.str (Txt.join s zs), .frz, ρ2) else .stuck
        | _ => .stuck)
      | _ => .stuck)
  | .upper o, ρ => (ev o ρ).bind fun (x, _, ρ1) => (match x with | .str s => if sm s.length then .ok (.str (Txt.upper s), .frz, ρ1) else .stuck | _ => .stuck)
  | .lc elt tg it own, ρ => (ev it ρ).bind fun (x, m, ρ1) => (ofO (items x)).bind fun xs =>
      comp (own.map (·.2)) (oneOf (ev elt) tg (own.map (·.2))) xs (keep m ρ1 x)
  | .lcI elt tg it cond own, ρ => (ev it ρ).bind fun (x, m, ρ1) => (ofO (items x)).bind fun xs =>
      comp (own.map (·.2)) (oneIf (ev cond) (ev elt) tg (own.map (·.2))) xs (keep m ρ1 x)
  | .lcR elt tg a own, ρ => (ev a ρ).bind fun (x, _, ρ1) => (match x with
      | .int j => if -(2 ^ 62) ≤ j ∧ j < 2 ^ 62 then
        comp (own.map (·.2)) (oneOf (ev elt) tg (own.map (·.2))) ((List.range j.toNat).map fun (k : Nat) => .int (k : Int)) ρ1
        else .stuck
      | _ => .stuck)
  | .split o a, ρ => (ev o ρ).bind fun (x, _, ρ1) => (match x with
      | .str s => (ev a ρ1).bind fun (y, _, ρ2) => (match y with
        | .str t => if sm s.length && !(t.length == 0) then .ok (.lst ((Txt.split s t).map .str), .fresh, ρ2) else .stuck
        | _ => .stuck)
      | _ => .stuck)
  | .fst es, ρ => (evF es Str.empty ρ).bind fun (z, ρ1) => .ok (.str z, .frz, ρ1)
  | .isN b a, ρ => (ev a ρ).bind fun (x, _, ρ1) => .ok (.bl (if b then x.isNon else !x.isNon), .frz, ρ1)
  | .isE i cs, ρ => (match ρ[i]? with
    | some (.exn c _) => (ofO (subs T c cs)).bind fun b => .ok (.bl b, .frz, ρ)
    | _ => .stuck)
  | .fldE i f, ρ => (match ρ[i]? with
    | some (.exn c fs) => if (T.exc c).any (·.contains f) then (ofO (fs.lookup f)).bind fun d => .ok (d, .frz, ρ) else .stuck
    | _ => .stuck)
  | .callK f ks as, ρ => (match T.fn f with
    | none => .stuck
    | some fi => if T.kw f = some ks ∧ fi.io.all (!·) = true then (evs as ρ).bind fun (ds, ρ1) => callD fi (ds.map .val) ρ1 else .stuck)
  | .mk c as, ρ => (match T.exc c with
    | none => .stuck
    | some fs => (evs as ρ).bind fun (ds, ρ1) => (ofO (mkD T c fs ds)).bind fun d => .ok (d, .frz, ρ1))
  | .mkK c ks as, ρ => (match T.exc c with
    | some (f :: fs) => if T.mkw c ks = true then (evs as ρ).bind fun (ds, ρ1) => (ofO (mkDK T c ks (f :: fs) ds)).bind fun d => .ok (d, .frz, ρ1) else .stuck
    | _ => .stuck)
  | .pr p a, ρ => if okP T p = false then .stuck else (ev a ρ).bind fun (x, _, ρ1) => (ofO (pr1D T p x)).bind fun (d, k) => .ok (d, k, ρ1)
  | .lcT elt tgs it own, ρ => (ev it ρ).bind fun (x, m, ρ1) => (ofO (items x)).bind fun xs =>
      comp (own.map (·.2)) (oneTup (ev elt) tgs (own.map (·.2))) xs (keep m ρ1 x)
def evF : IEs → Str → DEnv → Res (Str × DEnv)
  | .nil, acc, ρ => .ok (acc, ρ)
  | .cons e es, acc, ρ => (ev e ρ).bind fun (d, _, ρ1) => (ofO (fmtD acc d)).bind fun acc' => evF es acc' ρ1
def evs : IEs → DEnv → Res (List Dat × DEnv)
  | .nil, ρ => .ok ([], ρ)
  | .cons e es, ρ => (ev e ρ).bind fun (d, m, ρ1) => (evs es (keep m ρ1 d)).bind fun (ds, ρ2) => .ok (d :: ds, ρ2)
def evArgs : List Bool → IEs → DEnv → Res (Got × DEnv)
  | _, .nil, ρ => .ok ([], ρ)
  | true :: io, .cons e es, ρ => (match ioSlot e with
    | some i => (match ρ[i]? with
      | some (.own _) => (evArgs io es ρ).bind fun (g, ρ1) => .ok (.slot i :: g, ρ1)
      | _ => .stuck)
    | none => (ev e ρ).bind fun (d, m, ρ1) => (match m with
      | .fresh => (evArgs io es ρ1).bind fun (g, ρ2) => .ok (.tmp d :: g, ρ2)
      | _ => .stuck))
  | false :: io, .cons e es, ρ => (ev e ρ).bind fun (d, m, ρ1) => (evArgs io es (keep m ρ1 d)).bind fun (g, ρ2) => .ok (.val d :: g, ρ2)
  | [], .cons _ _, _ => .stuck
end
end
end Ev
set_option Elab.async false
set_option linter.all false
set_option maxRecDepth 100000
namespace Ev
open PySem PySem.Spec PyProof.Rows L2

/-- the exception that is being handled: its object, its dict, its class -/
structure EA where
  a : Addr
  d : Option Addr
  C : Addr
/-- what stands around the data: the written part, the module's names, what is handled -/
structure KM where
  K : PySem.W.Frag
  mg : Str → Option Value
  ea : Option EA
abbrev _root_.L2.Cx.km (X : Cx) (ea : Option EA) : KM := ⟨X.K, X.mg, ea⟩

def isFrz : HO → Bool
  | .tup _ => true
  | .frz _ _ => true
  | _ => false
/-- what can't change stays -/
def FrzLe (H H' : Hp) : Prop := ∀ a o, H a = some o → isFrz o = true → H' a = some o
theorem FrzLe.refl (H : Hp) : FrzLe H H := fun _ _ h _ => h
theorem FrzLe.trans {H H1 H2 : Hp} (a : FrzLe H H1) (b : FrzLe H1 H2) : FrzLe H H2 := fun x o h f => b x o (a x o h f) f
theorem FrzLe.new {H : Hp} {p : Addr} {o : HO} (h : H p = none) : FrzLe H (upd H p o) := fun a u e _ => by
  rw [upd_ne (ne_of_none e h)]; exact e
theorem FrzLe.mut {H : Hp} {p : Addr} {o u : HO} (h : H p = some u) (f : isFrz u = false) : FrzLe H (upd H p o) := fun a w e g => by
  have n : a ≠ p := fun z => by subst z; rw [h] at e; cases e; rw [f] at g; cases g
  rw [upd_ne n]; exact e

/-- a list that is known to be as it is, or one of the module's own -/
def SqF (K : KM) (H : Hp) (a : Addr) (xs : List V) : Prop := (∃ o, H a = some (.frz o (.lst xs))) ∨ SqL K.K (fun _ => none) a xs
theorem SqF.mono {K : KM} {H H' : Hp} {a : Addr} {xs : List V} (f : FrzLe H H') (h : SqF K H a xs) : SqF K H' a xs := by
  rcases h with ⟨o, h⟩ | h
  · exact .inl ⟨o, f _ _ h rfl⟩
  · exact .inr h
theorem SqF.sq {K : KM} {H : Hp} {a : Addr} {xs : List V} (h : SqF K H a xs) : SqL K.K H a xs := by
  rcases h with ⟨o, h⟩ | (h | ⟨o, h⟩) | h
  · exact .inl (.inr ⟨o, h⟩)
  · cases h
  · cases h
  · exact .inr h
mutual
inductive Is (K : KM) (H : Hp) : V → Dat → Prop
  | non : Is K H .non .non
  | bl (b) : Is K H (.bl b) (.bl b)
  | int (i) : Is K H (.int i) (.int i)
  | str (x) : Is K H (.str x) (.str x)
  | tup {a vs ds} : SqT K.K H a vs → IsL K H vs ds → Is K H (.ref a) (.tup ds)
  | lst {a o vs ds} : H a = some (.frz o (.lst vs)) → IsL K H vs ds → Is K H (.ref a) (.lst ds)
  | scr {a ns} : SqF K H a (ns.map V.int) → Is K H (.ref a) (.scr ns)
  | dic {a} {o : Obj} {es : Array DictEntry} {n : Nat} {ks vs kvs} : H a = some (.frz o (.own a)) → o.cls = .type "dict" → o.data = .dict es n → (a == sysModules) = false →
      Vals ks (es.toList.map (·.key)) → Vals vs (es.toList.map (·.val)) → IsL K H ks (kvs.map (·.1)) → IsL K H vs (kvs.map (·.2)) → Is K H (.ref a) (.dic kvs)
  | err0 {a : Addr} {o : Obj} {u : HO} {C : Addr} {c : Str} {ws : Array Value} : H a = some (.frz o u) → o.cls = .ref C → o.dict = none → o.data = .fields ws → K.mg c = some (.ref C) → Is K H (.ref a) (.obj c [])
  | err1 {a : Addr} {o : Obj} {u : HO} {C dx : Addr} {c : Str} {ws : Array Value} {od : Obj} {vs : List (Str × V)} {fs : List (Str × Dat)} : H a = some (.frz o u) → o.cls = .ref C → o.dict = some dx → o.data = .fields ws → K.mg c = some (.ref C) →
      H dx = some (.frz od (.xd vs)) → vs.map (·.1) = fs.map (·.1) → IsL K H (vs.map (·.2)) (fs.map (·.2)) → Is K H (.ref a) (.obj c fs)
inductive IsL (K : KM) (H : Hp) : List V → List Dat → Prop
  | nil : IsL K H [] []
  | cons {v d vs ds} : Is K H v d → IsL K H vs ds → IsL K H (v :: vs) (d :: ds)
end

theorem sqT_mono {K : KM} {H H' : Hp} {a : Addr} {vs : List V} (f : FrzLe H H') (h : SqT K.K H a vs) : SqT K.K H' a vs := by
  rcases h with (h | ⟨o, h⟩) | h
  · exact .inl (.inl (f _ _ h rfl))
  · exact .inl (.inr ⟨o, f _ _ h rfl⟩)
  · exact .inr h
mutual
theorem Is.mono {K : KM} {H H' : Hp} (f : FrzLe H H') : ∀ {v : V} {d : Dat}, Is K H v d → Is K H' v d
  | _, _, .non => .non
  | _, _, .bl b => .bl b
  | _, _, .int i => .int i
  | _, _, .str x => .str x
  | _, _, .tup a b => .tup (sqT_mono f a) (IsL.mono f b)
  | _, _, .lst a b => .lst (f _ _ a rfl) (IsL.mono f b)
  | _, _, .scr a => .scr (a.mono f)
  | _, _, .dic a b c d e g h i => .dic (f _ _ a rfl) b c d e g (IsL.mono f h) (IsL.mono f i)
  | _, _, .err0 a b c d e => .err0 (f _ _ a rfl) b c d e
  | _, _, .err1 a b c d e g h i => .err1 (f _ _ a rfl) b c d e (f _ _ g rfl) h (IsL.mono f i)
theorem IsL.mono {K : KM} {H H' : Hp} (f : FrzLe H H') : ∀ {vs : List V} {ds : List Dat}, IsL K H vs ds → IsL K H' vs ds
  | _, _, .nil => .nil
  | _, _, .cons a b => .cons (Is.mono f a) (IsL.mono f b)
end
theorem IsL.length {K : KM} {H : Hp} : ∀ {vs : List V} {ds : List Dat}, IsL K H vs ds → vs.length = ds.length
  | _, _, .nil => rfl
  | _, _, .cons _ b => by rw [List.length_cons, List.length_cons, b.length]
theorem IsL.append {K : KM} {H : Hp} : ∀ {vs ws : List V} {ds es : List Dat}, IsL K H vs ds → IsL K H ws es → IsL K H (vs ++ ws) (ds ++ es)
  | _, _, _, _, .nil, b => b
  | _, _, _, _, .cons a r, b => .cons a (IsL.append r b)
theorem IsL.get {K : KM} {H : Hp} : ∀ {vs : List V} {ds : List Dat} {i : Nat} {d : Dat}, IsL K H vs ds → ds[i]? = some d → ∃ v, vs[i]? = some v ∧ Is K H v d
  | _, _, i, _, .nil, e => by simp at e
  | _, _, 0, _, .cons a _, e => by simp at e; subst e; exact ⟨_, rfl, a⟩
  | _, _, i + 1, d, .cons _ r, e => by
    obtain ⟨v, h1, h2⟩ := IsL.get (i := i) (d := d) r (by simpa using e)
    exact ⟨v, by simpa using h1, h2⟩
theorem IsL.getV {K : KM} {H : Hp} : ∀ {vs : List V} {ds : List Dat} {i : Nat} {v : V}, IsL K H vs ds → vs[i]? = some v → ∃ d, ds[i]? = some d ∧ Is K H v d
  | _, _, i, _, .nil, e => by simp at e
  | _, _, 0, _, .cons a _, e => by simp at e; subst e; exact ⟨_, rfl, a⟩
  | _, _, i + 1, d, .cons _ r, e => by
    obtain ⟨v, h1, h2⟩ := IsL.getV (i := i) r (by simpa using e)
    exact ⟨v, by simpa using h1, h2⟩
theorem IsL.drop {K : KM} {H : Hp} : ∀ {vs : List V} {ds : List Dat} (n : Nat), IsL K H vs ds → IsL K H (vs.drop n) (ds.drop n)
  | _, _, 0, h => h
  | _, _, _ + 1, .nil => .nil
  | _, _, n + 1, .cons _ r => IsL.drop n r
theorem IsL.take {K : KM} {H : Hp} : ∀ {vs : List V} {ds : List Dat} (n : Nat), IsL K H vs ds → IsL K H (vs.take n) (ds.take n)
  | _, _, 0, _ => .nil
  | _, _, _ + 1, .nil => .nil
  | _, _, n + 1, .cons a r => .cons a (IsL.take n r)

/-- a list that may be changed -/
def Own (K : KM) (H : Hp) (p : Addr) (d : Dat) : Prop := ∃ vs ds, d = .lst ds ∧ H p = some (.lst vs) ∧ IsL K H vs ds
/-- what may be read as d now -/
def Rdb (K : KM) (H : Hp) (v : V) (d : Dat) : Prop := Is K H v d ∨ ∃ p, v = .ref p ∧ Own K H p d

/-- the fields of an exception, in its dict -/
def XdR (K : KM) (H : Hp) (d : Option Addr) (fs : List (Str × Dat)) : Prop :=
  (fs = [] ∧ d = none) ∨ ∃ (dx : Addr) (o : Obj) (vs : List (Str × V)), d = some dx ∧ H dx = some (.frz o (.xd vs)) ∧ vs.map (·.1) = fs.map (·.1) ∧ IsL K H (vs.map (·.2)) (fs.map (·.2))
theorem XdR.mono {K : KM} {H H' : Hp} {d : Option Addr} {fs : List (Str × Dat)} (f : FrzLe H H') (h : XdR K H d fs) : XdR K H' d fs := by
  rcases h with h | ⟨dx, o, vs, h1, h2, h3, h4⟩
  · exact .inl h
  · exact .inr ⟨dx, o, vs, h1, f _ _ h2 rfl, h3, h4.mono f⟩
/-- an exception that flies: its class, its dict -/
def XcR (K : KM) (H : Hp) (cls : Value) (d : Option Addr) (c : Str) (fs : List (Str × Dat)) : Prop := ∃ C, cls = .ref C ∧ K.mg c = some (.ref C) ∧ XdR K H d fs
theorem XcR.mono {K : KM} {H H' : Hp} {cls : Value} {d : Option Addr} {c : Str} {fs : List (Str × Dat)} (f : FrzLe H H') (h : XcR K H cls d c fs) : XcR K H' cls d c fs := by
  obtain ⟨C, h1, h2, h3⟩ := h
  exact ⟨C, h1, h2, h3.mono f⟩
/-- the slots bear the environment; what B knows stands -/
structure REnv (K : KM) (B : Hp) (σ : L2.St) (H : Hp) (ρ : DEnv) : Prop where
  base : ∀ a o, B a = some o → H a = some o
  len : σ.length = ρ.length
  val : ∀ (i : Nat) d, ρ[i]? = some (.val d) → ∃ v, σ[i]? = some (some v) ∧ Is K H v d
  own : ∀ (i : Nat) d, ρ[i]? = some (.own d) → ∃ p, σ[i]? = some (some (.ref p)) ∧ B p = none ∧ Own K H p d
  sep : ∀ (i j : Nat) d e p, ρ[i]? = some (.own d) → ρ[j]? = some (.own e) → σ[i]? = some (some (.ref p)) → σ[j]? = some (some (.ref p)) → i = j
  exn : ∀ (i : Nat) c fs, ρ[i]? = some (.exn c fs) → ∃ e, K.ea = some e ∧ σ[i]? = some (some (.ref e.a)) ∧ K.mg c = some (.ref e.C) ∧ XdR K H e.d fs

def RV (K : KM) (B : Hp) (σ : L2.St) (ρ : DEnv) (H : Hp) (v : V) (d : Dat) : Mode → Prop
  | .frz => Is K H v d
  | .fresh => ∃ p, v = .ref p ∧ Own K H p d ∧ B p = none ∧ ∀ (i : Nat) e, ρ[i]? = some (.own e) → σ[i]? ≠ some (some (.ref p))
  | .brw i => σ[i]? = some (some v) ∧ ρ[i]? = some (.own d)

section
variable {K : KM} {B B' : Hp} {σ : L2.St} {H H' : Hp} {ρ ρ' : DEnv} {v : V} {d : Dat} {m : Mode}
theorem Own.mono {p : Addr} (f : FrzLe H H') (hp : H' p = H p) (h : Own K H p d) : Own K H' p d := by
  obtain ⟨vs, ds, rfl, e, r⟩ := h
  exact ⟨vs, ds, rfl, hp.trans e, r.mono f⟩
theorem Own.some {p : Addr} (h : Own K H p d) : ∃ vs, H p = some (.lst vs) := by
  obtain ⟨vs, ds, rfl, e, r⟩ := h
  exact ⟨vs, e⟩
theorem REnv.weak (R : REnv K B' σ H ρ) (le : ∀ a o, B a = some o → B' a = some o) : REnv K B σ H ρ :=
  ⟨fun a o e => R.base a o (le a o e), R.len, R.val, fun i d e => by
    obtain ⟨p, h1, h2, h3⟩ := R.own i d e
    refine ⟨p, h1, ?_, h3⟩
    cases q : B p with
    | none => rfl
    | some o => exact absurd h2 (by rw [le p o q]; exact fun z => nomatch z), R.sep, R.exn⟩
/-- the heap grows, or what nobody of these owns changes -/
theorem REnv.step (R : REnv K B σ H ρ) (f : FrzLe H H') (hb : ∀ a o, B a = some o → H a = some o → H' a = some o)
    (ho : ∀ (i : Nat) d p, ρ[i]? = some (.own d) → σ[i]? = some (some (.ref p)) → H' p = H p) : REnv K B σ H' ρ :=
  ⟨fun a o e => hb a o e (R.base a o e), R.len, fun i d e => by
    obtain ⟨v, h1, h2⟩ := R.val i d e
    exact ⟨v, h1, h2.mono f⟩, fun i d e => by
    obtain ⟨p, h1, h2, h3⟩ := R.own i d e
    exact ⟨p, h1, h2, h3.mono f (ho i d p e h1)⟩, R.sep, fun i c fs e => by
    obtain ⟨x, h1, h2, h3, h4⟩ := R.exn i c fs e
    exact ⟨x, h1, h2, h3, h4.mono f⟩⟩
theorem REnv.new {p : Addr} {o : HO} (R : REnv K B σ H ρ) (h : H p = none) : REnv K B σ (upd H p o) ρ :=
  R.step (FrzLe.new h) (fun a u _ e => by rw [upd_ne (ne_of_none e h)]; exact e) fun i d q e e2 => by
    obtain ⟨p', h1, h2, h3⟩ := R.own i d e
    rw [e2] at h1; cases h1
    obtain ⟨vs, hv⟩ := h3.some
    rw [upd_ne (ne_of_none hv h)]
theorem REnv.newB {p : Addr} (R : REnv K B σ H ρ) (h : H p = none) : B p = none := by
  cases q : B p with
  | none => rfl
  | some o => rw [R.base p o q] at h; cases h
theorem REnv.newS {p : Addr} (R : REnv K B σ H ρ) (h : H p = none) : ∀ (i : Nat) e, ρ[i]? = some (.own e) → σ[i]? ≠ some (some (.ref p)) := fun i e q z => by
  obtain ⟨p', h1, h2, h3⟩ := R.own i e q
  rw [z] at h1; cases h1
  obtain ⟨vs, hv⟩ := h3.some
  rw [h] at hv; cases hv
/-- a value is carried over what is reckoned next -/
theorem carry {x : Dat} (R : REnv K B σ H ρ) (r : RV K B σ ρ H v x m) : ∃ B1, REnv K B1 σ H ρ ∧ (∀ a o, B a = some o → B1 a = some o) ∧
    ∀ H2 ρ2 x', REnv K B1 σ H2 ρ2 → FrzLe H H2 → now x m ρ2 = some x' → Rdb K H2 v x' := by
  cases m with
  | frz => exact ⟨B, R, fun _ _ h => h, fun H2 ρ2 x' _ f e => by cases e; exact .inl (Is.mono f r)⟩
  | fresh =>
    obtain ⟨p, rfl, ⟨vs, ds, rfl, e, l⟩, bp, ns⟩ := r
    refine ⟨upd B p (.lst vs), ⟨fun a o h => ?_, R.len, R.val, fun i d' h => ?_, R.sep, R.exn⟩, fun a o h => ?_, fun H2 ρ2 x' R2 f h => ?_⟩
    · by_cases z : a = p
      · subst z; rw [upd_same] at h; cases h; exact e
      · rw [upd_ne z] at h; exact R.base a o h
    · obtain ⟨q, h1, h2, h3⟩ := R.own i d' h
      refine ⟨q, h1, ?_, h3⟩
      rw [upd_ne (fun z => ns i d' h (by rw [← z]; exact h1))]
      exact h2
    · rw [upd_ne (fun z => by subst z; rw [bp] at h; cases h)]; exact h
    · cases h
      exact .inr ⟨p, rfl, vs, ds, rfl, R2.base p _ upd_same, l.mono f⟩
  | brw i =>
    obtain ⟨h1, h2⟩ := r
    refine ⟨B, R, fun _ _ h => h, fun H2 ρ2 x' R2 f e => ?_⟩
    unfold now at e
    simp only at e
    split at e
    · rename_i d' q
      cases e
      obtain ⟨p, g1, g2, g3⟩ := R2.own i _ q
      rw [h1] at g1; cases g1
      exact .inr ⟨p, rfl, g3⟩
    · rename_i d' q
      cases e
      obtain ⟨w, g1, g2⟩ := R2.val i _ q
      rw [h1] at g1; cases g1
      exact .inl g2
    · cases e
theorem rdb_of {x : Dat} (R : REnv K B σ H ρ) (r : RV K B σ ρ H v x m) : Rdb K H v x := by
  cases m with
  | frz => exact .inl r
  | fresh => obtain ⟨p, rfl, o, _⟩ := r; exact .inr ⟨p, rfl, o⟩
  | brw i =>
    obtain ⟨h1, h2⟩ := r
    obtain ⟨p, g1, g2, g3⟩ := R.own i _ h2
    rw [h1] at g1; cases g1
    exact .inr ⟨p, rfl, g3⟩

/-! readable values by their kind -/
theorem Rdb.int {i : Int} (h : Rdb K H v (.int i)) : v = .int i := by
  rcases h with h | ⟨p, _, _, _, e, _⟩
  · cases h; rfl
  · cases e
theorem Rdb.str {x : Str} (h : Rdb K H v (.str x)) : v = .str x := by
  rcases h with h | ⟨p, _, _, _, e, _⟩
  · cases h; rfl
  · cases e
theorem Rdb.bl {b : Bool} (h : Rdb K H v (.bl b)) : v = .bl b := by
  rcases h with h | ⟨p, _, _, _, e, _⟩
  · cases h; rfl
  · cases e
theorem Rdb.tup {ds : List Dat} (h : Rdb K H v (.tup ds)) : ∃ a vs, v = .ref a ∧ SqT K.K H a vs ∧ IsL K H vs ds := by
  rcases h with h | ⟨p, _, _, _, e, _⟩
  · cases h with
    | tup a b => exact ⟨_, _, rfl, a, b⟩
  · cases e
theorem Rdb.scr {ns : List Int} (h : Rdb K H v (.scr ns)) : ∃ a, v = .ref a ∧ SqL K.K H a (ns.map V.int) := by
  rcases h with h | ⟨p, _, _, _, e, _⟩
  · cases h with
    | scr a => exact ⟨_, rfl, a.sq⟩
  · cases e
theorem Rdb.lst {ds : List Dat} (h : Rdb K H v (.lst ds)) : ∃ a vs, v = .ref a ∧ SqL K.K H a vs ∧ IsL K H vs ds := by
  rcases h with h | ⟨p, rfl, vs, _, e, h2, h3⟩
  · cases h with
    | lst a b => exact ⟨_, _, rfl, .inl (.inr ⟨_, a⟩), b⟩
  · cases e; exact ⟨p, vs, rfl, .inl (.inl h2), h3⟩
end

/-- the reading: from an environment to a value, in its mode, and the environment behind it -/
def tS (K : KM) (ρ : DEnv) (d : Dat) (m : Mode) (ρ' : DEnv) : TE := fun σ H Q => ∃ B, REnv K B σ H ρ ∧ ∀ v H', REnv K B σ H' ρ' → FrzLe H H' → RV K B σ ρ' H' v d m → Q v H'
def tST (K : KM) (ρ : DEnv) (b : Bool) (ρ' : DEnv) : TT := fun σ H Q => ∃ B, REnv K B σ H ρ ∧ ∀ H', REnv K B σ H' ρ' → FrzLe H H' → Q b H'
def tSA (K : KM) (ρ : DEnv) (ds : List Dat) (ρ' : DEnv) : TA := fun σ H Q => ∃ B, REnv K B σ H ρ ∧ ∀ vs H', REnv K B σ H' ρ' → FrzLe H H' → IsL K H' vs ds → Q vs H'

theorem _root_.L2.PE.imp {X : Cx} {e : Expr} {t t' : TE} (h : PE X e t) (i : ∀ σ H Q, t' σ H Q → t σ H Q) : PE X e t' := ⟨fun pins s σ H Q I q => h.run pins s σ H Q I (i σ H Q q)⟩
theorem _root_.L2.PT.imp {X : Cx} {e : Expr} {t t' : TT} (h : PT X e t) (i : ∀ σ H Q, t' σ H Q → t σ H Q) : PT X e t' := ⟨fun pins s σ H Q I q => h.run pins s σ H Q I (i σ H Q q)⟩
theorem _root_.L2.PA.imp {X : Cx} {e : List Expr} {t t' : TA} (h : PA X e t) (i : ∀ σ H Q, t' σ H Q → t σ H Q) : PA X e t' := ⟨fun pos pins s σ H Q I q => h.run pos pins s σ H Q I (i σ H Q q)⟩
theorem pe_no {X : Cx} {e : Expr} : PE X e (fun _ _ _ => False) := ⟨fun _ _ _ _ _ _ h => h.elim⟩
theorem pt_no {X : Cx} {e : Expr} : PT X e (fun _ _ _ => False) := ⟨fun _ _ _ _ _ _ h => h.elim⟩
theorem pss_no {X : Cx} {e : List Stmt} : PSs X e (fun _ _ _ => False) := ⟨fun _ _ _ _ _ _ h => h.elim⟩

/-- a tracked list is known from now on to be as it is -/
theorem inv_frz {X : Cx} {pins : List (Addr × Obj)} {σ : L2.St} {H : Hp} {s : Shared} {p : Addr} {vs : List V} (I : Inv X pins σ H s) (h : H p = some (.lst vs)) :
    ∃ o, Inv X pins σ (upd H p (.frz o (.lst vs))) s := by
  obtain ⟨z, its, n, r, e⟩ := (show ObjOk X.prog X.w H s.heap p (.lst vs) from I.hok p _ h)
  refine ⟨_, Inv.un (t' := s.toks) (h' := s.heap) (H' := upd H p (.frz { cls := .type "list", data := .seq its.toArray n } (.lst vs))) I ⟨fun b o q _ _ _ => q, fun b o q _ _ _ => ⟨o.slots, q⟩, fun b o q nn _ => ?_, fun b o q _ => ⟨o, q⟩, fun b xs q => ?_, fun b o u q => ?_, fun b ps q => ?_⟩ fun b u q => ?_⟩
  · rw [upd_ne (fun zz => by subst zz; rw [h] at nn; cases nn)]; exact nn
  · rw [upd_ne (fun zz => by subst zz; rw [h] at q; cases q)]; exact q
  · rw [upd_ne (fun zz => by subst zz; rw [h] at q; cases q)]; exact q
  · refine ⟨#[], ?_⟩
    rw [upd_ne (fun zz => by subst zz; rw [h] at q; cases q), q]; simp
  · by_cases zz : b = p
    · subst zz
      rw [upd_same] at q
      cases q
      exact ⟨e, z, its, n, r, e⟩
    · rw [upd_ne zz] at q
      refine (I.hok b u q).stay (fun c w _ hc => hc) (fun c hc => ?_) fun c xs hc => ?_
      · rw [upd_ne (fun y => by subst y; rw [h] at hc; cases hc)]; exact hc
      · rw [upd_ne (fun y => by subst y; rw [h] at hc; cases hc)]; exact hc
/-- a value is handed on: from now on nobody changes it -/
theorem pe_keep {X : Cx} {ea : Option EA} {e : Expr} {ρ ρ1 : DEnv} {d : Dat} {m : Mode} (h : PE X e (tS (X.km ea) ρ d m ρ1)) : PE X e (tS (X.km ea) ρ d .frz (keep m ρ1 d)) := by
  refine ⟨fun pins s σ H Q I q => ?_⟩
  obtain ⟨B, R, k⟩ := q
  refine thn (h.run pins s σ H (fun v H' => REnv (X.km ea) B σ H' ρ1 ∧ FrzLe H H' ∧ RV (X.km ea) B σ ρ1 H' v d m) I ⟨B, R, fun v H' a b c => ⟨a, b, c⟩⟩) fun u s1 hh => ?_
  obtain ⟨v, H1, I1, rv, R1, f1, r⟩ := hh
  cases m with
  | frz => exact ⟨v, H1, I1, rv, k v H1 R1 f1 r⟩
  | fresh =>
    obtain ⟨p, rfl, ⟨vs, ds, rfl, e, l⟩, bp, ns⟩ := r
    obtain ⟨o, J⟩ := inv_frz I1 e
    have f2 : FrzLe H1 (upd H1 p (.frz o (.lst vs))) := FrzLe.mut e rfl
    refine ⟨.ref p, _, J, rv, k _ _ ?_ (f1.trans f2) (.lst upd_same (l.mono f2))⟩
    refine R1.step f2 (fun a u hb ha => ?_) fun i d' q hi hs => ?_
    · rw [upd_ne (fun z => by subst z; rw [bp] at hb; cases hb)]; exact ha
    · rw [upd_ne (fun z => by subst z; exact ns i d' hi hs)]
  | brw i =>
    obtain ⟨h1, h2⟩ := r
    obtain ⟨p, g1, g2, vs, ds, rfl, g3, l⟩ := R1.own i _ h2
    rw [h1] at g1; cases g1
    obtain ⟨o, J⟩ := inv_frz I1 g3
    have f2 : FrzLe H1 (upd H1 p (.frz o (.lst vs))) := FrzLe.mut g3 rfl
    have hi : i < ρ1.length := (List.getElem?_eq_some_iff.mp h2).1
    refine ⟨.ref p, _, J, rv, k _ _ ⟨fun a u hb => ?_, ?_, fun j d' hj => ?_, fun j d' hj => ?_, fun j j' d' e' q a1 a2 a3 a4 => ?_, fun j c fs hj => ?_⟩ (f1.trans f2) (.lst upd_same (l.mono f2))⟩
    · rw [upd_ne (fun z => by subst z; rw [g2] at hb; cases hb)]; exact R1.base a u hb
    · show σ.length = (ρ1.set i _).length
      rw [List.length_set]; exact R1.len
    · have hj' : (ρ1.set i (.val (.lst ds)))[j]? = some (.val d') := hj
      by_cases z : i = j
      · subst z
        rw [List.getElem?_set_self hi] at hj'
        cases hj'
        exact ⟨_, h1, .lst upd_same (l.mono f2)⟩
      · rw [List.getElem?_set_ne z] at hj'
        obtain ⟨w, w1, w2⟩ := R1.val j d' hj'
        exact ⟨w, w1, w2.mono f2⟩
    · have hj' : (ρ1.set i (.val (.lst ds)))[j]? = some (.own d') := hj
      by_cases z : i = j
      · subst z
        rw [List.getElem?_set_self hi] at hj'
        cases hj'
      · rw [List.getElem?_set_ne z] at hj'
        obtain ⟨w, w1, w2, w3⟩ := R1.own j d' hj'
        refine ⟨w, w1, w2, w3.mono f2 (upd_ne fun y => ?_)⟩
        subst y
        exact z (R1.sep i j _ _ w h2 hj' h1 w1)
    · have b1 : (ρ1.set i (.val (.lst ds)))[j]? = some (.own d') := a1
      have b2 : (ρ1.set i (.val (.lst ds)))[j']? = some (.own e') := a2
      have n1 : i ≠ j := fun z => by subst z; rw [List.getElem?_set_self hi] at b1; cases b1
      have n2 : i ≠ j' := fun z => by subst z; rw [List.getElem?_set_self hi] at b2; cases b2
      rw [List.getElem?_set_ne n1] at b1
      rw [List.getElem?_set_ne n2] at b2
      exact R1.sep j j' d' e' q b1 b2 a3 a4
    · have b1 : (ρ1.set i (.val (.lst ds)))[j]? = some (.exn c fs) := hj
      have n1 : i ≠ j := fun z => by subst z; rw [List.getElem?_set_self hi] at b1; cases b1
      rw [List.getElem?_set_ne n1] at b1
      obtain ⟨x, x1, x2, x3, x4⟩ := R1.exn j c fs b1
      exact ⟨x, x1, x2, x3, x4.mono f2⟩
/-- the reading of what lets an exception out: W what is wanted of it -/
def tX (K : KM) (W : WX) (ρ : DEnv) (c : Str) (fs : List (Str × Dat)) (ρ' : DEnv) : TE := fun σ H _ => ∃ B, REnv K B σ H ρ ∧ ∀ cls d H', REnv K B σ H' ρ' → FrzLe H H' → XcR K H' cls d c fs → W cls d σ H'
def tXT (K : KM) (W : WX) (ρ : DEnv) (c : Str) (fs : List (Str × Dat)) (ρ' : DEnv) : TT := fun σ H _ => ∃ B, REnv K B σ H ρ ∧ ∀ cls d H', REnv K B σ H' ρ' → FrzLe H H' → XcR K H' cls d c fs → W cls d σ H'
def tXA (K : KM) (W : WX) (ρ : DEnv) (c : Str) (fs : List (Str × Dat)) (ρ' : DEnv) : TA := fun σ H _ => ∃ B, REnv K B σ H ρ ∧ ∀ cls d H', REnv K B σ H' ρ' → FrzLe H H' → XcR K H' cls d c fs → W cls d σ H'
end Ev
set_option Elab.async false
set_option linter.all false
set_option maxRecDepth 100000
namespace Ev
open PySem PySem.Spec PyProof.Rows L2
variable {ea : Option EA}

theorem sm_le {n : Nat} (h : sm n = true) : n ≤ sizeLine := Nat.le_trans (of_decide_eq_true h) (by decide)
theorem sm_lt {n : Nat} (h : sm n = true) : n < sizeLine := Nat.lt_of_le_of_lt (of_decide_eq_true h) (by decide)

/-! ### from slots to the model's own reading of data -/
theorem reads_ints {h : Heap} : ∀ {ns : List Int} {us : List Value}, Vals (ns.map V.int) us → ∃ as, ReadsAll h us (ns.map PyData.int) as
  | [], _, r => by cases r; exact ⟨[], .nil⟩
  | n :: ns, _, r => by
    cases r with
    | cons a b =>
      obtain ⟨t, rfl⟩ := a
      obtain ⟨as, ra⟩ := reads_ints b
      exact ⟨_, .cons (.int n t) ra⟩
/-- the table of modules stands in the base -/
abbrev HasSys (base : Heap) : Prop := ∃ o, base.get? sysModules = some o
/-- what is tracked is not the table of modules -/
theorem not_sys {X : Cx} {pins : List (Addr × Obj)} {σ : L2.St} {H : Hp} {s : Shared} (I : Inv X pins σ H s) (hs : HasSys X.base) {a : Addr} {o : HO} (h : H a = some o) : a ≠ sysModules := fun z => by
  obtain ⟨oS, h2⟩ := hs
  have h3 := (I.env0.bs _ _ h2).2
  rw [z, h3] at h
  cases h
mutual
theorem reads_is {X : Cx} {pins : List (Addr × Obj)} {σ : L2.St} {H : Hp} {s : Shared} (I : Inv X pins σ H s) : ∀ {v : V} {d : Dat}, Is (X.km ea) H v d → d.pure = true → ∀ {u : Value}, RelV v u → ∃ as, Reads s.heap u d.toPy as ∧ (d.noLst = true → HasSys X.base → sysModules ∉ as)
  | _, _, .non, _, u, r => by cases r; exact ⟨[], .none, fun _ _ => List.not_mem_nil⟩
  | _, _, .bl b, _, u, r => by cases r; exact ⟨[], .bool b, fun _ _ => List.not_mem_nil⟩
  | _, _, .int i, _, u, r => by obtain ⟨t, rfl⟩ := r; exact ⟨[], .int i t, fun _ _ => List.not_mem_nil⟩
  | _, _, .str x, _, u, r => by obtain ⟨t, rfl⟩ := r; exact ⟨[], .str x t, fun _ _ => List.not_mem_nil⟩
  | _, _, .tup a l, pu, u, r => by
    cases r
    obtain ⟨its, rv, ⟨o, ho, hc, n, hd⟩, _⟩ := I.tuple a
    obtain ⟨as, ra, hn⟩ := reads_isL I l pu rv
    exact ⟨as, .tuple ho hc hd (by simpa using ra), fun h => hn h⟩
  | _, _, .lst a l, pu, u, r => by
    cases r
    obtain ⟨_, z, its, n, rv, ho⟩ := (show ObjOk X.prog X.w H s.heap _ (.frz _ (.lst _)) from I.hok _ _ a)
    obtain ⟨as, ra, hn⟩ := reads_isL I l pu rv
    exact ⟨_, .list ho rfl rfl (by simpa using ra), fun h hs z => by
      rcases List.mem_cons.mp z with z | z
      · exact not_sys I hs a z.symm
      · exact hn h hs z⟩
  | _, .scr ns, .scr a, _, u, r => by
    cases r
    obtain ⟨its, rv, ⟨o, n, ho, hc, _, hd⟩, _⟩ := I.list a.sq
    obtain ⟨as, ra⟩ := reads_ints rv
    exact ⟨_, .list ho hc hd (by simpa using ra), fun h => nomatch h⟩
  | _, _, .err0 _ _ _ _ _, pu, u, r => nomatch pu
  | _, _, .err1 _ _ _ _ _ _ _ _, pu, u, r => nomatch pu
  | _, .dic kvs, .dic a c e f rk rv lk lv, pu, u, r => by
    cases r
    have pu2 := pureKv_split kvs pu
    obtain ⟨ho, _⟩ := (show ObjOk X.prog X.w H s.heap _ (.frz _ (.own _)) from I.hok _ _ a)
    obtain ⟨as, ra, na⟩ := reads_isL I lk pu2.1 rk
    obtain ⟨bs, rb, nb⟩ := reads_isL I lv pu2.2 rv
    refine ⟨_, .dict ho c e (?_ : ReadsAll s.heap _ ((toPyKv kvs).map (·.1)) as) (?_ : ReadsAll s.heap _ ((toPyKv kvs).map (·.2)) bs), fun h hs => ?_⟩
    · rw [toPyKv_fst]; exact ra
    · rw [toPyKv_snd]; exact rb
    · have h2 := noLstKv_split kvs h
      intro z
      rcases List.mem_append.mp z with z | z
      · rcases List.mem_cons.mp z with z | z
        · subst z; exact absurd f (by decide)
        · exact na h2.1 hs z
      · exact nb h2.2 hs z
theorem reads_isL {X : Cx} {pins : List (Addr × Obj)} {σ : L2.St} {H : Hp} {s : Shared} (I : Inv X pins σ H s) : ∀ {vs : List V} {ds : List Dat}, IsL (X.km ea) H vs ds → pures ds = true → ∀ {us : List Value}, Vals vs us → ∃ as, ReadsAll s.heap us (toPys ds) as ∧ (noLsts ds = true → HasSys X.base → sysModules ∉ as)
  | _, _, .nil, _, us, r => by cases r; exact ⟨[], .nil, fun _ _ => List.not_mem_nil⟩
  | _, _, .cons a l, pu, us, r => by
    have pu2 := Bool.and_eq_true_iff.mp (show (Dat.pure _ && pures _) = true from pu)
    cases r with
    | cons r1 r2 =>
      obtain ⟨as, ra, na⟩ := reads_is I a pu2.1 r1
      obtain ⟨bs, rb, nb⟩ := reads_isL I l pu2.2 r2
      refine ⟨as ++ bs, .cons ra rb, fun h hs z => ?_⟩
      have h' := Bool.and_eq_true_iff.mp (show (Dat.noLst _ && noLsts _) = true from h)
      rcases List.mem_append.mp z with z | z
      · exact na h'.1 hs z
      · exact nb h'.2 hs z
theorem toPyKv_fst : ∀ kvs : List (Dat × Dat), (toPyKv kvs).map (·.1) = toPys (kvs.map (·.1))
  | [] => rfl
  | (k, v) :: r => by simp [toPyKv, toPys, toPyKv_fst r]
theorem toPyKv_snd : ∀ kvs : List (Dat × Dat), (toPyKv kvs).map (·.2) = toPys (kvs.map (·.2))
  | [] => rfl
  | (k, v) :: r => by simp [toPyKv, toPys, toPyKv_snd r]
theorem pureKv_split : ∀ kvs : List (Dat × Dat), Dat.pure (.dic kvs) = true → pures (kvs.map (·.1)) = true ∧ pures (kvs.map (·.2)) = true
  | [], _ => ⟨rfl, rfl⟩
  | (k, v) :: r, h => by
    have h1 := Bool.and_eq_true_iff.mp (show (k.pure && v.pure && pureKv r) = true from h)
    have h2 := Bool.and_eq_true_iff.mp h1.1
    have h3 := pureKv_split r h1.2
    exact ⟨Bool.and_eq_true_iff.mpr ⟨h2.1, h3.1⟩, Bool.and_eq_true_iff.mpr ⟨h2.2, h3.2⟩⟩
theorem noLstKv_split : ∀ kvs : List (Dat × Dat), noLstKv kvs = true → noLsts (kvs.map (·.1)) = true ∧ noLsts (kvs.map (·.2)) = true
  | [], _ => ⟨rfl, rfl⟩
  | (k, v) :: r, h => by
    have h1 := Bool.and_eq_true_iff.mp (show (k.noLst && v.noLst && noLstKv r) = true from h)
    have h2 := Bool.and_eq_true_iff.mp h1.1
    have h3 := noLstKv_split r h1.2
    exact ⟨Bool.and_eq_true_iff.mpr ⟨h2.1, h3.1⟩, Bool.and_eq_true_iff.mpr ⟨h2.2, h3.2⟩⟩
end
theorem reads_rdb {X : Cx} {pins : List (Addr × Obj)} {σ : L2.St} {H : Hp} {s : Shared} (I : Inv X pins σ H s) {v : V} {d : Dat} {u : Value} (h : Rdb (X.km ea) H v d) (pu : d.pure = true) (r : RelV v u) : ∃ as, Reads s.heap u d.toPy as ∧ (d.noLst = true → HasSys X.base → sysModules ∉ as) := by
  rcases h with h | ⟨p, rfl, vs, ds, rfl, e, l⟩
  · exact reads_is I h pu r
  · cases r
    obtain ⟨z, its, n, rv, ho⟩ := (show ObjOk X.prog X.w H s.heap _ (.lst _) from I.hok _ _ e)
    obtain ⟨as, ra, hn⟩ := reads_isL I l pu rv
    exact ⟨_, .list ho rfl rfl (by simpa using ra), fun h hs z => by
      rcases List.mem_cons.mp z with z | z
      · exact not_sys I hs e z.symm
      · exact hn h hs z⟩
end Ev
namespace Ev
open PySem PySem.Spec PyProof.Rows L2
variable {ea : Option EA}
section
variable {X : Cx} {B : Hp} {σ : L2.St} {H : Hp} {ρ : DEnv} {Q : VK} {d : Dat} {v : V}
/-- what is wanted of a value that has come -/
def Want (K : KM) (B : Hp) (σ : L2.St) (ρ : DEnv) (H : Hp) (d : Dat) (m : Mode) (Q : VK) : Prop := ∀ v H', REnv K B σ H' ρ → FrzLe H H' → RV K B σ ρ H' v d m → Q v H'
theorem Want.val {K : KM} (R : REnv K B σ H ρ) (w : Want K B σ ρ H d .frz Q) (h : Is K H v d) : Q v H := w v H R (FrzLe.refl H) h
theorem Want.tup {K : KM} {vs : List V} {ds : List Dat} {p : Addr} (R : REnv K B σ H ρ) (w : Want K B σ ρ H (.tup ds) .frz Q) (l : IsL K H vs ds) (hp : H p = none) : Q (.ref p) (upd H p (.tup vs)) :=
  w _ _ (R.new hp) (FrzLe.new hp) (.tup (.inl (.inl upd_same)) (l.mono (FrzLe.new hp)))
theorem Want.lst {K : KM} {vs : List V} {ds : List Dat} {p : Addr} (R : REnv K B σ H ρ) (w : Want K B σ ρ H (.lst ds) .fresh Q) (l : IsL K H vs ds) (hp : H p = none) : Q (.ref p) (upd H p (.lst vs)) :=
  w _ _ (R.new hp) (FrzLe.new hp) ⟨p, rfl, ⟨vs, ds, rfl, upd_same, l.mono (FrzLe.new hp)⟩, R.newB hp, R.newS hp⟩

/-- two lists, tracked or known, one behind the other -/
def rCatR : R2 := fun x y H Q => ∃ l b xs zs, x = .ref l ∧ y = .ref b ∧ Rd H l (.lst xs) ∧ Rd H b (.lst zs) ∧ xs.length + zs.length ≤ sizeLine ∧ ∀ p, H p = none → Q (.ref p) (upd H p (.lst (xs ++ zs)))
theorem op_catR : OpR X (binaryOp .Add) rCatR := by
  intro pins s σ H x y v u Q I rx ry h
  obtain ⟨l, b, xs, zs, rfl, rfl, h1, h2, hz, q⟩ := h
  cases rx
  cases ry
  obtain ⟨z, its, n, r, e⟩ := (show ObjOk X.prog X.w H s.heap l (.lst xs) from h1.ok I.hok)
  obtain ⟨z2, its2, n2, r2, e2⟩ := (show ObjOk X.prog X.w H s.heap b (.lst zs) from h2.ok I.hok)
  have len1 := r.length
  have len2 := r2.length
  refine PySem.P.add_list e e2 ?_ (by rw [List.size_toArray, List.size_toArray]; omega)
  rw [show its.toArray ++ its2.toArray = (its ++ its2).toArray by simp]
  exact ⟨.ref _, _, I.lnew (t' := s.toks) (r.append r2) (by rw [List.length_append]; omega), rfl, q _ I.fresh⟩
theorem Rdb.lstR {K : KM} {ds : List Dat} (h : Rdb K H v (.lst ds)) : ∃ a vs, v = .ref a ∧ Rd H a (.lst vs) ∧ IsL K H vs ds := by
  rcases h with h | ⟨p, rfl, vs, _, e, h2, h3⟩
  · cases h with
    | lst a b => exact ⟨_, _, rfl, .inr ⟨_, a⟩, b⟩
  · cases e; exact ⟨p, vs, rfl, .inl h2, h3⟩
/-- a text, some times over -/
theorem small_not_long {n : Nat} (h : n ≤ 100 * 1000) : Builtin.Str.tooLong n = false := by
  unfold Builtin.Str.tooLong
  exact decide_eq_false (by have : (100 * 1000 : Nat) < sizeLine := by decide
                            omega)
theorem op_mulS : OpR X (binaryOp .Mult) (fun x y H Q => ∃ (z : Str) (j : Int), x = .str z ∧ y = .int j ∧ (1 < j ∧ j ≤ 1000 ∧ z.length ≤ 100) ∧ Q (.str (Txt.mul z j)) H) := by
  intro pins s σ H x y v u Q I rx ry h
  obtain ⟨z, j, rfl, rfl, ⟨h1, h2, h3⟩, q⟩ := h
  obtain ⟨t, rfl⟩ := rx
  obtain ⟨t', rfl⟩ := ry
  have hj : j.toNat ≤ 1000 := by omega
  refine PySem.SB.mul ⟨?_, fun _ _ => ?_, fun _ _ => ?_⟩ fun t' k => ⟨.str _, H, I.tok _, ⟨_, rfl⟩, q⟩
  · rw [decide_eq_false (by omega), decide_eq_false (by omega)]; rfl
  · intro hh
    have : (2 ^ 63 - 1) / j ≥ (2 ^ 63 - 1) / 1000 := by
      apply Int.le_ediv_of_mul_le (by omega)
      have : ((2 ^ 63 - 1 : Int) / 1000) * j ≤ ((2 ^ 63 - 1 : Int) / 1000) * 1000 := Int.mul_le_mul_of_nonneg_left (by omega) (by decide)
      have h9 : ((2 ^ 63 - 1 : Int) / 1000) * 1000 ≤ 2 ^ 63 - 1 := by decide
      omega
    have h8 : ((2 ^ 63 - 1 : Int) / 1000) > 100 := by decide
    omega
  · have : z.length * j.toNat ≤ 100 * 1000 := Nat.mul_le_mul h3 hj
    exact small_not_long this
theorem rep_fold (its : List Value) (m : Nat) : List.foldl (fun a b => a ++ b) #[] (List.replicate (if its.toArray.isEmpty = true then 0 else m) its.toArray) = (List.replicate m its).flatten.toArray := by
  have go : ∀ j : Nat, List.foldl (fun a b => a ++ b) #[] (List.replicate j its.toArray) = (List.replicate j its).flatten.toArray := fun j => by
    have z := foldl_rep its j []
    rwa [List.nil_append] at z
  rw [go]
  cases its with
  | nil => simp
  | cons x r => rw [if_neg (by simp)]
theorem op_repR : OpR X (binaryOp .Mult) (fun x y H Q => ∃ (l : Addr) (k : Int) (xs : List V), x = .ref l ∧ y = .int k ∧ Rd H l (.lst xs) ∧ (0 ≤ k ∧ k ≤ 1000 ∧ xs.length ≤ 1000) ∧ ∀ p, H p = none → Q (.ref p) (upd H p (.lst (List.replicate k.toNat xs).flatten))) := by
  intro pins s σ H x y v u Q I rx ry h
  obtain ⟨l, k, xs, rfl, rfl, h1, ⟨k0, k1, kl⟩, q⟩ := h
  cases rx
  obtain ⟨t, rfl⟩ := ry
  obtain ⟨z, its, n, r, e⟩ := (show ObjOk X.prog X.w H s.heap l (.lst xs) from h1.ok I.hok)
  have len := r.length
  have big : its.length * k.toNat ≤ 1000 * 1000 := Nat.mul_le_mul (by omega) (by omega)
  have sl : sizeLine = 16777216 := sizeLine_eq
  have c1 : ¬ its.toArray.size * k.toNat > (2 ^ 63 - 1) / 8 := by rw [List.size_toArray]; omega
  have c2 : ¬ (!Builtin.List.listFitsIndex k) = true := by rw [fitsIndex_both (by omega) (by omega)]; exact Bool.false_ne_true
  have c3 : ¬ Builtin.List.listTooLong (its.toArray.size * k.toNat) = true := by rw [notLongL (by rw [List.size_toArray, sl]; omega)]; exact Bool.false_ne_true
  have m1 := AutoListH.list___mul___list_int_3 l its.toArray n k t c2 c1 c3
  refine wpAny_binaryOp_repeat_ref (T := "list") (U := "int") (by decide) ⟨_, e, rfl⟩ (fun s' => typeIs_int s' k t) noFill_list_mul F.fills_int_mul F.slot_int_rmul repeat_list F.slot_int_index.lookup ?_
  refine call_meets F.slot_int_rmul (typeIs_int s k t) F.entry_int_rmul (F.args_int_rmul_2 _ _) (int___rmul___int_list k t l its.toArray n) ⟨e, rfl, ⟨_, e, rfl⟩, ?_⟩
  refine call_meets F.slot_list_mul ⟨_, e, rfl⟩ F.entry_list_mul (F.args_list_mul_2 _ _) m1 ⟨e, ?_⟩
  rw [rep_fold]
  refine ⟨.ref _, _, I.lnew (t' := s.toks) (r.rep k.toNat) ?_, rfl, q _ I.fresh⟩
  rw [PyProof.Rows.lm_len_rep_flat, Nat.mul_comm, ← len.symm, sl]
  omega
theorem IsL.rep {K : KM} {vs : List V} {ds : List Dat} (l : IsL K H vs ds) : ∀ j : Nat, IsL K H (List.replicate j vs).flatten (List.replicate j ds).flatten
  | 0 => .nil
  | j + 1 => by
    rw [List.replicate_succ, List.replicate_succ, List.flatten_cons, List.flatten_cons]
    exact l.append (IsL.rep l j)
theorem bin_snd {op : Operator} {x y : Dat} {m : Mode} (h : binD op x y = some (d, m)) : ∃ r, OpR X (binaryOp op) r ∧
    ∀ B σ ρ H v w Q, REnv (X.km ea) B σ H ρ → Rdb (X.km ea) H v x → Rdb (X.km ea) H w y → Want (X.km ea) B σ ρ H d m Q → r v w H Q := by
  unfold binD at h
  split at h
  · cases h
    exact ⟨_, op_add, fun B σ ρ H v w Q R a b k => ⟨_, _, a.int, b.int, k.val R (.int _)⟩⟩
  · cases h
    exact ⟨_, op_sub, fun B σ ρ H v w Q R a b k => ⟨_, _, a.int, b.int, k.val R (.int _)⟩⟩
  · split at h
    · rename_i c
      cases h
      exact ⟨_, op_mul, fun B σ ρ H v w Q R a b k => ⟨_, _, a.int, b.int, c.symm, k.val R (.int _)⟩⟩
    · cases h
  · split at h
    · rename_i c
      cases h
      exact ⟨_, op_mod, fun B σ ρ H v w Q R a b k => ⟨_, _, a.int, b.int, c, k.val R (.int _)⟩⟩
    · cases h
  · split at h
    · rename_i c
      cases h
      exact ⟨_, op_fdiv, fun B σ ρ H v w Q R a b k => ⟨_, _, a.int, b.int, c, k.val R (.int _)⟩⟩
    · cases h
  · split at h
    · rename_i c
      cases h
      exact ⟨_, op_pow, fun B σ ρ H v w Q R a b k => ⟨_, _, a.int, b.int, c, k.val R (.int _)⟩⟩
    · cases h
  · split at h
    · rename_i c
      cases h
      exact ⟨_, op_add_str, fun B σ ρ H v w Q R a b k => ⟨_, _, a.str, b.str, sm_le c, k.val R (.str _)⟩⟩
    · cases h
  · split at h
    · rename_i c
      cases h
      refine ⟨_, op_catR, fun B σ ρ H v w Q R a b k => ?_⟩
      obtain ⟨p, vs, rfl, hp, l⟩ := a.lstR
      obtain ⟨q, ws, rfl, hq, l2⟩ := b.lstR
      exact ⟨p, q, vs, ws, rfl, rfl, hp, hq, by rw [l.length, l2.length]; exact sm_le c, fun n hn => k.lst R (l.append l2) hn⟩
    · cases h
  · split at h
    · rename_i c
      cases h
      refine ⟨_, op_catA, fun B σ ρ H v w Q R a b k => ?_⟩
      obtain ⟨p, vs, rfl, hp, l⟩ := a.tup
      obtain ⟨q, ws, rfl, hq, l2⟩ := b.tup
      refine ⟨p, q, vs, ws, rfl, rfl, hp, hq, by rw [l.length, l2.length]; exact sm_le c, fun e => ?_, fun _ e => ?_, fun _ _ n hn => k.tup R (l.append l2) hn⟩
      · subst e; cases l; exact k.val R (.tup hq l2)
      · subst e; cases l2
        rw [List.append_nil] at k
        exact k.val R (.tup hp l)
    · cases h
  · split at h
    · rename_i c
      cases h
      refine ⟨_, op_repR, fun B σ ρ H v w Q R a b k => ?_⟩
      obtain ⟨p, vs, rfl, hp, l⟩ := a.lstR
      exact ⟨p, _, vs, rfl, b.int, hp, by rw [l.length]; exact c, fun n hn => k.lst R (l.rep _) hn⟩
    · cases h
  · split at h
    · rename_i c
      cases h
      exact ⟨_, op_mulS, fun B σ ρ H v w Q R a b k => ⟨_, _, a.str, b.int, c, k.val R (.str _)⟩⟩
    · cases h
  · cases h
end
end Ev
set_option Elab.async false
set_option linter.all false
set_option maxRecDepth 100000
namespace Ev
open PySem PySem.Spec PyProof.Rows L2
variable {ea : Option EA}
section
variable {X : Cx}
theorem fit_pure {d : Dat} (h : d.fit = true) : d.pure = true := (Bool.and_eq_true_iff.mp h).1
theorem fit_shaped {d : Dat} (h : d.fit = true) : PySem.SeqAt.shaped d.toPy = true := (Bool.and_eq_true_iff.mp h).2
theorem op_eqR (hu : X.A.units + 64 < cLine) (dx dy : Dat) (fx : dx.fit = true) (fy : dy.fit = true) : OpR X (compareOp .Eq) (fun x y H Q => Rdb (X.km ea) H x dx ∧ Rdb (X.km ea) H y dy ∧ Q (.bl (PyData.eqv dx.toPy dy.toPy)) H) := by
  intro pins s σ H x y v u Q I rx ry h
  obtain ⟨a, b, q⟩ := h
  obtain ⟨as, ra, _⟩ := reads_rdb I a (fit_pure fx) rx
  obtain ⟨bs, rb, _⟩ := reads_rdb I b (fit_pure fy) ry
  exact eq_dataH ra rb (fit_shaped fx) (fit_shaped fy) hu ⟨.bl _, H, I, rfl, q⟩
theorem op_neR (hu : X.A.units + 64 < cLine) (dx dy : Dat) (fx : dx.fit = true) (fy : dy.fit = true) : OpR X (compareOp .NotEq) (fun x y H Q => Rdb (X.km ea) H x dx ∧ Rdb (X.km ea) H y dy ∧ Q (.bl (!PyData.eqv dx.toPy dy.toPy)) H) := by
  intro pins s σ H x y v u Q I rx ry h
  obtain ⟨a, b, q⟩ := h
  obtain ⟨as, ra, _⟩ := reads_rdb I a (fit_pure fx) rx
  obtain ⟨bs, rb, _⟩ := reads_rdb I b (fit_pure fy) ry
  exact ne_dataH ra rb (fit_shaped fx) (fit_shaped fy) hu ⟨.bl _, H, I, rfl, q⟩
theorem op_eqT0 (hu : X.A.units + 64 < cLine) : OpR X (compareOp .Eq) (fun x y H Q => ∃ a b xs, x = .ref a ∧ y = .ref b ∧ SqT X.K H a xs ∧ SqT X.K H b [] ∧ Q (.bl xs.isEmpty) H) := by
  intro pins s σ H x y v u Q I rx ry h
  obtain ⟨a, b, xs, rfl, rfl, h1, h2, q⟩ := h
  cases rx
  cases ry
  obtain ⟨its, r, t, _⟩ := I.tuple h1
  obtain ⟨its2, r2, t2, _⟩ := I.tuple h2
  cases r2
  have len := r.length
  have e := PySem.SeqAt.RcAt.tuples (A := X.A) (s := s) (e := fun _ => true) t t2 (by omega) (fun j _ h2 => absurd h2 (Nat.not_lt_zero j))
  refine e X.prog X.w X.xe _ ?_
  have e2 : ((List.range (min its.toArray.size (#[] : Array Value).size)).all (fun _ => true) && its.toArray.size == (#[] : Array Value).size) = xs.isEmpty := by
    cases xs with
    | nil => cases r; rfl
    | cons x xs => cases r; simp
  exact ⟨.bl _, H, I, by rw [← e2]; rfl, q⟩
theorem op_eqL0 (hu : X.A.units + 64 < cLine) : OpR X (compareOp .Eq) (fun x y H Q => ∃ a b xs, x = .ref a ∧ y = .ref b ∧ SqL X.K H a xs ∧ SqL X.K H b [] ∧ Q (.bl xs.isEmpty) H) := by
  intro pins s σ H x y v u Q I rx ry h
  obtain ⟨a, b, xs, rfl, rfl, h1, h2, q⟩ := h
  cases rx
  cases ry
  obtain ⟨its, r, t, _⟩ := I.list h1
  obtain ⟨its2, r2, t2, _⟩ := I.list h2
  cases r2
  cases xs with
  | nil =>
    cases r
    have e := PySem.SeqAt.RcAt.lists (A := X.A) (s := s) (e := fun _ => true) t.isList t2.isList rfl (by omega) (fun j _ h2 => absurd h2 (Nat.not_lt_zero j))
    exact e X.prog X.w X.xe _ ⟨.bl _, H, I, rfl, q⟩
  | cons x xs =>
    cases r
    have e := PySem.SeqAt.RcAt.lists_lengths (A := X.A) (s := s) t.isList t2.isList (by simp) (by omega)
    exact e X.prog X.w X.xe _ ⟨.bl _, H, I, rfl, q⟩

theorem flat_is {K : KM} {H : Hp} {v : V} {d : Dat} (h : Is K H v d) (f : d.flat = true) : flatV v = true := by
  cases h <;> first | rfl | cases f
theorem flat_eq {K : KM} {H : Hp} {v w : V} {a b : Dat} (ha : Is K H v a) (hb : Is K H w b) (fa : a.flat = true) (fb : b.flat = true) : eqV v w = PyData.eqv a.toPy b.toPy := by
  cases ha <;> first | cases fa | skip
  all_goals (cases hb <;> first | cases fb | skip)
  all_goals first | rfl | simp [eqV, PyData.eqv, Dat.toPy]
theorem flat_all {K : KM} {H : Hp} : ∀ {vs : List V} {ds : List Dat}, IsL K H vs ds → ds.all Dat.flat = true → vs.all flatV = true
  | _, _, .nil, _ => rfl
  | _, _, .cons a l, f => by
    have f' := Bool.and_eq_true_iff.mp (show (Dat.flat _ && List.all _ Dat.flat) = true from f)
    rw [List.all_cons, flat_is a f'.1, flat_all l f'.2] <;> rfl
theorem flat_any {K : KM} {H : Hp} {w : V} {b : Dat} (hb : Is K H w b) (fb : b.flat = true) : ∀ {vs : List V} {ds : List Dat}, IsL K H vs ds → ds.all Dat.flat = true → inV w vs = ds.any fun y => PyData.eqv y.toPy b.toPy
  | _, _, .nil, _ => rfl
  | _, _, .cons a l, f => by
    have f' := Bool.and_eq_true_iff.mp (show (Dat.flat _ && List.all _ Dat.flat) = true from f)
    have e := flat_any hb fb l f'.2
    unfold inV at e ⊢
    rw [List.any_cons, List.any_cons, flat_eq a hb f'.1 fb, e]
theorem Rdb.flat {K : KM} {H : Hp} {v : V} {d : Dat} (h : Rdb K H v d) (f : d.flat = true) : Is K H v d := by
  rcases h with h | ⟨p, rfl, vs, ds, rfl, _⟩
  · exact h
  · cases f
theorem sign_of {w : Str} {c : Nat} (h : w.cps.toList = [c]) : w = ⟨#[c]⟩ := by
  obtain ⟨⟨l⟩⟩ := w
  have h' : l = [c] := h
  subst h'
  rfl
theorem in_snd {x y : Dat} {b : Bool} (h : inD x y = some b) : ∃ r r', OpR X (compareOp .In) r ∧ OpR X (compareOp .NotIn) r' ∧
    (∀ H v w Q, Rdb (X.km ea) H v x → Rdb (X.km ea) H w y → Q (.bl b) H → r v w H Q) ∧ ∀ H v w Q, Rdb (X.km ea) H v x → Rdb (X.km ea) H w y → Q (.bl (!b)) H → r' v w H Q := by
  unfold inD at h
  split at h
  · split at h
    · split at h
      · rename_i z c e
        cases h
        have e2 := sign_of e
        subst e2
        exact ⟨_, _, op_in_sign, op_notIn_sign, fun H v w Q a c k => ⟨_, _, a.str, c.str, k⟩, fun H v w Q a c k => ⟨_, _, a.str, c.str, k⟩⟩
      · cases h
    · cases h
  · split at h
    · rename_i f
      have f' := Bool.and_eq_true_iff.mp f
      cases h
      refine ⟨_, _, op_in_seq, op_notIn_seq, fun H v w Q a c k => ?_, fun H v w Q a c k => ?_⟩
      · obtain ⟨p, vs, rfl, hp, l⟩ := c.lst
        refine ⟨p, vs, rfl, .inl hp, flat_is (a.flat f'.1) f'.1, flat_all l f'.2, ?_⟩
        rw [flat_any (a.flat f'.1) f'.1 l f'.2]
        exact k
      · obtain ⟨p, vs, rfl, hp, l⟩ := c.lst
        refine ⟨p, vs, rfl, .inl hp, flat_is (a.flat f'.1) f'.1, flat_all l f'.2, ?_⟩
        rw [flat_any (a.flat f'.1) f'.1 l f'.2]
        exact k
    · cases h
  · cases h
theorem ints_snd {p : Int → Int → Bool} {x y : Dat} {b : Bool} (h : intsD p x y = some b) : ∃ i j, x = .int i ∧ y = .int j ∧ b = p i j := by
  unfold intsD at h
  split at h
  · cases h; exact ⟨_, _, rfl, rfl, rfl⟩
  · cases h
theorem flat_snd {x y : Dat} {b : Bool} (h : eqFlat x y = some b) : ∃ v w : V, scal v w = true ∧ decide (v = w) = b ∧ ∀ K H, (∀ v', Rdb K H v' x → v' = v) ∧ ∀ w', Rdb K H w' y → w' = w := by
  unfold eqFlat at h
  split at h
  · cases h
    rename_i x y
    exact ⟨.str x, .str y, rfl, by by_cases e : x = y <;> simp [e], fun K H => ⟨fun v' q => q.str, fun w' q => q.str⟩⟩
  · cases h
    rename_i x y
    exact ⟨.int x, .int y, rfl, by by_cases e : x = y <;> simp [e], fun K H => ⟨fun v' q => q.int, fun w' q => q.int⟩⟩
  · cases h
    rename_i x y
    exact ⟨.bl x, .bl y, rfl, by by_cases e : x = y <;> simp [e], fun K H => ⟨fun v' q => q.bl, fun w' q => q.bl⟩⟩
  · cases h
    refine ⟨.non, .non, rfl, by simp, fun K H => ⟨fun v' q => ?_, fun w' q => ?_⟩⟩
    · rcases q with q | ⟨p, _, _, _, e, _⟩
      · cases q; rfl
      · cases e
    · rcases q with q | ⟨p, _, _, _, e, _⟩
      · cases q; rfl
      · cases e
  · cases h
theorem eq_snd {x y : Dat} {b : Bool} (hu : X.A.units + 64 < cLine) (h : eqD x y = some b) : ∃ r, OpR X (compareOp .Eq) r ∧
    ∀ H v w Q, Rdb (X.km ea) H v x → Rdb (X.km ea) H w y → Q (.bl b) H → r v w H Q := by
  unfold eqD at h
  split at h
  · rename_i r hf
    cases h
    obtain ⟨v0, w0, s1, s2, s3⟩ := flat_snd hf
    refine ⟨_, op_eq, fun H v w Q a c k => ?_⟩
    have e1 := (s3 (X.km ea) H).1 v a
    have e2 := (s3 (X.km ea) H).2 w c
    subst e1
    subst e2
    exact ⟨s1, by rw [s2]; exact k⟩
  · split at h
    · rename_i f
      have f' := Bool.and_eq_true_iff.mp f
      cases h
      exact ⟨_, op_eqR hu x y f'.1 f'.2, fun H v w Q a c k => ⟨a, c, k⟩⟩
    split at h
    · split at h
      · rename_i xs _ _
        cases h
        refine ⟨_, op_eqT0 hu, fun H v w Q a c k => ?_⟩
        obtain ⟨p, vs, rfl, hp, l⟩ := a.tup
        obtain ⟨q, ws, rfl, hq, l2⟩ := c.tup
        cases l2
        refine ⟨p, q, vs, rfl, rfl, hp, hq, ?_⟩
        have e : vs.isEmpty = xs.isEmpty := by cases l <;> rfl
        rw [e]; exact k
      · cases h
    · split at h
      · rename_i xs _ _
        cases h
        refine ⟨_, op_eqL0 hu, fun H v w Q a c k => ?_⟩
        obtain ⟨p, vs, rfl, hp, l⟩ := a.lst
        obtain ⟨q, ws, rfl, hq, l2⟩ := c.lst
        cases l2
        refine ⟨p, q, vs, rfl, rfl, hp, hq, ?_⟩
        have e : vs.isEmpty = xs.isEmpty := by cases l <;> rfl
        rw [e]; exact k
      · cases h
    · cases h
theorem cmp_snd {op : CmpOp} {x y : Dat} {b : Bool} (hu : X.A.units + 64 < cLine) (h : cmpD op x y = some b) : ∃ r, OpR X (compareOp op) r ∧
    ∀ H v w Q, Rdb (X.km ea) H v x → Rdb (X.km ea) H w y → Q (.bl b) H → r v w H Q := by
  cases op with
  | Lt => obtain ⟨i, j, rfl, rfl, rfl⟩ := ints_snd h; exact ⟨_, op_lt, fun H v w Q a c k => ⟨_, _, a.int, c.int, k⟩⟩
  | LtE => obtain ⟨i, j, rfl, rfl, rfl⟩ := ints_snd h; exact ⟨_, op_le, fun H v w Q a c k => ⟨_, _, a.int, c.int, k⟩⟩
  | Gt => obtain ⟨i, j, rfl, rfl, rfl⟩ := ints_snd h; exact ⟨_, op_gt, fun H v w Q a c k => ⟨_, _, a.int, c.int, k⟩⟩
  | GtE => obtain ⟨i, j, rfl, rfl, rfl⟩ := ints_snd h; exact ⟨_, op_ge, fun H v w Q a c k => ⟨_, _, a.int, c.int, k⟩⟩
  | In => obtain ⟨r, r', h1, _, h3, _⟩ := in_snd (X := X) (show inD x y = some b from h); exact ⟨r, h1, h3⟩
  | NotIn =>
    have h' : (inD x y).map (!·) = some b := h
    cases e : inD x y with
    | none => rw [e] at h'; cases h'
    | some c =>
      rw [e] at h'
      cases h'
      obtain ⟨r, r', _, h2, _, h4⟩ := in_snd (X := X) e
      exact ⟨r', h2, h4⟩
  | Eq => exact eq_snd hu h
  | NotEq =>
    have h' : (match eqFlat x y with
      | some r => some (!r)
      | none => if x.fit && y.fit then some (!PyData.eqv x.toPy y.toPy) else none) = some b := h
    split at h'
    · rename_i r hf
      cases h'
      obtain ⟨v0, w0, s1, s2, s3⟩ := flat_snd hf
      refine ⟨_, op_ne, fun H v w Q a c k => ?_⟩
      have e1 := (s3 (X.km ea) H).1 v a
      have e2 := (s3 (X.km ea) H).2 w c
      subst e1
      subst e2
      exact ⟨s1, by rw [s2]; exact k⟩
    · split at h'
      · rename_i f
        have f' := Bool.and_eq_true_iff.mp f
        cases h'
        exact ⟨_, op_neR hu x y f'.1 f'.2, fun H v w Q a c k => ⟨a, c, k⟩⟩
      · cases h'
  | Is => cases h
  | IsNot => cases h
end
end Ev
set_option Elab.async false
set_option linter.all false
set_option maxRecDepth 100000
namespace Ev
open PySem PySem.Spec PyProof.Rows L2
variable {ea : Option EA}
section
variable {X : Cx}
theorem tell_parts {d : Dat} (h : d.tell = true) : d.pure = true ∧ d.toPy.showable = true ∧ d.toPy.depth ≤ 40 ∧ sm d.toPy.shown.length = true ∧ (!d.toPy.hasDict || d.noLst) = true := by
  unfold Dat.tell at h
  simp only [Bool.and_eq_true, decide_eq_true_eq] at h
  exact ⟨h.1.1.1.1, h.1.1.1.2, h.1.1.2, h.1.2, h.2⟩
theorem call_reprR (hsy : HasSys X.base) (hg : X.A.guards = some []) (hu : X.A.units + 64 < cLine) (d : Dat) (ht : d.tell = true) : CallR X (.builtin "repr") (fun xs H Q => ∃ x, xs = [x] ∧ Rdb (X.km ea) H x d ∧ Q (.str d.toPy.shown) H) := by
  intro pins s σ H xs us Q I r h
  obtain ⟨x, rfl, a, q⟩ := h
  obtain ⟨u, rfl, rx⟩ := vals1 r
  obtain ⟨pu, t31, t4, t22, t12⟩ := tell_parts ht
  obtain ⟨as, ra, hn⟩ := reads_rdb I a pu rx
  have hz : d.toPy.shown.length ≤ sizeLine := sm_le t22
  generalize hp : d.toPy = p at *
  cases ra with
  | none => exact PySem.P.repr_of_none ⟨.str _, H, I.tok _, ⟨_, rfl⟩, q⟩
  | bool b => exact PySem.P.repr_of_bool ⟨.str _, H, I.tok _, ⟨_, rfl⟩, q⟩
  | int i t => exact PySem.P.repr_of_int (of_decide_eq_true t31) ⟨.str _, H, I.tok _, ⟨_, rfl⟩, q⟩
  | str z t => exact PySem.P.repr_of_str ⟨.str _, H, I.tok _, ⟨_, rfl⟩, q⟩ hz
  | list h1 h2 h3 h4 =>
    refine PySem.repr_of_reads' (h₀ := s.heap) (.list h1 h2 h3 h4) t31 (fun hd => ?_) hg (by omega) (fun _ _ e => e) (fun h' u tk k => ⟨.str _, H, I.kept k, ⟨_, rfl⟩, q⟩) hz
    refine hn ?_ hsy
    have := t12
    rw [hd] at this
    simpa using this
  | tuple h1 h2 h3 h4 =>
    refine PySem.repr_of_reads' (h₀ := s.heap) (.tuple h1 h2 h3 h4) t31 (fun hd => ?_) hg (by omega) (fun _ _ e => e) (fun h' u tk k => ⟨.str _, H, I.kept k, ⟨_, rfl⟩, q⟩) hz
    refine hn ?_ hsy
    have := t12
    rw [hd] at this
    simpa using this
  | dict h1 h2 h3 h4 h5 =>
    refine PySem.repr_of_reads' (h₀ := s.heap) (.dict h1 h2 h3 h4 h5) t31 (fun hd => ?_) hg (by omega) (fun _ _ e => e) (fun h' u tk k => ⟨.str _, H, I.kept k, ⟨_, rfl⟩, q⟩) hz
    refine hn ?_ hsy
    have := t12
    rw [hd] at this
    simpa using this

def BI.name : BI → Str
  | .len => "len" | .max => "max" | .min => "min" | .all => "all" | .tuple => "tuple" | .list => "list" | .repr => "repr" | .str => "str" | .int => "int"
def BI.val : BI → Value
  | .len => .builtin "len" | .max => .builtin "max" | .min => .builtin "min" | .all => .builtin "all" | .tuple => .type "tuple" | .list => .type "list" | .repr => .builtin "repr" | .str => .type "str" | .int => .type "int"
/-- which of them ask that nothing is being handled -/
def BI.cold : BI → Bool
  | .max => true | .min => true | .all => true | _ => false

theorem log_small {i : Int} (h : i.natAbs < 2 ^ 64) : i.natAbs.log2 < 1920 := by
  by_cases z : i.natAbs = 0
  · rw [z]; decide
  · have := (Nat.log2_lt z).mpr h
    omega
theorem ints_is {K : KM} {H : Hp} : ∀ {ds : List Dat} {ns : List Int} {vs : List V}, ints? ds = some ns → IsL K H vs ds → vs = ns.map V.int
  | [], _, _, e, l => by cases e; cases l; rfl
  | .int i :: r, ns, _, e, l => by
    cases l with
    | cons a l =>
      have e' : (ints? r).map (i :: ·) = some ns := e
      cases q : ints? r with
      | none => rw [q] at e'; cases e'
      | some ms =>
        rw [q] at e'
        cases e'
        cases a
        rw [ints_is q l]; rfl
theorem bls_is {K : KM} {H : Hp} : ∀ {ds : List Dat} {ns : List Bool} {vs : List V}, bls? ds = some ns → IsL K H vs ds → vs = ns.map V.bl
  | [], _, _, e, l => by cases e; cases l; rfl
  | .bl i :: r, ns, _, e, l => by
    cases l with
    | cons a l =>
      have e' : (bls? r).map (i :: ·) = some ns := e
      cases q : bls? r with
      | none => rw [q] at e'; cases e'
      | some ms =>
        rw [q] at e'
        cases e'
        cases a
        rw [bls_is q l]; rfl
theorem strs_is {K : KM} {H : Hp} : ∀ {ds : List Dat} {ns : List Str} {vs : List V}, strs? ds = some ns → IsL K H vs ds → vs = ns.map V.str
  | [], _, _, e, l => by cases e; cases l; rfl
  | .str i :: r, ns, _, e, l => by
    cases l with
    | cons a l =>
      have e' : (strs? r).map (i :: ·) = some ns := e
      cases q : strs? r with
      | none => rw [q] at e'; cases e'
      | some ms =>
        rw [q] at e'
        cases e'
        cases a
        rw [strs_is q l]; rfl
theorem max_fold : ∀ (r : List Int) (n : Int), (r.foldl (fun a b => if b > a then b else a) n = n ∨ r.foldl (fun a b => if b > a then b else a) n ∈ r) ∧ n ≤ r.foldl (fun a b => if b > a then b else a) n ∧ ∀ y ∈ r, y ≤ r.foldl (fun a b => if b > a then b else a) n
  | [], n => ⟨.inl rfl, Int.le_refl n, fun y h => nomatch h⟩
  | b :: r, n => by
    rw [List.foldl_cons]
    obtain ⟨h1, h2, h3⟩ := max_fold r (if b > n then b else n)
    refine ⟨?_, ?_, fun y hy => ?_⟩
    · rcases h1 with h1 | h1
      · rw [h1]
        by_cases c : b > n
        · rw [if_pos c]; exact .inr List.mem_cons_self
        · rw [if_neg c]; exact .inl rfl
      · exact .inr (List.mem_cons_of_mem _ h1)
    · refine Int.le_trans ?_ h2
      by_cases c : b > n
      · rw [if_pos c]; omega
      · rw [if_neg c]; omega
    · rcases List.mem_cons.mp hy with rfl | hy
      · refine Int.le_trans ?_ h2
        by_cases c : y > n
        · rw [if_pos c]; omega
        · rw [if_neg c]; omega
      · exact h3 y hy
/-- values that may be read now -/
inductive RdL (K : KM) (H : Hp) : List V → List Dat → Prop
  | nil : RdL K H [] []
  | cons {v d vs ds} : Rdb K H v d → RdL K H vs ds → RdL K H (v :: vs) (d :: ds)
theorem RdL.one {K : KM} {H : Hp} {vs : List V} {d : Dat} (h : RdL K H vs [d]) : ∃ v, vs = [v] ∧ Rdb K H v d := by
  cases h with
  | cons a l => cases l; exact ⟨_, rfl, a⟩
theorem RdL.two {K : KM} {H : Hp} {vs : List V} {d e : Dat} (h : RdL K H vs [d, e]) : ∃ v w, vs = [v, w] ∧ Rdb K H v d ∧ Rdb K H w e := by
  cases h with
  | cons a l => obtain ⟨w, rfl, b⟩ := l.one; exact ⟨_, _, rfl, a, b⟩
theorem bi_snd {b : BI} {as : List Dat} {d : Dat} {m : Mode} (hc : b.cold = true → X.calm = true) (hsy : HasSys X.base) (hg : X.A.guards = some []) (hu : X.A.units + 64 < cLine) (h : biD b as = some (d, m)) :
    ∃ r, CallR X b.val r ∧ ∀ B σ ρ H vs Q, REnv (X.km ea) B σ H ρ → RdL (X.km ea) H vs as → Want (X.km ea) B σ ρ H d m Q → r vs H Q := by
  unfold biD at h
  split at h
  · cases h
    refine ⟨_, call_len_seq, fun B σ ρ H vs Q R l k => ?_⟩
    obtain ⟨v, rfl, a⟩ := l.one
    obtain ⟨p, ws, rfl, hp, l⟩ := a.lst
    refine ⟨p, ws, rfl, .inl hp, ?_⟩
    rw [l.length]
    exact k.val R (.int _)
  · cases h
    refine ⟨_, call_len_seq, fun B σ ρ H vs Q R l k => ?_⟩
    obtain ⟨v, rfl, a⟩ := l.one
    obtain ⟨p, ws, rfl, hp, l⟩ := a.tup
    refine ⟨p, ws, rfl, .inr hp, ?_⟩
    rw [l.length]
    exact k.val R (.int _)
  · cases h
    refine ⟨_, call_len_seq, fun B σ ρ H vs Q R l k => ?_⟩
    obtain ⟨v, rfl, a⟩ := l.one
    obtain ⟨p, rfl, hp⟩ := a.scr
    refine ⟨p, _, rfl, .inl hp, ?_⟩
    rw [List.length_map]
    exact k.val R (.int _)
  · split at h
    · rename_i c
      cases h
      refine ⟨_, call_len_str, fun B σ ρ H vs Q R l k => ?_⟩
      obtain ⟨v, rfl, a⟩ := l.one
      rw [a.str]
      exact ⟨_, rfl, sm_le c, k.val R (.int _)⟩
    · cases h
  · cases h
    refine ⟨_, call_max2 (hc rfl), fun B σ ρ H vs Q R l k => ?_⟩
    obtain ⟨v, w, rfl, a, c⟩ := l.two
    rw [a.int, c.int]
    exact ⟨_, _, rfl, k.val R (.int _)⟩
  · cases h
    refine ⟨_, call_min2 (hc rfl), fun B σ ρ H vs Q R l k => ?_⟩
    obtain ⟨v, w, rfl, a, c⟩ := l.two
    rw [a.int, c.int]
    exact ⟨_, _, rfl, k.val R (.int _)⟩
  · rename_i xs
    cases e : ints? xs with
    | none => rw [e] at h; cases h
    | some ns =>
      rw [e] at h
      cases ns with
      | nil => cases h
      | cons n r =>
        cases h
        refine ⟨_, cr_max (hc rfl), fun B σ ρ H vs Q R l k => ?_⟩
        obtain ⟨v, rfl, a⟩ := l.one
        obtain ⟨p, ws, rfl, hp, l⟩ := a.lst
        rw [ints_is e l] at hp
        refine ⟨p, n :: r, rfl, hp, Nat.succ_pos _, fun y h1 h2 => ?_⟩
        obtain ⟨g1, g2, g3⟩ := max_fold r n
        have e1 : y ≤ r.foldl (fun a b => if b > a then b else a) n := by
          rcases List.mem_cons.mp h1 with h1 | h1
          · rw [h1]; exact g2
          · exact g3 y h1
        have e2 : r.foldl (fun a b => if b > a then b else a) n ≤ y := by
          rcases g1 with g1 | g1
          · rw [g1]; exact h2 n List.mem_cons_self
          · exact h2 _ (List.mem_cons_of_mem _ g1)
        rw [Int.le_antisymm e1 e2]
        exact k.val R (.int _)
  · rename_i xs
    cases e : bls? xs with
    | none => rw [e] at h; cases h
    | some bs =>
      rw [e] at h
      cases h
      refine ⟨_, cr_all (hc rfl), fun B σ ρ H vs Q R l k => ?_⟩
      obtain ⟨v, rfl, a⟩ := l.one
      obtain ⟨p, ws, rfl, hp, l⟩ := a.lst
      rw [bls_is e l] at hp
      exact ⟨p, bs, rfl, hp, k.val R (.bl _)⟩
  · cases h
    refine ⟨_, call_tuple_of, fun B σ ρ H vs Q R l k => ?_⟩
    obtain ⟨v, rfl, a⟩ := l.one
    obtain ⟨p, ws, rfl, hp, l⟩ := a.lst
    exact ⟨p, ws, rfl, .inl ⟨hp, fun n hn => k.tup R l hn⟩⟩
  · cases h
    refine ⟨_, call_list_of, fun B σ ρ H vs Q R l k => ?_⟩
    obtain ⟨v, rfl, a⟩ := l.one
    obtain ⟨p, ws, rfl, hp, l⟩ := a.tup
    exact ⟨p, ws, rfl, .inr hp, fun n hn => k.lst R l hn⟩
  · cases h
    refine ⟨_, call_list_of, fun B σ ρ H vs Q R l k => ?_⟩
    obtain ⟨v, rfl, a⟩ := l.one
    obtain ⟨p, ws, rfl, hp, l⟩ := a.lst
    exact ⟨p, ws, rfl, .inl hp, fun n hn => k.lst R l hn⟩
  · split at h
    · rename_i dd c
      cases h
      refine ⟨_, call_reprR (ea := ea) hsy hg hu dd c, fun B σ ρ H vs Q R l k => ?_⟩
      obtain ⟨v, rfl, a⟩ := l.one
      exact ⟨v, rfl, a, k.val R (.str _)⟩
    · cases h
  · cases h
    refine ⟨_, SkE.call_str_str, fun B σ ρ H vs Q R l k => ?_⟩
    obtain ⟨v, rfl, a⟩ := l.one
    rw [a.str]
    exact ⟨_, rfl, k.val R (.str _)⟩
  · split at h
    · rename_i i c
      cases h
      refine ⟨_, call_str_int, fun B σ ρ H vs Q R l k => ?_⟩
      obtain ⟨v, rfl, a⟩ := l.one
      rw [a.int]
      exact ⟨_, rfl, log_small c, k.val R (.str _)⟩
    · cases h
  · cases h
    refine ⟨_, call_int1, fun B σ ρ H vs Q R l k => ?_⟩
    obtain ⟨v, rfl, a⟩ := l.one
    rw [a.int]
    exact .inl ⟨_, rfl, k.val R (.int _)⟩
  · cases h
    refine ⟨_, call_int1, fun B σ ρ H vs Q R l k => ?_⟩
    obtain ⟨v, rfl, a⟩ := l.one
    rw [a.bl]
    exact .inr ⟨_, rfl, k.val R (.int _)⟩
  · split at h
    · rename_i x c
      cases e : PySem.intText? x with
      | none => rw [e] at h; cases h
      | some n =>
        rw [e] at h
        cases h
        refine ⟨_, call_int_str, fun B σ ρ H vs Q R l k => ?_⟩
        obtain ⟨v, rfl, a⟩ := l.one
        rw [a.str]
        exact ⟨_, _, rfl, e, c, k.val R (.int _)⟩
    · cases h
  · cases h
end
end Ev
set_option Elab.async false
set_option linter.all false
set_option maxRecDepth 100000
set_option maxHeartbeats 2000000
/-! {x} in an f-text: any plain data, whatever text it comes to. -/
namespace Ev
open PySem PySem.Spec PyProof.Rows L2
variable {ea : Option EA}
/-- whose text is told in an f-text -/
def Dat.fmtOk : Dat → Bool
  | .str z => sm z.length
  | .int i => decide (i.natAbs < 2 ^ 64)
  | d => d.tell
section
variable {X : Cx}
/-- some text of no more than so many signs -/
def tFmtD (K : KM) (d : Dat) (te : TE) : TE := fun σ H Q => te σ H fun x H1 => Is K H1 x d ∧ ∀ y : Str, y.length ≤ 100000 → Q (.str y) H1
theorem short_of {n : Nat} (h : sm n = true) : n ≤ 100000 := of_decide_eq_true h
theorem true_short (b : Bool) : (if b then "True" else "False" : Str).length ≤ 100000 := by cases b <;> decide +kernel
theorem none_short : ("None" : Str).length ≤ 100000 := by decide +kernel
theorem big64 : (toString ((2 : Nat) ^ 64)).length ≤ 100000 := by decide +kernel
theorem pe_fmtD {e : Expr} {te : TE} {pos : Pos} {d : Dat} (hsy : HasSys X.base) (hg : X.A.guards = some []) (hu : X.A.units + 64 < cLine) (hd : d.fmtOk = true) (he : PE X e te) : PE X (.FormattedValue e (-1) none pos) (tFmtD (X.km ea) d te) := by
  refine ⟨fun pins s σ H Q I h => wpAny_FormattedValue_plain (thn (he.run pins s σ H _ I h) fun v s1 hv => ?_)⟩
  obtain ⟨x, H1, I1, r1, ix, q⟩ := hv
  cases d with
  | str z =>
    cases ix
    obtain ⟨t, rfl⟩ := r1
    have hz : z.length ≤ 100000 := short_of hd
    exact wpAny_formatField_str ⟨.str z, H1, I1, ⟨t, rfl⟩, q z hz⟩ ⟨.str z, H1, I1.tok _, ⟨_, rfl⟩, q z hz⟩ (sm_le hd)
  | int i =>
    cases ix
    obtain ⟨t, rfl⟩ := r1
    have hi : i.natAbs.log2 < 1920 := log_small (of_decide_eq_true hd)
    exact wpAny_formatField_int hi ⟨.str (toString i), H1, I1.tok _, ⟨_, rfl⟩, q _ (by have := PyProof.Rows.int_text_len_1921 hi; omega)⟩
  | bl b =>
    cases ix
    cases r1
    exact wpAny_formatField_bool ⟨.str _, H1, I1.tok _, ⟨_, rfl⟩, q _ (true_short b)⟩
  | non =>
    cases ix
    cases r1
    exact wpAny_formatField_none ⟨.str _, H1, I1.tok _, ⟨_, rfl⟩, q _ none_short⟩
  | obj c fs => exact absurd (tell_parts hd).1 (fun z => nomatch z)
  | _ =>
    obtain ⟨pu, t31, t4, t22, t12⟩ := tell_parts hd
    obtain ⟨as, ra, hn⟩ := reads_is I1 ix pu r1
    have hz := sm_le t22
    have hs := short_of t22
    cases ix
    cases r1
    exact PySem.formatField_of_reads (h₀ := s1.heap) ra t31 (fun hd => hn (by rw [hd] at t12; simpa using t12) hsy) hg (by omega) (fun _ _ e => e) (fun h' u tk k => ⟨.str _, H1, I1.kept k, ⟨_, rfl⟩, q _ hs⟩) hz
end
end Ev
set_option Elab.async false
set_option linter.all false
set_option maxRecDepth 100000
namespace Ev
open PySem PySem.Spec PyProof.Rows L2
variable {ea : Option EA}

/-! ### what a def promises: plain data in, plain data out -/
def argsR (K : KM) (H : Hp) : List Bool → List V → List Dat → Prop
  | [], [], [] => True
  | true :: io, v :: vs, d :: ds => (∃ p, v = .ref p ∧ Own K H p d) ∧ argsR K H io vs ds
  | false :: io, v :: vs, d :: ds => Is K H v d ∧ argsR K H io vs ds
  | _, _, _ => False
def ioA : List Bool → List V → List Addr
  | true :: io, .ref p :: vs => p :: ioA io vs
  | true :: io, _ :: vs => ioA io vs
  | false :: io, _ :: vs => ioA io vs
  | _, _ => []
def outsR (K : KM) (H : Hp) : List Addr → List Dat → Prop
  | [], [] => True
  | p :: ps, d :: ds => Own K H p d ∧ outsR K H ps ds
  | _, _ => False
/-- .. where an exception left the def: what is known of the changed ones -/
def outsX (K : KM) (H : Hp) : List Addr → DEnv → Prop
  | [], [] => True
  | p :: ps, .own d :: ss => Own K H p d ∧ outsX K H ps ss
  | _ :: ps, .no :: ss => outsX K H ps ss
  | _, _ => False
def Post (K : KM) (io : List Bool) (vs : List V) (H : Hp) (d : Dat) (new : Bool) (outs : List Dat) (v : V) (H' : Hp) : Prop :=
  (∀ a o, H a = some o → a ∉ ioA io vs → H' a = some o) ∧ FrzLe H H' ∧ outsR K H' (ioA io vs) outs ∧
    (if new = true then ∃ p, v = .ref p ∧ H p = none ∧ Own K H' p d else Is K H' v d)
def PostX (K : KM) (io : List Bool) (vs : List V) (H : Hp) (c : Str) (fs : List (Str × Dat)) (ss : DEnv) (cls : Value) (d : Option Addr) (H' : Hp) : Prop :=
  (∀ a o, H a = some o → a ∉ ioA io vs → H' a = some o) ∧ FrzLe H H' ∧ outsX K H' (ioA io vs) ss ∧ XcR K H' cls d c fs
/-- what the plain run comes to -/
def runR (K : KM) (io : List Bool) (vs : List V) (H : Hp) (Q : VK) (E : XK) : Res (Dat × Bool × List Dat) → Prop
  | .ok (d, new, outs) => ∀ v H', Post K io vs H d new outs v H' → Q v H'
  | .exc c fs ss => ∀ cls d H', PostX K io vs H c fs ss cls d H' → E cls d H'
  | .stuck => False
def spD (K : KM) (fi : FI) : Sp := fun vs H Q E => ∃ ds, argsR K H fi.io vs ds ∧ (ioA fi.io vs).Nodup ∧ runR K fi.io vs H Q E (fi.run ds)
theorem argsR_len {K : KM} {H : Hp} : ∀ {io : List Bool} {vs : List V} {ds : List Dat}, argsR K H io vs ds → vs.length = io.length ∧ ds.length = io.length
  | [], [], [], _ => ⟨rfl, rfl⟩
  | true :: io, v :: vs, d :: ds, h => by have := argsR_len h.2; simp [this.1, this.2]
  | false :: io, v :: vs, d :: ds, h => by have := argsR_len h.2; simp [this.1, this.2]

/-- a def that keeps its promise where nothing is being shown -/
structure FnG (P : Program) (w : World) (K : PySem.W.Frag) (mg : Str → Option Value) (base : Heap) (k : Nat) (f : Addr) (fd : FuncData) (ps : List Str) (sp : Sp) : Prop where
  len : ∀ vs H Q E, sp vs H Q E → vs.length = ps.length
  run : ∀ (A : Around) (outer : List PySem.Env) (s : Shared) (H : Hp) (args : Args) (us : List Value) (vs : List V) (Q : VK) (E : XK), Room k A → A.guards = some [] → Env0 P w K mg base A outer s H →
    BindsTo s fd args (ps.zip us) → Vals vs us → sp vs H Q E → codeAny (model P w) A (.call (.ref f) args) (CR (CX P w) outer P w H s Q E) s
theorem FnG.mono {P : Program} {w : World} {K : PySem.W.Frag} {mg : Str → Option Value} {base : Heap} {j k : Nat} {f : Addr} {fd : FuncData} {ps : List Str} {sp : Sp} (G : FnG P w K mg base j f fd ps sp) (h : j ≤ k) : FnG P w K mg base k f fd ps sp :=
  ⟨G.len, fun A outer s H args us vs Q E r => G.run A outer s H args us vs Q E (r.mono h)⟩

/-- an exception in the air of X, noted (if so) at the frame that runs -/
def XEF (X : Cx) (W : WX) (u : Value) (s' : Shared) : Prop :=
  ∃ (a : Addr) (B : Heap) (sI : Shared) (pins : List (Addr × Obj)) (σ : L2.St) (H : Hp) (cls : Value) (d : Option Addr) (L : Addr), X.env.frame = some L ∧
    u = .ref a ∧ Inv X pins σ H sI ∧ (∀ b o, sI.heap.get? b = some o → b ∉ frs X.stack → B.get? b = some o) ∧ sI.heap.UpToSlots s'.heap ∧
      Sky B X.stack a (Zc cls d) L s'.heap ∧ H a = none ∧ s'.os = sI.os ∧ AllBare s'.gens ∧ W cls d σ H
def TakesF (X : Cx) (W : WX) : Prop := ∀ u s', XEF X W u s' → X.xe u s'
theorem takesF_never {X : Cx} : TakesF X (fun _ _ _ _ => False) := fun _ _ ⟨_, _, _, _, _, _, _, _, _, _, _, _, _, _, _, _, _, _, w⟩ => w.elim
theorem XEF.of_call {X : Cx} {W : WX} {E : XK} {pins : List (Addr × Obj)} {σ : L2.St} {H : Hp} {s s' : Shared} {u : Value} {L : Addr} (hf : X.env.frame = some L) (I : Inv X pins σ H s) (hW : ∀ cls d H', E cls d H' → W cls d σ H')
    (c : CX X.prog X.w X.stack H s E u s') : XEF X W u s' := by
  obtain ⟨a, B, sI, pins', σ', H', cls, d, e1, I', e3, e4, sky, e6, e7, e8, w⟩ := XE.of_call (W := fun cls d σ1 H1 => σ1 = σ ∧ W cls d σ H1) I (fun cls d H' h => ⟨rfl, hW cls d H' h⟩) c
  obtain ⟨a0, B0, H0, cls0, d0, q1, fl, _⟩ := c
  cases e1
  refine ⟨_, B, sI, pins', σ', H', cls, d, L, hf, rfl, I', e3, e4, ?_, e6, e7, e8, ?_⟩
  · rcases sky with z | z | z
    · exact .inl z
    · exact .inr (.inl z)
    · exfalso
      cases q1
      obtain ⟨_, _, _, oe, vs, T, oT, ts, g1, _, g2, g3, _, _, g4, g5, g6⟩ := fl
      obtain ⟨_, _, _, oe', vs', T', oT', ts', k1, _, k2, k3, _, _, k4, k5, k6⟩ := z
      rw [g1] at k1; cases k1
      rw [g2] at k2; cases k2
      rw [g3] at k3; cases k3
      rw [g4] at k4; cases k4
      rw [g5] at k5; cases k5
      rw [g6] at k6
      cases k6
  · rw [w.1]; exact w.2

section
variable {X : Cx} {k : Nat} {f : Addr} {fd : FuncData} {ps : List Str} {sp : Sp} {x : Str} {p pos : Pos} {e : Expr} {es : List Expr} {t : TA} {W : WX}
theorem run_fnG {pins : List (Addr × Obj)} {σ : L2.St} {H : Hp} {s : Shared} {Q : VK} {us : List Value} {vs : List V} {args : Args} (F : FnG X.prog X.w X.K X.mg X.base k f fd ps sp) (hr : Room k X.A) (hq : X.A.guards = some []) (tk : TakesF X W) (hf : ∃ L, X.env.frame = some L)
    (hb : BindsTo s fd args (ps.zip us)) (I : Inv X pins σ H s) (r : Vals vs us) (h : sp vs H Q (fun cls d H' => W cls d σ H')) : wpAny (model X.prog X.w) X.A (call (.ref f) args.pos args.kw) (EP X pins σ Q) X.xe s := by
  refine wpAny_call (codeAny_mono (F.run X.A X.stack s H args us vs Q _ hr hq I.env0 hb r h) fun r s' z => ?_)
  cases r with
  | error e =>
    obtain ⟨L, hf⟩ := hf
    exact tk e s' (XEF.of_call hf I (fun _ _ _ h => h) z)
  | ok fl =>
    cases fl with
    | ret u => exact I.after z
    | next => exact False.elim z
    | brk => exact False.elim z
    | cont => exact False.elim z
theorem pe_callG (F : FnG X.prog X.w X.K X.mg X.base k f fd ps sp) (hr : Room k X.A) (hq : X.A.guards = some []) (tk : TakesF X W) (hf : ∃ L, X.env.frame = some L) (hg : Gl X x) (hm : X.mg x = some (.ref f)) (hk : PySem.W.keepIn X.K (.ref f) = true) (hb : Binds X.K fd ps [])
    (ha : PA X (e :: es) t) (hdb : (x == ("__debug__" : Str)) = false) (he : starEach (e :: es) X.env = (false, eval e X.env) :: starEach es X.env) (hpl : (backTo pos (starEach es X.env)).any (·.1) = false) :
    PE X (.Call (.Name x p) (e :: es) [] pos) (fun σ H Q => t σ H fun vs H1 => sp vs H1 Q (fun cls d H' => W cls d σ H')) := by
  constructor
  intro pins s σ H Q I h
  refine wpAny_Call_Name_kw (ld_glob I hg hm (PySem.W.callWith_K (h₀ := X.base) I.ok.mod.kin hk (thn (ha.run pos pins s σ H _ I h) ?_) he hpl) hdb)
  rintro us s1 ⟨vs, H1, I1, r, q⟩
  have hl : us.length = ps.length := by rw [← r.length]; exact F.len _ _ _ _ q
  have hb' := hb s1 us I1.kIn (by rw [List.append_nil]; exact hl)
  rw [List.append_nil] at hb'
  exact ⟨I1.kIn, run_fnG (args := ⟨us, []⟩) F hr hq tk hf hb' I1 r q⟩
end

theorem kw_each {kws : List Keyword} {ks : List Str} {env : PySem.Env} {pos : Pos} (h : kws.map (·.arg) = ks.map some) : (backToKw pos (keywordEach kws env)).all (·.1.isSome) = true ∧ (backToKw pos (keywordEach kws env)).filterMap (·.1) = ks ∧ (backToKw pos (keywordEach kws env)).any (·.1.isNone) = false := by
  induction kws generalizing ks with
  | nil =>
    cases ks with
    | nil => exact ⟨rfl, rfl, rfl⟩
    | cons _ _ => cases h
  | cons k r ih =>
    cases ks with
    | nil => cases h
    | cons x xs =>
      obtain ⟨a, v, p⟩ := k
      have h1 : a = some x := by
        have := congrArg List.head? h
        simpa using this
      have h2 : r.map (·.arg) = xs.map some := by
        have := congrArg List.tail h
        simpa using this
      subst h1
      obtain ⟨i1, i2, i3⟩ := ih h2
      refine ⟨?_, ?_, ?_⟩
      · show (true && (backToKw pos (keywordEach r env)).all (·.1.isSome)) = true
        rw [i1]; rfl
      · show x :: (backToKw pos (keywordEach r env)).filterMap (·.1) = _
        rw [i2]
      · show (false || (backToKw pos (keywordEach r env)).any (·.1.isNone)) = false
        rw [i3]; rfl
theorem pe_callGK {X : Cx} {k : Nat} {f : Addr} {fd : FuncData} {ps : List Str} {sp : Sp} {x : Str} {p pos : Pos} {kws : List Keyword} {t : TA} {W : WX} (F : FnG X.prog X.w X.K X.mg X.base k f fd ps sp) (hr : Room k X.A) (hq : X.A.guards = some []) (tk : TakesF X W) (hf : ∃ L, X.env.frame = some L) (hg : Gl X x) (hm : X.mg x = some (.ref f)) (hk : PySem.W.keepIn X.K (.ref f) = true)
    (hb : ∀ (s : Shared) (us : List Value), X.K.In s.heap → us.length = ps.length → BindsTo s fd ⟨[], ps.zip us⟩ (ps.zip us)) (ha : PK X kws t) (hks : kws.map (·.arg) = ps.map some) (hdb : (x == ("__debug__" : Str)) = false) :
    PE X (.Call (.Name x p) [] kws pos) (fun σ H Q => t σ H fun vs H1 => sp vs H1 Q (fun cls d H' => W cls d σ H')) := by
  constructor
  intro pins s σ H Q I h
  obtain ⟨k1, k2, k3⟩ := kw_each (env := X.env) (pos := pos) hks
  refine wpAny_Call_Name_kw (ld_glob I hg hm (PySem.W.callWith_KW0 (h₀ := X.base) I.ok.mod.kin hk k1 (thn (ha.run pos pins s σ H _ I h) ?_) (by rw [k3]; rfl)) hdb)
  rintro us s1 ⟨vs, H1, I1, r, q⟩
  have hl : us.length = ps.length := by rw [← r.length]; exact F.len _ _ _ _ q
  refine ⟨I1.kIn, ?_⟩
  rw [k2]
  exact run_fnG (args := ⟨[], ps.zip us⟩) F hr hq tk hf (hb s1 us I1.kIn hl) I1 r q

/-- the wish of a def's frame about exceptions -/
theorem takesF_of {X : Cx} {E : XK} (hs : X.stack = X.env :: X.outer) (hf : X.env.frame = some X.env.locals) (hex : X.ex = []) {E₁ : Value → Shared → Prop}
    (hx : X.xe = fun e s' => wpAny (model X.prog X.w) X.A (leaving X.env e) (fun _ s'' => CX X.prog X.w X.outer X.H_0 X.s_0 E e s'') E₁ s') : TakesF X (fun cls d _ H => E cls d H) := fun u s' z => by
  obtain ⟨a, B, sI, pins, σ, H, cls, d, L, e0, e1, I, e3, e4, sky, e6, e7, e8, w⟩ := z
  rw [hf] at e0
  cases e0
  exact takes_of hs hf hex hx u s' ⟨a, B, sI, pins, σ, H, cls, d, e1, I, e3, e4, sky, e6, e7, e8, w⟩
/-- a def's body keeps its promise -/
theorem fnG_of {P : Program} {w : World} {K : PySem.W.Frag} {mg : Str → Option Value} {base : Heap} {k : Nat} {f : Addr} {x qual : Str} {st : Stmt} {fd : FuncData} {N ps : List Str} {sp : Sp}
    (F : Fun K x qual st f fd) (S : FnScope N ps (defScope st)) (len : ∀ vs H Q E, sp vs H Q E → vs.length = ps.length)
    (body : ∀ (cdv : Value) (A : Around) (outer : List PySem.Env) (s : Shared) (H : Hp) (vs : List V) (Q : VK) (E : XK), Room k (A.deeper (envOfC qual (defScope st) s.heap.objs.size f cdv)) → A.guards = some [] → sp vs H Q E →
      ∃ t, PSs (cxOf (CX P w) P w K mg base N qual (defScope st) f cdv A outer s H E) (defBody st) t ∧ t { nx := fun _ H' => Q .non H', rt := Q } (start N vs) H) :
    FnG P w K mg base (k + 1) f fd ps sp := by
  refine ⟨len, fun A outer s H args us vs Q E hr hg e0 hb r hsp => ?_⟩
  obtain ⟨oc, od, kV, doc, pm, an, cdv, ct, osl, rfl, lk, hcd⟩ := F.ex
  have kept : ∀ b o, base.get? b = some o → s.heap.get? b = some o := fun b o e => (e0.bs b o e).1
  have KX : K.In s.heap := e0.mod.kin.keeps kept
  have nl : s.heap.NoLimit := e0.mod.nolimit.keeps kept
  have kinds : ∀ y ∈ ps.zip us, (defScope st).names.lookup y.1 = some .local ∨ ((defScope st).names.lookup y.1 = some .cell ∧ ((cellsFrom (s.heap.objs.size + 1) (defScope st).names []).lookup y.1).isSome = true) := by
    rintro ⟨n, z⟩ hy
    rcases S.par n (List.of_mem_zip hy).1 with c | c
    · exact .inl c
    · exact .inr ⟨c, PySem.W.cellsFrom_some _ _ _ (.inl c)⟩
  refine codeAny_call_function hr.depth (KX _ _ lk) rfl S.co S.gen rfl (PySem.W.codeRec_of KX hcd) (hb _ _ _ _ (wpAny_newFunctionEnv_cells S.kind kinds ?_))
  rintro env rfl s1 ic
  refine ⟨nl.keeps ic.toInCall.keep, codeAny_func ?_⟩
  obtain ⟨t, ht, hq⟩ := body cdv A outer s H vs Q E (hr.deeper _) hg hsp
  have J : Inv (cxOf (CX P w) P w K mg base N qual (defScope st) f cdv A outer s H E) [] (start N vs) H s1 := inv_start S hr.hd e0 (len _ _ _ _ hsp) r ic
  refine wpAny_mono (ht.run [] s1 (start N vs) H _ J hq) ?_ (fun _ _ z => z)
  intro fl s' z
  cases fl with
  | ret u => obtain ⟨v, σ', H', I', rv, q⟩ := z; exact ⟨v, H', I'.os, I'.bare, I'.base, I'.hok, rv, q⟩
  | next => obtain ⟨σ', H', I', q⟩ := z; exact ⟨.non, H', I'.os, I'.bare, I'.base, I'.hok, rfl, q⟩
  | brk => obtain ⟨_, _, _, q⟩ := z; exact q.elim
  | cont => obtain ⟨_, _, _, q⟩ := z; exact q.elim
end Ev
set_option Elab.async false
set_option linter.all false
set_option maxRecDepth 100000
set_option maxHeartbeats 4000000
/-! C(..): an error is made, its own __init__ walked where nothing is being shown. -/
namespace Ev
open PySem PySem.W PySem.Calls PyProof.Rows PySem.HandSPX L2 PySem.OEX
abbrev selfs (ns : List Str) : List Str := "self" :: ns
/-- what an error's own __init__ keeps: the fields are the parameters -/
def spI (C : Addr) (ns : List Str) (ok : Hp → List V → Prop) : Sp := fun vs H Q E => ∃ (a : Addr) (ws : List V), vs = .ref a :: ws ∧ ws.length = ns.length ∧ ok H ws ∧ H a = some (exo a C none) ∧
  ∀ d, H d = none → d ≠ a → Q .non (upd (upd H d (exd d ((ns.zip ws).reverse))) a (exo a C (some d)))
/-- what a class says of its errors -/
structure MkX (P : Program) (w : World) (K : PySem.W.Frag) (mg : Str → Option Value) (base : Heap) (k : Nat) (C : Addr) (ns : List Str) (ok : Hp → List V → Prop) (kw : List (List Str)) : Prop where
  cls : ∃ tl N newId I initId, OxC K C tl N newId I initId
  few : ns.length ≤ 900
  ex : ∃ (fI : Addr) (fd : FuncData), PySem.W.findIn K (.ref C) "__init__" = some (some (.ref fI)) ∧ PySem.W.typeIn K (.ref fI) = some (.type "function") ∧ FnG P w K mg base k fI fd (selfs ns) (spI C ns ok) ∧ Binds K fd (selfs ns) [] ∧
    ∀ ks ∈ kw, ks.length = ns.length ∧ ∀ (s : Shared) (x : Value) (us ws : List Value), K.In s.heap → us.length = ns.length → ns.mapM (fun n => (ks.zip us).lookup n) = some ws → BindsTo s fd ⟨[x], ks.zip us⟩ ((selfs ns).zip (x :: ws))
theorem guards_make {A : Around} {C : Addr} {us : List Value} {kw : List (Str × Value)} (h : A.guards = some []) : (A.under (.builtin "type.__call__" ⟨.ref C :: us, kw⟩)).guards = some [] := by
  have e : Code.guards (.builtin "type.__call__" ⟨.ref C :: us, kw⟩) = [] := by simp +decide [Code.guards, Code.isGuard]
  simp only [Around.under, h, e]
  rfl
section
variable {X : Cx} {pins : List (Addr × Obj)} {σ : L2.St} {H1 : Hp} {Q : XK} {k : Nat} {C : Addr} {ns : List Str} {ok : Hp → List V → Prop} {kw : List (List Str)} {E : Value → Shared → Prop}
theorem left_of {H1 : Hp} {a d : Addr} {x y z : HO} {fs : List (Str × V)} (ha : H1 a = none) (hne : d ≠ a) : upd (L2.del (upd (upd (upd H1 a x) d y) a z) a) d (.xd fs) = upd H1 d (.xd fs) := by
  funext b
  by_cases h1 : b = d
  · rw [h1, upd_same, upd_same]
  · rw [upd_ne h1, upd_ne h1]
    unfold L2.del
    by_cases h2 : b = a
    · rw [if_pos h2, h2, ha]
    · rw [if_neg h2, upd_ne h2, upd_ne h1, upd_ne h2]
/-- the class is called -/
theorem run_mkx {s1 : Shared} {us ws : List Value} {vs : List V} {kws : List (Str × Value)} (M : MkX X.prog X.w X.K X.mg X.base k C ns ok kw) (hr : Room (k + 1) X.A) (hq : X.A.guards = some []) (I1 : Inv X pins σ H1 s1) (rv : Vals vs ws) (hl : vs.length = ns.length)
    (hok : ∀ a, H1 a = none → ok (upd H1 a (exo a C none)) vs) (hul : us.length ≤ ns.length) (q : ∀ d, H1 d = none → Q (.ref C) (some d) (upd H1 d (.xd ((ns.zip vs).reverse))))
    (hb : ∀ (fI : Addr) (fd : FuncData), PySem.W.findIn X.K (.ref C) "__init__" = some (some (.ref fI)) → Binds X.K fd (selfs ns) [] → (∀ ks ∈ kw, ks.length = ns.length ∧ ∀ (s : Shared) (x : Value) (us ws : List Value), X.K.In s.heap → us.length = ns.length →
      ns.mapM (fun n => (ks.zip us).lookup n) = some ws → BindsTo s fd ⟨[x], ks.zip us⟩ ((selfs ns).zip (x :: ws))) → ∀ (s : Shared) (x : Value), X.K.In s.heap → BindsTo s fd ⟨x :: us, kws⟩ ((selfs ns).zip (x :: ws))) :
    wpAny (model X.prog X.w) X.A (call (.ref C) us kws) (MkP X pins σ Q) E s1 := by
  obtain ⟨tl, N, newId, I, initId, T⟩ := M.cls
  obtain ⟨nm, qn, S, bs, bm, sn, sub, ab, col, dd, k0, k1, k2, k3, k5, hC, hbm⟩ := T.cls
  obtain ⟨fI, fd, iC, tI, F1, b1, b2⟩ := M.ex
  obtain ⟨hp, g, dr, tk, os⟩ := s1
  have hsz : hp.objs.size ≤ hp.objs.size + 1 := Nat.le_succ _
  have hn : H1 (hp.objs.size + 1) = none := I1.hok.fresh hsz
  have kk : ∀ b o, hp.get? b = some o → ((hp.push (PySem.W.kdv_tup us)).push (PySem.HandSPX.excO C hp.objs.size)).get? b = some o := fun b o e => Heap.get?_push_of_some _ (Heap.get?_push_of_some _ e)
  have hget : ((hp.push (PySem.W.kdv_tup us)).push (PySem.HandSPX.excO C hp.objs.size)).get? (hp.objs.size + 1) = some (PySem.HandSPX.excO C hp.objs.size) := by heap_get
  have I2 := I1.laid (t' := tk) (a := hp.objs.size + 1) (o := exo (hp.objs.size + 1) C none) (h' := (hp.push (PySem.W.kdv_tup us)).push (PySem.HandSPX.excO C hp.objs.size)) kk hsz (exo_ok hget)
  have hus : us.length ≤ sizeLine := by
    have := M.few
    have := sizeLine_eq
    omega
  refine wpAny_call (call_err T.xb hbm (I1.kIn _ _ hC) (PySem.W.looks_findIn I1.kIn iC) (fun x => PySem.W.bind_fn I1.kIn x tI) hus (codeAny_mono (F1.run _ X.stack _ (upd H1 (hp.objs.size + 1) (exo (hp.objs.size + 1) C none)) ⟨Value.ref (hp.objs.size + 1) :: us, kws⟩ (Value.ref (hp.objs.size + 1) :: ws) (V.ref (hp.objs.size + 1) :: vs)
    (fun v H2 => v = .non ∧ ∃ d, H1 d = none ∧ d ≠ hp.objs.size + 1 ∧ H2 = upd (upd (upd H1 (hp.objs.size + 1) (exo (hp.objs.size + 1) C none)) d (exd d ((ns.zip vs).reverse))) (hp.objs.size + 1) (exo (hp.objs.size + 1) C (some d))) (fun _ _ _ => False)
    (hr.make C us kws) (guards_make hq) (I2.env0.make C us kws) (hb fI fd iC b1 b2 _ _ I2.kIn) (.cons rfl rv) ?_) fun r s' z => ?_))
  · refine ⟨_, vs, rfl, hl, hok _ hn, upd_same, fun d hd hne => ⟨rfl, d, ?_, hne, rfl⟩⟩
    rw [upd_ne hne] at hd
    exact hd
  · cases r with
    | error er =>
      obtain ⟨_, _, _, _, _, _, _, _, _, _, _, _, f⟩ := z
      exact f.elim
    | ok fl =>
      cases fl with
      | ret u =>
        obtain ⟨v, H2, os2, bare2, un2, hok2, rr, ev, d, hd1, hne, rfl⟩ := z
        subst ev
        obtain ⟨h2, g2, d2, t2, os'⟩ := s'
        refine ⟨rr, mk_end (raises_own T.exC T.tyC) I1 hsz kk un2 hok2 os2 bare2 upd_same (by rw [upd_ne hne, upd_same]) hd1 ?_⟩
        rw [left_of hn hne]
        exact q d hd1
      | next => exact z.elim
      | brk => exact z.elim
      | cont => exact z.elim
end
/-- what an error leaves: its fields -/
def tMkX (C : Addr) (ns : List Str) (ok : Hp → List V → Prop) (ta : TA) : L2.St → Hp → XK → Prop := fun σ H Q => ta σ H fun vs H1 => vs.length = ns.length ∧ (∀ a, H1 a = none → ok (upd H1 a (exo a C none)) vs) ∧ ∀ d, H1 d = none → Q (.ref C) (some d) (upd H1 d (.xd ((ns.zip vs).reverse)))
section
variable {X : Cx} {k : Nat} {C : Addr} {ns : List Str} {ok : Hp → List V → Prop} {kw : List (List Str)} {x : Str} {e : Expr} {es : List Expr} {p pos : Pos} {ta : TA}
theorem pmk_x (M : MkX X.prog X.w X.K X.mg X.base k C ns ok kw) (hr : Room (k + 1) X.A) (hq : X.A.guards = some []) (hg : Gl X x) (hm : X.mg x = some (.ref C)) (ha : PA X (e :: es) ta)
    (hdb : (x == ("__debug__" : Str)) = false) (he : starEach (e :: es) X.env = (false, eval e X.env) :: starEach es X.env) (hpl : (backTo pos (starEach es X.env)).any (·.1) = false) :
    PMk X (.Call (.Name x p) (e :: es) [] pos) (tMkX C ns ok ta) := by
  intro pins s σ H Q I h
  obtain ⟨tl, N, newId, I', initId, T⟩ := id M.cls
  refine wpAny_Call_Name_kw (ld_glob I hg hm (PySem.W.callWith_K (h₀ := X.base) I.ok.mod.kin T.kC (thn (ha.run pos pins s σ H _ I h) fun us s1 z => ?_) he hpl) hdb)
  obtain ⟨vs, H1, I1, r1, hl, hok, q⟩ := z
  refine ⟨I1.kIn, ?_⟩
  show wpAny _ _ (call (.ref C) us) _ _ _
  refine run_mkx M hr hq I1 r1 hl hok (by rw [← r1.length, hl]; exact Nat.le_refl _) q fun fI fd _ b _ s x KX => ?_
  have z := b s (x :: us) KX (by rw [List.append_nil, List.length_cons, List.length_cons, ← r1.length, hl])
  rw [List.append_nil] at z
  exact z
theorem mapM_rel {ks : List Str} {vs : List V} {us : List Value} (r : Vals vs us) (hl : ks.length = vs.length) : ∀ {ms : List Str} {zs : List V}, ms.mapM (fun n => (ks.zip vs).lookup n) = some zs → ∃ ws, ms.mapM (fun n => (ks.zip us).lookup n) = some ws ∧ Vals zs ws := by
  have one : ∀ {ks : List Str} {vs : List V} {us : List Value}, Vals vs us → ∀ {n : Str} {z : V}, (ks.zip vs).lookup n = some z → ∃ w, (ks.zip us).lookup n = some w ∧ RelV z w := by
    intro ks
    induction ks with
    | nil => intro vs us r n z h; cases h
    | cons m ks ih =>
      intro vs us r n z h
      cases r with
      | nil => cases h
      | cons r1 r2 =>
        rw [List.zip_cons_cons, List.lookup_cons] at h
        rw [List.zip_cons_cons, List.lookup_cons]
        cases q : n == m with
        | true => rw [q] at h; cases h; exact ⟨_, rfl, r1⟩
        | false => rw [q] at h; exact ih r2 h
  intro ms
  induction ms with
  | nil => intro zs h; cases h; exact ⟨[], rfl, .nil⟩
  | cons m ms ih =>
    intro zs h
    rw [List.mapM_cons] at h
    cases h1 : (ks.zip vs).lookup m with
    | none => rw [h1] at h; cases h
    | some z =>
      rw [h1] at h
      cases h2 : ms.mapM (fun n => (ks.zip vs).lookup n) with
      | none => rw [h2] at h; cases h
      | some zr =>
        rw [h2] at h
        cases h
        obtain ⟨w, w1, w2⟩ := one r h1
        obtain ⟨wr, v1, v2⟩ := ih h2
        exact ⟨w :: wr, by rw [List.mapM_cons, w1, v1] <;> rfl, .cons w2 v2⟩
/-- .. its parameters told by names -/
theorem pmk_xK {kws : List Keyword} {ks : List Str} (M : MkX X.prog X.w X.K X.mg X.base k C ns ok kw) (hr : Room (k + 1) X.A) (hq : X.A.guards = some []) (hg : Gl X x) (hm : X.mg x = some (.ref C)) (ha : PK X kws ta) (hks : kws.map (·.arg) = ks.map some) (hin : ks ∈ kw)
    (hdb : (x == ("__debug__" : Str)) = false) :
    PMk X (.Call (.Name x p) [] kws pos) (fun σ H Q => ta σ H fun zs H1 => zs.length = ns.length ∧ ∃ vs, ns.mapM (fun n => (ks.zip zs).lookup n) = some vs ∧ vs.length = ns.length ∧ (∀ a, H1 a = none → ok (upd H1 a (exo a C none)) vs) ∧ ∀ d, H1 d = none → Q (.ref C) (some d) (upd H1 d (.xd ((ns.zip vs).reverse)))) := by
  intro pins s σ H Q I h
  obtain ⟨tl, N, newId, I', initId, T⟩ := id M.cls
  obtain ⟨k1, k2, k3⟩ := kw_each (env := X.env) (pos := pos) hks
  refine wpAny_Call_Name_kw (ld_glob I hg hm (PySem.W.callWith_KW0 (h₀ := X.base) I.ok.mod.kin T.kC k1 (thn (ha.run pos pins s σ H _ I h) fun us s1 z => ?_) (by rw [k3]; rfl)) hdb)
  obtain ⟨zs, H1, I1, r1, hzl, vs, hvs, hl, hok, q⟩ := z
  obtain ⟨_, _, _, _, _, _, b0⟩ := M.ex
  have hkl := (b0 ks hin).1
  obtain ⟨ws, hws, rw'⟩ := mapM_rel r1 (hkl.trans hzl.symm) hvs
  refine ⟨I1.kIn, ?_⟩
  rw [k2]
  exact run_mkx (us := []) M hr hq I1 rw' hl hok (Nat.zero_le _) q fun fI fd _ _ b s x KX => (b ks hin).2 s x us ws KX (by rw [← r1.length, hzl]) hws
end
/-- an error that is made is a value: nobody changes it -/
theorem pe_made {X : Cx} {e : Expr} {t : L2.St → Hp → XK → Prop} (h : PMk X e t) : PE X e (fun σ H Q => t σ H fun cls d H' => ∀ (a : Addr) (o : Obj) (ws : Array Value), H' a = none → o.cls = cls → o.dict = d → o.data = .fields ws → Q (.ref a) (upd H' a (.frz o (.ext fun h => h.get? a = some o)))) := by
  refine ⟨fun pins s σ H Q I q => wpAny_mono (h pins s σ H _ I q) (fun u s' z => ?_) fun _ _ y => y⟩
  obtain ⟨a, oe, vs, sI, H', cls, d, rfl, J, kp, hne, ha, hz, hd, h1, na, os, ag, r, q⟩ := z
  have hq := q a oe vs na hz.1 hz.2 hd
  have ok1 : ObjOk X.prog X.w (upd H' a (.frz oe (.ext fun h => h.get? a = some oe))) s'.heap a (.frz oe (.ext fun h => h.get? a = some oe)) := ⟨ha, ha, ⟨oe, ha⟩, fun h1 h2 z k => k _ z⟩
  have J2 := J.laidN (t' := s'.toks) kp hne na ok1
  refine ⟨.ref a, _, ?_, rfl, hq⟩
  exact J2.call' (ch := []) (s' := s') os ⟨fun b o e _ _ _ => e, fun b o e _ _ _ => ⟨o.slots, e⟩, fun b o _ n _ => n, fun b o e _ => ⟨o, e⟩, fun _ _ z => z, fun _ _ _ z => z, fun b ps z => ⟨#[], by rw [z]; simp⟩⟩ J2.hok ag (fun _ z => nomatch z)
end Ev
set_option Elab.async false
set_option linter.all false
set_option maxRecDepth 100000
set_option maxHeartbeats 4000000
namespace Ev
open PySem PySem.W PySem.Calls PyProof.Rows PySem.HandSPX L2 PySem.OEX
/-- the dict of an error is known from now on -/
theorem inv_frzX {X : Cx} {pins : List (Addr × Obj)} {σ : L2.St} {H : Hp} {s : Shared} {p : Addr} {fs : List (Str × V)} (I : Inv X pins σ H s) (h : H p = some (.xd fs)) :
    ∃ o, Inv X pins σ (upd H p (.frz o (.xd fs))) s := by
  have ok := (show ObjOk X.prog X.w H s.heap p (.xd fs) from I.hok p _ h)
  obtain ⟨mA, hn, r⟩ := ok
  obtain ⟨o, _, _, e, _⟩ := id hn
  refine ⟨_, Inv.un (t' := s.toks) (h' := s.heap) (H' := upd H p (.frz o (.xd fs))) I ⟨fun b o q _ _ _ => q, fun b o q _ _ _ => ⟨o.slots, q⟩, fun b o q nn _ => ?_, fun b o q _ => ⟨o, q⟩, fun b xs q => ?_, fun b o u q => ?_, fun b ps q => ?_⟩ fun b u q => ?_⟩
  · rw [upd_ne (fun zz => by subst zz; rw [h] at nn; cases nn)]; exact nn
  · rw [upd_ne (fun zz => by subst zz; rw [h] at q; cases q)]; exact q
  · rw [upd_ne (fun zz => by subst zz; rw [h] at q; cases q)]; exact q
  · refine ⟨#[], ?_⟩
    rw [upd_ne (fun zz => by subst zz; rw [h] at q; cases q), q]; simp
  · by_cases zz : b = p
    · subst zz
      rw [upd_same] at q
      cases q
      exact ⟨e, mA, hn, r⟩
    · rw [upd_ne zz] at q
      refine (I.hok b u q).stay (fun c w _ hc => hc) (fun c hc => ?_) fun c xs hc => ?_
      · rw [upd_ne (fun y => by subst y; rw [h] at hc; cases hc)]; exact hc
      · rw [upd_ne (fun y => by subst y; rw [h] at hc; cases hc)]; exact hc
/-- an error is made: its dict is known from now on -/
theorem pmk_frz {X : Cx} {e : Expr} {t : L2.St → Hp → XK → Prop} (h : PMk X e t) : PMk X e (fun σ H Q => t σ H fun cls d H' => (d = none ∧ Q cls d H') ∨ ∃ (dx : Addr) (fs : List (Str × V)), d = some dx ∧ H' dx = some (.xd fs) ∧ ∀ o, Q cls d (upd H' dx (.frz o (.xd fs)))) := by
  intro pins s σ H Q I q
  refine wpAny_mono (h pins s σ H _ I q) (fun u s' hh => ?_) fun _ _ x => x
  obtain ⟨a, oe, vs, sI, H', cls, d, rfl, J, k, hne, ha, hz, hd, h1, na, os, ag, r, q⟩ := hh
  rcases q with ⟨_, q⟩ | ⟨dx, fs, rfl, hx, q⟩
  · exact ⟨a, oe, vs, sI, H', cls, d, rfl, J, k, hne, ha, hz, hd, h1, na, os, ag, r, q⟩
  · obtain ⟨o, J2⟩ := inv_frzX J hx
    refine ⟨a, oe, vs, sI, _, cls, some dx, rfl, J2, k, hne, ha, hz, hd, h1, ?_, os, ag, r, q o⟩
    rw [upd_ne (fun z => by subst z; rw [hx] at na; cases na)]
    exact na
theorem upd_two {H : Hp} {a : Addr} {x y : HO} : upd (upd H a x) a y = upd H a y := by
  funext b
  by_cases h : b = a
  · subst h
    rw [upd_same, upd_same]
  · rw [upd_ne h, upd_ne h, upd_ne h]
/-- what is wanted of the fields of an error that is made -/
def tMkD (C : Addr) (ns : List Str) (ok : Hp → List V → Prop) (vs : List V) (H1 : Hp) (Q : XK) : Prop :=
  vs.length = ns.length ∧ (∀ a, H1 a = none → ok (upd H1 a (exo a C none)) vs) ∧ ∀ d o, H1 d = none → Q (.ref C) (some d) (upd H1 d (.frz o (.xd ((ns.zip vs).reverse))))
section
variable {X : Cx} {k : Nat} {C : Addr} {ns : List Str} {ok : Hp → List V → Prop} {kw : List (List Str)} {x : Str} {e : Expr} {es : List Expr} {p pos : Pos} {ta : TA}
theorem pmk_imp {t t' : L2.St → Hp → XK → Prop} (h : PMk X e t) (i : ∀ σ H Q, t' σ H Q → t σ H Q) : PMk X e t' := fun pins s σ H Q I q => h pins s σ H Q I (i σ H Q q)
theorem pmk_xF (mono : ∀ σ H (R R' : List V → Hp → Prop), (∀ vs H1, R vs H1 → R' vs H1) → ta σ H R → ta σ H R') (M : MkX X.prog X.w X.K X.mg X.base k C ns ok kw) (hr : Room (k + 1) X.A) (hq : X.A.guards = some []) (hg : Gl X x) (hm : X.mg x = some (.ref C)) (ha : PA X (e :: es) ta)
    (hdb : (x == ("__debug__" : Str)) = false) (he : starEach (e :: es) X.env = (false, eval e X.env) :: starEach es X.env) (hpl : (backTo pos (starEach es X.env)).any (·.1) = false) :
    PMk X (.Call (.Name x p) (e :: es) [] pos) (fun σ H Q => ta σ H fun vs H1 => tMkD C ns ok vs H1 Q) := by
  refine pmk_imp (pmk_frz (pmk_x (p := p) M hr hq hg hm ha hdb he hpl)) fun σ H Q q => mono σ H _ _ (fun vs H1 z => ?_) q
  obtain ⟨z1, z2, z3⟩ := z
  refine ⟨z1, z2, fun d hd => Or.inr ⟨d, _, rfl, upd_same, fun o => ?_⟩⟩
  rw [upd_two]
  exact z3 d o hd
theorem pmk_xKF {kws : List Keyword} {ks : List Str} (mono : ∀ σ H (R R' : List V → Hp → Prop), (∀ vs H1, R vs H1 → R' vs H1) → ta σ H R → ta σ H R') (M : MkX X.prog X.w X.K X.mg X.base k C ns ok kw) (hr : Room (k + 1) X.A) (hq : X.A.guards = some []) (hg : Gl X x) (hm : X.mg x = some (.ref C)) (ha : PK X kws ta) (hks : kws.map (·.arg) = ks.map some) (hin : ks ∈ kw)
    (hdb : (x == ("__debug__" : Str)) = false) :
    PMk X (.Call (.Name x p) [] kws pos) (fun σ H Q => ta σ H fun zs H1 => zs.length = ns.length ∧ ∃ vs, ns.mapM (fun n => (ks.zip zs).lookup n) = some vs ∧ tMkD C ns ok vs H1 Q) := by
  refine pmk_imp (pmk_frz (pmk_xK (p := p) (pos := pos) M hr hq hg hm ha hks hin hdb)) fun σ H Q q => mono σ H _ _ (fun zs H1 z => ?_) q
  obtain ⟨z0, vs, hv, z1, z2, z3⟩ := z
  refine ⟨z0, vs, hv, z1, z2, fun d hd => Or.inr ⟨d, _, rfl, upd_same, fun o => ?_⟩⟩
  rw [upd_two]
  exact z3 d o hd
end
end Ev
set_option Elab.async false
set_option linter.all false
set_option maxRecDepth 100000
namespace Ev
open PySem PySem.Spec PyProof.Rows L2

def noStar : Expr → Bool
  | .Starred .. => false
  | _ => true
def noSet : Expr → Bool
  | .Set .. => false
  | _ => true
def plainIx : Expr → Bool
  | .Name .. => true
  | .Constant .. => true
  | .BinOp .. => true
  | .Call .. => true
  | .UnaryOp .. => true
  | .Subscript .. => true
  | _ => false
def plainT : Expr → Bool
  | .Name .. => true
  | .Call .. => true
  | .Subscript .. => true
  | .Attribute .. => true
  | _ => false
/-- whose field may be read -/
def plainA : Expr → Bool
  | .Name .. => true
  | .Call _ (_ :: _) _ _ => true
  | .Call _ [] (_ :: _) _ => true
  | .Subscript .. => true
  | _ => false
/-- whose attribute is looked up as it stands -/
def plainO : Expr → Bool
  | .Name .. => true
  | .Constant .. => true
  | .Subscript .. => true
  | _ => false
def vis (sc : Scope) (x : Str) : Bool := match sc.names.lookup x with
  | some .local => true
  | some .cell => true
  | some .free => true
  | _ => false
def glo (sc : Scope) (x : Str) : Bool := match sc.names.lookup x with
  | some .globalImplicit => true
  | _ => false
def isCst : Dat → Const → Bool
  | .non, .none => true
  | .bl b, .bool c => b == c
  | .int i, .int j => i == j
  | .str x, .str y => x == y
  | _, _ => false
def notOdd (x : Str) : Bool := !(x == ("__debug__" : Str)) && !(x == ("__classdict__" : Str))

/-- what may stand as a test -/
def tst : IE → Bool
  | .not a => tst a
  | .and a b => tst a && tst b
  | .or a b => tst a && tst b
  | .cmp .. => true
  | .cmp2 .. => true
  | .isi .. => true
  | .call .. => true
  | .bi .. => true
  | .var _ => true
  | .glb _ => true
  | .idx .. => true
  | .isN .. => true
  | .isE .. => true
  | .callK .. => true
  | .pr .. => true
  | _ => false
def isS : IE → Str → Bool
  | .cst (.str w), z => w == z
  | _, _ => false
theorem isS_of {e : IE} {z : Str} (h : isS e z = true) : e = .cst (.str z) := by
  unfold isS at h
  split at h
  · rw [eq_of_beq h]
  · cases h
def nameOf : Expr → Option Str
  | .Name x _ => some x
  | _ => none
def locC (scope : Scope) (x : Str) : Bool := match scope.names.lookup x with
  | some .local => true
  | some .cell => true
  | _ => false
/-- the names of a tuple target, each with its slot -/
def tgsC (scope : Scope) (own : List (Str × Nat)) : List Nat → List Expr → Bool
  | [], [] => true
  | i :: is, .Name x _ :: r => decide ((x, i) ∈ own) && locC scope x && tgsC scope own is r
  | _, _ => false
/-- what a piece is asked of -/
def argP (sc : Scope) (p : P1) (e : Expr) : Option Expr :=
  match p, e with
  | .fld f, .Attribute x g _ => if decide (f = g) && plainA x then some x else none
  | .isC cs, .Call (.Name g _) [x, .Name c _] [] _ => if decide (g = "isinstance") && glo sc "isinstance" && noStar x && decide (cs = [c]) && glo sc c && notOdd c then some x else none
  | .isC cs, .Call (.Name g _) [x, .Tuple l _ _] [] _ => if decide (g = "isinstance") && glo sc "isinstance" && noStar x && decide (l.map nameOf = cs.map some) && decide (cs.length ≤ 50) && cs.all (fun c => glo sc c && notOdd c) then some x else none
  | _, _ => none
mutual
def chk (N : List Str) (hot : Bool) : Scope → IE → Expr → Bool
  | sc, .var i, e => (match e with
    | .Name x _ => decide (N[i]? = some x) && vis sc x && notOdd x
    | _ => false)
  | sc, .cst d, e => (match e with
    | .Constant c _ _ => isCst d c
    | _ => false)
  | sc, .glb x, e => (match e with
    | .Name y _ => decide (x = y) && glo sc x && notOdd x
    | _ => false)
  | sc, .tup es, e => (match e with
    | .Tuple l _ _ => chks N hot sc es l
    | _ => false)
  | sc, .lst es, e => (match e with
    | .List l _ => chks N hot sc es l
    | _ => false)
  | sc, .dic0, e => (match e with
    | .Dict [] [] _ => true
    | _ => false)
  | sc, .dic1 k v, e => (match e with
    | .Dict [some x] [y] _ => chk N hot sc k x && chk N hot sc v y
    | _ => false)
  | sc, .bin op a b, e => (match e with
    | .BinOp x o y _ => decide (op = o) && chk N hot sc a x && chk N hot sc b y
    | _ => false)
  | sc, .neg a, e => (match e with
    | .UnaryOp .USub x _ => chk N hot sc a x
    | _ => false)
  | sc, .not a, e => (match e with
    | .UnaryOp .Not x _ => chk N hot sc a x
    | _ => false)
  | sc, .and a b, e => (match e with
    | .BoolOp .And [x, y] _ => chk N hot sc a x && chk N hot sc b y
    | .BoolOp .And (x :: y :: z :: r) p => chk N hot sc a x && chk N hot sc b (.BoolOp .And (y :: z :: r) p)
    | _ => false)
  | sc, .or a b, e => (match e with
    | .BoolOp .Or [x, y] _ => chk N hot sc a x && chk N hot sc b y
    | .BoolOp .Or (x :: y :: z :: r) p => chk N hot sc a x && chk N hot sc b (.BoolOp .Or (y :: z :: r) p)
    | _ => false)
  | sc, .cmp op a b, e => (match e with
    | .Compare x [o] [y] _ => decide (op = o) && noSet y && chk N hot sc a x && chk N hot sc b y
    | _ => false)
  | sc, .cmp2 op oq a b c, e => (match e with
    | .Compare x [o, p] [y, z] _ => decide (op = o) && decide (oq = p) && noSet z && chk N hot sc a x && chk N hot sc b y && chk N hot sc c z
    | _ => false)
  | sc, .ite c a b, e => (match e with
    | .IfExp z x y _ => tst c && chk N hot sc c z && chk N hot sc a x && chk N hot sc b y
    | _ => false)
  | sc, .idx a b, e => (match e with
    | .Subscript x y _ => plainIx y && chk N hot sc a x && chk N hot sc b y
    | _ => false)
  | sc, .slcL a b, e => (match e with
    | .Subscript x (.Slice (some y) none none _) _ => chk N hot sc a x && chk N hot sc b y
    | _ => false)
  | sc, .slcR a b, e => (match e with
    | .Subscript x (.Slice none (some y) none _) _ => chk N hot sc a x && chk N hot sc b y
    | _ => false)
  | sc, .call f as, e => (match e with
    | .Call (.Name g _) (x :: l) [] _ => !hot && decide (f = g) && glo sc f && notOdd f && chks N hot sc as (x :: l)
    | _ => false)
  | sc, .bi b as, e => (match e with
    | .Call (.Name g _) (x :: l) [] _ => !(hot && b.cold) && decide (b.name = g) && glo sc b.name && chks N hot sc as (x :: l)
    | _ => false)
  | sc, .isi a ty, e => (match e with
    | .Call (.Name g _) [x, .Name t _] [] _ => decide (g = "isinstance") && glo sc "isinstance" && decide (t = Str.ofString ty) && glo sc t && noStar x && chk N hot sc a x
    | _ => false)
  | sc, .join o a, e => (match e with
    | .Call (.Attribute x n ap) [y] [] cp => decide (n = "join") && plainO x && (ap.endLine == cp.line) && noStar y && chk N hot sc o x && chk N hot sc a y
    | _ => false)
  | sc, .upper o, e => (match e with
    | .Call (.Attribute x n ap) [] [] cp => decide (n = "upper") && plainO x && (ap.endLine == cp.line) && chk N hot sc o x
    | _ => false)
  | sc, .lc elt tg it own, e => (match e with
    | .ListComp y [⟨.Name x _, i, [], 0⟩] scope _ => !hot && noSet i && blkC N sc scope own && decide ((x, tg) ∈ own) && own.all (fun p => decide (p.2 < N.length)) && (match scope.names.lookup x with | some .local => true | some .cell => true | _ => false) && chk N hot sc it i && chk N hot (relS scope sc) elt y
    | _ => false)
  | sc, .lcI elt tg it cond own, e => (match e with
    | .ListComp y [⟨.Name x _, i, [c], 0⟩] scope _ => !hot && tst cond && noSet i && blkC N sc scope own && decide ((x, tg) ∈ own) && own.all (fun p => decide (p.2 < N.length)) && (match scope.names.lookup x with | some .local => true | some .cell => true | _ => false) && chk N hot sc it i && chk N hot (relS scope sc) elt y && chk N hot (relS scope sc) cond c
    | _ => false)
  | sc, .lcR elt tg a own, e => (match e with
    | .ListComp y [⟨.Name x _, .Call (.Name r _) [i] [] _, [], 0⟩] scope _ => !hot && decide (r = "range") && glo sc "range" && noStar i && blkC N sc scope own && decide ((x, tg) ∈ own) && own.all (fun p => decide (p.2 < N.length)) && (match scope.names.lookup x with | some .local => true | some .cell => true | _ => false) && chk N hot sc a i && chk N hot (relS scope sc) elt y
    | _ => false)
  | sc, .split o a, e => (match e with
    | .Call (.Attribute x n ap) [y] [] cp => decide (n = "split") && plainO x && (ap.endLine == cp.line) && noStar y && chk N hot sc o x && chk N hot sc a y
    | _ => false)
  | sc, .fst es, e => (match e with
    | .JoinedStr (v1 :: v2 :: rest) _ => chkF N hot sc es (v1 :: v2 :: rest)
    | _ => false)
  | sc, .isN b a, e => (match e with
    | .Compare x [.Is] [.Constant .none _ _] _ => b && chk N hot sc a x
    | .Compare x [.IsNot] [.Constant .none _ _] _ => !b && chk N hot sc a x
    | _ => false)
  | sc, .isE i cs, e => (match e with
    | .Call (.Name g _) [.Name x _, .Name c _] [] _ => decide (g = "isinstance") && glo sc "isinstance" && decide (N[i]? = some x) && vis sc x && notOdd x && decide (cs = [c]) && glo sc c && notOdd c
    | _ => false)
  | sc, .fldE i f, e => (match e with
    | .Attribute (.Name x _) g _ => decide (f = g) && decide (N[i]? = some x) && vis sc x && notOdd x
    | _ => false)
  | sc, .callK f ks as, e => (match e with
    | .Call (.Name g _) [] kws _ => !hot && decide (f = g) && glo sc f && notOdd f && decide (kws.map (·.arg) = ks.map some) && chks N hot sc as (kws.map (·.value))
    | _ => false)
  | sc, .mk c as, e => (match e with
    | .Call (.Name g _) (x :: l) [] _ => !hot && decide (c = g) && glo sc c && notOdd c && chks N hot sc as (x :: l)
    | _ => false)
  | sc, .mkK c ks as, e => (match e with
    | .Call (.Name g _) [] kws _ => !hot && decide (c = g) && glo sc c && notOdd c && decide (kws.map (·.arg) = ks.map some) && chks N hot sc as (kws.map (·.value))
    | _ => false)
  | sc, .pr p a, e => (match argP sc p e with
    | some x => chk N hot sc a x
    | none => false)
  | sc, .lcT elt tgs it own, e => (match e with
    | .ListComp y [⟨.Tuple l _ _, i, [], 0⟩] scope _ => !hot && noSet i && blkC N sc scope own && tgsC scope own tgs l && own.all (fun p => decide (p.2 < N.length)) && chk N hot sc it i && chk N hot (relS scope sc) elt y
    | _ => false)
def chkF (N : List Str) (hot : Bool) : Scope → IEs → List Expr → Bool
  | _, .nil, l => (match l with
    | [] => true
    | _ => false)
  | sc, .cons e es, l => (match l with
    | .FormattedValue x (-1) none _ :: r => chk N hot sc e x && chkF N hot sc es r
    | .Constant (.str z) _ _ :: r => isS e z && chkF N hot sc es r
    | _ => false)
def chks (N : List Str) (hot : Bool) : Scope → IEs → List Expr → Bool
  | _, .nil, l => (match l with
    | [] => true
    | _ => false)
  | sc, .cons e es, l => (match l with
    | x :: r => noStar x && chk N hot sc e x && chks N hot sc es r
    | _ => false)
end

/-! ### what such looks are worth -/
theorem star_cons {e : Expr} {es : List Expr} {env : PySem.Env} (h : noStar e = true) : starEach (e :: es) env = (false, eval e env) :: starEach es env := by
  cases e <;> first | rfl | cases h
theorem star_none {es : List Expr} {env : PySem.Env} {pos : Pos} (h : ∀ e ∈ es, noStar e = true) : (backTo pos (starEach es env)).any (·.1) = false := by
  induction es with
  | nil => rfl
  | cons e r ih =>
    rw [star_cons (h e List.mem_cons_self)]
    exact ih fun x hx => h x (List.mem_cons_of_mem _ hx)
theorem chks_star {N : List Str} {hot : Bool} {sc : Scope} : ∀ {es : IEs} {l : List Expr}, chks N hot sc es l = true → ∀ e ∈ l, noStar e = true
  | .nil, [], _, e, h => nomatch h
  | .cons a r, x :: l, h, e, he => by
    have h1 := Bool.and_eq_true_iff.mp (show (noStar x && chk N hot sc a x && chks N hot sc r l) = true from h)
    have h2 := Bool.and_eq_true_iff.mp h1.1
    rcases List.mem_cons.mp he with rfl | he
    · exact h2.1
    · exact chks_star h1.2 e he
theorem noSet_marks {op : CmpOp} {e : Expr} (h : noSet e = true) : behindInMarks op e = false := by
  cases e <;> first | rfl | cases h
theorem noSet_marks2 {o p : CmpOp} {a e : Expr} (h : noSet e = true) : lastMarks [o, p] [a, e] = false := by
  show behindInMarks p e = false
  exact noSet_marks h
theorem noSet_fold {e : Expr} {env : PySem.Env} (h : noSet e = true) : ∀ x, foldedSetIterable e env x = pure x := by
  intro x
  cases e <;> first | rfl | cases h
theorem plain_ix {e : Expr} (h : plainIx e = true) : PlainIx e := by
  cases e <;> first | exact fun _ _ => rfl | cases h
theorem plain_t {e : Expr} {env : PySem.Env} (h : plainT e = true) : ∀ whole, isTrue e env whole = (do let v ← whole; standAt e.pos; holding [v] (truthy v)) := by
  intro whole
  cases e <;> first | rfl | cases h
theorem plain_o {e : Expr} {n : Str} {env : PySem.Env} (h : plainO e = true) : attributeBase e n env (eval e env) = eval e env := by
  cases e <;> first | rfl | cases h
theorem plain_a {e : Expr} {n : Str} {env : PySem.Env} (h : plainA e = true) : attributeBase e n env (eval e env) = eval e env := by
  cases e with
  | Call f as ks p =>
    cases as with
    | cons a r => cases f <;> rfl
    | nil =>
      cases ks with
      | cons a r => cases f <;> rfl
      | nil => cases h
  | _ => first | rfl | cases h
theorem vis_of {sc : Scope} {x : Str} (h : vis sc x = true) : Vis sc x := by
  unfold vis at h
  unfold Vis
  split at h
  · exact .inl (by assumption)
  · exact .inr (.inl (by assumption))
  · exact .inr (.inr (by assumption))
  · cases h
theorem glo_of {X : Cx} {x : Str} (h : glo X.env.scope x = true) : Gl X x := by
  unfold glo at h
  split at h
  · assumption
  · cases h
theorem odd1 {x : Str} (h : notOdd x = true) : (x == ("__debug__" : Str)) = false := by
  have := (Bool.and_eq_true_iff.mp h).1
  simpa using this
theorem odd2 {x : Str} (h : notOdd x = true) : (x == ("__classdict__" : Str)) = false := by
  have := (Bool.and_eq_true_iff.mp h).2
  simpa using this
theorem blk_scope (scope : Scope) (cl : List (Str × Addr)) (C : Addr) (env : PySem.Env) : (compEnvC scope cl C env).scope = relS scope env.scope := rfl
end Ev
set_option Elab.async false
set_option linter.all false
set_option maxRecDepth 100000
namespace Ev
open PySem PySem.Spec PyProof.Rows L2
variable {ea : Option EA}

/-- a def's frame runs -/
structure Frm (X : Cx) (L : Addr) : Prop where
  ex : ∃ e0 o0, X.stack = e0 :: o0 ∧ e0.frame = some L
  fr : X.env.frame = some L
/-- what an own class of exceptions must say -/
structure ExcF (K : PySem.W.Frag) (C : Addr) : Prop where
  hcl : (PySem.W.clsIn K C).isSome = true
  hga : PySem.W.findIn K (.ref C) "__getattribute__" = some (some (.builtin "BaseException.__getattribute__"))
  hgt : PySem.W.findIn K (.ref C) "__getattr__" = some none
  hsub : PySem.W.subIn K (.ref C) (.type "BaseException") = some true
  ha : PySem.W.findIn K (.ref C) "__class__" = some (some (.builtin "object.__class__"))
  hn : PySem.W.specialIn K (.builtin "object.__class__") "__get__" = some (some (.builtin "getset_descriptor.__get__"))
  htk : PySem.W.takesIn K (.builtin "object.__class__") = some true
  hm : PySem.W.mroIn K C (.type "object") = some true
  hd : PySem.W.hasDictIn K C = true
/-- what may be raised by its class's own call -/
structure RaiseF (K : PySem.W.Frag) (C : Addr) : Prop where
  ex : ∃ (B newId initId : String) (bm : List Value), ExcBaseFacts B newId initId bm ∧ PySem.W.excIn K C bm newId = true
  kp : PySem.W.keepIn K (.ref C) = true
  sb : PySem.W.subIn K (.ref C) (.type "BaseException") = some true
  ty : PySem.W.typeIn K (.ref C) = some (.type "type")
/-- what a name that is no def's own stands for -/
def NameM (mg : Str → Option Value) (x : Str) (v : Value) : Prop := mg x = some v ∨ (mg x = none ∧ bootBuiltins x = some v ∧ x ≠ "__name__")
def KwB (K : PySem.W.Frag) (fd : FuncData) (ps : List Str) : Prop := ∀ (s : Shared) (us : List Value), K.In s.heap → us.length = ps.length → BindsTo s fd ⟨[], ps.zip us⟩ (ps.zip us)
/-- what the module's names stand for, below a level -/
structure ModF (T : Tab) (n : Nat) (P : Program) (w : World) (K : PySem.W.Frag) (mg : Str → Option Value) (base : Heap) : Prop where
  sys : HasSys base
  bt : ∀ b : BI, mg b.name = none
  isi : mg "isinstance" = none
  rng : mg "range" = none
  tys : ∀ ty : String, ty ∈ ["int", "bool", "str", "tuple", "list", "dict"] → mg (Str.ofString ty) = none
  con : ∀ x d, T.con x = some d → ∃ u v, mg x = some u ∧ RelV v u ∧ ∀ ea H, Is ⟨K, mg, ea⟩ H v d
  fns : ∀ f fi, T.fn f = some fi → ∃ a fd ps k, k ≤ n ∧ mg f = some (.ref a) ∧ PySem.W.keepIn K (.ref a) = true ∧ Binds K fd ps [] ∧ FnG P w K mg base k a fd ps (spD ⟨K, mg, none⟩ fi) ∧ (∀ qs, T.kw f = some qs → ps = qs ∧ KwB K fd ps)
  exf : ∀ c fs, T.exc c = some fs → ∃ C, mg c = some (.ref C) ∧ ExcF K C ∧ ∀ f ∈ fs, PySem.W.findIn K (.ref C) f = some none
  cls : ∀ d, T.cls d = true → ∃ v, NameM mg d v ∧ ((∃ D, v = .ref D) ∨ ∃ t, v = .type t)
  rse : ∀ c, T.exc c = some [] → ∃ C, mg c = some (.ref C) ∧ RaiseF K C
  rsf : ∀ c f fs, T.exc c = some (f :: fs) → ∃ (C : Addr) (k : Nat) (ok : Hp → List V → Prop) (kw : List (List Str)), k + 1 ≤ n ∧ mg c = some (.ref C) ∧ MkX P w K mg base k C (f :: fs) ok kw ∧ (∀ H vs ds, IsL ⟨K, mg, none⟩ H vs ds → ds.length = fs.length + 1 → T.takes c ds = true → ok H vs) ∧ ∀ ks, T.mkw c ks = true → ks ∈ kw
  sub : ∀ c d b, T.sub c d = some b → ∃ C v, mg c = some (.ref C) ∧ ExcF K C ∧ NameM mg d v ∧ ((∃ D, v = .ref D) ∨ ∃ t, v = .type t) ∧ PySem.W.kitOne K (.ref C) v = some b ∧ PySem.W.exmOne K (.ref C) v = some b
structure Good (T : Tab) (n : Nat) (hot : Bool) (ea : Option EA) (X : Cx) : Prop where
  mod : ModF T n X.prog X.w X.K X.mg X.base
  calm : hot = false → X.calm = true
  ea0 : hot = false → ea = none
  room : hot = false → Room n X.A
  nd : X.N.Nodup
  grd : X.A.guards = some []
  hu : X.A.units + 64 < cLine
  frm : ∃ L, Frm X L
  eaf : ∀ e, ea = some e → ∃ oe, (e.a, oe) ∈ X.pn ∧ Zc (.ref e.C) e.d oe ∧ ∃ vs, oe.data = .fields vs

def Shape : List Bool → Got → Prop
  | [], [] => True
  | true :: io, .slot _ :: g => Shape io g
  | true :: io, .tmp _ :: g => Shape io g
  | false :: io, .val _ :: g => Shape io g
  | _, _ => False
def tmpA : List V → Got → List Addr
  | .ref p :: vs, .tmp _ :: g => p :: tmpA vs g
  | _ :: vs, .tmp _ :: g => tmpA vs g
  | _ :: vs, .val _ :: g => tmpA vs g
  | _ :: vs, .slot _ :: g => tmpA vs g
  | _, _ => []
def gotR (K : KM) (B : Hp) (σ : L2.St) (ρ : DEnv) (H : Hp) : List V → Got → Prop
  | [], [] => True
  | v :: vs, .val d :: g => Is K H v d ∧ gotR K B σ ρ H vs g
  | v :: vs, .slot i :: g => σ[i]? = some (some v) ∧ gotR K B σ ρ H vs g
  | v :: vs, .tmp d :: g => (∃ p, v = .ref p ∧ Own K H p d ∧ B p = none ∧ (∀ (i : Nat) e, ρ[i]? = some (.own e) → σ[i]? ≠ some (some (.ref p))) ∧ p ∉ tmpA vs g) ∧ gotR K B σ ρ H vs g
  | _, _ => False
theorem gotR.weak {K : KM} {B B1 : Hp} {σ : L2.St} {ρ : DEnv} {H : Hp} (le : ∀ a, B1 a = none → B a = none) : ∀ {vs : List V} {g : Got}, gotR K B1 σ ρ H vs g → gotR K B σ ρ H vs g
  | [], [], _ => trivial
  | v :: vs, .val d :: g, h => ⟨h.1, gotR.weak le h.2⟩
  | v :: vs, .slot i :: g, h => ⟨h.1, gotR.weak le h.2⟩
  | v :: vs, .tmp d :: g, h => by
    obtain ⟨⟨p, e, o, b, n, t⟩, r⟩ := h
    exact ⟨⟨p, e, o, le p b, n, t⟩, gotR.weak le r⟩
theorem tmp_props {K : KM} {B : Hp} {σ : L2.St} {ρ : DEnv} {H : Hp} : ∀ {vs : List V} {g : Got} {p : Addr}, gotR K B σ ρ H vs g → p ∈ tmpA vs g → B p = none ∧ ∀ (i : Nat) e, ρ[i]? = some (.own e) → σ[i]? ≠ some (some (.ref p))
  | [], [], p, _, h => nomatch h
  | v :: vs, .val d :: g, p, r, h => tmp_props r.2 (by cases v <;> exact h)
  | v :: vs, .slot i :: g, p, r, h => tmp_props r.2 (by cases v <;> exact h)
  | v :: vs, .tmp d :: g, p, r, h => by
    obtain ⟨⟨q, rfl, o, b, n, t⟩, r⟩ := r
    rcases List.mem_cons.mp (show p ∈ q :: tmpA vs g from h) with z | z
    · subst z; exact ⟨b, n⟩
    · exact tmp_props r z
def tSG (K : KM) (ρ : DEnv) (g : Got) (ρ' : DEnv) : TA := fun σ H Q => ∃ B, REnv K B σ H ρ ∧ ∀ vs H', REnv K B σ H' ρ' → FrzLe H H' → gotR K B σ ρ' H' vs g → Q vs H'

theorem args_shape {T : Tab} : ∀ {io : List Bool} {es : IEs} {ρ ρ1 : DEnv} {g : Got}, evArgs T io es ρ = .ok (g, ρ1) → g.length = io.length → Shape io g
  | io, .nil, ρ, ρ1, g, h, hl => by
    simp only [evArgs] at h
    cases h
    cases io with
    | nil => trivial
    | cons _ _ => cases hl
  | true :: io, .cons e es, ρ, ρ1, g, h, hl => by
    simp only [evArgs] at h
    split at h
    · split at h
      · obtain ⟨⟨g', ρ2⟩, h1, h2⟩ := Res.bind_ok h
        cases h2
        exact (show Shape io g' from args_shape h1 (by simpa using hl))
      · cases h
    · obtain ⟨⟨d, m, ρ2⟩, h1, h2⟩ := Res.bind_ok h
      dsimp only at h2
      split at h2
      · obtain ⟨⟨g', ρ3⟩, h3, h4⟩ := Res.bind_ok h2
        cases h4
        exact (show Shape io g' from args_shape h3 (by simpa using hl))
      · cases h2
  | false :: io, .cons e es, ρ, ρ1, g, h, hl => by
    simp only [evArgs] at h
    obtain ⟨⟨d, m, ρ2⟩, h1, h2⟩ := Res.bind_ok h
    obtain ⟨⟨g', ρ3⟩, h3, h4⟩ := Res.bind_ok h2
    cases h4
    exact (show Shape io g' from args_shape h3 (by simpa using hl))
  | [], .cons e es, ρ, ρ1, g, h, hl => by
    simp only [evArgs] at h
    cases h

section
variable {K : KM} {B : Hp} {σ : L2.St} {H H' : Hp} {ρ : DEnv}
theorem map_some {α : Type} {o : Option (List α)} {d : α} {ds : List α} (h : o.map (d :: ·) = some ds) : ∃ es, o = some es ∧ ds = d :: es := by
  cases o with
  | none => cases h
  | some es => cases h; exact ⟨es, rfl, rfl⟩
theorem got_args (R : REnv K B σ H ρ) : ∀ {io : List Bool} {g : Got} {vs : List V} {ds : List Dat}, Shape io g → gotR K B σ ρ H vs g → readArgs ρ g = some ds → argsR K H io vs ds
  | [], [], [], ds, _, _, h => by cases h; trivial
  | true :: io, .slot i :: g, v :: vs, ds, s, r, h => by
    unfold readArgs at h
    split at h
    · rename_i d e
      obtain ⟨es, q, rfl⟩ := map_some h
      obtain ⟨p, h1, h2, h3⟩ := R.own i d e
      rw [r.1] at h1
      cases h1
      exact ⟨⟨p, rfl, h3⟩, got_args R (show Shape io g from s) r.2 q⟩
    · cases h
  | true :: io, .tmp d :: g, v :: vs, ds, s, r, h => by
    obtain ⟨es, q, rfl⟩ := map_some (show (readArgs ρ g).map (d :: ·) = some ds from h)
    obtain ⟨⟨p, e, o, _⟩, r⟩ := r
    exact ⟨⟨p, e, o⟩, got_args R (show Shape io g from s) r q⟩
  | false :: io, .val d :: g, v :: vs, ds, s, r, h => by
    obtain ⟨es, q, rfl⟩ := map_some (show (readArgs ρ g).map (d :: ·) = some ds from h)
    exact ⟨r.1, got_args R (show Shape io g from s) r.2 q⟩
  | [], [], _ :: _, _, _, r, _ => nomatch r
  | true :: _, .slot _ :: _, [], _, _, r, _ => nomatch r
  | true :: _, .tmp _ :: _, [], _, _, r, _ => nomatch r
  | false :: _, .val _ :: _, [], _, _, r, _ => nomatch r
theorem read_own : ∀ {g : Got} {ds : List Dat} {i : Nat}, readArgs ρ g = some ds → i ∈ slotsOf g → ∃ d, ρ[i]? = some (.own d)
  | .val d :: g, ds, i, h, hi => by
    obtain ⟨es, q, rfl⟩ := map_some (show (readArgs ρ g).map (d :: ·) = some ds from h)
    exact read_own q hi
  | .tmp d :: g, ds, i, h, hi => by
    obtain ⟨es, q, rfl⟩ := map_some (show (readArgs ρ g).map (d :: ·) = some ds from h)
    exact read_own q hi
  | .slot j :: g, ds, i, h, hi => by
    unfold readArgs at h
    split at h
    · rename_i d e
      obtain ⟨es, q, rfl⟩ := map_some h
      rcases List.mem_cons.mp (show i ∈ j :: slotsOf g from hi) with z | z
      · subst z; exact ⟨d, e⟩
      · exact read_own q z
    · cases h
theorem ioA_slots : ∀ {io : List Bool} {g : Got} {vs : List V} {p : Addr}, Shape io g → gotR K B σ ρ H vs g → p ∈ ioA io vs → (∃ i ∈ slotsOf g, σ[i]? = some (some (.ref p))) ∨ p ∈ tmpA vs g
  | [], [], [], p, _, _, h => nomatch h
  | true :: io, .slot i :: g, v :: vs, p, s, r, h => by
    have fin : p ∈ ioA io vs → (∃ j ∈ slotsOf (.slot i :: g : Got), σ[j]? = some (some (.ref p))) ∨ p ∈ tmpA (v :: vs) (.slot i :: g) := fun z => by
      rcases ioA_slots (show Shape io g from s) r.2 z with ⟨j, hj, e⟩ | q
      · exact .inl ⟨j, List.mem_cons_of_mem _ hj, e⟩
      · exact .inr (by cases v <;> exact q)
    cases v with
    | ref q =>
      rcases List.mem_cons.mp (show p ∈ q :: ioA io vs from h) with z | z
      · subst z; exact .inl ⟨i, List.mem_cons_self, r.1⟩
      · exact fin z
    | non => exact fin h
    | bl _ => exact fin h
    | int _ => exact fin h
    | str _ => exact fin h
    | byt _ => exact fin h
    | flt _ => exact fin h
    | ty _ => exact fin h
  | true :: io, .tmp d :: g, v :: vs, p, s, r, h => by
    obtain ⟨⟨q, rfl, _⟩, r⟩ := r
    rcases List.mem_cons.mp (show p ∈ q :: ioA io vs from h) with z | z
    · exact .inr (by rw [z]; exact List.mem_cons_self)
    · rcases ioA_slots (show Shape io g from s) r z with ⟨j, hj, e⟩ | y
      · exact .inl ⟨j, hj, e⟩
      · exact .inr (List.mem_cons_of_mem _ y)
  | false :: io, .val d :: g, v :: vs, p, s, r, h => by
    have h' : p ∈ ioA io vs := by cases v <;> exact h
    rcases ioA_slots (show Shape io g from s) r.2 h' with ⟨j, hj, e⟩ | q
    · exact .inl ⟨j, hj, e⟩
    · exact .inr (by cases v <;> exact q)
  | [], [], _ :: _, _, _, r, _ => nomatch r
  | true :: _, .slot _ :: _, [], _, _, r, _ => nomatch r
  | true :: _, .tmp _ :: _, [], _, _, r, _ => nomatch r
  | false :: _, .val _ :: _, [], _, _, r, _ => nomatch r
theorem ioA_nodup (R : REnv K B σ H ρ) : ∀ {io : List Bool} {g : Got} {vs : List V} {ds : List Dat}, Shape io g → gotR K B σ ρ H vs g → readArgs ρ g = some ds → (slotsOf g).Nodup → (ioA io vs).Nodup
  | [], [], [], ds, _, _, _, _ => List.nodup_nil
  | true :: io, .slot i :: g, v :: vs, ds, s, r, h, nd => by
    obtain ⟨d, e⟩ := read_own h (show i ∈ i :: slotsOf g from List.mem_cons_self)
    obtain ⟨p, h1, h2, h3⟩ := R.own i d e
    rw [r.1] at h1
    cases h1
    have nd' := List.nodup_cons.mp (show (i :: slotsOf g).Nodup from nd)
    obtain ⟨es, he⟩ : ∃ es, readArgs ρ g = some es := by
      unfold readArgs at h
      rw [e] at h
      obtain ⟨es, q, _⟩ := map_some h
      exact ⟨es, q⟩
    refine List.nodup_cons.mpr ⟨fun z => ?_, ioA_nodup R (show Shape io g from s) r.2 he nd'.2⟩
    rcases ioA_slots (show Shape io g from s) r.2 z with ⟨j, hj, ej⟩ | q
    · obtain ⟨d', e'⟩ := read_own he hj
      have := R.sep i j d d' p e e' r.1 ej
      subst this
      exact nd'.1 hj
    · exact (tmp_props r.2 q).2 i d e r.1
  | true :: io, .tmp d :: g, v :: vs, ds, s, r, h, nd => by
    obtain ⟨es, he, _⟩ := map_some (show (readArgs ρ g).map (d :: ·) = some ds from h)
    obtain ⟨⟨p, rfl, o, b, n, t⟩, r⟩ := r
    refine List.nodup_cons.mpr ⟨fun z => ?_, ioA_nodup R (show Shape io g from s) r he nd⟩
    rcases ioA_slots (show Shape io g from s) r z with ⟨j, hj, ej⟩ | q
    · obtain ⟨d', e'⟩ := read_own he hj
      exact n j d' e' ej
    · exact t q
  | false :: io, .val d :: g, v :: vs, ds, s, r, h, nd => by
    obtain ⟨es, he, _⟩ := map_some (show (readArgs ρ g).map (d :: ·) = some ds from h)
    have := ioA_nodup R (show Shape io g from s) r.2 he nd
    cases v <;> exact this
  | [], [], _ :: _, _, _, r, _, _ => nomatch r
  | true :: _, .slot _ :: _, [], _, _, r, _, _ => nomatch r
  | true :: _, .tmp _ :: _, [], _, _, r, _, _ => nomatch r
  | false :: _, .val _ :: _, [], _, _, r, _, _ => nomatch r
theorem putBack_len : ∀ {g : Got} {ρ : DEnv} {outs : List Dat}, (putBack ρ g outs).length = ρ.length
  | [], ρ, outs => by cases outs <;> rfl
  | .val _ :: g, ρ, outs => by
    show (putBack ρ g outs).length = _
    exact putBack_len
  | .tmp _ :: g, ρ, [] => rfl
  | .tmp _ :: g, ρ, d :: outs => by
    show (putBack ρ g outs).length = _
    exact putBack_len
  | .slot i :: g, ρ, [] => rfl
  | .slot i :: g, ρ, d :: outs => by
    show (putBack (ρ.set i (.own d)) g outs).length = _
    rw [putBack_len, List.length_set]
theorem putBack_spec : ∀ {io : List Bool} {g : Got} {vs : List V} {ρ ρ0 : DEnv} {outs : List Dat}, Shape io g → gotR K B σ ρ0 H vs g → outsR K H' (ioA io vs) outs → (slotsOf g).Nodup → (∀ i ∈ slotsOf g, i < ρ.length ∧ ∃ p, σ[i]? = some (some (.ref p))) →
    ∀ j, (j ∉ slotsOf g → (putBack ρ g outs)[j]? = ρ[j]?) ∧ (j ∈ slotsOf g → ∃ p d, σ[j]? = some (some (.ref p)) ∧ (putBack ρ g outs)[j]? = some (.own d) ∧ Own K H' p d)
  | [], [], [], ρ, ρ0, outs, _, _, o, _, _, j => by
    cases outs with
    | nil => exact ⟨fun _ => rfl, fun z => nomatch z⟩
    | cons _ _ => exact nomatch o
  | true :: io, .slot i :: g, v :: vs, ρ, ρ0, outs, s, r, o, nd, hs, j => by
    obtain ⟨hi, p, hp⟩ := hs i List.mem_cons_self
    have nd' := List.nodup_cons.mp (show (i :: slotsOf g).Nodup from nd)
    have ev : v = .ref p := by have := r.1.symm.trans hp; cases this; rfl
    subst ev
    cases outs with
    | nil => exact nomatch o
    | cons d outs =>
      have o' : Own K H' p d ∧ outsR K H' (ioA io vs) outs := o
      have ih := putBack_spec (ρ := ρ.set i (.own d)) (show Shape io g from s) r.2 o'.2 nd'.2 (fun k hk => ⟨by rw [List.length_set]; exact (hs k (List.mem_cons_of_mem _ hk)).1, (hs k (List.mem_cons_of_mem _ hk)).2⟩) j
      show ((j ∉ i :: slotsOf g → (putBack (ρ.set i (.own d)) g outs)[j]? = ρ[j]?) ∧ (j ∈ i :: slotsOf g → ∃ p d', σ[j]? = some (some (.ref p)) ∧ (putBack (ρ.set i (.own d)) g outs)[j]? = some (.own d') ∧ Own K H' p d'))
      refine ⟨fun z => ?_, fun z => ?_⟩
      · have z1 : j ≠ i := fun q => z (by rw [q]; exact List.mem_cons_self)
        have z2 : j ∉ slotsOf g := fun q => z (List.mem_cons_of_mem _ q)
        rw [ih.1 z2, List.getElem?_set_ne (Ne.symm z1)]
      · rcases List.mem_cons.mp z with z | z
        · subst z
          refine ⟨p, d, hp, ?_, o'.1⟩
          rw [ih.1 nd'.1, List.getElem?_set_self hi]
        · exact ih.2 z
  | true :: io, .tmp d :: g, v :: vs, ρ, ρ0, outs, s, r, o, nd, hs, j => by
    obtain ⟨⟨p, rfl, _⟩, r⟩ := r
    cases outs with
    | nil => exact nomatch o
    | cons d' outs =>
      have o' : Own K H' p d' ∧ outsR K H' (ioA io vs) outs := o
      exact putBack_spec (ρ := ρ) (show Shape io g from s) r o'.2 nd hs j
  | false :: io, .val d :: g, v :: vs, ρ, ρ0, outs, s, r, o, nd, hs, j => by
    have o' : outsR K H' (ioA io vs) outs := by cases v <;> exact o
    exact putBack_spec (ρ := ρ) (show Shape io g from s) r.2 o' nd hs j
  | [], [], _ :: _, _, _, _, _, r, _, _, _, _ => nomatch r
  | true :: _, .slot _ :: _, [], _, _, _, _, r, _, _, _, _ => nomatch r
  | true :: _, .tmp _ :: _, [], _, _, _, _, r, _, _, _, _ => nomatch r
  | false :: _, .val _ :: _, [], _, _, _, _, r, _, _, _, _ => nomatch r
/-- behind a call -/
theorem call_back {io : List Bool} {g : Got} {vs : List V} {ds outs : List Dat} {d : Dat} {new : Bool} {v : V} (R : REnv K B σ H ρ) (s : Shape io g) (r : gotR K B σ ρ H vs g) (hr : readArgs ρ g = some ds) (nd : (slotsOf g).Nodup)
    (P : Post K io vs H d new outs v H') : REnv K B σ H' (putBack ρ g outs) ∧ RV K B σ (putBack ρ g outs) H' v d (if new = true then .fresh else .frz) := by
  obtain ⟨p1, p2, p3, p4⟩ := P
  have hs : ∀ i ∈ slotsOf g, i < ρ.length ∧ ∃ p, σ[i]? = some (some (.ref p)) := fun i hi => by
    obtain ⟨e, he⟩ := read_own hr hi
    obtain ⟨p, h1, _⟩ := R.own i e he
    exact ⟨(List.getElem?_eq_some_iff.mp he).1, p, h1⟩
  have sp := putBack_spec (ρ := ρ) s r p3 nd hs
  have ownB : ∀ (i : Nat) e, (putBack ρ g outs)[i]? = some (.own e) → ∃ e', ρ[i]? = some (.own e') := fun i e h => by
    by_cases hi : i ∈ slotsOf g
    · exact read_own hr hi
    · rw [(sp i).1 hi] at h; exact ⟨e, h⟩
  refine ⟨⟨fun a o hb => ?_, ?_, fun i e h => ?_, fun i e h => ?_, fun i j e e' p h1 h2 h3 h4 => ?_, fun i c fs h => ?_⟩, ?_⟩
  · refine p1 a o (R.base a o hb) fun ha => ?_
    rcases ioA_slots s r ha with ⟨i, hi, hσ⟩ | q
    · obtain ⟨e, he⟩ := read_own hr hi
      obtain ⟨p, g1, g2, _⟩ := R.own i e he
      rw [hσ] at g1; cases g1
      rw [g2] at hb; cases hb
    · rw [(tmp_props r q).1] at hb; cases hb
  · rw [putBack_len]; exact R.len
  · by_cases hi : i ∈ slotsOf g
    · obtain ⟨p, e', _, g2, _⟩ := (sp i).2 hi
      rw [g2] at h; cases h
    · rw [(sp i).1 hi] at h
      obtain ⟨w, w1, w2⟩ := R.val i e h
      exact ⟨w, w1, w2.mono p2⟩
  · by_cases hi : i ∈ slotsOf g
    · obtain ⟨p, e', g1, g2, g3⟩ := (sp i).2 hi
      rw [g2] at h; cases h
      obtain ⟨e2, he2⟩ := read_own hr hi
      obtain ⟨p', k1, k2, _⟩ := R.own i e2 he2
      rw [g1] at k1; cases k1
      exact ⟨p, g1, k2, g3⟩
    · rw [(sp i).1 hi] at h
      obtain ⟨p, k1, k2, k3⟩ := R.own i e h
      refine ⟨p, k1, k2, k3.mono p2 ?_⟩
      obtain ⟨ws, hw⟩ := k3.some
      rw [hw]
      refine p1 p _ hw fun ha => ?_
      rcases ioA_slots s r ha with ⟨j, hj, hσ⟩ | q
      · obtain ⟨e2, he2⟩ := read_own hr hj
        exact hi (by rw [R.sep i j e e2 p h he2 k1 hσ]; exact hj)
      · exact (tmp_props r q).2 i e h k1
  · obtain ⟨f1, g1⟩ := ownB i e h1
    obtain ⟨f2, g2⟩ := ownB j e' h2
    exact R.sep i j f1 f2 p g1 g2 h3 h4
  · by_cases hi : i ∈ slotsOf g
    · obtain ⟨p, e', _, g2, _⟩ := (sp i).2 hi
      rw [g2] at h; cases h
    · rw [(sp i).1 hi] at h
      obtain ⟨x, x1, x2, x3, x4⟩ := R.exn i c fs h
      exact ⟨x, x1, x2, x3, x4.mono p2⟩
  · cases new with
    | false => exact p4
    | true =>
      obtain ⟨p, rfl, hn, ho⟩ := p4
      refine ⟨p, rfl, ho, R.newB hn, fun i e h => ?_⟩
      obtain ⟨e', he'⟩ := ownB i e h
      exact R.newS hn i e' he'
theorem putX_len : ∀ {g : Got} {ρ ss : DEnv}, (putX ρ g ss).length = ρ.length
  | [], ρ, ss => by cases ss <;> rfl
  | .val _ :: g, ρ, ss => by
    show (putX ρ g ss).length = _
    exact putX_len
  | .tmp _ :: g, ρ, [] => rfl
  | .tmp _ :: g, ρ, d :: ss => by
    show (putX ρ g ss).length = _
    exact putX_len
  | .slot i :: g, ρ, [] => rfl
  | .slot i :: g, ρ, d :: ss => by
    show (putX (ρ.set i d) g ss).length = _
    rw [putX_len, List.length_set]
theorem putX_spec : ∀ {io : List Bool} {g : Got} {vs : List V} {ρ ρ0 ss : DEnv}, Shape io g → gotR K B σ ρ0 H vs g → outsX K H' (ioA io vs) ss → (slotsOf g).Nodup → (∀ i ∈ slotsOf g, i < ρ.length ∧ ∃ p, σ[i]? = some (some (.ref p))) →
    ∀ j, (j ∉ slotsOf g → (putX ρ g ss)[j]? = ρ[j]?) ∧ (j ∈ slotsOf g → ∃ p, σ[j]? = some (some (.ref p)) ∧ ((putX ρ g ss)[j]? = some .no ∨ ∃ d, (putX ρ g ss)[j]? = some (.own d) ∧ Own K H' p d))
  | [], [], [], ρ, ρ0, ss, _, _, o, _, _, j => by
    cases ss with
    | nil => exact ⟨fun _ => rfl, fun z => nomatch z⟩
    | cons _ _ => exact nomatch o
  | true :: io, .slot i :: g, v :: vs, ρ, ρ0, ss, s, r, o, nd, hs, j => by
    obtain ⟨hi, p, hp⟩ := hs i List.mem_cons_self
    have nd' := List.nodup_cons.mp (show (i :: slotsOf g).Nodup from nd)
    have ev : v = .ref p := by have := r.1.symm.trans hp; cases this; rfl
    subst ev
    have key : ∀ (d : Slot) (ss : DEnv), (d = .no ∨ ∃ x, d = .own x ∧ Own K H' p x) → outsX K H' (ioA io vs) ss →
        ((j ∉ i :: slotsOf g → (putX (ρ.set i d) g ss)[j]? = ρ[j]?) ∧ (j ∈ i :: slotsOf g → ∃ p, σ[j]? = some (some (.ref p)) ∧ ((putX (ρ.set i d) g ss)[j]? = some .no ∨ ∃ d', (putX (ρ.set i d) g ss)[j]? = some (.own d') ∧ Own K H' p d'))) := by
      intro d ss hd o'
      have ih := putX_spec (ρ := ρ.set i d) (show Shape io g from s) r.2 o' nd'.2 (fun k hk => ⟨by rw [List.length_set]; exact (hs k (List.mem_cons_of_mem _ hk)).1, (hs k (List.mem_cons_of_mem _ hk)).2⟩) j
      refine ⟨fun z => ?_, fun z => ?_⟩
      · have z1 : j ≠ i := fun q => z (by rw [q]; exact List.mem_cons_self)
        have z2 : j ∉ slotsOf g := fun q => z (List.mem_cons_of_mem _ q)
        rw [ih.1 z2, List.getElem?_set_ne (Ne.symm z1)]
      · rcases List.mem_cons.mp z with z | z
        · subst z
          refine ⟨p, hp, ?_⟩
          rw [ih.1 nd'.1, List.getElem?_set_self hi]
          rcases hd with rfl | ⟨x, rfl, hx⟩
          · exact .inl rfl
          · exact .inr ⟨x, rfl, hx⟩
        · exact ih.2 z
    cases ss with
    | nil => exact nomatch o
    | cons d ss =>
      cases d with
      | no => exact key .no ss (.inl rfl) o
      | own x =>
        have o' : Own K H' p x ∧ outsX K H' (ioA io vs) ss := o
        exact key (.own x) ss (.inr ⟨x, rfl, o'.1⟩) o'.2
      | val _ => exact nomatch o
      | exn _ _ => exact nomatch o
  | true :: io, .tmp d :: g, v :: vs, ρ, ρ0, ss, s, r, o, nd, hs, j => by
    obtain ⟨⟨p, rfl, _⟩, r⟩ := r
    cases ss with
    | nil => exact nomatch o
    | cons d' ss =>
      have o' : outsX K H' (ioA io vs) ss := by
        cases d' with
        | no => exact o
        | own x => exact (show Own K H' p x ∧ outsX K H' (ioA io vs) ss from o).2
        | val _ => exact nomatch o
        | exn _ _ => exact nomatch o
      exact putX_spec (ρ := ρ) (show Shape io g from s) r o' nd hs j
  | false :: io, .val d :: g, v :: vs, ρ, ρ0, ss, s, r, o, nd, hs, j => by
    have o' : outsX K H' (ioA io vs) ss := by cases v <;> exact o
    exact putX_spec (ρ := ρ) (show Shape io g from s) r.2 o' nd hs j
  | [], [], _ :: _, _, _, _, _, r, _, _, _, _ => nomatch r
  | true :: _, .slot _ :: _, [], _, _, _, _, r, _, _, _, _ => nomatch r
  | true :: _, .tmp _ :: _, [], _, _, _, _, r, _, _, _, _ => nomatch r
  | false :: _, .val _ :: _, [], _, _, _, _, r, _, _, _, _ => nomatch r
/-- behind a call that let an exception out -/
theorem call_backX {io : List Bool} {g : Got} {vs : List V} {ds : List Dat} {ss : DEnv} {c : Str} {fs : List (Str × Dat)} {cls : Value} {dd : Option Addr} (R : REnv K B σ H ρ) (s : Shape io g) (r : gotR K B σ ρ H vs g) (hr : readArgs ρ g = some ds) (nd : (slotsOf g).Nodup)
    (P : PostX K io vs H c fs ss cls dd H') : REnv K B σ H' (putX ρ g ss) ∧ XcR K H' cls dd c fs := by
  obtain ⟨p1, p2, p3, p4⟩ := P
  have hs : ∀ i ∈ slotsOf g, i < ρ.length ∧ ∃ p, σ[i]? = some (some (.ref p)) := fun i hi => by
    obtain ⟨e, he⟩ := read_own hr hi
    obtain ⟨p, h1, _⟩ := R.own i e he
    exact ⟨(List.getElem?_eq_some_iff.mp he).1, p, h1⟩
  have sp := putX_spec (ρ := ρ) s r p3 nd hs
  have ownB : ∀ (i : Nat) e, (putX ρ g ss)[i]? = some (.own e) → ∃ e', ρ[i]? = some (.own e') := fun i e h => by
    by_cases hi : i ∈ slotsOf g
    · exact read_own hr hi
    · rw [(sp i).1 hi] at h; exact ⟨e, h⟩
  refine ⟨⟨fun a o hb => ?_, ?_, fun i e h => ?_, fun i e h => ?_, fun i j e e' p h1 h2 h3 h4 => ?_, fun i c fs h => ?_⟩, p4⟩
  · refine p1 a o (R.base a o hb) fun ha => ?_
    rcases ioA_slots s r ha with ⟨i, hi, hσ⟩ | q
    · obtain ⟨e, he⟩ := read_own hr hi
      obtain ⟨p, g1, g2, _⟩ := R.own i e he
      rw [hσ] at g1; cases g1
      rw [g2] at hb; cases hb
    · rw [(tmp_props r q).1] at hb; cases hb
  · rw [putX_len]; exact R.len
  · by_cases hi : i ∈ slotsOf g
    · obtain ⟨p, _, g2 | ⟨e', g2, _⟩⟩ := (sp i).2 hi <;> (rw [g2] at h; cases h)
    · rw [(sp i).1 hi] at h
      obtain ⟨w, w1, w2⟩ := R.val i e h
      exact ⟨w, w1, w2.mono p2⟩
  · by_cases hi : i ∈ slotsOf g
    · obtain ⟨p, g1, g2 | ⟨e', g2, g3⟩⟩ := (sp i).2 hi
      · rw [g2] at h; cases h
      · rw [g2] at h; cases h
        obtain ⟨e2, he2⟩ := read_own hr hi
        obtain ⟨p', k1, k2, _⟩ := R.own i e2 he2
        rw [g1] at k1; cases k1
        exact ⟨p, g1, k2, g3⟩
    · rw [(sp i).1 hi] at h
      obtain ⟨p, k1, k2, k3⟩ := R.own i e h
      refine ⟨p, k1, k2, k3.mono p2 ?_⟩
      obtain ⟨ws, hw⟩ := k3.some
      rw [hw]
      refine p1 p _ hw fun ha => ?_
      rcases ioA_slots s r ha with ⟨j, hj, hσ⟩ | q
      · obtain ⟨e2, he2⟩ := read_own hr hj
        exact hi (by rw [R.sep i j e e2 p h he2 k1 hσ]; exact hj)
      · exact (tmp_props r q).2 i e h k1
  · obtain ⟨f1, g1⟩ := ownB i e h1
    obtain ⟨f2, g2⟩ := ownB j e' h2
    exact R.sep i j f1 f2 p g1 g2 h3 h4
  · by_cases hi : i ∈ slotsOf g
    · obtain ⟨p, _, g2 | ⟨e', g2, _⟩⟩ := (sp i).2 hi <;> (rw [g2] at h; cases h)
    · rw [(sp i).1 hi] at h
      obtain ⟨x, x1, x2, x3, x4⟩ := R.exn i c fs h
      exact ⟨x, x1, x2, x3, x4.mono p2⟩
end
end Ev
set_option Elab.async false
set_option linter.all false
set_option maxRecDepth 100000
namespace Ev
open PySem PySem.Spec PyProof.Rows L2
variable {ea : Option EA}
section
variable {K : KM} {B : Hp} {σ : L2.St} {H H' : Hp} {ρ ρ' : DEnv}
theorem set_get {α : Type} {l : List α} {i j : Nat} {a : α} : (l.set i a)[j]? = if i = j then (if i < l.length then some a else none) else l[j]? := by
  rw [List.getElem?_set]
theorem REnv.setNo (R : REnv K B σ H ρ) (v : Nat) : REnv K B (σ.set v none) H (ρ.set v .no) := by
  refine ⟨R.base, by rw [List.length_set, List.length_set]; exact R.len, fun i d h => ?_, fun i d h => ?_, fun i j d e p h1 h2 h3 h4 => ?_, fun i c fs h => ?_⟩
  · rw [set_get] at h
    split at h
    · split at h <;> cases h
    · rename_i n
      obtain ⟨w, w1, w2⟩ := R.val i d h
      exact ⟨w, by rw [List.getElem?_set_ne n]; exact w1, w2⟩
  · rw [set_get] at h
    split at h
    · split at h <;> cases h
    · rename_i n
      obtain ⟨w, w1, w2⟩ := R.own i d h
      exact ⟨w, by rw [List.getElem?_set_ne n]; exact w1, w2⟩
  · rw [set_get] at h1 h2
    split at h1
    · split at h1 <;> cases h1
    · split at h2
      · split at h2 <;> cases h2
      · rename_i n1 n2
        rw [List.getElem?_set_ne n1] at h3
        rw [List.getElem?_set_ne n2] at h4
        exact R.sep i j d e p h1 h2 h3 h4
  · rw [set_get] at h
    split at h
    · split at h <;> cases h
    · rename_i n
      obtain ⟨x, x1, x2, x3⟩ := R.exn i c fs h
      exact ⟨x, x1, by rw [List.getElem?_set_ne n]; exact x2, x3⟩
theorem REnv.setVal {x : V} {d : Dat} (R : REnv K B σ H ρ) (v : Nat) (hx : Is K H x d) : REnv K B (σ.set v (some x)) H (ρ.set v (.val d)) := by
  refine ⟨R.base, by rw [List.length_set, List.length_set]; exact R.len, fun i e h => ?_, fun i e h => ?_, fun i j e e' p h1 h2 h3 h4 => ?_, fun i c fs h => ?_⟩
  · rw [set_get] at h
    split at h
    · rename_i n
      subst n
      split at h
      · cases h
        rename_i hl
        exact ⟨x, by rw [List.getElem?_set_self (by rw [R.len]; exact hl)], hx⟩
      · cases h
    · rename_i n
      obtain ⟨w, w1, w2⟩ := R.val i e h
      exact ⟨w, by rw [List.getElem?_set_ne n]; exact w1, w2⟩
  · rw [set_get] at h
    split at h
    · split at h <;> cases h
    · rename_i n
      obtain ⟨w, w1, w2⟩ := R.own i e h
      exact ⟨w, by rw [List.getElem?_set_ne n]; exact w1, w2⟩
  · rw [set_get] at h1 h2
    split at h1
    · split at h1 <;> cases h1
    · split at h2
      · split at h2 <;> cases h2
      · rename_i n1 n2
        rw [List.getElem?_set_ne n1] at h3
        rw [List.getElem?_set_ne n2] at h4
        exact R.sep i j e e' p h1 h2 h3 h4
  · rw [set_get] at h
    split at h
    · split at h <;> cases h
    · rename_i n
      obtain ⟨x, x1, x2, x3⟩ := R.exn i c fs h
      exact ⟨x, x1, by rw [List.getElem?_set_ne n]; exact x2, x3⟩
theorem REnv.wipe (R : REnv K B σ H ρ) : ∀ vs : List Nat, REnv K B (L2.wipe σ vs) H (wipeE ρ vs)
  | [] => R
  | v :: vs => (REnv.wipe R vs).setNo v
theorem wipe_get {i : Nat} : ∀ {vs : List Nat}, i ∉ vs → (L2.wipe σ vs)[i]? = σ[i]?
  | [], _ => rfl
  | v :: vs, h => by
    show ((L2.wipe σ vs).set v none)[i]? = _
    rw [List.getElem?_set_ne (fun z => h (by rw [z]; exact List.mem_cons_self)), wipe_get fun z => h (List.mem_cons_of_mem _ z)]
theorem wipeE_get {i : Nat} : ∀ {vs : List Nat}, i ∉ vs → (wipeE ρ vs)[i]? = ρ[i]?
  | [], _ => rfl
  | v :: vs, h => by
    show ((wipeE ρ vs).set v .no)[i]? = _
    rw [List.getElem?_set_ne (fun z => h (by rw [z]; exact List.mem_cons_self)), wipeE_get fun z => h (List.mem_cons_of_mem _ z)]
theorem wipeE_len : ∀ vs : List Nat, (wipeE ρ vs).length = ρ.length
  | [] => rfl
  | v :: vs => by
    show ((wipeE ρ vs).set v .no).length = _
    rw [List.length_set, wipeE_len vs]
theorem wipe_at {i : Nat} : ∀ {vs : List Nat}, i ∈ vs → i < σ.length → (L2.wipe σ vs)[i]? = some none
  | v :: vs, h, hl => by
    show ((L2.wipe σ vs).set v none)[i]? = _
    rw [set_get]
    by_cases z : v = i
    · rw [if_pos z, if_pos (by rw [wipe_length, z]; exact hl)]
    · rw [if_neg z]
      rcases List.mem_cons.mp h with q | q
      · exact absurd q.symm z
      · exact wipe_at q hl
theorem wipe_set {i : Nat} {x : Option V} {vs : List Nat} (h : i ∈ vs) : L2.wipe ((L2.wipe σ vs).set i x) vs = L2.wipe σ vs := by
  apply List.ext_getElem?
  intro j
  by_cases hj : j ∈ vs
  · by_cases hl : j < σ.length
    · rw [wipe_at hj (by rw [List.length_set, wipe_length]; exact hl), wipe_at hj hl]
    · rw [List.getElem?_eq_none (by rw [wipe_length, List.length_set, wipe_length]; omega), List.getElem?_eq_none (by rw [wipe_length]; omega)]
  · rw [wipe_get hj, List.getElem?_set_ne (fun z => hj (by rw [← z]; exact h))]
theorem back_get {vs : List Nat} {i : Nat} : (back ρ ρ' vs)[i]? = (ρ'[i]?).map fun s => if vs.contains i then ρ.getD i .no else s := by
  unfold back
  rw [List.getElem?_mapIdx]
theorem REnv.back {B' : Hp} {H1 H2 : Hp} {ρ1 ρ2 : DEnv} {vs : List Nat} (R1 : REnv K B σ H1 ρ1) (hc : calmAt ρ1 vs = true) (le : ∀ a o, B a = some o → B' a = some o) (f : FrzLe H1 H2) (R2 : REnv K B' (L2.wipe σ vs) H2 (wipeE ρ2 vs)) :
    REnv K B σ H2 (Ev.back ρ1 ρ2 vs) ∧ ∀ (i : Nat) e, (Ev.back ρ1 ρ2 vs)[i]? = some (.own e) → ∃ p, σ[i]? = some (some (.ref p)) ∧ B' p = none := by
  have R2w := R2.weak le
  have len2 : ρ2.length = σ.length := by
    have := R2.len
    rw [wipe_length, wipeE_len] at this
    exact this.symm
  have own : ∀ (i : Nat) e, (Ev.back ρ1 ρ2 vs)[i]? = some (.own e) → i ∉ vs ∧ ρ2[i]? = some (.own e) := fun i e h => by
    rw [back_get] at h
    cases q : ρ2[i]? with
    | none => rw [q] at h; cases h
    | some sl =>
      rw [q] at h
      have h' : (if vs.contains i then ρ1.getD i .no else sl) = Slot.own e := by simpa using h
      by_cases c : i ∈ vs
      · exfalso
        rw [if_pos (List.contains_iff_mem.mpr c)] at h'
        have hh := List.all_eq_true.mp hc i c
        cases q1 : ρ1[i]? with
        | none => rw [q1] at hh; cases hh
        | some z =>
          rw [List.getD_eq_getElem?_getD, q1] at h'
          have h2 : z = Slot.own e := h'
          rw [q1, h2] at hh
          cases hh
      · rw [if_neg (fun z => c (List.contains_iff_mem.mp z))] at h'
        exact ⟨c, by rw [h']⟩
  refine ⟨⟨R2w.base, ?_, fun i d h => ?_, fun i d h => ?_, fun i j d e p h1 h2 h3 h4 => ?_, fun i cc fs h => ?_⟩, fun i e h => ?_⟩
  · unfold Ev.back
    rw [List.length_mapIdx, len2]
  · rw [back_get] at h
    cases q : ρ2[i]? with
    | none => rw [q] at h; cases h
    | some sl =>
      rw [q] at h
      have h' : (if vs.contains i then ρ1.getD i .no else sl) = Slot.val d := by simpa using h
      by_cases c : i ∈ vs
      · rw [if_pos (List.contains_iff_mem.mpr c)] at h'
        cases q1 : ρ1[i]? with
        | none => rw [List.getD_eq_getElem?_getD, q1] at h'; cases h'
        | some z =>
          rw [List.getD_eq_getElem?_getD, q1] at h'
          have h2 : z = Slot.val d := h'
          subst h2
          obtain ⟨w, w1, w2⟩ := R1.val i d q1
          exact ⟨w, w1, w2.mono f⟩
      · rw [if_neg (fun z => c (List.contains_iff_mem.mp z))] at h'
        subst h'
        obtain ⟨w, w1, w2⟩ := R2w.val i d (by rw [wipeE_get c]; exact q)
        rw [wipe_get c] at w1
        exact ⟨w, w1, w2⟩
  · obtain ⟨c, q⟩ := own i d h
    obtain ⟨w, w1, w2⟩ := R2w.own i d (by rw [wipeE_get c]; exact q)
    rw [wipe_get c] at w1
    exact ⟨w, w1, w2⟩
  · obtain ⟨c1, q1⟩ := own i d h1
    obtain ⟨c2, q2⟩ := own j e h2
    exact R2w.sep i j d e p (by rw [wipeE_get c1]; exact q1) (by rw [wipeE_get c2]; exact q2) (by rw [wipe_get c1]; exact h3) (by rw [wipe_get c2]; exact h4)
  · rw [back_get] at h
    cases q : ρ2[i]? with
    | none => rw [q] at h; cases h
    | some sl =>
      rw [q] at h
      have h' : (if vs.contains i then ρ1.getD i .no else sl) = Slot.exn cc fs := by simpa using h
      by_cases c : i ∈ vs
      · rw [if_pos (List.contains_iff_mem.mpr c)] at h'
        cases q1 : ρ1[i]? with
        | none => rw [List.getD_eq_getElem?_getD, q1] at h'; cases h'
        | some z =>
          rw [List.getD_eq_getElem?_getD, q1] at h'
          have h2 : z = Slot.exn cc fs := h'
          subst h2
          obtain ⟨x, x1, x2, x3, x4⟩ := R1.exn i cc fs q1
          exact ⟨x, x1, x2, x3, x4.mono f⟩
      · rw [if_neg (fun z => c (List.contains_iff_mem.mp z))] at h'
        subst h'
        obtain ⟨x, x1, x2, x3⟩ := R2w.exn i cc fs (by rw [wipeE_get c]; exact q)
        rw [wipe_get c] at x2
        exact ⟨x, x1, x2, x3⟩
  · obtain ⟨c, q⟩ := own i e h
    obtain ⟨p, w1, w2, _⟩ := R2.own i e (by rw [wipeE_get c]; exact q)
    rw [wipe_get c] at w1
    exact ⟨p, w1, w2⟩
end

/-- an iterator over values that stay -/
def Walker (J : It) (vs : List V) (H1 : Hp) : Prop := ∀ (i : Nat) H, FrzLe H1 H → (∀ x, vs[i]? = some x → J.go i H ∧ ∀ y H', J.yld i H y H' → H' = H ∧ y = x) ∧ (vs.length ≤ i → J.stop i H)
theorem walker_list {K : KM} {H1 : Hp} {a : Addr} {o : Obj} {vs : List V} (h : H1 a = some (.frz o (.lst vs))) : Walker (Itl K.K a) vs H1 := fun i H f => by
  have q : SqL K.K H a vs := .inl (.inr ⟨o, f _ _ h rfl⟩)
  exact ⟨fun x e => ⟨⟨vs, x, q, e⟩, fun y H' z => ⟨z.1, Option.some.inj ((z.2 vs q).symm.trans e)⟩⟩, fun e => ⟨vs, q, e⟩⟩
theorem walker_tup {K : KM} {H1 : Hp} {a : Addr} {vs : List V} (h : SqT K.K H1 a vs) : Walker (Itt K.K a) vs H1 := fun i H f => by
  have q : SqT K.K H a vs := sqT_mono f h
  exact ⟨fun x e => ⟨⟨vs, x, q, e⟩, fun y H' z => ⟨z.1, Option.some.inj ((z.2 vs q).symm.trans e)⟩⟩, fun e => ⟨vs, q, e⟩⟩
theorem walker_str {H1 : Hp} (x : Str) : Walker (Its x) (x.cps.toList.map fun c => V.str ⟨#[c]⟩) H1 := fun i H f => by
  refine ⟨fun v e => ?_, fun e => ?_⟩
  · rw [List.getElem?_map] at e
    cases q : x.cps.toList[i]? with
    | none => rw [q] at e; cases e
    | some c =>
      rw [q] at e
      cases e
      have hi : i < x.cps.size := by
        have := (List.getElem?_eq_some_iff.mp q).1
        rwa [Array.length_toList] at this
      refine ⟨hi, fun y H' z => ⟨z.1, ?_⟩⟩
      obtain ⟨_, c', e1, rfl⟩ := z
      rw [← Array.getElem?_toList, q] at e1
      cases e1
      rfl
  · rw [List.length_map, Array.length_toList] at e
    exact e
theorem walker_rng {H1 : Hp} (j : Int) : Walker (Itr 0 j.toNat) ((List.range j.toNat).map fun (k : Nat) => V.int (k : Int)) H1 := fun i H f => by
  refine ⟨fun v e => ?_, fun e => ?_⟩
  · rw [List.getElem?_map] at e
    cases q : (List.range j.toNat)[i]? with
    | none => rw [q] at e; cases e
    | some c =>
      rw [q] at e
      cases e
      have hi := (List.getElem?_eq_some_iff.mp q).1
      rw [List.length_range] at hi
      have hc : c = i := by rw [List.getElem?_range hi] at q; exact (Option.some.inj q).symm
      subst hc
      exact ⟨hi, fun y H' z => ⟨z.1, by rw [z.2, Int.zero_add]⟩⟩
  · rw [List.length_map, List.length_range] at e
    exact e

/-- what is wanted of one turn -/
def wantOne (K : KM) (W : WX) (B : Hp) (σ1 : L2.St) (H : Hp) (Qy : V → Hp → Prop) (Qn : Hp → Prop) : Res (Option Dat × DEnv) → Prop
  | .ok (some d, ρ2) => ∀ y H', REnv K B σ1 H' ρ2 → FrzLe H H' → Is K H' y d → Qy y H'
  | .ok (none, ρ2) => ∀ H', REnv K B σ1 H' ρ2 → FrzLe H H' → Qn H'
  | .exc c fs ρ2 => ∀ cls d H', REnv K B σ1 H' ρ2 → FrzLe H H' → XcR K H' cls d c fs → W cls d σ1 H'
  | .stuck => False
def StepOk (K : KM) (W : WX) (vs : List Nat) (tg : Nat) (tt : TT) (te : TE) (one : Dat → DEnv → Res (Option Dat × DEnv)) : Prop :=
  ∀ x ρ' B σ0 H v, REnv K B σ0 H (wipeE ρ' vs) → Is K H v x → ∀ (Qy : V → Hp → Prop) (Qn : Hp → Prop), wantOne K W B (σ0.set tg (some v)) H Qy Qn (one x ρ') →
    tt (σ0.set tg (some v)) H (fun b H3 => if b = true then te (σ0.set tg (some v)) H3 Qy else Qn H3)
/-- what is wanted of a comprehension -/
def wantC (K : KM) (W : WX) (B : Hp) (σ : L2.St) (H : Hp) (Q : VK) : Res (Dat × Mode × DEnv) → Prop
  | .ok (d, m, ρ2) => Want K B σ ρ2 H d m Q
  | .exc c fs ρ2 => ∀ cls d H', REnv K B σ H' ρ2 → FrzLe H H' → XcR K H' cls d c fs → W cls d σ H'
  | .stuck => False
def pre (acc : List Dat) (r : Res (List Dat × DEnv)) : Res (List Dat × DEnv) := r.bind fun (ys, ρ) => .ok (acc ++ ys, ρ)
theorem pre_nil (r : Res (List Dat × DEnv)) : pre [] r = r := by
  cases r <;> rfl
theorem pre_put (acc : List Dat) (o : Option Dat) (r : Res (List Dat × DEnv)) : pre acc (r.bind fun (ys, ρ2) => .ok (put o ys, ρ2)) = pre (acc ++ o.toList) r := by
  cases r with
  | ok a =>
    obtain ⟨ys, ρ⟩ := a
    cases o with
    | none => show Res.ok (acc ++ ys, ρ) = Res.ok ((acc ++ []) ++ ys, ρ); rw [List.append_nil]
    | some y => show Res.ok (acc ++ (y :: ys), ρ) = Res.ok ((acc ++ [y]) ++ ys, ρ); rw [List.append_assoc]; rfl
  | exc c fs ρ => rfl
  | stuck => rfl

theorem comp_snd {K : KM} {W : WX} {J : It} {vs : List Nat} {tg : Nat} {tt : TT} {te : TE} {one : Dat → DEnv → Res (Option Dat × DEnv)} {xs : List Dat} {vI : List V} {ρ1 : DEnv} {B : Hp} {σ : L2.St} {H1 : Hp} {Q : VK}
    (st : StepOk K (fun cls d _ H => W cls d σ H) vs tg tt te one) (l : IsL K H1 vI xs) (wk : Walker J vI H1) (R : REnv K B σ H1 ρ1) (hm : tg ∈ vs) (w : wantC K W B σ H1 Q (comp vs one xs ρ1)) :
    ∀ D, H1 D = none → ∃ Wi : Nat → Nat → Hp → Prop, (∃ m, Wi 0 m (upd H1 D (.lst []))) ∧ ∀ i m H, Wi i m H →
      (J.stop i H ∧ Q (.ref D) H) ∨ (J.go i H ∧ ∃ Nx : Hp → Prop, (∀ H', Nx H' → ∃ m', m' < m ∧ Wi (i + 1) m' H') ∧ ∀ x H', J.yld i H x H' → gName tg x (L2.wipe σ vs) H' fun σ2 H2 => L2.wipe σ2 vs = L2.wipe σ vs ∧ tt σ2 H2 fun b H3 =>
        if b = true then te σ2 H3 fun y H4 => ∃ acc, H4 D = some (.lst acc) ∧ acc.length < sizeLine ∧ Nx (upd H4 D (.lst (acc ++ [y]))) else Nx H3) := by
  intro D hD
  unfold comp at w
  split at w
  case isFalse => exact w.elim
  rename_i hcc
  obtain ⟨hs, hc⟩ := Bool.and_eq_true_iff.mp hcc
  have bD : B D = none := R.newB hD
  have lenI := l.length
  have leD : ∀ z a o, B a = some o → upd B D z a = some o := fun z a o h => by rw [upd_ne (fun e => by subst e; rw [bD] at h; cases h)]; exact h
  refine ⟨fun i m H => ∃ ρi acc accV, m = xs.length - i ∧ i ≤ xs.length ∧ pre acc (turns one (xs.drop i) ρi) = turns one xs ρ1 ∧ H D = some (.lst accV) ∧ IsL K H accV acc ∧ acc.length ≤ i ∧
    REnv K (upd B D (.lst accV)) (L2.wipe σ vs) H (wipeE ρi vs) ∧ FrzLe H1 H, ⟨xs.length, ρ1, [], [], by omega, Nat.zero_le _, pre_nil _, upd_same, .nil, Nat.le_refl _, ?_, FrzLe.new hD⟩, ?_⟩
  · have R' := (R.new (o := .lst []) hD).wipe vs
    refine ⟨fun a o h => ?_, R'.len, R'.val, fun i d h => ?_, R'.sep, R'.exn⟩
    · by_cases z : a = D
      · subst z; rw [upd_same] at h; cases h; exact upd_same
      · rw [upd_ne z] at h; exact R'.base a o h
    · obtain ⟨p, p1, p2, p3⟩ := R'.own i d h
      refine ⟨p, p1, ?_, p3⟩
      have hp : p ≠ D := fun z => by
        subst z
        have iv : i ∉ vs := fun q => by
          have lt : i < σ.length := by
            have := (List.getElem?_eq_some_iff.mp p1).1
            rwa [wipe_length] at this
          rw [wipe_at q lt] at p1
          cases p1
        rw [wipe_get iv] at p1
        rw [wipeE_get iv] at h
        exact R.newS hD i d h p1
      rw [upd_ne hp]; exact p2
  · rintro i m H ⟨ρi, acc, accV, rfl, hi, hturn, hDl, hl, hal, RR, fr⟩
    by_cases hlt : i < xs.length
    · right
      have hx : xs[i]? = some xs[i] := List.getElem?_eq_getElem hlt
      obtain ⟨v, hv, hIs⟩ := l.get hx
      obtain ⟨hgo, hy⟩ := (wk i H fr).1 v hv
      rw [List.drop_eq_getElem_cons hlt] at hturn
      have hturn' : pre acc ((one xs[i] ρi).bind fun (o, ρ1) => (turns one (xs.drop (i + 1)) ρ1).bind fun (ys, ρ2) => .ok (put o ys, ρ2)) = turns one xs ρ1 := hturn
      refine ⟨hgo, fun H' => ∃ ρi' acc' accV', i + 1 ≤ xs.length ∧ pre acc' (turns one (xs.drop (i + 1)) ρi') = turns one xs ρ1 ∧ H' D = some (.lst accV') ∧ IsL K H' accV' acc' ∧ acc'.length ≤ i + 1 ∧
        REnv K (upd B D (.lst accV')) (L2.wipe σ vs) H' (wipeE ρi' vs) ∧ FrzLe H1 H', fun H' ⟨a1, a2, a3, a5, a6, a7, a8, a9, a10, a11⟩ => ⟨xs.length - (i + 1), by omega, a1, a2, a3, rfl, a5, a6, a7, a8, a9, a10, a11⟩, fun x H' hyl => ?_⟩
      obtain ⟨e1, e2⟩ := hy x H' hyl
      subst e1
      subst e2
      show L2.wipe ((L2.wipe σ vs).set tg (some x)) vs = L2.wipe σ vs ∧ tt _ _ _
      refine ⟨wipe_set hm, ?_⟩
      refine st xs[i] ρi (upd B D (.lst accV)) (L2.wipe σ vs) H' x RR (hIs.mono fr) _ _ ?_
      cases ho : one xs[i] ρi with
      | stuck =>
        rw [ho] at hturn'
        have e : turns one xs ρ1 = .stuck := hturn'.symm
        rw [e] at w
        exact w.elim
      | exc c fs ρ2 =>
        rw [ho] at hturn'
        have e : turns one xs ρ1 = .exc c fs ρ2 := hturn'.symm
        rw [e] at w
        intro cls d H4 R4 f4 xc
        have R5 := R4.wipe vs
        rw [wipe_set hm] at R5
        exact w cls d H4 (R.back hc (leD _) (fr.trans f4) R5).1 (fr.trans f4) xc
      | ok a =>
        obtain ⟨o, ρn⟩ := a
        rw [ho] at hturn'
        have h3 : pre (acc ++ o.toList) (turns one (xs.drop (i + 1)) ρn) = turns one xs ρ1 := by
          rw [← pre_put]
          exact hturn'
        cases o with
        | some d =>
          intro y H4 R4 f4 iy
          have hD4 : H4 D = some (.lst accV) := R4.base D _ upd_same
          refine ⟨accV, hD4, ?_, ρn, acc ++ [d], accV ++ [y], hlt, h3, upd_same, ?_, ?_, ?_, fr.trans (f4.trans (FrzLe.mut hD4 rfl))⟩
          · rw [hl.length]
            exact Nat.lt_of_le_of_lt hal (Nat.lt_of_lt_of_le hlt (sm_le hs))
          · exact ((hl.mono f4).append (.cons iy .nil)).mono (FrzLe.mut hD4 rfl)
          · rw [List.length_append]; simp; omega
          · have R5 := R4.wipe vs
            rw [wipe_set hm] at R5
            refine ⟨fun a o' h => ?_, R5.len, fun j d' h => ?_, fun j d' h => ?_, R5.sep, fun j cc fs h => ?_⟩
            · by_cases z : a = D
              · subst z; rw [upd_same] at h; cases h; exact upd_same
              · rw [upd_ne z] at h ⊢
                exact R5.base a o' (by rw [upd_ne z]; exact h)
            · obtain ⟨w', w1, w2⟩ := R5.val j d' h
              exact ⟨w', w1, w2.mono (FrzLe.mut hD4 rfl)⟩
            · obtain ⟨p, p1, p2, p3⟩ := R5.own j d' h
              have pn : p ≠ D := fun z => by subst z; rw [upd_same] at p2; cases p2
              rw [upd_ne pn] at p2
              exact ⟨p, p1, by rw [upd_ne pn]; exact p2, p3.mono (FrzLe.mut hD4 rfl) (upd_ne pn)⟩
            · obtain ⟨x, x1, x2, x3, x4⟩ := R5.exn j cc fs h
              exact ⟨x, x1, x2, x3, x4.mono (FrzLe.mut hD4 rfl)⟩
        | none =>
          intro H4 R4 f4
          have hD4 : H4 D = some (.lst accV) := R4.base D _ upd_same
          have R5 := R4.wipe vs
          rw [wipe_set hm] at R5
          refine ⟨ρn, acc, accV, hlt, ?_, hD4, hl.mono f4, by omega, R5, fr.trans f4⟩
          have h3' : pre (acc ++ []) (turns one (xs.drop (i + 1)) ρn) = turns one xs ρ1 := h3
          rwa [List.append_nil] at h3'
    · left
      have ei : i = xs.length := by omega
      subst ei
      rw [List.drop_length] at hturn
      have e : turns one xs ρ1 = .ok (acc, ρi) := by
        rw [← hturn]
        show Res.ok (acc ++ [], ρi) = _
        rw [List.append_nil]
      rw [e] at w
      refine ⟨(wk _ H fr).2 (by omega), ?_⟩
      obtain ⟨RB, own⟩ := R.back hc (leD _) fr RR
      refine w _ H RB fr ⟨D, rfl, ⟨accV, acc, rfl, hDl, hl⟩, bD, fun j e h => ?_⟩
      obtain ⟨p, p1, p2⟩ := own j e h
      intro z
      rw [p1] at z
      cases z
      rw [upd_same] at p2
      cases p2
end Ev
set_option Elab.async false
set_option linter.all false
set_option maxRecDepth 100000
set_option maxHeartbeats 4000000
/-! A list comprehension whose test or element may let an exception out: its block has no frame of its own, so the exception is noted at the def's frame. -/
namespace Ev
open PySem PySem.Spec PyProof.Rows L2

/-- behind the block: as the library's compPost, but the block's own environment is told where an exception comes out -/
def cpost (M : Model) (A : Around) (E : Value → Shared → Prop) (use : Option (Value → Sem Unit)) (Q : Value → Shared → Prop) (acc : Value) (ce : PySem.Env) : Result → Shared → Prop
  | .ok f, s' => compPost M A E use Q acc ce.locals (.ok f) s'
  | .error x, s' => ∃ m, s'.heap.Ns ce.locals m ∧ ∀ h', Heap.SameBut ce.locals s'.heap h' → wpAny M A (passOn "comprehension.variables-let-go" x ce : Sem Value) (fun _ _ => False) E { s' with heap := h' }

section
variable {M : Model} {A : Around} {E : Value → Shared → Prop} {s : Shared} {env : PySem.Env}
theorem comp_free {e : Expr} {scope : Scope} {pos : Pos} {na first : Sem Value} {g : Comprehension} {gs : List Comprehension} {cl : List (Str × Addr)} {use : Option (Value → Sem Unit)} {Q : Value → Shared → Prop}
    (h1 : clausesOf e = g :: gs) (h2 : ∀ x, foldedSetIterable g.iter env x = pure x) (h3 : closureFor scope env = pure cl) (h4 : scope.kind = .function) (h5 : ∀ x ∈ scope.names, x.2 = .local → scope.names.lookup x.1 = some .local)
    (h : wpAny M A first (fun x s₁ => wpAny M A (pyIter x) (fun it s₂ => wpAny M A na (fun acc s₃ => wpAny M A (newFunctionEnv scope env.globals cl [] env.qual none .none (some env)) (fun ce s₄ =>
        codeAny M A (.compStart e 0 it acc { ce with scope := relabel scope env }) (cpost M A E use Q acc { ce with scope := relabel scope env }) s₄) E s₃) E s₂) E s₁) E s) :
    wpAny M A (comprehension e scope env pos na false first use) Q E s := by
  unfold comprehension
  rw [h3, h1]
  refine wpAny_bind (wpAny_mono h (fun x s₁ k1 => ?_) fun _ _ z => z)
  refine wpAny_bind (wpAny_standAt (wpAny_bind (wpAny_of_eq (h2 x) (wpAny_bind (wpAny_holding (wpAny_mono k1 (fun it s₂ k2 => ?_) fun _ _ z => z))))))
  refine wpAny_standIf (wpAny_bind (wpAny_mono k2 (fun acc s₃ k3 => ?_) fun _ _ z => z))
  refine wpAny_bind (wpAny_pure (wpAny_bind (wpAny_mono k3 (fun ce s₄ k4 => ?_) fun _ _ z => z)))
  dsimp only
  generalize hvs : (scope.names.filter fun x => (x.2 == .local || x.2 == .cell) && x.1 != (".0" : Str)).reverse = vs
  have loc : ∀ x ∈ vs, x.2 = .local → Env.kindOf { ce with scope := relabel scope env } x.1 = some .local := fun x hx hl => by
    rw [← hvs] at hx
    exact lookup_relabel_local (h5 x (List.mem_filter.mp (List.mem_reverse.mp hx)).1 hl)
  have loc2 : ∀ x ∈ vs.drop 1 ++ vs.take 1, x.2 = .local → Env.kindOf { ce with scope := relabel scope env } x.1 = some .local := fun x hx hl => by
    rcases List.mem_append.mp hx with q | q
    · exact loc x (List.mem_of_mem_drop q) hl
    · exact loc x (List.mem_of_mem_take q) hl
  refine wpAny_holding (wpAny_bind (wpAny_attempt (wpAny_holding (wpAny_run (codeAny_mono k4 fun r s' hr => ?_)))))
  cases r with
  | error x =>
    obtain ⟨m, hn, hr⟩ := hr
    refine wpAny_bind (wpAny_holding (wpAny_comp_letGo (cenv := { ce with scope := relabel scope env }) h4 _ s' m loc hn fun h' m' _ hs' => ?_))
    exact wpAny_mono (hr h' hs') (fun _ _ f => f.elim) fun _ _ y => y
  | ok f =>
    cases use with
    | none =>
      obtain ⟨m, hn, hr⟩ := hr
      exact wpAny_bind (wpAny_holding (wpAny_comp_letGo (cenv := { ce with scope := relabel scope env }) h4 _ s' m loc hn fun h' m' _ hs' => wpAny_pure (hr h' hs')))
    | some u =>
      refine wpAny_bind (wpAny_rule (wpAny_bind (wpAny_holding (wpAny_mono hr (fun _ s2 hr' => ?_) fun _ _ z => z))))
      obtain ⟨m, hn, hr'⟩ := hr'
      exact wpAny_bind (wpAny_comp_letGo (cenv := { ce with scope := relabel scope env }) h4 _ s2 m loc2 hn fun h' m' _ hs' => wpAny_pure (hr' h' hs'))
end

/-- the frame is all that is asked of the environment -/
theorem noteFrame_eq {u : Value} {e1 e2 : PySem.Env} (h : e1.frame = e2.frame) : noteFrame u e1 = noteFrame u e2 := by
  unfold noteFrame PySem.frameOf
  rw [h]
theorem Sky.noted {B : Heap} {M : Model} {A : Around} {E₁ : Value → Shared → Prop} {s : Shared} {env : PySem.Env} {outer : List PySem.Env} {L a : Addr} {Z : Obj → Prop} {Q : Unit → Shared → Prop} (hZ : HandSPX.Steady Z) (hfr : A.frames = some (env :: outer)) (hf : env.frame = some L)
    (x : Sky B (env :: outer) a Z L s.heap) (hQ : ∀ h', HandSPX.HeldZ B (env :: outer) a Z L h' → s.heap.UpToSlots h' → Q () { s with heap := h' }) : wpAny M A (noteFrame (.ref a) env) Q E₁ s := by
  rcases x with ⟨hB, hn, hl, oe, vs, he, hz, hd, h1⟩ | fl | hh
  · exact HandSPX.look_newZ hZ hfr hl hf he hB hn hd h1 hz hQ
  · exact HandSPX.looks_onZ hZ hfr hf fl hQ
  · exact HandSPX.againZ hf hh.2.2.2 (hQ s.heap hh (Heap.UpToSlots.refl _))
/-- what the comprehension's exception does to the air of X -/
theorem out_of_block {X : Cx} {W : WX} {L a C : Addr} {B : Heap} {sI s' : Shared} {pins : List (Addr × Obj)} {σ : L2.St} {H : Hp} {cls : Value} {d : Option Addr} {ce : PySem.Env} {Ef : Value → Shared → Prop} {m : Str → Option Value}
    (tk : TakesF X W) (fm : Frm X L) (hce : ce.frame = some L) (hC : ce.locals = C) (I : Inv X pins σ H sI) (nb : ∀ b o, sI.heap.get? b = some o → b ∉ frs X.stack → B.get? b = some o) (up : sI.heap.UpToSlots s'.heap)
    (sky : Sky B X.stack a (Zc cls d) L s'.heap) (na : H a = none) (os : s'.os = sI.os) (ag : AllBare s'.gens) (hn : sI.heap.Ns C m) (fp : FpOk X pins H C) (w : W cls d σ H)
    {use : Option (Value → Sem Unit)} {Qf : Value → Shared → Prop} {acc : Value} :
    wpAny (model X.prog X.w) X.A (noteFrame (.ref a) ce) (fun _ s2 => cpost (model X.prog X.w) X.A X.xe use Qf acc ce (.error (.ref a)) s2) Ef s' := by
  obtain ⟨e0, o0, hst, h0⟩ := fm.ex
  rw [noteFrame_eq (hce.trans h0.symm)]
  have hfr : X.A.frames = some (e0 :: o0) := by rw [I.ok.frames, hst]
  rw [hst] at sky
  refine Sky.noted Zc.steady hfr h0 sky fun h1 hh up1 => ?_
  have up2 := up.trans up1
  have ns1 : h1.Ns C m := up2.ns hn
  subst hC
  refine ⟨m, ns1, fun h2 sb => ?_⟩
  -- the comprehension's own dict, in the ground
  obtain ⟨oC, es, ep, hoC, hdC, hmC⟩ := id hn
  have nfs : ce.locals ∉ frs X.stack := fun z => by
    rcases List.mem_cons.mp (I.stkSub _ z) with q | q
    · exact fp.2.1 q
    · exact fp.2.2.1 q
  have hBC : B.get? ce.locals = some oC := nb _ _ hoC nfs
  obtain ⟨k1, k2, k3, oe, vs, T, oT, ts, g1, gz, g2, g3, gT, gne, g4, g5, g6⟩ := hh
  have neT : T ≠ ce.locals := fun z => by rw [z, hBC] at gT; cases gT
  have neA : a ≠ ce.locals := fun z => by rw [z, hBC] at k2; cases k2
  have lt : ce.locals < h1.objs.size := Heap.lt_size (k1 _ _ hBC)
  -- the heap behind: the dict is let go, or changed
  obtain ⟨G, gG1, gG2⟩ := restrict B fun b => decide (b ≠ ce.locals)
  have GB : ∀ b o, G.get? b = some o → B.get? b = some o ∧ b ≠ ce.locals := fun b o e => by
    by_cases hb : b = ce.locals
    · rw [gG2 b (decide_eq_false fun z => z hb)] at e; cases e
    · exact ⟨by rw [← gG1 b (decide_eq_true hb)]; exact e, hb⟩
  obtain ⟨GI, gI1, gI2⟩ := restrict sI.heap fun b => decide (b ≠ ce.locals)
  have GIs : ∀ b o, GI.get? b = some o → sI.heap.get? b = some o ∧ b ≠ ce.locals := fun b o e => by
    by_cases hb : b = ce.locals
    · rw [gI2 b (decide_eq_false fun z => z hb)] at e; cases e
    · exact ⟨by rw [← gI1 b (decide_eq_true hb)]; exact e, hb⟩
  have sG : G.StaysIn h2 := fun b o e => by
    obtain ⟨q1, q2⟩ := GB b o e
    rw [sb.2 b q2]
    exact k1 b o q1
  have held : HandSPX.HeldZ G (e0 :: o0) a (Zc cls d) L h2 := by
    refine ⟨sG, ?_, ?_, oe, vs, T, oT, ts, ?_, gz, g2, g3, ?_, gne, ?_, g5, g6⟩
    · cases q : G.get? a with
      | none => rfl
      | some o => rw [(GB a o q).1] at k2; cases k2
    · refine funFrames_none (base := B) ?_ fun b hb => ?_
      · have kk : ∀ b ∈ frs (e0 :: o0), b ≠ ce.locals := fun b hb z => nfs (by rw [hst, ← z]; exact hb)
        have go : ∀ l : List PySem.Env, (∀ b ∈ frs l, b ≠ ce.locals) → h1.FunFrames B l → h2.FunFrames B l := by
          intro l
          induction l with
          | nil => intro _ _; trivial
          | cons e r ih =>
            intro hne hl
            obtain ⟨q1, ⟨L', o', q2, q3, q4, q5⟩, q6⟩ := hl
            have hL' : L' ∈ frs (e :: r) := by
              unfold frs
              rw [List.filterMap_cons, q2]
              exact List.mem_cons_self
            refine ⟨q1, ⟨L', o', q2, q3, ?_, q5⟩, ih (fun b hb => hne b ?_) q6⟩
            · rw [sb.2 L' (hne L' hL')]; exact q4
            · unfold frs
              rw [List.filterMap_cons, q2]
              exact List.mem_cons_of_mem _ hb
        exact go _ kk k3
      · cases q : G.get? b with
        | none => rfl
        | some o =>
          have z := (k3.mem hb).1
          rw [(GB b o q).1] at z
          cases z
    · rw [sb.2 a neA]; exact g1
    · cases q : G.get? T with
      | none => rfl
      | some o => rw [(GB T o q).1] at gT; cases gT
    · rw [sb.2 T neT]; exact g4
  have I2 : Inv X pins σ H { sI with heap := GI } := I.turned (t' := sI.toks) (fun b o hb e => by rw [gI1 b (decide_eq_true hb)]; exact e) fp.1 fp.2.1 fp.2.2.2.1 fp.2.2.2.2.1 fp.2.2.2.2.2
  show wpAny _ _ (passOn _ (Value.ref a) ce) _ _ _
  unfold PySem.passOn
  obtain ⟨hkb, hen, hl, hT⟩ := id held
  refine wpAny_bind (wpAny_field (by rw [sb.2 a neA]; exact g1) g2 g3 ?_)
  rw [if_neg (show ¬ ((Value.ref T == Value.none) = true) from by simp)]
  refine wpAny_bind ?_
  rw [hce]
  refine HandSPX.setFlight_onZ held fun h3 held3 up3 => ?_
  refine wpAny_throw (tk _ _ ⟨a, G, { sI with heap := GI }, pins, σ, H, cls, d, L, fm.fr, rfl, I2, fun b o e hb => ?_, ?_, .inr (.inr (by rw [hst]; exact held3)), na, os, ag, w⟩)
  · obtain ⟨q1, q2⟩ := GIs b o e
    rw [gG1 b (decide_eq_true q2)]
    exact nb b o q1 hb
  · intro b o e hd
    obtain ⟨q1, q2⟩ := GIs b o e
    obtain ⟨sl, z⟩ := up2 b o q1 hd
    rw [← sb.2 b q2] at z
    obtain ⟨sl2, z2⟩ := up3 b _ z hd
    exact ⟨sl2, z2⟩
end Ev
set_option Elab.async false
set_option linter.all false
set_option maxRecDepth 100000
set_option maxHeartbeats 4000000
namespace Ev
open PySem PySem.Spec PyProof.Rows L2
/-- a comprehension's block, with a wish about exceptions -/
abbrev _root_.L2.Cx.blkX (X : Cx) (s : Shared) (H : Hp) (scope : Scope) (ce : PySem.Env) (fp : List Addr) (xe : Value → Shared → Prop) : Cx := { X.blk s H scope ce fp with xe := xe }
theorem Inv.toX {X : Cx} {pins : List (Addr × Obj)} {σ : L2.St} {H : Hp} {s : Shared} (I : Inv X pins σ H s) (xe : Value → Shared → Prop) : Inv { X with xe := xe } pins σ H s :=
  ⟨⟨I.ok.mod, I.ok.kind, I.ok.glob, I.ok.blt, I.ok.above, I.ok.inj, I.ok.has, I.ok.cab, I.ok.hd, I.ok.frames, I.ok.stk, I.ok.exf, I.ok.bs, I.ok.bsz, I.ok.noex, I.ok.exfs, I.ok.funs, I.ok.frf⟩, I.os, I.bare, I.base, I.loc, I.cell, I.free, I.freeC, I.pin, I.hok, I.len⟩

section
variable {X : Cx}
/-- the wish in the block: the def's slots are those at the comprehension -/
abbrev wIn (W : WX) (σ : L2.St) : WX := fun cls d _ H => W cls d σ H
theorem lcX {pins : List (Addr × Obj)} {s : Shared} {σ : L2.St} {H : Hp} {Q : VK} {elt tg iter : Expr} {ifs : List Expr} {scope : Scope} {own : List (Str × Nat)} {pos pos' : Pos} {wi : TI} {g : TG} {tt : TT} {te : TE}
    {use : Option (Value → Sem Unit)} {Qf : Value → Shared → Prop} {W : WX} {L : Addr} (hc : X.calm = true) (hN : X.N.Nodup) (I : Inv X pins σ H s) (hi : PI X tg iter wi) (ok : BlkOk X.N X.env.scope scope own) (tk : TakesF X W) (fm : Frm X L)
    (hg : ∀ (s : Shared) (H : Hp) (C : Addr) (cl : List (Str × Addr)) (fp : List Addr) (xe : Value → Shared → Prop), PG (X.blkX s H scope (compEnvC scope cl C X.env) fp xe) tg g)
    (ht : ∀ (s : Shared) (H : Hp) (C : Addr) (cl : List (Str × Addr)) (fp : List Addr) (xe : Value → Shared → Prop), TakesF (X.blkX s H scope (compEnvC scope cl C X.env) fp xe) (wIn W σ) → PTs (X.blkX s H scope (compEnvC scope cl C X.env) fp xe) ifs tt)
    (he : ∀ (s : Shared) (H : Hp) (C : Addr) (cl : List (Str × Addr)) (fp : List Addr) (xe : Value → Shared → Prop), TakesF (X.blkX s H scope (compEnvC scope cl C X.env) fp xe) (wIn W σ) → PE (X.blkX s H scope (compEnvC scope cl C X.env) fp xe) elt te)
    (hs : ∀ x, foldedSetIterable iter X.env x = pure x) (h : tLc wi g tt te (own.map (·.2)) σ H Q)
    (hR : ∀ D C s' m H', Inv X pins σ H' s' → Q (.ref D) H' → s'.heap.Ns C m → FpOk X pins H' C → compPost (model X.prog X.w) X.A X.xe use Qf (.ref D) C (.ok .next) s') :
    wpAny (model X.prog X.w) X.A (comprehension (.ListComp elt [⟨tg, iter, ifs, 0⟩] scope pos) scope X.env pos' (newList []) false (eval iter X.env) use) Qf X.xe s := by
  have hfree : ∀ y ∈ scope.names, y.2 = .free → ∃ c, X.env.cells.lookup y.1 = some c := fun y hy e => (ok.free y hy e).elim (fun k => I.ok.has _ (.inl k)) fun k => I.ok.has _ (.inr k)
  refine comp_free (use := use) rfl hs (closure_ok hfree) ok.kind (fun y hy e => by rw [ok.uniq y hy, e]) (thn (hi.run pins s σ H _ I h) fun xv s1 hx => thn hx fun itv s2 k2 => ?_)
  obtain ⟨it, fp, tn, J, H2, rfl, I2, T, st2, f2, q⟩ := k2
  refine wpAny_newObj_type (newEnv_comp ?_) (by show 0 ≤ sizeLine; decide)
  generalize hD : s2.heap.objs.size = D
  have hDn : H2 D = none := I2.hok.fresh (Nat.le_of_eq hD)
  obtain ⟨Wi, ⟨m0, w0⟩, turn⟩ := q D hDn
  generalize hs3 : ({ s2 with heap := s2.heap.push { cls := .type "list", data := .seq ([] : List Value).toArray } } : Shared) = s3
  have h3 : s3.heap = s2.heap.push { cls := .type "list", data := .seq ([] : List Value).toArray } := by rw [← hs3]
  have I3 : Inv X pins σ (upd H2 D (.lst [])) s3 := by
    rw [← hs3]
    exact I2.laid (t' := s2.toks) (fun b o e => Heap.get?_push_of_some _ e) (Nat.le_of_eq hD) ⟨Nat.zero_le _, [], 0, .nil, by rw [← hD]; exact Heap.get?_push_size _ rfl⟩
  have f3 : ∀ b ∈ fp, FpOk X pins (upd H2 D (.lst [])) b ∧ b < s3.heap.objs.size := fun b hb => by
    obtain ⟨o, e, _⟩ := T.obj _ _ st2 b hb
    have hlt := Heap.lt_size e
    exact ⟨⟨by rw [upd_ne (by rw [← hD]; exact Nat.ne_of_lt hlt)]; exact (f2 b hb).1, (f2 b hb).2⟩, by rw [h3, Heap.size_push]; exact Nat.lt_succ_of_lt hlt⟩
  have st3 : tn 0 s3.heap := T.keep _ _ _ st2 fun b _ o e => by
    rw [h3]
    exact Heap.get?_push_of_some _ e
  have I4 := block_start I3 ok hN f3
  generalize hcl : cellsFrom (s3.heap.objs.size + 1) scope.names (cloFrom X.env.cells scope.names []) = cl at I4 ⊢
  show codeAny _ _ (.compStart (.ListComp elt [⟨tg, iter, ifs, 0⟩] scope pos) 0 (.ref it) (.ref D) (compEnvC scope cl s3.heap.objs.size X.env)) (cpost (model X.prog X.w) X.A X.xe use Qf (.ref D) (compEnvC scope cl s3.heap.objs.size X.env)) _
  have nfp : ∀ b ∈ fp, (upd H2 D (.lst [])) b = none := fun b hb => (f3 b hb).1.1
  have pg := hg s3 (upd H2 D (.lst [])) s3.heap.objs.size cl fp
  have pt := ht s3 (upd H2 D (.lst [])) s3.heap.objs.size cl fp
  have pe := he s3 (upd H2 D (.lst [])) s3.heap.objs.size cl fp
  generalize hce : compEnvC scope cl s3.heap.objs.size X.env = ce at I4 pg pt pe ⊢
  have cL : ce.locals = s3.heap.objs.size := by subst hce; rfl
  have cF : ce.frame = some L := by
    subst hce
    exact fm.fr
  generalize hH3 : upd H2 D (.lst []) = H3 at I3 I4 pg pt pe w0 nfp f3
  generalize hs4 : ({ s3 with heap := pushCells (s3.heap.push { cls := .type "dict", data := .dict #[] }) scope.names } : Shared) = s4 at I4 ⊢
  have st4 : tn 0 s4.heap := T.keep _ _ _ st3 fun b _ o e => by
    rw [← hs4]
    exact pushCells_keeps _ _ _ _ (Heap.get?_push_of_some _ e)
  -- the wish of the block
  obtain ⟨xe, hxe⟩ : ∃ xe : Value → Shared → Prop, xe = notedBy (model X.prog X.w) X.A ce (fun e s' => cpost (model X.prog X.w) X.A X.xe use Qf (.ref D) ce (.error e) s') := ⟨_, rfl⟩
  have back : ∀ {σ' : L2.St} {H' : Hp} {s' : Shared} {pn : List (Addr × Obj)}, Inv (X.blkX s3 H3 scope ce fp xe) pn σ' H' s' → Inv X pins σ H' s' := fun {σ' H' s' pn} I' =>
    I3.call' (ch := fp) I'.os I'.base I'.hok I'.bare fun b hb => ⟨(f3 b hb).1.2.2.2.1, (f3 b hb).1.2.1, (f3 b hb).1.2.2.2.2.1, (f3 b hb).1.2.2.2.2.2⟩
  have cFp : ∀ {σ' : L2.St} {H' : Hp} {s' : Shared} {pn : List (Addr × Obj)}, Inv (X.blkX s3 H3 scope ce fp xe) pn σ' H' s' → (∃ m, s'.heap.Ns s3.heap.objs.size m) ∧ FpOk X pins H' s3.heap.objs.size := fun {σ' H' s' pn} I' => by
    have z : H' ce.locals = none := I'.free
    obtain ⟨m, hn, _⟩ := I'.loc
    have hn : s'.heap.Ns ce.locals m := hn
    rw [cL] at z hn
    exact ⟨⟨m, hn⟩, I3.fpOk (Nat.le_refl _) z⟩
  have tkB : TakesF (X.blkX s3 H3 scope ce fp xe) (wIn W σ) := by
    rintro u s' ⟨a, B, sI, pn, σ', H', cls, d, L', hL', rfl, I', nb, up, sky, na, os, ag, w⟩
    have eL : L' = L := by
      have z : ce.frame = some L' := hL'
      rw [cF] at z
      cases z
      rfl
    subst eL
    show xe (.ref a) s'
    rw [hxe]
    obtain ⟨⟨m, hn⟩, hf⟩ := cFp I'
    exact out_of_block tk fm cF cL (back I') nb up sky na os ag hn hf w
  replace pg := pg xe
  replace pt := pt xe tkB
  replace pe := pe xe tkB
  have I4 : Inv (X.blkX s3 H3 scope ce fp xe) [] (L2.wipe σ (own.map (·.2))) H3 s4 := Inv.toX I4 xe
  have stat : ∀ {σ' : L2.St} {H' : Hp} {s' : Shared}, Inv (X.blkX s3 H3 scope ce fp xe) [] σ' H' s' → (∀ b ∈ fp, H' b = none) → ∀ b ∈ fp, FpOk (X.blkX s3 H3 scope ce fp xe) [] H' b := fun {σ' H' s'} I' hn b hb =>
    ⟨hn b hb, (I'.ok.exf b hb).1, I'.ok.exfs b hb, .inl hb, fun x c e => (I'.ok.exf b hb).2 x c e, fun p hp => nomatch (show p ∈ ([] : List (Addr × Obj)) from hp)⟩
  have loop : codeAny (model X.prog X.w) X.A (.compLoop (.ListComp elt [⟨tg, iter, ifs, 0⟩] scope pos) 0 (.ref it) (.ref D) ce) (cpost (model X.prog X.w) X.A X.xe use Qf (.ref D) ce) s4 := by
    refine compLoop_any (fun n s' => ∃ i H', Inv (X.blkX s3 H3 scope ce fp xe) [] (L2.wipe σ (own.map (·.2))) H' s' ∧ tn i s'.heap ∧ (∀ b ∈ fp, H' b = none) ∧ Wi i n H') ?_ m0 ⟨0, H3, I4, st4, nfp, w0⟩
    rintro n s5 ⟨i, H5, I5, st5, n5, w5⟩
    rw [← hxe]
    rcases turn i n H5 w5 with ⟨stop, qq⟩ | ⟨go, Nx, hNx, step⟩
    · refine thnF (T.done (X.blkX s3 H3 scope ce fp xe) rfl rfl rfl hc i [] s5 _ H5 (fun _ _ => False) I5 (stat I5 n5) st5 stop) fun r s6 ⟨hr, I6⟩ => ?_
      subst hr
      obtain ⟨⟨m, hn⟩, hf⟩ := cFp I6
      show compPost _ _ _ _ _ _ ce.locals _ _
      rw [cL]
      exact hR D s3.heap.objs.size s6 m H5 (back I6) qq hn hf
    · refine thnF (T.item (X.blkX s3 H3 scope ce fp xe) rfl rfl rfl hc i [] s5 _ H5 (fun _ _ => False) I5 (stat I5 n5) st5 go) fun r s6 ⟨u, hr, h6⟩ => ?_
      subst hr
      refine thnF h6 fun _ s7 ⟨x, H7, I7, r7, y7, st7, n7⟩ => ?_
      have I7' := I7.pinned (stat I7 n7) (T.obj _ _ st7)
      refine thn (pg.run _ s7 _ H7 x u _ I7' r7 (step x H7 y7)) fun _ s8 ⟨σ8, H8, I8, hw8, q8⟩ => ?_
      refine thn (pt.run _ s8 σ8 H8 _ I8 q8) fun b s9 ⟨H9, I9, q9⟩ => ?_
      have fin : ∀ {s' : Shared} {H' : Hp}, Inv (X.blkX s3 H3 scope ce fp xe) ([] ++ pinsAt fp s7.heap) σ8 H' s' → Nx H' → ∃ m, m < n ∧ ∃ i H', Inv (X.blkX s3 H3 scope ce fp xe) [] (L2.wipe σ (own.map (·.2))) H' s' ∧ tn i s'.heap ∧ (∀ b ∈ fp, H' b = none) ∧ Wi i m H' := fun {s' H'} I' nx => by
        obtain ⟨m', hm, w'⟩ := hNx H' nx
        have pin' : ∀ b ∈ fp, ∀ o, s7.heap.get? b = some o → s'.heap.get? b = some o ∧ H' b = none := fun b hb o e =>
          let z := I'.pin (b, o) (List.mem_append_right _ (List.mem_append_right _ (mem_pinsAt hb e)))
          ⟨z.1, z.2.1⟩
        refine ⟨m', hm, i + 1, H', (I'.unpinned (pins := [])).weak (by rw [← hw8, wipe_length]) (fun j v e => ?_), T.keep _ _ _ st7 fun b hb o e => (pin' b hb o e).1, fun b hb => ?_, w'⟩
        · rw [← hw8] at e
          exact (wipe_some e).1
        · obtain ⟨o, e, _⟩ := T.obj _ _ st7 b hb
          exact (pin' b hb o e).2
      cases b with
      | false =>
        simp only [Bool.false_eq_true, if_false] at q9 ⊢
        exact fin I9 q9
      | true =>
        simp only [if_true] at q9 ⊢
        refine thn (pe.run _ s9 σ8 H9 _ I9 q9) fun z s10 ⟨yv, H10, I10, r10, acc, hD10, hz10, nx⟩ => ?_
        exact app_ok (X := X.blkX s3 H3 scope ce fp xe) I10 hD10 hz10 r10 fun s11 I11 => fin I11 nx
  exact codeAny_compStart_list loop (T.self X.A 0 _ _ _ st4 loop)
/-- as a value -/
theorem pe_lcX {elt tg iter : Expr} {ifs : List Expr} {scope : Scope} {own : List (Str × Nat)} {pos : Pos} {wi : TI} {g : TG} {tt : L2.St → TT} {te : L2.St → TE} {W : WX} {L : Addr} (hc : X.calm = true) (hN : X.N.Nodup) (hi : PI X tg iter wi) (ok : BlkOk X.N X.env.scope scope own) (tk : TakesF X W) (fm : Frm X L)
    (hg : ∀ (s : Shared) (H : Hp) (C : Addr) (cl : List (Str × Addr)) (fp : List Addr) (xe : Value → Shared → Prop), PG (X.blkX s H scope (compEnvC scope cl C X.env) fp xe) tg g)
    (ht : ∀ (σ : L2.St) (s : Shared) (H : Hp) (C : Addr) (cl : List (Str × Addr)) (fp : List Addr) (xe : Value → Shared → Prop), TakesF (X.blkX s H scope (compEnvC scope cl C X.env) fp xe) (wIn W σ) → PTs (X.blkX s H scope (compEnvC scope cl C X.env) fp xe) ifs (tt σ))
    (he : ∀ (σ : L2.St) (s : Shared) (H : Hp) (C : Addr) (cl : List (Str × Addr)) (fp : List Addr) (xe : Value → Shared → Prop), TakesF (X.blkX s H scope (compEnvC scope cl C X.env) fp xe) (wIn W σ) → PE (X.blkX s H scope (compEnvC scope cl C X.env) fp xe) elt (te σ))
    (hs : ∀ x, foldedSetIterable iter X.env x = pure x) :
    PE X (.ListComp elt [⟨tg, iter, ifs, 0⟩] scope pos) (fun σ H Q => tLc wi g (tt σ) (te σ) (own.map (·.2)) σ H Q) := by
  refine ⟨fun pins s σ H Q I h => ?_⟩
  rw [eval_ListComp]
  refine lcX hc hN I hi ok tk fm hg (ht σ) (he σ) hs h fun D C s' m H' I' q hn f => ⟨m, hn, fun h2 sb => ?_⟩
  obtain ⟨f0, f1, f2, f3, f4, f5⟩ := f
  exact ⟨.ref D, H', I'.turned (t' := s'.toks) (fun b o hb e => (sb.2 b hb).trans e) f0 f1 f3 f4 f5, rfl, q⟩
/-- given to a name on the same row -/
theorem ps_setLcX {i : Nat} {y : Str} {py : Pos} {elt tg iter : Expr} {ifs : List Expr} {scope : Scope} {own : List (Str × Nat)} {pos spos : Pos} {wi : TI} {g : TG} {tt : L2.St → TT} {te : L2.St → TE} {W : WX} {L : Addr} (hc : X.calm = true) (hN : X.N.Nodup) (hy : X.N[i]? = some y) (hyl : X.env.scope.names.lookup y = some .local)
    (hsw : swapsWith (.ListComp elt [⟨tg, iter, ifs, 0⟩] scope pos) (some (.Name y py)) spos.line X.env = pure true) (hi : PI X tg iter wi) (ok : BlkOk X.N X.env.scope scope own) (tk : TakesF X W) (fm : Frm X L)
    (hg : ∀ (s : Shared) (H : Hp) (C : Addr) (cl : List (Str × Addr)) (fp : List Addr) (xe : Value → Shared → Prop), PG (X.blkX s H scope (compEnvC scope cl C X.env) fp xe) tg g)
    (ht : ∀ (σ : L2.St) (s : Shared) (H : Hp) (C : Addr) (cl : List (Str × Addr)) (fp : List Addr) (xe : Value → Shared → Prop), TakesF (X.blkX s H scope (compEnvC scope cl C X.env) fp xe) (wIn W σ) → PTs (X.blkX s H scope (compEnvC scope cl C X.env) fp xe) ifs (tt σ))
    (he : ∀ (σ : L2.St) (s : Shared) (H : Hp) (C : Addr) (cl : List (Str × Addr)) (fp : List Addr) (xe : Value → Shared → Prop), TakesF (X.blkX s H scope (compEnvC scope cl C X.env) fp xe) (wIn W σ) → PE (X.blkX s H scope (compEnvC scope cl C X.env) fp xe) elt (te σ))
    (hs : ∀ x, foldedSetIterable iter X.env x = pure x) :
    PS X (.Assign [.Name y py] (.ListComp elt [⟨tg, iter, ifs, 0⟩] scope pos) spos) (tAsg (fun σ H Q => tLc wi g (tt σ) (te σ) (own.map (·.2)) σ H Q) (gName i)) := by
  refine ⟨fun pins s σ H D I h => ?_⟩
  rw [exec_Assign_Name_used _ _ _ _ hsw]
  refine wpAny_bind (wpAny_standAt (wpAny_bind ?_))
  have h : tLc wi g (tt σ) (te σ) (own.map (·.2)) σ H (fun x H1 => gName i x σ H1 D.nx) := h
  show wpAny _ X.A (do let _ ← comprehension (.ListComp elt [⟨tg, iter, ifs, 0⟩] scope pos) scope X.env _ (newList []) false (eval iter X.env) (some (assign (.Name y py) X.env))) _ _ s
  refine wpAny_bind (thn (lcX (Qf := fun _ s' => SP X pins D .next s') hc hN I hi ok tk fm hg (ht σ) (he σ) hs h fun D' C s' m H' I' q hn f => ?_) fun _ s' hq => wpAny_pure (wpAny_pure hq))
  show wpAny _ _ (assign (.Name y py) X.env (.ref D')) _ _ _
  refine wpAny_assign_Name (store_ok2 (v := V.ref D') I' hN hy (.inl hyl) rfl (fun s2 I2 ⟨a, sb, ha⟩ => ?_) (.inr hyl))
  obtain ⟨f0, f1, f2, f3, f4, f5⟩ := f
  have haC : C ≠ a := ha.elim (fun z => by rw [z]; exact f1) fun z e => f4 y a z e.symm
  exact ⟨m, hn.sameBut sb haC, fun h3 sb3 => ⟨_, H', I2.turned (t' := s2.toks) (fun b o hb e => (sb3.2 b hb).trans e) f0 f1 f3 f4 f5, q⟩⟩
end
end Ev
set_option Elab.async false
set_option linter.all false
set_option maxRecDepth 100000
namespace Ev
open PySem PySem.Spec PyProof.Rows L2
variable {ea : Option EA}
def kinds7 : List String := ["NoneType", "bool", "int", "str", "list", "tuple", "dict"]
theorem kit_all : ∀ t ∈ kinds7, ∀ ty ∈ tys6, kitB t ty = some (isaN t ty) := by decide +kernel
theorem tyn_mem (d : Dat) (h : d.isObj = false) : d.tyn ∈ kinds7 := by cases d with
  | obj _ _ => cases h
  | _ => simp [Dat.tyn, kinds7]
theorem Rdb.isNot {K : KM} {H : Hp} {v : V} {d : Dat} (h : Rdb K H v d) (n : ∀ ds, d ≠ .lst ds) : Is K H v d := by
  rcases h with h | ⟨p, _, _, _, e, _⟩
  · exact h
  · exact absurd e (n _)
theorem isa_is {d : Dat} {ty : String} {b : Bool} (h : d.isa ty = some b) : ty ∈ tys6 ∧ d.isObj = false ∧ b = isaN d.tyn ty := by
  unfold Dat.isa at h
  split at h
  · rename_i c; cases h; exact ⟨c.1, c.2, rfl⟩
  · cases h
theorem call_isiR {X : Cx} {d : Dat} {ty : String} {b : Bool} (h : d.isa ty = some b) : CallR X (.builtin "isinstance") (fun xs H Q => ∃ x, xs = [x, .ty ty] ∧ Rdb (X.km ea) H x d ∧ Q (.bl b) H) := by
  intro pins s σ H xs us Q I r hh
  obtain ⟨x, rfl, a, q⟩ := hh
  obtain ⟨u1, u2, rfl, r1, r2⟩ := vals2 r
  cases (show u2 = Value.type ty from r2)
  obtain ⟨h1, h2, rfl⟩ := isa_is h
  have e : PySem.W.kitOne X.K (.type d.tyn) (.type ty) = some (isaN d.tyn ty) := kit_ty (kit_all _ (tyn_mem d h2) _ h1)
  cases d with
  | non =>
    have a := a.isNot (by intro ds z; cases z)
    cases a; cases r1; exact PySem.W.kia_one PySem.W.kitx_none I.kIn True.intro e (fun z => nomatch z) fun tk => ⟨.bl _, H, I.tok tk, rfl, q⟩
  | bl _ => cases a.bl; cases r1; exact PySem.W.kia_one PySem.W.kitx_bool I.kIn True.intro e (fun z => nomatch z) fun tk => ⟨.bl _, H, I.tok tk, rfl, q⟩
  | int _ => cases a.int; obtain ⟨t, rfl⟩ := r1; exact PySem.W.kia_one PySem.W.kitx_int I.kIn True.intro e (fun z => nomatch z) fun tk => ⟨.bl _, H, I.tok tk, rfl, q⟩
  | str _ => cases a.str; obtain ⟨t, rfl⟩ := r1; exact PySem.W.kia_one PySem.W.kitx_str I.kIn True.intro e (fun z => nomatch z) fun tk => ⟨.bl _, H, I.tok tk, rfl, q⟩
  | lst _ =>
    obtain ⟨p, vs, rfl, hq, _⟩ := a.lst
    cases r1
    obtain ⟨its, rv, pl, hz⟩ := I.list hq
    obtain ⟨o, k1, k2, _⟩ := pl.isList
    exact PySem.W.kia_one PySem.W.kitx_list I.kIn ⟨_, k1, k2⟩ e (fun z => nomatch z) fun tk => ⟨.bl _, H, I.tok tk, rfl, q⟩
  | tup _ =>
    obtain ⟨p, vs, rfl, hq, _⟩ := a.tup
    cases r1
    obtain ⟨its, rv, ⟨o, k1, k2, _⟩, hz⟩ := I.tuple hq
    exact PySem.W.kia_one PySem.W.kitx_tuple I.kIn ⟨_, k1, k2⟩ e (fun z => nomatch z) fun tk => ⟨.bl _, H, I.tok tk, rfl, q⟩
  | scr _ =>
    obtain ⟨p, rfl, hq⟩ := a.scr
    cases r1
    obtain ⟨its, rv, pl, hz⟩ := I.list hq
    obtain ⟨o, k1, k2, _⟩ := pl.isList
    exact PySem.W.kia_one PySem.W.kitx_list I.kIn ⟨_, k1, k2⟩ e (fun z => nomatch z) fun tk => ⟨.bl _, H, I.tok tk, rfl, q⟩
  | obj _ _ => cases h2
  | dic _ =>
    have a := a.isNot (by intro ds z; cases z)
    cases a with
    | dic k1 k2 =>
    cases r1
    obtain ⟨k3, _⟩ := I.hok _ _ k1
    exact PySem.W.kia_one PySem.W.kitx_dict I.kIn ⟨_, k3, k2⟩ e (fun z => nomatch z) fun tk => ⟨.bl _, H, I.tok tk, rfl, q⟩
end Ev
set_option Elab.async false
set_option linter.all false
set_option maxRecDepth 100000
namespace Ev
open PySem PySem.Spec PyProof.Rows L2
variable {ea : Option EA}

/-- the reading of what a piece comes to: a value, or an exception that it lets out -/
def tR (K : KM) (W : WX) (ρ : DEnv) (r : Res (Dat × Mode × DEnv)) : TE := fun σ H Q => ∃ B, REnv K B σ H ρ ∧ wantC K W B σ H Q r
/-- what is handed on -/
def keepR (r : Res (Dat × Mode × DEnv)) : Res (Dat × Mode × DEnv) := r.bind fun (d, m, ρ) => .ok (d, .frz, keep m ρ d)
def tUK (K : KM) (W : WX) (T : Tab) (ie : IE) : TE := fun σ H Q => ∃ ρ, tR K W ρ (keepR (ev T ie ρ)) σ H Q
/-- .. of a test -/
def wantT (K : KM) (W : WX) (B : Hp) (σ : L2.St) (H : Hp) (Q : Bool → Hp → Prop) : Res (Dat × Mode × DEnv) → Prop
  | .ok (.bl b, _, ρ2) => ∀ H', REnv K B σ H' ρ2 → FrzLe H H' → Q b H'
  | .ok _ => False
  | .exc c fs ρ2 => ∀ cls d H', REnv K B σ H' ρ2 → FrzLe H H' → XcR K H' cls d c fs → W cls d σ H'
  | .stuck => False
def tRT (K : KM) (W : WX) (ρ : DEnv) (r : Res (Dat × Mode × DEnv)) : TT := fun σ H Q => ∃ B, REnv K B σ H ρ ∧ wantT K W B σ H Q r
def tUT (K : KM) (W : WX) (T : Tab) (ie : IE) : TT := fun σ H Q => ∃ ρ, tRT K W ρ (ev T ie ρ) σ H Q
section
variable {X : Cx} {T : Tab} {ie : IE} {e : Expr}
theorem pe_UK {W : WX} (h : ∀ ρ, PE X e (tR (X.km ea) W ρ (keepR (ev T ie ρ)))) : PE X e (tUK (X.km ea) W T ie) := ⟨fun pins s σ H Q I ⟨ρ, h2⟩ => (h ρ).run pins s σ H Q I h2⟩
theorem pt_U {W : WX} (h : ∀ ρ, PT X e (tRT (X.km ea) W ρ (ev T ie ρ))) : PT X e (tUT (X.km ea) W T ie) := ⟨fun pins s σ H Q I ⟨ρ, h2⟩ => (h ρ).run pins s σ H Q I h2⟩
/-- the one part is come to, then an exception comes -/
theorem tX_then {K : KM} {W : WX} {ρ ρ1 ρ' : DEnv} {x : Dat} {m : Mode} {c : Str} {fs : List (Str × Dat)} {σ : L2.St} {H : Hp} {Q : VK} {P : V → Hp → Prop} {QQ : V → Hp → VK} (h : tX K W ρ c fs ρ' σ H Q) (hp : ∀ v H1 B, REnv K B σ H1 ρ1 → RV K B σ ρ1 H1 v x m → tX K W ρ1 c fs ρ' σ H1 Q → P v H1) : tS K ρ x m ρ1 σ H P := by
  obtain ⟨B, R, k⟩ := h
  exact ⟨B, R, fun v H1 R1 f1 rv => hp v H1 B R1 rv ⟨B, R1, fun cls d H' R' f' xc => k cls d H' R' (f1.trans f') xc⟩⟩
theorem op_no {op : Operator} : OpR X (binaryOp op) (fun _ _ _ _ => False) := fun _ _ _ _ _ _ _ _ _ _ _ _ h => h.elim
theorem cmp_no {op : CmpOp} : OpR X (compareOp op) (fun _ _ _ _ => False) := fun _ _ _ _ _ _ _ _ _ _ _ _ h => h.elim
/-- two parts, one after the other -/
theorem tS_two {K : KM} {ρ ρ1 ρ2 : DEnv} {x y x' d : Dat} {m k l : Mode} {r : R2} (hx : now x m ρ2 = some x')
    (hr : ∀ B σ H v w Q, REnv K B σ H ρ2 → Rdb K H v x' → Rdb K H w y → Want K B σ ρ2 H d l Q → r v w H Q) (σ : L2.St) (H : Hp) (Q : VK) (h : tS K ρ d l ρ2 σ H Q) : tOp r (tS K ρ x m ρ1) (tS K ρ1 y k ρ2) σ H Q := by
  obtain ⟨B, R, w⟩ := h
  refine ⟨B, R, fun v H1 R1 f1 rv => ?_⟩
  obtain ⟨B1, R1', le, cr⟩ := carry R1 rv
  refine ⟨B1, R1', fun u H2 R2 f2 ru => ?_⟩
  exact hr B σ H2 v u Q (R2.weak le) (cr H2 ρ2 x' R2 f2 hx) (rdb_of R2 ru) fun z H3 R3 f3 rz => w z H3 R3 (f1.trans (f2.trans f3)) rz
theorem tS_one {K : KM} {ρ ρ1 : DEnv} {x d : Dat} {m l : Mode} {r : V → Hp → VK → Prop}
    (hr : ∀ B σ H v Q, REnv K B σ H ρ1 → Rdb K H v x → Want K B σ ρ1 H d l Q → r v H Q) (σ : L2.St) (H : Hp) (Q : VK) (h : tS K ρ d l ρ1 σ H Q) : tS K ρ x m ρ1 σ H (fun v H1 => r v H1 Q) := by
  obtain ⟨B, R, w⟩ := h
  exact ⟨B, R, fun v H1 R1 f1 rv => hr B σ H1 v Q R1 (rdb_of R1 rv) fun z H3 R3 f3 rz => w z H3 R3 (f1.trans f3) rz⟩
theorem idx_snd {x y d : Dat} (h : idxD x y = some d) : ∃ r, IxR X r ∧ ∀ B σ ρ H v w Q, REnv (X.km ea) B σ H ρ → Rdb (X.km ea) H v x → Rdb (X.km ea) H w y → Want (X.km ea) B σ ρ H d .frz Q → r v w H Q := by
  unfold idxD at h
  split at h
  · rename_i xs i
    refine ⟨_, ix_list, fun B σ ρ H v w Q R a b k => ?_⟩
    obtain ⟨p, vs, rfl, hp, l⟩ := a.lst
    have h' := h
    unfold atI at h'
    cases q : ixN xs.length i with
    | none => rw [q] at h'; cases h'
    | some j =>
      rw [q] at h'
      obtain ⟨z, z1, z2⟩ := l.get (i := j) (d := d) h'
      refine ⟨p, vs, i, z, rfl, b.int, hp, ?_, k.val R z2⟩
      unfold atI
      rw [l.length, q]
      exact z1
  · rename_i xs i
    refine ⟨_, ix_tup, fun B σ ρ H v w Q R a b k => ?_⟩
    obtain ⟨p, vs, rfl, hp, l⟩ := a.tup
    have h' := h
    unfold atI at h'
    cases q : ixN xs.length i with
    | none => rw [q] at h'; cases h'
    | some j =>
      rw [q] at h'
      obtain ⟨z, z1, z2⟩ := l.get (i := j) (d := d) h'
      refine ⟨p, vs, i, z, rfl, b.int, hp, ?_, k.val R z2⟩
      unfold atI
      rw [l.length, q]
      exact z1
  · rename_i ns i
    cases q : atI ns i with
    | none => rw [q] at h; cases h
    | some z =>
      rw [q] at h
      cases h
      refine ⟨_, ix_list, fun B σ ρ H v w Q R a b k => ?_⟩
      obtain ⟨p, rfl, hp⟩ := a.scr
      refine ⟨p, _, i, .int z, rfl, b.int, hp, ?_, k.val R (.int z)⟩
      have q' := q
      unfold atI at q' ⊢
      rw [List.length_map]
      cases y : ixN ns.length i with
      | none => rw [y] at q'; cases q'
      | some j =>
        rw [y] at q'
        show (ns.map V.int)[j]? = _
        rw [List.getElem?_map, show ns[j]? = some z from q']
        rfl
  · rename_i x i
    split at h
    · rename_i c
      cases q : atI x.cps.toList i with
      | none => rw [q] at h; cases h
      | some z =>
        rw [q] at h
        cases h
        exact ⟨_, ix_str, fun B σ ρ H v w Q R a b k => ⟨x, i, z, a.str, b.int, sm_le c, q, k.val R (.str _)⟩⟩
    · cases h
  · cases h
theorem cut_is {K : KM} {H : Hp} {vs : List V} {ds : List Dat} (l : IsL K H vs ds) (lo hi : Option Int) : IsL K H (cutV vs lo hi) (cut ds lo hi) := by
  unfold cutV cut
  rw [l.length]
  exact (l.drop _).take _
theorem cut_whole {ds : List Dat} {lo hi : Option Int} (h : HT.sIx ds.length 0 lo = 0 ∧ HT.sIx ds.length ds.length hi = ds.length) : cut ds lo hi = ds := by
  unfold cut
  rw [h.1, h.2, List.drop_zero, Nat.sub_zero, List.take_length]
theorem slc_snd {x d : Dat} {m : Mode} {lo hi : Option Int} (h : slcD x lo hi = some (d, m)) : ∃ r, SlR X r ∧ ∀ B σ ρ H v Q, REnv (X.km ea) B σ H ρ → Rdb (X.km ea) H v x → Want (X.km ea) B σ ρ H d m Q → r v lo hi H Q := by
  unfold slcD at h
  split at h
  · cases h
    refine ⟨_, sl_list, fun B σ ρ H v Q R a k => ?_⟩
    obtain ⟨p, vs, rfl, hp, l⟩ := a.lst
    exact ⟨p, vs, rfl, hp, fun n hn => k.lst R (cut_is l lo hi) hn⟩
  · rename_i xs
    cases h
    refine ⟨_, sl_tupA, fun B σ ρ H v Q R a k => ?_⟩
    obtain ⟨p, vs, rfl, hp, l⟩ := a.tup
    refine ⟨p, vs, rfl, hp, fun hw => ?_, fun _ n hn => k.tup R (cut_is l lo hi) hn⟩
    rw [l.length] at hw
    rw [cut_whole hw] at k
    exact k.val R (.tup hp l)
  · rename_i x
    split at h
    · rename_i c
      cases h
      exact ⟨_, sl_str, fun B σ ρ H v Q R a k => ⟨x, a.str, sm_le c, k.val R (.str _)⟩⟩
    · cases h
  · cases h
theorem bi_boot (b : BI) : bootBuiltins b.name = some b.val := by cases b <;> first | exact PySem.boot_len | exact PyProof.Rows.boot_max | exact PyProof.Rows.boot_min | exact PyProof.Rows.boot_all | exact PyProof.Rows.boot_tuple | exact PyProof.Rows.boot_list | exact PyProof.Rows.boot_repr | exact PyProof.Rows.boot_str | exact PyProof.Rows.boot_int
theorem ty_boot {ty : String} (h : ty ∈ tys6) : bootBuiltins (Str.ofString ty) = some (.type ty) ∧ Str.ofString ty ≠ "__name__" ∧ (Str.ofString ty == ("__debug__" : Str)) = false := by
  unfold tys6 at h
  simp only [List.mem_cons, List.not_mem_nil, or_false] at h
  rcases h with rfl | rfl | rfl | rfl | rfl | rfl
  · exact ⟨PyProof.Rows.boot_int, by decide, by decide⟩
  · exact ⟨PyProof.Rows.boot_bool, by decide, by decide⟩
  · exact ⟨PyProof.Rows.boot_str, by decide, by decide⟩
  · exact ⟨PyProof.Rows.boot_tuple, by decide, by decide⟩
  · exact ⟨PyProof.Rows.boot_list, by decide, by decide⟩
  · exact ⟨PyProof.Rows.boot_dict, by decide, by decide⟩
theorem bi_call {b : BI} {g : Str} {p pos : Pos} {x : Expr} {l : List Expr} {t : TA} {r : List V → Hp → VK → Prop} (hc : CallR X b.val r) (hg : Gl X b.name) (hm : X.mg b.name = none) (ha : PA X (x :: l) t) (hs : ∀ e ∈ x :: l, noStar e = true) :
    PE X (.Call (.Name b.name p) (x :: l) [] pos) (tCB r t) := by
  have h1 : starEach (x :: l) X.env = (false, eval x X.env) :: starEach l X.env := star_cons (hs x List.mem_cons_self)
  have h2 : (backTo pos (starEach l X.env)).any (·.1) = false := star_none fun e he => hs e (List.mem_cons_of_mem _ he)
  have hb := bi_boot b
  cases b with
  | len => exact pe_callB hc hg hm hb ha (by decide) (by decide) h1 h2
  | max => exact pe_callB hc hg hm hb ha (by decide) (by decide) h1 h2
  | min => exact pe_callB hc hg hm hb ha (by decide) (by decide) h1 h2
  | all => exact pe_callB hc hg hm hb ha (by decide) (by decide) h1 h2
  | repr => exact pe_callB hc hg hm hb ha (by decide) (by decide) h1 h2
  | tuple => exact pe_callTy hc hg hm hb ha (by decide) (by decide) h1 h2
  | list => exact pe_callTy hc hg hm hb ha (by decide) (by decide) h1 h2
  | str => exact pe_callTy hc hg hm hb ha (by decide) (by decide) h1 h2
  | int => exact pe_callTy hc hg hm hb ha (by decide) (by decide) h1 h2
end
end Ev
set_option Elab.async false
set_option linter.all false
set_option maxRecDepth 100000
namespace Ev
open PySem PySem.Spec PyProof.Rows L2
variable {ea : Option EA}
theorem pairs_vals {P : Program} {w : World} : ∀ {es : List DictEntry} {kvs : List (Key × V)} {vs : List (Key × Value)}, KV kvs vs → PySem.Pairs (mixKind P w) es vs → Vals (kvs.map fun kv => kV kv.1) (es.map (·.key)) ∧ Vals (kvs.map (·.2)) (es.map (·.val))
  | es, [], vs, r, p => by
    cases r
    cases p
    exact ⟨.nil, .nil⟩
  | es, kv :: kvs, vs, r, p => by
    cases r with
    | @cons a b as bs h t =>
      cases p with
      | @cons e kv' es' kvs' h1 h2 h3 =>
        obtain ⟨i1, i2⟩ := pairs_vals (P := P) (w := w) t h3
        obtain ⟨k, y⟩ := kv
        obtain ⟨e1, e2⟩ := h
        have e1' : k = b.1 := e1
        subst e1'
        refine ⟨.cons ?_ i1, .cons (show RelV y e.val by rw [h2]; exact e2) i2⟩
        have h1' : keyIs b.1 e.key = true := h1
        rcases keyIs_shape h1' with ⟨i, t, q1, q2⟩ | ⟨x, t, q1, q2⟩
        · show RelV (kV b.1) e.key
          rw [q1, q2]; exact ⟨t, rfl⟩
        · show RelV (kV b.1) e.key
          rw [q1, q2]; exact ⟨t, rfl⟩
/-- a dict is known from now on to be as it is -/
theorem inv_frzD {X : Cx} {pins : List (Addr × Obj)} {σ : L2.St} {H : Hp} {s : Shared} {p : Addr} {kvs : List (Key × V)} (I : Inv X pins σ H s) (h : H p = some (.dK kvs)) :
    ∃ (o : Obj) (es : Array DictEntry) (n : Nat), Inv X pins σ (upd H p (.frz o (.own p))) s ∧ o.cls = .type "dict" ∧ o.data = .dict es n ∧ (p == sysModules) = false ∧ Vals (kvs.map fun kv => kV kv.1) (es.toList.map (·.key)) ∧ Vals (kvs.map (·.2)) (es.toList.map (·.val)) := by
  obtain ⟨z, hsys, vs, r, o, es, ep, e, ex, ed, ek, epr, end'⟩ := (show ObjOk X.prog X.w H s.heap p (.dK kvs) from I.hok p _ h)
  obtain ⟨v1, v2⟩ := pairs_vals r epr
  refine ⟨o, es, ep, Inv.un (t' := s.toks) (h' := s.heap) (H' := upd H p (.frz o (.own p))) I ⟨fun b o q _ _ _ => q, fun b o q _ _ _ => ⟨o.slots, q⟩, fun b o q nn _ => ?_, fun b o q _ => ⟨o, q⟩, fun b xs q => ?_, fun b o u q => ?_, fun b ps q => ?_⟩ fun b u q => ?_, ex.1, ed, hsys, v1, v2⟩
  · rw [upd_ne (fun zz => by subst zz; rw [h] at nn; cases nn)]; exact nn
  · rw [upd_ne (fun zz => by subst zz; rw [h] at q; cases q)]; exact q
  · rw [upd_ne (fun zz => by subst zz; rw [h] at q; cases q)]; exact q
  · refine ⟨#[], ?_⟩
    rw [upd_ne (fun zz => by subst zz; rw [h] at q; cases q), q]; simp
  · by_cases zz : b = p
    · subst zz
      rw [upd_same] at q
      cases q
      exact ⟨e, o, e⟩
    · rw [upd_ne zz] at q
      refine (I.hok b u q).stay (fun c w _ hc => hc) (fun c hc => ?_) fun c xs hc => ?_
      · rw [upd_ne (fun y => by subst y; rw [h] at hc; cases hc)]; exact hc
      · rw [upd_ne (fun y => by subst y; rw [h] at hc; cases hc)]; exact hc
/-- a new dict is handed on -/
theorem pe_dic {X : Cx} {e : Expr} {t : TE} (h : PE X e t) : PE X e (fun σ H Q => t σ H fun v H' => ∃ (p : Addr) (kvs : List (Key × V)), v = .ref p ∧ H' p = some (.dK kvs) ∧
    ∀ (o : Obj) (es : Array DictEntry) (n : Nat), o.cls = .type "dict" → o.data = .dict es n → (p == sysModules) = false → Vals (kvs.map fun kv => kV kv.1) (es.toList.map (·.key)) → Vals (kvs.map (·.2)) (es.toList.map (·.val)) →
      Q v (upd H' p (.frz o (.own p)))) := by
  refine ⟨fun pins s σ H Q I q => thn (h.run pins s σ H _ I q) fun u s1 hh => ?_⟩
  obtain ⟨v, H1, I1, rv, p, kvs, rfl, e1, k⟩ := hh
  obtain ⟨o, es, n, J, c1, c2, c3, c4, c5⟩ := inv_frzD I1 e1
  exact ⟨_, _, J, rv, k o es n c1 c2 c3 c4 c5⟩
theorem is_dic {K : KM} {H : Hp} {p : Addr} {o : Obj} {es : Array DictEntry} {n : Nat} {kvs : List (Key × V)} {ds : List (Dat × Dat)} (h : H p = some (.frz o (.own p))) (c1 : o.cls = .type "dict") (c2 : o.data = .dict es n) (c3 : (p == sysModules) = false)
    (c4 : Vals (kvs.map fun kv => kV kv.1) (es.toList.map (·.key))) (c5 : Vals (kvs.map (·.2)) (es.toList.map (·.val))) (l1 : IsL K H (kvs.map fun kv => kV kv.1) (ds.map (·.1))) (l2 : IsL K H (kvs.map (·.2)) (ds.map (·.2))) : Is K H (.ref p) (.dic ds) :=
  .dic h c1 c2 c3 c4 c5 l1 l2
theorem pe_dic0 {X : Cx} {ρ : DEnv} {pos : Pos} : PE X (.Dict [] [] pos) (tS (X.km ea) ρ (.dic []) .frz ρ) := by
  refine (pe_dic pe_dnewK).imp fun σ H Q ⟨B, R, k⟩ => fun p hp => ⟨p, [], rfl, upd_same, fun o es n c1 c2 c3 c4 c5 => ?_⟩
  rw [upd_upd]
  exact k _ _ (R.new hp) (FrzLe.new hp) (is_dic (kvs := []) upd_same c1 c2 c3 c4 c5 .nil .nil)
theorem pe_dic1 {X : Cx} {ρ ρ1 ρ2 : DEnv} {pos : Pos} {k v : Expr} {x : Str} {d : Dat} {m : Mode} (hk : PE X k (tS (X.km ea) ρ (.str x) m ρ1)) (hv : PE X v (tS (X.km ea) ρ1 d .frz ρ2)) : PE X (.Dict [some k] [v] pos) (tS (X.km ea) ρ (.dic [(.str x, d)]) .frz ρ2) := by
  refine (pe_dic (pe_disp (pps_cons hk hv pps_nil) rfl rfl (by simp) (by show 1 ≤ 15; decide))).imp fun σ H Q ⟨B, R, kk⟩ => ?_
  intro p hp
  have bp := R.newB hp
  have R0 : REnv (X.km ea) (upd B p (.dK [])) σ (upd H p (.dK [])) ρ := ⟨fun a o hh => by
      by_cases z : a = p
      · subst z; rw [upd_same] at hh; cases hh; exact upd_same
      · rw [upd_ne z] at hh; exact (R.new hp).base a o hh, R.len, (R.new hp).val, fun i d' hh => by
      obtain ⟨q, q1, q2, q3⟩ := (R.new (o := .dK []) hp).own i d' hh
      exact ⟨q, q1, by rw [upd_ne (fun z => R.newS hp i d' hh (by rw [← z]; exact q1))]; exact q2, q3⟩, R.sep, (R.new hp).exn⟩
  refine ⟨_, R0, fun u H1 R1 f1 ru => ⟨_, R1, fun y H2 R2 f2 ry => ?_⟩⟩
  have eu := (rdb_of R1 ru).str
  subst eu
  have e2 : H2 p = some (.dK []) := R2.base p _ upd_same
  refine ⟨e2, [(Sum.inr x, y)], rfl, (by show 1 ≤ 15; decide), p, [(Sum.inr x, y)], rfl, upd_same, fun o es n c1 c2 c3 c4 c5 => ?_⟩
  rw [upd_upd]
  have le : ∀ a o, B a = some o → upd B p (.dK []) a = some o := fun a o hh => by
    rw [upd_ne (fun z => by subst z; rw [bp] at hh; cases hh)]; exact hh
  have fm : FrzLe H2 (upd H2 p (.frz o (.own p))) := FrzLe.mut e2 rfl
  refine kk _ _ ((R2.weak le).step fm (fun a o' hb ha => ?_) fun i d' q hi hs => ?_) ((FrzLe.new hp).trans (f1.trans (f2.trans fm))) (is_dic (kvs := [(Sum.inr x, y)]) upd_same c1 c2 c3 c4 c5 (.cons (.str x) .nil) (.cons (Is.mono fm ry) .nil))
  · rw [upd_ne (fun z => by subst z; rw [bp] at hb; cases hb)]; exact ha
  · obtain ⟨q', g1, g2, _⟩ := R2.own i d' hi
    rw [hs] at g1
    cases g1
    rw [upd_ne (fun z => by subst z; rw [upd_same] at g2; cases g2)]
section
variable {X : Cx} {W : WX} {ρ ρ1 ρ' : DEnv} {pos : Pos} {k v : Expr} {c : Str} {fs : List (Str × Dat)} {x : Dat} {m : Mode}
theorem pe_dic1X1 (hk : PE X k (tX (X.km ea) W ρ c fs ρ')) : PE X (.Dict [some k] [v] pos) (tX (X.km ea) W ρ c fs ρ') :=
  (pe_dic (pe_disp (pps_cons hk pe_no pps_nil) rfl rfl (by simp) (by show 1 ≤ 15; decide))).imp fun σ H Q ⟨B, R, kk⟩ => fun p hp => ⟨B, R.new hp, fun cls d H' R' f' xc => kk cls d H' R' ((FrzLe.new hp).trans f') xc⟩
theorem pe_dic1X2 (hk : PE X k (tS (X.km ea) ρ x m ρ1)) (hv : PE X v (tX (X.km ea) W ρ1 c fs ρ')) : PE X (.Dict [some k] [v] pos) (tX (X.km ea) W ρ c fs ρ') :=
  (pe_dic (pe_disp (pps_cons hk hv pps_nil) rfl rfl (by simp) (by show 1 ≤ 15; decide))).imp fun σ H Q ⟨B, R, kk⟩ => fun p hp => ⟨B, R.new hp, fun u H1 R1 f1 ru => ⟨B, R1, fun cls d H' R' f' xc => kk cls d H' R' ((FrzLe.new hp).trans (f1.trans f')) xc⟩⟩
end
end Ev
set_option Elab.async false
set_option linter.all false
set_option maxRecDepth 100000
set_option maxHeartbeats 8000000
namespace Ev
open PySem PySem.Spec PyProof.Rows L2
variable {ea : Option EA}
theorem and_and {a b : Bool} (h : (a && b) = true) : a = true ∧ b = true := Bool.and_eq_true_iff.mp h
theorem not_hot {a b : Bool} (h : (!a && b) = true) : a = false ∧ b = true := by
  cases a <;> cases b <;> simp_all

theorem wantC.step {K : KM} {W : WX} {B : Hp} {σ : L2.St} {H H1 : Hp} {Q : VK} {r : Res (Dat × Mode × DEnv)} (f : FrzLe H H1) (h : wantC K W B σ H Q r) : wantC K W B σ H1 Q r := by
  cases r with
  | ok a => exact fun v H' R' f' rv => h v H' R' (f.trans f') rv
  | exc c fs ρ => exact fun cls d H' R' f' xc => h cls d H' R' (f.trans f') xc
  | stuck => exact h
theorem tR_ok {K : KM} {W : WX} {ρ ρ' : DEnv} {d : Dat} {m : Mode} : tR K W ρ (.ok (d, m, ρ')) = tS K ρ d m ρ' := rfl
theorem tR_exc {K : KM} {W : WX} {ρ ρ' : DEnv} {c : Str} {fs : List (Str × Dat)} : tR K W ρ (.exc c fs ρ') = tX K W ρ c fs ρ' := rfl
section
variable {X : Cx} {T : Tab} {n : Nat}
theorem pe_stuck {K : KM} {W : WX} {ρ : DEnv} {e : Expr} : PE X e (tR K W ρ .stuck) := ⟨fun _ _ _ _ _ _ ⟨_, _, h⟩ => h.elim⟩
theorem pt_stuck {K : KM} {W : WX} {ρ : DEnv} {e : Expr} : PT X e (tRT K W ρ .stuck) := ⟨fun _ _ _ _ _ _ ⟨_, _, h⟩ => h.elim⟩
/-- a value that is a truth, as a test -/
theorem pt_of {e : Expr} {ρ ρ' : DEnv} {b : Bool} {m : Mode} (h : PE X e (tS (X.km ea) ρ (.bl b) m ρ')) (hp : plainT e = true) : PT X e (tST (X.km ea) ρ b ρ') := by
  refine (pt_val h (plain_t hp)).imp fun σ H Q q => ?_
  obtain ⟨B, R, k⟩ := q
  exact ⟨B, R, fun v H1 R1 f1 rv => ⟨b, (rdb_of R1 rv).bl, k H1 R1 f1⟩⟩
theorem pt_ofX {e : Expr} {W : WX} {ρ ρ' : DEnv} {c : Str} {fs : List (Str × Dat)} (h : PE X e (tX (X.km ea) W ρ c fs ρ')) (hp : plainT e = true) : PT X e (tXT (X.km ea) W ρ c fs ρ') :=
  (pt_val h (plain_t hp)).imp fun σ H Q q => q
theorem pw_imp {e : Expr} {t t' : TT} (h : PW X e t) (i : ∀ σ H Q, t' σ H Q → t σ H Q) : PW X e t' := ⟨fun wh pins s σ H Q I q => h.run wh pins s σ H Q I (i σ H Q q)⟩
theorem pw_no {e : Expr} : PW X e (fun _ _ _ => False) := ⟨fun _ _ _ _ _ _ _ h => h.elim⟩
theorem pw_bool {op : BoolOp} {l : List Expr} {pos : Pos} {t : TT} (h : PT X (.BoolOp op l pos) t) : PW X (.BoolOp op l pos) t := ⟨fun wh pins s σ H Q I q => h.run pins s σ H Q I q⟩
theorem step_lc {W : WX} {vs : List Nat} {tg : Nat} {elt : IE} {K : KM} : StepOk K W vs tg tYes (tUK K W T elt) (oneOf (ev T elt) tg vs) := by
  intro x ρ' B σ0 H v R hx Qy Qn w
  show (if true = true then tUK K W T elt (σ0.set tg (some v)) H Qy else Qn H)
  rw [if_pos rfl]
  refine ⟨_, B, R.setVal tg hx, ?_⟩
  unfold oneOf at w
  cases h : ev T elt ((wipeE ρ' vs).set tg (.val x)) with
  | ok a => rw [h] at w; exact w
  | exc c fs ρ2 => rw [h] at w; exact w
  | stuck => rw [h] at w; exact w
theorem step_lcI {W : WX} {vs : List Nat} {tg : Nat} {elt cond : IE} {K : KM} : StepOk K W vs tg (tUT K W T cond) (tUK K W T elt) (oneIf (ev T cond) (ev T elt) tg vs) := by
  intro x ρ' B σ0 H v R hx Qy Qn w
  refine ⟨_, B, R.setVal tg hx, ?_⟩
  unfold oneIf at w
  cases h : ev T cond ((wipeE ρ' vs).set tg (.val x)) with
  | stuck => rw [h] at w; exact w
  | exc c fs ρ2 => rw [h] at w; exact w
  | ok a =>
    obtain ⟨z, mz, ρa⟩ := a
    rw [h] at w
    cases z with
    | bl b =>
      cases b with
      | true =>
        intro H' R' f'
        refine iteT ?_
        refine ⟨ρa, B, R', ?_⟩
        have w' : wantOne K W B (σ0.set tg (some v)) H Qy Qn ((ev T elt ρa).bind fun (y, m, ρ2) => .ok (some y, keep m ρ2 y)) := w
        cases h2 : ev T elt ρa with
        | ok a =>
          rw [h2] at w'
          exact fun u H2 R2 f2 ru => w' u H2 R2 (f'.trans f2) ru
        | exc c fs ρ2 =>
          rw [h2] at w'
          exact fun cls d H2 R2 f2 xc => w' cls d H2 R2 (f'.trans f2) xc
        | stuck => rw [h2] at w'; exact w'
      | false =>
        intro H' R' f'
        refine iteF ?_
        have w' : wantOne K W B (σ0.set tg (some v)) H Qy Qn (.ok (none, ρa)) := w
        exact w' H' R' f'
    | _ => exact (show False from w).elim
theorem signs_is {K : KM} {H : Hp} (s : Str) : IsL K H (s.cps.toList.map fun c => V.str ⟨#[c]⟩) (s.cps.toList.map fun c => Dat.str ⟨#[c]⟩) := by
  induction s.cps.toList with
  | nil => exact .nil
  | cons c r ih => exact .cons (.str _) ih
theorem rng_is {K : KM} {H : Hp} (j : Int) : IsL K H ((List.range j.toNat).map fun (k : Nat) => V.int (k : Int)) ((List.range j.toNat).map fun (k : Nat) => Dat.int (k : Int)) := by
  induction (List.range j.toNat) with
  | nil => exact .nil
  | cons c r ih => exact .cons (.int _) ih
theorem own_in {own : List (Str × Nat)} {x : Str} {tg : Nat} (h : (x, tg) ∈ own) : tg ∈ own.map (·.2) := List.mem_map.mpr ⟨_, h, rfl⟩
theorem loc_rel {scope sc : Scope} {x : Str} (h : (match scope.names.lookup x with | some .local => true | some .cell => true | _ => false) = true) :
    Loc (relS scope sc) x ∧ ((scope.names.lookup x == some .cell) = true ∨ (relS scope sc).names.lookup x = some .local) := by
  split at h
  · rename_i e
    have q := lookup_relS_keep (sc := sc) (k := .local) (by decide) e
    exact ⟨.inl q, .inr q⟩
  · rename_i e
    have q := lookup_relS_keep (sc := sc) (k := .cell) (by decide) e
    exact ⟨.inr q, .inl (by rw [e]; rfl)⟩
  · cases h
/-- the parts of a comprehension, by what it comes to -/
def LcP (X : Cx) (K : KM) (W : WX) (ρ : DEnv) (r : Res (Dat × Mode × DEnv)) (y0 tgE i0 : Expr) (ifs : List Expr) (scope : Scope) : Prop :=
  ∃ (wi : TI) (g : TG) (tt : L2.St → TT) (te : L2.St → TE) (own : List (Str × Nat)), PI X tgE i0 wi ∧ BlkOk X.N X.env.scope scope own ∧
    (∀ (s : Shared) (H : Hp) (C : Addr) (cl : List (Str × Addr)) (fp : List Addr) (xe : Value → Shared → Prop), PG (X.blkX s H scope (compEnvC scope cl C X.env) fp xe) tgE g) ∧
    (∀ (σ : L2.St) (s : Shared) (H : Hp) (C : Addr) (cl : List (Str × Addr)) (fp : List Addr) (xe : Value → Shared → Prop), TakesF (X.blkX s H scope (compEnvC scope cl C X.env) fp xe) (wIn W σ) → PTs (X.blkX s H scope (compEnvC scope cl C X.env) fp xe) ifs (tt σ)) ∧
    (∀ (σ : L2.St) (s : Shared) (H : Hp) (C : Addr) (cl : List (Str × Addr)) (fp : List Addr) (xe : Value → Shared → Prop), TakesF (X.blkX s H scope (compEnvC scope cl C X.env) fp xe) (wIn W σ) → PE (X.blkX s H scope (compEnvC scope cl C X.env) fp xe) y0 (te σ)) ∧
    (∀ x, foldedSetIterable i0 X.env x = pure x) ∧ ∀ σ H Q, tR K W ρ r σ H Q → tLc wi g (tt σ) (te σ) (own.map (·.2)) σ H Q
theorem pe_lcP {K : KM} {W : WX} {ρ : DEnv} {r : Res (Dat × Mode × DEnv)} {y0 tgE i0 : Expr} {ifs : List Expr} {scope : Scope} {pos : Pos} {L : Addr} (hc : X.calm = true) (hN : X.N.Nodup) (tk : TakesF X W) (fm : Frm X L) (h : LcP X K W ρ r y0 tgE i0 ifs scope) :
    PE X (.ListComp y0 [⟨tgE, i0, ifs, 0⟩] scope pos) (tR K W ρ r) := by
  obtain ⟨wi, g, tt, te, own, h1, h2, h3, h4, h5, h6, h7⟩ := h
  exact (pe_lcX hc hN h1 h2 tk fm h3 h4 h5 h6).imp h7
/-- the target is a name, the block's parts are at hand -/
theorem lc_mk {W : WX} {ρ : DEnv} {rit : Res (Dat × Mode × DEnv)} {one : Dat → DEnv → Res (Option Dat × DEnv)} {y0 i0 : Expr} {x0 : Str} {p0 : Pos} {ifs : List Expr} {scope : Scope} {own : List (Str × Nat)} {tg : Nat} {tt : L2.St → TT} {te : L2.St → TE}
    (hN : X.N.Nodup) (hb : blkC X.N X.env.scope scope own = true) (hm : (x0, tg) ∈ own) (hl : (match scope.names.lookup x0 with | some .local => true | some .cell => true | _ => false) = true) (hns : noSet i0 = true)
    (hit : PE X i0 (tR (X.km ea) W ρ (keepR rit))) (st : ∀ σ, StepOk (X.km ea) (wIn W σ) (own.map (·.2)) tg (tt σ) (te σ) one)
    (ht : ∀ (σ : L2.St) (s : Shared) (H : Hp) (C : Addr) (cl : List (Str × Addr)) (fp : List Addr) (xe : Value → Shared → Prop), TakesF (X.blkX s H scope (compEnvC scope cl C X.env) fp xe) (wIn W σ) → PTs (X.blkX s H scope (compEnvC scope cl C X.env) fp xe) ifs (tt σ))
    (he : ∀ (σ : L2.St) (s : Shared) (H : Hp) (C : Addr) (cl : List (Str × Addr)) (fp : List Addr) (xe : Value → Shared → Prop), TakesF (X.blkX s H scope (compEnvC scope cl C X.env) fp xe) (wIn W σ) → PE (X.blkX s H scope (compEnvC scope cl C X.env) fp xe) y0 (te σ)) :
    LcP X (X.km ea) W ρ (rit.bind fun (x, m, ρ1) => (ofO (items x)).bind fun xs => comp (own.map (·.2)) one xs (keep m ρ1 x)) y0 (.Name x0 p0) i0 ifs scope := by
  have lo := loc_rel (sc := X.env.scope) hl
  have ok := blkOk_by hb
  have pg : ∀ (s : Shared) (H : Hp) (C : Addr) (cl : List (Str × Addr)) (fp : List Addr) (xe : Value → Shared → Prop), PG (X.blkX s H scope (compEnvC scope cl C X.env) fp xe) (.Name x0 p0) (gName tg) := fun s H C cl fp xe => pg_name hN (ok.ix _ hm) lo.1 lo.2
  cases rit with
  | stuck => exact ⟨_, _, tt, te, own, pi_list hit, ok, pg, ht, he, noSet_fold hns, fun σ H Q ⟨B, R, w⟩ => (show False from w).elim⟩
  | exc c fs ρ2 => exact ⟨_, _, tt, te, own, pi_list hit, ok, pg, ht, he, noSet_fold hns, fun σ H Q h => h⟩
  | ok a =>
    obtain ⟨x, m, ρ1⟩ := a
    have bad : items x = none → LcP X (X.km ea) W ρ ((ofO (items x)).bind fun xs => comp (own.map (·.2)) one xs (keep m ρ1 x)) y0 (.Name x0 p0) i0 ifs scope := fun z =>
      ⟨_, _, tt, te, own, pi_list hit, ok, pg, ht, he, noSet_fold hns, fun σ H Q ⟨B, R, w⟩ => by rw [z] at w; exact (show False from w).elim⟩
    cases x with
    | lst ds =>
      refine ⟨_, _, tt, te, own, pi_list hit, ok, pg, ht, he, noSet_fold hns, fun σ H Q ⟨B, R, w⟩ => ⟨B, R, fun v H1 R1 f1 rv => ?_⟩⟩
      cases rv with
      | lst a l =>
        refine ⟨_, rfl, ⟨_, .inl (.inr ⟨_, a⟩)⟩, ?_⟩
        exact comp_snd (st σ) l (walker_list (K := X.km ea) a) R1 (own_in hm) (wantC.step f1 w)
    | tup ds =>
      refine ⟨_, _, tt, te, own, pi_tup hit, ok, pg, ht, he, noSet_fold hns, fun σ H Q ⟨B, R, w⟩ => ⟨B, R, fun v H1 R1 f1 rv => ?_⟩⟩
      cases rv with
      | tup a l =>
        refine ⟨_, rfl, ⟨_, a⟩, ?_⟩
        exact comp_snd (st σ) l (walker_tup (K := X.km ea) a) R1 (own_in hm) (wantC.step f1 w)
    | str s =>
      refine ⟨_, _, tt, te, own, pi_str hit, ok, pg, ht, he, noSet_fold hns, fun σ H Q ⟨B, R, w⟩ => ⟨B, R, fun v H1 R1 f1 rv => ?_⟩⟩
      cases rv
      refine ⟨_, rfl, ?_⟩
      exact comp_snd (st σ) (signs_is s) (walker_str s) R1 (own_in hm) (wantC.step f1 w)
    | non => exact bad rfl
    | bl _ => exact bad rfl
    | int _ => exact bad rfl
    | dic _ => exact bad rfl
    | scr _ => exact bad rfl
    | obj _ _ => exact bad rfl
/-- .. over a range -/
theorem lc_mkR {W : WX} {ρ : DEnv} {rit : Res (Dat × Mode × DEnv)} {one : Dat → DEnv → Res (Option Dat × DEnv)} {y0 i0 : Expr} {x0 : Str} {p0 p2 p3 : Pos} {ifs : List Expr} {scope : Scope} {own : List (Str × Nat)} {tg : Nat} {tt : L2.St → TT} {te : L2.St → TE}
    (hN : X.N.Nodup) (hb : blkC X.N X.env.scope scope own = true) (hm : (x0, tg) ∈ own) (hl : (match scope.names.lookup x0 with | some .local => true | some .cell => true | _ => false) = true) (hgl : Gl X "range") (hmg : X.mg "range" = none) (hst : noStar i0 = true)
    (hit : PE X i0 (tR (X.km ea) W ρ rit)) (st : ∀ σ, StepOk (X.km ea) (wIn W σ) (own.map (·.2)) tg (tt σ) (te σ) one)
    (ht : ∀ (σ : L2.St) (s : Shared) (H : Hp) (C : Addr) (cl : List (Str × Addr)) (fp : List Addr) (xe : Value → Shared → Prop), TakesF (X.blkX s H scope (compEnvC scope cl C X.env) fp xe) (wIn W σ) → PTs (X.blkX s H scope (compEnvC scope cl C X.env) fp xe) ifs (tt σ))
    (he : ∀ (σ : L2.St) (s : Shared) (H : Hp) (C : Addr) (cl : List (Str × Addr)) (fp : List Addr) (xe : Value → Shared → Prop), TakesF (X.blkX s H scope (compEnvC scope cl C X.env) fp xe) (wIn W σ) → PE (X.blkX s H scope (compEnvC scope cl C X.env) fp xe) y0 (te σ)) :
    LcP X (X.km ea) W ρ (rit.bind fun (x, _, ρ1) => (match x with
      | .int j => if -(2 ^ 62) ≤ j ∧ j < 2 ^ 62 then comp (own.map (·.2)) one ((List.range j.toNat).map fun (k : Nat) => .int (k : Int)) ρ1 else .stuck
      | _ => .stuck)) y0 (.Name x0 p0) (.Call (.Name "range" p2) [i0] [] p3) ifs scope := by
  have lo := loc_rel (sc := X.env.scope) hl
  have ok := blkOk_by hb
  have pg : ∀ (s : Shared) (H : Hp) (C : Addr) (cl : List (Str × Addr)) (fp : List Addr) (xe : Value → Shared → Prop), PG (X.blkX s H scope (compEnvC scope cl C X.env) fp xe) (.Name x0 p0) (gName tg) := fun s H C cl fp xe => pg_name hN (ok.ix _ hm) lo.1 lo.2
  have pi := pi_range1 (tg := .Name x0 p0) (pos := p3) (p := p2) hgl hmg (pa_cons hit pa_nil (star_cons hst)) (star_cons hst)
  refine ⟨_, _, tt, te, own, pi, ok, pg, ht, he, noSet_fold rfl, fun σ H Q h => ?_⟩
  cases rit with
  | stuck => obtain ⟨B, R, w⟩ := h; exact (show False from w).elim
  | exc c fs ρ2 => exact h
  | ok a =>
    obtain ⟨x, m, ρ1⟩ := a
    obtain ⟨B, R, w⟩ := h
    refine ⟨B, R, fun v H1 R1 f1 rv => ?_⟩
    cases x with
    | int j =>
      have w : wantC (X.km ea) W B σ H Q (if -(2 ^ 62) ≤ j ∧ j < 2 ^ 62 then comp (own.map (·.2)) one ((List.range j.toNat).map fun (k : Nat) => .int (k : Int)) ρ1 else .stuck) := w
      split at w
      · rename_i hj
        have ev1 := (rdb_of R1 rv).int
        subst ev1
        refine ⟨j, rfl, hj.1, hj.2, ?_⟩
        exact comp_snd (st σ) (rng_is j) (walker_rng j) R1 (own_in hm) (wantC.step f1 w)
      · exact (show False from w).elim
    | _ => exact (show False from w).elim
theorem mk_R {K : KM} {W : WX} {ρ : DEnv} {e : Expr} {r : Res (Dat × Mode × DEnv)} (h1 : ∀ {d m ρ'}, r = .ok (d, m, ρ') → PE X e (tS K ρ d m ρ')) (h2 : ∀ {c fs ρ'}, r = .exc c fs ρ' → PE X e (tX K W ρ c fs ρ')) : PE X e (tR K W ρ r) := by
  cases r with
  | ok a => exact h1 rfl
  | exc c fs ρ' => exact h2 rfl
  | stuck => exact pe_stuck
theorem ok_of {K : KM} {W : WX} {ρ ρ' : DEnv} {e : Expr} {r : Res (Dat × Mode × DEnv)} {d : Dat} {m : Mode} (h : PE X e (tR K W ρ r)) (q : r = .ok (d, m, ρ')) : PE X e (tS K ρ d m ρ') := by
  rw [q] at h; exact h
theorem ex_of {K : KM} {W : WX} {ρ ρ' : DEnv} {e : Expr} {r : Res (Dat × Mode × DEnv)} {c : Str} {fs : List (Str × Dat)} (h : PE X e (tR K W ρ r)) (q : r = .exc c fs ρ') : PE X e (tX K W ρ c fs ρ') := by
  rw [q] at h; exact h
theorem keep_of {W : WX} {ρ : DEnv} {e : Expr} {r : Res (Dat × Mode × DEnv)} (h : PE X e (tR (X.km ea) W ρ r)) : PE X e (tR (X.km ea) W ρ (keepR r)) := by
  cases r with
  | ok a => exact pe_keep h
  | exc c fs ρ' => exact h
  | stuck => exact h
theorem mk_RT {K : KM} {W : WX} {ρ : DEnv} {e : Expr} {r : Res (Dat × Mode × DEnv)} (h1 : ∀ {b m ρ'}, r = .ok (.bl b, m, ρ') → PT X e (tST K ρ b ρ')) (h2 : ∀ {c fs ρ'}, r = .exc c fs ρ' → PT X e (tXT K W ρ c fs ρ')) : PT X e (tRT K W ρ r) := by
  cases r with
  | ok a =>
    obtain ⟨d, m, ρ'⟩ := a
    cases d with
    | bl b => exact h1 rfl
    | _ => exact ⟨fun _ _ _ _ _ _ ⟨_, _, h⟩ => (show False from h).elim⟩
  | exc c fs ρ' => exact h2 rfl
  | stuck => exact pt_stuck
theorem okT_of {K : KM} {W : WX} {ρ ρ' : DEnv} {e : Expr} {r : Res (Dat × Mode × DEnv)} {b : Bool} {m : Mode} (h : PT X e (tRT K W ρ r)) (q : r = .ok (.bl b, m, ρ')) : PT X e (tST K ρ b ρ') := by
  rw [q] at h; exact h
theorem exT_of {K : KM} {W : WX} {ρ ρ' : DEnv} {e : Expr} {r : Res (Dat × Mode × DEnv)} {c : Str} {fs : List (Str × Dat)} (h : PT X e (tRT K W ρ r)) (q : r = .exc c fs ρ') : PT X e (tXT K W ρ c fs ρ') := by
  rw [q] at h; exact h
/-- .. of several -/
def wantA (K : KM) (W : WX) (B : Hp) (σ : L2.St) (H : Hp) (Q : List V → Hp → Prop) : Res (List Dat × DEnv) → Prop
  | .ok (ds, ρ2) => ∀ vs H', REnv K B σ H' ρ2 → FrzLe H H' → IsL K H' vs ds → Q vs H'
  | .exc c fs ρ2 => ∀ cls d H', REnv K B σ H' ρ2 → FrzLe H H' → XcR K H' cls d c fs → W cls d σ H'
  | .stuck => False
def tRA (K : KM) (W : WX) (ρ : DEnv) (r : Res (List Dat × DEnv)) : TA := fun σ H Q => ∃ B, REnv K B σ H ρ ∧ wantA K W B σ H Q r
def wantG (K : KM) (W : WX) (B : Hp) (σ : L2.St) (H : Hp) (Q : List V → Hp → Prop) : Res (Got × DEnv) → Prop
  | .ok (g, ρ2) => ∀ vs H', REnv K B σ H' ρ2 → FrzLe H H' → gotR K B σ ρ2 H' vs g → Q vs H'
  | .exc c fs ρ2 => ∀ cls d H', REnv K B σ H' ρ2 → FrzLe H H' → XcR K H' cls d c fs → W cls d σ H'
  | .stuck => False
def tRG (K : KM) (W : WX) (ρ : DEnv) (r : Res (Got × DEnv)) : TA := fun σ H Q => ∃ B, REnv K B σ H ρ ∧ wantG K W B σ H Q r
theorem mk_A {K : KM} {W : WX} {ρ : DEnv} {l : List Expr} {r : Res (List Dat × DEnv)} (h1 : ∀ {ds ρ'}, r = .ok (ds, ρ') → PA X l (tSA K ρ ds ρ')) (h2 : ∀ {c fs ρ'}, r = .exc c fs ρ' → PA X l (tXA K W ρ c fs ρ')) : PA X l (tRA K W ρ r) := by
  cases r with
  | ok a => exact h1 rfl
  | exc c fs ρ' => exact h2 rfl
  | stuck => exact ⟨fun _ _ _ _ _ _ _ ⟨_, _, h⟩ => (show False from h).elim⟩
theorem okA_of {K : KM} {W : WX} {ρ ρ' : DEnv} {l : List Expr} {r : Res (List Dat × DEnv)} {ds : List Dat} (h : PA X l (tRA K W ρ r)) (q : r = .ok (ds, ρ')) : PA X l (tSA K ρ ds ρ') := by
  rw [q] at h; exact h
theorem exA_of {K : KM} {W : WX} {ρ ρ' : DEnv} {l : List Expr} {r : Res (List Dat × DEnv)} {c : Str} {fs : List (Str × Dat)} (h : PA X l (tRA K W ρ r)) (q : r = .exc c fs ρ') : PA X l (tXA K W ρ c fs ρ') := by
  rw [q] at h; exact h
theorem mk_G {K : KM} {W : WX} {ρ : DEnv} {l : List Expr} {r : Res (Got × DEnv)} (h1 : ∀ {g ρ'}, r = .ok (g, ρ') → PA X l (tSG K ρ g ρ')) (h2 : ∀ {c fs ρ'}, r = .exc c fs ρ' → PA X l (tXA K W ρ c fs ρ')) : PA X l (tRG K W ρ r) := by
  cases r with
  | ok a => exact h1 rfl
  | exc c fs ρ' => exact h2 rfl
  | stuck => exact ⟨fun _ _ _ _ _ _ _ ⟨_, _, h⟩ => (show False from h).elim⟩
theorem okG_of {K : KM} {W : WX} {ρ ρ' : DEnv} {l : List Expr} {r : Res (Got × DEnv)} {g : Got} (h : PA X l (tRG K W ρ r)) (q : r = .ok (g, ρ')) : PA X l (tSG K ρ g ρ') := by
  rw [q] at h; exact h
theorem exG_of {K : KM} {W : WX} {ρ ρ' : DEnv} {l : List Expr} {r : Res (Got × DEnv)} {c : Str} {fs : List (Str × Dat)} (h : PA X l (tRG K W ρ r)) (q : r = .exc c fs ρ') : PA X l (tXA K W ρ c fs ρ') := by
  rw [q] at h; exact h
theorem ofO_bx {α β : Type} {o : Option α} {f : α → Res β} {c : Str} {fs : List (Str × Dat)} {ρ : DEnv} (h : (ofO o).bind f = .exc c fs ρ) : ∃ a, o = some a ∧ f a = .exc c fs ρ := by
  cases o with
  | none => cases h
  | some a => exact ⟨a, rfl, h⟩
theorem ix_no : IxR X (fun _ _ _ _ => False) := fun _ _ _ _ _ _ _ _ _ _ _ _ _ _ h _ => h.elim
theorem sl_no : L2.SlR X (fun _ _ _ _ _ => False) := fun _ _ _ _ _ _ _ _ _ _ _ _ _ _ _ _ _ h => h.elim
theorem call_no {f : Value} : CallR X f (fun _ _ _ => False) := fun _ _ _ _ _ _ _ _ _ h => h.elim
/-- a call that comes to a value -/
theorem call_ok {K : KM} {fi : FI} {got : Got} {ρ1 ρ' : DEnv} {d : Dat} {m : Mode} {B : Hp} {σ : L2.St} {H1 : Hp} {vs : List V} {Q : VK} {E : XK} (sh : got.length = fi.io.length → Shape fi.io got) (R1 : REnv K B σ H1 ρ1) (l : gotR K B σ ρ1 H1 vs got)
    (h : callD fi got ρ1 = .ok (d, m, ρ')) (k : ∀ v H', REnv K B σ H' ρ' → FrzLe H1 H' → RV K B σ ρ' H' v d m → Q v H') : spD K fi vs H1 Q E := by
  unfold callD at h
  split at h
  · rename_i hnd
    obtain ⟨ds, h3, h4⟩ := Res.bind_ok h
    have rd := ofO_ok h3
    refine ⟨ds, got_args R1 (sh hnd.2) l rd, ioA_nodup R1 (sh hnd.2) l rd hnd.1, ?_⟩
    cases hr : fi.run ds with
    | ok a =>
      obtain ⟨d', new, outs⟩ := a
      rw [hr] at h4
      cases h4
      intro v H' P
      obtain ⟨R2, rv⟩ := call_back R1 (sh hnd.2) l rd hnd.1 P
      exact k v H' R2 P.2.1 rv
    | exc c fs ss => rw [hr] at h4; cases h4
    | stuck => rw [hr] at h4; cases h4
  · cases h
/-- .. to an exception -/
theorem call_ex {K : KM} {fi : FI} {got : Got} {ρ1 ρ' : DEnv} {c : Str} {fs : List (Str × Dat)} {B : Hp} {σ : L2.St} {H1 : Hp} {vs : List V} {Q : VK} {E : XK} (sh : got.length = fi.io.length → Shape fi.io got) (R1 : REnv K B σ H1 ρ1) (l : gotR K B σ ρ1 H1 vs got)
    (h : callD fi got ρ1 = .exc c fs ρ') (k : ∀ cls d H', REnv K B σ H' ρ' → FrzLe H1 H' → XcR K H' cls d c fs → E cls d H') : spD K fi vs H1 Q E := by
  unfold callD at h
  split at h
  · rename_i hnd
    obtain ⟨ds, rd, h4⟩ := ofO_bx h
    refine ⟨ds, got_args R1 (sh hnd.2) l rd, ioA_nodup R1 (sh hnd.2) l rd hnd.1, ?_⟩
    cases hr : fi.run ds with
    | ok a => rw [hr] at h4; cases h4
    | exc c' fs' ss =>
      rw [hr] at h4
      cases h4
      intro cls d H' P
      obtain ⟨R2, xc⟩ := call_backX R1 (sh hnd.2) l rd hnd.1 P
      exact k cls d H' R2 P.2.1 xc
    | stuck => rw [hr] at h4; cases h4
  · cases h
theorem Good.blk {hot : Bool} (g : Good T n hot ea X) (hh : hot = false) (s : Shared) (H : Hp) (scope : Scope) (cl : List (Str × Addr)) (C : Addr) (fp : List Addr) (xe : Value → Shared → Prop) : Good T n hot ea (X.blkX s H scope (compEnvC scope cl C X.env) fp xe) :=
  ⟨g.mod, g.calm, g.ea0, g.room, g.nd, g.grd, g.hu, by
    obtain ⟨L, fm⟩ := g.frm
    exact ⟨L, fm.ex, fm.fr⟩, fun e he => by rw [g.ea0 hh] at he; cases he⟩
end
end Ev
set_option Elab.async false
set_option linter.all false
set_option maxRecDepth 100000
set_option maxHeartbeats 4000000
/-! What is asked of the exception that is being handled. -/
namespace Ev
open PySem PySem.Spec PyProof.Rows L2
variable {ea : Option EA}
section
variable {X : Cx} {T : Tab} {n : Nat} {hot : Bool}
theorem exn_inst {e : EA} {oe : Obj} {fs : List (Str × Dat)} {pins : List (Addr × Obj)} {σ : L2.St} {H : Hp} {s : Shared} (I : Inv X pins σ H s) (hp : (e.a, oe) ∈ X.pn) (hz : Zc (.ref e.C) e.d oe) (hf : ∃ vs, oe.data = .fields vs) (hx : XdR (X.km ea) H e.d fs) :
    ∃ od, PySem.W.InstAt s.heap e.a oe e.C od := by
  obtain ⟨hget, _⟩ := I.pin (e.a, oe) (List.mem_append.mpr (.inl hp))
  obtain ⟨vs, hv⟩ := hf
  have nc : PySem.W.notCls oe = true := by unfold PySem.W.notCls; rw [hv] <;> rfl
  rcases hx with ⟨_, hd⟩ | ⟨dx, o, ws, hd, hh, _⟩
  · exact ⟨none, hget, hz.1, nc, by rw [hz.2, hd]; trivial⟩
  · obtain ⟨ho, _⟩ := (show ObjOk X.prog X.w H s.heap dx (.frz o (.xd ws)) from I.hok dx _ hh)
    exact ⟨some o, hget, hz.1, nc, by rw [hz.2, hd]; exact ho⟩
/-- isinstance(e, c) -/
theorem call_isX {e : EA} {oe : Obj} {fs : List (Str × Dat)} (F : ExcF X.K e.C) (hp : (e.a, oe) ∈ X.pn) (hz : Zc (.ref e.C) e.d oe) (hf : ∃ vs, oe.data = .fields vs) :
    CallR X (.builtin "isinstance") (fun xs H Q => ∃ (c : V) (cv : Value) (b : Bool), xs = [.ref e.a, c] ∧ (∀ u, RelV c u → u = cv) ∧ PySem.W.kitOne X.K (.ref e.C) cv = some b ∧ XdR (X.km ea) H e.d fs ∧ Q (.bl b) H) := by
  intro pins s σ H xs us Q I r h
  obtain ⟨c, cv, b, rfl, hcv, hk, hx, q⟩ := h
  obtain ⟨u1, u2, rfl, r1, r2⟩ := vals2 r
  cases r1
  cases hcv _ r2
  obtain ⟨od, J⟩ := exn_inst I hp hz hf hx
  exact PySem.W.kia_one (PySem.W.kitx_exc F.hcl F.hga F.hgt F.hsub F.ha F.hn F.htk F.hm) I.kIn J hk (fun z => nomatch z) fun tk => ⟨.bl b, H, I.tok tk, rfl, q⟩
/-- a class by its name -/
theorem pe_cls {x : Str} {p : Pos} {v : Value} (h : NameM X.mg x v) (hv : (∃ C, v = .ref C) ∨ ∃ t, v = .type t) (hg : Gl X x) (ho : notOdd x = true) : ∃ c : V, (∀ u, RelV c u → u = v) ∧ PE X (.Name x p) (fun _ H Q => Q c H) := by
  rcases hv with ⟨C, rfl⟩ | ⟨t, rfl⟩
  · refine ⟨.ref C, fun u z => z, ?_⟩
    rcases h with h | ⟨h1, h2, h3⟩
    · exact (pe_glob (v := .ref C) hg h rfl (odd1 ho)).imp fun σ H Q q => q
    · exact (pe_bltn (v := .ref C) hg h1 h2 rfl h3 (odd1 ho)).imp fun σ H Q q => q
  · refine ⟨.ty t, fun u z => z, ?_⟩
    rcases h with h | ⟨h1, h2, h3⟩
    · exact (pe_glob (v := .ty t) hg h rfl (odd1 ho)).imp fun σ H Q q => q
    · exact (pe_bltn (v := .ty t) hg h1 h2 rfl h3 (odd1 ho)).imp fun σ H Q q => q
theorem subs_one {c d : Str} {b : Bool} (h : subs T c [d] = some b) : T.sub c d = some b := by
  unfold subs at h
  split at h
  · rename_i e; cases h; exact e
  · rename_i e
    unfold subs at h
    cases h
    exact e
  · cases h
theorem pe_isE {i : Nat} {x d c : Str} {p1 p2 p3 pos : Pos} {ρ : DEnv} {fs : List (Str × Dat)} {b : Bool} (g : Good T n hot ea X) (hN : X.N[i]? = some x) (hv : Vis X.env.scope x) (hx : notOdd x = true) (hgi : Gl X "isinstance") (hgd : Gl X d) (hd : notOdd d = true)
    (hr : ρ[i]? = some (.exn c fs)) (hs : subs T c [d] = some b) : PE X (.Call (.Name "isinstance" p1) [.Name x p2, .Name d p3] [] pos) (tS (X.km ea) ρ (.bl b) .frz ρ) := by
  obtain ⟨C, v, m1, F, m2, m3, m4, _⟩ := g.mod.sub c d b (subs_one hs)
  obtain ⟨cv, k1, k2⟩ := pe_cls (p := p3) m2 m3 hgd hd
  cases hea : ea with
  | none =>
    refine (pe_no (X := X)).imp fun σ H Q ⟨B, R, k⟩ => ?_
    obtain ⟨e, z, _⟩ := R.exn i c fs hr
    cases z
  | some e =>
    subst hea
    obtain ⟨oe, hp, hz, hf⟩ := g.eaf e rfl
    by_cases hC : C = e.C
    · subst hC
      refine (pe_callB (call_isX (ea := some e) (fs := fs) F hp hz hf) hgi g.mod.isi PyProof.Rows.boot_isinstance (pa_cons (pe_var hN hv (odd1 hx) (odd2 hx)) (pa_cons k2 pa_nil)) (by decide) (by decide) rfl rfl).imp fun σ H Q ⟨B, R, k⟩ => ?_
      obtain ⟨e', z, x1, x2, x3⟩ := R.exn i c fs hr
      cases z
      exact ⟨_, x1, cv, v, b, rfl, k1, m4, x3, k _ H R (FrzLe.refl H) (.bl b)⟩
    · refine (pe_no (X := X)).imp fun σ H Q ⟨B, R, k⟩ => ?_
      obtain ⟨e', z, x1, x2, x3⟩ := R.exn i c fs hr
      cases z
      have x2' : X.mg c = some (.ref e.C) := x2
      rw [m1] at x2'
      cases x2'
      exact hC rfl
theorem lookup_is {K : KM} {H : Hp} {f : Str} {d : Dat} : ∀ {vs : List (Str × V)} {fs : List (Str × Dat)}, vs.map (·.1) = fs.map (·.1) → IsL K H (vs.map (·.2)) (fs.map (·.2)) → fs.lookup f = some d → ∃ v, vs.lookup f = some v ∧ Is K H v d
  | [], [], _, _, h => by cases h
  | [], _ :: _, e, _, _ => by cases e
  | _ :: _, [], e, _, _ => by cases e
  | (a, v) :: vs, (b, x) :: fs, e, l, h => by
    have e1 : a = b := by
      have := congrArg List.head? e
      simpa using this
    have e2 : vs.map (·.1) = fs.map (·.1) := by
      have := congrArg List.tail e
      simpa using this
    subst e1
    cases l with
    | cons i1 l =>
      rw [List.lookup_cons] at h ⊢
      cases q : f == a with
      | true =>
        rw [q] at h
        cases h
        exact ⟨v, rfl, i1⟩
      | false =>
        rw [q] at h
        exact lookup_is e2 l h
/-- e.f -/
theorem pe_fldE {i : Nat} {x f c : Str} {p2 pos : Pos} {ρ : DEnv} {fs : List (Str × Dat)} {d : Dat} (g : Good T n hot ea X) (hN : X.N[i]? = some x) (hv : Vis X.env.scope x) (hx : notOdd x = true)
    (hr : ρ[i]? = some (.exn c fs)) (hc : (T.exc c).any (·.contains f) = true) (hl : fs.lookup f = some d) : PE X (.Attribute (.Name x p2) f pos) (tS (X.km ea) ρ d .frz ρ) := by
  obtain ⟨names, hc1, hc2⟩ : ∃ names, T.exc c = some names ∧ f ∈ names := by
    cases q : T.exc c with
    | none => rw [q] at hc; cases hc
    | some ns => rw [q] at hc; exact ⟨ns, rfl, List.contains_iff_mem.mp hc⟩
  obtain ⟨C, m1, F, hno⟩ := g.mod.exf c names hc1
  refine ⟨fun pins s σ H Q I h => ?_⟩
  obtain ⟨B, R, k⟩ := h
  obtain ⟨e, z, x1, x2, x3⟩ := R.exn i c fs hr
  have hea : ea = some e := z
  subst hea
  obtain ⟨oe, hp, hz, hf⟩ := g.eaf e rfl
  have x2' : X.mg c = some (.ref e.C) := x2
  rw [m1] at x2'
  cases x2'
  rcases x3 with ⟨rfl, _⟩ | ⟨dx, o, vs, hd, hh, hn, hI⟩
  · cases hl
  refine attr_of (hb := rfl) (thn ((pe_var hN hv (odd1 hx) (odd2 hx)).run pins s σ H (fun v H1 => v = .ref e.a ∧ H1 = H) I ⟨_, x1, rfl, rfl⟩) fun u s1 hq => ?_)
  obtain ⟨v, H1, I1, rv, rfl, rfl⟩ := hq
  obtain rfl : u = Value.ref e.a := rv
  obtain ⟨v, hv1, hv2⟩ := lookup_is hn hI hl
  obtain ⟨ho, mA, hns, hrr⟩ := (show ObjOk X.prog X.w H1 s1.heap dx (.frz o (.xd vs)) from I1.hok dx _ hh)
  obtain ⟨od, ho2, hlk⟩ := lookIn_ns hns
  obtain ⟨u, hu, ru⟩ := RelO.some_of (v := v) (o := mA f) (by rw [← hv1]; exact hrr f)
  obtain ⟨hget, _⟩ := I1.pin (e.a, oe) (List.mem_append.mpr (.inl hp))
  obtain ⟨ws, hw⟩ := hf
  have J : PySem.W.InstAt s1.heap e.a oe e.C (some od) := ⟨hget, hz.1, by unfold PySem.W.notCls; rw [hw] <;> rfl, by rw [hz.2, hd]; exact ho2⟩
  exact HandSPX.exc_get I1.kIn J F.hga F.hgt F.hsub (PySem.W.findObj_own F.hd (hno f hc2) rfl (by rw [hlk, hu])) (handed_of ru) ⟨v, H1, I1.tok _, ru, k v H1 R (FrzLe.refl H1) hv2⟩
end
end Ev
set_option Elab.async false
set_option linter.all false
set_option maxRecDepth 100000
set_option maxHeartbeats 4000000
/-! Errors as values: made, asked. -/
namespace Ev
open PySem PySem.Spec PyProof.Rows L2
variable {ea : Option EA}
section
variable {X : Cx} {T : Tab} {n : Nat} {hot : Bool}
theorem IsL.reverse {K : KM} {H : Hp} : ∀ {vs : List V} {ds : List Dat}, IsL K H vs ds → IsL K H vs.reverse ds.reverse
  | _, _, .nil => .nil
  | _, _, .cons a l => by rw [List.reverse_cons, List.reverse_cons]; exact (IsL.reverse l).append (.cons a .nil)
theorem zip_fst {α β : Type} {ns : List α} {vs : List β} (h : vs.length = ns.length) : (ns.zip vs).reverse.map (·.1) = ns.reverse := by
  rw [List.map_reverse]
  have : (ns.zip vs).map (fun p => p.1) = ns := List.map_fst_zip (by omega)
  rw [this]
theorem zip_snd {α β : Type} {ns : List α} {vs : List β} (h : vs.length = ns.length) : (ns.zip vs).reverse.map (·.2) = vs.reverse := by
  rw [List.map_reverse]
  have : (ns.zip vs).map (fun p => p.2) = vs := List.map_snd_zip (by omega)
  rw [this]
theorem tRA_mono {K : KM} {W : WX} {ρ : DEnv} {r : Res (List Dat × DEnv)} (σ : L2.St) (H : Hp) (R R' : List V → Hp → Prop) (h : ∀ vs H1, R vs H1 → R' vs H1) (q : tRA K W ρ r σ H R) : tRA K W ρ r σ H R' := by
  obtain ⟨B, RR, w⟩ := q
  refine ⟨B, RR, ?_⟩
  cases r with
  | ok a => exact fun vs H' R' f l => h _ _ (w vs H' R' f l)
  | exc c fs ρ => exact w
  | stuck => exact w
theorem Want.step {K : KM} {B : Hp} {σ : L2.St} {ρ : DEnv} {H H1 : Hp} {d : Dat} {m : Mode} {Q : VK} (f : FrzLe H H1) (w : Want K B σ ρ H d m Q) : Want K B σ ρ H1 d m Q := fun v H' R' f' r => w v H' R' (f.trans f') r
/-- the object that is made -/
theorem mk_obj {K : KM} {B : Hp} {σ : L2.St} {ρ : DEnv} {H : Hp} {c : Str} {C : Addr} {ns : List Str} {vs : List V} {ds : List Dat} {Q : VK} (R : REnv K B σ H ρ) (hm : K.mg c = some (.ref C)) (l : IsL K H vs ds) (hl : ds.length = ns.length) (w : Want K B σ ρ H (.obj c ((ns.zip ds).reverse)) .frz Q)
    (d : Addr) (o : Obj) (hd : H d = none) (a : Addr) (ob : Obj) (ws : Array Value) (u : HO) (ha : upd H d (.frz o (.xd ((ns.zip vs).reverse))) a = none) (h1 : ob.cls = .ref C) (h2 : ob.dict = some d) (h3 : ob.data = .fields ws) :
    Q (.ref a) (upd (upd H d (.frz o (.xd ((ns.zip vs).reverse)))) a (.frz ob u)) := by
  have hv : vs.length = ns.length := l.length.trans hl
  have f1 : FrzLe H (upd H d (.frz o (.xd ((ns.zip vs).reverse)))) := FrzLe.new hd
  have f2 : FrzLe (upd H d (.frz o (.xd ((ns.zip vs).reverse)))) (upd (upd H d (.frz o (.xd ((ns.zip vs).reverse)))) a (.frz ob u)) := FrzLe.new ha
  refine w _ _ ((R.new hd).new ha) (f1.trans f2) ?_
  refine Is.err1 (o := ob) (u := u) (dx := d) (od := o) (vs := (ns.zip vs).reverse) (ws := ws) upd_same h1 h2 h3 hm (f2 _ _ upd_same rfl) ?_ ?_
  · rw [zip_fst hv, zip_fst hl]
  · rw [zip_snd hv, zip_snd hl]
    exact (l.mono (f1.trans f2)).reverse
theorem mk_obj0 {K : KM} {B : Hp} {σ : L2.St} {ρ : DEnv} {H : Hp} {c : Str} {C : Addr} {Q : VK} (R : REnv K B σ H ρ) (hm : K.mg c = some (.ref C)) (w : Want K B σ ρ H (.obj c []) .frz Q)
    (a : Addr) (ob : Obj) (ws : Array Value) (u : HO) (ha : H a = none) (h1 : ob.cls = .ref C) (h2 : ob.dict = none) (h3 : ob.data = .fields ws) : Q (.ref a) (upd H a (.frz ob u)) :=
  w _ _ (R.new ha) (FrzLe.new ha) (.err0 (o := ob) (u := u) (ws := ws) upd_same h1 h2 h3 hm)
theorem byN_rel {K : KM} {H : Hp} {ks : List Str} : ∀ {vs : List V} {ds : List Dat}, IsL K H vs ds → ∀ {ms : List Str} {es : List Dat}, byNames ms ks ds = some es → ∃ zs, ms.mapM (fun n => (ks.zip vs).lookup n) = some zs ∧ IsL K H zs es := by
  have one : ∀ {ks : List Str} {vs : List V} {ds : List Dat}, IsL K H vs ds → ∀ {n : Str} {z : Dat}, (ks.zip ds).lookup n = some z → ∃ w, (ks.zip vs).lookup n = some w ∧ Is K H w z := by
    intro ks
    induction ks with
    | nil => intro vs us r n z h; cases h
    | cons m ks ih =>
      intro vs us r n z h
      cases r with
      | nil => cases h
      | cons r1 r2 =>
        rw [List.zip_cons_cons, List.lookup_cons] at h
        rw [List.zip_cons_cons, List.lookup_cons]
        cases q : n == m with
        | true => rw [q] at h; cases h; exact ⟨_, rfl, r1⟩
        | false => rw [q] at h; exact ih r2 h
  intro vs ds l ms
  induction ms with
  | nil => intro zs h; cases h; exact ⟨[], rfl, .nil⟩
  | cons m ms ih =>
    intro zs h
    unfold byNames at h
    rw [List.mapM_cons] at h
    cases h1 : (ks.zip ds).lookup m with
    | none => rw [h1] at h; cases h
    | some z =>
      rw [h1] at h
      cases h2 : ms.mapM (fun n => (ks.zip ds).lookup n) with
      | none => rw [h2] at h; cases h
      | some zr =>
        rw [h2] at h
        cases h
        obtain ⟨w, w1, w2⟩ := one l h1
        obtain ⟨wr, v1, v2⟩ := ih h2
        exact ⟨w :: wr, by rw [List.mapM_cons, w1, v1] <;> rfl, .cons w2 v2⟩
theorem byN_len {ks : List Str} {ds : List Dat} : ∀ {ms : List Str} {es : List Dat}, byNames ms ks ds = some es → es.length = ms.length := by
  intro ms
  induction ms with
  | nil => intro zs h; cases h; rfl
  | cons m ms ih =>
    intro zs h
    unfold byNames at h
    rw [List.mapM_cons] at h
    cases h1 : (ks.zip ds).lookup m with
    | none => rw [h1] at h; cases h
    | some z =>
      rw [h1] at h
      cases h2 : ms.mapM (fun n => (ks.zip ds).lookup n) with
      | none => rw [h2] at h; cases h
      | some zr =>
        rw [h2] at h
        cases h
        rw [List.length_cons, List.length_cons, ih h2]
/-- an object, in the machine's memory -/
theorem obj_inst {pins : List (Addr × Obj)} {σ : L2.St} {H : Hp} {s : Shared} {v : V} {c : Str} {fs : List (Str × Dat)} (I : Inv X pins σ H s) (h : Is (X.km ea) H v (.obj c fs)) :
    ∃ (a : Addr) (o : Obj) (C : Addr) (od : Option Obj), v = .ref a ∧ X.mg c = some (.ref C) ∧ PySem.W.InstAt s.heap a o C od ∧ (∀ f d, fs.lookup f = some d → ∃ (dx : Addr) (oD : Obj) (vs : List (Str × V)), od = some oD ∧ o.dict = some dx ∧ H dx = some (.frz oD (.xd vs)) ∧ vs.map (·.1) = fs.map (·.1) ∧ IsL (X.km ea) H (vs.map (·.2)) (fs.map (·.2))) := by
  cases h with
  | @err0 a o u C _ ws h1 h2 h3 h4 h5 =>
    obtain ⟨ho, _⟩ := (show ObjOk X.prog X.w H s.heap a (.frz o u) from I.hok a _ h1)
    exact ⟨a, o, C, none, rfl, h5, ⟨ho, h2, by unfold PySem.W.notCls; rw [h4] <;> rfl, by rw [h3]; trivial⟩, fun f d z => by cases z⟩
  | @err1 a o u C dx _ ws od vs _ h1 h2 h3 h4 h5 h6 h7 h8 =>
    obtain ⟨ho, _⟩ := (show ObjOk X.prog X.w H s.heap a (.frz o u) from I.hok a _ h1)
    obtain ⟨hd, _⟩ := (show ObjOk X.prog X.w H s.heap dx (.frz od (.xd vs)) from I.hok dx _ h6)
    exact ⟨a, o, C, some od, rfl, h5, ⟨ho, h2, by unfold PySem.W.notCls; rw [h4] <;> rfl, by rw [h3]; exact hd⟩, fun f d _ => ⟨dx, od, vs, rfl, h3, h6, h7, h8⟩⟩
theorem Rdb.obj {K : KM} {H : Hp} {v : V} {c : Str} {fs : List (Str × Dat)} (h : Rdb K H v (.obj c fs)) : Is K H v (.obj c fs) := by
  rcases h with h | ⟨p, _, _, _, e, _⟩
  · exact h
  · cases e
/-- what is wanted of one value, by what is done to it -/
def rP (K : KM) (T : Tab) (p : P1) (σ : L2.St) (v : V) (H : Hp) (Q : VK) : Prop := ∃ (B : Hp) (ρ : DEnv) (x d : Dat) (k : Mode), REnv K B σ H ρ ∧ Rdb K H v x ∧ pr1D T p x = some (d, k) ∧ Want K B σ ρ H d k Q
theorem pe_fld {x0 : Expr} {f : Str} {pos : Pos} {te : TE} (g : Good T n hot ea X) (hp : plainA x0 = true) (he : PE X x0 te) : PE X (.Attribute x0 f pos) (fun σ H Q => te σ H fun v H1 => rP (X.km ea) T (.fld f) σ v H1 Q) := by
  refine ⟨fun pins s σ H Q I h => attr_of (plain_a hp) (thn (he.run pins s σ H _ I h) fun u s1 hq => ?_)⟩
  obtain ⟨v, H1, I1, rv, B, ρ, x, d, k, R, rd, hd, w⟩ := hq
  have hd' : (fldD T f x).map (fun d => (d, Mode.frz)) = some (d, k) := hd
  cases x with
  | obj c fs =>
    obtain ⟨d', hd1, hd2⟩ := Option.map_eq_some_iff.mp hd'
    cases hd2
    have hd3 : (if (T.exc c).any (·.contains f) = true then fs.lookup f else none) = some d := hd1
    split at hd3
    · rename_i hc
      obtain ⟨names, hc1, hc2⟩ : ∃ names, T.exc c = some names ∧ f ∈ names := by
        cases q : T.exc c with
        | none => rw [q] at hc; cases hc
        | some ns => rw [q] at hc; exact ⟨ns, rfl, List.contains_iff_mem.mp hc⟩
      obtain ⟨C', m1, F, hno⟩ := g.mod.exf c names hc1
      obtain ⟨a, o, C, od, rfl, m2, J, hf⟩ := obj_inst I1 rd.obj
      rw [m1] at m2
      cases m2
      obtain ⟨dx, oD, vs, rfl, h3, h6, h7, h8⟩ := hf f d hd3
      obtain rfl : u = Value.ref a := rv
      obtain ⟨v, hv1, hv2⟩ := lookup_is h7 h8 hd3
      obtain ⟨ho, mA, hns, hrr⟩ := (show ObjOk X.prog X.w H1 s1.heap dx (.frz oD (.xd vs)) from I1.hok dx _ h6)
      obtain ⟨od2, ho2, hlk⟩ := lookIn_ns hns
      rw [ho] at ho2
      cases ho2
      obtain ⟨u, hu, ru⟩ := RelO.some_of (v := v) (o := mA f) (by rw [← hv1]; exact hrr f)
      exact HandSPX.exc_get I1.kIn J F.hga F.hgt F.hsub (PySem.W.findObj_own F.hd (hno f hc2) rfl (by rw [hlk, hu])) (handed_of ru) ⟨v, H1, I1.tok _, ru, w v H1 R (FrzLe.refl H1) hv2⟩
    · cases hd3
  | _ => cases hd'
theorem name_one {mg : Str → Option Value} {x : Str} {v w : Value} (h1 : NameM mg x v) (h2 : NameM mg x w) : v = w := by
  rcases h1 with h1 | ⟨a1, a2, _⟩ <;> rcases h2 with h2 | ⟨b1, b2, _⟩
  · rw [h1] at h2; cases h2; rfl
  · rw [h1] at b1; cases b1
  · rw [a1] at h2; cases h2
  · rw [a2] at b2; cases b2; rfl
def NamesM (mg : Str → Option Value) : List Str → List Value → Prop
  | [], [] => True
  | c :: cs, v :: vs => NameM mg c v ∧ NamesM mg cs vs
  | _, _ => False
/-- classes by their names -/
theorem pa_clss (g : Good T n hot ea X) : ∀ {cs : List Str} {l : List Expr}, l.map nameOf = cs.map some → cs.all (fun c => glo X.env.scope c && notOdd c) = true → cs.all T.cls = true →
    ∃ (cvs : List V) (vals : List Value), PA X l (fun _ H Q => Q cvs H) ∧ (∀ us, Vals cvs us → us = vals) ∧ NamesM X.mg cs vals ∧ cvs.length = cs.length
  | [], [], _, _, _ => ⟨[], [], pa_nil, fun us r => by cases r; rfl, trivial, rfl⟩
  | c :: cs, [], h, _, _ => by cases h
  | [], e :: l, h, _, _ => by cases h
  | c :: cs, e :: l, h, h1, h2 => by
    have h3 := congrArg List.head? h
    have h4 := congrArg List.tail h
    simp only [List.map_cons, List.head?_cons, List.tail_cons, Option.some.injEq] at h3 h4
    rw [List.all_cons] at h1 h2
    have a1 := and_and h1
    have a2 := and_and h2
    have a3 := and_and a1.1
    cases e with
    | Name x p =>
      have ex : x = c := by simpa [nameOf] using h3
      subst ex
      obtain ⟨v, m1, m2⟩ := g.mod.cls x a2.1
      obtain ⟨cv, k1, k2⟩ := pe_cls (p := p) m1 m2 (glo_of a3.1) a3.2
      obtain ⟨cvs, vals, i1, i2, i3, i4⟩ := pa_clss g h4 a1.2 a2.2
      refine ⟨cv :: cvs, v :: vals, (pa_cons k2 i1 (star_cons rfl)).imp fun σ H Q q => q, fun us r => ?_, ⟨m1, i3⟩, by rw [List.length_cons, List.length_cons, i4]⟩
      cases r with
      | cons r1 r2 => rw [k1 _ r1, i2 _ r2]
    | _ => cases h3
theorem kit_any (g : Good T n hot ea X) {c : Str} {C : Addr} (hm : X.mg c = some (.ref C)) : ∀ {cs : List Str} {vals : List Value} {b : Bool}, NamesM X.mg cs vals → subs T c cs = some b → PySem.W.kitAny X.K (.ref C) vals = some b
  | [], [], b, _, h => h
  | [], _ :: _, _, h, _ => h.elim
  | _ :: _, [], _, h, _ => h.elim
  | d :: cs, v :: vals, b, hn, h => by
    have h' : (match T.sub c d with | some true => some true | some false => subs T c cs | none => none) = some b := h
    show (match PySem.W.kitOne X.K (.ref C) v with | some true => some true | some false => PySem.W.kitAny X.K (.ref C) vals | none => none) = some b
    cases q : T.sub c d with
    | none => rw [q] at h'; cases h'
    | some z =>
      obtain ⟨C', v', m1, F, m2, m3, m4, _⟩ := g.mod.sub c d z q
      rw [hm] at m1
      cases m1
      rw [name_one hn.1 m2, m4]
      rw [q] at h'
      cases z with
      | true => exact h'
      | false => exact kit_any g hm hn.2 h'
theorem subs_excF (g : Good T n hot ea X) {c d : Str} {cs : List Str} {b : Bool} (h : subs T c (d :: cs) = some b) : ∃ C, X.mg c = some (.ref C) ∧ ExcF X.K C := by
  have h' : (match T.sub c d with | some true => some true | some false => subs T c cs | none => none) = some b := h
  cases q : T.sub c d with
  | none => rw [q] at h'; cases h'
  | some z =>
    obtain ⟨C', v', m1, F, _⟩ := g.mod.sub c d z q
    exact ⟨C', m1, F⟩
theorem call_isO1 (g : Good T n hot ea X) {d : Str} {vals : List Value} (hn : NamesM X.mg [d] vals) : CallR X (.builtin "isinstance") (fun xs H Q => ∃ (v cv : V) (c : Str) (fs : List (Str × Dat)) (b : Bool), xs = [v, cv] ∧ (∀ us, Vals [cv] us → us = vals) ∧ Is (X.km ea) H v (.obj c fs) ∧ subs T c [d] = some b ∧ Q (.bl b) H) := by
  intro pins s σ H xs us Q I r h
  obtain ⟨v, cv, c, fs, b, rfl, hcv, hi, hs, q⟩ := h
  obtain ⟨u1, u2, rfl, r1, r2⟩ := vals2 r
  have e2 := hcv [u2] (.cons r2 .nil)
  subst e2
  obtain ⟨a, o, C, od, rfl, hm, J, _⟩ := obj_inst I hi
  obtain ⟨C', m1, F⟩ := subs_excF g hs
  rw [hm] at m1
  cases m1
  cases r1
  have hk := kit_any g hm hn hs
  have hk1 : PySem.W.kitOne X.K (.ref C) u2 = some b := by
    have : (match PySem.W.kitOne X.K (.ref C) u2 with | some true => some true | some false => some false | none => none) = some b := hk
    cases q : PySem.W.kitOne X.K (.ref C) u2 with
    | none => rw [q] at this; cases this
    | some z => rw [q] at this; cases z <;> exact this
  exact PySem.W.kia_one (PySem.W.kitx_exc F.hcl F.hga F.hgt F.hsub F.ha F.hn F.htk F.hm) I.kIn J hk1 (fun z => nomatch z) fun tk => ⟨.bl b, H, I.tok tk, rfl, q⟩
theorem call_isOT (g : Good T n hot ea X) {d : Str} {ds : List Str} {vals : List Value} (hn : NamesM X.mg (d :: ds) vals) : CallR X (.builtin "isinstance") (fun xs H Q => ∃ (v : V) (tp : Addr) (cvs : List V) (c : Str) (fs : List (Str × Dat)) (b : Bool), xs = [v, .ref tp] ∧ H tp = some (.tup cvs) ∧ (∀ us, Vals cvs us → us = vals) ∧ Is (X.km ea) H v (.obj c fs) ∧ subs T c (d :: ds) = some b ∧ Q (.bl b) H) := by
  intro pins s σ H xs us Q I r h
  obtain ⟨v, tp, cvs, c, fs, b, rfl, htp, hcv, hi, hs, q⟩ := h
  obtain ⟨u1, u2, rfl, r1, r2⟩ := vals2 r
  obtain ⟨a, o, C, od, rfl, hm, J, _⟩ := obj_inst I hi
  obtain ⟨C', m1, F⟩ := subs_excF g hs
  rw [hm] at m1
  cases m1
  cases r1
  cases r2
  obtain ⟨its, rv, pt, _⟩ := I.tuple (.inl (.inl htp))
  obtain ⟨ot, ho, h1, n', h2⟩ := pt
  have hk := kit_any g hm hn hs
  have e2 := hcv _ rv
  subst e2
  obtain ⟨oc, odd, odt, osl⟩ := ot
  cases h1
  cases h2
  exact PySem.W.kia_tup (PySem.W.kitx_exc F.hcl F.hga F.hgt F.hsub F.ha F.hn F.htk F.hm) I.kIn J ho hk (fun z => nomatch z) fun tk => ⟨.bl b, H, I.tok tk, rfl, q⟩
theorem pr1_form {p : P1} {e x0 : Expr} {te : TE} (g : Good T n hot ea X) (hk : okP T p = true) (ha : argP X.env.scope p e = some x0) (he : PE X x0 te) (mono : ∀ σ H (R R' : VK), (∀ v H1, R v H1 → R' v H1) → te σ H R → te σ H R') :
    PE X e (fun σ H Q => te σ H fun v H1 => rP (X.km ea) T p σ v H1 Q) := by
  unfold argP at ha
  split at ha
  · split at ha
    · rename_i hc
      cases ha
      have c1 := and_and hc
      have e1 := of_decide_eq_true c1.1
      subst e1
      exact pe_fld g c1.2 he
    · cases ha
  · rename_i cs gg p1 x c p2 p3
    split at ha
    · rename_i hc
      cases ha
      have c1 := and_and hc
      have c2 := and_and c1.1
      have c3 := and_and c2.1
      have c4 := and_and c3.1
      have c5 := and_and c4.1
      have e1 := of_decide_eq_true c5.1
      have e2 := of_decide_eq_true c3.2
      subst e1
      subst e2
      obtain ⟨cvs, vals, i1, i2, i3, i4⟩ := pa_clss g (cs := [c]) (l := [.Name c p2]) rfl (by rw [List.all_cons, List.all_nil, c2.2, c1.2]; rfl) (and_and hk).1
      refine (pe_callB (call_isO1 g i3) (glo_of c5.2) g.mod.isi PyProof.Rows.boot_isinstance (pa_cons he i1 (star_cons c4.2)) (by decide) (by decide) (star_cons c4.2) (star_none (by intro y hy; cases hy with | head => rfl | tail _ h => cases h))).imp fun σ H Q q => ?_
      refine mono σ H _ _ (fun v H1 z => ?_) q
      obtain ⟨B, ρ, y, d, k, R, rd, hd, w⟩ := z
      have hd' : (isCD T [c] y).map (fun b => (Dat.bl b, Mode.frz)) = some (d, k) := hd
      obtain ⟨b, hb, hbb⟩ := Option.map_eq_some_iff.mp hd'
      cases hbb
      cases y with
      | obj cn fs =>
        cases cvs with
        | nil => cases i4
        | cons cv r =>
          cases r with
          | nil => exact ⟨v, cv, cn, fs, b, rfl, i2, rd.obj, hb, w _ H1 R (FrzLe.refl H1) (.bl b)⟩
          | cons _ _ => cases i4
      | _ => cases hb
    · cases ha
  · rename_i cs gg p1 x l k0 p2 p3
    split at ha
    · rename_i hc
      cases ha
      have c1 := and_and hc
      have c2 := and_and c1.1
      have c3 := and_and c2.1
      have c4 := and_and c3.1
      have c5 := and_and c4.1
      have e1 := of_decide_eq_true c5.1
      have e2 := of_decide_eq_true c3.2
      have e3 := of_decide_eq_true c2.2
      subst e1
      obtain ⟨cvs, vals, i1, i2, i3, i4⟩ := pa_clss g e2 c1.2 (and_and hk).1
      cases cs with
      | nil =>
        have hk : ([].all T.cls && !([] : List Str).isEmpty) = true := hk
        exact absurd (and_and hk).2 (by decide)
      | cons c cs =>
      refine (pe_callB (call_isOT g i3) (glo_of c5.2) g.mod.isi PyProof.Rows.boot_isinstance (pa_cons he (pa_cons (pe_tup i1) pa_nil (star_cons rfl)) (star_cons c4.2)) (by decide) (by decide) (star_cons c4.2) (star_none (by intro y hy; cases hy with | head => rfl | tail _ h => cases h))).imp fun σ H Q q => ?_
      refine mono σ H _ _ (fun v H1 z => ?_) q
      obtain ⟨B, ρ, y, d, k, R, rd, hd, w⟩ := z
      have hd' : (isCD T (c :: cs) y).map (fun b => (Dat.bl b, Mode.frz)) = some (d, k) := hd
      obtain ⟨b, hb, hbb⟩ := Option.map_eq_some_iff.mp hd'
      cases hbb
      cases y with
      | obj cn fs =>
        refine ⟨by rw [i4, sizeLine_eq]; omega, fun tp ht => ?_⟩
        exact ⟨v, tp, cvs, cn, fs, b, rfl, upd_same, i2, rd.obj.mono (FrzLe.new ht), hb, w _ _ (R.new ht) (FrzLe.new ht) (.bl b)⟩
      | _ => cases hb
    · cases ha
  · cases ha
end
end Ev
set_option Elab.async false
set_option linter.all false
set_option maxRecDepth 100000
set_option maxHeartbeats 4000000
/-! Comprehensions whose target is a tuple of names. -/
namespace Ev
open PySem PySem.Spec PyProof.Rows L2
variable {ea : Option EA}
theorem wipe_wipe {σ : L2.St} {vs : List Nat} : L2.wipe (L2.wipe σ vs) vs = L2.wipe σ vs := by
  apply List.ext_getElem?
  intro j
  by_cases hj : j ∈ vs
  · by_cases hl : j < σ.length
    · rw [wipe_at hj (by rw [wipe_length]; exact hl), wipe_at hj hl]
    · rw [List.getElem?_eq_none (by rw [wipe_length, wipe_length]; omega), List.getElem?_eq_none (by rw [wipe_length]; omega)]
  · rw [wipe_get hj]
def StepG (K : KM) (W : WX) (vs : List Nat) (gt : TG) (tt : TT) (te : TE) (one : Dat → DEnv → Res (Option Dat × DEnv)) : Prop :=
  ∀ x ρ' B σ0 H v, L2.wipe σ0 vs = σ0 → REnv K B σ0 H (wipeE ρ' vs) → Is K H v x → ∀ (Qy : V → Hp → Prop) (Qn : Hp → Prop), (∀ σ2, L2.wipe σ2 vs = σ0 → wantOne K W B σ2 H Qy Qn (one x ρ')) →
    gt v σ0 H fun σ2 H2 => L2.wipe σ2 vs = σ0 ∧ tt σ2 H2 fun b H3 => if b = true then te σ2 H3 Qy else Qn H3
theorem comp_sndG {K : KM} {W : WX} {J : It} {vs : List Nat} {gt : TG} {tt : TT} {te : TE} {one : Dat → DEnv → Res (Option Dat × DEnv)} {xs : List Dat} {vI : List V} {ρ1 : DEnv} {B : Hp} {σ : L2.St} {H1 : Hp} {Q : VK}
    (st : StepG K (fun cls d _ H => W cls d σ H) vs gt tt te one) (l : IsL K H1 vI xs) (wk : Walker J vI H1) (R : REnv K B σ H1 ρ1) (w : wantC K W B σ H1 Q (comp vs one xs ρ1)) :
    ∀ D, H1 D = none → ∃ Wi : Nat → Nat → Hp → Prop, (∃ m, Wi 0 m (upd H1 D (.lst []))) ∧ ∀ i m H, Wi i m H →
      (J.stop i H ∧ Q (.ref D) H) ∨ (J.go i H ∧ ∃ Nx : Hp → Prop, (∀ H', Nx H' → ∃ m', m' < m ∧ Wi (i + 1) m' H') ∧ ∀ x H', J.yld i H x H' → gt x (L2.wipe σ vs) H' fun σ2 H2 => L2.wipe σ2 vs = L2.wipe σ vs ∧ tt σ2 H2 fun b H3 =>
        if b = true then te σ2 H3 fun y H4 => ∃ acc, H4 D = some (.lst acc) ∧ acc.length < sizeLine ∧ Nx (upd H4 D (.lst (acc ++ [y]))) else Nx H3) := by
  intro D hD
  unfold comp at w
  split at w
  case isFalse => exact w.elim
  rename_i hcc
  obtain ⟨hs, hc⟩ := Bool.and_eq_true_iff.mp hcc
  have bD : B D = none := R.newB hD
  have lenI := l.length
  have leD : ∀ z a o, B a = some o → upd B D z a = some o := fun z a o h => by rw [upd_ne (fun e => by subst e; rw [bD] at h; cases h)]; exact h
  refine ⟨fun i m H => ∃ ρi acc accV, m = xs.length - i ∧ i ≤ xs.length ∧ pre acc (turns one (xs.drop i) ρi) = turns one xs ρ1 ∧ H D = some (.lst accV) ∧ IsL K H accV acc ∧ acc.length ≤ i ∧
    REnv K (upd B D (.lst accV)) (L2.wipe σ vs) H (wipeE ρi vs) ∧ FrzLe H1 H, ⟨xs.length, ρ1, [], [], by omega, Nat.zero_le _, pre_nil _, upd_same, .nil, Nat.le_refl _, ?_, FrzLe.new hD⟩, ?_⟩
  · have R' := (R.new (o := .lst []) hD).wipe vs
    refine ⟨fun a o h => ?_, R'.len, R'.val, fun i d h => ?_, R'.sep, R'.exn⟩
    · by_cases z : a = D
      · subst z; rw [upd_same] at h; cases h; exact upd_same
      · rw [upd_ne z] at h; exact R'.base a o h
    · obtain ⟨p, p1, p2, p3⟩ := R'.own i d h
      refine ⟨p, p1, ?_, p3⟩
      have hp : p ≠ D := fun z => by
        subst z
        have iv : i ∉ vs := fun q => by
          have lt : i < σ.length := by
            have := (List.getElem?_eq_some_iff.mp p1).1
            rwa [wipe_length] at this
          rw [wipe_at q lt] at p1
          cases p1
        rw [wipe_get iv] at p1
        rw [wipeE_get iv] at h
        exact R.newS hD i d h p1
      rw [upd_ne hp]; exact p2
  · rintro i m H ⟨ρi, acc, accV, rfl, hi, hturn, hDl, hl, hal, RR, fr⟩
    by_cases hlt : i < xs.length
    · right
      have hx : xs[i]? = some xs[i] := List.getElem?_eq_getElem hlt
      obtain ⟨v, hv, hIs⟩ := l.get hx
      obtain ⟨hgo, hy⟩ := (wk i H fr).1 v hv
      rw [List.drop_eq_getElem_cons hlt] at hturn
      have hturn' : pre acc ((one xs[i] ρi).bind fun (o, ρ1) => (turns one (xs.drop (i + 1)) ρ1).bind fun (ys, ρ2) => .ok (put o ys, ρ2)) = turns one xs ρ1 := hturn
      refine ⟨hgo, fun H' => ∃ ρi' acc' accV', i + 1 ≤ xs.length ∧ pre acc' (turns one (xs.drop (i + 1)) ρi') = turns one xs ρ1 ∧ H' D = some (.lst accV') ∧ IsL K H' accV' acc' ∧ acc'.length ≤ i + 1 ∧
        REnv K (upd B D (.lst accV')) (L2.wipe σ vs) H' (wipeE ρi' vs) ∧ FrzLe H1 H', fun H' ⟨a1, a2, a3, a5, a6, a7, a8, a9, a10, a11⟩ => ⟨xs.length - (i + 1), by omega, a1, a2, a3, rfl, a5, a6, a7, a8, a9, a10, a11⟩, fun x H' hyl => ?_⟩
      obtain ⟨e1, e2⟩ := hy x H' hyl
      subst e1
      subst e2
      refine st xs[i] ρi (upd B D (.lst accV)) (L2.wipe σ vs) H' x wipe_wipe RR (hIs.mono fr) _ _ ?_
      intro σ2 hσ2
      have wipe_set' : L2.wipe σ2 vs = L2.wipe σ vs := hσ2
      cases ho : one xs[i] ρi with
      | stuck =>
        rw [ho] at hturn'
        have e : turns one xs ρ1 = .stuck := hturn'.symm
        rw [e] at w
        exact w.elim
      | exc c fs ρ2 =>
        rw [ho] at hturn'
        have e : turns one xs ρ1 = .exc c fs ρ2 := hturn'.symm
        rw [e] at w
        intro cls d H4 R4 f4 xc
        have R5 := R4.wipe vs
        rw [wipe_set'] at R5
        exact w cls d H4 (R.back hc (leD _) (fr.trans f4) R5).1 (fr.trans f4) xc
      | ok a =>
        obtain ⟨o, ρn⟩ := a
        rw [ho] at hturn'
        have h3 : pre (acc ++ o.toList) (turns one (xs.drop (i + 1)) ρn) = turns one xs ρ1 := by
          rw [← pre_put]
          exact hturn'
        cases o with
        | some d =>
          intro y H4 R4 f4 iy
          have hD4 : H4 D = some (.lst accV) := R4.base D _ upd_same
          refine ⟨accV, hD4, ?_, ρn, acc ++ [d], accV ++ [y], hlt, h3, upd_same, ?_, ?_, ?_, fr.trans (f4.trans (FrzLe.mut hD4 rfl))⟩
          · rw [hl.length]
            exact Nat.lt_of_le_of_lt hal (Nat.lt_of_lt_of_le hlt (sm_le hs))
          · exact ((hl.mono f4).append (.cons iy .nil)).mono (FrzLe.mut hD4 rfl)
          · rw [List.length_append]; simp; omega
          · have R5 := R4.wipe vs
            rw [wipe_set'] at R5
            refine ⟨fun a o' h => ?_, R5.len, fun j d' h => ?_, fun j d' h => ?_, R5.sep, fun j cc fs h => ?_⟩
            · by_cases z : a = D
              · subst z; rw [upd_same] at h; cases h; exact upd_same
              · rw [upd_ne z] at h ⊢
                exact R5.base a o' (by rw [upd_ne z]; exact h)
            · obtain ⟨w', w1, w2⟩ := R5.val j d' h
              exact ⟨w', w1, w2.mono (FrzLe.mut hD4 rfl)⟩
            · obtain ⟨p, p1, p2, p3⟩ := R5.own j d' h
              have pn : p ≠ D := fun z => by subst z; rw [upd_same] at p2; cases p2
              rw [upd_ne pn] at p2
              exact ⟨p, p1, by rw [upd_ne pn]; exact p2, p3.mono (FrzLe.mut hD4 rfl) (upd_ne pn)⟩
            · obtain ⟨x, x1, x2, x3, x4⟩ := R5.exn j cc fs h
              exact ⟨x, x1, x2, x3, x4.mono (FrzLe.mut hD4 rfl)⟩
        | none =>
          intro H4 R4 f4
          have hD4 : H4 D = some (.lst accV) := R4.base D _ upd_same
          have R5 := R4.wipe vs
          rw [wipe_set'] at R5
          refine ⟨ρn, acc, accV, hlt, ?_, hD4, hl.mono f4, by omega, R5, fr.trans f4⟩
          have h3' : pre (acc ++ []) (turns one (xs.drop (i + 1)) ρn) = turns one xs ρ1 := h3
          rwa [List.append_nil] at h3'
    · left
      have ei : i = xs.length := by omega
      subst ei
      rw [List.drop_length] at hturn
      have e : turns one xs ρ1 = .ok (acc, ρi) := by
        rw [← hturn]
        show Res.ok (acc ++ [], ρi) = _
        rw [List.append_nil]
      rw [e] at w
      refine ⟨(wk _ H fr).2 (by omega), ?_⟩
      obtain ⟨RB, own⟩ := R.back hc (leD _) fr RR
      refine w _ H RB fr ⟨D, rfl, ⟨accV, acc, rfl, hDl, hl⟩, bD, fun j e h => ?_⟩
      obtain ⟨p, p1, p2⟩ := own j e h
      intro z
      rw [p1] at z
      cases z
      rw [upd_same] at p2
      cases p2
/-- several names, one after the other -/
def setAll : List Nat → List V → L2.St → L2.St
  | i :: is, v :: vs, σ => setAll is vs (σ.set i (some v))
  | _, _, σ => σ
def gAll : List Nat → TGs
  | [] => gNil
  | i :: is => gCons (gName i) (gAll is)
theorem gAll_of : ∀ {is : List Nat} {vs : List V} {σ : L2.St} {H : Hp} {Q : L2.St → Hp → Prop}, vs.length = is.length → Q (setAll is vs σ) H → gAll is vs σ H Q
  | [], [], σ, H, Q, _, h => ⟨rfl, h⟩
  | [], _ :: _, _, _, _, h, _ => by cases h
  | _ :: _, [], _, _, _, h, _ => by cases h
  | i :: is, v :: vs, σ, H, Q, h, q => ⟨v, vs, rfl, gAll_of (is := is) (by simpa using h) q⟩
theorem REnv.setAll {K : KM} {B : Hp} {H : Hp} : ∀ {is : List Nat} {vs : List V} {ds : List Dat} {σ : L2.St} {ρ : DEnv}, REnv K B σ H ρ → IsL K H vs ds → vs.length = is.length → REnv K B (setAll is vs σ) H (storeAll is ds ρ)
  | [], [], _, σ, ρ, R, l, _ => by cases l; exact R
  | [], _ :: _, _, _, _, _, _, h => by cases h
  | _ :: _, [], _, _, _, _, _, h => by cases h
  | i :: is, v :: vs, _, σ, ρ, R, l, h => by
    cases l with
    | cons a l => exact REnv.setAll (is := is) (R.setVal i a) l (by simpa using h)
theorem wipe_set1 {σ : L2.St} {i : Nat} {x : Option V} {vs : List Nat} (h : i ∈ vs) : L2.wipe (σ.set i x) vs = L2.wipe σ vs := by
  apply List.ext_getElem?
  intro j
  by_cases hj : j ∈ vs
  · by_cases hl : j < σ.length
    · rw [wipe_at hj (by rw [List.length_set]; exact hl), wipe_at hj hl]
    · rw [List.getElem?_eq_none (by rw [wipe_length, List.length_set]; omega), List.getElem?_eq_none (by rw [wipe_length]; omega)]
  · rw [wipe_get hj, wipe_get hj, List.getElem?_set_ne (fun z => hj (by rw [← z]; exact h))]
theorem wipe_setAll {vs : List Nat} : ∀ {is : List Nat} {us : List V} {σ : L2.St}, (∀ i ∈ is, i ∈ vs) → L2.wipe (setAll is us σ) vs = L2.wipe σ vs
  | [], [], _, _ => rfl
  | [], _ :: _, _, _ => rfl
  | _ :: _, [], _, _ => rfl
  | i :: is, u :: us, σ, h => by
    show L2.wipe (setAll is us (σ.set i (some u))) vs = _
    rw [wipe_setAll (is := is) fun j hj => h j (List.mem_cons_of_mem _ hj), wipe_set1 (h i List.mem_cons_self)]
section
variable {X : Cx} {T : Tab} {n : Nat}
theorem step_lcT {W : WX} {vs tgs : List Nat} {elt : IE} {K : KM} (hm : ∀ i ∈ tgs, i ∈ vs) : StepG K W vs (gTup K.K tgs.length (gAll tgs)) tYes (tUK K W T elt) (oneTup (ev T elt) tgs vs) := by
  intro x ρ' B σ0 H v ww R hx Qy Qn w
  have no : ∀ {P : Prop}, oneTup (ev T elt) tgs vs x ρ' = .stuck → P := fun z => by
    have := w σ0 ww
    rw [z] at this
    exact (show False from this).elim
  cases x with
  | tup ds =>
    by_cases hl : ds.length = tgs.length
    · cases hx with
      | @tup a us _ h1 h2 =>
      have hu : us.length = tgs.length := h2.length.trans hl
      refine ⟨a, us, rfl, h1, hu, gAll_of hu ⟨?_, ?_⟩⟩
      · rw [wipe_setAll hm, ww]
      · show (if true = true then tUK K W T elt (setAll tgs us σ0) H Qy else Qn H)
        rw [if_pos rfl]
        have w' := w (setAll tgs us σ0) (by rw [wipe_setAll hm, ww])
        refine ⟨_, B, R.setAll h2 hu, ?_⟩
        have e1 : oneTup (ev T elt) tgs vs (.tup ds) ρ' = (ev T elt (storeAll tgs ds (wipeE ρ' vs))).bind fun (y, m, ρ'') => .ok (some y, keep m ρ'' y) := by
          show (if ds.length = tgs.length then _ else _) = _
          rw [if_pos hl]
        rw [e1] at w'
        cases h : ev T elt (storeAll tgs ds (wipeE ρ' vs)) with
        | ok a => rw [h] at w'; exact w'
        | exc c fs ρ2 => rw [h] at w'; exact w'
        | stuck => rw [h] at w'; exact w'
    · exact no (by show (if ds.length = tgs.length then _ else _) = _; rw [if_neg hl])
  | _ => exact no rfl
/-- the target is a tuple of names, the block's parts are at hand -/
theorem lc_mkT {W : WX} {ρ : DEnv} {rit : Res (Dat × Mode × DEnv)} {one : Dat → DEnv → Res (Option Dat × DEnv)} {y0 i0 tgE : Expr} {ifs : List Expr} {scope : Scope} {own : List (Str × Nat)} {gt : TG} {tt : L2.St → TT} {te : L2.St → TE}
    (hb : blkC X.N X.env.scope scope own = true) (hns : noSet i0 = true)
    (pg : ∀ (s : Shared) (H : Hp) (C : Addr) (cl : List (Str × Addr)) (fp : List Addr) (xe : Value → Shared → Prop), PG (X.blkX s H scope (compEnvC scope cl C X.env) fp xe) tgE gt)
    (hit : PE X i0 (tR (X.km ea) W ρ (keepR rit))) (st : ∀ σ, StepG (X.km ea) (wIn W σ) (own.map (·.2)) gt (tt σ) (te σ) one)
    (ht : ∀ (σ : L2.St) (s : Shared) (H : Hp) (C : Addr) (cl : List (Str × Addr)) (fp : List Addr) (xe : Value → Shared → Prop), TakesF (X.blkX s H scope (compEnvC scope cl C X.env) fp xe) (wIn W σ) → PTs (X.blkX s H scope (compEnvC scope cl C X.env) fp xe) ifs (tt σ))
    (he : ∀ (σ : L2.St) (s : Shared) (H : Hp) (C : Addr) (cl : List (Str × Addr)) (fp : List Addr) (xe : Value → Shared → Prop), TakesF (X.blkX s H scope (compEnvC scope cl C X.env) fp xe) (wIn W σ) → PE (X.blkX s H scope (compEnvC scope cl C X.env) fp xe) y0 (te σ)) :
    LcP X (X.km ea) W ρ (rit.bind fun (x, m, ρ1) => (ofO (items x)).bind fun xs => comp (own.map (·.2)) one xs (keep m ρ1 x)) y0 tgE i0 ifs scope := by
  have ok := blkOk_by hb
  cases rit with
  | stuck => exact ⟨_, _, tt, te, own, pi_list hit, ok, pg, ht, he, noSet_fold hns, fun σ H Q ⟨B, R, w⟩ => (show False from w).elim⟩
  | exc c fs ρ2 => exact ⟨_, _, tt, te, own, pi_list hit, ok, pg, ht, he, noSet_fold hns, fun σ H Q h => h⟩
  | ok a =>
    obtain ⟨x, m, ρ1⟩ := a
    have bad : items x = none → LcP X (X.km ea) W ρ ((ofO (items x)).bind fun xs => comp (own.map (·.2)) one xs (keep m ρ1 x)) y0 tgE i0 ifs scope := fun z =>
      ⟨_, _, tt, te, own, pi_list hit, ok, pg, ht, he, noSet_fold hns, fun σ H Q ⟨B, R, w⟩ => by rw [z] at w; exact (show False from w).elim⟩
    cases x with
    | lst ds =>
      refine ⟨_, _, tt, te, own, pi_list hit, ok, pg, ht, he, noSet_fold hns, fun σ H Q ⟨B, R, w⟩ => ⟨B, R, fun v H1 R1 f1 rv => ?_⟩⟩
      cases rv with
      | lst a l =>
        refine ⟨_, rfl, ⟨_, .inl (.inr ⟨_, a⟩)⟩, ?_⟩
        exact comp_sndG (st σ) l (walker_list (K := X.km ea) a) R1 (wantC.step f1 w)
    | tup ds =>
      refine ⟨_, _, tt, te, own, pi_tup hit, ok, pg, ht, he, noSet_fold hns, fun σ H Q ⟨B, R, w⟩ => ⟨B, R, fun v H1 R1 f1 rv => ?_⟩⟩
      cases rv with
      | tup a l =>
        refine ⟨_, rfl, ⟨_, a⟩, ?_⟩
        exact comp_sndG (st σ) l (walker_tup (K := X.km ea) a) R1 (wantC.step f1 w)
    | str s =>
      refine ⟨_, _, tt, te, own, pi_str hit, ok, pg, ht, he, noSet_fold hns, fun σ H Q ⟨B, R, w⟩ => ⟨B, R, fun v H1 R1 f1 rv => ?_⟩⟩
      cases rv
      refine ⟨_, rfl, ?_⟩
      exact comp_sndG (st σ) (signs_is s) (walker_str s) R1 (wantC.step f1 w)
    | non => exact bad rfl
    | bl _ => exact bad rfl
    | int _ => exact bad rfl
    | dic _ => exact bad rfl
    | scr _ => exact bad rfl
    | obj _ _ => exact bad rfl
/-- the names of the target, in the block -/
theorem pgs_tgs {scope : Scope} {own : List (Str × Nat)} (hN : X.N.Nodup) (ok : BlkOk X.N X.env.scope scope own) {s : Shared} {H : Hp} {C : Addr} {cl : List (Str × Addr)} {fp : List Addr} {xe : Value → Shared → Prop} : ∀ {tgs : List Nat} {l : List Expr}, tgsC scope own tgs l = true →
    PGs (X.blkX s H scope (compEnvC scope cl C X.env) fp xe) l (gAll tgs) ∧ (assignEach l (X.blkX s H scope (compEnvC scope cl C X.env) fp xe).env).length = tgs.length ∧ (assignEach l (X.blkX s H scope (compEnvC scope cl C X.env) fp xe).env).findIdx? (·.1) = none ∧ ∀ i ∈ tgs, i ∈ own.map (·.2)
  | [], [], _ => ⟨pgs_nil, rfl, rfl, fun i h => nomatch h⟩
  | [], _ :: _, h => nomatch h
  | _ :: _, [], h => nomatch h
  | i :: is, e :: l, h => by
    cases e with
    | Name x p =>
      have h1 := and_and (show (decide ((x, i) ∈ own) && locC scope x && tgsC scope own is l) = true from h)
      have h2 := and_and h1.1
      have hm := of_decide_eq_true h2.1
      have lo := loc_rel (sc := X.env.scope) (x := x) (scope := scope) h2.2
      obtain ⟨i1, i2, i3, i4⟩ := pgs_tgs hN ok (s := s) (H := H) (C := C) (cl := cl) (fp := fp) (xe := xe) h1.2
      have pg : PG (X.blkX s H scope (compEnvC scope cl C X.env) fp xe) (.Name x p) (gName i) := pg_name hN (ok.ix _ hm) lo.1 lo.2
      refine ⟨pgs_cons pg i1, ?_, ?_, fun j hj => ?_⟩
      · show (assignEach l _).length + 1 = _
        rw [i2]; rfl
      · show ((false, assign (.Name x p) _) :: assignEach l _).findIdx? (·.1) = none
        rw [List.findIdx?_cons]
        simp [i3]
      · rcases List.mem_cons.mp hj with rfl | hj
        · exact own_in hm
        · exact i4 j hj
    | _ => exact nomatch h
end
end Ev
set_option Elab.async false
set_option linter.all false
set_option maxRecDepth 100000
set_option maxHeartbeats 8000000
namespace Ev
open PySem PySem.Spec PyProof.Rows L2
section
variable {X : Cx} {ea : Option EA} {T : Tab} {n : Nat}
theorem pa_no {l : List Expr} : PA X l (fun _ _ _ => False) := ⟨fun _ _ _ _ _ _ _ h => h.elim⟩
theorem pk_no {l : List Keyword} : PK X l (fun _ _ _ => False) := ⟨fun _ _ _ _ _ _ _ h => h.elim⟩
theorem strs_isL {K : KM} {H : Hp} : ∀ ys : List Str, IsL K H (ys.map V.str) (ys.map Dat.str)
  | [] => .nil
  | y :: r => .cons (.str y) (strs_isL r)
theorem isNon_of {K : KM} {H : Hp} {v : V} {x : Dat} (h : Rdb K H v x) : decide (v = .non) = x.isNon := by
  rcases h with h | ⟨p, rfl, _, _, rfl, _⟩
  · cases h <;> first | rfl | exact decide_eq_false (fun z => by cases z)
  · exact decide_eq_false (fun z => by cases z)
theorem shape_vals : ∀ {io : List Bool} {ds : List Dat}, io.all (!·) = true → ds.length = io.length → Shape io (ds.map .val)
  | [], [], _, _ => trivial
  | true :: io, _ :: _, h, _ => by simp at h
  | false :: io, d :: ds, h, hl => shape_vals (io := io) (ds := ds) (by simpa using h) (by simpa using hl)
theorem got_vals {K : KM} {B : Hp} {σ : L2.St} {ρ : DEnv} {H : Hp} : ∀ {vs : List V} {ds : List Dat}, IsL K H vs ds → gotR K B σ ρ H vs (ds.map .val)
  | _, _, .nil => trivial
  | _, _, .cons a l => ⟨a, got_vals l⟩
theorem pt_R {W : WX} {ρ : DEnv} {e : Expr} {r : Res (Dat × Mode × DEnv)} (h : PE X e (tR (X.km ea) W ρ r)) (hp : plainT e = true) : PT X e (tRT (X.km ea) W ρ r) :=
  mk_RT (fun q => pt_of (ok_of h q) hp) fun q => pt_ofX (ex_of h q) hp
/-- .. of the parts of an f-text -/
def wantF (K : KM) (W : WX) (B : Hp) (σ : L2.St) (H : Hp) (Q : Str → Hp → Prop) : Res (Str × DEnv) → Prop
  | .ok (z, ρ2) => ∀ H', REnv K B σ H' ρ2 → FrzLe H H' → Q z H'
  | .exc c fs ρ2 => ∀ cls d H', REnv K B σ H' ρ2 → FrzLe H H' → XcR K H' cls d c fs → W cls d σ H'
  | .stuck => False
theorem wantF.step {K : KM} {W : WX} {B : Hp} {σ : L2.St} {H H1 : Hp} {Q : Str → Hp → Prop} {r : Res (Str × DEnv)} (f : FrzLe H H1) (h : wantF K W B σ H Q r) : wantF K W B σ H1 Q r := by
  cases r with
  | ok a => exact fun H' R' f' => h H' R' (f.trans f')
  | exc c fs ρ => exact fun cls d H' R' f' xc => h cls d H' R' (f.trans f') xc
  | stuck => exact h
def tUR (K : KM) (W : WX) (T : Tab) (ie : IE) : TE := fun σ H Q => ∃ ρ, tR K W ρ (ev T ie ρ) σ H Q
theorem pe_UR {W : WX} {ie : IE} {e : Expr} (h : ∀ ρ, PE X e (tR (X.km ea) W ρ (ev T ie ρ))) : PE X e (tUR (X.km ea) W T ie) := ⟨fun pins s σ H Q I ⟨ρ, h2⟩ => (h ρ).run pins s σ H Q I h2⟩
theorem fmt_str {acc z acc' : Str} (h : fmtD acc (.str z) = some acc') : acc' = acc ++ z ∧ (acc ++ z).length ≤ sizeLine ∧ z.length ≤ sizeLine := by
  have h' : (if (sm (acc ++ z).length && sm z.length) = true then some (acc ++ z) else none) = some acc' := h
  split at h'
  · rename_i c
    cases h'
    exact ⟨rfl, sm_le (and_and c).1, sm_le (and_and c).2⟩
  · cases h'
theorem fmt_int {acc acc' : Str} {i : Int} (h : fmtD acc (.int i) = some acc') : acc' = acc ++ toString i ∧ (acc ++ toString i).length ≤ sizeLine ∧ i.natAbs < 2 ^ 64 := by
  have h' : (if i.natAbs < 2 ^ 64 ∧ sm (acc ++ toString i).length = true then some (acc ++ toString i) else none) = some acc' := h
  split at h'
  · rename_i c
    cases h'
    exact ⟨rfl, sm_le c.2, c.1⟩
  · cases h'
theorem fmt_bad {K : KM} {W : WX} {B : Hp} {σ : L2.St} {H : Hp} {Q : Str → Hp → Prop} {P : Prop} {d : Dat} {acc : Str} {f : Str → Res (Str × DEnv)} (h : fmtD acc d = none) (w : wantF K W B σ H Q ((ofO (fmtD acc d)).bind f)) : P := by
  rw [h] at w
  exact (show False from w).elim
theorem fmt_step {K : KM} {W : WX} {B : Hp} {σ : L2.St} {H : Hp} {Q : Str → Hp → Prop} {ρ : DEnv} {ie : IE} {es : IEs} {acc : Str} {ts : List TE} (R : REnv K B σ H ρ) (w : wantF K W B σ H Q ((ev T ie ρ).bind fun (d, _, ρ1) => (ofO (fmtD acc d)).bind fun acc' => evF T es acc' ρ1))
    (k : ∀ acc' ρ1 H1, REnv K B σ H1 ρ1 → wantF K W B σ H1 Q (evF T es acc' ρ1) → tJs ts acc' σ H1 Q) : tJs (tFmt (tUR K W T ie) :: ts) acc σ H Q := by
  refine ⟨ρ, B, R, ?_⟩
  cases h1 : ev T ie ρ with
  | stuck => rw [h1] at w; exact w
  | exc c fs ρ1 => rw [h1] at w; exact w
  | ok a =>
    obtain ⟨d, m, ρ1⟩ := a
    rw [h1] at w
    intro v H1 R1 f1 rv
    have w' : wantF K W B σ H Q ((ofO (fmtD acc d)).bind fun acc' => evF T es acc' ρ1) := w
    cases q : fmtD acc d with
    | none => rw [q] at w'; exact (show False from w').elim
    | some acc' =>
      rw [q] at w'
      have w2 : wantF K W B σ H Q (evF T es acc' ρ1) := w'
      cases d with
      | str z =>
        obtain ⟨q1, q2, q3⟩ := fmt_str q
        subst q1
        have ev1 := (rdb_of R1 rv).str
        subst ev1
        exact .inl ⟨z, rfl, q3, z, rfl, q2, k _ ρ1 H1 R1 (w2.step f1)⟩
      | int i =>
        obtain ⟨q1, q2, q3⟩ := fmt_int q
        subst q1
        have ev1 := (rdb_of R1 rv).int
        subst ev1
        exact .inr ⟨i, rfl, log_small q3, _, rfl, q2, k _ ρ1 H1 R1 (w2.step f1)⟩
      | _ => cases q
end
section
variable (T : Tab) (n : Nat) (hot : Bool) (ea : Option EA)
/-- a piece is sound: as a value, as a test; several -/
def SndV (ie : IE) : Prop := ∀ {X : Cx} {e : Expr} {W : WX}, Good T n hot ea X → TakesF X W → chk X.N hot X.env.scope ie e = true → ∀ ρ, PE X e (tR (X.km ea) W ρ (ev T ie ρ))
def SndT (ie : IE) : Prop := ∀ {X : Cx} {e : Expr} {W : WX}, Good T n hot ea X → TakesF X W → tst ie = true → chk X.N hot X.env.scope ie e = true → ∀ ρ, PT X e (tRT (X.km ea) W ρ (ev T ie ρ))
def SndVs (es : IEs) : Prop := ∀ {X : Cx} {l : List Expr} {W : WX}, Good T n hot ea X → TakesF X W → chks X.N hot X.env.scope es l = true → ∀ ρ, PA X l (tRA (X.km ea) W ρ (evs T es ρ))
def SndK (es : IEs) : Prop := ∀ {X : Cx} {kws : List Keyword} {W : WX}, Good T n hot ea X → TakesF X W → chks X.N hot X.env.scope es (kws.map (·.value)) = true → ∀ ρ, PK X kws (tRA (X.km ea) W ρ (evs T es ρ))
def SndF (es : IEs) : Prop := ∀ {X : Cx} {l : List Expr} {W : WX}, Good T n hot ea X → TakesF X W → chkF X.N hot X.env.scope es l = true →
    ∃ ts, PJ X l ts ∧ ∀ acc ρ B σ H Q, REnv (X.km ea) B σ H ρ → wantF (X.km ea) W B σ H Q (evF T es acc ρ) → tJs ts acc σ H Q
def SndG (es : IEs) : Prop := ∀ {X : Cx} {l : List Expr} {W : WX}, Good T n hot ea X → TakesF X W → chks X.N hot X.env.scope es l = true → ∀ io ρ, PA X l (tRG (X.km ea) W ρ (evArgs T io es ρ))
end
end Ev
set_option Elab.async false
set_option linter.all false
set_option maxRecDepth 100000
set_option maxHeartbeats 8000000
namespace Ev
open PySem PySem.Spec PyProof.Rows L2
section
variable {T : Tab} {n : Nat} {hot : Bool} {ea : Option EA}
theorem snd_var {i : Nat}  : SndV T n hot ea (.var i) := by
  intro X e W g tk c ρ
  refine mk_R (fun {d m ρ'} h => ?_) (fun {cc fs ρ'} h => ?_)
  · simp only [chk] at c
    split at c
    · rename_i x pos
      have c1 := and_and c
      have c2 := and_and c1.1
      have hN : X.N[i]? = some x := of_decide_eq_true c2.1
      refine (pe_var hN (vis_of c2.2) (odd1 c1.2) (odd2 c1.2)).imp fun σ H Q q => ?_
      obtain ⟨B, R, k⟩ := q
      simp only [ev] at h
      split at h
      · rename_i z
        cases h
        obtain ⟨v, h1, h2⟩ := R.val i _ z
        exact ⟨v, h1, k v H R (FrzLe.refl H) h2⟩
      · rename_i z
        cases h
        obtain ⟨p, h1, h2, h3⟩ := R.own i _ z
        exact ⟨.ref p, h1, k _ H R (FrzLe.refl H) ⟨h1, z⟩⟩
      · cases h
    · cases c
  · simp only [ev] at h
    split at h <;> cases h
theorem snd_cst {d0 : Dat}  : SndV T n hot ea (.cst d0) := by
  intro X e W g tk c ρ
  refine mk_R (fun {d m ρ'} h => ?_) (fun {cc fs ρ'} h => ?_)
  · simp only [ev] at h
    cases h
    simp only [chk] at c
    split at c
    · rename_i cc _ _
      cases d0 with
      | non =>
        cases cc <;> first | cases c | skip
        exact pe_non.imp fun σ H Q ⟨B, R, k⟩ => k _ H R (FrzLe.refl H) .non
      | bl b =>
        cases cc <;> first | cases c | skip
        have := eq_of_beq c
        subst this
        exact pe_bl.imp fun σ H Q ⟨B, R, k⟩ => k _ H R (FrzLe.refl H) (.bl _)
      | int i =>
        cases cc <;> first | cases c | skip
        have := eq_of_beq c
        subst this
        exact pe_int.imp fun σ H Q ⟨B, R, k⟩ => k _ H R (FrzLe.refl H) (.int _)
      | str z =>
        cases cc <;> first | cases c | skip
        have := eq_of_beq c
        subst this
        exact pe_str.imp fun σ H Q ⟨B, R, k⟩ => k _ H R (FrzLe.refl H) (.str _)
      | lst _ => cases c
      | obj _ _ => cases c
      | tup _ => cases c
      | dic _ => cases c
      | scr _ => cases c
    · cases c
  · simp only [ev] at h
    cases h
theorem snd_glb {x : Str}  : SndV T n hot ea (.glb x) := by
  intro X e W g tk c ρ
  refine mk_R (fun {d m ρ'} h => ?_) (fun {cc fs ρ'} h => ?_)
  · simp only [ev] at h
    obtain ⟨d', h1, h2⟩ := Res.bind_ok h
    cases h2
    have h3 := ofO_ok h1
    simp only [chk] at c
    split at c
    · have c1 := and_and c
      have c2 := and_and c1.1
      have e1 := of_decide_eq_true c2.1
      subst e1
      obtain ⟨u, v, g1, g2, g3⟩ := g.mod.con x d h3
      exact (pe_glob (glo_of c2.2) g1 g2 (odd1 c1.2)).imp fun σ H Q ⟨B, R, k⟩ => k _ H R (FrzLe.refl H) (g3 ea H)
    · cases c
  · simp only [ev] at h
    obtain ⟨_, _, z⟩ := ofO_bx h
    cases z
theorem snd_tup {es : IEs} (h_es : SndVs T n hot ea es) : SndV T n hot ea (.tup es) := by
  intro X e W g tk c ρ
  refine mk_R (fun {d m ρ'} h => ?_) (fun {cc fs ρ'} h => ?_)
  · simp only [ev] at h
    obtain ⟨⟨ds, ρ1⟩, h1, h2⟩ := Res.bind_ok h
    dsimp only at h2
    split at h2
    · rename_i hz
      cases h2
      simp only [chk] at c
      split at c
      · refine (pe_tup (okA_of (h_es g tk c _) h1)).imp fun σ H Q ⟨B, R, k⟩ => ⟨B, R, fun vs H1 R1 f1 l => ⟨by rw [l.length]; exact sm_le hz, fun p hp => ?_⟩⟩
        exact k _ _ (R1.new hp) (f1.trans (FrzLe.new hp)) (.tup (.inl (.inl upd_same)) (l.mono (FrzLe.new hp)))
      · cases c
    · cases h2
  · simp only [ev] at h
    rcases Res.bind_exc h with h1 | ⟨⟨ds, ρ1⟩, h1, h2⟩
    · simp only [chk] at c
      split at c
      · exact (pe_tup (exA_of (h_es g tk c _) h1)).imp fun σ H Q h => h
      · cases c
    · dsimp only at h2
      split at h2 <;> cases h2
theorem snd_lst {es : IEs} (h_es : SndVs T n hot ea es) : SndV T n hot ea (.lst es) := by
  intro X e W g tk c ρ
  refine mk_R (fun {d m ρ'} h => ?_) (fun {cc fs ρ'} h => ?_)
  · simp only [ev] at h
    obtain ⟨⟨ds, ρ1⟩, h1, h2⟩ := Res.bind_ok h
    dsimp only at h2
    split at h2
    · rename_i hz
      cases h2
      simp only [chk] at c
      split at c
      · refine (pe_lst (okA_of (h_es g tk c _) h1)).imp fun σ H Q ⟨B, R, k⟩ => ⟨B, R, fun vs H1 R1 f1 l => ⟨by rw [l.length]; exact sm_le hz, fun p hp => ?_⟩⟩
        exact k _ _ (R1.new hp) (f1.trans (FrzLe.new hp)) ⟨p, rfl, ⟨vs, ds, rfl, upd_same, l.mono (FrzLe.new hp)⟩, R1.newB hp, R1.newS hp⟩
      · cases c
    · cases h2
  · simp only [ev] at h
    rcases Res.bind_exc h with h1 | ⟨⟨ds, ρ1⟩, h1, h2⟩
    · simp only [chk] at c
      split at c
      · exact (pe_lst (exA_of (h_es g tk c _) h1)).imp fun σ H Q h => h
      · cases c
    · dsimp only at h2
      split at h2 <;> cases h2
theorem snd_dic0   : SndV T n hot ea .dic0 := by
  intro X e W g tk c ρ
  refine mk_R (fun {d m ρ'} h => ?_) (fun {cc fs ρ'} h => ?_)
  · simp only [ev] at h
    cases h
    simp only [chk] at c
    split at c
    · exact pe_dic0
    · cases c
  · simp only [ev] at h
    cases h
theorem snd_dic1 {k : IE} {v : IE} (h_k : SndV T n hot ea k) (h_v : SndV T n hot ea v) : SndV T n hot ea (.dic1 k v) := by
  intro X e W g tk c ρ
  refine mk_R (fun {d m ρ'} h => ?_) (fun {cc fs ρ'} h => ?_)
  · simp only [ev] at h
    obtain ⟨⟨x, m1, ρ1⟩, h1, h2⟩ := Res.bind_ok h
    dsimp only at h2
    split at h2
    · obtain ⟨⟨y, m2, ρ2⟩, h3, h4⟩ := Res.bind_ok h2
      cases h4
      simp only [chk] at c
      split at c
      · have c1 := and_and c
        exact pe_dic1 (ok_of (h_k g tk c1.1 _) h1) (pe_keep (ok_of (h_v g tk c1.2 _) h3))
      · cases c
    · cases h2
  · simp only [ev] at h
    rcases Res.bind_exc h with h1 | ⟨⟨x, m1, ρ1⟩, h1, h2⟩
    · simp only [chk] at c
      split at c
      · have c1 := and_and c
        exact pe_dic1X1 (ex_of (h_k g tk c1.1 _) h1)
      · cases c
    · dsimp only at h2
      split at h2
      · rcases Res.bind_exc h2 with h3 | ⟨⟨y, m2, ρ2⟩, h3, h4⟩
        · simp only [chk] at c
          split at c
          · have c1 := and_and c
            exact pe_dic1X2 (ok_of (h_k g tk c1.1 _) h1) (ex_of (h_v g tk c1.2 _) h3)
          · cases c
        · cases h4
      · cases h2
theorem snd_bin {op : Operator} {a : IE} {b : IE} (h_a : SndV T n hot ea a) (h_b : SndV T n hot ea b) : SndV T n hot ea (.bin op a b) := by
  intro X e W g tk c ρ
  refine mk_R (fun {d m ρ'} h => ?_) (fun {cc fs ρ'} h => ?_)
  · simp only [ev] at h
    obtain ⟨⟨x, m1, ρ1⟩, h1, h2⟩ := Res.bind_ok h
    obtain ⟨⟨y, m2, ρ2⟩, h3, h4⟩ := Res.bind_ok h2
    obtain ⟨x', h5, h6⟩ := Res.bind_ok h4
    obtain ⟨⟨d', k'⟩, h7, h8⟩ := Res.bind_ok h6
    cases h8
    simp only [chk] at c
    split at c
    · have c1 := and_and c
      have c2 := and_and c1.1
      have e1 := of_decide_eq_true c2.1
      subst e1
      obtain ⟨r, hr, hw⟩ := bin_snd (X := X) (ea := ea) (ofO_ok h7)
      exact (pe_op hr (ok_of (h_a g tk c2.2 _) h1) (ok_of (h_b g tk c1.2 _) h3)).imp (tS_two (ofO_ok h5) fun B σ H v w Q R ra rb k => hw B σ _ H v w Q R ra rb k)
    · cases c
  · simp only [chk] at c
    split at c
    · have c1 := and_and c
      have c2 := and_and c1.1
      have e1 := of_decide_eq_true c2.1
      subst e1
      simp only [ev] at h
      rcases Res.bind_exc h with h1 | ⟨⟨x, m1, ρ1⟩, h1, h2⟩
      · exact (pe_op op_no (ex_of (h_a g tk c2.2 _) h1) pe_no).imp fun σ H Q h => h
      · rcases Res.bind_exc h2 with h3 | ⟨⟨y, m2, ρ2⟩, h3, h4⟩
        · exact (pe_op op_no (ok_of (h_a g tk c2.2 _) h1) (ex_of (h_b g tk c1.2 _) h3)).imp fun σ H Q h => tX_then (QQ := fun _ _ => Q) h fun v H1 B R1 rv q => q
        · obtain ⟨_, _, z⟩ := ofO_bx h4
          obtain ⟨_, _, z⟩ := ofO_bx z
          cases z
    · cases c
theorem snd_neg {a : IE} (h_a : SndV T n hot ea a) : SndV T n hot ea (.neg a) := by
  intro X e W g tk c ρ
  refine mk_R (fun {d m ρ'} h => ?_) (fun {cc fs ρ'} h => ?_)
  · simp only [ev] at h
    obtain ⟨⟨x, m1, ρ1⟩, h1, h2⟩ := Res.bind_ok h
    dsimp only at h2
    split at h2
    · cases h2
      simp only [chk] at c
      split at c
      · exact (pe_un un_neg (ok_of (h_a g tk c _) h1)).imp (tS_one fun B σ H v Q R ra k => ⟨_, ra.int, k.val R (.int _)⟩)
      · cases c
    · cases h2
  · simp only [chk] at c
    split at c
    · skip
      simp only [ev] at h
      rcases Res.bind_exc h with h1 | ⟨⟨x, m1, ρ1⟩, h1, h2⟩
      · exact (pe_un un_neg (ex_of (h_a g tk c _) h1)).imp fun σ H Q h => h
      · dsimp only at h2
        split at h2 <;> cases h2
    · cases c
theorem snd_not {a : IE} (h_a : SndV T n hot ea a) : SndV T n hot ea (.not a) := by
  intro X e W g tk c ρ
  refine mk_R (fun {d m ρ'} h => ?_) (fun {cc fs ρ'} h => ?_)
  · simp only [ev] at h
    obtain ⟨⟨x, m1, ρ1⟩, h1, h2⟩ := Res.bind_ok h
    dsimp only at h2
    split at h2
    · cases h2
      simp only [chk] at c
      split at c
      · exact (pe_not (ok_of (h_a g tk c _) h1)).imp (tS_one fun B σ H v Q R ra k => ⟨_, ra.bl, k.val R (.bl _)⟩)
      · cases c
    · cases h2
  · simp only [chk] at c
    split at c
    · skip
      simp only [ev] at h
      rcases Res.bind_exc h with h1 | ⟨⟨x, m1, ρ1⟩, h1, h2⟩
      · exact (pe_not (ex_of (h_a g tk c _) h1)).imp fun σ H Q h => h
      · dsimp only at h2
        split at h2 <;> cases h2
    · cases c
theorem snd_and {a : IE} {b : IE} (h_a : SndV T n hot ea a) (h_b : SndV T n hot ea b) : SndV T n hot ea (.and a b) := by
  intro X e W g tk c ρ
  refine mk_R (fun {d m ρ'} h => ?_) (fun {cc fs ρ'} h => ?_)
  · simp only [ev] at h
    obtain ⟨⟨x, m1, ρ1⟩, h1, h2⟩ := Res.bind_ok h
    have key : ∀ {y : Expr} {pos : Pos} {z : Expr} {r : List Expr}, chk X.N hot X.env.scope a y = true → (∀ {d m ρ'}, ev T b ρ1 = .ok (d, m, ρ') → PE X (.BoolOp .And (z :: r) pos) (tS (X.km ea) ρ1 d m ρ')) → PE X (.BoolOp .And (y :: z :: r) pos) (tS (X.km ea) ρ d m ρ') := by
      intro y pos z r ca hb
      dsimp only at h2
      split at h2
      · refine (pe_and (ok_of (h_a g tk ca _) h1) (hb h2)).imp fun σ H Q ⟨B, R, k⟩ => ⟨B, R, fun v H1 R1 f1 rv => ⟨true, (rdb_of R1 rv).bl, ?_⟩⟩
        refine iteT ?_
        exact ⟨B, R1, fun u H2 R2 f2 ru => k u H2 R2 (f1.trans f2) ru⟩
      · cases h2
        refine (pe_and (ok_of (h_a g tk ca _) h1) (pe_no (e := .BoolOp .And (z :: r) pos))).imp fun σ H Q ⟨B, R, k⟩ => ⟨B, R, fun v H1 R1 f1 rv => ⟨false, (rdb_of R1 rv).bl, ?_⟩⟩
        refine iteF ?_
        exact k _ H1 R1 f1 (.bl false)
      · cases h2
    simp only [chk] at c
    split at c
    · have c1 := and_and c
      exact key c1.1 fun hb => pe_one (ok_of (h_b g tk c1.2 _) hb)
    · have c1 := and_and c
      exact key c1.1 fun hb => ok_of (h_b g tk c1.2 _) hb
    · cases c
  · simp only [ev] at h
    have key : ∀ {y : Expr} {pos : Pos} {z : Expr} {r : List Expr}, chk X.N hot X.env.scope a y = true → (∀ {ρ1 cc fs ρ'}, ev T b ρ1 = .exc cc fs ρ' → PE X (.BoolOp .And (z :: r) pos) (tX (X.km ea) W ρ1 cc fs ρ')) → PE X (.BoolOp .And (y :: z :: r) pos) (tX (X.km ea) W ρ cc fs ρ') := by
      intro y pos z r ca hb
      rcases Res.bind_exc h with h1 | ⟨⟨x, m1, ρ1⟩, h1, h2⟩
      · exact (pe_and (ex_of (h_a g tk ca _) h1) (pe_no (e := .BoolOp .And (z :: r) pos))).imp fun σ H Q h => h
      · dsimp only at h2
        split at h2
        · refine (pe_and (ok_of (h_a g tk ca _) h1) (hb h2)).imp fun σ H Q h => tX_then (QQ := fun _ _ => Q) h fun v H1 B R1 rv q => ⟨true, (rdb_of R1 rv).bl, ?_⟩
          exact iteT q
        · cases h2
        · cases h2
    simp only [chk] at c
    split at c
    · have c1 := and_and c
      exact key c1.1 fun hb => pe_one (ex_of (h_b g tk c1.2 _) hb)
    · have c1 := and_and c
      exact key c1.1 fun hb => ex_of (h_b g tk c1.2 _) hb
    · cases c
theorem snd_or {a : IE} {b : IE} (h_a : SndV T n hot ea a) (h_b : SndV T n hot ea b) : SndV T n hot ea (.or a b) := by
  intro X e W g tk c ρ
  refine mk_R (fun {d m ρ'} h => ?_) (fun {cc fs ρ'} h => ?_)
  · simp only [ev] at h
    obtain ⟨⟨x, m1, ρ1⟩, h1, h2⟩ := Res.bind_ok h
    have key : ∀ {y : Expr} {pos : Pos} {z : Expr} {r : List Expr}, chk X.N hot X.env.scope a y = true → (∀ {d m ρ'}, ev T b ρ1 = .ok (d, m, ρ') → PE X (.BoolOp .Or (z :: r) pos) (tS (X.km ea) ρ1 d m ρ')) → PE X (.BoolOp .Or (y :: z :: r) pos) (tS (X.km ea) ρ d m ρ') := by
      intro y pos z r ca hb
      dsimp only at h2
      split at h2
      · refine (pe_or (ok_of (h_a g tk ca _) h1) (hb h2)).imp fun σ H Q ⟨B, R, k⟩ => ⟨B, R, fun v H1 R1 f1 rv => ⟨false, (rdb_of R1 rv).bl, ?_⟩⟩
        refine iteF ?_
        exact ⟨B, R1, fun u H2 R2 f2 ru => k u H2 R2 (f1.trans f2) ru⟩
      · cases h2
        refine (pe_or (ok_of (h_a g tk ca _) h1) (pe_no (e := .BoolOp .Or (z :: r) pos))).imp fun σ H Q ⟨B, R, k⟩ => ⟨B, R, fun v H1 R1 f1 rv => ⟨true, (rdb_of R1 rv).bl, ?_⟩⟩
        refine iteT ?_
        exact k _ H1 R1 f1 (.bl true)
      · cases h2
    simp only [chk] at c
    split at c
    · have c1 := and_and c
      exact key c1.1 fun hb => pe_one (ok_of (h_b g tk c1.2 _) hb)
    · have c1 := and_and c
      exact key c1.1 fun hb => ok_of (h_b g tk c1.2 _) hb
    · cases c
  · simp only [ev] at h
    have key : ∀ {y : Expr} {pos : Pos} {z : Expr} {r : List Expr}, chk X.N hot X.env.scope a y = true → (∀ {ρ1 cc fs ρ'}, ev T b ρ1 = .exc cc fs ρ' → PE X (.BoolOp .Or (z :: r) pos) (tX (X.km ea) W ρ1 cc fs ρ')) → PE X (.BoolOp .Or (y :: z :: r) pos) (tX (X.km ea) W ρ cc fs ρ') := by
      intro y pos z r ca hb
      rcases Res.bind_exc h with h1 | ⟨⟨x, m1, ρ1⟩, h1, h2⟩
      · exact (pe_or (ex_of (h_a g tk ca _) h1) (pe_no (e := .BoolOp .Or (z :: r) pos))).imp fun σ H Q h => h
      · dsimp only at h2
        split at h2
        · refine (pe_or (ok_of (h_a g tk ca _) h1) (hb h2)).imp fun σ H Q h => tX_then (QQ := fun _ _ => Q) h fun v H1 B R1 rv q => ⟨false, (rdb_of R1 rv).bl, ?_⟩
          exact iteF q
        · cases h2
        · cases h2
    simp only [chk] at c
    split at c
    · have c1 := and_and c
      exact key c1.1 fun hb => pe_one (ex_of (h_b g tk c1.2 _) hb)
    · have c1 := and_and c
      exact key c1.1 fun hb => ex_of (h_b g tk c1.2 _) hb
    · cases c
theorem snd_cmp {op : CmpOp} {a : IE} {b : IE} (h_a : SndV T n hot ea a) (h_b : SndV T n hot ea b) : SndV T n hot ea (.cmp op a b) := by
  intro X e W g tk c ρ
  refine mk_R (fun {d m ρ'} h => ?_) (fun {cc fs ρ'} h => ?_)
  · simp only [ev] at h
    obtain ⟨⟨x, m1, ρ1⟩, h1, h2⟩ := Res.bind_ok h
    obtain ⟨⟨y, m2, ρ2⟩, h3, h4⟩ := Res.bind_ok h2
    obtain ⟨x', h5, h6⟩ := Res.bind_ok h4
    obtain ⟨r', h7, h8⟩ := Res.bind_ok h6
    cases h8
    simp only [chk] at c
    split at c
    · have c1 := and_and c
      have c2 := and_and c1.1
      have c3 := and_and c2.1
      have e1 := of_decide_eq_true c3.1
      subst e1
      obtain ⟨r, hr, hw⟩ := cmp_snd (X := X) (ea := ea) g.hu (ofO_ok h7)
      exact (pe_cmpR hr (ok_of (h_a g tk c2.2 _) h1) (ok_of (h_b g tk c1.2 _) h3) (noSet_marks c3.2)).imp (tS_two (ofO_ok h5) fun B σ H v w Q R ra rb k => hw H v w Q ra rb (k.val R (.bl _)))
    · cases c
  · simp only [chk] at c
    split at c
    · have c1 := and_and c
      have c2 := and_and c1.1
      have c3 := and_and c2.1
      have e1 := of_decide_eq_true c3.1
      subst e1
      simp only [ev] at h
      rcases Res.bind_exc h with h1 | ⟨⟨x, m1, ρ1⟩, h1, h2⟩
      · exact (pe_cmpR cmp_no (ex_of (h_a g tk c2.2 _) h1) pe_no (noSet_marks c3.2)).imp fun σ H Q h => h
      · rcases Res.bind_exc h2 with h3 | ⟨⟨y, m2, ρ2⟩, h3, h4⟩
        · exact (pe_cmpR cmp_no (ok_of (h_a g tk c2.2 _) h1) (ex_of (h_b g tk c1.2 _) h3) (noSet_marks c3.2)).imp fun σ H Q h => tX_then (QQ := fun _ _ => Q) h fun v H1 B R1 rv q => q
        · obtain ⟨_, _, z⟩ := ofO_bx h4
          obtain ⟨_, _, z⟩ := ofO_bx z
          cases z
    · cases c
theorem snd_cmp2 {o : CmpOp} {p : CmpOp} {a : IE} {b : IE} {z : IE} (h_a : SndV T n hot ea a) (h_b : SndV T n hot ea b) (h_z : SndV T n hot ea z) : SndV T n hot ea (.cmp2 o p a b z) := by
  intro X e W g tk c ρ
  refine mk_R (fun {d m ρ'} h => ?_) (fun {cc fs ρ'} h => ?_)
  · simp only [ev] at h
    obtain ⟨⟨x, m1, ρ1⟩, h1, h2⟩ := Res.bind_ok h
    obtain ⟨⟨y, m2, ρ2⟩, h3, h4⟩ := Res.bind_ok h2
    dsimp only at h4
    split at h4
    · obtain ⟨r', h5, h6⟩ := Res.bind_ok h4
      obtain ⟨r, hr, hw⟩ := cmp_snd (X := X) (ea := ea) g.hu (ofO_ok h5)
      simp only [chk] at c
      split at c
      · have c1 := and_and c
        have c2 := and_and c1.1
        have c3 := and_and c2.1
        have c4 := and_and c3.1
        have c5 := and_and c4.1
        have e1 := of_decide_eq_true c5.1
        have e2 := of_decide_eq_true c5.2
        subst e1
        subst e2
        split at h6
        · cases h6
          refine (pe_chain hr cmp_no (ok_of (h_a g tk c3.2 _) h1) (ok_of (h_b g tk c2.2 _) h3) pe_no (noSet_marks2 c4.2)).imp fun σ H Q ⟨B, R, k⟩ => ⟨B, R, fun v H1 R1 f1 rv => ⟨B, R1, fun u H2 R2 f2 ru => ?_⟩⟩
          refine hw H2 v u _ ?_ (rdb_of R2 ru) ⟨false, rfl, ?_⟩
          · have := (rdb_of R1 rv).int
            subst this
            exact .inl (.int _)
          · refine iteF ?_
            exact k _ H2 R2 (f1.trans f2) (.bl false)
        · obtain ⟨⟨w, m3, ρ3⟩, h7, h8⟩ := Res.bind_ok h6
          dsimp only at h8
          split at h8
          · obtain ⟨r2, h9, h10⟩ := Res.bind_ok h8
            cases h10
            obtain ⟨q, hq, hw2⟩ := cmp_snd (X := X) (ea := ea) g.hu (ofO_ok h9)
            refine (pe_chain hr hq (ok_of (h_a g tk c3.2 _) h1) (ok_of (h_b g tk c2.2 _) h3) (ok_of (h_z g tk c1.2 _) h7) (noSet_marks2 c4.2)).imp fun σ H Q ⟨B, R, k⟩ => ⟨B, R, fun v H1 R1 f1 rv => ⟨B, R1, fun u H2 R2 f2 ru => ?_⟩⟩
            have ev1 := (rdb_of R1 rv).int
            have eu1 := (rdb_of R2 ru).int
            subst ev1
            subst eu1
            refine hw H2 _ _ _ (.inl (.int _)) (.inl (.int _)) ⟨true, rfl, ?_⟩
            refine iteT ?_
            exact ⟨B, R2, fun t H3 R3 f3 rt => hw2 H3 _ t _ (.inl (.int _)) (rdb_of R3 rt) (k _ H3 R3 (f1.trans (f2.trans f3)) (.bl _))⟩
          · cases h8
      · cases c
    · cases h4
  · simp only [chk] at c
    split at c
    · have c1 := and_and c
      have c2 := and_and c1.1
      have c3 := and_and c2.1
      have c4 := and_and c3.1
      have c5 := and_and c4.1
      have e1 := of_decide_eq_true c5.1
      have e2 := of_decide_eq_true c5.2
      subst e1
      subst e2
      simp only [ev] at h
      rcases Res.bind_exc h with h1 | ⟨⟨x, m1, ρ1⟩, h1, h2⟩
      · exact (pe_chain cmp_no cmp_no (ex_of (h_a g tk c3.2 _) h1) pe_no pe_no (noSet_marks2 c4.2)).imp fun σ H Q h => h
      · rcases Res.bind_exc h2 with h3 | ⟨⟨y, m2, ρ2⟩, h3, h4⟩
        · exact (pe_chain cmp_no cmp_no (ok_of (h_a g tk c3.2 _) h1) (ex_of (h_b g tk c2.2 _) h3) pe_no (noSet_marks2 c4.2)).imp fun σ H Q h => tX_then (QQ := fun _ _ => Q) h fun v H1 B R1 rv q => q
        · dsimp only at h4
          split at h4
          · obtain ⟨r', h5, h6⟩ := ofO_bx h4
            split at h6
            · cases h6
            · rcases Res.bind_exc h6 with h7 | ⟨⟨w, m3, ρ3⟩, h7, h8⟩
              · obtain ⟨r, hr, hw⟩ := cmp_snd (X := X) (ea := ea) g.hu h5
                refine (pe_chain hr cmp_no (ok_of (h_a g tk c3.2 _) h1) (ok_of (h_b g tk c2.2 _) h3) (ex_of (h_z g tk c1.2 _) h7) (noSet_marks2 c4.2)).imp fun σ H Q ⟨B, R, k⟩ => ⟨B, R, fun v H1 R1 f1 rv => ⟨B, R1, fun u H2 R2 f2 ru => ?_⟩⟩
                have ev1 := (rdb_of R1 rv).int
                have eu1 := (rdb_of R2 ru).int
                subst ev1
                subst eu1
                refine hw H2 _ _ _ (.inl (.int _)) (.inl (.int _)) ⟨true, rfl, ?_⟩
                refine iteT ?_
                exact ⟨B, R2, fun cls d H' R' f' xc => k cls d H' R' (f1.trans (f2.trans f')) xc⟩
              · dsimp only at h8
                split at h8
                · obtain ⟨_, _, z⟩ := ofO_bx h8
                  cases z
                · cases h8
          · cases h4
    · cases c
theorem snd_ite {z : IE} {a : IE} {b : IE} (t_z : SndT T n hot ea z) (h_a : SndV T n hot ea a) (h_b : SndV T n hot ea b) : SndV T n hot ea (.ite z a b) := by
  intro X e W g tk c ρ
  refine mk_R (fun {d m ρ'} h => ?_) (fun {cc fs ρ'} h => ?_)
  · simp only [ev] at h
    obtain ⟨⟨x, m1, ρ1⟩, h1, h2⟩ := Res.bind_ok h
    simp only [chk] at c
    split at c
    · have c1 := and_and c
      have c2 := and_and c1.1
      have c3 := and_and c2.1
      dsimp only at h2
      split at h2
      · refine (pe_ifExp (okT_of (t_z g tk c3.1 c3.2 _) h1) (ok_of (h_a g tk c2.2 _) h2) pe_no).imp fun σ H Q ⟨B, R, k⟩ => ⟨B, R, fun H1 R1 f1 => ?_⟩
        refine iteT ?_
        exact ⟨B, R1, fun u H2 R2 f2 ru => k u H2 R2 (f1.trans f2) ru⟩
      · refine (pe_ifExp (okT_of (t_z g tk c3.1 c3.2 _) h1) pe_no (ok_of (h_b g tk c1.2 _) h2)).imp fun σ H Q ⟨B, R, k⟩ => ⟨B, R, fun H1 R1 f1 => ?_⟩
        refine iteF ?_
        exact ⟨B, R1, fun u H2 R2 f2 ru => k u H2 R2 (f1.trans f2) ru⟩
      · cases h2
    · cases c
  · simp only [ev] at h
    simp only [chk] at c
    split at c
    · have c1 := and_and c
      have c2 := and_and c1.1
      have c3 := and_and c2.1
      rcases Res.bind_exc h with h1 | ⟨⟨x, m1, ρ1⟩, h1, h2⟩
      · exact (pe_ifExp (exT_of (t_z g tk c3.1 c3.2 _) h1) pe_no pe_no).imp fun σ H Q h => h
      · dsimp only at h2
        split at h2
        · refine (pe_ifExp (okT_of (t_z g tk c3.1 c3.2 _) h1) (ex_of (h_a g tk c2.2 _) h2) pe_no).imp fun σ H Q ⟨B, R, k⟩ => ⟨B, R, fun H1 R1 f1 => ?_⟩
          refine iteT ?_
          exact ⟨B, R1, fun cls d H' R' f' xc => k cls d H' R' (f1.trans f') xc⟩
        · refine (pe_ifExp (okT_of (t_z g tk c3.1 c3.2 _) h1) pe_no (ex_of (h_b g tk c1.2 _) h2)).imp fun σ H Q ⟨B, R, k⟩ => ⟨B, R, fun H1 R1 f1 => ?_⟩
          refine iteF ?_
          exact ⟨B, R1, fun cls d H' R' f' xc => k cls d H' R' (f1.trans f') xc⟩
        · cases h2
    · cases c
theorem snd_idx {a : IE} {b : IE} (h_a : SndV T n hot ea a) (h_b : SndV T n hot ea b) : SndV T n hot ea (.idx a b) := by
  intro X e W g tk c ρ
  refine mk_R (fun {d m ρ'} h => ?_) (fun {cc fs ρ'} h => ?_)
  · simp only [ev] at h
    obtain ⟨⟨x, m1, ρ1⟩, h1, h2⟩ := Res.bind_ok h
    obtain ⟨⟨y, m2, ρ2⟩, h3, h4⟩ := Res.bind_ok h2
    obtain ⟨x', h5, h6⟩ := Res.bind_ok h4
    obtain ⟨d', h7, h8⟩ := Res.bind_ok h6
    cases h8
    simp only [chk] at c
    split at c
    · have c1 := and_and c
      have c2 := and_and c1.1
      obtain ⟨r, hr, hw⟩ := idx_snd (X := X) (ea := ea) (ofO_ok h7)
      exact (pe_ix hr (ok_of (h_a g tk c2.2 _) h1) (ok_of (h_b g tk c1.2 _) h3) (plain_ix c2.1)).imp (tS_two (ofO_ok h5) fun B σ H v w Q R ra rb k => hw B σ _ H v w Q R ra rb k)
    · cases c
  · simp only [chk] at c
    split at c
    · have c1 := and_and c
      have c2 := and_and c1.1
      simp only [ev] at h
      rcases Res.bind_exc h with h1 | ⟨⟨x, m1, ρ1⟩, h1, h2⟩
      · exact (pe_ix ix_no (ex_of (h_a g tk c2.2 _) h1) pe_no (plain_ix c2.1)).imp fun σ H Q h => h
      · rcases Res.bind_exc h2 with h3 | ⟨⟨y, m2, ρ2⟩, h3, h4⟩
        · exact (pe_ix ix_no (ok_of (h_a g tk c2.2 _) h1) (ex_of (h_b g tk c1.2 _) h3) (plain_ix c2.1)).imp fun σ H Q h => tX_then (QQ := fun _ _ => Q) h fun v H1 B R1 rv q => q
        · obtain ⟨_, _, z⟩ := ofO_bx h4
          obtain ⟨_, _, z⟩ := ofO_bx z
          cases z
    · cases c
end
end Ev
set_option Elab.async false
set_option linter.all false
set_option maxRecDepth 100000
set_option maxHeartbeats 8000000
namespace Ev
open PySem PySem.Spec PyProof.Rows L2
section
variable {T : Tab} {n : Nat} {hot : Bool} {ea : Option EA}
theorem snd_slcL {a : IE} {b : IE} (h_a : SndV T n hot ea a) (h_b : SndV T n hot ea b) : SndV T n hot ea (.slcL a b) := by
  intro X e W g tk c ρ
  refine mk_R (fun {d m ρ'} h => ?_) (fun {cc fs ρ'} h => ?_)
  · simp only [ev] at h
    obtain ⟨⟨x, m1, ρ1⟩, h1, h2⟩ := Res.bind_ok h
    obtain ⟨⟨y, m2, ρ2⟩, h3, h4⟩ := Res.bind_ok h2
    obtain ⟨x', h5, h6⟩ := Res.bind_ok h4
    dsimp only at h6
    split at h6
    · rename_i i
      obtain ⟨⟨d', k'⟩, h7, h8⟩ := Res.bind_ok h6
      cases h8
      simp only [chk] at c
      split at c
      · have c1 := and_and c
        obtain ⟨r, hr, hw⟩ := slc_snd (X := X) (ea := ea) (ofO_ok h7)
        refine (pe_slice hr (ok_of (h_a g tk c1.1 _) h1) (po_some (ok_of (h_b g tk c1.2 _) h3)) po_none).imp fun σ H Q ⟨B, R, k⟩ => ⟨B, R, fun v H1 R1 f1 rv => ?_⟩
        obtain ⟨B1, R1', le, cr⟩ := carry R1 rv
        refine ⟨B1, R1', fun u H2 R2 f2 ru => ⟨i, (rdb_of R2 ru).int, ?_⟩⟩
        exact hw B σ _ H2 v Q (R2.weak le) (cr H2 _ x' R2 f2 (ofO_ok h5)) fun z H3 R3 f3 rz => k z H3 R3 (f1.trans (f2.trans f3)) rz
      · cases c
    · cases h6
  · simp only [chk] at c
    split at c
    · have c1 := and_and c
      simp only [ev] at h
      rcases Res.bind_exc h with h1 | ⟨⟨x, m1, ρ1⟩, h1, h2⟩
      · exact (pe_slice sl_no (ex_of (h_a g tk c1.1 _) h1) (po_some pe_no) po_none).imp fun σ H Q h => h
      · rcases Res.bind_exc h2 with h3 | ⟨⟨y, m2, ρ2⟩, h3, h4⟩
        · exact (pe_slice sl_no (ok_of (h_a g tk c1.1 _) h1) (po_some (ex_of (h_b g tk c1.2 _) h3)) po_none).imp fun σ H Q h => tX_then (QQ := fun _ _ => Q) h fun v H1 B R1 rv q => q
        · obtain ⟨_, _, z⟩ := ofO_bx h4
          dsimp only at z
          split at z
          · obtain ⟨_, _, z⟩ := ofO_bx z
            cases z
          · cases z
    · cases c
theorem snd_slcR {a : IE} {b : IE} (h_a : SndV T n hot ea a) (h_b : SndV T n hot ea b) : SndV T n hot ea (.slcR a b) := by
  intro X e W g tk c ρ
  refine mk_R (fun {d m ρ'} h => ?_) (fun {cc fs ρ'} h => ?_)
  · simp only [ev] at h
    obtain ⟨⟨x, m1, ρ1⟩, h1, h2⟩ := Res.bind_ok h
    obtain ⟨⟨y, m2, ρ2⟩, h3, h4⟩ := Res.bind_ok h2
    obtain ⟨x', h5, h6⟩ := Res.bind_ok h4
    dsimp only at h6
    split at h6
    · rename_i i
      obtain ⟨⟨d', k'⟩, h7, h8⟩ := Res.bind_ok h6
      cases h8
      simp only [chk] at c
      split at c
      · have c1 := and_and c
        obtain ⟨r, hr, hw⟩ := slc_snd (X := X) (ea := ea) (ofO_ok h7)
        refine (pe_slice hr (ok_of (h_a g tk c1.1 _) h1) po_none (po_some (ok_of (h_b g tk c1.2 _) h3))).imp fun σ H Q ⟨B, R, k⟩ => ⟨B, R, fun v H1 R1 f1 rv => ?_⟩
        obtain ⟨B1, R1', le, cr⟩ := carry R1 rv
        refine ⟨B1, R1', fun u H2 R2 f2 ru => ⟨i, (rdb_of R2 ru).int, ?_⟩⟩
        exact hw B σ _ H2 v Q (R2.weak le) (cr H2 _ x' R2 f2 (ofO_ok h5)) fun z H3 R3 f3 rz => k z H3 R3 (f1.trans (f2.trans f3)) rz
      · cases c
    · cases h6
  · simp only [chk] at c
    split at c
    · have c1 := and_and c
      simp only [ev] at h
      rcases Res.bind_exc h with h1 | ⟨⟨x, m1, ρ1⟩, h1, h2⟩
      · exact (pe_slice sl_no (ex_of (h_a g tk c1.1 _) h1) po_none (po_some pe_no)).imp fun σ H Q h => h
      · rcases Res.bind_exc h2 with h3 | ⟨⟨y, m2, ρ2⟩, h3, h4⟩
        · exact (pe_slice sl_no (ok_of (h_a g tk c1.1 _) h1) po_none (po_some (ex_of (h_b g tk c1.2 _) h3))).imp fun σ H Q h => tX_then (QQ := fun _ _ => Q) h fun v H1 B R1 rv q => q
        · obtain ⟨_, _, z⟩ := ofO_bx h4
          dsimp only at z
          split at z
          · obtain ⟨_, _, z⟩ := ofO_bx z
            cases z
          · cases z
    · cases c
theorem snd_call {f : Str} {as : IEs} (g_as : SndG T n hot ea as) : SndV T n hot ea (.call f as) := by
  intro X e W g tk c ρ
  refine mk_R (fun {d m ρ'} h => ?_) (fun {cc fs ρ'} h => ?_)
  · simp only [ev] at h
    split at h
    · cases h
    · rename_i fi hf
      obtain ⟨⟨got, ρ1⟩, h1, h2⟩ := Res.bind_ok h
      simp only [chk] at c
      split at c
      · have c1 := and_and c
        have c2 := and_and c1.1
        have c3 := and_and c2.1
        have c4 := not_hot c3.1
        have e1 := of_decide_eq_true c4.2
        subst e1
        have e0 := g.ea0 c4.1
        subst e0
        obtain ⟨a, fd, ps, k, hk, g1, g2, g3, g4, _⟩ := g.mod.fns f fi hf
        obtain ⟨L, fm⟩ := g.frm
        have st := chks_star c1.2
        refine (pe_callG g4 ((g.room c4.1).mono hk) g.grd takesF_never ⟨L, fm.fr⟩ (glo_of c3.2) g1 g2 g3 (okG_of (g_as g tk c1.2 _ _) h1) (odd1 c2.2) (star_cons (st _ List.mem_cons_self)) (star_none fun e he => st e (List.mem_cons_of_mem _ he))).imp fun σ H Q ⟨B, R, k⟩ => ⟨B, R, fun vs H1 R1 f1 l => ?_⟩
        exact call_ok (fun hl => args_shape h1 hl) R1 l h2 fun v H' R2 f2 rv => k v H' R2 (f1.trans f2) rv
      · cases c
  · simp only [ev] at h
    split at h
    · cases h
    · rename_i fi hf
      simp only [chk] at c
      split at c
      · have c1 := and_and c
        have c2 := and_and c1.1
        have c3 := and_and c2.1
        have c4 := not_hot c3.1
        have e1 := of_decide_eq_true c4.2
        subst e1
        have e0 := g.ea0 c4.1
        subst e0
        obtain ⟨a, fd, ps, k, hk, g1, g2, g3, g4, _⟩ := g.mod.fns f fi hf
        obtain ⟨L, fm⟩ := g.frm
        have st := chks_star c1.2
        rcases Res.bind_exc h with h1 | ⟨⟨got, ρ1⟩, h1, h2⟩
        · exact (pe_callG g4 ((g.room c4.1).mono hk) g.grd takesF_never ⟨L, fm.fr⟩ (glo_of c3.2) g1 g2 g3 (exG_of (g_as g tk c1.2 _ _) h1) (odd1 c2.2) (star_cons (st _ List.mem_cons_self)) (star_none fun e he => st e (List.mem_cons_of_mem _ he))).imp fun σ H Q h => h
        · refine (pe_callG g4 ((g.room c4.1).mono hk) g.grd tk ⟨L, fm.fr⟩ (glo_of c3.2) g1 g2 g3 (okG_of (g_as g tk c1.2 _ _) h1) (odd1 c2.2) (star_cons (st _ List.mem_cons_self)) (star_none fun e he => st e (List.mem_cons_of_mem _ he))).imp fun σ H Q ⟨B, R, k⟩ => ⟨B, R, fun vs H1 R1 f1 l => ?_⟩
          exact call_ex (fun hl => args_shape h1 hl) R1 l h2 fun cls d H' R2 f2 xc => k cls d H' R2 (f1.trans f2) xc
      · cases c
theorem snd_bi {b : BI} {as : IEs} (h1as : ∀ a r, as = .cons a r → SndV T n hot ea a) (h2as : ∀ a b2 r, as = .cons a (.cons b2 r) → SndV T n hot ea b2) : SndV T n hot ea (.bi b as) := by
  intro X e W g tk c ρ
  refine mk_R (fun {d m ρ'} h => ?_) (fun {cc fs ρ'} h => ?_)
  · simp only [chk] at c
    split at c
    · have c1 := and_and c
      have c2 := and_and c1.1
      have c3 := and_and c2.1
      have e1 := of_decide_eq_true c3.2
      subst e1
      have st := chks_star c1.2
      have cs := c1.2
      have cold : b.cold = true → X.calm = true := fun z => g.calm (by
        have := c3.1
        rw [z] at this
        cases hot <;> simp_all)
      cases as with
      | nil => simp only [ev] at h; cases h
      | cons a as =>
        cases as with
        | nil =>
          simp only [ev] at h
          obtain ⟨⟨x, m1, ρ1⟩, h1, h2⟩ := Res.bind_ok h
          obtain ⟨⟨d', k'⟩, h3, h4⟩ := Res.bind_ok h2
          cases h4
          obtain ⟨r, hr, hw⟩ := bi_snd (X := X) (ea := ea) cold g.mod.sys g.grd g.hu (ofO_ok h3)
          simp only [chks] at cs
          have cs1 := and_and cs
          have cs2 := and_and cs1.1
          split at cs1
          · refine (bi_call (g := b.name) hr (glo_of c2.2) (g.mod.bt b) (pa_cons (ok_of ((h1as _ _ rfl) g tk cs2.2 _) h1) pa_nil (star_cons cs2.1)) st).imp (tS_one fun B σ H v Q R ra k => ?_)
            exact hw B σ _ H [v] Q R (.cons ra .nil) k
          · cases cs1.2
        | cons b2 as =>
          cases as with
          | nil =>
            simp only [ev] at h
            obtain ⟨⟨x, m1, ρ1⟩, h1, h2⟩ := Res.bind_ok h
            obtain ⟨⟨y, m2, ρ2⟩, h3, h4⟩ := Res.bind_ok h2
            obtain ⟨x', h5, h6⟩ := Res.bind_ok h4
            obtain ⟨⟨d', k'⟩, h7, h8⟩ := Res.bind_ok h6
            cases h8
            obtain ⟨r, hr, hw⟩ := bi_snd (X := X) (ea := ea) cold g.mod.sys g.grd g.hu (ofO_ok h7)
            simp only [chks] at cs
            have cs1 := and_and cs
            have cs2 := and_and cs1.1
            split at cs1
            · have cs3 := and_and cs1.2
              have cs4 := and_and cs3.1
              split at cs3
              · refine (bi_call (g := b.name) hr (glo_of c2.2) (g.mod.bt b) (pa_cons (ok_of ((h1as _ _ rfl) g tk cs2.2 _) h1) (pa_cons (ok_of ((h2as _ _ _ rfl) g tk cs4.2 _) h3) pa_nil (star_cons cs4.1)) (star_cons cs2.1)) st).imp fun σ H Q q => ?_
                exact tS_two (r := fun v w H Q => r [v, w] H Q) (ofO_ok h5) (fun B σ H v w Q R ra rb k => hw B σ _ H [v, w] Q R (.cons ra (.cons rb .nil)) k) σ H Q q
              · cases cs3.2
            · cases cs1.2
          | cons _ _ => simp only [ev] at h; cases h
    · cases c
  · simp only [chk] at c
    split at c
    · have c1 := and_and c
      have c2 := and_and c1.1
      have c3 := and_and c2.1
      have e1 := of_decide_eq_true c3.2
      subst e1
      have st := chks_star c1.2
      have cs := c1.2
      cases as with
      | nil => simp only [ev] at h; cases h
      | cons a as =>
        cases as with
        | nil =>
          simp only [ev] at h
          rcases Res.bind_exc h with h1 | ⟨⟨x, m1, ρ1⟩, h1, h2⟩
          · simp only [chks] at cs
            have cs1 := and_and cs
            have cs2 := and_and cs1.1
            split at cs1
            · exact (bi_call (g := b.name) call_no (glo_of c2.2) (g.mod.bt b) (pa_cons (ex_of ((h1as _ _ rfl) g tk cs2.2 _) h1) pa_nil (star_cons cs2.1)) st).imp fun σ H Q h => h
            · cases cs1.2
          · obtain ⟨_, _, z⟩ := ofO_bx h2
            cases z
        | cons b2 as =>
          cases as with
          | nil =>
            simp only [chks] at cs
            have cs1 := and_and cs
            have cs2 := and_and cs1.1
            split at cs1
            · have cs3 := and_and cs1.2
              have cs4 := and_and cs3.1
              split at cs3
              · simp only [ev] at h
                rcases Res.bind_exc h with h1 | ⟨⟨x, m1, ρ1⟩, h1, h2⟩
                · exact (bi_call (g := b.name) call_no (glo_of c2.2) (g.mod.bt b) (pa_cons (ex_of ((h1as _ _ rfl) g tk cs2.2 _) h1) (pa_cons pe_no pa_nil (star_cons cs4.1)) (star_cons cs2.1)) st).imp fun σ H Q h => h
                · rcases Res.bind_exc h2 with h3 | ⟨⟨y, m2, ρ2⟩, h3, h4⟩
                  · exact (bi_call (g := b.name) call_no (glo_of c2.2) (g.mod.bt b) (pa_cons (ok_of ((h1as _ _ rfl) g tk cs2.2 _) h1) (pa_cons (ex_of ((h2as _ _ _ rfl) g tk cs4.2 _) h3) pa_nil (star_cons cs4.1)) (star_cons cs2.1)) st).imp fun σ H Q h => tX_then (QQ := fun _ _ => Q) h fun v H1 B R1 rv q => q
                  · obtain ⟨_, _, z⟩ := ofO_bx h4
                    obtain ⟨_, _, z⟩ := ofO_bx z
                    cases z
              · cases cs3.2
            · cases cs1.2
          | cons _ _ => simp only [ev] at h; cases h
    · cases c
theorem snd_isi {a : IE} {ty : String} (h_a : SndV T n hot ea a) : SndV T n hot ea (.isi a ty) := by
  intro X e W g tk c ρ
  refine mk_R (fun {d m ρ'} h => ?_) (fun {cc fs ρ'} h => ?_)
  · simp only [ev] at h
    obtain ⟨⟨x, m1, ρ1⟩, h1, h2⟩ := Res.bind_ok h
    obtain ⟨b, h3, h4⟩ := Res.bind_ok h2
    cases h4
    have hi := ofO_ok h3
    have ht := (isa_is hi).1
    obtain ⟨t1, t2, t3⟩ := ty_boot ht
    simp only [chk] at c
    split at c
    · have c1 := and_and c
      have c2 := and_and c1.1
      have c3 := and_and c2.1
      have c4 := and_and c3.1
      have c5 := and_and c4.1
      have e1 := of_decide_eq_true c5.1
      have e2 := of_decide_eq_true c4.2
      subst e1
      subst e2
      refine (pe_callB (call_isiR (ea := ea) hi) (glo_of c5.2) g.mod.isi PyProof.Rows.boot_isinstance (pa_cons (ok_of (h_a g tk c1.2 _) h1) (pa_cons (pe_bltn (v := .ty ty) (glo_of c3.2) (g.mod.tys ty ht) t1 rfl t2 t3) pa_nil) (star_cons c2.2)) (by decide) (by decide) (star_cons c2.2) rfl).imp
        (tS_one fun B σ H v Q R ra k => ⟨v, rfl, ra, k.val R (.bl _)⟩)
    · cases c
  · simp only [chk] at c
    split at c
    · have c1 := and_and c
      have c2 := and_and c1.1
      have c3 := and_and c2.1
      have c4 := and_and c3.1
      have c5 := and_and c4.1
      have e1 := of_decide_eq_true c5.1
      subst e1
      simp only [ev] at h
      rcases Res.bind_exc h with h1 | ⟨⟨x, m1, ρ1⟩, h1, h2⟩
      · exact (pe_callB call_no (glo_of c5.2) g.mod.isi PyProof.Rows.boot_isinstance (pa_cons (ex_of (h_a g tk c1.2 _) h1) (pa_cons pe_no pa_nil) (star_cons c2.2)) (by decide) (by decide) (star_cons c2.2) rfl).imp fun σ H Q h => h
      · obtain ⟨_, _, z⟩ := ofO_bx h2
        cases z
    · cases c
theorem snd_upper {o : IE} (h_o : SndV T n hot ea o) : SndV T n hot ea (.upper o) := by
  intro X e W g tk c ρ
  refine mk_R (fun {d m ρ'} h => ?_) (fun {cc fs ρ'} h => ?_)
  · simp only [ev] at h
    obtain ⟨⟨x, m1, ρ1⟩, h1, h2⟩ := Res.bind_ok h
    dsimp only at h2
    split at h2
    · rename_i s
      split at h2
      · rename_i hz
        cases h2
        simp only [chk] at c
        split at c
        · have c1 := and_and c
          have c2 := and_and c1.1
          have c3 := and_and c2.1
          have e1 := of_decide_eq_true c3.1
          subst e1
          refine (pe_upper (ok_of (h_o g tk c1.2 _) h1) (plain_o c3.2) c2.2).imp fun σ H Q ⟨B, R, k⟩ => ⟨B, R, fun v H1 R1 f1 rv => ?_⟩
          have ev1 := (rdb_of R1 rv).str
          subst ev1
          exact ⟨⟨s, rfl⟩, s, rfl, rfl, Nat.le_trans (of_decide_eq_true hz) (by decide), k _ H1 R1 f1 (.str _)⟩
        · cases c
      · cases h2
    · cases h2
  · simp only [chk] at c
    split at c
    · have c1 := and_and c
      have c2 := and_and c1.1
      have c3 := and_and c2.1
      have e1 := of_decide_eq_true c3.1
      subst e1
      simp only [ev] at h
      rcases Res.bind_exc h with h1 | ⟨⟨x, m1, ρ1⟩, h1, h2⟩
      · exact (pe_upper (ex_of (h_o g tk c1.2 _) h1) (plain_o c3.2) c2.2).imp fun σ H Q h => h
      · dsimp only at h2
        split at h2
        · split at h2 <;> cases h2
        · cases h2
    · cases c
theorem snd_join {o : IE} {a : IE} (h_o : SndV T n hot ea o) (h_a : SndV T n hot ea a) : SndV T n hot ea (.join o a) := by
  intro X e W g tk c ρ
  simp only [chk] at c
  split at c
  · have c1 := and_and c
    have c2 := and_and c1.1
    have c3 := and_and c2.1
    have c4 := and_and c3.1
    have c5 := and_and c4.1
    have e1 := of_decide_eq_true c5.1
    subst e1
    refine mk_R (fun {d m ρ'} h => ?_) (fun {cc fs ρ'} h => ?_)
    · simp only [ev] at h
      obtain ⟨⟨x, m1, ρ1⟩, h1, h2⟩ := Res.bind_ok h
      cases x with
      | str s =>
        obtain ⟨⟨y, m2, ρ2⟩, h3, h4⟩ := Res.bind_ok h2
        dsimp only at h4
        split at h4
        · rename_i ys
          obtain ⟨zs, h5, h6⟩ := Res.bind_ok h4
          split at h6
          · rename_i hz
            cases h6
            refine (pe_join (ok_of (h_o g tk c2.2 _) h1) (ok_of (h_a g tk c1.2 _) h3) (star_cons c3.2) (plain_o c5.2) c4.2).imp fun σ H Q ⟨B, R, k⟩ => ⟨B, R, fun v H1 R1 f1 rv => ?_⟩
            have ev1 := (rdb_of R1 rv).str
            subst ev1
            refine ⟨⟨s, rfl⟩, B, R1, fun u H2 R2 f2 ru => ?_⟩
            obtain ⟨p, vs, rfl, hp, l⟩ := (rdb_of R2 ru).lst
            rw [strs_is (ofO_ok h5) l] at hp
            exact ⟨s, p, zs, rfl, rfl, .inl hp, Nat.le_trans (of_decide_eq_true hz) (by decide), k _ H2 R2 (f1.trans f2) (.str _)⟩
          · cases h6
        · cases h4
      | _ => cases h2
    · simp only [ev] at h
      rcases Res.bind_exc h with h1 | ⟨⟨x, m1, ρ1⟩, h1, h2⟩
      · exact (pe_join (ex_of (h_o g tk c2.2 _) h1) pe_no (star_cons c3.2) (plain_o c5.2) c4.2).imp fun σ H Q h => h
      · cases x with
        | str s =>
          rcases Res.bind_exc h2 with h3 | ⟨⟨y, m2, ρ2⟩, h3, h4⟩
          · refine (pe_join (ok_of (h_o g tk c2.2 _) h1) (ex_of (h_a g tk c1.2 _) h3) (star_cons c3.2) (plain_o c5.2) c4.2).imp fun σ H Q h => tX_then (QQ := fun _ _ => Q) h fun v H1 B R1 rv q => ?_
            have ev1 := (rdb_of R1 rv).str
            subst ev1
            exact ⟨⟨s, rfl⟩, q⟩
          · exfalso
            dsimp only at h4
            split at h4
            · obtain ⟨_, _, z⟩ := ofO_bx h4
              split at z <;> cases z
            · cases h4
        | _ => cases h2
  · cases c
theorem snd_split {o : IE} {a : IE} (h_o : SndV T n hot ea o) (h_a : SndV T n hot ea a) : SndV T n hot ea (.split o a) := by
  intro X e W g tk c ρ
  simp only [chk] at c
  split at c
  · have c1 := and_and c
    have c2 := and_and c1.1
    have c3 := and_and c2.1
    have c4 := and_and c3.1
    have c5 := and_and c4.1
    have e1 := of_decide_eq_true c5.1
    subst e1
    refine mk_R (fun {d m ρ'} h => ?_) (fun {cc fs ρ'} h => ?_)
    · simp only [ev] at h
      obtain ⟨⟨x, m1, ρ1⟩, h1, h2⟩ := Res.bind_ok h
      cases x with
      | str s =>
        obtain ⟨⟨y, m2, ρ2⟩, h3, h4⟩ := Res.bind_ok h2
        dsimp only at h4
        split at h4
        · rename_i t
          split at h4
          · rename_i hz
            have hz' := and_and hz
            cases h4
            refine (pe_split (ok_of (h_o g tk c2.2 _) h1) (ok_of (h_a g tk c1.2 _) h3) (star_cons c3.2) (plain_o c5.2) c4.2).imp fun σ H Q ⟨B, R, k⟩ => ⟨B, R, fun v H1 R1 f1 rv => ?_⟩
            have ev1 := (rdb_of R1 rv).str
            subst ev1
            refine ⟨⟨s, rfl⟩, B, R1, fun u H2 R2 f2 ru => ?_⟩
            have ev2 := (rdb_of R2 ru).str
            subst ev2
            refine ⟨s, t, rfl, rfl, by simpa using hz'.2, ?_, fun p hp => ?_⟩
            · have : s.length ≤ 100000 := of_decide_eq_true hz'.1
              have h9 : (100002 : Nat) ≤ sizeLine := by decide
              omega
            · refine k _ _ (R2.new hp) (f1.trans (f2.trans (FrzLe.new hp))) ⟨p, rfl, ⟨_, _, rfl, upd_same, ?_⟩, R2.newB hp, R2.newS hp⟩
              exact (strs_isL _)
          · cases h4
        · cases h4
      | _ => cases h2
    · simp only [ev] at h
      rcases Res.bind_exc h with h1 | ⟨⟨x, m1, ρ1⟩, h1, h2⟩
      · exact (pe_split (ex_of (h_o g tk c2.2 _) h1) pe_no (star_cons c3.2) (plain_o c5.2) c4.2).imp fun σ H Q h => h
      · cases x with
        | str s =>
          rcases Res.bind_exc h2 with h3 | ⟨⟨y, m2, ρ2⟩, h3, h4⟩
          · refine (pe_split (ok_of (h_o g tk c2.2 _) h1) (ex_of (h_a g tk c1.2 _) h3) (star_cons c3.2) (plain_o c5.2) c4.2).imp fun σ H Q h => tX_then (QQ := fun _ _ => Q) h fun v H1 B R1 rv q => ?_
            have ev1 := (rdb_of R1 rv).str
            subst ev1
            exact ⟨⟨s, rfl⟩, q⟩
          · exfalso
            dsimp only at h4
            split at h4
            · split at h4 <;> cases h4
            · cases h4
        | _ => cases h2
  · cases c
theorem snd_lc {elt : IE} {tg : Nat} {it : IE} {own : List (Str × Nat)} (h_elt : SndV T n hot ea elt) (h_it : SndV T n hot ea it) : SndV T n hot ea (.lc elt tg it own) := by
  intro X e W g tk c ρ
  have c0 := c
  simp only [chk] at c0
  split at c0
  · rename_i y0 x0 p0 i0 scope p1
    have c1 := and_and c0
    have c2 := and_and c1.1
    have c3 := and_and c2.1
    have c4 := and_and c3.1
    have c5 := and_and c4.1
    have c6 := and_and c5.1
    have c7 := not_hot c6.1
    obtain ⟨L, fm⟩ := g.frm
    have pe' : ∀ (σ : L2.St) (s : Shared) (H : Hp) (C : Addr) (cl : List (Str × Addr)) (fp : List Addr) (xe : Value → Shared → Prop), TakesF (X.blkX s H scope (compEnvC scope cl C X.env) fp xe) (wIn W σ) → PE (X.blkX s H scope (compEnvC scope cl C X.env) fp xe) y0 (tUK (X.km ea) (wIn W σ) T elt) := fun σ s H C cl fp xe tk' => pe_UK (X := X.blkX s H scope (compEnvC scope cl C X.env) fp xe) fun ρ' => keep_of (X := X.blkX s H scope (compEnvC scope cl C X.env) fp xe) (h_elt (g.blk c7.1 s H scope cl C fp xe) tk' c1.2 ρ')
    have z := lc_mk (ea := ea) (p0 := p0) (one := oneOf (ev T elt) tg (own.map (·.2))) (tt := fun _ => tYes) (te := fun σ => tUK (X.km ea) (wIn W σ) T elt) g.nd c6.2 (of_decide_eq_true c5.2) c3.2 c7.2 (keep_of (h_it g tk c2.2 ρ)) (fun σ => step_lc) (fun σ s H C cl fp xe tk' => pts_nil) pe'
    simp only [ev]
    exact pe_lcP (g.calm c7.1) g.nd tk fm z
  · cases c0
theorem snd_lcI {elt : IE} {tg : Nat} {it : IE} {cond : IE} {own : List (Str × Nat)} (h_elt : SndV T n hot ea elt) (h_it : SndV T n hot ea it) (t_cond : SndT T n hot ea cond) : SndV T n hot ea (.lcI elt tg it cond own) := by
  intro X e W g tk c ρ
  have c' := c
  simp only [chk] at c'
  split at c'
  · rename_i y0 x0 p0 i0 cc0 scope p1
    have c0 := and_and c'
    have c1 := and_and c0.1
    have c2 := and_and c1.1
    have c3 := and_and c2.1
    have c4 := and_and c3.1
    have c5 := and_and c4.1
    have c6 := and_and c5.1
    have c7 := and_and c6.1
    have c8 := not_hot c7.1
    obtain ⟨L, fm⟩ := g.frm
    have pe' : ∀ (σ : L2.St) (s : Shared) (H : Hp) (C : Addr) (cl : List (Str × Addr)) (fp : List Addr) (xe : Value → Shared → Prop), TakesF (X.blkX s H scope (compEnvC scope cl C X.env) fp xe) (wIn W σ) → PE (X.blkX s H scope (compEnvC scope cl C X.env) fp xe) y0 (tUK (X.km ea) (wIn W σ) T elt) := fun σ s H C cl fp xe tk' => pe_UK (X := X.blkX s H scope (compEnvC scope cl C X.env) fp xe) fun ρ' => keep_of (X := X.blkX s H scope (compEnvC scope cl C X.env) fp xe) (h_elt (g.blk c8.1 s H scope cl C fp xe) tk' c1.2 ρ')
    have pt' : ∀ (σ : L2.St) (s : Shared) (H : Hp) (C : Addr) (cl : List (Str × Addr)) (fp : List Addr) (xe : Value → Shared → Prop), TakesF (X.blkX s H scope (compEnvC scope cl C X.env) fp xe) (wIn W σ) → PTs (X.blkX s H scope (compEnvC scope cl C X.env) fp xe) [cc0] (tUT (X.km ea) (wIn W σ) T cond) := fun σ s H C cl fp xe tk' => pts_one (pt_U (X := X.blkX s H scope (compEnvC scope cl C X.env) fp xe) fun ρ' => t_cond (g.blk c8.1 s H scope cl C fp xe) tk' c8.2 c0.2 ρ')
    have z := lc_mk (ea := ea) (p0 := p0) (one := oneIf (ev T cond) (ev T elt) tg (own.map (·.2))) (tt := fun σ => tUT (X.km ea) (wIn W σ) T cond) (te := fun σ => tUK (X.km ea) (wIn W σ) T elt) g.nd c6.2 (of_decide_eq_true c5.2) c3.2 c7.2 (keep_of (h_it g tk c2.2 ρ)) (fun σ => step_lcI) pt' pe'
    simp only [ev]
    exact pe_lcP (g.calm c8.1) g.nd tk fm z
  · cases c'
theorem snd_lcR {elt : IE} {tg : Nat} {a : IE} {own : List (Str × Nat)} (h_elt : SndV T n hot ea elt) (h_a : SndV T n hot ea a) : SndV T n hot ea (.lcR elt tg a own) := by
  intro X e W g tk c ρ
  have c0 := c
  simp only [chk] at c0
  split at c0
  · rename_i y0 x0 p0 r0 p2 i0 p3 scope p1
    have c1 := and_and c0
    have c2 := and_and c1.1
    have c3 := and_and c2.1
    have c4 := and_and c3.1
    have c5 := and_and c4.1
    have c6 := and_and c5.1
    have c7 := and_and c6.1
    have c8 := and_and c7.1
    have c9 := not_hot c8.1
    have e1 := of_decide_eq_true c9.2
    subst e1
    obtain ⟨L, fm⟩ := g.frm
    have pe' : ∀ (σ : L2.St) (s : Shared) (H : Hp) (C : Addr) (cl : List (Str × Addr)) (fp : List Addr) (xe : Value → Shared → Prop), TakesF (X.blkX s H scope (compEnvC scope cl C X.env) fp xe) (wIn W σ) → PE (X.blkX s H scope (compEnvC scope cl C X.env) fp xe) y0 (tUK (X.km ea) (wIn W σ) T elt) := fun σ s H C cl fp xe tk' => pe_UK (X := X.blkX s H scope (compEnvC scope cl C X.env) fp xe) fun ρ' => keep_of (X := X.blkX s H scope (compEnvC scope cl C X.env) fp xe) (h_elt (g.blk c9.1 s H scope cl C fp xe) tk' c1.2 ρ')
    have z := lc_mkR (ea := ea) (p0 := p0) (p2 := p2) (p3 := p3) (one := oneOf (ev T elt) tg (own.map (·.2))) (tt := fun _ => tYes) (te := fun σ => tUK (X.km ea) (wIn W σ) T elt) g.nd c6.2 (of_decide_eq_true c5.2) c3.2 (glo_of c8.2) g.mod.rng c7.2 (h_a g tk c2.2 ρ) (fun σ => step_lc) (fun σ s H C cl fp xe tk' => pts_nil) pe'
    simp only [ev]
    exact pe_lcP (g.calm c9.1) g.nd tk fm z
  · cases c0
theorem snd_fst {es : IEs} (f_es : SndF T n hot ea es) : SndV T n hot ea (.fst es) := by
  intro X e W g tk c ρ
  simp only [chk] at c
  split at c
  · obtain ⟨ts, h1, h2⟩ := f_es g tk c
    refine (pe_joined h1).imp fun σ H Q ⟨B, R, w⟩ => ?_
    refine h2 Str.empty ρ B σ H _ R ?_
    simp only [ev] at w
    cases q : evF T es Str.empty ρ with
    | ok a =>
      rw [q] at w
      exact fun H' R' f' => w _ H' R' f' (.str _)
    | exc c fs ρ' => rw [q] at w; exact w
    | stuck => rw [q] at w; exact w
  · cases c
theorem snd_isN {b : Bool} {a : IE} (h_a : SndV T n hot ea a) : SndV T n hot ea (.isN b a) := by
  intro X e W g tk c ρ
  simp only [chk] at c
  split at c
  · have c1 := and_and c
    have e1 : b = true := c1.1
    subst e1
    refine mk_R (fun {d m ρ'} h => ?_) (fun {cc fs ρ'} h => ?_)
    · simp only [ev] at h
      obtain ⟨⟨x, m1, ρ1⟩, h1, h2⟩ := Res.bind_ok h
      cases h2
      refine (pe_cmpR op_isN (ok_of (h_a g tk c1.2 _) h1) pe_non (noSet_marks rfl)).imp fun σ H Q ⟨B, R, k⟩ => ⟨B, R, fun v H1 R1 f1 rv => ⟨rfl, ?_⟩⟩
      rw [isNon_of (rdb_of R1 rv)]
      exact k _ H1 R1 f1 (.bl _)
    · simp only [ev] at h
      rcases Res.bind_exc h with h1 | ⟨⟨x, m1, ρ1⟩, h1, h2⟩
      · exact (pe_cmpR cmp_no (ex_of (h_a g tk c1.2 _) h1) pe_no (noSet_marks rfl)).imp fun σ H Q h => h
      · cases h2
  · have c1 := and_and c
    have e1 : b = false := by simpa using c1.1
    subst e1
    refine mk_R (fun {d m ρ'} h => ?_) (fun {cc fs ρ'} h => ?_)
    · simp only [ev] at h
      obtain ⟨⟨x, m1, ρ1⟩, h1, h2⟩ := Res.bind_ok h
      cases h2
      refine (pe_cmpR op_notN (ok_of (h_a g tk c1.2 _) h1) pe_non (noSet_marks rfl)).imp fun σ H Q ⟨B, R, k⟩ => ⟨B, R, fun v H1 R1 f1 rv => ⟨rfl, ?_⟩⟩
      rw [isNon_of (rdb_of R1 rv)]
      exact k _ H1 R1 f1 (.bl _)
    · simp only [ev] at h
      rcases Res.bind_exc h with h1 | ⟨⟨x, m1, ρ1⟩, h1, h2⟩
      · exact (pe_cmpR cmp_no (ex_of (h_a g tk c1.2 _) h1) pe_no (noSet_marks rfl)).imp fun σ H Q h => h
      · cases h2
  · cases c
theorem snd_isE {i : Nat} {cs : List Str}  : SndV T n hot ea (.isE i cs) := by
  intro X e W g tk c ρ
  simp only [chk] at c
  split at c
  · have c1 := and_and c
    have c2 := and_and c1.1
    have c3 := and_and c2.1
    have c4 := and_and c3.1
    have c5 := and_and c4.1
    have c6 := and_and c5.1
    have c7 := and_and c6.1
    have e1 := of_decide_eq_true c7.1
    have e2 := of_decide_eq_true c3.2
    subst e1
    subst e2
    refine mk_R (fun {d m ρ'} h => ?_) (fun {cc fs ρ'} h => ?_)
    · simp only [ev] at h
      split at h
      · rename_i c0 fs0 hr
        obtain ⟨b, h1, h2⟩ := Res.bind_ok h
        cases h2
        exact pe_isE g (of_decide_eq_true c6.2) (vis_of c5.2) c4.2 (glo_of c7.2) (glo_of c2.2) c1.2 hr (ofO_ok h1)
      · cases h
    · simp only [ev] at h
      split at h
      · obtain ⟨_, _, z⟩ := ofO_bx h
        cases z
      · cases h
  · cases c
theorem snd_fldE {i : Nat} {f : Str}  : SndV T n hot ea (.fldE i f) := by
  intro X e W g tk c ρ
  simp only [chk] at c
  split at c
  · have c1 := and_and c
    have c2 := and_and c1.1
    have c3 := and_and c2.1
    have e1 := of_decide_eq_true c3.1
    subst e1
    refine mk_R (fun {d m ρ'} h => ?_) (fun {cc fs ρ'} h => ?_)
    · simp only [ev] at h
      split at h
      · rename_i c0 fs0 hr
        split at h
        · rename_i hc
          obtain ⟨b, h1, h2⟩ := Res.bind_ok h
          cases h2
          exact pe_fldE g (of_decide_eq_true c3.2) (vis_of c2.2) c1.2 hr hc (ofO_ok h1)
        · cases h
      · cases h
    · simp only [ev] at h
      split at h
      · split at h
        · obtain ⟨_, _, z⟩ := ofO_bx h
          cases z
        · cases h
      · cases h
  · cases c
theorem snd_callK {f : Str} {ks : List Str} {as : IEs} (k_as : SndK T n hot ea as) : SndV T n hot ea (.callK f ks as) := by
  intro X e W g tk c ρ
  simp only [chk] at c
  split at c
  · have c1 := and_and c
    have c2 := and_and c1.1
    have c3 := and_and c2.1
    have c4 := and_and c3.1
    have c5 := not_hot c4.1
    have e1 := of_decide_eq_true c5.2
    subst e1
    have e0 := g.ea0 c5.1
    subst e0
    simp only [ev]
    split
    · exact pe_stuck
    · rename_i fi hf
      split
      · rename_i hkw
        obtain ⟨a, fd, ps, k, hk, g1, g2, g3, g4, g5⟩ := g.mod.fns f fi hf
        obtain ⟨rfl, hb⟩ := g5 ks hkw.1
        obtain ⟨L, fm⟩ := g.frm
        refine (pe_callGK g4 ((g.room c5.1).mono hk) g.grd tk ⟨L, fm.fr⟩ (glo_of c4.2) g1 g2 hb (k_as g tk c1.2 ρ) (of_decide_eq_true c2.2) (odd1 c3.2)).imp fun σ H Q ⟨B, R, w⟩ => ⟨B, R, ?_⟩
        cases q : evs T as ρ with
        | ok a =>
          obtain ⟨ds, ρ1⟩ := a
          rw [q] at w
          intro vs H1 R1 f1 l
          have w' : wantC (X.km none) W B σ H Q (callD fi (ds.map .val) ρ1) := w
          cases q2 : callD fi (ds.map .val) ρ1 with
          | ok a =>
            rw [q2] at w'
            exact call_ok (fun hl => shape_vals hkw.2 (by simpa using hl)) R1 (got_vals l) q2 fun v H' R2 f2 rv => w' v H' R2 (f1.trans f2) rv
          | exc c fs ρ2 =>
            rw [q2] at w'
            exact call_ex (fun hl => shape_vals hkw.2 (by simpa using hl)) R1 (got_vals l) q2 fun cls d H' R2 f2 xc => w' cls d H' R2 (f1.trans f2) xc
          | stuck => rw [q2] at w'; exact (show False from w').elim
        | exc c fs ρ1 => rw [q] at w; exact w
        | stuck => rw [q] at w; exact w
      · exact pe_stuck
  · cases c
end
end Ev
set_option Elab.async false
set_option linter.all false
set_option maxRecDepth 100000
set_option maxHeartbeats 8000000
namespace Ev
open PySem PySem.Spec PyProof.Rows L2
section
variable {T : Tab} {n : Nat} {hot : Bool} {ea : Option EA}
theorem sndT_not {a : IE} (t_a : SndT T n hot ea a) : SndT T n hot ea (.not a) := by
  intro X e W g tk t c ρ
  refine mk_RT (fun {b m ρ'} h => ?_) (fun {cc fs ρ'} h => ?_)
  · simp only [ev] at h
    obtain ⟨⟨x, m1, ρ1⟩, h1, h2⟩ := Res.bind_ok h
    dsimp only at h2
    split at h2
    · cases h2
      simp only [chk] at c
      split at c
      · exact (pt_not (okT_of (t_a g tk t c _) h1)).imp fun σ H Q ⟨B, R, k⟩ => ⟨B, R, fun H1 R1 f1 => k H1 R1 f1⟩
      · cases c
    · cases h2
  · simp only [ev] at h
    simp only [chk] at c
    split at c
    · rcases Res.bind_exc h with h1 | ⟨⟨x, m1, ρ1⟩, h1, h2⟩
      · exact (pt_not (exT_of (t_a g tk t c _) h1)).imp fun σ H Q h => h
      · dsimp only at h2
        split at h2 <;> cases h2
    · cases c
theorem sndT_and {a : IE} {b0 : IE} (t_a : SndT T n hot ea a) (t_b0 : SndT T n hot ea b0) : SndT T n hot ea (.and a b0) := by
  intro X e W g tk t c ρ
  refine mk_RT (fun {b m ρ'} h => ?_) (fun {cc fs ρ'} h => ?_)
  · simp only [ev] at h
    obtain ⟨⟨x, m1, ρ1⟩, h1, h2⟩ := Res.bind_ok h
    have t' := and_and (show (tst a && tst b0) = true from t)
    have key : ∀ {y : Expr} {pos : Pos} {z : Expr} {r : List Expr}, chk X.N hot X.env.scope a y = true → (∀ {b m ρ'}, ev T b0 ρ1 = .ok (.bl b, m, ρ') → PW X (.BoolOp .And (z :: r) pos) (tST (X.km ea) ρ1 b ρ')) → PW X (.BoolOp .And (y :: z :: r) pos) (tST (X.km ea) ρ b ρ') := by
      intro y pos z r ca hb
      dsimp only at h2
      split at h2
      · refine pw_imp (pw_and (okT_of (t_a g tk t'.1 ca _) h1) (hb h2)) fun σ H Q ⟨B, R, k⟩ => ⟨B, R, fun H1 R1 f1 => ?_⟩
        refine iteT ?_
        exact ⟨B, R1, fun H2 R2 f2 => k H2 R2 (f1.trans f2)⟩
      · cases h2
        refine pw_imp (pw_and (okT_of (t_a g tk t'.1 ca _) h1) (pw_no (e := .BoolOp .And (z :: r) pos))) fun σ H Q ⟨B, R, k⟩ => ⟨B, R, fun H1 R1 f1 => ?_⟩
        refine iteF ?_
        exact k H1 R1 f1
      · cases h2
    simp only [chk] at c
    split at c
    · have c1 := and_and c
      exact (key c1.1 fun hb => pw_and1 (okT_of (t_b0 g tk t'.2 c1.2 _) hb)).pt
    · rename_i x0 y0 z0 r0 p0
      have c1 := and_and c
      exact (key c1.1 fun hb => pw_bool (okT_of (t_b0 g tk t'.2 c1.2 _) hb)).pt
    · cases c
  · simp only [ev] at h
    have t' := and_and (show (tst a && tst b0) = true from t)
    have key : ∀ {y : Expr} {pos : Pos} {z : Expr} {r : List Expr}, chk X.N hot X.env.scope a y = true → (∀ {ρ1 cc fs ρ'}, ev T b0 ρ1 = .exc cc fs ρ' → PW X (.BoolOp .And (z :: r) pos) (tXT (X.km ea) W ρ1 cc fs ρ')) → PW X (.BoolOp .And (y :: z :: r) pos) (tXT (X.km ea) W ρ cc fs ρ') := by
      intro y pos z r ca hb
      rcases Res.bind_exc h with h1 | ⟨⟨x, m1, ρ1⟩, h1, h2⟩
      · exact pw_imp (pw_and (exT_of (t_a g tk t'.1 ca _) h1) (pw_no (e := .BoolOp .And (z :: r) pos))) fun σ H Q h => h
      · dsimp only at h2
        split at h2
        · refine pw_imp (pw_and (okT_of (t_a g tk t'.1 ca _) h1) (hb h2)) fun σ H Q ⟨B, R, k⟩ => ⟨B, R, fun H1 R1 f1 => ?_⟩
          refine iteT ?_
          exact ⟨B, R1, fun cls d H' R' f' xc => k cls d H' R' (f1.trans f') xc⟩
        · cases h2
        · cases h2
    simp only [chk] at c
    split at c
    · have c1 := and_and c
      exact (key c1.1 fun hb => pw_and1 (exT_of (t_b0 g tk t'.2 c1.2 _) hb)).pt
    · have c1 := and_and c
      exact (key c1.1 fun hb => pw_bool (exT_of (t_b0 g tk t'.2 c1.2 _) hb)).pt
    · cases c
theorem sndT_or {a : IE} {b0 : IE} (t_a : SndT T n hot ea a) (t_b0 : SndT T n hot ea b0) : SndT T n hot ea (.or a b0) := by
  intro X e W g tk t c ρ
  refine mk_RT (fun {b m ρ'} h => ?_) (fun {cc fs ρ'} h => ?_)
  · simp only [ev] at h
    obtain ⟨⟨x, m1, ρ1⟩, h1, h2⟩ := Res.bind_ok h
    have t' := and_and (show (tst a && tst b0) = true from t)
    have key : ∀ {y : Expr} {pos : Pos} {z : Expr} {r : List Expr}, chk X.N hot X.env.scope a y = true → (∀ {b m ρ'}, ev T b0 ρ1 = .ok (.bl b, m, ρ') → PW X (.BoolOp .Or (z :: r) pos) (tST (X.km ea) ρ1 b ρ')) → PW X (.BoolOp .Or (y :: z :: r) pos) (tST (X.km ea) ρ b ρ') := by
      intro y pos z r ca hb
      dsimp only at h2
      split at h2
      · refine pw_imp (pw_or (okT_of (t_a g tk t'.1 ca _) h1) (hb h2)) fun σ H Q ⟨B, R, k⟩ => ⟨B, R, fun H1 R1 f1 => ?_⟩
        refine iteF ?_
        exact ⟨B, R1, fun H2 R2 f2 => k H2 R2 (f1.trans f2)⟩
      · cases h2
        refine pw_imp (pw_or (okT_of (t_a g tk t'.1 ca _) h1) (pw_no (e := .BoolOp .Or (z :: r) pos))) fun σ H Q ⟨B, R, k⟩ => ⟨B, R, fun H1 R1 f1 => ?_⟩
        refine iteT ?_
        exact k H1 R1 f1
      · cases h2
    simp only [chk] at c
    split at c
    · have c1 := and_and c
      exact (key c1.1 fun hb => pw_or1 (okT_of (t_b0 g tk t'.2 c1.2 _) hb)).pt
    · have c1 := and_and c
      exact (key c1.1 fun hb => pw_bool (okT_of (t_b0 g tk t'.2 c1.2 _) hb)).pt
    · cases c
  · simp only [ev] at h
    have t' := and_and (show (tst a && tst b0) = true from t)
    have key : ∀ {y : Expr} {pos : Pos} {z : Expr} {r : List Expr}, chk X.N hot X.env.scope a y = true → (∀ {ρ1 cc fs ρ'}, ev T b0 ρ1 = .exc cc fs ρ' → PW X (.BoolOp .Or (z :: r) pos) (tXT (X.km ea) W ρ1 cc fs ρ')) → PW X (.BoolOp .Or (y :: z :: r) pos) (tXT (X.km ea) W ρ cc fs ρ') := by
      intro y pos z r ca hb
      rcases Res.bind_exc h with h1 | ⟨⟨x, m1, ρ1⟩, h1, h2⟩
      · exact pw_imp (pw_or (exT_of (t_a g tk t'.1 ca _) h1) (pw_no (e := .BoolOp .Or (z :: r) pos))) fun σ H Q h => h
      · dsimp only at h2
        split at h2
        · refine pw_imp (pw_or (okT_of (t_a g tk t'.1 ca _) h1) (hb h2)) fun σ H Q ⟨B, R, k⟩ => ⟨B, R, fun H1 R1 f1 => ?_⟩
          refine iteF ?_
          exact ⟨B, R1, fun cls d H' R' f' xc => k cls d H' R' (f1.trans f') xc⟩
        · cases h2
        · cases h2
    simp only [chk] at c
    split at c
    · have c1 := and_and c
      exact (key c1.1 fun hb => pw_or1 (exT_of (t_b0 g tk t'.2 c1.2 _) hb)).pt
    · have c1 := and_and c
      exact (key c1.1 fun hb => pw_bool (exT_of (t_b0 g tk t'.2 c1.2 _) hb)).pt
    · cases c
theorem sndT_cmp {op : CmpOp} {a : IE} {b0 : IE} (h_a : SndV T n hot ea a) (h_b0 : SndV T n hot ea b0) : SndT T n hot ea (.cmp op a b0) := by
  intro X e W g tk t c ρ
  refine mk_RT (fun {b m ρ'} h => ?_) (fun {cc fs ρ'} h => ?_)
  · simp only [ev] at h
    obtain ⟨⟨x, m1, ρ1⟩, h1, h2⟩ := Res.bind_ok h
    obtain ⟨⟨y, m2, ρ2⟩, h3, h4⟩ := Res.bind_ok h2
    obtain ⟨x', h5, h6⟩ := Res.bind_ok h4
    obtain ⟨r', h7, h8⟩ := Res.bind_ok h6
    cases h8
    simp only [chk] at c
    split at c
    · have c1 := and_and c
      have c2 := and_and c1.1
      have c3 := and_and c2.1
      have e1 := of_decide_eq_true c3.1
      subst e1
      obtain ⟨r, hr, hw⟩ := cmp_snd (X := X) (ea := ea) g.hu (ofO_ok h7)
      refine (pt_cmpR hr (ok_of (h_a g tk c2.2 _) h1) (ok_of (h_b0 g tk c1.2 _) h3) (noSet_marks c3.2)).imp fun σ H Q ⟨B, R, k⟩ => ?_
      refine tS_two (d := .bl b) (l := .frz) (ofO_ok h5) (fun B σ H v w Q R ra rb k => hw H v w Q ra rb (k.val R (.bl _))) σ H _ ⟨B, R, fun v H1 R1 f1 rv => ?_⟩
      exact ⟨b, (rdb_of R1 rv).bl, k H1 R1 f1⟩
    · cases c
  · simp only [chk] at c
    split at c
    · have c1 := and_and c
      have c2 := and_and c1.1
      have c3 := and_and c2.1
      have e1 := of_decide_eq_true c3.1
      subst e1
      simp only [ev] at h
      rcases Res.bind_exc h with h1 | ⟨⟨x, m1, ρ1⟩, h1, h2⟩
      · exact (pt_cmpR cmp_no (ex_of (h_a g tk c2.2 _) h1) pe_no (noSet_marks c3.2)).imp fun σ H Q h => h
      · rcases Res.bind_exc h2 with h3 | ⟨⟨y, m2, ρ2⟩, h3, h4⟩
        · exact (pt_cmpR cmp_no (ok_of (h_a g tk c2.2 _) h1) (ex_of (h_b0 g tk c1.2 _) h3) (noSet_marks c3.2)).imp fun σ H Q h => tX_then (QQ := fun _ _ _ _ => False) (Q := fun _ _ => False) h fun v H1 B R1 rv q => q
        · obtain ⟨_, _, z⟩ := ofO_bx h4
          obtain ⟨_, _, z⟩ := ofO_bx z
          cases z
    · cases c
theorem sndT_cmp2 {o : CmpOp} {p : CmpOp} {a : IE} {b0 : IE} {z : IE} (h_a : SndV T n hot ea a) (h_b0 : SndV T n hot ea b0) (h_z : SndV T n hot ea z) : SndT T n hot ea (.cmp2 o p a b0 z) := by
  intro X e W g tk t c ρ
  refine mk_RT (fun {b m ρ'} h => ?_) (fun {cc fs ρ'} h => ?_)
  · simp only [ev] at h
    obtain ⟨⟨x, m1, ρ1⟩, h1, h2⟩ := Res.bind_ok h
    obtain ⟨⟨y, m2, ρ2⟩, h3, h4⟩ := Res.bind_ok h2
    dsimp only at h4
    split at h4
    · obtain ⟨r', h5, h6⟩ := Res.bind_ok h4
      obtain ⟨r, hr, hw⟩ := cmp_snd (X := X) (ea := ea) g.hu (ofO_ok h5)
      simp only [chk] at c
      split at c
      · have c1 := and_and c
        have c2 := and_and c1.1
        have c3 := and_and c2.1
        have c4 := and_and c3.1
        have c5 := and_and c4.1
        have e1 := of_decide_eq_true c5.1
        have e2 := of_decide_eq_true c5.2
        subst e1
        subst e2
        split at h6
        · cases h6
          refine (pt_chain hr cmp_no (ok_of (h_a g tk c3.2 _) h1) (ok_of (h_b0 g tk c2.2 _) h3) pe_no (noSet_marks2 c4.2)).imp fun σ H Q ⟨B, R, k⟩ => ⟨B, R, fun v H1 R1 f1 rv => ⟨B, R1, fun u H2 R2 f2 ru => ?_⟩⟩
          refine hw H2 v u _ ?_ (rdb_of R2 ru) ⟨false, rfl, ?_⟩
          · have := (rdb_of R1 rv).int
            subst this
            exact .inl (.int _)
          · refine iteF ?_
            exact ⟨false, rfl, k H2 R2 (f1.trans f2)⟩
        · obtain ⟨⟨w, m3, ρ3⟩, h7, h8⟩ := Res.bind_ok h6
          dsimp only at h8
          split at h8
          · obtain ⟨r2, h9, h10⟩ := Res.bind_ok h8
            cases h10
            obtain ⟨q, hq, hw2⟩ := cmp_snd (X := X) (ea := ea) g.hu (ofO_ok h9)
            refine (pt_chain hr hq (ok_of (h_a g tk c3.2 _) h1) (ok_of (h_b0 g tk c2.2 _) h3) (ok_of (h_z g tk c1.2 _) h7) (noSet_marks2 c4.2)).imp fun σ H Q ⟨B, R, k⟩ => ⟨B, R, fun v H1 R1 f1 rv => ⟨B, R1, fun u H2 R2 f2 ru => ?_⟩⟩
            have ev1 := (rdb_of R1 rv).int
            have eu1 := (rdb_of R2 ru).int
            subst ev1
            subst eu1
            refine hw H2 _ _ _ (.inl (.int _)) (.inl (.int _)) ⟨true, rfl, ?_⟩
            refine iteT ?_
            exact ⟨B, R2, fun t H3 R3 f3 rt => hw2 H3 _ t _ (.inl (.int _)) (rdb_of R3 rt) ⟨_, rfl, k H3 R3 (f1.trans (f2.trans f3))⟩⟩
          · cases h8
      · cases c
    · cases h4
  · simp only [chk] at c
    split at c
    · have c1 := and_and c
      have c2 := and_and c1.1
      have c3 := and_and c2.1
      have c4 := and_and c3.1
      have c5 := and_and c4.1
      have e1 := of_decide_eq_true c5.1
      have e2 := of_decide_eq_true c5.2
      subst e1
      subst e2
      simp only [ev] at h
      rcases Res.bind_exc h with h1 | ⟨⟨x, m1, ρ1⟩, h1, h2⟩
      · exact (pt_chain cmp_no cmp_no (ex_of (h_a g tk c3.2 _) h1) pe_no pe_no (noSet_marks2 c4.2)).imp fun σ H Q h => h
      · rcases Res.bind_exc h2 with h3 | ⟨⟨y, m2, ρ2⟩, h3, h4⟩
        · exact (pt_chain cmp_no cmp_no (ok_of (h_a g tk c3.2 _) h1) (ex_of (h_b0 g tk c2.2 _) h3) pe_no (noSet_marks2 c4.2)).imp fun σ H Q h => tX_then (QQ := fun _ _ _ _ => False) (Q := fun _ _ => False) h fun v H1 B R1 rv q => q
        · dsimp only at h4
          split at h4
          · obtain ⟨r', h5, h6⟩ := ofO_bx h4
            split at h6
            · cases h6
            · rcases Res.bind_exc h6 with h7 | ⟨⟨w, m3, ρ3⟩, h7, h8⟩
              · obtain ⟨r, hr, hw⟩ := cmp_snd (X := X) (ea := ea) g.hu h5
                refine (pt_chain hr cmp_no (ok_of (h_a g tk c3.2 _) h1) (ok_of (h_b0 g tk c2.2 _) h3) (ex_of (h_z g tk c1.2 _) h7) (noSet_marks2 c4.2)).imp fun σ H Q ⟨B, R, k⟩ => ⟨B, R, fun v H1 R1 f1 rv => ⟨B, R1, fun u H2 R2 f2 ru => ?_⟩⟩
                have ev1 := (rdb_of R1 rv).int
                have eu1 := (rdb_of R2 ru).int
                subst ev1
                subst eu1
                refine hw H2 _ _ _ (.inl (.int _)) (.inl (.int _)) ⟨true, rfl, ?_⟩
                refine iteT ?_
                exact ⟨B, R2, fun cls d H' R' f' xc => k cls d H' R' (f1.trans (f2.trans f')) xc⟩
              · dsimp only at h8
                split at h8
                · obtain ⟨_, _, z⟩ := ofO_bx h8
                  cases z
                · cases h8
          · cases h4
    · cases c
theorem sndT_isN {b : Bool} {a : IE} (h_a : SndV T n hot ea a) : SndT T n hot ea (.isN b a) := by
  intro X e W g tk t c ρ
  simp only [chk] at c
  split at c
  · have c1 := and_and c
    have e1 : b = true := c1.1
    subst e1
    refine mk_RT (fun {b m ρ'} h => ?_) (fun {cc fs ρ'} h => ?_)
    · simp only [ev] at h
      obtain ⟨⟨x, m1, ρ1⟩, h1, h2⟩ := Res.bind_ok h
      cases h2
      refine (pt_cmpR op_isN (ok_of (h_a g tk c1.2 _) h1) pe_non (noSet_marks rfl)).imp fun σ H Q ⟨B, R, k⟩ => ⟨B, R, fun v H1 R1 f1 rv => ⟨rfl, _, rfl, ?_⟩⟩
      rw [isNon_of (rdb_of R1 rv)]
      exact k H1 R1 f1
    · simp only [ev] at h
      rcases Res.bind_exc h with h1 | ⟨⟨x, m1, ρ1⟩, h1, h2⟩
      · exact (pt_cmpR cmp_no (ex_of (h_a g tk c1.2 _) h1) pe_no (noSet_marks rfl)).imp fun σ H Q h => h
      · cases h2
  · have c1 := and_and c
    have e1 : b = false := by simpa using c1.1
    subst e1
    refine mk_RT (fun {b m ρ'} h => ?_) (fun {cc fs ρ'} h => ?_)
    · simp only [ev] at h
      obtain ⟨⟨x, m1, ρ1⟩, h1, h2⟩ := Res.bind_ok h
      cases h2
      refine (pt_cmpR op_notN (ok_of (h_a g tk c1.2 _) h1) pe_non (noSet_marks rfl)).imp fun σ H Q ⟨B, R, k⟩ => ⟨B, R, fun v H1 R1 f1 rv => ⟨rfl, _, rfl, ?_⟩⟩
      rw [isNon_of (rdb_of R1 rv)]
      exact k H1 R1 f1
    · simp only [ev] at h
      rcases Res.bind_exc h with h1 | ⟨⟨x, m1, ρ1⟩, h1, h2⟩
      · exact (pt_cmpR cmp_no (ex_of (h_a g tk c1.2 _) h1) pe_no (noSet_marks rfl)).imp fun σ H Q h => h
      · cases h2
  · cases c
theorem snds_nil : SndVs T n hot ea .nil := by
  intro X l W g tk c ρ
  simp only [chks] at c
  split at c
  · simp only [evs]
    exact pa_nil.imp fun σ H Q ⟨B, R, k⟩ => k _ H R (FrzLe.refl H) .nil
  · cases c
theorem snds_cons {e : IE} {es : IEs} (h_e : SndV T n hot ea e) (h_es : SndVs T n hot ea es) : SndVs T n hot ea (.cons e es) := by
  intro X l W g tk c ρ
  simp only [chks] at c
  split at c
  · have c1 := and_and c
    have c2 := and_and c1.1
    simp only [evs]
    refine mk_A (fun {ds ρ'} h => ?_) (fun {cc fs ρ'} h => ?_)
    · obtain ⟨⟨x, m1, ρ1⟩, h1, h2⟩ := Res.bind_ok h
      obtain ⟨⟨ys, ρ2⟩, h3, h4⟩ := Res.bind_ok h2
      cases h4
      refine (pa_cons (pe_keep (ok_of (h_e g tk c2.2 _) h1)) (okA_of (h_es g tk c1.2 _) h3) (star_cons c2.1)).imp fun σ H Q ⟨B, R, k⟩ => ⟨B, R, fun v H1 R1 f1 rv => ⟨B, R1, fun vs H2 R2 f2 l => ?_⟩⟩
      exact k _ H2 R2 (f1.trans f2) (.cons (Is.mono f2 rv) l)
    · rcases Res.bind_exc h with h1 | ⟨⟨x, m1, ρ1⟩, h1, h2⟩
      · exact (pa_cons (ex_of (h_e g tk c2.2 _) h1) pa_no (star_cons c2.1)).imp fun σ H Q h => h
      · rcases Res.bind_exc h2 with h3 | ⟨⟨ys, ρ2⟩, h3, h4⟩
        · exact (pa_cons (pe_keep (ok_of (h_e g tk c2.2 _) h1)) (exA_of (h_es g tk c1.2 _) h3) (star_cons c2.1)).imp fun σ H Q ⟨B, R, k⟩ => ⟨B, R, fun v H1 R1 f1 rv => ⟨B, R1, fun cls d H' R' f' xc => k cls d H' R' (f1.trans f') xc⟩⟩
        · cases h4
  · cases c
theorem sndK_nil : SndK T n hot ea .nil := by
  intro X kws W g tk c ρ
  cases kws with
  | nil =>
    simp only [evs]
    exact ⟨fun pos pins s σ H Q I ⟨B, R, k⟩ => pk_nil.run pos pins s σ H Q I (k _ H R (FrzLe.refl H) .nil)⟩
  | cons k r => simp [chks] at c
theorem sndK_cons {e : IE} {es : IEs} (h_e : SndV T n hot ea e) (k_es : SndK T n hot ea es) : SndK T n hot ea (.cons e es) := by
  intro X kws W g tk c ρ
  cases kws with
  | nil => simp [chks] at c
  | cons k r =>
    obtain ⟨nm, e', kp⟩ := k
    have c0 : (noStar e' && chk X.N hot X.env.scope e e' && chks X.N hot X.env.scope es (r.map (·.value))) = true := by
      have := c
      simp only [List.map_cons, chks] at this
      exact this
    have c1 := and_and c0
    have c2 := and_and c1.1
    simp only [evs]
    refine ⟨fun pos pins s σ H Q I ⟨B, R, w⟩ => ?_⟩
    cases h1 : ev T e ρ with
    | stuck => rw [h1] at w; exact (show False from w).elim
    | exc cc fs ρ1 =>
      rw [h1] at w
      exact (pk_cons (kpos := kp) (nm := nm) (ex_of (h_e g tk c2.2 _) h1) (kws := r) (pk_no)).run pos pins s σ H Q I ⟨B, R, w⟩
    | ok a =>
      obtain ⟨x, m1, ρ1⟩ := a
      rw [h1] at w
      refine (pk_cons (kpos := kp) (nm := nm) (pe_keep (ok_of (h_e g tk c2.2 _) h1)) (k_es g tk c1.2 (keep m1 ρ1 x))).run pos pins s σ H Q I ⟨B, R, fun v H1 R1 f1 rv => ⟨B, R1, ?_⟩⟩
      have w' : wantA (X.km ea) W B σ H Q ((evs T es (keep m1 ρ1 x)).bind fun (ds, ρ2) => .ok (x :: ds, ρ2)) := w
      cases h3 : evs T es (keep m1 ρ1 x) with
      | stuck => rw [h3] at w'; exact w'
      | exc cc fs ρ2 =>
        rw [h3] at w'
        exact fun cls d H' R' f' xc => w' cls d H' R' (f1.trans f') xc
      | ok a =>
        rw [h3] at w'
        exact fun vs H2 R2 f2 l => w' _ H2 R2 (f1.trans f2) (.cons (Is.mono f2 rv) l)
theorem sndF_nil : SndF T n hot ea .nil := by
  intro X l W g tk c
  simp only [chkF] at c
  split at c
  · refine ⟨[], .nil, fun acc ρ B σ H Q R w => ?_⟩
    simp only [evF] at w
    exact w H R (FrzLe.refl H)
  · cases c
theorem sndF_cons {e : IE} {es : IEs} (h_e : SndV T n hot ea e) (f_es : SndF T n hot ea es) : SndF T n hot ea (.cons e es) := by
  intro X l W g tk c
  simp only [chkF] at c
  split at c
  · rename_i x0 p0 r0
    have c1 := and_and c
    obtain ⟨ts, t1, t2⟩ := f_es g tk c1.2
    refine ⟨_, .cons (pe_fmt (pe_UR fun ρ => h_e g tk c1.1 ρ)) t1, fun acc ρ B σ H Q R w => ?_⟩
    simp only [evF] at w
    exact fmt_step R w fun acc' ρ1 H1 R1 w1 => t2 acc' ρ1 B σ H1 Q R1 w1
  · rename_i z k0 p0 r0
    have c1 := and_and c
    have ee := isS_of c1.1
    subst ee
    obtain ⟨ts, t1, t2⟩ := f_es g tk c1.2
    refine ⟨_, .cons pe_str t1, fun acc ρ B σ H Q R w => ?_⟩
    simp only [evF, ev] at w
    have w' : wantF (X.km ea) W B σ H Q ((ofO (fmtD acc (.str z))).bind fun acc' => evF T es acc' ρ) := w
    cases q : fmtD acc (.str z) with
    | none => rw [q] at w'; exact (show False from w').elim
    | some acc' =>
      rw [q] at w'
      obtain ⟨q1, q2, q3⟩ := fmt_str q
      subst q1
      exact ⟨z, rfl, q2, t2 _ ρ B σ H Q R w'⟩
  · cases c
theorem sndG_nil : SndG T n hot ea .nil := by
  intro X l W g tk c io ρ
  simp only [chks] at c
  split at c
  · simp only [evArgs]
    exact pa_nil.imp fun σ H Q ⟨B, R, k⟩ => k _ H R (FrzLe.refl H) trivial
  · cases c
theorem sndG_cons {e : IE} {es : IEs} (h_e : SndV T n hot ea e) (g_es : SndG T n hot ea es) : SndG T n hot ea (.cons e es) := by
  intro X l W g tk c io ρ
  refine mk_G (fun {gt ρ'} h => ?_) (fun {cc fs ρ'} h => ?_)
  · simp only [chks] at c
    split at c
    · have c1 := and_and c
      have c2 := and_and c1.1
      cases io with
      | nil => simp only [evArgs] at h; cases h
      | cons b io =>
        cases b with
        | false =>
          simp only [evArgs] at h
          obtain ⟨⟨x, m1, ρ1⟩, h1, h2⟩ := Res.bind_ok h
          obtain ⟨⟨ys, ρ2⟩, h3, h4⟩ := Res.bind_ok h2
          cases h4
          refine (pa_cons (pe_keep (ok_of (h_e g tk c2.2 _) h1)) (okG_of (g_es g tk c1.2 _ _) h3) (star_cons c2.1)).imp fun σ H Q ⟨B, R, k⟩ => ⟨B, R, fun v H1 R1 f1 rv => ⟨B, R1, fun vs H2 R2 f2 l => ?_⟩⟩
          exact k _ H2 R2 (f1.trans f2) ⟨Is.mono f2 rv, l⟩
        | true =>
          simp only [evArgs] at h
          split at h
          · rename_i i hi
            split at h
            · rename_i dd hd
              obtain ⟨⟨ys, ρ2⟩, h3, h4⟩ := Res.bind_ok h
              cases h4
              have ee : e = .var i := by
                cases e <;> first | (cases hi; rfl) | cases hi
              subst ee
              have hv : ev T (.var i) ρ = .ok (dd, .brw i, ρ) := by
                simp only [ev]
                rw [hd]
              refine (pa_cons (ok_of (snd_var g tk c2.2 _) hv) (okG_of (g_es g tk c1.2 _ _) h3) (star_cons c2.1)).imp fun σ H Q ⟨B, R, k⟩ => ⟨B, R, fun v H1 R1 f1 rv => ⟨B, R1, fun vs H2 R2 f2 l => ?_⟩⟩
              exact k _ H2 R2 (f1.trans f2) ⟨rv.1, l⟩
            · cases h
          · obtain ⟨⟨x, m1, ρ1⟩, h1, h2⟩ := Res.bind_ok h
            dsimp only at h2
            split at h2
            · obtain ⟨⟨ys, ρ2⟩, h3, h4⟩ := Res.bind_ok h2
              cases h4
              refine (pa_cons (ok_of (h_e g tk c2.2 _) h1) (okG_of (g_es g tk c1.2 _ _) h3) (star_cons c2.1)).imp fun σ H Q ⟨B, R, k⟩ => ⟨B, R, fun v H1 R1 f1 rv => ?_⟩
              obtain ⟨p, rfl, ⟨vs0, ds0, rfl, e0, l0⟩, bp, ns⟩ := rv
              have R1' : REnv (X.km ea) (upd B p (.lst vs0)) σ H1 ρ1 := ⟨fun a o hh => by
                  by_cases z : a = p
                  · subst z; rw [upd_same] at hh; cases hh; exact e0
                  · rw [upd_ne z] at hh; exact R1.base a o hh, R1.len, R1.val, fun i d' hh => by
                  obtain ⟨q, q1, q2, q3⟩ := R1.own i d' hh
                  exact ⟨q, q1, by rw [upd_ne (fun z => ns i d' hh (by rw [← z]; exact q1))]; exact q2, q3⟩, R1.sep, R1.exn⟩
              refine ⟨_, R1', fun vs H2 R2 f2 l => ?_⟩
              have le : ∀ a o, B a = some o → upd B p (.lst vs0) a = some o := fun a o hh => by
                rw [upd_ne (fun z => by subst z; rw [bp] at hh; cases hh)]; exact hh
              have le' : ∀ a, upd B p (.lst vs0) a = none → B a = none := fun a hh => by
                cases q : B a with
                | none => rfl
                | some o => rw [le a o q] at hh; cases hh
              refine k _ H2 (R2.weak le) (f1.trans f2) ⟨⟨p, rfl, ⟨vs0, ds0, rfl, R2.base p _ upd_same, l0.mono f2⟩, bp, fun i e' hh z => ?_, fun z => ?_⟩, gotR.weak le' l⟩
              · obtain ⟨q, q1, q2, _⟩ := R2.own i e' hh
                rw [z] at q1
                cases q1
                rw [upd_same] at q2
                cases q2
              · have := (tmp_props l z).1
                rw [upd_same] at this
                cases this
            · cases h2
    · cases c
  · simp only [chks] at c
    split at c
    · have c1 := and_and c
      have c2 := and_and c1.1
      cases io with
      | nil => simp only [evArgs] at h; cases h
      | cons b io =>
        cases b with
        | false =>
          simp only [evArgs] at h
          rcases Res.bind_exc h with h1 | ⟨⟨x, m1, ρ1⟩, h1, h2⟩
          · exact (pa_cons (ex_of (h_e g tk c2.2 _) h1) pa_no (star_cons c2.1)).imp fun σ H Q h => h
          · rcases Res.bind_exc h2 with h3 | ⟨⟨ys, ρ2⟩, h3, h4⟩
            · exact (pa_cons (pe_keep (ok_of (h_e g tk c2.2 _) h1)) (exG_of (g_es g tk c1.2 _ _) h3) (star_cons c2.1)).imp fun σ H Q ⟨B, R, k⟩ => ⟨B, R, fun v H1 R1 f1 rv => ⟨B, R1, fun cls d H' R' f' xc => k cls d H' R' (f1.trans f') xc⟩⟩
            · cases h4
        | true =>
          simp only [evArgs] at h
          split at h
          · rename_i i hi
            split at h
            · rename_i dd hd
              have ee : e = .var i := by
                cases e <;> first | (cases hi; rfl) | cases hi
              subst ee
              have hv : ev T (.var i) ρ = .ok (dd, .brw i, ρ) := by
                simp only [ev]
                rw [hd]
              rcases Res.bind_exc h with h3 | ⟨⟨ys, ρ2⟩, h3, h4⟩
              · exact (pa_cons (ok_of (snd_var g tk c2.2 _) hv) (exG_of (g_es g tk c1.2 _ _) h3) (star_cons c2.1)).imp fun σ H Q ⟨B, R, k⟩ => ⟨B, R, fun v H1 R1 f1 rv => ⟨B, R1, fun cls d H' R' f' xc => k cls d H' R' (f1.trans f') xc⟩⟩
              · cases h4
            · cases h
          · rcases Res.bind_exc h with h1 | ⟨⟨x, m1, ρ1⟩, h1, h2⟩
            · exact (pa_cons (ex_of (h_e g tk c2.2 _) h1) pa_no (star_cons c2.1)).imp fun σ H Q h => h
            · dsimp only at h2
              split at h2
              · rcases Res.bind_exc h2 with h3 | ⟨⟨ys, ρ2⟩, h3, h4⟩
                · exact (pa_cons (ok_of (h_e g tk c2.2 _) h1) (exG_of (g_es g tk c1.2 _ _) h3) (star_cons c2.1)).imp fun σ H Q ⟨B, R, k⟩ => ⟨B, R, fun v H1 R1 f1 rv => ⟨B, R1, fun cls d H' R' f' xc => k cls d H' R' (f1.trans f') xc⟩⟩
                · cases h4
              · cases h2
    · cases c
end
end Ev
set_option Elab.async false
set_option linter.all false
set_option maxRecDepth 100000
set_option maxHeartbeats 8000000
namespace Ev
open PySem PySem.Spec PyProof.Rows L2
section
variable {T : Tab} {n : Nat} {hot : Bool} {ea : Option EA}
theorem tR_mono {K : KM} {W : WX} {ρ : DEnv} {r : Res (Dat × Mode × DEnv)} (σ : L2.St) (H : Hp) (R R' : VK) (h : ∀ v H1, R v H1 → R' v H1) (q : tR K W ρ r σ H R) : tR K W ρ r σ H R' := by
  obtain ⟨B, RR, w⟩ := q
  refine ⟨B, RR, ?_⟩
  cases r with
  | ok a => exact fun v H' R' f l => h _ _ (w v H' R' f l)
  | exc c fs ρ => exact w
  | stuck => exact w
theorem snd_pr {p : P1} {a : IE} (h_a : SndV T n hot ea a) : SndV T n hot ea (.pr p a) := by
  intro X e W g tk c ρ
  simp only [chk] at c
  split at c
  · rename_i x0 ha
    simp only [ev]
    split
    · exact pe_stuck
    · rename_i hk
      refine (pr1_form g (by simpa using hk) ha (h_a g tk c ρ) tR_mono).imp fun σ H Q ⟨B, R, w⟩ => ⟨B, R, ?_⟩
      cases q : ev T a ρ with
      | stuck => rw [q] at w; exact w
      | exc cc fs ρ1 => rw [q] at w; exact w
      | ok z =>
        obtain ⟨x, m, ρ1⟩ := z
        rw [q] at w
        intro v H1 R1 f1 rv
        have w' : wantC (X.km ea) W B σ H Q ((ofO (pr1D T p x)).bind fun (d, k) => .ok (d, k, ρ1)) := w
        cases q2 : pr1D T p x with
        | none => rw [q2] at w'; exact (show False from w').elim
        | some dk =>
          obtain ⟨d, k⟩ := dk
          rw [q2] at w'
          exact ⟨B, ρ1, x, d, k, R1, rdb_of R1 rv, q2, Want.step f1 w'⟩
  · cases c
theorem snd_mk {c0 : Str} {as : IEs} (h_as : SndVs T n hot ea as) : SndV T n hot ea (.mk c0 as) := by
  intro X e W g tk c ρ
  simp only [chk] at c
  split at c
  · rename_i g0 p1 x l p2
    have c1 := and_and c
    have c2 := and_and c1.1
    have c3 := and_and c2.1
    have c4 := not_hot c3.1
    have e1 := of_decide_eq_true c4.2
    subst e1
    have e0 := g.ea0 c4.1
    subst e0
    have hes := h_as g tk c1.2 ρ
    have hn := chks_star c1.2
    have ns1 : starEach (x :: l) X.env = (false, eval x X.env) :: starEach l X.env := star_cons (hn x List.mem_cons_self)
    have ns2 : (backTo p2 (starEach l X.env)).any (·.1) = false := star_none fun e he => hn e (List.mem_cons_of_mem _ he)
    simp only [ev]
    split
    · exact pe_stuck
    · rename_i fs hf
      cases fs with
      | nil =>
        obtain ⟨C, m1, F⟩ := g.mod.rse c0 hf
        obtain ⟨Bn, ni, ii, bm, F1, F2⟩ := F.ex
        refine (pe_made (pmk_ownA (p := p1) F1 F2 m1 F.kp (raises_own F.sb F.ty) (glo_of c3.2) hes (odd1 c2.2) ns1 ns2)).imp fun σ H Q ⟨B, R, w⟩ => ⟨B, R, ?_⟩
        cases q : evs T as ρ with
        | stuck => rw [q] at w; exact w
        | exc cc fs ρ1 => rw [q] at w; exact w
        | ok z =>
          obtain ⟨ds, ρ1⟩ := z
          rw [q] at w
          intro vs H1 R1 f1 lv
          have w' : wantC (X.km none) W B σ H Q ((ofO (if ds.length = 1 then some (Dat.obj c0 []) else none)).bind fun d => .ok (d, .frz, ρ1)) := w
          split at w'
          · rename_i hl
            refine ⟨by rw [lv.length, hl, sizeLine_eq]; decide, fun a o ws ha h1 h2 h3 => ?_⟩
            exact mk_obj0 R1 m1 (Want.step f1 w') a o ws _ ha h1 h2 h3
          · exact (show False from w').elim
      | cons f fs =>
        obtain ⟨C, k, ok, kw, hkn, hm, M, hok, _⟩ := g.mod.rsf c0 f fs hf
        refine (pe_made (pmk_xF (p := p1) tRA_mono M ((g.room c4.1).mono hkn) g.grd (glo_of c3.2) hm hes (odd1 c2.2) ns1 ns2)).imp fun σ H Q ⟨B, R, w⟩ => ⟨B, R, ?_⟩
        cases q : evs T as ρ with
        | stuck => rw [q] at w; exact w
        | exc cc fs ρ1 => rw [q] at w; exact w
        | ok z =>
          obtain ⟨ds, ρ1⟩ := z
          rw [q] at w
          intro vs H1 R1 f1 lv
          have w' : wantC (X.km none) W B σ H Q ((ofO (if ds.length = fs.length + 1 ∧ T.takes c0 ds = true then some (Dat.obj c0 (((f :: fs).zip ds).reverse)) else none)).bind fun d => .ok (d, .frz, ρ1)) := w
          split at w'
          · rename_i hl
            refine ⟨lv.length.trans hl.1, fun a ha => hok _ vs ds (lv.mono (FrzLe.new ha)) hl.1 hl.2, fun d o hd a ob ws ha h1 h2 h3 => ?_⟩
            exact mk_obj (ns := f :: fs) R1 hm lv hl.1 (Want.step f1 w') d o hd a ob ws _ ha h1 h2 h3
          · exact (show False from w').elim
  · cases c
theorem snd_mkK {c0 : Str} {ks : List Str} {as : IEs} (k_as : SndK T n hot ea as) : SndV T n hot ea (.mkK c0 ks as) := by
  intro X e W g tk c ρ
  simp only [chk] at c
  split at c
  · have c1 := and_and c
    have c2 := and_and c1.1
    have c3 := and_and c2.1
    have c4 := and_and c3.1
    have c5 := not_hot c4.1
    have e1 := of_decide_eq_true c5.2
    subst e1
    have e0 := g.ea0 c5.1
    subst e0
    simp only [ev]
    split
    · rename_i f fs hf
      split
      · rename_i hkw
        obtain ⟨C, k, ok, kw, hkn, hm, M, hok, hin⟩ := g.mod.rsf c0 f fs hf
        refine (pe_made (pmk_xKF tRA_mono M ((g.room c5.1).mono hkn) g.grd (glo_of c4.2) hm (k_as g tk c1.2 ρ) (of_decide_eq_true c2.2) (hin ks hkw) (odd1 c3.2))).imp fun σ H Q ⟨B, R, w⟩ => ⟨B, R, ?_⟩
        cases q : evs T as ρ with
        | stuck => rw [q] at w; exact w
        | exc cc fs ρ1 => rw [q] at w; exact w
        | ok z =>
          obtain ⟨ds, ρ1⟩ := z
          rw [q] at w
          intro zs H1 R1 f1 lv
          have w' : wantC (X.km none) W B σ H Q ((ofO (mkDK T c0 ks (f :: fs) ds)).bind fun d => .ok (d, .frz, ρ1)) := w
          unfold mkDK at w'
          split at w'
          · rename_i hl
            cases q3 : byNames (f :: fs) ks ds with
            | none => rw [q3] at w'; exact (show False from w').elim
            | some es =>
              rw [q3] at w'
              have w2 : wantC (X.km none) W B σ H Q ((ofO (if T.takes c0 es = true then some (Dat.obj c0 (((f :: fs).zip es).reverse)) else none)).bind fun d => .ok (d, .frz, ρ1)) := w'
              split at w2
              · rename_i ht
                obtain ⟨vs, hv1, hv2⟩ := byN_rel lv q3
                have hel := byN_len q3
                refine ⟨lv.length.trans hl.1, vs, hv1, hv2.length.trans hel, fun a ha => hok _ vs es (hv2.mono (FrzLe.new ha)) hel ht, fun d o hd a ob ws ha h1 h2 h3 => ?_⟩
                exact mk_obj (ns := f :: fs) R1 hm hv2 hel (Want.step f1 w2) d o hd a ob ws _ ha h1 h2 h3
              · exact (show False from w2).elim
          · exact (show False from w').elim
      · exact pe_stuck
    · exact pe_stuck
  · cases c
theorem tgs_mem {scope : Scope} {own : List (Str × Nat)} : ∀ {tgs : List Nat} {l : List Expr}, tgsC scope own tgs l = true → ∀ i ∈ tgs, i ∈ own.map (·.2)
  | [], [], _, i, h => nomatch h
  | [], _ :: _, h, _, _ => nomatch h
  | _ :: _, [], h, _, _ => nomatch h
  | i :: is, e :: l, h, j, hj => by
    cases e with
    | Name x p =>
      have h1 := and_and (show (decide ((x, i) ∈ own) && locC scope x && tgsC scope own is l) = true from h)
      have h2 := and_and h1.1
      rcases List.mem_cons.mp hj with rfl | hj
      · exact own_in (of_decide_eq_true h2.1)
      · exact tgs_mem h1.2 j hj
    | _ => exact nomatch h
theorem snd_lcT {elt : IE} {tgs : List Nat} {it : IE} {own : List (Str × Nat)} (h_elt : SndV T n hot ea elt) (h_it : SndV T n hot ea it) : SndV T n hot ea (.lcT elt tgs it own) := by
  intro X e W g tk c ρ
  have c0 := c
  simp only [chk] at c0
  split at c0
  · rename_i y0 l k0 p0 i0 scope p1
    have c1 := and_and c0
    have c2 := and_and c1.1
    have c3 := and_and c2.1
    have c4 := and_and c3.1
    have c5 := and_and c4.1
    have c6 := not_hot c5.1
    obtain ⟨L, fm⟩ := g.frm
    have ok := blkOk_by c5.2
    have pe' : ∀ (σ : L2.St) (s : Shared) (H : Hp) (C : Addr) (cl : List (Str × Addr)) (fp : List Addr) (xe : Value → Shared → Prop), TakesF (X.blkX s H scope (compEnvC scope cl C X.env) fp xe) (wIn W σ) → PE (X.blkX s H scope (compEnvC scope cl C X.env) fp xe) y0 (tUK (X.km ea) (wIn W σ) T elt) := fun σ s H C cl fp xe tk' => pe_UK (X := X.blkX s H scope (compEnvC scope cl C X.env) fp xe) fun ρ' => keep_of (X := X.blkX s H scope (compEnvC scope cl C X.env) fp xe) (h_elt (g.blk c6.1 s H scope cl C fp xe) tk' c1.2 ρ')
    have pg : ∀ (s : Shared) (H : Hp) (C : Addr) (cl : List (Str × Addr)) (fp : List Addr) (xe : Value → Shared → Prop), PG (X.blkX s H scope (compEnvC scope cl C X.env) fp xe) (.Tuple l k0 p0) (gTup X.K tgs.length (gAll tgs)) := fun s H C cl fp xe => by
      obtain ⟨i1, i2, i3, i4⟩ := pgs_tgs g.nd ok (s := s) (H := H) (C := C) (cl := cl) (fp := fp) (xe := xe) c4.2
      exact pg_tup (X := X.blkX s H scope (compEnvC scope cl C X.env) fp xe) ((g.blk c6.1 s H scope cl C fp xe).calm c6.1) i1 i2 i3
    have hm : ∀ i ∈ tgs, i ∈ own.map (·.2) := tgs_mem c4.2
    have z := lc_mkT (ea := ea) (own := own) (one := oneTup (ev T elt) tgs (own.map (·.2))) (tt := fun _ => tYes) (te := fun σ => tUK (X.km ea) (wIn W σ) T elt) c5.2 c6.2 pg (keep_of (h_it g tk c2.2 ρ)) (fun σ => step_lcT hm) (fun σ s H C cl fp xe tk' => pts_nil) pe'
    simp only [ev]
    exact pe_lcP (g.calm c6.1) g.nd tk fm z
  · cases c0
end
end Ev
set_option Elab.async false
set_option linter.all false
set_option maxRecDepth 100000
set_option maxHeartbeats 8000000
namespace Ev
open PySem PySem.Spec PyProof.Rows L2
section
variable {T : Tab} {n : Nat} {hot : Bool} {ea : Option EA}
theorem argP_t {sc : Scope} {p : P1} {e x : Expr} (h : argP sc p e = some x) : plainT e = true := by
  unfold argP at h
  split at h <;> first | rfl | cases h
mutual
theorem sndB : ∀ ie : IE, SndV T n hot ea ie ∧ SndT T n hot ea ie
  | .var i => ⟨snd_var , fun {X e W} g tk t c ρ => pt_R (snd_var  g tk c ρ) (by simp only [chk] at c; split at c <;> first | rfl | cases c)⟩
  | .cst d0 => ⟨snd_cst , fun {X e W} g tk t c ρ => nomatch t⟩
  | .glb x => ⟨snd_glb , fun {X e W} g tk t c ρ => pt_R (snd_glb  g tk c ρ) (by simp only [chk] at c; split at c <;> first | rfl | cases c)⟩
  | .tup es => ⟨snd_tup (sndBs es).1, fun {X e W} g tk t c ρ => nomatch t⟩
  | .lst es => ⟨snd_lst (sndBs es).1, fun {X e W} g tk t c ρ => nomatch t⟩
  | .dic0 => ⟨snd_dic0 , fun {X e W} g tk t c ρ => nomatch t⟩
  | .dic1 k v => ⟨snd_dic1 (sndB k).1 (sndB v).1, fun {X e W} g tk t c ρ => nomatch t⟩
  | .bin op a b => ⟨snd_bin (sndB a).1 (sndB b).1, fun {X e W} g tk t c ρ => nomatch t⟩
  | .neg a => ⟨snd_neg (sndB a).1, fun {X e W} g tk t c ρ => nomatch t⟩
  | .not a => ⟨snd_not (sndB a).1, sndT_not (sndB a).2⟩
  | .and a b => ⟨snd_and (sndB a).1 (sndB b).1, sndT_and (sndB a).2 (sndB b).2⟩
  | .or a b => ⟨snd_or (sndB a).1 (sndB b).1, sndT_or (sndB a).2 (sndB b).2⟩
  | .cmp op a b => ⟨snd_cmp (sndB a).1 (sndB b).1, sndT_cmp (sndB a).1 (sndB b).1⟩
  | .cmp2 o p a b z => ⟨snd_cmp2 (sndB a).1 (sndB b).1 (sndB z).1, sndT_cmp2 (sndB a).1 (sndB b).1 (sndB z).1⟩
  | .ite z a b => ⟨snd_ite (sndB z).2 (sndB a).1 (sndB b).1, fun {X e W} g tk t c ρ => nomatch t⟩
  | .idx a b => ⟨snd_idx (sndB a).1 (sndB b).1, fun {X e W} g tk t c ρ => pt_R (snd_idx (sndB a).1 (sndB b).1 g tk c ρ) (by simp only [chk] at c; split at c <;> first | rfl | cases c)⟩
  | .slcL a b => ⟨snd_slcL (sndB a).1 (sndB b).1, fun {X e W} g tk t c ρ => nomatch t⟩
  | .slcR a b => ⟨snd_slcR (sndB a).1 (sndB b).1, fun {X e W} g tk t c ρ => nomatch t⟩
  | .call f as => ⟨snd_call (sndBs as).2.1, fun {X e W} g tk t c ρ => pt_R (snd_call (sndBs as).2.1 g tk c ρ) (by simp only [chk] at c; split at c <;> first | rfl | cases c)⟩
  | .isi a ty => ⟨snd_isi (sndB a).1, fun {X e W} g tk t c ρ => pt_R (snd_isi (sndB a).1 g tk c ρ) (by simp only [chk] at c; split at c <;> first | rfl | cases c)⟩
  | .join o a => ⟨snd_join (sndB o).1 (sndB a).1, fun {X e W} g tk t c ρ => nomatch t⟩
  | .upper o => ⟨snd_upper (sndB o).1, fun {X e W} g tk t c ρ => nomatch t⟩
  | .lc elt tg it own => ⟨snd_lc (sndB elt).1 (sndB it).1, fun {X e W} g tk t c ρ => nomatch t⟩
  | .lcI elt tg it cond own => ⟨snd_lcI (sndB elt).1 (sndB it).1 (sndB cond).2, fun {X e W} g tk t c ρ => nomatch t⟩
  | .lcR elt tg a own => ⟨snd_lcR (sndB elt).1 (sndB a).1, fun {X e W} g tk t c ρ => nomatch t⟩
  | .split o a => ⟨snd_split (sndB o).1 (sndB a).1, fun {X e W} g tk t c ρ => nomatch t⟩
  | .fst es => ⟨snd_fst (sndBs es).2.2.2, fun {X e W} g tk t c ρ => nomatch t⟩
  | .isN b a => ⟨snd_isN (sndB a).1, sndT_isN (sndB a).1⟩
  | .isE i cs => ⟨snd_isE , fun {X e W} g tk t c ρ => pt_R (snd_isE  g tk c ρ) (by simp only [chk] at c; split at c <;> first | rfl | cases c)⟩
  | .fldE i f => ⟨snd_fldE , fun {X e W} g tk t c ρ => nomatch t⟩
  | .callK f ks as => ⟨snd_callK (sndBs as).2.2.1, fun {X e W} g tk t c ρ => pt_R (snd_callK (sndBs as).2.2.1 g tk c ρ) (by simp only [chk] at c; split at c <;> first | rfl | cases c)⟩
  | .mk c0 as => ⟨snd_mk (sndBs as).1, fun {X e W} g tk t c ρ => nomatch t⟩
  | .mkK c0 ks as => ⟨snd_mkK (sndBs as).2.2.1, fun {X e W} g tk t c ρ => nomatch t⟩
  | .pr p a => ⟨snd_pr (sndB a).1, fun {X e W} g tk t c ρ => pt_R (snd_pr (sndB a).1 g tk c ρ) (by simp only [chk] at c; split at c <;> first | exact argP_t (by assumption) | cases c)⟩
  | .lcT elt tgs it own => ⟨snd_lcT (sndB elt).1 (sndB it).1, fun {X e W} g tk t c ρ => nomatch t⟩
  | .bi b (.nil) => ⟨snd_bi (fun _ _ z => by cases z) (fun _ _ _ z => by cases z), fun {X e W} g tk t c ρ => pt_R (snd_bi (fun _ _ z => by cases z) (fun _ _ _ z => by cases z) g tk c ρ) (by simp only [chk] at c; split at c <;> first | rfl | cases c)⟩
  | .bi b (.cons a .nil) => ⟨snd_bi (fun _ _ z => by cases z; exact (sndB a).1) (fun _ _ _ z => by cases z), fun {X e W} g tk t c ρ => pt_R (snd_bi (fun _ _ z => by cases z; exact (sndB a).1) (fun _ _ _ z => by cases z) g tk c ρ) (by simp only [chk] at c; split at c <;> first | rfl | cases c)⟩
  | .bi b (.cons a (.cons b2 r)) => ⟨snd_bi (fun _ _ z => by cases z; exact (sndB a).1) (fun _ _ _ z => by cases z; exact (sndB b2).1), fun {X e W} g tk t c ρ => pt_R (snd_bi (fun _ _ z => by cases z; exact (sndB a).1) (fun _ _ _ z => by cases z; exact (sndB b2).1) g tk c ρ) (by simp only [chk] at c; split at c <;> first | rfl | cases c)⟩
theorem sndBs : ∀ es : IEs, SndVs T n hot ea es ∧ SndG T n hot ea es ∧ SndK T n hot ea es ∧ SndF T n hot ea es
  | .nil => ⟨snds_nil, sndG_nil, sndK_nil, sndF_nil⟩
  | .cons e es => ⟨snds_cons (sndB e).1 (sndBs es).1, sndG_cons (sndB e).1 (sndBs es).2.1, sndK_cons (sndB e).1 (sndBs es).2.2.1, sndF_cons (sndB e).1 (sndBs es).2.2.2⟩
end
theorem sndR (ie : IE) : SndV T n hot ea ie := (sndB ie).1
theorem sndTR (ie : IE) : SndT T n hot ea ie := (sndB ie).2
theorem sndsR (es : IEs) : SndVs T n hot ea es := (sndBs es).1
end
end Ev
set_option Elab.async false
set_option linter.all false
set_option maxRecDepth 100000
set_option maxHeartbeats 4000000
/-! name, *rest = a list -/
namespace Ev
open PySem PySem.Spec PyProof.Rows L2
theorem walks_shift {prog : Program} {w : World} {A : Around} {I : Addr} {fp wr : List Addr} {n : Nat} {P : Nat → Value → Prop} {St : Nat → Heap → Prop} (W : Walks prog w A I fp wr (n + 1) P St) : Walks prog w A I fp wr n (fun i => P (i + 1)) (fun i => St (i + 1)) where
  sub := W.sub
  frame := fun i h h' st hk => W.frame (i + 1) h h' st hk
  item := fun i s Q E hi st hQ => W.item (i + 1) s Q E (by omega) st hQ
  done := fun s Q E st hQ => W.done s Q E st hQ
  self := fun i s Q E st hQ => W.self (i + 1) s Q E st hQ
theorem items_are {acc : Array Value} {us : List Value} {u : Value} (h : ItemsOf (fun i v => ((u :: us).toArray)[i + 1]? = some v) acc us.length) : acc.toList = us := by
  apply List.ext_getElem?
  intro j
  have hs := h.1
  by_cases hj : j < us.length
  · have hj' : j < acc.size := by omega
    have e := h.2 j acc[j] (by simp [hj'])
    have e2 : us[j]? = some acc[j] := by simpa using e
    rw [e2]
    simp [hj']
  · rw [List.getElem?_eq_none (by simp; omega), List.getElem?_eq_none (by omega)]
section
variable {prog : Program} {w : World} {A : Around} {E : Value → Shared → Prop} {s : Shared}
theorem unpack_star {l : Addr} {u : Value} {us : List Value} {Q : List Value → Shared → Prop} (hh : A.handled = none) (hl : s.heap.IsList l (u :: us).toArray) (hz : us.length ≤ sizeLine) (hb : AllBare s.gens)
    (hQ : ∀ s' : Shared, (∀ b o, s.heap.get? b = some o → s'.heap.get? b = some o) → s'.os = s.os → s'.gens = s.gens → s'.drawn = s.drawn → Q [u, .ref s'.heap.objs.size] { s' with heap := s'.heap.push { cls := .type "list", data := .seq us.toArray } }) :
    wpAny (model prog w) A (unpackItems (.ref l) 2 (some 1)) Q E s := by
  have hlt : l ≠ s.heap.objs.size := by obtain ⟨o, ho, _⟩ := hl; exact Nat.ne_of_lt (Heap.lt_size ho)
  unfold unpackItems
  refine wpAny_bind ?_
  unfold notIterableAtAll
  refine wpAny_bind (wpAny_specialOf hl.typeIs slot_list_iter.lookup ?_)
  refine wpAny_pure ?_
  simp only [Bool.false_eq_true, if_false]
  refine wpAny_bind (wpAny_holding (wpAny_pyIter_list hl ?_))
  refine wpAny_bind (wpAny_holding (PySem.W.kun_draw hlt 1 0 _ _ ⟨_, Heap.get?_push_size _ rfl, rfl, rfl⟩ (hl.push _) (by simp) fun h1 hit1 hs1 => ?_))
  have e1 : List.take 1 (List.drop 0 (u :: us).toArray.toList) = [u] := by simp
  rw [e1]
  rw [if_neg (by simp)]
  have hl1 : h1.IsList l (u :: us).toArray := (hl.push _).extBut hs1.extBut hlt
  have keep1 : ∀ b o, s.heap.get? b = some o → h1.get? b = some o := fun b o e => hs1.extBut b o (Nat.ne_of_lt (Heap.lt_size e)) (Heap.get?_push_of_some _ e)
  have lt1 : s.heap.objs.size < h1.objs.size := by
    have := hs1.1
    rw [this, Heap.size_push]
    exact Nat.lt_succ_self _
  refine wpAny_bind (wpAny_holding ?_)
  have W0 := Walks.list (prog := prog) (w := w) (A := A.in1) hh s.heap.objs.size l hlt (u :: us).toArray
  have hsz : (u :: us).toArray.size = us.length + 1 := by simp
  rw [hsz] at W0
  refine wpAny_collect_iter (T := "list_iterator") (.inr (.inr (.inl rfl))) (walks_shift W0).toS (fun i s' st => ?_) (show _ ∧ _ from ⟨hit1, hl1⟩) (fun b hb => ?_) (by simp) (fun s' acc mv it => ?_) hz
  · obtain ⟨o, e, c, d⟩ := st.1
    exact ⟨o, e, c⟩
  · simp only [List.mem_cons, List.not_mem_nil, or_false] at hb
    rcases hb with rfl | rfl
    · exact lt1
    · obtain ⟨o, ho, _⟩ := hl1
      exact Heap.lt_size ho
  · have ea := items_are it
    rw [ea]
    rw [if_neg (by simp)]
    have e3 : us.take (us.length - (2 - 1 - 1)) = us := by simp
    have e4 : us.drop (us.length - (2 - 1 - 1)) = [] := by simp
    rw [e3, e4]
    refine wpAny_bind (wpAny_newObj_type (wpAny_pure (hQ s' (fun b o e => ?_) mv.os mv.gens mv.drawn)) ?_)
    · refine mv.heap b o (fun z => ?_) (keep1 b o e)
      simp only [List.mem_cons, List.not_mem_nil, or_false] at z
      exact absurd (Heap.lt_size e) (by rw [z]; exact Nat.lt_irrefl _)
    · show us.toArray.size ≤ sizeLine
      simpa using hz
/-- x, *y = the list: y holds a new list -/
def gStar (K : PySem.W.Frag) (i j : Nat) : TG := fun v σ H Q => ∃ a x xs, v = .ref a ∧ SqL K H a (x :: xs) ∧ ∀ p, H p = none → Q ((σ.set i (some x)).set j (some (.ref p))) (upd H p (.lst xs))
theorem pg_star {X : Cx} {x y : Str} {px py ps pos : Pos} {k i j : Nat} (hc : X.calm = true) (h1 : PG X (.Name x px) (gName i)) (h2 : PG X (.Name y py) (gName j)) : PG X (.Tuple [.Name x px, .Starred (.Name y py) ps] k pos) (gStar X.K i j) := by
  refine ⟨fun pins s σ H v u Q I r hw => ?_⟩
  obtain ⟨a, x0, xs, rfl, hq, q⟩ := hw
  cases r
  obtain ⟨its, rv, pl, hz⟩ := I.list hq
  cases rv with
  | @cons _ u0 _ us r0 rs =>
    have hl := rs.length
    rw [PyProof.Rows.assign_Tuple]
    refine wpAny_bind (wpAny_standAt ?_)
    unfold unpack
    refine wpAny_bind (wpAny_holding (unpack_star (I.ok.hd hc) pl.isList (by simp at hz; omega) I.bare fun s' kp os gs dr => ?_))
    have I1 : Inv X pins σ H s' := by
      obtain ⟨hp, g, d, t, o⟩ := s'
      cases os
      cases gs
      cases dr
      exact I.kept (t' := t) kp
    have np : H s'.heap.objs.size = none := I1.hok.fresh (Nat.le_refl _)
    have I2 : Inv X pins σ (upd H s'.heap.objs.size (.lst xs)) { s' with heap := s'.heap.push { cls := .type "list", data := .seq us.toArray } } :=
      I1.laid (t' := s'.toks) (fun b o e => Heap.get?_push_of_some _ e) (Nat.le_refl _) ⟨by simp at hz; omega, us, 0, rs, Heap.get?_push_size _ rfl⟩
    show wpAny _ _ (assignInOrder [assign (.Name x px) X.env, assign (.Name y py) X.env] [u0, .ref s'.heap.objs.size]) _ _ _
    unfold assignInOrder
    refine wpAny_bind (wpAny_holding (thn (h1.run pins _ σ _ x0 u0 (fun σ1 H1 => σ1 = σ.set i (some x0) ∧ H1 = upd H s'.heap.objs.size (.lst xs)) I2 r0 ⟨rfl, rfl⟩) fun _ s3 hh => ?_))
    obtain ⟨σ3, H3, I3, rfl, rfl⟩ := hh
    unfold assignInOrder
    refine wpAny_bind (wpAny_holding (thn (h2.run pins s3 _ _ (.ref s'.heap.objs.size) (.ref s'.heap.objs.size) Q I3 rfl (q _ np)) fun _ s4 hh => ?_))
    unfold assignInOrder
    exact wpAny_pure hh
end
end Ev
set_option Elab.async false
set_option linter.all false
set_option maxRecDepth 100000
set_option maxHeartbeats 4000000
namespace Ev
open PySem PySem.Spec PyProof.Rows L2

/-! ### statements -/
mutual
inductive IS where
  | set (i : Nat) (e : IE)
  | par (is : List Nat) (es : IEs)
  | ret (e : IE)
  | ite (c : IE) (a b : ISs)
  | forV (i : Nat) (it : IE) (body : ISs)
  | forR (i : Nat) (a : IE) (body : ISs)
  | app (i : Nat) (e : IE)
  | unp (is : List Nat) (e : IE)
  | unpS (i j : Nat) (e : IE)
  | rai (c : Str)
  | raiF (c : Str) (es : IEs)
  | tryA (body : ISs) (c : Str) (i : Nat) (suite : ISs)
inductive ISs where
  | nil
  | cons (s : IS) (r : ISs)
end
inductive Out where
  | nx (ρ : DEnv)
  | rt (d : Dat) (new : Bool) (ρ : DEnv)

def store (i : Nat) (d : Dat) (m : Mode) (ρ : DEnv) : DEnv :=
  match m with
  | .frz => ρ.set i (.val d)
  | .fresh => ρ.set i (.own d)
  | .brw j => (ρ.set j (.val d)).set i (.val d)
def loop (one : Dat → DEnv → Res Out) : List Dat → DEnv → Res Out
  | [], ρ => .ok (.nx ρ)
  | x :: r, ρ => (one x ρ).bind fun o => (match o with
    | .nx ρ1 => loop one r ρ1
    | .rt d new ρ1 => .ok (.rt d new ρ1))
/-- behind an except suite its name holds nothing -/
def Slot.tidy : Slot → Slot
  | .exn _ _ => .no
  | s => s
def clean (ρ : DEnv) : DEnv := ρ.map Slot.tidy
def gone (i : Nat) : Res Out → Res Out
  | .ok (.nx ρ) => .ok (.nx (clean (ρ.set i .no)))
  | .ok (.rt d new ρ) => .ok (.rt d new (clean (ρ.set i .no)))
  | .exc _ _ _ => .stuck
  | .stuck => .stuck
def seqs : Dat → Option (List Dat)
  | .lst xs => some xs
  | .tup xs => some xs
  | _ => none
/-- one turn of a loop -/
def turnOf (e : DEnv → Res Out) (i : Nat) : Dat → DEnv → Res Out := fun y ρ' => e (ρ'.set i (.val y))
section
variable (T : Tab) (ios : List Nat)
mutual
def exec : IS → DEnv → Res Out
  | .set i e, ρ => if i ∈ ios then .stuck else (ev T e ρ).bind fun (d, m, ρ1) => .ok (.nx (store i d m ρ1))
  | .par is es, ρ => if is.any (fun i => ios.contains i) then .stuck else (evs T es ρ).bind fun (ds, ρ1) => if ds.length = is.length then .ok (.nx (storeAll is ds ρ1)) else .stuck
  | .ret e, ρ => (ev T e ρ).bind fun (d, m, ρ1) => (match m with
    | .frz => .ok (.rt d false ρ1)
    | .fresh => .ok (.rt d true ρ1)
    | .brw i => if i ∈ ios then .stuck else .ok (.rt d true (ρ1.set i .no)))
  | .ite c a b, ρ => (ev T c ρ).bind fun (x, _, ρ1) => (match x with
    | .bl true => execs a ρ1
    | .bl false => execs b ρ1
    | _ => .stuck)
  | .forV i it body, ρ => if i ∈ ios then .stuck else (ev T it ρ).bind fun (x, m, ρ1) => (ofO (items x)).bind fun xs => loop (turnOf (execs body) i) xs (keep m ρ1 x)
  | .forR i a body, ρ => if i ∈ ios then .stuck else (ev T a ρ).bind fun (x, _, ρ1) => (match x with
    | .int j => if -(2 ^ 62) ≤ j ∧ j < 2 ^ 62 then loop (turnOf (execs body) i) ((List.range j.toNat).map fun (k : Nat) => .int (k : Int)) ρ1 else .stuck
    | _ => .stuck)
  | .app i e, ρ => (match ρ[i]? with
    | some (.own (.lst _)) => (ev T e ρ).bind fun (d, m, ρ1) => (match (keep m ρ1 d)[i]? with
      | some (.own (.lst ds)) => if sm ds.length then .ok (.nx ((keep m ρ1 d).set i (.own (.lst (ds ++ [d]))))) else .stuck
      | _ => .stuck)
    | _ => .stuck)
  | .unp is e, ρ => if is.any (fun i => ios.contains i) then .stuck else (ev T e ρ).bind fun (d, m, ρ1) => (ofO (seqs d)).bind fun ds => if ds.length = is.length then .ok (.nx (storeAll is ds (keep m ρ1 d))) else .stuck
  | .unpS i j e, ρ => if i ∈ ios ∨ j ∈ ios ∨ i = j then .stuck else (ev T e ρ).bind fun (d, m, ρ1) => (match d with
    | .lst (x :: xs) => .ok (.nx (((keep m ρ1 d).set i (.val x)).set j (.own (.lst xs))))
    | _ => .stuck)
  | .rai c, ρ => (match T.exc c with
    | some [] => .exc c [] ρ
    | _ => .stuck)
  | .raiF c es, ρ => (match T.exc c with
    | some (f :: fs) => (evs T es ρ).bind fun (ds, ρ1) => if ds.length = fs.length + 1 ∧ T.takes c ds = true then .exc c (((f :: fs).zip ds).reverse) ρ1 else .stuck
    | _ => .stuck)
  | .tryA body c i suite, ρ => if i ∈ ios then .stuck else (match execs body ρ with
    | .ok o => .ok o
    | .exc c' fs ρ1 => (match T.sub c' c with
      | some true => gone i (execs suite (ρ1.set i (.exn c' fs)))
      | some false => .exc c' fs ρ1
      | none => .stuck)
    | .stuck => .stuck)
def execs : ISs → DEnv → Res Out
  | .nil, ρ => .ok (.nx ρ)
  | .cons s r, ρ => (exec s ρ).bind fun o => (match o with
    | .nx ρ1 => execs r ρ1
    | .rt d new ρ1 => .ok (.rt d new ρ1))
end
end

def isLc : Expr → Bool
  | .ListComp .. => true
  | .SetComp .. => true
  | .DictComp .. => true
  | _ => false
def locB (sc : Scope) (x : Str) : Bool := match sc.names.lookup x with
  | some .local => true
  | some .cell => true
  | _ => false
theorem locB_of {sc : Scope} {x : Str} (h : locB sc x = true) : Loc sc x := by
  unfold locB at h
  split at h
  · exact .inl (by assumption)
  · exact .inr (by assumption)
  · cases h
def parNames (sc : Scope) (ts : List Expr) : List Str := ts.filterMap fun
      | .Name id pos => if sc.names.lookup id == some .local && pos.line == (ts.head?.map (·.pos.line)).getD 0 then some id else none
      | _ => none
/-- the swapped stores of two or three plain names -/
def parB (sc : Scope) (ts vs : List Expr) : Option (List Str) :=
  if (ts.length == 2 || ts.length == 3) && vs.length == ts.length && sc.kind == .function && vs.all noStar then
    if (parNames sc ts).length == ts.length && (parNames sc ts).eraseDups.length == (parNames sc ts).length && !(vs.all (foldedForSure 8)) && !(vs.all (constantsAlone 8)) then some (parNames sc ts) else none
  else none
def isNm (sc : Scope) : Expr → Bool
  | .Name x _ => locB sc x
  | _ => false
/-- a display, or what is handed out as it stands: no swapped stores -/
def isTupE : Expr → Bool
  | .Tuple .. => false
  | .ListComp .. => false
  | .SetComp .. => false
  | .DictComp .. => false
  | _ => true
mutual
def chkS (N : List Str) (hot : Bool) (sc : Scope) : IS → Stmt → Bool
  | .set i e, st => (match st with
    | .Assign [.Name x _] e' _ => decide (N[i]? = some x) && locB sc x && chk N hot sc e e'
    | _ => false)
  | .par is es, st => (match st with
    | .Assign [.Tuple [.Name x px, .Name y py] _ _] (.Tuple [a, b] _ _) _ => (match is with
      | [i, j] => !hot && decide (parB sc [.Name x px, .Name y py] [a, b] = some [x, y]) && decide (N[i]? = some x) && decide (N[j]? = some y) && decide (i ≠ j) && decide (sc.names.lookup x = some .local) && decide (sc.names.lookup y = some .local) && chks N hot sc es [a, b]
      | _ => false)
    | .Assign [.Tuple [.Name x px, .Name y py, .Name z pz] _ _] (.Tuple [a, b, c] _ _) _ => (match is with
      | [i, j, l] => !hot && decide (parB sc [.Name x px, .Name y py, .Name z pz] [a, b, c] = some [x, y, z]) && decide (N[i]? = some x) && decide (N[j]? = some y) && decide (N[l]? = some z) && decide (i ≠ j) && decide (i ≠ l) && decide (j ≠ l) && decide (sc.names.lookup x = some .local) && decide (sc.names.lookup y = some .local) && decide (sc.names.lookup z = some .local) && chks N hot sc es [a, b, c]
      | _ => false)
    | _ => false)
  | .ret e, st => (match st with
    | .Return (some e') _ => chk N hot sc e e'
    | _ => false)
  | .ite c a b, st => (match st with
    | .If c' a' b' _ => tst c && chk N hot sc c c' && chkSs N hot sc a a' && chkSs N hot sc b b'
    | _ => false)
  | .forV i it body, st => (match st with
    | .For (.Name x _) it' b' [] _ => !hot && decide (N[i]? = some x) && locB sc x && noSet it' && chk N hot sc it it' && chkSs N hot sc body b'
    | _ => false)
  | .forR i a body, st => (match st with
    | .For (.Name x _) (.Call (.Name r _) [a'] [] _) b' [] _ => !hot && decide (N[i]? = some x) && locB sc x && decide (r = "range") && glo sc "range" && noStar a' && chk N hot sc a a' && chkSs N hot sc body b'
    | _ => false)
  | .app i e, st => (match st with
    | .Expr (.Call (.Attribute (.Name x _) n ap) [e'] [] cp) _ => decide (n = "append") && decide (N[i]? = some x) && vis sc x && notOdd x && (ap.endLine == cp.line) && noStar e' && chk N hot sc e e'
    | _ => false)
  | .unp is e, st => (match st with
    | .Assign [.Tuple l _ _] e' _ => !hot && isTupE e' && decide (l.map nameOf = (is.map fun i => N[i]?)) && decide is.Nodup && l.all (isNm sc) && chk N hot sc e e'
    | _ => false)
  | .unpS i j e, st => (match st with
    | .Assign [.Tuple [.Name x _, .Starred (.Name y _) _] _ _] e' _ => !hot && isTupE e' && decide (N[i]? = some x) && decide (N[j]? = some y) && locB sc x && locB sc y && chk N hot sc e e'
    | _ => false)
  | .rai c, st => (match st with
    | .Raise (some (.Call (.Name x _) [.Constant (.str _) _ _] [] _)) none _ => !hot && decide (c = x) && glo sc x && notOdd x
    | _ => false)
  | .raiF c es, st => (match st with
    | .Raise (some (.Call (.Name x _) (a :: as) [] _)) none _ => !hot && decide (c = x) && glo sc x && notOdd x && chks N hot sc es (a :: as)
    | _ => false)
  | .tryA body c i suite, st => (match st with
    | .Try b' [.ExceptHandler (some (.Name x _)) (some n) (s₀ :: ss) _] [] [] _ => !hot && decide (c = x) && glo sc x && notOdd x && decide (N[i]? = some n) && decide (sc.names.lookup n = some .local) && chkSs N false sc body b' && chkSs N true sc suite (s₀ :: ss)
    | _ => false)
def chkSs (N : List Str) (hot : Bool) (sc : Scope) : ISs → List Stmt → Bool
  | .nil, l => (match l with
    | [] => true
    | _ => false)
  | .cons s r, l => (match l with
    | st :: l' => chkS N hot sc s st && chkSs N hot sc r l'
    | _ => false)
end
theorem no_swap {e : Expr} {x : Str} {p : Pos} {l : Nat} {env : PySem.Env} (h : isLc e = false) : swapsWith e (some (.Name x p)) l env = pure false := by
  cases e <;> first | rfl | cases h
theorem lc_swap {elt : Expr} {gs : List Comprehension} {scope : Scope} {pos py : Pos} {y : Str} {l : Nat} {env : PySem.Env} : swapsWith (.ListComp elt gs scope pos) (some (.Name y py)) l env =
    pure (env.blockKind == .function && env.kindOf y == some .local && py.line == pos.line && !(scope.names.any fun (n, k) => n == y && (k == .local || k == .cell))) := rfl
end Ev
set_option Elab.async false
set_option linter.all false
set_option maxRecDepth 100000
set_option maxHeartbeats 4000000
namespace Ev
open PySem PySem.Spec PyProof.Rows L2
theorem par_swap {ts vs : List Expr} {k k' : Nat} {p p' : Pos} {env : PySem.Env} {names : List Str} (h : parB env.scope ts vs = some names) : swappedStores [.Tuple ts k p] (.Tuple vs k' p') env = pure (some names) := by
  unfold parB at h
  split at h
  · rename_i c
    have c1 := and_and c
    have c2 := and_and c1.1
    have c3 := and_and c2.1
    split at h
    · rename_i d
      have d1 := and_and d
      have d2 := and_and d1.1
      have d3 := and_and d2.1
      cases h
      have hb : env.blockKind = .function := by
        unfold Env.blockKind
        have : env.scope.kind = .function := by simpa using c2.2
        rw [this]; rfl
      have hs : (vs.any fun | .Starred .. => true | _ => false) = false := by
        have := c1.2
        rw [List.all_eq_true] at this
        rw [List.any_eq_false]
        intro e he
        have q := this e he
        cases e <;> first | exact Bool.false_ne_true | cases q
      unfold swappedStores
      simp only [Env.kindOf, hb, hs]
      simp only [c3.1, Bool.not_true, Bool.false_or]
      split
      · rename_i q
        exfalso
        have e1 : (vs.length != ts.length) = false := by unfold bne; rw [c3.2]; rfl
        rw [e1] at q
        simp at q
      · split
        · rename_i q
          cases (show false = true from hs.symm.trans q)
        · refine (if_neg (fun q => ?_)).trans ?_
          · have q' : ((parNames env.scope ts).length != ts.length || (parNames env.scope ts).eraseDups.length != (parNames env.scope ts).length) = true := q
            unfold bne at q'
            rw [d3.1, d3.2] at q'
            cases q'
          · refine (if_neg (fun q => ?_)).trans ?_
            · have := d2.2
              rw [q] at this
              cases this
            · refine (if_neg (fun q => ?_)).trans rfl
              have := d1.2
              rw [q] at this
              cases this
    · cases h
  · cases h
end Ev
set_option Elab.async false
set_option linter.all false
set_option maxRecDepth 100000
set_option maxHeartbeats 8000000
namespace Ev
open PySem PySem.Spec PyProof.Rows L2
variable {ea : Option EA}
theorem _root_.L2.PS.imp {X : Cx} {e : Stmt} {t t' : TS} (h : PS X e t) (i : ∀ D σ H, t' D σ H → t D σ H) : PS X e t' := ⟨fun pins s σ H D I q => h.run pins s σ H D I (i D σ H q)⟩
theorem _root_.L2.PSs.imp {X : Cx} {e : List Stmt} {t t' : TS} (h : PSs X e t) (i : ∀ D σ H, t' D σ H → t D σ H) : PSs X e t' := ⟨fun pins s σ H D I q => h.run pins s σ H D I (i D σ H q)⟩

def Kp (ios : List Nat) (σ σ' : L2.St) : Prop := ∀ i ∈ ios, σ'[i]? = σ[i]?
theorem Kp.refl {ios : List Nat} (σ : L2.St) : Kp ios σ σ := fun _ _ => rfl
theorem Kp.trans {ios : List Nat} {σ σ1 σ2 : L2.St} (a : Kp ios σ σ1) (b : Kp ios σ1 σ2) : Kp ios σ σ2 := fun i h => (b i h).trans (a i h)
theorem Kp.set {ios : List Nat} {σ : L2.St} {i : Nat} {v : Option V} (h : i ∉ ios) : Kp ios σ (σ.set i v) := fun j hj => List.getElem?_set_ne fun z => h (by rw [z]; exact hj)
def nm (new : Bool) : Mode := if new = true then .fresh else .frz
/-- what is wanted of a statement -/
def wantS (K : KM) (W : WX) (B : Hp) (ios : List Nat) (σ : L2.St) (H : Hp) (D : Ends) : Res Out → Prop
  | .ok (.nx ρ') => ∀ σ' H', REnv K B σ' H' ρ' → FrzLe H H' → Kp ios σ σ' → D.nx σ' H'
  | .ok (.rt d new ρ') => ∀ σ' H' v, REnv K B σ' H' ρ' → FrzLe H H' → Kp ios σ σ' → RV K B σ' ρ' H' v d (nm new) → D.rt v H'
  | .exc c fs ρ' => ∀ cls d σ' H', REnv K B σ' H' ρ' → FrzLe H H' → Kp ios σ σ' → XcR K H' cls d c fs → W cls d σ' H'
  | .stuck => False
theorem wantS.step {K : KM} {W : WX} {B : Hp} {ios : List Nat} {σ σ1 : L2.St} {H H1 : Hp} {D : Ends} {r : Res Out} (f : FrzLe H H1) (k : Kp ios σ σ1) (h : wantS K W B ios σ H D r) : wantS K W B ios σ1 H1 D r := by
  cases r with
  | ok o =>
    cases o with
    | nx ρ => exact fun σ' H' R' f' k' => h σ' H' R' (f.trans f') (k.trans k')
    | rt d new ρ => exact fun σ' H' v R' f' k' rv => h σ' H' v R' (f.trans f') (k.trans k') rv
  | exc c fs ρ => exact fun cls d σ' H' R' f' k' xc => h cls d σ' H' R' (f.trans f') (k.trans k') xc
  | stuck => exact h
def tQ (K : KM) (W : WX) (ios : List Nat) (ρ : DEnv) (r : Res Out) : TS := fun D σ H => ∃ B, REnv K B σ H ρ ∧ wantS K W B ios σ H D r
def tQU (K : KM) (W : WX) (T : Tab) (ios : List Nat) (body : ISs) : TS := fun D σ H => ∃ ρ, tQ K W ios ρ (execs T ios body ρ) D σ H
theorem ps_stuck {X : Cx} {K : KM} {W : WX} {ios : List Nat} {ρ : DEnv} {st : Stmt} : PS X st (tQ K W ios ρ .stuck) := ⟨fun _ _ _ _ _ _ ⟨_, _, h⟩ => (show False from h).elim⟩
/-- an exception of an expression, in a statement -/
theorem exc_in {K : KM} {W : WX} {ios : List Nat} {ρ ρ' : DEnv} {c : Str} {fs : List (Str × Dat)} {D : Ends} {σ : L2.St} {H : Hp} {Q : VK} (h : tQ K W ios ρ (.exc c fs ρ') D σ H) : tX K W ρ c fs ρ' σ H Q := by
  obtain ⟨B, R, w⟩ := h
  exact ⟨B, R, fun cls d H' R' f' xc => w cls d σ H' R' f' (Kp.refl σ) xc⟩
theorem exc_inA {K : KM} {W : WX} {ios : List Nat} {ρ ρ' : DEnv} {c : Str} {fs : List (Str × Dat)} {D : Ends} {σ : L2.St} {H : Hp} {Q : List V → Hp → Prop} (h : tQ K W ios ρ (.exc c fs ρ') D σ H) : tXA K W ρ c fs ρ' σ H Q := by
  obtain ⟨B, R, w⟩ := h
  exact ⟨B, R, fun cls d H' R' f' xc => w cls d σ H' R' f' (Kp.refl σ) xc⟩
theorem exc_inT {K : KM} {W : WX} {ios : List Nat} {ρ ρ' : DEnv} {c : Str} {fs : List (Str × Dat)} {D : Ends} {σ : L2.St} {H : Hp} {Q : Bool → Hp → Prop} (h : tQ K W ios ρ (.exc c fs ρ') D σ H) : tXT K W ρ c fs ρ' σ H Q := by
  obtain ⟨B, R, w⟩ := h
  exact ⟨B, R, fun cls d H' R' f' xc => w cls d σ H' R' f' (Kp.refl σ) xc⟩

section
variable {K : KM} {B : Hp} {σ : L2.St} {H : Hp} {ρ : DEnv} {d : Dat}
theorem REnv.setOwn {p : Addr} (R : REnv K B σ H ρ) (i : Nat) (ho : Own K H p d) (bp : B p = none) (ns : ∀ (j : Nat) e, ρ[j]? = some (.own e) → σ[j]? ≠ some (some (.ref p))) : REnv K B (σ.set i (some (.ref p))) H (ρ.set i (.own d)) := by
  refine ⟨R.base, by rw [List.length_set, List.length_set]; exact R.len, fun j e h => ?_, fun j e h => ?_, fun j j' e e' q h1 h2 h3 h4 => ?_, fun j c fs h => ?_⟩
  · rw [set_get] at h
    split at h
    · split at h <;> cases h
    · rename_i n
      obtain ⟨w, w1, w2⟩ := R.val j e h
      exact ⟨w, by rw [List.getElem?_set_ne n]; exact w1, w2⟩
  · rw [set_get] at h
    split at h
    · rename_i n
      subst n
      split at h
      · rename_i hl
        cases h
        exact ⟨p, by rw [List.getElem?_set_self (by rw [R.len]; exact hl)], bp, ho⟩
      · cases h
    · rename_i n
      obtain ⟨w, w1, w2⟩ := R.own j e h
      exact ⟨w, by rw [List.getElem?_set_ne n]; exact w1, w2⟩
  · rw [set_get] at h1 h2 h3 h4
    by_cases n1 : i = j
    · subst n1
      rw [if_pos rfl] at h3
      by_cases n2 : i = j'
      · exact n2
      · rw [if_neg n2] at h2 h4
        split at h3
        · cases h3
          exact absurd h4 (ns j' e' h2)
        · cases h3
    · rw [if_neg n1] at h1 h3
      by_cases n2 : i = j'
      · subst n2
        rw [if_pos rfl] at h4
        split at h4
        · cases h4
          exact absurd h3 (ns j e h1)
        · cases h4
      · rw [if_neg n2] at h2 h4
        exact R.sep j j' e e' q h1 h2 h3 h4
  · rw [set_get] at h
    split at h
    · split at h <;> cases h
    · rename_i n
      obtain ⟨x, x1, x2, x3⟩ := R.exn j c fs h
      exact ⟨x, x1, by rw [List.getElem?_set_ne n]; exact x2, x3⟩
end
/-! ### into an except suite, and out of it -/
mutual
theorem Is.at {K : PySem.W.Frag} {mg : Str → Option Value} {e1 e2 : Option EA} {H : Hp} : ∀ {v : V} {d : Dat}, Is ⟨K, mg, e1⟩ H v d → Is ⟨K, mg, e2⟩ H v d
  | _, _, .non => .non
  | _, _, .bl b => .bl b
  | _, _, .int i => .int i
  | _, _, .str x => .str x
  | _, _, .tup a b => .tup a (IsL.at b)
  | _, _, .lst a b => .lst a (IsL.at b)
  | _, _, .scr a => .scr a
  | _, _, .dic a b c d e g h i => .dic a b c d e g (IsL.at h) (IsL.at i)
  | _, _, .err0 a b c d e => .err0 a b c d e
  | _, _, .err1 a b c d e g h i => .err1 a b c d e g h (IsL.at i)
theorem IsL.at {K : PySem.W.Frag} {mg : Str → Option Value} {e1 e2 : Option EA} {H : Hp} : ∀ {vs : List V} {ds : List Dat}, IsL ⟨K, mg, e1⟩ H vs ds → IsL ⟨K, mg, e2⟩ H vs ds
  | _, _, .nil => .nil
  | _, _, .cons a b => .cons (Is.at a) (IsL.at b)
end
section
variable {K : PySem.W.Frag} {mg : Str → Option Value} {e1 e2 : Option EA} {B : Hp} {σ : L2.St} {H : Hp} {ρ : DEnv}
theorem Own.at {p : Addr} {d : Dat} (h : Own ⟨K, mg, e1⟩ H p d) : Own ⟨K, mg, e2⟩ H p d := by
  obtain ⟨vs, ds, rfl, e, l⟩ := h
  exact ⟨vs, ds, rfl, e, l.at⟩
theorem XdR.at {d : Option Addr} {fs : List (Str × Dat)} (h : XdR ⟨K, mg, e1⟩ H d fs) : XdR ⟨K, mg, e2⟩ H d fs := by
  rcases h with h | ⟨dx, o, vs, h1, h2, h3, h4⟩
  · exact .inl h
  · exact .inr ⟨dx, o, vs, h1, h2, h3, h4.at⟩
/-- the exception comes to its name -/
theorem REnv.caught {e : EA} {i : Nat} {c : Str} {fs : List (Str × Dat)} (R : REnv ⟨K, mg, none⟩ B σ H ρ) (hm : mg c = some (.ref e.C)) (hx : XdR ⟨K, mg, none⟩ H e.d fs) : REnv ⟨K, mg, some e⟩ B (σ.set i (some (.ref e.a))) H (ρ.set i (.exn c fs)) := by
  refine ⟨R.base, by rw [List.length_set, List.length_set]; exact R.len, fun j d h => ?_, fun j d h => ?_, fun j j' d d' p h1 h2 h3 h4 => ?_, fun j c' fs' h => ?_⟩
  · rw [set_get] at h
    split at h
    · split at h <;> cases h
    · rename_i n
      obtain ⟨w, w1, w2⟩ := R.val j d h
      exact ⟨w, by rw [List.getElem?_set_ne n]; exact w1, w2.at⟩
  · rw [set_get] at h
    split at h
    · split at h <;> cases h
    · rename_i n
      obtain ⟨w, w1, w2, w3⟩ := R.own j d h
      exact ⟨w, by rw [List.getElem?_set_ne n]; exact w1, w2, w3.at⟩
  · rw [set_get] at h1 h2
    split at h1
    · split at h1 <;> cases h1
    · split at h2
      · split at h2 <;> cases h2
      · rename_i n1 n2
        rw [List.getElem?_set_ne n1] at h3
        rw [List.getElem?_set_ne n2] at h4
        exact R.sep j j' d d' p h1 h2 h3 h4
  · rw [set_get] at h
    split at h
    · rename_i n
      subst n
      split at h
      · rename_i hl
        cases h
        exact ⟨e, rfl, by rw [List.getElem?_set_self (by rw [R.len]; exact hl)], hm, hx.at⟩
      · cases h
    · obtain ⟨x, x1, _⟩ := R.exn j c' fs' h
      cases x1
theorem clean_get {i : Nat} : (clean ρ)[i]? = (ρ[i]?).map Slot.tidy := by
  unfold clean
  rw [List.getElem?_map]
theorem clean_own {i : Nat} {d : Dat} (h : (clean ρ)[i]? = some (.own d)) : ρ[i]? = some (.own d) := by
  rw [clean_get] at h
  cases q : ρ[i]? with
  | none => rw [q] at h; cases h
  | some s =>
    rw [q] at h
    cases s <;> first | (cases h; rfl) | cases h
/-- it is gone behind the suite -/
theorem REnv.gone {e : EA} {i : Nat} (R : REnv ⟨K, mg, some e⟩ B σ H ρ) : REnv ⟨K, mg, none⟩ B (σ.set i none) H (clean (ρ.set i .no)) := by
  have R1 := R.setNo i
  refine ⟨R1.base, by unfold clean; rw [List.length_map]; exact R1.len, fun j d h => ?_, fun j d h => ?_, fun j j' d d' p h1 h2 h3 h4 => ?_, fun j c fs h => ?_⟩
  · rw [clean_get] at h
    cases q : (ρ.set i .no)[j]? with
    | none => rw [q] at h; cases h
    | some s =>
      rw [q] at h
      cases s with
      | val x =>
        cases h
        obtain ⟨w, w1, w2⟩ := R1.val j _ q
        exact ⟨w, w1, w2.at⟩
      | no => cases h
      | own _ => cases h
      | exn _ _ => cases h
  · obtain ⟨w, w1, w2, w3⟩ := R1.own j d (clean_own h)
    exact ⟨w, w1, w2, w3.at⟩
  · exact R1.sep j j' d d' p (clean_own h1) (clean_own h2) h3 h4
  · rw [clean_get] at h
    cases q : (ρ.set i .no)[j]? with
    | none => rw [q] at h; cases h
    | some s =>
      rw [q] at h
      cases s <;> cases h
theorem RV.gone {e : EA} {i : Nat} {v : V} {d : Dat} {new : Bool} (h : RV ⟨K, mg, some e⟩ B σ ρ H v d (nm new)) : RV ⟨K, mg, none⟩ B (σ.set i none) (clean (ρ.set i .no)) H v d (nm new) := by
  cases new with
  | false => exact Is.at (show Is ⟨K, mg, some e⟩ H v d from h)
  | true =>
    obtain ⟨p, rfl, ho, bp, ns⟩ := (show RV ⟨K, mg, some e⟩ B σ ρ H v d .fresh from h)
    refine ⟨p, rfl, ho.at, bp, fun j x hj z => ?_⟩
    have h1 := clean_own hj
    rw [set_get] at h1 z
    split at h1
    · split at h1 <;> cases h1
    · rename_i n
      rw [if_neg n] at z
      exact ns j x h1 z
end
end Ev

set_option Elab.async false
set_option linter.all false
set_option maxRecDepth 100000
set_option maxHeartbeats 8000000
namespace Ev
open PySem PySem.Spec PyProof.Rows L2
structure GoodS (T : Tab) (n : Nat) (hot : Bool) (ea : Option EA) (X : Cx) : Prop extends Good T n hot ea X where
  px : PassesOwn (model X.prog X.w) X.A X.env X.xe
  fnT : ∀ x, X.fn x = true
  st0 : X.stack = X.env :: X.outer
  fr0 : X.env.frame = some X.env.locals
theorem takes_ofF {X : Cx} {W : WX} (hf : X.env.frame = some X.env.locals) (tk : TakesF X W) : Takes X W := fun u s' ⟨a, B, sI, pins, σ, H, cls, d, h1, h2, h3, h4, h5, h6, h7, h8, h9⟩ => tk u s' ⟨a, B, sI, pins, σ, H, cls, d, _, hf, h1, h2, h3, h4, h5, h6, h7, h8, h9⟩
theorem takesF_ofT {X : Cx} {W : WX} (hf : X.env.frame = some X.env.locals) (tk : Takes X W) : TakesF X W := fun u s' ⟨a, B, sI, pins, σ, H, cls, d, L, h0, h1, h2, h3, h4, h5, h6, h7, h8, h9⟩ => by
  rw [hf] at h0
  cases h0
  exact tk u s' ⟨a, B, sI, pins, σ, H, cls, d, h1, h2, h3, h4, h5, h6, h7, h8, h9⟩

theorem loop_snd {K : KM} {W : WX} {T : Tab} {ios : List Nat} {J : It} {i : Nat} {body : ISs} {xs : List Dat} {vI : List V} {ρ1 : DEnv} {B : Hp} {σ : L2.St} {H1 : Hp} {D : Ends} (hi : i ∉ ios)
    (l : IsL K H1 vI xs) (wk : Walker J vI H1) (R : REnv K B σ H1 ρ1) (w : wantS K W B ios σ H1 D (loop (turnOf (execs T ios body) i) xs ρ1)) :
    ∃ Wi : Nat → Nat → L2.St → Hp → Prop, (∃ m, Wi 0 m σ H1) ∧ ∀ j m σ H, Wi j m σ H →
      (J.stop j H ∧ D.nx σ H) ∨ (J.go j H ∧ ∃ N : L2.St → Hp → Prop, (∀ σ' H', N σ' H' → ∃ m', m' < m ∧ Wi (j + 1) m' σ' H') ∧ ∀ x H', J.yld j H x H' → gName i x σ H' fun σ2 H2 => tQU K W T ios body { D with nx := N, ct := N, bk := D.nx } σ2 H2) := by
  refine ⟨fun j m σ' H' => ∃ ρk, m = xs.length - j ∧ j ≤ xs.length ∧ loop (turnOf (execs T ios body) i) (xs.drop j) ρk = loop (turnOf (execs T ios body) i) xs ρ1 ∧ REnv K B σ' H' ρk ∧ FrzLe H1 H' ∧ Kp ios σ σ',
    ⟨xs.length, ρ1, by omega, Nat.zero_le _, rfl, R, FrzLe.refl H1, Kp.refl σ⟩, ?_⟩
  rintro j m σ' H' ⟨ρk, rfl, hj, hlo, Rk, fk, kk⟩
  by_cases hlt : j < xs.length
  · right
    obtain ⟨v, hv, hIs⟩ := l.get (List.getElem?_eq_getElem hlt)
    obtain ⟨hgo, hy⟩ := (wk j H' fk).1 v hv
    rw [List.drop_eq_getElem_cons hlt] at hlo
    have hlo' : ((execs T ios body (ρk.set i (.val xs[j]))).bind fun o => (match o with
      | .nx ρ1 => loop (turnOf (execs T ios body) i) (xs.drop (j + 1)) ρ1
      | .rt d new ρ1 => .ok (.rt d new ρ1))) = loop (turnOf (execs T ios body) i) xs ρ1 := hlo
    refine ⟨hgo, fun σ2 H2 => ∃ ρ2, j + 1 ≤ xs.length ∧ loop (turnOf (execs T ios body) i) (xs.drop (j + 1)) ρ2 = loop (turnOf (execs T ios body) i) xs ρ1 ∧ REnv K B σ2 H2 ρ2 ∧ FrzLe H1 H2 ∧ Kp ios σ σ2,
      fun σ2 H2 ⟨ρ2, a1, a2, a3, a4, a5⟩ => ⟨xs.length - (j + 1), by omega, ρ2, rfl, a1, a2, a3, a4, a5⟩, fun x H2 hyl => ?_⟩
    obtain ⟨e1, e2⟩ := hy x H2 hyl
    subst e1
    subst e2
    refine ⟨_, B, Rk.setVal i (hIs.mono fk), ?_⟩
    cases hb : execs T ios body (ρk.set i (.val xs[j])) with
    | stuck =>
      rw [hb] at hlo'
      have e : loop (turnOf (execs T ios body) i) xs ρ1 = .stuck := hlo'.symm
      rw [e] at w
      exact w
    | exc c fs ρ3 =>
      rw [hb] at hlo'
      have e : loop (turnOf (execs T ios body) i) xs ρ1 = .exc c fs ρ3 := hlo'.symm
      rw [e] at w
      exact fun cls d σ3 H3 R3 f3 k3 xc => w cls d σ3 H3 R3 (fk.trans f3) ((kk.trans (Kp.set hi)).trans k3) xc
    | ok o =>
      rw [hb] at hlo'
      cases o with
      | nx ρ3 => exact fun σ3 H3 R3 f3 k3 => ⟨ρ3, hlt, hlo', R3, fk.trans f3, (kk.trans (Kp.set hi)).trans k3⟩
      | rt d new ρ3 =>
        have e : loop (turnOf (execs T ios body) i) xs ρ1 = .ok (.rt d new ρ3) := hlo'.symm
        rw [e] at w
        exact fun σ3 H3 v3 R3 f3 k3 rv => w σ3 H3 v3 R3 (fk.trans f3) ((kk.trans (Kp.set hi)).trans k3) rv
  · left
    have ej : j = xs.length := by omega
    subst ej
    rw [List.drop_length] at hlo
    have e : loop (turnOf (execs T ios body) i) xs ρ1 = .ok (.nx ρk) := hlo.symm
    rw [e] at w
    exact ⟨(wk _ H' fk).2 (by rw [l.length]; omega), w σ' H' Rk fk kk⟩

theorem app_few {e : Expr} {env : PySem.Env} {cp : Pos} (h : noStar e = true) : ((backTo cp (starEach [e] env)).all (fun x => !x.1) && (backToKw cp (keywordEach [] env)).all (fun x => x.1.isSome)
      && decide (([e] : List Expr).length + ([] : List Keyword).length + (if ([] : List Keyword).isEmpty then 0 else 1) < 30)) = true := by
  rw [star_cons h]
  rfl
/-- a statement is sound -/
def SndS (T : Tab) (n : Nat) (ios : List Nat) (is : IS) : Prop := ∀ {hot : Bool} {ea : Option EA} {X : Cx} {st : Stmt} {W : WX}, GoodS T n hot ea X → TakesF X W → chkS X.N hot X.env.scope is st = true → ∀ ρ, PS X st (tQ (X.km ea) W ios ρ (exec T ios is ρ))
def SndSs (T : Tab) (n : Nat) (ios : List Nat) (ss : ISs) : Prop := ∀ {hot : Bool} {ea : Option EA} {X : Cx} {l : List Stmt} {W : WX}, GoodS T n hot ea X → TakesF X W → chkSs X.N hot X.env.scope ss l = true → ∀ ρ, PSs X l (tQ (X.km ea) W ios ρ (execs T ios ss ρ))

theorem argP_lc {sc scope : Scope} {p : P1} {y : Expr} {gs : List Comprehension} {pos : Pos} : argP sc p (.ListComp y gs scope pos) = none := by
  cases p <;> rfl
/-- the parts of a comprehension that is checked -/
theorem lcP_of {T : Tab} {n : Nat} {hot : Bool} {ea : Option EA} {X : Cx} {W : WX} (g : Good T n hot ea X) (tk : TakesF X W) {ie : IE} {y0 tg it : Expr} {ifs : List Expr} {scope : Scope} {pos : Pos} {k : Int} (c : chk X.N hot X.env.scope ie (.ListComp y0 [⟨tg, it, ifs, k⟩] scope pos) = true) (ρ : DEnv) :
    hot = false ∧ k = 0 ∧ LcP X (X.km ea) W ρ (ev T ie ρ) y0 tg it ifs scope ∧ ∀ d m ρ', ev T ie ρ = .ok (d, m, ρ') → m = .fresh := by
  have fr : ∀ vs one xs ρ0 d m ρ', comp vs one xs ρ0 = .ok (d, m, ρ') → m = .fresh := by
    intro vs one xs ρ0 d m ρ' h
    unfold comp at h
    split at h
    · cases q : turns one xs ρ0 with
      | ok a => rw [q] at h; cases h; rfl
      | exc c fs ρ2 => rw [q] at h; cases h
      | stuck => rw [q] at h; cases h
    · cases h
  cases ie with
  | lc elt tg' it' own =>
    simp only [chk] at c
    split at c
    · rename_i y1 x0 p0 i0 scope1 p1 eq
      cases eq
      have c1 := and_and c
      have c2 := and_and c1.1
      have c3 := and_and c2.1
      have c4 := and_and c3.1
      have c5 := and_and c4.1
      have c6 := and_and c5.1
      have c7 := not_hot c6.1
      have pe' : ∀ (σ : L2.St) (s : Shared) (H : Hp) (C : Addr) (cl : List (Str × Addr)) (fp : List Addr) (xe : Value → Shared → Prop), TakesF (X.blkX s H scope (compEnvC scope cl C X.env) fp xe) (wIn W σ) → PE (X.blkX s H scope (compEnvC scope cl C X.env) fp xe) y0 (tUK (X.km ea) (wIn W σ) T elt) := fun σ s H C cl fp xe tk' => pe_UK (X := X.blkX s H scope (compEnvC scope cl C X.env) fp xe) fun ρ' => keep_of (X := X.blkX s H scope (compEnvC scope cl C X.env) fp xe) (sndR elt (g.blk c7.1 s H scope cl C fp xe) tk' c1.2 ρ')
      refine ⟨c7.1, rfl, ?_, fun d m ρ' h => ?_⟩
      · have z := lc_mk (ea := ea) (p0 := p0) (one := oneOf (ev T elt) tg' (own.map (·.2))) (tt := fun _ => tYes) (te := fun σ => tUK (X.km ea) (wIn W σ) T elt) g.nd c6.2 (of_decide_eq_true c5.2) c3.2 c7.2 (keep_of (sndR it' g tk c2.2 ρ)) (fun σ => step_lc) (fun σ s H C cl fp xe tk' => pts_nil) pe'
        simp only [ev]
        exact z
      · simp only [ev] at h
        obtain ⟨_, _, h3⟩ := Res.bind_ok h
        obtain ⟨_, _, h4⟩ := Res.bind_ok h3
        exact fr _ _ _ _ _ _ _ h4
    · cases c
  | lcI elt tg' it' cond own =>
    simp only [chk] at c
    split at c
    · rename_i y1 x0 p0 i0 cc0 scope1 p1 eq
      cases eq
      have c0 := and_and c
      have c1 := and_and c0.1
      have c2 := and_and c1.1
      have c3 := and_and c2.1
      have c4 := and_and c3.1
      have c5 := and_and c4.1
      have c6 := and_and c5.1
      have c7 := and_and c6.1
      have c8 := not_hot c7.1
      have pe' : ∀ (σ : L2.St) (s : Shared) (H : Hp) (C : Addr) (cl : List (Str × Addr)) (fp : List Addr) (xe : Value → Shared → Prop), TakesF (X.blkX s H scope (compEnvC scope cl C X.env) fp xe) (wIn W σ) → PE (X.blkX s H scope (compEnvC scope cl C X.env) fp xe) y0 (tUK (X.km ea) (wIn W σ) T elt) := fun σ s H C cl fp xe tk' => pe_UK (X := X.blkX s H scope (compEnvC scope cl C X.env) fp xe) fun ρ' => keep_of (X := X.blkX s H scope (compEnvC scope cl C X.env) fp xe) (sndR elt (g.blk c8.1 s H scope cl C fp xe) tk' c1.2 ρ')
      have pt' : ∀ (σ : L2.St) (s : Shared) (H : Hp) (C : Addr) (cl : List (Str × Addr)) (fp : List Addr) (xe : Value → Shared → Prop), TakesF (X.blkX s H scope (compEnvC scope cl C X.env) fp xe) (wIn W σ) → PTs (X.blkX s H scope (compEnvC scope cl C X.env) fp xe) [cc0] (tUT (X.km ea) (wIn W σ) T cond) := fun σ s H C cl fp xe tk' => pts_one (pt_U (X := X.blkX s H scope (compEnvC scope cl C X.env) fp xe) fun ρ' => sndTR cond (g.blk c8.1 s H scope cl C fp xe) tk' c8.2 c0.2 ρ')
      refine ⟨c8.1, rfl, ?_, fun d m ρ' h => ?_⟩
      · have z := lc_mk (ea := ea) (p0 := p0) (one := oneIf (ev T cond) (ev T elt) tg' (own.map (·.2))) (tt := fun σ => tUT (X.km ea) (wIn W σ) T cond) (te := fun σ => tUK (X.km ea) (wIn W σ) T elt) g.nd c6.2 (of_decide_eq_true c5.2) c3.2 c7.2 (keep_of (sndR it' g tk c2.2 ρ)) (fun σ => step_lcI) pt' pe'
        simp only [ev]
        exact z
      · simp only [ev] at h
        obtain ⟨_, _, h3⟩ := Res.bind_ok h
        obtain ⟨_, _, h4⟩ := Res.bind_ok h3
        exact fr _ _ _ _ _ _ _ h4
    · cases c
  | lcR elt tg' a' own =>
    simp only [chk] at c
    split at c
    · rename_i y1 x0 p0 r0 p2 i0 p3 scope1 p1 eq
      cases eq
      have c1 := and_and c
      have c2 := and_and c1.1
      have c3 := and_and c2.1
      have c4 := and_and c3.1
      have c5 := and_and c4.1
      have c6 := and_and c5.1
      have c7 := and_and c6.1
      have c8 := and_and c7.1
      have c9 := not_hot c8.1
      have e1 := of_decide_eq_true c9.2
      subst e1
      have pe' : ∀ (σ : L2.St) (s : Shared) (H : Hp) (C : Addr) (cl : List (Str × Addr)) (fp : List Addr) (xe : Value → Shared → Prop), TakesF (X.blkX s H scope (compEnvC scope cl C X.env) fp xe) (wIn W σ) → PE (X.blkX s H scope (compEnvC scope cl C X.env) fp xe) y0 (tUK (X.km ea) (wIn W σ) T elt) := fun σ s H C cl fp xe tk' => pe_UK (X := X.blkX s H scope (compEnvC scope cl C X.env) fp xe) fun ρ' => keep_of (X := X.blkX s H scope (compEnvC scope cl C X.env) fp xe) (sndR elt (g.blk c9.1 s H scope cl C fp xe) tk' c1.2 ρ')
      refine ⟨c9.1, rfl, ?_, fun d m ρ' h => ?_⟩
      · have z := lc_mkR (ea := ea) (p0 := p0) (p2 := p2) (p3 := p3) (one := oneOf (ev T elt) tg' (own.map (·.2))) (tt := fun _ => tYes) (te := fun σ => tUK (X.km ea) (wIn W σ) T elt) g.nd c6.2 (of_decide_eq_true c5.2) c3.2 (glo_of c8.2) g.mod.rng c7.2 (sndR a' g tk c2.2 ρ) (fun σ => step_lc) (fun σ s H C cl fp xe tk' => pts_nil) pe'
        simp only [ev]
        exact z
      · simp only [ev] at h
        obtain ⟨_, _, h3⟩ := Res.bind_ok h
        try dsimp only at h3
        split at h3
        · split at h3
          · exact fr _ _ _ _ _ _ _ h3
          · cases h3
        · cases h3
    · cases c
  | lcT elt tgs it' own =>
    simp only [chk] at c
    split at c
    · rename_i y1 l k0 p0 i0 scope1 p1 eq
      cases eq
      have c1 := and_and c
      have c2 := and_and c1.1
      have c3 := and_and c2.1
      have c4 := and_and c3.1
      have c5 := and_and c4.1
      have c6 := not_hot c5.1
      have ok := blkOk_by c5.2
      have pe' : ∀ (σ : L2.St) (s : Shared) (H : Hp) (C : Addr) (cl : List (Str × Addr)) (fp : List Addr) (xe : Value → Shared → Prop), TakesF (X.blkX s H scope (compEnvC scope cl C X.env) fp xe) (wIn W σ) → PE (X.blkX s H scope (compEnvC scope cl C X.env) fp xe) y0 (tUK (X.km ea) (wIn W σ) T elt) := fun σ s H C cl fp xe tk' => pe_UK (X := X.blkX s H scope (compEnvC scope cl C X.env) fp xe) fun ρ' => keep_of (X := X.blkX s H scope (compEnvC scope cl C X.env) fp xe) (sndR elt (g.blk c6.1 s H scope cl C fp xe) tk' c1.2 ρ')
      have pg : ∀ (s : Shared) (H : Hp) (C : Addr) (cl : List (Str × Addr)) (fp : List Addr) (xe : Value → Shared → Prop), PG (X.blkX s H scope (compEnvC scope cl C X.env) fp xe) (.Tuple l k0 p0) (gTup X.K tgs.length (gAll tgs)) := fun s H C cl fp xe => by
        obtain ⟨i1, i2, i3, i4⟩ := pgs_tgs g.nd ok (s := s) (H := H) (C := C) (cl := cl) (fp := fp) (xe := xe) c4.2
        exact pg_tup (X := X.blkX s H scope (compEnvC scope cl C X.env) fp xe) ((g.blk c6.1 s H scope cl C fp xe).calm c6.1) i1 i2 i3
      refine ⟨c6.1, rfl, ?_, fun d m ρ' h => ?_⟩
      · have z := lc_mkT (ea := ea) (own := own) (one := oneTup (ev T elt) tgs (own.map (·.2))) (tt := fun _ => tYes) (te := fun σ => tUK (X.km ea) (wIn W σ) T elt) c5.2 c6.2 pg (keep_of (sndR it' g tk c2.2 ρ)) (fun σ => step_lcT (tgs_mem c4.2)) (fun σ s H C cl fp xe tk' => pts_nil) pe'
        simp only [ev]
        exact z
      · simp only [ev] at h
        obtain ⟨_, _, h3⟩ := Res.bind_ok h
        obtain ⟨_, _, h4⟩ := Res.bind_ok h3
        exact fr _ _ _ _ _ _ _ h4
    · cases c
  | pr p a => exfalso; simp only [chk, argP_lc] at c; cases c
  | _ => exfalso; simp only [chk] at c; first | (cases c; done) | (split at c <;> first | (cases c; done) | (rename_i q; cases q))
section
variable {T : Tab} {n : Nat} {ios : List Nat}
theorem sS_set {i : Nat} {e : IE} : SndS T n ios (.set i e) := by
  intro hot ea X st W g tk c ρ
  simp only [exec]
  split
  · exact ps_stuck
  · rename_i hi
    simp only [chkS] at c
    split at c
    · rename_i x px e' pos
      have c1 := and_and c
      have c2 := and_and c1.1
      have hN : X.N[i]? = some x := of_decide_eq_true c2.1
      have key : ∀ (d : Dat) (m m' : Mode) (ρ1 ρ2 : DEnv), PS X (.Assign [.Name x px] e' pos) (tAsg (tS (X.km ea) ρ d m' ρ2) (gName i)) → (∀ B σ H v, REnv (X.km ea) B σ H ρ2 → RV (X.km ea) B σ ρ2 H v d m' → REnv (X.km ea) B (σ.set i (some v)) H (store i d m ρ1)) →
          PS X (.Assign [.Name x px] e' pos) (tQ (X.km ea) W ios ρ (.ok (.nx (store i d m ρ1)))) := fun d m m' ρ1 ρ2 hp hs =>
        hp.imp fun D σ H ⟨B, R, kn⟩ => ⟨B, R, fun v H1 R1 f1 rv => kn _ H1 (hs B σ H1 v R1 rv) f1 (Kp.set hi)⟩
      have fresh : ∀ (d : Dat) (ρ1 : DEnv) B σ H v, REnv (X.km ea) B σ H ρ1 → RV (X.km ea) B σ ρ1 H v d .fresh → REnv (X.km ea) B (σ.set i (some v)) H (store i d .fresh ρ1) := fun d ρ1 B σ H v R rv => by
        obtain ⟨p, rfl, ho, bp, ns⟩ := rv
        exact R.setOwn i ho bp ns
      cases hlc : isLc e' with
      | false =>
        have he := sndR (hot := hot) e g.toGood tk c1.2 ρ
        cases h1 : ev T e ρ with
        | stuck => exact ps_stuck
        | exc cc fs ρ1 => exact (ps_set g.nd hN (locB_of c2.2) (ex_of he h1) (no_swap hlc) (.inl (g.fnT x))).imp fun D σ H h => exc_in (Q := fun _ _ => True) h
        | ok a =>
          obtain ⟨d, m, ρ1⟩ := a
          cases m with
          | frz => exact key d .frz .frz ρ1 ρ1 (ps_set g.nd hN (locB_of c2.2) (ok_of he h1) (no_swap hlc) (.inl (g.fnT x))) fun B σ H v R rv => R.setVal i rv
          | fresh => exact key d .fresh .fresh ρ1 ρ1 (ps_set g.nd hN (locB_of c2.2) (ok_of he h1) (no_swap hlc) (.inl (g.fnT x))) (fresh d ρ1)
          | brw j => exact key d (.brw j) .frz ρ1 _ (ps_set g.nd hN (locB_of c2.2) (pe_keep (ok_of he h1)) (no_swap hlc) (.inl (g.fnT x))) fun B σ H v R rv => R.setVal i rv
      | true =>
        obtain ⟨y0, tg, it, ifs, k, scope, lp, rfl⟩ : ∃ y0 tg it ifs k scope lp, e' = .ListComp y0 [⟨tg, it, ifs, k⟩] scope lp := by
          have c' := c1.2
          cases e' with
          | ListComp y0 gs scope lp =>
            cases e <;> simp only [chk, argP_lc] at c' <;> first | (cases c'; done) | (split at c' <;> first | (cases c'; done) | (rename_i q; cases q; exact ⟨_, _, _, _, _, _, _, rfl⟩))
          | SetComp _ _ _ _ => cases e <;> simp [chk, argP] at c'
          | DictComp _ _ _ _ _ => cases e <;> simp [chk, argP] at c'
          | _ => cases hlc
        obtain ⟨hh, rfl, lp', mf⟩ := lcP_of g.toGood tk c1.2 ρ
        obtain ⟨L, fm⟩ := g.frm
        have both : PS X (.Assign [.Name x px] (.ListComp y0 [⟨tg, it, ifs, 0⟩] scope lp) pos) (tAsg (tR (X.km ea) W ρ (ev T e ρ)) (gName i)) := by
          cases hsw : (X.env.blockKind == .function && X.env.kindOf x == some .local && px.line == lp.line && !(scope.names.any fun (n, k) => n == x && (k == .local || k == .cell))) with
          | false => exact ps_set g.nd hN (locB_of c2.2) (pe_lcP (g.calm hh) g.nd tk fm lp') (by rw [lc_swap, hsw]) (.inl (g.fnT x))
          | true =>
            have s1 := and_and (and_and (and_and hsw).1).1
            have hy : X.env.scope.names.lookup x = some .local := eq_of_beq s1.2
            obtain ⟨wi, gg, tt, te, own, h1, h2, h3, h4, h5, h6, h7⟩ := lp'
            exact (ps_setLcX (g.calm hh) g.nd hN hy (by rw [lc_swap, hsw]) h1 h2 tk fm h3 h4 h5 h6).imp fun D σ H q => h7 σ H _ q
        cases h1 : ev T e ρ with
        | stuck => exact ps_stuck
        | exc cc fs ρ1 => rw [h1] at both; exact both.imp fun D σ H h => exc_in (Q := fun _ _ => True) h
        | ok a =>
          obtain ⟨d, m, ρ1⟩ := a
          have em := mf d m ρ1 h1
          subst em
          rw [h1] at both
          exact key d .fresh .fresh ρ1 ρ1 both (fresh d ρ1)
    · cases c
theorem sS_par {is : List Nat} {es : IEs} : SndS T n ios (.par is es) := by
  intro hot ea X st W g tk c ρ
  simp only [exec]
  split
  · exact ps_stuck
  · rename_i hio
    have nio : ∀ i ∈ is, i ∉ ios := fun i hi z => hio (List.any_eq_true.mpr ⟨i, hi, List.contains_iff_mem.mpr z⟩)
    simp only [chkS] at c
    split at c
    · split at c
      · rename_i i j
        have c1 := and_and c
        have c2 := and_and c1.1
        have c3 := and_and c2.1
        have c4 := and_and c3.1
        have c5 := and_and c4.1
        have c6 := and_and c5.1
        have c7 := not_hot c6.1
        have hes := sndsR (hot := hot) es g.toGood tk c1.2 ρ
        cases h1 : evs T es ρ with
        | stuck => exact ps_stuck
        | exc cc fs ρ1 => exact (ps_par (g.calm c7.1) g.nd (of_decide_eq_true c6.2) (of_decide_eq_true c5.2) (of_decide_eq_true c4.2) (of_decide_eq_true c3.2) (of_decide_eq_true c2.2) (exA_of hes h1) (par_swap (of_decide_eq_true c7.2))).imp fun D σ H h => exc_inA (Q := fun _ _ => True) h
        | ok a =>
          obtain ⟨ds, ρ1⟩ := a
          show PS X _ (tQ (X.km ea) W ios ρ (if ds.length = _ then _ else _))
          split
          · rename_i hlen
            refine (ps_par (g.calm c7.1) g.nd (of_decide_eq_true c6.2) (of_decide_eq_true c5.2) (of_decide_eq_true c4.2) (of_decide_eq_true c3.2) (of_decide_eq_true c2.2) (okA_of hes h1) (par_swap (of_decide_eq_true c7.2))).imp fun D σ H ⟨B, R, kn⟩ => ⟨B, R, fun vs H1 R1 f1 l => ?_⟩
            cases l with
            | nil => cases hlen
            | cons a1 l =>
              cases l with
              | nil => cases hlen
              | cons a2 l =>
                cases l with
                | nil =>
                  refine ⟨_, _, rfl, kn _ H1 ((R1.setVal i a1).setVal j a2) f1 ?_⟩
                  exact (Kp.set (nio i (by simp))).trans (Kp.set (nio j (by simp)))
                | cons _ _ => simp at hlen
          · exact ps_stuck
      · cases c
    · split at c
      · rename_i i j k
        have c1 := and_and c
        have c2 := and_and c1.1
        have c3 := and_and c2.1
        have c4 := and_and c3.1
        have c5 := and_and c4.1
        have c6 := and_and c5.1
        have c7 := and_and c6.1
        have c8 := and_and c7.1
        have c9 := and_and c8.1
        have c10 := and_and c9.1
        have c11 := not_hot c10.1
        have hes := sndsR (hot := hot) es g.toGood tk c1.2 ρ
        cases h1 : evs T es ρ with
        | stuck => exact ps_stuck
        | exc cc fs ρ1 => exact (ps_par3 (g.calm c11.1) g.nd (of_decide_eq_true c10.2) (of_decide_eq_true c9.2) (of_decide_eq_true c8.2) (of_decide_eq_true c7.2) (of_decide_eq_true c6.2) (of_decide_eq_true c5.2) (of_decide_eq_true c4.2) (of_decide_eq_true c3.2) (of_decide_eq_true c2.2) (exA_of hes h1) (par_swap (of_decide_eq_true c11.2))).imp fun D σ H h => exc_inA (Q := fun _ _ => True) h
        | ok a =>
          obtain ⟨ds, ρ1⟩ := a
          show PS X _ (tQ (X.km ea) W ios ρ (if ds.length = _ then _ else _))
          split
          · rename_i hlen
            refine (ps_par3 (g.calm c11.1) g.nd (of_decide_eq_true c10.2) (of_decide_eq_true c9.2) (of_decide_eq_true c8.2) (of_decide_eq_true c7.2) (of_decide_eq_true c6.2) (of_decide_eq_true c5.2) (of_decide_eq_true c4.2) (of_decide_eq_true c3.2) (of_decide_eq_true c2.2) (okA_of hes h1) (par_swap (of_decide_eq_true c11.2))).imp fun D σ H ⟨B, R, kn⟩ => ⟨B, R, fun vs H1 R1 f1 l => ?_⟩
            cases l with
            | nil => cases hlen
            | cons a1 l =>
              cases l with
              | nil => simp at hlen
              | cons a2 l =>
                cases l with
                | nil => simp at hlen
                | cons a3 l =>
                  cases l with
                  | nil =>
                    refine ⟨_, _, _, rfl, kn _ H1 (((R1.setVal i a1).setVal j a2).setVal k a3) f1 ?_⟩
                    exact ((Kp.set (nio i (by simp))).trans (Kp.set (nio j (by simp)))).trans (Kp.set (nio k (by simp)))
                  | cons _ _ => simp at hlen
          · exact ps_stuck
      · cases c
    · cases c
theorem sS_ret {e : IE} : SndS T n ios (.ret e) := by
  intro hot ea X st W g tk c ρ
  simp only [exec]
  simp only [chkS] at c
  split at c
  · have he := sndR (hot := hot) e g.toGood tk c ρ
    cases h1 : ev T e ρ with
    | stuck => exact ps_stuck
    | exc cc fs ρ1 => exact (ps_ret (ex_of he h1)).imp fun D σ H h => exc_in (Q := fun _ _ => True) h
    | ok a =>
      obtain ⟨d, m, ρ1⟩ := a
      have he := ok_of he h1
      cases m with
      | frz => exact (ps_ret he).imp fun D σ H ⟨B, R, kr⟩ => ⟨B, R, fun v H1 R1 f1 rv => kr σ H1 v R1 f1 (Kp.refl σ) rv⟩
      | fresh => exact (ps_ret he).imp fun D σ H ⟨B, R, kr⟩ => ⟨B, R, fun v H1 R1 f1 rv => kr σ H1 v R1 f1 (Kp.refl σ) rv⟩
      | brw i =>
        show PS X _ (tQ (X.km ea) W ios ρ (if i ∈ ios then _ else _))
        split
        · exact ps_stuck
        · rename_i hi
          refine (ps_ret he).imp fun D σ H ⟨B, R, kr⟩ => ⟨B, R, fun v H1 R1 f1 rv => ?_⟩
          obtain ⟨r1, r2⟩ := rv
          obtain ⟨p, g1, g2, g3⟩ := R1.own i _ r2
          rw [r1] at g1
          cases g1
          refine kr (σ.set i none) H1 _ (R1.setNo i) f1 (Kp.set hi) ⟨p, rfl, g3, g2, fun j e hj z => ?_⟩
          rw [set_get] at hj z
          split at hj
          · split at hj <;> cases hj
          · rename_i nij
            rw [if_neg nij] at z
            exact nij (R1.sep i j _ _ p r2 hj r1 z)
  · cases c
theorem sS_ite {z : IE} {a b : ISs} (ha : SndSs T n ios a) (hb : SndSs T n ios b) : SndS T n ios (.ite z a b) := by
  intro hot ea X st W g tk c ρ
  simp only [exec]
  simp only [chkS] at c
  split at c
  · have c1 := and_and c
    have c2 := and_and c1.1
    have c3 := and_and c2.1
    have he := sndTR (hot := hot) z g.toGood tk c3.1 c3.2 ρ
    cases h1 : ev T z ρ with
    | stuck => exact ps_stuck
    | exc cc fs ρ1 => exact (ps_if (exT_of he h1) pss_no pss_no).imp fun D σ H h => exc_inT (Q := fun _ _ => True) h
    | ok x =>
      obtain ⟨d, m, ρ1⟩ := x
      cases d with
      | bl v =>
        cases v with
        | true =>
          refine (ps_if (okT_of he h1) (ha g tk c2.2 ρ1) pss_no).imp fun D σ H ⟨B, R, w⟩ => ⟨B, R, fun H1 R1 f1 => ?_⟩
          refine iteT ?_
          exact ⟨B, R1, wantS.step f1 (Kp.refl σ) w⟩
        | false =>
          refine (ps_if (okT_of he h1) pss_no (hb g tk c1.2 ρ1)).imp fun D σ H ⟨B, R, w⟩ => ⟨B, R, fun H1 R1 f1 => ?_⟩
          refine iteF ?_
          exact ⟨B, R1, wantS.step f1 (Kp.refl σ) w⟩
      | _ => exact ps_stuck
  · cases c
theorem sS_forV {i : Nat} {it : IE} {body : ISs} (hbd : SndSs T n ios body) : SndS T n ios (.forV i it body) := by
  intro hot ea X st W g tk c ρ
  simp only [exec]
  split
  · exact ps_stuck
  · rename_i hi
    simp only [chkS] at c
    split at c
    · rename_i x0 p0 it' b' pos
      have c1 := and_and c
      have c2 := and_and c1.1
      have c3 := and_and c2.1
      have c4 := and_and c3.1
      have c5 := not_hot c4.1
      have hN : X.N[i]? = some x0 := of_decide_eq_true c5.2
      have he := keep_of (sndR (hot := hot) it g.toGood tk c2.2 ρ)
      have pg : PG X (.Name x0 p0) (gName i) := pg_name g.nd hN (locB_of c4.2) (.inl (g.fnT x0))
      have pb : PSs X b' (tQU (X.km ea) W T ios body) := ⟨fun pins s σ H D I ⟨ρ', e2⟩ => (hbd g tk c1.2 ρ').run pins s σ H D I e2⟩
      cases h1 : ev T it ρ with
      | stuck => exact ps_stuck
      | exc cc fs ρ1 =>
        rw [h1] at he
        exact (ps_for g.px (g.calm c5.1) (pi_list he) pg pb (noSet_fold c3.2)).imp fun D σ H h => exc_in (Q := fun _ _ => True) h
      | ok a =>
        obtain ⟨x, m, ρ1⟩ := a
        rw [h1] at he
        cases x with
        | lst ds =>
          refine (ps_for g.px (g.calm c5.1) (pi_list he) pg pb (noSet_fold c3.2)).imp fun D σ H ⟨B, R, w⟩ => ⟨B, R, fun v H1 R1 f1 rv => ?_⟩
          cases rv with
          | lst a l => exact ⟨_, rfl, ⟨_, .inl (.inr ⟨_, a⟩)⟩, loop_snd hi l (walker_list (K := X.km ea) a) R1 (wantS.step f1 (Kp.refl σ) w)⟩
        | tup ds =>
          refine (ps_for g.px (g.calm c5.1) (pi_tup he) pg pb (noSet_fold c3.2)).imp fun D σ H ⟨B, R, w⟩ => ⟨B, R, fun v H1 R1 f1 rv => ?_⟩
          cases rv with
          | tup a l => exact ⟨_, rfl, ⟨_, a⟩, loop_snd hi l (walker_tup (K := X.km ea) a) R1 (wantS.step f1 (Kp.refl σ) w)⟩
        | str s =>
          refine (ps_for g.px (g.calm c5.1) (pi_str he) pg pb (noSet_fold c3.2)).imp fun D σ H ⟨B, R, w⟩ => ⟨B, R, fun v H1 R1 f1 rv => ?_⟩
          cases rv
          exact ⟨_, rfl, loop_snd hi (signs_is s) (walker_str s) R1 (wantS.step f1 (Kp.refl σ) w)⟩
        | _ => exact ps_stuck
    · cases c
theorem sS_forR {i : Nat} {a : IE} {body : ISs} (hbd : SndSs T n ios body) : SndS T n ios (.forR i a body) := by
  intro hot ea X st W g tk c ρ
  simp only [exec]
  split
  · exact ps_stuck
  · rename_i hi
    simp only [chkS] at c
    split at c
    · rename_i x0 p0 r0 p1 a' p2 b' pos
      have c1 := and_and c
      have c2 := and_and c1.1
      have c3 := and_and c2.1
      have c4 := and_and c3.1
      have c5 := and_and c4.1
      have c6 := and_and c5.1
      have c7 := not_hot c6.1
      have hN : X.N[i]? = some x0 := of_decide_eq_true c7.2
      have e1 := of_decide_eq_true c5.2
      subst e1
      have he := sndR (hot := hot) a g.toGood tk c2.2 ρ
      have pg : PG X (.Name x0 p0) (gName i) := pg_name g.nd hN (locB_of c6.2) (.inl (g.fnT x0))
      have pb : PSs X b' (tQU (X.km ea) W T ios body) := ⟨fun pins s σ H D I ⟨ρ', e2⟩ => (hbd g tk c1.2 ρ').run pins s σ H D I e2⟩
      have rule := fun {t : TE} (h : PE X a' t) => ps_for (pos := pos) g.px (g.calm c7.1) (pi_range1 (p := p1) (pos := p2) (glo_of c4.2) g.mod.rng (pa_cons h pa_nil (star_cons c3.2)) (star_cons c3.2)) pg pb (noSet_fold rfl)
      cases h1 : ev T a ρ with
      | stuck => exact ps_stuck
      | exc cc fs ρ1 => exact (rule (ex_of he h1)).imp fun D σ H h => exc_in (Q := fun _ _ => True) h
      | ok v =>
        obtain ⟨x, m, ρ1⟩ := v
        cases x with
        | int j =>
          show PS X _ (tQ (X.km ea) W ios ρ (if -(2 ^ 62) ≤ j ∧ j < 2 ^ 62 then _ else _))
          split
          · rename_i hj
            refine (rule (ok_of he h1)).imp fun D σ H ⟨B, R, w⟩ => ⟨B, R, fun v H1 R1 f1 rv => ?_⟩
            have ev1 := (rdb_of R1 rv).int
            subst ev1
            exact ⟨j, rfl, hj.1, hj.2, loop_snd hi (rng_is j) (walker_rng j) R1 (wantS.step f1 (Kp.refl σ) w)⟩
          · exact ps_stuck
        | _ => exact ps_stuck
    · cases c
theorem sS_app {i : Nat} {e : IE} : SndS T n ios (.app i e) := by
  intro hot ea X st W g tk c ρ
  simp only [chkS] at c
  split at c
  · have c1 := and_and c
    have c2 := and_and c1.1
    have c3 := and_and c2.1
    have c4 := and_and c3.1
    have c5 := and_and c4.1
    have c6 := and_and c5.1
    have e1 := of_decide_eq_true c6.1
    subst e1
    have hN := of_decide_eq_true c6.2
    have he := sndR (hot := hot) e g.toGood tk c1.2 ρ
    simp only [exec]
    split
    · rename_i d0 h0
      cases h1 : ev T e ρ with
      | stuck => exact ps_stuck
      | exc cc fs ρ1 =>
        refine (ps_expr (pe_bm PySem.F.plainAttrs_list PySem.F.slot_list_append PySem.F.type_list_append mt_append (pe_var hN (vis_of c5.2) (odd1 c4.2) (odd2 c4.2)) (pa_cons (ex_of he h1) pa_nil (star_cons c2.2)) rfl (app_few c2.2) c3.2 (star_cons c2.2) rfl)).imp fun D σ H h => ?_
        obtain ⟨B, R, w⟩ := h
        obtain ⟨p, g1, g2, vs0, ds0, e0, g3, g4⟩ := R.own i _ h0
        exact ⟨.ref p, g1, .inl ⟨rfl, vs0, .inl (.inl g3)⟩, exc_in (Q := fun _ _ => True) (D := D) ⟨B, R, w⟩⟩
      | ok a =>
        obtain ⟨d, m, ρ1⟩ := a
        show PS X _ (tQ (X.km ea) W ios ρ (match (keep m ρ1 d)[i]? with | some (.own (.lst ds)) => _ | _ => _))
        split
        · rename_i ds hd
          split
          · rename_i hz
            refine (ps_expr (pe_bm PySem.F.plainAttrs_list PySem.F.slot_list_append PySem.F.type_list_append mt_append (pe_var hN (vis_of c5.2) (odd1 c4.2) (odd2 c4.2)) (pa_cons (pe_keep (ok_of he h1)) pa_nil (star_cons c2.2)) rfl (app_few c2.2) c3.2 (star_cons c2.2) rfl)).imp fun D σ H ⟨B, R, kn⟩ => ?_
            obtain ⟨p, g1, g2, vs0, ds0, e0, g3, g4⟩ := R.own i _ h0
            refine ⟨.ref p, g1, .inl ⟨rfl, vs0, .inl (.inl g3)⟩, B, R, fun v H1 R1 f1 rv => ?_⟩
            obtain ⟨p', k1, k2, vs, ds', e2, k3, k4⟩ := R1.own i _ hd
            rw [g1] at k1
            cases k1
            cases e2
            have fm : FrzLe H1 (upd H1 p (.lst (vs ++ [v]))) := FrzLe.mut k3 rfl
            refine ⟨p, vs, v, rfl, rfl, k3, by rw [k4.length]; exact sm_lt hz, kn σ _ ?_ (f1.trans fm) (Kp.refl σ)⟩
            have hil : i < (keep m ρ1 d).length := (List.getElem?_eq_some_iff.mp hd).1
            refine ⟨fun a o' hb => ?_, ?_, fun j e' hj => ?_, fun j e' hj => ?_, fun j j' a b q a1 a2 a3 a4 => ?_, fun j cc fs hj => ?_⟩
            · rw [upd_ne (fun zz => by subst zz; rw [k2] at hb; cases hb)]; exact R1.base a o' hb
            · rw [List.length_set]; exact R1.len
            · rw [set_get, if_pos hil] at hj
              split at hj
              · cases hj
              · obtain ⟨w, w1, w2⟩ := R1.val j e' hj
                exact ⟨w, w1, w2.mono fm⟩
            · rw [set_get, if_pos hil] at hj
              split at hj
              · rename_i nn
                subst nn
                cases hj
                exact ⟨p, g1, k2, vs ++ [v], _, rfl, upd_same, (k4.append (.cons rv .nil)).mono fm⟩
              · rename_i nn
                obtain ⟨w, w1, w2, w3⟩ := R1.own j e' hj
                refine ⟨w, w1, w2, w3.mono fm (upd_ne fun y => ?_)⟩
                subst y
                exact nn (R1.sep i j _ _ w hd hj g1 w1)
            · have fix : ∀ (jj : Nat) x, ((keep m ρ1 d).set i (.own (.lst (ds ++ [d]))))[jj]? = some (.own x) → ∃ x', (keep m ρ1 d)[jj]? = some (.own x') := fun jj x hx => by
                rw [set_get] at hx
                split at hx
                · rename_i nn; subst nn; exact ⟨_, hd⟩
                · exact ⟨x, hx⟩
              obtain ⟨b1, q1⟩ := fix j a a1
              obtain ⟨b2, q2⟩ := fix j' b a2
              exact R1.sep j j' b1 b2 q q1 q2 a3 a4
            · rw [set_get, if_pos hil] at hj
              split at hj
              · cases hj
              · obtain ⟨x, x1, x2, x3, x4⟩ := R1.exn j cc fs hj
                exact ⟨x, x1, x2, x3, x4.mono fm⟩
          · exact ps_stuck
        · exact ps_stuck
    · exact ps_stuck
  · cases c
end
end Ev
set_option Elab.async false
set_option linter.all false
set_option maxRecDepth 100000
set_option maxHeartbeats 8000000
namespace Ev
open PySem PySem.Spec PyProof.Rows L2
theorem isl_rev {K : KM} {H : Hp} : ∀ {vs : List V} {ds : List Dat}, IsL K H vs ds → IsL K H vs.reverse ds.reverse
  | [], [], _ => .nil
  | v :: vs, d :: ds, .cons a l => by
    rw [List.reverse_cons, List.reverse_cons]
    exact (isl_rev l).append (.cons a .nil)
/-- raise C(e, ..): of what the arguments come to -/
theorem ps_raiD {X : Cx} {W : WX} {ios : List Nat} {k : Nat} {C : Addr} {ns : List Str} {ok : Hp → List V → Prop} {kw : List (List Str)} {x : Str} {e : Expr} {es : List Expr} {p pos pos' : Pos} {ρ ρ1 : DEnv} {ds : List Dat}
    (M : MkX X.prog X.w X.K X.mg X.base k C ns ok kw) (hok : ∀ vs H, IsL (X.km none) H vs ds → ok H vs) (hl : ds.length = ns.length) (hc : X.calm = true) (tk : Takes X W) (hr : Room (k + 1) X.A) (hq : X.A.guards = some []) (hg : Gl X x) (hm : X.mg x = some (.ref C)) (ho : notOdd x = true)
    (ha : PA X (e :: es) (tRA (X.km none) W ρ (.ok (ds, ρ1)))) (he : starEach (e :: es) X.env = (false, eval e X.env) :: starEach es X.env) (hpl : (backTo pos (starEach es X.env)).any (·.1) = false) :
    PS X (.Raise (some (.Call (.Name x p) (e :: es) [] pos)) none pos') (tQ (X.km none) W ios ρ (.exc x ((ns.zip ds).reverse) ρ1)) := by
  refine (ps_raise hc tk (pmk_xF (p := p) tRA_mono M hr hq hg hm ha (odd1 ho) he hpl)).imp fun D σ H q => ?_
  obtain ⟨B, R, w⟩ := q
  refine ⟨B, R, fun vs H1 R1 f1 l => ?_⟩
  have hv : vs.length = ns.length := by rw [l.length, hl]
  refine ⟨hv, fun a ha => hok _ _ (l.mono (FrzLe.new ha)), fun d o hd => ?_⟩
  refine w (.ref C) (some d) σ _ (R1.new hd) (f1.trans (FrzLe.new hd)) (Kp.refl σ) ⟨C, rfl, hm, .inr ⟨d, o, _, rfl, upd_same, ?_, ?_⟩⟩
  · rw [zip_fst hv, zip_fst hl]
  · rw [zip_snd hv, zip_snd hl]
    exact (isl_rev l).mono (FrzLe.new hd)
theorem chks_ns {N : List Str} {hot : Bool} {sc : Scope} {es : IEs} {a : Expr} {as : List Expr} {env : PySem.Env} {pos : Pos} (h : chks N hot sc es (a :: as) = true) : starEach (a :: as) env = (false, eval a env) :: starEach as env ∧ (backTo pos (starEach as env)).any (·.1) = false := by
  have hn := chks_star h
  exact ⟨star_cons (hn a List.mem_cons_self), star_none fun e he => hn e (List.mem_cons_of_mem _ he)⟩
theorem tup_swap {ts : List Expr} {k : Nat} {p : Pos} {e : Expr} {l : Nat} {env : PySem.Env} (h : isTupE e = true) : swapsWithSole [.Tuple ts k p] e l env = pure false ∧ swappedStores [.Tuple ts k p] e env = pure none := by
  cases e <;> first | exact ⟨rfl, rfl⟩ | cases h
def tNm (is : List Nat) : TGs := fun vs σ H Q => vs.length = is.length ∧ Q (setAll is vs σ) H
theorem pgs_nm {X : Cx} (nd : X.N.Nodup) (fn : ∀ x, X.fn x = true) : ∀ {l : List Expr} {is : List Nat}, l.map nameOf = (is.map fun i => X.N[i]?) → (∀ i ∈ is, i < X.N.length) → l.all (isNm X.env.scope) = true →
    PGs X l (tNm is) ∧ (assignEach l X.env).length = is.length ∧ (assignEach l X.env).findIdx? (·.1) = none
  | [], [], _, _, _ => ⟨⟨fun pins s σ H vs us Q I r ⟨hl, q⟩ => by
      cases vs with
      | nil => exact pgs_nil.run pins s σ H [] us Q I r ⟨rfl, q⟩
      | cons _ _ => cases hl⟩, rfl, rfl⟩
  | [], _ :: _, h, _, _ => by simp at h
  | _ :: _, [], h, _, _ => by simp at h
  | t :: l, i :: is, h, hb, ha => by
    have h1 : nameOf t = X.N[i]? := by
      have := congrArg List.head? h
      simpa using this
    have h2 : l.map nameOf = (is.map fun i => X.N[i]?) := by
      have := congrArg List.tail h
      simpa using this
    have a1 : isNm X.env.scope t = true ∧ l.all (isNm X.env.scope) = true := by
      have := ha
      rw [List.all_cons] at this
      exact and_and this
    cases t with
    | Name x p =>
      obtain ⟨i1, i2, i3⟩ := pgs_nm nd fn h2 (fun j hj => hb j (List.mem_cons_of_mem _ hj)) a1.2
      have pg : PG X (.Name x p) (gName i) := pg_name nd h1.symm (locB_of a1.1) (.inl (fn x))
      refine ⟨⟨fun pins s σ H vs us Q I r ⟨hl, q⟩ => ?_⟩, ?_, ?_⟩
      · cases vs with
        | nil => cases hl
        | cons v vs => exact (pgs_cons pg i1).run pins s σ H (v :: vs) us Q I r ⟨v, vs, rfl, by simpa using hl, q⟩
      · show (assignEach l X.env).length + 1 = _
        rw [i2]; rfl
      · show ((false, assign (.Name x p) X.env) :: assignEach l X.env).findIdx? (·.1) = none
        rw [List.findIdx?_cons]
        simp [i3]
    | _ => exact nomatch a1.1
theorem Kp.setAll {ios : List Nat} : ∀ {is : List Nat} {vs : List V} {σ : L2.St}, (∀ i ∈ is, i ∉ ios) → Kp ios σ (setAll is vs σ)
  | [], [], σ, _ => Kp.refl σ
  | [], _ :: _, σ, _ => Kp.refl σ
  | _ :: _, [], σ, _ => Kp.refl σ
  | i :: is, v :: vs, σ, h => (Kp.set (h i List.mem_cons_self)).trans (Kp.setAll (is := is) fun j hj => h j (List.mem_cons_of_mem _ hj))
section
variable {T : Tab} {n : Nat} {ios : List Nat}
theorem sS_unp {is : List Nat} {e : IE} : SndS T n ios (.unp is e) := by
  intro hot ea X st W g tk c ρ
  simp only [exec]
  split
  · exact ps_stuck
  · rename_i hio
    have nio : ∀ i ∈ is, i ∉ ios := fun i hi z => hio (List.any_eq_true.mpr ⟨i, hi, List.contains_iff_mem.mpr z⟩)
    simp only [chkS] at c
    split at c
    · rename_i l k0 p0 e' pos
      have c1 := and_and c
      have c2 := and_and c1.1
      have c3 := and_and c2.1
      have c4 := and_and c3.1
      have c5 := not_hot c4.1
      obtain ⟨s1, s2⟩ := tup_swap (ts := l) (k := k0) (p := p0) (l := pos.line) (env := X.env) c5.2
      have he := keep_of (sndR (hot := hot) e g.toGood tk c1.2 ρ)
      have hb : ∀ i ∈ is, i < X.N.length := fun i hi => by
        have hm := of_decide_eq_true c4.2
        have : X.N[i]? ∈ l.map nameOf := by rw [hm]; exact List.mem_map.mpr ⟨i, hi, rfl⟩
        obtain ⟨t, ht, ht2⟩ := List.mem_map.mp this
        have ht3 := List.all_eq_true.mp c2.2 t ht
        cases t with
        | Name x p => exact (List.getElem?_eq_some_iff.mp ht2.symm).1
        | _ => exact nomatch ht3
      obtain ⟨pg, l1, l2⟩ := pgs_nm g.nd g.fnT (of_decide_eq_true c4.2) hb c2.2
      cases h1 : ev T e ρ with
      | stuck => exact ps_stuck
      | exc cc fs ρ1 =>
        rw [h1] at he
        exact (ps_asg he (pg_tup (g.calm c5.1) pg l1 l2) s1 s2 rfl).imp fun D σ H h => exc_in (Q := fun _ _ => True) h
      | ok a =>
        obtain ⟨d, m, ρ1⟩ := a
        rw [h1] at he
        show PS X _ (tQ (X.km ea) W ios ρ ((ofO (seqs d)).bind fun ds => if ds.length = is.length then .ok (.nx (storeAll is ds (keep m ρ1 d))) else .stuck))
        cases d with
        | tup ds =>
          show PS X _ (tQ (X.km ea) W ios ρ (if ds.length = is.length then _ else _))
          split
          · rename_i hl
            refine (ps_asg he (pg_tup (g.calm c5.1) pg l1 l2) s1 s2 rfl).imp fun D σ H ⟨B, R, w⟩ => ⟨B, R, fun v H1 R1 f1 rv => ?_⟩
            cases rv with
            | tup a l => exact ⟨_, _, rfl, a, by rw [l.length]; exact hl, by rw [l.length]; exact hl, w _ H1 (R1.setAll l (by rw [l.length]; exact hl)) f1 (Kp.setAll nio)⟩
          · exact ps_stuck
        | lst ds =>
          show PS X _ (tQ (X.km ea) W ios ρ (if ds.length = is.length then _ else _))
          split
          · rename_i hl
            refine (ps_asg he (pg_lst (g.calm c5.1) pg l1 l2) s1 s2 rfl).imp fun D σ H ⟨B, R, w⟩ => ⟨B, R, fun v H1 R1 f1 rv => ?_⟩
            cases rv with
            | lst a l => exact ⟨_, _, rfl, .inl (.inr ⟨_, a⟩), by rw [l.length]; exact hl, by rw [l.length]; exact hl, w _ H1 (R1.setAll l (by rw [l.length]; exact hl)) f1 (Kp.setAll nio)⟩
          · exact ps_stuck
        | _ => exact ps_stuck
    · cases c
theorem sS_unpS {i j : Nat} {e : IE} : SndS T n ios (.unpS i j e) := by
  intro hot ea X st W g tk c ρ
  simp only [exec]
  split
  · exact ps_stuck
  · rename_i hio
    simp only [chkS] at c
    split at c
    · rename_i x px y py ps k0 p0 e' pos
      have c1 := and_and c
      have c2 := and_and c1.1
      have c3 := and_and c2.1
      have c4 := and_and c3.1
      have c5 := and_and c4.1
      have c6 := not_hot c5.1
      obtain ⟨s1, s2⟩ := tup_swap (ts := [.Name x px, .Starred (.Name y py) ps]) (k := k0) (p := p0) (l := pos.line) (env := X.env) c6.2
      have he := keep_of (sndR (hot := hot) e g.toGood tk c1.2 ρ)
      have pg : PG X (.Tuple [.Name x px, .Starred (.Name y py) ps] k0 p0) (gStar X.K i j) := pg_star (g.calm c6.1) (pg_name g.nd (of_decide_eq_true c5.2) (locB_of c3.2) (.inl (g.fnT x))) (pg_name g.nd (of_decide_eq_true c4.2) (locB_of c2.2) (.inl (g.fnT y)))
      cases h1 : ev T e ρ with
      | stuck => exact ps_stuck
      | exc cc fs ρ1 =>
        rw [h1] at he
        exact (ps_asg he pg s1 s2 rfl).imp fun D σ H h => exc_in (Q := fun _ _ => True) h
      | ok a =>
        obtain ⟨d, m, ρ1⟩ := a
        rw [h1] at he
        cases d with
        | lst ds =>
          cases ds with
          | nil => exact ps_stuck
          | cons x0 xs =>
            refine (ps_asg he pg s1 s2 rfl).imp fun D σ H ⟨B, R, w⟩ => ⟨B, R, fun v H1 R1 f1 rv => ?_⟩
            cases rv with
            | lst a l =>
              cases l with
              | cons l1 l =>
                refine ⟨_, _, _, rfl, .inl (.inr ⟨_, a⟩), fun p hp => ?_⟩
                refine w _ _ ?_ (f1.trans (FrzLe.new hp)) ((Kp.set fun z => hio (.inl z)).trans (Kp.set fun z => hio (.inr (.inl z))))
                refine REnv.setOwn ((R1.new hp).setVal i (l1.mono (FrzLe.new hp))) j ⟨_, _, rfl, upd_same, l.mono (FrzLe.new hp)⟩ (R1.newB hp) fun k x hk z => ?_
                rw [set_get] at hk z
                split at hk
                · split at hk <;> cases hk
                · rename_i nn
                  rw [if_neg nn] at z
                  exact R1.newS hp k x hk z
        | _ => exact ps_stuck
    · cases c
theorem sS_rai {c0 : Str} : SndS T n ios (.rai c0) := by
  intro hot ea X st W g tk c ρ
  simp only [exec]
  split
  · rename_i he
    simp only [chkS] at c
    split at c
    · have c1 := and_and c
      have c2 := and_and c1.1
      have c3 := not_hot c2.1
      have e1 := of_decide_eq_true c3.2
      subst e1
      obtain ⟨C, m1, F⟩ := g.mod.rse c0 he
      obtain ⟨B, ni, ii, bm, F1, F2⟩ := F.ex
      refine (ps_raise (g.calm c3.1) (takes_ofF g.fr0 tk) (pmk_own F1 F2 m1 F.kp (raises_own F.sb F.ty) (glo_of c2.2) (odd1 c1.2))).imp fun D σ H ⟨B', R, w⟩ => ?_
      exact w (.ref C) none σ H R (FrzLe.refl H) (Kp.refl σ) ⟨C, rfl, m1, .inl ⟨rfl, rfl⟩⟩
    · cases c
  · exact ps_stuck
theorem sS_raiF {c0 : Str} {es : IEs} : SndS T n ios (.raiF c0 es) := by
  intro hot ea X st W g tk c ρ
  simp only [exec]
  split
  · rename_i f fs he
    simp only [chkS] at c
    split at c
    · rename_i x p1 a as p2 p3
      have c1 := and_and c
      have c2 := and_and c1.1
      have c3 := and_and c2.1
      have c4 := not_hot c3.1
      have e1 := of_decide_eq_true c4.2
      subst e1
      have e0 := g.ea0 c4.1
      subst e0
      obtain ⟨C, k, ok, kw, hkn, hm, M, hok, _⟩ := g.mod.rsf c0 f fs he
      have hes := sndsR (hot := hot) es g.toGood tk c1.2 ρ
      have hr : Room (k + 1) X.A := (g.room c4.1).mono hkn
      have ns := chks_ns (env := X.env) (pos := p2) c1.2
      cases h1 : evs T es ρ with
      | stuck => exact ps_stuck
      | exc cc gs ρ1 =>
        have base := ps_raise (pos := p3) (g.calm c4.1) (takes_ofF g.fr0 tk) (pmk_xF (p := p1) (pos := p2) (fun σ H R R' f q => q) M hr g.grd (glo_of c3.2) hm (exA_of hes h1) (odd1 c2.2) ns.1 ns.2)
        exact base.imp fun D σ H q => exc_inA q
      | ok r =>
        obtain ⟨ds, ρ1⟩ := r
        show PS X _ (tQ (X.km none) W ios ρ (if ds.length = fs.length + 1 ∧ T.takes c0 ds = true then _ else _))
        split
        · rename_i hl
          rw [h1] at hes
          exact ps_raiD (ns := f :: fs) M (fun vs H l => hok H vs ds l hl.1 hl.2) hl.1 (g.calm c4.1) (takes_ofF g.fr0 tk) hr g.grd (glo_of c3.2) hm c2.2 hes ns.1 ns.2
        · exact ps_stuck
    · cases c
  · exact ps_stuck
theorem Good.nox {hot : Bool} {ea : Option EA} {X : Cx} (g : GoodS T n hot ea X) : GoodS T n hot ea X.nox :=
  ⟨⟨g.mod, g.calm, g.ea0, g.room, g.nd, g.grd, g.hu, by
    obtain ⟨L, fm⟩ := g.frm
    exact ⟨L, fm.ex, fm.fr⟩, g.eaf⟩, PassesOwn.never, g.fnT, g.st0, g.fr0⟩
theorem sS_try {body suite : ISs} {c0 : Str} {i : Nat} (hb : SndSs T n ios body) (hs : SndSs T n ios suite) : SndS T n ios (.tryA body c0 i suite) := by
  intro hot ea X st W g tk c ρ
  simp only [exec]
  split
  · exact ps_stuck
  · rename_i hi
    simp only [chkS] at c
    split at c
    · rename_i b' x p1 nm s0 ss p2 p3
      have c1 := and_and c
      have c2 := and_and c1.1
      have c3 := and_and c2.1
      have c4 := and_and c3.1
      have c5 := and_and c4.1
      have c6 := and_and c5.1
      have c7 := not_hot c6.1
      have e1 := of_decide_eq_true c7.2
      subst e1
      have hh := c7.1
      subst hh
      have e0 := g.ea0 rfl
      subst e0
      cases h1 : execs T ios body ρ with
      | stuck => exact ps_stuck
      | ok o =>
        have z := hb (W := fun _ _ _ _ => False) (Good.nox g) takesF_never c2.2 ρ
        rw [h1] at z
        refine (ps_try_thru0 z).imp fun D σ H ⟨B, R, w⟩ => ⟨B, R, ?_⟩
        cases o with
        | nx ρ1 => exact w
        | rt d new ρ1 => exact w
      | exc cc fs ρ1 =>
        show PS X _ (tQ (X.km none) W ios ρ (match T.sub cc c0 with | some true => _ | some false => _ | none => _))
        cases hsub : T.sub cc c0 with
        | none => exact ps_stuck
        | some b =>
          obtain ⟨C, v, m1, F, m2, m3, m4, m5⟩ := g.mod.sub cc c0 b hsub
          have hc : Names X c0 v := ⟨glo_of c6.2, odd1 c5.2, m2⟩
          have hbody : ∀ (W : WX) (pn : List (Addr × Obj)) (xe : Value → Shared → Prop), Takes (X.tr pn xe) W → PassesOwn (model X.prog X.w) X.A X.env xe → PSs (X.tr pn xe) b' (tQ (X.km none) W ios ρ (.exc cc fs ρ1)) := fun W' pn xe tk' px => by
            have z := hb (X := X.tr pn xe) (W := W') (hot := false) (ea := none) ⟨⟨g.mod, g.calm, g.ea0, g.room, g.nd, g.grd, g.hu, by
              obtain ⟨L, fm⟩ := g.frm
              exact ⟨L, fm.ex, fm.fr⟩, fun e he => nomatch he⟩, px, g.fnT, g.st0, g.fr0⟩ (takesF_ofT g.fr0 tk') c2.2 ρ
            rw [h1] at z
            exact z
          have hsu : ∀ (a : Addr) (oe : Obj) (cls : Value) (d : Option Addr) (pn : List (Addr × Obj)), Zc cls d oe → (∃ vs, oe.data = .fields vs) → PSs (X.suite a ((a, oe) :: pn)) (s0 :: ss)
              (fun D σ H => ∃ C ρs, cls = .ref C ∧ tQ ⟨X.K, X.mg, some ⟨a, d, C⟩⟩ (fun _ _ _ _ => False) ios ρs (execs T ios suite ρs) D σ H) := fun a oe cls d pn hz hf => by
            refine ⟨fun pins s σ H D I ⟨C, ρs, e, q⟩ => ?_⟩
            subst e
            have gS : GoodS T n true (some ⟨a, d, C⟩) (X.suite a ((a, oe) :: pn)) := ⟨⟨g.mod, (fun z => nomatch z), (fun z => nomatch z), (fun z => nomatch z), g.nd, g.grd, g.hu, by
              obtain ⟨L, fm⟩ := g.frm
              exact ⟨L, fm.ex, fm.fr⟩, fun e he => by cases he; exact ⟨oe, List.mem_cons_self, hz, hf⟩⟩, PassesOwn.never, g.fnT, g.st0, g.fr0⟩
            exact (hs (X := X.suite a ((a, oe) :: pn)) gS takesF_never c1.2 ρs).run pins s σ H D I q
          refine (ps_try_as g.st0 g.fr0 g.nd (of_decide_eq_true c4.2) (of_decide_eq_true c3.2) hc (takes_ofF g.fr0 tk) hbody hsu).imp fun D σ H ⟨B, R, w⟩ => ⟨B, R, ?_⟩
          intro cls d σ' H' R' f' k' xc
          obtain ⟨C', rfl, m1', xd⟩ := xc
          have eC : C' = C := by
            have z : X.mg cc = some (.ref C') := m1'
            rw [m1] at z
            cases z
            rfl
          subst eC
          refine ⟨b, m5, fun hbt a na => ?_, fun hbf => ?_⟩
          · subst hbt
            refine ⟨C', ρ1.set i (.exn cc fs), rfl, B, REnv.caught (e := ⟨a, d, C'⟩) R' m1 xd, ?_⟩
            have w' : wantS (X.km none) W B ios σ H D (gone i (execs T ios suite (ρ1.set i (.exn cc fs)))) := w
            cases h2 : execs T ios suite (ρ1.set i (.exn cc fs)) with
            | stuck => rw [h2] at w'; exact w'
            | exc c9 f9 r9 => rw [h2] at w'; exact (show False from w').elim
            | ok o =>
              rw [h2] at w'
              cases o with
              | nx ρ2 => exact fun σ2 H2 R2 f2 k2 => w' _ H2 R2.gone (f'.trans f2) (((k'.trans (Kp.set hi)).trans k2).trans (Kp.set hi))
              | rt d2 new ρ2 => exact fun σ2 H2 v2 R2 f2 k2 rv => w' _ H2 v2 R2.gone (f'.trans f2) (((k'.trans (Kp.set hi)).trans k2).trans (Kp.set hi)) rv.gone
          · subst hbf
            exact w (.ref C') d σ' H' R' f' k' ⟨C', rfl, m1, xd⟩
    · cases c
theorem sSs_nil : SndSs T n ios .nil := by
  intro hot ea X l W g tk c ρ
  simp only [execs]
  simp only [chkSs] at c
  split at c
  · exact pss_nil.imp fun D σ H ⟨B, R, w⟩ => w σ H R (FrzLe.refl H) (Kp.refl σ)
  · cases c
theorem sSs_cons {s : IS} {r : ISs} (h1 : SndS T n ios s) (h2 : SndSs T n ios r) : SndSs T n ios (.cons s r) := by
  intro hot ea X l W g tk c ρ
  simp only [execs]
  simp only [chkSs] at c
  split at c
  · have c1 := and_and c
    have hs := h1 g tk c1.1 ρ
    cases q : exec T ios s ρ with
    | stuck => exact ⟨fun _ _ _ _ _ _ ⟨_, _, h⟩ => (show False from h).elim⟩
    | exc cc fs ρ1 =>
      rw [q] at hs
      exact (pss_cons hs pss_no).imp fun D σ H ⟨B, R, w⟩ => ⟨B, R, w⟩
    | ok o =>
      rw [q] at hs
      cases o with
      | nx ρ1 => exact (pss_cons hs (h2 g tk c1.2 ρ1)).imp fun D σ H ⟨B, R, w⟩ => ⟨B, R, fun σ' H' R' f' k' => ⟨B, R', wantS.step f' k' w⟩⟩
      | rt d new ρ1 => exact (pss_cons hs pss_no).imp fun D σ H ⟨B, R, w⟩ => ⟨B, R, fun σ' H' v R' f' k' rv => w σ' H' v R' f' k' rv⟩
  · cases c
end
mutual
theorem sndSR {T : Tab} {n : Nat} {ios : List Nat} : ∀ s : IS, SndS T n ios s
  | .set i e => sS_set
  | .par is es => sS_par
  | .ret e => sS_ret
  | .ite z a b => sS_ite (sndSsR a) (sndSsR b)
  | .forV i it body => sS_forV (sndSsR body)
  | .forR i a body => sS_forR (sndSsR body)
  | .app i e => sS_app
  | .unp is e => sS_unp
  | .unpS i j e => sS_unpS
  | .rai c => sS_rai
  | .raiF c es => sS_raiF
  | .tryA body c i suite => sS_try (sndSsR body) (sndSsR suite)
theorem sndSsR {T : Tab} {n : Nat} {ios : List Nat} : ∀ ss : ISs, SndSs T n ios ss
  | .nil => sSs_nil
  | .cons s r => sSs_cons (sndSR s) (sndSsR r)
end
end Ev
set_option Elab.async false
set_option linter.all false
set_option maxRecDepth 100000
set_option maxHeartbeats 8000000
namespace Ev
open PySem PySem.Spec PyProof.Rows L2
variable {ea : Option EA}

def ioIx : Nat → List Bool → List Nat
  | _, [] => []
  | k, true :: r => k :: ioIx (k + 1) r
  | k, false :: r => ioIx (k + 1) r
def env0 : List Bool → List Dat → Nat → DEnv
  | true :: io, d :: ds, n => .own d :: env0 io ds (n - 1)
  | false :: io, d :: ds, n => .val d :: env0 io ds (n - 1)
  | _, _, n => List.replicate n .no
def outsOf (ρ : DEnv) : List Nat → Option (List Dat)
  | [] => some []
  | i :: r => (match ρ[i]? with
    | some (.own d) => (outsOf ρ r).map (d :: ·)
    | _ => none)
/-- what is known of the changed ones where an exception leaves the def -/
def ownOr : Option Slot → Slot
  | some (.own d) => .own d
  | _ => .no
def outsXof (ρ : DEnv) (is : List Nat) : DEnv := is.map fun i => ownOr ρ[i]?
/-- a def by its body -/
def FI.of (T : Tab) (n : Nat) (io : List Bool) (body : ISs) : FI where
  io := io
  run := fun ds => if ds.length = io.length then (match execs T (ioIx 0 io) body (env0 io ds n) with
      | .ok (.nx ρ) => (ofO (outsOf ρ (ioIx 0 io))).bind fun outs => .ok (.non, false, outs)
      | .ok (.rt d new ρ) => (ofO (outsOf ρ (ioIx 0 io))).bind fun outs => .ok (d, new, outs)
      | .exc c fs ρ => .exc c fs (outsXof ρ (ioIx 0 io))
      | .stuck => .stuck)
    else .stuck

section
variable {K : KM} {H : Hp}
theorem env0_len : ∀ {io : List Bool} {ds : List Dat} {n : Nat}, ds.length = io.length → io.length ≤ n → (env0 io ds n).length = n
  | [], [], n, _, _ => by simp [env0]
  | true :: io, d :: ds, n, h, hn => by
    have h' : ds.length = io.length := by simpa using h
    have hn' : io.length + 1 ≤ n := hn
    show (env0 io ds (n - 1)).length + 1 = n
    rw [env0_len h' (by omega)]; omega
  | false :: io, d :: ds, n, h, hn => by
    have h' : ds.length = io.length := by simpa using h
    have hn' : io.length + 1 ≤ n := hn
    show (env0 io ds (n - 1)).length + 1 = n
    rw [env0_len h' (by omega)]; omega
theorem ioA_mem : ∀ {io : List Bool} {vs : List V} {i : Nat} {p : Addr}, io[i]? = some true → vs[i]? = some (.ref p) → p ∈ ioA io vs
  | true :: io, v :: vs, 0, p, _, h => by
    cases h
    exact List.mem_cons_self
  | true :: io, v :: vs, i + 1, p, h1, h2 => by
    have := ioA_mem (io := io) (vs := vs) (i := i) (p := p) h1 h2
    cases v <;> first | exact List.mem_cons_of_mem _ this | exact this
  | false :: io, v :: vs, i + 1, p, h1, h2 => by
    have := ioA_mem (io := io) (vs := vs) (i := i) (p := p) h1 h2
    cases v <;> exact this
theorem ioA_inj : ∀ {io : List Bool} {vs : List V} {i j : Nat} {p : Addr}, (ioA io vs).Nodup → io[i]? = some true → io[j]? = some true → vs[i]? = some (.ref p) → vs[j]? = some (.ref p) → i = j
  | true :: io, v :: vs, 0, 0, p, _, _, _, _, _ => rfl
  | true :: io, v :: vs, 0, j + 1, p, nd, _, h2, h3, h4 => by
    cases h3
    exact absurd (ioA_mem (io := io) (vs := vs) h2 h4) (List.nodup_cons.mp (show (p :: ioA io vs).Nodup from nd)).1
  | true :: io, v :: vs, i + 1, 0, p, nd, h1, _, h3, h4 => by
    cases h4
    exact absurd (ioA_mem (io := io) (vs := vs) h1 h3) (List.nodup_cons.mp (show (p :: ioA io vs).Nodup from nd)).1
  | true :: io, v :: vs, i + 1, j + 1, p, nd, h1, h2, h3, h4 => by
    have nd' : (ioA io vs).Nodup := by cases v <;> first | exact (List.nodup_cons.mp nd).2 | exact nd
    exact congrArg (· + 1) (ioA_inj (io := io) (vs := vs) nd' h1 h2 h3 h4)
  | false :: io, v :: vs, i + 1, j + 1, p, nd, h1, h2, h3, h4 => by
    have nd' : (ioA io vs).Nodup := by cases v <;> exact nd
    exact congrArg (· + 1) (ioA_inj (io := io) (vs := vs) nd' h1 h2 h3 h4)
  | false :: io, v :: vs, 0, _, p, nd, h1, h2, h3, h4 => nomatch h1
  | false :: io, v :: vs, _ + 1, 0, p, nd, h1, h2, h3, h4 => nomatch h2
theorem args_at : ∀ {io : List Bool} {vs : List V} {ds : List Dat} {n i : Nat} {s : Slot}, argsR K H io vs ds → (env0 io ds n)[i]? = some s → s = .no ∨
    (∃ v d, vs[i]? = some v ∧ io[i]? = some false ∧ s = .val d ∧ Is K H v d) ∨ ∃ p d, vs[i]? = some (.ref p) ∧ io[i]? = some true ∧ s = .own d ∧ Own K H p d
  | [], [], [], n, i, s, _, h => by
    have h' : (List.replicate n Slot.no)[i]? = some s := h
    rw [List.getElem?_replicate] at h'
    split at h' <;> cases h'
    exact .inl rfl
  | true :: io, v :: vs, d :: ds, n, 0, s, a, h => by
    cases h
    obtain ⟨p, rfl, o⟩ := a.1
    exact .inr (.inr ⟨p, d, rfl, rfl, rfl, o⟩)
  | false :: io, v :: vs, d :: ds, n, 0, s, a, h => by
    cases h
    exact .inr (.inl ⟨v, d, rfl, rfl, rfl, a.1⟩)
  | true :: io, v :: vs, d :: ds, n, i + 1, s, a, h => args_at (io := io) (vs := vs) (ds := ds) (n := n - 1) (i := i) a.2 h
  | false :: io, v :: vs, d :: ds, n, i + 1, s, a, h => args_at (io := io) (vs := vs) (ds := ds) (n := n - 1) (i := i) a.2 h
theorem start_at {N : List Str} {vs : List V} {i : Nat} {v : V} (h : vs[i]? = some v) : (L2.start N vs)[i]? = some (some v) := by
  unfold L2.start
  have hi := (List.getElem?_eq_some_iff.mp h).1
  rw [List.getElem?_append_left (by rw [List.length_map]; exact hi), List.getElem?_map, h]
  rfl
theorem start_len {N : List Str} {vs : List V} (h : vs.length ≤ N.length) : (L2.start N vs).length = N.length := by
  unfold L2.start
  rw [List.length_append, List.length_map, List.length_replicate]
  omega
theorem renv_start {io : List Bool} {vs : List V} {ds : List Dat} {N : List Str} (a : argsR K H io vs ds) (nd : (ioA io vs).Nodup) (hn : io.length ≤ N.length) :
    REnv K (fun b => if b ∈ ioA io vs then none else H b) (L2.start N vs) H (env0 io ds N.length) := by
  have la := argsR_len a
  refine ⟨fun b o h => ?_, ?_, fun i d h => ?_, fun i d h => ?_, fun i j d e p h1 h2 h3 h4 => ?_, fun i c fs h => ?_⟩
  · by_cases z : b ∈ ioA io vs
    · rw [if_pos z] at h; cases h
    · rw [if_neg z] at h; exact h
  · rw [start_len (by omega), env0_len la.2 hn]
  · rcases args_at a h with z | ⟨v, d', h1, _, e, h3⟩ | ⟨p, d', _, _, e, _⟩
    · cases z
    · cases e; exact ⟨v, start_at h1, h3⟩
    · cases e
  · rcases args_at a h with z | ⟨v, d', h1, _, e, h3⟩ | ⟨p, d', h1, h2, e, h3⟩
    · cases z
    · cases e
    · cases e
      exact ⟨p, start_at h1, if_pos (ioA_mem h2 h1), h3⟩
  · rcases args_at a h1 with z | ⟨v, d', _, _, e, _⟩ | ⟨p1, d1, a1, b1, e, _⟩
    · cases z
    · cases e
    · rcases args_at a h2 with z | ⟨v, d', _, _, e, _⟩ | ⟨p2, d2, a2, b2, e, _⟩
      · cases z
      · cases e
      · have q1 := (start_at (N := N) a1).symm.trans h3
        have q2 := (start_at (N := N) a2).symm.trans h4
        cases q1
        cases q2
        exact ioA_inj nd b1 b2 a1 a2
  · rcases args_at a h with z | ⟨v, d', _, _, e, _⟩ | ⟨p, d', _, _, e, _⟩
    · cases z
    · cases e
    · cases e
theorem outs_are {B : Hp} {σ' : L2.St} {H' : Hp} {ρ' : DEnv} (R : REnv K B σ' H' ρ') : ∀ {k : Nat} {io : List Bool} {vs : List V} {ds outs : List Dat}, argsR K H io vs ds → (∀ j v, io[j]? = some true → vs[j]? = some v → σ'[k + j]? = some (some v)) →
    outsOf ρ' (ioIx k io) = some outs → outsR K H' (ioA io vs) outs ∧ ∀ p ∈ ioA io vs, ∃ (i : Nat) (e : Dat), ρ'[i]? = some (Slot.own e) ∧ σ'[i]? = some (some (V.ref p))
  | k, [], [], [], outs, _, _, h => by
    cases h
    exact ⟨trivial, fun p z => nomatch z⟩
  | k, true :: io, v :: vs, d :: ds, outs, a, hs, h => by
    obtain ⟨p, rfl, o⟩ := a.1
    have h' : (match ρ'[k]? with
      | some (.own d) => (outsOf ρ' (ioIx (k + 1) io)).map (d :: ·)
      | _ => none) = some outs := h
    split at h'
    · rename_i d' hd
      cases q : outsOf ρ' (ioIx (k + 1) io) with
      | none => rw [q] at h'; cases h'
      | some os =>
        rw [q] at h'
        cases h'
        have hk : σ'[k]? = some (some (.ref p)) := hs 0 _ rfl rfl
        obtain ⟨p', g1, g2, g3⟩ := R.own k d' hd
        rw [hk] at g1
        cases g1
        obtain ⟨i1, i2⟩ := outs_are R (k := k + 1) a.2 (fun j w h1 h2 => by
          have := hs (j + 1) w h1 h2
          rw [show k + 1 + j = k + (j + 1) by omega]; exact this) q
        refine ⟨⟨g3, i1⟩, fun q hq => ?_⟩
        rcases List.mem_cons.mp (show q ∈ p :: ioA io vs from hq) with z | z
        · subst z; exact ⟨k, d', hd, hk⟩
        · exact i2 q z
    · cases h'
  | k, false :: io, v :: vs, d :: ds, outs, a, hs, h => by
    obtain ⟨i1, i2⟩ := outs_are R (k := k + 1) (io := io) (vs := vs) (ds := ds) (outs := outs) a.2 (fun j w h1 h2 => by
          have := hs (j + 1) w h1 h2
          rw [show k + 1 + j = k + (j + 1) by omega]; exact this) h
    have e : ioA (false :: io) (v :: vs) = ioA io vs := by cases v <;> rfl
    rw [e]
    exact ⟨i1, i2⟩
theorem outsX_are {B : Hp} {σ' : L2.St} {H' : Hp} {ρ' : DEnv} (R : REnv K B σ' H' ρ') : ∀ {k : Nat} {io : List Bool} {vs : List V} {ds : List Dat}, argsR K H io vs ds → (∀ j v, io[j]? = some true → vs[j]? = some v → σ'[k + j]? = some (some v)) →
    outsX K H' (ioA io vs) (outsXof ρ' (ioIx k io))
  | k, [], [], [], _, _ => trivial
  | k, true :: io, v :: vs, d :: ds, a, hs => by
    obtain ⟨p, rfl, o⟩ := a.1
    have ih := outsX_are R (k := k + 1) (io := io) a.2 (fun j w h1 h2 => by
          have := hs (j + 1) w h1 h2
          rw [show k + 1 + j = k + (j + 1) by omega]; exact this)
    have hk : σ'[k]? = some (some (.ref p)) := hs 0 _ rfl rfl
    show outsX K H' (p :: ioA io vs) (ownOr ρ'[k]? :: outsXof ρ' (ioIx (k + 1) io))
    cases q : ρ'[k]? with
    | none => exact ih
    | some s =>
      cases s with
      | own d' =>
        obtain ⟨p', g1, g2, g3⟩ := R.own k d' q
        rw [hk] at g1
        cases g1
        exact ⟨g3, ih⟩
      | no => exact ih
      | val _ => exact ih
      | exn _ _ => exact ih
  | k, false :: io, v :: vs, d :: ds, a, hs => by
    have ih := outsX_are R (k := k + 1) (io := io) a.2 (fun j w h1 h2 => by
          have := hs (j + 1) w h1 h2
          rw [show k + 1 + j = k + (j + 1) by omega]; exact this)
    have e : ioA (false :: io) (v :: vs) = ioA io vs := by cases v <;> rfl
    rw [e]
    exact ih
theorem ioIx_mem : ∀ {k : Nat} {io : List Bool} {j : Nat}, io[j]? = some true → k + j ∈ ioIx k io
  | k, true :: io, 0, _ => List.mem_cons_self
  | k, true :: io, j + 1, h => by
    have := ioIx_mem (k := k + 1) (io := io) (j := j) h
    refine List.mem_cons_of_mem _ ?_
    rw [show k + (j + 1) = k + 1 + j by omega]; exact this
  | k, false :: io, j + 1, h => by
    have := ioIx_mem (k := k + 1) (io := io) (j := j) h
    show k + (j + 1) ∈ ioIx (k + 1) io
    rw [show k + (j + 1) = k + 1 + j by omega]; exact this
end

theorem dfn {T : Tab} {k : Nat} {P : Program} {w : World} {K : PySem.W.Frag} {mg : Str → Option Value} {base : Heap} {f : Addr} {x qual : Str} {st : Stmt} {fd : FuncData} {N ps : List Str} {io : List Bool} {body : ISs}
    (M : ModF T k P w K mg base) (F : Fun K x qual st f fd) (S : FnScope N ps (defScope st)) (hl : io.length = ps.length) (c : chkSs N false (defScope st) body (defBody st) = true) :
    FnG P w K mg base (k + 1) f fd ps (spD ⟨K, mg, none⟩ (FI.of T N.length io body)) := by
  have hpn : io.length ≤ N.length := by
    have := congrArg List.length S.pre
    rw [List.length_take] at this
    omega
  refine fnG_of F S (fun vs H Q E h => ?_) fun cdv A outer s H vs Q E hr hg h => ?_
  · obtain ⟨ds, a, _⟩ := h
    rw [(argsR_len a).1, ← hl]; rfl
  · obtain ⟨ds, a, nd, k'⟩ := h
    have hrun : runR ⟨K, mg, none⟩ io vs H Q E (if ds.length = io.length then (match execs T (ioIx 0 io) body (env0 io ds N.length) with
      | .ok (.nx ρ) => (ofO (outsOf ρ (ioIx 0 io))).bind fun outs => .ok (.non, false, outs)
      | .ok (.rt d new ρ) => (ofO (outsOf ρ (ioIx 0 io))).bind fun outs => .ok (d, new, outs)
      | .exc c fs ρ => .exc c fs (outsXof ρ (ioIx 0 io))
      | .stuck => .stuck) else .stuck) := k'
    rw [if_pos (show ds.length = io.length from (argsR_len a).2)] at hrun
    have G : GoodS T k false none (cxOf (CX P w) P w K mg base N qual (defScope st) f cdv A outer s H E) :=
      ⟨⟨M, (fun _ => rfl), (fun _ => rfl), (fun _ => hr), S.nd, hg, by have := hr.un; show (A.deeper (envOfC qual (defScope st) s.heap.objs.size f cdv)).units + 64 < cLine; omega, ⟨_, ⟨_, _, rfl, rfl⟩, rfl⟩, fun e he => nomatch he⟩, passes_of rfl, fun _ => rfl, rfl, rfl⟩
    have hb := sndSsR (T := T) (n := k) (ios := ioIx 0 io) body G (takesF_of rfl rfl rfl rfl) c (env0 io ds N.length)
    refine ⟨_, hb, _, renv_start (N := N) a nd hpn, ?_⟩
    have at0 : ∀ {σ' : L2.St}, Kp (ioIx 0 io) (start N vs) σ' → ∀ j v, io[j]? = some true → vs[j]? = some v → σ'[0 + j]? = some (some v) := fun {σ'} kp j v h1 h2 => by
      rw [kp (0 + j) (ioIx_mem h1), Nat.zero_add]; exact start_at h2
    cases hx : execs T (ioIx 0 io) body (env0 io ds N.length) with
    | stuck => rw [hx] at hrun; exact hrun
    | exc cc fs ρ' =>
      rw [hx] at hrun
      intro cls d σ' H' R' f' kp xc
      exact hrun cls d H' ⟨fun b ob hb hn => R'.base b ob ((if_neg hn).trans hb), f', outsX_are R' (k := 0) a (at0 kp), xc⟩
    | ok o =>
      rw [hx] at hrun
      cases o with
      | nx ρ' =>
        have hrun : runR ⟨K, mg, none⟩ io vs H Q E ((ofO (outsOf ρ' (ioIx 0 io))).bind fun outs => .ok (.non, false, outs)) := hrun
        cases ho : outsOf ρ' (ioIx 0 io) with
        | none => rw [ho] at hrun; exact (show False from hrun).elim
        | some outs =>
          rw [ho] at hrun
          intro σ' H' R' f' kp
          obtain ⟨o1, o2⟩ := outs_are R' (k := 0) a (at0 kp) ho
          exact hrun _ H' ⟨fun b ob hb hn => R'.base b ob ((if_neg hn).trans hb), f', o1, .non⟩
      | rt d new ρ' =>
        have hrun : runR ⟨K, mg, none⟩ io vs H Q E ((ofO (outsOf ρ' (ioIx 0 io))).bind fun outs => .ok (d, new, outs)) := hrun
        cases ho : outsOf ρ' (ioIx 0 io) with
        | none => rw [ho] at hrun; exact (show False from hrun).elim
        | some outs =>
          rw [ho] at hrun
          intro σ' H' v R' f' kp rv
          obtain ⟨o1, o2⟩ := outs_are R' (k := 0) a (at0 kp) ho
          refine hrun v H' ⟨fun b ob hb hn => R'.base b ob ((if_neg hn).trans hb), f', o1, ?_⟩
          cases new with
          | false => exact rv
          | true =>
            obtain ⟨p, rfl, ho, bp, ns⟩ := rv
            refine ⟨p, rfl, ?_, ho⟩
            have bp' : (if p ∈ ioA io vs then none else H p) = none := bp
            split at bp'
            · rename_i hp
              obtain ⟨i, e, g1, g2⟩ := o2 p hp
              exact absurd g2 (ns i e g1)
            · exact bp'
/-- one def more -/
def Tab.add (T : Tab) (x : Str) (fi : FI) : Tab := { T with fn := fun y => if y = x then some fi else T.fn y }
theorem ModF.add {T : Tab} {n : Nat} {P : Program} {w : World} {K : PySem.W.Frag} {mg : Str → Option Value} {base : Heap} {x : Str} {fi : FI} {a : Addr} {fd : FuncData} {ps : List Str} (M : ModF T n P w K mg base)
    (h1 : mg x = some (.ref a)) (h2 : PySem.W.keepIn K (.ref a) = true) (h3 : Binds K fd ps []) (h4 : FnG P w K mg base (n + 1) a fd ps (spD ⟨K, mg, none⟩ fi)) (h5 : ∀ qs, T.kw x = some qs → ps = qs ∧ KwB K fd ps) : ModF (T.add x fi) (n + 1) P w K mg base :=
  ⟨M.sys, M.bt, M.isi, M.rng, M.tys, M.con, fun f g e => by
    have e' : (if f = x then some fi else T.fn f) = some g := e
    split at e'
    · rename_i z
      subst z
      cases e'
      exact ⟨a, fd, ps, n + 1, Nat.le_refl _, h1, h2, h3, h4, h5⟩
    · obtain ⟨a', fd', ps', k', g1, g2⟩ := M.fns f g e'
      exact ⟨a', fd', ps', k', by omega, g2⟩, M.exf, M.cls, M.rse, fun c f fs e => by
      obtain ⟨C, k, ok, kw, g1, g2⟩ := M.rsf c f fs e
      exact ⟨C, k, ok, kw, by omega, g2⟩, M.sub⟩
end Ev
set_option Elab.async false
set_option linter.all false
set_option maxRecDepth 100000
set_option maxHeartbeats 4000000
namespace Ev
open PySem PySem.Spec PyProof.Rows L2
/-- the law's call, by the promise of plain data -/
theorem law_endG {P : Program} {w : World} {K : PySem.W.Frag} {mg mb : Str → Option Value} {k : Nat} {fa a : Addr} {fd : FuncData} {x : Str} {t : Shared} {us : List Value} {ns : List Int} {fi : FI}
    (KX : K.In t.heap) (h1 : t.heap.Ns mainGlobals mg) (h2 : t.heap.Ns builtinsNs mb) (h3 : ∀ y : Str, y ≠ "__name__" → mb y = bootBuiltins y) (h4 : t.heap.NoLimit) (h5 : t.gens = #[])
    (h6 : t.heap.get? a = some { cls := .type "list", data := .seq us.toArray }) (h7 : IntsAre us ns) (h8 : ns.length ≤ sizeLine) (hna : a ≠ sysModules) (room : Room k callerA)
    (hsy : HasSys t.heap) (F : ∀ base : Heap, K.In base → base.Ns mainGlobals mg → HasSys base → FnG P w K mg base k fa fd [x] (spD ⟨K, mg, none⟩ fi)) (bnd : ∀ (s : Shared) (u : Value), BindsTo s fd ⟨[u], []⟩ [(x, u)])
    (hio : fi.io = [false]) (hrun : fi.run [.scr ns] = .ok (.bl true, false, [])) :
    codeAny (model P w) callerA (.call (.ref fa) ⟨[.ref a], []⟩) (fun r s' => r = .ok (.ret (.bool true)) ∧ OldK t.heap s'.heap ∧ s'.os = t.os ∧ AllBare s'.gens) t := by
  have rel := vals_ints h7
  have len7 := h7.length
  have hne : a ≠ sysModules := hna
  have core : ∀ H : Hp, (∀ b, H b = none ∨ (b = a ∧ ∃ o u, H b = some (.frz o u))) → SqF ⟨K, mg, none⟩ H a (ns.map V.int) → HOk P w H t.heap → (H a ≠ none → K.lookup a = none) →
      codeAny (model P w) callerA (.call (.ref fa) ⟨[.ref a], []⟩) (fun r s' => r = .ok (.ret (.bool true)) ∧ OldK t.heap s'.heap ∧ s'.os = t.os ∧ AllBare s'.gens) t := by
    intro H only sq hok hK
    have offA : ∀ b, H b ≠ none → b = a := fun b z => by
      rcases only b with q | ⟨q, _⟩
      · exact absurd q z
      · exact q
    have noD : ∀ {b : Addr} {ob : Obj} {es : Array DictEntry} {ep : Nat}, t.heap.get? b = some ob → ob.data = .dict es ep → H b = none := by
      intro b ob es ep e1 e2
      cases q : H b with
      | none => rfl
      | some u =>
        exfalso
        have eb := offA b (by rw [q]; exact fun z => nomatch z)
        subst eb
        rw [h6] at e1
        cases e1
        exact nomatch e2
    have nsT : ∀ {b : Addr} {mm : Str → Option Value}, t.heap.Ns b mm → (hidT t.heap H).Ns b mm := by
      rintro b mm ⟨ob, es, ep, e1, e2, e3⟩
      exact ⟨ob, es, ep, hidT_get e1 (noD e1 e2), e2, e3⟩
    have KB : K.In (hidT t.heap H) := by
      intro b ob e
      refine hidT_get (KX b ob e) ?_
      cases q : H b with
      | none => rfl
      | some u =>
        exfalso
        have eb := offA b (by rw [q]; exact fun z => nomatch z)
        subst eb
        rw [hK (by rw [q]; exact fun z => nomatch z)] at e
        cases e
    obtain ⟨mc, c1, c2⟩ := h4
    have env : Env0 P w K mg (hidT t.heap H) callerA [] t H :=
      ⟨rfl, ⟨KB, nsT h1, ⟨mb, nsT h2, h3⟩, ⟨mc, nsT c1, c2⟩⟩, fun b ob e => of_hidT e, Nat.le_of_eq (hidT_size _ _), trivial, fun b z => (nomatch (show b ∈ ([] : List Addr) from z)), hok, .of_eq h5⟩
    have sp : spD ⟨K, mg, none⟩ fi [.ref a] H (fun v _ => v = .bl true) (fun _ _ _ => False) := by
      refine ⟨[.scr ns], ?_, ?_, ?_⟩
      · rw [hio]; exact ⟨.scr sq, trivial⟩
      · rw [hio]; exact List.nodup_nil
      · rw [hrun]
        intro v H' P
        cases P.2.2.2
        rfl
    have hsyB : HasSys (hidT t.heap H) := by
      obtain ⟨o, ho⟩ := hsy
      cases q : H sysModules with
      | none => exact ⟨o, hidT_get ho q⟩
      | some u => exact absurd (offA _ (by rw [q]; exact fun z => nomatch z)) (fun z => hne z.symm)
    refine codeAny_mono ((F _ KB (nsT h1) hsyB).run callerA [] t H ⟨[.ref a], []⟩ [.ref a] [.ref a] _ _ room rfl env (bnd t (.ref a)) (.cons rfl .nil) sp) ?_
    intro r s' q
    cases r with
    | error e =>
      obtain ⟨_, _, _, _, _, _, _, _, _, _, _, _, z⟩ := q
      exact z.elim
    | ok fl =>
      cases fl with
      | next => exact False.elim q
      | brk => exact False.elim q
      | cont => exact False.elim q
      | ret u =>
        obtain ⟨v, H', os, bare, un, hok', rv, qv⟩ := q
        have qv' : v = .bl true := qv
        subst qv'
        have eu : u = Value.bool true := rv
        subst eu
        refine ⟨rfl, OldK.of_keep fun b ob e => ?_, os, bare⟩
        rcases only b with z | ⟨z, ob', u', z'⟩
        · exact un.keep b ob e z (fun y => nomatch (show b ∈ ([] : List Addr) from y)) (fun y => nomatch y)
        · obtain ⟨g1, _⟩ := hok b _ z'
          obtain ⟨g2, _⟩ := hok' b _ (un.frzs b ob' _ z')
          rw [e] at g1
          cases g1
          exact g2
  cases hk : K.lookup a with
  | some o =>
    have e := KX a o hk
    rw [h6] at e
    cases e
    exact core (fun _ => none) (fun _ => .inl rfl) (.inr (.inr ⟨_, us.toArray, _, hk, rfl, rfl, rfl, by rw [List.size_toArray, len7]; exact h8, by simpa using rel⟩)) (fun b u z => nomatch z) fun z => absurd rfl z
  | none =>
    have at_a : (fun b => if b = a then some (HO.frz { cls := .type "list", data := .seq us.toArray } (.lst (ns.map V.int))) else none : Hp) a = some (HO.frz { cls := .type "list", data := .seq us.toArray } (.lst (ns.map V.int))) := if_pos rfl
    refine core (fun b => if b = a then some (HO.frz { cls := .type "list", data := .seq us.toArray } (.lst (ns.map V.int))) else none) (fun b => ?_) (.inl ⟨_, at_a⟩) (fun b u z => ?_) fun _ => hk
    · by_cases hb : b = a
      · exact .inr ⟨hb, _, _, if_pos hb⟩
      · exact .inl (if_neg hb)
    · by_cases hb : b = a
      · subst hb
        cases at_a.symm.trans z
        exact ⟨h6, by rw [List.length_map]; exact h8, us, _, rel, h6⟩
      · exact nomatch (show (none : Option HO) = some u from (if_neg hb).symm.trans z)
theorem walk_G {l : PySem.W.OpenLaw} {n k : Nat} {q : Program} {loose : List Str} {XP : (Str → Option Value) → Heap → Prop} {YP : World → Heap → Prop} {d : DefRec} {K : Params → PySem.W.Frag} {x : Str} {fi : FI}
    (him : importsNone q = true) (hn : l.most = some n) (hn2 : n ≤ sizeLine) (hdf : d.params.defaults = []) (room : Room k callerA) (hY : ∀ (w : World) (h : Heap), YP w h → (K w.params).In h)
    (F : ∀ (w : World) (mg : Str → Option Value) (fa : Addr) (h : Heap), (K w.params).In h → h.Ns mainGlobals mg → mg d.name = some (.ref fa) →
      ∃ fd : FuncData, (∀ (s : Shared) (u : Value), BindsTo s fd ⟨[u], []⟩ [(x, u)]) ∧ ∀ base : Heap, (K w.params).In base → base.Ns mainGlobals mg → HasSys base → FnG l.prog w (K w.params) mg base k fa fd [x] (spD ⟨K w.params, mg, none⟩ fi))
    (hio : fi.io = [false]) (hrun : ∀ ns : List Int, ns.length ≤ n → fi.run [.scr ns] = .ok (.bl true, false, [])) :
    PySem.W.WalkO q loose XP YP l.row.toRowW d [] (fun f vs => PySem.call f vs) := by
  refine Att.attach_call hn hdf ?_
  intro w s₀ s₁ mg mb fa o pm cd doc a vs ns G Y ho hd hcd hmg hobj hints hlen hg
  obtain ⟨fd, bnd, FF⟩ := F w mg fa _ (hY w _ Y) G.T.g hmg
  obtain ⟨mm, ⟨oS, es, ep, s1, s2, s3⟩, _⟩ := (G.T.seer him).mods
  have hsy : HasSys s₁.heap := ⟨oS, s1⟩
  have hna : a ≠ sysModules := fun z => by
    subst z
    rw [hobj] at s1
    cases s1
    cases s2
  exact law_endG (hY w _ Y) G.T.g G.T.b G.T.builtins G.T.nolimit hg hobj hints (Nat.le_trans hlen hn2) hna room hsy FF bnd hio (hrun ns hlen)
end Ev
set_option Elab.async false
set_option linter.all false
set_option maxRecDepth 100000
set_option maxHeartbeats 4000000
namespace Ev
open PySem PySem.Spec PyProof.Rows L2
/-- a number drawn from a pot: its own digits, or numbers mixed -/
def takeN (a b m : Int) : Int × Int × Int :=
  if 0 < a then (a % m, a / m, b) else
    let c := (b * 40014 + 12211) % 2147483563
    (c * c % 2147483399 / 11 % m, a, c)
def takeFI : FI where
  io := [true, false]
  run := fun ds => match ds with
    | [.lst [.int a, .int b], .int m] => if 0 < m ∧ m < 1073741824 then .ok (.int (takeN a b m).1, false, [.lst [.int (takeN a b m).2.1, .int (takeN a b m).2.2]]) else .stuck
    | _ => .stuck
theorem take_no {ds : List Dat} {c : Str} {fs : List (Str × Dat)} {ss : DEnv} (h : takeFI.run ds = .exc c fs ss) : False := by
  simp only [takeFI] at h
  split at h
  · split at h <;> cases h
  · cases h
theorem take_run {ds : List Dat} {d : Dat} {new : Bool} {outs : List Dat} (h : takeFI.run ds = .ok (d, new, outs)) : ∃ a b m : Int, ds = [.lst [.int a, .int b], .int m] ∧ (0 < m ∧ m < 1073741824) ∧ d = .int (takeN a b m).1 ∧ new = false ∧ outs = [.lst [.int (takeN a b m).2.1, .int (takeN a b m).2.2]] := by
  simp only [takeFI] at h
  split at h
  · split at h
    · rename_i c
      cases h
      exact ⟨_, _, _, rfl, c, rfl, rfl, rfl⟩
    · cases h
  · cases h
end Ev
set_option Elab.async false
set_option linter.all false
set_option maxRecDepth 100000
namespace Ev
open PySem PySem.Spec PyProof.Rows L2
section
variable {K : PySem.W.Frag} {C D : Addr} {b : Bool}
theorem cls_of (h : PySem.W.hasDictIn K C = true) : (PySem.W.clsIn K C).isSome = true := by
  obtain ⟨cd, hc, _⟩ := PySem.W.any_some h
  rw [hc]; rfl
theorem kitCls_own (hd : PySem.W.hasDictIn K D = true) (ht : PySem.W.typeIn K (.ref D) = some (.type "type")) (hs : PySem.W.subIn K (.ref C) (.ref D) = some b) : PySem.W.kitCls K (.ref C) (.ref D) = some b := by
  show (if ((PySem.W.clsIn K D).isSome && PySem.W.typeIn K (.ref D) == some (.type "type")) = true then PySem.W.subIn K (.ref C) (.ref D) else none) = some b
  rw [if_pos (by rw [cls_of hd, ht]; rfl), hs]
theorem kitOne_of {v : Value} (hk : PySem.W.kitCls K (.ref C) v = some b) (hself : v = .ref C → b = true) : PySem.W.kitOne K (.ref C) v = some b := by
  unfold PySem.W.kitOne
  split
  · rename_i h
    have e := eq_of_beq h
    rw [hself e.symm]
  · exact hk
theorem exmOne_of {v : Value} (hk : PySem.W.kitCls K (.ref C) v = some b) (hb : PySem.W.subIn K v (.type "BaseException") = some true) : PySem.W.exmOne K (.ref C) v = some b := by
  unfold PySem.W.exmOne
  rw [if_pos (by rw [hb]; rfl), hk]
theorem sub_own {mg : Str → Option Value} {c d : Str} (hc : mg c = some (.ref C)) (F : ExcF K C) (self : PySem.W.subIn K (.ref C) (.ref C) = some true) (hd : mg d = some (.ref D)) (h1 : PySem.W.hasDictIn K D = true) (h2 : PySem.W.typeIn K (.ref D) = some (.type "type"))
    (h3 : PySem.W.subIn K (.ref D) (.type "BaseException") = some true) (hs : PySem.W.subIn K (.ref C) (.ref D) = some b) :
    ∃ C v, mg c = some (.ref C) ∧ ExcF K C ∧ NameM mg d v ∧ ((∃ D, v = .ref D) ∨ ∃ t, v = .type t) ∧ PySem.W.kitOne K (.ref C) v = some b ∧ PySem.W.exmOne K (.ref C) v = some b := by
  have hk := kitCls_own h1 h2 hs
  refine ⟨C, .ref D, hc, F, .inl hd, .inl ⟨D, rfl⟩, kitOne_of hk fun e => ?_, exmOne_of hk h3⟩
  cases e
  rw [self] at hs
  cases hs
  rfl
theorem sub_bltn {mg : Str → Option Value} {c d : Str} {t : String} (hc : mg c = some (.ref C)) (F : ExcF K C) (hd : mg d = none) (hb : bootBuiltins d = some (.type t)) (hn : d ≠ "__name__") (hm : PySem.W.kitMeta t = true)
    (h3 : PySem.W.subIn K (.type t) (.type "BaseException") = some true) (hs : PySem.W.subIn K (.ref C) (.type t) = some b) :
    ∃ C v, mg c = some (.ref C) ∧ ExcF K C ∧ NameM mg d v ∧ ((∃ D, v = .ref D) ∨ ∃ t, v = .type t) ∧ PySem.W.kitOne K (.ref C) v = some b ∧ PySem.W.exmOne K (.ref C) v = some b := by
  have hk : PySem.W.kitCls K (.ref C) (.type t) = some b := by
    show (if PySem.W.kitMeta t = true then PySem.W.subIn K (.ref C) (.type t) else none) = some b
    rw [if_pos hm, hs]
  exact ⟨C, .type t, hc, F, .inr ⟨hd, hb, hn⟩, .inr ⟨t, rfl⟩, (kitOne_of hk fun e => nomatch e), exmOne_of hk h3⟩
theorem kwb_all {fd : FuncData} {ps : List Str} (h : ∀ us : List Value, us.length = ps.length → bindArgs fd ⟨[], ps.zip us⟩ = pure (ps.zip us)) : KwB K fd ps := fun s us _ hl => .of_eq (h us hl)
end
end Ev
set_option Elab.async false
set_option linter.all false
set_option maxRecDepth 100000
namespace Ev
open PySem PySem.Spec PyProof.Rows L2
/-! The classes of the errors, by rows. -/
theorem fcons {α : Type} {P : α → Prop} {a : α} {l : List α} (h : P a) (hs : ∀ x ∈ l, P x) : ∀ x ∈ a :: l, P x := fun x hx => by
  rcases List.mem_cons.mp hx with rfl | hx
  · exact h
  · exact hs x hx
theorem fnil {α : Type} {P : α → Prop} : ∀ x ∈ ([] : List α), P x := fun x hx => nomatch hx
theorem lookup_mem {β : Type} {c : Str} {x : β} : ∀ {L : List (Str × β)}, L.lookup c = some x → (c, x) ∈ L
  | [], h => by cases h
  | (a, y) :: L, h => by
    rw [List.lookup_cons] at h
    cases q : c == a with
    | true =>
      rw [q] at h
      cases h
      rw [eq_of_beq q]
      exact List.mem_cons_self
    | false =>
      rw [q] at h
      exact List.mem_cons_of_mem _ (lookup_mem h)
theorem of_rows {β : Type} {P : Str → β → Prop} {L : List (Str × β)} (h : ∀ p ∈ L, P p.1 p.2) : ∀ c x, L.lookup c = some x → P c x := fun c x e => h _ (lookup_mem e)
structure CRow where
  name : Str
  C : Addr
  mro : List Value
  above : List Str
structure CRow.ok (K : PySem.W.Frag) (mg : Str → Option Value) (r : CRow) : Prop where
  nm : mg r.name = some (.ref r.C)
  ex : ExcF K r.C
  ml : ∃ cd, PySem.W.clsIn K r.C = some cd ∧ cd.mro = r.mro
  se : r.mro.contains (.ref r.C) = true
/-- a name that is asked for -/
def NRow (K : PySem.W.Frag) (mg : Str → Option Value) (q : Str × Value) : Prop :=
  NameM mg q.1 q.2 ∧ ((∃ D, q.2 = .ref D ∧ PySem.W.hasDictIn K D = true ∧ PySem.W.typeIn K (.ref D) = some (.type "type")) ∨ ∃ t, q.2 = .type t ∧ PySem.W.kitMeta t = true) ∧ PySem.W.subIn K q.2 (.type "BaseException") = some true
def subOk (cs : List CRow) (ds : List (Str × Value)) : Bool := cs.all fun p => ds.all fun q => p.mro.contains q.2 == p.above.contains q.1
theorem sub_all {K : PySem.W.Frag} {mg : Str → Option Value} {cs : List CRow} {ds : List (Str × Value)} (h1 : ∀ r ∈ cs, CRow.ok K mg r) (h2 : ∀ q ∈ ds, NRow K mg q) (h3 : subOk cs ds = true) {c d : Str} {ab : List Str} (hc : (c, ab) ∈ cs.map fun r => (r.name, r.above)) (hd : d ∈ ds.map (·.1)) :
    ∃ C v, mg c = some (.ref C) ∧ ExcF K C ∧ NameM mg d v ∧ ((∃ D, v = .ref D) ∨ ∃ t, v = .type t) ∧ PySem.W.kitOne K (.ref C) v = some (ab.contains d) ∧ PySem.W.exmOne K (.ref C) v = some (ab.contains d) := by
  obtain ⟨r, hr, er⟩ := List.mem_map.mp hc
  obtain ⟨q, hq, eq⟩ := List.mem_map.mp hd
  cases er
  subst eq
  obtain ⟨n1, x1, ⟨cd, m1, m2⟩, se⟩ := h1 r hr
  obtain ⟨n2, k2, b2⟩ := h2 q hq
  have e1 := List.all_eq_true.mp (List.all_eq_true.mp h3 r hr) q hq
  have e2 : r.mro.contains q.2 = r.above.contains q.1 := eq_of_beq e1
  have hs : PySem.W.subIn K (.ref r.C) q.2 = some (r.above.contains q.1) := by
    show PySem.W.mroIn K r.C q.2 = _
    unfold PySem.W.mroIn
    rw [m1, Option.bind_some, m2, e2]
    rw [if_neg]
    intro z
    rw [List.isEmpty_iff] at z
    rw [z] at se
    cases se
  have hself : q.2 = .ref r.C → r.above.contains q.1 = true := fun e => by rw [← e2, e]; exact se
  have hk : PySem.W.kitCls K (.ref r.C) q.2 = some (r.above.contains q.1) := by
    rcases k2 with ⟨D, e, k3, k4⟩ | ⟨t, e, k3⟩
    · rw [e] at hs ⊢
      exact kitCls_own k3 k4 hs
    · rw [e] at hs ⊢
      show (if PySem.W.kitMeta t = true then PySem.W.subIn K (.ref r.C) (.type t) else none) = _
      rw [if_pos k3, hs]
  refine ⟨r.C, q.2, n1, x1, n2, ?_, kitOne_of hk hself, exmOne_of hk b2⟩
  rcases k2 with ⟨D, e, _⟩ | ⟨t, e, _⟩
  · exact .inl ⟨D, e⟩
  · exact .inr ⟨t, e⟩
end Ev
namespace Ev
open PySem PySem.Spec PyProof.Rows L2
theorem mro_self (C : Addr) (l : List Value) : (Value.ref C :: l).contains (.ref C) = true := by
  rw [List.contains_cons, beq_self_eq_true, Bool.true_or]
theorem cls_mro {K : PySem.W.Frag} {C : Addr} {nm q : Str} {S : Addr} {bs bm : List Value} {hd : Bool} {sn : List Str} {sub : List Value} {ab : Bool} {col : Option Bool} {dd : Option Addr} {k0 k1 k2 k3 k5 : Option Value} {newId : String} (h : K.lookup C = some (excClassObj nm q C S bs bm hd sn sub ab col dd k0 k1 k2 k3 k5 newId)) :
    ∃ cd, PySem.W.clsIn K C = some cd ∧ cd.mro = .ref C :: bm := by
  refine ⟨{ name := nm, bases := bs, mro := .ref C :: bm, ns := S, qualname := q, hasDict := hd, slotNames := sn, subclasses := sub, abstract := ab, collection := col, hasDel := false }, ?_, rfl⟩
  unfold PySem.W.clsIn
  rw [h]
theorem mkw_in {L : List (Str × List Str)} {c : Str} {kw : List (List Str)} (h : (L.all fun p => p.1 != c || kw.contains p.2) = true) {ks : List Str} (hk : L.contains (c, ks) = true) : ks ∈ kw := by
  have := List.all_eq_true.mp h _ (List.contains_iff_mem.mp hk)
  simp only [bne_self_eq_false, Bool.false_or] at this
  exact List.contains_iff_mem.mp this
end Ev
set_option Elab.async false
set_option linter.all false
set_option maxRecDepth 100000
set_option maxHeartbeats 4000000
namespace Ev
open PySem
/-! ### rules: a body statement by statement (small terms for the kernel) -/
section
variable {T : Tab} {ios : List Nat}
theorem rOf {n : Nat} {io : List Bool} {body : ISs} {ds : List Dat} {ρ0 ρ : DEnv} {d : Dat} {new : Bool} {outs : List Dat} (h0 : env0 io ds n = ρ0) (hl : ds.length = io.length) (h : execs T (ioIx 0 io) body ρ0 = .ok (.rt d new ρ)) (ho : outsOf ρ (ioIx 0 io) = some outs) :
    (FI.of T n io body).run ds = .ok (d, new, outs) := by
  subst h0
  show (if ds.length = io.length then _ else _) = _
  rw [if_pos hl, h]
  simp only [ho, ofOs, bindOk]
theorem rOfX {n : Nat} {io : List Bool} {body : ISs} {ds : List Dat} {ρ0 ρ : DEnv} {c : Str} {fs : List (Str × Dat)} (h0 : env0 io ds n = ρ0) (hl : ds.length = io.length) (h : execs T (ioIx 0 io) body ρ0 = .exc c fs ρ) :
    (FI.of T n io body).run ds = .exc c fs (outsXof ρ (ioIx 0 io)) := by
  subst h0
  show (if ds.length = io.length then _ else _) = _
  rw [if_pos hl, h]
theorem rIteTX {c : IE} {a b r : ISs} {ρ ρ1 : DEnv} {m : Mode} (h : ev T c ρ = .ok (.bl true, m, ρ1)) {x : Str} {fs : List (Str × Dat)} {ρ2 : DEnv} (ha : execs T ios a ρ1 = .exc x fs ρ2) :
    execs T ios (.cons (.ite c a b) r) ρ = .exc x fs ρ2 := by
  rw [execs, exec, h, bindOk]
  show (execs T ios a ρ1).bind _ = _
  rw [ha]
  rfl
theorem rRai {c : Str} {r : ISs} {ρ : DEnv} (h : T.exc c = some []) : execs T ios (.cons (.rai c) r) ρ = .exc c [] ρ := by
  rw [execs, exec, h]
  rfl
theorem rUnpS {i j : Nat} {e : IE} {r : ISs} {ρ ρ1 : DEnv} {x : Dat} {xs : List Dat} (hi : ¬ (i ∈ ios ∨ j ∈ ios ∨ i = j)) (h : ev T e ρ = .ok (.lst (x :: xs), .fresh, ρ1)) :
    execs T ios (.cons (.unpS i j e) r) ρ = execs T ios r ((ρ1.set i (.val x)).set j (.own (.lst xs))) := by
  rw [execs, exec, if_neg hi, h, bindOk]
  rfl
theorem rUnp {is : List Nat} {e : IE} {r : ISs} {ρ ρ1 : DEnv} {ds : List Dat} (hi : is.any (fun i => ios.contains i) = false) (h : ev T e ρ = .ok (.tup ds, .frz, ρ1)) (hl : ds.length = is.length) :
    execs T ios (.cons (.unp is e) r) ρ = execs T ios r (storeAll is ds ρ1) := by
  rw [execs, exec, if_neg (by rw [hi]; decide), h, bindOk]
  show ((ofO (some ds)).bind fun ds => if ds.length = is.length then _ else _ : Res Out).bind _ = _
  rw [ofOs, bindOk, if_pos hl]
  rfl
theorem rTryN {b s r : ISs} {c : Str} {i : Nat} {ρ ρ1 : DEnv} (hi : i ∉ ios) (h : execs T ios b ρ = .ok (.nx ρ1)) : execs T ios (.cons (.tryA b c i s) r) ρ = execs T ios r ρ1 := by
  rw [execs, exec, if_neg hi, h]
  rfl
theorem rTryX {b s r : ISs} {c x : Str} {fs : List (Str × Dat)} {i : Nat} {ρ ρ1 ρ2 : DEnv} (hi : i ∉ ios) (h : execs T ios b ρ = .exc x fs ρ1) (hx : T.sub x c = some true) (hs : execs T ios s (ρ1.set i (.exn x fs)) = .ok (.nx ρ2)) : execs T ios (.cons (.tryA b c i s) r) ρ = execs T ios r (clean (ρ2.set i .no)) := by
  rw [execs, exec, if_neg hi, h]
  simp only [hx, hs, gone]
  rfl
theorem rSetX {i : Nat} {e : IE} {r : ISs} {ρ ρ1 : DEnv} {c : Str} {fs : List (Str × Dat)} (hi : i ∉ ios) (h : ev T e ρ = .exc c fs ρ1) :
    execs T ios (.cons (.set i e) r) ρ = .exc c fs ρ1 := by
  rw [execs, exec, if_neg hi, h]
  rfl
theorem rRetX {e : IE} {r : ISs} {ρ ρ1 : DEnv} {c : Str} {fs : List (Str × Dat)} (h : ev T e ρ = .exc c fs ρ1) :
    execs T ios (.cons (.ret e) r) ρ = .exc c fs ρ1 := by
  rw [execs, exec, h]
  rfl
theorem rIteT {c : IE} {a b r : ISs} {ρ ρ1 : DEnv} {m : Mode} (h : ev T c ρ = .ok (.bl true, m, ρ1)) {d : Dat} {new : Bool} {ρ2 : DEnv} (ha : execs T ios a ρ1 = .ok (.rt d new ρ2)) :
    execs T ios (.cons (.ite c a b) r) ρ = .ok (.rt d new ρ2) := by
  rw [execs, exec, h, bindOk]
  show (execs T ios a ρ1).bind _ = _
  rw [ha]
  rfl
theorem rIteTn {c : IE} {a b r : ISs} {ρ ρ1 : DEnv} {m : Mode} (h : ev T c ρ = .ok (.bl true, m, ρ1)) {ρ2 : DEnv} (ha : execs T ios a ρ1 = .ok (.nx ρ2)) :
    execs T ios (.cons (.ite c a b) r) ρ = execs T ios r ρ2 := by
  rw [execs, exec, h, bindOk]
  show (execs T ios a ρ1).bind _ = _
  rw [ha]
  rfl
theorem rIteF {c : IE} {a r : ISs} {ρ ρ1 : DEnv} {m : Mode} (h : ev T c ρ = .ok (.bl false, m, ρ1)) :
    execs T ios (.cons (.ite c a .nil) r) ρ = execs T ios r ρ1 := by
  rw [execs, exec, h, bindOk]
  show (execs T ios .nil ρ1).bind _ = _
  rw [execs]
  rfl
theorem rSet {i : Nat} {e : IE} {r : ISs} {ρ ρ1 : DEnv} {d : Dat} {m : Mode} (hi : i ∉ ios) (h : ev T e ρ = .ok (d, m, ρ1)) :
    execs T ios (.cons (.set i e) r) ρ = execs T ios r (store i d m ρ1) := by
  rw [execs, exec, if_neg hi, h, bindOk]
  rfl
theorem rPar {is : List Nat} {es : IEs} {r : ISs} {ρ ρ1 : DEnv} {ds : List Dat} (hi : is.any (fun i => ios.contains i) = false) (h : evs T es ρ = .ok (ds, ρ1)) (hl : ds.length = is.length) :
    execs T ios (.cons (.par is es) r) ρ = execs T ios r (storeAll is ds ρ1) := by
  rw [execs, exec, if_neg (by rw [hi]; decide), h, bindOk]
  show (if ds.length = is.length then _ else _ : Res Out).bind _ = _
  rw [if_pos hl]
  rfl
theorem rRet {e : IE} {r : ISs} {ρ ρ1 : DEnv} {d : Dat} (h : ev T e ρ = .ok (d, .frz, ρ1)) :
    execs T ios (.cons (.ret e) r) ρ = .ok (.rt d false ρ1) := by
  rw [execs, exec, h, bindOk]
  rfl
theorem rRetN {e : IE} {r : ISs} {ρ ρ1 : DEnv} {d : Dat} (h : ev T e ρ = .ok (d, .fresh, ρ1)) :
    execs T ios (.cons (.ret e) r) ρ = .ok (.rt d true ρ1) := by
  rw [execs, exec, h, bindOk]
  rfl
theorem rRetB {e : IE} {r : ISs} {ρ ρ1 : DEnv} {d : Dat} {i : Nat} (hi : i ∉ ios) (h : ev T e ρ = .ok (d, .brw i, ρ1)) :
    execs T ios (.cons (.ret e) r) ρ = .ok (.rt d true (ρ1.set i .no)) := by
  rw [execs, exec, h, bindOk]
  show (if i ∈ ios then _ else _ : Res Out).bind _ = _
  rw [if_neg hi]
  rfl
theorem rApp {i : Nat} {e : IE} {r : ISs} {ρ ρ1 : DEnv} {d : Dat} {m : Mode} {ds0 ds : List Dat} (h0 : ρ[i]? = some (.own (.lst ds0))) (h : ev T e ρ = .ok (d, m, ρ1)) (h1 : (keep m ρ1 d)[i]? = some (.own (.lst ds))) (hs : sm ds.length = true) :
    execs T ios (.cons (.app i e) r) ρ = execs T ios r ((keep m ρ1 d).set i (.own (.lst (ds ++ [d])))) := by
  rw [execs, exec, h0]
  show ((ev T e ρ).bind _).bind _ = _
  rw [h, bindOk]
  show (match (keep m ρ1 d)[i]? with | some (.own (.lst ds)) => _ | _ => _ : Res Out).bind _ = _
  rw [h1]
  show (if sm ds.length = true then _ else _ : Res Out).bind _ = _
  rw [if_pos hs]
  rfl
theorem lt62 (n : Nat) (h : n ≤ 100000) : (n : Int) < 2 ^ 62 := by
  have : (2:Int)^62 = 4611686018427387904 := by decide
  rw [this]
  omega
theorem ge62 (n : Nat) : -(2 ^ 62) ≤ (n : Int) := by
  have : (2:Int)^62 = 4611686018427387904 := by decide
  rw [this]
  omega
theorem ev_lcR {el a : IE} {tg : Nat} {own : List (Str × Nat)} {ρ ρ1 : DEnv} {m : Mode} {n : Nat} (ha : ev T a ρ = .ok (.int (n : Int), m, ρ1)) (hn : n ≤ 100000) :
    ev T (.lcR el tg a own) ρ = comp (own.map (·.2)) (oneOf (ev T el) tg (own.map (·.2))) ((List.range n).map fun (k : Nat) => .int (k : Int)) ρ1 := by
  rw [ev, ha, bindOk]
  simp only []
  rw [if_pos ⟨ge62 n, lt62 n hn⟩, Int.toNat_natCast]
theorem rForR {i : Nat} {a : IE} {body r : ISs} {ρ ρ1 : DEnv} {m : Mode} {n : Nat} (hi : i ∉ ios) (ha : ev T a ρ = .ok (.int (n : Int), m, ρ1)) (hn : n ≤ 100000) :
    execs T ios (.cons (.forR i a body) r) ρ = (loop (turnOf (execs T ios body) i) ((List.range n).map fun (k : Nat) => .int (k : Int)) ρ1).bind fun o => (match o with
      | .nx ρ1 => execs T ios r ρ1
      | .rt d new ρ1 => .ok (.rt d new ρ1)) := by
  rw [execs, exec, if_neg hi, ha, bindOk]
  simp only []
  rw [if_pos ⟨ge62 n, lt62 n hn⟩, Int.toNat_natCast]
  all_goals rfl
theorem rComp {vs : List Nat} {one : Dat → DEnv → Res (Option Dat × DEnv)} {xs ys : List Dat} {ρ ρ2 ρ3 : DEnv} (hs : sm xs.length = true) (hc : calmAt ρ vs = true) (ht : turns one xs ρ = .ok (ys, ρ2)) (hb : back ρ ρ2 vs = ρ3) :
    comp vs one xs ρ = .ok (.lst ys, .fresh, ρ3) := by
  unfold comp
  rw [hs, hc, ht, hb.symm]
  rfl
theorem rCompX {vs : List Nat} {one : Dat → DEnv → Res (Option Dat × DEnv)} {xs : List Dat} {c : Str} {fs : List (Str × Dat)} {ρ ρ2 : DEnv} (hs : sm xs.length = true) (hc : calmAt ρ vs = true) (ht : turns one xs ρ = .exc c fs ρ2) :
    comp vs one xs ρ = .exc c fs (back ρ ρ2 vs) := by
  unfold comp
  rw [hs, hc, ht]
  rfl
end
theorem evCmp {T : Tab} {op : CmpOp} {a b : IE} {x y : Dat} {ρ ρ1 ρ2 : DEnv} {k : Mode} {r : Bool} (ha : ev T a ρ = .ok (x, .frz, ρ1)) (hb : ev T b ρ1 = .ok (y, k, ρ2)) (hr : cmpD op x y = some r) :
    ev T (.cmp op a b) ρ = .ok (.bl r, .frz, ρ2) := by
  rw [ev, ha, bindOk]
  simp only [hb, bindOk, now, ofOs, hr]
theorem evVar {T : Tab} {i : Nat} {d : Dat} {ρ : DEnv} (h : ρ[i]? = some (.val d)) : ev T (.var i) ρ = .ok (d, .frz, ρ) := by
  rw [ev, h]
theorem var0 {T : Tab} {d : Dat} {r : DEnv} : ev T (.var 0) (.val d :: r) = .ok (d, .frz, .val d :: r) := by
  rw [ev]
  rfl
theorem turns_map {f : Dat → DEnv → Res (Option Dat × DEnv)} (g : Dat → Dat) (mk : Slot → DEnv) : ∀ (xs : List Dat) (sl : Slot), (∀ x ∈ xs, ∀ sl, f x (mk sl) = .ok (some (g x), mk (.val x))) → ∃ sl', turns f xs (mk sl) = .ok (xs.map g, mk sl')
  | [], sl, _ => ⟨sl, rfl⟩
  | x :: r, sl, h => by
    obtain ⟨sl', hr⟩ := turns_map g mk r (.val x) fun y hy => h y (List.mem_cons_of_mem _ hy)
    refine ⟨sl', ?_⟩
    simp only [turns, h x List.mem_cons_self sl, bindOk, hr, put, List.map_cons]
theorem at0 {α : Type} (x : α) (r : List α) : L2.atI (x :: r) 0 = some x := by
  simp [L2.atI, L2.ixN]
theorem sm_of {n : Nat} (h : n ≤ 1000) : sm n = true := by
  unfold sm
  exact decide_eq_true (by omega)
theorem sm_lit {n : Nat} (h : n ≤ 1000) : sm n = true := sm_of h
def di (n : Int) : Dat := .int n
def sgn (c : Nat) : Dat := .str ⟨#[c]⟩
theorem bls_map {α : Type} (f : α → Bool) : ∀ xs : List α, bls? (xs.map fun x => Dat.bl (f x)) = some (xs.map f)
  | [] => rfl
  | x :: r => by simp [bls?, bls_map f r]
theorem inD_sign (c : Nat) (z : Str) : inD (sgn c) (.str z) = some (decide (c ∈ z.cps.toList)) := rfl
theorem call1 {T : Tab} {f : Str} {fi : FI} {e : IE} {ρ ρ1 : DEnv} {x d : Dat} {new : Bool} (hf : T.fn f = some fi) (hio : fi.io = [false]) (he : ev T e ρ = .ok (x, .frz, ρ1)) (hr : fi.run [x] = .ok (d, new, [])) :
    ev T (.call f (.cons e .nil)) ρ = .ok (d, if new then .fresh else .frz, ρ1) := by
  rw [ev, hf]
  simp only [hio, evArgs, he, bindOk, keep, callD, slotsOf, List.nodup_nil, List.length_cons, List.length_nil, and_self, if_true, readArgs, ofOs, Option.map, hr, putBack]
theorem call1X {T : Tab} {f : Str} {fi : FI} {e : IE} {ρ ρ1 ss : DEnv} {x : Dat} {c : Str} {fs : List (Str × Dat)} (hf : T.fn f = some fi) (hio : fi.io = [false]) (he : ev T e ρ = .ok (x, .frz, ρ1)) (hr : fi.run [x] = .exc c fs ss) :
    ev T (.call f (.cons e .nil)) ρ = .exc c fs ρ1 := by
  rw [ev, hf]
  simp only [hio, evArgs, he, bindOk, keep, callD, slotsOf, List.nodup_nil, List.length_cons, List.length_nil, and_self, if_true, readArgs, ofOs, Option.map, hr, putX]
theorem call2 {T : Tab} {f : Str} {fi : FI} {e g : IE} {ρ ρ1 ρ2 : DEnv} {x y d : Dat} {new : Bool} (hf : T.fn f = some fi) (hio : fi.io = [false, false]) (he : ev T e ρ = .ok (x, .frz, ρ1)) (hg : ev T g ρ1 = .ok (y, .frz, ρ2)) (hr : fi.run [x, y] = .ok (d, new, [])) :
    ev T (.call f (.cons e (.cons g .nil))) ρ = .ok (d, if new then .fresh else .frz, ρ2) := by
  rw [ev, hf]
  simp only [hio, evArgs, he, hg, bindOk, keep, callD, slotsOf, List.nodup_nil, List.length_cons, List.length_nil, and_self, if_true, readArgs, ofOs, Option.map, hr, putBack]
theorem call2X {T : Tab} {f : Str} {fi : FI} {e g : IE} {ρ ρ1 ρ2 ss : DEnv} {x y : Dat} {c : Str} {fs : List (Str × Dat)} (hf : T.fn f = some fi) (hio : fi.io = [false, false]) (he : ev T e ρ = .ok (x, .frz, ρ1)) (hg : ev T g ρ1 = .ok (y, .frz, ρ2)) (hr : fi.run [x, y] = .exc c fs ss) :
    ev T (.call f (.cons e (.cons g .nil))) ρ = .exc c fs ρ2 := by
  rw [ev, hf]
  simp only [hio, evArgs, he, hg, bindOk, keep, callD, slotsOf, List.nodup_nil, List.length_cons, List.length_nil, and_self, if_true, readArgs, ofOs, Option.map, hr, putX]
theorem callK1 {T : Tab} {f k : Str} {fi : FI} {e : IE} {ρ ρ1 : DEnv} {x d : Dat} {new : Bool} (hf : T.fn f = some fi) (hk : T.kw f = some [k]) (hio : fi.io = [false]) (he : ev T e ρ = .ok (x, .frz, ρ1)) (hr : fi.run [x] = .ok (d, new, [])) :
    ev T (.callK f [k] (.cons e .nil)) ρ = .ok (d, if new then .fresh else .frz, ρ1) := by
  rw [ev, hf]
  simp only [hk, hio, List.all_cons, List.all_nil, Bool.not_false, Bool.and_self, and_self, if_true, evs, he, bindOk, keep, List.map_cons, List.map_nil, callD, slotsOf, List.nodup_nil, List.length_cons, List.length_nil, readArgs, ofOs, Option.map, hr, putBack]
abbrev pot (a b : Int) : Dat := .lst [.int a, .int b]
theorem take_spec (a b : Int) {m : Int} (hm : 0 < m) : 0 ≤ (takeN a b m).1 ∧ (takeN a b m).1 < m := by
  unfold takeN
  split
  · exact ⟨Int.emod_nonneg _ (by omega), Int.emod_lt_of_pos _ hm⟩
  · exact ⟨Int.emod_nonneg _ (by omega), Int.emod_lt_of_pos _ hm⟩
theorem callP1 {T : Tab} {f : Str} {fi : FI} {i : Nat} {ρ : DEnv} {p d p' : Dat} {new : Bool} (hf : T.fn f = some fi) (hio : fi.io = [true]) (h0 : ρ[i]? = some (.own p)) (hr : fi.run [p] = .ok (d, new, [p'])) :
    ev T (.call f (.cons (.var i) .nil)) ρ = .ok (d, if new then .fresh else .frz, ρ.set i (.own p')) := by
  rw [ev, hf]
  simp only [hio, evArgs, ioSlot, h0, bindOk, callD, slotsOf, List.nodup_cons, List.not_mem_nil, not_false_eq_true, List.nodup_nil, List.length_cons, List.length_nil, and_self, if_true, readArgs, ofOs, Option.map, hr, putBack]
theorem callP2 {T : Tab} {f : Str} {fi : FI} {i : Nat} {e : IE} {ρ ρ1 : DEnv} {p0 p x d p' : Dat} {new : Bool} (hf : T.fn f = some fi) (hio : fi.io = [true, false]) (h0 : ρ[i]? = some (.own p0)) (he : ev T e ρ = .ok (x, .frz, ρ1)) (h1 : ρ1[i]? = some (.own p)) (hr : fi.run [p, x] = .ok (d, new, [p'])) :
    ev T (.call f (.cons (.var i) (.cons e .nil))) ρ = .ok (d, if new then .fresh else .frz, ρ1.set i (.own p')) := by
  rw [ev, hf]
  simp only [hio, evArgs, ioSlot, h0, he, keep, bindOk, callD, slotsOf, List.nodup_cons, List.not_mem_nil, not_false_eq_true, List.nodup_nil, List.length_cons, List.length_nil, and_self, if_true, readArgs, h1, ofOs, Option.map, hr, putBack]
theorem callPT {T : Tab} {f : Str} {fi : FI} {i : Nat} {es : IEs} {ρ : DEnv} {p x d p' x' : Dat} {new : Bool} (hf : T.fn f = some fi) (hio : fi.io = [true, true]) (h0 : ρ[i]? = some (.own p)) (he : ev T (.lst es) ρ = .ok (x, .fresh, ρ)) (hr : fi.run [p, x] = .ok (d, new, [p', x'])) :
    ev T (.call f (.cons (.var i) (.cons (.lst es) .nil))) ρ = .ok (d, if new then .fresh else .frz, ρ.set i (.own p')) := by
  rw [ev, hf]
  simp only [hio, evArgs, ioSlot, h0, he, keep, bindOk, callD, slotsOf, List.nodup_cons, List.not_mem_nil, not_false_eq_true, List.nodup_nil, List.length_cons, List.length_nil, and_self, if_true, readArgs, ofOs, Option.map, hr, putBack]
theorem takeRun (a b : Int) {m : Int} (hm : 0 < m ∧ m < 1073741824) : takeFI.run [pot a b, .int m] = .ok (.int (takeN a b m).1, false, [pot (takeN a b m).2.1 (takeN a b m).2.2]) := by
  show (if 0 < m ∧ m < 1073741824 then _ else _) = _
  rw [if_pos hm]
theorem takeC {T : Tab} {i : Nat} {e : IE} {ρ : DEnv} {a b m : Int} (hf : T.fn (Str.ofString "_law_take") = some takeFI) (h0 : ρ[i]? = some (.own (pot a b))) (he : ev T e ρ = .ok (.int m, .frz, ρ)) (hm : 0 < m ∧ m < 1073741824) :
    ∃ r a' b' : Int, (0 ≤ r ∧ r < m) ∧ ev T (.call (Str.ofString "_law_take") (.cons (.var i) (.cons e .nil))) ρ = .ok (.int r, .frz, ρ.set i (.own (pot a' b'))) :=
  ⟨_, _, _, take_spec a b hm.1, callP2 hf rfl h0 he h0 (takeRun a b hm)⟩
theorem takeK {T : Tab} {i : Nat} {ρ : DEnv} {a b : Int} (m : Int) (hf : T.fn (Str.ofString "_law_take") = some takeFI) (h0 : ρ[i]? = some (.own (pot a b))) (hm : 0 < m ∧ m < 1073741824) :
    ∃ r a' b' : Int, (0 ≤ r ∧ r < m) ∧ ev T (.call (Str.ofString "_law_take") (.cons (.var i) (.cons (.cst (.int m)) .nil))) ρ = .ok (.int r, .frz, ρ.set i (.own (pot a' b'))) :=
  takeC hf h0 (by rw [ev]) hm
theorem evBin {T : Tab} {op : Operator} {a b : IE} {x y d : Dat} {ρ ρ1 ρ2 : DEnv} {k j : Mode} (ha : ev T a ρ = .ok (x, .frz, ρ1)) (hb : ev T b ρ1 = .ok (y, k, ρ2)) (hr : binD op x y = some (d, j)) :
    ev T (.bin op a b) ρ = .ok (d, j, ρ2) := by
  rw [ev, ha, bindOk]
  simp only [hb, bindOk, now, ofOs, hr]
theorem evBinF {T : Tab} {op : Operator} {a b : IE} {x y d : Dat} {ρ ρ1 ρ2 : DEnv} {k j : Mode} (ha : ev T a ρ = .ok (x, .fresh, ρ1)) (hb : ev T b ρ1 = .ok (y, k, ρ2)) (hr : binD op x y = some (d, j)) :
    ev T (.bin op a b) ρ = .ok (d, j, ρ2) := by
  rw [ev, ha, bindOk]
  simp only [hb, bindOk, now, ofOs, hr]
theorem evIdx {T : Tab} {a b : IE} {x y d : Dat} {ρ ρ1 ρ2 : DEnv} {k j : Mode} (ha : ev T a ρ = .ok (x, k, ρ1)) (hk : k = .frz ∨ k = .fresh) (hb : ev T b ρ1 = .ok (y, j, ρ2)) (hr : idxD x y = some d) :
    ev T (.idx a b) ρ = .ok (d, .frz, ρ2) := by
  rw [ev, ha, bindOk]
  cases hk with
  | inl h => subst h; simp only [hb, bindOk, now, ofOs, hr]
  | inr h => subst h; simp only [hb, bindOk, now, ofOs, hr]
theorem evIdxB {T : Tab} {i : Nat} {b : IE} {x y d : Dat} {ρ ρ2 : DEnv} {j : Mode} (h0 : ρ[i]? = some (.own x)) (hb : ev T b ρ = .ok (y, j, ρ2)) (h1 : ρ2[i]? = some (.own x)) (hr : idxD x y = some d) :
    ev T (.idx (.var i) b) ρ = .ok (d, .frz, ρ2) := by
  have ha : ev T (.var i) ρ = .ok (x, .brw i, ρ) := by rw [ev, h0]
  rw [ev, ha, bindOk]
  simp only [hb, bindOk, now, h1, ofOs, hr]
theorem evLst {T : Tab} {es : IEs} {ds : List Dat} {ρ ρ1 : DEnv} (h : evs T es ρ = .ok (ds, ρ1)) (hs : sm ds.length = true) : ev T (.lst es) ρ = .ok (.lst ds, .fresh, ρ1) := by
  rw [ev, h, bindOk]
  simp only [hs, if_true]
theorem evTup {T : Tab} {es : IEs} {ds : List Dat} {ρ ρ1 : DEnv} (h : evs T es ρ = .ok (ds, ρ1)) (hs : sm ds.length = true) : ev T (.tup es) ρ = .ok (.tup ds, .frz, ρ1) := by
  rw [ev, h, bindOk]
  simp only [hs, if_true]
theorem evsCons {T : Tab} {e : IE} {es : IEs} {d : Dat} {ds : List Dat} {ρ ρ1 ρ2 : DEnv} {m : Mode} (hm : m = .frz ∨ m = .fresh) (h : ev T e ρ = .ok (d, m, ρ1)) (hs : evs T es ρ1 = .ok (ds, ρ2)) : evs T (.cons e es) ρ = .ok (d :: ds, ρ2) := by
  rw [evs, h, bindOk]
  cases hm with
  | inl e => subst e; simp only [keep, hs, bindOk]
  | inr e => subst e; simp only [keep, hs, bindOk]
theorem evBi1 {T : Tab} {b : BI} {a : IE} {x d : Dat} {ρ ρ1 : DEnv} {m k : Mode} (h : ev T a ρ = .ok (x, m, ρ1)) (hb : biD b [x] = some (d, k)) : ev T (.bi b (.cons a .nil)) ρ = .ok (d, k, ρ1) := by
  rw [ev, h, bindOk]
  simp only [hb, ofOs, bindOk]
theorem atI_mem {α : Type} {xs : List α} {i : Int} (h : 0 ≤ i ∧ i < xs.length) : ∃ x ∈ xs, L2.atI xs i = some x := by
  obtain ⟨h0, h1⟩ := h
  have hj : i.toNat < xs.length := by omega
  refine ⟨xs[i.toNat], List.getElem_mem hj, ?_⟩
  unfold L2.atI L2.ixN
  rw [if_pos h0, if_pos h1]
  show xs[i.toNat]? = _
  rw [List.getElem?_eq_getElem hj]
theorem evCst {T : Tab} {d : Dat} {ρ : DEnv} : ev T (.cst d) ρ = .ok (d, .frz, ρ) := by rw [ev]
theorem evNeg {T : Tab} {e : IE} {i : Int} {ρ ρ1 : DEnv} {m : Mode} (h : ev T e ρ = .ok (.int i, m, ρ1)) : ev T (.neg e) ρ = .ok (.int (-i), .frz, ρ1) := by
  rw [ev, h, bindOk]
theorem evIteT {T : Tab} {c a b : IE} {ρ ρ1 : DEnv} {m : Mode} (h : ev T c ρ = .ok (.bl true, m, ρ1)) : ev T (.ite c a b) ρ = ev T a ρ1 := by
  rw [ev, h, bindOk]
theorem evIteF {T : Tab} {c a b : IE} {ρ ρ1 : DEnv} {m : Mode} (h : ev T c ρ = .ok (.bl false, m, ρ1)) : ev T (.ite c a b) ρ = ev T b ρ1 := by
  rw [ev, h, bindOk]
theorem evBi2 {T : Tab} {b : BI} {a c : IE} {x y d : Dat} {ρ ρ1 ρ2 : DEnv} {m k : Mode} (h : ev T a ρ = .ok (x, .frz, ρ1)) (hc : ev T c ρ1 = .ok (y, m, ρ2)) (hb : biD b [x, y] = some (d, k)) : ev T (.bi b (.cons a (.cons c .nil))) ρ = .ok (d, k, ρ2) := by
  rw [ev, h, bindOk]
  simp only [hc, now, hb, ofOs, bindOk]
theorem evsNil {T : Tab} {ρ : DEnv} : evs T .nil ρ = .ok ([], ρ) := by rw [evs]
theorem binMul (i : Int) {j : Int} (h : -(2 ^ 64) < j ∧ j < 2 ^ 64) : binD .Mult (.int i) (.int j) = some (.int (i * j), .frz) := by
  show (if _ then _ else _) = _
  rw [if_pos (Or.inl h)]
theorem binMul' (i : Int) {j : Int} (h : -(2 ^ 64) < i ∧ i < 2 ^ 64) : binD .Mult (.int i) (.int j) = some (.int (i * j), .frz) := by
  show (if _ then _ else _) = _
  rw [if_pos (Or.inr h)]
theorem binMod (i : Int) {j : Int} (h : 0 < j) : binD .Mod (.int i) (.int j) = some (.int (i % j), .frz) := by
  show (if _ then _ else _) = _
  rw [if_pos h]
theorem joinL_nil : ∀ ps : List (List Nat), TL.joinL [] ps = ps.flatten
  | [] => rfl
  | [p] => by simp [TL.joinL]
  | p :: q :: r => by
    rw [TL.joinL, joinL_nil (q :: r)]
    rfl
theorem join_cs (cs : List Nat) : (Txt.join (Str.ofString "") (cs.map fun c => (⟨#[c]⟩ : Str))).cps.toList = cs := by
  show (Builtin.Str.glued (Str.ofString "") _).cps.toList = _
  rw [StrLaws.glued_eq_join]
  refine (TL.tl_join _ _).trans ?_
  show TL.joinL [] _ = _
  rw [joinL_nil, List.map_map]
  induction cs with
  | nil => rfl
  | cons c r ih =>
    rw [List.map_cons, List.flatten_cons, ih]
    rfl
theorem strs_cs : ∀ cs : List Nat, strs? (cs.map sgn) = some (cs.map fun c => (⟨#[c]⟩ : Str))
  | [] => rfl
  | c :: r => by
    show (strs? (r.map sgn)).map _ = _
    rw [strs_cs r]
    rfl
theorem evLc {T : Tab} {el it : IE} {tg : Nat} {own : List (Str × Nat)} {ρ ρ1 : DEnv} {x : Dat} {xs : List Dat} {m : Mode} (h : ev T it ρ = .ok (x, m, ρ1)) (hx : items x = some xs) :
    ev T (.lc el tg it own) ρ = comp (own.map (·.2)) (oneOf (ev T el) tg (own.map (·.2))) xs (keep m ρ1 x) := by
  rw [ev, h, bindOk]
  simp only [hx, ofOs, bindOk]
theorem evLcI {T : Tab} {el cd it : IE} {tg : Nat} {own : List (Str × Nat)} {ρ ρ1 : DEnv} {x : Dat} {xs : List Dat} {m : Mode} (h : ev T it ρ = .ok (x, m, ρ1)) (hx : items x = some xs) :
    ev T (.lcI el tg it cd own) ρ = comp (own.map (·.2)) (oneIf (ev T cd) (ev T el) tg (own.map (·.2))) xs (keep m ρ1 x) := by
  rw [ev, h, bindOk]
  simp only [hx, ofOs, bindOk]
theorem evJoin {T : Tab} {o a : IE} {ρ ρ1 ρ2 : DEnv} {s : Str} {ys : List Dat} {zs : List Str} {m k : Mode} (h : ev T o ρ = .ok (.str s, m, ρ1)) (ha : ev T a ρ1 = .ok (.lst ys, k, ρ2)) (hz : strs? ys = some zs) (hs : sm ((zs.map (·.length)).sum + zs.length * s.length) = true) :
    ev T (.join o a) ρ = .ok (.str (Txt.join s zs), .frz, ρ2) := by
  rw [ev, h, bindOk]
  simp only [ha, bindOk, hz, ofOs, hs, if_true]
theorem sum_ones : ∀ cs : List Nat, ((cs.map fun c => (⟨#[c]⟩ : Str)).map (·.length)).sum = cs.length
  | [] => rfl
  | c :: r => by
    rw [List.map_cons, List.map_cons, List.sum_cons, sum_ones r, List.length_cons, Nat.add_comm]
    rfl
def isStr (d : Dat) : Prop := ∃ w, d = .str w
theorem str_add (x y : Str) (h : x.length + y.length ≤ 1000) : binD .Add (.str x) (.str y) = some (.str (x ++ y), .frz) := by
  show (if sm (x.length + y.length) = true then _ else _) = _
  rw [if_pos (sm_lit h)]
theorem lst_add (x y : List Dat) (h : x.length + y.length ≤ 1000) : binD .Add (.lst x) (.lst y) = some (.lst (x ++ y), .fresh) := by
  show (if sm (x.length + y.length) = true then _ else _) = _
  rw [if_pos (sm_lit h)]
theorem cut_str (s : Str) (k : Int) (h : s.length ≤ 1000) : slcD (.str s) none (some k) = some (.str (L2.cutS s none (some k)), .frz) := by
  show (if sm s.length = true then _ else _) = _
  rw [if_pos (sm_lit h)]
theorem evSlcR {T : Tab} {a : IE} {x d : Dat} {i : Int} {ρ ρ1 : DEnv} {k : Mode} (ha : ev T a ρ = .ok (x, .frz, ρ1)) (hr : slcD x none (some i) = some (d, k)) :
    ev T (.slcR a (.cst (.int i))) ρ = .ok (d, k, ρ1) := by
  rw [ev, ha, bindOk]
  simp only [evCst, bindOk, now, ofOs, hr]
def lowS (s : Str) : Prop := ∀ c ∈ s.cps.toList, c < 128
theorem evNot {T : Tab} {e : IE} {b : Bool} {ρ ρ1 : DEnv} {m : Mode} (h : ev T e ρ = .ok (.bl b, m, ρ1)) : ev T (.not e) ρ = .ok (.bl (!b), .frz, ρ1) := by
  rw [ev, h, bindOk]
theorem evOrT {T : Tab} {a b : IE} {ρ ρ1 : DEnv} {m : Mode} (h : ev T a ρ = .ok (.bl true, m, ρ1)) : ev T (.or a b) ρ = .ok (.bl true, .frz, ρ1) := by
  rw [ev, h, bindOk]
theorem evOrF {T : Tab} {a b : IE} {ρ ρ1 : DEnv} {m : Mode} (h : ev T a ρ = .ok (.bl false, m, ρ1)) : ev T (.or a b) ρ = ev T b ρ1 := by
  rw [ev, h, bindOk]
theorem evAndT {T : Tab} {a b : IE} {ρ ρ1 : DEnv} {m : Mode} (h : ev T a ρ = .ok (.bl true, m, ρ1)) : ev T (.and a b) ρ = ev T b ρ1 := by
  rw [ev, h, bindOk]
theorem evIsi {T : Tab} {a : IE} {ty : String} {x : Dat} {b : Bool} {ρ ρ1 : DEnv} {m : Mode} (h : ev T a ρ = .ok (x, m, ρ1)) (hb : x.isa ty = some b) : ev T (.isi a ty) ρ = .ok (.bl b, .frz, ρ1) := by
  rw [ev, h, bindOk]
  simp only [hb, ofOs, bindOk]
theorem evGlb {T : Tab} {x : Str} {d : Dat} {ρ : DEnv} (h : T.con x = some d) : ev T (.glb x) ρ = .ok (d, .frz, ρ) := by
  rw [ev, h]
  rfl
theorem evSplit {T : Tab} {o a : IE} {ρ ρ1 ρ2 : DEnv} {s t : Str} {m k : Mode} (h : ev T o ρ = .ok (.str s, m, ρ1)) (ha : ev T a ρ1 = .ok (.str t, k, ρ2)) (hs : (sm s.length && !(t.length == 0)) = true) :
    ev T (.split o a) ρ = .ok (.lst ((Txt.split s t).map .str), .fresh, ρ2) := by
  rw [ev, h, bindOk]
  simp only [ha, bindOk, hs, if_true]
theorem evIsN {T : Tab} {a : IE} {b : Bool} {x : Dat} {ρ ρ1 : DEnv} {m : Mode} (h : ev T a ρ = .ok (x, m, ρ1)) : ev T (.isN b a) ρ = .ok (.bl (if b then x.isNon else !x.isNon), .frz, ρ1) := by
  rw [ev, h, bindOk]
theorem evIsE {T : Tab} {i : Nat} {c d : Str} {fs : List (Str × Dat)} {b : Bool} {ρ : DEnv} (h : ρ[i]? = some (.exn c fs)) (hb : T.sub c d = some b) : ev T (.isE i [d]) ρ = .ok (.bl b, .frz, ρ) := by
  rw [ev, h]
  cases b <;> simp only [subs, hb, ofOs, bindOk]
theorem evSlcL {T : Tab} {a : IE} {x d : Dat} {i : Int} {ρ ρ1 : DEnv} {k j : Mode} (ha : ev T a ρ = .ok (x, j, ρ1)) (hj : j = .frz ∨ j = .fresh) (hr : slcD x (some i) none = some (d, k)) :
    ev T (.slcL a (.cst (.int i))) ρ = .ok (d, k, ρ1) := by
  rw [ev, ha, bindOk]
  cases hj with
  | inl h => subst h; simp only [evCst, bindOk, now, ofOs, hr]
  | inr h => subst h; simp only [evCst, bindOk, now, ofOs, hr]
theorem evCmpF {T : Tab} {op : CmpOp} {a b : IE} {x y : Dat} {ρ ρ1 ρ2 : DEnv} {k : Mode} {r : Bool} (ha : ev T a ρ = .ok (x, .fresh, ρ1)) (hb : ev T b ρ1 = .ok (y, k, ρ2)) (hr : cmpD op x y = some r) :
    ev T (.cmp op a b) ρ = .ok (.bl r, .frz, ρ2) := by
  rw [ev, ha, bindOk]
  simp only [hb, bindOk, now, ofOs, hr]
theorem evBinX {T : Tab} {op : Operator} {a b : IE} {x : Dat} {ρ ρ1 ρ2 : DEnv} {k : Mode} {c : Str} {fs : List (Str × Dat)} (ha : ev T a ρ = .ok (x, k, ρ1)) (hb : ev T b ρ1 = .exc c fs ρ2) :
    ev T (.bin op a b) ρ = .exc c fs ρ2 := by
  rw [ev, ha, bindOk]
  simp only [hb]
  rfl
theorem evBi1X {T : Tab} {b : BI} {a : IE} {ρ ρ1 : DEnv} {c : Str} {fs : List (Str × Dat)} (h : ev T a ρ = .exc c fs ρ1) : ev T (.bi b (.cons a .nil)) ρ = .exc c fs ρ1 := by
  rw [ev, h]
  rfl
theorem evTup2X {T : Tab} {d : Dat} {e : IE} {es : IEs} {ρ ρ1 : DEnv} {c : Str} {fs : List (Str × Dat)} (h : ev T e ρ = .exc c fs ρ1) : ev T (.tup (.cons (.cst d) (.cons e es))) ρ = .exc c fs ρ1 := by
  rw [ev, evs, evCst, bindOk]
  simp only [keep, evs, h]
  rfl
theorem evFst3 {T : Tab} {a b c : IE} {x y z : Dat} {s t u : Str} {ρ ρ1 ρ2 ρ3 : DEnv} {m k j : Mode} (ha : ev T a ρ = .ok (x, m, ρ1)) (h1 : fmtD Str.empty x = some s) (hb : ev T b ρ1 = .ok (y, k, ρ2)) (h2 : fmtD s y = some t) (hc : ev T c ρ2 = .ok (z, j, ρ3)) (h3 : fmtD t z = some u) :
    ev T (.fst (.cons a (.cons b (.cons c .nil)))) ρ = .ok (.str u, .frz, ρ3) := by
  rw [ev, evF, ha, bindOk]
  simp only [h1, ofOs, bindOk, evF, hb, h2, hc, h3]
end Ev
set_option Elab.async false
set_option linter.all false
set_option maxRecDepth 100000
set_option maxHeartbeats 4000000
namespace Ev
open PySem
/-! what may be told: bounds that grow by parts -/
structure NiceL (xs : List Dat) (p b : Nat) : Prop where
  pu : pures xs = true
  sh : PyData.showableAll (toPys xs) = true
  dp : PyData.depthAll (toPys xs) ≤ p
  lv : PyData.leavesShortAll 25 (toPys xs) = true
  bk : PyData.bulkAll (toPys xs) ≤ b
structure Nice (d : Dat) (p b : Nat) : Prop where
  pu : d.pure = true
  sh : d.toPy.showable = true
  dp : d.toPy.depth ≤ p
  lv : d.toPy.leavesShort 25 = true
  bk : d.toPy.bulk ≤ b
theorem toPys_append : ∀ xs ys : List Dat, toPys (xs ++ ys) = toPys xs ++ toPys ys
  | [], ys => rfl
  | x :: xs, ys => by
    show _ :: toPys (xs ++ ys) = _
    rw [toPys_append xs ys]
    rfl
theorem niceL_nil (p : Nat) : NiceL [] p 0 := ⟨rfl, rfl, Nat.zero_le _, rfl, Nat.le_refl _⟩
theorem niceL_cons {x : Dat} {xs : List Dat} {p b c : Nat} (h : Nice x p b) (hs : NiceL xs p c) : NiceL (x :: xs) p (b + 1 + c) := by
  refine ⟨?_, ?_, ?_, ?_, ?_⟩
  · simp only [pures, h.pu, hs.pu, Bool.and_self]
  · simp only [toPys, PyData.showableAll, h.sh, hs.sh, Bool.and_self]
  · have := h.dp
    have := hs.dp
    simp only [toPys, PyData.depthAll]
    omega
  · simp only [toPys, PyData.leavesShortAll, h.lv, hs.lv, Bool.and_self]
  · have := h.bk
    have := hs.bk
    simp only [toPys, PyData.bulkAll]
    omega
theorem niceL_uncons {x : Dat} {xs : List Dat} {p b : Nat} (h : NiceL (x :: xs) p b) : Nice x p b ∧ NiceL xs p b := by
  obtain ⟨h0, h1, h2, h3, h4⟩ := h
  simp only [pures, toPys, PyData.showableAll, PyData.leavesShortAll, Bool.and_eq_true] at h0 h1 h3
  simp only [toPys, PyData.depthAll, PyData.bulkAll] at h2 h4
  exact ⟨⟨h0.1, h1.1, by omega, h3.1, by omega⟩, ⟨h0.2, h1.2, by omega, h3.2, by omega⟩⟩
theorem niceL_mono {xs : List Dat} {p b c : Nat} (h : NiceL xs p b) (hc : b ≤ c) : NiceL xs p c := ⟨h.pu, h.sh, h.dp, h.lv, Nat.le_trans h.bk hc⟩
theorem nice_mono {d : Dat} {p q b c : Nat} (h : Nice d p b) (hp : p ≤ q) (hc : b ≤ c) : Nice d q c := ⟨h.pu, h.sh, Nat.le_trans h.dp hp, h.lv, Nat.le_trans h.bk hc⟩
theorem niceL_append {p c : Nat} {ys : List Dat} (hy : NiceL ys p c) : ∀ {xs : List Dat} {b : Nat}, NiceL xs p b → NiceL (xs ++ ys) p (b + c)
  | [], b, h => niceL_mono hy (by omega)
  | x :: xs, b, h => by
    obtain ⟨h0, h1, h2, h3, h4⟩ := h
    simp only [pures, toPys, PyData.showableAll, PyData.leavesShortAll, Bool.and_eq_true] at h0 h1 h3
    simp only [toPys, PyData.depthAll, PyData.bulkAll] at h2 h4
    have ih := niceL_append hy (xs := xs) (b := PyData.bulkAll (toPys xs)) ⟨h0.2, h1.2, by omega, h3.2, Nat.le_refl _⟩
    have hx : Nice x p x.toPy.bulk := ⟨h0.1, h1.1, by omega, h3.1, Nat.le_refl _⟩
    exact niceL_mono (niceL_cons hx ih) (by omega)
theorem niceL_drop {p b : Nat} : ∀ {xs : List Dat} (n : Nat), NiceL xs p b → NiceL (xs.drop n) p b
  | [], n, h => by rw [List.drop_nil]; exact h
  | x :: xs, 0, h => h
  | x :: xs, n + 1, h => by
    rw [List.drop_succ_cons]
    exact niceL_drop n (niceL_uncons h).2
theorem niceL_take {p : Nat} : ∀ {xs : List Dat} {b : Nat} (n : Nat), NiceL xs p b → NiceL (xs.take n) p b
  | [], b, n, h => by rw [List.take_nil]; exact h
  | x :: xs, b, 0, h => by rw [List.take_zero]; exact niceL_mono (niceL_nil p) (by omega)
  | x :: xs, b, n + 1, h => by
    obtain ⟨h0, h1, h2, h3, h4⟩ := h
    simp only [pures, toPys, PyData.showableAll, PyData.leavesShortAll, Bool.and_eq_true] at h0 h1 h3
    simp only [toPys, PyData.depthAll, PyData.bulkAll] at h2 h4
    have ih := niceL_take (p := p) (xs := xs) (b := PyData.bulkAll (toPys xs)) n ⟨h0.2, h1.2, by omega, h3.2, Nat.le_refl _⟩
    have hx : Nice x p x.toPy.bulk := ⟨h0.1, h1.1, by omega, h3.1, Nat.le_refl _⟩
    rw [List.take_succ_cons]
    exact niceL_mono (niceL_cons hx ih) (by omega)
theorem niceL_cut {p b : Nat} {xs : List Dat} (lo hi : Option Int) (h : NiceL xs p b) : NiceL (cut xs lo hi) p b := niceL_take _ (niceL_drop _ h)
theorem nice_tup {p b : Nat} {xs : List Dat} (h : NiceL xs p b) : Nice (.tup xs) (p + 1) b := by
  refine ⟨h.pu, ?_, ?_, ?_, ?_⟩
  · simp only [Dat.toPy, PyData.showable, h.sh]
  · have := h.dp
    simp only [Dat.toPy, PyData.depth]
    omega
  · simp only [Dat.toPy, PyData.leavesShort, h.lv]
  · have := h.bk
    simp only [Dat.toPy, PyData.bulk]
    omega
theorem nice_lst {p b : Nat} {xs : List Dat} (h : NiceL xs p b) : Nice (.lst xs) (p + 1) b := by
  refine ⟨h.pu, ?_, ?_, ?_, ?_⟩
  · simp only [Dat.toPy, PyData.showable, h.sh]
  · have := h.dp
    simp only [Dat.toPy, PyData.depth]
    omega
  · simp only [Dat.toPy, PyData.leavesShort, h.lv]
  · have := h.bk
    simp only [Dat.toPy, PyData.bulk]
    omega
theorem nice_int {i : Int} (h : i.natAbs < 10 ^ 21) : Nice (.int i) 1 0 := by
  refine ⟨rfl, ?_, ?_, ?_, ?_⟩
  · have h2 : i.natAbs < 2 ^ 1920 := Nat.lt_of_lt_of_le h (by decide +kernel)
    simp only [Dat.toPy, PyData.showable, decide_eq_true_eq]
    by_cases h0 : i.natAbs = 0
    · rw [h0]; decide
    · exact (Nat.log2_lt h0).mpr h2
  · simp only [Dat.toPy, PyData.depth]
    omega
  · have h2 := int_text_length_le10 (k := 21) (by omega) h
    show PyData.leavesShort 25 (.int i) = true
    rw [PyData.leavesShort]
    refine decide_eq_true ?_
    show (Str.ofString (toString i)).length ≤ 25
    rw [ofString_length]
    omega
  · exact Nat.le_refl _
theorem nice_str {s : Str} (h : lowS s) : Nice (.str s) 1 s.length := by
  refine ⟨rfl, rfl, ?_, ?_, Nat.le_refl _⟩
  · simp only [Dat.toPy, PyData.depth]
    omega
  · simp only [Dat.toPy, PyData.leavesShort, List.all_eq_true, decide_eq_true_eq]
    intro c hc
    have := h c hc
    omega
theorem tell_of {d : Dat} {b : Nat} (h : Nice d 40 b) (hb : b ≤ 3000) (hd : d.toPy.hasDict = false ∨ d.noLst = true) : d.tell = true := by
  have h1 := PyData.shown_le_bulk 25 (by omega) d.toPy h.lv
  have h2 := h.bk
  have h3 : sm d.toPy.shown.length = true := decide_eq_true (by omega)
  unfold Dat.tell
  rw [h.pu, h.sh, decide_eq_true h.dp, h3]
  cases hd with
  | inl hd => rw [hd]; rfl
  | inr hd => rw [hd, Bool.or_true]; rfl
end Ev
set_option Elab.async false
set_option linter.all false
set_option maxRecDepth 100000
set_option maxHeartbeats 4000000
namespace Ev
open PySem
section
variable {T : Tab} {ios : List Nat}
theorem evVarO {i : Nat} {d : Dat} {ρ : DEnv} (h : ρ[i]? = some (.own d)) : ev T (.var i) ρ = .ok (d, .brw i, ρ) := by
  rw [ev, h]
theorem evBinB {op : Operator} {i : Nat} {b : IE} {x y d : Dat} {ρ ρ2 : DEnv} {k j : Mode} (h0 : ρ[i]? = some (.own x)) (hb : ev T b ρ = .ok (y, k, ρ2)) (h1 : ρ2[i]? = some (.own x)) (hr : binD op x y = some (d, j)) :
    ev T (.bin op (.var i) b) ρ = .ok (d, j, ρ2) := by
  rw [ev, evVarO h0, bindOk]
  simp only [hb, bindOk, now, h1, ofOs, hr]
theorem evsC {e : IE} {es : IEs} {d : Dat} {ds : List Dat} {ρ : DEnv} {m : Mode} (hm : m = .frz ∨ m = .fresh) (h : ev T e ρ = .ok (d, m, ρ)) (hs : evs T es ρ = .ok (ds, ρ)) : evs T (.cons e es) ρ = .ok (d :: ds, ρ) := evsCons hm h hs
theorem evTupC {es : IEs} {ds : List Dat} {ρ : DEnv} (h : evs T es ρ = .ok (ds, ρ)) (hs : sm ds.length = true) : ev T (.tup es) ρ = .ok (.tup ds, .frz, ρ) := evTup h hs
theorem evLstC {es : IEs} {ds : List Dat} {ρ : DEnv} (h : evs T es ρ = .ok (ds, ρ)) (hs : sm ds.length = true) : ev T (.lst es) ρ = .ok (.lst ds, .fresh, ρ) := evLst h hs
theorem evPr {p : P1} {a : IE} {x d : Dat} {k m : Mode} {ρ ρ1 : DEnv} (hk : okP T p = true) (h : ev T a ρ = .ok (x, m, ρ1)) (hd : pr1D T p x = some (d, k)) : ev T (.pr p a) ρ = .ok (d, k, ρ1) := by
  rw [ev, if_neg (by rw [hk]; decide), h, bindOk]
  simp only [hd, ofOs, bindOk]
theorem evMk {c f : Str} {fs : List Str} {es : IEs} {ds : List Dat} {ρ ρ1 : DEnv} (h : T.exc c = some (f :: fs)) (he : evs T es ρ = .ok (ds, ρ1)) (hl : ds.length = fs.length + 1) (ht : T.takes c ds = true) :
    ev T (.mk c es) ρ = .ok (.obj c (((f :: fs).zip ds).reverse), .frz, ρ1) := by
  rw [ev, h]
  simp only [he, bindOk, mkD]
  rw [if_pos ⟨hl, ht⟩]
  rfl
theorem evMk0 {c : Str} {es : IEs} {x : Dat} {ρ ρ1 : DEnv} (h : T.exc c = some []) (he : evs T es ρ = .ok ([x], ρ1)) : ev T (.mk c es) ρ = .ok (.obj c [], .frz, ρ1) := by
  rw [ev, h]
  simp only [he, bindOk, mkD]
  rfl
theorem evMkK {c f : Str} {fs ks : List Str} {es : IEs} {ds ws : List Dat} {ρ ρ1 : DEnv} (h : T.exc c = some (f :: fs)) (hk : T.mkw c ks = true) (he : evs T es ρ = .ok (ds, ρ1)) (hl : ds.length = (f :: fs).length ∧ ks.length = (f :: fs).length) (hb : byNames (f :: fs) ks ds = some ws) (ht : T.takes c ws = true) :
    ev T (.mkK c ks es) ρ = .ok (.obj c (((f :: fs).zip ws).reverse), .frz, ρ1) := by
  rw [ev, h]
  simp only [hk, if_true, he, bindOk, mkDK]
  rw [if_pos hl, hb]
  simp only [Option.bind, ht, if_true, ofOs, bindOk]
theorem repD {d : Dat} (h : d.tell = true) : biD .repr [d] = some (.str d.toPy.shown, .frz) := by
  show (if d.tell = true then _ else _) = _
  rw [if_pos h]
theorem neS (s : Str) : cmpD .NotEq (.str s) (.str s) = some false := by
  simp [cmpD, eqFlat]
theorem eqS (s : Str) : cmpD .Eq (.str s) (.str s) = some true := by
  show eqD (.str s) (.str s) = _
  simp [eqD, eqFlat]
theorem evIteE {c a b : IE} {x : Bool} {ρ ρ1 : DEnv} {m : Mode} (h : ev T c ρ = .ok (.bl x, m, ρ1)) : ev T (.ite c a b) ρ = if x then ev T a ρ1 else ev T b ρ1 := by
  rw [ev, h, bindOk]
  cases x <;> rfl
end
/-- what may be told, as a truth -/
def Dat.nice (d : Dat) (p b : Nat) : Bool := d.pure && d.toPy.showable && decide (d.toPy.depth ≤ p) && d.toPy.leavesShort 25 && decide (d.toPy.bulk ≤ b)
theorem nice_of {d : Dat} {p b : Nat} (h : d.nice p b = true) : Nice d p b := by
  unfold Dat.nice at h
  simp only [Bool.and_eq_true, decide_eq_true_eq] at h
  exact ⟨h.1.1.1.1, h.1.1.1.2, h.1.1.2, h.1.2, h.2⟩
end Ev
set_option Elab.async false
set_option linter.all false
set_option maxRecDepth 100000
set_option maxHeartbeats 4000000
namespace K19
open PySem PySem.Spec PyProof.Rows L2 Ev PySem.OEX
def topE (i : Nat) : Stmt := PySem.Challenge.pw_onefacers_k19_errors_made.main.body.getD i (.Pass ⟨0, 0, 0, 0⟩)
def inCls (st : Stmt) (i : Nat) : Stmt := match st with
  | .ClassDef _ _ _ body _ _ _ _ _ _ _ => body.getD i (.Pass ⟨0, 0, 0, 0⟩)
  | _ => .Pass ⟨0, 0, 0, 0⟩
theorem upd3 {H : Hp} {a d : Addr} {x y z : HO} (hne : d ≠ a) : upd (upd (upd H d x) a z) d y = upd (upd H d y) a z := by
  funext b
  by_cases h1 : b = d
  · subst h1
    rw [upd_same, upd_ne hne, upd_same]
  · rw [upd_ne h1]
    by_cases h2 : b = a
    · subst h2
      rw [upd_same, upd_same]
    · rw [upd_ne h2, upd_ne h2, upd_ne h1, upd_ne h1]
def okE (K : PySem.W.Frag) (mg : Str → Option Value) (tk : List Dat → Bool) : Hp → List V → Prop := fun H vs => ∃ ds, IsL ⟨K, mg, none⟩ H vs ds ∧ tk ds = true
abbrev st_NoKinds : Stmt := inCls (topE 2) 0
theorem sc_NoKinds : FnScope (selfs [(Str.ofString "what"), (Str.ofString "who")]) (selfs [(Str.ofString "what"), (Str.ofString "who")]) (defScope st_NoKinds) := ⟨rfl, rfl, rfl, by decide +kernel, rfl, by decide +kernel, by decide +kernel⟩
def tk_NoKinds : List Dat → Bool
  | [x0, x1] => x0.fmtOk
  | _ => false
theorem ok_NoKinds {P : Program} {w : World} {K : PySem.W.Frag} {mg : Str → Option Value} {base : Heap} {k : Nat} {f C : Addr} {fd : FuncData} (hsy : HasSys base) (F : Fun K "__init__" "NoKinds.__init__" st_NoKinds f fd) (T : OxC K C tlV "ValueError" "ValueError.__new__" "ValueError" "ValueError.__init__")
    (n0 : PySem.W.findIn K (.ref C) (Str.ofString "what") = some none) (n1 : PySem.W.findIn K (.ref C) (Str.ofString "who") = some none) {CF : Addr} {mc : Value} (hm : mg "FacerError" = some (.ref CF)) (hk : PySem.W.keepIn K (.ref CF) = true) (g1 : PySem.W.specialIn K (.ref CF) "__getattribute__" = some (some (.builtin "type.__getattribute__"))) (g2 : PySem.W.typeIn K (.ref CF) = some mc) (g3 : PySem.W.readsIn K CF mc = true) (vV : PySem.W.findCls K (.ref CF) mc "__init__" = some (.val (.builtin "ValueError.__init__"))) :
    FnG P w K mg base (k + 1) f fd (selfs [(Str.ofString "what"), (Str.ofString "who")]) (spI C [(Str.ofString "what"), (Str.ofString "who")] (okE K mg tk_NoKinds)) := by
  refine fnG_of F sc_NoKinds (fun vs H Q E h => ?_) fun cdv A outer s H vs Q E hr hgd h => ?_
  · obtain ⟨a, ws, rfl, hl, _⟩ := h
    rw [List.length_cons, List.length_cons, hl]
  · have hu : (A.deeper (envOfC "NoKinds.__init__" (defScope st_NoKinds) s.heap.objs.size f cdv)).units + 64 < cLine := by
      have := hr.un
      omega
    obtain ⟨a, ws, rfl, hl, ⟨ds, l, ht⟩, ha, q⟩ := h
    cases l with
    | nil => cases hl
    | @cons v0 d0 _ _ i0 l =>
    cases l with
    | nil => cases hl
    | @cons v1 d1 _ _ i1 l =>
    cases l with
    | cons _ _ => cases hl
    | nil =>
    have ht : (d0.fmtOk) = true := ht
    have ht0 := ht
    refine ⟨_, pss_cons (ps_expr (pe_cinit (CF := CF) (mc := mc) (initId := "ValueError.__init__") (by rfl) hm hk (by decide) g1 g2 g3 vV (by decide +kernel) (pa_cons (pv 0) (pa_cons (pe_joined (.cons pe_str (.cons (pe_fmtD (ea := none) (d := d0) hsy hgd hu ht0 (pv 1)) .nil))) pa_nil)))) (pss_cons (ps_xs (pv 0) (pv 1)) (pss_one (ps_xs (pv 0) (pv 2)))), ?_⟩
    have sl : sizeLine = 16777216 := sizeLine_eq
    refine ⟨.ref a, rfl, ?_⟩
    have lc0 : (Str.ofString "no kinds: ").length = 10 := by decide +kernel
    refine ⟨(Str.ofString "no kinds: "), rfl, by simp only [Str.length_append, lc0]; have : (Str.empty).length = 0 := (by rfl); omega, ?_⟩
    refine ⟨v0, rfl, i0, fun y1 hy1 => ⟨y1, rfl, by simp only [Str.length_append, lc0]; have : (Str.empty).length = 0 := (by rfl); omega, ?_⟩⟩
    refine ⟨a, C, [_], _, _, _, _, rfl, by simp, T, ha, ?_⟩
    refine ⟨v0, rfl, .ref a, rfl, a, C, _, _, _, _, _, rfl, T, n0, .inl ⟨ha, fun dx hd hne => ?_⟩⟩
    refine ⟨v1, rfl, .ref a, rfl, a, C, _, _, _, _, _, rfl, T, n1, .inr ⟨dx, [((Str.ofString "what"), v0)], upd_same, by rw [upd_ne hne, upd_same], by simp, ?_⟩⟩
    show Q .non (upd (upd (upd H dx (exd dx [((Str.ofString "what"), v0)])) a (exo a C (some dx))) dx (exd dx [((Str.ofString "who"), v1), ((Str.ofString "what"), v0)]))
    rw [upd3 hne]
    exact q dx hd hne
abbrev st_NoWeb : Stmt := inCls (topE 3) 0
theorem sc_NoWeb : FnScope (selfs [(Str.ofString "what"), (Str.ofString "who")]) (selfs [(Str.ofString "what"), (Str.ofString "who")]) (defScope st_NoWeb) := ⟨rfl, rfl, rfl, by decide +kernel, rfl, by decide +kernel, by decide +kernel⟩
def tk_NoWeb : List Dat → Bool
  | [x0, x1] => x0.fmtOk
  | _ => false
theorem ok_NoWeb {P : Program} {w : World} {K : PySem.W.Frag} {mg : Str → Option Value} {base : Heap} {k : Nat} {f C : Addr} {fd : FuncData} (hsy : HasSys base) (F : Fun K "__init__" "NoWeb.__init__" st_NoWeb f fd) (T : OxC K C tlV "ValueError" "ValueError.__new__" "ValueError" "ValueError.__init__")
    (n0 : PySem.W.findIn K (.ref C) (Str.ofString "what") = some none) (n1 : PySem.W.findIn K (.ref C) (Str.ofString "who") = some none) {CF : Addr} {mc : Value} (hm : mg "FacerError" = some (.ref CF)) (hk : PySem.W.keepIn K (.ref CF) = true) (g1 : PySem.W.specialIn K (.ref CF) "__getattribute__" = some (some (.builtin "type.__getattribute__"))) (g2 : PySem.W.typeIn K (.ref CF) = some mc) (g3 : PySem.W.readsIn K CF mc = true) (vV : PySem.W.findCls K (.ref CF) mc "__init__" = some (.val (.builtin "ValueError.__init__"))) :
    FnG P w K mg base (k + 1) f fd (selfs [(Str.ofString "what"), (Str.ofString "who")]) (spI C [(Str.ofString "what"), (Str.ofString "who")] (okE K mg tk_NoWeb)) := by
  refine fnG_of F sc_NoWeb (fun vs H Q E h => ?_) fun cdv A outer s H vs Q E hr hgd h => ?_
  · obtain ⟨a, ws, rfl, hl, _⟩ := h
    rw [List.length_cons, List.length_cons, hl]
  · have hu : (A.deeper (envOfC "NoWeb.__init__" (defScope st_NoWeb) s.heap.objs.size f cdv)).units + 64 < cLine := by
      have := hr.un
      omega
    obtain ⟨a, ws, rfl, hl, ⟨ds, l, ht⟩, ha, q⟩ := h
    cases l with
    | nil => cases hl
    | @cons v0 d0 _ _ i0 l =>
    cases l with
    | nil => cases hl
    | @cons v1 d1 _ _ i1 l =>
    cases l with
    | cons _ _ => cases hl
    | nil =>
    have ht : (d0.fmtOk) = true := ht
    have ht0 := ht
    refine ⟨_, pss_cons (ps_expr (pe_cinit (CF := CF) (mc := mc) (initId := "ValueError.__init__") (by rfl) hm hk (by decide) g1 g2 g3 vV (by decide +kernel) (pa_cons (pv 0) (pa_cons (pe_joined (.cons pe_str (.cons (pe_fmtD (ea := none) (d := d0) hsy hgd hu ht0 (pv 1)) .nil))) pa_nil)))) (pss_cons (ps_xs (pv 0) (pv 1)) (pss_one (ps_xs (pv 0) (pv 2)))), ?_⟩
    have sl : sizeLine = 16777216 := sizeLine_eq
    refine ⟨.ref a, rfl, ?_⟩
    have lc0 : (Str.ofString "no web: ").length = 8 := by decide +kernel
    refine ⟨(Str.ofString "no web: "), rfl, by simp only [Str.length_append, lc0]; have : (Str.empty).length = 0 := (by rfl); omega, ?_⟩
    refine ⟨v0, rfl, i0, fun y1 hy1 => ⟨y1, rfl, by simp only [Str.length_append, lc0]; have : (Str.empty).length = 0 := (by rfl); omega, ?_⟩⟩
    refine ⟨a, C, [_], _, _, _, _, rfl, by simp, T, ha, ?_⟩
    refine ⟨v0, rfl, .ref a, rfl, a, C, _, _, _, _, _, rfl, T, n0, .inl ⟨ha, fun dx hd hne => ?_⟩⟩
    refine ⟨v1, rfl, .ref a, rfl, a, C, _, _, _, _, _, rfl, T, n1, .inr ⟨dx, [((Str.ofString "what"), v0)], upd_same, by rw [upd_ne hne, upd_same], by simp, ?_⟩⟩
    show Q .non (upd (upd (upd H dx (exd dx [((Str.ofString "what"), v0)])) a (exo a C (some dx))) dx (exd dx [((Str.ofString "who"), v1), ((Str.ofString "what"), v0)]))
    rw [upd3 hne]
    exact q dx hd hne
abbrev st_NoBook : Stmt := inCls (topE 4) 0
theorem sc_NoBook : FnScope (selfs [(Str.ofString "what"), (Str.ofString "number")]) (selfs [(Str.ofString "what"), (Str.ofString "number")]) (defScope st_NoBook) := ⟨rfl, rfl, rfl, by decide +kernel, rfl, by decide +kernel, by decide +kernel⟩
def tk_NoBook : List Dat → Bool
  | [x0, x1] => x0.fmtOk && x1.fmtOk
  | _ => false
theorem ok_NoBook {P : Program} {w : World} {K : PySem.W.Frag} {mg : Str → Option Value} {base : Heap} {k : Nat} {f C : Addr} {fd : FuncData} (hsy : HasSys base) (F : Fun K "__init__" "NoBook.__init__" st_NoBook f fd) (T : OxC K C tlV "ValueError" "ValueError.__new__" "ValueError" "ValueError.__init__")
    (n0 : PySem.W.findIn K (.ref C) (Str.ofString "what") = some none) (n1 : PySem.W.findIn K (.ref C) (Str.ofString "number") = some none) {CF : Addr} {mc : Value} (hm : mg "FacerError" = some (.ref CF)) (hk : PySem.W.keepIn K (.ref CF) = true) (g1 : PySem.W.specialIn K (.ref CF) "__getattribute__" = some (some (.builtin "type.__getattribute__"))) (g2 : PySem.W.typeIn K (.ref CF) = some mc) (g3 : PySem.W.readsIn K CF mc = true) (vV : PySem.W.findCls K (.ref CF) mc "__init__" = some (.val (.builtin "ValueError.__init__"))) :
    FnG P w K mg base (k + 1) f fd (selfs [(Str.ofString "what"), (Str.ofString "number")]) (spI C [(Str.ofString "what"), (Str.ofString "number")] (okE K mg tk_NoBook)) := by
  refine fnG_of F sc_NoBook (fun vs H Q E h => ?_) fun cdv A outer s H vs Q E hr hgd h => ?_
  · obtain ⟨a, ws, rfl, hl, _⟩ := h
    rw [List.length_cons, List.length_cons, hl]
  · have hu : (A.deeper (envOfC "NoBook.__init__" (defScope st_NoBook) s.heap.objs.size f cdv)).units + 64 < cLine := by
      have := hr.un
      omega
    obtain ⟨a, ws, rfl, hl, ⟨ds, l, ht⟩, ha, q⟩ := h
    cases l with
    | nil => cases hl
    | @cons v0 d0 _ _ i0 l =>
    cases l with
    | nil => cases hl
    | @cons v1 d1 _ _ i1 l =>
    cases l with
    | cons _ _ => cases hl
    | nil =>
    have ht : (d0.fmtOk && d1.fmtOk) = true := ht
    have ht0 := (and_and ht).1
    have ht1 := (and_and ht).2
    refine ⟨_, pss_cons (ps_expr (pe_cinit (CF := CF) (mc := mc) (initId := "ValueError.__init__") (by rfl) hm hk (by decide) g1 g2 g3 vV (by decide +kernel) (pa_cons (pv 0) (pa_cons (pe_joined (.cons pe_str (.cons (pe_fmtD (ea := none) (d := d0) hsy hgd hu ht0 (pv 1)) (.cons pe_str (.cons (pe_fmtD (ea := none) (d := d1) hsy hgd hu ht1 (pv 2)) .nil))))) pa_nil)))) (pss_cons (ps_xs (pv 0) (pv 1)) (pss_one (ps_xs (pv 0) (pv 2)))), ?_⟩
    have sl : sizeLine = 16777216 := sizeLine_eq
    refine ⟨.ref a, rfl, ?_⟩
    have lc0 : (Str.ofString "no book: ").length = 9 := by decide +kernel
    refine ⟨(Str.ofString "no book: "), rfl, by simp only [Str.length_append, lc0]; have : (Str.empty).length = 0 := (by rfl); omega, ?_⟩
    refine ⟨v0, rfl, i0, fun y1 hy1 => ⟨y1, rfl, by simp only [Str.length_append, lc0]; have : (Str.empty).length = 0 := (by rfl); omega, ?_⟩⟩
    have lc2 : (Str.ofString " of rule ").length = 9 := by decide +kernel
    refine ⟨(Str.ofString " of rule "), rfl, by simp only [Str.length_append, lc0, lc2]; have : (Str.empty).length = 0 := (by rfl); omega, ?_⟩
    refine ⟨v1, rfl, i1, fun y3 hy3 => ⟨y3, rfl, by simp only [Str.length_append, lc0, lc2]; have : (Str.empty).length = 0 := (by rfl); omega, ?_⟩⟩
    refine ⟨a, C, [_], _, _, _, _, rfl, by simp, T, ha, ?_⟩
    refine ⟨v0, rfl, .ref a, rfl, a, C, _, _, _, _, _, rfl, T, n0, .inl ⟨ha, fun dx hd hne => ?_⟩⟩
    refine ⟨v1, rfl, .ref a, rfl, a, C, _, _, _, _, _, rfl, T, n1, .inr ⟨dx, [((Str.ofString "what"), v0)], upd_same, by rw [upd_ne hne, upd_same], by simp, ?_⟩⟩
    show Q .non (upd (upd (upd H dx (exd dx [((Str.ofString "what"), v0)])) a (exo a C (some dx))) dx (exd dx [((Str.ofString "number"), v1), ((Str.ofString "what"), v0)]))
    rw [upd3 hne]
    exact q dx hd hne
abbrev st_NoHeap : Stmt := inCls (topE 5) 0
theorem sc_NoHeap : FnScope (selfs [(Str.ofString "who")]) (selfs [(Str.ofString "who")]) (defScope st_NoHeap) := ⟨rfl, rfl, rfl, by decide +kernel, rfl, by decide +kernel, by decide +kernel⟩
def tk_NoHeap : List Dat → Bool
  | [x0] => true
  | _ => false
theorem ok_NoHeap {P : Program} {w : World} {K : PySem.W.Frag} {mg : Str → Option Value} {base : Heap} {k : Nat} {f C : Addr} {fd : FuncData} (hsy : HasSys base) (F : Fun K "__init__" "NoHeap.__init__" st_NoHeap f fd) (T : OxC K C tlV "ValueError" "ValueError.__new__" "ValueError" "ValueError.__init__")
    (n0 : PySem.W.findIn K (.ref C) (Str.ofString "who") = some none) {CF : Addr} {mc : Value} (hm : mg "FacerError" = some (.ref CF)) (hk : PySem.W.keepIn K (.ref CF) = true) (g1 : PySem.W.specialIn K (.ref CF) "__getattribute__" = some (some (.builtin "type.__getattribute__"))) (g2 : PySem.W.typeIn K (.ref CF) = some mc) (g3 : PySem.W.readsIn K CF mc = true) (vV : PySem.W.findCls K (.ref CF) mc "__init__" = some (.val (.builtin "ValueError.__init__"))) :
    FnG P w K mg base (k + 1) f fd (selfs [(Str.ofString "who")]) (spI C [(Str.ofString "who")] (okE K mg tk_NoHeap)) := by
  refine fnG_of F sc_NoHeap (fun vs H Q E h => ?_) fun cdv A outer s H vs Q E hr hgd h => ?_
  · obtain ⟨a, ws, rfl, hl, _⟩ := h
    rw [List.length_cons, List.length_cons, hl]
  · have hu : (A.deeper (envOfC "NoHeap.__init__" (defScope st_NoHeap) s.heap.objs.size f cdv)).units + 64 < cLine := by
      have := hr.un
      omega
    obtain ⟨a, ws, rfl, hl, ⟨ds, l, ht⟩, ha, q⟩ := h
    cases l with
    | nil => cases hl
    | @cons v0 d0 _ _ i0 l =>
    cases l with
    | cons _ _ => cases hl
    | nil =>
    refine ⟨_, pss_cons (ps_expr (pe_cinit (CF := CF) (mc := mc) (initId := "ValueError.__init__") (by rfl) hm hk (by decide) g1 g2 g3 vV (by decide +kernel) (pa_cons (pv 0) (pa_cons pe_str pa_nil)))) (pss_one (ps_xs (pv 0) (pv 1))), ?_⟩
    have sl : sizeLine = 16777216 := sizeLine_eq
    refine ⟨.ref a, rfl, ⟨a, C, [_], _, _, _, _, rfl, by simp, T, ha, ?_⟩⟩
    refine ⟨v0, rfl, .ref a, rfl, a, C, _, _, _, _, _, rfl, T, n0, .inl ⟨ha, fun dx hd hne => ?_⟩⟩
    exact q dx hd hne
abbrev st_NoOne : Stmt := inCls (topE 10) 0
theorem sc_NoOne : FnScope (selfs [(Str.ofString "who")]) (selfs [(Str.ofString "who")]) (defScope st_NoOne) := ⟨rfl, rfl, rfl, by decide +kernel, rfl, by decide +kernel, by decide +kernel⟩
def tk_NoOne : List Dat → Bool
  | [x0] => true
  | _ => false
theorem ok_NoOne {P : Program} {w : World} {K : PySem.W.Frag} {mg : Str → Option Value} {base : Heap} {k : Nat} {f C : Addr} {fd : FuncData} (hsy : HasSys base) (F : Fun K "__init__" "NoOne.__init__" st_NoOne f fd) (T : OxC K C tlL "LookupError" "LookupError.__new__" "LookupError" "LookupError.__init__")
    (n0 : PySem.W.findIn K (.ref C) (Str.ofString "who") = some none) (hm : mg "LookupError" = none) (vV : PySem.W.findCls K (.type "LookupError") (.type "type") "__init__" = some (.val (.builtin "LookupError.__init__"))) :
    FnG P w K mg base (k + 1) f fd (selfs [(Str.ofString "who")]) (spI C [(Str.ofString "who")] (okE K mg tk_NoOne)) := by
  refine fnG_of F sc_NoOne (fun vs H Q E h => ?_) fun cdv A outer s H vs Q E hr hgd h => ?_
  · obtain ⟨a, ws, rfl, hl, _⟩ := h
    rw [List.length_cons, List.length_cons, hl]
  · have hu : (A.deeper (envOfC "NoOne.__init__" (defScope st_NoOne) s.heap.objs.size f cdv)).units + 64 < cLine := by
      have := hr.un
      omega
    obtain ⟨a, ws, rfl, hl, ⟨ds, l, ht⟩, ha, q⟩ := h
    cases l with
    | nil => cases hl
    | @cons v0 d0 _ _ i0 l =>
    cases l with
    | cons _ _ => cases hl
    | nil =>
    refine ⟨_, pss_cons (ps_expr (pe_binit (T := "LookupError") (initId := "LookupError.__init__") (by rfl) hm (by decide +kernel) (by decide) (by decide) (by kernel_rfl) (by decide +kernel) vV (by decide +kernel) (pa_cons (pv 0) (pa_cons pe_str pa_nil)))) (pss_one (ps_xs (pv 0) (pv 1))), ?_⟩
    have sl : sizeLine = 16777216 := sizeLine_eq
    refine ⟨.ref a, rfl, ⟨a, C, [_], _, _, _, _, rfl, by simp, T, ha, ?_⟩⟩
    refine ⟨v0, rfl, .ref a, rfl, a, C, _, _, _, _, _, rfl, T, n0, .inl ⟨ha, fun dx hd hne => ?_⟩⟩
    exact q dx hd hne
abbrev st_NoEnd : Stmt := inCls (topE 11) 0
theorem sc_NoEnd : FnScope (selfs [(Str.ofString "end")]) (selfs [(Str.ofString "end")]) (defScope st_NoEnd) := ⟨rfl, rfl, rfl, by decide +kernel, rfl, by decide +kernel, by decide +kernel⟩
def tk_NoEnd : List Dat → Bool
  | [x0] => true
  | _ => false
theorem ok_NoEnd {P : Program} {w : World} {K : PySem.W.Frag} {mg : Str → Option Value} {base : Heap} {k : Nat} {f C : Addr} {fd : FuncData} (hsy : HasSys base) (F : Fun K "__init__" "NoEnd.__init__" st_NoEnd f fd) (T : OxC K C tlL "LookupError" "LookupError.__new__" "LookupError" "LookupError.__init__")
    (n0 : PySem.W.findIn K (.ref C) (Str.ofString "end") = some none) (hm : mg "LookupError" = none) (vV : PySem.W.findCls K (.type "LookupError") (.type "type") "__init__" = some (.val (.builtin "LookupError.__init__"))) :
    FnG P w K mg base (k + 1) f fd (selfs [(Str.ofString "end")]) (spI C [(Str.ofString "end")] (okE K mg tk_NoEnd)) := by
  refine fnG_of F sc_NoEnd (fun vs H Q E h => ?_) fun cdv A outer s H vs Q E hr hgd h => ?_
  · obtain ⟨a, ws, rfl, hl, _⟩ := h
    rw [List.length_cons, List.length_cons, hl]
  · have hu : (A.deeper (envOfC "NoEnd.__init__" (defScope st_NoEnd) s.heap.objs.size f cdv)).units + 64 < cLine := by
      have := hr.un
      omega
    obtain ⟨a, ws, rfl, hl, ⟨ds, l, ht⟩, ha, q⟩ := h
    cases l with
    | nil => cases hl
    | @cons v0 d0 _ _ i0 l =>
    cases l with
    | cons _ _ => cases hl
    | nil =>
    refine ⟨_, pss_cons (ps_expr (pe_binit (T := "LookupError") (initId := "LookupError.__init__") (by rfl) hm (by decide +kernel) (by decide) (by decide) (by kernel_rfl) (by decide +kernel) vV (by decide +kernel) (pa_cons (pv 0) (pa_cons pe_str pa_nil)))) (pss_one (ps_xs (pv 0) (pv 1))), ?_⟩
    have sl : sizeLine = 16777216 := sizeLine_eq
    refine ⟨.ref a, rfl, ⟨a, C, [_], _, _, _, _, rfl, by simp, T, ha, ?_⟩⟩
    refine ⟨v0, rfl, .ref a, rfl, a, C, _, _, _, _, _, rfl, T, n0, .inl ⟨ha, fun dx hd hne => ?_⟩⟩
    exact q dx hd hne
abbrev st_NoKind : Stmt := inCls (topE 12) 0
theorem sc_NoKind : FnScope (selfs [(Str.ofString "word")]) (selfs [(Str.ofString "word")]) (defScope st_NoKind) := ⟨rfl, rfl, rfl, by decide +kernel, rfl, by decide +kernel, by decide +kernel⟩
def tk_NoKind : List Dat → Bool
  | [x0] => true
  | _ => false
theorem ok_NoKind {P : Program} {w : World} {K : PySem.W.Frag} {mg : Str → Option Value} {base : Heap} {k : Nat} {f C : Addr} {fd : FuncData} (hsy : HasSys base) (F : Fun K "__init__" "NoKind.__init__" st_NoKind f fd) (T : OxC K C tlK "LookupError" "LookupError.__new__" "KeyError" "KeyError.__init__")
    (n0 : PySem.W.findIn K (.ref C) (Str.ofString "word") = some none) (hm : mg "KeyError" = none) (vV : PySem.W.findCls K (.type "KeyError") (.type "type") "__init__" = some (.val (.builtin "KeyError.__init__"))) :
    FnG P w K mg base (k + 1) f fd (selfs [(Str.ofString "word")]) (spI C [(Str.ofString "word")] (okE K mg tk_NoKind)) := by
  refine fnG_of F sc_NoKind (fun vs H Q E h => ?_) fun cdv A outer s H vs Q E hr hgd h => ?_
  · obtain ⟨a, ws, rfl, hl, _⟩ := h
    rw [List.length_cons, List.length_cons, hl]
  · have hu : (A.deeper (envOfC "NoKind.__init__" (defScope st_NoKind) s.heap.objs.size f cdv)).units + 64 < cLine := by
      have := hr.un
      omega
    obtain ⟨a, ws, rfl, hl, ⟨ds, l, ht⟩, ha, q⟩ := h
    cases l with
    | nil => cases hl
    | @cons v0 d0 _ _ i0 l =>
    cases l with
    | cons _ _ => cases hl
    | nil =>
    refine ⟨_, pss_cons (ps_expr (pe_binit (T := "KeyError") (initId := "KeyError.__init__") (by rfl) hm (by decide +kernel) (by decide) (by decide) (by kernel_rfl) (by decide +kernel) vV (by decide +kernel) (pa_cons (pv 0) (pa_cons pe_str pa_nil)))) (pss_one (ps_xs (pv 0) (pv 1))), ?_⟩
    have sl : sizeLine = 16777216 := sizeLine_eq
    refine ⟨.ref a, rfl, ⟨a, C, [_], _, _, _, _, rfl, by simp, T, ha, ?_⟩⟩
    refine ⟨v0, rfl, .ref a, rfl, a, C, _, _, _, _, _, rfl, T, n0, .inl ⟨ha, fun dx hd hne => ?_⟩⟩
    exact q dx hd hne
abbrev st_NoRule : Stmt := inCls (topE 13) 0
theorem sc_NoRule : FnScope (selfs [(Str.ofString "pair")]) (selfs [(Str.ofString "pair")]) (defScope st_NoRule) := ⟨rfl, rfl, rfl, by decide +kernel, rfl, by decide +kernel, by decide +kernel⟩
def tk_NoRule : List Dat → Bool
  | [x0] => true
  | _ => false
theorem ok_NoRule {P : Program} {w : World} {K : PySem.W.Frag} {mg : Str → Option Value} {base : Heap} {k : Nat} {f C : Addr} {fd : FuncData} (hsy : HasSys base) (F : Fun K "__init__" "NoRule.__init__" st_NoRule f fd) (T : OxC K C tlK "LookupError" "LookupError.__new__" "KeyError" "KeyError.__init__")
    (n0 : PySem.W.findIn K (.ref C) (Str.ofString "pair") = some none) (hm : mg "KeyError" = none) (vV : PySem.W.findCls K (.type "KeyError") (.type "type") "__init__" = some (.val (.builtin "KeyError.__init__"))) :
    FnG P w K mg base (k + 1) f fd (selfs [(Str.ofString "pair")]) (spI C [(Str.ofString "pair")] (okE K mg tk_NoRule)) := by
  refine fnG_of F sc_NoRule (fun vs H Q E h => ?_) fun cdv A outer s H vs Q E hr hgd h => ?_
  · obtain ⟨a, ws, rfl, hl, _⟩ := h
    rw [List.length_cons, List.length_cons, hl]
  · have hu : (A.deeper (envOfC "NoRule.__init__" (defScope st_NoRule) s.heap.objs.size f cdv)).units + 64 < cLine := by
      have := hr.un
      omega
    obtain ⟨a, ws, rfl, hl, ⟨ds, l, ht⟩, ha, q⟩ := h
    cases l with
    | nil => cases hl
    | @cons v0 d0 _ _ i0 l =>
    cases l with
    | cons _ _ => cases hl
    | nil =>
    refine ⟨_, pss_cons (ps_expr (pe_binit (T := "KeyError") (initId := "KeyError.__init__") (by rfl) hm (by decide +kernel) (by decide) (by decide) (by kernel_rfl) (by decide +kernel) vV (by decide +kernel) (pa_cons (pv 0) (pa_cons pe_str pa_nil)))) (pss_one (ps_xs (pv 0) (pv 1))), ?_⟩
    have sl : sizeLine = 16777216 := sizeLine_eq
    refine ⟨.ref a, rfl, ⟨a, C, [_], _, _, _, _, rfl, by simp, T, ha, ?_⟩⟩
    refine ⟨v0, rfl, .ref a, rfl, a, C, _, _, _, _, _, rfl, T, n0, .inl ⟨ha, fun dx hd hne => ?_⟩⟩
    exact q dx hd hne
abbrev st_NoSuch : Stmt := inCls (topE 14) 0
theorem sc_NoSuch : FnScope (selfs [(Str.ofString "who")]) (selfs [(Str.ofString "who")]) (defScope st_NoSuch) := ⟨rfl, rfl, rfl, by decide +kernel, rfl, by decide +kernel, by decide +kernel⟩
def tk_NoSuch : List Dat → Bool
  | [x0] => true
  | _ => false
theorem ok_NoSuch {P : Program} {w : World} {K : PySem.W.Frag} {mg : Str → Option Value} {base : Heap} {k : Nat} {f C : Addr} {fd : FuncData} (hsy : HasSys base) (F : Fun K "__init__" "NoSuch.__init__" st_NoSuch f fd) (T : OxC K C tlK "LookupError" "LookupError.__new__" "KeyError" "KeyError.__init__")
    (n0 : PySem.W.findIn K (.ref C) (Str.ofString "who") = some none) (hm : mg "KeyError" = none) (vV : PySem.W.findCls K (.type "KeyError") (.type "type") "__init__" = some (.val (.builtin "KeyError.__init__"))) :
    FnG P w K mg base (k + 1) f fd (selfs [(Str.ofString "who")]) (spI C [(Str.ofString "who")] (okE K mg tk_NoSuch)) := by
  refine fnG_of F sc_NoSuch (fun vs H Q E h => ?_) fun cdv A outer s H vs Q E hr hgd h => ?_
  · obtain ⟨a, ws, rfl, hl, _⟩ := h
    rw [List.length_cons, List.length_cons, hl]
  · have hu : (A.deeper (envOfC "NoSuch.__init__" (defScope st_NoSuch) s.heap.objs.size f cdv)).units + 64 < cLine := by
      have := hr.un
      omega
    obtain ⟨a, ws, rfl, hl, ⟨ds, l, ht⟩, ha, q⟩ := h
    cases l with
    | nil => cases hl
    | @cons v0 d0 _ _ i0 l =>
    cases l with
    | cons _ _ => cases hl
    | nil =>
    refine ⟨_, pss_cons (ps_expr (pe_binit (T := "KeyError") (initId := "KeyError.__init__") (by rfl) hm (by decide +kernel) (by decide) (by decide) (by kernel_rfl) (by decide +kernel) vV (by decide +kernel) (pa_cons (pv 0) (pa_cons pe_str pa_nil)))) (pss_one (ps_xs (pv 0) (pv 1))), ?_⟩
    have sl : sizeLine = 16777216 := sizeLine_eq
    refine ⟨.ref a, rfl, ⟨a, C, [_], _, _, _, _, rfl, by simp, T, ha, ?_⟩⟩
    refine ⟨v0, rfl, .ref a, rfl, a, C, _, _, _, _, _, rfl, T, n0, .inl ⟨ha, fun dx hd hne => ?_⟩⟩
    exact q dx hd hne
abbrev st_NoMeeting : Stmt := inCls (topE 15) 0
theorem sc_NoMeeting : FnScope (selfs [(Str.ofString "who")]) (selfs [(Str.ofString "who")]) (defScope st_NoMeeting) := ⟨rfl, rfl, rfl, by decide +kernel, rfl, by decide +kernel, by decide +kernel⟩
def tk_NoMeeting : List Dat → Bool
  | [x0] => true
  | _ => false
theorem ok_NoMeeting {P : Program} {w : World} {K : PySem.W.Frag} {mg : Str → Option Value} {base : Heap} {k : Nat} {f C : Addr} {fd : FuncData} (hsy : HasSys base) (F : Fun K "__init__" "NoMeeting.__init__" st_NoMeeting f fd) (T : OxC K C tlR "RuntimeError" "RuntimeError.__new__" "RuntimeError" "RuntimeError.__init__")
    (n0 : PySem.W.findIn K (.ref C) (Str.ofString "who") = some none) (hm : mg "RuntimeError" = none) (vV : PySem.W.findCls K (.type "RuntimeError") (.type "type") "__init__" = some (.val (.builtin "RuntimeError.__init__"))) :
    FnG P w K mg base (k + 1) f fd (selfs [(Str.ofString "who")]) (spI C [(Str.ofString "who")] (okE K mg tk_NoMeeting)) := by
  refine fnG_of F sc_NoMeeting (fun vs H Q E h => ?_) fun cdv A outer s H vs Q E hr hgd h => ?_
  · obtain ⟨a, ws, rfl, hl, _⟩ := h
    rw [List.length_cons, List.length_cons, hl]
  · have hu : (A.deeper (envOfC "NoMeeting.__init__" (defScope st_NoMeeting) s.heap.objs.size f cdv)).units + 64 < cLine := by
      have := hr.un
      omega
    obtain ⟨a, ws, rfl, hl, ⟨ds, l, ht⟩, ha, q⟩ := h
    cases l with
    | nil => cases hl
    | @cons v0 d0 _ _ i0 l =>
    cases l with
    | cons _ _ => cases hl
    | nil =>
    refine ⟨_, pss_cons (ps_expr (pe_binit (T := "RuntimeError") (initId := "RuntimeError.__init__") (by rfl) hm (by decide +kernel) (by decide) (by decide) (by kernel_rfl) (by decide +kernel) vV (by decide +kernel) (pa_cons (pv 0) (pa_cons pe_str pa_nil)))) (pss_one (ps_xs (pv 0) (pv 1))), ?_⟩
    have sl : sizeLine = 16777216 := sizeLine_eq
    refine ⟨.ref a, rfl, ⟨a, C, [_], _, _, _, _, rfl, by simp, T, ha, ?_⟩⟩
    refine ⟨v0, rfl, .ref a, rfl, a, C, _, _, _, _, _, rfl, T, n0, .inl ⟨ha, fun dx hd hne => ?_⟩⟩
    exact q dx hd hne
abbrev st_Caused : Stmt := inCls (topE 16) 0
theorem sc_Caused : FnScope (selfs [(Str.ofString "by")]) (selfs [(Str.ofString "by")]) (defScope st_Caused) := ⟨rfl, rfl, rfl, by decide +kernel, rfl, by decide +kernel, by decide +kernel⟩
def tk_Caused : List Dat → Bool
  | [x0] => true
  | _ => false
theorem ok_Caused {P : Program} {w : World} {K : PySem.W.Frag} {mg : Str → Option Value} {base : Heap} {k : Nat} {f C : Addr} {fd : FuncData} (hsy : HasSys base) (F : Fun K "__init__" "Caused.__init__" st_Caused f fd) (T : OxC K C tlR "RuntimeError" "RuntimeError.__new__" "RuntimeError" "RuntimeError.__init__")
    (n0 : PySem.W.findIn K (.ref C) (Str.ofString "by") = some none) (hm : mg "RuntimeError" = none) (vV : PySem.W.findCls K (.type "RuntimeError") (.type "type") "__init__" = some (.val (.builtin "RuntimeError.__init__"))) :
    FnG P w K mg base (k + 1) f fd (selfs [(Str.ofString "by")]) (spI C [(Str.ofString "by")] (okE K mg tk_Caused)) := by
  refine fnG_of F sc_Caused (fun vs H Q E h => ?_) fun cdv A outer s H vs Q E hr hgd h => ?_
  · obtain ⟨a, ws, rfl, hl, _⟩ := h
    rw [List.length_cons, List.length_cons, hl]
  · have hu : (A.deeper (envOfC "Caused.__init__" (defScope st_Caused) s.heap.objs.size f cdv)).units + 64 < cLine := by
      have := hr.un
      omega
    obtain ⟨a, ws, rfl, hl, ⟨ds, l, ht⟩, ha, q⟩ := h
    cases l with
    | nil => cases hl
    | @cons v0 d0 _ _ i0 l =>
    cases l with
    | cons _ _ => cases hl
    | nil =>
    refine ⟨_, pss_cons (ps_expr (pe_binit (T := "RuntimeError") (initId := "RuntimeError.__init__") (by rfl) hm (by decide +kernel) (by decide) (by decide) (by kernel_rfl) (by decide +kernel) vV (by decide +kernel) (pa_cons (pv 0) (pa_cons pe_str pa_nil)))) (pss_one (ps_xs (pv 0) (pv 1))), ?_⟩
    have sl : sizeLine = 16777216 := sizeLine_eq
    refine ⟨.ref a, rfl, ⟨a, C, [_], _, _, _, _, rfl, by simp, T, ha, ?_⟩⟩
    refine ⟨v0, rfl, .ref a, rfl, a, C, _, _, _, _, _, rfl, T, n0, .inl ⟨ha, fun dx hd hne => ?_⟩⟩
    exact q dx hd hne
abbrev st_TooMany : Stmt := inCls (topE 18) 0
theorem sc_TooMany : FnScope (selfs [(Str.ofString "limit")]) (selfs [(Str.ofString "limit")]) (defScope st_TooMany) := ⟨rfl, rfl, rfl, by decide +kernel, rfl, by decide +kernel, by decide +kernel⟩
def tk_TooMany : List Dat → Bool
  | [x0] => x0.fmtOk
  | _ => false
theorem ok_TooMany {P : Program} {w : World} {K : PySem.W.Frag} {mg : Str → Option Value} {base : Heap} {k : Nat} {f C : Addr} {fd : FuncData} (hsy : HasSys base) (F : Fun K "__init__" "TooMany.__init__" st_TooMany f fd) (T : OxC K C tlA "ArithmeticError" "ArithmeticError.__new__" "ArithmeticError" "ArithmeticError.__init__")
    (n0 : PySem.W.findIn K (.ref C) (Str.ofString "limit") = some none) (hm : mg "ArithmeticError" = none) (vV : PySem.W.findCls K (.type "ArithmeticError") (.type "type") "__init__" = some (.val (.builtin "ArithmeticError.__init__"))) :
    FnG P w K mg base (k + 1) f fd (selfs [(Str.ofString "limit")]) (spI C [(Str.ofString "limit")] (okE K mg tk_TooMany)) := by
  refine fnG_of F sc_TooMany (fun vs H Q E h => ?_) fun cdv A outer s H vs Q E hr hgd h => ?_
  · obtain ⟨a, ws, rfl, hl, _⟩ := h
    rw [List.length_cons, List.length_cons, hl]
  · have hu : (A.deeper (envOfC "TooMany.__init__" (defScope st_TooMany) s.heap.objs.size f cdv)).units + 64 < cLine := by
      have := hr.un
      omega
    obtain ⟨a, ws, rfl, hl, ⟨ds, l, ht⟩, ha, q⟩ := h
    cases l with
    | nil => cases hl
    | @cons v0 d0 _ _ i0 l =>
    cases l with
    | cons _ _ => cases hl
    | nil =>
    have ht : (d0.fmtOk) = true := ht
    have ht0 := ht
    refine ⟨_, pss_cons (ps_expr (pe_binit (T := "ArithmeticError") (initId := "ArithmeticError.__init__") (by rfl) hm (by decide +kernel) (by decide) (by decide) (by kernel_rfl) (by decide +kernel) vV (by decide +kernel) (pa_cons (pv 0) (pa_cons (pe_joined (.cons pe_str (.cons (pe_fmtD (ea := none) (d := d0) hsy hgd hu ht0 (pv 1)) .nil))) pa_nil)))) (pss_one (ps_xs (pv 0) (pv 1))), ?_⟩
    have sl : sizeLine = 16777216 := sizeLine_eq
    refine ⟨.ref a, rfl, ?_⟩
    have lc0 : (Str.ofString "more than ").length = 10 := by decide +kernel
    refine ⟨(Str.ofString "more than "), rfl, by simp only [Str.length_append, lc0]; have : (Str.empty).length = 0 := (by rfl); omega, ?_⟩
    refine ⟨v0, rfl, i0, fun y1 hy1 => ⟨y1, rfl, by simp only [Str.length_append, lc0]; have : (Str.empty).length = 0 := (by rfl); omega, ?_⟩⟩
    refine ⟨a, C, [_], _, _, _, _, rfl, by simp, T, ha, ?_⟩
    refine ⟨v0, rfl, .ref a, rfl, a, C, _, _, _, _, _, rfl, T, n0, .inl ⟨ha, fun dx hd hne => ?_⟩⟩
    exact q dx hd hne
end K19
set_option Elab.async false
set_option linter.all false
set_option maxRecDepth 100000
set_option maxHeartbeats 4000000
namespace K19
open PySem PySem.Spec PyProof.Rows L2 Ev
def topS (i : Nat) : Stmt := PySem.Challenge.pw_onefacers_k19_errors_made.main.body.getD i (.Pass ⟨0, 0, 0, 0⟩)
abbrev st__law_pot : Stmt := topS 20
def nn__law_pot : List Str := [(Str.ofString "_law_script"), (Str.ofString "_law_k"), (Str.ofString "_law_cell")]
def ps__law_pot : List Str := [(Str.ofString "_law_script"), (Str.ofString "_law_k")]
def io__law_pot : List Bool := [false, false]
def xp__law_pot_1 : IE := (.ite (.cmp .Lt (.var 1) (.bi .len (.cons (.var 0) .nil))) (.idx (.var 0) (.var 1)) (.cst (.int 0)))
def xp__law_pot_2 : IE := (.lst (.cons (.bi .max (.cons (.cst (.int 0)) (.cons (.bin .Sub (.var 2) (.bin .Pow (.cst (.int 10)) (.cst (.int 18)))) .nil))) (.cons (.bin .Mod (.bin .Add (.bin .Mult (.bin .Mod (.var 2) (.cst (.int 2147483563))) (.cst (.int 40692))) (.bin .Mult (.cst (.int 30011)) (.bin .Add (.var 1) (.cst (.int 1))))) (.cst (.int 2147483399))) .nil)))
def bd__law_pot : ISs := (.cons (.set 2 xp__law_pot_1) (.cons (.ret xp__law_pot_2) .nil))
theorem ck__law_pot : chkSs nn__law_pot false (defScope st__law_pot) bd__law_pot (defBody st__law_pot) = true := by decide +kernel
theorem sc__law_pot : FnScope nn__law_pot ps__law_pot (defScope st__law_pot) := ⟨rfl, rfl, rfl, by decide +kernel, rfl, by decide +kernel, by decide +kernel⟩
-- _law_take: statement Assign(targets=[Tuple(elts=[Subscript(value=Name(id='_law_pot_here', ctx=Load()), slice=Constant(val
abbrev st__law_odd : Stmt := topS 22
def nn__law_odd : List Str := [(Str.ofString "_law_pot_here"), (Str.ofString "_law_some")]
def ps__law_odd : List Str := [(Str.ofString "_law_pot_here")]
def io__law_odd : List Bool := [true]
def xp__law_odd_1 : IE := (.lst (.cons (.cst .non) (.cons (.cst (.int 0)) (.cons (.cst (.bl false)) (.cons (.cst (.bl true)) (.cons (.cst (.int 1)) (.cons (.neg (.cst (.int 1))) (.cons (.cst (.int 7)) (.cons (.cst (.str (Str.ofString ""))) (.cons (.cst (.str (Str.ofString "A"))) (.cons (.cst (.str (Str.ofString "a b"))) (.cons (.cst (.str (Str.ofString "a1"))) (.cons (.cst (.str (Str.ofString "abcdefghi"))) (.cons (.cst (.str (Str.ofString "a"))) (.cons (.tup .nil) (.cons (.lst .nil) (.cons .dic0 (.cons (.tup (.cons (.cst (.int 0)) .nil)) (.cons (.lst (.cons (.cst (.int 0)) .nil)) (.cons (.tup (.cons (.cst (.str (Str.ofString "a"))) .nil)) .nil))))))))))))))))))))
def xp__law_odd_2 : IE := (.bin .Add (.var 1) (.lst (.cons (.lst (.cons (.cst (.str (Str.ofString "a"))) .nil)) (.cons (.tup (.cons (.tup .nil) .nil)) (.cons (.tup (.cons (.cst .non) .nil)) (.cons (.tup (.cons (.cst (.str (Str.ofString "a"))) (.cons (.cst (.int 1)) .nil))) (.cons (.tup (.cons (.cst (.str (Str.ofString "a"))) (.cons (.cst (.int 12)) .nil))) (.cons (.tup (.cons (.cst (.str (Str.ofString "a"))) (.cons (.neg (.cst (.int 1))) .nil))) (.cons (.tup (.cons (.cst (.str (Str.ofString "A"))) .nil)) (.cons (.tup (.cons (.cst (.str (Str.ofString "a"))) (.cons (.cst (.bl true)) .nil))) (.cons (.dic1 (.cst (.str (Str.ofString "a"))) (.tup .nil)) .nil)))))))))))
def xp__law_odd_3 : IE := (.idx (.var 1) (.call (Str.ofString "_law_take") (.cons (.var 0) (.cons (.cst (.int 28)) .nil))))
def bd__law_odd : ISs := (.cons (.set 1 xp__law_odd_1) (.cons (.set 1 xp__law_odd_2) (.cons (.ret xp__law_odd_3) .nil)))
theorem ck__law_odd : chkSs nn__law_odd false (defScope st__law_odd) bd__law_odd (defBody st__law_odd) = true := by decide +kernel
theorem sc__law_odd : FnScope nn__law_odd ps__law_odd (defScope st__law_odd) := ⟨rfl, rfl, rfl, by decide +kernel, rfl, by decide +kernel, by decide +kernel⟩
abbrev st__law_under : Stmt := topS 23
def nn__law_under : List Str := [(Str.ofString "_law_e"), (Str.ofString "_law_some")]
def ps__law_under : List Str := [(Str.ofString "_law_e")]
def io__law_under : List Bool := [false]
def xp__law_under_1 : IE := (.lst (.cons (.pr (.isC [(Str.ofString "FacerError")]) (.var 0)) (.cons (.pr (.isC [(Str.ofString "ValueError")]) (.var 0)) (.cons (.pr (.isC [(Str.ofString "NoKinds")]) (.var 0)) (.cons (.pr (.isC [(Str.ofString "NoWeb")]) (.var 0)) .nil)))))
def xp__law_under_2 : IE := (.bin .Add (.var 1) (.lst (.cons (.pr (.isC [(Str.ofString "NoBook")]) (.var 0)) (.cons (.pr (.isC [(Str.ofString "NoHeap")]) (.var 0)) (.cons (.pr (.isC [(Str.ofString "NoText")]) (.var 0)) (.cons (.pr (.isC [(Str.ofString "NoWish")]) (.var 0)) .nil))))))
def xp__law_under_3 : IE := (.bin .Add (.var 1) (.lst (.cons (.pr (.isC [(Str.ofString "NoCount")]) (.var 0)) (.cons (.pr (.isC [(Str.ofString "NoRow")]) (.var 0)) (.cons (.pr (.isC [(Str.ofString "LookupError")]) (.var 0)) (.cons (.pr (.isC [(Str.ofString "NoOne")]) (.var 0)) .nil))))))
def xp__law_under_4 : IE := (.bin .Add (.var 1) (.lst (.cons (.pr (.isC [(Str.ofString "NoEnd")]) (.var 0)) (.cons (.pr (.isC [(Str.ofString "KeyError")]) (.var 0)) (.cons (.pr (.isC [(Str.ofString "NoKind")]) (.var 0)) (.cons (.pr (.isC [(Str.ofString "NoRule")]) (.var 0)) .nil))))))
def xp__law_under_5 : IE := (.bin .Add (.var 1) (.lst (.cons (.pr (.isC [(Str.ofString "NoSuch")]) (.var 0)) (.cons (.pr (.isC [(Str.ofString "RuntimeError")]) (.var 0)) (.cons (.pr (.isC [(Str.ofString "NoMeeting")]) (.var 0)) (.cons (.pr (.isC [(Str.ofString "Caused")]) (.var 0)) .nil))))))
def xp__law_under_6 : IE := (.bin .Add (.var 1) (.lst (.cons (.pr (.isC [(Str.ofString "Unlike")]) (.var 0)) (.cons (.pr (.isC [(Str.ofString "ArithmeticError")]) (.var 0)) (.cons (.pr (.isC [(Str.ofString "TooMany")]) (.var 0)) .nil)))))
def xp__law_under_7 : IE := (.bin .Add (.var 1) (.lst (.cons (.pr (.isC [(Str.ofString "IndexError"), (Str.ofString "ZeroDivisionError")]) (.var 0)) .nil)))
def bd__law_under : ISs := (.cons (.set 1 xp__law_under_1) (.cons (.set 1 xp__law_under_2) (.cons (.set 1 xp__law_under_3) (.cons (.set 1 xp__law_under_4) (.cons (.set 1 xp__law_under_5) (.cons (.set 1 xp__law_under_6) (.cons (.ret xp__law_under_7) .nil)))))))
theorem ck__law_under : chkSs nn__law_under false (defScope st__law_under) bd__law_under (defBody st__law_under) = true := by decide +kernel
theorem sc__law_under : FnScope nn__law_under ps__law_under (defScope st__law_under) := ⟨rfl, rfl, rfl, by decide +kernel, rfl, by decide +kernel, by decide +kernel⟩
abbrev st__law_stands : Stmt := topS 24
def nn__law_stands : List Str := [(Str.ofString "_law_e"), (Str.ofString "_law_places"), (Str.ofString "_law_k")]
def ps__law_stands : List Str := [(Str.ofString "_law_e"), (Str.ofString "_law_places")]
def io__law_stands : List Bool := [false, false]
def el__law_stands_1 : IE := (.cmp .In (.var 2) (.var 1))
def rc__law_stands_1 : IE := (.lcR el__law_stands_1 2 (.cst (.int 24)) [((Str.ofString "_law_k"), 2)])
def xp__law_stands_1 : IE := (.cmp .Eq (.call (Str.ofString "_law_under") (.cons (.var 0) .nil)) rc__law_stands_1)
def bd__law_stands : ISs := (.cons (.ret xp__law_stands_1) .nil)
theorem ck__law_stands : chkSs nn__law_stands false (defScope st__law_stands) bd__law_stands (defBody st__law_stands) = true := by decide +kernel
theorem sc__law_stands : FnScope nn__law_stands ps__law_stands (defScope st__law_stands) := ⟨rfl, rfl, rfl, by decide +kernel, rfl, by decide +kernel, by decide +kernel⟩
abbrev st__law_fields_right : Stmt := topS 25
def nn__law_fields_right : List Str := [(Str.ofString "_law_one"), (Str.ofString "_law_other"), (Str.ofString "_law_two"), (Str.ofString "_law_told"), (Str.ofString "_law_book"), (Str.ofString "_law_e")]
def ps__law_fields_right : List Str := [(Str.ofString "_law_one"), (Str.ofString "_law_other")]
def io__law_fields_right : List Bool := [false, false]
def xp__law_fields_right_1 : IE := (.lst (.cons (.mk (Str.ofString "NoKinds") (.cons (.var 0) (.cons (.var 1) .nil))) (.cons (.mkK (Str.ofString "NoKinds") [(Str.ofString "who"), (Str.ofString "what")] (.cons (.var 1) (.cons (.var 0) .nil))) (.cons (.mk (Str.ofString "NoWeb") (.cons (.var 0) (.cons (.var 1) .nil))) (.cons (.mkK (Str.ofString "NoWeb") [(Str.ofString "who"), (Str.ofString "what")] (.cons (.var 1) (.cons (.var 0) .nil))) .nil)))))
def el__law_fields_right_1 : IE := (.lst (.cons (.pr (.fld (Str.ofString "what")) (.var 5)) (.cons (.pr (.fld (Str.ofString "who")) (.var 5)) .nil)))
def xp__law_fields_right_2 : IE := (.lc el__law_fields_right_1 5 (.var 2) [((Str.ofString "_law_e"), 5)])
def xp__law_fields_right_3 : IE := (.lst (.cons (.mk (Str.ofString "NoBook") (.cons (.var 0) (.cons (.var 1) .nil))) (.cons (.mkK (Str.ofString "NoBook") [(Str.ofString "number"), (Str.ofString "what")] (.cons (.var 1) (.cons (.var 0) .nil))) .nil)))
def el__law_fields_right_2 : IE := (.lst (.cons (.pr (.fld (Str.ofString "what")) (.var 5)) (.cons (.pr (.fld (Str.ofString "number")) (.var 5)) .nil)))
def xp__law_fields_right_4 : IE := (.bin .Add (.var 3) (.lc el__law_fields_right_2 5 (.var 4) [((Str.ofString "_law_e"), 5)]))
def ic__law_fields_right_1 : IE := (.cmp .NotEq (.bi .repr (.cons (.var 3) .nil)) (.bi .repr (.cons (.bin .Mult (.lst (.cons (.lst (.cons (.var 0) (.cons (.var 1) .nil))) .nil)) (.cst (.int 6))) .nil)))
def xp__law_fields_right_5 : IE := (.cst (.bl false))
def xp__law_fields_right_6 : IE := (.lst (.cons (.pr (.fld (Str.ofString "who")) (.mk (Str.ofString "NoHeap") (.cons (.var 0) .nil))) (.cons (.pr (.fld (Str.ofString "who")) (.mkK (Str.ofString "NoHeap") [(Str.ofString "who")] (.cons (.var 0) .nil))) (.cons (.pr (.fld (Str.ofString "who")) (.mk (Str.ofString "NoOne") (.cons (.var 0) .nil))) (.cons (.pr (.fld (Str.ofString "who")) (.mkK (Str.ofString "NoOne") [(Str.ofString "who")] (.cons (.var 0) .nil))) (.cons (.pr (.fld (Str.ofString "end")) (.mk (Str.ofString "NoEnd") (.cons (.var 0) .nil))) .nil))))))
def xp__law_fields_right_7 : IE := (.bin .Add (.var 3) (.lst (.cons (.pr (.fld (Str.ofString "word")) (.mk (Str.ofString "NoKind") (.cons (.var 0) .nil))) (.cons (.pr (.fld (Str.ofString "word")) (.mkK (Str.ofString "NoKind") [(Str.ofString "word")] (.cons (.var 0) .nil))) (.cons (.pr (.fld (Str.ofString "pair")) (.mk (Str.ofString "NoRule") (.cons (.var 0) .nil))) (.cons (.pr (.fld (Str.ofString "pair")) (.mkK (Str.ofString "NoRule") [(Str.ofString "pair")] (.cons (.var 0) .nil))) (.cons (.pr (.fld (Str.ofString "who")) (.mk (Str.ofString "NoSuch") (.cons (.var 0) .nil))) .nil)))))))
def xp__law_fields_right_8 : IE := (.bin .Add (.var 3) (.lst (.cons (.pr (.fld (Str.ofString "who")) (.mkK (Str.ofString "NoSuch") [(Str.ofString "who")] (.cons (.var 0) .nil))) (.cons (.pr (.fld (Str.ofString "who")) (.mk (Str.ofString "NoMeeting") (.cons (.var 0) .nil))) (.cons (.pr (.fld (Str.ofString "who")) (.mkK (Str.ofString "NoMeeting") [(Str.ofString "who")] (.cons (.var 0) .nil))) (.cons (.pr (.fld (Str.ofString "by")) (.mk (Str.ofString "Caused") (.cons (.var 0) .nil))) (.cons (.pr (.fld (Str.ofString "by")) (.mkK (Str.ofString "Caused") [(Str.ofString "by")] (.cons (.var 0) .nil))) .nil)))))))
def xp__law_fields_right_9 : IE := (.cmp .Eq (.bi .repr (.cons (.bin .Add (.var 3) (.lst (.cons (.pr (.fld (Str.ofString "limit")) (.mk (Str.ofString "TooMany") (.cons (.var 0) .nil))) (.cons (.pr (.fld (Str.ofString "limit")) (.mkK (Str.ofString "TooMany") [(Str.ofString "limit")] (.cons (.var 0) .nil))) .nil)))) .nil)) (.bi .repr (.cons (.bin .Mult (.lst (.cons (.var 0) .nil)) (.cst (.int 18))) .nil)))
def bd__law_fields_right : ISs := (.cons (.set 2 xp__law_fields_right_1) (.cons (.set 3 xp__law_fields_right_2) (.cons (.set 4 xp__law_fields_right_3) (.cons (.set 3 xp__law_fields_right_4) (.cons (.ite ic__law_fields_right_1 (.cons (.ret xp__law_fields_right_5) .nil) .nil) (.cons (.set 3 xp__law_fields_right_6) (.cons (.app 3 (.pr (.fld (Str.ofString "end")) (.mkK (Str.ofString "NoEnd") [(Str.ofString "end")] (.cons (.var 0) .nil)))) (.cons (.set 3 xp__law_fields_right_7) (.cons (.set 3 xp__law_fields_right_8) (.cons (.ret xp__law_fields_right_9) .nil))))))))))
theorem ck__law_fields_right : chkSs nn__law_fields_right false (defScope st__law_fields_right) bd__law_fields_right (defBody st__law_fields_right) = true := by decide +kernel
theorem sc__law_fields_right : FnScope nn__law_fields_right ps__law_fields_right (defScope st__law_fields_right) := ⟨rfl, rfl, rfl, by decide +kernel, rfl, by decide +kernel, by decide +kernel⟩
abbrev st_law : Stmt := topS 26
def nn_law : List Str := [(Str.ofString "_law_script"), (Str.ofString "_law_k"), (Str.ofString "_law_pot_here"), (Str.ofString "_law_some"), (Str.ofString "_law_one"), (Str.ofString "_law_other"), (Str.ofString "_law_e"), (Str.ofString "_law_places")]
def ps_law : List Str := [(Str.ofString "_law_script")]
def io_law : List Bool := [false]
def xp_law_1 : IE := (.call (Str.ofString "_law_pot") (.cons (.var 0) (.cons (.var 1) .nil)))
def ic_law_1 : IE := (.not (.call (Str.ofString "_law_fields_right") (.cons (.var 4) (.cons (.var 5) .nil))))
def xp_law_2 : IE := (.cst (.bl false))
def xp_law_3 : IE := (.lst (.cons (.tup (.cons (.mk (Str.ofString "FacerError") (.cons (.cst (.str (Str.ofString "words"))) .nil)) (.cons (.lst (.cons (.cst (.int 0)) (.cons (.cst (.int 1)) .nil))) .nil))) (.cons (.tup (.cons (.mk (Str.ofString "NoKinds") (.cons (.var 4) (.cons (.var 5) .nil))) (.cons (.lst (.cons (.cst (.int 0)) (.cons (.cst (.int 1)) (.cons (.cst (.int 2)) .nil)))) .nil))) (.cons (.tup (.cons (.mk (Str.ofString "NoWeb") (.cons (.var 4) (.cons (.var 5) .nil))) (.cons (.lst (.cons (.cst (.int 0)) (.cons (.cst (.int 1)) (.cons (.cst (.int 3)) .nil)))) .nil))) .nil))))
def xp_law_4 : IE := (.bin .Add (.var 3) (.lst (.cons (.tup (.cons (.mk (Str.ofString "NoBook") (.cons (.var 4) (.cons (.var 5) .nil))) (.cons (.lst (.cons (.cst (.int 0)) (.cons (.cst (.int 1)) (.cons (.cst (.int 4)) .nil)))) .nil))) (.cons (.tup (.cons (.mk (Str.ofString "NoHeap") (.cons (.var 4) .nil)) (.cons (.lst (.cons (.cst (.int 0)) (.cons (.cst (.int 1)) (.cons (.cst (.int 5)) .nil)))) .nil))) (.cons (.tup (.cons (.mk (Str.ofString "NoText") (.cons (.cst (.str (Str.ofString "words"))) .nil)) (.cons (.lst (.cons (.cst (.int 0)) (.cons (.cst (.int 1)) (.cons (.cst (.int 6)) .nil)))) .nil))) .nil)))))
def xp_law_5 : IE := (.bin .Add (.var 3) (.lst (.cons (.tup (.cons (.mk (Str.ofString "NoWish") (.cons (.cst (.str (Str.ofString "words"))) .nil)) (.cons (.lst (.cons (.cst (.int 0)) (.cons (.cst (.int 1)) (.cons (.cst (.int 7)) .nil)))) .nil))) (.cons (.tup (.cons (.mk (Str.ofString "NoCount") (.cons (.cst (.str (Str.ofString "words"))) .nil)) (.cons (.lst (.cons (.cst (.int 0)) (.cons (.cst (.int 1)) (.cons (.cst (.int 8)) .nil)))) .nil))) (.cons (.tup (.cons (.mk (Str.ofString "NoRow") (.cons (.cst (.str (Str.ofString "words"))) .nil)) (.cons (.lst (.cons (.cst (.int 0)) (.cons (.cst (.int 1)) (.cons (.cst (.int 9)) .nil)))) .nil))) .nil)))))
def xp_law_6 : IE := (.bin .Add (.var 3) (.lst (.cons (.tup (.cons (.mk (Str.ofString "NoOne") (.cons (.var 4) .nil)) (.cons (.lst (.cons (.cst (.int 10)) (.cons (.cst (.int 11)) .nil))) .nil))) (.cons (.tup (.cons (.mk (Str.ofString "NoEnd") (.cons (.var 4) .nil)) (.cons (.lst (.cons (.cst (.int 10)) (.cons (.cst (.int 12)) .nil))) .nil))) (.cons (.tup (.cons (.mk (Str.ofString "NoKind") (.cons (.var 4) .nil)) (.cons (.lst (.cons (.cst (.int 10)) (.cons (.cst (.int 13)) (.cons (.cst (.int 14)) .nil)))) .nil))) .nil)))))
def xp_law_7 : IE := (.bin .Add (.var 3) (.lst (.cons (.tup (.cons (.mk (Str.ofString "NoRule") (.cons (.var 4) .nil)) (.cons (.lst (.cons (.cst (.int 10)) (.cons (.cst (.int 13)) (.cons (.cst (.int 15)) .nil)))) .nil))) (.cons (.tup (.cons (.mk (Str.ofString "NoSuch") (.cons (.var 4) .nil)) (.cons (.lst (.cons (.cst (.int 10)) (.cons (.cst (.int 13)) (.cons (.cst (.int 16)) .nil)))) .nil))) (.cons (.tup (.cons (.mk (Str.ofString "NoMeeting") (.cons (.var 4) .nil)) (.cons (.lst (.cons (.cst (.int 17)) (.cons (.cst (.int 18)) .nil))) .nil))) .nil)))))
def xp_law_8 : IE := (.bin .Add (.var 3) (.lst (.cons (.tup (.cons (.mk (Str.ofString "Caused") (.cons (.var 4) .nil)) (.cons (.lst (.cons (.cst (.int 17)) (.cons (.cst (.int 19)) .nil))) .nil))) (.cons (.tup (.cons (.mk (Str.ofString "Unlike") (.cons (.cst (.str (Str.ofString "words"))) .nil)) (.cons (.lst (.cons (.cst (.int 17)) (.cons (.cst (.int 20)) .nil))) .nil))) (.cons (.tup (.cons (.mk (Str.ofString "TooMany") (.cons (.var 4) .nil)) (.cons (.lst (.cons (.cst (.int 21)) (.cons (.cst (.int 22)) .nil))) .nil))) .nil)))))
def el_law_1 : IE := (.call (Str.ofString "_law_stands") (.cons (.var 6) (.cons (.var 7) .nil)))
def ic_law_2 : IE := (.not (.bi .all (.cons (.lcT el_law_1 [6, 7] (.var 3) [((Str.ofString "_law_e"), 6), ((Str.ofString "_law_places"), 7)]) .nil)))
def xp_law_9 : IE := (.cst (.bl false))
def lp_law_1 : ISs := (.cons (.set 2 xp_law_1) (.cons (.par [4, 5] (.cons (.call (Str.ofString "_law_odd") (.cons (.var 2) .nil)) (.cons (.idx (.lst (.cons (.call (Str.ofString "_law_odd") (.cons (.var 2) .nil)) (.cons (.call (Str.ofString "_law_take") (.cons (.var 2) (.cons (.bin .Pow (.cst (.int 10)) (.cst (.int 9))) .nil))) .nil))) (.call (Str.ofString "_law_take") (.cons (.var 2) (.cons (.cst (.int 2)) .nil)))) .nil))) (.cons (.ite ic_law_1 (.cons (.ret xp_law_2) .nil) .nil) (.cons (.set 3 xp_law_3) (.cons (.set 3 xp_law_4) (.cons (.set 3 xp_law_5) (.cons (.set 3 xp_law_6) (.cons (.set 3 xp_law_7) (.cons (.set 3 xp_law_8) (.cons (.ite ic_law_2 (.cons (.ret xp_law_9) .nil) .nil) .nil))))))))))
def rl_law_1 : IS := (.forR 1 (.bi .max (.cons (.cst (.int 1)) (.cons (.bi .min (.cons (.cst (.int 4)) (.cons (.bi .len (.cons (.var 0) .nil)) .nil))) .nil))) lp_law_1)
def xp_law_10 : IE := (.cst (.bl true))
def bd_law : ISs := (.cons rl_law_1 (.cons (.ret xp_law_10) .nil))
theorem ck_law : chkSs nn_law false (defScope st_law) bd_law (defBody st_law) = true := by decide +kernel
theorem sc_law : FnScope nn_law ps_law (defScope st_law) := ⟨rfl, rfl, rfl, by decide +kernel, rfl, by decide +kernel, by decide +kernel⟩
abbrev st__law_take : Stmt := topS 21
theorem sc__law_take : FnScope ["_law_pot_here", "_law_much", "_law_digit"] ["_law_pot_here", "_law_much"] (defScope st__law_take) := ⟨rfl, rfl, rfl, by decide +kernel, rfl, by decide +kernel, by decide +kernel⟩
theorem ok_take {P : Program} {w : World} {K : PySem.W.Frag} {mg : Str → Option Value} {base : Heap} {k : Nat} {f : Addr} {fd : FuncData} (F : Fun K "_law_take" "_law_take" st__law_take f fd) (md : mg "divmod" = none) :
    FnG P w K mg base (k + 1) f fd ["_law_pot_here", "_law_much"] (spD ⟨K, mg, none⟩ takeFI) := by
  refine fnG_of F sc__law_take (fun vs H Q E h => ?_) fun cdv A outer s H vs Q E hr hg h => ?_
  · obtain ⟨ds, a, _⟩ := h
    exact (argsR_len a).1
  · obtain ⟨ds, a, nd, post⟩ := h
    cases hrun : takeFI.run ds with
    | stuck => rw [hrun] at post; exact (show False from post).elim
    | exc c fs ss => exact (take_no hrun).elim
    | ok r =>
    obtain ⟨d, new, outs⟩ := r
    rw [hrun] at post
    have post : ∀ v H', Post ⟨K, mg, none⟩ takeFI.io vs H d new outs v H' → Q v H' := post
    obtain ⟨a0, b0, m0, rfl, hm, rfl, rfl, rfl⟩ := take_run hrun
    obtain ⟨v0, v1, rfl⟩ : ∃ v0 v1, vs = [v0, v1] := by
      have := (argsR_len a).1
      match vs, this with
      | [x, y], _ => exact ⟨x, y, rfl⟩
    obtain ⟨⟨p, rfl, ws, ds', e1, hp, l⟩, i1, _⟩ := a
    cases e1
    cases i1
    cases l with
    | cons q1 l =>
      cases q1
      cases l with
      | cons q2 l =>
        cases q2
        cases l
        refine ⟨_, pss_cons (ps_if (pt_cmpR op_gt (pe_ix ix_list (pv 0) pe_int (fun _ _ => rfl)) pe_int (nomark _))
          (pss_cons (ps_asg (pe_callB call_divmod (by rfl) md (by decide +kernel) (pa_cons (pe_ix ix_list (pv 0) pe_int (fun _ _ => rfl)) (pa_cons (pv 1) pa_nil))) (pg_tup rfl (pgs_cons (pg_sub (pv 0) pe_int set_list) (pgs_cons (pg_name (i := 2) sc__law_take.nd rfl (.inl rfl)) pgs_nil))))
          (pss_one (ps_ret (pv 2)))) pss_nil)
          (pss_cons (ps_asg (pe_op op_mod (pe_op op_add (pe_op op_mul (pe_ix ix_list (pv 0) pe_int (fun _ _ => rfl)) pe_int) pe_int) pe_int) (pg_sub (pv 0) pe_int set_list))
          (pss_one (ps_ret (pe_op op_mod (pe_op op_fdiv (pe_op op_mod (pe_op op_mul (pe_ix ix_list (pv 0) pe_int (fun _ _ => rfl)) (pe_ix ix_list (pv 0) pe_int (fun _ _ => rfl))) pe_int) pe_int) (pv 1))))), ?_⟩
        have sq : SqL K H p [.int a0, .int b0] := .inl (.inl hp)
        refine ⟨.ref p, rfl, p, _, 0, .int a0, rfl, rfl, sq, rfl, a0, 0, rfl, rfl, _, rfl, ite2 (fun c => ?_) (fun c => ?_)⟩
        · have c := of_decide_eq_true c
          refine ⟨.ref p, rfl, p, _, 0, .int a0, rfl, rfl, sq, rfl, .int m0, rfl, a0, m0, rfl, hm, fun q hq => ?_⟩
          have hp1 : upd H q (.tup [.int (a0 / m0), .int (a0 % m0)]) p = some (.lst [.int a0, .int b0]) := by rw [upd_ne (ne_of_none hp hq)]; exact hp
          refine ⟨q, _, rfl, .inl (.inl upd_same), rfl, _, _, rfl, ?_⟩
          refine ⟨.ref p, rfl, p, _, 0, 0, rfl, rfl, hp1, rfl, _, _, rfl, rfl, ?_⟩
          refine ⟨_, rfl, post _ _ ⟨fun b o hb hn => ?_, ?_, ⟨⟨_, _, rfl, upd_same, ?_⟩, trivial⟩, ?_⟩⟩
          · have hn' : b ≠ p := fun z => hn (by rw [z]; exact List.mem_cons_self)
            rw [upd_ne hn', upd_ne (ne_of_none hb hq)]; exact hb
          · exact (FrzLe.new hq).trans (FrzLe.mut hp1 rfl)
          · show IsL ⟨K, mg, none⟩ _ _ [.int (takeN a0 b0 m0).2.1, .int (takeN a0 b0 m0).2.2]
            unfold takeN
            rw [if_pos c]
            exact .cons (.int _) (.cons (.int _) .nil)
          · show Is ⟨K, mg, none⟩ _ _ (.int (takeN a0 b0 m0).1)
            unfold takeN
            rw [if_pos c]
            exact .int _
        · have c : ¬ 0 < a0 := fun z => c (decide_eq_true z)
          refine ⟨.ref p, rfl, p, _, 1, .int b0, rfl, rfl, sq, rfl, b0, 40014, rfl, rfl, .inr ⟨by decide, by decide⟩, _, 12211, rfl, rfl, _, 2147483563, rfl, rfl, by show (0 : Int) < 2147483563; decide, ?_⟩
          refine ⟨.ref p, rfl, p, _, 1, 1, rfl, rfl, hp, rfl, ?_⟩
          have hc0 : 0 ≤ (b0 * 40014 + 12211) % 2147483563 := Int.emod_nonneg _ (by decide)
          have hc1 : (b0 * 40014 + 12211) % 2147483563 < 2147483563 := Int.emod_lt_of_pos _ (by decide)
          have sq2 : SqL K (upd H p (.lst [.int a0, .int ((b0 * 40014 + 12211) % 2147483563)])) p [.int a0, .int ((b0 * 40014 + 12211) % 2147483563)] := .inl (.inl upd_same)
          refine ⟨.ref p, rfl, p, _, 1, .int ((b0 * 40014 + 12211) % 2147483563), rfl, rfl, sq2, rfl, .ref p, rfl, p, _, 1, .int ((b0 * 40014 + 12211) % 2147483563), rfl, rfl, sq2, rfl, _, _, rfl, rfl, .inl ⟨?_, ?_⟩, _, 2147483399, rfl, rfl, by show (0 : Int) < 2147483399; decide, _, 11, rfl, rfl, ⟨by decide, by decide⟩, .int m0, rfl, _, m0, rfl, rfl, hm.1, ?_⟩
          · have : (-(2 ^ 64) : Int) < 0 := by decide
            omega
          · have : (2147483563 : Int) < 2 ^ 64 := by decide
            omega
          refine post _ _ ⟨fun b o hb hn => ?_, FrzLe.mut hp rfl, ⟨⟨_, _, rfl, upd_same, ?_⟩, trivial⟩, ?_⟩
          · rw [upd_ne (fun z => hn (by rw [z]; exact List.mem_cons_self))]; exact hb
          · show IsL ⟨K, mg, none⟩ _ _ [.int (takeN a0 b0 m0).2.1, .int (takeN a0 b0 m0).2.2]
            unfold takeN
            rw [if_neg c]
            exact .cons (.int _) (.cons (.int _) .nil)
          · show Is ⟨K, mg, none⟩ _ _ (.int (takeN a0 b0 m0).1)
            unfold takeN
            rw [if_neg c]
            exact .int _

end K19
set_option Elab.async false
set_option linter.all false
set_option maxRecDepth 100000
set_option maxHeartbeats 4000000
namespace K19
open PySem PySem.Spec PyProof.Rows L2 Ev
def excL : List (Str × List Str) := [((Str.ofString "FacerError"), []), ((Str.ofString "NoKinds"), [(Str.ofString "what"), (Str.ofString "who")]), ((Str.ofString "NoWeb"), [(Str.ofString "what"), (Str.ofString "who")]), ((Str.ofString "NoBook"), [(Str.ofString "what"), (Str.ofString "number")]), ((Str.ofString "NoHeap"), [(Str.ofString "who")]), ((Str.ofString "NoText"), []), ((Str.ofString "NoWish"), []), ((Str.ofString "NoCount"), []), ((Str.ofString "NoRow"), []), ((Str.ofString "NoOne"), [(Str.ofString "who")]), ((Str.ofString "NoEnd"), [(Str.ofString "end")]), ((Str.ofString "NoKind"), [(Str.ofString "word")]), ((Str.ofString "NoRule"), [(Str.ofString "pair")]), ((Str.ofString "NoSuch"), [(Str.ofString "who")]), ((Str.ofString "NoMeeting"), [(Str.ofString "who")]), ((Str.ofString "Caused"), [(Str.ofString "by")]), ((Str.ofString "Unlike"), []), ((Str.ofString "TooMany"), [(Str.ofString "limit")])]
def askL : List Str := [(Str.ofString "ArithmeticError"), (Str.ofString "Caused"), (Str.ofString "FacerError"), (Str.ofString "IndexError"), (Str.ofString "KeyError"), (Str.ofString "LookupError"), (Str.ofString "NoBook"), (Str.ofString "NoCount"), (Str.ofString "NoEnd"), (Str.ofString "NoHeap"), (Str.ofString "NoKind"), (Str.ofString "NoKinds"), (Str.ofString "NoMeeting"), (Str.ofString "NoOne"), (Str.ofString "NoRow"), (Str.ofString "NoRule"), (Str.ofString "NoSuch"), (Str.ofString "NoText"), (Str.ofString "NoWeb"), (Str.ofString "NoWish"), (Str.ofString "RuntimeError"), (Str.ofString "TooMany"), (Str.ofString "Unlike"), (Str.ofString "ValueError"), (Str.ofString "ZeroDivisionError")]
def abvL : List (Str × List Str) := [((Str.ofString "FacerError"), [(Str.ofString "FacerError"), (Str.ofString "ValueError")]), ((Str.ofString "NoKinds"), [(Str.ofString "NoKinds"), (Str.ofString "FacerError"), (Str.ofString "ValueError")]), ((Str.ofString "NoWeb"), [(Str.ofString "NoWeb"), (Str.ofString "FacerError"), (Str.ofString "ValueError")]), ((Str.ofString "NoBook"), [(Str.ofString "NoBook"), (Str.ofString "FacerError"), (Str.ofString "ValueError")]), ((Str.ofString "NoHeap"), [(Str.ofString "NoHeap"), (Str.ofString "FacerError"), (Str.ofString "ValueError")]), ((Str.ofString "NoText"), [(Str.ofString "NoText"), (Str.ofString "FacerError"), (Str.ofString "ValueError")]), ((Str.ofString "NoWish"), [(Str.ofString "NoWish"), (Str.ofString "FacerError"), (Str.ofString "ValueError")]), ((Str.ofString "NoCount"), [(Str.ofString "NoCount"), (Str.ofString "FacerError"), (Str.ofString "ValueError")]), ((Str.ofString "NoRow"), [(Str.ofString "NoRow"), (Str.ofString "FacerError"), (Str.ofString "ValueError")]), ((Str.ofString "NoOne"), [(Str.ofString "NoOne"), (Str.ofString "LookupError")]), ((Str.ofString "NoEnd"), [(Str.ofString "NoEnd"), (Str.ofString "LookupError")]), ((Str.ofString "NoKind"), [(Str.ofString "NoKind"), (Str.ofString "KeyError"), (Str.ofString "LookupError")]), ((Str.ofString "NoRule"), [(Str.ofString "NoRule"), (Str.ofString "KeyError"), (Str.ofString "LookupError")]), ((Str.ofString "NoSuch"), [(Str.ofString "NoSuch"), (Str.ofString "KeyError"), (Str.ofString "LookupError")]), ((Str.ofString "NoMeeting"), [(Str.ofString "NoMeeting"), (Str.ofString "RuntimeError")]), ((Str.ofString "Caused"), [(Str.ofString "Caused"), (Str.ofString "RuntimeError")]), ((Str.ofString "Unlike"), [(Str.ofString "Unlike"), (Str.ofString "RuntimeError")]), ((Str.ofString "TooMany"), [(Str.ofString "TooMany"), (Str.ofString "ArithmeticError")])]
def mkwL : List (Str × List Str) := [((Str.ofString "Caused"), [(Str.ofString "by")]), ((Str.ofString "NoBook"), [(Str.ofString "number"), (Str.ofString "what")]), ((Str.ofString "NoEnd"), [(Str.ofString "end")]), ((Str.ofString "NoHeap"), [(Str.ofString "who")]), ((Str.ofString "NoKind"), [(Str.ofString "word")]), ((Str.ofString "NoKinds"), [(Str.ofString "who"), (Str.ofString "what")]), ((Str.ofString "NoMeeting"), [(Str.ofString "who")]), ((Str.ofString "NoOne"), [(Str.ofString "who")]), ((Str.ofString "NoRule"), [(Str.ofString "pair")]), ((Str.ofString "NoSuch"), [(Str.ofString "who")]), ((Str.ofString "NoWeb"), [(Str.ofString "who"), (Str.ofString "what")]), ((Str.ofString "TooMany"), [(Str.ofString "limit")])]
def T_0 : Tab where
  con := fun x => none
  fn := fun _ => none
  sub := fun c d => (abvL.lookup c).bind fun ab => if askL.contains d then some (ab.contains d) else none
  exc := fun c => excL.lookup c
  kw := fun f => none
  takes := fun c ds => if c = (Str.ofString "NoKinds") then tk_NoKinds ds else if c = (Str.ofString "NoWeb") then tk_NoWeb ds else if c = (Str.ofString "NoBook") then tk_NoBook ds else if c = (Str.ofString "NoHeap") then tk_NoHeap ds else if c = (Str.ofString "NoOne") then tk_NoOne ds else if c = (Str.ofString "NoEnd") then tk_NoEnd ds else if c = (Str.ofString "NoKind") then tk_NoKind ds else if c = (Str.ofString "NoRule") then tk_NoRule ds else if c = (Str.ofString "NoSuch") then tk_NoSuch ds else if c = (Str.ofString "NoMeeting") then tk_NoMeeting ds else if c = (Str.ofString "Caused") then tk_Caused ds else if c = (Str.ofString "TooMany") then tk_TooMany ds else false
  mkw := fun c ks => mkwL.contains (c, ks)
  cls := fun d => askL.contains d
def fi__law_pot : FI := FI.of T_0 nn__law_pot.length io__law_pot bd__law_pot
def T_1 : Tab := T_0.add (Str.ofString "_law_pot") fi__law_pot
abbrev fi__law_take : FI := takeFI
def T_2 : Tab := T_1.add (Str.ofString "_law_take") fi__law_take
def fi__law_odd : FI := FI.of T_2 nn__law_odd.length io__law_odd bd__law_odd
def T_3 : Tab := T_2.add (Str.ofString "_law_odd") fi__law_odd
def fi__law_under : FI := FI.of T_3 nn__law_under.length io__law_under bd__law_under
def T_4 : Tab := T_3.add (Str.ofString "_law_under") fi__law_under
def fi__law_stands : FI := FI.of T_4 nn__law_stands.length io__law_stands bd__law_stands
def T_5 : Tab := T_4.add (Str.ofString "_law_stands") fi__law_stands
def fi__law_fields_right : FI := FI.of T_5 nn__law_fields_right.length io__law_fields_right bd__law_fields_right
def T_6 : Tab := T_5.add (Str.ofString "_law_fields_right") fi__law_fields_right
def fi_law : FI := FI.of T_6 nn_law.length io_law bd_law
def T_7 : Tab := T_6.add (Str.ofString "law") fi_law
end K19
set_option Elab.async false
set_option linter.all false
set_option maxRecDepth 100000
set_option maxHeartbeats 4000000
namespace K19
open PySem Ev
theorem cell_ev (ns : List Int) (k : Nat) : ∃ c : Int, ev T_0 xp__law_pot_1 [.val (.scr ns), .val (.int k), .no] = .ok (.int c, .frz, [.val (.scr ns), .val (.int k), .no]) := by
  unfold xp__law_pot_1
  have hc : ev T_0 (.cmp .Lt (.var 1) (.bi .len (.cons (.var 0) .nil))) [.val (.scr ns), .val (.int k), .no] = .ok (.bl (decide ((k : Int) < (ns.length : Int))), .frz, [.val (.scr ns), .val (.int k), .no]) :=
    evCmp (evVar rfl) (evBi1 (evVar rfl) rfl) rfl
  by_cases h : (k : Int) < (ns.length : Int)
  · rw [decide_eq_true h] at hc
    obtain ⟨c, _, hi⟩ := atI_mem (xs := ns) (i := k) ⟨by omega, h⟩
    refine ⟨c, ?_⟩
    rw [evIteT hc]
    refine evIdx (evVar rfl) (Or.inl rfl) (evVar rfl) ?_
    show (L2.atI ns k).map Dat.int = _
    rw [hi]
    rfl
  · rw [decide_eq_false h] at hc
    refine ⟨0, ?_⟩
    rw [evIteF hc]
    exact evCst
theorem run_pot (ns : List Int) (k : Nat) : ∃ a b : Int, fi__law_pot.run [.scr ns, .int k] = .ok (pot a b, true, []) := by
  obtain ⟨c, hc⟩ := cell_ev ns k
  refine ⟨if c - 10 ^ 18 > 0 then c - 10 ^ 18 else 0, (c % 2147483563 * 40692 + 30011 * ((k : Int) + 1)) % 2147483399, rOf (ρ0 := [.val (.scr ns), .val (.int k), .no]) (ρ := [.val (.scr ns), .val (.int k), .val (.int c)]) rfl rfl ?_ rfl⟩
  unfold bd__law_pot
  rw [rSet (by decide) hc]
  show Ev.execs T_0 [] _ [.val (.scr ns), .val (.int k), .val (.int c)] = _
  exact rRetN (evLst (evsCons (Or.inl rfl) (evBi2 evCst (evBin (evVar rfl) (evBin (d := .int (10 ^ 18)) evCst evCst rfl) rfl) rfl) (evsCons (Or.inl rfl) (evBin (evBin (evBin (evBin (evVar rfl) evCst (binMod c (by decide))) evCst (binMul _ (by decide))) (evBin evCst (evBin (evVar rfl) evCst rfl) (binMul' _ (by decide))) rfl) evCst (binMod _ (by decide))) evsNil)) rfl)
/-! things of any kind -/
def odds : List Dat := [.non, .int 0, .bl false, .bl true, .int 1, .int (-1), .int 7, .str (Str.ofString ""), .str (Str.ofString "A"), .str (Str.ofString "a b"), .str (Str.ofString "a1"), .str (Str.ofString "abcdefghi"), .str (Str.ofString "a"), .tup [], .lst [], .dic [], .tup [.int 0], .lst [.int 0], .tup [.str (Str.ofString "a")],
  .lst [.str (Str.ofString "a")], .tup [.tup []], .tup [.non], .tup [.str (Str.ofString "a"), .int 1], .tup [.str (Str.ofString "a"), .int 12], .tup [.str (Str.ofString "a"), .int (-1)], .tup [.str (Str.ofString "A")], .tup [.str (Str.ofString "a"), .bl true], .dic [(.str (Str.ofString "a"), .tup [])]]
def good (d : Dat) : Bool := d.fmtOk && d.nice 8 40 && d.noLst
theorem odds_good : ∀ x ∈ odds, good x = true := by decide +kernel
theorem odd_go (a b : Int) : execs T_2 [0] bd__law_odd [.own (pot a b), .no] = execs T_2 [0] (.cons (.ret xp__law_odd_3) .nil) [.own (pot a b), .own (.lst odds)] := by kernel_rfl
theorem run_odd (a b : Int) : ∃ (x : Dat) (a' b' : Int), x ∈ odds ∧ fi__law_odd.run [pot a b] = .ok (x, false, [pot a' b']) := by
  obtain ⟨r, a', b', hr, ht⟩ := takeK (T := T_2) (i := 0) (ρ := [.own (pot a b), .own (.lst odds)]) 28 rfl rfl (by decide)
  obtain ⟨x, hx, hi⟩ := atI_mem (xs := odds) (i := r) ⟨hr.1, by rw [show (odds.length : Int) = 28 by decide]; exact hr.2⟩
  refine ⟨x, a', b', hx, rOf (ρ0 := [.own (pot a b), .no]) (ρ := [.own (pot a' b'), .own (.lst odds)]) rfl rfl ?_ rfl⟩
  show Ev.execs T_2 [0] _ _ = _
  rw [odd_go]
  exact rRet (evIdxB rfl ht rfl hi)
/-! what errors tell -/
theorem noLst_rep {d : Dat} (h : d.noLst = true) : ∀ n : Nat, noLsts (List.replicate n d) = true
  | 0 => rfl
  | n + 1 => by
    show (d.noLst && noLsts (List.replicate n d)) = true
    rw [h, noLst_rep h n]
    rfl
theorem niceL_rep {d : Dat} {p b : Nat} (h : Nice d p b) : ∀ n : Nat, NiceL (List.replicate n d) p (n * (b + 1))
  | 0 => niceL_mono (niceL_nil p) (by omega)
  | n + 1 => by
    have := niceL_cons h (niceL_rep h n)
    refine niceL_mono this ?_
    rw [Nat.succ_mul]
    omega
theorem tell_rep {d : Dat} {p b n : Nat} (h : Nice d p b) (hl : d.noLst = true) (hp : p ≤ 38) (hb : n * (b + 1) ≤ 3000) : (Dat.lst (List.replicate n d)).tell = true :=
  tell_of (nice_mono (nice_lst (niceL_rep h n)) (by omega) (Nat.le_refl _)) hb (.inr (noLst_rep hl n))
theorem good_parts {d : Dat} (h : good d = true) : d.fmtOk = true ∧ Nice d 8 40 ∧ d.noLst = true := by
  unfold good at h
  simp only [Bool.and_eq_true] at h
  exact ⟨h.1.1, nice_of h.1.2, h.2⟩
theorem tell_six {x y : Dat} (hx : good x = true) (hy : good y = true) : (Dat.lst (List.replicate 6 (Dat.lst [x, y]))).tell = true := by
  obtain ⟨_, nx, lx⟩ := good_parts hx
  obtain ⟨_, ny, ly⟩ := good_parts hy
  refine tell_rep (p := 9) (b := 82) (nice_mono (nice_lst (niceL_cons nx (niceL_cons ny (niceL_nil 8)))) (by omega) (by omega)) ?_ (by omega) (by omega)
  show (x.noLst && (y.noLst && true)) = true
  rw [lx, ly]
  rfl
theorem tell_18 {x : Dat} (hx : good x = true) : (Dat.lst (List.replicate 18 x)).tell = true := by
  obtain ⟨_, nx, lx⟩ := good_parts hx
  exact tell_rep nx lx (by omega) (by omega)
abbrev S (s : String) : Str := Str.ofString s
abbrev oKinds (x y : Dat) : Dat := .obj (S "NoKinds") [(S "who", y), (S "what", x)]
abbrev oWeb (x y : Dat) : Dat := .obj (S "NoWeb") [(S "who", y), (S "what", x)]
abbrev oBook (x y : Dat) : Dat := .obj (S "NoBook") [(S "number", y), (S "what", x)]
abbrev oMany (x : Dat) : Dat := .obj (S "TooMany") [(S "limit", x)]
section
variable {T : Tab} (h1 : T.exc = T_0.exc) (h2 : T.takes = T_0.takes) (h3 : T.mkw = T_0.mkw)
include h1 h2
theorem mk_kinds {es : IEs} {x y : Dat} {ρ ρ1 : DEnv} (he : evs T es ρ = .ok ([x, y], ρ1)) (hx : x.fmtOk = true) : ev T (.mk (S "NoKinds") es) ρ = .ok (oKinds x y, .frz, ρ1) :=
  evMk (f := S "what") (fs := [S "who"]) (by rw [h1]; kernel_rfl) he rfl (by rw [h2]; exact hx)
theorem mk_web {es : IEs} {x y : Dat} {ρ ρ1 : DEnv} (he : evs T es ρ = .ok ([x, y], ρ1)) (hx : x.fmtOk = true) : ev T (.mk (S "NoWeb") es) ρ = .ok (oWeb x y, .frz, ρ1) :=
  evMk (f := S "what") (fs := [S "who"]) (by rw [h1]; kernel_rfl) he rfl (by rw [h2]; exact hx)
theorem mk_book {es : IEs} {x y : Dat} {ρ ρ1 : DEnv} (he : evs T es ρ = .ok ([x, y], ρ1)) (hx : x.fmtOk = true) (hy : y.fmtOk = true) : ev T (.mk (S "NoBook") es) ρ = .ok (oBook x y, .frz, ρ1) :=
  evMk (f := S "what") (fs := [S "number"]) (by rw [h1]; kernel_rfl) he rfl (by rw [h2]; exact (by rw [hx, hy]; rfl : (x.fmtOk && y.fmtOk) = true))
theorem mk_many {es : IEs} {x : Dat} {ρ ρ1 : DEnv} (he : evs T es ρ = .ok ([x], ρ1)) (hx : x.fmtOk = true) : ev T (.mk (S "TooMany") es) ρ = .ok (oMany x, .frz, ρ1) :=
  evMk (f := S "limit") (fs := []) (by rw [h1]; kernel_rfl) he rfl (by rw [h2]; exact hx)
include h3
theorem mkK_kinds {es : IEs} {x y : Dat} {ρ ρ1 : DEnv} (he : evs T es ρ = .ok ([y, x], ρ1)) (hx : x.fmtOk = true) : ev T (.mkK (S "NoKinds") [S "who", S "what"] es) ρ = .ok (oKinds x y, .frz, ρ1) :=
  evMkK (f := S "what") (fs := [S "who"]) (ws := [x, y]) (by rw [h1]; kernel_rfl) (by rw [h3]; kernel_rfl) he ⟨rfl, rfl⟩ (by kernel_rfl) (by rw [h2]; exact hx)
theorem mkK_web {es : IEs} {x y : Dat} {ρ ρ1 : DEnv} (he : evs T es ρ = .ok ([y, x], ρ1)) (hx : x.fmtOk = true) : ev T (.mkK (S "NoWeb") [S "who", S "what"] es) ρ = .ok (oWeb x y, .frz, ρ1) :=
  evMkK (f := S "what") (fs := [S "who"]) (ws := [x, y]) (by rw [h1]; kernel_rfl) (by rw [h3]; kernel_rfl) he ⟨rfl, rfl⟩ (by kernel_rfl) (by rw [h2]; exact hx)
theorem mkK_book {es : IEs} {x y : Dat} {ρ ρ1 : DEnv} (he : evs T es ρ = .ok ([y, x], ρ1)) (hx : x.fmtOk = true) (hy : y.fmtOk = true) : ev T (.mkK (S "NoBook") [S "number", S "what"] es) ρ = .ok (oBook x y, .frz, ρ1) :=
  evMkK (f := S "what") (fs := [S "number"]) (ws := [x, y]) (by rw [h1]; kernel_rfl) (by rw [h3]; kernel_rfl) he ⟨rfl, rfl⟩ (by kernel_rfl) (by rw [h2]; exact (by rw [hx, hy]; rfl : (x.fmtOk && y.fmtOk) = true))
theorem mkK_many {es : IEs} {x : Dat} {ρ ρ1 : DEnv} (he : evs T es ρ = .ok ([x], ρ1)) (hx : x.fmtOk = true) : ev T (.mkK (S "TooMany") [S "limit"] es) ρ = .ok (oMany x, .frz, ρ1) :=
  evMkK (f := S "limit") (fs := []) (ws := [x]) (by rw [h1]; kernel_rfl) (by rw [h3]; kernel_rfl) he ⟨rfl, rfl⟩ (by kernel_rfl) (by rw [h2]; exact hx)
end
section
variable {x y : Dat} (hx : good x = true) (hy : good y = true)
abbrev fr1 (x y : Dat) : DEnv := [.val x, .val y, .own (.lst [oKinds x y, oKinds x y, oWeb x y, oWeb x y]), .no, .no, .no]
abbrev six (x y : Dat) : Dat := .lst (List.replicate 6 (.lst [x, y]))
theorem evs2 {T : Tab} {i j : Nat} {a b : Dat} {ρ : DEnv} (h1 : ρ[i]? = some (.val a)) (h2 : ρ[j]? = some (.val b)) : evs T (.cons (.var i) (.cons (.var j) .nil)) ρ = .ok ([a, b], ρ) :=
  evsCons (.inl rfl) (evVar h1) (evsCons (.inl rfl) (evVar h2) evsNil)
theorem evs1 {T : Tab} {i : Nat} {a : Dat} {ρ : DEnv} (h1 : ρ[i]? = some (.val a)) : evs T (.cons (.var i) .nil) ρ = .ok ([a], ρ) := evsCons (.inl rfl) (evVar h1) evsNil
include hx hy
theorem f_1 : ev T_5 xp__law_fields_right_1 [.val x, .val y, .no, .no, .no, .no] = .ok (.lst [oKinds x y, oKinds x y, oWeb x y, oWeb x y], .fresh, [.val x, .val y, .no, .no, .no, .no]) := by
  obtain ⟨fx, _, _⟩ := good_parts hx
  unfold xp__law_fields_right_1
  exact evLst (evsCons (.inl rfl) (mk_kinds (T := T_5) rfl rfl (evs2 rfl rfl) fx) (evsCons (.inl rfl) (mkK_kinds (T := T_5) rfl rfl rfl (evs2 rfl rfl) fx) (evsCons (.inl rfl) (mk_web (T := T_5) rfl rfl (evs2 rfl rfl) fx) (evsCons (.inl rfl) (mkK_web (T := T_5) rfl rfl rfl (evs2 rfl rfl) fx) evsNil)))) rfl
theorem f_2 (r : ISs) : execs T_5 [] (.cons (.set 3 xp__law_fields_right_2) r) (fr1 x y) = execs T_5 [] r [.val x, .val y, .val (.lst [oKinds x y, oKinds x y, oWeb x y, oWeb x y]), .own (.lst [.lst [x, y], .lst [x, y], .lst [x, y], .lst [x, y]]), .no, .no] := by kernel_rfl
theorem f_3 {a b : Slot} : ev T_5 xp__law_fields_right_3 [.val x, .val y, a, b, .no, .no] = .ok (.lst [oBook x y, oBook x y], .fresh, [.val x, .val y, a, b, .no, .no]) := by
  obtain ⟨fx, _, _⟩ := good_parts hx
  obtain ⟨fy, _, _⟩ := good_parts hy
  unfold xp__law_fields_right_3
  exact evLst (evsCons (.inl rfl) (mk_book (T := T_5) rfl rfl (evs2 rfl rfl) fx fy) (evsCons (.inl rfl) (mkK_book (T := T_5) rfl rfl rfl (evs2 rfl rfl) fx fy) evsNil)) rfl
theorem f_4 {a : Slot} (r : ISs) : execs T_5 [] (.cons (.set 3 xp__law_fields_right_4) r) [.val x, .val y, a, .own (.lst [.lst [x, y], .lst [x, y], .lst [x, y], .lst [x, y]]), .own (.lst [oBook x y, oBook x y]), .no] =
    execs T_5 [] r [.val x, .val y, a, .own (six x y), .val (.lst [oBook x y, oBook x y]), .no] := by kernel_rfl
theorem f_5 {a b c : Slot} : ev T_5 ic__law_fields_right_1 [.val x, .val y, a, .own (six x y), b, c] = .ok (.bl false, .frz, [.val x, .val y, a, .own (six x y), b, c]) := by
  have t := tell_six hx hy
  unfold ic__law_fields_right_1
  refine evCmp (evBi1 (evVarO rfl) (repD t)) (evBi1 (x := six x y) (m := .fresh) ?_ (repD t)) (neS _)
  kernel_rfl
theorem f_7 {a b c : Slot} (r : ISs) : execs T_5 [] (.cons (.set 3 xp__law_fields_right_6) (.cons (.app 3 (.pr (.fld (Str.ofString "end")) (.mkK (Str.ofString "NoEnd") [(Str.ofString "end")] (.cons (.var 0) .nil)))) (.cons (.set 3 xp__law_fields_right_7) (.cons (.set 3 xp__law_fields_right_8) r)))) [.val x, .val y, a, .own (six x y), b, c] =
    execs T_5 [] r [.val x, .val y, a, .own (.lst (List.replicate 16 x)), b, c] := by kernel_rfl
theorem f_9 {a b c : Slot} : ev T_5 xp__law_fields_right_9 [.val x, .val y, a, .own (.lst (List.replicate 16 x)), b, c] = .ok (.bl true, .frz, [.val x, .val y, a, .own (.lst (List.replicate 16 x)), b, c]) := by
  obtain ⟨fx, _, _⟩ := good_parts hx
  have t := tell_18 hx
  unfold xp__law_fields_right_9
  refine evCmp (evBi1 (x := .lst (List.replicate 18 x)) (m := .fresh) (evBinB rfl (evLst (evsCons (.inl rfl) (evPr (x := oMany x) (d := x) (k := .frz) (by kernel_rfl) (mk_many (T := T_5) rfl rfl (evs1 rfl) fx) ?_) (evsCons (.inl rfl) (evPr (x := oMany x) (d := x) (k := .frz) (by kernel_rfl) (mkK_many (T := T_5) rfl rfl rfl (evs1 rfl) fx) ?_) evsNil)) rfl) rfl ?_) (repD t)) (evBi1 (x := .lst (List.replicate 18 x)) (m := .fresh) ?_ (repD t)) (eqS _)
  · kernel_rfl
  · kernel_rfl
  · kernel_rfl
  · kernel_rfl
theorem run_fields : fi__law_fields_right.run [x, y] = .ok (.bl true, false, []) := by
  refine rOf (ρ0 := [.val x, .val y, .no, .no, .no, .no]) (ρ := [.val x, .val y, .val (.lst [oKinds x y, oKinds x y, oWeb x y, oWeb x y]), .own (.lst (List.replicate 16 x)), .val (.lst [oBook x y, oBook x y]), .no]) rfl rfl ?_ rfl
  show Ev.execs T_5 [] bd__law_fields_right _ = _
  unfold bd__law_fields_right
  rw [rSet (by decide) (f_1 hx hy)]
  refine (f_2 hx hy _).trans ?_
  rw [rSet (by decide) (f_3 hx hy)]
  refine (f_4 hx hy _).trans ?_
  rw [rIteF (f_5 hx hy)]
  refine (f_7 hx hy _).trans ?_
  exact rRet (f_9 hx hy)
end
/-! the law -/
theorem good_int {r : Int} (h : 0 ≤ r ∧ r < 1000000000) : good (.int r) = true := by
  have h1 : r.natAbs < 2 ^ 64 := by omega
  have n := nice_mono (nice_int (i := r) (by omega)) (show 1 ≤ 8 by omega) (show 0 ≤ 40 by omega)
  unfold good Dat.nice
  have h2 : (Dat.int r).fmtOk = true := decide_eq_true h1
  rw [h2, n.pu, n.sh, n.lv, decide_eq_true n.dp, decide_eq_true n.bk]
  rfl
abbrev ls (l : List Int) : Dat := .lst (l.map .int)
abbrev o0 (c : String) : Dat := .obj (S c) []
abbrev o1 (c f : String) (x : Dat) : Dat := .obj (S c) [(S f, x)]
def all18 (x y : Dat) : List Dat := [.tup [o0 "FacerError", ls [0, 1]], .tup [oKinds x y, ls [0, 1, 2]], .tup [oWeb x y, ls [0, 1, 3]],
  .tup [oBook x y, ls [0, 1, 4]], .tup [o1 "NoHeap" "who" x, ls [0, 1, 5]], .tup [o0 "NoText", ls [0, 1, 6]],
  .tup [o0 "NoWish", ls [0, 1, 7]], .tup [o0 "NoCount", ls [0, 1, 8]], .tup [o0 "NoRow", ls [0, 1, 9]],
  .tup [o1 "NoOne" "who" x, ls [10, 11]], .tup [o1 "NoEnd" "end" x, ls [10, 12]], .tup [o1 "NoKind" "word" x, ls [10, 13, 14]],
  .tup [o1 "NoRule" "pair" x, ls [10, 13, 15]], .tup [o1 "NoSuch" "who" x, ls [10, 13, 16]], .tup [o1 "NoMeeting" "who" x, ls [17, 18]],
  .tup [o1 "Caused" "by" x, ls [17, 19]], .tup [o0 "Unlike", ls [17, 20]], .tup [oMany x, ls [21, 22]]]
section
variable {x y : Dat} (hx : good x = true) (hy : good y = true) {s k p : Slot}
include hx hy
theorem l_3 {o b c : Slot} : ev T_6 xp_law_3 [s, k, p, o, .val x, .val y, b, c] = .ok (.lst ((all18 x y).take 3), .fresh, [s, k, p, o, .val x, .val y, b, c]) := by
  obtain ⟨fx, _, _⟩ := good_parts hx
  unfold xp_law_3
  exact evLstC (evsC (d := .tup [o0 "FacerError", ls [0, 1]]) (m := .frz) (.inl rfl) (by kernel_rfl) (evsC (d := .tup [oKinds x y, ls [0, 1, 2]]) (.inl rfl) (evTupC (evsC (.inl rfl) (mk_kinds (T := T_6) rfl rfl (evs2 rfl rfl) fx) (by kernel_rfl)) rfl) (evsC (d := .tup [oWeb x y, ls [0, 1, 3]]) (.inl rfl) (evTupC (evsC (.inl rfl) (mk_web (T := T_6) rfl rfl (evs2 rfl rfl) fx) (by kernel_rfl)) rfl) evsNil))) rfl
theorem l_4 {b c : Slot} : ev T_6 xp_law_4 [s, k, p, .own (.lst ((all18 x y).take 3)), .val x, .val y, b, c] = .ok (.lst ((all18 x y).take 6), .fresh, [s, k, p, .own (.lst ((all18 x y).take 3)), .val x, .val y, b, c]) := by
  obtain ⟨fx, _, _⟩ := good_parts hx
  obtain ⟨fy, _, _⟩ := good_parts hy
  unfold xp_law_4
  refine evBinB rfl (evLstC (evsC (d := .tup [oBook x y, ls [0, 1, 4]]) (.inl rfl) (evTupC (evsC (.inl rfl) (mk_book (T := T_6) rfl rfl (evs2 rfl rfl) fx fy) (by kernel_rfl)) rfl) (ds := [.tup [o1 "NoHeap" "who" x, ls [0, 1, 5]], .tup [o0 "NoText", ls [0, 1, 6]]]) (by kernel_rfl)) rfl) rfl ?_
  kernel_rfl
theorem l_5 {b c : Slot} (r : ISs) : execs T_6 [] (.cons (.set 3 xp_law_5) (.cons (.set 3 xp_law_6) (.cons (.set 3 xp_law_7) r))) [s, k, p, .own (.lst ((all18 x y).take 6)), .val x, .val y, b, c] =
    execs T_6 [] r [s, k, p, .own (.lst ((all18 x y).take 15)), .val x, .val y, b, c] := by kernel_rfl
theorem l_8 {b c : Slot} : ev T_6 xp_law_8 [s, k, p, .own (.lst ((all18 x y).take 15)), .val x, .val y, b, c] = .ok (.lst (all18 x y), .fresh, [s, k, p, .own (.lst ((all18 x y).take 15)), .val x, .val y, b, c]) := by
  obtain ⟨fx, _, _⟩ := good_parts hx
  unfold xp_law_8
  refine evBinB rfl (evLstC (evsC (d := .tup [o1 "Caused" "by" x, ls [17, 19]]) (m := .frz) (.inl rfl) (by kernel_rfl) (evsC (d := .tup [o0 "Unlike", ls [17, 20]]) (m := .frz) (.inl rfl) (by kernel_rfl) (evsC (d := .tup [oMany x, ls [21, 22]]) (.inl rfl) (evTupC (evsC (.inl rfl) (mk_many (T := T_6) rfl rfl (evs1 rfl) fx) (by kernel_rfl)) rfl) evsNil))) rfl) rfl ?_
  kernel_rfl
theorem l_9 {sa : Dat} {ka : Dat} {pa : Dat} {b c : Slot} (hb : b = .no ∨ ∃ d, b = .val d) (hc : c = .no ∨ ∃ d, c = .val d) : ev T_6 ic_law_2 [.val sa, .val ka, .own pa, .own (.lst (all18 x y)), .val x, .val y, b, c] = .ok (.bl false, .frz, [.val sa, .val ka, .own pa, .val (.lst (all18 x y)), .val x, .val y, b, c]) := by
  rcases hb with rfl | ⟨d, rfl⟩ <;> rcases hc with rfl | ⟨d', rfl⟩ <;> kernel_rfl
end
end K19
set_option Elab.async false
set_option linter.all false
set_option maxRecDepth 100000
set_option maxHeartbeats 4000000
namespace K19
open PySem Ev
def calmS (s : Slot) : Prop := s = .no ∨ ∃ d, s = .val d
theorem idx2 {x : Dat} {r q : Int} (hq : 0 ≤ q ∧ q < 2) : idxD (.lst [x, .int r]) (.int q) = some (if q = 0 then x else .int r) := by
  have : q = 0 ∨ q = 1 := by omega
  rcases this with rfl | rfl <;> rfl
theorem par_ev {ns : List Int} {k : Dat} {a b : Int} {s3 s4 s5 s6 s7 : Slot} : ∃ (x y : Dat) (a' b' : Int), good x = true ∧ good y = true ∧
    evs T_6 (.cons (.call (Str.ofString "_law_odd") (.cons (.var 2) .nil)) (.cons (.idx (.lst (.cons (.call (Str.ofString "_law_odd") (.cons (.var 2) .nil)) (.cons (.call (Str.ofString "_law_take") (.cons (.var 2) (.cons (.bin .Pow (.cst (.int 10)) (.cst (.int 9))) .nil))) .nil))) (.call (Str.ofString "_law_take") (.cons (.var 2) (.cons (.cst (.int 2)) .nil)))) .nil)) [.val (.scr ns), .val k, .own (pot a b), s3, s4, s5, s6, s7] = .ok ([x, y], [.val (.scr ns), .val k, .own (pot a' b'), s3, s4, s5, s6, s7]) := by
  obtain ⟨x, a1, b1, hx, h1⟩ := run_odd a b
  obtain ⟨x2, a2, b2, hx2, h2⟩ := run_odd a1 b1
  obtain ⟨r, a3, b3, hr, h3⟩ := takeC (T := T_6) (i := 2) (e := .bin .Pow (.cst (.int 10)) (.cst (.int 9))) (m := 1000000000) (ρ := [.val (.scr ns), .val k, .own (pot a2 b2), s3, s4, s5, s6, s7]) rfl rfl (by kernel_rfl) (by decide)
  obtain ⟨q, a4, b4, hq, h4⟩ := takeK (T := T_6) (i := 2) (ρ := [.val (.scr ns), .val k, .own (pot a3 b3), s3, s4, s5, s6, s7]) 2 rfl rfl (by decide)
  refine ⟨x, if q = 0 then x2 else .int r, a4, b4, odds_good x hx, ?_, ?_⟩
  · split
    · exact odds_good x2 hx2
    · exact good_int hr
  · refine evsCons (.inl rfl) (callP1 rfl rfl rfl h1) (evsCons (.inl rfl) (evIdx (evLst (evsCons (.inl rfl) (callP1 rfl rfl rfl h2) (evsCons (.inl rfl) h3 evsNil)) rfl) (.inr rfl) h4 (idx2 hq)) evsNil)
theorem turn (ns : List Int) (k : Nat) (s1 s2 s3 s4 s5 s6 s7 : Slot) (h6 : calmS s6) (h7 : calmS s7) : ∃ t2 t3 t4 t5, turnOf (execs T_6 [] lp_law_1) 1 (.int k) [.val (.scr ns), s1, s2, s3, s4, s5, s6, s7] = .ok (.nx [.val (.scr ns), .val (.int k), t2, t3, t4, t5, s6, s7]) := by
  obtain ⟨a, b, hp⟩ := run_pot ns k
  obtain ⟨x, y, a', b', hx, hy, he⟩ := par_ev (ns := ns) (k := .int k) (a := a) (b := b) (s3 := s3) (s4 := s4) (s5 := s5) (s6 := s6) (s7 := s7)
  refine ⟨.own (pot a' b'), .val (.lst (all18 x y)), .val x, .val y, ?_⟩
  show execs T_6 [] lp_law_1 [.val (.scr ns), .val (.int k), s2, s3, s4, s5, s6, s7] = _
  unfold lp_law_1
  have c1 : ev T_6 xp_law_1 [.val (.scr ns), .val (.int k), s2, s3, s4, s5, s6, s7] = .ok (pot a b, .fresh, [.val (.scr ns), .val (.int k), s2, s3, s4, s5, s6, s7]) := call2 rfl rfl (evVar rfl) (evVar rfl) hp
  rw [rSet (by decide) c1]
  show Ev.execs T_6 [] _ [.val (.scr ns), .val (.int k), .own (pot a b), s3, s4, s5, s6, s7] = _
  rw [rPar rfl he rfl]
  show Ev.execs T_6 [] _ [.val (.scr ns), .val (.int k), .own (pot a' b'), s3, .val x, .val y, s6, s7] = _
  have c2 : ev T_6 ic_law_1 [.val (.scr ns), .val (.int k), .own (pot a' b'), s3, .val x, .val y, s6, s7] = .ok (.bl false, .frz, [.val (.scr ns), .val (.int k), .own (pot a' b'), s3, .val x, .val y, s6, s7]) :=
    evNot (b := true) (call2 rfl rfl (evVar rfl) (evVar rfl) (run_fields hx hy))
  rw [rIteF c2, rSet (by decide) (l_3 hx hy)]
  show Ev.execs T_6 [] _ [.val (.scr ns), .val (.int k), .own (pot a' b'), .own (.lst ((all18 x y).take 3)), .val x, .val y, s6, s7] = _
  rw [rSet (by decide) (l_4 hx hy)]
  show Ev.execs T_6 [] _ [.val (.scr ns), .val (.int k), .own (pot a' b'), .own (.lst ((all18 x y).take 6)), .val x, .val y, s6, s7] = _
  rw [l_5 hx hy, rSet (by decide) (l_8 hx hy)]
  show Ev.execs T_6 [] _ [.val (.scr ns), .val (.int k), .own (pot a' b'), .own (.lst (all18 x y)), .val x, .val y, s6, s7] = _
  rw [rIteF (l_9 hx hy h6 h7), Ev.execs]
theorem all_turns (ns : List Int) (s6 s7 : Slot) (h6 : calmS s6) (h7 : calmS s7) : ∀ (xs : List Nat) (s1 s2 s3 s4 s5 : Slot), ∃ t1 t2 t3 t4 t5, loop (turnOf (execs T_6 [] lp_law_1) 1) (xs.map fun (k : Nat) => .int (k : Int)) [.val (.scr ns), s1, s2, s3, s4, s5, s6, s7] = .ok (.nx [.val (.scr ns), t1, t2, t3, t4, t5, s6, s7])
  | [], s1, s2, s3, s4, s5 => ⟨s1, s2, s3, s4, s5, rfl⟩
  | k :: xs, s1, s2, s3, s4, s5 => by
    obtain ⟨t2, t3, t4, t5, h⟩ := turn ns k s1 s2 s3 s4 s5 s6 s7 h6 h7
    obtain ⟨u1, u2, u3, u4, u5, h'⟩ := all_turns ns s6 s7 h6 h7 xs (.val (.int k)) t2 t3 t4 t5
    refine ⟨u1, u2, u3, u4, u5, ?_⟩
    rw [List.map_cons, loop, h, bindOk]
    exact h'
theorem law_true : ∀ ns : List Int, ns.length ≤ 63 → fi_law.run [.scr ns] = .ok (.bl true, false, []) := by
  intro ns hn
  obtain ⟨t1, t2, t3, t4, t5, h⟩ := all_turns ns .no .no (.inl rfl) (.inl rfl) (List.range (max 1 (min 4 ns.length))) .no .no .no .no .no
  refine rOf (ρ0 := [.val (.scr ns), .no, .no, .no, .no, .no, .no, .no]) (ρ := [.val (.scr ns), t1, t2, t3, t4, t5, .no, .no]) rfl rfl ?_ rfl
  show Ev.execs T_6 [] bd_law _ = _
  unfold bd_law rl_law_1
  have hc : ev T_6 (.bi .max (.cons (.cst (.int 1)) (.cons (.bi .min (.cons (.cst (.int 4)) (.cons (.bi .len (.cons (.var 0) .nil)) .nil))) .nil))) [.val (.scr ns), .no, .no, .no, .no, .no, .no, .no] = .ok (.int ((max 1 (min 4 ns.length) : Nat) : Int), .frz, [.val (.scr ns), .no, .no, .no, .no, .no, .no, .no]) := by
    have h4 : (if (ns.length : Int) < 4 then (ns.length : Int) else 4) = ((min 4 ns.length : Nat) : Int) := by split <;> omega
    have h1 : (if ((min 4 ns.length : Nat) : Int) > 1 then ((min 4 ns.length : Nat) : Int) else 1) = ((max 1 (min 4 ns.length) : Nat) : Int) := by split <;> omega
    have e2 : biD .min [.int 4, .int (ns.length : Int)] = some (.int ((min 4 ns.length : Nat) : Int), .frz) := by
      show some (Dat.int (if (ns.length : Int) < 4 then (ns.length : Int) else 4), Mode.frz) = _
      rw [h4]
    have e3 : biD .max [.int 1, .int ((min 4 ns.length : Nat) : Int)] = some (.int ((max 1 (min 4 ns.length) : Nat) : Int), .frz) := by
      show some (Dat.int (if ((min 4 ns.length : Nat) : Int) > 1 then ((min 4 ns.length : Nat) : Int) else 1), Mode.frz) = _
      rw [h1]
    exact evBi2 evCst (evBi2 evCst (evBi1 (evVar rfl) rfl) e2) e3
  rw [rForR (by decide) hc (by omega), h, bindOk]
  exact rRet evCst
end K19
set_option Elab.async false
set_option linter.all false
set_option maxRecDepth 100000
set_option maxHeartbeats 8000000
namespace K19
open PySem PySem.Spec PyProof.Rows L2 Ev
theorem kw__law_pot : T_0.kw (Str.ofString "_law_pot") = none := by rfl
theorem kw__law_take : T_1.kw (Str.ofString "_law_take") = none := by rfl
theorem kw__law_odd : T_2.kw (Str.ofString "_law_odd") = none := by rfl
theorem kw__law_under : T_3.kw (Str.ofString "_law_under") = none := by rfl
theorem kw__law_stands : T_4.kw (Str.ofString "_law_stands") = none := by rfl
theorem kw__law_fields_right : T_5.kw (Str.ofString "_law_fields_right") = none := by rfl
theorem kw_law : T_6.kw (Str.ofString "law") = none := by rfl
theorem all_mk {P : Program} {w : World} {K : PySem.W.Frag} {h : Heap} {mg : Str → Option Value} {fa f0 f1 f2 f3 f4 f5 f6 C_FacerError C_NoKinds C_NoWeb C_NoBook C_NoHeap C_NoText C_NoWish C_NoCount C_NoRow C_NoOne C_NoEnd C_NoKind C_NoRule C_NoSuch C_NoMeeting C_Caused C_Unlike C_TooMany I_NoKinds I_NoWeb I_NoBook I_NoHeap I_NoOne I_NoEnd I_NoKind I_NoRule I_NoSuch I_NoMeeting I_Caused I_TooMany : Addr} (X : K.In h) (G : h.Ns mainGlobals mg) (hfa : mg "law" = some (.ref fa))
    {nm_FacerError q_FacerError : Str} {S_FacerError : Addr} {bs_FacerError : List Value} {sn_FacerError : List Str} {sub_FacerError : List Value} {ab_FacerError : Bool} {col_FacerError : Option Bool} {dd_FacerError : Option Addr} {ka_FacerError kb_FacerError kc_FacerError kd_FacerError ke_FacerError : Option Value}
    {nm_NoKinds q_NoKinds : Str} {S_NoKinds : Addr} {bs_NoKinds : List Value} {sn_NoKinds : List Str} {sub_NoKinds : List Value} {ab_NoKinds : Bool} {col_NoKinds : Option Bool} {dd_NoKinds : Option Addr} {ka_NoKinds kb_NoKinds kc_NoKinds kd_NoKinds ke_NoKinds : Option Value}
    {od_NoKinds an_NoKinds : Option Addr} {sl_NoKinds : Array (Option Value)} {oc_NoKinds kV_NoKinds dc_NoKinds pm_NoKinds cd_NoKinds ct_NoKinds : Value}
    {nm_NoWeb q_NoWeb : Str} {S_NoWeb : Addr} {bs_NoWeb : List Value} {sn_NoWeb : List Str} {sub_NoWeb : List Value} {ab_NoWeb : Bool} {col_NoWeb : Option Bool} {dd_NoWeb : Option Addr} {ka_NoWeb kb_NoWeb kc_NoWeb kd_NoWeb ke_NoWeb : Option Value}
    {od_NoWeb an_NoWeb : Option Addr} {sl_NoWeb : Array (Option Value)} {oc_NoWeb kV_NoWeb dc_NoWeb pm_NoWeb cd_NoWeb ct_NoWeb : Value}
    {nm_NoBook q_NoBook : Str} {S_NoBook : Addr} {bs_NoBook : List Value} {sn_NoBook : List Str} {sub_NoBook : List Value} {ab_NoBook : Bool} {col_NoBook : Option Bool} {dd_NoBook : Option Addr} {ka_NoBook kb_NoBook kc_NoBook kd_NoBook ke_NoBook : Option Value}
    {od_NoBook an_NoBook : Option Addr} {sl_NoBook : Array (Option Value)} {oc_NoBook kV_NoBook dc_NoBook pm_NoBook cd_NoBook ct_NoBook : Value}
    {nm_NoHeap q_NoHeap : Str} {S_NoHeap : Addr} {bs_NoHeap : List Value} {sn_NoHeap : List Str} {sub_NoHeap : List Value} {ab_NoHeap : Bool} {col_NoHeap : Option Bool} {dd_NoHeap : Option Addr} {ka_NoHeap kb_NoHeap kc_NoHeap kd_NoHeap ke_NoHeap : Option Value}
    {od_NoHeap an_NoHeap : Option Addr} {sl_NoHeap : Array (Option Value)} {oc_NoHeap kV_NoHeap dc_NoHeap pm_NoHeap cd_NoHeap ct_NoHeap : Value}
    {nm_NoText q_NoText : Str} {S_NoText : Addr} {bs_NoText : List Value} {sn_NoText : List Str} {sub_NoText : List Value} {ab_NoText : Bool} {col_NoText : Option Bool} {dd_NoText : Option Addr} {ka_NoText kb_NoText kc_NoText kd_NoText ke_NoText : Option Value}
    {nm_NoWish q_NoWish : Str} {S_NoWish : Addr} {bs_NoWish : List Value} {sn_NoWish : List Str} {sub_NoWish : List Value} {ab_NoWish : Bool} {col_NoWish : Option Bool} {dd_NoWish : Option Addr} {ka_NoWish kb_NoWish kc_NoWish kd_NoWish ke_NoWish : Option Value}
    {nm_NoCount q_NoCount : Str} {S_NoCount : Addr} {bs_NoCount : List Value} {sn_NoCount : List Str} {sub_NoCount : List Value} {ab_NoCount : Bool} {col_NoCount : Option Bool} {dd_NoCount : Option Addr} {ka_NoCount kb_NoCount kc_NoCount kd_NoCount ke_NoCount : Option Value}
    {nm_NoRow q_NoRow : Str} {S_NoRow : Addr} {bs_NoRow : List Value} {sn_NoRow : List Str} {sub_NoRow : List Value} {ab_NoRow : Bool} {col_NoRow : Option Bool} {dd_NoRow : Option Addr} {ka_NoRow kb_NoRow kc_NoRow kd_NoRow ke_NoRow : Option Value}
    {nm_NoOne q_NoOne : Str} {S_NoOne : Addr} {bs_NoOne : List Value} {sn_NoOne : List Str} {sub_NoOne : List Value} {ab_NoOne : Bool} {col_NoOne : Option Bool} {dd_NoOne : Option Addr} {ka_NoOne kb_NoOne kc_NoOne kd_NoOne ke_NoOne : Option Value}
    {od_NoOne an_NoOne : Option Addr} {sl_NoOne : Array (Option Value)} {oc_NoOne kV_NoOne dc_NoOne pm_NoOne cd_NoOne ct_NoOne : Value}
    {nm_NoEnd q_NoEnd : Str} {S_NoEnd : Addr} {bs_NoEnd : List Value} {sn_NoEnd : List Str} {sub_NoEnd : List Value} {ab_NoEnd : Bool} {col_NoEnd : Option Bool} {dd_NoEnd : Option Addr} {ka_NoEnd kb_NoEnd kc_NoEnd kd_NoEnd ke_NoEnd : Option Value}
    {od_NoEnd an_NoEnd : Option Addr} {sl_NoEnd : Array (Option Value)} {oc_NoEnd kV_NoEnd dc_NoEnd pm_NoEnd cd_NoEnd ct_NoEnd : Value}
    {nm_NoKind q_NoKind : Str} {S_NoKind : Addr} {bs_NoKind : List Value} {sn_NoKind : List Str} {sub_NoKind : List Value} {ab_NoKind : Bool} {col_NoKind : Option Bool} {dd_NoKind : Option Addr} {ka_NoKind kb_NoKind kc_NoKind kd_NoKind ke_NoKind : Option Value}
    {od_NoKind an_NoKind : Option Addr} {sl_NoKind : Array (Option Value)} {oc_NoKind kV_NoKind dc_NoKind pm_NoKind cd_NoKind ct_NoKind : Value}
    {nm_NoRule q_NoRule : Str} {S_NoRule : Addr} {bs_NoRule : List Value} {sn_NoRule : List Str} {sub_NoRule : List Value} {ab_NoRule : Bool} {col_NoRule : Option Bool} {dd_NoRule : Option Addr} {ka_NoRule kb_NoRule kc_NoRule kd_NoRule ke_NoRule : Option Value}
    {od_NoRule an_NoRule : Option Addr} {sl_NoRule : Array (Option Value)} {oc_NoRule kV_NoRule dc_NoRule pm_NoRule cd_NoRule ct_NoRule : Value}
    {nm_NoSuch q_NoSuch : Str} {S_NoSuch : Addr} {bs_NoSuch : List Value} {sn_NoSuch : List Str} {sub_NoSuch : List Value} {ab_NoSuch : Bool} {col_NoSuch : Option Bool} {dd_NoSuch : Option Addr} {ka_NoSuch kb_NoSuch kc_NoSuch kd_NoSuch ke_NoSuch : Option Value}
    {od_NoSuch an_NoSuch : Option Addr} {sl_NoSuch : Array (Option Value)} {oc_NoSuch kV_NoSuch dc_NoSuch pm_NoSuch cd_NoSuch ct_NoSuch : Value}
    {nm_NoMeeting q_NoMeeting : Str} {S_NoMeeting : Addr} {bs_NoMeeting : List Value} {sn_NoMeeting : List Str} {sub_NoMeeting : List Value} {ab_NoMeeting : Bool} {col_NoMeeting : Option Bool} {dd_NoMeeting : Option Addr} {ka_NoMeeting kb_NoMeeting kc_NoMeeting kd_NoMeeting ke_NoMeeting : Option Value}
    {od_NoMeeting an_NoMeeting : Option Addr} {sl_NoMeeting : Array (Option Value)} {oc_NoMeeting kV_NoMeeting dc_NoMeeting pm_NoMeeting cd_NoMeeting ct_NoMeeting : Value}
    {nm_Caused q_Caused : Str} {S_Caused : Addr} {bs_Caused : List Value} {sn_Caused : List Str} {sub_Caused : List Value} {ab_Caused : Bool} {col_Caused : Option Bool} {dd_Caused : Option Addr} {ka_Caused kb_Caused kc_Caused kd_Caused ke_Caused : Option Value}
    {od_Caused an_Caused : Option Addr} {sl_Caused : Array (Option Value)} {oc_Caused kV_Caused dc_Caused pm_Caused cd_Caused ct_Caused : Value}
    {nm_Unlike q_Unlike : Str} {S_Unlike : Addr} {bs_Unlike : List Value} {sn_Unlike : List Str} {sub_Unlike : List Value} {ab_Unlike : Bool} {col_Unlike : Option Bool} {dd_Unlike : Option Addr} {ka_Unlike kb_Unlike kc_Unlike kd_Unlike ke_Unlike : Option Value}
    {nm_TooMany q_TooMany : Str} {S_TooMany : Addr} {bs_TooMany : List Value} {sn_TooMany : List Str} {sub_TooMany : List Value} {ab_TooMany : Bool} {col_TooMany : Option Bool} {dd_TooMany : Option Addr} {ka_TooMany kb_TooMany kc_TooMany kd_TooMany ke_TooMany : Option Value}
    {od_TooMany an_TooMany : Option Addr} {sl_TooMany : Array (Option Value)} {oc_TooMany kV_TooMany dc_TooMany pm_TooMany cd_TooMany ct_TooMany : Value}
    {od0 an0 : Option Addr} {sl0 : Array (Option Value)} {oc0 kV0 dc0 pm0 cd0 ct0 : Value}
    {od1 an1 : Option Addr} {sl1 : Array (Option Value)} {oc1 kV1 dc1 pm1 cd1 ct1 : Value}
    {od2 an2 : Option Addr} {sl2 : Array (Option Value)} {oc2 kV2 dc2 pm2 cd2 ct2 : Value}
    {od3 an3 : Option Addr} {sl3 : Array (Option Value)} {oc3 kV3 dc3 pm3 cd3 ct3 : Value}
    {od4 an4 : Option Addr} {sl4 : Array (Option Value)} {oc4 kV4 dc4 pm4 cd4 ct4 : Value}
    {od5 an5 : Option Addr} {sl5 : Array (Option Value)} {oc5 kV5 dc5 pm5 cd5 ct5 : Value}
    {od6 an6 : Option Addr} {sl6 : Array (Option Value)} {oc6 kV6 dc6 pm6 cd6 ct6 : Value}
    (n_FacerError : PySem.W.nsIn K mainGlobals "FacerError" = some (some (.ref C_FacerError)))
    (hd_FacerError : PySem.W.hasDictIn K C_FacerError = true)
    (ht_FacerError : PySem.W.typeIn K (.ref C_FacerError) = some (.type "type"))
    (hb_FacerError : PySem.W.subIn K (.ref C_FacerError) (.type "BaseException") = some true)
    (n_NoKinds : PySem.W.nsIn K mainGlobals "NoKinds" = some (some (.ref C_NoKinds)))
    (hd_NoKinds : PySem.W.hasDictIn K C_NoKinds = true)
    (ht_NoKinds : PySem.W.typeIn K (.ref C_NoKinds) = some (.type "type"))
    (hb_NoKinds : PySem.W.subIn K (.ref C_NoKinds) (.type "BaseException") = some true)
    (n_NoWeb : PySem.W.nsIn K mainGlobals "NoWeb" = some (some (.ref C_NoWeb)))
    (hd_NoWeb : PySem.W.hasDictIn K C_NoWeb = true)
    (ht_NoWeb : PySem.W.typeIn K (.ref C_NoWeb) = some (.type "type"))
    (hb_NoWeb : PySem.W.subIn K (.ref C_NoWeb) (.type "BaseException") = some true)
    (n_NoBook : PySem.W.nsIn K mainGlobals "NoBook" = some (some (.ref C_NoBook)))
    (hd_NoBook : PySem.W.hasDictIn K C_NoBook = true)
    (ht_NoBook : PySem.W.typeIn K (.ref C_NoBook) = some (.type "type"))
    (hb_NoBook : PySem.W.subIn K (.ref C_NoBook) (.type "BaseException") = some true)
    (n_NoHeap : PySem.W.nsIn K mainGlobals "NoHeap" = some (some (.ref C_NoHeap)))
    (hd_NoHeap : PySem.W.hasDictIn K C_NoHeap = true)
    (ht_NoHeap : PySem.W.typeIn K (.ref C_NoHeap) = some (.type "type"))
    (hb_NoHeap : PySem.W.subIn K (.ref C_NoHeap) (.type "BaseException") = some true)
    (n_NoText : PySem.W.nsIn K mainGlobals "NoText" = some (some (.ref C_NoText)))
    (hd_NoText : PySem.W.hasDictIn K C_NoText = true)
    (ht_NoText : PySem.W.typeIn K (.ref C_NoText) = some (.type "type"))
    (hb_NoText : PySem.W.subIn K (.ref C_NoText) (.type "BaseException") = some true)
    (n_NoWish : PySem.W.nsIn K mainGlobals "NoWish" = some (some (.ref C_NoWish)))
    (hd_NoWish : PySem.W.hasDictIn K C_NoWish = true)
    (ht_NoWish : PySem.W.typeIn K (.ref C_NoWish) = some (.type "type"))
    (hb_NoWish : PySem.W.subIn K (.ref C_NoWish) (.type "BaseException") = some true)
    (n_NoCount : PySem.W.nsIn K mainGlobals "NoCount" = some (some (.ref C_NoCount)))
    (hd_NoCount : PySem.W.hasDictIn K C_NoCount = true)
    (ht_NoCount : PySem.W.typeIn K (.ref C_NoCount) = some (.type "type"))
    (hb_NoCount : PySem.W.subIn K (.ref C_NoCount) (.type "BaseException") = some true)
    (n_NoRow : PySem.W.nsIn K mainGlobals "NoRow" = some (some (.ref C_NoRow)))
    (hd_NoRow : PySem.W.hasDictIn K C_NoRow = true)
    (ht_NoRow : PySem.W.typeIn K (.ref C_NoRow) = some (.type "type"))
    (hb_NoRow : PySem.W.subIn K (.ref C_NoRow) (.type "BaseException") = some true)
    (n_NoOne : PySem.W.nsIn K mainGlobals "NoOne" = some (some (.ref C_NoOne)))
    (hd_NoOne : PySem.W.hasDictIn K C_NoOne = true)
    (ht_NoOne : PySem.W.typeIn K (.ref C_NoOne) = some (.type "type"))
    (hb_NoOne : PySem.W.subIn K (.ref C_NoOne) (.type "BaseException") = some true)
    (n_NoEnd : PySem.W.nsIn K mainGlobals "NoEnd" = some (some (.ref C_NoEnd)))
    (hd_NoEnd : PySem.W.hasDictIn K C_NoEnd = true)
    (ht_NoEnd : PySem.W.typeIn K (.ref C_NoEnd) = some (.type "type"))
    (hb_NoEnd : PySem.W.subIn K (.ref C_NoEnd) (.type "BaseException") = some true)
    (n_NoKind : PySem.W.nsIn K mainGlobals "NoKind" = some (some (.ref C_NoKind)))
    (hd_NoKind : PySem.W.hasDictIn K C_NoKind = true)
    (ht_NoKind : PySem.W.typeIn K (.ref C_NoKind) = some (.type "type"))
    (hb_NoKind : PySem.W.subIn K (.ref C_NoKind) (.type "BaseException") = some true)
    (n_NoRule : PySem.W.nsIn K mainGlobals "NoRule" = some (some (.ref C_NoRule)))
    (hd_NoRule : PySem.W.hasDictIn K C_NoRule = true)
    (ht_NoRule : PySem.W.typeIn K (.ref C_NoRule) = some (.type "type"))
    (hb_NoRule : PySem.W.subIn K (.ref C_NoRule) (.type "BaseException") = some true)
    (n_NoSuch : PySem.W.nsIn K mainGlobals "NoSuch" = some (some (.ref C_NoSuch)))
    (hd_NoSuch : PySem.W.hasDictIn K C_NoSuch = true)
    (ht_NoSuch : PySem.W.typeIn K (.ref C_NoSuch) = some (.type "type"))
    (hb_NoSuch : PySem.W.subIn K (.ref C_NoSuch) (.type "BaseException") = some true)
    (n_NoMeeting : PySem.W.nsIn K mainGlobals "NoMeeting" = some (some (.ref C_NoMeeting)))
    (hd_NoMeeting : PySem.W.hasDictIn K C_NoMeeting = true)
    (ht_NoMeeting : PySem.W.typeIn K (.ref C_NoMeeting) = some (.type "type"))
    (hb_NoMeeting : PySem.W.subIn K (.ref C_NoMeeting) (.type "BaseException") = some true)
    (n_Caused : PySem.W.nsIn K mainGlobals "Caused" = some (some (.ref C_Caused)))
    (hd_Caused : PySem.W.hasDictIn K C_Caused = true)
    (ht_Caused : PySem.W.typeIn K (.ref C_Caused) = some (.type "type"))
    (hb_Caused : PySem.W.subIn K (.ref C_Caused) (.type "BaseException") = some true)
    (n_Unlike : PySem.W.nsIn K mainGlobals "Unlike" = some (some (.ref C_Unlike)))
    (hd_Unlike : PySem.W.hasDictIn K C_Unlike = true)
    (ht_Unlike : PySem.W.typeIn K (.ref C_Unlike) = some (.type "type"))
    (hb_Unlike : PySem.W.subIn K (.ref C_Unlike) (.type "BaseException") = some true)
    (n_TooMany : PySem.W.nsIn K mainGlobals "TooMany" = some (some (.ref C_TooMany)))
    (hd_TooMany : PySem.W.hasDictIn K C_TooMany = true)
    (ht_TooMany : PySem.W.typeIn K (.ref C_TooMany) = some (.type "type"))
    (hb_TooMany : PySem.W.subIn K (.ref C_TooMany) (.type "BaseException") = some true)
    (ga_FacerError : PySem.W.findIn K (.ref C_FacerError) "__getattribute__" = some (some (.builtin "BaseException.__getattribute__")))
    (gt_FacerError : PySem.W.findIn K (.ref C_FacerError) "__getattr__" = some none)
    (gc_FacerError : PySem.W.findIn K (.ref C_FacerError) "__class__" = some (some (.builtin "object.__class__")))
    (hm_FacerError : PySem.W.mroIn K C_FacerError (.type "object") = some true)
    (kp_FacerError : PySem.W.keepIn K (.ref C_FacerError) = true)
    (xl_FacerError : K.lookup C_FacerError = some (excClassObj nm_FacerError q_FacerError C_FacerError S_FacerError bs_FacerError [.type "ValueError", .type "Exception", .type "BaseException", .type "object"] true sn_FacerError sub_FacerError ab_FacerError col_FacerError dd_FacerError ka_FacerError kb_FacerError kc_FacerError kd_FacerError ke_FacerError "ValueError.__new__"))
    (ex_FacerError : PySem.W.excIn K C_FacerError [.type "ValueError", .type "Exception", .type "BaseException", .type "object"] "ValueError.__new__" = true)
    (ga_NoKinds : PySem.W.findIn K (.ref C_NoKinds) "__getattribute__" = some (some (.builtin "BaseException.__getattribute__")))
    (gt_NoKinds : PySem.W.findIn K (.ref C_NoKinds) "__getattr__" = some none)
    (gc_NoKinds : PySem.W.findIn K (.ref C_NoKinds) "__class__" = some (some (.builtin "object.__class__")))
    (hm_NoKinds : PySem.W.mroIn K C_NoKinds (.type "object") = some true)
    (kp_NoKinds : PySem.W.keepIn K (.ref C_NoKinds) = true)
    (xl_NoKinds : K.lookup C_NoKinds = some (excClassObj nm_NoKinds q_NoKinds C_NoKinds S_NoKinds bs_NoKinds [.ref C_FacerError, .type "ValueError", .type "Exception", .type "BaseException", .type "object"] true sn_NoKinds sub_NoKinds ab_NoKinds col_NoKinds dd_NoKinds ka_NoKinds kb_NoKinds kc_NoKinds kd_NoKinds ke_NoKinds "ValueError.__new__"))
    (sa_NoKinds : PySem.W.findIn K (.ref C_NoKinds) "__setattr__" = some (some (.builtin "object.__setattr__")))
    (no_NoKinds_what : PySem.W.findIn K (.ref C_NoKinds) "what" = some none)
    (no_NoKinds_who : PySem.W.findIn K (.ref C_NoKinds) "who" = some none)
    (ia_NoKinds : PySem.W.findIn K (.ref C_NoKinds) "__init__" = some (some (.ref I_NoKinds)))
    (it_NoKinds : PySem.W.typeIn K (.ref I_NoKinds) = some (.type "function"))
    (il_NoKinds : K.lookup I_NoKinds = some ⟨oc_NoKinds, od_NoKinds, .func (PySem.W.fnOf "__init__" "NoKinds.__init__" (defArgs st_NoKinds) (defBody st_NoKinds) (defScope st_NoKinds) .none kV_NoKinds dc_NoKinds pm_NoKinds an_NoKinds cd_NoKinds ct_NoKinds), sl_NoKinds⟩)
    (ic_NoKinds : PySem.W.codeIn K cd_NoKinds "NoKinds.__init__" = true)
    (ik_NoKinds : PySem.W.keepIn K (.ref I_NoKinds) = true)
    (ga_NoWeb : PySem.W.findIn K (.ref C_NoWeb) "__getattribute__" = some (some (.builtin "BaseException.__getattribute__")))
    (gt_NoWeb : PySem.W.findIn K (.ref C_NoWeb) "__getattr__" = some none)
    (gc_NoWeb : PySem.W.findIn K (.ref C_NoWeb) "__class__" = some (some (.builtin "object.__class__")))
    (hm_NoWeb : PySem.W.mroIn K C_NoWeb (.type "object") = some true)
    (kp_NoWeb : PySem.W.keepIn K (.ref C_NoWeb) = true)
    (xl_NoWeb : K.lookup C_NoWeb = some (excClassObj nm_NoWeb q_NoWeb C_NoWeb S_NoWeb bs_NoWeb [.ref C_FacerError, .type "ValueError", .type "Exception", .type "BaseException", .type "object"] true sn_NoWeb sub_NoWeb ab_NoWeb col_NoWeb dd_NoWeb ka_NoWeb kb_NoWeb kc_NoWeb kd_NoWeb ke_NoWeb "ValueError.__new__"))
    (sa_NoWeb : PySem.W.findIn K (.ref C_NoWeb) "__setattr__" = some (some (.builtin "object.__setattr__")))
    (no_NoWeb_what : PySem.W.findIn K (.ref C_NoWeb) "what" = some none)
    (no_NoWeb_who : PySem.W.findIn K (.ref C_NoWeb) "who" = some none)
    (ia_NoWeb : PySem.W.findIn K (.ref C_NoWeb) "__init__" = some (some (.ref I_NoWeb)))
    (it_NoWeb : PySem.W.typeIn K (.ref I_NoWeb) = some (.type "function"))
    (il_NoWeb : K.lookup I_NoWeb = some ⟨oc_NoWeb, od_NoWeb, .func (PySem.W.fnOf "__init__" "NoWeb.__init__" (defArgs st_NoWeb) (defBody st_NoWeb) (defScope st_NoWeb) .none kV_NoWeb dc_NoWeb pm_NoWeb an_NoWeb cd_NoWeb ct_NoWeb), sl_NoWeb⟩)
    (ic_NoWeb : PySem.W.codeIn K cd_NoWeb "NoWeb.__init__" = true)
    (ik_NoWeb : PySem.W.keepIn K (.ref I_NoWeb) = true)
    (ga_NoBook : PySem.W.findIn K (.ref C_NoBook) "__getattribute__" = some (some (.builtin "BaseException.__getattribute__")))
    (gt_NoBook : PySem.W.findIn K (.ref C_NoBook) "__getattr__" = some none)
    (gc_NoBook : PySem.W.findIn K (.ref C_NoBook) "__class__" = some (some (.builtin "object.__class__")))
    (hm_NoBook : PySem.W.mroIn K C_NoBook (.type "object") = some true)
    (kp_NoBook : PySem.W.keepIn K (.ref C_NoBook) = true)
    (xl_NoBook : K.lookup C_NoBook = some (excClassObj nm_NoBook q_NoBook C_NoBook S_NoBook bs_NoBook [.ref C_FacerError, .type "ValueError", .type "Exception", .type "BaseException", .type "object"] true sn_NoBook sub_NoBook ab_NoBook col_NoBook dd_NoBook ka_NoBook kb_NoBook kc_NoBook kd_NoBook ke_NoBook "ValueError.__new__"))
    (sa_NoBook : PySem.W.findIn K (.ref C_NoBook) "__setattr__" = some (some (.builtin "object.__setattr__")))
    (no_NoBook_what : PySem.W.findIn K (.ref C_NoBook) "what" = some none)
    (no_NoBook_number : PySem.W.findIn K (.ref C_NoBook) "number" = some none)
    (ia_NoBook : PySem.W.findIn K (.ref C_NoBook) "__init__" = some (some (.ref I_NoBook)))
    (it_NoBook : PySem.W.typeIn K (.ref I_NoBook) = some (.type "function"))
    (il_NoBook : K.lookup I_NoBook = some ⟨oc_NoBook, od_NoBook, .func (PySem.W.fnOf "__init__" "NoBook.__init__" (defArgs st_NoBook) (defBody st_NoBook) (defScope st_NoBook) .none kV_NoBook dc_NoBook pm_NoBook an_NoBook cd_NoBook ct_NoBook), sl_NoBook⟩)
    (ic_NoBook : PySem.W.codeIn K cd_NoBook "NoBook.__init__" = true)
    (ik_NoBook : PySem.W.keepIn K (.ref I_NoBook) = true)
    (ga_NoHeap : PySem.W.findIn K (.ref C_NoHeap) "__getattribute__" = some (some (.builtin "BaseException.__getattribute__")))
    (gt_NoHeap : PySem.W.findIn K (.ref C_NoHeap) "__getattr__" = some none)
    (gc_NoHeap : PySem.W.findIn K (.ref C_NoHeap) "__class__" = some (some (.builtin "object.__class__")))
    (hm_NoHeap : PySem.W.mroIn K C_NoHeap (.type "object") = some true)
    (kp_NoHeap : PySem.W.keepIn K (.ref C_NoHeap) = true)
    (xl_NoHeap : K.lookup C_NoHeap = some (excClassObj nm_NoHeap q_NoHeap C_NoHeap S_NoHeap bs_NoHeap [.ref C_FacerError, .type "ValueError", .type "Exception", .type "BaseException", .type "object"] true sn_NoHeap sub_NoHeap ab_NoHeap col_NoHeap dd_NoHeap ka_NoHeap kb_NoHeap kc_NoHeap kd_NoHeap ke_NoHeap "ValueError.__new__"))
    (sa_NoHeap : PySem.W.findIn K (.ref C_NoHeap) "__setattr__" = some (some (.builtin "object.__setattr__")))
    (no_NoHeap_who : PySem.W.findIn K (.ref C_NoHeap) "who" = some none)
    (ia_NoHeap : PySem.W.findIn K (.ref C_NoHeap) "__init__" = some (some (.ref I_NoHeap)))
    (it_NoHeap : PySem.W.typeIn K (.ref I_NoHeap) = some (.type "function"))
    (il_NoHeap : K.lookup I_NoHeap = some ⟨oc_NoHeap, od_NoHeap, .func (PySem.W.fnOf "__init__" "NoHeap.__init__" (defArgs st_NoHeap) (defBody st_NoHeap) (defScope st_NoHeap) .none kV_NoHeap dc_NoHeap pm_NoHeap an_NoHeap cd_NoHeap ct_NoHeap), sl_NoHeap⟩)
    (ic_NoHeap : PySem.W.codeIn K cd_NoHeap "NoHeap.__init__" = true)
    (ik_NoHeap : PySem.W.keepIn K (.ref I_NoHeap) = true)
    (ga_NoText : PySem.W.findIn K (.ref C_NoText) "__getattribute__" = some (some (.builtin "BaseException.__getattribute__")))
    (gt_NoText : PySem.W.findIn K (.ref C_NoText) "__getattr__" = some none)
    (gc_NoText : PySem.W.findIn K (.ref C_NoText) "__class__" = some (some (.builtin "object.__class__")))
    (hm_NoText : PySem.W.mroIn K C_NoText (.type "object") = some true)
    (kp_NoText : PySem.W.keepIn K (.ref C_NoText) = true)
    (xl_NoText : K.lookup C_NoText = some (excClassObj nm_NoText q_NoText C_NoText S_NoText bs_NoText [.ref C_FacerError, .type "ValueError", .type "Exception", .type "BaseException", .type "object"] true sn_NoText sub_NoText ab_NoText col_NoText dd_NoText ka_NoText kb_NoText kc_NoText kd_NoText ke_NoText "ValueError.__new__"))
    (ex_NoText : PySem.W.excIn K C_NoText [.type "ValueError", .type "Exception", .type "BaseException", .type "object"] "ValueError.__new__" = true)
    (ga_NoWish : PySem.W.findIn K (.ref C_NoWish) "__getattribute__" = some (some (.builtin "BaseException.__getattribute__")))
    (gt_NoWish : PySem.W.findIn K (.ref C_NoWish) "__getattr__" = some none)
    (gc_NoWish : PySem.W.findIn K (.ref C_NoWish) "__class__" = some (some (.builtin "object.__class__")))
    (hm_NoWish : PySem.W.mroIn K C_NoWish (.type "object") = some true)
    (kp_NoWish : PySem.W.keepIn K (.ref C_NoWish) = true)
    (xl_NoWish : K.lookup C_NoWish = some (excClassObj nm_NoWish q_NoWish C_NoWish S_NoWish bs_NoWish [.ref C_FacerError, .type "ValueError", .type "Exception", .type "BaseException", .type "object"] true sn_NoWish sub_NoWish ab_NoWish col_NoWish dd_NoWish ka_NoWish kb_NoWish kc_NoWish kd_NoWish ke_NoWish "ValueError.__new__"))
    (ex_NoWish : PySem.W.excIn K C_NoWish [.type "ValueError", .type "Exception", .type "BaseException", .type "object"] "ValueError.__new__" = true)
    (ga_NoCount : PySem.W.findIn K (.ref C_NoCount) "__getattribute__" = some (some (.builtin "BaseException.__getattribute__")))
    (gt_NoCount : PySem.W.findIn K (.ref C_NoCount) "__getattr__" = some none)
    (gc_NoCount : PySem.W.findIn K (.ref C_NoCount) "__class__" = some (some (.builtin "object.__class__")))
    (hm_NoCount : PySem.W.mroIn K C_NoCount (.type "object") = some true)
    (kp_NoCount : PySem.W.keepIn K (.ref C_NoCount) = true)
    (xl_NoCount : K.lookup C_NoCount = some (excClassObj nm_NoCount q_NoCount C_NoCount S_NoCount bs_NoCount [.ref C_FacerError, .type "ValueError", .type "Exception", .type "BaseException", .type "object"] true sn_NoCount sub_NoCount ab_NoCount col_NoCount dd_NoCount ka_NoCount kb_NoCount kc_NoCount kd_NoCount ke_NoCount "ValueError.__new__"))
    (ex_NoCount : PySem.W.excIn K C_NoCount [.type "ValueError", .type "Exception", .type "BaseException", .type "object"] "ValueError.__new__" = true)
    (ga_NoRow : PySem.W.findIn K (.ref C_NoRow) "__getattribute__" = some (some (.builtin "BaseException.__getattribute__")))
    (gt_NoRow : PySem.W.findIn K (.ref C_NoRow) "__getattr__" = some none)
    (gc_NoRow : PySem.W.findIn K (.ref C_NoRow) "__class__" = some (some (.builtin "object.__class__")))
    (hm_NoRow : PySem.W.mroIn K C_NoRow (.type "object") = some true)
    (kp_NoRow : PySem.W.keepIn K (.ref C_NoRow) = true)
    (xl_NoRow : K.lookup C_NoRow = some (excClassObj nm_NoRow q_NoRow C_NoRow S_NoRow bs_NoRow [.ref C_FacerError, .type "ValueError", .type "Exception", .type "BaseException", .type "object"] true sn_NoRow sub_NoRow ab_NoRow col_NoRow dd_NoRow ka_NoRow kb_NoRow kc_NoRow kd_NoRow ke_NoRow "ValueError.__new__"))
    (ex_NoRow : PySem.W.excIn K C_NoRow [.type "ValueError", .type "Exception", .type "BaseException", .type "object"] "ValueError.__new__" = true)
    (ga_NoOne : PySem.W.findIn K (.ref C_NoOne) "__getattribute__" = some (some (.builtin "BaseException.__getattribute__")))
    (gt_NoOne : PySem.W.findIn K (.ref C_NoOne) "__getattr__" = some none)
    (gc_NoOne : PySem.W.findIn K (.ref C_NoOne) "__class__" = some (some (.builtin "object.__class__")))
    (hm_NoOne : PySem.W.mroIn K C_NoOne (.type "object") = some true)
    (kp_NoOne : PySem.W.keepIn K (.ref C_NoOne) = true)
    (xl_NoOne : K.lookup C_NoOne = some (excClassObj nm_NoOne q_NoOne C_NoOne S_NoOne bs_NoOne [.type "LookupError", .type "Exception", .type "BaseException", .type "object"] true sn_NoOne sub_NoOne ab_NoOne col_NoOne dd_NoOne ka_NoOne kb_NoOne kc_NoOne kd_NoOne ke_NoOne "LookupError.__new__"))
    (sa_NoOne : PySem.W.findIn K (.ref C_NoOne) "__setattr__" = some (some (.builtin "object.__setattr__")))
    (no_NoOne_who : PySem.W.findIn K (.ref C_NoOne) "who" = some none)
    (ia_NoOne : PySem.W.findIn K (.ref C_NoOne) "__init__" = some (some (.ref I_NoOne)))
    (it_NoOne : PySem.W.typeIn K (.ref I_NoOne) = some (.type "function"))
    (il_NoOne : K.lookup I_NoOne = some ⟨oc_NoOne, od_NoOne, .func (PySem.W.fnOf "__init__" "NoOne.__init__" (defArgs st_NoOne) (defBody st_NoOne) (defScope st_NoOne) .none kV_NoOne dc_NoOne pm_NoOne an_NoOne cd_NoOne ct_NoOne), sl_NoOne⟩)
    (ic_NoOne : PySem.W.codeIn K cd_NoOne "NoOne.__init__" = true)
    (ik_NoOne : PySem.W.keepIn K (.ref I_NoOne) = true)
    (ga_NoEnd : PySem.W.findIn K (.ref C_NoEnd) "__getattribute__" = some (some (.builtin "BaseException.__getattribute__")))
    (gt_NoEnd : PySem.W.findIn K (.ref C_NoEnd) "__getattr__" = some none)
    (gc_NoEnd : PySem.W.findIn K (.ref C_NoEnd) "__class__" = some (some (.builtin "object.__class__")))
    (hm_NoEnd : PySem.W.mroIn K C_NoEnd (.type "object") = some true)
    (kp_NoEnd : PySem.W.keepIn K (.ref C_NoEnd) = true)
    (xl_NoEnd : K.lookup C_NoEnd = some (excClassObj nm_NoEnd q_NoEnd C_NoEnd S_NoEnd bs_NoEnd [.type "LookupError", .type "Exception", .type "BaseException", .type "object"] true sn_NoEnd sub_NoEnd ab_NoEnd col_NoEnd dd_NoEnd ka_NoEnd kb_NoEnd kc_NoEnd kd_NoEnd ke_NoEnd "LookupError.__new__"))
    (sa_NoEnd : PySem.W.findIn K (.ref C_NoEnd) "__setattr__" = some (some (.builtin "object.__setattr__")))
    (no_NoEnd_end : PySem.W.findIn K (.ref C_NoEnd) "end" = some none)
    (ia_NoEnd : PySem.W.findIn K (.ref C_NoEnd) "__init__" = some (some (.ref I_NoEnd)))
    (it_NoEnd : PySem.W.typeIn K (.ref I_NoEnd) = some (.type "function"))
    (il_NoEnd : K.lookup I_NoEnd = some ⟨oc_NoEnd, od_NoEnd, .func (PySem.W.fnOf "__init__" "NoEnd.__init__" (defArgs st_NoEnd) (defBody st_NoEnd) (defScope st_NoEnd) .none kV_NoEnd dc_NoEnd pm_NoEnd an_NoEnd cd_NoEnd ct_NoEnd), sl_NoEnd⟩)
    (ic_NoEnd : PySem.W.codeIn K cd_NoEnd "NoEnd.__init__" = true)
    (ik_NoEnd : PySem.W.keepIn K (.ref I_NoEnd) = true)
    (ga_NoKind : PySem.W.findIn K (.ref C_NoKind) "__getattribute__" = some (some (.builtin "BaseException.__getattribute__")))
    (gt_NoKind : PySem.W.findIn K (.ref C_NoKind) "__getattr__" = some none)
    (gc_NoKind : PySem.W.findIn K (.ref C_NoKind) "__class__" = some (some (.builtin "object.__class__")))
    (hm_NoKind : PySem.W.mroIn K C_NoKind (.type "object") = some true)
    (kp_NoKind : PySem.W.keepIn K (.ref C_NoKind) = true)
    (xl_NoKind : K.lookup C_NoKind = some (excClassObj nm_NoKind q_NoKind C_NoKind S_NoKind bs_NoKind [.type "KeyError", .type "LookupError", .type "Exception", .type "BaseException", .type "object"] true sn_NoKind sub_NoKind ab_NoKind col_NoKind dd_NoKind ka_NoKind kb_NoKind kc_NoKind kd_NoKind ke_NoKind "LookupError.__new__"))
    (sa_NoKind : PySem.W.findIn K (.ref C_NoKind) "__setattr__" = some (some (.builtin "object.__setattr__")))
    (no_NoKind_word : PySem.W.findIn K (.ref C_NoKind) "word" = some none)
    (ia_NoKind : PySem.W.findIn K (.ref C_NoKind) "__init__" = some (some (.ref I_NoKind)))
    (it_NoKind : PySem.W.typeIn K (.ref I_NoKind) = some (.type "function"))
    (il_NoKind : K.lookup I_NoKind = some ⟨oc_NoKind, od_NoKind, .func (PySem.W.fnOf "__init__" "NoKind.__init__" (defArgs st_NoKind) (defBody st_NoKind) (defScope st_NoKind) .none kV_NoKind dc_NoKind pm_NoKind an_NoKind cd_NoKind ct_NoKind), sl_NoKind⟩)
    (ic_NoKind : PySem.W.codeIn K cd_NoKind "NoKind.__init__" = true)
    (ik_NoKind : PySem.W.keepIn K (.ref I_NoKind) = true)
    (ga_NoRule : PySem.W.findIn K (.ref C_NoRule) "__getattribute__" = some (some (.builtin "BaseException.__getattribute__")))
    (gt_NoRule : PySem.W.findIn K (.ref C_NoRule) "__getattr__" = some none)
    (gc_NoRule : PySem.W.findIn K (.ref C_NoRule) "__class__" = some (some (.builtin "object.__class__")))
    (hm_NoRule : PySem.W.mroIn K C_NoRule (.type "object") = some true)
    (kp_NoRule : PySem.W.keepIn K (.ref C_NoRule) = true)
    (xl_NoRule : K.lookup C_NoRule = some (excClassObj nm_NoRule q_NoRule C_NoRule S_NoRule bs_NoRule [.type "KeyError", .type "LookupError", .type "Exception", .type "BaseException", .type "object"] true sn_NoRule sub_NoRule ab_NoRule col_NoRule dd_NoRule ka_NoRule kb_NoRule kc_NoRule kd_NoRule ke_NoRule "LookupError.__new__"))
    (sa_NoRule : PySem.W.findIn K (.ref C_NoRule) "__setattr__" = some (some (.builtin "object.__setattr__")))
    (no_NoRule_pair : PySem.W.findIn K (.ref C_NoRule) "pair" = some none)
    (ia_NoRule : PySem.W.findIn K (.ref C_NoRule) "__init__" = some (some (.ref I_NoRule)))
    (it_NoRule : PySem.W.typeIn K (.ref I_NoRule) = some (.type "function"))
    (il_NoRule : K.lookup I_NoRule = some ⟨oc_NoRule, od_NoRule, .func (PySem.W.fnOf "__init__" "NoRule.__init__" (defArgs st_NoRule) (defBody st_NoRule) (defScope st_NoRule) .none kV_NoRule dc_NoRule pm_NoRule an_NoRule cd_NoRule ct_NoRule), sl_NoRule⟩)
    (ic_NoRule : PySem.W.codeIn K cd_NoRule "NoRule.__init__" = true)
    (ik_NoRule : PySem.W.keepIn K (.ref I_NoRule) = true)
    (ga_NoSuch : PySem.W.findIn K (.ref C_NoSuch) "__getattribute__" = some (some (.builtin "BaseException.__getattribute__")))
    (gt_NoSuch : PySem.W.findIn K (.ref C_NoSuch) "__getattr__" = some none)
    (gc_NoSuch : PySem.W.findIn K (.ref C_NoSuch) "__class__" = some (some (.builtin "object.__class__")))
    (hm_NoSuch : PySem.W.mroIn K C_NoSuch (.type "object") = some true)
    (kp_NoSuch : PySem.W.keepIn K (.ref C_NoSuch) = true)
    (xl_NoSuch : K.lookup C_NoSuch = some (excClassObj nm_NoSuch q_NoSuch C_NoSuch S_NoSuch bs_NoSuch [.type "KeyError", .type "LookupError", .type "Exception", .type "BaseException", .type "object"] true sn_NoSuch sub_NoSuch ab_NoSuch col_NoSuch dd_NoSuch ka_NoSuch kb_NoSuch kc_NoSuch kd_NoSuch ke_NoSuch "LookupError.__new__"))
    (sa_NoSuch : PySem.W.findIn K (.ref C_NoSuch) "__setattr__" = some (some (.builtin "object.__setattr__")))
    (no_NoSuch_who : PySem.W.findIn K (.ref C_NoSuch) "who" = some none)
    (ia_NoSuch : PySem.W.findIn K (.ref C_NoSuch) "__init__" = some (some (.ref I_NoSuch)))
    (it_NoSuch : PySem.W.typeIn K (.ref I_NoSuch) = some (.type "function"))
    (il_NoSuch : K.lookup I_NoSuch = some ⟨oc_NoSuch, od_NoSuch, .func (PySem.W.fnOf "__init__" "NoSuch.__init__" (defArgs st_NoSuch) (defBody st_NoSuch) (defScope st_NoSuch) .none kV_NoSuch dc_NoSuch pm_NoSuch an_NoSuch cd_NoSuch ct_NoSuch), sl_NoSuch⟩)
    (ic_NoSuch : PySem.W.codeIn K cd_NoSuch "NoSuch.__init__" = true)
    (ik_NoSuch : PySem.W.keepIn K (.ref I_NoSuch) = true)
    (ga_NoMeeting : PySem.W.findIn K (.ref C_NoMeeting) "__getattribute__" = some (some (.builtin "BaseException.__getattribute__")))
    (gt_NoMeeting : PySem.W.findIn K (.ref C_NoMeeting) "__getattr__" = some none)
    (gc_NoMeeting : PySem.W.findIn K (.ref C_NoMeeting) "__class__" = some (some (.builtin "object.__class__")))
    (hm_NoMeeting : PySem.W.mroIn K C_NoMeeting (.type "object") = some true)
    (kp_NoMeeting : PySem.W.keepIn K (.ref C_NoMeeting) = true)
    (xl_NoMeeting : K.lookup C_NoMeeting = some (excClassObj nm_NoMeeting q_NoMeeting C_NoMeeting S_NoMeeting bs_NoMeeting [.type "RuntimeError", .type "Exception", .type "BaseException", .type "object"] true sn_NoMeeting sub_NoMeeting ab_NoMeeting col_NoMeeting dd_NoMeeting ka_NoMeeting kb_NoMeeting kc_NoMeeting kd_NoMeeting ke_NoMeeting "RuntimeError.__new__"))
    (sa_NoMeeting : PySem.W.findIn K (.ref C_NoMeeting) "__setattr__" = some (some (.builtin "object.__setattr__")))
    (no_NoMeeting_who : PySem.W.findIn K (.ref C_NoMeeting) "who" = some none)
    (ia_NoMeeting : PySem.W.findIn K (.ref C_NoMeeting) "__init__" = some (some (.ref I_NoMeeting)))
    (it_NoMeeting : PySem.W.typeIn K (.ref I_NoMeeting) = some (.type "function"))
    (il_NoMeeting : K.lookup I_NoMeeting = some ⟨oc_NoMeeting, od_NoMeeting, .func (PySem.W.fnOf "__init__" "NoMeeting.__init__" (defArgs st_NoMeeting) (defBody st_NoMeeting) (defScope st_NoMeeting) .none kV_NoMeeting dc_NoMeeting pm_NoMeeting an_NoMeeting cd_NoMeeting ct_NoMeeting), sl_NoMeeting⟩)
    (ic_NoMeeting : PySem.W.codeIn K cd_NoMeeting "NoMeeting.__init__" = true)
    (ik_NoMeeting : PySem.W.keepIn K (.ref I_NoMeeting) = true)
    (ga_Caused : PySem.W.findIn K (.ref C_Caused) "__getattribute__" = some (some (.builtin "BaseException.__getattribute__")))
    (gt_Caused : PySem.W.findIn K (.ref C_Caused) "__getattr__" = some none)
    (gc_Caused : PySem.W.findIn K (.ref C_Caused) "__class__" = some (some (.builtin "object.__class__")))
    (hm_Caused : PySem.W.mroIn K C_Caused (.type "object") = some true)
    (kp_Caused : PySem.W.keepIn K (.ref C_Caused) = true)
    (xl_Caused : K.lookup C_Caused = some (excClassObj nm_Caused q_Caused C_Caused S_Caused bs_Caused [.type "RuntimeError", .type "Exception", .type "BaseException", .type "object"] true sn_Caused sub_Caused ab_Caused col_Caused dd_Caused ka_Caused kb_Caused kc_Caused kd_Caused ke_Caused "RuntimeError.__new__"))
    (sa_Caused : PySem.W.findIn K (.ref C_Caused) "__setattr__" = some (some (.builtin "object.__setattr__")))
    (no_Caused_by : PySem.W.findIn K (.ref C_Caused) "by" = some none)
    (ia_Caused : PySem.W.findIn K (.ref C_Caused) "__init__" = some (some (.ref I_Caused)))
    (it_Caused : PySem.W.typeIn K (.ref I_Caused) = some (.type "function"))
    (il_Caused : K.lookup I_Caused = some ⟨oc_Caused, od_Caused, .func (PySem.W.fnOf "__init__" "Caused.__init__" (defArgs st_Caused) (defBody st_Caused) (defScope st_Caused) .none kV_Caused dc_Caused pm_Caused an_Caused cd_Caused ct_Caused), sl_Caused⟩)
    (ic_Caused : PySem.W.codeIn K cd_Caused "Caused.__init__" = true)
    (ik_Caused : PySem.W.keepIn K (.ref I_Caused) = true)
    (ga_Unlike : PySem.W.findIn K (.ref C_Unlike) "__getattribute__" = some (some (.builtin "BaseException.__getattribute__")))
    (gt_Unlike : PySem.W.findIn K (.ref C_Unlike) "__getattr__" = some none)
    (gc_Unlike : PySem.W.findIn K (.ref C_Unlike) "__class__" = some (some (.builtin "object.__class__")))
    (hm_Unlike : PySem.W.mroIn K C_Unlike (.type "object") = some true)
    (kp_Unlike : PySem.W.keepIn K (.ref C_Unlike) = true)
    (xl_Unlike : K.lookup C_Unlike = some (excClassObj nm_Unlike q_Unlike C_Unlike S_Unlike bs_Unlike [.type "RuntimeError", .type "Exception", .type "BaseException", .type "object"] true sn_Unlike sub_Unlike ab_Unlike col_Unlike dd_Unlike ka_Unlike kb_Unlike kc_Unlike kd_Unlike ke_Unlike "RuntimeError.__new__"))
    (ex_Unlike : PySem.W.excIn K C_Unlike [.type "RuntimeError", .type "Exception", .type "BaseException", .type "object"] "RuntimeError.__new__" = true)
    (ga_TooMany : PySem.W.findIn K (.ref C_TooMany) "__getattribute__" = some (some (.builtin "BaseException.__getattribute__")))
    (gt_TooMany : PySem.W.findIn K (.ref C_TooMany) "__getattr__" = some none)
    (gc_TooMany : PySem.W.findIn K (.ref C_TooMany) "__class__" = some (some (.builtin "object.__class__")))
    (hm_TooMany : PySem.W.mroIn K C_TooMany (.type "object") = some true)
    (kp_TooMany : PySem.W.keepIn K (.ref C_TooMany) = true)
    (xl_TooMany : K.lookup C_TooMany = some (excClassObj nm_TooMany q_TooMany C_TooMany S_TooMany bs_TooMany [.type "ArithmeticError", .type "Exception", .type "BaseException", .type "object"] true sn_TooMany sub_TooMany ab_TooMany col_TooMany dd_TooMany ka_TooMany kb_TooMany kc_TooMany kd_TooMany ke_TooMany "ArithmeticError.__new__"))
    (sa_TooMany : PySem.W.findIn K (.ref C_TooMany) "__setattr__" = some (some (.builtin "object.__setattr__")))
    (no_TooMany_limit : PySem.W.findIn K (.ref C_TooMany) "limit" = some none)
    (ia_TooMany : PySem.W.findIn K (.ref C_TooMany) "__init__" = some (some (.ref I_TooMany)))
    (it_TooMany : PySem.W.typeIn K (.ref I_TooMany) = some (.type "function"))
    (il_TooMany : K.lookup I_TooMany = some ⟨oc_TooMany, od_TooMany, .func (PySem.W.fnOf "__init__" "TooMany.__init__" (defArgs st_TooMany) (defBody st_TooMany) (defScope st_TooMany) .none kV_TooMany dc_TooMany pm_TooMany an_TooMany cd_TooMany ct_TooMany), sl_TooMany⟩)
    (ic_TooMany : PySem.W.codeIn K cd_TooMany "TooMany.__init__" = true)
    (ik_TooMany : PySem.W.keepIn K (.ref I_TooMany) = true)
    (vi_ArithmeticError : PySem.W.findCls K (.type "ArithmeticError") (.type "type") "__init__" = some (.val (.builtin "ArithmeticError.__init__")))
    (vg_FacerError : PySem.W.specialIn K (.ref C_FacerError) "__getattribute__" = some (some (.builtin "type.__getattribute__")))
    (vr_FacerError : PySem.W.readsIn K C_FacerError (.type "type") = true)
    (vk_FacerError : PySem.W.keepIn K (.ref C_FacerError) = true)
    (vi_FacerError : PySem.W.findCls K (.ref C_FacerError) (.type "type") "__init__" = some (.val (.builtin "ValueError.__init__")))
    (vi_KeyError : PySem.W.findCls K (.type "KeyError") (.type "type") "__init__" = some (.val (.builtin "KeyError.__init__")))
    (vi_LookupError : PySem.W.findCls K (.type "LookupError") (.type "type") "__init__" = some (.val (.builtin "LookupError.__init__")))
    (vi_RuntimeError : PySem.W.findCls K (.type "RuntimeError") (.type "type") "__init__" = some (.val (.builtin "RuntimeError.__init__")))
    (be_ArithmeticError : PySem.W.subIn K (.type "ArithmeticError") (.type "BaseException") = some true)
    (be_IndexError : PySem.W.subIn K (.type "IndexError") (.type "BaseException") = some true)
    (be_KeyError : PySem.W.subIn K (.type "KeyError") (.type "BaseException") = some true)
    (be_LookupError : PySem.W.subIn K (.type "LookupError") (.type "BaseException") = some true)
    (be_RuntimeError : PySem.W.subIn K (.type "RuntimeError") (.type "BaseException") = some true)
    (be_ValueError : PySem.W.subIn K (.type "ValueError") (.type "BaseException") = some true)
    (be_ZeroDivisionError : PySem.W.subIn K (.type "ZeroDivisionError") (.type "BaseException") = some true)
    (sp_c : PySem.W.specialIn K (.builtin "object.__class__") "__get__" = some (some (.builtin "getset_descriptor.__get__")))
    (tk_c : PySem.W.takesIn K (.builtin "object.__class__") = some true)
    (sb_all : subOk [⟨(Str.ofString "FacerError"), C_FacerError, [.ref C_FacerError, .type "ValueError", .type "Exception", .type "BaseException", .type "object"], [(Str.ofString "FacerError"), (Str.ofString "ValueError")]⟩, ⟨(Str.ofString "NoKinds"), C_NoKinds, [.ref C_NoKinds, .ref C_FacerError, .type "ValueError", .type "Exception", .type "BaseException", .type "object"], [(Str.ofString "NoKinds"), (Str.ofString "FacerError"), (Str.ofString "ValueError")]⟩, ⟨(Str.ofString "NoWeb"), C_NoWeb, [.ref C_NoWeb, .ref C_FacerError, .type "ValueError", .type "Exception", .type "BaseException", .type "object"], [(Str.ofString "NoWeb"), (Str.ofString "FacerError"), (Str.ofString "ValueError")]⟩, ⟨(Str.ofString "NoBook"), C_NoBook, [.ref C_NoBook, .ref C_FacerError, .type "ValueError", .type "Exception", .type "BaseException", .type "object"], [(Str.ofString "NoBook"), (Str.ofString "FacerError"), (Str.ofString "ValueError")]⟩, ⟨(Str.ofString "NoHeap"), C_NoHeap, [.ref C_NoHeap, .ref C_FacerError, .type "ValueError", .type "Exception", .type "BaseException", .type "object"], [(Str.ofString "NoHeap"), (Str.ofString "FacerError"), (Str.ofString "ValueError")]⟩, ⟨(Str.ofString "NoText"), C_NoText, [.ref C_NoText, .ref C_FacerError, .type "ValueError", .type "Exception", .type "BaseException", .type "object"], [(Str.ofString "NoText"), (Str.ofString "FacerError"), (Str.ofString "ValueError")]⟩, ⟨(Str.ofString "NoWish"), C_NoWish, [.ref C_NoWish, .ref C_FacerError, .type "ValueError", .type "Exception", .type "BaseException", .type "object"], [(Str.ofString "NoWish"), (Str.ofString "FacerError"), (Str.ofString "ValueError")]⟩, ⟨(Str.ofString "NoCount"), C_NoCount, [.ref C_NoCount, .ref C_FacerError, .type "ValueError", .type "Exception", .type "BaseException", .type "object"], [(Str.ofString "NoCount"), (Str.ofString "FacerError"), (Str.ofString "ValueError")]⟩, ⟨(Str.ofString "NoRow"), C_NoRow, [.ref C_NoRow, .ref C_FacerError, .type "ValueError", .type "Exception", .type "BaseException", .type "object"], [(Str.ofString "NoRow"), (Str.ofString "FacerError"), (Str.ofString "ValueError")]⟩, ⟨(Str.ofString "NoOne"), C_NoOne, [.ref C_NoOne, .type "LookupError", .type "Exception", .type "BaseException", .type "object"], [(Str.ofString "NoOne"), (Str.ofString "LookupError")]⟩, ⟨(Str.ofString "NoEnd"), C_NoEnd, [.ref C_NoEnd, .type "LookupError", .type "Exception", .type "BaseException", .type "object"], [(Str.ofString "NoEnd"), (Str.ofString "LookupError")]⟩, ⟨(Str.ofString "NoKind"), C_NoKind, [.ref C_NoKind, .type "KeyError", .type "LookupError", .type "Exception", .type "BaseException", .type "object"], [(Str.ofString "NoKind"), (Str.ofString "KeyError"), (Str.ofString "LookupError")]⟩, ⟨(Str.ofString "NoRule"), C_NoRule, [.ref C_NoRule, .type "KeyError", .type "LookupError", .type "Exception", .type "BaseException", .type "object"], [(Str.ofString "NoRule"), (Str.ofString "KeyError"), (Str.ofString "LookupError")]⟩, ⟨(Str.ofString "NoSuch"), C_NoSuch, [.ref C_NoSuch, .type "KeyError", .type "LookupError", .type "Exception", .type "BaseException", .type "object"], [(Str.ofString "NoSuch"), (Str.ofString "KeyError"), (Str.ofString "LookupError")]⟩, ⟨(Str.ofString "NoMeeting"), C_NoMeeting, [.ref C_NoMeeting, .type "RuntimeError", .type "Exception", .type "BaseException", .type "object"], [(Str.ofString "NoMeeting"), (Str.ofString "RuntimeError")]⟩, ⟨(Str.ofString "Caused"), C_Caused, [.ref C_Caused, .type "RuntimeError", .type "Exception", .type "BaseException", .type "object"], [(Str.ofString "Caused"), (Str.ofString "RuntimeError")]⟩, ⟨(Str.ofString "Unlike"), C_Unlike, [.ref C_Unlike, .type "RuntimeError", .type "Exception", .type "BaseException", .type "object"], [(Str.ofString "Unlike"), (Str.ofString "RuntimeError")]⟩, ⟨(Str.ofString "TooMany"), C_TooMany, [.ref C_TooMany, .type "ArithmeticError", .type "Exception", .type "BaseException", .type "object"], [(Str.ofString "TooMany"), (Str.ofString "ArithmeticError")]⟩] [((Str.ofString "ArithmeticError"), .type "ArithmeticError"), ((Str.ofString "Caused"), .ref C_Caused), ((Str.ofString "FacerError"), .ref C_FacerError), ((Str.ofString "IndexError"), .type "IndexError"), ((Str.ofString "KeyError"), .type "KeyError"), ((Str.ofString "LookupError"), .type "LookupError"), ((Str.ofString "NoBook"), .ref C_NoBook), ((Str.ofString "NoCount"), .ref C_NoCount), ((Str.ofString "NoEnd"), .ref C_NoEnd), ((Str.ofString "NoHeap"), .ref C_NoHeap), ((Str.ofString "NoKind"), .ref C_NoKind), ((Str.ofString "NoKinds"), .ref C_NoKinds), ((Str.ofString "NoMeeting"), .ref C_NoMeeting), ((Str.ofString "NoOne"), .ref C_NoOne), ((Str.ofString "NoRow"), .ref C_NoRow), ((Str.ofString "NoRule"), .ref C_NoRule), ((Str.ofString "NoSuch"), .ref C_NoSuch), ((Str.ofString "NoText"), .ref C_NoText), ((Str.ofString "NoWeb"), .ref C_NoWeb), ((Str.ofString "NoWish"), .ref C_NoWish), ((Str.ofString "RuntimeError"), .type "RuntimeError"), ((Str.ofString "TooMany"), .ref C_TooMany), ((Str.ofString "Unlike"), .ref C_Unlike), ((Str.ofString "ValueError"), .type "ValueError"), ((Str.ofString "ZeroDivisionError"), .type "ZeroDivisionError")] = true)
    (a0 : PySem.W.nsIn K mainGlobals "_law_pot" = some (some (.ref f0)))
    (l0 : K.lookup f0 = some ⟨oc0, od0, .func (PySem.W.fnOf "_law_pot" "_law_pot" (defArgs st__law_pot) (defBody st__law_pot) (defScope st__law_pot) .none kV0 dc0 pm0 an0 cd0 ct0), sl0⟩)
    (c0 : PySem.W.codeIn K cd0 "_law_pot" = true)
    (k0 : PySem.W.keepIn K (.ref f0) = true)
    (a1 : PySem.W.nsIn K mainGlobals "_law_take" = some (some (.ref f1)))
    (l1 : K.lookup f1 = some ⟨oc1, od1, .func (PySem.W.fnOf "_law_take" "_law_take" (defArgs st__law_take) (defBody st__law_take) (defScope st__law_take) .none kV1 dc1 pm1 an1 cd1 ct1), sl1⟩)
    (c1 : PySem.W.codeIn K cd1 "_law_take" = true)
    (k1 : PySem.W.keepIn K (.ref f1) = true)
    (a2 : PySem.W.nsIn K mainGlobals "_law_odd" = some (some (.ref f2)))
    (l2 : K.lookup f2 = some ⟨oc2, od2, .func (PySem.W.fnOf "_law_odd" "_law_odd" (defArgs st__law_odd) (defBody st__law_odd) (defScope st__law_odd) .none kV2 dc2 pm2 an2 cd2 ct2), sl2⟩)
    (c2 : PySem.W.codeIn K cd2 "_law_odd" = true)
    (k2 : PySem.W.keepIn K (.ref f2) = true)
    (a3 : PySem.W.nsIn K mainGlobals "_law_under" = some (some (.ref f3)))
    (l3 : K.lookup f3 = some ⟨oc3, od3, .func (PySem.W.fnOf "_law_under" "_law_under" (defArgs st__law_under) (defBody st__law_under) (defScope st__law_under) .none kV3 dc3 pm3 an3 cd3 ct3), sl3⟩)
    (c3 : PySem.W.codeIn K cd3 "_law_under" = true)
    (k3 : PySem.W.keepIn K (.ref f3) = true)
    (a4 : PySem.W.nsIn K mainGlobals "_law_stands" = some (some (.ref f4)))
    (l4 : K.lookup f4 = some ⟨oc4, od4, .func (PySem.W.fnOf "_law_stands" "_law_stands" (defArgs st__law_stands) (defBody st__law_stands) (defScope st__law_stands) .none kV4 dc4 pm4 an4 cd4 ct4), sl4⟩)
    (c4 : PySem.W.codeIn K cd4 "_law_stands" = true)
    (k4 : PySem.W.keepIn K (.ref f4) = true)
    (a5 : PySem.W.nsIn K mainGlobals "_law_fields_right" = some (some (.ref f5)))
    (l5 : K.lookup f5 = some ⟨oc5, od5, .func (PySem.W.fnOf "_law_fields_right" "_law_fields_right" (defArgs st__law_fields_right) (defBody st__law_fields_right) (defScope st__law_fields_right) .none kV5 dc5 pm5 an5 cd5 ct5), sl5⟩)
    (c5 : PySem.W.codeIn K cd5 "_law_fields_right" = true)
    (k5 : PySem.W.keepIn K (.ref f5) = true)
    (a6 : PySem.W.nsIn K mainGlobals "law" = some (some (.ref f6)))
    (l6 : K.lookup f6 = some ⟨oc6, od6, .func (PySem.W.fnOf "law" "law" (defArgs st_law) (defBody st_law) (defScope st_law) .none kV6 dc6 pm6 an6 cd6 ct6), sl6⟩)
    (c6 : PySem.W.codeIn K cd6 "law" = true)
    (k6 : PySem.W.keepIn K (.ref f6) = true)
    (z_ArithmeticError : PySem.W.nsIn K mainGlobals "ArithmeticError" = some none)
    (z_IndexError : PySem.W.nsIn K mainGlobals "IndexError" = some none)
    (z_KeyError : PySem.W.nsIn K mainGlobals "KeyError" = some none)
    (z_LookupError : PySem.W.nsIn K mainGlobals "LookupError" = some none)
    (z_RuntimeError : PySem.W.nsIn K mainGlobals "RuntimeError" = some none)
    (z_ValueError : PySem.W.nsIn K mainGlobals "ValueError" = some none)
    (z_ZeroDivisionError : PySem.W.nsIn K mainGlobals "ZeroDivisionError" = some none)
    (z_all : PySem.W.nsIn K mainGlobals "all" = some none)
    (z_bool : PySem.W.nsIn K mainGlobals "bool" = some none)
    (z_dict : PySem.W.nsIn K mainGlobals "dict" = some none)
    (z_divmod : PySem.W.nsIn K mainGlobals "divmod" = some none)
    (z_int : PySem.W.nsIn K mainGlobals "int" = some none)
    (z_isinstance : PySem.W.nsIn K mainGlobals "isinstance" = some none)
    (z_len : PySem.W.nsIn K mainGlobals "len" = some none)
    (z_list : PySem.W.nsIn K mainGlobals "list" = some none)
    (z_max : PySem.W.nsIn K mainGlobals "max" = some none)
    (z_min : PySem.W.nsIn K mainGlobals "min" = some none)
    (z_range : PySem.W.nsIn K mainGlobals "range" = some none)
    (z_repr : PySem.W.nsIn K mainGlobals "repr" = some none)
    (z_str : PySem.W.nsIn K mainGlobals "str" = some none)
    (z_tuple : PySem.W.nsIn K mainGlobals "tuple" = some none)
    : ∃ fd : FuncData, (∀ (s : Shared) (v : Value), BindsTo s fd ⟨[v], []⟩ [("_law_script", v)]) ∧ ∀ base : Heap, K.In base → base.Ns mainGlobals mg → HasSys base → FnG P w K mg base 9 fa fd ["_law_script"] (spD ⟨K, mg, none⟩ fi_law) := by
  cases hfa.symm.trans (PySem.W.mg_of X G a6)
  have F0 := fun_mk (st := st__law_pot) l0 c0 k0
  have b0 := F0.binds (ps := ["_law_script", "_law_k"]) fun _ _ _ _ _ _ us hl => match us, hl with | [_, _], _ => rfl
  have F1 := fun_mk (st := st__law_take) l1 c1 k1
  have b1 := F1.binds (ps := ["_law_pot_here", "_law_much"]) fun _ _ _ _ _ _ us hl => match us, hl with | [_, _], _ => rfl
  have F2 := fun_mk (st := st__law_odd) l2 c2 k2
  have b2 := F2.binds (ps := ["_law_pot_here"]) fun _ _ _ _ _ _ us hl => match us, hl with | [_], _ => rfl
  have F3 := fun_mk (st := st__law_under) l3 c3 k3
  have b3 := F3.binds (ps := ["_law_e"]) fun _ _ _ _ _ _ us hl => match us, hl with | [_], _ => rfl
  have F4 := fun_mk (st := st__law_stands) l4 c4 k4
  have b4 := F4.binds (ps := ["_law_e", "_law_places"]) fun _ _ _ _ _ _ us hl => match us, hl with | [_, _], _ => rfl
  have F5 := fun_mk (st := st__law_fields_right) l5 c5 k5
  have b5 := F5.binds (ps := ["_law_one", "_law_other"]) fun _ _ _ _ _ _ us hl => match us, hl with | [_, _], _ => rfl
  have F6 := fun_mk (st := st_law) l6 c6 k6
  have b6 := F6.binds (ps := ["_law_script"]) fun _ _ _ _ _ _ us hl => match us, hl with | [_], _ => rfl
  have xf_FacerError : ExcF K C_FacerError := ⟨cls_of hd_FacerError, ga_FacerError, gt_FacerError, hb_FacerError, gc_FacerError, sp_c, tk_c, hm_FacerError, hd_FacerError⟩
  have xf_NoKinds : ExcF K C_NoKinds := ⟨cls_of hd_NoKinds, ga_NoKinds, gt_NoKinds, hb_NoKinds, gc_NoKinds, sp_c, tk_c, hm_NoKinds, hd_NoKinds⟩
  have FI_NoKinds := fun_mk (st := st_NoKinds) il_NoKinds ic_NoKinds ik_NoKinds
  have BI_NoKinds := FI_NoKinds.binds (ps := selfs [(Str.ofString "what"), (Str.ofString "who")]) fun _ _ _ _ _ _ us hl => match us, hl with | [_, _, _], _ => rfl
  have OX_NoKinds : OxC K C_NoKinds tlV "ValueError" "ValueError.__new__" "ValueError" "ValueError.__init__" := ⟨xbV, ⟨_, _, _, _, _, _, _, _, _, _, _, _, _, _, _, xl_NoKinds, by first | decide +kernel | (show ownsT tlV tlV = true; decide +kernel)⟩, sa_NoKinds, hb_NoKinds, ht_NoKinds, kp_NoKinds⟩
  have xf_NoWeb : ExcF K C_NoWeb := ⟨cls_of hd_NoWeb, ga_NoWeb, gt_NoWeb, hb_NoWeb, gc_NoWeb, sp_c, tk_c, hm_NoWeb, hd_NoWeb⟩
  have FI_NoWeb := fun_mk (st := st_NoWeb) il_NoWeb ic_NoWeb ik_NoWeb
  have BI_NoWeb := FI_NoWeb.binds (ps := selfs [(Str.ofString "what"), (Str.ofString "who")]) fun _ _ _ _ _ _ us hl => match us, hl with | [_, _, _], _ => rfl
  have OX_NoWeb : OxC K C_NoWeb tlV "ValueError" "ValueError.__new__" "ValueError" "ValueError.__init__" := ⟨xbV, ⟨_, _, _, _, _, _, _, _, _, _, _, _, _, _, _, xl_NoWeb, by first | decide +kernel | (show ownsT tlV tlV = true; decide +kernel)⟩, sa_NoWeb, hb_NoWeb, ht_NoWeb, kp_NoWeb⟩
  have xf_NoBook : ExcF K C_NoBook := ⟨cls_of hd_NoBook, ga_NoBook, gt_NoBook, hb_NoBook, gc_NoBook, sp_c, tk_c, hm_NoBook, hd_NoBook⟩
  have FI_NoBook := fun_mk (st := st_NoBook) il_NoBook ic_NoBook ik_NoBook
  have BI_NoBook := FI_NoBook.binds (ps := selfs [(Str.ofString "what"), (Str.ofString "number")]) fun _ _ _ _ _ _ us hl => match us, hl with | [_, _, _], _ => rfl
  have OX_NoBook : OxC K C_NoBook tlV "ValueError" "ValueError.__new__" "ValueError" "ValueError.__init__" := ⟨xbV, ⟨_, _, _, _, _, _, _, _, _, _, _, _, _, _, _, xl_NoBook, by first | decide +kernel | (show ownsT tlV tlV = true; decide +kernel)⟩, sa_NoBook, hb_NoBook, ht_NoBook, kp_NoBook⟩
  have xf_NoHeap : ExcF K C_NoHeap := ⟨cls_of hd_NoHeap, ga_NoHeap, gt_NoHeap, hb_NoHeap, gc_NoHeap, sp_c, tk_c, hm_NoHeap, hd_NoHeap⟩
  have FI_NoHeap := fun_mk (st := st_NoHeap) il_NoHeap ic_NoHeap ik_NoHeap
  have BI_NoHeap := FI_NoHeap.binds (ps := selfs [(Str.ofString "who")]) fun _ _ _ _ _ _ us hl => match us, hl with | [_, _], _ => rfl
  have OX_NoHeap : OxC K C_NoHeap tlV "ValueError" "ValueError.__new__" "ValueError" "ValueError.__init__" := ⟨xbV, ⟨_, _, _, _, _, _, _, _, _, _, _, _, _, _, _, xl_NoHeap, by first | decide +kernel | (show ownsT tlV tlV = true; decide +kernel)⟩, sa_NoHeap, hb_NoHeap, ht_NoHeap, kp_NoHeap⟩
  have xf_NoText : ExcF K C_NoText := ⟨cls_of hd_NoText, ga_NoText, gt_NoText, hb_NoText, gc_NoText, sp_c, tk_c, hm_NoText, hd_NoText⟩
  have xf_NoWish : ExcF K C_NoWish := ⟨cls_of hd_NoWish, ga_NoWish, gt_NoWish, hb_NoWish, gc_NoWish, sp_c, tk_c, hm_NoWish, hd_NoWish⟩
  have xf_NoCount : ExcF K C_NoCount := ⟨cls_of hd_NoCount, ga_NoCount, gt_NoCount, hb_NoCount, gc_NoCount, sp_c, tk_c, hm_NoCount, hd_NoCount⟩
  have xf_NoRow : ExcF K C_NoRow := ⟨cls_of hd_NoRow, ga_NoRow, gt_NoRow, hb_NoRow, gc_NoRow, sp_c, tk_c, hm_NoRow, hd_NoRow⟩
  have xf_NoOne : ExcF K C_NoOne := ⟨cls_of hd_NoOne, ga_NoOne, gt_NoOne, hb_NoOne, gc_NoOne, sp_c, tk_c, hm_NoOne, hd_NoOne⟩
  have FI_NoOne := fun_mk (st := st_NoOne) il_NoOne ic_NoOne ik_NoOne
  have BI_NoOne := FI_NoOne.binds (ps := selfs [(Str.ofString "who")]) fun _ _ _ _ _ _ us hl => match us, hl with | [_, _], _ => rfl
  have OX_NoOne : OxC K C_NoOne tlL "LookupError" "LookupError.__new__" "LookupError" "LookupError.__init__" := ⟨xbL, ⟨_, _, _, _, _, _, _, _, _, _, _, _, _, _, _, xl_NoOne, by first | decide +kernel | (show ownsT tlL tlL = true; decide +kernel)⟩, sa_NoOne, hb_NoOne, ht_NoOne, kp_NoOne⟩
  have xf_NoEnd : ExcF K C_NoEnd := ⟨cls_of hd_NoEnd, ga_NoEnd, gt_NoEnd, hb_NoEnd, gc_NoEnd, sp_c, tk_c, hm_NoEnd, hd_NoEnd⟩
  have FI_NoEnd := fun_mk (st := st_NoEnd) il_NoEnd ic_NoEnd ik_NoEnd
  have BI_NoEnd := FI_NoEnd.binds (ps := selfs [(Str.ofString "end")]) fun _ _ _ _ _ _ us hl => match us, hl with | [_, _], _ => rfl
  have OX_NoEnd : OxC K C_NoEnd tlL "LookupError" "LookupError.__new__" "LookupError" "LookupError.__init__" := ⟨xbL, ⟨_, _, _, _, _, _, _, _, _, _, _, _, _, _, _, xl_NoEnd, by first | decide +kernel | (show ownsT tlL tlL = true; decide +kernel)⟩, sa_NoEnd, hb_NoEnd, ht_NoEnd, kp_NoEnd⟩
  have xf_NoKind : ExcF K C_NoKind := ⟨cls_of hd_NoKind, ga_NoKind, gt_NoKind, hb_NoKind, gc_NoKind, sp_c, tk_c, hm_NoKind, hd_NoKind⟩
  have FI_NoKind := fun_mk (st := st_NoKind) il_NoKind ic_NoKind ik_NoKind
  have BI_NoKind := FI_NoKind.binds (ps := selfs [(Str.ofString "word")]) fun _ _ _ _ _ _ us hl => match us, hl with | [_, _], _ => rfl
  have OX_NoKind : OxC K C_NoKind tlK "LookupError" "LookupError.__new__" "KeyError" "KeyError.__init__" := ⟨xbK, ⟨_, _, _, _, _, _, _, _, _, _, _, _, _, _, _, xl_NoKind, by first | decide +kernel | (show ownsT tlK tlK = true; decide +kernel)⟩, sa_NoKind, hb_NoKind, ht_NoKind, kp_NoKind⟩
  have xf_NoRule : ExcF K C_NoRule := ⟨cls_of hd_NoRule, ga_NoRule, gt_NoRule, hb_NoRule, gc_NoRule, sp_c, tk_c, hm_NoRule, hd_NoRule⟩
  have FI_NoRule := fun_mk (st := st_NoRule) il_NoRule ic_NoRule ik_NoRule
  have BI_NoRule := FI_NoRule.binds (ps := selfs [(Str.ofString "pair")]) fun _ _ _ _ _ _ us hl => match us, hl with | [_, _], _ => rfl
  have OX_NoRule : OxC K C_NoRule tlK "LookupError" "LookupError.__new__" "KeyError" "KeyError.__init__" := ⟨xbK, ⟨_, _, _, _, _, _, _, _, _, _, _, _, _, _, _, xl_NoRule, by first | decide +kernel | (show ownsT tlK tlK = true; decide +kernel)⟩, sa_NoRule, hb_NoRule, ht_NoRule, kp_NoRule⟩
  have xf_NoSuch : ExcF K C_NoSuch := ⟨cls_of hd_NoSuch, ga_NoSuch, gt_NoSuch, hb_NoSuch, gc_NoSuch, sp_c, tk_c, hm_NoSuch, hd_NoSuch⟩
  have FI_NoSuch := fun_mk (st := st_NoSuch) il_NoSuch ic_NoSuch ik_NoSuch
  have BI_NoSuch := FI_NoSuch.binds (ps := selfs [(Str.ofString "who")]) fun _ _ _ _ _ _ us hl => match us, hl with | [_, _], _ => rfl
  have OX_NoSuch : OxC K C_NoSuch tlK "LookupError" "LookupError.__new__" "KeyError" "KeyError.__init__" := ⟨xbK, ⟨_, _, _, _, _, _, _, _, _, _, _, _, _, _, _, xl_NoSuch, by first | decide +kernel | (show ownsT tlK tlK = true; decide +kernel)⟩, sa_NoSuch, hb_NoSuch, ht_NoSuch, kp_NoSuch⟩
  have xf_NoMeeting : ExcF K C_NoMeeting := ⟨cls_of hd_NoMeeting, ga_NoMeeting, gt_NoMeeting, hb_NoMeeting, gc_NoMeeting, sp_c, tk_c, hm_NoMeeting, hd_NoMeeting⟩
  have FI_NoMeeting := fun_mk (st := st_NoMeeting) il_NoMeeting ic_NoMeeting ik_NoMeeting
  have BI_NoMeeting := FI_NoMeeting.binds (ps := selfs [(Str.ofString "who")]) fun _ _ _ _ _ _ us hl => match us, hl with | [_, _], _ => rfl
  have OX_NoMeeting : OxC K C_NoMeeting tlR "RuntimeError" "RuntimeError.__new__" "RuntimeError" "RuntimeError.__init__" := ⟨xbR, ⟨_, _, _, _, _, _, _, _, _, _, _, _, _, _, _, xl_NoMeeting, by first | decide +kernel | (show ownsT tlR tlR = true; decide +kernel)⟩, sa_NoMeeting, hb_NoMeeting, ht_NoMeeting, kp_NoMeeting⟩
  have xf_Caused : ExcF K C_Caused := ⟨cls_of hd_Caused, ga_Caused, gt_Caused, hb_Caused, gc_Caused, sp_c, tk_c, hm_Caused, hd_Caused⟩
  have FI_Caused := fun_mk (st := st_Caused) il_Caused ic_Caused ik_Caused
  have BI_Caused := FI_Caused.binds (ps := selfs [(Str.ofString "by")]) fun _ _ _ _ _ _ us hl => match us, hl with | [_, _], _ => rfl
  have OX_Caused : OxC K C_Caused tlR "RuntimeError" "RuntimeError.__new__" "RuntimeError" "RuntimeError.__init__" := ⟨xbR, ⟨_, _, _, _, _, _, _, _, _, _, _, _, _, _, _, xl_Caused, by first | decide +kernel | (show ownsT tlR tlR = true; decide +kernel)⟩, sa_Caused, hb_Caused, ht_Caused, kp_Caused⟩
  have xf_Unlike : ExcF K C_Unlike := ⟨cls_of hd_Unlike, ga_Unlike, gt_Unlike, hb_Unlike, gc_Unlike, sp_c, tk_c, hm_Unlike, hd_Unlike⟩
  have xf_TooMany : ExcF K C_TooMany := ⟨cls_of hd_TooMany, ga_TooMany, gt_TooMany, hb_TooMany, gc_TooMany, sp_c, tk_c, hm_TooMany, hd_TooMany⟩
  have FI_TooMany := fun_mk (st := st_TooMany) il_TooMany ic_TooMany ik_TooMany
  have BI_TooMany := FI_TooMany.binds (ps := selfs [(Str.ofString "limit")]) fun _ _ _ _ _ _ us hl => match us, hl with | [_, _], _ => rfl
  have OX_TooMany : OxC K C_TooMany tlA "ArithmeticError" "ArithmeticError.__new__" "ArithmeticError" "ArithmeticError.__init__" := ⟨xbA, ⟨_, _, _, _, _, _, _, _, _, _, _, _, _, _, _, xl_TooMany, by first | decide +kernel | (show ownsT tlA tlA = true; decide +kernel)⟩, sa_TooMany, hb_TooMany, ht_TooMany, kp_TooMany⟩
  refine ⟨PySem.W.fnOf "law" "law" (defArgs st_law) (defBody st_law) (defScope st_law) .none kV6 dc6 pm6 an6 cd6 ct6, fun s v => .of_eq rfl, fun base KB GB hsy => ?_⟩
  have MX_NoKinds : MkX P w K mg base 1 C_NoKinds [(Str.ofString "what"), (Str.ofString "who")] (okE K mg tk_NoKinds) [[(Str.ofString "who"), (Str.ofString "what")]] := by
    refine ⟨⟨_, _, _, _, _, OX_NoKinds⟩, by decide, I_NoKinds, _, ia_NoKinds, it_NoKinds, ok_NoKinds hsy FI_NoKinds OX_NoKinds no_NoKinds_what no_NoKinds_who (PySem.W.mg_of X G n_FacerError) vk_FacerError vg_FacerError ht_FacerError vr_FacerError vi_FacerError, BI_NoKinds, fcons ?_ (fnil)⟩
    · refine ⟨rfl, fun s x us ws _ hl => match us, hl with | [u0, u1], _ => fun hh => ?_⟩
      have e : ([(Str.ofString "what"), (Str.ofString "who")] : List Str).mapM (fun n => (([(Str.ofString "who"), (Str.ofString "what")] : List Str).zip [u0, u1]).lookup n) = some [u1, u0] := by rfl
      rw [e] at hh
      cases hh
      exact .of_eq rfl
  have MX_NoWeb : MkX P w K mg base 1 C_NoWeb [(Str.ofString "what"), (Str.ofString "who")] (okE K mg tk_NoWeb) [[(Str.ofString "who"), (Str.ofString "what")]] := by
    refine ⟨⟨_, _, _, _, _, OX_NoWeb⟩, by decide, I_NoWeb, _, ia_NoWeb, it_NoWeb, ok_NoWeb hsy FI_NoWeb OX_NoWeb no_NoWeb_what no_NoWeb_who (PySem.W.mg_of X G n_FacerError) vk_FacerError vg_FacerError ht_FacerError vr_FacerError vi_FacerError, BI_NoWeb, fcons ?_ (fnil)⟩
    · refine ⟨rfl, fun s x us ws _ hl => match us, hl with | [u0, u1], _ => fun hh => ?_⟩
      have e : ([(Str.ofString "what"), (Str.ofString "who")] : List Str).mapM (fun n => (([(Str.ofString "who"), (Str.ofString "what")] : List Str).zip [u0, u1]).lookup n) = some [u1, u0] := by rfl
      rw [e] at hh
      cases hh
      exact .of_eq rfl
  have MX_NoBook : MkX P w K mg base 1 C_NoBook [(Str.ofString "what"), (Str.ofString "number")] (okE K mg tk_NoBook) [[(Str.ofString "number"), (Str.ofString "what")]] := by
    refine ⟨⟨_, _, _, _, _, OX_NoBook⟩, by decide, I_NoBook, _, ia_NoBook, it_NoBook, ok_NoBook hsy FI_NoBook OX_NoBook no_NoBook_what no_NoBook_number (PySem.W.mg_of X G n_FacerError) vk_FacerError vg_FacerError ht_FacerError vr_FacerError vi_FacerError, BI_NoBook, fcons ?_ (fnil)⟩
    · refine ⟨rfl, fun s x us ws _ hl => match us, hl with | [u0, u1], _ => fun hh => ?_⟩
      have e : ([(Str.ofString "what"), (Str.ofString "number")] : List Str).mapM (fun n => (([(Str.ofString "number"), (Str.ofString "what")] : List Str).zip [u0, u1]).lookup n) = some [u1, u0] := by rfl
      rw [e] at hh
      cases hh
      exact .of_eq rfl
  have MX_NoHeap : MkX P w K mg base 1 C_NoHeap [(Str.ofString "who")] (okE K mg tk_NoHeap) [[(Str.ofString "who")]] := by
    refine ⟨⟨_, _, _, _, _, OX_NoHeap⟩, by decide, I_NoHeap, _, ia_NoHeap, it_NoHeap, ok_NoHeap hsy FI_NoHeap OX_NoHeap no_NoHeap_who (PySem.W.mg_of X G n_FacerError) vk_FacerError vg_FacerError ht_FacerError vr_FacerError vi_FacerError, BI_NoHeap, fcons ?_ (fnil)⟩
    · refine ⟨rfl, fun s x us ws _ hl => match us, hl with | [u0], _ => fun hh => ?_⟩
      have e : ([(Str.ofString "who")] : List Str).mapM (fun n => (([(Str.ofString "who")] : List Str).zip [u0]).lookup n) = some [u0] := by rfl
      rw [e] at hh
      cases hh
      exact .of_eq rfl
  have MX_NoOne : MkX P w K mg base 1 C_NoOne [(Str.ofString "who")] (okE K mg tk_NoOne) [[(Str.ofString "who")]] := by
    refine ⟨⟨_, _, _, _, _, OX_NoOne⟩, by decide, I_NoOne, _, ia_NoOne, it_NoOne, ok_NoOne hsy FI_NoOne OX_NoOne no_NoOne_who (PySem.W.mg_none_of X G z_LookupError) vi_LookupError, BI_NoOne, fcons ?_ (fnil)⟩
    · refine ⟨rfl, fun s x us ws _ hl => match us, hl with | [u0], _ => fun hh => ?_⟩
      have e : ([(Str.ofString "who")] : List Str).mapM (fun n => (([(Str.ofString "who")] : List Str).zip [u0]).lookup n) = some [u0] := by rfl
      rw [e] at hh
      cases hh
      exact .of_eq rfl
  have MX_NoEnd : MkX P w K mg base 1 C_NoEnd [(Str.ofString "end")] (okE K mg tk_NoEnd) [[(Str.ofString "end")]] := by
    refine ⟨⟨_, _, _, _, _, OX_NoEnd⟩, by decide, I_NoEnd, _, ia_NoEnd, it_NoEnd, ok_NoEnd hsy FI_NoEnd OX_NoEnd no_NoEnd_end (PySem.W.mg_none_of X G z_LookupError) vi_LookupError, BI_NoEnd, fcons ?_ (fnil)⟩
    · refine ⟨rfl, fun s x us ws _ hl => match us, hl with | [u0], _ => fun hh => ?_⟩
      have e : ([(Str.ofString "end")] : List Str).mapM (fun n => (([(Str.ofString "end")] : List Str).zip [u0]).lookup n) = some [u0] := by rfl
      rw [e] at hh
      cases hh
      exact .of_eq rfl
  have MX_NoKind : MkX P w K mg base 1 C_NoKind [(Str.ofString "word")] (okE K mg tk_NoKind) [[(Str.ofString "word")]] := by
    refine ⟨⟨_, _, _, _, _, OX_NoKind⟩, by decide, I_NoKind, _, ia_NoKind, it_NoKind, ok_NoKind hsy FI_NoKind OX_NoKind no_NoKind_word (PySem.W.mg_none_of X G z_KeyError) vi_KeyError, BI_NoKind, fcons ?_ (fnil)⟩
    · refine ⟨rfl, fun s x us ws _ hl => match us, hl with | [u0], _ => fun hh => ?_⟩
      have e : ([(Str.ofString "word")] : List Str).mapM (fun n => (([(Str.ofString "word")] : List Str).zip [u0]).lookup n) = some [u0] := by rfl
      rw [e] at hh
      cases hh
      exact .of_eq rfl
  have MX_NoRule : MkX P w K mg base 1 C_NoRule [(Str.ofString "pair")] (okE K mg tk_NoRule) [[(Str.ofString "pair")]] := by
    refine ⟨⟨_, _, _, _, _, OX_NoRule⟩, by decide, I_NoRule, _, ia_NoRule, it_NoRule, ok_NoRule hsy FI_NoRule OX_NoRule no_NoRule_pair (PySem.W.mg_none_of X G z_KeyError) vi_KeyError, BI_NoRule, fcons ?_ (fnil)⟩
    · refine ⟨rfl, fun s x us ws _ hl => match us, hl with | [u0], _ => fun hh => ?_⟩
      have e : ([(Str.ofString "pair")] : List Str).mapM (fun n => (([(Str.ofString "pair")] : List Str).zip [u0]).lookup n) = some [u0] := by rfl
      rw [e] at hh
      cases hh
      exact .of_eq rfl
  have MX_NoSuch : MkX P w K mg base 1 C_NoSuch [(Str.ofString "who")] (okE K mg tk_NoSuch) [[(Str.ofString "who")]] := by
    refine ⟨⟨_, _, _, _, _, OX_NoSuch⟩, by decide, I_NoSuch, _, ia_NoSuch, it_NoSuch, ok_NoSuch hsy FI_NoSuch OX_NoSuch no_NoSuch_who (PySem.W.mg_none_of X G z_KeyError) vi_KeyError, BI_NoSuch, fcons ?_ (fnil)⟩
    · refine ⟨rfl, fun s x us ws _ hl => match us, hl with | [u0], _ => fun hh => ?_⟩
      have e : ([(Str.ofString "who")] : List Str).mapM (fun n => (([(Str.ofString "who")] : List Str).zip [u0]).lookup n) = some [u0] := by rfl
      rw [e] at hh
      cases hh
      exact .of_eq rfl
  have MX_NoMeeting : MkX P w K mg base 1 C_NoMeeting [(Str.ofString "who")] (okE K mg tk_NoMeeting) [[(Str.ofString "who")]] := by
    refine ⟨⟨_, _, _, _, _, OX_NoMeeting⟩, by decide, I_NoMeeting, _, ia_NoMeeting, it_NoMeeting, ok_NoMeeting hsy FI_NoMeeting OX_NoMeeting no_NoMeeting_who (PySem.W.mg_none_of X G z_RuntimeError) vi_RuntimeError, BI_NoMeeting, fcons ?_ (fnil)⟩
    · refine ⟨rfl, fun s x us ws _ hl => match us, hl with | [u0], _ => fun hh => ?_⟩
      have e : ([(Str.ofString "who")] : List Str).mapM (fun n => (([(Str.ofString "who")] : List Str).zip [u0]).lookup n) = some [u0] := by rfl
      rw [e] at hh
      cases hh
      exact .of_eq rfl
  have MX_Caused : MkX P w K mg base 1 C_Caused [(Str.ofString "by")] (okE K mg tk_Caused) [[(Str.ofString "by")]] := by
    refine ⟨⟨_, _, _, _, _, OX_Caused⟩, by decide, I_Caused, _, ia_Caused, it_Caused, ok_Caused hsy FI_Caused OX_Caused no_Caused_by (PySem.W.mg_none_of X G z_RuntimeError) vi_RuntimeError, BI_Caused, fcons ?_ (fnil)⟩
    · refine ⟨rfl, fun s x us ws _ hl => match us, hl with | [u0], _ => fun hh => ?_⟩
      have e : ([(Str.ofString "by")] : List Str).mapM (fun n => (([(Str.ofString "by")] : List Str).zip [u0]).lookup n) = some [u0] := by rfl
      rw [e] at hh
      cases hh
      exact .of_eq rfl
  have MX_TooMany : MkX P w K mg base 1 C_TooMany [(Str.ofString "limit")] (okE K mg tk_TooMany) [[(Str.ofString "limit")]] := by
    refine ⟨⟨_, _, _, _, _, OX_TooMany⟩, by decide, I_TooMany, _, ia_TooMany, it_TooMany, ok_TooMany hsy FI_TooMany OX_TooMany no_TooMany_limit (PySem.W.mg_none_of X G z_ArithmeticError) vi_ArithmeticError, BI_TooMany, fcons ?_ (fnil)⟩
    · refine ⟨rfl, fun s x us ws _ hl => match us, hl with | [u0], _ => fun hh => ?_⟩
      have e : ([(Str.ofString "limit")] : List Str).mapM (fun n => (([(Str.ofString "limit")] : List Str).zip [u0]).lookup n) = some [u0] := by rfl
      rw [e] at hh
      cases hh
      exact .of_eq rfl
  have M0 : ModF T_0 2 P w K mg base := by
    refine ⟨hsy, fun b => ?_, PySem.W.mg_none_of X G z_isinstance, PySem.W.mg_none_of X G z_range, fun ty hty => ?_, fun x d e => ?_, (fun f fi e => nomatch e), fun c fs e => ?_, fun d e => ?_, fun c e => ?_, fun c f fs e => ?_, fun c d b e => ?_⟩
    · cases b
      · exact PySem.W.mg_none_of X G z_len
      · exact PySem.W.mg_none_of X G z_max
      · exact PySem.W.mg_none_of X G z_min
      · exact PySem.W.mg_none_of X G z_all
      · exact PySem.W.mg_none_of X G z_tuple
      · exact PySem.W.mg_none_of X G z_list
      · exact PySem.W.mg_none_of X G z_repr
      · exact PySem.W.mg_none_of X G z_str
      · exact PySem.W.mg_none_of X G z_int
    · simp only [List.mem_cons, List.not_mem_nil, or_false] at hty
      rcases hty with rfl | rfl | rfl | rfl | rfl | rfl
      · exact PySem.W.mg_none_of X G z_int
      · exact PySem.W.mg_none_of X G z_bool
      · exact PySem.W.mg_none_of X G z_str
      · exact PySem.W.mg_none_of X G z_tuple
      · exact PySem.W.mg_none_of X G z_list
      · exact PySem.W.mg_none_of X G z_dict
    · cases e
    · exact of_rows (P := fun c fs => ∃ C, mg c = some (.ref C) ∧ ExcF K C ∧ ∀ f ∈ fs, PySem.W.findIn K (.ref C) f = some none) (L := excL) (fcons ⟨C_FacerError, PySem.W.mg_of X G n_FacerError, xf_FacerError, fnil⟩ (fcons ⟨C_NoKinds, PySem.W.mg_of X G n_NoKinds, xf_NoKinds, (fcons no_NoKinds_what (fcons no_NoKinds_who fnil))⟩ (fcons ⟨C_NoWeb, PySem.W.mg_of X G n_NoWeb, xf_NoWeb, (fcons no_NoWeb_what (fcons no_NoWeb_who fnil))⟩ (fcons ⟨C_NoBook, PySem.W.mg_of X G n_NoBook, xf_NoBook, (fcons no_NoBook_what (fcons no_NoBook_number fnil))⟩ (fcons ⟨C_NoHeap, PySem.W.mg_of X G n_NoHeap, xf_NoHeap, (fcons no_NoHeap_who fnil)⟩ (fcons ⟨C_NoText, PySem.W.mg_of X G n_NoText, xf_NoText, fnil⟩ (fcons ⟨C_NoWish, PySem.W.mg_of X G n_NoWish, xf_NoWish, fnil⟩ (fcons ⟨C_NoCount, PySem.W.mg_of X G n_NoCount, xf_NoCount, fnil⟩ (fcons ⟨C_NoRow, PySem.W.mg_of X G n_NoRow, xf_NoRow, fnil⟩ (fcons ⟨C_NoOne, PySem.W.mg_of X G n_NoOne, xf_NoOne, (fcons no_NoOne_who fnil)⟩ (fcons ⟨C_NoEnd, PySem.W.mg_of X G n_NoEnd, xf_NoEnd, (fcons no_NoEnd_end fnil)⟩ (fcons ⟨C_NoKind, PySem.W.mg_of X G n_NoKind, xf_NoKind, (fcons no_NoKind_word fnil)⟩ (fcons ⟨C_NoRule, PySem.W.mg_of X G n_NoRule, xf_NoRule, (fcons no_NoRule_pair fnil)⟩ (fcons ⟨C_NoSuch, PySem.W.mg_of X G n_NoSuch, xf_NoSuch, (fcons no_NoSuch_who fnil)⟩ (fcons ⟨C_NoMeeting, PySem.W.mg_of X G n_NoMeeting, xf_NoMeeting, (fcons no_NoMeeting_who fnil)⟩ (fcons ⟨C_Caused, PySem.W.mg_of X G n_Caused, xf_Caused, (fcons no_Caused_by fnil)⟩ (fcons ⟨C_Unlike, PySem.W.mg_of X G n_Unlike, xf_Unlike, fnil⟩ (fcons ⟨C_TooMany, PySem.W.mg_of X G n_TooMany, xf_TooMany, (fcons no_TooMany_limit fnil)⟩ fnil)))))))))))))))))) c fs e
    · have hN : ∀ q ∈ ([((Str.ofString "ArithmeticError"), .type "ArithmeticError"), ((Str.ofString "Caused"), .ref C_Caused), ((Str.ofString "FacerError"), .ref C_FacerError), ((Str.ofString "IndexError"), .type "IndexError"), ((Str.ofString "KeyError"), .type "KeyError"), ((Str.ofString "LookupError"), .type "LookupError"), ((Str.ofString "NoBook"), .ref C_NoBook), ((Str.ofString "NoCount"), .ref C_NoCount), ((Str.ofString "NoEnd"), .ref C_NoEnd), ((Str.ofString "NoHeap"), .ref C_NoHeap), ((Str.ofString "NoKind"), .ref C_NoKind), ((Str.ofString "NoKinds"), .ref C_NoKinds), ((Str.ofString "NoMeeting"), .ref C_NoMeeting), ((Str.ofString "NoOne"), .ref C_NoOne), ((Str.ofString "NoRow"), .ref C_NoRow), ((Str.ofString "NoRule"), .ref C_NoRule), ((Str.ofString "NoSuch"), .ref C_NoSuch), ((Str.ofString "NoText"), .ref C_NoText), ((Str.ofString "NoWeb"), .ref C_NoWeb), ((Str.ofString "NoWish"), .ref C_NoWish), ((Str.ofString "RuntimeError"), .type "RuntimeError"), ((Str.ofString "TooMany"), .ref C_TooMany), ((Str.ofString "Unlike"), .ref C_Unlike), ((Str.ofString "ValueError"), .type "ValueError"), ((Str.ofString "ZeroDivisionError"), .type "ZeroDivisionError")] : List (Str × Value)), NRow K mg q := (fcons ⟨.inr ⟨PySem.W.mg_none_of X G z_ArithmeticError, by decide +kernel, by decide⟩, .inr ⟨"ArithmeticError", rfl, by decide +kernel⟩, be_ArithmeticError⟩ (fcons ⟨.inl (PySem.W.mg_of X G n_Caused), .inl ⟨C_Caused, rfl, hd_Caused, ht_Caused⟩, hb_Caused⟩ (fcons ⟨.inl (PySem.W.mg_of X G n_FacerError), .inl ⟨C_FacerError, rfl, hd_FacerError, ht_FacerError⟩, hb_FacerError⟩ (fcons ⟨.inr ⟨PySem.W.mg_none_of X G z_IndexError, by decide +kernel, by decide⟩, .inr ⟨"IndexError", rfl, by decide +kernel⟩, be_IndexError⟩ (fcons ⟨.inr ⟨PySem.W.mg_none_of X G z_KeyError, by decide +kernel, by decide⟩, .inr ⟨"KeyError", rfl, by decide +kernel⟩, be_KeyError⟩ (fcons ⟨.inr ⟨PySem.W.mg_none_of X G z_LookupError, by decide +kernel, by decide⟩, .inr ⟨"LookupError", rfl, by decide +kernel⟩, be_LookupError⟩ (fcons ⟨.inl (PySem.W.mg_of X G n_NoBook), .inl ⟨C_NoBook, rfl, hd_NoBook, ht_NoBook⟩, hb_NoBook⟩ (fcons ⟨.inl (PySem.W.mg_of X G n_NoCount), .inl ⟨C_NoCount, rfl, hd_NoCount, ht_NoCount⟩, hb_NoCount⟩ (fcons ⟨.inl (PySem.W.mg_of X G n_NoEnd), .inl ⟨C_NoEnd, rfl, hd_NoEnd, ht_NoEnd⟩, hb_NoEnd⟩ (fcons ⟨.inl (PySem.W.mg_of X G n_NoHeap), .inl ⟨C_NoHeap, rfl, hd_NoHeap, ht_NoHeap⟩, hb_NoHeap⟩ (fcons ⟨.inl (PySem.W.mg_of X G n_NoKind), .inl ⟨C_NoKind, rfl, hd_NoKind, ht_NoKind⟩, hb_NoKind⟩ (fcons ⟨.inl (PySem.W.mg_of X G n_NoKinds), .inl ⟨C_NoKinds, rfl, hd_NoKinds, ht_NoKinds⟩, hb_NoKinds⟩ (fcons ⟨.inl (PySem.W.mg_of X G n_NoMeeting), .inl ⟨C_NoMeeting, rfl, hd_NoMeeting, ht_NoMeeting⟩, hb_NoMeeting⟩ (fcons ⟨.inl (PySem.W.mg_of X G n_NoOne), .inl ⟨C_NoOne, rfl, hd_NoOne, ht_NoOne⟩, hb_NoOne⟩ (fcons ⟨.inl (PySem.W.mg_of X G n_NoRow), .inl ⟨C_NoRow, rfl, hd_NoRow, ht_NoRow⟩, hb_NoRow⟩ (fcons ⟨.inl (PySem.W.mg_of X G n_NoRule), .inl ⟨C_NoRule, rfl, hd_NoRule, ht_NoRule⟩, hb_NoRule⟩ (fcons ⟨.inl (PySem.W.mg_of X G n_NoSuch), .inl ⟨C_NoSuch, rfl, hd_NoSuch, ht_NoSuch⟩, hb_NoSuch⟩ (fcons ⟨.inl (PySem.W.mg_of X G n_NoText), .inl ⟨C_NoText, rfl, hd_NoText, ht_NoText⟩, hb_NoText⟩ (fcons ⟨.inl (PySem.W.mg_of X G n_NoWeb), .inl ⟨C_NoWeb, rfl, hd_NoWeb, ht_NoWeb⟩, hb_NoWeb⟩ (fcons ⟨.inl (PySem.W.mg_of X G n_NoWish), .inl ⟨C_NoWish, rfl, hd_NoWish, ht_NoWish⟩, hb_NoWish⟩ (fcons ⟨.inr ⟨PySem.W.mg_none_of X G z_RuntimeError, by decide +kernel, by decide⟩, .inr ⟨"RuntimeError", rfl, by decide +kernel⟩, be_RuntimeError⟩ (fcons ⟨.inl (PySem.W.mg_of X G n_TooMany), .inl ⟨C_TooMany, rfl, hd_TooMany, ht_TooMany⟩, hb_TooMany⟩ (fcons ⟨.inl (PySem.W.mg_of X G n_Unlike), .inl ⟨C_Unlike, rfl, hd_Unlike, ht_Unlike⟩, hb_Unlike⟩ (fcons ⟨.inr ⟨PySem.W.mg_none_of X G z_ValueError, by decide +kernel, by decide⟩, .inr ⟨"ValueError", rfl, by decide +kernel⟩, be_ValueError⟩ (fcons ⟨.inr ⟨PySem.W.mg_none_of X G z_ZeroDivisionError, by decide +kernel, by decide⟩, .inr ⟨"ZeroDivisionError", rfl, by decide +kernel⟩, be_ZeroDivisionError⟩ fnil)))))))))))))))))))))))))
      have hd : d ∈ ([((Str.ofString "ArithmeticError"), .type "ArithmeticError"), ((Str.ofString "Caused"), .ref C_Caused), ((Str.ofString "FacerError"), .ref C_FacerError), ((Str.ofString "IndexError"), .type "IndexError"), ((Str.ofString "KeyError"), .type "KeyError"), ((Str.ofString "LookupError"), .type "LookupError"), ((Str.ofString "NoBook"), .ref C_NoBook), ((Str.ofString "NoCount"), .ref C_NoCount), ((Str.ofString "NoEnd"), .ref C_NoEnd), ((Str.ofString "NoHeap"), .ref C_NoHeap), ((Str.ofString "NoKind"), .ref C_NoKind), ((Str.ofString "NoKinds"), .ref C_NoKinds), ((Str.ofString "NoMeeting"), .ref C_NoMeeting), ((Str.ofString "NoOne"), .ref C_NoOne), ((Str.ofString "NoRow"), .ref C_NoRow), ((Str.ofString "NoRule"), .ref C_NoRule), ((Str.ofString "NoSuch"), .ref C_NoSuch), ((Str.ofString "NoText"), .ref C_NoText), ((Str.ofString "NoWeb"), .ref C_NoWeb), ((Str.ofString "NoWish"), .ref C_NoWish), ((Str.ofString "RuntimeError"), .type "RuntimeError"), ((Str.ofString "TooMany"), .ref C_TooMany), ((Str.ofString "Unlike"), .ref C_Unlike), ((Str.ofString "ValueError"), .type "ValueError"), ((Str.ofString "ZeroDivisionError"), .type "ZeroDivisionError")] : List (Str × Value)).map (·.1) := List.contains_iff_mem.mp e
      obtain ⟨q, hq, rfl⟩ := List.mem_map.mp hd
      obtain ⟨h1, h2, _⟩ := hN q hq
      refine ⟨q.2, h1, ?_⟩
      rcases h2 with ⟨D, e, _⟩ | ⟨t, e, _⟩
      · exact .inl ⟨D, e⟩
      · exact .inr ⟨t, e⟩
    · exact of_rows (P := fun c fs => fs = [] → ∃ C, mg c = some (.ref C) ∧ RaiseF K C) (L := excL) (fcons (fun _ => ⟨C_FacerError, PySem.W.mg_of X G n_FacerError, ⟨⟨_, _, _, _, PySem.F.excBase_ValueError, ex_FacerError⟩, kp_FacerError, hb_FacerError, ht_FacerError⟩⟩) (fcons (fun z => nomatch z) (fcons (fun z => nomatch z) (fcons (fun z => nomatch z) (fcons (fun z => nomatch z) (fcons (fun _ => ⟨C_NoText, PySem.W.mg_of X G n_NoText, ⟨⟨_, _, _, _, PySem.F.excBase_ValueError, ex_NoText⟩, kp_NoText, hb_NoText, ht_NoText⟩⟩) (fcons (fun _ => ⟨C_NoWish, PySem.W.mg_of X G n_NoWish, ⟨⟨_, _, _, _, PySem.F.excBase_ValueError, ex_NoWish⟩, kp_NoWish, hb_NoWish, ht_NoWish⟩⟩) (fcons (fun _ => ⟨C_NoCount, PySem.W.mg_of X G n_NoCount, ⟨⟨_, _, _, _, PySem.F.excBase_ValueError, ex_NoCount⟩, kp_NoCount, hb_NoCount, ht_NoCount⟩⟩) (fcons (fun _ => ⟨C_NoRow, PySem.W.mg_of X G n_NoRow, ⟨⟨_, _, _, _, PySem.F.excBase_ValueError, ex_NoRow⟩, kp_NoRow, hb_NoRow, ht_NoRow⟩⟩) (fcons (fun z => nomatch z) (fcons (fun z => nomatch z) (fcons (fun z => nomatch z) (fcons (fun z => nomatch z) (fcons (fun z => nomatch z) (fcons (fun z => nomatch z) (fcons (fun z => nomatch z) (fcons (fun _ => ⟨C_Unlike, PySem.W.mg_of X G n_Unlike, ⟨⟨_, _, _, _, PySem.F.excBase_RuntimeError, ex_Unlike⟩, kp_Unlike, hb_Unlike, ht_Unlike⟩⟩) (fcons (fun z => nomatch z) fnil)))))))))))))))))) c [] e rfl
    · exact of_rows (P := fun c gs => ∀ f fs, gs = f :: fs → ∃ (C : Addr) (k : Nat) (ok : Hp → List V → Prop) (kw : List (List Str)), k + 1 ≤ 2 ∧ mg c = some (.ref C) ∧ MkX P w K mg base k C (f :: fs) ok kw ∧ (∀ H vs ds, IsL ⟨K, mg, none⟩ H vs ds → ds.length = fs.length + 1 → T_0.takes c ds = true → ok H vs) ∧ ∀ ks, T_0.mkw c ks = true → ks ∈ kw) (L := excL) (fcons (fun f fs e => nomatch e) (fcons (fun f fs e => by cases e; exact ⟨C_NoKinds, 1, _, _, by decide, PySem.W.mg_of X G n_NoKinds, MX_NoKinds, (fun H vs ds l _ ht => ⟨ds, l, ht⟩), fun ks hk => mkw_in (by decide +kernel) hk⟩) (fcons (fun f fs e => by cases e; exact ⟨C_NoWeb, 1, _, _, by decide, PySem.W.mg_of X G n_NoWeb, MX_NoWeb, (fun H vs ds l _ ht => ⟨ds, l, ht⟩), fun ks hk => mkw_in (by decide +kernel) hk⟩) (fcons (fun f fs e => by cases e; exact ⟨C_NoBook, 1, _, _, by decide, PySem.W.mg_of X G n_NoBook, MX_NoBook, (fun H vs ds l _ ht => ⟨ds, l, ht⟩), fun ks hk => mkw_in (by decide +kernel) hk⟩) (fcons (fun f fs e => by cases e; exact ⟨C_NoHeap, 1, _, _, by decide, PySem.W.mg_of X G n_NoHeap, MX_NoHeap, (fun H vs ds l _ ht => ⟨ds, l, ht⟩), fun ks hk => mkw_in (by decide +kernel) hk⟩) (fcons (fun f fs e => nomatch e) (fcons (fun f fs e => nomatch e) (fcons (fun f fs e => nomatch e) (fcons (fun f fs e => nomatch e) (fcons (fun f fs e => by cases e; exact ⟨C_NoOne, 1, _, _, by decide, PySem.W.mg_of X G n_NoOne, MX_NoOne, (fun H vs ds l _ ht => ⟨ds, l, ht⟩), fun ks hk => mkw_in (by decide +kernel) hk⟩) (fcons (fun f fs e => by cases e; exact ⟨C_NoEnd, 1, _, _, by decide, PySem.W.mg_of X G n_NoEnd, MX_NoEnd, (fun H vs ds l _ ht => ⟨ds, l, ht⟩), fun ks hk => mkw_in (by decide +kernel) hk⟩) (fcons (fun f fs e => by cases e; exact ⟨C_NoKind, 1, _, _, by decide, PySem.W.mg_of X G n_NoKind, MX_NoKind, (fun H vs ds l _ ht => ⟨ds, l, ht⟩), fun ks hk => mkw_in (by decide +kernel) hk⟩) (fcons (fun f fs e => by cases e; exact ⟨C_NoRule, 1, _, _, by decide, PySem.W.mg_of X G n_NoRule, MX_NoRule, (fun H vs ds l _ ht => ⟨ds, l, ht⟩), fun ks hk => mkw_in (by decide +kernel) hk⟩) (fcons (fun f fs e => by cases e; exact ⟨C_NoSuch, 1, _, _, by decide, PySem.W.mg_of X G n_NoSuch, MX_NoSuch, (fun H vs ds l _ ht => ⟨ds, l, ht⟩), fun ks hk => mkw_in (by decide +kernel) hk⟩) (fcons (fun f fs e => by cases e; exact ⟨C_NoMeeting, 1, _, _, by decide, PySem.W.mg_of X G n_NoMeeting, MX_NoMeeting, (fun H vs ds l _ ht => ⟨ds, l, ht⟩), fun ks hk => mkw_in (by decide +kernel) hk⟩) (fcons (fun f fs e => by cases e; exact ⟨C_Caused, 1, _, _, by decide, PySem.W.mg_of X G n_Caused, MX_Caused, (fun H vs ds l _ ht => ⟨ds, l, ht⟩), fun ks hk => mkw_in (by decide +kernel) hk⟩) (fcons (fun f fs e => nomatch e) (fcons (fun f fs e => by cases e; exact ⟨C_TooMany, 1, _, _, by decide, PySem.W.mg_of X G n_TooMany, MX_TooMany, (fun H vs ds l _ ht => ⟨ds, l, ht⟩), fun ks hk => mkw_in (by decide +kernel) hk⟩) fnil)))))))))))))))))) c (f :: fs) e f fs rfl
    · have hN : ∀ q ∈ ([((Str.ofString "ArithmeticError"), .type "ArithmeticError"), ((Str.ofString "Caused"), .ref C_Caused), ((Str.ofString "FacerError"), .ref C_FacerError), ((Str.ofString "IndexError"), .type "IndexError"), ((Str.ofString "KeyError"), .type "KeyError"), ((Str.ofString "LookupError"), .type "LookupError"), ((Str.ofString "NoBook"), .ref C_NoBook), ((Str.ofString "NoCount"), .ref C_NoCount), ((Str.ofString "NoEnd"), .ref C_NoEnd), ((Str.ofString "NoHeap"), .ref C_NoHeap), ((Str.ofString "NoKind"), .ref C_NoKind), ((Str.ofString "NoKinds"), .ref C_NoKinds), ((Str.ofString "NoMeeting"), .ref C_NoMeeting), ((Str.ofString "NoOne"), .ref C_NoOne), ((Str.ofString "NoRow"), .ref C_NoRow), ((Str.ofString "NoRule"), .ref C_NoRule), ((Str.ofString "NoSuch"), .ref C_NoSuch), ((Str.ofString "NoText"), .ref C_NoText), ((Str.ofString "NoWeb"), .ref C_NoWeb), ((Str.ofString "NoWish"), .ref C_NoWish), ((Str.ofString "RuntimeError"), .type "RuntimeError"), ((Str.ofString "TooMany"), .ref C_TooMany), ((Str.ofString "Unlike"), .ref C_Unlike), ((Str.ofString "ValueError"), .type "ValueError"), ((Str.ofString "ZeroDivisionError"), .type "ZeroDivisionError")] : List (Str × Value)), NRow K mg q := (fcons ⟨.inr ⟨PySem.W.mg_none_of X G z_ArithmeticError, by decide +kernel, by decide⟩, .inr ⟨"ArithmeticError", rfl, by decide +kernel⟩, be_ArithmeticError⟩ (fcons ⟨.inl (PySem.W.mg_of X G n_Caused), .inl ⟨C_Caused, rfl, hd_Caused, ht_Caused⟩, hb_Caused⟩ (fcons ⟨.inl (PySem.W.mg_of X G n_FacerError), .inl ⟨C_FacerError, rfl, hd_FacerError, ht_FacerError⟩, hb_FacerError⟩ (fcons ⟨.inr ⟨PySem.W.mg_none_of X G z_IndexError, by decide +kernel, by decide⟩, .inr ⟨"IndexError", rfl, by decide +kernel⟩, be_IndexError⟩ (fcons ⟨.inr ⟨PySem.W.mg_none_of X G z_KeyError, by decide +kernel, by decide⟩, .inr ⟨"KeyError", rfl, by decide +kernel⟩, be_KeyError⟩ (fcons ⟨.inr ⟨PySem.W.mg_none_of X G z_LookupError, by decide +kernel, by decide⟩, .inr ⟨"LookupError", rfl, by decide +kernel⟩, be_LookupError⟩ (fcons ⟨.inl (PySem.W.mg_of X G n_NoBook), .inl ⟨C_NoBook, rfl, hd_NoBook, ht_NoBook⟩, hb_NoBook⟩ (fcons ⟨.inl (PySem.W.mg_of X G n_NoCount), .inl ⟨C_NoCount, rfl, hd_NoCount, ht_NoCount⟩, hb_NoCount⟩ (fcons ⟨.inl (PySem.W.mg_of X G n_NoEnd), .inl ⟨C_NoEnd, rfl, hd_NoEnd, ht_NoEnd⟩, hb_NoEnd⟩ (fcons ⟨.inl (PySem.W.mg_of X G n_NoHeap), .inl ⟨C_NoHeap, rfl, hd_NoHeap, ht_NoHeap⟩, hb_NoHeap⟩ (fcons ⟨.inl (PySem.W.mg_of X G n_NoKind), .inl ⟨C_NoKind, rfl, hd_NoKind, ht_NoKind⟩, hb_NoKind⟩ (fcons ⟨.inl (PySem.W.mg_of X G n_NoKinds), .inl ⟨C_NoKinds, rfl, hd_NoKinds, ht_NoKinds⟩, hb_NoKinds⟩ (fcons ⟨.inl (PySem.W.mg_of X G n_NoMeeting), .inl ⟨C_NoMeeting, rfl, hd_NoMeeting, ht_NoMeeting⟩, hb_NoMeeting⟩ (fcons ⟨.inl (PySem.W.mg_of X G n_NoOne), .inl ⟨C_NoOne, rfl, hd_NoOne, ht_NoOne⟩, hb_NoOne⟩ (fcons ⟨.inl (PySem.W.mg_of X G n_NoRow), .inl ⟨C_NoRow, rfl, hd_NoRow, ht_NoRow⟩, hb_NoRow⟩ (fcons ⟨.inl (PySem.W.mg_of X G n_NoRule), .inl ⟨C_NoRule, rfl, hd_NoRule, ht_NoRule⟩, hb_NoRule⟩ (fcons ⟨.inl (PySem.W.mg_of X G n_NoSuch), .inl ⟨C_NoSuch, rfl, hd_NoSuch, ht_NoSuch⟩, hb_NoSuch⟩ (fcons ⟨.inl (PySem.W.mg_of X G n_NoText), .inl ⟨C_NoText, rfl, hd_NoText, ht_NoText⟩, hb_NoText⟩ (fcons ⟨.inl (PySem.W.mg_of X G n_NoWeb), .inl ⟨C_NoWeb, rfl, hd_NoWeb, ht_NoWeb⟩, hb_NoWeb⟩ (fcons ⟨.inl (PySem.W.mg_of X G n_NoWish), .inl ⟨C_NoWish, rfl, hd_NoWish, ht_NoWish⟩, hb_NoWish⟩ (fcons ⟨.inr ⟨PySem.W.mg_none_of X G z_RuntimeError, by decide +kernel, by decide⟩, .inr ⟨"RuntimeError", rfl, by decide +kernel⟩, be_RuntimeError⟩ (fcons ⟨.inl (PySem.W.mg_of X G n_TooMany), .inl ⟨C_TooMany, rfl, hd_TooMany, ht_TooMany⟩, hb_TooMany⟩ (fcons ⟨.inl (PySem.W.mg_of X G n_Unlike), .inl ⟨C_Unlike, rfl, hd_Unlike, ht_Unlike⟩, hb_Unlike⟩ (fcons ⟨.inr ⟨PySem.W.mg_none_of X G z_ValueError, by decide +kernel, by decide⟩, .inr ⟨"ValueError", rfl, by decide +kernel⟩, be_ValueError⟩ (fcons ⟨.inr ⟨PySem.W.mg_none_of X G z_ZeroDivisionError, by decide +kernel, by decide⟩, .inr ⟨"ZeroDivisionError", rfl, by decide +kernel⟩, be_ZeroDivisionError⟩ fnil)))))))))))))))))))))))))
      have hC : ∀ r ∈ ([⟨(Str.ofString "FacerError"), C_FacerError, [.ref C_FacerError, .type "ValueError", .type "Exception", .type "BaseException", .type "object"], [(Str.ofString "FacerError"), (Str.ofString "ValueError")]⟩, ⟨(Str.ofString "NoKinds"), C_NoKinds, [.ref C_NoKinds, .ref C_FacerError, .type "ValueError", .type "Exception", .type "BaseException", .type "object"], [(Str.ofString "NoKinds"), (Str.ofString "FacerError"), (Str.ofString "ValueError")]⟩, ⟨(Str.ofString "NoWeb"), C_NoWeb, [.ref C_NoWeb, .ref C_FacerError, .type "ValueError", .type "Exception", .type "BaseException", .type "object"], [(Str.ofString "NoWeb"), (Str.ofString "FacerError"), (Str.ofString "ValueError")]⟩, ⟨(Str.ofString "NoBook"), C_NoBook, [.ref C_NoBook, .ref C_FacerError, .type "ValueError", .type "Exception", .type "BaseException", .type "object"], [(Str.ofString "NoBook"), (Str.ofString "FacerError"), (Str.ofString "ValueError")]⟩, ⟨(Str.ofString "NoHeap"), C_NoHeap, [.ref C_NoHeap, .ref C_FacerError, .type "ValueError", .type "Exception", .type "BaseException", .type "object"], [(Str.ofString "NoHeap"), (Str.ofString "FacerError"), (Str.ofString "ValueError")]⟩, ⟨(Str.ofString "NoText"), C_NoText, [.ref C_NoText, .ref C_FacerError, .type "ValueError", .type "Exception", .type "BaseException", .type "object"], [(Str.ofString "NoText"), (Str.ofString "FacerError"), (Str.ofString "ValueError")]⟩, ⟨(Str.ofString "NoWish"), C_NoWish, [.ref C_NoWish, .ref C_FacerError, .type "ValueError", .type "Exception", .type "BaseException", .type "object"], [(Str.ofString "NoWish"), (Str.ofString "FacerError"), (Str.ofString "ValueError")]⟩, ⟨(Str.ofString "NoCount"), C_NoCount, [.ref C_NoCount, .ref C_FacerError, .type "ValueError", .type "Exception", .type "BaseException", .type "object"], [(Str.ofString "NoCount"), (Str.ofString "FacerError"), (Str.ofString "ValueError")]⟩, ⟨(Str.ofString "NoRow"), C_NoRow, [.ref C_NoRow, .ref C_FacerError, .type "ValueError", .type "Exception", .type "BaseException", .type "object"], [(Str.ofString "NoRow"), (Str.ofString "FacerError"), (Str.ofString "ValueError")]⟩, ⟨(Str.ofString "NoOne"), C_NoOne, [.ref C_NoOne, .type "LookupError", .type "Exception", .type "BaseException", .type "object"], [(Str.ofString "NoOne"), (Str.ofString "LookupError")]⟩, ⟨(Str.ofString "NoEnd"), C_NoEnd, [.ref C_NoEnd, .type "LookupError", .type "Exception", .type "BaseException", .type "object"], [(Str.ofString "NoEnd"), (Str.ofString "LookupError")]⟩, ⟨(Str.ofString "NoKind"), C_NoKind, [.ref C_NoKind, .type "KeyError", .type "LookupError", .type "Exception", .type "BaseException", .type "object"], [(Str.ofString "NoKind"), (Str.ofString "KeyError"), (Str.ofString "LookupError")]⟩, ⟨(Str.ofString "NoRule"), C_NoRule, [.ref C_NoRule, .type "KeyError", .type "LookupError", .type "Exception", .type "BaseException", .type "object"], [(Str.ofString "NoRule"), (Str.ofString "KeyError"), (Str.ofString "LookupError")]⟩, ⟨(Str.ofString "NoSuch"), C_NoSuch, [.ref C_NoSuch, .type "KeyError", .type "LookupError", .type "Exception", .type "BaseException", .type "object"], [(Str.ofString "NoSuch"), (Str.ofString "KeyError"), (Str.ofString "LookupError")]⟩, ⟨(Str.ofString "NoMeeting"), C_NoMeeting, [.ref C_NoMeeting, .type "RuntimeError", .type "Exception", .type "BaseException", .type "object"], [(Str.ofString "NoMeeting"), (Str.ofString "RuntimeError")]⟩, ⟨(Str.ofString "Caused"), C_Caused, [.ref C_Caused, .type "RuntimeError", .type "Exception", .type "BaseException", .type "object"], [(Str.ofString "Caused"), (Str.ofString "RuntimeError")]⟩, ⟨(Str.ofString "Unlike"), C_Unlike, [.ref C_Unlike, .type "RuntimeError", .type "Exception", .type "BaseException", .type "object"], [(Str.ofString "Unlike"), (Str.ofString "RuntimeError")]⟩, ⟨(Str.ofString "TooMany"), C_TooMany, [.ref C_TooMany, .type "ArithmeticError", .type "Exception", .type "BaseException", .type "object"], [(Str.ofString "TooMany"), (Str.ofString "ArithmeticError")]⟩] : List CRow), CRow.ok K mg r := (fcons ⟨PySem.W.mg_of X G n_FacerError, xf_FacerError, cls_mro xl_FacerError, mro_self _ _⟩ (fcons ⟨PySem.W.mg_of X G n_NoKinds, xf_NoKinds, cls_mro xl_NoKinds, mro_self _ _⟩ (fcons ⟨PySem.W.mg_of X G n_NoWeb, xf_NoWeb, cls_mro xl_NoWeb, mro_self _ _⟩ (fcons ⟨PySem.W.mg_of X G n_NoBook, xf_NoBook, cls_mro xl_NoBook, mro_self _ _⟩ (fcons ⟨PySem.W.mg_of X G n_NoHeap, xf_NoHeap, cls_mro xl_NoHeap, mro_self _ _⟩ (fcons ⟨PySem.W.mg_of X G n_NoText, xf_NoText, cls_mro xl_NoText, mro_self _ _⟩ (fcons ⟨PySem.W.mg_of X G n_NoWish, xf_NoWish, cls_mro xl_NoWish, mro_self _ _⟩ (fcons ⟨PySem.W.mg_of X G n_NoCount, xf_NoCount, cls_mro xl_NoCount, mro_self _ _⟩ (fcons ⟨PySem.W.mg_of X G n_NoRow, xf_NoRow, cls_mro xl_NoRow, mro_self _ _⟩ (fcons ⟨PySem.W.mg_of X G n_NoOne, xf_NoOne, cls_mro xl_NoOne, mro_self _ _⟩ (fcons ⟨PySem.W.mg_of X G n_NoEnd, xf_NoEnd, cls_mro xl_NoEnd, mro_self _ _⟩ (fcons ⟨PySem.W.mg_of X G n_NoKind, xf_NoKind, cls_mro xl_NoKind, mro_self _ _⟩ (fcons ⟨PySem.W.mg_of X G n_NoRule, xf_NoRule, cls_mro xl_NoRule, mro_self _ _⟩ (fcons ⟨PySem.W.mg_of X G n_NoSuch, xf_NoSuch, cls_mro xl_NoSuch, mro_self _ _⟩ (fcons ⟨PySem.W.mg_of X G n_NoMeeting, xf_NoMeeting, cls_mro xl_NoMeeting, mro_self _ _⟩ (fcons ⟨PySem.W.mg_of X G n_Caused, xf_Caused, cls_mro xl_Caused, mro_self _ _⟩ (fcons ⟨PySem.W.mg_of X G n_Unlike, xf_Unlike, cls_mro xl_Unlike, mro_self _ _⟩ (fcons ⟨PySem.W.mg_of X G n_TooMany, xf_TooMany, cls_mro xl_TooMany, mro_self _ _⟩ fnil))))))))))))))))))
      have e' : (abvL.lookup c).bind (fun ab => if askL.contains d then some (ab.contains d) else none) = some b := e
      cases q : abvL.lookup c with
      | none => rw [q] at e'; cases e'
      | some ab =>
        rw [q, Option.bind_some] at e'
        split at e'
        · rename_i hk
          cases e'
          exact sub_all hC hN sb_all (lookup_mem (L := abvL) q) (List.contains_iff_mem.mp hk)
        · cases e'
  have M1 : ModF T_1 3 P w K mg base := M0.add (PySem.W.mg_of X G a0) k0 b0 (dfn M0 F0 sc__law_pot rfl ck__law_pot) (by intro qs e; exact absurd e (by rw [kw__law_pot]; exact fun z => nomatch z))
  have M2 : ModF T_2 4 P w K mg base := M1.add (PySem.W.mg_of X G a1) k1 b1 (ok_take F1 (PySem.W.mg_none_of X G z_divmod)) (by intro qs e; exact absurd e (by rw [kw__law_take]; exact fun z => nomatch z))
  have M3 : ModF T_3 5 P w K mg base := M2.add (PySem.W.mg_of X G a2) k2 b2 (dfn M2 F2 sc__law_odd rfl ck__law_odd) (by intro qs e; exact absurd e (by rw [kw__law_odd]; exact fun z => nomatch z))
  have M4 : ModF T_4 6 P w K mg base := M3.add (PySem.W.mg_of X G a3) k3 b3 (dfn M3 F3 sc__law_under rfl ck__law_under) (by intro qs e; exact absurd e (by rw [kw__law_under]; exact fun z => nomatch z))
  have M5 : ModF T_5 7 P w K mg base := M4.add (PySem.W.mg_of X G a4) k4 b4 (dfn M4 F4 sc__law_stands rfl ck__law_stands) (by intro qs e; exact absurd e (by rw [kw__law_stands]; exact fun z => nomatch z))
  have M6 : ModF T_6 8 P w K mg base := M5.add (PySem.W.mg_of X G a5) k5 b5 (dfn M5 F5 sc__law_fields_right rfl ck__law_fields_right) (by intro qs e; exact absurd e (by rw [kw__law_fields_right]; exact fun z => nomatch z))
  exact dfn M6 F6 sc_law rfl ck_law
end K19
open PySem PySem.W PyProof.Rows
set_option maxHeartbeats 0 in
theorem PySem.Challenge.cw_onefacers_k19_errors_made_holds : PySem.Challenge.rw_onefacers_k19_errors_made.Holds := by
  w_on; o_law; k_head; (case hw => w_witness2)
  k_fill
  refine Ev.walk_G (l := PySem.Challenge.rw_onefacers_k19_errors_made) (n := 63) (k := 9) (x := "_law_script") (fi := K19.fi_law) (by decide +kernel) rfl (by decide) rfl ⟨rfl, by decide, by decide⟩ (fun w h Y => PySem.W.kIn_of Y) ?F rfl K19.law_true
  case F =>
    intro w mg fa h KX G hmg
    refine' K19.all_mk KX G hmg ?n_FacerError ?hd_FacerError ?ht_FacerError ?hb_FacerError ?n_NoKinds ?hd_NoKinds ?ht_NoKinds ?hb_NoKinds ?n_NoWeb ?hd_NoWeb ?ht_NoWeb ?hb_NoWeb ?n_NoBook ?hd_NoBook ?ht_NoBook ?hb_NoBook ?n_NoHeap ?hd_NoHeap ?ht_NoHeap ?hb_NoHeap ?n_NoText ?hd_NoText ?ht_NoText ?hb_NoText ?n_NoWish ?hd_NoWish ?ht_NoWish ?hb_NoWish ?n_NoCount ?hd_NoCount ?ht_NoCount ?hb_NoCount ?n_NoRow ?hd_NoRow ?ht_NoRow ?hb_NoRow ?n_NoOne ?hd_NoOne ?ht_NoOne ?hb_NoOne ?n_NoEnd ?hd_NoEnd ?ht_NoEnd ?hb_NoEnd ?n_NoKind ?hd_NoKind ?ht_NoKind ?hb_NoKind ?n_NoRule ?hd_NoRule ?ht_NoRule ?hb_NoRule ?n_NoSuch ?hd_NoSuch ?ht_NoSuch ?hb_NoSuch ?n_NoMeeting ?hd_NoMeeting ?ht_NoMeeting ?hb_NoMeeting ?n_Caused ?hd_Caused ?ht_Caused ?hb_Caused ?n_Unlike ?hd_Unlike ?ht_Unlike ?hb_Unlike ?n_TooMany ?hd_TooMany ?ht_TooMany ?hb_TooMany ?ga_FacerError ?gt_FacerError ?gc_FacerError ?hm_FacerError ?kp_FacerError ?xl_FacerError ?ex_FacerError ?ga_NoKinds ?gt_NoKinds ?gc_NoKinds ?hm_NoKinds ?kp_NoKinds ?xl_NoKinds ?sa_NoKinds ?no_NoKinds_what ?no_NoKinds_who ?ia_NoKinds ?it_NoKinds ?il_NoKinds ?ic_NoKinds ?ik_NoKinds ?ga_NoWeb ?gt_NoWeb ?gc_NoWeb ?hm_NoWeb ?kp_NoWeb ?xl_NoWeb ?sa_NoWeb ?no_NoWeb_what ?no_NoWeb_who ?ia_NoWeb ?it_NoWeb ?il_NoWeb ?ic_NoWeb ?ik_NoWeb ?ga_NoBook ?gt_NoBook ?gc_NoBook ?hm_NoBook ?kp_NoBook ?xl_NoBook ?sa_NoBook ?no_NoBook_what ?no_NoBook_number ?ia_NoBook ?it_NoBook ?il_NoBook ?ic_NoBook ?ik_NoBook ?ga_NoHeap ?gt_NoHeap ?gc_NoHeap ?hm_NoHeap ?kp_NoHeap ?xl_NoHeap ?sa_NoHeap ?no_NoHeap_who ?ia_NoHeap ?it_NoHeap ?il_NoHeap ?ic_NoHeap ?ik_NoHeap ?ga_NoText ?gt_NoText ?gc_NoText ?hm_NoText ?kp_NoText ?xl_NoText ?ex_NoText ?ga_NoWish ?gt_NoWish ?gc_NoWish ?hm_NoWish ?kp_NoWish ?xl_NoWish ?ex_NoWish ?ga_NoCount ?gt_NoCount ?gc_NoCount ?hm_NoCount ?kp_NoCount ?xl_NoCount ?ex_NoCount ?ga_NoRow ?gt_NoRow ?gc_NoRow ?hm_NoRow ?kp_NoRow ?xl_NoRow ?ex_NoRow ?ga_NoOne ?gt_NoOne ?gc_NoOne ?hm_NoOne ?kp_NoOne ?xl_NoOne ?sa_NoOne ?no_NoOne_who ?ia_NoOne ?it_NoOne ?il_NoOne ?ic_NoOne ?ik_NoOne ?ga_NoEnd ?gt_NoEnd ?gc_NoEnd ?hm_NoEnd ?kp_NoEnd ?xl_NoEnd ?sa_NoEnd ?no_NoEnd_end ?ia_NoEnd ?it_NoEnd ?il_NoEnd ?ic_NoEnd ?ik_NoEnd ?ga_NoKind ?gt_NoKind ?gc_NoKind ?hm_NoKind ?kp_NoKind ?xl_NoKind ?sa_NoKind ?no_NoKind_word ?ia_NoKind ?it_NoKind ?il_NoKind ?ic_NoKind ?ik_NoKind ?ga_NoRule ?gt_NoRule ?gc_NoRule ?hm_NoRule ?kp_NoRule ?xl_NoRule ?sa_NoRule ?no_NoRule_pair ?ia_NoRule ?it_NoRule ?il_NoRule ?ic_NoRule ?ik_NoRule ?ga_NoSuch ?gt_NoSuch ?gc_NoSuch ?hm_NoSuch ?kp_NoSuch ?xl_NoSuch ?sa_NoSuch ?no_NoSuch_who ?ia_NoSuch ?it_NoSuch ?il_NoSuch ?ic_NoSuch ?ik_NoSuch ?ga_NoMeeting ?gt_NoMeeting ?gc_NoMeeting ?hm_NoMeeting ?kp_NoMeeting ?xl_NoMeeting ?sa_NoMeeting ?no_NoMeeting_who ?ia_NoMeeting ?it_NoMeeting ?il_NoMeeting ?ic_NoMeeting ?ik_NoMeeting ?ga_Caused ?gt_Caused ?gc_Caused ?hm_Caused ?kp_Caused ?xl_Caused ?sa_Caused ?no_Caused_by ?ia_Caused ?it_Caused ?il_Caused ?ic_Caused ?ik_Caused ?ga_Unlike ?gt_Unlike ?gc_Unlike ?hm_Unlike ?kp_Unlike ?xl_Unlike ?ex_Unlike ?ga_TooMany ?gt_TooMany ?gc_TooMany ?hm_TooMany ?kp_TooMany ?xl_TooMany ?sa_TooMany ?no_TooMany_limit ?ia_TooMany ?it_TooMany ?il_TooMany ?ic_TooMany ?ik_TooMany ?vi_ArithmeticError ?vg_FacerError ?vr_FacerError ?vk_FacerError ?vi_FacerError ?vi_KeyError ?vi_LookupError ?vi_RuntimeError ?be_ArithmeticError ?be_IndexError ?be_KeyError ?be_LookupError ?be_RuntimeError ?be_ValueError ?be_ZeroDivisionError ?sp_c ?tk_c ?sb_all ?a0 ?l0 ?c0 ?k0 ?a1 ?l1 ?c1 ?k1 ?a2 ?l2 ?c2 ?k2 ?a3 ?l3 ?c3 ?k3 ?a4 ?l4 ?c4 ?k4 ?a5 ?l5 ?c5 ?k5 ?a6 ?l6 ?c6 ?k6 ?z_ArithmeticError ?z_IndexError ?z_KeyError ?z_LookupError ?z_RuntimeError ?z_ValueError ?z_ZeroDivisionError ?z_all ?z_bool ?z_dict ?z_divmod ?z_int ?z_isinstance ?z_len ?z_list ?z_max ?z_min ?z_range ?z_repr ?z_str ?z_tuple
    (case n_FacerError => k_is); (case hd_FacerError => k_is); (case ht_FacerError => k_is); (case hb_FacerError => k_is); (case n_NoKinds => k_is); (case hd_NoKinds => k_is); (case ht_NoKinds => k_is); (case hb_NoKinds => k_is); (case n_NoWeb => k_is); (case hd_NoWeb => k_is); (case ht_NoWeb => k_is); (case hb_NoWeb => k_is); (case n_NoBook => k_is); (case hd_NoBook => k_is); (case ht_NoBook => k_is); (case hb_NoBook => k_is); (case n_NoHeap => k_is); (case hd_NoHeap => k_is); (case ht_NoHeap => k_is); (case hb_NoHeap => k_is); (case n_NoText => k_is); (case hd_NoText => k_is); (case ht_NoText => k_is); (case hb_NoText => k_is); (case n_NoWish => k_is); (case hd_NoWish => k_is); (case ht_NoWish => k_is); (case hb_NoWish => k_is); (case n_NoCount => k_is); (case hd_NoCount => k_is); (case ht_NoCount => k_is); (case hb_NoCount => k_is); (case n_NoRow => k_is); (case hd_NoRow => k_is); (case ht_NoRow => k_is); (case hb_NoRow => k_is); (case n_NoOne => k_is); (case hd_NoOne => k_is); (case ht_NoOne => k_is); (case hb_NoOne => k_is); (case n_NoEnd => k_is); (case hd_NoEnd => k_is); (case ht_NoEnd => k_is); (case hb_NoEnd => k_is); (case n_NoKind => k_is); (case hd_NoKind => k_is); (case ht_NoKind => k_is); (case hb_NoKind => k_is); (case n_NoRule => k_is); (case hd_NoRule => k_is); (case ht_NoRule => k_is); (case hb_NoRule => k_is); (case n_NoSuch => k_is); (case hd_NoSuch => k_is); (case ht_NoSuch => k_is); (case hb_NoSuch => k_is); (case n_NoMeeting => k_is); (case hd_NoMeeting => k_is); (case ht_NoMeeting => k_is); (case hb_NoMeeting => k_is); (case n_Caused => k_is); (case hd_Caused => k_is); (case ht_Caused => k_is); (case hb_Caused => k_is); (case n_Unlike => k_is); (case hd_Unlike => k_is); (case ht_Unlike => k_is); (case hb_Unlike => k_is); (case n_TooMany => k_is); (case hd_TooMany => k_is); (case ht_TooMany => k_is); (case hb_TooMany => k_is); (case ga_FacerError => k_is); (case gt_FacerError => k_is); (case gc_FacerError => k_is); (case hm_FacerError => k_is); (case kp_FacerError => k_is); (case xl_FacerError => k_is); (case ex_FacerError => k_exc); (case ga_NoKinds => k_is); (case gt_NoKinds => k_is); (case gc_NoKinds => k_is); (case hm_NoKinds => k_is); (case kp_NoKinds => k_is); (case xl_NoKinds => k_is); (case sa_NoKinds => k_is); (case no_NoKinds_what => k_is); (case no_NoKinds_who => k_is); (case ia_NoKinds => k_is); (case it_NoKinds => k_is); (case il_NoKinds => k_is); (case ic_NoKinds => k_is); (case ik_NoKinds => k_is); (case ga_NoWeb => k_is); (case gt_NoWeb => k_is); (case gc_NoWeb => k_is); (case hm_NoWeb => k_is); (case kp_NoWeb => k_is); (case xl_NoWeb => k_is); (case sa_NoWeb => k_is); (case no_NoWeb_what => k_is); (case no_NoWeb_who => k_is); (case ia_NoWeb => k_is); (case it_NoWeb => k_is); (case il_NoWeb => k_is); (case ic_NoWeb => k_is); (case ik_NoWeb => k_is); (case ga_NoBook => k_is); (case gt_NoBook => k_is); (case gc_NoBook => k_is); (case hm_NoBook => k_is); (case kp_NoBook => k_is); (case xl_NoBook => k_is); (case sa_NoBook => k_is); (case no_NoBook_what => k_is); (case no_NoBook_number => k_is); (case ia_NoBook => k_is); (case it_NoBook => k_is); (case il_NoBook => k_is); (case ic_NoBook => k_is); (case ik_NoBook => k_is); (case ga_NoHeap => k_is); (case gt_NoHeap => k_is); (case gc_NoHeap => k_is); (case hm_NoHeap => k_is); (case kp_NoHeap => k_is); (case xl_NoHeap => k_is); (case sa_NoHeap => k_is); (case no_NoHeap_who => k_is); (case ia_NoHeap => k_is); (case it_NoHeap => k_is); (case il_NoHeap => k_is); (case ic_NoHeap => k_is); (case ik_NoHeap => k_is); (case ga_NoText => k_is); (case gt_NoText => k_is); (case gc_NoText => k_is); (case hm_NoText => k_is); (case kp_NoText => k_is); (case xl_NoText => k_is); (case ex_NoText => k_exc); (case ga_NoWish => k_is); (case gt_NoWish => k_is); (case gc_NoWish => k_is); (case hm_NoWish => k_is); (case kp_NoWish => k_is); (case xl_NoWish => k_is); (case ex_NoWish => k_exc); (case ga_NoCount => k_is); (case gt_NoCount => k_is); (case gc_NoCount => k_is); (case hm_NoCount => k_is); (case kp_NoCount => k_is); (case xl_NoCount => k_is); (case ex_NoCount => k_exc); (case ga_NoRow => k_is); (case gt_NoRow => k_is); (case gc_NoRow => k_is); (case hm_NoRow => k_is); (case kp_NoRow => k_is); (case xl_NoRow => k_is); (case ex_NoRow => k_exc); (case ga_NoOne => k_is); (case gt_NoOne => k_is); (case gc_NoOne => k_is); (case hm_NoOne => k_is); (case kp_NoOne => k_is); (case xl_NoOne => k_is); (case sa_NoOne => k_is); (case no_NoOne_who => k_is); (case ia_NoOne => k_is); (case it_NoOne => k_is); (case il_NoOne => k_is); (case ic_NoOne => k_is); (case ik_NoOne => k_is); (case ga_NoEnd => k_is); (case gt_NoEnd => k_is); (case gc_NoEnd => k_is); (case hm_NoEnd => k_is); (case kp_NoEnd => k_is); (case xl_NoEnd => k_is); (case sa_NoEnd => k_is); (case no_NoEnd_end => k_is); (case ia_NoEnd => k_is); (case it_NoEnd => k_is); (case il_NoEnd => k_is); (case ic_NoEnd => k_is); (case ik_NoEnd => k_is); (case ga_NoKind => k_is); (case gt_NoKind => k_is); (case gc_NoKind => k_is); (case hm_NoKind => k_is); (case kp_NoKind => k_is); (case xl_NoKind => k_is); (case sa_NoKind => k_is); (case no_NoKind_word => k_is); (case ia_NoKind => k_is); (case it_NoKind => k_is); (case il_NoKind => k_is); (case ic_NoKind => k_is); (case ik_NoKind => k_is); (case ga_NoRule => k_is); (case gt_NoRule => k_is); (case gc_NoRule => k_is); (case hm_NoRule => k_is); (case kp_NoRule => k_is); (case xl_NoRule => k_is); (case sa_NoRule => k_is); (case no_NoRule_pair => k_is); (case ia_NoRule => k_is); (case it_NoRule => k_is); (case il_NoRule => k_is); (case ic_NoRule => k_is); (case ik_NoRule => k_is); (case ga_NoSuch => k_is); (case gt_NoSuch => k_is); (case gc_NoSuch => k_is); (case hm_NoSuch => k_is); (case kp_NoSuch => k_is); (case xl_NoSuch => k_is); (case sa_NoSuch => k_is); (case no_NoSuch_who => k_is); (case ia_NoSuch => k_is); (case it_NoSuch => k_is); (case il_NoSuch => k_is); (case ic_NoSuch => k_is); (case ik_NoSuch => k_is); (case ga_NoMeeting => k_is); (case gt_NoMeeting => k_is); (case gc_NoMeeting => k_is); (case hm_NoMeeting => k_is); (case kp_NoMeeting => k_is); (case xl_NoMeeting => k_is); (case sa_NoMeeting => k_is); (case no_NoMeeting_who => k_is); (case ia_NoMeeting => k_is); (case it_NoMeeting => k_is); (case il_NoMeeting => k_is); (case ic_NoMeeting => k_is); (case ik_NoMeeting => k_is); (case ga_Caused => k_is); (case gt_Caused => k_is); (case gc_Caused => k_is); (case hm_Caused => k_is); (case kp_Caused => k_is); (case xl_Caused => k_is); (case sa_Caused => k_is); (case no_Caused_by => k_is); (case ia_Caused => k_is); (case it_Caused => k_is); (case il_Caused => k_is); (case ic_Caused => k_is); (case ik_Caused => k_is); (case ga_Unlike => k_is); (case gt_Unlike => k_is); (case gc_Unlike => k_is); (case hm_Unlike => k_is); (case kp_Unlike => k_is); (case xl_Unlike => k_is); (case ex_Unlike => k_exc); (case ga_TooMany => k_is); (case gt_TooMany => k_is); (case gc_TooMany => k_is); (case hm_TooMany => k_is); (case kp_TooMany => k_is); (case xl_TooMany => k_is); (case sa_TooMany => k_is); (case no_TooMany_limit => k_is); (case ia_TooMany => k_is); (case it_TooMany => k_is); (case il_TooMany => k_is); (case ic_TooMany => k_is); (case ik_TooMany => k_is); (case vi_ArithmeticError => k_is); (case vg_FacerError => k_is); (case vr_FacerError => k_is); (case vk_FacerError => k_is); (case vi_FacerError => k_is); (case vi_KeyError => k_is); (case vi_LookupError => k_is); (case vi_RuntimeError => k_is); (case be_ArithmeticError => k_is); (case be_IndexError => k_is); (case be_KeyError => k_is); (case be_LookupError => k_is); (case be_RuntimeError => k_is); (case be_ValueError => k_is); (case be_ZeroDivisionError => k_is); (case sp_c => k_is); (case tk_c => k_is); (case sb_all => decide +kernel); (case a0 => k_is); (case l0 => k_is); (case c0 => k_is); (case k0 => k_is); (case a1 => k_is); (case l1 => k_is); (case c1 => k_is); (case k1 => k_is); (case a2 => k_is); (case l2 => k_is); (case c2 => k_is); (case k2 => k_is); (case a3 => k_is); (case l3 => k_is); (case c3 => k_is); (case k3 => k_is); (case a4 => k_is); (case l4 => k_is); (case c4 => k_is); (case k4 => k_is); (case a5 => k_is); (case l5 => k_is); (case c5 => k_is); (case k5 => k_is); (case a6 => k_is); (case l6 => k_is); (case c6 => k_is); (case k6 => k_is); (case z_ArithmeticError => k_is); (case z_IndexError => k_is); (case z_KeyError => k_is); (case z_LookupError => k_is); (case z_RuntimeError => k_is); (case z_ValueError => k_is); (case z_ZeroDivisionError => k_is); (case z_all => k_is); (case z_bool => k_is); (case z_dict => k_is); (case z_divmod => k_is); (case z_int => k_is); (case z_isinstance => k_is); (case z_len => k_is); (case z_list => k_is); (case z_max => k_is); (case z_min => k_is); (case z_range => k_is); (case z_repr => k_is); (case z_str => k_is); (case z_tuple => k_is)
