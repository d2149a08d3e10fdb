import PyProof.Rows.All
import Wide.All
import OpenK.AllK
import Wide.FinOn
import HandS.ExcInit
import KE.KExcInit
import PyProof.FactsTree
import PyProof.RulesRaise
import PyProof.ExcBaseAll.LookupError
import PyProof.ExcBaseAll.ValueError
import PyProof.ExcBaseAll.ZeroDivisionError
import HandS.ExcField
import HandS.ExcIs
import HandS.IsInst
import HandS.ClsMeth
import HandS.MakeKw
import KE.KExcIs
import HandS.Defaults
import HandS.Exc
import HandS.ExcValue
import HandS.ExcOwn
import HandS.ForMost
import HandS.Wide
import HandS.MakeKwOnly
import HandS.OwnEq
import PyProof.NeKinds
import HandS.WideBits
import HandS.TupAny
import HandS.Text
import HandS.Style
import HandS.NoneIn
import HandS.Iter
import KE.KUnpackStar
import HandS.Rev
import KE.KDictList
import PyProof.ReprRoads
import HandS.Words
import HandS.Ends
import HandS.HeadEnd
import HandS.HeadHook4
import HandS.Head2
import HandS.HeadHook2
import HandS.Codes
import HandS.Base
import HandS.Call
import HandS.More
import HandS.WordsExc
import HandS.Head0
import HandS.Head1
import HandS.HeadHook1
import HandS.HeadHook3
import PySem.Challenge.RW_pointhouse_k92_whole_refusals_made_by_ha
set_option Elab.async false
set_option linter.all false
set_option maxRecDepth 100000
set_option maxHeartbeats 4000000
/-! X1: exceptions of own classes over any built-in one: made, their __init__, their fields. -/
namespace PiX
open PySem PySem.Calls
/-- what is wanted of the built-in class B; nb: the class whose __new__ it has -/
structure XBase (B nb newId initId : String) (tl : List Value) : Prop where
  nf : ∃ i l, ExcBaseFacts nb newId i l
  hn : tl.contains (.type nb) = true
  ha : tl.contains (.type "AttributeError") = false
  hm : tl.contains (.type "NameError") = false
  hb : tl.contains (.type "BaseException") = true
  ho : tl.contains (.type "object") = true
  hB : tl.contains (.type B) = true
  ps : ∀ self, refuseLoop self "__setattr__" tl = pure ()
  sl : Slot B "__init__" initId
  en : entryFor table initId = some Builtin.«BaseException.__init__»
  sp : splitId initId = some (B, "__init__")
  kd : builtinKind initId = some .slot
  rw : Manifest.signature? initId = some ⟨.positional, "*", B, .self, [⟨"args", .varPos, false⟩]⟩
  ns : (B != "*") = true
abbrev keyTl : List Value := [.type "KeyError", .type "LookupError", .type "Exception", .type "BaseException", .type "object"]
abbrev valTl : List Value := [.type "ValueError", .type "Exception", .type "BaseException", .type "object"]
abbrev zerTl : List Value := [.type "ZeroDivisionError", .type "ArithmeticError", .type "Exception", .type "BaseException", .type "object"]
theorem xb_val : XBase "ValueError" "ValueError" "ValueError.__new__" "ValueError.__init__" valTl := by
  have f := F.excBase_ValueError
  constructor
  case nf => exact ⟨_, _, f⟩
  case sl => exact f.init
  case en => exact f.initEntry
  case sp => exact f.initSplit
  case kd => exact f.initKind
  case rw => exact f.initRow
  case ps => intro self; kernel_rfl
  all_goals decide +kernel
theorem xb_zer : XBase "ZeroDivisionError" "ZeroDivisionError" "ZeroDivisionError.__new__" "ZeroDivisionError.__init__" zerTl := by
  have f := F.excBase_ZeroDivisionError
  constructor
  case nf => exact ⟨_, _, f⟩
  case sl => exact f.init
  case en => exact f.initEntry
  case sp => exact f.initSplit
  case kd => exact f.initKind
  case rw => exact f.initRow
  case ps => intro self; kernel_rfl
  all_goals decide +kernel
theorem xb_key : XBase "KeyError" "LookupError" "LookupError.__new__" "KeyError.__init__" keyTl := by
  constructor
  case nf => exact ⟨_, _, F.excBase_LookupError⟩
  case sl =>
    refine .of (owner := "KeyError") (n := "__init__") ?_ (by decide +kernel) (by decide +kernel) (by decide +kernel) ?_ ?_
    · rw [typeLookup_type, builtinLookup_eq_fast]
      kernel_rfl
    · first
        | exact .inl (by decide +kernel)
        | exact .inr (by decide +kernel)
    · rw [isSubtype_type]
      kernel_rfl
  case en =>
    refine entryFor_alias (id' := "BaseException.__init__") ?_ ?_ (by decide +kernel) ?_
    · rw [fastTable_eq_tree]
      kernel_rfl
    · first
        | rfl
        | decide +kernel
    · rw [fastTable_eq_tree]
      kernel_rfl
  case sp => kernel_rfl
  case kd => kernel_rfl
  case rw => kernel_rfl
  case ps => intro self; kernel_rfl
  all_goals decide +kernel
/-- an exception object just made -/
abbrev rawX (C t : Addr) : Obj := { cls := .ref C, data := .fields #[.ref t, .none, .none, .none, .bool false, .none] }
section
variable {M : Model} {A : Around} {E : Value → Shared → Prop} {h : Heap} {g : Array GenState} {d : Drawn} {t : Nat} {os : OsState}
variable {nm q : Str} {C N : Addr} {bs bm tl : List Value} {hd : Bool} {sn : List Str} {sub : List Value} {ab : Bool} {col : Option Bool} {dd : Option Addr} {k0 k1 k2 k3 k5 : Option Value} {B nb newId initId : String}
theorem xnew_check (X : XBase B nb newId initId tl) (hT : ∀ s : String, bm.contains (.type s) = tl.contains (.type s)) {r : List Value} {kw : List (Str × Value)} {Q : Unit → Shared → Prop}
    (hC : h.get? C = some (excClassObj nm q C N bs bm hd sn sub ab col dd k0 k1 k2 k3 k5 newId)) (hq : Q () ⟨h, g, d, t, os⟩) :
    wpAny M A (checkBuiltinCall newId ⟨.ref C :: r, kw⟩) Q E ⟨h, g, d, t, os⟩ := by
  obtain ⟨i, l, f⟩ := X.nf
  have c1 : (Value.ref C :: bm).contains (.type nb) = true := by rw [List.contains_cons, hT, X.hn, Bool.or_true]
  have c2 := f.noStar
  simp only [checkBuiltinCall, f.newKind, f.newSplit, f.newRow]
  repeat (first
    | refine wpAny_loadPart_at hC ?_
    | (refine wpAny_isSubtype_exc hC ?_; rw [c1])
    | refine wpAny_staticBase_exc hC ?_
    | refine wpAny_madeBy_exc hC ?_
    | simp only [bne_self_eq_false, Bool.false_eq_true, if_false]
    | wp_step)
  exact hq
theorem xinit_check (X : XBase B nb newId initId tl) (hT : ∀ s : String, bm.contains (.type s) = tl.contains (.type s)) {e : Addr} {oe : Obj} {r : List Value} {Q : Unit → Shared → Prop}
    (hC : h.get? C = some (excClassObj nm q C N bs bm hd sn sub ab col dd k0 k1 k2 k3 k5 newId)) (he : h.get? e = some oe) (hc : oe.cls = .ref C) (hq : Q () ⟨h, g, d, t, os⟩) :
    wpAny M A (checkBuiltinCall initId ⟨.ref e :: r, []⟩) Q E ⟨h, g, d, t, os⟩ := by
  have c1 : (Value.ref C :: bm).contains (.type B) = true := by rw [List.contains_cons, hT, X.hB, Bool.or_true]
  have c2 := X.ns
  simp only [checkBuiltinCall, X.kd, X.sp, X.rw]
  repeat (first
    | (with_reducible refine wpAny_loadPart_at he ?_; rw [hc])
    | with_reducible refine wpAny_loadPart_at hC ?_
    | (with_reducible refine wpAny_isSubtype_exc hC ?_; rw [c1])
    | wp_step)
  refine wpAny_onRaise ?_
  have c3 : ∀ (a b : String) (n : Nat), Bind.check ⟨.positional, "*", B, .self, [⟨"args", .varPos, false⟩]⟩ a b n (List.map (fun x => x.fst) ({ pos := Value.ref e :: r } : Args).kw) = pure () := fun a b n => check_star_args _ _ _ _ _ _
  rw [c3]
  exact wpAny_pure hq
end
section
variable {prog : Program} {w : World} {A : Around} {E : Value → Shared → Prop} {R : Result → Shared → Prop} {h : Heap} {g : Array GenState} {d : Drawn} {t : Nat} {os : OsState}
variable {nm q : Str} {C N : Addr} {bs bm tl : List Value} {hd : Bool} {sn : List Str} {sub : List Value} {ab : Bool} {col : Option Bool} {dd : Option Addr} {k0 k1 k2 k3 k5 : Option Value} {B nb newId initId : String}
theorem xnew (X : XBase B nb newId initId tl) (hT : ∀ s : String, bm.contains (.type s) = tl.contains (.type s)) {r : List Value} {kw : List (Str × Value)}
    (hC : h.get? C = some (excClassObj nm q C N bs bm hd sn sub ab col dd k0 k1 k2 k3 k5 newId)) (hr : r.length ≤ sizeLine)
    (hq : R (.ok (.ret (.ref (h.objs.size + 1)))) ⟨(h.push { cls := .type "tuple", data := .seq r.toArray }).push (rawX C h.objs.size), g, d, t, os⟩) :
    codeAny (model prog w) A (.builtin newId ⟨.ref C :: r, kw⟩) R ⟨h, g, d, t, os⟩ := by
  obtain ⟨i, l, f⟩ := X.nf
  have c0 := f.ends
  have c1 : (Value.ref C :: bm).contains (.type nb) = true := by rw [List.contains_cons, hT, X.hn, Bool.or_true]
  have c2 : (Value.ref C :: bm).contains (.type "AttributeError") = false := by
    rw [List.contains_cons, hT, X.ha]
    rfl
  have c3 : (Value.ref C :: bm).contains (.type "NameError") = false := by
    rw [List.contains_cons, hT, X.hm]
    rfl
  refine codeAny_builtinAt f.entry ?_
  unfold Builtin.«BaseException.__new__»
  refine PySem.wpAt_bind ?_
  show PySem.wpAt _ _ _ (stack >>= _) _ _ _
  refine PySem.wpAt_bind (wpAt_stack fun p b => wpAt_of_wpAny ?_)
  wp_walk
  refine wpAt_of_wpAny ?_
  rw [f.owner]
  repeat (first
    | with_reducible refine wpAny_madeHere_exc f.canon hC ?_
    | with_reducible refine wpAny_loadPart_at hC ?_
    | (with_reducible refine wpAny_isSubtype_exc hC ?_; first | rw [c1] | rw [c2] | rw [c3])
    | wp_step)
  show R _ _
  rw [Heap.size_push]
  exact hq
theorem xtype_call (X : XBase B nb newId initId tl) (hT : ∀ s : String, bm.contains (.type s) = tl.contains (.type s)) {r : List Value} {kw : List (Str × Value)} {fI : Addr} {Q : Fin → Shared → Prop}
    (hC : h.get? C = some (excClassObj nm q C N bs bm hd sn sub ab col dd k0 k1 k2 k3 k5 newId))
    (hi : W.Looks (model prog w) h (typeLookup (.ref C) "__init__") (some (.ref fI))) (hb : ∀ self, W.Looks (model prog w) h (bindSpecial (.ref fI) self) (.ref fI, [self])) (hr : r.length ≤ sizeLine)
    (hq : codeAny (model prog w) A (.call (.ref fI) ⟨.ref (h.objs.size + 1) :: r, kw⟩)
      (fun x s' => match x with | .ok (.ret v) => v = .none ∧ Q (.done (.ret (.ref (h.objs.size + 1)))) s' | .ok _ => False | .error e => E e s')
      ⟨(h.push (W.kdv_tup r)).push (rawX C h.objs.size), g, d, t, os⟩) :
    wpAny (model prog w) A (Builtin.«type.__call__» ⟨.ref C :: r, kw⟩) Q E ⟨h, g, d, t, os⟩ := by
  obtain ⟨i, l, f⟩ := X.nf
  repeat (first
    | with_reducible refine wpAny_loadPart_at hC ?_
    | with_reducible refine wpAny_madeBy_exc hC ?_
    | wp_step)
  refine codeAny_call_builtin_code (Code.quiet_builtin _ f.quiet) (xnew_check X hT hC ?_)
  refine xnew X hT hC hr ?_
  show wpAny _ _ _ _ _ _
  have kk : ∀ b o, h.get? b = some o → ((h.push (W.kdv_tup r)).push (rawX C h.objs.size)).get? b = some o := fun b o e => Heap.get?_push_of_some _ (Heap.get?_push_of_some _ e)
  have hC1 := kk _ _ hC
  have hX : ((h.push (W.kdv_tup r)).push (rawX C h.objs.size)).get? (h.objs.size + 1) = some (rawX C h.objs.size) := by heap_get
  have c4 : (Value.ref C :: bm).contains (.ref C) = true := by simp
  have i1 := hi.keeps kk
  have b1 := (hb (.ref (h.objs.size + 1))).keeps kk
  unfold isInstance
  repeat (first
    | with_reducible refine wpAny_loadPart_at hX ?_
    | (with_reducible refine wpAny_isSubtype_exc hC1 ?_; rw [c4])
    | wp_step)
  show wpAny _ _ (typeLookup (.ref C) _) _ _ _
  refine i1.at ?_
  refine wpAny_holding (wpAny_bind (b1.at ?_))
  refine wpAny_bind (wpAny_call (codeAny_mono hq fun x s' z => ?_))
  rcases x with e | (v | _ | _ | _) <;> first | exact z | exact z.elim | skip
  obtain ⟨rfl, z⟩ := z
  first
    | exact wpAny_pure (wpAny_pure z)
    | (wp_walk; exact z)
theorem xcall (X : XBase B nb newId initId tl) (hT : ∀ s : String, bm.contains (.type s) = tl.contains (.type s)) {r : List Value} {kw : List (Str × Value)} {fI : Addr}
    (hC : h.get? C = some (excClassObj nm q C N bs bm hd sn sub ab col dd k0 k1 k2 k3 k5 newId))
    (hi : W.Looks (model prog w) h (typeLookup (.ref C) "__init__") (some (.ref fI))) (hb : ∀ self, W.Looks (model prog w) h (bindSpecial (.ref fI) self) (.ref fI, [self])) (hr : r.length ≤ sizeLine)
    (hq : codeAny (model prog w) (A.under (.builtin "type.__call__" ⟨.ref C :: r, kw⟩)) (.call (.ref fI) ⟨.ref (h.objs.size + 1) :: r, kw⟩) (W.InitBack (h.objs.size + 1) R)
      ⟨(h.push (W.kdv_tup r)).push (rawX C h.objs.size), g, d, t, os⟩) :
    codeAny (model prog w) A (.call (.ref C) ⟨r, kw⟩) R ⟨h, g, d, t, os⟩ := by
  have f1 := tc_lookup
  have f2 := tc_bind (.ref C)
  have hTy : (⟨h, g, d, t, os⟩ : Shared).TypeIs (.ref C) "type" := ⟨_, hC, rfl⟩
  refine codeAny_of_tree ?_
  show wpAny _ _ (callAny (.ref C) _) _ _ _
  repeat (any_goals (first | assumption | with_reducible refine wpAny_loadPart_at hC ?_ | wp_step))
  refine ⟨rfl, ?_⟩
  refine codeAny_call_builtin_at (Code.quiet_builtin _ (by decide +kernel)) entry_typeCall (wpAny_check_type_call_sub hC (xtype_call X hT hC hi hb hr ?_))
  refine codeAny_mono hq fun x s' z => ?_
  rcases x with e | (v | _ | _ | _) <;> exact z
theorem xinit (X : XBase B nb newId initId tl) (hT : ∀ s : String, bm.contains (.type s) = tl.contains (.type s)) {e t0 : Addr} {r : List Value}
    (hC : h.get? C = some (excClassObj nm q C N bs bm hd sn sub ab col dd k0 k1 k2 k3 k5 newId)) (he : h.get? e = some (rawX C t0)) (hr : r.length ≤ sizeLine)
    (hq : ∀ h' t1, (∀ b o, b ≠ e → h.get? b = some o → h'.get? b = some o) → h'.get? e = some (rawX C t1) → R (.ok (.ret .none)) ⟨h', g, d, t, os⟩) :
    codeAny (model prog w) A (.call (.builtin initId) ⟨.ref e :: r, []⟩) R ⟨h, g, d, t, os⟩ := by
  refine codeAny_call_builtin X.sl.plain X.en (xinit_check X hT hC he rfl ?_)
  wp_walk
  refine hq _ h.objs.size (fun b o hb ho => ?_) ?_
  · rw [Heap.get?_update_other _ _ (Ne.symm hb)]
    exact Heap.get?_push_of_some _ ho
  · rw [Heap.get?_update_self _ (Heap.get?_push_of_some _ he) rfl]
    rfl
end
end PiX
set_option Elab.async false
set_option linter.all false
set_option maxRecDepth 100000
set_option maxHeartbeats 4000000
/-! X2: the same over the hand layer: fields stored and read, the base's __init__, a new exception, isinstance. -/
namespace PiX
open PySem PySem.Spec L2
/-- what the written part says of an own exception class -/
structure XCls (K : PySem.W.Frag) (C : Addr) (tl : List Value) (newId : String) : Prop where
  ini : PySem.W.excInitIn K C tl newId = true
  hd : PySem.W.hasDictIn K C = true
  sa : PySem.W.findIn K (.ref C) "__setattr__" = some (some (.builtin "object.__setattr__"))
  kC : PySem.W.keepIn K (.ref C) = true
  ga : PySem.W.findIn K (.ref C) "__getattribute__" = some (some (.builtin "BaseException.__getattribute__"))
  gg : PySem.W.findIn K (.ref C) "__getattr__" = some none
  eC : PySem.W.subIn K (.ref C) (.type "BaseException") = some true
  cl : PySem.W.findIn K (.ref C) "__class__" = some (some (.builtin "object.__class__"))
  cg : PySem.W.specialIn K (.builtin "object.__class__") "__get__" = some (some (.builtin "getset_descriptor.__get__"))
  ct : PySem.W.takesIn K (.builtin "object.__class__") = some true
  om : PySem.W.mroIn K C (.type "object") = some true
def xclB (K : PySem.W.Frag) (C : Addr) (tl : List Value) (newId : String) : Bool :=
  PySem.W.excInitIn K C tl newId && (PySem.W.hasDictIn K C && (decide (PySem.W.findIn K (.ref C) "__setattr__" = some (some (.builtin "object.__setattr__"))) &&
  (PySem.W.keepIn K (.ref C) && (decide (PySem.W.findIn K (.ref C) "__getattribute__" = some (some (.builtin "BaseException.__getattribute__"))) &&
  (decide (PySem.W.findIn K (.ref C) "__getattr__" = some none) && (decide (PySem.W.subIn K (.ref C) (.type "BaseException") = some true) &&
  (decide (PySem.W.findIn K (.ref C) "__class__" = some (some (.builtin "object.__class__"))) &&
  (decide (PySem.W.specialIn K (.builtin "object.__class__") "__get__" = some (some (.builtin "getset_descriptor.__get__"))) &&
  (decide (PySem.W.takesIn K (.builtin "object.__class__") = some true) && decide (PySem.W.mroIn K C (.type "object") = some true))))))))))
theorem xclB_ok {K : PySem.W.Frag} {C : Addr} {tl : List Value} {newId : String} (h : xclB K C tl newId = true) : XCls K C tl newId := by
  unfold xclB at h
  simp only [Bool.and_eq_true, decide_eq_true_eq] at h
  obtain ⟨h1, h2, h3, h4, h5, h6, h7, h8, h9, h10, h11⟩ := h
  exact ⟨h1, h2, h3, h4, h5, h6, h7, h8, h9, h10, h11⟩
theorem XCls.cd {K : PySem.W.Frag} {C : Addr} {tl : List Value} {newId : String} (T : XCls K C tl newId) : ∃ cd bm, PySem.W.clsIn K C = some cd ∧ cd.mro = .ref C :: bm ∧ PySem.W.excTail tl bm = true ∧ cd.hasDict = true := by
  have hi := T.ini
  have hh := T.hd
  unfold PySem.W.excInitIn at hi
  split at hi
  · rename_i dd cd sl ho
    split at hi
    · rename_i C' bm k0 k1 k2 k3 n k5 hm hs
      simp only [Bool.and_eq_true, beq_iff_eq, Bool.not_eq_true'] at hi
      obtain ⟨⟨⟨rfl, rfl⟩, hdel⟩, ht⟩ := hi
      have hc : PySem.W.clsIn K C' = some cd := by unfold PySem.W.clsIn; rw [ho]
      refine ⟨cd, bm, hc, hm, ht, ?_⟩
      unfold PySem.W.hasDictIn at hh
      rw [hc] at hh
      exact hh
    · cases hi
  · cases hi
section
variable {prog : Program} {w : World} {A : Around} {R : Result → Shared → Prop} {hp : Heap} {g : Array GenState} {d : Drawn} {t : Nat} {os : OsState} {K : PySem.W.Frag} {C x : Addr} {cd : ClassData} {fv : Array Value} {f : Str} {tk : Tok} {v : Value}
open Builtin.ObjectAttr in
/-- object.__setattr__ of an exception that has no dict as yet -/
theorem xsa_new (KI : K.In hp) (hx : hp.get? x = some { cls := .ref C, data := .fields fv }) (hcd : PySem.W.clsIn K C = some cd) (hne : cd.mro.isEmpty = false) (hob : cd.mro.contains (.type "object") = true)
    (hps : refuseLoop (.ref x) "__setattr__" cd.mro = pure ()) (hh : cd.hasDict = true) (ha : PySem.W.findIn K (.ref C) f = some none)
    (hq : ∀ h' tk' dx, (∀ b o, b ≠ x → hp.get? b = some o → h'.get? b = some o) → hp.objs.size ≤ dx → dx ≠ x → h'.get? x = some { cls := .ref C, dict := some dx, data := .fields fv } →
      h'.Ns1 dx (fun y => if y = f then some v else none) → R (.ok (.ret .none)) ⟨h', g, d, tk', os⟩) :
    codeAny (model prog w) A (.call (.builtin "object.__setattr__") ⟨[.ref x, .str f tk, v], []⟩) R ⟨hp, g, d, t, os⟩ := by
  have I : PySem.W.InstAt hp x { cls := .ref C, data := .fields fv } C none := ⟨hx, rfl, rfl, trivial⟩
  have SF := F.store_object
  have hxs : x ≠ hp.objs.size := Nat.ne_of_lt (Heap.lt_size hx)
  have sub : PySem.W.Looks (model prog w) hp (isInstance (.ref x) (.type "object")) true := I.type.andThen (PySem.W.looks_mroIn KI (by
    unfold PySem.W.mroIn
    rw [hcd, Option.bind_some, if_neg (by rw [hne]; decide), hob]))
  have chk := @PySem.W.check_slot (model prog w) A.in1 (fun e s' => R (.error e) s') ⟨hp, g, d, t, os⟩ "object.__setattr__" "object" "__setattr__" (.ref x) [.str f tk, v] []
  refine codeAny_call_builtin SF.slot.plain SF.entry (chk SF.kind SF.split sub (SF.args (.ref x) (.str f tk) v) ?_)
  have hmr : PySem.W.Looks (model prog w) hp (mroOf (.ref C)) cd.mro := (PySem.W.looks_clsIn KI hcd).andThen .now
  have L3 : PySem.W.Looks (model prog w) hp (storeTaker? none) none := .now
  have hcls : PySem.W.Looks (model prog w) hp (classData C) cd := PySem.W.looks_clsIn KI hcd
  rw [PySem.W.osa_eq, refuse_eq]
  refine wpAny_bind (wpAny_bind (I.type.at (wpAny_bind (hmr.at ?_))))
  rw [hps]
  refine wpAny_pure (wpAny_bind (I.type.at (wpAny_bind ((PySem.W.looks_findIn KI ha).at (wpAny_bind (L3.at ?_))))))
  show wpAny _ _ (storeInOwnDict (.ref x) (.ref C) (.str f tk) f v false) _ _ _
  obtain ⟨c1, c2, c3, c4, c5, hd, c7, c8, c9, c10, c11⟩ := cd
  dsimp only at hh
  subst hh
  unfold storeInOwnDict ownDictForStores
  repeat (first
    | with_reducible refine PySem.HandSPX.store_in_new ?_ ?_
    | with_reducible refine wpAny_loadPart_at hx ?_
    | with_reducible refine hcls.at ?_
    | wp_step)
  · exact ⟨_, #[], _, (Heap.get?_update_ne _ _ _ _ hxs.symm).trans (Heap.get?_push_at rfl rfl), rfl, fun e he => absurd he (by simp), fun _ => rfl⟩
  · intro h' tk' hn hs
    have hx1 : (hp.push { cls := .type "dict", data := .dict #[] }).get? x = some { cls := .ref C, data := .fields fv } := Heap.get?_push_of_some _ hx
    refine hq h' tk' hp.objs.size (fun b o hb ho => ?_) (Nat.le_refl _) hxs.symm ?_ hn
    · have z := Heap.get?_push_of_some { cls := .type "dict", data := .dict #[] } ho
      exact (hs.2 b (Nat.ne_of_lt (Heap.lt_size ho))).trans ((Heap.get?_update_ne _ _ _ _ hb).trans z)
    · exact (hs.2 x hxs).trans (Heap.get?_update_self _ hx1 rfl)
open Builtin.ObjectAttr in
/-- .. of one that has its dict -/
theorem xsa_old {dx : Addr} {m0 : Str → Option Value} {ns : List Str} (KI : K.In hp) (hx : hp.get? x = some { cls := .ref C, dict := some dx, data := .fields fv }) (hn : hp.Ns1 dx m0) (hw : Within m0 ns) (hz : ns.length ≤ 1000)
    (hcd : PySem.W.clsIn K C = some cd) (hne : cd.mro.isEmpty = false) (hob : cd.mro.contains (.type "object") = true) (hps : refuseLoop (.ref x) "__setattr__" cd.mro = pure ()) (hh : cd.hasDict = true) (ha : PySem.W.findIn K (.ref C) f = some none)
    (hq : ∀ h' tk', (∀ b o, b ≠ dx → hp.get? b = some o → h'.get? b = some o) → h'.Ns1 dx (fun y => if y = f then some v else m0 y) → R (.ok (.ret .none)) ⟨h', g, d, tk', os⟩) :
    codeAny (model prog w) A (.call (.builtin "object.__setattr__") ⟨[.ref x, .str f tk, v], []⟩) R ⟨hp, g, d, t, os⟩ := by
  obtain ⟨oD, e0, e1, hoD, e2, _⟩ := hn.count hw
  have I : PySem.W.InstAt hp x { cls := .ref C, dict := some dx, data := .fields fv } C (some oD) := ⟨hx, rfl, rfl, hoD⟩
  have SF := F.store_object
  have sub : PySem.W.Looks (model prog w) hp (isInstance (.ref x) (.type "object")) true := I.type.andThen (PySem.W.looks_mroIn KI (by
    unfold PySem.W.mroIn
    rw [hcd, Option.bind_some, if_neg (by rw [hne]; decide), hob]))
  have chk := @PySem.W.check_slot (model prog w) A.in1 (fun e s' => R (.error e) s') ⟨hp, g, d, t, os⟩ "object.__setattr__" "object" "__setattr__" (.ref x) [.str f tk, v] []
  refine codeAny_call_builtin SF.slot.plain SF.entry (chk SF.kind SF.split sub (SF.args (.ref x) (.str f tk) v) ?_)
  have hmr : PySem.W.Looks (model prog w) hp (mroOf (.ref C)) cd.mro := (PySem.W.looks_clsIn KI hcd).andThen .now
  have L3 : PySem.W.Looks (model prog w) hp (storeTaker? none) none := .now
  have hcls : PySem.W.Looks (model prog w) hp (classData C) cd := PySem.W.looks_clsIn KI hcd
  rw [PySem.W.osa_eq, refuse_eq]
  refine wpAny_bind (wpAny_bind (I.type.at (wpAny_bind (hmr.at ?_))))
  rw [hps]
  refine wpAny_pure (wpAny_bind (I.type.at (wpAny_bind ((PySem.W.looks_findIn KI ha).at (wpAny_bind (L3.at ?_))))))
  show wpAny _ _ (storeInOwnDict (.ref x) (.ref C) (.str f tk) f v false) _ _ _
  obtain ⟨c1, c2, c3, c4, c5, hd, c7, c8, c9, c10, c11⟩ := cd
  dsimp only at hh
  subst hh
  unfold storeInOwnDict ownDictForStores
  repeat (first
    | with_reducible refine PySem.OEX.store_in_old hn hw hz ?_
    | with_reducible refine wpAny_loadPart_at hx ?_
    | with_reducible refine hcls.at ?_
    | wp_step)
  intro h' tk' hn' hs
  exact hq h' tk' (fun b o hb ho => (hs.2 b hb).trans ho) hn'
end
end PiX
set_option Elab.async false
set_option linter.all false
set_option maxRecDepth 100000
set_option maxHeartbeats 4000000
/-! X3: exceptions: self.f = v, the base's __init__, e.f, C(..) as values. -/
namespace PiX
open PySem PySem.Spec L2
open PyProof.Rows hiding St
/-- the class's tail bears a store -/
structure XTail (tl : List Value) : Prop where
  ps : ∀ self, refuseLoop self "__setattr__" tl = pure ()
  ho : tl.contains (.type "object") = true
theorem XBase.tail {B nb newId initId : String} {tl : List Value} (X : XBase B nb newId initId tl) : XTail tl := ⟨X.ps, X.ho⟩
section
variable {X : Cx} {pins : List (Addr × Obj)} {σ : St} {H : Hp} {s : Shared} {a C dx : Addr} {f : Str} {y : V} {u : Value} {fs : List (Str × V)} {tl : List Value} {newId : String}
theorem XCls.store {K : PySem.W.Frag} (T : XCls K C tl newId) (L : XTail tl) (self : Value) : ∃ cd, PySem.W.clsIn K C = some cd ∧ cd.mro.isEmpty = false ∧ cd.mro.contains (.type "object") = true ∧ refuseLoop self "__setattr__" cd.mro = pure () ∧ cd.hasDict = true := by
  obtain ⟨cd, bm, h1, h2, h3, h4⟩ := T.cd
  refine ⟨cd, h1, by rw [h2]; rfl, ?_, ?_, h4⟩
  · rw [h2, List.contains_cons, PySem.W.excTail_contains "object" bm h3, L.ho, Bool.or_true]
  · rw [h2, refuseLoop_ref]
    exact PySem.W.excTail_pass self (L.ps self) bm h3
/-- self.f = v, the first one -/
theorem xst_new {Q : Unit → Shared → Prop} {E : Value → Shared → Prop} {A : Around} (T : XCls X.K C tl newId) (L : XTail tl) (I : Inv X pins σ H s) (e : H a = some (exo a C none)) (hno : PySem.W.findIn X.K (.ref C) f = some none) (ry : RelV y u)
    (h : ∀ dx s', H dx = none → dx ≠ a → Inv X pins σ (upd (upd H dx (exd dx [(f, y)])) a (exo a C (some dx))) s' → Q () s') : wpAny (model X.prog X.w) A (setAttr (.ref a) f u) Q E s := by
  obtain ⟨cd, hcl, hne, hob, hps, hdd⟩ := T.store L (.ref a)
  obtain ⟨t1, ho⟩ := exo_at I.hok e
  obtain ⟨hp, g, d, t, os⟩ := s
  refine PySem.W.set_plain I.kIn (ox := { cls := .ref C, dict := none, data := .fields #[.ref t1, .none, .none, .none, .bool false, .none] }) (od := none) ⟨ho, rfl, rfl, trivial⟩ T.sa ?_
  refine xsa_new I.kIn ho hcl hne hob hps hdd hno fun h' tk' dx k dn dne hx hn => ?_
  have nH : H dx = none := I.hok.fresh dn
  have n1 : ∀ {b : Addr} {o : Obj}, hp.get? b = some o → b ≠ dx := fun {b o} q => Nat.ne_of_lt (Nat.lt_of_lt_of_le (Heap.lt_size q) dn)
  have n2 : ∀ {b : Addr}, H b = none → b ≠ a := fun {b} n z => by
    rw [z, e] at n
    cases n
  have U : Un X.fs [] H (upd (upd H dx (exd dx [(f, y)])) a (exo a C (some dx))) hp h' := by
    constructor
    case keep => exact fun b o q n _ _ => k b o (n2 n) q
    case slot => exact fun b o q n _ _ => ⟨o.slots, k b o (n2 n) q⟩
    case free =>
      intro b o q n _
      rw [upd_ne (n2 n), upd_ne (n1 q)]
      exact n
    case there =>
      intro b o q _
      by_cases hb : b = a
      · exact ⟨_, by rw [hb]; exact hx⟩
      · exact ⟨o, k b o hb q⟩
    case tups =>
      intro b xs q
      rw [upd_ne (at_ne e q exo_tup), upd_ne (ne_of_none q nH)]
      exact q
    case frzs =>
      intro b o v q
      rw [upd_ne (at_ne e q exo_frz), upd_ne (ne_of_none q nH)]
      exact q
    case tbls =>
      intro b ps q
      exact ⟨#[], by rw [upd_ne (at_ne e q exo_tbl), upd_ne (ne_of_none q nH), q]; simp⟩
  refine h dx _ nH dne (I.un (t' := tk') U fun b o q => ?_)
  by_cases hb : b = a
  · subst hb
    rw [upd_same] at q
    cases q
    exact exo_ok hx
  · rw [upd_ne hb] at q
    by_cases hd : b = dx
    · subst hd
      rw [upd_same] at q
      cases q
      exact exd_ok hn (relO_put (fs := []) ry fun g => True.intro)
    · rw [upd_ne hd] at q
      refine (I.hok b o q).stay (fun c v hc z => k c v ?_ z) (fun c hc => ?_) fun c xs hc => ?_
      · rcases hc with hc | hc
        · rw [hc]
          exact hb
        · exact at_ne e hc exo_own
      · rw [upd_ne (at_ne e hc exo_own), upd_ne (ne_of_none hc nH)]
        exact hc
      · rw [upd_ne (at_ne e hc exo_tup), upd_ne (ne_of_none hc nH)]
        exact hc
/-- self.f = v, a further one -/
theorem xst_old {Q : Unit → Shared → Prop} {E : Value → Shared → Prop} {A : Around} (T : XCls X.K C tl newId) (L : XTail tl) (I : Inv X pins σ H s) (e : H a = some (exo a C (some dx))) (ed : H dx = some (exd dx fs)) (hl : fs.length ≤ 900) (hno : PySem.W.findIn X.K (.ref C) f = some none) (ry : RelV y u)
    (h : ∀ s', Inv X pins σ (upd H dx (exd dx ((f, y) :: fs))) s' → Q () s') : wpAny (model X.prog X.w) A (setAttr (.ref a) f u) Q E s := by
  obtain ⟨cd, hcl, hne, hob, hps, hdd⟩ := T.store L (.ref a)
  obtain ⟨t1, ho⟩ := exo_at I.hok e
  obtain ⟨mA, hns, rel⟩ := exd_at I.hok ed
  have hw := within_of rel
  obtain ⟨hp, g, d, t, os⟩ := s
  obtain ⟨oD, _, _, hoD, _, _⟩ := hns.count hw
  refine PySem.W.set_plain I.kIn (ox := { cls := .ref C, dict := some dx, data := .fields #[.ref t1, .none, .none, .none, .bool false, .none] }) (od := some oD) ⟨ho, rfl, rfl, hoD⟩ T.sa ?_
  refine xsa_old I.kIn ho hns hw (by rw [List.length_map]; omega) hcl hne hob hps hdd hno fun h' tk' k hn => ?_
  have hd : ∃ o, h'.get? dx = some o := by
    obtain ⟨o, _, _, e', _⟩ := hn
    exact ⟨o, e'⟩
  exact h _ (I.write (t' := tk') (x := dx) (e := dx) (o := exd dx ((f, y) :: fs)) (by rw [ed]; exact True.intro) (.inl rfl) k hd (exd_ok hn (relO_put ry rel)))
/-- the base's __init__(self, ..) -/
theorem xinit_ok {B nb initId : String} {us : List Value} {Q : Value → Shared → Prop} {E : Value → Shared → Prop} {A : Around} (T : XCls X.K C tl newId) (XB : XBase B nb newId initId tl) (I : Inv X pins σ H s) (e : H a = some (exo a C none)) (hl : us.length ≤ sizeLine) (h : ∀ s', Inv X pins σ H s' → Q .none s') :
    wpAny (model X.prog X.w) A (call (.builtin initId) (.ref a :: us)) Q E s := by
  obtain ⟨nm, N, qn, bs, bm, hdct, sn, sub, ab, col, dd, k0, k1, k2, k3, k5, hC, hT⟩ := PySem.W.excInit_of I.kIn T.ini
  obtain ⟨t1, ho⟩ := exo_at I.hok e
  obtain ⟨hp, g, d, t, os⟩ := s
  refine wpAny_call (xinit XB hT hC ho hl fun h' t2 k hx => ?_)
  have J := I.write (t' := t) (x := a) (e := a) (o := exo a C none) (by rw [e]; exact True.intro) (.inl rfl) k ⟨_, hx⟩ (exo_ok hx)
  have eu : upd H a (exo a C none) = H := by
    funext b
    by_cases hb : b = a
    · rw [hb, upd_same, e]
    · rw [upd_ne hb]
  rw [eu] at J
  exact h _ J
/-- e.f -/
theorem xget_ok {b : Bool} {v : V} {Q : Value → Shared → Prop} {E : Value → Shared → Prop} {A : Around} (T : XCls X.K C tl newId) (I : Inv X pins σ H s) (e : H a = some (exo a C (some dx))) (ed : H dx = some (exd dx fs)) (hno : PySem.W.findIn X.K (.ref C) f = some none) (hv : fs.lookup f = some v)
    (h : ∀ (w : Value) (k : Nat), RelV v w → Q w { s with toks := k }) : wpAny (model X.prog X.w) A (getAttr (.ref a) f b) Q E s := by
  obtain ⟨t1, ho⟩ := exo_at I.hok e
  obtain ⟨mA, hns, rel⟩ := exd_at I.hok ed
  obtain ⟨od, hod, hl⟩ := lookIn_ns hns
  obtain ⟨u, hu, ru⟩ := RelO.some_of (v := v) (o := mA f) (by rw [← hv]; exact rel f)
  have J : PySem.W.InstAt s.heap a { cls := .ref C, dict := some dx, data := .fields #[.ref t1, .none, .none, .none, .bool false, .none] } C (some od) := ⟨ho, rfl, rfl, hod⟩
  exact PySem.HandSPX.exc_get I.kIn J T.ga T.gg T.eC (PySem.W.findObj_own T.hd hno rfl (by rw [hl, hu])) (handed_of ru) (h u _ ru)
/-- what isinstance asks of it -/
theorem xkit_ok (T : XCls X.K C tl newId) (I : Inv X pins σ H s) {dd : Option Addr} (e : H a = some (exo a C dd)) (ed : ∀ dx, dd = some dx → ∃ fs, H dx = some (exd dx fs)) : ∃ P : Heap → Prop, PySem.W.KitX X.K (.ref a) (.ref C) P ∧ P s.heap := by
  obtain ⟨t1, ho⟩ := exo_at I.hok e
  have hc : (PySem.W.clsIn X.K C).isSome = true := by
    obtain ⟨cd, bm, h1, _⟩ := T.cd
    rw [h1]
    rfl
  cases dd with
  | none => exact ⟨_, PySem.W.kitx_exc (x := a) (C := C) (ox := { cls := .ref C, dict := none, data := .fields #[.ref t1, .none, .none, .none, .bool false, .none] }) (od := none) hc T.ga T.gg T.eC T.cl T.cg T.ct T.om, ⟨ho, rfl, rfl, trivial⟩⟩
  | some dx =>
    obtain ⟨fs, hf⟩ := ed dx rfl
    obtain ⟨mA, hns, rel⟩ := exd_at I.hok hf
    obtain ⟨od, hod, hl⟩ := lookIn_ns hns
    exact ⟨_, PySem.W.kitx_exc (x := a) (C := C) (ox := { cls := .ref C, dict := some dx, data := .fields #[.ref t1, .none, .none, .none, .bool false, .none] }) (od := some od) hc T.ga T.gg T.eC T.cl T.cg T.ct T.om, ⟨ho, rfl, rfl, hod⟩⟩
end
end PiX
set_option Elab.async false
set_option linter.all false
set_option maxRecDepth 100000
set_option maxHeartbeats 4000000
/-! X4: exceptions: readings and rules. -/
namespace PiX
open PySem PySem.Spec L2
open PyProof.Rows hiding St
/-- where a base's __init__ is found by the name x -/
inductive XFind (X : Cx) (x : Str) (initId : String) : Prop where
  | own (C : Addr) (mc : Value) (hm : X.mg x = some (.ref C)) (h1 : PySem.W.specialIn X.K (.ref C) "__getattribute__" = some (some (.builtin "type.__getattribute__"))) (h2 : PySem.W.readsIn X.K C mc = true)
      (h3 : PySem.W.findCls X.K (.ref C) mc "__init__" = some (.val (.builtin initId))) : XFind X x initId
  | blt (T : String) (hm : X.mg x = none) (hb : bootBuiltins x = some (.type T)) (hn : x ≠ "__name__") (h1 : typeOf (.type T) = pure (.type "type")) (h2 : Manifest.isStub T = false)
      (h3 : PySem.W.findCls X.K (.type T) (.type "type") "__init__" = some (.val (.builtin initId))) : XFind X x initId
/-- Base.__init__(self, ..) -/
def tXi (K : PySem.W.Frag) (initId : String) (ta : TA) : TE := fun σ H Q => ta σ H fun vs H1 => ∃ (a C : Addr) (ws : List V) (tl : List Value) (newId B nb : String), vs = .ref a :: ws ∧ ws.length ≤ 1000 ∧ XCls K C tl newId ∧ XBase B nb newId initId tl ∧ H1 a = some (exo a C none) ∧ Q .non H1
/-- self.f = e -/
def tXst (K : PySem.W.Frag) (f : Str) (to te : TE) : TS := fun D σ H => te σ H fun y H1 => to σ H1 fun x H2 => ∃ (a C : Addr) (tl : List Value) (newId : String), x = .ref a ∧ XCls K C tl newId ∧ XTail tl ∧ PySem.W.findIn K (.ref C) f = some none ∧
  ((H2 a = some (exo a C none) ∧ ∀ dx, H2 dx = none → dx ≠ a → D.nx σ (upd (upd H2 dx (exd dx [(f, y)])) a (exo a C (some dx)))) ∨
    ∃ (dx : Addr) (fs : List (Str × V)), H2 a = some (exo a C (some dx)) ∧ H2 dx = some (exd dx fs) ∧ fs.length ≤ 900 ∧ D.nx σ (upd H2 dx (exd dx ((f, y) :: fs))))
section
variable {X : Cx} {o e : Expr} {es : List Expr} {to te : TE} {ta : TA} {f x : Str} {p p' p1 p2 pos : Pos} {initId : String}
theorem pe_xinit {pl : Sem Bool} (hg : Gl X x) (hf : XFind X x initId) (hh : PySem.W.handedIn (.builtin initId) = true) (hdb : (x == ("__debug__" : Str)) = false) (ha : PA X (e :: es) ta)
    (hc : eval (.Call (.Attribute (.Name x p1) "__init__" p2) (e :: es) [] pos) X.env = (do
      let ov ← eval (.Name x p1) X.env
      standAt p2.atName
      let (f, first) ← holding [ov] (getMethod ov "__init__" pl)
      callWith pos f first (backTo pos (starEach (e :: es) X.env)) (backToKw pos (keywordEach [] X.env))))
    (he : starEach (e :: es) X.env = (false, eval e X.env) :: starEach es X.env) (hpl : (backTo pos (starEach es X.env)).any (·.1) = false) :
    PE X (.Call (.Attribute (.Name x p1) "__init__" p2) (e :: es) [] pos) (tXi X.K initId ta) := by
  refine ⟨fun pins s σ H Q I h => ?_⟩
  have fin : ∀ s0 : Shared, Inv X pins σ H s0 → wpAny (model X.prog X.w) X.A (callWith pos (Value.builtin initId) [] (backTo pos (starEach (e :: es) X.env)) []) (EP X pins σ Q) X.xe s0 := fun s0 I0 => by
    refine PyProof.Rows.callWith_method1 (thn (ha.run pos pins _ σ H _ I0 h) fun us s1 ⟨vs, H1, I1, r1, a, C, ws, tl, newId, B, nb, ev, hl, T, XB, ea, q⟩ => ?_) he hpl
    subst ev
    cases r1 with
    | @cons _ u0 _ ur ra rw' =>
      obtain rfl : u0 = Value.ref a := ra
      have hlen : ur.length ≤ sizeLine := by
        rw [← Paired.length rw', sizeLine_eq]
        omega
      exact xinit_ok T XB I1 ea hlen fun s' J => ⟨.non, H1, J, rfl, q⟩
  cases hf with
  | own C mc hm h1 h2 h3 =>
    refine PySem.W.methodCall_KW (ld_glob I hg hm ?_ hdb) hc
    refine PySem.W.method_cls I.kIn h1 (PySem.W.cls_value I.kIn h2 h3 hh ?_)
    exact fin _ (I.tok _)
  | blt T hm hb hn h1 h2 h3 =>
    refine PySem.W.methodCall_KW (ld_blt I hg hm hb ?_ hn hdb) hc
    obtain ⟨m, fr⟩ := I.fr
    refine PySem.W.method_type fr I.ok.mod.kin h1 h2 h3 hh ?_
    exact fin _ (I.tok _)
theorem ps_xst (ho : PE X o to) (he : PE X e te) (hs : swapsWith e (some (.Attribute o f p')) pos.line X.env = pure false) : PS X (.Assign [.Attribute o f p'] e pos) (tXst X.K f to te) := by
  refine ⟨fun pins s σ H D I h => ?_⟩
  refine plainObj_wpAny_Assign_Attribute (thn (he.run pins s σ H _ I h) fun v s1 ⟨y, H1, I1, r1, q1⟩ => thn (ho.run pins s1 σ H1 _ I1 q1) fun u s2 hh => ?_) hs
  obtain ⟨z, H2, I2, r2, a, C, tl, newId, ex, T, L, hno, q⟩ := hh
  subst ex
  obtain rfl : u = Value.ref a := r2
  rcases q with ⟨ea, q⟩ | ⟨dx, fs, ea, ed, hl, q⟩
  · exact xst_new T L I2 ea hno r1 fun dx s' n ne J => ⟨σ, _, J, q dx n ne⟩
  · exact xst_old T L I2 ea ed hl hno r1 fun s' J => ⟨σ, _, J, q⟩
end
/-! ### a new exception -/
/-- what an exception's __init__ promises: its arguments are its fields, fl their names -/
def spX (C : Addr) (fl : List Str) : Sp := fun vs H Q _ => ∃ (a : Addr) (ys : List V), vs = .ref a :: ys ∧ ys.length = fl.length ∧ H a = some (exo a C none) ∧
  ∀ dx, H dx = none → dx ≠ a → Q .non (upd (upd H dx (exd dx (fl.zip ys).reverse)) a (exo a C (some dx)))
section
variable {X : Cx} {CX : CXT} {k n : Nat} {f C : Addr} {fd : FuncData} {ps ks fl : List Str} {x : Str} {p pos : Pos} {e : Expr} {es : List Expr} {kws : List Keyword} {t tk : TA} {g : List Value → List Value → List Value} {gV : List V → List V → List V} {tl : List Value} {B nb newId initId : String}
theorem run_xmake {pins : List (Addr × Obj)} {σ : St} {H : Hp} {s : Shared} {Q : VK} {us ws : List Value} {vs zs ys : List V} (T : XCls X.K C tl newId) (XB : XBase B nb newId initId tl) (iC : PySem.W.findIn X.K (.ref C) "__init__" = some (some (.ref f)))
    (tI : PySem.W.typeIn X.K (.ref f) = some (.type "function")) (F : FnOk X.prog X.w X.K X.mg X.base CX k f fd ps (spX C fl)) (hr : Room (k + 1) X.A) (hb : KBn X.K fd ps (n + 1) ks g gV) (hx : Passes CX X (fun _ _ _ => False))
    (I : Inv X pins σ H s) (r : Vals vs us) (rz : Vals zs ws) (l1 : vs.length = n) (l2 : zs.length = ks.length) (ln : n ≤ 1000) (hy : ys.length = fl.length) (hgv : ∀ a, gV (.ref a :: vs) zs = .ref a :: ys)
    (h : ∀ a dx, H a = none → H dx = none → dx ≠ a → Q (.ref a) (upd (upd H dx (exd dx (fl.zip ys).reverse)) a (exo a C (some dx)))) :
    wpAny (model X.prog X.w) X.A (call (.ref C) us (ks.zip ws)) (EP X pins σ Q) X.xe s := by
  obtain ⟨nm, N, qn, bs, bm, hdct, sn, sub, ab, col, dd, k0, k1, k2, k3, k5, hC, hT⟩ := PySem.W.excInit_of I.kIn T.ini
  obtain ⟨hp, gg, dr, tok, os⟩ := s
  have hsz : hp.objs.size ≤ hp.objs.size + 1 := Nat.le_succ _
  have hn : H (hp.objs.size + 1) = none := I.hok.fresh hsz
  have kk : ∀ b o, hp.get? b = some o → ((hp.push (PySem.W.kdv_tup us)).push (rawX C hp.objs.size)).get? b = some o := fun b o e => Heap.get?_push_of_some _ (Heap.get?_push_of_some _ e)
  have hget : ((hp.push (PySem.W.kdv_tup us)).push (rawX C hp.objs.size)).get? (hp.objs.size + 1) = some (rawX C hp.objs.size) := by heap_get
  have I2 : Inv X pins σ (upd H (hp.objs.size + 1) (exo (hp.objs.size + 1) C none)) ⟨(hp.push (PySem.W.kdv_tup us)).push (rawX C hp.objs.size), gg, dr, tok, os⟩ :=
    I.laid (t' := tok) (a := hp.objs.size + 1) (o := exo (hp.objs.size + 1) C none) (h' := (hp.push (PySem.W.kdv_tup us)).push (rawX C hp.objs.size)) kk hsz (exo_ok hget)
  have r1 : Vals (V.ref (hp.objs.size + 1) :: vs) (Value.ref (hp.objs.size + 1) :: us) := .cons rfl r
  have r2 := hb.rel r1 rz
  have e1 : (Value.ref (hp.objs.size + 1) :: us).length = n + 1 := r1.length.symm.trans (congrArg Nat.succ l1)
  have e2 : ws.length = ks.length := rz.length.symm.trans l2
  have hus : us.length ≤ sizeLine := by
    rw [← Paired.length r, sizeLine_eq]
    omega
  have hq : spX C fl (gV (V.ref (hp.objs.size + 1) :: vs) zs) (upd H (hp.objs.size + 1) (exo (hp.objs.size + 1) C none)) (fun v H3 => v = .non ∧ Q (.ref (hp.objs.size + 1)) H3) (fun _ _ _ => False) := by
    refine ⟨_, ys, hgv _, hy, upd_same, fun dx hdx ne => ⟨rfl, ?_⟩⟩
    have hdx' : H dx = none := by rw [upd_ne ne] at hdx; exact hdx
    have eq : upd (upd (upd H (hp.objs.size + 1) (exo (hp.objs.size + 1) C none)) dx (exd dx (fl.zip ys).reverse)) (hp.objs.size + 1) (exo (hp.objs.size + 1) C (some dx)) = upd (upd H dx (exd dx (fl.zip ys).reverse)) (hp.objs.size + 1) (exo (hp.objs.size + 1) C (some dx)) := by
      funext b
      unfold upd
      by_cases h1 : b = hp.objs.size + 1
      · rw [if_pos h1, if_pos h1]
      · rw [if_neg h1, if_neg h1]
        by_cases h2 : b = dx
        · simp only [if_pos h2, if_neg h1]
        · simp only [if_neg h2, if_neg h1]
    rw [eq]
    exact h _ dx hn hdx' ne
  refine wpAny_call (xcall XB hT hC (PySem.W.looks_findIn I.kIn iC) (fun self => PySem.W.bind_fn I.kIn self tI) hus
    (codeAny_mono (F.run _ X.stack _ _ ⟨Value.ref (hp.objs.size + 1) :: us, ks.zip ws⟩ (g (Value.ref (hp.objs.size + 1) :: us) ws) _ _ (fun _ _ _ => False) (hr.make C us (ks.zip ws)) (I2.env0.make C us (ks.zip ws)) (hb.to _ (Value.ref (hp.objs.size + 1) :: us) ws I2.kIn e1 e2) r2 hq) fun z s' hq' => ?_))
  cases z with
  | error e => exact hx pins σ _ _ e s' I2 hq'
  | ok fl' =>
    cases fl' with
    | ret u =>
      obtain ⟨v, H', I3, rv, ev, q3⟩ := I2.after hq'
      subst ev
      exact ⟨rv, ⟨V.ref (hp.objs.size + 1), H', I3, rfl, q3⟩⟩
    | next => exact False.elim hq'
    | brk => exact False.elim hq'
    | cont => exact False.elim hq'
/-- C(e, ..), C without an own __init__ -/
theorem run_xplain {pins : List (Addr × Obj)} {σ : St} {H : Hp} {s : Shared} {Q : VK} {us : List Value} {vs : List V} {bmB : List Value} (F : ExcBaseFacts B newId initId bmB) (q : PySem.W.excIn X.K C bmB newId = true) (I : Inv X pins σ H s) (r : Vals vs us) (hl : vs.length ≤ 1000)
    (h : ∀ a, H a = none → Q (.ref a) (upd H a (exo a C none))) : wpAny (model X.prog X.w) X.A (call (.ref C) us) (EP X pins σ Q) X.xe s := by
  obtain ⟨bm, N, nm, qn, bs, hdct, sn, sub, ab, col, dd, k0, k1, k2, k3, k5, mN, hC, hN, hni, T⟩ := exc_obj I.kIn q
  refine wpAny_call_exc_subT F T hC hN hni (fun h' e hm => ?_) (by rw [← Paired.length r, sizeLine_eq]; omega)
  have hn : H e = none := I.hok.gone hm.new
  obtain ⟨t, he, _⟩ := hm.there
  exact ⟨.ref e, _, I.laidN (t' := s.toks) hm.keeps hm.new hn (exo_ok he), rfl, h e hn⟩
end
end PiX
set_option Elab.async false
set_option linter.all false
set_option maxRecDepth 100000
set_option maxHeartbeats 4000000
/-! Pi1: a small language of values, its store, and how they lie in the abstract heap of the hand layer. -/
namespace Pi
open PySem L2

/-- values: what never changes is held by value, what changes by a cell's number -/
inductive Val where
  | non | bl (b : Bool) | int (i : Int) | str (x : Str)
  | tup (xs : List Val) | lst (xs : List Val)
  | frl (xs : List Val)
  | obj (C : Nat) (xs : List Val)
  | ref (n : Nat)
  | fn (f : Nat)
  /-- an exception, not raised; a dict that nobody writes: keys, values -/
  | exn (C : Nat) (xs : List Val) | dic (ks : List Key) (xs : List Val)
  deriving Inhabited

/-- cells: what changes -/
inductive Cell where
  | lst (xs : List Val)
  | ins (C : Nat) (fs : List (Str × Val))
  deriving Inhabited
abbrev Store := List Cell
abbrev Loc := List (Option Val)

inductive Res (α : Type) where
  | ok (a : α) (S : Store)
  | no
  deriving Inhabited
@[inline] def Res.bind {α β : Type} (r : Res α) (k : α → Store → Res β) : Res β := match r with
  | .ok a S => k a S
  | .no => .no
@[simp] theorem Res.bind_ok {α β : Type} (a : α) (S : Store) (k : α → Store → Res β) : (Res.ok a S).bind k = k a S := rfl
@[simp] theorem Res.bind_no {α β : Type} (k : α → Store → Res β) : (Res.no : Res α).bind k = .no := rfl
theorem Res.bind_eq_ok {α β : Type} {r : Res α} {k : α → Store → Res β} {b : β} {S' : Store} (h : r.bind k = .ok b S') : ∃ a S, r = .ok a S ∧ k a S = .ok b S' := by
  cases r with
  | ok a S => exact ⟨a, S, rfl, h⟩
  | no => cases h

/-- who owns what stands at an address: a value, a cell, a hand that builds it -/
inductive Own where
  | val | cell | held
  deriving DecidableEq

/-- what is fixed: the written part, the classes' addresses and fields, the defs' addresses -/
structure RC where
  K : PySem.W.Frag
  ca : Nat → Addr
  flds : Nat → List Str
  fa : Nat → Addr

/-- the state of the relation -/
structure Sx where
  M : Addr → Own
  μ : Nat → Addr
  S : Store

def KTup (K : PySem.W.Frag) (a : Addr) (us : List V) : Prop := ∃ (o : Obj) (its : Array Value) (n : Nat), K.lookup a = some o ∧ o.cls = .type "tuple" ∧ o.data = .seq its n ∧ its.size ≤ sizeLine ∧ Vals us its.toList
def KLst (K : PySem.W.Frag) (a : Addr) (us : List V) : Prop := ∃ (o : Obj) (its : Array Value) (n : Nat), K.lookup a = some o ∧ o.cls = .type "list" ∧ o.dict = none ∧ o.data = .seq its n ∧ its.size ≤ sizeLine ∧ Vals us its.toList

/-- a tuple (a list) that nobody writes -/
def TupAt (c : RC) (M : Addr → Own) (H : Hp) (a : Addr) (us : List V) : Prop := (M a = .val ∧ Rd H a (.tup us)) ∨ KTup c.K a us
def LstAt (c : RC) (M : Addr → Own) (H : Hp) (a : Addr) (us : List V) : Prop := (M a = .val ∧ Rd H a (.lst us)) ∨ KLst c.K a us
theorem TupAt.sq {c : RC} {M : Addr → Own} {H : Hp} {a : Addr} {us : List V} (h : TupAt c M H a us) : SqT c.K H a us := h.elim (fun h => .inl h.2) .inr
theorem LstAt.sq {c : RC} {M : Addr → Own} {H : Hp} {a : Addr} {us : List V} (h : LstAt c M H a us) : SqL c.K H a us := h.elim (fun h => .inl h.2) .inr

/-- an exception of the class at C lies at a, its fields fs -/
def XAt (M : Addr → Own) (H : Hp) (a C : Addr) (fs : List (Str × V)) : Prop := (fs = [] ∧ H a = some (exo a C none)) ∨ ∃ dx, M dx = .val ∧ H a = some (exo a C (some dx)) ∧ H dx = some (exd dx fs)

mutual
/-- the value d lies as v -/
def VR (c : RC) (M : Addr → Own) (μ : Nat → Addr) (N : Nat) (H : Hp) : Val → V → Prop
  | .non, v => v = .non
  | .bl b, v => v = .bl b
  | .int i, v => v = .int i
  | .str s, v => v = .str s
  | .tup xs, v => ∃ a us, v = .ref a ∧ TupAt c M H a us ∧ VRs c M μ N H xs us
  | .lst xs, v => ∃ a us, v = .ref a ∧ M a = .val ∧ H a = some (.lst us) ∧ VRs c M μ N H xs us
  | .frl xs, v => ∃ a us, v = .ref a ∧ LstAt c M H a us ∧ VRs c M μ N H xs us
  | .obj C xs, v => ∃ a dx us, v = .ref a ∧ M a = .val ∧ H a = some (.ins (c.ca C) dx ((c.flds C).zip us)) ∧ us.length = (c.flds C).length ∧ VRs c M μ N H xs us
  | .ref n, v => n < N ∧ v = .ref (μ n)
  | .fn f, v => v = .ref (c.fa f)
  | .exn C xs, v => ∃ a us, v = .ref a ∧ M a = .val ∧ us.length = (c.flds C).length ∧ XAt M H a (c.ca C) ((c.flds C).zip us).reverse ∧ VRs c M μ N H xs us
  | .dic ks xs, v => ∃ a us, v = .ref a ∧ M a = .val ∧ H a = some (.dK (ks.zip us)) ∧ us.length = ks.length ∧ VRs c M μ N H xs us
def VRs (c : RC) (M : Addr → Own) (μ : Nat → Addr) (N : Nat) (H : Hp) : List Val → List V → Prop
  | [], us => us = []
  | x :: xs, us => ∃ u r, us = u :: r ∧ VR c M μ N H x u ∧ VRs c M μ N H xs r
end

/-- from one state to a later one -/
structure Ext (M : Addr → Own) (μ : Nat → Addr) (N : Nat) (H : Hp) (M' : Addr → Own) (μ' : Nat → Addr) (N' : Nat) (H' : Hp) : Prop where
  n : N ≤ N'
  mu : ∀ n, n < N → μ' n = μ n
  keep : ∀ a o, H a = some o → M a ≠ .cell → H' a = some o ∧ M' a = M a

section
variable {c : RC} {M M1 M2 : Addr → Own} {μ μ1 μ2 : Nat → Addr} {N N1 N2 : Nat} {H H1 H2 : Hp}
theorem Ext.refl : Ext M μ N H M μ N H := ⟨Nat.le_refl _, fun _ _ => rfl, fun _ _ h _ => ⟨h, rfl⟩⟩
theorem Ext.trans (a : Ext M μ N H M1 μ1 N1 H1) (b : Ext M1 μ1 N1 H1 M2 μ2 N2 H2) : Ext M μ N H M2 μ2 N2 H2 :=
  ⟨Nat.le_trans a.n b.n, fun n h => (b.mu n (Nat.lt_of_lt_of_le h a.n)).trans (a.mu n h), fun x o h m => by
    obtain ⟨h1, e1⟩ := a.keep x o h m
    obtain ⟨h2, e2⟩ := b.keep x o h1 (by rw [e1]; exact m)
    exact ⟨h2, e2.trans e1⟩⟩
theorem Ext.rd {a : Addr} {u : HO} (e : Ext M μ N H M1 μ1 N1 H1) (m : M a = .val) (h : Rd H a u) : Rd H1 a u ∧ M1 a = .val := by
  rcases h with h | ⟨o, h⟩
  · obtain ⟨h1, e1⟩ := e.keep a _ h (by rw [m]; decide)
    exact ⟨.inl h1, e1.trans m⟩
  · obtain ⟨h1, e1⟩ := e.keep a _ h (by rw [m]; decide)
    exact ⟨.inr ⟨o, h1⟩, e1.trans m⟩
theorem TupAt.ext {a : Addr} {us : List V} (e : Ext M μ N H M1 μ1 N1 H1) (h : TupAt c M H a us) : TupAt c M1 H1 a us := by
  rcases h with ⟨m, h⟩ | h
  · obtain ⟨h1, m1⟩ := e.rd m h
    exact .inl ⟨m1, h1⟩
  · exact .inr h
theorem LstAt.ext {a : Addr} {us : List V} (e : Ext M μ N H M1 μ1 N1 H1) (h : LstAt c M H a us) : LstAt c M1 H1 a us := by
  rcases h with ⟨m, h⟩ | h
  · obtain ⟨h1, m1⟩ := e.rd m h
    exact .inl ⟨m1, h1⟩
  · exact .inr h
theorem XAt.ext {a C : Addr} {fs : List (Str × V)} (e : Ext M μ N H M1 μ1 N1 H1) (m : M a = .val) (h : XAt M H a C fs) : XAt M1 H1 a C fs := by
  rcases h with ⟨h1, h2⟩ | ⟨dx, h1, h2, h3⟩
  · exact .inl ⟨h1, (e.keep a _ h2 (by rw [m]; decide)).1⟩
  · have q := e.keep dx _ h3 (by rw [h1]; decide)
    exact .inr ⟨dx, q.2.trans h1, (e.keep a _ h2 (by rw [m]; decide)).1, q.1⟩
theorem XAt.some {a C : Addr} {fs : List (Str × V)} (h : XAt M H a C fs) : ∃ dd, H a = some (exo a C dd) := by
  rcases h with ⟨_, h2⟩ | ⟨dx, _, h2, _⟩
  · exact ⟨_, h2⟩
  · exact ⟨_, h2⟩
mutual
theorem VR.ext (e : Ext M μ N H M1 μ1 N1 H1) : ∀ {d : Val} {v : V}, VR c M μ N H d v → VR c M1 μ1 N1 H1 d v
  | .non, v, h => by unfold VR at h ⊢; exact h
  | .bl _, v, h => by unfold VR at h ⊢; exact h
  | .int _, v, h => by unfold VR at h ⊢; exact h
  | .str _, v, h => by unfold VR at h ⊢; exact h
  | .tup xs, v, h => by
    unfold VR at h ⊢
    obtain ⟨a, us, e1, t, r⟩ := h
    exact ⟨a, us, e1, t.ext e, VRs.ext e r⟩
  | .lst xs, v, h => by
    unfold VR at h ⊢
    obtain ⟨a, us, e1, m, t, r⟩ := h
    obtain ⟨t1, m1⟩ := e.keep a _ t (by rw [m]; decide)
    exact ⟨a, us, e1, m1.trans m, t1, VRs.ext e r⟩
  | .frl xs, v, h => by
    unfold VR at h ⊢
    obtain ⟨a, us, e1, t, r⟩ := h
    exact ⟨a, us, e1, t.ext e, VRs.ext e r⟩
  | .obj C xs, v, h => by
    unfold VR at h ⊢
    obtain ⟨a, dx, us, e1, m, t, l, r⟩ := h
    obtain ⟨t1, m1⟩ := e.keep a _ t (by rw [m]; decide)
    exact ⟨a, dx, us, e1, m1.trans m, t1, l, VRs.ext e r⟩
  | .ref n, v, h => by
    unfold VR at h ⊢
    obtain ⟨hn, e1⟩ := h
    exact ⟨Nat.lt_of_lt_of_le hn e.n, by rw [e.mu n hn]; exact e1⟩
  | .fn f, v, h => by unfold VR at h ⊢; exact h
  | .exn C xs, v, h => by
    unfold VR at h ⊢
    obtain ⟨a, us, e1, m, l, t, r⟩ := h
    obtain ⟨dd, h0⟩ := t.some
    exact ⟨a, us, e1, (e.keep a _ h0 (by rw [m]; decide)).2.trans m, l, t.ext e m, VRs.ext e r⟩
  | .dic ks xs, v, h => by
    unfold VR at h ⊢
    obtain ⟨a, us, e1, m, t, l, r⟩ := h
    obtain ⟨t1, m1⟩ := e.keep a _ t (by rw [m]; decide)
    exact ⟨a, us, e1, m1.trans m, t1, l, VRs.ext e r⟩
theorem VRs.ext (e : Ext M μ N H M1 μ1 N1 H1) : ∀ {ds : List Val} {vs : List V}, VRs c M μ N H ds vs → VRs c M1 μ1 N1 H1 ds vs
  | [], vs, h => by unfold VRs at h ⊢; exact h
  | d :: ds, vs, h => by
    unfold VRs at h ⊢
    obtain ⟨u, r, e1, h1, h2⟩ := h
    exact ⟨u, r, e1, VR.ext e h1, VRs.ext e h2⟩
end

theorem VRs.nil : VRs c M μ N H [] [] := by unfold VRs; rfl
theorem VRs.cons {d : Val} {v : V} {ds : List Val} {vs : List V} (h : VR c M μ N H d v) (r : VRs c M μ N H ds vs) : VRs c M μ N H (d :: ds) (v :: vs) := by
  unfold VRs; exact ⟨v, vs, rfl, h, r⟩
theorem VRs.nil_inv {vs : List V} (h : VRs c M μ N H [] vs) : vs = [] := by unfold VRs at h; exact h
theorem VRs.cons_inv {d : Val} {ds : List Val} {vs : List V} (h : VRs c M μ N H (d :: ds) vs) : ∃ u r, vs = u :: r ∧ VR c M μ N H d u ∧ VRs c M μ N H ds r := by
  unfold VRs at h; exact h
theorem VRs.length : ∀ {ds : List Val} {vs : List V}, VRs c M μ N H ds vs → vs.length = ds.length
  | [], vs, h => by rw [h.nil_inv]; rfl
  | d :: ds, vs, h => by
    obtain ⟨u, r, e, _, h2⟩ := h.cons_inv
    rw [e, List.length_cons, List.length_cons, VRs.length h2]
theorem VRs.get : ∀ {ds : List Val} {vs : List V} {i : Nat} {d : Val}, VRs c M μ N H ds vs → ds[i]? = some d → ∃ v, vs[i]? = some v ∧ VR c M μ N H d v
  | [], vs, i, d, _, e => by simp at e
  | d :: ds, vs, 0, d', h, e => by
    obtain ⟨u, r, e1, h1, _⟩ := h.cons_inv
    simp at e; subst e
    exact ⟨u, by rw [e1]; rfl, h1⟩
  | d :: ds, vs, i + 1, d', h, e => by
    obtain ⟨u, r, e1, _, h2⟩ := h.cons_inv
    obtain ⟨v, e2, h3⟩ := VRs.get (i := i) h2 (by simpa using e)
    exact ⟨v, by rw [e1]; simpa using e2, h3⟩
theorem VRs.get' : ∀ {ds : List Val} {vs : List V} {i : Nat} {v : V}, VRs c M μ N H ds vs → vs[i]? = some v → ∃ d, ds[i]? = some d ∧ VR c M μ N H d v := fun {ds vs i v} h e => by
  have l := h.length
  have hi : i < vs.length := (List.getElem?_eq_some_iff.mp e).1
  have hi' : i < ds.length := by omega
  obtain ⟨u, e2, r⟩ := h.get (List.getElem?_eq_getElem hi')
  rw [e] at e2
  cases e2
  exact ⟨_, List.getElem?_eq_getElem hi', r⟩
theorem VRs.append : ∀ {ds es : List Val} {vs ws : List V}, VRs c M μ N H ds vs → VRs c M μ N H es ws → VRs c M μ N H (ds ++ es) (vs ++ ws)
  | [], es, vs, ws, h, h' => by rw [h.nil_inv]; exact h'
  | d :: ds, es, vs, ws, h, h' => by
    obtain ⟨u, r, e, h1, h2⟩ := h.cons_inv
    rw [e]
    exact .cons h1 (VRs.append h2 h')
theorem VRs.drop : ∀ {ds : List Val} {vs : List V} (n : Nat), VRs c M μ N H ds vs → VRs c M μ N H (ds.drop n) (vs.drop n)
  | ds, vs, 0, h => h
  | [], vs, n + 1, h => by rw [h.nil_inv]; exact .nil
  | d :: ds, vs, n + 1, h => by
    obtain ⟨u, r, e, h1, h2⟩ := h.cons_inv
    rw [e]
    exact VRs.drop n h2
theorem VRs.take : ∀ {ds : List Val} {vs : List V} (n : Nat), VRs c M μ N H ds vs → VRs c M μ N H (ds.take n) (vs.take n)
  | ds, vs, 0, h => .nil
  | [], vs, n + 1, h => by rw [h.nil_inv]; exact .nil
  | d :: ds, vs, n + 1, h => by
    obtain ⟨u, r, e, h1, h2⟩ := h.cons_inv
    rw [e]
    exact .cons h1 (VRs.take n h2)
theorem VRs.set {d : Val} {v : V} (hd : VR c M μ N H d v) : ∀ {ds : List Val} {vs : List V} (i : Nat), VRs c M μ N H ds vs → VRs c M μ N H (ds.set i d) (vs.set i v)
  | [], vs, i, h => by rw [h.nil_inv]; exact .nil
  | e :: ds, vs, 0, h => by
    obtain ⟨u, r, e, h1, h2⟩ := h.cons_inv
    rw [e]
    exact .cons hd h2
  | e :: ds, vs, i + 1, h => by
    obtain ⟨u, r, e, h1, h2⟩ := h.cons_inv
    rw [e]
    exact .cons h1 (VRs.set hd i h2)
theorem VRs.reverse : ∀ {ds : List Val} {vs : List V}, VRs c M μ N H ds vs → VRs c M μ N H ds.reverse vs.reverse
  | [], vs, h => by rw [h.nil_inv]; exact .nil
  | d :: ds, vs, h => by
    obtain ⟨u, r, e, h1, h2⟩ := h.cons_inv
    rw [e, List.reverse_cons, List.reverse_cons]
    exact (VRs.reverse h2).append (.cons h1 .nil)
theorem VRs.dropLast {ds : List Val} {vs : List V} (h : VRs c M μ N H ds vs) : VRs c M μ N H ds.dropLast vs.dropLast := by
  rw [List.dropLast_eq_take, List.dropLast_eq_take, h.length]
  exact h.take _

/-- what a cell lies as -/
def CellOk (c : RC) (M : Addr → Own) (μ : Nat → Addr) (N : Nat) (H : Hp) (a : Addr) : Cell → Prop
  | .lst xs => ∃ us, H a = some (.lst us) ∧ VRs c M μ N H xs us
  | .ins C fs => ∃ dx us, H a = some (.ins (c.ca C) dx ((fs.map (·.1)).zip us)) ∧ VRs c M μ N H (fs.map (·.2)) us
theorem CellOk.some {a : Addr} {k : Cell} (h : CellOk c M μ N H a k) : ∃ o, H a = some o := by
  cases k with
  | lst xs => obtain ⟨us, e, _⟩ := h; exact ⟨_, e⟩
  | ins C fs => obtain ⟨dx, us, e, _⟩ := h; exact ⟨_, e⟩

/-- the store lies in the heap -/
structure Sim (c : RC) (M : Addr → Own) (μ : Nat → Addr) (S : Store) (H : Hp) : Prop where
  cell : ∀ n k, S[n]? = some k → M (μ n) = .cell ∧ CellOk c M μ S.length H (μ n) k
  inj : ∀ m n, m < S.length → n < S.length → μ m = μ n → m = n

theorem VR.int {i : Int} : VR c M μ N H (.int i) (.int i) := by unfold VR; rfl
theorem VR.bl {b : Bool} : VR c M μ N H (.bl b) (.bl b) := by unfold VR; rfl
theorem VR.non : VR c M μ N H .non .non := by unfold VR; rfl
theorem VR.str {s : Str} : VR c M μ N H (.str s) (.str s) := by unfold VR; rfl
theorem VR.int_inv {i : Int} {v : V} (h : VR c M μ N H (.int i) v) : v = .int i := by unfold VR at h; exact h
theorem VR.bl_inv {b : Bool} {v : V} (h : VR c M μ N H (.bl b) v) : v = .bl b := by unfold VR at h; exact h
theorem VR.non_inv {v : V} (h : VR c M μ N H .non v) : v = .non := by unfold VR at h; exact h
theorem VR.str_inv {s : Str} {v : V} (h : VR c M μ N H (.str s) v) : v = .str s := by unfold VR at h; exact h
theorem VR.tup_inv {xs : List Val} {v : V} (h : VR c M μ N H (.tup xs) v) : ∃ a us, v = .ref a ∧ TupAt c M H a us ∧ VRs c M μ N H xs us := by unfold VR at h; exact h
theorem VR.lst_inv {xs : List Val} {v : V} (h : VR c M μ N H (.lst xs) v) : ∃ a us, v = .ref a ∧ M a = .val ∧ H a = some (.lst us) ∧ VRs c M μ N H xs us := by unfold VR at h; exact h
theorem VR.frl_inv {xs : List Val} {v : V} (h : VR c M μ N H (.frl xs) v) : ∃ a us, v = .ref a ∧ LstAt c M H a us ∧ VRs c M μ N H xs us := by unfold VR at h; exact h
theorem VR.obj_inv {C : Nat} {xs : List Val} {v : V} (h : VR c M μ N H (.obj C xs) v) : ∃ a dx us, v = .ref a ∧ M a = .val ∧ H a = some (.ins (c.ca C) dx ((c.flds C).zip us)) ∧ us.length = (c.flds C).length ∧ VRs c M μ N H xs us := by unfold VR at h; exact h
theorem VR.exn_inv {C : Nat} {xs : List Val} {v : V} (h : VR c M μ N H (.exn C xs) v) : ∃ a us, v = .ref a ∧ M a = .val ∧ us.length = (c.flds C).length ∧ XAt M H a (c.ca C) ((c.flds C).zip us).reverse ∧ VRs c M μ N H xs us := by unfold VR at h; exact h
theorem VR.dic_inv {ks : List Key} {xs : List Val} {v : V} (h : VR c M μ N H (.dic ks xs) v) : ∃ a us, v = .ref a ∧ M a = .val ∧ H a = some (.dK (ks.zip us)) ∧ us.length = ks.length ∧ VRs c M μ N H xs us := by unfold VR at h; exact h
theorem VR.ref_inv {n : Nat} {v : V} (h : VR c M μ N H (.ref n) v) : n < N ∧ v = .ref (μ n) := by unfold VR at h; exact h
theorem VR.tup {xs : List Val} {a : Addr} {us : List V} (t : TupAt c M H a us) (r : VRs c M μ N H xs us) : VR c M μ N H (.tup xs) (.ref a) := by unfold VR; exact ⟨a, us, rfl, t, r⟩
theorem VR.lst {xs : List Val} {a : Addr} {us : List V} (m : M a = .val) (t : H a = some (.lst us)) (r : VRs c M μ N H xs us) : VR c M μ N H (.lst xs) (.ref a) := by unfold VR; exact ⟨a, us, rfl, m, t, r⟩
theorem VR.frl {xs : List Val} {a : Addr} {us : List V} (t : LstAt c M H a us) (r : VRs c M μ N H xs us) : VR c M μ N H (.frl xs) (.ref a) := by unfold VR; exact ⟨a, us, rfl, t, r⟩
theorem VR.ref {n : Nat} (h : n < N) : VR c M μ N H (.ref n) (.ref (μ n)) := by unfold VR; exact ⟨h, rfl⟩

/-- a new thing, that belongs to a value -/
def own (M : Addr → Own) (p : Addr) (o : Own) : Addr → Own := fun a => if a = p then o else M a
theorem own_same {p : Addr} {o : Own} : own M p o p = o := by unfold own; rw [if_pos rfl]
theorem own_ne {p a : Addr} {o : Own} (h : a ≠ p) : own M p o a = M a := by unfold own; rw [if_neg h]
theorem Ext.new {p : Addr} {o : HO} {w : Own} (h : H p = none) : Ext M μ N H (own M p w) μ N (upd H p o) := ⟨Nat.le_refl _, fun _ _ => rfl, fun a u e m => by
  have ne : a ≠ p := ne_of_none e h
  exact ⟨by rw [upd_ne ne]; exact e, own_ne ne⟩⟩
theorem CellOk.ext {a : Addr} {k : Cell} (e : Ext M μ N H M1 μ1 N1 H1) (ha : H1 a = H a) (h : CellOk c M μ N H a k) : CellOk c M1 μ1 N1 H1 a k := by
  cases k with
  | lst xs => obtain ⟨us, e1, r⟩ := h; exact ⟨us, by rw [ha]; exact e1, r.ext e⟩
  | ins C fs => obtain ⟨dx, us, e1, r⟩ := h; exact ⟨dx, us, by rw [ha]; exact e1, r.ext e⟩
/-- the store is kept where its cells' addresses are -/
theorem Sim.keep {S : Store} (s : Sim c M μ S H) (e : Ext M μ S.length H M1 μ S.length H1) (k : ∀ n, n < S.length → H1 (μ n) = H (μ n) ∧ M1 (μ n) = M (μ n)) : Sim c M1 μ S H1 :=
  ⟨fun n k' h => by
    obtain ⟨m, o⟩ := s.cell n k' h
    have hn := (List.getElem?_eq_some_iff.mp h).1
    exact ⟨(k n hn).2.trans m, o.ext e (k n hn).1⟩, s.inj⟩
theorem Sim.ne_new {S : Store} (s : Sim c M μ S H) {p : Addr} (hp : H p = none) {n : Nat} (hn : n < S.length) : μ n ≠ p := by
  obtain ⟨_, o⟩ := s.cell n _ (List.getElem?_eq_getElem hn)
  obtain ⟨u, e⟩ := o.some
  exact ne_of_none e hp
theorem Sim.new {S : Store} (s : Sim c M μ S H) {p : Addr} {o : HO} {w : Own} (hp : H p = none) : Sim c (own M p w) μ S (upd H p o) :=
  s.keep (Ext.new hp) fun n hn => ⟨upd_ne (s.ne_new hp hn), own_ne (s.ne_new hp hn)⟩
/-- a new cell -/
def mu1 (μ : Nat → Addr) (N : Nat) (p : Addr) : Nat → Addr := fun n => if n = N then p else μ n
theorem mu1_same {p : Addr} : mu1 μ N p N = p := by unfold mu1; rw [if_pos rfl]
theorem mu1_lt {p : Addr} {n : Nat} (h : n < N) : mu1 μ N p n = μ n := by unfold mu1; rw [if_neg (by omega)]
theorem Ext.cell {p : Addr} {o : HO} (h : H p = none) : Ext M μ N H (own M p .cell) (mu1 μ N p) (N + 1) (upd H p o) := ⟨Nat.le_succ _, fun _ h => mu1_lt h, fun a u e m => by
  have ne : a ≠ p := ne_of_none e h
  exact ⟨by rw [upd_ne ne]; exact e, own_ne ne⟩⟩
theorem Sim.cellNew {S : Store} (s : Sim c M μ S H) {p : Addr} {o : HO} {k : Cell} (hp : H p = none) (hk : CellOk c (own M p .cell) (mu1 μ S.length p) (S.length + 1) (upd H p o) p k) :
    Sim c (own M p .cell) (mu1 μ S.length p) (S ++ [k]) (upd H p o) := by
  have e : Ext M μ S.length H (own M p .cell) (mu1 μ S.length p) (S.length + 1) (upd H p o) := Ext.cell hp
  refine ⟨fun n k' h => ?_, fun m n hm hn q => ?_⟩
  · rw [List.length_append]
    by_cases hn : n < S.length
    · rw [List.getElem?_append_left hn] at h
      obtain ⟨m, ok⟩ := s.cell n k' h
      have ne := s.ne_new hp hn
      rw [mu1_lt hn]
      exact ⟨(own_ne ne).trans m, ok.ext e (upd_ne ne)⟩
    · rw [List.getElem?_append_right (by omega)] at h
      have hz : n - S.length = 0 := by
        have := (List.getElem?_eq_some_iff.mp h).1
        simp at this
        omega
      have hn' : n = S.length := by omega
      subst hn'
      simp at h
      subst h
      rw [mu1_same]
      exact ⟨own_same, hk⟩
  · rw [List.length_append, List.length_singleton] at hm hn
    by_cases h1 : m < S.length
    · by_cases h2 : n < S.length
      · rw [mu1_lt h1, mu1_lt h2] at q
        exact s.inj m n h1 h2 q
      · have : n = S.length := by omega
        subst this
        rw [mu1_lt h1, mu1_same] at q
        exact absurd q (s.ne_new hp h1)
    · have : m = S.length := by omega
      subst this
      by_cases h2 : n < S.length
      · rw [mu1_lt h2, mu1_same] at q
        exact absurd q.symm (s.ne_new hp h2)
      · omega
/-- a cell is written -/
theorem Ext.write {p : Addr} {o : HO} (h : M p = .cell) : Ext M μ N H M μ N (upd H p o) := ⟨Nat.le_refl _, fun _ _ => rfl, fun a u e m => by
  have ne : a ≠ p := fun q => m (by rw [q]; exact h)
  exact ⟨by rw [upd_ne ne]; exact e, rfl⟩⟩
theorem Sim.write {S : Store} (s : Sim c M μ S H) {n : Nat} {o : HO} {k : Cell} (hn : n < S.length) (hk : CellOk c M μ S.length (upd H (μ n) o) (μ n) k) : Sim c M μ (S.set n k) (upd H (μ n) o) := by
  have hm : M (μ n) = .cell := (s.cell n _ (List.getElem?_eq_getElem hn)).1
  have e : Ext M μ S.length H M μ S.length (upd H (μ n) o) := Ext.write hm
  refine ⟨fun m k' h => ?_, fun m m' h1 h2 q => s.inj m m' (by simpa using h1) (by simpa using h2) q⟩
  rw [List.length_set]
  by_cases q : m = n
  · subst q
    rw [List.getElem?_set_self hn] at h
    cases h
    exact ⟨hm, hk⟩
  · rw [List.getElem?_set_ne (Ne.symm q)] at h
    obtain ⟨m1, ok⟩ := s.cell m k' h
    have hm' := (List.getElem?_eq_some_iff.mp h).1
    have ne : μ m ≠ μ n := fun z => q (s.inj m n hm' hn z)
    exact ⟨m1, ok.ext e (upd_ne ne)⟩
end

/-- no cell from N on is named -/
def wfV (N : Nat) : Val → Prop
  | .tup xs => wfVs N xs
  | .lst xs => wfVs N xs
  | .frl xs => wfVs N xs
  | .obj _ xs => wfVs N xs
  | .exn _ xs => wfVs N xs
  | .dic _ xs => wfVs N xs
  | .ref n => n < N
  | _ => True
where wfVs (N : Nat) : List Val → Prop
  | [] => True
  | x :: xs => wfV N x ∧ wfVs N xs
abbrev wfVs := wfV.wfVs
def wfC (N : Nat) : Cell → Prop
  | .lst xs => wfVs N xs
  | .ins _ fs => wfVs N (fs.map (·.2))
section
variable {c : RC} {M : Addr → Own} {μ : Nat → Addr} {N N' : Nat} {H : Hp}
mutual
theorem VR.shrink : ∀ {d : Val} {v : V}, wfV N' d → VR c M μ N H d v → VR c M μ N' H d v
  | .non, v, _, h => by unfold VR at h ⊢; exact h
  | .bl _, v, _, h => by unfold VR at h ⊢; exact h
  | .int _, v, _, h => by unfold VR at h ⊢; exact h
  | .str _, v, _, h => by unfold VR at h ⊢; exact h
  | .tup xs, v, w, h => by
    unfold VR at h ⊢
    obtain ⟨a, us, e1, t, r⟩ := h
    exact ⟨a, us, e1, t, VRs.shrink w r⟩
  | .lst xs, v, w, h => by
    unfold VR at h ⊢
    obtain ⟨a, us, e1, m, t, r⟩ := h
    exact ⟨a, us, e1, m, t, VRs.shrink w r⟩
  | .frl xs, v, w, h => by
    unfold VR at h ⊢
    obtain ⟨a, us, e1, t, r⟩ := h
    exact ⟨a, us, e1, t, VRs.shrink w r⟩
  | .obj C xs, v, w, h => by
    unfold VR at h ⊢
    obtain ⟨a, dx, us, e1, m, t, l, r⟩ := h
    exact ⟨a, dx, us, e1, m, t, l, VRs.shrink w r⟩
  | .ref n, v, w, h => by
    unfold VR at h ⊢
    exact ⟨w, h.2⟩
  | .fn f, v, _, h => by unfold VR at h ⊢; exact h
  | .exn C xs, v, w, h => by
    unfold VR at h ⊢
    obtain ⟨a, us, e1, m, l, t, r⟩ := h
    exact ⟨a, us, e1, m, l, t, VRs.shrink w r⟩
  | .dic ks xs, v, w, h => by
    unfold VR at h ⊢
    obtain ⟨a, us, e1, m, t, l, r⟩ := h
    exact ⟨a, us, e1, m, t, l, VRs.shrink w r⟩
theorem VRs.shrink : ∀ {ds : List Val} {vs : List V}, wfVs N' ds → VRs c M μ N H ds vs → VRs c M μ N' H ds vs
  | [], vs, _, h => by unfold VRs at h ⊢; exact h
  | d :: ds, vs, w, h => by
    unfold VRs at h ⊢
    obtain ⟨u, r, e1, h1, h2⟩ := h
    exact ⟨u, r, e1, VR.shrink w.1 h1, VRs.shrink w.2 h2⟩
end
theorem CellOk.shrink {a : Addr} {k : Cell} (w : wfC N' k) (h : CellOk c M μ N H a k) : CellOk c M μ N' H a k := by
  cases k with
  | lst xs => obtain ⟨us, e1, r⟩ := h; exact ⟨us, e1, VRs.shrink w r⟩
  | ins C fs => obtain ⟨dx, us, e1, r⟩ := h; exact ⟨dx, us, e1, VRs.shrink w r⟩
mutual
theorem VR.wf : ∀ {d : Val} {v : V}, VR c M μ N H d v → wfV N d
  | .non, v, h => True.intro
  | .bl _, v, h => True.intro
  | .int _, v, h => True.intro
  | .str _, v, h => True.intro
  | .tup xs, v, h => by
    obtain ⟨a, us, e1, t, r⟩ := h.tup_inv
    exact VRs.wf r
  | .lst xs, v, h => by
    obtain ⟨a, us, e1, m, t, r⟩ := h.lst_inv
    exact VRs.wf r
  | .frl xs, v, h => by
    obtain ⟨a, us, e1, t, r⟩ := h.frl_inv
    exact VRs.wf r
  | .obj C xs, v, h => by
    obtain ⟨a, dx, us, e1, m, t, l, r⟩ := h.obj_inv
    exact VRs.wf r
  | .ref n, v, h => h.ref_inv.1
  | .fn f, v, h => True.intro
  | .exn C xs, v, h => by
    obtain ⟨a, us, e1, m, l, t, r⟩ := h.exn_inv
    exact VRs.wf r
  | .dic ks xs, v, h => by
    obtain ⟨a, us, e1, m, t, l, r⟩ := h.dic_inv
    exact VRs.wf r
theorem VRs.wf : ∀ {ds : List Val} {vs : List V}, VRs c M μ N H ds vs → wfVs N ds
  | [], vs, h => True.intro
  | d :: ds, vs, h => by
    obtain ⟨u, r, e1, h1, h2⟩ := h.cons_inv
    exact ⟨VR.wf h1, VRs.wf h2⟩
end
end
end Pi
set_option Elab.async false
set_option linter.all false
set_option maxRecDepth 100000
set_option maxHeartbeats 4000000
/-! Pi2: expressions: combinators, and that what they tell is what the expressions do. -/
namespace Pi
open PySem L2
open PyProof.Rows hiding St

abbrev Cm := Loc → Store → Res Val

/-- the locals lie in the slots -/
def LR (c : RC) (M : Addr → Own) (μ : Nat → Addr) (N : Nat) (H : Hp) (ρ : Loc) (σ : St) : Prop :=
  ρ.length = σ.length ∧ ∀ (i : Nat) (d : Val), ρ[i]? = some (some d) → ∃ v, σ[i]? = some (some v) ∧ VR c M μ N H d v
section
variable {c : RC} {M M1 : Addr → Own} {μ μ1 : Nat → Addr} {N N1 : Nat} {H H1 : Hp} {ρ : Loc} {σ : St}
theorem LR.ext (e : Ext M μ N H M1 μ1 N1 H1) (h : LR c M μ N H ρ σ) : LR c M1 μ1 N1 H1 ρ σ :=
  ⟨h.1, fun i d q => let ⟨v, e1, r⟩ := h.2 i d q; ⟨v, e1, r.ext e⟩⟩
theorem LR.set {d : Val} {v : V} {i : Nat} (h : LR c M μ N H ρ σ) (r : VR c M μ N H d v) : LR c M μ N H (ρ.set i (some d)) (σ.set i (some v)) := by
  refine ⟨by simpa using h.1, fun j e q => ?_⟩
  by_cases hj : i = j
  · subst hj
    by_cases hi : i < ρ.length
    · rw [List.getElem?_set_self hi] at q
      cases q
      exact ⟨v, List.getElem?_set_self (by rw [← h.1]; exact hi), r⟩
    · rw [List.getElem?_eq_none (by simpa using hi)] at q
      cases q
  · rw [List.getElem?_set_ne hj] at q
    obtain ⟨u, e1, r1⟩ := h.2 j e q
    exact ⟨u, by rw [List.getElem?_set_ne hj]; exact e1, r1⟩
end

/-- what is wanted behind an expression that tells d, the store S' -/
def KE (c : RC) (M : Addr → Own) (μ : Nat → Addr) (N : Nat) (H : Hp) (d : Val) (S' : Store) (Q : VK) : Prop :=
  ∀ M' μ' H' v, Ext M μ N H M' μ' S'.length H' → Sim c M' μ' S' H' → VR c M' μ' S'.length H' d v → Q v H'
def KA (c : RC) (M : Addr → Own) (μ : Nat → Addr) (N : Nat) (H : Hp) (ds : List Val) (S' : Store) (Q : List V → Hp → Prop) : Prop :=
  ∀ M' μ' H' vs, Ext M μ N H M' μ' S'.length H' → Sim c M' μ' S' H' → VRs c M' μ' S'.length H' ds vs → Q vs H'
theorem KE.ext {c : RC} {M M1 : Addr → Own} {μ μ1 : Nat → Addr} {N N1 : Nat} {H H1 : Hp} {d : Val} {S' : Store} {Q : VK} (e : Ext M μ N H M1 μ1 N1 H1) (k : KE c M μ N H d S' Q) : KE c M1 μ1 N1 H1 d S' Q :=
  fun M' μ' H' v e' => k M' μ' H' v (e.trans e')

/-- the reading of an expression by a combinator -/
def tE (c : RC) (m : Cm) : TE := fun σ H Q => ∃ M μ S ρ d S', Sim c M μ S H ∧ LR c M μ S.length H ρ σ ∧ m ρ S = .ok d S' ∧ KE c M μ S.length H d S' Q
/-- .. of a test: a truth -/
def tT (c : RC) (m : Cm) : TT := fun σ H Q => ∃ M μ S ρ b S', Sim c M μ S H ∧ LR c M μ S.length H ρ σ ∧ m ρ S = .ok (.bl b) S' ∧
  ∀ M' μ' H', Ext M μ S.length H M' μ' S'.length H' → Sim c M' μ' S' H' → Q b H'
/-- arguments -/
def evs : List Cm → Loc → Store → Res (List Val)
  | [], _, S => .ok [] S
  | m :: ms, ρ, S => (m ρ S).bind fun d S1 => (evs ms ρ S1).bind fun ds S2 => .ok (d :: ds) S2
def tA (c : RC) (ms : List Cm) : TA := fun σ H Q => ∃ M μ S ρ ds S', Sim c M μ S H ∧ LR c M μ S.length H ρ σ ∧ evs ms ρ S = .ok ds S' ∧ KA c M μ S.length H ds S' Q

section
variable {X : Cx} {c : RC} {e a b : Expr} {es : List Expr} {pos : Pos} {m ma mb : Cm} {ms : List Cm}
theorem PE.imp {t t' : TE} (h : PE X e t) (i : ∀ σ H Q, t' σ H Q → t σ H Q) : PE X e t' := ⟨fun pins s σ H Q I q => h.run pins s σ H Q I (i σ H Q q)⟩
theorem PT.imp {t t' : TT} (h : PT X e t) (i : ∀ σ H Q, t' σ H Q → t σ H Q) : PT X e t' := ⟨fun pins s σ H Q I q => h.run pins s σ H Q I (i σ H Q q)⟩
theorem PA.imp {t t' : TA} (h : PA X es t) (i : ∀ σ H Q, t' σ H Q → t σ H Q) : PA X es t' := ⟨fun pos pins s σ H Q I q => h.run pos pins s σ H Q I (i σ H Q q)⟩
/-- a step of an expression: the first part, then the rest -/
theorem tE_bind {k : Loc → Val → Store → Res Val} {σ : St} {H : Hp} {Q : VK} (h : tE c (fun ρ S => (ma ρ S).bind (k ρ)) σ H Q) :
    tE c ma σ H fun v H1 => ∃ M μ S ρ d1 d S', Sim c M μ S H1 ∧ LR c M μ S.length H1 ρ σ ∧ VR c M μ S.length H1 d1 v ∧ k ρ d1 S = .ok d S' ∧ KE c M μ S.length H1 d S' Q := by
  obtain ⟨M, μ, S, ρ, d, S', s, l, q, k'⟩ := h
  obtain ⟨d1, S1, q1, q2⟩ := Res.bind_eq_ok q
  refine ⟨M, μ, S, ρ, d1, S1, s, l, q1, fun M' μ' H' v e s' r => ?_⟩
  exact ⟨M', μ', S1, ρ, d1, d, S', s', l.ext e, r, q2, k'.ext e⟩
def c1 (f : Val → Store → Res Val) (ma : Cm) : Cm := fun ρ S => (ma ρ S).bind fun d1 S1 => f d1 S1
def c2 (f : Val → Val → Store → Res Val) (ma mb : Cm) : Cm := fun ρ S => (ma ρ S).bind fun d1 S1 => (mb ρ S1).bind fun d2 S2 => f d1 d2 S2
def cN (f : List Val → Store → Res Val) (ms : List Cm) : Cm := fun ρ S => (evs ms ρ S).bind fun ds S1 => f ds S1
theorem tE_c1 {f : Val → Store → Res Val} {σ : St} {H : Hp} {Q : VK} (h : tE c (c1 f ma) σ H Q) :
    tE c ma σ H fun v H1 => ∃ M μ S d1 d S', Sim c M μ S H1 ∧ VR c M μ S.length H1 d1 v ∧ f d1 S = .ok d S' ∧ KE c M μ S.length H1 d S' Q := by
  obtain ⟨M, μ, S, ρ, d, S', s, l, q, k⟩ := h
  obtain ⟨d1, S1, q1, q2⟩ := Res.bind_eq_ok q
  exact ⟨M, μ, S, ρ, d1, S1, s, l, q1, fun M' μ' H' v e s' r => ⟨M', μ', S1, d1, d, S', s', r, q2, k.ext e⟩⟩
theorem tE_c2 {f : Val → Val → Store → Res Val} {σ : St} {H : Hp} {Q : VK} (h : tE c (c2 f ma mb) σ H Q) :
    tE c ma σ H fun v H1 => tE c mb σ H1 fun u H2 => ∃ M μ S d1 d2 d S', Sim c M μ S H2 ∧ VR c M μ S.length H2 d1 v ∧ VR c M μ S.length H2 d2 u ∧ f d1 d2 S = .ok d S' ∧ KE c M μ S.length H2 d S' Q := by
  obtain ⟨M, μ, S, ρ, d, S', s, l, q, k⟩ := h
  obtain ⟨d1, S1, q1, q2⟩ := Res.bind_eq_ok q
  obtain ⟨d2, S2, q3, q4⟩ := Res.bind_eq_ok q2
  refine ⟨M, μ, S, ρ, d1, S1, s, l, q1, fun M' μ' H' v e s' r => ?_⟩
  refine ⟨M', μ', S1, ρ, d2, S2, s', l.ext e, q3, fun M2 μ2 H2 u e2 s2 r2 => ?_⟩
  exact ⟨M2, μ2, S2, d1, d2, d, S', s2, r.ext e2, r2, q4, k.ext (e.trans e2)⟩
theorem tE_cN {f : List Val → Store → Res Val} {σ : St} {H : Hp} {Q : VK} (h : tE c (cN f ms) σ H Q) :
    tA c ms σ H fun vs H1 => ∃ M μ S ds d S', Sim c M μ S H1 ∧ VRs c M μ S.length H1 ds vs ∧ f ds S = .ok d S' ∧ KE c M μ S.length H1 d S' Q := by
  obtain ⟨M, μ, S, ρ, d, S', s, l, q, k⟩ := h
  obtain ⟨ds, S1, q1, q2⟩ := Res.bind_eq_ok q
  exact ⟨M, μ, S, ρ, ds, S1, s, l, q1, fun M' μ' H' v e s' r => ⟨M', μ', S1, ds, d, S', s', r, q2, k.ext e⟩⟩

/-! ### names, constants -/
def cVar (i : Nat) : Cm := fun ρ S => match ρ[i]? with
  | some (some d) => .ok d S
  | _ => .no
def cC (d : Val) : Cm := fun _ S => .ok d S
theorem ie_var {i : Nat} {σ : St} {H : Hp} {Q : VK} (h : tE c (cVar i) σ H Q) : tVar i σ H Q := by
  obtain ⟨M, μ, S, ρ, d, S', s, l, q, k⟩ := h
  unfold cVar at q
  split at q
  · rename_i d' hd
    cases q
    obtain ⟨v, e1, r⟩ := l.2 i _ hd
    exact ⟨v, e1, k M μ H v .refl s r⟩
  · cases q
theorem ie_c {d : Val} {v : V} (hv : ∀ M μ N H, VR c M μ N H d v) {σ : St} {H : Hp} {Q : VK} (h : tE c (cC d) σ H Q) : tC v σ H Q := by
  obtain ⟨M, μ, S, ρ, d, S', s, l, q, k⟩ := h
  cases q
  exact k M μ H v .refl s (hv _ _ _ _)
theorem de_var {i : Nat} {x : Str} (hN : X.N[i]? = some x) (hv : Vis X.env.scope x) (hd : (x == ("__debug__" : Str)) = false) (hcd : (x == ("__classdict__" : Str)) = false) : PE X (.Name x pos) (tE c (cVar i)) :=
  PE.imp (pe_var hN hv hd hcd) fun _ _ _ h => ie_var h
theorem de_int {i : Int} {j} : PE X (.Constant (.int i) j pos) (tE c (cC (.int i))) := PE.imp pe_int fun _ _ _ h => ie_c (fun _ _ _ _ => .int) h
theorem de_bl {i : Bool} {j} : PE X (.Constant (.bool i) j pos) (tE c (cC (.bl i))) := PE.imp pe_bl fun _ _ _ h => ie_c (fun _ _ _ _ => .bl) h
theorem de_non {j} : PE X (.Constant .none j pos) (tE c (cC .non)) := PE.imp pe_non fun _ _ _ h => ie_c (fun _ _ _ _ => .non) h
theorem de_str {x : Str} {j} : PE X (.Constant (.str x) j pos) (tE c (cC (.str x))) := PE.imp pe_str fun _ _ _ h => ie_c (fun _ _ _ _ => .str) h

/-! ### arguments -/
theorem da_nil : PA X [] (tA c []) := PA.imp pa_nil fun σ H Q h => by
  obtain ⟨M, μ, S, ρ, ds, S', s, l, q, k⟩ := h
  cases q
  exact k M μ H [] .refl s .nil
theorem ia_cons {σ : St} {H : Hp} {Q : List V → Hp → Prop} (h : tA c (m :: ms) σ H Q) : tCons (tE c m) (tA c ms) σ H Q := by
  obtain ⟨M, μ, S, ρ, ds, S', s, l, q, k⟩ := h
  obtain ⟨d, S1, q1, q2⟩ := Res.bind_eq_ok q
  obtain ⟨ds2, S2, q3, q4⟩ := Res.bind_eq_ok q2
  cases q4
  refine ⟨M, μ, S, ρ, d, S1, s, l, q1, fun M' μ' H' v e s' r => ?_⟩
  refine ⟨M', μ', S1, ρ, ds2, S', s', l.ext e, q3, fun M2 μ2 H2 vs e2 s2 r2 => ?_⟩
  exact k M2 μ2 H2 (v :: vs) (e.trans e2) s2 (.cons (r.ext e2) r2)
theorem da_cons (he : PE X e (tE c m)) (hr : PA X es (tA c ms)) (hs : starEach (e :: es) X.env = (false, eval e X.env) :: starEach es X.env) : PA X (e :: es) (tA c (m :: ms)) :=
  PA.imp (pa_cons he hr hs) fun _ _ _ h => ia_cons h

/-! ### operations on values -/
/-- g tells what the operation f does -/
def SO2 (X : Cx) (c : RC) (f : Value → Value → Sem Value) (g : Val → Val → Store → Res Val) : Prop :=
  ∀ (pins : List (Addr × Obj)) (s : Shared) (σ : St) (H : Hp) (M : Addr → Own) (μ : Nat → Addr) (S : Store) (x y : V) (v u : Value) (d1 d2 d : Val) (S' : Store) (Q : VK), Inv X pins σ H s → Sim c M μ S H → VR c M μ S.length H d1 x → VR c M μ S.length H d2 y → RelV x v → RelV y u →
    g d1 d2 S = .ok d S' → KE c M μ S.length H d S' Q → wpAny (model X.prog X.w) X.A (f v u) (EP X pins σ Q) X.xe s
def SO1 (X : Cx) (c : RC) (f : Value → Sem Value) (g : Val → Store → Res Val) : Prop :=
  ∀ (pins : List (Addr × Obj)) (s : Shared) (σ : St) (H : Hp) (M : Addr → Own) (μ : Nat → Addr) (S : Store) (x : V) (v : Value) (d1 d : Val) (S' : Store) (Q : VK), Inv X pins σ H s → Sim c M μ S H → VR c M μ S.length H d1 x → RelV x v →
    g d1 S = .ok d S' → KE c M μ S.length H d S' Q → wpAny (model X.prog X.w) X.A (f v) (EP X pins σ Q) X.xe s
/-- .. a call of a built-in -/
def SOC (X : Cx) (c : RC) (f : Value) (g : List Val → Store → Res Val) : Prop :=
  ∀ (pins : List (Addr × Obj)) (s : Shared) (σ : St) (H : Hp) (M : Addr → Own) (μ : Nat → Addr) (S : Store) (xs : List V) (us : List Value) (ds : List Val) (d : Val) (S' : Store) (Q : VK), Inv X pins σ H s → Sim c M μ S H → VRs c M μ S.length H ds xs → Vals xs us →
    g ds S = .ok d S' → KE c M μ S.length H d S' Q → wpAny (model X.prog X.w) X.A (call f us) (EP X pins σ Q) X.xe s
theorem SO2.of {f : Value → Value → Sem Value} {g : Val → Val → Store → Res Val} {r : R2} (ho : OpR X f r)
    (h : ∀ (H : Hp) (M : Addr → Own) (μ : Nat → Addr) (S : Store) (x y : V) (d1 d2 d : Val) (S' : Store) (Q : VK), Sim c M μ S H → VR c M μ S.length H d1 x → VR c M μ S.length H d2 y → g d1 d2 S = .ok d S' → KE c M μ S.length H d S' Q → r x y H Q) : SO2 X c f g :=
  fun pins s σ H M μ S x y v u d1 d2 d S' Q I sm r1 r2 rv ru q k => ho pins s σ H x y v u Q I rv ru (h H M μ S x y d1 d2 d S' Q sm r1 r2 q k)
theorem SO1.of {f : Value → Sem Value} {g : Val → Store → Res Val} {r : V → Hp → VK → Prop} (ho : UnR X f r)
    (h : ∀ (H : Hp) (M : Addr → Own) (μ : Nat → Addr) (S : Store) (x : V) (d1 d : Val) (S' : Store) (Q : VK), Sim c M μ S H → VR c M μ S.length H d1 x → g d1 S = .ok d S' → KE c M μ S.length H d S' Q → r x H Q) : SO1 X c f g :=
  fun pins s σ H M μ S x v d1 d S' Q I sm r1 rv q k => ho pins s σ H x v Q I rv (h H M μ S x d1 d S' Q sm r1 q k)
theorem SOC.of {f : Value} {g : List Val → Store → Res Val} {r : List V → Hp → VK → Prop} (ho : CallR X f r)
    (h : ∀ (H : Hp) (M : Addr → Own) (μ : Nat → Addr) (S : Store) (xs : List V) (ds : List Val) (d : Val) (S' : Store) (Q : VK), Sim c M μ S H → VRs c M μ S.length H ds xs → g ds S = .ok d S' → KE c M μ S.length H d S' Q → r xs H Q) : SOC X c f g :=
  fun pins s σ H M μ S xs us ds d S' Q I sm r1 rv q k => ho pins s σ H xs us Q I rv (h H M μ S xs ds d S' Q sm r1 q k)
theorem SO2.or {f : Value → Value → Sem Value} {g g' : Val → Val → Store → Res Val} (h : SO2 X c f g) (h' : SO2 X c f g') :
    SO2 X c f fun d1 d2 S => match g d1 d2 S with | .ok d S' => .ok d S' | .no => g' d1 d2 S :=
  fun pins s σ H M μ S x y v u d1 d2 d S' Q I sm r1 r2 rv ru q k => by
    cases e : g d1 d2 S with
    | ok d0 S0 =>
      simp only [e] at q
      cases q
      exact h pins s σ H M μ S x y v u d1 d2 _ _ Q I sm r1 r2 rv ru e k
    | no =>
      simp only [e] at q
      exact h' pins s σ H M μ S x y v u d1 d2 d S' Q I sm r1 r2 rv ru q k
theorem SOC.or {f : Value} {g g' : List Val → Store → Res Val} (h : SOC X c f g) (h' : SOC X c f g') :
    SOC X c f fun ds S => match g ds S with | .ok d S' => .ok d S' | .no => g' ds S :=
  fun pins s σ H M μ S xs us ds d S' Q I sm r1 rv q k => by
    cases e : g ds S with
    | ok d0 S0 =>
      simp only [e] at q
      cases q
      exact h pins s σ H M μ S xs us ds _ _ Q I sm r1 rv e k
    | no =>
      simp only [e] at q
      exact h' pins s σ H M μ S xs us ds d S' Q I sm r1 rv q k
theorem de_bin {op : Operator} {g : Val → Val → Store → Res Val} (ho : SO2 X c (binaryOp op) g) (ha : PE X a (tE c ma)) (hb : PE X b (tE c mb)) : PE X (.BinOp a op b pos) (tE c (c2 g ma mb)) := by
  refine ⟨fun pins s σ H Q I h => ?_⟩
  refine wpAny_BinOp (binT ha hb I (tE_c2 h) fun v u s2 x y H2 I2 rx ry q => ?_)
  obtain ⟨M, μ, S, d1, d2, d, S', sm, r1, r2, q, k⟩ := q
  exact ho pins s2 σ H2 M μ S x y v u d1 d2 d S' Q I2 sm r1 r2 rx ry q k
theorem de_un {op : UnaryOp} {g : Val → Store → Res Val} (ho : SO1 X c (unaryOp op) g) (ha : PE X a (tE c ma)) : PE X (.UnaryOp op a pos) (tE c (c1 g ma)) := by
  refine ⟨fun pins s σ H Q I h => ?_⟩
  refine UnaryOp_ (thn (ha.run pins s σ H _ I (tE_c1 h)) fun v s1 ⟨x, H1, I1, rx, q⟩ => ?_)
  obtain ⟨M, μ, S, d1, d, S', sm, r1, q, k⟩ := q
  exact ho pins s1 σ H1 M μ S x v d1 d S' Q I1 sm r1 rx q k
theorem de_cmp {op : CmpOp} {g : Val → Val → Store → Res Val} (ho : SO2 X c (compareOp op) g) (ha : PE X a (tE c ma)) (hb : PE X b (tE c mb)) (hm : behindInMarks op b = false) : PE X (.Compare a [op] [b] pos) (tE c (c2 g ma mb)) := by
  refine ⟨fun pins s σ H Q I h => ?_⟩
  refine wpAny_Compare1 (binT ha hb I (tE_c2 h) fun v u s2 x y H2 I2 rx ry q => ?_) hm
  obtain ⟨M, μ, S, d1, d2, d, S', sm, r1, r2, q, k⟩ := q
  exact ho pins s2 σ H2 M μ S x y v u d1 d2 d S' Q I2 sm r1 r2 rx ry q k
/-- a comparison as a test -/
theorem tT_c2 {f : Val → Val → Store → Res Val} {σ : St} {H : Hp} {Q : Bool → Hp → Prop} (h : tT c (c2 f ma mb) σ H Q) :
    tE c ma σ H fun v H1 => tE c mb σ H1 fun u H2 => ∃ M μ S d1 d2 b S', Sim c M μ S H2 ∧ VR c M μ S.length H2 d1 v ∧ VR c M μ S.length H2 d2 u ∧ f d1 d2 S = .ok (.bl b) S' ∧ KE c M μ S.length H2 (.bl b) S' (fun z H3 => ∃ k, z = .bl k ∧ Q k H3) := by
  obtain ⟨M, μ, S, ρ, b, S', s, l, q, k⟩ := h
  obtain ⟨d1, S1, q1, q2⟩ := Res.bind_eq_ok q
  obtain ⟨d2, S2, q3, q4⟩ := Res.bind_eq_ok q2
  refine ⟨M, μ, S, ρ, d1, S1, s, l, q1, fun M' μ' H' v e s' r => ?_⟩
  refine ⟨M', μ', S1, ρ, d2, S2, s', l.ext e, q3, fun M2 μ2 H2 u e2 s2 r2 => ?_⟩
  exact ⟨M2, μ2, S2, d1, d2, b, S', s2, r.ext e2, r2, q4, fun M3 μ3 H3 z e3 s3 r3 => ⟨b, r3.bl_inv, k M3 μ3 H3 ((e.trans e2).trans e3) s3⟩⟩
theorem dt_cmp {op : CmpOp} {g : Val → Val → Store → Res Val} (ho : SO2 X c (compareOp op) g) (ha : PE X a (tE c ma)) (hb : PE X b (tE c mb)) (hm : behindInMarks op b = false) : PT X (.Compare a [op] [b] pos) (tT c (c2 g ma mb)) := by
  refine ⟨fun pins s σ H Q I h => ?_⟩
  refine wpAny_isTrue_Compare1 (thn (ha.run pins s σ H _ I (tT_c2 h)) fun v s1 ⟨x, H1, I1, r1, q1⟩ => thn (hb.run pins s1 σ H1 _ I1 q1) fun u s2 ⟨y, H2, I2, r2, q2⟩ => ?_) hm
  obtain ⟨M, μ, S, d1, d2, b, S', sm, v1, v2, q, k⟩ := q2
  refine thn (ho pins s2 σ H2 M μ S x y v u d1 d2 (.bl b) S' _ I2 sm v1 v2 r1 r2 q k) fun cv s3 ⟨z, H3, I3, r3, kk, ek, q3⟩ => ?_
  subst ek
  cases r3
  exact wpAny_truthy_bool ⟨H3, I3, q3⟩

/-! ### tests -/
/-- an expression of any kind that tells a truth, as a test (not: and, or, not, a comparison, a choice) -/
theorem tT_val {σ : St} {H : Hp} {Q : Bool → Hp → Prop} (h : tT c m σ H Q) : tE c m σ H fun v H1 => ∃ k, v = .bl k ∧ Q k H1 := by
  obtain ⟨M, μ, S, ρ, b, S', s, l, q, k⟩ := h
  exact ⟨M, μ, S, ρ, .bl b, S', s, l, q, fun M' μ' H' v e s' r => ⟨b, r.bl_inv, k M' μ' H' e s'⟩⟩
theorem dt_val (ha : PE X a (tE c ma)) (he : ∀ whole, isTrue a X.env whole = (do let v ← whole; standAt a.pos; holding [v] (truthy v))) : PT X a (tT c ma) :=
  PT.imp (pt_val ha he) fun _ _ _ h => tT_val h
def cNot (ma : Cm) : Cm := fun ρ S => (ma ρ S).bind fun d S1 => match d with
  | .bl b => .ok (.bl (!b)) S1
  | _ => .no
def cAnd (ma mb : Cm) : Cm := fun ρ S => (ma ρ S).bind fun d S1 => match d with
  | .bl true => mb ρ S1
  | .bl false => .ok (.bl false) S1
  | _ => .no
def cOr (ma mb : Cm) : Cm := fun ρ S => (ma ρ S).bind fun d S1 => match d with
  | .bl true => .ok (.bl true) S1
  | .bl false => mb ρ S1
  | _ => .no
def cIte (mt ma mb : Cm) : Cm := fun ρ S => (mt ρ S).bind fun d S1 => match d with
  | .bl true => ma ρ S1
  | .bl false => mb ρ S1
  | _ => .no
theorem dt_not (ha : PT X a (tT c ma)) : PT X (.UnaryOp .Not a pos) (tT c (cNot ma)) := PT.imp (pt_not ha) fun σ H Q h => by
  obtain ⟨M, μ, S, ρ, b, S', s, l, q, k⟩ := h
  obtain ⟨d1, S1, q1, q2⟩ := Res.bind_eq_ok q
  split at q2
  · rename_i b1
    cases q2
    exact ⟨M, μ, S, ρ, b1, _, s, l, q1, fun M' μ' H' e s' => by simpa using k M' μ' H' e s'⟩
  · cases q2
theorem it_and {σ : St} {H : Hp} {Q : Bool → Hp → Prop} (h : tT c (cAnd ma mb) σ H Q) : tAnd (tT c ma) (tT c mb) σ H Q := by
  obtain ⟨M, μ, S, ρ, b, S', s, l, q, k⟩ := h
  obtain ⟨d1, S1, q1, q2⟩ := Res.bind_eq_ok q
  split at q2
  · refine ⟨M, μ, S, ρ, true, S1, s, l, q1, fun M' μ' H' e s' => ?_⟩
    refine iteT ?_
    exact ⟨M', μ', S1, ρ, b, S', s', l.ext e, q2, fun M2 μ2 H2 e2 s2 => k M2 μ2 H2 (e.trans e2) s2⟩
  · cases q2
    refine ⟨M, μ, S, ρ, false, _, s, l, q1, fun M' μ' H' e s' => ?_⟩
    refine iteF ?_
    exact k M' μ' H' e s'
  · cases q2
theorem it_or {σ : St} {H : Hp} {Q : Bool → Hp → Prop} (h : tT c (cOr ma mb) σ H Q) : tOr (tT c ma) (tT c mb) σ H Q := by
  obtain ⟨M, μ, S, ρ, b, S', s, l, q, k⟩ := h
  obtain ⟨d1, S1, q1, q2⟩ := Res.bind_eq_ok q
  split at q2
  · cases q2
    refine ⟨M, μ, S, ρ, true, _, s, l, q1, fun M' μ' H' e s' => ?_⟩
    refine iteT ?_
    exact k M' μ' H' e s'
  · refine ⟨M, μ, S, ρ, false, S1, s, l, q1, fun M' μ' H' e s' => ?_⟩
    refine iteF ?_
    exact ⟨M', μ', S1, ρ, b, S', s', l.ext e, q2, fun M2 μ2 H2 e2 s2 => k M2 μ2 H2 (e.trans e2) s2⟩
  · cases q2
theorem PW.imp {t t' : TT} (h : PW X e t) (i : ∀ σ H Q, t' σ H Q → t σ H Q) : PW X e t' := ⟨fun w pins s σ H Q I q => h.run w pins s σ H Q I (i σ H Q q)⟩
theorem dw_and1 (ha : PT X a (tT c ma)) : PW X (.BoolOp .And [a] pos) (tT c ma) := pw_and1 ha
theorem dw_or1 (ha : PT X a (tT c ma)) : PW X (.BoolOp .Or [a] pos) (tT c ma) := pw_or1 ha
theorem dw_and {rest : List Expr} (ha : PT X a (tT c ma)) (hb : PW X (.BoolOp .And (b :: rest) pos) (tT c mb)) : PW X (.BoolOp .And (a :: b :: rest) pos) (tT c (cAnd ma mb)) := PW.imp (pw_and ha hb) fun _ _ _ h => it_and h
theorem dw_or {rest : List Expr} (ha : PT X a (tT c ma)) (hb : PW X (.BoolOp .Or (b :: rest) pos) (tT c mb)) : PW X (.BoolOp .Or (a :: b :: rest) pos) (tT c (cOr ma mb)) := PW.imp (pw_or ha hb) fun _ _ _ h => it_or h
/-! .. as values (truths) -/
theorem ie_and {σ : St} {H : Hp} {Q : VK} (h : tE c (cAnd ma mb) σ H Q) : tAndV (tE c ma) (tE c mb) σ H Q := by
  obtain ⟨M, μ, S, ρ, d, S', s, l, q, k⟩ := h
  obtain ⟨d1, S1, q1, q2⟩ := Res.bind_eq_ok q
  split at q2
  · refine ⟨M, μ, S, ρ, .bl true, S1, s, l, q1, fun M' μ' H' v e s' r => ⟨true, r.bl_inv, ?_⟩⟩
    refine iteT ?_
    exact ⟨M', μ', S1, ρ, d, S', s', l.ext e, q2, k.ext e⟩
  · cases q2
    refine ⟨M, μ, S, ρ, .bl false, _, s, l, q1, fun M' μ' H' v e s' r => ⟨false, r.bl_inv, ?_⟩⟩
    refine iteF ?_
    exact k M' μ' H' _ e s' .bl
  · cases q2
theorem ie_or {σ : St} {H : Hp} {Q : VK} (h : tE c (cOr ma mb) σ H Q) : tOrV (tE c ma) (tE c mb) σ H Q := by
  obtain ⟨M, μ, S, ρ, d, S', s, l, q, k⟩ := h
  obtain ⟨d1, S1, q1, q2⟩ := Res.bind_eq_ok q
  split at q2
  · cases q2
    refine ⟨M, μ, S, ρ, .bl true, _, s, l, q1, fun M' μ' H' v e s' r => ⟨true, r.bl_inv, ?_⟩⟩
    refine iteT ?_
    exact k M' μ' H' _ e s' .bl
  · refine ⟨M, μ, S, ρ, .bl false, S1, s, l, q1, fun M' μ' H' v e s' r => ⟨false, r.bl_inv, ?_⟩⟩
    refine iteF ?_
    exact ⟨M', μ', S1, ρ, d, S', s', l.ext e, q2, k.ext e⟩
  · cases q2
theorem de_one {op} (ha : PE X a (tE c ma)) : PE X (.BoolOp op [a] pos) (tE c ma) := pe_one ha
theorem de_and {rest : List Expr} (ha : PE X a (tE c ma)) (hb : PE X (.BoolOp .And (b :: rest) pos) (tE c mb)) : PE X (.BoolOp .And (a :: b :: rest) pos) (tE c (cAnd ma mb)) := PE.imp (pe_and ha hb) fun _ _ _ h => ie_and h
theorem de_or {rest : List Expr} (ha : PE X a (tE c ma)) (hb : PE X (.BoolOp .Or (b :: rest) pos) (tE c mb)) : PE X (.BoolOp .Or (a :: b :: rest) pos) (tE c (cOr ma mb)) := PE.imp (pe_or ha hb) fun _ _ _ h => ie_or h
theorem de_not (ha : PE X a (tE c ma)) : PE X (.UnaryOp .Not a pos) (tE c (cNot ma)) := PE.imp (pe_not ha) fun σ H Q h => by
  obtain ⟨M, μ, S, ρ, d, S', s, l, q, k⟩ := h
  obtain ⟨d1, S1, q1, q2⟩ := Res.bind_eq_ok q
  split at q2
  · rename_i b1
    cases q2
    exact ⟨M, μ, S, ρ, .bl b1, _, s, l, q1, fun M' μ' H' v e s' r => ⟨b1, r.bl_inv, k M' μ' H' _ e s' .bl⟩⟩
  · cases q2
theorem de_ite {t : Expr} {mt : Cm} (ht : PT X t (tT c mt)) (ha : PE X a (tE c ma)) (hb : PE X b (tE c mb)) : PE X (.IfExp t a b pos) (tE c (cIte mt ma mb)) := PE.imp (pe_ifExp ht ha hb) fun σ H Q h => by
  obtain ⟨M, μ, S, ρ, d, S', s, l, q, k⟩ := h
  obtain ⟨d1, S1, q1, q2⟩ := Res.bind_eq_ok q
  split at q2
  · refine ⟨M, μ, S, ρ, true, S1, s, l, q1, fun M' μ' H' e s' => ?_⟩
    refine iteT ?_
    exact ⟨M', μ', S1, ρ, d, S', s', l.ext e, q2, k.ext e⟩
  · refine ⟨M, μ, S, ρ, false, S1, s, l, q1, fun M' μ' H' e s' => ?_⟩
    refine iteF ?_
    exact ⟨M', μ', S1, ρ, d, S', s', l.ext e, q2, k.ext e⟩
  · cases q2

/-! ### displays -/
def mkTup (ds : List Val) (S : Store) : Res Val := if ds.length ≤ sizeLine then .ok (.tup ds) S else .no
def mkLst (ds : List Val) (S : Store) : Res Val := if ds.length ≤ sizeLine then .ok (.lst ds) S else .no
def mkLstC (ds : List Val) (S : Store) : Res Val := if ds.length ≤ sizeLine then .ok (.ref S.length) (S ++ [.lst ds]) else .no
theorem KE.tupNew {M : Addr → Own} {μ : Nat → Addr} {S : Store} {H : Hp} {ds : List Val} {xs : List V} {p : Addr} {Q : VK} (k : KE c M μ S.length H (.tup ds) S Q) (s : Sim c M μ S H) (r : VRs c M μ S.length H ds xs) (hp : H p = none) : Q (.ref p) (upd H p (.tup xs)) :=
  k (own M p .val) μ _ _ (Ext.new hp) (s.new hp) (.tup (.inl ⟨own_same, .inl upd_same⟩) (r.ext (Ext.new hp)))
theorem KE.lstNew {M : Addr → Own} {μ : Nat → Addr} {S : Store} {H : Hp} {ds : List Val} {xs : List V} {p : Addr} {Q : VK} (k : KE c M μ S.length H (.lst ds) S Q) (s : Sim c M μ S H) (r : VRs c M μ S.length H ds xs) (hp : H p = none) : Q (.ref p) (upd H p (.lst xs)) :=
  k (own M p .val) μ _ _ (Ext.new hp) (s.new hp) (.lst own_same upd_same (r.ext (Ext.new hp)))
theorem KE.cellNew {M : Addr → Own} {μ : Nat → Addr} {S : Store} {H : Hp} {ds : List Val} {xs : List V} {p : Addr} {Q : VK} (k : KE c M μ S.length H (.ref S.length) (S ++ [.lst ds]) Q) (s : Sim c M μ S H) (r : VRs c M μ S.length H ds xs) (hp : H p = none) : Q (.ref p) (upd H p (.lst xs)) := by
  have hl : (S ++ [Cell.lst ds]).length = S.length + 1 := by simp
  unfold KE at k
  rw [hl] at k
  have e : Ext M μ S.length H (own M p .cell) (mu1 μ S.length p) (S.length + 1) (upd H p (.lst xs)) := Ext.cell hp
  refine k (own M p .cell) (mu1 μ S.length p) _ _ e (s.cellNew hp ⟨xs, upd_same, r.ext e⟩) ?_
  have := VR.ref (c := c) (M := own M p .cell) (μ := mu1 μ S.length p) (N := S.length + 1) (H := upd H p (.lst xs)) (n := S.length) (Nat.lt_succ_self _)
  rw [mu1_same] at this
  exact this
theorem de_tup {x1} (h : PA X es (tA c ms)) : PE X (.Tuple es x1 pos) (tE c (cN mkTup ms)) := PE.imp (pe_tup h) fun σ H Q q => by
  obtain ⟨M, μ, S, ρ, ds, S', s, l, q1, k⟩ := tE_cN q
  refine ⟨M, μ, S, ρ, ds, S', s, l, q1, fun M' μ' H' vs e s' r => ?_⟩
  obtain ⟨M2, μ2, S2, ds2, d, S3, s2, r2, q2, k2⟩ := k M' μ' H' vs e s' r
  unfold mkTup at q2
  split at q2
  · rename_i hl
    cases q2
    exact ⟨by rw [r2.length]; exact hl, fun p hp => k2.tupNew s2 r2 hp⟩
  · cases q2
theorem de_lst (h : PA X es (tA c ms)) : PE X (.List es pos) (tE c (cN mkLst ms)) := PE.imp (pe_lst h) fun σ H Q q => by
  obtain ⟨M, μ, S, ρ, ds, S', s, l, q1, k⟩ := tE_cN q
  refine ⟨M, μ, S, ρ, ds, S', s, l, q1, fun M' μ' H' vs e s' r => ?_⟩
  obtain ⟨M2, μ2, S2, ds2, d, S3, s2, r2, q2, k2⟩ := k M' μ' H' vs e s' r
  unfold mkLst at q2
  split at q2
  · rename_i hl
    cases q2
    exact ⟨by rw [r2.length]; exact hl, fun p hp => k2.lstNew s2 r2 hp⟩
  · cases q2
theorem de_lstC (h : PA X es (tA c ms)) : PE X (.List es pos) (tE c (cN mkLstC ms)) := PE.imp (pe_lst h) fun σ H Q q => by
  obtain ⟨M, μ, S, ρ, ds, S', s, l, q1, k⟩ := tE_cN q
  refine ⟨M, μ, S, ρ, ds, S', s, l, q1, fun M' μ' H' vs e s' r => ?_⟩
  obtain ⟨M2, μ2, S2, ds2, d, S3, s2, r2, q2, k2⟩ := k M' μ' H' vs e s' r
  unfold mkLstC at q2
  split at q2
  · rename_i hl
    cases q2
    exact ⟨by rw [r2.length]; exact hl, fun p hp => k2.cellNew s2 r2 hp⟩
  · cases q2

/-! ### calls of built-ins by name -/
theorem de_callB {x : Str} {v : Value} {p : Pos} {g : List Val → Store → Res Val} (hc : SOC X c v g) (hg : Gl X x) (hm : X.mg x = none) (hv : bootBuiltins x = some v) (ha : PA X (e :: es) (tA c ms))
    (hrule : ∀ {r : List V → Hp → VK → Prop} {t : TA}, CallR X v r → PA X (e :: es) t → PE X (.Call (.Name x p) (e :: es) [] pos) (fun σ H Q => t σ H fun vs H1 => r vs H1 Q)) :
    PE X (.Call (.Name x p) (e :: es) [] pos) (tE c (cN g ms)) := by
  refine PE.imp (hrule (r := fun vs H Q => ∃ M μ S ds d S', Sim c M μ S H ∧ VRs c M μ S.length H ds vs ∧ g ds S = .ok d S' ∧ KE c M μ S.length H d S' Q) ?_ ha) fun σ H Q h => tE_cN h
  intro pins s σ H xs us Q I r q
  obtain ⟨M, μ, S, ds, d, S', sm, rv, q, k⟩ := q
  exact hc pins s σ H M μ S xs us ds d S' Q I sm rv r q k
end
end Pi
set_option Elab.async false
set_option linter.all false
set_option maxRecDepth 100000
set_option maxHeartbeats 4000000
/-! XG: what a def promises where no repr is under way (the stack has no guards). -/
namespace PiX
open PySem PySem.Spec L2
open PyProof.Rows hiding St
/-- a def's promise at calls without guards around -/
structure FnG (P : Program) (w : World) (K : PySem.W.Frag) (mg : Str → Option Value) (base : Heap) (CX : CXT) (n : Nat) (f : Addr) (fd : FuncData) (ps : List Str) (sp : Sp) : Prop where
  len : ∀ vs H Q E, sp vs H Q E → vs.length = ps.length
  go : ∀ (A : Around) (out : List Env) (s : Shared) (H : Hp) (ar : Args) (us : List Value) (vs : List V) (Q : VK) (E : XK), A.guards = some [] → Room n A → Env0 P w K mg base A out s H → BindsTo s fd ar (ps.zip us) → Vals vs us →
    sp vs H Q E → codeAny (model P w) A (.call (.ref f) ar) (CR CX out P w H s Q E) s
section
variable {P : Program} {w : World} {K : PySem.W.Frag} {mg : Str → Option Value} {base : Heap} {CX : CXT} {n k : Nat} {f : Addr} {fd : FuncData} {ps : List Str} {sp sp' : Sp}
theorem FnG.of (F : FnOk P w K mg base CX n f fd ps sp) : FnG P w K mg base CX n f fd ps sp := ⟨F.len, fun A out s H ar us vs Q E _ => F.run A out s H ar us vs Q E⟩
theorem FnG.imp (F : FnG P w K mg base CX n f fd ps sp) (h : ∀ vs H Q E, sp' vs H Q E → sp vs H Q E) : FnG P w K mg base CX n f fd ps sp' :=
  ⟨fun vs H Q E q => F.len vs H Q E (h _ _ _ _ q), fun A out s H ar us vs Q E g r e b v q => F.go A out s H ar us vs Q E g r e b v (h _ _ _ _ q)⟩
theorem guards_make {A : Around} {C : Addr} {us : List Value} {kw : List (Str × Value)} (h : A.guards = some []) : (A.under (.builtin "type.__call__" ⟨.ref C :: us, kw⟩)).guards = some [] := by
  have e : Code.guards (.builtin "type.__call__" ⟨.ref C :: us, kw⟩) = [] := by
    have z : guardIds.contains "type.__call__" = false := by decide +kernel
    unfold Code.guards Code.isGuard
    exact if_neg (by show ¬ guardIds.contains "type.__call__" = true; rw [z]; exact Bool.false_ne_true)
  unfold Around.under
  simp only
  rw [e, h]
  rfl
theorem guards_deeper {A : Around} {env : Env} (h : A.guards = some []) : (A.deeper env).guards = some [] := h
/-- the rule for a def by its body -/
theorem fnG_of {x qual : Str} {params : Arguments} {body : List Stmt} {scope : Scope} {dvs : List V} {kws : List (Str × V)} {N : List Str} (F : FunD K x qual params body scope dvs kws f fd) (S : FnScope N ps scope) (len : ∀ vs H Q E, sp vs H Q E → vs.length = ps.length)
    (hb : ∀ (cdv : Value) (A : Around) (out : List Env) (s : Shared) (H : Hp) (vs : List V) (Q : VK) (E : XK), (A.deeper (envOfC qual scope s.heap.objs.size f cdv)).guards = some [] → Room n (A.deeper (envOfC qual scope s.heap.objs.size f cdv)) → sp vs H Q E →
      ∃ t, PSs (cxOf CX P w K mg base N qual scope f cdv A out s H E) body t ∧ t { nx := fun _ H' => Q .non H', rt := Q } (start N vs) H) : FnG P w K mg base CX (n + 1) f fd ps sp := by
  obtain ⟨oc, od, dV, kV, doc, pm, an, cdv, ct, osl, rfl, lk, hcd, _, _⟩ := F.ex
  refine ⟨len, fun A out s H ar us vs Q E hg hr e0 hbd rv hsp => ?_⟩
  have hl := len _ _ _ _ hsp
  have kin : K.In s.heap := e0.mod.kin.keeps fun b o e => (e0.bs b o e).1
  have noL : s.heap.NoLimit := e0.mod.nolimit.keeps fun b o e => (e0.bs b o e).1
  have kinds : ∀ y ∈ ps.zip us, scope.names.lookup y.1 = some .local ∨ (scope.names.lookup y.1 = some .cell ∧ ((cellsFrom (s.heap.objs.size + 1) scope.names []).lookup y.1).isSome = true) := by
    rintro ⟨a, v⟩ hy
    rcases S.par a (List.of_mem_zip hy).1 with q | q
    · exact .inl q
    · exact .inr ⟨q, PySem.W.cellsFrom_some _ _ _ (.inl q)⟩
  refine codeAny_call_function hr.depth (kin _ _ lk) rfl S.co S.gen rfl (PySem.W.codeRec_of kin hcd) (hbd _ _ _ _ ?_)
  refine wpAny_newFunctionEnv_cells S.kind kinds fun env he s1 z => ?_
  subst he
  refine ⟨noL.keeps z.toInCall.keep, codeAny_func ?_⟩
  obtain ⟨t, ht, hq⟩ := hb cdv A out s H vs Q E (guards_deeper hg) (hr.deeper _) hsp
  have I : Inv (cxOf CX P w K mg base N qual scope f cdv A out s H E) [] (start N vs) H s1 := inv_start S hr.hd e0 hl rv z
  refine wpAny_mono (ht.run [] s1 (start N vs) H _ I hq) (fun fl s' hs => ?_) fun e s' hs => hs
  have fin : ∀ {σ' : St} {H' : Hp} {v : V} {u : Value}, Inv (cxOf CX P w K mg base N qual scope f cdv A out s H E) [] σ' H' s' → RelV v u → Q v H' → CE out P w H s Q u s' := fun {σ' H' v u} J rv q => ⟨v, H', J.os, J.bare, J.base, J.hok, rv, q⟩
  cases fl with
  | ret u =>
    obtain ⟨v, σ', H', J, rv, q⟩ := hs
    exact fin J rv q
  | next =>
    obtain ⟨σ', H', J, q⟩ := hs
    exact fin (v := V.non) (u := Value.none) J rfl q
  | brk => exact False.elim hs.choose_spec.choose_spec.2
  | cont => exact False.elim hs.choose_spec.choose_spec.2
end
section
variable {X : Cx} {CX : CXT} {k n : Nat} {f C : Addr} {fd : FuncData} {ps ks : List Str} {sp : Sp} {E : XK} {x : Str} {p pos : Pos} {e : Expr} {es : List Expr} {kws : List Keyword} {t tk : TA} {g : List Value → List Value → List Value} {gV : List V → List V → List V}
theorem run_G {pins : List (Addr × Obj)} {σ : St} {H : Hp} {s : Shared} {Q : VK} {us ws : List Value} {vs zs : List V} (F : FnG X.prog X.w X.K X.mg X.base CX k f fd ps sp) (gd : X.A.guards = some []) (hr : Room k X.A) (hb : KBn X.K fd ps n ks g gV) (hx : Passes CX X E)
    (I : Inv X pins σ H s) (r : Vals vs us) (rz : Vals zs ws) (l1 : vs.length = n) (l2 : zs.length = ks.length) (h : sp (gV vs zs) H Q E) : wpAny (model X.prog X.w) X.A (call (.ref f) us (ks.zip ws)) (EP X pins σ Q) X.xe s := by
  have go := F.go X.A X.stack s H ⟨us, ks.zip ws⟩ (g us ws) (gV vs zs) Q E gd hr I.env0 (hb.to s us ws I.kIn (r.length.symm.trans l1) (rz.length.symm.trans l2)) (hb.rel r rz) h
  refine wpAny_call (codeAny_mono go fun r s' hq => ?_)
  cases r with
  | error e => exact hx pins σ H s e s' I hq
  | ok fl =>
    cases fl with
    | ret u => exact I.after hq
    | next => exact False.elim hq
    | brk => exact False.elim hq
    | cont => exact False.elim hq
theorem pe_callG (F : FnG X.prog X.w X.K X.mg X.base CX k f fd ps sp) (gd : X.A.guards = some []) (hr : Room k X.A) (hg : Gl X x) (hm : X.mg x = some (.ref f)) (hk : PySem.W.keepIn X.K (.ref f) = true) (hb : KBn X.K fd ps n ks g gV) (hx : Passes CX X E)
    (ha : PA X (e :: es) t) (hkw : PK X kws tk) (hall : (backToKw pos (keywordEach kws X.env)).all (·.1.isSome) = true) (hks : (backToKw pos (keywordEach kws X.env)).filterMap (·.1) = ks) (hdb : (x == ("__debug__" : Str)) = false)
    (he : starEach (e :: es) X.env = (false, eval e X.env) :: starEach es X.env) (hpl : ((backTo pos (starEach (e :: es) X.env)).any (·.1) || (backToKw pos (keywordEach kws X.env)).any (·.1.isNone)) = false) :
    PE X (.Call (.Name x p) (e :: es) kws pos) (tCallN n ks.length sp gV E t tk) := by
  refine ⟨fun pins s σ H Q I h => ?_⟩
  refine wpAny_Call_Name_kw (ld_glob I hg hm ?_ hdb)
  refine PySem.W.callWith_KW (h₀ := X.base) I.ok.mod.kin hk hall (thn (ha.run pos pins s σ H _ I h) fun us s1 ⟨vs, H1, I1, r, q⟩ => ?_) hpl he
  refine thn (hkw.run pos pins s1 σ H1 _ I1 q) fun ws s2 ⟨zs, H2, I2, rz, l1, l2, q2⟩ => ⟨I2.kIn, ?_⟩
  rw [hks]
  exact run_G F gd hr hb hx I2 r rz l1 l2 q2
theorem run_makeG {pins : List (Addr × Obj)} {σ : St} {H : Hp} {s : Shared} {Q : VK} {us ws : List Value} {vs zs : List V} (M : Mk X.K C f) (F : FnG X.prog X.w X.K X.mg X.base CX k f fd ps sp) (gd : X.A.guards = some []) (hr : Room (k + 1) X.A) (hb : KBn X.K fd ps (n + 1) ks g gV)
    (hx : Passes CX X E) (I : Inv X pins σ H s) (r : Vals vs us) (rz : Vals zs ws) (l1 : vs.length = n) (l2 : zs.length = ks.length)
    (h : ∀ x dx, H x = none → H dx = none → dx ≠ x → sp (gV (.ref x :: vs) zs) (upd (upd H dx (.own x)) x (.ins C dx [])) (fun v H2 => v = .non ∧ Q (.ref x) H2) E) :
    wpAny (model X.prog X.w) X.A (call (.ref C) us (ks.zip ws)) (EP X pins σ Q) X.xe s := by
  have hq := h (s.heap.objs.size + 1) s.heap.objs.size (I.hok.fresh (Nat.le_succ _)) (I.hok.fresh (Nat.le_refl _)) (Nat.ne_of_lt (Nat.lt_succ_self _))
  have I2 := Inv.made (C := C) I
  have r1 : Vals (V.ref (s.heap.objs.size + 1) :: vs) (Value.ref (s.heap.objs.size + 1) :: us) := .cons rfl r
  have c1 : (Value.ref (s.heap.objs.size + 1) :: us).length = n + 1 := r1.length.symm.trans (congrArg Nat.succ l1)
  have c2 : ws.length = ks.length := rz.length.symm.trans l2
  have go := F.go _ X.stack _ _ ⟨Value.ref (s.heap.objs.size + 1) :: us, ks.zip ws⟩ (g (Value.ref (s.heap.objs.size + 1) :: us) ws) _ _ E (guards_make (C := C) (us := us) (kw := ks.zip ws) gd) (hr.make C us (ks.zip ws)) (I2.env0.make C us (ks.zip ws))
    (hb.to _ (Value.ref (s.heap.objs.size + 1) :: us) ws I2.kIn c1 c2) (hb.rel r1 rz) hq
  refine wpAny_call (make_map (f := f) I.kIn M.makes M.init (beq_iff_eq.mp M.fn) (codeAny_mono go fun z s' hz => ?_))
  cases z with
  | error e => exact hx pins σ _ _ e s' I2 hz
  | ok fl =>
    cases fl with
    | ret u =>
      obtain ⟨v, H', I3, rv, ev, q3⟩ := I2.after hz
      subst ev
      exact ⟨rv, ⟨V.ref (s.heap.objs.size + 1), H', I3, rfl, q3⟩⟩
    | next => exact False.elim hz
    | brk => exact False.elim hz
    | cont => exact False.elim hz
theorem pe_makeG (M : Mk X.K C f) (F : FnG X.prog X.w X.K X.mg X.base CX k f fd ps sp) (gd : X.A.guards = some []) (hr : Room (k + 1) X.A) (hg : Gl X x) (hm : X.mg x = some (.ref C)) (hb : KBn X.K fd ps (n + 1) ks g gV) (hx : Passes CX X E)
    (ha : PA X (e :: es) t) (hkw : PK X kws tk) (hall : (backToKw pos (keywordEach kws X.env)).all (·.1.isSome) = true) (hks : (backToKw pos (keywordEach kws X.env)).filterMap (·.1) = ks) (hdb : (x == ("__debug__" : Str)) = false)
    (he : starEach (e :: es) X.env = (false, eval e X.env) :: starEach es X.env) (hpl : ((backTo pos (starEach (e :: es) X.env)).any (·.1) || (backToKw pos (keywordEach kws X.env)).any (·.1.isNone)) = false) :
    PE X (.Call (.Name x p) (e :: es) kws pos) (tMakeN C n ks.length sp gV E t tk) := by
  refine ⟨fun pins s σ H Q I h => ?_⟩
  refine wpAny_Call_Name_kw (ld_glob I hg hm ?_ hdb)
  refine PySem.W.callWith_KW (h₀ := X.base) I.ok.mod.kin M.kp hall (thn (ha.run pos pins s σ H _ I h) fun us s1 ⟨vs, H1, I1, r, q⟩ => ?_) hpl he
  refine thn (hkw.run pos pins s1 σ H1 _ I1 q) fun ws s2 ⟨zs, H2, I2, rz, l1, l2, q2⟩ => ⟨I2.kIn, ?_⟩
  rw [hks]
  exact run_makeG M F gd hr hb hx I2 r rz l1 l2 q2
end
end PiX
set_option Elab.async false
set_option linter.all false
set_option maxRecDepth 100000
set_option maxHeartbeats 4000000
/-! PiEq: == and != of values, by their items and by the text's own __eq__; in. -/
namespace Pi
open PySem L2
open PyProof.Rows hiding St
open PySem.SeqAt
open AutoSeq1 (wpAny_loadPart')
open MeetsSeq MeetsSeq2 MeetsSeq3 SeqRoads2

section
variable {prog : Program} {w : World} {A : Around} {R : Result → Shared → Prop}
abbrev FinOf (prog : Program) (w : World) (A : Around) (R : Result → Shared → Prop) : Fin → Shared → Prop := fun fin s' => match fin with
  | .done f => R (.ok f) s'
  | .again c' => c'.quiet = true ∧ codeAny (model prog w) A c' R s'

theorem tuple_eqB (l b : Addr) (items items2 : Array Value) (n n2 : Nat) (dd dd2 : Option Addr) (sl sl2 : Array (Option Value)) (e : Nat → Bool) (I : Shared → Prop)
    (turn : ∀ i (h1 : i < items.size) (h2 : i < items2.size) s, I s → wpAny (model prog w) A.in1 (eqBool items[i] items2[i]) (fun r s' => r = e i ∧ I s') (fun e s' => R (.error e) s') s)
    (fin : ∀ s, I s → R (.ok (.ret (.bool ((List.range (min items.size items2.size)).all e && items.size == items2.size)))) s) {s : Shared} (hl1 : s.heap.get? l = some { cls := .type "tuple", dict := dd, data := .seq items n, slots := sl }) (hb1 : s.heap.get? b = some { cls := .type "tuple", dict := dd2, data := .seq items2 n2, slots := sl2 }) (h : I s) :
    wpAny (model prog w) A.in1 (Builtin.«tuple.__eq__» ⟨[.ref l, .ref b], []⟩) (FinOf prog w A R) (fun e s' => R (.error e) s') s := by
  have f2 := AutoSeq1.sub_tuple_tuple
  have hZ : (items.toList.zip items2.toList).length = min items.size items2.size := by simp
  have h0 := h
  obtain ⟨hp, g, d, tk, os⟩ := s
  wp_walk using wpAny_loadPart' hl1, wpAny_loadPart' hb1, wpAny_forIn_list _ (fun rest b s' => b.1 = none ∧ I s' ∧ ∃ i, rest = (items.toList.zip items2.toList).drop i ∧
      (∀ s, I s → R (.ok (.ret (.bool (((List.range (min items.size items2.size)).drop i).all e && items.size == items2.size)))) s)) _
  case turn =>
    rintro ⟨y, x⟩ rest b s' ⟨hb', hI, i, hz, hR⟩
    have hlt : i < (items.toList.zip items2.toList).length := by
      rcases Nat.lt_or_ge i (items.toList.zip items2.toList).length with h' | h'
      · exact h'
      · rw [List.drop_of_length_le h'] at hz; cases hz
    have hm : i < min items.size items2.size := hZ ▸ hlt
    have h1 : i < items.size := Nat.lt_of_lt_of_le hm (Nat.min_le_left _ _)
    have h2 : i < items2.size := Nat.lt_of_lt_of_le hm (Nat.min_le_right _ _)
    rw [List.drop_eq_getElem_cons hlt] at hz
    injection hz with hyx hrest
    have hy : y = items[i] := by have := congrArg Prod.fst hyx; simpa using this
    have hx : x = items2[i] := by have := congrArg Prod.snd hyx; simpa using this
    subst hy hx
    have hd : (List.range (min items.size items2.size)).drop i = i :: (List.range (min items.size items2.size)).drop (i + 1) := by simp [List.drop_eq_getElem_cons, hm]
    rw [hd] at hR
    refine wpAny_bind (wpAny_mono (turn i h1 h2 s' hI) (fun r s2 q2 => ?_) fun _ _ x => x)
    obtain ⟨hr, q2⟩ := q2
    subst hr
    cases hy : e i with
    | true =>
      obtain ⟨hp2, g2, d2, tk2, os2⟩ := s2
      wp_walk
      exact ⟨rfl, q2, i + 1, hrest, fun s hs => by simpa [hy] using hR s hs⟩
    | false =>
      have hF := hR s2 q2
      obtain ⟨hp2, g2, d2, tk2, os2⟩ := s2
      wp_walk
      simpa [hy] using hF
  case fin =>
    rintro ⟨b1, b2⟩ s' ⟨hb', hI, i, hz, hR⟩
    simp only at hb'
    subst hb'
    have hge : min items.size items2.size ≤ i := by
      rcases Nat.lt_or_ge i (items.toList.zip items2.toList).length with h' | h'
      · rw [List.drop_eq_getElem_cons h'] at hz; cases hz
      · exact hZ ▸ h'
    have hF := hR s' hI
    rw [List.drop_of_length_le (by simpa using hge)] at hF
    wp_walk
    simpa [Builtin.Tuple.tupleCompareSizes] using hF
  case h =>
    exact ⟨rfl, h0, 0, rfl, fun s hs => by simpa using fin s hs⟩

theorem tuple_neB (l b : Addr) (items items2 : Array Value) (n n2 : Nat) (dd dd2 : Option Addr) (sl sl2 : Array (Option Value)) (e : Nat → Bool) (I : Shared → Prop)
    (turn : ∀ i (h1 : i < items.size) (h2 : i < items2.size) s, I s → wpAny (model prog w) A.in1 (eqBool items[i] items2[i]) (fun r s' => r = e i ∧ I s') (fun e s' => R (.error e) s') s)
    (fin : ∀ s, I s → R (.ok (.ret (.bool (!((List.range (min items.size items2.size)).all e && items.size == items2.size))))) s) {s : Shared} (hl1 : s.heap.get? l = some { cls := .type "tuple", dict := dd, data := .seq items n, slots := sl }) (hb1 : s.heap.get? b = some { cls := .type "tuple", dict := dd2, data := .seq items2 n2, slots := sl2 }) (h : I s) :
    wpAny (model prog w) A.in1 (Builtin.«tuple.__ne__» ⟨[.ref l, .ref b], []⟩) (FinOf prog w A R) (fun e s' => R (.error e) s') s := by
  have f2 := AutoSeq1.sub_tuple_tuple
  have hZ : (items.toList.zip items2.toList).length = min items.size items2.size := by simp
  have h0 := h
  obtain ⟨hp, g, d, tk, os⟩ := s
  wp_walk using wpAny_loadPart' hl1, wpAny_loadPart' hb1, wpAny_forIn_list _ (fun rest b s' => b.1 = none ∧ I s' ∧ ∃ i, rest = (items.toList.zip items2.toList).drop i ∧
      (∀ s, I s → R (.ok (.ret (.bool (!(((List.range (min items.size items2.size)).drop i).all e && items.size == items2.size))))) s)) _
  case turn =>
    rintro ⟨y, x⟩ rest b s' ⟨hb', hI, i, hz, hR⟩
    have hlt : i < (items.toList.zip items2.toList).length := by
      rcases Nat.lt_or_ge i (items.toList.zip items2.toList).length with h' | h'
      · exact h'
      · rw [List.drop_of_length_le h'] at hz; cases hz
    have hm : i < min items.size items2.size := hZ ▸ hlt
    have h1 : i < items.size := Nat.lt_of_lt_of_le hm (Nat.min_le_left _ _)
    have h2 : i < items2.size := Nat.lt_of_lt_of_le hm (Nat.min_le_right _ _)
    rw [List.drop_eq_getElem_cons hlt] at hz
    injection hz with hyx hrest
    have hy : y = items[i] := by have := congrArg Prod.fst hyx; simpa using this
    have hx : x = items2[i] := by have := congrArg Prod.snd hyx; simpa using this
    subst hy hx
    have hd : (List.range (min items.size items2.size)).drop i = i :: (List.range (min items.size items2.size)).drop (i + 1) := by simp [List.drop_eq_getElem_cons, hm]
    rw [hd] at hR
    refine wpAny_bind (wpAny_mono (turn i h1 h2 s' hI) (fun r s2 q2 => ?_) fun _ _ x => x)
    obtain ⟨hr, q2⟩ := q2
    subst hr
    cases hy : e i with
    | true =>
      obtain ⟨hp2, g2, d2, tk2, os2⟩ := s2
      wp_walk
      exact ⟨rfl, q2, i + 1, hrest, fun s hs => by simpa [hy] using hR s hs⟩
    | false =>
      have hF := hR s2 q2
      obtain ⟨hp2, g2, d2, tk2, os2⟩ := s2
      wp_walk
      simpa [hy] using hF
  case fin =>
    rintro ⟨b1, b2⟩ s' ⟨hb', hI, i, hz, hR⟩
    simp only at hb'
    subst hb'
    have hge : min items.size items2.size ≤ i := by
      rcases Nat.lt_or_ge i (items.toList.zip items2.toList).length with h' | h'
      · rw [List.drop_eq_getElem_cons h'] at hz; cases hz
      · exact hZ ▸ h'
    have hF := hR s' hI
    rw [List.drop_of_length_le (by simpa using hge)] at hF
    wp_walk
    simpa [Builtin.Tuple.tupleCompareSizes, bne] using hF
  case h =>
    exact ⟨rfl, h0, 0, rfl, fun s hs => by simpa using fin s hs⟩

/-- two lists of N items each, read anew at each turn; neg: != -/
def ListJ (prog : Program) (w : World) (A : Around) (E : Value → Shared → Prop) (l b : Addr) (N : Nat) (e : Nat → Bool) (I : Shared → Prop) : Prop :=
  ∀ s, I s → ∃ (items items2 : Array Value) (n n2 : Nat), s.heap.get? l = some { cls := .type "list", data := .seq items n } ∧ s.heap.get? b = some { cls := .type "list", data := .seq items2 n2 } ∧ items.size = N ∧ items2.size = N ∧
    ∀ i (h1 : i < items.size) (h2 : i < items2.size), wpAny (model prog w) A.in1 (eqBool items[i] items2[i]) (fun r s' => r = e i ∧ I s') E s
theorem list_loopB (l b : Addr) (N : Nat) (e : Nat → Bool) (I : Shared → Prop) (neg : Bool) (hJ : ListJ prog w A (fun e s' => R (.error e) s') l b N e I) (k : Nat) :
    ∀ i : Nat, N - i = k → ∀ s, I s → (∀ s, I s → R (.ok (.ret (.bool (if neg then !((List.range N).drop i).all e else ((List.range N).drop i).all e)))) s) →
      wpAny (model prog w) A.in1 (Builtin.«list.__eq__.loop» ⟨[.ref l, .ref b, rawInt i, rawInt (if neg then 3 else 2)], []⟩) (FinOf prog w A R) (fun e s' => R (.error e) s') s := by
  induction k with
  | zero =>
    intro i hk s h fin
    obtain ⟨items, items2, n, n2, hl1, hb1, z1, z2, _⟩ := hJ s h
    have hR := fin s h
    have hd : (List.range N).drop i = [] := by simp; omega
    rw [hd] at hR
    have hi1 : items[((i : Nat) : Int).toNat]? = none := by simp; omega
    have hi2 : items2[((i : Nat) : Int).toNat]? = none := by simp; omega
    obtain ⟨hp, g, d, tk, os⟩ := s
    cases neg with
    | false =>
      wp_walk using wpAny_loadPart' hl1, wpAny_loadPart' hb1
      rw [hi1, hi2]
      wp_walk using wpAny_loadPart' hl1, wpAny_loadPart' hb1
      show R (.ok (.ret (.bool (items.size == items2.size)))) _
      rw [z1, z2]
      simpa using hR
    | true =>
      wp_walk using wpAny_loadPart' hl1, wpAny_loadPart' hb1
      rw [hi1, hi2]
      wp_walk using wpAny_loadPart' hl1, wpAny_loadPart' hb1
      show R (.ok (.ret (.bool (items.size != items2.size)))) _
      rw [z1, z2]
      simpa using hR
  | succ k ih =>
    intro i hk s h fin
    obtain ⟨items, items2, n, n2, hl1, hb1, z1, z2, turn⟩ := hJ s h
    have hlt : i < items.size := by omega
    have hlt2 : i < items2.size := by omega
    have ht := turn i hlt hlt2
    have hi1 : items[((i : Nat) : Int).toNat]? = some items[i] := by simp [hlt]
    have hi2 : items2[((i : Nat) : Int).toNat]? = some items2[i] := by simp [hlt2]
    have hN : i < N := by omega
    have hd : (List.range N).drop i = i :: (List.range N).drop (i + 1) := by simp [List.drop_eq_getElem_cons, hN]
    have hc : ((i : Int) + 1) = ((i + 1 : Nat) : Int) := by omega
    rw [hd] at fin
    obtain ⟨hp, g, d, tk, os⟩ := s
    cases neg with
    | false =>
      wp_walk using wpAny_loadPart' hl1, wpAny_loadPart' hb1
      rw [hi1, hi2]
      refine wpAny_bind (wpAny_mono ht (fun r s2 h2 => ?_) fun _ _ x => x)
      obtain ⟨hr, h2⟩ := h2
      subst hr
      cases he : e i with
      | true =>
        have hrec := ih (i + 1) (by omega) s2 h2 (fun s hs => by simpa [he] using fin s hs)
        obtain ⟨hp2, g2, d2, tk2, os2⟩ := s2
        wp_walk
        rw [hc]
        exact ⟨plainId_quiet plain_eq_loop _, codeAny_builtin entry_eq_loop (by
          rw [Around.under_plainId plain_eq_loop _]
          exact hrec)⟩
      | false =>
        have hF := fin s2 h2
        obtain ⟨it3, it4, n3, n4, hl2, hb2, z3, z4, _⟩ := hJ s2 h2
        have hi3 : it3[((i : Nat) : Int).toNat]? = some (it3[i]'(by omega)) := by simp
        have hi4 : it4[((i : Nat) : Int).toNat]? = some (it4[i]'(by omega)) := by simp
        obtain ⟨hp2, g2, d2, tk2, os2⟩ := s2
        wp_walk using wpAny_loadPart' hl2, wpAny_loadPart' hb2
        rw [hi3, hi4]
        wp_walk
        simpa [he] using hF
    | true =>
      wp_walk using wpAny_loadPart' hl1, wpAny_loadPart' hb1
      rw [hi1, hi2]
      refine wpAny_bind (wpAny_mono ht (fun r s2 h2 => ?_) fun _ _ x => x)
      obtain ⟨hr, h2⟩ := h2
      subst hr
      cases he : e i with
      | true =>
        have hrec := ih (i + 1) (by omega) s2 h2 (fun s hs => by simpa [he] using fin s hs)
        obtain ⟨hp2, g2, d2, tk2, os2⟩ := s2
        wp_walk
        rw [hc]
        exact ⟨plainId_quiet plain_eq_loop _, codeAny_builtin entry_eq_loop (by
          rw [Around.under_plainId plain_eq_loop _]
          exact hrec)⟩
      | false =>
        have hF := fin s2 h2
        obtain ⟨it3, it4, n3, n4, hl2, hb2, z3, z4, _⟩ := hJ s2 h2
        have hi3 : it3[((i : Nat) : Int).toNat]? = some (it3[i]'(by omega)) := by simp
        have hi4 : it4[((i : Nat) : Int).toNat]? = some (it4[i]'(by omega)) := by simp
        obtain ⟨hp2, g2, d2, tk2, os2⟩ := s2
        wp_walk using wpAny_loadPart' hl2, wpAny_loadPart' hb2
        rw [hi3, hi4]
        wp_walk
        simpa [he] using hF
theorem list_eqB (l b : Addr) (N : Nat) (e : Nat → Bool) (I : Shared → Prop) (hJ : ListJ prog w A (fun e s' => R (.error e) s') l b N e I)
    (fin : ∀ s, I s → R (.ok (.ret (.bool ((List.range N).all e)))) s) {s : Shared} (h : I s) :
    wpAny (model prog w) A.in1 (Builtin.«list.__eq__» ⟨[.ref l, .ref b], []⟩) (FinOf prog w A R) (fun e s' => R (.error e) s') s := by
  obtain ⟨items, items2, n, n2, hl1, hb1, hs1, hs2, _⟩ := hJ _ h
  have hrec := list_loopB (A := A) (R := R) l b N e I false hJ _ 0 rfl s h (fun s hs => by simpa using fin s hs)
  obtain ⟨hp, g, d, tk, os⟩ := s
  have f3 := AutoSeq1.sub_list_list
  have hne : ¬ (items.size != items2.size) = true := by simp [hs1, hs2]
  wp_walk using wpAny_loadPart' hl1, wpAny_loadPart' hb1
  exact ⟨plainId_quiet plain_eq_loop _, codeAny_builtin entry_eq_loop (by
    rw [Around.under_plainId plain_eq_loop _]
    exact hrec)⟩
theorem list_neB (l b : Addr) (N : Nat) (e : Nat → Bool) (I : Shared → Prop) (hJ : ListJ prog w A (fun e s' => R (.error e) s') l b N e I)
    (fin : ∀ s, I s → R (.ok (.ret (.bool (!(List.range N).all e)))) s) {s : Shared} (h : I s) :
    wpAny (model prog w) A.in1 (Builtin.«list.__ne__» ⟨[.ref l, .ref b], []⟩) (FinOf prog w A R) (fun e s' => R (.error e) s') s := by
  obtain ⟨items, items2, n, n2, hl1, hb1, hs1, hs2, _⟩ := hJ _ h
  have hrec := list_loopB (A := A) (R := R) l b N e I true hJ _ 0 rfl s h (fun s hs => by simpa using fin s hs)
  obtain ⟨hp, g, d, tk, os⟩ := s
  have f3 := AutoSeq1.sub_list_list
  have hne : ¬ (items.size != items2.size) = true := by simp [hs1, hs2]
  wp_walk using wpAny_loadPart' hl1, wpAny_loadPart' hb1
  exact ⟨plainId_quiet plain_eq_loop _, codeAny_builtin entry_eq_loop (by
    rw [Around.under_plainId plain_eq_loop _]
    exact hrec)⟩
end

section
variable {prog : Program} {w : World} {A : Around} {E : Value → Shared → Prop} {s : Shared}
theorem rc_tupB {l b : Addr} {items items2 : Array Value} {Q : Value → Shared → Prop} (neg : Bool) (e : Nat → Bool) (hu : A.units < cLine) (I : Shared → Prop)
    (hl : s.heap.IsTuple l items) (hb : s.heap.IsTuple b items2)
    (turn : ∀ i (h1 : i < items.size) (h2 : i < items2.size) s, I s → wpAny (model prog w) A.in1 (eqBool items[i] items2[i]) (fun r s' => r = e i ∧ I s') E s)
    (fin : ∀ s, I s → Q (.bool (neg != ((List.range (min items.size items2.size)).all e && items.size == items2.size))) s) (h : I s) : wpAny (model prog w) A (richCompare (if neg then .NotEq else .Eq) (.ref l) (.ref b)) Q E s := by
  obtain ⟨⟨cls, dd, data, sl⟩, ho, hc, n, hd⟩ := id hl
  obtain ⟨⟨cls2, dd2, data2, sl2⟩, ho2, hc2, n2, hd2⟩ := id hb
  simp only at hc hd hc2 hd2
  subst hc hd hc2 hd2
  cases neg with
  | false =>
    refine wpAny_richCompare_same_room (op := .Eq) ⟨_, ho, rfl⟩ ⟨_, ho2, rfl⟩ F.slot_tuple_eq (GQ.call_here F.slot_tuple_eq ⟨_, ho, rfl⟩ F.entry_tuple_eq (F.args_tuple_eq_2 _ _) ?_) hu
    exact tuple_eqB (R := wants (fun v s' => v ≠ .notImplemented ∧ Q v s') E) l b items items2 n n2 dd dd2 sl sl2 e I turn (fun s' q => ⟨(fun x => nomatch x), by simpa using fin s' q⟩) ho ho2 h
  | true =>
    refine wpAny_richCompare_same_room (op := .NotEq) ⟨_, ho, rfl⟩ ⟨_, ho2, rfl⟩ F.slot_tuple_ne (GQ.call_here F.slot_tuple_ne ⟨_, ho, rfl⟩ F.entry_tuple_ne (F.args_tuple_ne_2 _ _) ?_) hu
    exact tuple_neB (R := wants (fun v s' => v ≠ .notImplemented ∧ Q v s') E) l b items items2 n n2 dd dd2 sl sl2 e I turn (fun s' q => ⟨(fun x => nomatch x), by simpa using fin s' q⟩) ho ho2 h
theorem rc_lstB {l b : Addr} {N : Nat} {Q : Value → Shared → Prop} (neg : Bool) (e : Nat → Bool) (hu : A.units < cLine) (I : Shared → Prop) (hJ : ListJ prog w A E l b N e I)
    (fin : ∀ s, I s → Q (.bool (neg != (List.range N).all e)) s) (h : I s) : wpAny (model prog w) A (richCompare (if neg then .NotEq else .Eq) (.ref l) (.ref b)) Q E s := by
  obtain ⟨items, items2, n, n2, hl1, hb1, _, _, _⟩ := hJ _ h
  cases neg with
  | false =>
    refine wpAny_richCompare_same_room (op := .Eq) ⟨_, hl1, rfl⟩ ⟨_, hb1, rfl⟩ F.slot_list_eq (GQ.call_here F.slot_list_eq ⟨_, hl1, rfl⟩ F.entry_list_eq (F.args_list_eq_2 _ _) ?_) hu
    exact list_eqB (R := wants (fun v s' => v ≠ .notImplemented ∧ Q v s') E) l b N e I hJ (fun s' q => ⟨(fun x => nomatch x), by simpa using fin s' q⟩) h
  | true =>
    refine wpAny_richCompare_same_room (op := .NotEq) ⟨_, hl1, rfl⟩ ⟨_, hb1, rfl⟩ F.slot_list_ne (GQ.call_here F.slot_list_ne ⟨_, hl1, rfl⟩ F.entry_list_ne (F.args_list_ne_2 _ _) ?_) hu
    exact list_neB (R := wants (fun v s' => v ≠ .notImplemented ∧ Q v s') E) l b N e I hJ (fun s' q => ⟨(fun x => nomatch x), by simpa using fin s' q⟩) h
end
end Pi
set_option Elab.async false
set_option linter.all false
set_option maxRecDepth 100000
set_option maxHeartbeats 4000000
/-! PiEq2: == and != of values. -/
namespace Pi
open PySem L2
open PyProof.Rows hiding St

/-- a flat value -/
def flV : Val → Option V
  | .non => some .non
  | .bl b => some (.bl b)
  | .int i => some (.int i)
  | .str x => some (.str x)
  | _ => none
def intsOf : List Val → Option (List Int)
  | [] => some []
  | .int i :: r => (intsOf r).map (i :: ·)
  | _ :: _ => none
def feq (xs ys : List Val) : Option Bool := match intsOf xs, intsOf ys with
  | some a, some b => some (decide (a = b))
  | _, _ => none
def veqs (f : Val → Val → Option Bool) : List Val → List Val → Option Bool
  | [], _ => some true
  | _ :: _, [] => some true
  | x :: xs, y :: ys => match f x y, veqs f xs ys with
    | some a, some b => some (a && b)
    | _, _ => none
/-- == of two values, n deep; eqc: the classes that are compared by their fields (whole numbers) -/
def veq (eqc : Nat → Bool) : Nat → Val → Val → Option Bool
  | 0, x, y => match flV x, flV y with
    | some a, some b => some (L2.eqV a b)
    | _, _ => match x, y with
      | .obj C xs, .obj D ys => if C = D ∧ eqc C = true then feq xs ys else none
      | _, _ => none
  | n + 1, x, y => match x, y with
    | .tup xs, .tup ys => (veqs (veq eqc n) xs ys).map fun b => b && xs.length == ys.length
    | .lst xs, .lst ys => if xs.length = ys.length then veqs (veq eqc n) xs ys else some false
    | x, y => veq eqc n x y

theorem flV_rel {c : RC} {M : Addr → Own} {μ : Nat → Addr} {N : Nat} {H : Hp} : ∀ {d : Val} {a v : V}, flV d = some a → VR c M μ N H d v → v = a ∧ flatV v = true
  | .non, a, v, e, h => by cases e; rw [h.non_inv]; exact ⟨rfl, rfl⟩
  | .bl b, a, v, e, h => by cases e; rw [h.bl_inv]; exact ⟨rfl, rfl⟩
  | .int b, a, v, e, h => by cases e; rw [h.int_inv]; exact ⟨rfl, rfl⟩
  | .str b, a, v, e, h => by cases e; rw [h.str_inv]; exact ⟨rfl, rfl⟩
  | .tup _, a, v, e, h => by cases e
  | .lst _, a, v, e, h => by cases e
  | .frl _, a, v, e, h => by cases e
  | .obj _ _, a, v, e, h => by cases e
  | .ref _, a, v, e, h => by cases e
  | .fn _, a, v, e, h => by cases e
theorem veqs_get {f : Val → Val → Option Bool} : ∀ {xs ys : List Val} {b : Bool}, veqs f xs ys = some b →
    (∀ (i : Nat) x y, xs[i]? = some x → ys[i]? = some y → ∃ k, f x y = some k) ∧ b = (List.range (min xs.length ys.length)).all fun i => (match xs[i]?, ys[i]? with | some x, some y => f x y == some true | _, _ => true)
  | [], ys, b, h => by
    cases h
    exact ⟨fun i x y e _ => by simp at e, by simp⟩
  | x :: xs, [], b, h => by
    cases h
    exact ⟨fun i x y _ e => by simp at e, by simp⟩
  | x :: xs, y :: ys, b, h => by
    unfold veqs at h
    split at h
    · rename_i a b' e1 e2
      cases h
      obtain ⟨h1, h2⟩ := veqs_get e2
      refine ⟨fun i x' y' g1 g2 => ?_, ?_⟩
      · cases i with
        | zero => simp at g1 g2; subst g1; subst g2; exact ⟨a, e1⟩
        | succ i => exact h1 i x' y' (by simpa using g1) (by simpa using g2)
      · have hm : min (x :: xs).length (y :: ys).length = min xs.length ys.length + 1 := by simp only [List.length_cons]; omega
        rw [hm, List.range_succ_eq_map, List.all_cons, List.all_map]
        congr 1
        · simp [e1]
    · cases h

/-- the promise of an __eq__ that compares fields -/
def spEq (c : RC) (C : Nat) : Sp := fun vs H Q _ => ∃ x y M μ S xs ys b, vs = [x, y] ∧ Sim c M μ S H ∧ VR c M μ S.length H (.obj C xs) x ∧ VR c M μ S.length H (.obj C ys) y ∧ feq xs ys = some b ∧
  ∀ M' μ' H', Ext M μ S.length H M' μ' S.length H' → Sim c M' μ' S H' → Q (.bl b) H'
/-- around a comparison -/
structure SubG (X : Cx) (n : Nat) (A : Around) : Prop where
  room : Room n A
  fr : A.frames = X.A.frames
  gd : A.guards = some []
theorem SubG.in1 {X : Cx} {n : Nat} {A : Around} (s : SubG X (n + 1) A) : SubG X n A.in1 := ⟨s.room.in1, s.fr, s.gd⟩
theorem SubG.mono {X : Cx} {n m : Nat} {A : Around} (s : SubG X n A) (h : m ≤ n) : SubG X m A := ⟨s.room.mono h, s.fr, s.gd⟩
/-- the classes with such an __eq__ -/
def EqFns (X : Cx) (c : RC) (eqc : Nat → Bool) (lv : Nat) : Prop := ∀ C, eqc C = true → ∃ (CX : CXT) (f : Addr) (fd : FuncData) (ps : List Str) (E : XK), PiX.FnG X.prog X.w X.K X.mg X.base CX lv f fd ps (spEq c C) ∧
  PySem.W.findIn X.K (.ref (c.ca C)) "__eq__" = some (some (.ref f)) ∧ PySem.W.isFn X.K (.ref f) = true ∧ Binds X.K fd ps [] ∧ Passes CX X E

section
variable {X : Cx} {c : RC} {eqc : Nat → Bool} {lv : Nat}
/-- what a comparison keeps -/
def EqI (X : Cx) (c : RC) (pins : List (Addr × Obj)) (σ : St) (H : Hp) (M : Addr → Own) (μ : Nat → Addr) (S : Store) (s' : Shared) : Prop :=
  ∃ M' μ' H', Inv X pins σ H' s' ∧ Ext M μ S.length H M' μ' S.length H' ∧ Sim c M' μ' S H'
/-- == inside a list or a tuple -/
def EqOk (X : Cx) (c : RC) (n : Nat) (d1 d2 : Val) (b : Bool) : Prop :=
  ∀ (A : Around) (pins : List (Addr × Obj)) (s : Shared) (σ : St) (H : Hp) (M : Addr → Own) (μ : Nat → Addr) (S : Store) (x y : V) (u v : Value), SubG X n A → Inv X pins σ H s → Sim c M μ S H → VR c M μ S.length H d1 x → VR c M μ S.length H d2 y → RelV x u → RelV y v →
    wpAny (model X.prog X.w) A (eqBool u v) (fun r s' => r = b ∧ EqI X c pins σ H M μ S s') X.xe s
/-- .. of references, by their rich comparison -/
def RcOk (X : Cx) (c : RC) (n : Nat) (neg : Bool) (d1 d2 : Val) (b : Bool) : Prop :=
  ∀ (A : Around) (pins : List (Addr × Obj)) (s : Shared) (σ : St) (H : Hp) (M : Addr → Own) (μ : Nat → Addr) (S : Store) (x y : V) (u v : Value), SubG X n A → Inv X pins σ H s → Sim c M μ S H → VR c M μ S.length H d1 x → VR c M μ S.length H d2 y → RelV x u → RelV y v →
    wpAny (model X.prog X.w) A (richCompare (if neg then .NotEq else .Eq) u v) (fun r s' => r = .bool (neg != b) ∧ EqI X c pins σ H M μ S s') X.xe s
theorem EqOk.mono {n m : Nat} {d1 d2 : Val} {b : Bool} (h : EqOk X c n d1 d2 b) (hn : n ≤ m) : EqOk X c m d1 d2 b := fun A pins s σ H M μ S x y u v sb => h A pins s σ H M μ S x y u v (sb.mono hn)
theorem EqI.here {pins : List (Addr × Obj)} {σ : St} {H : Hp} {M : Addr → Own} {μ : Nat → Addr} {S : Store} {s : Shared} (I : Inv X pins σ H s) (sm : Sim c M μ S H) : EqI X c pins σ H M μ S s := ⟨M, μ, H, I, .refl, sm⟩
theorem eq_flat {d1 d2 : Val} {a b : V} (h1 : flV d1 = some a) (h2 : flV d2 = some b) : EqOk X c 0 d1 d2 (L2.eqV a b) := by
  intro A pins s σ H M μ S x y u v sb I sm r1 r2 ru rv
  obtain ⟨rfl, f1⟩ := flV_rel h1 r1
  obtain ⟨rfl, f2⟩ := flV_rel h2 r2
  exact eqAt_V (A := A) (s := s) ru rv f1 f2 X.prog X.w X.xe _ ⟨rfl, .here I sm⟩
theorem feq_self {xs : List Val} {b : Bool} (h : feq xs xs = some b) : b = true := by
  unfold feq at h
  split at h
  · rename_i a b' e1 e2
    rw [e1] at e2; cases e2
    simpa using h.symm
  · cases h
theorem ints_inj {c : RC} {M : Addr → Own} {μ : Nat → Addr} {N : Nat} {H : Hp} : ∀ {xs ys : List Val} {a b : List Int} {us : List V}, intsOf xs = some a → intsOf ys = some b → VRs c M μ N H xs us → VRs c M μ N H ys us → a = b
  | [], [], a, b, us, h1, h2, _, _ => by cases h1; cases h2; rfl
  | [], y :: ys, a, b, us, h1, h2, r1, r2 => by
    have z1 := r1.length
    have z2 := r2.length
    rw [z1] at z2
    simp at z2
  | x :: xs, [], a, b, us, h1, h2, r1, r2 => by
    have z1 := r1.length
    have z2 := r2.length
    rw [z1] at z2
    simp at z2
  | x :: xs, y :: ys, a, b, us, h1, h2, r1, r2 => by
    obtain ⟨u, r, e, p1, p2⟩ := r1.cons_inv
    obtain ⟨u', r', e', q1, q2⟩ := r2.cons_inv
    rw [e] at e'
    cases e'
    cases x with
    | int i =>
      cases y with
      | int j =>
        have e1 := p1.int_inv
        have e2 := q1.int_inv
        rw [e1] at e2
        cases e2
        unfold intsOf at h1 h2
        obtain ⟨a', ha, rfl⟩ := Option.map_eq_some_iff.mp h1
        obtain ⟨b', hb, rfl⟩ := Option.map_eq_some_iff.mp h2
        rw [ints_inj ha hb p2 q2]
      | _ => cases h2
    | _ => cases h1
theorem eq_obj (EF : EqFns X c eqc lv) {C : Nat} {xs ys : List Val} {b : Bool} (hC : eqc C = true) (hf : feq xs ys = some b) : EqOk X c lv (.obj C xs) (.obj C ys) b := by
  intro A pins s σ H M μ S x y u v sb I sm r1 r2 ru rv
  obtain ⟨a1, dx1, us1, rfl, m1, e1, l1, q1⟩ := id r1.obj_inv
  obtain ⟨a2, dx2, us2, rfl, m2, e2, l2, q2⟩ := id r2.obj_inv
  cases ru
  cases rv
  by_cases hab : a1 = a2
  · subst hab
    have hb : b = true := by
      rw [e1] at e2
      injection e2 with e2
      injection e2 with _ _ e3
      have ez : us1 = us2 := by
        have z1 : ((c.flds C).zip us1).map (·.2) = us1 := List.map_snd_zip (by omega)
        have z2 : ((c.flds C).zip us2).map (·.2) = us2 := List.map_snd_zip (by omega)
        rw [← z1, ← z2, e3]
      subst ez
      unfold feq at hf
      split at hf
      · rename_i a b' g1 g2
        have := ints_inj g1 g2 q1 q2
        subst this
        simpa using hf.symm
      · cases hf
    subst hb
    exact SeqAt.EqAt.same (A := A) (s := s) (.ref a1) X.prog X.w X.xe _ ⟨rfl, .here I sm⟩
  · obtain ⟨CX, f, fd, ps, E, F, hs, hfn, hb, hx⟩ := EF C hC
    obtain ⟨mA, J, _⟩ := ins_get I.hok e1
    obtain ⟨mB, J', _⟩ := ins_get I.hok e2
    obtain ⟨od, J, _⟩ := J.look
    obtain ⟨od', J', _⟩ := J'.look
    obtain ⟨m, hF⟩ := I.fr
    refine GQ.eqBool_refG hab ?_
    refine PySem.W.cmp_K (op := .Eq) (tb := .ref (c.ca C)) sb.room.units0 hF I.ok.mod.kin J J'.type (by simp [PySem.W.notFirst]) hs hfn ?_
    have hsp : spEq c C [.ref a1, .ref a2] H (fun v H' => v = .bl b ∧ ∃ M' μ', Ext M μ S.length H M' μ' S.length H' ∧ Sim c M' μ' S H') E := ⟨_, _, M, μ, S, xs, ys, b, rfl, sm, r1, r2, hf, fun M' μ' H' e s' => ⟨rfl, M', μ', e, s'⟩⟩
    have e0 : Env0 X.prog X.w X.K X.mg X.base A X.stack s H := by
      have e := I.env0
      exact ⟨by rw [sb.fr]; exact e.frames, e.mod, e.bs, e.bsz, e.funs, e.frf, e.hok, e.bare⟩
    have hl := F.len _ _ _ _ hsp
    have r2' : Vals [V.ref a1, V.ref a2] [Value.ref a1, Value.ref a2] := .cons rfl (.cons rfl .nil)
    refine wpAny_call (codeAny_mono (F.go A X.stack s H ⟨[.ref a1, .ref a2], []⟩ [.ref a1, .ref a2] [.ref a1, .ref a2] _ E sb.gd sb.room e0 (by
      have := hb s [.ref a1, .ref a2] I.kIn (by simpa using hl)
      simpa using this) r2' hsp) fun r s' hq => ?_)
    cases r with
    | error e => exact hx pins σ H s e s' I hq
    | ok fl =>
      cases fl with
      | ret w =>
        obtain ⟨z, H', I', rz, ez, M', μ', ex, sm'⟩ := I.after hq
        subst ez
        cases rz
        exact ⟨b, rfl, rfl, M', μ', H', I', ex, sm'⟩
      | next => exact False.elim hq
      | brk => exact False.elim hq
      | cont => exact False.elim hq

/-- one turn over two rows of items -/
theorem turnB {n : Nat} {f : Val → Val → Option Bool} {xs ys : List Val} (hf : ∀ x y k, f x y = some k → EqOk X c n x y k) (hs : ∀ (i : Nat) x y, xs[i]? = some x → ys[i]? = some y → ∃ k, f x y = some k) {A : Around} (sb : SubG X (n + 1) A)
    {pins : List (Addr × Obj)} {σ : St} {H : Hp} {M : Addr → Own} {μ : Nat → Addr} {S : Store} {us vs : List V} {its its2 : List Value} (q1 : VRs c M μ S.length H xs us) (q2 : VRs c M μ S.length H ys vs) (r : Vals us its) (r2 : Vals vs its2)
    (i : Nat) (h1 : i < its.toArray.size) (h2 : i < its2.toArray.size) (s' : Shared) (l : EqI X c pins σ H M μ S s') :
    wpAny (model X.prog X.w) A.in1 (eqBool its.toArray[i] its2.toArray[i]) (fun r s2 => r = (match xs[i]?, ys[i]? with | some x, some y => f x y == some true | _, _ => true) ∧ EqI X c pins σ H M μ S s2) X.xe s' := by
  obtain ⟨M1, μ1, H1, I1, e1, sm1⟩ := l
  have g1 : its[i]? = some its.toArray[i] := by
    have h1' : i < its.length := by simpa using h1
    rw [List.getElem?_eq_getElem h1'] <;> simp
  have g2 : its2[i]? = some its2.toArray[i] := by
    have h2' : i < its2.length := by simpa using h2
    rw [List.getElem?_eq_getElem h2'] <;> simp
  have k1 : i < us.length := by rw [r.length]; simpa using h1
  have k2 : i < vs.length := by rw [r2.length]; simpa using h2
  obtain ⟨u, hu, ru⟩ := r.get (List.getElem?_eq_getElem k1)
  obtain ⟨v, hv, rv⟩ := r2.get (List.getElem?_eq_getElem k2)
  rw [g1] at hu
  rw [g2] at hv
  obtain ⟨d1, p1, w1⟩ := q1.get' (List.getElem?_eq_getElem k1)
  obtain ⟨d2, p2, w2⟩ := q2.get' (List.getElem?_eq_getElem k2)
  obtain ⟨k, hk⟩ := hs i d1 d2 p1 p2
  rw [p1, p2]
  simp only [hk]
  rw [Option.some.inj hu, Option.some.inj hv]
  refine wpAny_mono (hf d1 d2 k hk A.in1 pins s' σ H1 M1 μ1 S _ _ u v sb.in1 I1 sm1 (w1.ext e1) (w2.ext e1) ru rv) (fun r s2 q => ?_) fun _ _ x => x
  obtain ⟨hr, M2, μ2, H2, I2, e2, sm2⟩ := q
  refine ⟨by rw [hr]; cases k <;> rfl, M2, μ2, H2, I2, e1.trans e2, sm2⟩
theorem rc_tup (hK : X.K = c.K) {n : Nat} {f : Val → Val → Option Bool} (hf : ∀ x y k, f x y = some k → EqOk X c n x y k) {xs ys : List Val} {b : Bool} (h : veqs f xs ys = some b) (neg : Bool) : RcOk X c (n + 1) neg (.tup xs) (.tup ys) (b && xs.length == ys.length) := by
  intro A pins s σ H M μ S x y u v sb I sm r1 r2 ru rv
  obtain ⟨a1, us, rfl, t1, q1⟩ := r1.tup_inv
  obtain ⟨a2, vs, rfl, t2, q2⟩ := r2.tup_inv
  cases ru
  cases rv
  obtain ⟨its, r, e, z⟩ := I.tuple (hK ▸ t1.sq)
  obtain ⟨its2, r2, e2, z2⟩ := I.tuple (hK ▸ t2.sq)
  obtain ⟨hs, hb⟩ := veqs_get h
  have l1 : its.toArray.size = xs.length := by rw [List.size_toArray, ← r.length, q1.length]
  have l2 : its2.toArray.size = ys.length := by rw [List.size_toArray, ← r2.length, q2.length]
  refine rc_tupB neg (fun i => match xs[i]?, ys[i]? with | some x, some y => f x y == some true | _, _ => true) sb.room.units0 (EqI X c pins σ H M μ S) e e2 (fun i h1 h2 s' q => turnB hf hs sb q1 q2 r r2 i h1 h2 s' q) (fun s' q => ⟨?_, q⟩) (.here I sm)
  rw [l1, l2, hb]
theorem rc_lst {n : Nat} {f : Val → Val → Option Bool} (hf : ∀ x y k, f x y = some k → EqOk X c n x y k) {xs ys : List Val} {b : Bool} (hl : xs.length = ys.length) (h : veqs f xs ys = some b) (neg : Bool) : RcOk X c (n + 1) neg (.lst xs) (.lst ys) b := by
  intro A pins s σ H M μ S x y u v sb I sm r1 r2 ru rv
  obtain ⟨a1, us, rfl, m1, t1, q1⟩ := r1.lst_inv
  obtain ⟨a2, vs, rfl, m2, t2, q2⟩ := r2.lst_inv
  cases ru
  cases rv
  obtain ⟨hs, hb⟩ := veqs_get h
  refine rc_lstB (N := xs.length) neg (fun i => match xs[i]?, ys[i]? with | some x, some y => f x y == some true | _, _ => true) sb.room.units0 (EqI X c pins σ H M μ S) ?_ (fun s' q => ⟨?_, q⟩) (.here I sm)
  · intro s' q
    obtain ⟨M1, μ1, H1, I1, e1, sm1⟩ := id q
    obtain ⟨z, its, k, r, e⟩ := I1.hok a1 _ (e1.keep a1 _ t1 (by rw [m1]; decide)).1
    obtain ⟨z2, its2, k2, r2, e2⟩ := I1.hok a2 _ (e1.keep a2 _ t2 (by rw [m2]; decide)).1
    refine ⟨its.toArray, its2.toArray, k, k2, e, e2, by rw [List.size_toArray, ← r.length, q1.length], by rw [List.size_toArray, ← r2.length, q2.length, hl], fun i h1 h2 => ?_⟩
    exact turnB hf hs sb q1 q2 r r2 i h1 h2 s' q
  · have e : min xs.length ys.length = xs.length := by omega
    rw [e] at hb
    rw [hb]
theorem rc_lstLen {n : Nat} {xs ys : List Val} (hl : ¬ xs.length = ys.length) (neg : Bool) : RcOk X c (n + 1) neg (.lst xs) (.lst ys) false := by
  intro A pins s σ H M μ S x y u v sb I sm r1 r2 ru rv
  obtain ⟨a1, us, rfl, m1, t1, q1⟩ := r1.lst_inv
  obtain ⟨a2, vs, rfl, m2, t2, q2⟩ := r2.lst_inv
  cases ru
  cases rv
  obtain ⟨z, its, k, r, e⟩ := I.hok a1 _ t1
  obtain ⟨z2, its2, k2, r2, e2⟩ := I.hok a2 _ t2
  have hsz : (its.toArray.size != its2.toArray.size) = true := by
    rw [List.size_toArray, List.size_toArray, ← r.length, ← r2.length, q1.length, q2.length]
    simpa using hl
  cases neg with
  | false => exact SeqAt.RcAt.lists_lengths ⟨_, e, rfl, k, rfl⟩ ⟨_, e2, rfl, k2, rfl⟩ hsz sb.room.units0 X.prog X.w X.xe _ ⟨rfl, .here I sm⟩
  | true => exact SeqAt.RcNeAt.lists_lengths ⟨_, e, rfl, k, rfl⟩ ⟨_, e2, rfl, k2, rfl⟩ hsz sb.room.units0 X.prog X.w X.xe _ ⟨rfl, .here I sm⟩
/-- from a rich comparison to == inside a list: the same object is equal to itself -/
theorem RcOk.eq {n : Nat} {d1 d2 : Val} {b : Bool} (h : RcOk X c n false d1 d2 b) (hr : ∀ {M : Addr → Own} {μ : Nat → Addr} {N : Nat} {H : Hp} {x y : V}, VR c M μ N H d1 x → VR c M μ N H d2 y → ∃ a a', x = .ref a ∧ y = .ref a')
    (hsame : ∀ (pins : List (Addr × Obj)) (s : Shared) (σ : St) (H : Hp) (M : Addr → Own) (μ : Nat → Addr) (S : Store) (a : Addr), Inv X pins σ H s → VR c M μ S.length H d1 (.ref a) → VR c M μ S.length H d2 (.ref a) → b = true) : EqOk X c n d1 d2 b := by
  intro A pins s σ H M μ S x y u v sb I sm r1 r2 ru rv
  obtain ⟨a, a', rfl, rfl⟩ := hr r1 r2
  cases ru
  cases rv
  by_cases hab : a = a'
  · subst hab
    exact SeqAt.EqAt.same (A := A) (s := s) (.ref a) X.prog X.w X.xe _ ⟨(hsame pins s σ H M μ S a I r1 r2).symm, .here I sm⟩
  · refine GQ.eqBool_refG hab (wpAny_mono (h A pins s σ H M μ S (.ref a) (.ref a') _ _ sb I sm r1 r2 rfl rfl) (fun r s' q => ?_) fun _ _ x => x)
    obtain ⟨hr', q⟩ := q
    exact ⟨b, by simpa using hr', rfl, q⟩
theorem eqV_self {v : V} (h : flatV v = true) : L2.eqV v v = true := by
  cases v with
  | non => rfl
  | bl b => cases b <;> rfl
  | int i => simp [L2.eqV]
  | str x => simp [L2.eqV]
  | _ => exact absurd (show false = true from h) Bool.false_ne_true
theorem veqs_same {f : Val → Val → Option Bool} {M : Addr → Own} {μ : Nat → Addr} {N : Nat} {H : Hp} (hf : ∀ x y b v, f x y = some b → VR c M μ N H x v → VR c M μ N H y v → b = true) :
    ∀ {xs ys : List Val} {b : Bool} {us : List V}, veqs f xs ys = some b → VRs c M μ N H xs us → VRs c M μ N H ys us → b = true
  | [], ys, b, us, h, _, _ => by cases h; rfl
  | x :: xs, [], b, us, h, _, _ => by cases h; rfl
  | x :: xs, y :: ys, b, us, h, r1, r2 => by
    obtain ⟨u, r, e, p1, p2⟩ := r1.cons_inv
    obtain ⟨u', r', e', q1, q2⟩ := r2.cons_inv
    rw [e] at e'
    cases e'
    unfold veqs at h
    split at h
    · rename_i a b' e1 e2
      cases h
      rw [hf x y a u e1 p1 q1, veqs_same hf e2 p2 q2]
      rfl
    · cases h
theorem veq_same (hK : X.K = c.K) {pins : List (Addr × Obj)} {s : Shared} {σ : St} {H : Hp} {M : Addr → Own} {μ : Nat → Addr} {N : Nat} (I : Inv X pins σ H s) :
    ∀ (n : Nat) (d1 d2 : Val) (b : Bool) (v : V), veq eqc n d1 d2 = some b → VR c M μ N H d1 v → VR c M μ N H d2 v → b = true := by
  intro n
  induction n with
  | zero =>
    intro d1 d2 b v h r1 r2
    unfold veq at h
    split at h
    · rename_i a b' e1 e2
      cases h
      obtain ⟨rfl, f1⟩ := flV_rel e1 r1
      obtain ⟨rfl, f2⟩ := flV_rel e2 r2
      exact eqV_self f1
    · split at h
      · rename_i C xs D ys _
        split at h
        · rename_i hc
          obtain ⟨rfl, _⟩ := hc
          obtain ⟨a1, dx1, us1, rfl, m1, e1, l1, q1⟩ := r1.obj_inv
          obtain ⟨a2, dx2, us2, e0, m2, e2, l2, q2⟩ := r2.obj_inv
          cases e0
          rw [e1] at e2
          injection e2 with e2
          injection e2 with _ _ e3
          have ez : us1 = us2 := by
            have z1 : ((c.flds C).zip us1).map (·.2) = us1 := List.map_snd_zip (by omega)
            have z2 : ((c.flds C).zip us2).map (·.2) = us2 := List.map_snd_zip (by omega)
            rw [← z1, ← z2, e3]
          subst ez
          unfold feq at h
          split at h
          · rename_i a b' g1 g2
            have := ints_inj g1 g2 q1 q2
            subst this
            simpa using h.symm
          · cases h
        · cases h
      · cases h
  | succ n ih =>
    intro d1 d2 b v h r1 r2
    unfold veq at h
    split at h
    · rename_i xs ys
      obtain ⟨b', h1, rfl⟩ := Option.map_eq_some_iff.mp h
      obtain ⟨a1, us, rfl, t1, q1⟩ := r1.tup_inv
      obtain ⟨a2, vs, e0, t2, q2⟩ := r2.tup_inv
      cases e0
      have := I.tuple_inj (hK ▸ t1.sq) (hK ▸ t2.sq)
      subst this
      rw [veqs_same (fun x y b v => ih x y b v) h1 q1 q2, ← q1.length, ← q2.length]
      simp
    · rename_i xs ys
      obtain ⟨a1, us, rfl, m1, t1, q1⟩ := r1.lst_inv
      obtain ⟨a2, vs, e0, m2, t2, q2⟩ := r2.lst_inv
      cases e0
      rw [t1] at t2
      cases t2
      have hl : xs.length = ys.length := by rw [← q1.length, ← q2.length]
      rw [if_pos hl] at h
      exact veqs_same (fun x y b v => ih x y b v) h q1 q2
    · exact ih d1 d2 b v h r1 r2
/-- THE RULE: == of two values inside a list or a tuple -/
theorem veq_ok (hK : X.K = c.K) (EF : EqFns X c eqc lv) : ∀ (n : Nat) (d1 d2 : Val) (b : Bool), veq eqc n d1 d2 = some b → EqOk X c (lv + n) d1 d2 b := by
  intro n
  induction n with
  | zero =>
    intro d1 d2 b h
    unfold veq at h
    split at h
    · rename_i a b' e1 e2
      cases h
      exact (eq_flat e1 e2).mono (Nat.zero_le _)
    · split at h
      · rename_i C xs D ys _
        split at h
        · rename_i hc
          obtain ⟨rfl, hq⟩ := hc
          exact eq_obj EF hq h
        · cases h
      · cases h
  | succ n ih =>
    intro d1 d2 b h
    have h0 := h
    unfold veq at h
    split at h
    · rename_i xs ys
      obtain ⟨b', h1, rfl⟩ := Option.map_eq_some_iff.mp h
      refine (rc_tup hK (fun x y k => ih x y k) h1 false).eq (fun r1 r2 => ?_) fun pins s σ H M μ S a I r1 r2 => veq_same hK I (n + 1) _ _ _ _ h0 r1 r2
      obtain ⟨a1, _, e1, _⟩ := r1.tup_inv
      obtain ⟨a2, _, e2, _⟩ := r2.tup_inv
      exact ⟨a1, a2, e1, e2⟩
    · rename_i xs ys
      have hrr : ∀ {M : Addr → Own} {μ : Nat → Addr} {N : Nat} {H : Hp} {x y : V}, VR c M μ N H (.lst xs) x → VR c M μ N H (.lst ys) y → ∃ a a', x = .ref a ∧ y = .ref a' := fun r1 r2 => by
        obtain ⟨a1, _, e1, _⟩ := r1.lst_inv
        obtain ⟨a2, _, e2, _⟩ := r2.lst_inv
        exact ⟨a1, a2, e1, e2⟩
      split at h
      · rename_i hl
        exact (rc_lst (fun x y k => ih x y k) hl h false).eq hrr fun pins s σ H M μ S a I r1 r2 => veq_same hK I (n + 1) _ _ _ _ h0 r1 r2
      · rename_i hl
        cases h
        exact (rc_lstLen hl false).eq hrr fun pins s σ H M μ S a I r1 r2 => veq_same hK I (n + 1) _ _ _ _ h0 r1 r2
    · exact (ih d1 d2 b h).mono (by omega)

/-- how deep values are compared -/
def DEEP : Nat := 12
/-- == (neg: !=) as an operation -/
def opEq (eqc : Nat → Bool) (neg : Bool) (x y : Val) (S : Store) : Res Val := match flV x, flV y with
  | some a, some b => if scal a b = true then .ok (.bl (neg != decide (a = b))) S else .no
  | _, _ => match x, y with
    | .tup xs, .tup ys => match veqs (veq eqc DEEP) xs ys with
      | some b => .ok (.bl (neg != (b && xs.length == ys.length))) S
      | none => .no
    | .lst xs, .lst ys => if xs.length = ys.length then (match veqs (veq eqc DEEP) xs ys with
      | some b => .ok (.bl (neg != b)) S
      | none => .no) else .ok (.bl neg) S
    | .obj C xs, .obj D ys => if C = D ∧ eqc C = true ∧ neg = false then (match feq xs ys with
      | some b => .ok (.bl b) S
      | none => .no) else .no
    | .ref n, .lst [] => (match S[n]? with
      | some (.lst xs) => .ok (.bl (neg != xs.isEmpty)) S
      | _ => .no)
    | _, _ => .no
theorem EqI.ke {pins : List (Addr × Obj)} {σ : St} {H : Hp} {M : Addr → Own} {μ : Nat → Addr} {S : Store} {s' : Shared} {b b' : Bool} {Q : VK} (h : EqI X c pins σ H M μ S s') (k : KE c M μ S.length H (.bl b) S Q) (e : b' = b) : EP X pins σ Q (.bool b') s' := by
  obtain ⟨M', μ', H', I, e', sm⟩ := h
  subst e
  exact ⟨.bl b', H', I, rfl, k M' μ' H' _ e' sm .bl⟩
theorem RcOk.op {n : Nat} {neg : Bool} {d1 d2 : Val} {b : Bool} (h : RcOk X c n neg d1 d2 b) (hr : Room n X.A) (gd : X.A.guards = some []) {pins : List (Addr × Obj)} {s : Shared} {σ : St} {H : Hp} {M : Addr → Own} {μ : Nat → Addr} {S : Store} {x y : V} {u v : Value} {Q : VK} (I : Inv X pins σ H s) (sm : Sim c M μ S H)
    (r1 : VR c M μ S.length H d1 x) (r2 : VR c M μ S.length H d2 y) (ru : RelV x u) (rv : RelV y v) (k : KE c M μ S.length H (.bl (neg != b)) S Q) : wpAny (model X.prog X.w) X.A (richCompare (if neg then .NotEq else .Eq) u v) (EP X pins σ Q) X.xe s := by
  refine wpAny_mono (h X.A pins s σ H M μ S x y u v ⟨hr, rfl, gd⟩ I sm r1 r2 ru rv) (fun r s' q => ?_) fun _ _ x => x
  obtain ⟨e, q⟩ := q
  rw [e]
  exact q.ke k rfl
theorem rc_obj (EF : EqFns X c eqc lv) {C : Nat} {xs ys : List Val} {b : Bool} (hC : eqc C = true) (hf : feq xs ys = some b) : RcOk X c lv false (.obj C xs) (.obj C ys) b := by
  intro A pins s σ H M μ S x y u v sb I sm r1 r2 ru rv
  obtain ⟨a1, dx1, us1, rfl, m1, e1, l1, q1⟩ := id r1.obj_inv
  obtain ⟨a2, dx2, us2, rfl, m2, e2, l2, q2⟩ := id r2.obj_inv
  cases ru
  cases rv
  obtain ⟨CX, f, fd, ps, E, F, hs, hfn, hb, hx⟩ := EF C hC
  obtain ⟨mA, J, _⟩ := ins_get I.hok e1
  obtain ⟨mB, J', _⟩ := ins_get I.hok e2
  obtain ⟨od, J, _⟩ := J.look
  obtain ⟨od', J', _⟩ := J'.look
  obtain ⟨m, hF⟩ := I.fr
  refine PySem.W.cmp_K (op := .Eq) (tb := .ref (c.ca C)) sb.room.units0 hF I.ok.mod.kin J J'.type (by simp [PySem.W.notFirst]) hs hfn ?_
  have hsp : spEq c C [.ref a1, .ref a2] H (fun v H' => v = .bl b ∧ ∃ M' μ', Ext M μ S.length H M' μ' S.length H' ∧ Sim c M' μ' S H') E := ⟨_, _, M, μ, S, xs, ys, b, rfl, sm, r1, r2, hf, fun M' μ' H' e s' => ⟨rfl, M', μ', e, s'⟩⟩
  have e0 : Env0 X.prog X.w X.K X.mg X.base A X.stack s H := by
    have e := I.env0
    exact ⟨by rw [sb.fr]; exact e.frames, e.mod, e.bs, e.bsz, e.funs, e.frf, e.hok, e.bare⟩
  have hl := F.len _ _ _ _ hsp
  have r2' : Vals [V.ref a1, V.ref a2] [Value.ref a1, Value.ref a2] := .cons rfl (.cons rfl .nil)
  refine wpAny_call (codeAny_mono (F.go A X.stack s H ⟨[.ref a1, .ref a2], []⟩ [.ref a1, .ref a2] [.ref a1, .ref a2] _ E sb.gd sb.room e0 (by
    have := hb s [.ref a1, .ref a2] I.kIn (by simpa using hl)
    simpa using this) r2' hsp) fun r s' hq => ?_)
  cases r with
  | error e => exact hx pins σ H s e s' I hq
  | ok fl =>
    cases fl with
    | ret w =>
      obtain ⟨z, H', I', rz, ez, M', μ', ex, sm'⟩ := I.after hq
      subst ez
      cases rz
      exact ⟨by simp, M', μ', H', I', ex, sm'⟩
    | next => exact False.elim hq
    | brk => exact False.elim hq
    | cont => exact False.elim hq
/-- a list that changes, and an empty one -/
theorem cell_nil {neg : Bool} {n : Nat} {xs : List Val} {pins : List (Addr × Obj)} {s : Shared} {σ : St} {H : Hp} {M : Addr → Own} {μ : Nat → Addr} {S : Store} {x y : V} {u v : Value} {Q : VK} (hn : S[n]? = some (.lst xs)) (hu : X.A.units < cLine) (I : Inv X pins σ H s) (sm : Sim c M μ S H)
    (r1 : VR c M μ S.length H (.ref n) x) (r2 : VR c M μ S.length H (.lst []) y) (ru : RelV x u) (rv : RelV y v) (k : KE c M μ S.length H (.bl (neg != xs.isEmpty)) S Q) : wpAny (model X.prog X.w) X.A (richCompare (if neg then .NotEq else .Eq) u v) (EP X pins σ Q) X.xe s := by
  obtain ⟨_, rfl⟩ := r1.ref_inv
  obtain ⟨m1, us, t1, q1⟩ := sm.cell n _ hn
  obtain ⟨a2, vs, rfl, m2, t2, q2⟩ := r2.lst_inv
  cases ru
  cases rv
  obtain ⟨z, its, k1, r, e⟩ := I.hok _ _ t1
  obtain ⟨z2, its2, k2, r2, e2⟩ := I.hok a2 _ t2
  have hl1 : its.toArray.size = xs.length := by rw [List.size_toArray, ← r.length, q1.length]
  have hl2 : its2.toArray.size = 0 := by rw [List.size_toArray, ← r2.length, q2.length]; rfl
  have hE : EqI X c pins σ H M μ S s := .here I sm
  cases xs with
  | nil =>
    have : wpAny (model X.prog X.w) X.A (richCompare (if neg then .NotEq else .Eq) (.ref (μ n)) (.ref a2)) (fun r s' => r = .bool (neg != true) ∧ s' = s) X.xe s := by
      refine rc_lstB (N := 0) neg (fun _ => true) hu (fun s' => s' = s) ?_ (fun s' q => ⟨?_, q⟩) rfl
      · intro s' q
        subst q
        exact ⟨its.toArray, its2.toArray, k1, k2, e, e2, hl1, hl2, fun i h1 h2 => by rw [hl1] at h1; exact absurd h1 (Nat.not_lt_zero _)⟩
      · simp
    refine wpAny_mono this (fun r s' q => ?_) fun _ _ x => x
    obtain ⟨h1, h2⟩ := q
    subst h1 h2
    exact hE.ke k rfl
  | cons x0 xs0 =>
    have hsz : (its.toArray.size != its2.toArray.size) = true := by
      rw [hl1, hl2]
      simp
    cases neg with
    | false => exact SeqAt.RcAt.lists_lengths ⟨_, e, rfl, k1, rfl⟩ ⟨_, e2, rfl, k2, rfl⟩ hsz hu X.prog X.w X.xe _ (hE.ke k rfl)
    | true => exact SeqAt.RcNeAt.lists_lengths ⟨_, e, rfl, k1, rfl⟩ ⟨_, e2, rfl, k2, rfl⟩ hsz hu X.prog X.w X.xe _ (hE.ke k rfl)
theorem so_eq (hK : X.K = c.K) (EF : EqFns X c eqc lv) (hr : Room (lv + (DEEP + 1)) X.A) (gd : X.A.guards = some []) (neg : Bool) : SO2 X c (compareOp (if neg then .NotEq else .Eq)) (opEq eqc neg) := by
  intro pins s σ H M μ S x y v u d1 d2 d S' Q I sm r1 r2 rv ru q k
  have hrc : ∀ {v u : Value}, wpAny (model X.prog X.w) X.A (richCompare (if neg then .NotEq else .Eq) v u) (EP X pins σ Q) X.xe s → wpAny (model X.prog X.w) X.A (compareOp (if neg then .NotEq else .Eq) v u) (EP X pins σ Q) X.xe s := fun {v u} h => by
    cases neg <;> exact h
  unfold opEq at q
  split at q
  · rename_i a b e1 e2
    obtain ⟨rfl, f1⟩ := flV_rel e1 r1
    obtain ⟨rfl, f2⟩ := flV_rel e2 r2
    split at q
    · rename_i hs
      cases q
      cases neg with
      | false => exact op_eq pins s σ H _ _ v u Q I rv ru ⟨hs, k M μ H _ .refl sm (by rw [Bool.false_bne]; exact .bl)⟩
      | true => exact op_ne pins s σ H _ _ v u Q I rv ru ⟨hs, k M μ H _ .refl sm (by rw [Bool.true_bne]; exact .bl)⟩
    · cases q
  · split at q
    · rename_i xs ys _
      split at q
      · rename_i b hb
        cases q
        exact hrc ((rc_tup hK (fun x y k => veq_ok hK EF DEEP x y k) hb neg).op (hr.mono (by omega)) gd I sm r1 r2 rv ru k)
      · cases q
    · rename_i xs ys _
      split at q
      · rename_i hl
        split at q
        · rename_i b hb
          cases q
          exact hrc ((rc_lst (fun x y k => veq_ok hK EF DEEP x y k) hl hb neg).op (hr.mono (by omega)) gd I sm r1 r2 rv ru k)
        · cases q
      · rename_i hl
        cases q
        exact hrc ((rc_lstLen (n := 0) hl neg).op (hr.mono (by omega)) gd I sm r1 r2 rv ru (by rw [Bool.bne_false]; exact k))
    · rename_i C xs D ys _
      split at q
      · rename_i hc
        obtain ⟨rfl, hq, rfl⟩ := hc
        split at q
        · rename_i b hb
          cases q
          exact hrc ((rc_obj EF hq hb).op (hr.mono (by omega)) gd I sm r1 r2 rv ru (by rw [Bool.false_bne]; exact k))
        · cases q
      · cases q
    · split at q
      · rename_i hn
        cases q
        exact hrc (cell_nil hn hr.units0 I sm r1 r2 rv ru k)
      · cases q
    · cases q
end
end Pi
set_option Elab.async false
set_option linter.all false
set_option maxRecDepth 100000
set_option maxHeartbeats 4000000
/-! Pi3: operations on values: numbers, rows, built-ins. -/
namespace Pi
open PySem L2
open PyProof.Rows hiding St

section
variable {X : Cx} {c : RC}
/-! ### whole numbers -/
def mulOk (i j : Int) : Prop := (Builtin.Int.intBits i : Int) + (Builtin.Int.intBits j : Int) ≤ 134217728
instance (i j : Int) : Decidable (mulOk i j) := by unfold mulOk; infer_instance
def divOk (i j : Int) : Prop := j ≠ 0 ∧ Builtin.divisionGoesByPylong i j = false
instance (i j : Int) : Decidable (divOk i j) := by unfold divOk; infer_instance
def powOk (i j : Int) : Prop := 0 ≤ j ∧ j ≤ 1000000 ∧ i.natAbs < 18446744073709551616
instance (i j : Int) : Decidable (powOk i j) := by unfold powOk; infer_instance
def shlOk (i j : Int) : Prop := 0 ≤ j ∧ (Builtin.Int.intBits i : Int) + j ≤ 134217728
instance (i j : Int) : Decidable (shlOk i j) := by unfold shlOk; infer_instance
/-- an operation on two whole numbers -/
def iop (C : Int → Int → Prop) [∀ i j, Decidable (C i j)] (g : Int → Int → Val) (x y : Val) (S : Store) : Res Val := match x, y with
  | .int i, .int j => if C i j then .ok (g i j) S else .no
  | _, _ => .no
theorem iop_inv {C : Int → Int → Prop} [∀ i j, Decidable (C i j)] {g : Int → Int → Val} {x y : Val} {S : Store} {d : Val} {S' : Store} (h : iop C g x y S = .ok d S') : ∃ i j, x = .int i ∧ y = .int j ∧ C i j ∧ d = g i j ∧ S' = S := by
  unfold iop at h
  split at h
  · split at h
    · rename_i i j hc
      cases h
      exact ⟨i, j, rfl, rfl, hc, rfl, rfl⟩
    · cases h
  · cases h
theorem so_iop {f : Value → Value → Sem Value} {C : Int → Int → Prop} [∀ i j, Decidable (C i j)] {g : Int → Int → Val} {gv : Int → Int → V} (ho : OpR X f (rI C gv)) (hg : ∀ i j M μ N H, VR c M μ N H (g i j) (gv i j)) : SO2 X c f (iop C g) :=
  SO2.of ho fun H M μ S x y d1 d2 d S' Q sm r1 r2 q k => by
    obtain ⟨i, j, rfl, rfl, hc, rfl, rfl⟩ := iop_inv q
    exact ⟨i, j, r1.int_inv, r2.int_inv, hc, k M μ H _ .refl sm (hg _ _ _ _ _ _)⟩
def always (_ _ : Int) : Prop := True
instance (i j : Int) : Decidable (always i j) := isTrue True.intro
theorem rI_of0 {f : Value → Value → Sem Value} {g : Int → Int → V} (h : OpR X f (rI0 g)) : OpR X f (rI always g) := fun pins s σ H x y v u Q I rx ry ⟨i, j, a, b, _, q⟩ => h pins s σ H x y v u Q I rx ry ⟨i, j, a, b, q⟩
def opSub := iop always fun i j => .int (i - j)
def opMul := iop mulOk fun i j => .int (i * j)
def opDiv := iop divOk fun i j => .int (i.fdiv j)
def opMod := iop (fun _ j => j ≠ 0) fun i j => .int (i.fmod j)
def opPow := iop powOk fun i j => .int (i ^ j.toNat)
def opShl := iop shlOk fun i j => .int (i * 2 ^ j.toNat)
theorem so_sub : SO2 X c (binaryOp .Sub) opSub := so_iop (rI_of0 op_sub) fun _ _ _ _ _ _ => .int
theorem so_mul : SO2 X c (binaryOp .Mult) opMul := so_iop (gv := fun i j => .int (i * j)) op_mulX fun _ _ _ _ _ _ => .int
theorem op_div : OpR X (binaryOp .FloorDiv) (rI divOk fun i j => .int (i.fdiv j)) := opI fun _ _ _ _ _ _ _ hc q => floordiv_int hc.1 q (.inl hc.2)
theorem so_div : SO2 X c (binaryOp .FloorDiv) opDiv := so_iop op_div fun _ _ _ _ _ _ => .int
theorem so_mod : SO2 X c (binaryOp .Mod) opMod := so_iop op_modN fun _ _ _ _ _ _ => .int
theorem op_pow' : OpR X (binaryOp .Pow) (rI powOk fun i j => .int (i ^ j.toNat)) := opI fun _ _ _ _ _ _ _ hc q => pow_int_small hc.1 hc.2.1 hc.2.2 q
theorem so_pow : SO2 X c (binaryOp .Pow) opPow := so_iop op_pow' fun _ _ _ _ _ _ => .int
theorem op_shl' : OpR X (binaryOp .LShift) (rI shlOk fun i j => .int (i * 2 ^ j.toNat)) := opI fun _ _ _ _ _ _ _ hc q => lshift_int hc.1 hc.2 q
theorem so_shl : SO2 X c (binaryOp .LShift) opShl := so_iop op_shl' fun _ _ _ _ _ _ => .int
/-- + of numbers, texts, tuples, lists -/
def opAdd (x y : Val) (S : Store) : Res Val := match x, y with
  | .int i, .int j => .ok (.int (i + j)) S
  | .str a, .str b => if a.length + b.length ≤ sizeLine then .ok (.str (a ++ b)) S else .no
  | .tup xs, .tup ys => if xs.length + ys.length ≤ sizeLine then .ok (.tup (xs ++ ys)) S else .no
  | .lst xs, .lst ys => if xs.length + ys.length ≤ sizeLine then .ok (.lst (xs ++ ys)) S else .no
  | _, _ => .no
theorem so_add (hK : X.K = c.K) : SO2 X c (binaryOp .Add) opAdd := by
  intro pins s σ H M μ S x y v u d1 d2 d S' Q I sm r1 r2 rv ru q k
  unfold opAdd at q
  split at q
  · cases q
    exact op_add pins s σ H x y v u Q I rv ru ⟨_, _, r1.int_inv, r2.int_inv, k M μ H _ .refl sm .int⟩
  · split at q
    · rename_i hl
      cases q
      exact op_add_str pins s σ H x y v u Q I rv ru ⟨_, _, r1.str_inv, r2.str_inv, hl, k M μ H _ .refl sm .str⟩
    · cases q
  · rename_i xs ys
    split at q
    · rename_i hl
      cases q
      obtain ⟨a1, us, rfl, t1, q1⟩ := r1.tup_inv
      obtain ⟨a2, vs, rfl, t2, q2⟩ := r2.tup_inv
      refine op_catA pins s σ H _ _ v u Q I rv ru ⟨a1, a2, us, vs, rfl, rfl, hK ▸ t1.sq, hK ▸ t2.sq, by rw [q1.length, q2.length]; exact hl, fun e => ?_, fun _ e => ?_, fun _ _ p hp => k.tupNew sm (q1.append q2) hp⟩
      · have := q1.length
        rw [e] at this
        have e2 : xs = [] := List.length_eq_zero_iff.mp this.symm
        subst e2
        rw [List.nil_append] at k
        exact k M μ H _ .refl sm (.tup t2 q2)
      · have := q2.length
        rw [e] at this
        have e2 : ys = [] := List.length_eq_zero_iff.mp this.symm
        subst e2
        rw [List.append_nil] at k
        exact k M μ H _ .refl sm (.tup t1 q1)
    · cases q
  · split at q
    · rename_i hl
      cases q
      obtain ⟨a1, us, rfl, m1, t1, q1⟩ := r1.lst_inv
      obtain ⟨a2, vs, rfl, m2, t2, q2⟩ := r2.lst_inv
      exact op_cat pins s σ H _ _ v u Q I rv ru ⟨a1, a2, us, vs, rfl, rfl, t1, t2, by rw [q1.length, q2.length]; exact hl, fun p hp => k.lstNew sm (q1.append q2) hp⟩
    · cases q
  · cases q
def opNeg (x : Val) (S : Store) : Res Val := match x with
  | .int i => .ok (.int (-i)) S
  | _ => .no
theorem so_neg : SO1 X c (unaryOp .USub) opNeg := SO1.of un_neg fun H M μ S x d1 d S' Q sm r1 q k => by
  unfold opNeg at q
  split at q
  · cases q
    exact ⟨_, r1.int_inv, k M μ H _ .refl sm .int⟩
  · cases q
/-! ### order, is None -/
def opLt := iop always fun i j => .bl (decide (i < j))
def opLe := iop always fun i j => .bl (decide (i ≤ j))
def opGt := iop always fun i j => .bl (decide (j < i))
def opGe := iop always fun i j => .bl (decide (j ≤ i))
theorem so_lt : SO2 X c (compareOp .Lt) opLt := so_iop (rI_of0 op_lt) fun _ _ _ _ _ _ => .bl
theorem so_le : SO2 X c (compareOp .LtE) opLe := so_iop (rI_of0 op_le) fun _ _ _ _ _ _ => .bl
theorem so_gt : SO2 X c (compareOp .Gt) opGt := so_iop (rI_of0 op_gt) fun _ _ _ _ _ _ => .bl
theorem so_ge : SO2 X c (compareOp .GtE) opGe := so_iop (rI_of0 op_ge) fun _ _ _ _ _ _ => .bl
def isNon : Val → Bool
  | .non => true
  | _ => false
theorem isNon_rel {M : Addr → Own} {μ : Nat → Addr} {N : Nat} {H : Hp} : ∀ {d : Val} {v : V}, VR c M μ N H d v → decide (v = .non) = isNon d
  | .non, v, h => by rw [h.non_inv]; rfl
  | .bl _, v, h => by rw [h.bl_inv]; rfl
  | .int _, v, h => by rw [h.int_inv]; rfl
  | .str _, v, h => by rw [h.str_inv]; rfl
  | .tup _, v, h => by obtain ⟨a, _, e, _⟩ := h.tup_inv; rw [e]; rfl
  | .lst _, v, h => by obtain ⟨a, _, e, _⟩ := h.lst_inv; rw [e]; rfl
  | .frl _, v, h => by obtain ⟨a, _, e, _⟩ := h.frl_inv; rw [e]; rfl
  | .obj _ _, v, h => by obtain ⟨a, _, _, e, _⟩ := h.obj_inv; rw [e]; rfl
  | .ref _, v, h => by rw [h.ref_inv.2]; rfl
  | .fn _, v, h => by unfold VR at h; rw [h]; rfl
  | .exn _ _, v, h => by obtain ⟨a, _, e, _⟩ := h.exn_inv; rw [e]; rfl
  | .dic _ _, v, h => by obtain ⟨a, _, e, _⟩ := h.dic_inv; rw [e]; rfl
def opIs (neg : Bool) (x y : Val) (S : Store) : Res Val := match y with
  | .non => .ok (.bl (neg != isNon x)) S
  | _ => .no
theorem so_is (neg : Bool) : SO2 X c (compareOp (if neg then .IsNot else .Is)) (opIs neg) := by
  intro pins s σ H M μ S x y v u d1 d2 d S' Q I sm r1 r2 rv ru q k
  unfold opIs at q
  split at q
  · cases q
    cases neg with
    | false => exact op_isN pins s σ H x y v u Q I rv ru ⟨r2.non_inv, by rw [isNon_rel r1]; exact k M μ H _ .refl sm (by rw [Bool.false_bne]; exact .bl)⟩
    | true => exact op_notN pins s σ H x y v u Q I rv ru ⟨r2.non_inv, by rw [isNon_rel r1]; exact k M μ H _ .refl sm (by rw [Bool.true_bne]; exact .bl)⟩
  · cases q

/-! ### rows that are read -/
/-- the items of a list, as it stands -/
def lstItems (x : Val) (S : Store) : Option (List Val) := match x with
  | .lst xs => some xs
  | .frl xs => some xs
  | .ref n => match S[n]? with
    | some (.lst xs) => some xs
    | _ => none
  | _ => none
theorem lstItems_rel {M : Addr → Own} {μ : Nat → Addr} {S : Store} {H : Hp} {d : Val} {v : V} {xs : List Val} (h : lstItems d S = some xs) (sm : Sim c M μ S H) (r : VR c M μ S.length H d v) : ∃ a us, v = .ref a ∧ SqL c.K H a us ∧ VRs c M μ S.length H xs us := by
  unfold lstItems at h
  split at h
  · cases h
    obtain ⟨a, us, e, m, t, q⟩ := r.lst_inv
    exact ⟨a, us, e, SqL.of t, q⟩
  · cases h
    obtain ⟨a, us, e, t, q⟩ := r.frl_inv
    exact ⟨a, us, e, t.sq, q⟩
  · split at h
    · rename_i ys hn
      cases h
      obtain ⟨hlt, e⟩ := r.ref_inv
      obtain ⟨m, us, t, q⟩ := sm.cell _ _ hn
      exact ⟨_, us, e, SqL.of t, q⟩
    · cases h
  · cases h
/-- x[i] -/
def opIx (x y : Val) (S : Store) : Res Val := match x, y with
  | .tup xs, .int i => match atI xs i with
    | some d => .ok d S
    | none => .no
  | .str z, .int i => if z.length ≤ sizeLine then (match atI z.cps.toList i with
    | some k => .ok (.str ⟨#[k]⟩) S
    | none => .no) else .no
  | x, .int i => match lstItems x S with
    | some xs => match atI xs i with
      | some d => .ok d S
      | none => .no
    | none => .no
  | _, _ => .no
theorem atI_rel {M : Addr → Own} {μ : Nat → Addr} {N : Nat} {H : Hp} {xs : List Val} {us : List V} {i : Int} {d : Val} (r : VRs c M μ N H xs us) (h : atI xs i = some d) : ∃ v, atI us i = some v ∧ VR c M μ N H d v := by
  unfold atI at h ⊢
  rw [r.length]
  cases e : ixN xs.length i with
  | none => rw [e] at h; cases h
  | some j =>
    rw [e] at h
    exact r.get h
/-- x[i] by values -/
def SOI (X : Cx) (c : RC) (g : Val → Val → Store → Res Val) : Prop :=
  ∀ (H : Hp) (M : Addr → Own) (μ : Nat → Addr) (S : Store) (x y : V) (d1 d2 d : Val) (S' : Store) (Q : VK), Sim c M μ S H → VR c M μ S.length H d1 x → VR c M μ S.length H d2 y → g d1 d2 S = .ok d S' → KE c M μ S.length H d S' Q → rIx X.K x y H Q
theorem so_ix (hK : X.K = c.K) : SOI X c opIx := by
  intro H M μ S x y d1 d2 d S' Q sm r1 r2 q k
  unfold opIx at q
  split at q
  · split at q
    · rename_i xs i d' hd
      cases q
      obtain ⟨a1, us, rfl, t1, q1⟩ := r1.tup_inv
      obtain ⟨v, hv, rv⟩ := atI_rel q1 hd
      exact .inr (.inl ⟨a1, us, _, v, rfl, r2.int_inv, hK ▸ t1.sq, hv, k M μ H _ .refl sm rv⟩)
    · cases q
  · split at q
    · rename_i hl
      split at q
      · rename_i k' hk'
        cases q
        exact .inr (.inr ⟨_, _, k', r1.str_inv, r2.int_inv, hl, hk', k M μ H _ .refl sm .str⟩)
      · cases q
    · cases q
  · split at q
    · rename_i xs hx
      split at q
      · rename_i d' hd
        cases q
        obtain ⟨a1, us, rfl, t1, q1⟩ := lstItems_rel hx sm r1
        obtain ⟨v, hv, rv⟩ := atI_rel q1 hd
        exact .inl ⟨a1, us, _, v, rfl, r2.int_inv, hK ▸ t1, hv, k M μ H _ .refl sm rv⟩
      · cases q
    · cases q
  · cases q
theorem de_ix {a b : Expr} {pos : Pos} {ma mb : Cm} (hK : X.K = c.K) (ha : PE X a (tE c ma)) (hb : PE X b (tE c mb)) (hs : PlainIx b) : PE X (.Subscript a b pos) (tE c (c2 opIx ma mb)) := by
  refine PE.imp (pe_ix ix_seq ha hb hs) fun σ H Q h => ?_
  obtain ⟨M, μ, S, ρ, d1, S1, s, l, q1, k⟩ := tE_c2 h
  refine ⟨M, μ, S, ρ, d1, S1, s, l, q1, fun M' μ' H' v e s' r => ?_⟩
  obtain ⟨M2, μ2, S2, ρ2, d2, S3, s2, l2, q2, k2⟩ := k M' μ' H' v e s' r
  refine ⟨M2, μ2, S2, ρ2, d2, S3, s2, l2, q2, fun M3 μ3 H3 u e3 s3 r3 => ?_⟩
  obtain ⟨M4, μ4, S4, d3, d4, d, S5, s4, r4, r5, q4, k4⟩ := k2 M3 μ3 H3 u e3 s3 r3
  exact so_ix hK H3 M4 μ4 S4 v u d3 d4 d S5 Q s4 r4 r5 q4 k4

/-! ### slices -/
def cutD (xs : List Val) (lo hi : Option Int) : List Val := (xs.drop (HT.sIx xs.length 0 lo)).take (HT.sIx xs.length xs.length hi - HT.sIx xs.length 0 lo)
theorem cut_rel {M : Addr → Own} {μ : Nat → Addr} {N : Nat} {H : Hp} {xs : List Val} {us : List V} {lo hi : Option Int} (r : VRs c M μ N H xs us) : VRs c M μ N H (cutD xs lo hi) (cutV us lo hi) := by
  unfold cutD cutV
  rw [r.length]
  exact (r.drop _).take _
/-- a part of a slice -/
def prt (m : Option Cm) (ρ : Loc) (S : Store) : Res (Option Int) := match m with
  | none => .ok none S
  | some m => (m ρ S).bind fun d S1 => match d with
    | .int i => .ok (some i) S1
    | _ => .no
def tP (c : RC) (m : Option Cm) : TO := fun σ H Q => ∃ M μ S ρ o S', Sim c M μ S H ∧ LR c M μ S.length H ρ σ ∧ prt m ρ S = .ok o S' ∧ ∀ M' μ' H', Ext M μ S.length H M' μ' S'.length H' → Sim c M' μ' S' H' → Q o H'
theorem PO.imp {e : Option Expr} {t t' : TO} (h : PO X e t) (i : ∀ σ H Q, t' σ H Q → t σ H Q) : PO X e t' := ⟨fun pins s σ H Q I q => h.run pins s σ H Q I (i σ H Q q)⟩
theorem dp_none : PO X none (tP c none) := PO.imp po_none fun σ H Q h => by
  obtain ⟨M, μ, S, ρ, o, S', s, l, q, k⟩ := h
  cases q
  exact k M μ H .refl s
theorem dp_some {e : Expr} {m : Cm} (h : PE X e (tE c m)) : PO X (some e) (tP c (some m)) := PO.imp (po_some h) fun σ H Q h => by
  obtain ⟨M, μ, S, ρ, o, S', s, l, q, k⟩ := h
  obtain ⟨d, S1, q1, q2⟩ := Res.bind_eq_ok q
  split at q2
  · cases q2
    exact ⟨M, μ, S, ρ, _, _, s, l, q1, fun M' μ' H' v e s' r => ⟨_, r.int_inv, k M' μ' H' e s'⟩⟩
  · cases q2
def cSl (cell : Bool) (m : Cm) (lo hi : Option Cm) : Cm := fun ρ S => (m ρ S).bind fun d S1 => (prt lo ρ S1).bind fun l S2 => (prt hi ρ S2).bind fun h S3 => match d with
  | .tup xs => .ok (.tup (cutD xs l h)) S3
  | .str z => if z.length ≤ sizeLine then .ok (.str (cutS z l h)) S3 else .no
  | d => match lstItems d S3 with
    | some xs => if cell then .ok (.ref S3.length) (S3 ++ [.lst (cutD xs l h)]) else .ok (.lst (cutD xs l h)) S3
    | none => .no
theorem cut_whole {xs : List Val} {lo hi : Option Int} (h : HT.sIx xs.length 0 lo = 0 ∧ HT.sIx xs.length xs.length hi = xs.length) : cutD xs lo hi = xs := by
  unfold cutD
  rw [h.1, h.2]
  simp
theorem de_sl {e : Expr} {lo hi : Option Expr} {m : Cm} {ml mh : Option Cm} {p2 pos : Pos} (cell : Bool) (hK : X.K = c.K) (he : PE X e (tE c m)) (hl : PO X lo (tP c ml)) (hh : PO X hi (tP c mh)) : PE X (.Subscript e (.Slice lo hi none p2) pos) (tE c (cSl cell m ml mh)) := by
  refine PE.imp (pe_slice (SlR.or sl_tupA (SlR.or sl_str sl_list)) he hl hh) fun σ H Q h => ?_
  obtain ⟨M, μ, S, ρ, d, S', s, l, q, k⟩ := h
  obtain ⟨d1, S1, q1, q⟩ := Res.bind_eq_ok q
  obtain ⟨o1, S2, q2, q⟩ := Res.bind_eq_ok q
  obtain ⟨o2, S3, q3, q⟩ := Res.bind_eq_ok q
  refine ⟨M, μ, S, ρ, d1, S1, s, l, q1, fun M1 μ1 H1 v e1 s1 r1 => ?_⟩
  refine ⟨M1, μ1, S1, ρ, o1, S2, s1, l.ext e1, q2, fun M2 μ2 H2 e2 s2 => ?_⟩
  refine ⟨M2, μ2, S2, ρ, o2, S3, s2, l.ext (e1.trans e2), q3, fun M3 μ3 H3 e3 s3 => ?_⟩
  have k3 := k.ext ((e1.trans e2).trans e3)
  have r3 := r1.ext (e2.trans e3)
  split at q
  · cases q
    obtain ⟨a, us, rfl, t, q4⟩ := r3.tup_inv
    refine .inl ⟨a, us, rfl, hK ▸ t.sq, fun hw => ?_, fun _ p hp => k3.tupNew s3 (cut_rel q4) hp⟩
    rw [q4.length] at hw
    rw [cut_whole hw] at k3
    exact k3 M3 μ3 H3 _ .refl s3 (.tup t q4)
  · split at q
    · rename_i hz
      cases q
      exact .inr (.inl ⟨_, r3.str_inv, hz, k3 M3 μ3 H3 _ .refl s3 .str⟩)
    · cases q
  · split at q
    · rename_i xs hx
      obtain ⟨a, us, rfl, t, q4⟩ := lstItems_rel hx s3 r3
      refine .inr (.inr ⟨a, us, rfl, hK ▸ t, fun p hp => ?_⟩)
      split at q
      · cases q
        exact k3.cellNew s3 (cut_rel q4) hp
      · cases q
        exact k3.lstNew s3 (cut_rel q4) hp
    · cases q
/-- xs[::-1] -/
def opRev (cell : Bool) (d : Val) (S : Store) : Res Val := match lstItems d S with
  | some xs => if cell then .ok (.ref S.length) (S ++ [.lst xs.reverse]) else .ok (.lst xs.reverse) S
  | none => .no
theorem de_rev {e : Expr} {m : Cm} {k : Nat} {p1 p2 p3 pos : Pos} (cell : Bool) (hK : X.K = c.K) (he : PE X e (tE c m)) : PE X (.Subscript e (.Slice none none (some (.UnaryOp .USub (.Constant (.int 1) k p1) p2)) p3) pos) (tE c (c1 (opRev cell) m)) := by
  refine PE.imp (pe_revL he) fun σ H Q h => ?_
  obtain ⟨M, μ, S, ρ, d, S', s, l, q, k⟩ := tE_c1 h
  refine ⟨M, μ, S, ρ, d, S', s, l, q, fun M1 μ1 H1 v e1 s1 r1 => ?_⟩
  obtain ⟨M2, μ2, S2, d2, d3, S3, s2, r2, q2, k2⟩ := k M1 μ1 H1 v e1 s1 r1
  unfold opRev at q2
  split at q2
  · rename_i xs hx
    obtain ⟨a, us, rfl, t, q4⟩ := lstItems_rel hx s2 r2
    refine ⟨a, us, rfl, hK ▸ t, fun p hp => ?_⟩
    split at q2
    · cases q2
      exact k2.cellNew s2 q4.reverse hp
    · cases q2
      exact k2.lstNew s2 q4.reverse hp
  · cases q2

/-! ### built-ins -/
theorem VRs.one_inv {M : Addr → Own} {μ : Nat → Addr} {N : Nat} {H : Hp} {d : Val} {vs : List V} (h : VRs c M μ N H [d] vs) : ∃ v, vs = [v] ∧ VR c M μ N H d v := by
  obtain ⟨u, r, e, h1, h2⟩ := h.cons_inv
  rw [h2.nil_inv] at e
  exact ⟨u, e, h1⟩
theorem VRs.two_inv {M : Addr → Own} {μ : Nat → Addr} {N : Nat} {H : Hp} {d e : Val} {vs : List V} (h : VRs c M μ N H [d, e] vs) : ∃ v u, vs = [v, u] ∧ VR c M μ N H d v ∧ VR c M μ N H e u := by
  obtain ⟨u, r, e1, h1, h2⟩ := h.cons_inv
  obtain ⟨v, e2, h3⟩ := h2.one_inv
  rw [e2] at e1
  exact ⟨u, v, e1, h1, h3⟩
/-- the items of a list or a tuple -/
def seqItems (x : Val) (S : Store) : Option (List Val) := match x with
  | .tup xs => some xs
  | x => lstItems x S
theorem seqItems_rel {M : Addr → Own} {μ : Nat → Addr} {S : Store} {H : Hp} {d : Val} {v : V} {xs : List Val} (h : seqItems d S = some xs) (sm : Sim c M μ S H) (r : VR c M μ S.length H d v) : ∃ a us, v = .ref a ∧ (SqL c.K H a us ∨ SqT c.K H a us) ∧ VRs c M μ S.length H xs us := by
  unfold seqItems at h
  split at h
  · cases h
    obtain ⟨a, us, e, t, q⟩ := r.tup_inv
    exact ⟨a, us, e, .inr t.sq, q⟩
  · obtain ⟨a, us, e, t, q⟩ := lstItems_rel h sm r
    exact ⟨a, us, e, .inl t, q⟩
def biLen (ds : List Val) (S : Store) : Res Val := match ds with
  | [.str z] => if z.length ≤ sizeLine then .ok (.int z.length) S else .no
  | [d] => match seqItems d S with
    | some xs => .ok (.int xs.length) S
    | none => .no
  | _ => .no
theorem so_len (hK : X.K = c.K) : SOC X c (.builtin "len") biLen := SOC.of (CallR.or call_len_str call_len_seq) fun H M μ S xs ds d S' Q sm r q k => by
  unfold biLen at q
  split at q
  · obtain ⟨v, rfl, r1⟩ := r.one_inv
    split at q
    · rename_i z hz
      cases q
      exact .inl ⟨_, by rw [r1.str_inv], hz, k M μ H _ .refl sm .int⟩
    · cases q
  · obtain ⟨v, rfl, r1⟩ := r.one_inv
    split at q
    · rename_i ys hy
      cases q
      obtain ⟨a, us, rfl, t, q4⟩ := seqItems_rel hy sm r1
      exact .inr ⟨a, us, rfl, hK ▸ t, by rw [q4.length]; exact k M μ H _ .refl sm .int⟩
    · cases q
  · cases q
def biList (cell : Bool) (ds : List Val) (S : Store) : Res Val := match ds with
  | [d] => match seqItems d S with
    | some xs => if cell then .ok (.ref S.length) (S ++ [.lst xs]) else .ok (.lst xs) S
    | none => .no
  | _ => .no
theorem so_list (cell : Bool) (hK : X.K = c.K) : SOC X c (.type "list") (biList cell) := SOC.of call_list_of fun H M μ S xs ds d S' Q sm r q k => by
  unfold biList at q
  split at q
  · obtain ⟨v, rfl, r1⟩ := r.one_inv
    split at q
    · rename_i ys hy
      obtain ⟨a, us, rfl, t, q4⟩ := seqItems_rel hy sm r1
      refine ⟨a, us, rfl, hK ▸ t, fun p hp => ?_⟩
      split at q
      · cases q
        exact k.cellNew sm q4 hp
      · cases q
        exact k.lstNew sm q4 hp
    · cases q
  · cases q
def biTuple (ds : List Val) (S : Store) : Res Val := match ds with
  | [d] => match seqItems d S with
    | some xs => .ok (.tup xs) S
    | none => .no
  | _ => .no
theorem so_tuple (hK : X.K = c.K) : SOC X c (.type "tuple") biTuple := SOC.of call_tuple_of fun H M μ S xs ds d S' Q sm r q k => by
  unfold biTuple at q
  split at q
  · obtain ⟨v, rfl, r1⟩ := r.one_inv
    split at q
    · rename_i ys hy
      cases q
      unfold seqItems at hy
      split at hy
      · cases hy
        obtain ⟨a, us, rfl, t, q4⟩ := id r1.tup_inv
        exact ⟨a, us, rfl, .inr ⟨hK ▸ t.sq, k M μ H _ .refl sm r1⟩⟩
      · obtain ⟨a, us, rfl, t, q4⟩ := lstItems_rel hy sm r1
        exact ⟨a, us, rfl, .inl ⟨hK ▸ t, fun p hp => k.tupNew sm q4 hp⟩⟩
    · cases q
  · cases q
/-- truths, whole numbers -/
def blsOf : List Val → Option (List Bool)
  | [] => some []
  | .bl i :: r => (blsOf r).map (i :: ·)
  | _ :: _ => none
theorem bls_rel {M : Addr → Own} {μ : Nat → Addr} {N : Nat} {H : Hp} : ∀ {xs : List Val} {bs : List Bool} {us : List V}, blsOf xs = some bs → VRs c M μ N H xs us → us = bs.map V.bl
  | [], bs, us, h, r => by cases h; exact r.nil_inv
  | x :: xs, bs, us, h, r => by
    obtain ⟨u, r', e, h1, h2⟩ := r.cons_inv
    cases x with
    | bl i =>
      unfold blsOf at h
      obtain ⟨b', hb, rfl⟩ := Option.map_eq_some_iff.mp h
      rw [e, h1.bl_inv, bls_rel hb h2]
      rfl
    | _ => cases h
theorem ints_rel {M : Addr → Own} {μ : Nat → Addr} {N : Nat} {H : Hp} : ∀ {xs : List Val} {bs : List Int} {us : List V}, intsOf xs = some bs → VRs c M μ N H xs us → us = bs.map V.int
  | [], bs, us, h, r => by cases h; exact r.nil_inv
  | x :: xs, bs, us, h, r => by
    obtain ⟨u, r', e, h1, h2⟩ := r.cons_inv
    cases x with
    | int i =>
      unfold intsOf at h
      obtain ⟨b', hb, rfl⟩ := Option.map_eq_some_iff.mp h
      rw [e, h1.int_inv, ints_rel hb h2]
      rfl
    | _ => cases h
def biBls (f : List Bool → Bool) (ds : List Val) (S : Store) : Res Val := match ds with
  | [d] => match (lstItems d S).bind blsOf with
    | some bs => .ok (.bl (f bs)) S
    | none => .no
  | _ => .no
theorem so_bls {f : List Bool → Bool} {v : Value} {r0 : List V → Hp → VK → Prop} (ho : CallR X v r0) (hr : ∀ H (a : Addr) (bs : List Bool) Q, SqL X.K H a (bs.map V.bl) → Q (.bl (f bs)) H → r0 [.ref a] H Q) (hK : X.K = c.K) : SOC X c v (biBls f) := SOC.of ho fun H M μ S xs ds d S' Q sm r q k => by
  unfold biBls at q
  split at q
  · obtain ⟨v, rfl, r1⟩ := r.one_inv
    split at q
    · rename_i bs hb
      cases q
      obtain ⟨ys, hy, hb⟩ := Option.bind_eq_some_iff.mp hb
      obtain ⟨a, us, rfl, t, q4⟩ := lstItems_rel hy sm r1
      rw [bls_rel hb q4] at t
      exact hr H a bs Q (hK ▸ t) (k M μ H _ .refl sm .bl)
    · cases q
  · cases q
def biAny := biBls fun bs => bs.any id
def biAll := biBls fun bs => bs.all id
theorem so_any (hc : X.calm = true) (hK : X.K = c.K) : SOC X c (.builtin "any") biAny := so_bls (cr_any hc) (fun H a bs Q t q => ⟨a, bs, rfl, t, q⟩) hK
theorem so_all (hc : X.calm = true) (hK : X.K = c.K) : SOC X c (.builtin "all") biAll := so_bls (cr_all hc) (fun H a bs Q t q => ⟨a, bs, rfl, t, q⟩) hK
def biSum (ds : List Val) (S : Store) : Res Val := match ds with
  | [d] => match (lstItems d S).bind intsOf with
    | some bs => .ok (.int bs.sum) S
    | none => .no
  | _ => .no
theorem so_sum (hc : X.calm = true) (hK : X.K = c.K) : SOC X c (.builtin "sum") biSum := SOC.of (cr_sum hc) fun H M μ S xs ds d S' Q sm r q k => by
  unfold biSum at q
  split at q
  · obtain ⟨v, rfl, r1⟩ := r.one_inv
    split at q
    · rename_i bs hb
      cases q
      obtain ⟨ys, hy, hb⟩ := Option.bind_eq_some_iff.mp hb
      obtain ⟨a, us, rfl, t, q4⟩ := lstItems_rel hy sm r1
      rw [ints_rel hb q4] at t
      exact ⟨a, bs, rfl, hK ▸ t, k M μ H _ .refl sm .int⟩
    · cases q
  · cases q
def biAbs (ds : List Val) (S : Store) : Res Val := match ds with
  | [.int i] => .ok (.int (if i < 0 then -i else i)) S
  | _ => .no
theorem so_abs : SOC X c (.builtin "abs") biAbs := SOC.of call_abs fun H M μ S xs ds d S' Q sm r q k => by
  unfold biAbs at q
  split at q
  · cases q
    obtain ⟨v, rfl, r1⟩ := r.one_inv
    exact ⟨_, by rw [r1.int_inv], k M μ H _ .refl sm .int⟩
  · cases q
def biMax (ds : List Val) (S : Store) : Res Val := match ds with
  | [.int i, .int j] => .ok (.int (if j > i then j else i)) S
  | _ => .no
def biMin (ds : List Val) (S : Store) : Res Val := match ds with
  | [.int i, .int j] => .ok (.int (if j < i then j else i)) S
  | _ => .no
theorem so_max (hc : X.calm = true) : SOC X c (.builtin "max") biMax := SOC.of (call_max2 hc) fun H M μ S xs ds d S' Q sm r q k => by
  unfold biMax at q
  split at q
  · cases q
    obtain ⟨v, u, rfl, r1, r2⟩ := r.two_inv
    exact ⟨_, _, by rw [r1.int_inv, r2.int_inv], k M μ H _ .refl sm .int⟩
  · cases q
theorem so_min (hc : X.calm = true) : SOC X c (.builtin "min") biMin := SOC.of (call_min2 hc) fun H M μ S xs ds d S' Q sm r q k => by
  unfold biMin at q
  split at q
  · cases q
    obtain ⟨v, u, rfl, r1, r2⟩ := r.two_inv
    exact ⟨_, _, by rw [r1.int_inv, r2.int_inv], k M μ H _ .refl sm .int⟩
  · cases q
def biInt (ds : List Val) (S : Store) : Res Val := match ds with
  | [.int i] => .ok (.int i) S
  | [.bl b] => .ok (.int (if b then 1 else 0)) S
  | _ => .no
theorem so_int : SOC X c (.type "int") biInt := SOC.of call_int1 fun H M μ S xs ds d S' Q sm r q k => by
  unfold biInt at q
  split at q
  · cases q
    obtain ⟨v, rfl, r1⟩ := r.one_inv
    exact .inl ⟨_, by rw [r1.int_inv], k M μ H _ .refl sm .int⟩
  · cases q
    obtain ⟨v, rfl, r1⟩ := r.one_inv
    exact .inr ⟨_, by rw [r1.bl_inv], k M μ H _ .refl sm .int⟩
  · cases q
/-! ### isinstance -/
inductive Ty where
  | bt (n : String) | own (C : Nat) | exc (C : Nat)
def Ty.val (c : RC) : Ty → Value
  | .bt n => .type n
  | .own C => .ref (c.ca C)
  | .exc C => .ref (c.ca C)
def Ty.v (c : RC) : Ty → V
  | .bt n => .ty n
  | .own C => .ref (c.ca C)
  | .exc C => .ref (c.ca C)
def tyOf (d : Val) (S : Store) : Option Ty := match d with
  | .non => some (.bt "NoneType")
  | .bl _ => some (.bt "bool")
  | .int _ => some (.bt "int")
  | .str _ => some (.bt "str")
  | .tup _ => some (.bt "tuple")
  | .lst _ => some (.bt "list")
  | .frl _ => some (.bt "list")
  | .obj C _ => some (.own C)
  | .ref n => match S[n]? with
    | some (.lst _) => some (.bt "list")
    | some (.ins C _) => some (.own C)
    | none => none
  | .fn _ => none
  | .exn C _ => some (.exc C)
  | .dic _ _ => some (.bt "dict")
/-- what a class must have to be asked -/
structure ClsAsk (K : PySem.W.Frag) (C : Addr) : Prop where
  cl : Cls K C
  ha : PySem.W.findIn K (.ref C) "__class__" = some (some (.builtin "object.__class__"))
  hn : PySem.W.specialIn K (.builtin "object.__class__") "__get__" = some (some (.builtin "getset_descriptor.__get__"))
  htk : PySem.W.takesIn K (.builtin "object.__class__") = some true
  hm : PySem.W.mroIn K C (.type "object") = some true
theorem ty_rel {M : Addr → Own} {μ : Nat → Addr} {S : Store} {H : Hp} {K : PySem.W.Frag} (hK : K = c.K) (sm : Sim c M μ S H) : ∀ {d : Val} {v : V} {t : Ty}, (∀ C, t = .own C → ClsAsk K (c.ca C)) → (∀ C, t ≠ .exc C) → tyOf d S = some t → VR c M μ S.length H d v → TyX K H v (t.val c)
  | .non, v, t, hA, hX, e, h => by cases e; rw [h.non_inv]; exact .base .non
  | .bl _, v, t, hA, hX, e, h => by cases e; rw [h.bl_inv]; exact .base (.bl _)
  | .int _, v, t, hA, hX, e, h => by cases e; rw [h.int_inv]; exact .base (.int _)
  | .str _, v, t, hA, hX, e, h => by cases e; rw [h.str_inv]; exact .base (.str _)
  | .tup _, v, t, hA, hX, e, h => by
    cases e
    obtain ⟨a, us, rfl, t, _⟩ := h.tup_inv
    rcases t with ⟨_, t | ⟨o, t⟩⟩ | ⟨o, its, n, l, hc, _⟩
    · exact .base (.tup t)
    · exact .fTuple t
    · exact .kTuple (hK ▸ l) hc
  | .lst _, v, t, hA, hX, e, h => by
    cases e
    obtain ⟨a, us, rfl, m, t, _⟩ := h.lst_inv
    exact .base (.lst t)
  | .frl _, v, t, hA, hX, e, h => by
    cases e
    obtain ⟨a, us, rfl, t, _⟩ := h.frl_inv
    rcases t with ⟨_, t | ⟨o, t⟩⟩ | ⟨o, its, n, l, hc, _⟩
    · exact .base (.lst t)
    · exact .base (.frz t)
    · exact .kList (hK ▸ l) hc
  | .obj C xs, v, t, hA, hX, e, h => by
    cases e
    have hc := hA C rfl
    obtain ⟨a, dx, us, rfl, m, t, _⟩ := h.obj_inv
    exact .base (.ins t hc.cl hc.ha hc.hn hc.htk hc.hm)
  | .ref n, v, t, hA, hX, e, h => by
    obtain ⟨hn, rfl⟩ := h.ref_inv
    have e' : (match S[n]? with
      | some (.lst _) => some (Ty.bt "list")
      | some (.ins C _) => some (Ty.own C)
      | none => none) = some t := e
    cases hs : S[n]? with
    | none => rw [hs] at e'; cases e'
    | some k =>
      rw [hs] at e'
      cases k with
      | lst xs =>
        cases e'
        obtain ⟨m, us, q, _⟩ := sm.cell n _ hs
        exact .base (.lst q)
      | ins C fs =>
        cases e'
        have hc := hA C rfl
        obtain ⟨m, dx, us, q, _⟩ := sm.cell n _ hs
        exact .base (.ins q hc.cl hc.ha hc.hn hc.htk hc.hm)
  | .fn _, v, t, hA, hX, e, h => by cases e
  | .exn C _, v, t, hA, hX, e, h => by
    cases e
    exact absurd rfl (hX C)
  | .dic _ _, v, t, hA, hX, e, h => by
    cases e
    obtain ⟨a, us, rfl, m, t, _⟩ := h.dic_inv
    exact .base (.dK t)
/-- isinstance(x, T), T one class; kit: what is known of two classes -/
structure KitOk (K : PySem.W.Frag) (c : RC) (kit : Ty → Ty → Option Bool) : Prop where
  one : ∀ t u b, kit t u = some b → PySem.W.kitOne K (t.val c) (u.val c) = some b
  ask : ∀ C u b, kit (.own C) u = some b → ClsAsk K (c.ca C)
  askX : ∀ C u b, kit (.exc C) u = some b → ∃ tl newId, PiX.XCls K (c.ca C) tl newId
def biIsi (kit : Ty → Ty → Option Bool) (u : Ty) (ds : List Val) (S : Store) : Res Val := match ds with
  | [d] => match (tyOf d S).bind fun t => kit t u with
    | some b => .ok (.bl b) S
    | none => .no
  | _ => .no
def ClsT (c : RC) (u : Ty) (v : Value) : Prop := v = u.val c
/-- isinstance of an exception -/
def rIsX (K : PySem.W.Frag) : List V → Hp → VK → Prop := fun xs H Q => ∃ (a C : Addr) (tl : List Value) (newId : String) (dd : Option Addr) (y : V) (u : Value) (b : Bool), xs = [.ref a, y] ∧ ClsV y u ∧ PiX.XCls K C tl newId ∧ H a = some (exo a C dd) ∧
  (∀ dx, dd = some dx → ∃ fs, H dx = some (exd dx fs)) ∧ PySem.W.kitOne K (.ref C) u = some b ∧ Q (.bl b) H
theorem call_isx : CallR X (.builtin "isinstance") (rIsX X.K) := by
  intro pins s σ H xs us Q I r h
  obtain ⟨a, C, tl, newId, dd, y, u, b, rfl, k, T, e, ed, hb, q⟩ := h
  obtain ⟨u1, u2, rfl, r1, r2⟩ := vals2 r
  obtain rfl : u1 = Value.ref a := r1
  have e2 := k.eq r2
  subst e2
  obtain ⟨P, Z, p⟩ := PiX.xkit_ok T I e ed
  exact PySem.W.kia_one Z I.kIn p hb (fun z => nomatch z) fun tk => ⟨.bl b, H, I.tok tk, rfl, q⟩
def rIs2 (K : PySem.W.Frag) : List V → Hp → VK → Prop := fun xs H Q => rIsi K xs H Q ∨ rIsX K xs H Q
theorem call_is2 : CallR X (.builtin "isinstance") (rIs2 X.K) := CallR.or call_isi call_isx
theorem Ty.clsV (u : Ty) : ClsV (u.v c) (u.val c) := by
  cases u with
  | bt n => exact .ty n
  | own C => exact .own _
  | exc C => exact .own _
theorem isi_ok (hK : X.K = c.K) {kit : Ty → Ty → Option Bool} (hk : KitOk X.K c kit) {u : Ty} {M : Addr → Own} {μ : Nat → Addr} {S : Store} {H : Hp} {ds : List Val} {d : Val} {S' : Store} {vs : List V} {Q : VK} (sm : Sim c M μ S H) (r : VRs c M μ S.length H ds vs) (q : biIsi kit u ds S = .ok d S') (k : KE c M μ S.length H d S' Q) : ∃ x, vs = [x] ∧ rIs2 X.K [x, u.v c] H Q := by
  unfold biIsi at q
  split at q
  · obtain ⟨v, rfl, r1⟩ := r.one_inv
    split at q
    · rename_i b hb
      cases q
      obtain ⟨t, ht, hb⟩ := Option.bind_eq_some_iff.mp hb
      refine ⟨v, rfl, ?_⟩
      by_cases hx : ∃ C, t = .exc C
      · obtain ⟨C, rfl⟩ := hx
        obtain ⟨tl, newId, T⟩ := hk.askX C u b hb
        rename_i d0 _ _
        have hd : ∃ xs, d0 = .exn C xs := by
          unfold tyOf at ht
          split at ht <;> first | (cases ht; done) | skip
          · split at ht <;> cases ht
          · cases ht
            exact ⟨_, rfl⟩
        obtain ⟨xs, rfl⟩ := hd
        obtain ⟨a, us, rfl, m, l, h0, _⟩ := r1.exn_inv
        refine .inr ?_
        rcases h0 with ⟨h1, h2⟩ | ⟨dx, h1, h2, h3⟩
        · exact ⟨a, c.ca C, tl, newId, none, u.v c, u.val c, b, rfl, u.clsV, T, h2, (fun dx e => by cases e), hk.one _ u b hb, k M μ H _ .refl sm .bl⟩
        · exact ⟨a, c.ca C, tl, newId, some dx, u.v c, u.val c, b, rfl, u.clsV, T, h2, (fun dx' e => by cases e; exact ⟨_, h3⟩), hk.one _ u b hb, k M μ H _ .refl sm .bl⟩
      · refine .inl ⟨v, u.v c, t.val c, u.val c, b, rfl, u.clsV, ty_rel hK sm (fun C e => ?_) (fun C e => hx ⟨C, e⟩) ht r1, hk.one t u b hb, k M μ H _ .refl sm .bl⟩
        subst e
        exact hk.ask C u b hb
    · cases q
  · cases q
end
end Pi
set_option Elab.async false
set_option linter.all false
set_option maxRecDepth 100000
set_option maxHeartbeats 4000000
/-! Pi4: what is known of the text: defs, classes; calls, attributes, methods, new instances. -/
namespace Pi
open PySem L2
open PyProof.Rows hiding St

abbrev FnM := List Val → Store → Res Val
/-- where a parameter's value comes from: a positional argument, a keyword's, a default -/
inductive Src where
  | pos (i : Nat) | kw (j : Nat) | dfl (d : Val)
def flatVal (d : Val) : V := (flV d).getD .non
def Src.pick (ds zs : List Val) : Src → Val
  | .pos i => ds.getD i .non
  | .kw j => zs.getD j .non
  | .dfl d => d
def Src.pickV (vs zs : List V) : Src → V
  | .pos i => vs.getD i .non
  | .kw j => zs.getD j .non
  | .dfl d => flatVal d
def Src.fits (n m : Nat) : Src → Bool
  | .pos i => decide (i < n)
  | .kw j => decide (j < m)
  | .dfl d => (flV d).isSome
/-- a def: parameters, level, what it computes, the ways it is called: how many positional values, which keywords, where each parameter's value comes from -/
structure FnS where
  ps : List Str
  lvl : Nat
  m : FnM
  shapes : List (Nat × List Str × List Src)
structure ClsS where
  flds : List Str
  meths : List (Str × FnS)
  init : FnS
  frozen : Bool
  eqc : Bool
/-- an exception class: fields, an own __init__?, the ways it is made (positional values, keywords, where each field's value comes from) -/
structure XcS where
  flds : List Str
  own : Bool
  shapes : List (Nat × List Str × List Src)
structure Tab where
  fns : List (Str × FnS)
  cnames : List (Str × Nat)
  cls : Nat → Option ClsS
  consts : List (Str × Val)
  kit : Ty → Ty → Option Bool
  eqlv : Nat
  xnames : List (Str × Nat) := []
  xcls : Nat → Option XcS := fun _ => none
def Tab.eqc (T : Tab) (C : Nat) : Bool := match T.cls C with
  | some c => c.eqc
  | none => false

/-- what a def promises -/
def spF (c : RC) (n : Nat) (m : FnM) : Sp := fun vs H Q _ => vs.length = n ∧ ∃ M μ S ds d S', Sim c M μ S H ∧ VRs c M μ S.length H ds vs ∧ m ds S = .ok d S' ∧ KE c M μ S.length H d S' Q
section
variable (P : Program) (w : World) (K : PySem.W.Frag) (mg : Str → Option Value) (base : Heap) (c : RC)
/-- the def at f keeps F's promise -/
structure FnHolds (lv : Nat) (F : FnS) (f : Addr) (fd : FuncData) : Prop where
  ok : F.lvl ≤ lv → PiX.FnG P w K mg base CX0 F.lvl f fd F.ps (spF c F.ps.length F.m)
  sh : ∀ n ks src, (n, ks, src) ∈ F.shapes → (src.length = F.ps.length ∧ src.all (Src.fits n ks.length) = true) ∧ ∃ g gV, KBn K fd F.ps n ks g gV ∧ ∀ vs zs, vs.length = n → zs.length = ks.length → gV vs zs = src.map (Src.pickV vs zs)
structure ClsHolds (lv : Nat) (T : Tab) (C : Nat) (k : ClsS) : Prop where
  flds : c.flds C = k.flds
  cl : Cls K (c.ca C)
  noat : ∀ f ∈ k.flds, NoAttr K (c.ca C) f
  few : k.flds.length < 1000
  nodup : k.flds.Nodup
  meths : ∀ m F, k.meths.lookup m = some F → m ∉ k.flds ∧ ∃ f fd, Meth K (c.ca C) m f ∧ FnHolds P w K mg base c lv F f fd
  init : ∃ f fd, Mk K (c.ca C) f ∧ FnHolds P w K mg base c lv k.init f fd
structure XcHolds (C : Nat) (k : XcS) : Prop where
  flds : c.flds C = k.flds
  nodup : k.flds.Nodup
  noat : ∀ f ∈ k.flds, PySem.W.findIn K (.ref (c.ca C)) f = some none
  cls : ∃ tl newId, PiX.XCls K (c.ca C) tl newId
  mkx : k.own = true → ∃ (f : Addr) (fd : FuncData) (ps : List Str) (tl : List Value) (newId B nb initId : String), PiX.XCls K (c.ca C) tl newId ∧ PiX.XBase B nb newId initId tl ∧ PySem.W.findIn K (.ref (c.ca C)) "__init__" = some (some (.ref f)) ∧
    PySem.W.typeIn K (.ref f) = some (.type "function") ∧ FnOk P w K mg base CX0 1 f fd ps (PiX.spX (c.ca C) k.flds) ∧
    ∀ n ks src, (n, ks, src) ∈ k.shapes → n ≤ 1000 ∧ src.length = k.flds.length ∧ src.all (Src.fits n ks.length) = true ∧
      ∃ g gV, KBn K fd ps (n + 1) ks g gV ∧ ∀ v vs zs, vs.length = n → zs.length = ks.length → gV (v :: vs) zs = v :: src.map (Src.pickV vs zs)
  pl : k.own = false → k.flds = [] ∧ ∃ (B newId initId : String) (bmB : List Value), ExcBaseFacts B newId initId bmB ∧ PySem.W.excIn K (c.ca C) bmB newId = true
structure TabOk (lv : Nat) (T : Tab) : Prop where
  fns : ∀ x F, T.fns.lookup x = some F → ∃ f fd, mg x = some (.ref f) ∧ PySem.W.keepIn K (.ref f) = true ∧ FnHolds P w K mg base c lv F f fd
  cnames : ∀ x C, T.cnames.lookup x = some C → mg x = some (.ref (c.ca C))
  cls : ∀ C k, T.cls C = some k → ClsHolds P w K mg base c lv T C k
  consts : ∀ x d, T.consts.lookup x = some d → ∃ u v, mg x = some u ∧ RelV v u ∧ ∀ M μ N H, VR c M μ N H d v
  kit : KitOk K c T.kit
  xnames : ∀ x C, T.xnames.lookup x = some C → mg x = some (.ref (c.ca C))
  xcls : ∀ C k, T.xcls C = some k → XcHolds P w K mg base c C k
  eqs : ∀ C, T.eqc C = true → T.eqlv ≤ lv → ∃ (f : Addr) (fd : FuncData) (ps : List Str), PiX.FnG P w K mg base CX0 T.eqlv f fd ps (spEq c C) ∧
    PySem.W.findIn K (.ref (c.ca C)) "__eq__" = some (some (.ref f)) ∧ PySem.W.isFn K (.ref f) = true ∧ Binds K fd ps []
end
theorem XcHolds.kp {P : Program} {w : World} {K : PySem.W.Frag} {mg : Str → Option Value} {base : Heap} {c : RC} {C : Nat} {k : XcS} (h : XcHolds P w K mg base c C k) : PySem.W.keepIn K (.ref (c.ca C)) = true := by
  obtain ⟨tl, newId, T⟩ := h.cls
  exact T.kC

abbrev XTab (lv : Nat) (X : Cx) (c : RC) (T : Tab) : Prop := TabOk X.prog X.w X.K X.mg X.base c lv T
theorem TabOk.eqf {X : Cx} {c : RC} {T : Tab} {lv : Nat} (h : XTab lv X c T) (hl : T.eqlv ≤ lv) : EqFns X c T.eqc T.eqlv := fun C hC => by
  obtain ⟨f, fd, ps, F, h1, h2, h3⟩ := h.eqs C hC hl
  exact ⟨CX0, f, fd, ps, E0, F, h1, h2, h3, pass0⟩

section
variable {X : Cx} {c : RC} {T : Tab} {e o : Expr} {es : List Expr} {pos p apos : Pos} {m mo : Cm} {ms mk : List Cm} {x : Str}
theorem getD_rel {M : Addr → Own} {μ : Nat → Addr} {N : Nat} {H : Hp} {ds : List Val} {vs : List V} {i : Nat} (r : VRs c M μ N H ds vs) (h : i < ds.length) : VR c M μ N H (ds.getD i .non) (vs.getD i .non) := by
  have e := List.getElem?_eq_getElem h
  obtain ⟨v, e2, r2⟩ := r.get e
  rw [List.getD_eq_getElem?_getD, List.getD_eq_getElem?_getD, e, e2]
  exact r2
theorem flat_rel {M : Addr → Own} {μ : Nat → Addr} {N : Nat} {H : Hp} : ∀ {d : Val}, (flV d).isSome = true → VR c M μ N H d (flatVal d)
  | .non, _ => .non
  | .bl _, _ => .bl
  | .int _, _ => .int
  | .str _, _ => .str
theorem pick_rel {M : Addr → Own} {μ : Nat → Addr} {N : Nat} {H : Hp} {ds zs : List Val} {vs ws : List V} (r : VRs c M μ N H ds vs) (r2 : VRs c M μ N H zs ws) : ∀ {src : List Src}, src.all (Src.fits ds.length zs.length) = true → VRs c M μ N H (src.map (Src.pick ds zs)) (src.map (Src.pickV vs ws))
  | [], _ => .nil
  | s :: src, h => by
    rw [List.all_cons, Bool.and_eq_true] at h
    refine .cons ?_ (pick_rel r r2 h.2)
    cases s with
    | pos i => exact getD_rel r (of_decide_eq_true h.1)
    | kw j => exact getD_rel r2 (of_decide_eq_true h.1)
    | dfl d => exact flat_rel h.1

/-- the call of a def: the way is looked up -/
def callF (F : FnS) (lv n : Nat) (ks : List Str) (ds zs : List Val) (S : Store) : Res Val := match F.shapes.find? fun s => s.1 == n && s.2.1 == ks with
  | some s => if F.lvl ≤ lv ∧ ds.length = n ∧ zs.length = ks.length then F.m (s.2.2.map (Src.pick ds zs)) S else .no
  | none => .no
def cCall (F : FnS) (lv n : Nat) (ks : List Str) (ms mk : List Cm) : Cm := fun ρ S => (evs ms ρ S).bind fun ds S1 => (evs mk ρ S1).bind fun zs S2 => callF F lv n ks ds zs S2
theorem callF_inv {F : FnS} {lv n : Nat} {ks : List Str} {ds zs : List Val} {S : Store} {d : Val} {S' : Store} (h : callF F lv n ks ds zs S = .ok d S') : ∃ src, (n, ks, src) ∈ F.shapes ∧ F.lvl ≤ lv ∧ ds.length = n ∧ zs.length = ks.length ∧ F.m (src.map (Src.pick ds zs)) S = .ok d S' := by
  unfold callF at h
  split at h
  · rename_i s hs
    split at h
    · rename_i hc
      have hm := List.mem_of_find?_eq_some hs
      have hp := List.find?_some hs
      simp only [Bool.and_eq_true, beq_iff_eq] at hp
      obtain ⟨n', ks', src⟩ := s
      simp only at hp
      obtain ⟨rfl, rfl⟩ := hp
      exact ⟨src, hm, hc.1, hc.2.1, hc.2.2, h⟩
    · cases h
  · cases h
theorem KE.imp {M : Addr → Own} {μ : Nat → Addr} {N : Nat} {H : Hp} {d : Val} {S' : Store} {Q Q' : VK} (k : KE c M μ N H d S' Q) (h : ∀ v H', Q v H' → Q' v H') : KE c M μ N H d S' Q' := fun M' μ' H' v e s r => h v H' (k M' μ' H' v e s r)
/-- keywords -/
structure DK (X : Cx) (c : RC) (kws : List Keyword) (mk : List Cm) : Prop where
  ok : PK X kws (tA c mk)
theorem dk_nil : PK X [] (tA c []) := ⟨fun pos pins s σ H Q I h => (pk_nil (X := X)).run pos pins s σ H Q I (by
  obtain ⟨M, μ, S, ρ, ds, S', s, l, q, k⟩ := h
  cases q
  exact k M μ H [] .refl s .nil)⟩
theorem dk_cons {nm : Option Str} {kpos : Pos} {kws : List Keyword} (ha : PE X e (tE c m)) (hr : PK X kws (tA c mk)) : PK X (⟨nm, e, kpos⟩ :: kws) (tA c (m :: mk)) :=
  ⟨fun pos pins s σ H Q I h => (pk_cons ha hr).run pos pins s σ H Q I (ia_cons h)⟩
/-- f(e, .., k = v, ..) -/
theorem de_call {F : FnS} {lv n : Nat} {ks : List Str} {kws : List Keyword} (hT : XTab lv X c T) (hF : T.fns.lookup x = some F) (hr : Room lv X.A) (gd : X.A.guards = some []) (hg : Gl X x) (ha : PA X (e :: es) (tA c ms)) (hkw : PK X kws (tA c mk))
    (hdb : (x == ("__debug__" : Str)) = false)
    (hall : (backToKw pos (keywordEach kws X.env)).all (·.1.isSome) = true) (hks : (backToKw pos (keywordEach kws X.env)).filterMap (·.1) = ks)
    (he : starEach (e :: es) X.env = (false, eval e X.env) :: starEach es X.env)
    (hpl : ((backTo pos (starEach (e :: es) X.env)).any (·.1) || (backToKw pos (keywordEach kws X.env)).any (·.1.isNone)) = false) :
    PE X (.Call (.Name x p) (e :: es) kws pos) (tE c (cCall F lv n ks ms mk)) := by
  obtain ⟨f, fd, hm, hk, hh⟩ := hT.fns x F hF
  refine ⟨fun pins s σ H Q I h => ?_⟩
  obtain ⟨M, μ, S, ρ, d, S', sm, l, q, k⟩ := h
  obtain ⟨ds, S1, q1, q⟩ := Res.bind_eq_ok q
  obtain ⟨zs, S2, q2, q⟩ := Res.bind_eq_ok q
  obtain ⟨src, hsh, hlv, l1, l2, q⟩ := callF_inv q
  obtain ⟨⟨hlen, hfit⟩, g, gV, hb, hgV⟩ := hh.sh n ks src hsh
  refine (PiX.pe_callG (CX := CX0) (E := E0) (hh.ok hlv) gd (hr.mono hlv) hg hm hk hb pass0 ha hkw hall hks hdb he hpl).run pins s σ H Q I ?_
  refine ⟨M, μ, S, ρ, ds, S1, sm, l, q1, fun M1 μ1 H1 vs e1 s1 r1 => ?_⟩
  refine ⟨M1, μ1, S1, ρ, zs, S2, s1, l.ext e1, q2, fun M2 μ2 H2 ws e2 s2 r2 => ?_⟩
  have r1' := r1.ext e2
  have w1 : vs.length = n := by rw [r1.length, l1]
  have w2 : ws.length = ks.length := by rw [r2.length, l2]
  refine ⟨w1, w2, ?_, M2, μ2, S2, _, d, S', s2, ?_, q, k.ext (e1.trans e2)⟩
  · rw [hgV vs ws w1 w2, List.length_map, hlen]
  · rw [hgV vs ws w1 w2]
    exact pick_rel r1' r2 (by rw [l1, l2]; exact hfit)

/-! ### fields -/
theorem look_rel {M : Addr → Own} {μ : Nat → Addr} {N : Nat} {H : Hp} {f : Str} : ∀ {fl : List Str} {xs : List Val} {us : List V} {d : Val}, VRs c M μ N H xs us → (fl.zip xs).lookup f = some d → ∃ v, (fl.zip us).lookup f = some v ∧ VR c M μ N H d v
  | [], xs, us, d, r, h => by simp at h
  | g :: fl, [], us, d, r, h => by simp at h
  | g :: fl, x :: xs, us, d, r, h => by
    obtain ⟨u, r', e, h1, h2⟩ := r.cons_inv
    rw [e]
    rw [List.zip_cons_cons, List.lookup_cons] at h ⊢
    cases q : f == g with
    | true =>
      rw [q] at h
      cases h
      exact ⟨u, rfl, h1⟩
    | false =>
      rw [q] at h
      exact look_rel h2 h
theorem look_none {f : Str} : ∀ {fl : List Str} {us : List V}, f ∉ fl → (fl.zip us).lookup f = none
  | [], us, _ => by simp
  | g :: fl, [], _ => by simp
  | g :: fl, u :: us, h => by
    rw [List.zip_cons_cons, List.lookup_cons]
    have hne : (f == g) = false := by
      rw [beq_eq_false_iff_ne]
      intro e
      exact h (by rw [e]; exact List.mem_cons_self)
    rw [hne]
    exact look_none fun hm => h (List.mem_cons_of_mem _ hm)
/-- the class of an instance, its fields by name -/
def insOf (T : Tab) (d : Val) (S : Store) : Option (Nat × ClsS × List (Str × Val)) := match d with
  | .obj C xs => (T.cls C).map fun k => (C, k, k.flds.zip xs)
  | .ref n => match S[n]? with
    | some (.ins C fs) => (T.cls C).map fun k => (C, k, fs)
    | _ => none
  | _ => none
theorem insOf_rel {lv : Nat} (hT : XTab lv X c T) {M : Addr → Own} {μ : Nat → Addr} {S : Store} {H : Hp} {d : Val} {v : V} {C : Nat} {k : ClsS} {fs : List (Str × Val)} (h : insOf T d S = some (C, k, fs)) (sm : Sim c M μ S H) (r : VR c M μ S.length H d v) :
    ∃ a dx us, v = .ref a ∧ T.cls C = some k ∧ H a = some (.ins (c.ca C) dx ((fs.map (·.1)).zip us)) ∧ VRs c M μ S.length H (fs.map (·.2)) us := by
  cases d with
  | obj C' xs =>
    have h' : ((T.cls C').map fun k => (C', k, k.flds.zip xs)) = some (C, k, fs) := h
    obtain ⟨k', hk, e⟩ := Option.map_eq_some_iff.mp h'
    cases e
    obtain ⟨a, dx, us, rfl, m, t, l, q⟩ := r.obj_inv
    have hh := hT.cls _ _ hk
    have hl : xs.length = k.flds.length := by rw [← q.length, l, hh.flds]
    refine ⟨a, dx, us, rfl, hk, ?_, ?_⟩
    · rw [List.map_fst_zip (by omega), ← hh.flds]
      exact t
    · rw [List.map_snd_zip (by omega)]
      exact q
  | ref n =>
    have h' : (match S[n]? with
      | some (.ins C fs) => (T.cls C).map fun k => (C, k, fs)
      | _ => none) = some (C, k, fs) := h
    obtain ⟨hn, rfl⟩ := r.ref_inv
    cases hs : S[n]? with
    | none => rw [hs] at h'; cases h'
    | some ce =>
      rw [hs] at h'
      cases ce with
      | lst xs => cases h'
      | ins C' fs' =>
        obtain ⟨k', hk, e⟩ := Option.map_eq_some_iff.mp h'
        cases e
        obtain ⟨m, dx, us, q1, q2⟩ := sm.cell n _ hs
        exact ⟨_, dx, us, rfl, hk, q1, q2⟩
  | _ => cases h
theorem zip_self {fs : List (Str × Val)} : (fs.map (·.1)).zip (fs.map (·.2)) = fs := by
  induction fs with
  | nil => rfl
  | cons x r ih =>
    rw [List.map_cons, List.map_cons, List.zip_cons_cons, ih]
/-- o.f -/
def opAttr (T : Tab) (f : Str) (d : Val) (S : Store) : Res Val := match insOf T d S with
  | some (_, k, fs) => if f ∈ k.flds then (match fs.lookup f with
    | some v => .ok v S
    | none => .no) else .no
  | none => .no
theorem de_attr {f : Str} {lv : Nat} (hT : XTab lv X c T) (hK : X.K = c.K) (he : PE X e (tE c m)) (hb : attributeBase e f X.env (eval e X.env) = eval e X.env) : PE X (.Attribute e f pos) (tE c (c1 (opAttr T f) m)) := PE.imp (pe_fld he hb) fun σ H Q h => by
  obtain ⟨M, μ, S, ρ, d, S', s, l, q, k⟩ := tE_c1 h
  refine ⟨M, μ, S, ρ, d, S', s, l, q, fun M1 μ1 H1 v e1 s1 r1 => ?_⟩
  obtain ⟨M2, μ2, S2, d2, d3, S3, s2, r2, q2, k2⟩ := k M1 μ1 H1 v e1 s1 r1
  unfold opAttr at q2
  split at q2
  · rename_i C kc fs hi
    split at q2
    · rename_i hf
      split at q2
      · rename_i v2 hv
        cases q2
        obtain ⟨a, dx, us, rfl, hk, t, q4⟩ := insOf_rel hT hi s2 r2
        have hh := hT.cls _ _ hk
        obtain ⟨u, hu, ru⟩ := look_rel (fl := fs.map (·.1)) q4 (by rw [zip_self]; exact hv)
        exact ⟨a, c.ca C, dx, _, u, rfl, t, hh.cl, hh.noat f hf, hu, k2 _ _ _ _ .refl s2 ru⟩
      · cases q2
    · cases q2
  · cases q2

/-! ### methods -/
def cMeth (T : Tab) (lv : Nat) (mn : Str) (n : Nat) (mo : Cm) (ms : List Cm) : Cm := fun ρ S => (mo ρ S).bind fun d S1 => match insOf T d S1 with
  | some (_, k, fs) => match k.meths.lookup mn with
    | some F => if mn ∉ fs.map (·.1) then (evs ms ρ S1).bind fun ds S2 => callF F lv (n + 1) [] (d :: ds) [] S2 else .no
    | none => .no
  | none => .no
theorem de_meth {mn : Str} {lv n : Nat} {pl : Sem Bool} (hT : XTab lv X c T) (hr : Room lv X.A) (gd : X.A.guards = some []) (ho : PE X o (tE c mo)) (ha : PA X (e :: es) (tA c ms))
    (hst : starEach (e :: es) X.env = (false, eval e X.env) :: starEach es X.env) (hpl : (backTo pos (starEach es X.env)).any (·.1) = false)
    (ht : eval (.Call (.Attribute o mn apos) (e :: es) [] pos) X.env = (do
      let ov ← eval o X.env
      standAt apos.atName
      let (f, first) ← holding [ov] (getMethod ov mn pl)
      callWith pos f first (backTo pos (starEach (e :: es) X.env)) (backToKw pos (keywordEach [] X.env)))) :
    PE X (.Call (.Attribute o mn apos) (e :: es) [] pos) (tE c (cMeth T lv mn n mo ms)) := by
  refine ⟨fun pins s σ H Q I h => ?_⟩
  obtain ⟨M, μ, S, ρ, d, S', sm, l, q, k⟩ := h
  obtain ⟨d0, S1, q1, q⟩ := Res.bind_eq_ok q
  refine PySem.W.methodCall_KW (pl := pl) (thn (ho.run pins s σ H (fun v H1 => ∃ M1 μ1, Ext M μ S.length H M1 μ1 S1.length H1 ∧ Sim c M1 μ1 S1 H1 ∧ VR c M1 μ1 S1.length H1 d0 v) I ⟨M, μ, S, ρ, d0, S1, sm, l, q1, fun M1 μ1 H1 v e1 s1 r1 => ⟨M1, μ1, e1, s1, r1⟩⟩) fun u s1 ⟨x, H1, I1, rx, M1, μ1, e1, sm1, r1⟩ => ?_) ht
  split at q
  · rename_i C kc fs hi
    split at q
    · rename_i F hF
      split at q
      · rename_i hnf
        obtain ⟨ds, S2, q2, q⟩ := Res.bind_eq_ok q
        obtain ⟨src, hsh, hlv, l1, l2, q⟩ := callF_inv q
        obtain ⟨a, dx, us, rfl, hk, t, q4⟩ := insOf_rel hT hi sm1 r1
        have hh := hT.cls _ _ hk
        obtain ⟨hnm, f, fd, hme, hfn⟩ := hh.meths mn F hF
        obtain ⟨⟨hlen, hfit⟩, g, gV, hb, hgV⟩ := hfn.sh (n + 1) [] src hsh
        obtain rfl : u = Value.ref a := rx
        refine getmeth_ok I1 t hh.cl hme (look_none hnf) ?_
        refine PySem.W.callWith_K (first := [.ref a]) (h₀ := X.base) I1.ok.mod.kin hme.kp (thn (ha.run pos pins s1 σ H1 (fun vs H2 => ∃ M2 μ2, Ext M μ S.length H M2 μ2 S2.length H2 ∧ Sim c M2 μ2 S2 H2 ∧ VRs c M2 μ2 S2.length H2 (d0 :: ds) (.ref a :: vs)) I1
          ⟨M1, μ1, S1, ρ, ds, S2, sm1, l.ext e1, q2, fun M2 μ2 H2 vs e2 s2 r2 => ⟨M2, μ2, e1.trans e2, s2, .cons (r1.ext e2) r2⟩⟩) fun us2 s2 ⟨vs, H2, I2, rv, M2, μ2, e2, sm2, r2⟩ => ⟨I2.kIn, ?_⟩) hst hpl
        have w1 : (V.ref a :: vs).length = n + 1 := by rw [r2.length]; exact l1
        have := PiX.run_G (us := .ref a :: us2) (ws := []) (vs := .ref a :: vs) (zs := []) (Q := Q) (CX := CX0) (E := E0) (hfn.ok hlv) gd (hr.mono hlv) hb pass0 I2 (.cons rfl rv) .nil w1 rfl ?_
        · exact this
        · refine ⟨?_, M2, μ2, S2, _, d, S', sm2, ?_, q, k.ext e2⟩
          · rw [hgV _ _ w1 rfl, List.length_map, hlen]
          · rw [hgV _ _ w1 rfl]
            exact pick_rel r2 .nil (by rw [l1]; exact hfit)
      · cases q
    · cases q
  · cases q
theorem de_meth0 {mn : Str} {lv : Nat} {pl : Sem Bool} (hT : XTab lv X c T) (hr : Room lv X.A) (gd : X.A.guards = some []) (ho : PE X o (tE c mo))
    (ht : eval (.Call (.Attribute o mn apos) [] [] pos) X.env = (do
      let ov ← eval o X.env
      standAt apos.atName
      let (f, first) ← holding [ov] (getMethod ov mn pl)
      callWith pos f first (backTo pos (starEach [] X.env)) (backToKw pos (keywordEach [] X.env)))) :
    PE X (.Call (.Attribute o mn apos) [] [] pos) (tE c (cMeth T lv mn 0 mo [])) := by
  refine ⟨fun pins s σ H Q I h => ?_⟩
  obtain ⟨M, μ, S, ρ, d, S', sm, l, q, k⟩ := h
  obtain ⟨d0, S1, q1, q⟩ := Res.bind_eq_ok q
  refine PySem.W.methodCall_KW (pl := pl) (thn (ho.run pins s σ H (fun v H1 => ∃ M1 μ1, Ext M μ S.length H M1 μ1 S1.length H1 ∧ Sim c M1 μ1 S1 H1 ∧ VR c M1 μ1 S1.length H1 d0 v) I ⟨M, μ, S, ρ, d0, S1, sm, l, q1, fun M1 μ1 H1 v e1 s1 r1 => ⟨M1, μ1, e1, s1, r1⟩⟩) fun u s1 ⟨x, H1, I1, rx, M1, μ1, e1, sm1, r1⟩ => ?_) ht
  split at q
  · rename_i C kc fs hi
    split at q
    · rename_i F hF
      split at q
      · rename_i hnf
        obtain ⟨ds, S2, q2, q⟩ := Res.bind_eq_ok q
        cases q2
        obtain ⟨src, hsh, hlv, l1, l2, q⟩ := callF_inv q
        obtain ⟨a, dx, us, rfl, hk, t, q4⟩ := insOf_rel hT hi sm1 r1
        have hh := hT.cls _ _ hk
        obtain ⟨hnm, f, fd, hme, hfn⟩ := hh.meths mn F hF
        obtain ⟨⟨hlen, hfit⟩, g, gV, hb, hgV⟩ := hfn.sh 1 [] src hsh
        obtain rfl : u = Value.ref a := rx
        refine getmeth_ok I1 t hh.cl hme (look_none hnf) ?_
        refine PySem.W.callWith_K0 (first := [.ref a]) I1.kIn hme.kp ?_
        have := PiX.run_G (us := [.ref a]) (ws := []) (vs := [.ref a]) (zs := []) (Q := Q) (CX := CX0) (E := E0) (hfn.ok hlv) gd (hr.mono hlv) hb pass0 I1 (.cons rfl .nil) .nil rfl rfl ?_
        · exact this
        · refine ⟨?_, M1, μ1, S1, _, d, S', sm1, ?_, q, k.ext e1⟩
          · rw [hgV _ _ rfl rfl, List.length_map, hlen]
          · rw [hgV _ _ rfl rfl]
            exact pick_rel (.cons r1 .nil) .nil hfit
      · cases q
    · cases q
  · cases q
end
end Pi
set_option Elab.async false
set_option linter.all false
set_option maxRecDepth 100000
set_option maxHeartbeats 4000000
/-! Pi5: new instances; comprehensions. -/
namespace Pi
open PySem L2
open PyProof.Rows hiding St
open Classical

section
variable {c : RC} {M : Addr → Own} {μ : Nat → Addr} {N : Nat} {H : Hp} {S : Store}
theorem CellOk.wf {a : Addr} {k : Cell} (h : CellOk c M μ N H a k) : wfC N k := by
  cases k with
  | lst xs => obtain ⟨us, _, r⟩ := h; exact VRs.wf r
  | ins C fs => obtain ⟨dx, us, _, r⟩ := h; exact VRs.wf r
theorem Sim.wf (s : Sim c M μ S H) {n : Nat} {k : Cell} (h : S[n]? = some k) : wfC S.length k := (s.cell n k h).2.wf
/-- what a cell held belongs to a value from now on -/
theorem Ext.free {p : Addr} (h : M p = .cell) : Ext M μ N H (own M p .val) μ N H := ⟨Nat.le_refl _, fun _ _ => rfl, fun a u e m => ⟨e, own_ne fun q => m (by rw [q]; exact h)⟩⟩
/-- the last cell goes -/
theorem Sim.pop {k : Cell} (s : Sim c M μ (S ++ [k]) H) (w : ∀ (n : Nat) (k : Cell), S[n]? = some k → wfC S.length k) : Sim c (own M (μ S.length) .val) μ S H := by
  have hl : (S ++ [k]).length = S.length + 1 := by simp
  have hm : M (μ S.length) = .cell := (s.cell S.length k (by simp)).1
  refine ⟨fun n k' h => ?_, fun m n h1 h2 q => s.inj m n (by omega) (by omega) q⟩
  have hn := (List.getElem?_eq_some_iff.mp h).1
  obtain ⟨m, ok⟩ := s.cell n k' (by rw [List.getElem?_append_left hn]; exact h)
  have ne : μ n ≠ μ S.length := fun q => by
    have := s.inj n S.length (by omega) (by omega) q
    omega
  refine ⟨(own_ne ne).trans m, ?_⟩
  rw [hl] at ok
  exact (ok.ext (Ext.free (H := H) hm) rfl).shrink (w n k' h)
end

section
variable {X : Cx} {c : RC} {T : Tab} {e o : Expr} {es : List Expr} {pos p apos : Pos} {m mo : Cm} {ms mk : List Cm} {x : Str}
/-- C(..): a new instance; one that never changes is held by value -/
noncomputable def makeF (k : ClsS) (C lv n : Nat) (ks : List Str) (ds zs : List Val) (S : Store) : Res Val := match k.init.shapes.find? fun s => s.1 == n + 1 && s.2.1 == ks with
  | some s => if k.init.lvl + 1 ≤ lv ∧ ds.length = n ∧ zs.length = ks.length then (k.init.m (s.2.2.map (Src.pick (.ref S.length :: ds) zs)) (S ++ [.ins C []])).bind fun r S2 => match r with
    | .non => if k.frozen then (match S2[S.length]? with
      | some (.ins C' fs) => if C' = C ∧ fs.map (·.1) = k.flds ∧ wfVs S.length (fs.map (·.2)) ∧ S2 = S ++ [.ins C' fs] then .ok (.obj C (fs.map (·.2))) S else .no
      | _ => .no) else (if S.length < S2.length then .ok (.ref S.length) S2 else .no)
    | _ => .no else .no
  | none => .no
noncomputable def cMake (k : ClsS) (C lv n : Nat) (ks : List Str) (ms mk : List Cm) : Cm := fun ρ S => (evs ms ρ S).bind fun ds S1 => (evs mk ρ S1).bind fun zs S2 => makeF k C lv n ks ds zs S2
theorem make_ok {lv : Nat} (hT : XTab lv X c T) {k : ClsS} {C n : Nat} {ks : List Str} (hC : T.cls C = some k) {ds zs : List Val} {S S' : Store} {d : Val} (q : makeF k C lv n ks ds zs S = .ok d S') :
    ∃ f fd g gV, Mk X.K (c.ca C) f ∧ PiX.FnG X.prog X.w X.K X.mg X.base CX0 k.init.lvl f fd k.init.ps (spF c k.init.ps.length k.init.m) ∧ KBn X.K fd k.init.ps (n + 1) ks g gV ∧ k.init.lvl + 1 ≤ lv ∧ ds.length = n ∧ zs.length = ks.length ∧
      ∀ {M : Addr → Own} {μ : Nat → Addr} {H : Hp} {vs ws : List V} {Q : VK}, Sim c M μ S H → VRs c M μ S.length H ds vs → VRs c M μ S.length H zs ws → KE c M μ S.length H d S' Q →
        ∀ x dx, H x = none → H dx = none → dx ≠ x → spF c k.init.ps.length k.init.m (gV (.ref x :: vs) ws) (upd (upd H dx (.own x)) x (.ins (c.ca C) dx [])) (fun v H3 => v = .non ∧ Q (.ref x) H3) E0 := by
  unfold makeF at q
  split at q
  · rename_i s hs
    split at q
    · rename_i hc
      have hm := List.mem_of_find?_eq_some hs
      have hp := List.find?_some hs
      simp only [Bool.and_eq_true, beq_iff_eq] at hp
      obtain ⟨n', ks', src⟩ := s
      simp only at hp q
      obtain ⟨rfl, rfl⟩ := hp
      obtain ⟨hlv, l1, l2⟩ := hc
      have hh := hT.cls C k hC
      obtain ⟨f, fd, hmk, hfn⟩ := hh.init
      obtain ⟨⟨hlen, hfit⟩, g, gV, hb, hgV⟩ := hfn.sh _ _ src hm
      refine ⟨f, fd, g, gV, hmk, hfn.ok (Nat.le_of_succ_le hlv), hb, hlv, l1, l2, fun {M μ H vs ws Q} sm r1 r2 k1 x dx hx hdx ne => ?_⟩
      obtain ⟨r, S2, q2, q3⟩ := Res.bind_eq_ok q
      have eD : Ext M μ S.length H (own M dx .val) μ S.length (upd H dx (.own x)) := Ext.new hdx
      have sD := sm.new (o := .own x) (w := .val) hdx
      have hx' : upd H dx (.own x) x = none := by rw [upd_ne (Ne.symm ne)]; exact hx
      have eX := Ext.cell (M := own M dx .val) (μ := μ) (N := S.length) (o := .ins (c.ca C) dx []) hx'
      have sX : Sim c (own (own M dx .val) x .cell) (mu1 μ S.length x) (S ++ [.ins C []]) (upd (upd H dx (.own x)) x (.ins (c.ca C) dx [])) :=
        sD.cellNew (o := .ins (c.ca C) dx []) (k := .ins C []) hx' ⟨dx, [], upd_same, .nil⟩
      have eAll := eD.trans eX
      have hl : (S ++ [Cell.ins C []]).length = S.length + 1 := by simp
      have rx : VR c (own (own M dx .val) x .cell) (mu1 μ S.length x) (S.length + 1) (upd (upd H dx (.own x)) x (.ins (c.ca C) dx [])) (.ref S.length) (.ref x) := by
        have := VR.ref (c := c) (M := own (own M dx .val) x .cell) (μ := mu1 μ S.length x) (N := S.length + 1) (H := upd (upd H dx (.own x)) x (.ins (c.ca C) dx [])) (n := S.length) (Nat.lt_succ_self _)
        rw [mu1_same] at this
        exact this
      have w1 : (V.ref x :: vs).length = n + 1 := by rw [List.length_cons, r1.length, l1]
      have w2 : ws.length = ks'.length := by rw [r2.length, l2]
      refine ⟨?_, own (own M dx .val) x .cell, mu1 μ S.length x, S ++ [.ins C []], _, r, S2, sX, ?_, q2, ?_⟩
      · rw [hgV _ _ w1 w2, List.length_map, hlen]
      · rw [hgV _ _ w1 w2, hl]
        exact pick_rel (.cons rx (r1.ext eAll)) (r2.ext eAll) (by rw [List.length_cons, l1, l2]; exact hfit)
      · rw [hl]
        intro M' μ' H' v e' s' r'
        split at q3
        · refine ⟨r'.non_inv, ?_⟩
          have eT := eAll.trans e'
          have hmu : μ' S.length = x := by rw [e'.mu S.length (Nat.lt_succ_self _), mu1_same]
          split at q3
          · split at q3
            · rename_i C' fs hfs
              split at q3
              · rename_i hq
                cases q3
                obtain ⟨rfl, hfl, hwf, rfl⟩ := hq
                have sP := s'.pop fun n k h => sm.wf h
                have hcell := s'.cell S.length (.ins C' fs) (by simp)
                have hlen' : (S ++ [Cell.ins C' fs]).length = S.length + 1 := by simp
                rw [hlen'] at hcell
                obtain ⟨hM, dx', us, hH, rus⟩ := hcell
                rw [hmu] at sP hM hH
                have eF : Ext M μ S.length H (own M' x .val) μ' S.length H' := ⟨Nat.le_refl _, fun n hn => eT.mu n hn, fun a o ha hma => by
                  obtain ⟨h1, h2⟩ := eT.keep a o ha hma
                  exact ⟨h1, (own_ne (ne_of_none ha hx)).trans h2⟩⟩
                refine k1 _ μ' H' (.ref x) eF sP ?_
                have rus' : VRs c (own M' x .val) μ' S.length H' (fs.map (·.2)) us := VRs.shrink hwf (rus.ext (Ext.free (H := H') hM))
                unfold VR
                refine ⟨x, dx', us, rfl, own_same, ?_, ?_, rus'⟩
                · rw [hh.flds, ← hfl]
                  exact hH
                · rw [rus.length, hh.flds, ← hfl, List.length_map, List.length_map]
              · cases q3
            · cases q3
          · split at q3
            · rename_i hlt
              cases q3
              have eF : Ext M μ S.length H M' μ' S'.length H' := eT
              refine k1 M' μ' H' (.ref x) eF s' ?_
              have := VR.ref (c := c) (M := M') (μ := μ') (N := S'.length) (H := H') (n := S.length) hlt
              rw [hmu] at this
              exact this
            · cases q3
        · cases q3
    · cases q
  · cases q
theorem de_make {k : ClsS} {C lv n : Nat} {ks : List Str} {kws : List Keyword} (hT : XTab lv X c T) (hN : T.cnames.lookup x = some C) (hC : T.cls C = some k) (hr : Room lv X.A) (gd : X.A.guards = some []) (hg : Gl X x) (ha : PA X (e :: es) (tA c ms)) (hkw : PK X kws (tA c mk))
    (hdb : (x == ("__debug__" : Str)) = false)
    (hall : (backToKw pos (keywordEach kws X.env)).all (·.1.isSome) = true) (hks : (backToKw pos (keywordEach kws X.env)).filterMap (·.1) = ks)
    (he : starEach (e :: es) X.env = (false, eval e X.env) :: starEach es X.env)
    (hpl : ((backTo pos (starEach (e :: es) X.env)).any (·.1) || (backToKw pos (keywordEach kws X.env)).any (·.1.isNone)) = false) :
    PE X (.Call (.Name x p) (e :: es) kws pos) (tE c (cMake k C lv n ks ms mk)) := by
  refine ⟨fun pins s σ H Q I h => ?_⟩
  obtain ⟨M, μ, S, ρ, d, S', sm, l, q, kk⟩ := h
  obtain ⟨ds, S1, q1, q⟩ := Res.bind_eq_ok q
  obtain ⟨zs, S2, q2, q⟩ := Res.bind_eq_ok q
  obtain ⟨f, fd, g, gV, hmk, F, hb, hlv, l1, l2, fin⟩ := make_ok hT hC q
  refine (PiX.pe_makeG (CX := CX0) (E := E0) (n := n) hmk F gd (hr.mono hlv) hg (hT.cnames x C hN) hb pass0 ha hkw hall hks hdb he hpl).run pins s σ H Q I ?_
  refine ⟨M, μ, S, ρ, ds, S1, sm, l, q1, fun M1 μ1 H1 vs e1 s1 r1 => ?_⟩
  refine ⟨M1, μ1, S1, ρ, zs, S2, s1, l.ext e1, q2, fun M2 μ2 H2 ws e2 s2 r2 => ?_⟩
  exact ⟨by rw [r1.length, l1], by rw [r2.length, l2], fin s2 (r1.ext e2) r2 (kk.ext (e1.trans e2))⟩
end
end Pi
set_option Elab.async false
set_option linter.all false
set_option maxRecDepth 100000
set_option maxHeartbeats 4000000
/-! Pi6: targets, statements, loops. -/
namespace Pi
open PySem L2
open PyProof.Rows hiding St
open Classical

/-! ### targets that are names -/
inductive Pat where
  | nm (i : Nat) | tp (ps : List Pat)
mutual
def Pat.put : Pat → Val → Loc → Option Loc
  | .nm i, d, ρ => some (ρ.set i (some d))
  | .tp ps, d, ρ => match d with
    | .tup xs => Pat.puts ps xs ρ
    | .lst xs => Pat.puts ps xs ρ
    | _ => none
def Pat.puts : List Pat → List Val → Loc → Option Loc
  | [], [], ρ => some ρ
  | p :: ps, d :: ds, ρ => match p.put d ρ with
    | some ρ' => Pat.puts ps ds ρ'
    | none => none
  | _, _, _ => none
end
mutual
def Pat.slots : Pat → List Nat
  | .nm i => [i]
  | .tp ps => Pat.slotss ps
def Pat.slotss : List Pat → List Nat
  | [] => []
  | p :: ps => p.slots ++ Pat.slotss ps
end
/-- the slots agree but at some -/
def Agree (vs : List Nat) (σ σ' : St) : Prop := σ'.length = σ.length ∧ ∀ i, i ∉ vs → σ'[i]? = σ[i]?
theorem Agree.refl {vs : List Nat} {σ : St} : Agree vs σ σ := ⟨rfl, fun _ _ => rfl⟩
theorem Agree.trans {vs ws : List Nat} {σ σ1 σ2 : St} (a : Agree vs σ σ1) (b : Agree ws σ1 σ2) : Agree (vs ++ ws) σ σ2 :=
  ⟨b.1.trans a.1, fun i h => (b.2 i fun z => h (List.mem_append_right _ z)).trans (a.2 i fun z => h (List.mem_append_left _ z))⟩
theorem Agree.set {σ : St} {i : Nat} {v : Option V} : Agree [i] σ (σ.set i v) := ⟨by simp, fun j h => List.getElem?_set_ne (by simpa using Ne.symm (fun e => h (by simp [e])))⟩
/-- a target's reading by a pattern: the heap is kept -/
def tPat (c : RC) (p : Pat) : TG := fun v σ H Q => ∃ M μ N d ρ ρ', LR c M μ N H ρ σ ∧ VR c M μ N H d v ∧ p.put d ρ = some ρ' ∧ ∀ σ', LR c M μ N H ρ' σ' → Agree p.slots σ σ' → Q σ' H
def tPats (c : RC) (ps : List Pat) : TGs := fun vs σ H Q => ∃ M μ N ds ρ ρ', LR c M μ N H ρ σ ∧ VRs c M μ N H ds vs ∧ Pat.puts ps ds ρ = some ρ' ∧ ∀ σ', LR c M μ N H ρ' σ' → Agree (Pat.slotss ps) σ σ' → Q σ' H
section
variable {X : Cx} {c : RC} {e : Expr} {es : List Expr} {pos : Pos} {p : Pat} {ps : List Pat}
theorem PG.imp {t t' : TG} (h : PG X e t) (i : ∀ v σ H Q, t' v σ H Q → t v σ H Q) : PG X e t' := ⟨fun pins s σ H v u Q I r q => h.run pins s σ H v u Q I r (i v σ H Q q)⟩
theorem PGs.imp {t t' : TGs} (h : PGs X es t) (i : ∀ v σ H Q, t' v σ H Q → t v σ H Q) : PGs X es t' := ⟨fun pins s σ H v u Q I r q => h.run pins s σ H v u Q I r (i v σ H Q q)⟩
theorem PG.or {t t' : TG} (h : PG X e t) (h' : PG X e t') : PG X e (fun v σ H Q => t v σ H Q ∨ t' v σ H Q) := ⟨fun pins s σ H v u Q I r q => q.elim (h.run pins s σ H v u Q I r) (h'.run pins s σ H v u Q I r)⟩
theorem dg_name {i : Nat} {x : Str} (hN : X.N.Nodup) (hi : X.N[i]? = some x) (hx : L2.Loc X.env.scope x) (hf : X.fn x = true ∨ X.env.scope.names.lookup x = some .local) : PG X (.Name x pos) (tPat c (.nm i)) :=
  PG.imp (pg_name hN hi hx hf) fun v σ H Q h => by
    obtain ⟨M, μ, N, d, ρ, ρ', l, r, q, k⟩ := h
    unfold Pat.put at q
    cases q
    refine k _ (l.set r) ?_
    unfold Pat.slots
    exact .set
theorem dgs_nil : PGs X [] (tPats c []) := PGs.imp pgs_nil fun v σ H Q h => by
  obtain ⟨M, μ, N, ds, ρ, ρ', l, r, q, k⟩ := h
  cases ds with
  | nil =>
    unfold Pat.puts at q
    cases q
    exact ⟨r.nil_inv, k σ l .refl⟩
  | cons d ds => unfold Pat.puts at q; cases q
theorem dgs_cons (h1 : PG X e (tPat c p)) (h2 : PGs X es (tPats c ps)) (hs : (assignEach (e :: es) X.env).map (·.2) = assign e X.env :: (assignEach es X.env).map (·.2)) : PGs X (e :: es) (tPats c (p :: ps)) :=
  PGs.imp (pgs_cons h1 h2 hs) fun v σ H Q h => by
    obtain ⟨M, μ, N, ds, ρ, ρ', l, r, q, k⟩ := h
    cases ds with
    | nil => unfold Pat.puts at q; cases q
    | cons d ds =>
      unfold Pat.puts at q
      split at q
      · rename_i ρ1 hq
        obtain ⟨u, r', e1, h1, h2⟩ := r.cons_inv
        refine ⟨u, r', e1, M, μ, N, d, ρ, ρ1, l, h1, hq, fun σ1 l1 a1 => ?_⟩
        refine ⟨M, μ, N, ds, ρ1, ρ', l1, h2, q, fun σ2 l2 a2 => k σ2 l2 ?_⟩
        unfold Pat.slotss
        exact a1.trans a2
      · cases q
theorem puts_length : ∀ {ps : List Pat} {ds : List Val} {ρ ρ' : Loc}, Pat.puts ps ds ρ = some ρ' → ds.length = ps.length
  | [], [], _, _, _ => rfl
  | [], d :: ds, _, _, h => by unfold Pat.puts at h; cases h
  | p :: ps, [], _, _, h => by unfold Pat.puts at h; cases h
  | p :: ps, d :: ds, ρ, ρ', h => by
    unfold Pat.puts at h
    split at h
    · rw [List.length_cons, List.length_cons, puts_length h]
    · cases h
theorem dg_tup {k : Nat} (hK : X.K = c.K) (hc : X.calm = true) (h : PGs X es (tPats c ps)) (hn : (assignEach es X.env).length = ps.length) (hst : (assignEach es X.env).findIdx? (·.1) = none) : PG X (.Tuple es k pos) (tPat c (.tp ps)) :=
  PG.imp (PG.or (pg_tup hc h hn hst) (pg_unl hc h hn hst)) fun v σ H Q h => by
    obtain ⟨M, μ, N, d, ρ, ρ', l, r, q, k⟩ := h
    unfold Pat.put at q
    split at q
    · obtain ⟨a, us, rfl, t, r1⟩ := r.tup_inv
      refine .inl ⟨a, us, rfl, hK ▸ t.sq, by rw [r1.length, puts_length q], M, μ, N, _, ρ, ρ', l, r1, q, fun σ' l' a' => k σ' l' ?_⟩
      unfold Pat.slots
      exact a'
    · obtain ⟨a, us, rfl, m, t, r1⟩ := r.lst_inv
      refine .inr ⟨a, us, rfl, SqL.of t, by rw [r1.length, puts_length q], M, μ, N, _, ρ, ρ', l, r1, q, fun σ' l' a' => k σ' l' ?_⟩
      unfold Pat.slots
      exact a'
    · cases q
end

/-! ### other targets -/
abbrev Tg := Val → Loc → Store → Res Loc
def tG (c : RC) (g : Tg) : TG := fun v σ H Q => ∃ M μ S d ρ ρ' S', Sim c M μ S H ∧ LR c M μ S.length H ρ σ ∧ VR c M μ S.length H d v ∧ g d ρ S = .ok ρ' S' ∧ ∀ M' μ' H' σ', Ext M μ S.length H M' μ' S'.length H' → Sim c M' μ' S' H' → LR c M' μ' S'.length H' ρ' σ' → Q σ' H'
def gPat (p : Pat) : Tg := fun d ρ S => match p.put d ρ with
  | some ρ' => .ok ρ' S
  | none => .no
/-- a cell's field -/
def putD (f : Str) (v : Val) : List (Str × Val) → List (Str × Val)
  | [] => [(f, v)]
  | (g, x) :: r => if g = f then (g, v) :: r else (g, x) :: putD f v r
def gFld (T : Tab) (f : Str) (mo : Cm) : Tg := fun d ρ S => (mo ρ S).bind fun o S1 => match o with
  | .ref n => match S1[n]? with
    | some (.ins C fs) => match T.cls C with
      | some k => if f ∈ k.flds ∧ fs.length < 1000 then .ok ρ (S1.set n (.ins C (putD f d fs))) else .no
      | none => .no
    | _ => .no
  | _ => .no
def gIx (mo mi : Cm) : Tg := fun d ρ S => (mo ρ S).bind fun o S1 => (mi ρ S1).bind fun i S2 => match o, i with
  | .ref n, .int j => match S2[n]? with
    | some (.lst xs) => match ixN xs.length j with
      | some k => .ok ρ (S2.set n (.lst (xs.set k d)))
      | none => .no
    | _ => .no
  | _, _ => .no
section
variable {X : Cx} {c : RC} {T : Tab} {e o i : Expr} {es : List Expr} {pos : Pos} {p : Pat} {m mo mi : Cm} {g : Tg}
theorem dg_pat (h : PG X e (tPat c p)) : PG X e (tG c (gPat p)) := PG.imp h fun v σ H Q h => by
  obtain ⟨M, μ, S, d, ρ, ρ', S', s, l, r, q, k⟩ := h
  unfold gPat at q
  split at q
  · rename_i ρ1 hq
    cases q
    exact ⟨M, μ, S.length, d, ρ, _, l, r, hq, fun σ' l' _ => k M μ H σ' .refl s l'⟩
  · cases q
theorem put_rel {M : Addr → Own} {μ : Nat → Addr} {N : Nat} {H : Hp} {f : Str} {d : Val} {v : V} (rd : VR c M μ N H d v) : ∀ {fs : List (Str × Val)} {us : List V}, VRs c M μ N H (fs.map (·.2)) us →
    ∃ us', putF f v ((fs.map (·.1)).zip us) = ((putD f d fs).map (·.1)).zip us' ∧ VRs c M μ N H ((putD f d fs).map (·.2)) us'
  | [], us, r => ⟨[v], by simp [putF, putD], .cons rd .nil⟩
  | (g, x) :: fs, us, r => by
    obtain ⟨u, r', e, h1, h2⟩ := r.cons_inv
    subst e
    unfold putD
    rw [List.map_cons, List.zip_cons_cons]
    show ∃ us', (if g = f then (g, v) :: ((fs.map (·.1)).zip r') else (g, u) :: putF f v ((fs.map (·.1)).zip r')) = _ ∧ _
    by_cases hg : g = f
    · rw [if_pos hg, if_pos hg]
      exact ⟨v :: r', by simp, .cons rd h2⟩
    · rw [if_neg hg, if_neg hg]
      obtain ⟨us', e', r2⟩ := put_rel rd h2
      exact ⟨u :: us', by rw [e']; simp, .cons h1 r2⟩
theorem dg_fld {f : Str} {lv : Nat} (hT : XTab lv X c T) (ho : PE X o (tE c mo))
    (ha : ∀ v, assign (.Attribute o f pos) X.env v = (do
      let ov ← holding [v] (eval o X.env)
      standAt pos.atName
      holding [v, ov] (setAttr ov f v)
      release [v, ov] [])) : PG X (.Attribute o f pos) (tG c (gFld T f mo)) := by
  refine ⟨fun pins s σ H v u Q I r h => ?_⟩
  obtain ⟨M, μ, S, d, ρ, ρ', S', sm, l, rd, q, k⟩ := h
  obtain ⟨d0, S1, q1, q⟩ := Res.bind_eq_ok q
  rw [ha]
  refine wpAny_bind (wpAny_holding (thn (ho.run pins s σ H (fun v H1 => ∃ M1 μ1, Ext M μ S.length H M1 μ1 S1.length H1 ∧ Sim c M1 μ1 S1 H1 ∧ VR c M1 μ1 S1.length H1 d0 v) I ⟨M, μ, S, ρ, d0, S1, sm, l, q1, fun M1 μ1 H1 v e1 s1 r1 => ⟨M1, μ1, e1, s1, r1⟩⟩) fun ov s1 ⟨x, H1, I1, rx, M1, μ1, e1, sm1, r1⟩ => ?_))
  split at q
  · split at q
    · rename_i C fs hs
      split at q
      · rename_i kc hk
        split at q
        · rename_i hf
          cases q
          have hh := hT.cls _ _ hk
          obtain ⟨hn, rfl⟩ := r1.ref_inv
          obtain ⟨m, dx, us, t, q4⟩ := sm1.cell _ _ hs
          obtain rfl : ov = Value.ref (μ1 _) := rx
          have hlen : ((fs.map (·.1)).zip us).length < 1000 := by
            rw [List.length_zip, List.length_map]
            exact Nat.lt_of_le_of_lt (Nat.min_le_left _ _) hf.2
          refine wpAny_bind (wpAny_standAt (wpAny_bind (wpAny_holding (setattr_ok (y := v) I1 t hh.cl (hh.noat f hf.1) hlen r fun s2 I2 => ?_))))
          have rd1 := rd.ext e1
          obtain ⟨us', e', r2⟩ := put_rel (f := f) rd1 q4
          have eW : Ext M1 μ1 S1.length H1 M1 μ1 S1.length (upd H1 (μ1 _) (.ins (c.ca C) dx (putF f v ((fs.map (·.1)).zip us)))) := Ext.write m
          refine wpAny_release ⟨σ, _, I2, k M1 μ1 _ σ ?_ (sm1.write hn ⟨dx, us', by rw [upd_same, e'], r2.ext eW⟩) ?_⟩
          · rw [List.length_set]
            exact e1.trans eW
          · rw [List.length_set]
            exact l.ext (e1.trans eW)
        · cases q
      · cases q
    · cases q
  · cases q
theorem dg_ix (ho : PE X o (tE c mo)) (hi : PE X i (tE c mi))
    (ha : ∀ v, assign (.Subscript o i pos) X.env v = (do
      let ov ← holding [v] (eval o X.env)
      let iv ← holding [v, ov] (eval i X.env)
      standAt pos
      holding [v, ov, iv] (setItem ov iv v)
      release [v, ov, iv] [])) : PG X (.Subscript o i pos) (tG c (gIx mo mi)) := PG.imp (pg_sub ho hi set_list ha) fun v σ H Q h => by
  obtain ⟨M, μ, S, d, ρ, ρ', S', sm, l, rd, q, k⟩ := h
  obtain ⟨d0, S1, q1, q⟩ := Res.bind_eq_ok q
  obtain ⟨d1, S2, q2, q⟩ := Res.bind_eq_ok q
  refine ⟨M, μ, S, ρ, d0, S1, sm, l, q1, fun M1 μ1 H1 v0 e1 s1 r1 => ?_⟩
  refine ⟨M1, μ1, S1, ρ, d1, S2, s1, l.ext e1, q2, fun M2 μ2 H2 v1 e2 s2 r2 => ?_⟩
  split at q
  · split at q
    · rename_i xs hs
      split at q
      · rename_i kk hk
        cases q
        have r1' := r1.ext e2
        obtain ⟨hn, rfl⟩ := r1'.ref_inv
        obtain ⟨m, us, t, q4⟩ := s2.cell _ _ hs
        have eW : Ext M2 μ2 S2.length H2 M2 μ2 S2.length (upd H2 (μ2 _) (.lst (us.set kk v))) := Ext.write m
        refine ⟨μ2 _, us, _, kk, rfl, r2.int_inv, t, by rw [q4.length]; exact hk, ?_⟩
        refine k M2 μ2 _ σ ?_ (s2.write hn ⟨_, upd_same, (VRs.set (rd.ext (e1.trans e2)) kk q4).ext eW⟩) ?_
        · rw [List.length_set]
          exact (e1.trans e2).trans eW
        · rw [List.length_set]
          exact l.ext ((e1.trans e2).trans eW)
      · cases q
    · cases q
  · cases q
/-- a tuple of targets -/
def gAll : List Tg → List Val → Loc → Store → Res Loc
  | [], [], ρ, S => .ok ρ S
  | g :: gs, d :: ds, ρ, S => (g d ρ S).bind fun ρ1 S1 => gAll gs ds ρ1 S1
  | _, _, _, _ => .no
def tGs (c : RC) (gs : List Tg) : TGs := fun vs σ H Q => ∃ M μ S ds ρ ρ' S', Sim c M μ S H ∧ LR c M μ S.length H ρ σ ∧ VRs c M μ S.length H ds vs ∧ gAll gs ds ρ S = .ok ρ' S' ∧ ∀ M' μ' H' σ', Ext M μ S.length H M' μ' S'.length H' → Sim c M' μ' S' H' → LR c M' μ' S'.length H' ρ' σ' → Q σ' H'
def gTup (gs : List Tg) : Tg := fun d ρ S => match d with
  | .tup xs => gAll gs xs ρ S
  | _ => .no
theorem dgG_nil : PGs X [] (tGs c []) := PGs.imp pgs_nil fun v σ H Q h => by
  obtain ⟨M, μ, S, ds, ρ, ρ', S', s, l, r, q, k⟩ := h
  cases ds with
  | nil => cases q; exact ⟨r.nil_inv, k M μ H σ .refl s l⟩
  | cons d ds => cases q
theorem dgG_cons {gs : List Tg} (h1 : PG X e (tG c g)) (h2 : PGs X es (tGs c gs)) (hs : (assignEach (e :: es) X.env).map (·.2) = assign e X.env :: (assignEach es X.env).map (·.2)) : PGs X (e :: es) (tGs c (g :: gs)) :=
  PGs.imp (pgs_cons h1 h2 hs) fun v σ H Q h => by
    obtain ⟨M, μ, S, ds, ρ, ρ', S', s, l, r, q, k⟩ := h
    cases ds with
    | nil => cases q
    | cons d ds =>
      obtain ⟨ρ1, S1, q1, q2⟩ := Res.bind_eq_ok q
      obtain ⟨u, r', e1, h1, h2⟩ := r.cons_inv
      refine ⟨u, r', e1, M, μ, S, d, ρ, ρ1, S1, s, l, h1, q1, fun M1 μ1 H1 σ1 e1 s1 l1 => ?_⟩
      exact ⟨M1, μ1, S1, ds, ρ1, ρ', S', s1, l1, h2.ext e1, q2, fun M2 μ2 H2 σ2 e2 s2 l2 => k M2 μ2 H2 σ2 (e1.trans e2) s2 l2⟩
theorem gAll_length : ∀ {gs : List Tg} {ds : List Val} {ρ ρ' : Loc} {S S' : Store}, gAll gs ds ρ S = .ok ρ' S' → ds.length = gs.length
  | [], [], _, _, _, _, _ => rfl
  | [], d :: ds, _, _, _, _, h => by cases h
  | g :: gs, [], _, _, _, _, h => by cases h
  | g :: gs, d :: ds, ρ, ρ', S, S', h => by
    obtain ⟨ρ1, S1, q1, q2⟩ := Res.bind_eq_ok h
    rw [List.length_cons, List.length_cons, gAll_length q2]
theorem dg_gtup {k : Nat} {gs : List Tg} (hK : X.K = c.K) (hc : X.calm = true) (h : PGs X es (tGs c gs)) (hn : (assignEach es X.env).length = gs.length) (hst : (assignEach es X.env).findIdx? (·.1) = none) : PG X (.Tuple es k pos) (tG c (gTup gs)) :=
  PG.imp (pg_tup hc h hn hst) fun v σ H Q h => by
    obtain ⟨M, μ, S, d, ρ, ρ', S', s, l, r, q, k⟩ := h
    unfold gTup at q
    split at q
    · obtain ⟨a, us, rfl, t, r1⟩ := r.tup_inv
      exact ⟨a, us, rfl, hK ▸ t.sq, by rw [r1.length, gAll_length q], M, μ, S, _, ρ, ρ', S', s, l, r1, q, k⟩
    · cases q
end
end Pi
set_option Elab.async false
set_option linter.all false
set_option maxRecDepth 100000
set_option maxHeartbeats 4000000
/-! Pi7: statements, loops, comprehensions. -/
namespace Pi
open PySem L2
open PyProof.Rows hiding St
open Classical

inductive Fl where
  | nx (ρ : Loc) | ret (d : Val) | brk (ρ : Loc) | cont (ρ : Loc)
abbrev Sm := Loc → Store → Res Fl
def KS (c : RC) (M : Addr → Own) (μ : Nat → Addr) (N : Nat) (H : Hp) (S' : Store) (D : Ends) : Fl → Prop
  | .nx ρ' => ∀ M' μ' H' σ', Ext M μ N H M' μ' S'.length H' → Sim c M' μ' S' H' → LR c M' μ' S'.length H' ρ' σ' → D.nx σ' H'
  | .ret d => ∀ M' μ' H' v, Ext M μ N H M' μ' S'.length H' → Sim c M' μ' S' H' → VR c M' μ' S'.length H' d v → D.rt v H'
  | .brk ρ' => ∀ M' μ' H' σ', Ext M μ N H M' μ' S'.length H' → Sim c M' μ' S' H' → LR c M' μ' S'.length H' ρ' σ' → D.bk σ' H'
  | .cont ρ' => ∀ M' μ' H' σ', Ext M μ N H M' μ' S'.length H' → Sim c M' μ' S' H' → LR c M' μ' S'.length H' ρ' σ' → D.ct σ' H'
theorem KS.ext {c : RC} {M M1 : Addr → Own} {μ μ1 : Nat → Addr} {N N1 : Nat} {H H1 : Hp} {S' : Store} {D : Ends} (e : Ext M μ N H M1 μ1 N1 H1) : ∀ {f : Fl}, KS c M μ N H S' D f → KS c M1 μ1 N1 H1 S' D f
  | .nx _, k => fun M' μ' H' σ' e' => k M' μ' H' σ' (e.trans e')
  | .ret _, k => fun M' μ' H' σ' e' => k M' μ' H' σ' (e.trans e')
  | .brk _, k => fun M' μ' H' σ' e' => k M' μ' H' σ' (e.trans e')
  | .cont _, k => fun M' μ' H' σ' e' => k M' μ' H' σ' (e.trans e')
/-- a statement's reading -/
def tS (c : RC) (m : Sm) : TS := fun D σ H => ∃ M μ S ρ f S', Sim c M μ S H ∧ LR c M μ S.length H ρ σ ∧ m ρ S = .ok f S' ∧ KS c M μ S.length H S' D f

def sNo : Sm := fun _ _ => .no
def sPass : Sm := fun ρ S => .ok (.nx ρ) S
def sBrk : Sm := fun ρ S => .ok (.brk ρ) S
def sCont : Sm := fun ρ S => .ok (.cont ρ) S
def sExpr (m : Cm) : Sm := fun ρ S => (m ρ S).bind fun _ S1 => .ok (.nx ρ) S1
def sRet (m : Cm) : Sm := fun ρ S => (m ρ S).bind fun d S1 => .ok (.ret d) S1
def sAsg (m : Cm) (g : Tg) : Sm := fun ρ S => (m ρ S).bind fun d S1 => (g d ρ S1).bind fun ρ' S2 => .ok (.nx ρ') S2
def sIf (t : Cm) (a b : Sm) : Sm := fun ρ S => (t ρ S).bind fun d S1 => match d with
  | .bl true => a ρ S1
  | .bl false => b ρ S1
  | _ => .no
def sSeq (a b : Sm) : Sm := fun ρ S => match a ρ S with
  | .ok (.nx ρ1) S1 => b ρ1 S1
  | .ok f S1 => .ok f S1
  | .no => .no
def sPar (i j : Nat) (ma mb : Cm) : Sm := fun ρ S => (ma ρ S).bind fun d S1 => (mb ρ S1).bind fun e S2 => .ok (.nx ((ρ.set i (some d)).set j (some e))) S2
def sPar3 (i j l : Nat) (ma mb mc : Cm) : Sm := fun ρ S => (ma ρ S).bind fun d S1 => (mb ρ S1).bind fun e S2 => (mc ρ S2).bind fun f S3 => .ok (.nx (((ρ.set i (some d)).set j (some e)).set l (some f))) S3
def sAug (i : Nat) (op : Val → Val → Store → Res Val) (m : Cm) : Sm := fun ρ S => match ρ[i]? with
  | some (some x) => (m ρ S).bind fun y S1 => (op x y S1).bind fun z S2 => .ok (.nx (ρ.set i (some z))) S2
  | _ => .no
section
variable {X : Cx} {c : RC} {st : Stmt} {rest a b : List Stmt} {e t : Expr} {pos : Pos} {m ma mb mt : Cm} {s1 s2 : Sm} {g : Tg}
theorem PS.imp {t t' : TS} (h : PS X st t) (i : ∀ D σ H, t' D σ H → t D σ H) : PS X st t' := ⟨fun pins s σ H D I q => h.run pins s σ H D I (i D σ H q)⟩
theorem PSs.imp {t t' : TS} (h : PSs X rest t) (i : ∀ D σ H, t' D σ H → t D σ H) : PSs X rest t' := ⟨fun pins s σ H D I q => h.run pins s σ H D I (i D σ H q)⟩
theorem dss_nil : PSs X [] (tS c sPass) := PSs.imp pss_nil fun D σ H h => by
  obtain ⟨M, μ, S, ρ, f, S', s, l, q, k⟩ := h
  cases q
  exact k M μ H σ .refl s l
theorem ds_pass : PS X (.Pass pos) (tS c sPass) := PS.imp ps_pass fun D σ H h => by
  obtain ⟨M, μ, S, ρ, f, S', s, l, q, k⟩ := h
  cases q
  exact k M μ H σ .refl s l
theorem ds_doc {x : Str} {j : Nat} {pos' : Pos} : PS X (.Expr (.Constant (.str x) j pos) pos') (tS c sPass) := PS.imp ps_doc fun D σ H h => by
  obtain ⟨M, μ, S, ρ, f, S', s, l, q, k⟩ := h
  cases q
  exact k M μ H σ .refl s l
theorem ds_brk : PS X (.Break pos) (tS c sBrk) := PS.imp ps_break fun D σ H h => by
  obtain ⟨M, μ, S, ρ, f, S', s, l, q, k⟩ := h
  cases q
  exact k M μ H σ .refl s l
theorem ds_cont : PS X (.Continue pos) (tS c sCont) := PS.imp ps_continue fun D σ H h => by
  obtain ⟨M, μ, S, ρ, f, S', s, l, q, k⟩ := h
  cases q
  exact k M μ H σ .refl s l
theorem ds_no : PS X st (tS c sNo) := ⟨fun _ _ _ _ _ _ h => by
  obtain ⟨M, μ, S, ρ, f, S', s, l, q, k⟩ := h
  cases q⟩
theorem dss_cons (h1 : PS X st (tS c s1)) (h2 : PSs X rest (tS c s2)) : PSs X (st :: rest) (tS c (sSeq s1 s2)) := PSs.imp (pss_cons h1 h2) fun D σ H h => by
  obtain ⟨M, μ, S, ρ, f, S', s, l, q, k⟩ := h
  unfold sSeq at q
  split at q
  · rename_i ρ1 S1 q1
    refine ⟨M, μ, S, ρ, .nx ρ1, S1, s, l, q1, fun M' μ' H' σ' e' s' l' => ⟨M', μ', S1, ρ1, f, S', s', l', q, k.ext e'⟩⟩
  · rename_i f1 S1 hn q1
    cases q
    refine ⟨M, μ, S, ρ, f, _, s, l, q1, ?_⟩
    cases f with
    | nx ρ1 => exact absurd rfl (hn ρ1)
    | ret d => exact k
    | brk ρ1 => exact k
    | cont ρ1 => exact k
  · cases q
theorem ds_expr (he : PE X e (tE c m)) (hs : swapsWith e none pos.line X.env = pure false) : PS X (.Expr e pos) (tS c (sExpr m)) := PS.imp (ps_expr he hs) fun D σ H h => by
  obtain ⟨M, μ, S, ρ, f, S', s, l, q, k⟩ := h
  obtain ⟨d, S1, q1, q2⟩ := Res.bind_eq_ok q
  cases q2
  exact ⟨M, μ, S, ρ, d, _, s, l, q1, fun M' μ' H' v e' s' _ => k M' μ' H' σ e' s' (l.ext e')⟩
theorem ds_ret (he : PE X e (tE c m)) : PS X (.Return (some e) pos) (tS c (sRet m)) := PS.imp (ps_ret he) fun D σ H h => by
  obtain ⟨M, μ, S, ρ, f, S', s, l, q, k⟩ := h
  obtain ⟨d, S1, q1, q2⟩ := Res.bind_eq_ok q
  cases q2
  exact ⟨M, μ, S, ρ, d, _, s, l, q1, fun M' μ' H' v e' s' r => k M' μ' H' v e' s' r⟩
theorem ds_retN : PS X (.Return none pos) (tS c (sRet (cC .non))) := PS.imp ps_retN fun D σ H h => by
  obtain ⟨M, μ, S, ρ, f, S', s, l, q, k⟩ := h
  cases q
  exact k M μ H .non .refl s .non
theorem ds_asg {tg : Expr} (he : PE X e (tE c m)) (hg : PG X tg (tG c g)) (hs : swapsWithSole [tg] e pos.line X.env = pure false) (hw : swappedStores [tg] e X.env = pure none)
    (h1 : (assignEach [tg] X.env).map (·.2) = [assign tg X.env]) : PS X (.Assign [tg] e pos) (tS c (sAsg m g)) := PS.imp (ps_asg he hg hs hw h1) fun D σ H h => by
  obtain ⟨M, μ, S, ρ, f, S', s, l, q, k⟩ := h
  obtain ⟨d, S1, q1, q⟩ := Res.bind_eq_ok q
  obtain ⟨ρ', S2, q2, q3⟩ := Res.bind_eq_ok q
  cases q3
  exact ⟨M, μ, S, ρ, d, S1, s, l, q1, fun M1 μ1 H1 v e1 s1 r1 => ⟨M1, μ1, S1, d, ρ, ρ', _, s1, l.ext e1, r1, q2, fun M2 μ2 H2 σ2 e2 s2 l2 => k M2 μ2 H2 σ2 (e1.trans e2) s2 l2⟩⟩
theorem ds_if (ht : PT X t (tT c mt)) (ha : PSs X a (tS c s1)) (hb : PSs X b (tS c s2)) : PS X (.If t a b pos) (tS c (sIf mt s1 s2)) := PS.imp (ps_if ht ha hb) fun D σ H h => by
  obtain ⟨M, μ, S, ρ, f, S', s, l, q, k⟩ := h
  obtain ⟨d1, S1, q1, q2⟩ := Res.bind_eq_ok q
  split at q2
  · refine ⟨M, μ, S, ρ, true, S1, s, l, q1, fun M' μ' H' e s' => ?_⟩
    refine iteT ?_
    exact ⟨M', μ', S1, ρ, f, S', s', l.ext e, q2, k.ext e⟩
  · refine ⟨M, μ, S, ρ, false, S1, s, l, q1, fun M' μ' H' e s' => ?_⟩
    refine iteF ?_
    exact ⟨M', μ', S1, ρ, f, S', s', l.ext e, q2, k.ext e⟩
  · cases q2
theorem ds_par {i j : Nat} {x y : Str} {ea eb : Expr} {px py pt : Pos} {kt k2 pt2} (hc : X.calm = true) (hN : X.N.Nodup) (hi : X.N[i]? = some x) (hj : X.N[j]? = some y) (hij : i ≠ j)
    (hx : X.env.scope.names.lookup x = some .local) (hy : X.env.scope.names.lookup y = some .local) (ha : PA X [ea, eb] (tA c [ma, mb]))
    (hw : swappedStores [.Tuple [.Name x px, .Name y py] kt pt] (.Tuple [ea, eb] k2 pt2) X.env = pure (some [x, y]))
    (hs : swapsWithSole [.Tuple [.Name x px, .Name y py] kt pt] (.Tuple [ea, eb] k2 pt2) pos.line X.env = pure false) :
    PS X (.Assign [.Tuple [.Name x px, .Name y py] kt pt] (.Tuple [ea, eb] k2 pt2) pos) (tS c (sPar i j ma mb)) := PS.imp (ps_par hc hN hi hj hij hx hy ha hw hs) fun D σ H h => by
  obtain ⟨M, μ, S, ρ, f, S', s, l, q, k⟩ := h
  obtain ⟨d, S1, q1, q⟩ := Res.bind_eq_ok q
  obtain ⟨e, S2, q2, q3⟩ := Res.bind_eq_ok q
  cases q3
  have hev : evs [ma, mb] ρ S = .ok [d, e] S' := by simp only [evs, q1, q2, Res.bind_ok]
  refine ⟨M, μ, S, ρ, [d, e], S', s, l, hev, fun M1 μ1 H1 vs e1 s1 r1 => ?_⟩
  · obtain ⟨v, u, rfl, rv, ru⟩ := r1.two_inv
    exact ⟨v, u, rfl, k M1 μ1 H1 _ e1 s1 (((l.ext e1).set rv).set ru)⟩
theorem VRs.three_inv {M : Addr → Own} {μ : Nat → Addr} {N : Nat} {H : Hp} {d e f : Val} {vs : List V} (h : VRs c M μ N H [d, e, f] vs) : ∃ v u w, vs = [v, u, w] ∧ VR c M μ N H d v ∧ VR c M μ N H e u ∧ VR c M μ N H f w := by
  obtain ⟨u, r, e1, h1, h2⟩ := h.cons_inv
  obtain ⟨v, w, e2, h3, h4⟩ := h2.two_inv
  rw [e2] at e1
  exact ⟨u, v, w, e1, h1, h3, h4⟩
theorem ds_par3 {i j k : Nat} {x y z : Str} {ea eb ec : Expr} {mc : Cm} {px py pz pt : Pos} {kt k2 pt2} (hc : X.calm = true) (hN : X.N.Nodup) (hi : X.N[i]? = some x) (hj : X.N[j]? = some y) (hk : X.N[k]? = some z) (hij : i ≠ j) (hik : i ≠ k) (hjk : j ≠ k)
    (hx : X.env.scope.names.lookup x = some .local) (hy : X.env.scope.names.lookup y = some .local) (hz : X.env.scope.names.lookup z = some .local) (ha : PA X [ea, eb, ec] (tA c [ma, mb, mc]))
    (hw : swappedStores [.Tuple [.Name x px, .Name y py, .Name z pz] kt pt] (.Tuple [ea, eb, ec] k2 pt2) X.env = pure (some [x, y, z]))
    (hs : swapsWithSole [.Tuple [.Name x px, .Name y py, .Name z pz] kt pt] (.Tuple [ea, eb, ec] k2 pt2) pos.line X.env = pure false) :
    PS X (.Assign [.Tuple [.Name x px, .Name y py, .Name z pz] kt pt] (.Tuple [ea, eb, ec] k2 pt2) pos) (tS c (sPar3 i j k ma mb mc)) := PS.imp (ps_par3 hc hN hi hj hk hij hik hjk hx hy hz ha hw hs) fun D σ H h => by
  obtain ⟨M, μ, S, ρ, f, S', s, l, q, kk⟩ := h
  obtain ⟨d, S1, q1, q⟩ := Res.bind_eq_ok q
  obtain ⟨e, S2, q2, q⟩ := Res.bind_eq_ok q
  obtain ⟨g, S3, q3, q4⟩ := Res.bind_eq_ok q
  cases q4
  have hev : evs [ma, mb, mc] ρ S = .ok [d, e, g] S' := by simp only [evs, q1, q2, q3, Res.bind_ok]
  refine ⟨M, μ, S, ρ, [d, e, g], S', s, l, hev, fun M1 μ1 H1 vs e1 s1 r1 => ?_⟩
  · obtain ⟨v, u, w, rfl, rv, ru, rw'⟩ := r1.three_inv
    exact ⟨v, u, w, rfl, kk M1 μ1 H1 _ e1 s1 ((((l.ext e1).set rv).set ru).set rw')⟩
/-- name op= e -/
theorem ds_aug {i : Nat} {x : Str} {op : Operator} {f : Val → Val → Store → Res Val} {pos' : Pos} (hN : X.N.Nodup) (hi : X.N[i]? = some x) (hx : L2.Loc X.env.scope x) (he : PE X e (tE c m)) (ho : SO2 X c (inplaceOp op) f) (hf : X.fn x = true ∨ X.env.scope.names.lookup x = some .local) :
    PS X (.AugAssign (.Name x pos') op e pos) (tS c (sAug i f m)) := by
  have hp : PIp X op (fun x y H Q => ∃ M μ S d1 d2 d S', Sim c M μ S H ∧ VR c M μ S.length H d1 x ∧ VR c M μ S.length H d2 y ∧ f d1 d2 S = .ok d S' ∧ KE c M μ S.length H d S' Q) := by
    intro pins s σ H x y v u Q I r1 r2 h
    obtain ⟨M, μ, S, d1, d2, d, S', sm, w1, w2, q, k⟩ := h
    exact ho pins s σ H M μ S x y v u d1 d2 d S' Q I sm w1 w2 r1 r2 q k
  refine PS.imp (ps_aug hN hi hx he hp hf) fun D σ H h => ?_
  obtain ⟨M, μ, S, ρ, fl, S', s, l, q, k⟩ := h
  unfold sAug at q
  split at q
  · rename_i d1 hd1
    obtain ⟨d2, S1, q1, q⟩ := Res.bind_eq_ok q
    obtain ⟨d3, S2, q2, q3⟩ := Res.bind_eq_ok q
    cases q3
    obtain ⟨v, hv, rv⟩ := l.2 i d1 hd1
    refine ⟨v, hv, M, μ, S, ρ, d2, S1, s, l, q1, fun M1 μ1 H1 u e1 s1 r1 => ?_⟩
    exact ⟨M1, μ1, S1, d1, d2, d3, _, s1, rv.ext e1, r1, q2, fun M2 μ2 H2 w e2 s2 r2 => k M2 μ2 H2 _ (e1.trans e2) s2 ((l.ext (e1.trans e2)).set r2)⟩
  · cases q

/-! ### while -/
@[irreducible] def FUELX : Nat := 1000000
@[irreducible] def FUEL : Nat := 2 ^ FUELX
theorem FUELX_eq : FUELX = 1000000 := by rw [FUELX.eq_def]
theorem FUEL_eq : FUEL = 2 ^ FUELX := by rw [FUEL.eq_def]
theorem FUEL_ge (k : Nat) (hk : k ≤ 1000000) : 2 ^ k ≤ FUEL := by
  rw [FUEL_eq]
  exact Nat.pow_le_pow_right (Nat.succ_pos 1) (by rw [FUELX_eq]; exact hk)
def loopW (mt : Cm) (b : Sm) : Nat → Loc → Store → Res Fl
  | 0, _, _ => .no
  | n + 1, ρ, S => (mt ρ S).bind fun d S1 => match d with
    | .bl true => match b ρ S1 with
      | .ok (.nx ρ2) S2 => loopW mt b n ρ2 S2
      | .ok (.cont ρ2) S2 => loopW mt b n ρ2 S2
      | .ok (.brk ρ2) S2 => .ok (.nx ρ2) S2
      | .ok (.ret d) S2 => .ok (.ret d) S2
      | .no => .no
    | .bl false => .ok (.nx ρ) S1
    | _ => .no
def sWhile (mt : Cm) (b : Sm) : Sm := fun ρ S => loopW mt b FUEL ρ S
theorem ds_while (hp : PassesOwn (model X.prog X.w) X.A X.env X.xe) (ht : PT X t (tT c mt)) (hb : PSs X b (tS c s1)) : PS X (.While t b [] pos) (tS c (sWhile mt s1)) := PS.imp (ps_while hp ht hb) fun D σ H h => by
  obtain ⟨M, μ, S, ρ, f, S', s, l, q, k⟩ := h
  refine ⟨fun n σ H => ∃ M μ S ρ, Sim c M μ S H ∧ LR c M μ S.length H ρ σ ∧ loopW mt s1 n ρ S = .ok f S' ∧ KS c M μ S.length H S' D f, ⟨FUEL, M, μ, S, ρ, s, l, q, k⟩, fun n σ H h => ?_⟩
  obtain ⟨M, μ, S, ρ, s, l, q, k⟩ := h
  cases n with
  | zero => cases q
  | succ n =>
    obtain ⟨d, S1, q1, q2⟩ := Res.bind_eq_ok q
    split at q2
    · refine ⟨M, μ, S, ρ, true, S1, s, l, q1, fun M1 μ1 H1 e1 s1' => ?_⟩
      refine iteT ⟨fun σ H => ∃ M μ S ρ, Sim c M μ S H ∧ LR c M μ S.length H ρ σ ∧ loopW mt s1 n ρ S = .ok f S' ∧ KS c M μ S.length H S' D f, fun σ' H' hw => ⟨n, Nat.lt_succ_self n, hw⟩, ?_⟩
      have k1 := k.ext e1
      split at q2
      · rename_i ρ2 S2 q3
        exact ⟨M1, μ1, S1, ρ, _, S2, s1', l.ext e1, q3, fun M2 μ2 H2 σ2 e2 s2 l2 => ⟨M2, μ2, S2, ρ2, s2, l2, q2, k1.ext e2⟩⟩
      · rename_i ρ2 S2 q3
        exact ⟨M1, μ1, S1, ρ, _, S2, s1', l.ext e1, q3, fun M2 μ2 H2 σ2 e2 s2 l2 => ⟨M2, μ2, S2, ρ2, s2, l2, q2, k1.ext e2⟩⟩
      · rename_i ρ2 S2 q3
        cases q2
        exact ⟨M1, μ1, S1, ρ, _, _, s1', l.ext e1, q3, k1⟩
      · rename_i d2 S2 q3
        cases q2
        exact ⟨M1, μ1, S1, ρ, _, _, s1', l.ext e1, q3, k1⟩
      · cases q2
    · cases q2
      exact ⟨M, μ, S, ρ, false, _, s, l, q1, fun M1 μ1 H1 e1 s1' => iteF (k M1 μ1 H1 σ e1 s1' (l.ext e1))⟩
    · cases q2

/-! ### what is walked -/
abbrev Itm := Loc → Store → Res (List Val × Option Nat)
def chk (ds : List Val) : Option Nat → Store → Prop
  | none, _ => True
  | some n, S => S[n]? = some (.lst ds)
/-- what is held may change as a cell does -/
def cy (M : Addr → Own) : Addr → Own := fun a => match M a with
  | .held => .cell
  | o => o
theorem cy_val {M : Addr → Own} {a : Addr} (h : M a = .val) : cy M a = .val := by unfold cy; rw [h]
theorem cy_inv {M : Addr → Own} {a : Addr} (h : cy M a = .val) : M a = .val := by
  unfold cy at h
  split at h
  · cases h
  · exact h
theorem Ext.cy {M M1 : Addr → Own} {μ μ1 : Nat → Addr} {N N1 : Nat} {H H1 : Hp} (e : Ext M μ N H M1 μ1 N1 H1) : Ext (cy M) μ N H (Pi.cy M1) μ1 N1 H1 := ⟨e.n, e.mu, fun a o h m => by
  have hm : M a ≠ .cell := fun q => m (by unfold Pi.cy; rw [q])
  obtain ⟨h1, h2⟩ := e.keep a o h hm
  exact ⟨h1, by unfold Pi.cy; rw [h2]⟩⟩
theorem Ext.cyUpd {M M1 : Addr → Own} {μ μ1 : Nat → Addr} {N N1 : Nat} {H H1 : Hp} {p : Addr} {o : HO} (h : M p = .held) (e : Ext (Pi.cy M) μ N H (Pi.cy M1) μ1 N1 H1) : Ext (Pi.cy M) μ N H (Pi.cy M1) μ1 N1 (L2.upd H1 p o) := ⟨e.n, e.mu, fun a u ha hm => by
  obtain ⟨h1, h2⟩ := e.keep a u ha hm
  refine ⟨?_, h2⟩
  rw [upd_ne]
  · exact h1
  · intro q
    subst q
    exact hm (by unfold Pi.cy; rw [h])⟩
structure Yld (c : RC) (J : It) (ds : List Val) (o : Option Nat) (M : Addr → Own) (μ : Nat → Addr) (N : Nat) (H : Hp) : Prop where
  go : ∀ M1 μ1 S1 H1, Ext (cy M) μ N H (cy M1) μ1 S1.length H1 → Sim c M1 μ1 S1 H1 → chk ds o S1 → ∀ (i : Nat) d, ds[i]? = some d → J.go i H1 ∧ ∀ x H2, J.yld i H1 x H2 → ∃ M2, Ext M1 μ1 S1.length H1 M2 μ1 S1.length H2 ∧ Sim c M2 μ1 S1 H2 ∧ VR c M2 μ1 S1.length H2 d x ∧
    ∀ D u, H1 D = some u → M1 D = .held → H2 D = some u ∧ M2 D = .held
  stop : ∀ M1 μ1 S1 H1, Ext (cy M) μ N H (cy M1) μ1 S1.length H1 → Sim c M1 μ1 S1 H1 → chk ds o S1 → J.stop ds.length H1
def tI (c : RC) (it : Itm) : TI := fun σ H R => ∃ M μ S ρ ds o S', Sim c M μ S H ∧ LR c M μ S.length H ρ σ ∧ it ρ S = .ok (ds, o) S' ∧ ∀ M' μ' H' J, Ext M μ S.length H M' μ' S'.length H' → Sim c M' μ' S' H' → Yld c J ds o M' μ' S'.length H' → R J H'
noncomputable def loopF (ck : Store → Prop) (g : Tg) (b : Sm) : List Val → Loc → Store → Res Fl
  | [], ρ, S => if ck S then .ok (.nx ρ) S else .no
  | d :: r, ρ, S => if ck S then (g d ρ S).bind fun ρ1 S1 => match b ρ1 S1 with
    | .ok (.nx ρ2) S2 => loopF ck g b r ρ2 S2
    | .ok (.cont ρ2) S2 => loopF ck g b r ρ2 S2
    | .ok (.brk ρ2) S2 => .ok (.nx ρ2) S2
    | .ok (.ret d) S2 => .ok (.ret d) S2
    | .no => .no else .no
noncomputable def sFor (it : Itm) (g : Tg) (b : Sm) : Sm := fun ρ S => (it ρ S).bind fun p S1 => loopF (chk p.1 p.2) g b p.1 ρ S1
theorem ds_for {tg iter : Expr} {it : Itm} (hp : PassesOwn (model X.prog X.w) X.A X.env X.xe) (hc : X.calm = true) (hi : PI X tg iter (tI c it)) (hg : PG X tg (tG c g)) (hb : PSs X b (tS c s1))
    (hs : ∀ x, foldedSetIterable iter X.env x = pure x) : PS X (.For tg iter b [] pos) (tS c (sFor it g s1)) := PS.imp (ps_for hp hc hi hg hb hs) fun D σ H h => by
  obtain ⟨M, μ, S, ρ, f, S', s, l, q, k⟩ := h
  obtain ⟨⟨ds, o⟩, S1, q1, q⟩ := Res.bind_eq_ok q
  simp only at q
  refine ⟨M, μ, S, ρ, ds, o, S1, s, l, q1, fun M1 μ1 H1 J e1 sm1 yl => ?_⟩
  refine ⟨fun i n σ H => n = ds.length - i ∧ i ≤ ds.length ∧ ∃ M2 μ2 S2 ρ2, Sim c M2 μ2 S2 H ∧ LR c M2 μ2 S2.length H ρ2 σ ∧ Ext M1 μ1 S1.length H1 M2 μ2 S2.length H ∧ loopF (chk ds o) g s1 (ds.drop i) ρ2 S2 = .ok f S' ∧ KS c M2 μ2 S2.length H S' D f,
    ⟨ds.length, by simp, Nat.zero_le _, M1, μ1, S1, ρ, sm1, l.ext e1, .refl, q, k.ext e1⟩, fun i n σ H hW => ?_⟩
  obtain ⟨rfl, hi, M2, μ2, S2, ρ2, sm2, l2, e2, q2, k2⟩ := hW
  by_cases hlt : i < ds.length
  · rw [List.drop_eq_getElem_cons hlt] at q2
    unfold loopF at q2
    split at q2
    · rename_i hck
      obtain ⟨ρ3, S3, q3, q4⟩ := Res.bind_eq_ok q2
      obtain ⟨hgo, hy⟩ := yl.go M2 μ2 S2 H e2.cy sm2 hck i ds[i] (List.getElem?_eq_getElem hlt)
      refine .inr ⟨hgo, fun σ H => i + 1 ≤ ds.length ∧ ∃ M2 μ2 S2 ρ2, Sim c M2 μ2 S2 H ∧ LR c M2 μ2 S2.length H ρ2 σ ∧ Ext M1 μ1 S1.length H1 M2 μ2 S2.length H ∧ loopF (chk ds o) g s1 (ds.drop (i + 1)) ρ2 S2 = .ok f S' ∧ KS c M2 μ2 S2.length H S' D f,
        fun σ' H' hw => ⟨ds.length - (i + 1), by omega, rfl, hw⟩, fun x H' hyl => ?_⟩
      obtain ⟨M3, e3, sm3, r3, _⟩ := hy x H' hyl
      refine ⟨M3, μ2, S2, ds[i], ρ2, ρ3, S3, sm3, l2.ext e3, r3, q3, fun M4 μ4 H4 σ4 e4 sm4 l4 => ?_⟩
      have eA := (e2.trans e3).trans e4
      have k4 := k2.ext (e3.trans e4)
      split at q4
      · rename_i ρ5 S5 q5
        exact ⟨M4, μ4, S3, ρ3, _, S5, sm4, l4, q5, fun M5 μ5 H5 σ5 e5 sm5 l5 => ⟨hlt, M5, μ5, S5, ρ5, sm5, l5, eA.trans e5, q4, k4.ext e5⟩⟩
      · rename_i ρ5 S5 q5
        exact ⟨M4, μ4, S3, ρ3, _, S5, sm4, l4, q5, fun M5 μ5 H5 σ5 e5 sm5 l5 => ⟨hlt, M5, μ5, S5, ρ5, sm5, l5, eA.trans e5, q4, k4.ext e5⟩⟩
      · rename_i ρ5 S5 q5
        cases q4
        exact ⟨M4, μ4, S3, ρ3, _, _, sm4, l4, q5, k4⟩
      · rename_i d5 S5 q5
        cases q4
        exact ⟨M4, μ4, S3, ρ3, _, _, sm4, l4, q5, k4⟩
      · cases q4
    · cases q2
  · have hl : i = ds.length := by omega
    subst hl
    rw [List.drop_length] at q2
    unfold loopF at q2
    split at q2
    · rename_i hck
      cases q2
      exact .inl ⟨yl.stop M2 μ2 _ H e2.cy sm2 hck, k2 M2 μ2 H σ .refl sm2 l2⟩
    · cases q2
end
end Pi
set_option Elab.async false
set_option linter.all false
set_option maxRecDepth 100000
set_option maxHeartbeats 4000000
/-! Pi8: what loops walk; comprehensions; a def's body. -/
namespace Pi
open PySem L2
open PyProof.Rows hiding St
open Classical

section
variable {X : Cx} {c : RC} {e elt iter tg : Expr} {es : List Expr} {pos p : Pos} {m : Cm} {ms : List Cm}
theorem PI.imp {t t' : TI} (h : PI X tg iter t) (i : ∀ σ H R, t' σ H R → t σ H R) : PI X tg iter t' := ⟨fun pins s σ H R I q => h.run pins s σ H R I (i σ H R q)⟩
theorem PI.or {t t' : TI} (h : PI X tg iter t) (h' : PI X tg iter t') : PI X tg iter (fun σ H R => t σ H R ∨ t' σ H R) := ⟨fun pins s σ H R I q => q.elim (h.run pins s σ H R I) (h'.run pins s σ H R I)⟩
/-- a list, a tuple, as they stand -/
def itSeq (m : Cm) : Itm := fun ρ S => (m ρ S).bind fun d S1 => match d with
  | .tup xs => .ok (xs, none) S1
  | .lst xs => .ok (xs, none) S1
  | .frl xs => .ok (xs, none) S1
  | .ref n => match S1[n]? with
    | some (.lst xs) => .ok (xs, some n) S1
    | _ => .no
  | _ => .no
mutual
theorem VR.swap {M M' : Addr → Own} {μ : Nat → Addr} {N : Nat} {H : Hp} (b : ∀ a, M a = .val → M' a = .val) : ∀ {d : Val} {v : V}, VR c M μ N H d v → VR c M' μ N H d v
  | .non, v, h => by unfold VR at h ⊢; exact h
  | .bl _, v, h => by unfold VR at h ⊢; exact h
  | .int _, v, h => by unfold VR at h ⊢; exact h
  | .str _, v, h => by unfold VR at h ⊢; exact h
  | .tup xs, v, h => by
    unfold VR at h ⊢
    obtain ⟨a, us, e1, t, r⟩ := h
    exact ⟨a, us, e1, t.imp (fun z => ⟨b a z.1, z.2⟩) id, VRs.swap b r⟩
  | .lst xs, v, h => by
    unfold VR at h ⊢
    obtain ⟨a, us, e1, m, t, r⟩ := h
    exact ⟨a, us, e1, b a m, t, VRs.swap b r⟩
  | .frl xs, v, h => by
    unfold VR at h ⊢
    obtain ⟨a, us, e1, t, r⟩ := h
    exact ⟨a, us, e1, t.imp (fun z => ⟨b a z.1, z.2⟩) id, VRs.swap b r⟩
  | .obj C xs, v, h => by
    unfold VR at h ⊢
    obtain ⟨a, dx, us, e1, m, t, l, r⟩ := h
    exact ⟨a, dx, us, e1, b a m, t, l, VRs.swap b r⟩
  | .ref n, v, h => by unfold VR at h ⊢; exact h
  | .fn f, v, h => by unfold VR at h ⊢; exact h
  | .exn C xs, v, h => by
    unfold VR at h ⊢
    obtain ⟨a, us, e1, m, l, t, r⟩ := h
    exact ⟨a, us, e1, b a m, l, t.imp id (fun ⟨dx, h1, h2⟩ => ⟨dx, b dx h1, h2⟩), VRs.swap b r⟩
  | .dic ks xs, v, h => by
    unfold VR at h ⊢
    obtain ⟨a, us, e1, m, t, l, r⟩ := h
    exact ⟨a, us, e1, b a m, t, l, VRs.swap b r⟩
theorem VRs.swap {M M' : Addr → Own} {μ : Nat → Addr} {N : Nat} {H : Hp} (b : ∀ a, M a = .val → M' a = .val) : ∀ {ds : List Val} {vs : List V}, VRs c M μ N H ds vs → VRs c M' μ N H ds vs
  | [], vs, h => by unfold VRs at h ⊢; exact h
  | d :: ds, vs, h => by
    unfold VRs at h ⊢
    obtain ⟨u, r, e1, h1, h2⟩ := h
    exact ⟨u, r, e1, VR.swap b h1, VRs.swap b h2⟩
end
theorem TupAt.extc {M M1 : Addr → Own} {μ μ1 : Nat → Addr} {N N1 : Nat} {H H1 : Hp} {a : Addr} {us : List V} (e : Ext (cy M) μ N H (cy M1) μ1 N1 H1) (h : TupAt c M H a us) : TupAt c M1 H1 a us :=
  (TupAt.ext e (h.imp (fun z => ⟨cy_val z.1, z.2⟩) id)).imp (fun z => ⟨cy_inv z.1, z.2⟩) id
theorem LstAt.extc {M M1 : Addr → Own} {μ μ1 : Nat → Addr} {N N1 : Nat} {H H1 : Hp} {a : Addr} {us : List V} (e : Ext (cy M) μ N H (cy M1) μ1 N1 H1) (h : LstAt c M H a us) : LstAt c M1 H1 a us :=
  (LstAt.ext e (h.imp (fun z => ⟨cy_val z.1, z.2⟩) id)).imp (fun z => ⟨cy_inv z.1, z.2⟩) id
theorem VRs.extc {M M1 : Addr → Own} {μ μ1 : Nat → Addr} {N N1 : Nat} {H H1 : Hp} {ds : List Val} {us : List V} (e : Ext (cy M) μ N H (cy M1) μ1 N1 H1) (h : VRs c M μ N H ds us) : VRs c M1 μ1 N1 H1 ds us :=
  VRs.swap (fun _ => cy_inv) (VRs.ext e (VRs.swap (fun _ => cy_val) h))
theorem yld_list {K : PySem.W.Frag} {a : Addr} {ds : List Val} {o : Option Nat} {M : Addr → Own} {μ : Nat → Addr} {N : Nat} {H : Hp}
    (h : ∀ M1 μ1 S1 H1, Ext (cy M) μ N H (cy M1) μ1 S1.length H1 → Sim c M1 μ1 S1 H1 → chk ds o S1 → ∃ us, SqL K H1 a us ∧ VRs c M1 μ1 S1.length H1 ds us) : Yld c (Itl K a) ds o M μ N H where
  go := fun M1 μ1 S1 H1 e1 s1 hc i d hd => by
    obtain ⟨us, hq, r⟩ := h M1 μ1 S1 H1 e1 s1 hc
    obtain ⟨v, hv, rv⟩ := r.get hd
    refine ⟨⟨us, v, hq, hv⟩, fun x H2 hy => ?_⟩
    obtain ⟨rfl, hx⟩ := hy
    have := hx us hq
    rw [hv] at this
    cases this
    exact ⟨M1, .refl, s1, rv, fun D u h1 h2 => ⟨h1, h2⟩⟩
  stop := fun M1 μ1 S1 H1 e1 s1 hc => by
    obtain ⟨us, hq, r⟩ := h M1 μ1 S1 H1 e1 s1 hc
    exact ⟨us, hq, by rw [r.length]; exact Nat.le_refl _⟩
theorem yld_tup {K : PySem.W.Frag} {a : Addr} {ds : List Val} {o : Option Nat} {M : Addr → Own} {μ : Nat → Addr} {N : Nat} {H : Hp}
    (h : ∀ M1 μ1 S1 H1, Ext (cy M) μ N H (cy M1) μ1 S1.length H1 → Sim c M1 μ1 S1 H1 → chk ds o S1 → ∃ us, SqT K H1 a us ∧ VRs c M1 μ1 S1.length H1 ds us) : Yld c (Itt K a) ds o M μ N H where
  go := fun M1 μ1 S1 H1 e1 s1 hc i d hd => by
    obtain ⟨us, hq, r⟩ := h M1 μ1 S1 H1 e1 s1 hc
    obtain ⟨v, hv, rv⟩ := r.get hd
    refine ⟨⟨us, v, hq, hv⟩, fun x H2 hy => ?_⟩
    obtain ⟨rfl, hx⟩ := hy
    have := hx us hq
    rw [hv] at this
    cases this
    exact ⟨M1, .refl, s1, rv, fun D u h1 h2 => ⟨h1, h2⟩⟩
  stop := fun M1 μ1 S1 H1 e1 s1 hc => by
    obtain ⟨us, hq, r⟩ := h M1 μ1 S1 H1 e1 s1 hc
    exact ⟨us, hq, by rw [r.length]; exact Nat.le_refl _⟩
/-- enumerate(a list that doesn't change) -/
def enumD (xs : List Val) : List Val := xs.mapIdx fun i d => .tup [.int i, d]
def itEnum (m : Cm) : Itm := fun ρ S => (m ρ S).bind fun d S1 => match d with
  | .lst xs => .ok (enumD xs, none) S1
  | _ => .no
theorem yld_enum {K : PySem.W.Frag} {a : Addr} {ds : List Val} {M : Addr → Own} {μ : Nat → Addr} {N : Nat} {H : Hp}
    (h : ∀ M1 μ1 S1 H1, Ext (cy M) μ N H (cy M1) μ1 S1.length H1 → Sim c M1 μ1 S1 H1 → ∃ us, SqL K H1 a us ∧ VRs c M1 μ1 S1.length H1 ds us) : Yld c (Ite K a) (enumD ds) none M μ N H where
  go := fun M1 μ1 S1 H1 e1 s1 hc i d hd => by
    obtain ⟨us, hq, r⟩ := h M1 μ1 S1 H1 e1 s1
    unfold enumD at hd
    rw [List.getElem?_mapIdx] at hd
    obtain ⟨d', hd', rfl⟩ := Option.map_eq_some_iff.mp hd
    obtain ⟨v, hv, rv⟩ := r.get hd'
    refine ⟨⟨us, v, hq, hv⟩, fun x H2 hy => ?_⟩
    obtain ⟨T, y, rfl, hT, rfl, hx⟩ := hy
    have := hx us hq
    rw [hv] at this
    cases this
    refine ⟨own M1 T .val, Ext.new hT, s1.new hT, .tup (.inl ⟨own_same, .inl upd_same⟩) (.cons .int (.cons (rv.ext (Ext.new hT)) .nil)), fun D u h1 h2 => ?_⟩
    have ne : D ≠ T := ne_of_none h1 hT
    exact ⟨by rw [upd_ne ne]; exact h1, by rw [own_ne ne]; exact h2⟩
  stop := fun M1 μ1 S1 H1 e1 s1 hc => by
    obtain ⟨us, hq, r⟩ := h M1 μ1 S1 H1 e1 s1
    refine ⟨us, hq, ?_⟩
    unfold enumD
    rw [r.length, List.length_mapIdx]
    exact Nat.le_refl _
theorem di_enum {elts : List Expr} {kk : Nat} {tpos : Pos} (hg : Gl X "enumerate") (hm : X.mg "enumerate" = none) (ha : PA X [e] (tA c [m])) (hs : starEach [e] X.env = [(false, eval e X.env)]) :
    PI X (.Tuple elts kk tpos) (.Call (.Name "enumerate" p) [e] [] pos) (tI c (itEnum m)) := PI.imp (pi_enum hg hm ha hs) fun σ H R h => by
  obtain ⟨M, μ, S, ρ, ds, o, S', s, l, q, k⟩ := h
  obtain ⟨d, S1, q1, q2⟩ := Res.bind_eq_ok q
  split at q2
  · rename_i xs
    cases q2
    have hev : evs [m] ρ S = .ok [.lst xs] S' := by simp only [evs, q1, Res.bind_ok]
    refine ⟨M, μ, S, ρ, _, _, s, l, hev, fun M1 μ1 H1 vs e1 s1 r1 => ?_⟩
    obtain ⟨v, rfl, r2⟩ := r1.one_inv
    obtain ⟨a, us, rfl, m1, t, rs⟩ := r2.lst_inv
    refine ⟨a, us, rfl, SqL.of t, k M1 μ1 H1 _ e1 s1 (yld_enum fun M2 μ2 S2 H2 e2 s2 => ?_)⟩
    obtain ⟨t2, m2⟩ := e2.keep a _ t (by rw [cy_val m1]; decide)
    exact ⟨us, SqL.of t2, rs.extc e2⟩
  · cases q2
theorem di_seq (hK : X.K = c.K) (he : PE X iter (tE c m)) : PI X tg iter (tI c (itSeq m)) := PI.imp (PI.or (pi_tup he) (pi_list he)) fun σ H R h => by
  obtain ⟨M, μ, S, ρ, ds, o, S', s, l, q, k⟩ := h
  obtain ⟨d, S1, q1, q2⟩ := Res.bind_eq_ok q
  split at q2
  · cases q2
    refine .inl ⟨M, μ, S, ρ, _, _, s, l, q1, fun M1 μ1 H1 v e1 s1 r1 => ?_⟩
    obtain ⟨a, us, rfl, t, rs⟩ := r1.tup_inv
    refine ⟨a, rfl, ⟨us, hK ▸ t.sq⟩, k M1 μ1 H1 _ e1 s1 (yld_tup fun M2 μ2 S2 H2 e2 s2 _ => ⟨us, hK ▸ (t.extc e2).sq, rs.extc e2⟩)⟩
  · cases q2
    refine .inr ⟨M, μ, S, ρ, _, _, s, l, q1, fun M1 μ1 H1 v e1 s1 r1 => ?_⟩
    obtain ⟨a, us, rfl, m1, t, rs⟩ := r1.lst_inv
    refine ⟨a, rfl, ⟨us, SqL.of t⟩, k M1 μ1 H1 _ e1 s1 (yld_list fun M2 μ2 S2 H2 e2 s2 _ => ⟨us, SqL.of (e2.keep a _ t (by rw [cy_val m1]; decide)).1, rs.extc e2⟩)⟩
  · cases q2
    refine .inr ⟨M, μ, S, ρ, _, _, s, l, q1, fun M1 μ1 H1 v e1 s1 r1 => ?_⟩
    obtain ⟨a, us, rfl, t, rs⟩ := r1.frl_inv
    refine ⟨a, rfl, ⟨us, hK ▸ t.sq⟩, k M1 μ1 H1 _ e1 s1 (yld_list fun M2 μ2 S2 H2 e2 s2 _ => ⟨us, hK ▸ (t.extc e2).sq, rs.extc e2⟩)⟩
  · split at q2
    · rename_i n _ xs hs
      cases q2
      refine .inr ⟨M, μ, S, ρ, _, _, s, l, q1, fun M1 μ1 H1 v e1 s1 r1 => ?_⟩
      obtain ⟨hn, rfl⟩ := r1.ref_inv
      obtain ⟨mm, us, t, rs⟩ := s1.cell _ _ hs
      refine ⟨_, rfl, ⟨us, SqL.of t⟩, k M1 μ1 H1 _ e1 s1 (yld_list fun M2 μ2 S2 H2 e2 s2 hc => ?_)⟩
      obtain ⟨m2, us2, t2, rs2⟩ := s2.cell _ _ hc
      rw [e2.mu _ hn] at t2
      exact ⟨us2, SqL.of t2, rs2⟩
    · cases q2
  · cases q2
/-- range(a), range(a, b) -/
def rangeD (lo : Int) (n : Nat) : List Val := (List.range n).map fun i => .int (lo + (i : Nat))
theorem yld_range {lo : Int} {n : Nat} {M : Addr → Own} {μ : Nat → Addr} {N : Nat} {H : Hp} : Yld c (Itr lo n) (rangeD lo n) none M μ N H where
  go := fun M1 μ1 S1 H1 e1 s1 hc i d hd => by
    unfold rangeD at hd
    rw [List.getElem?_map] at hd
    have hi : i < n := by
      cases h : (List.range n)[i]? with
      | none => rw [h] at hd; cases hd
      | some j =>
        have := (List.getElem?_eq_some_iff.mp h).1
        simpa using this
    rw [List.getElem?_eq_getElem (by simpa using hi)] at hd
    simp at hd
    subst hd
    refine ⟨hi, fun x H2 hy => ?_⟩
    obtain ⟨rfl, rfl⟩ := hy
    exact ⟨M1, .refl, s1, .int, fun D u h1 h2 => ⟨h1, h2⟩⟩
  stop := fun M1 μ1 S1 H1 e1 s1 hc => by
    show n ≤ (rangeD lo n).length
    unfold rangeD
    simp
def small62 (i : Int) : Prop := -(2 ^ 62) ≤ i ∧ i < 2 ^ 62
instance (i : Int) : Decidable (small62 i) := by unfold small62; infer_instance
def itRange (ms : List Cm) : Itm := fun ρ S => (evs ms ρ S).bind fun ds S1 => match ds with
  | [.int j] => if small62 j then .ok (rangeD 0 j.toNat, none) S1 else .no
  | [.int i, .int j] => if small62 i ∧ small62 j then .ok (rangeD i (j - i).toNat, none) S1 else .no
  | _ => .no
theorem di_range1 (hg : Gl X "range") (hm : X.mg "range" = none) (ha : PA X [e] (tA c [m])) (hs : starEach [e] X.env = [(false, eval e X.env)]) : PI X tg (.Call (.Name "range" p) [e] [] pos) (tI c (itRange [m])) :=
  PI.imp (pi_range1 hg hm ha hs) fun σ H R h => by
    obtain ⟨M, μ, S, ρ, ds, o, S', s, l, q, k⟩ := h
    obtain ⟨xs, S1, q1, q2⟩ := Res.bind_eq_ok q
    split at q2
    · split at q2
      · rename_i j hj
        cases q2
        refine ⟨M, μ, S, ρ, _, _, s, l, q1, fun M1 μ1 H1 vs e1 s1 r1 => ?_⟩
        obtain ⟨v, rfl, rv⟩ := r1.one_inv
        exact ⟨_, by rw [rv.int_inv], hj.1, hj.2, k M1 μ1 H1 _ e1 s1 yld_range⟩
      · cases q2
    · rename_i i j
      obtain ⟨d1, S2, q3, q4⟩ := Res.bind_eq_ok q1
      cases q4
    · cases q2
theorem di_range2 {e2 : Expr} {m2 : Cm} (hg : Gl X "range") (hm : X.mg "range" = none) (ha : PA X [e, e2] (tA c [m, m2])) (hs : starEach [e, e2] X.env = [(false, eval e X.env), (false, eval e2 X.env)]) (hs2 : starEach [e2] X.env = [(false, eval e2 X.env)]) :
    PI X tg (.Call (.Name "range" p) [e, e2] [] pos) (tI c (itRange [m, m2])) :=
  PI.imp (pi_range2 hg hm ha hs hs2) fun σ H R h => by
    obtain ⟨M, μ, S, ρ, ds, o, S', s, l, q, k⟩ := h
    obtain ⟨xs, S1, q1, q2⟩ := Res.bind_eq_ok q
    split at q2
    · obtain ⟨d1, S2, q3, q4⟩ := Res.bind_eq_ok q1
      obtain ⟨d2, S3, q5, q6⟩ := Res.bind_eq_ok q4
      obtain ⟨d3, S4, q7, q8⟩ := Res.bind_eq_ok q5
      cases q8
      cases q6
    · split at q2
      · rename_i i j hj
        cases q2
        refine ⟨M, μ, S, ρ, _, _, s, l, q1, fun M1 μ1 H1 vs e1 s1 r1 => ?_⟩
        obtain ⟨v, u, rfl, rv, ru⟩ := r1.two_inv
        exact ⟨_, _, by rw [rv.int_inv, ru.int_inv], ⟨hj.1.1, hj.1.2, hj.2.1, hj.2.2⟩, k M1 μ1 H1 _ e1 s1 yld_range⟩
      · cases q2
    · cases q2
/-! ### comprehensions -/
def wipeD (ρ : Loc) : List Nat → Loc
  | [] => ρ
  | v :: vs => (wipeD ρ vs).set v none
theorem wipeD_some {ρ : Loc} {i : Nat} {d : Val} : ∀ {vs : List Nat}, (wipeD ρ vs)[i]? = some (some d) → ρ[i]? = some (some d) ∧ i ∉ vs
  | [], h => ⟨h, by simp⟩
  | v :: vs, h => by
    unfold wipeD at h
    by_cases hi : v = i
    · subst hi
      by_cases hv : v < (wipeD ρ vs).length
      · rw [List.getElem?_set_self hv] at h; cases h
      · rw [List.getElem?_eq_none (by simpa using hv)] at h; cases h
    · rw [List.getElem?_set_ne hi] at h
      obtain ⟨h1, h2⟩ := wipeD_some h
      exact ⟨h1, by simp only [List.mem_cons, not_or]; exact ⟨fun e => hi e.symm, h2⟩⟩
theorem wipeD_length (ρ : Loc) : ∀ vs : List Nat, (wipeD ρ vs).length = ρ.length
  | [] => rfl
  | v :: vs => by unfold wipeD; rw [List.length_set, wipeD_length ρ vs]
theorem LR.wipe {M : Addr → Own} {μ : Nat → Addr} {N : Nat} {H : Hp} {ρ : Loc} {σ : St} (h : LR c M μ N H ρ σ) (vs : List Nat) : LR c M μ N H (wipeD ρ vs) (L2.wipe σ vs) := by
  refine ⟨by rw [wipeD_length, L2.wipe_length]; exact h.1, fun i d q => ?_⟩
  obtain ⟨h1, h2⟩ := wipeD_some q
  obtain ⟨v, e, r⟩ := h.2 i d h1
  exact ⟨v, by rw [L2.wipe_out h2]; exact e, r⟩
theorem wipe_in {σ : St} {i : Nat} : ∀ {vs : List Nat}, i ∈ vs → i < σ.length → (L2.wipe σ vs)[i]? = some none
  | v :: vs, h, hl => by
    unfold L2.wipe
    by_cases hi : v = i
    · subst hi
      exact List.getElem?_set_self (by rw [L2.wipe_length]; exact hl)
    · rw [List.getElem?_set_ne hi]
      rcases List.mem_cons.mp h with e | e
      · exact absurd e.symm hi
      · exact wipe_in e hl
theorem wipe_agree {vs ws : List Nat} {σ σ' : St} (hw : ∀ i ∈ ws, i ∈ vs) (a : Agree ws (L2.wipe σ vs) σ') : L2.wipe σ' vs = L2.wipe σ vs := by
  have hl : σ'.length = σ.length := by rw [a.1, L2.wipe_length]
  refine List.ext_getElem? fun i => ?_
  by_cases hi : i ∈ vs
  · by_cases hlt : i < σ.length
    · rw [wipe_in hi hlt, wipe_in hi (by omega)]
    · rw [List.getElem?_eq_none (by rw [L2.wipe_length]; omega), List.getElem?_eq_none (by rw [L2.wipe_length]; omega)]
  · rw [L2.wipe_out hi, a.2 i fun z => hi (hw i z)]
noncomputable def lcLoop (ck : Store → Prop) (pt : Pat) (mt me : Cm) (ρ : Loc) : List Val → List Val → Store → Res (List Val)
  | [], acc, S => if ck S then .ok acc S else .no
  | d :: r, acc, S => if ck S then (match pt.put d ρ with
    | some ρ1 => (mt ρ1 S).bind fun b S1 => match b with
      | .bl true => (me ρ1 S1).bind fun y S2 => if acc.length < sizeLine then lcLoop ck pt mt me ρ r (acc ++ [y]) S2 else .no
      | .bl false => lcLoop ck pt mt me ρ r acc S1
      | _ => .no
    | none => .no) else .no
noncomputable def cLc (cell : Bool) (it : Itm) (own : List Nat) (pt : Pat) (mt me : Cm) : Cm := fun ρ S => (it ρ S).bind fun p S1 => (lcLoop (chk p.1 p.2) pt mt me (wipeD ρ own) p.1 [] S1).bind fun ds S2 =>
  if cell then .ok (.ref S2.length) (S2 ++ [.lst ds]) else .ok (.lst ds) S2
theorem Ext.owned {M : Addr → Own} {μ : Nat → Addr} {N N' : Nat} {H H' : Hp} {M' : Addr → Own} {μ' : Nat → Addr} {p : Addr} {w : Own} (h : H p = none) (e : Ext M μ N H M' μ' N' H') : Ext M μ N H (Pi.own M' p w) μ' N' H' :=
  ⟨e.n, e.mu, fun a o ha hm => by
    obtain ⟨h1, h2⟩ := e.keep a o ha hm
    exact ⟨h1, (own_ne (ne_of_none ha h)).trans h2⟩⟩
theorem own_back {M : Addr → Own} {p : Addr} {w : Own} (h : M p = .held) : ∀ a, M a = .val → own M p w a = .val := fun a ha => by
  rw [own_ne fun q => by rw [q, h] at ha; cases ha]
  exact ha
theorem Sim.held {M : Addr → Own} {μ : Nat → Addr} {S : Store} {H : Hp} {p : Addr} {w : Own} (s : Sim c M μ S H) (h : M p = .held) : Sim c (own M p w) μ S H :=
  ⟨fun n k hk => by
    obtain ⟨m, ok⟩ := s.cell n k hk
    refine ⟨(own_ne fun q => by rw [q, h] at m; cases m).trans m, ?_⟩
    cases k with
    | lst xs => obtain ⟨us, e, r⟩ := ok; exact ⟨us, e, VRs.swap (own_back h) r⟩
    | ins C fs => obtain ⟨dx, us, e, r⟩ := ok; exact ⟨dx, us, e, VRs.swap (own_back h) r⟩, s.inj⟩
/-- what a hand holds is written: nothing else is -/
theorem VR.upd {M : Addr → Own} {μ : Nat → Addr} {N : Nat} {H : Hp} {p : Addr} {o : HO} (h : M p = .held) {d : Val} {v : V} (r : VR c M μ N H d v) : VR c M μ N (upd H p o) d v := by
  have e1 : Ext (own M p .cell) μ N H (own M p .cell) μ N (L2.upd H p o) := Ext.write own_same
  exact VR.swap (fun a ha => by
    by_cases q : a = p
    · subst q; rw [own_same] at ha; cases ha
    · rw [own_ne q] at ha; exact ha) (VR.ext e1 (VR.swap (own_back h) r))
theorem VRs.upd {M : Addr → Own} {μ : Nat → Addr} {N : Nat} {H : Hp} {p : Addr} {o : HO} (h : M p = .held) {ds : List Val} {vs : List V} (r : VRs c M μ N H ds vs) : VRs c M μ N (L2.upd H p o) ds vs := by
  have e1 : Ext (own M p .cell) μ N H (own M p .cell) μ N (L2.upd H p o) := Ext.write own_same
  exact VRs.swap (fun a ha => by
    by_cases q : a = p
    · subst q; rw [own_same] at ha; cases ha
    · rw [own_ne q] at ha; exact ha) (VRs.ext e1 (VRs.swap (own_back h) r))
theorem Sim.upd {M : Addr → Own} {μ : Nat → Addr} {S : Store} {H : Hp} {p : Addr} {o : HO} (s : Sim c M μ S H) (h : M p = .held) : Sim c M μ S (L2.upd H p o) :=
  ⟨fun n k hk => by
    obtain ⟨m, ok⟩ := s.cell n k hk
    have ne : μ n ≠ p := fun q => by rw [q, h] at m; cases m
    refine ⟨m, ?_⟩
    cases k with
    | lst xs => obtain ⟨us, e, r⟩ := ok; exact ⟨us, by rw [upd_ne ne]; exact e, VRs.upd h r⟩
    | ins C fs => obtain ⟨dx, us, e, r⟩ := ok; exact ⟨dx, us, by rw [upd_ne ne]; exact e, VRs.upd h r⟩, s.inj⟩
theorem LR.upd {M : Addr → Own} {μ : Nat → Addr} {N : Nat} {H : Hp} {p : Addr} {o : HO} {ρ : Loc} {σ : St} (h : M p = .held) (l : LR c M μ N H ρ σ) : LR c M μ N (L2.upd H p o) ρ σ :=
  ⟨l.1, fun i d q => let ⟨v, e, r⟩ := l.2 i d q; ⟨v, e, r.upd h⟩⟩
/-- an extension of what was ahead of the hand -/
theorem Ext.upd {M : Addr → Own} {μ : Nat → Addr} {N N' : Nat} {H H' : Hp} {M' : Addr → Own} {μ' : Nat → Addr} {p : Addr} {o : HO} (h : H p = none) (e : Ext M μ N H M' μ' N' H') : Ext M μ N H M' μ' N' (L2.upd H' p o) :=
  ⟨e.n, e.mu, fun a u ha hm => by
    obtain ⟨h1, h2⟩ := e.keep a u ha hm
    exact ⟨by rw [upd_ne (ne_of_none ha h)]; exact h1, h2⟩⟩
theorem Sim.heldCell {M : Addr → Own} {μ : Nat → Addr} {S : Store} {H : Hp} {p : Addr} {us : List V} {acc : List Val} (s : Sim c M μ S H) (h : M p = .held) (hp : H p = some (.lst us)) (r : VRs c M μ S.length H acc us) :
    Sim c (own M p .cell) (mu1 μ S.length p) (S ++ [.lst acc]) H := by
  have s1 : Sim c (own M p .cell) μ S H := s.held h
  have eC : Ext (own M p .cell) μ S.length H (own M p .cell) (mu1 μ S.length p) (S.length + 1) H := ⟨Nat.le_succ _, fun n hn => mu1_lt hn, fun a o ha hm => ⟨ha, rfl⟩⟩
  have nep : ∀ n, n < S.length → μ n ≠ p := fun n hn q => by
    have := (s.cell n _ (List.getElem?_eq_getElem hn)).1
    rw [q, h] at this
    cases this
  refine ⟨fun n k' hk => ?_, fun m n hm hn q => ?_⟩
  · rw [List.length_append]
    by_cases hn : n < S.length
    · rw [List.getElem?_append_left hn] at hk
      obtain ⟨m, ok⟩ := s1.cell n k' hk
      rw [mu1_lt hn]
      exact ⟨m, ok.ext eC rfl⟩
    · rw [List.getElem?_append_right (by omega)] at hk
      have hz : n - S.length = 0 := by
        have := (List.getElem?_eq_some_iff.mp hk).1
        simp at this
        omega
      have hn' : n = S.length := by omega
      subst hn'
      simp at hk
      subst hk
      rw [mu1_same]
      exact ⟨own_same, us, hp, (VRs.swap (own_back h) r).ext eC⟩
  · rw [List.length_append, List.length_singleton] at hm hn
    by_cases h1 : m < S.length
    · by_cases h2 : n < S.length
      · rw [mu1_lt h1, mu1_lt h2] at q
        exact s.inj m n h1 h2 q
      · have : n = S.length := by omega
        subst this
        rw [mu1_lt h1, mu1_same] at q
        exact absurd q (nep m h1)
    · have : m = S.length := by omega
      subst this
      by_cases h2 : n < S.length
      · rw [mu1_lt h2, mu1_same] at q
        exact absurd q.symm (nep n h2)
      · omega
theorem it_lc {own' : List (Str × Nat)} {it : Itm} {pt : Pat} {mt me : Cm} (cell : Bool) (hown : ∀ i ∈ pt.slots, i ∈ own'.map (·.2)) {σ : St} {H0 : Hp} {Q : VK} (h : tE c (cLc cell it (own'.map (·.2)) pt mt me) σ H0 Q) :
    tLc (tI c it) (tPat c pt) (tT c mt) (tE c me) (own'.map (·.2)) σ H0 Q := by
  obtain ⟨M, μ, S, ρ, d, S', s, l, q, k⟩ := h
  obtain ⟨⟨ds, o⟩, S1, q1, q⟩ := Res.bind_eq_ok q
  obtain ⟨res, S2, q2, q3⟩ := Res.bind_eq_ok q
  simp only at q2
  refine ⟨M, μ, S, ρ, ds, o, S1, s, l, q1, fun M1 μ1 H1 J e1 sm1 yl => ?_⟩
  intro D hD
  have eD : Ext M1 μ1 S1.length H1 (own M1 D .held) μ1 S1.length (L2.upd H1 D (.lst [])) := Ext.new hD
  refine ⟨fun i n H => n = ds.length - i ∧ i ≤ ds.length ∧ ∃ M2 μ2 Sc acc us, Sim c M2 μ2 Sc H ∧ LR c M2 μ2 Sc.length H (wipeD ρ (own'.map (·.2))) (L2.wipe σ (own'.map (·.2))) ∧ Ext M1 μ1 S1.length H1 M2 μ2 Sc.length H ∧ M2 D = .held ∧ H D = some (.lst us) ∧ VRs c M2 μ2 Sc.length H acc us ∧
      lcLoop (chk ds o) pt mt me (wipeD ρ (own'.map (·.2))) (ds.drop i) acc Sc = .ok res S2,
    ⟨ds.length, by simp, Nat.zero_le _, own M1 D .held, μ1, S1, [], [], sm1.new hD, ((l.ext e1).wipe _).ext eD, eD, own_same, upd_same, .nil, q2⟩, fun i n H hW => ?_⟩
  obtain ⟨rfl, hi, M2, μ2, Sc, acc, us, sm2, l2, e2, hM, hH, ra, q4⟩ := hW
  by_cases hlt : i < ds.length
  · rw [List.drop_eq_getElem_cons hlt] at q4
    unfold lcLoop at q4
    split at q4
    · rename_i hck
      split at q4
      · rename_i ρ1 hput
        obtain ⟨hgo, hy⟩ := yl.go M2 μ2 Sc H e2.cy sm2 hck i ds[i] (List.getElem?_eq_getElem hlt)
        refine .inr ⟨hgo, fun H => i + 1 ≤ ds.length ∧ ∃ M2 μ2 Sc acc us, Sim c M2 μ2 Sc H ∧ LR c M2 μ2 Sc.length H (wipeD ρ (own'.map (·.2))) (L2.wipe σ (own'.map (·.2))) ∧ Ext M1 μ1 S1.length H1 M2 μ2 Sc.length H ∧ M2 D = .held ∧ H D = some (.lst us) ∧ VRs c M2 μ2 Sc.length H acc us ∧
            lcLoop (chk ds o) pt mt me (wipeD ρ (own'.map (·.2))) (ds.drop (i + 1)) acc Sc = .ok res S2,
          fun H' hw => ⟨ds.length - (i + 1), by omega, rfl, hw⟩, fun x H' hyl => ?_⟩
        obtain ⟨M3, e3, sm3, r3, hheld⟩ := hy x H' hyl
        obtain ⟨hH3, hM3⟩ := hheld D _ hH hM
        refine ⟨M3, μ2, Sc.length, ds[i], _, ρ1, l2.ext e3, r3, hput, fun σ2 l3 ag => ⟨wipe_agree hown ag, ?_⟩⟩
        obtain ⟨b, S3, q5, q6⟩ := Res.bind_eq_ok q4
        have hmon : ∀ {M4 : Addr → Own} {μ4 : Nat → Addr} {N4 : Nat} {H4 : Hp}, Ext M3 μ2 Sc.length H' M4 μ4 N4 H4 → M4 D = .held ∧ H4 D = some (.lst us) := fun e => by
          obtain ⟨h1, h2⟩ := e.keep D _ hH3 (by rw [hM3]; decide)
          exact ⟨h2.trans hM3, h1⟩
        split at q6
        · obtain ⟨y, S4, q7, q8⟩ := Res.bind_eq_ok q6
          split at q8
          · rename_i hlen
            refine ⟨M3, μ2, Sc, ρ1, true, S3, sm3, l3, q5, fun M4 μ4 H4 e4 sm4 => iteT ?_⟩
            refine ⟨M4, μ4, S3, ρ1, y, S4, sm4, l3.ext e4, q7, fun M5 μ5 H5 v e5 sm5 r5 => ?_⟩
            obtain ⟨hM5, hH5⟩ := hmon (e4.trans e5)
            have eA := (e3.trans e4).trans e5
            refine ⟨us, hH5, by rw [ra.length]; exact hlen, hlt, M5, μ5, S4, acc ++ [y], us ++ [v], sm5.upd hM5, (l2.ext eA).upd hM5, Ext.upd hD (e2.trans eA), hM5, upd_same, VRs.upd hM5 ((ra.ext eA).append (.cons r5 .nil)), q8⟩
          · cases q8
        · refine ⟨M3, μ2, Sc, ρ1, false, S3, sm3, l3, q5, fun M4 μ4 H4 e4 sm4 => iteF ?_⟩
          obtain ⟨hM4, hH4⟩ := hmon e4
          have eA := e3.trans e4
          exact ⟨hlt, M4, μ4, S3, acc, us, sm4, l2.ext eA, e2.trans eA, hM4, hH4, ra.ext eA, q6⟩
        · cases q6
      · cases q4
    · cases q4
  · have hl : i = ds.length := by omega
    subst hl
    rw [List.drop_length] at q4
    unfold lcLoop at q4
    split at q4
    · rename_i hck
      cases q4
      refine .inl ⟨yl.stop M2 μ2 _ H e2.cy sm2 hck, ?_⟩
      have eF := e1.trans e2
      have hD0 : ∀ {w : Own}, Ext M μ S.length H0 (own M2 D w) μ2 S2.length H := fun {w} => by
        refine ⟨eF.n, eF.mu, fun a o ha hm => ?_⟩
        obtain ⟨h1, h2⟩ := e1.keep a o ha hm
        obtain ⟨h3, h4⟩ := e2.keep a o h1 (by rw [h2]; exact hm)
        exact ⟨h3, (own_ne (ne_of_none h1 hD)).trans (h4.trans h2)⟩
      split at q3
      · cases q3
        have eC : Ext (own M2 D .cell) μ2 S2.length H (own M2 D .cell) (mu1 μ2 S2.length D) (S2.length + 1) H := ⟨Nat.le_succ _, fun n hn => mu1_lt hn, fun a o ha hm => ⟨ha, rfl⟩⟩
        have hl : (S2 ++ [Cell.lst res]).length = S2.length + 1 := by simp
        unfold KE at k
        rw [hl] at k
        refine k (own M2 D .cell) (mu1 μ2 S2.length D) H (.ref D) (hD0.trans eC) (sm2.heldCell hM hH ra) ?_
        have := VR.ref (c := c) (M := own M2 D .cell) (μ := mu1 μ2 S2.length D) (N := S2.length + 1) (H := H) (n := S2.length) (Nat.lt_succ_self _)
        rw [mu1_same] at this
        exact this
      · cases q3
        exact k (own M2 D .val) μ2 H _ hD0 (sm2.held hM) (.lst own_same hH (VRs.swap (own_back hM) ra))
    · cases q4
theorem de_lc {scope : Scope} {own' : List (Str × Nat)} {it : Itm} {pt : Pat} {mt me : Cm} {ifs : List Expr} (cell : Bool) (hc : X.calm = true) (hN : X.N.Nodup) (hi : PI X tg iter (tI c it)) (ok : BlkOk X.N X.env.scope scope own')
    (hown : ∀ i ∈ pt.slots, i ∈ own'.map (·.2))
    (hg : ∀ (s : Shared) (H : Hp) (C : Addr) (cl : List (Str × Addr)) (fp : List Addr), PG (X.blk s H scope (compEnvC scope cl C X.env) fp) tg (tPat c pt)) (ht : ∀ (s : Shared) (H : Hp) (C : Addr) (cl : List (Str × Addr)) (fp : List Addr), PTs (X.blk s H scope (compEnvC scope cl C X.env) fp) ifs (tT c mt))
    (he : ∀ (s : Shared) (H : Hp) (C : Addr) (cl : List (Str × Addr)) (fp : List Addr), PE (X.blk s H scope (compEnvC scope cl C X.env) fp) elt (tE c me)) (hs : ∀ x, foldedSetIterable iter X.env x = pure x) :
    PE X (.ListComp elt [⟨tg, iter, ifs, 0⟩] scope pos) (tE c (cLc cell it (own'.map (·.2)) pt mt me)) := PE.imp (pe_lc hc hN hi ok hg ht he hs) fun σ H0 Q h => it_lc cell hown h
end
end Pi
set_option Elab.async false
set_option linter.all false
set_option maxRecDepth 100000
set_option maxHeartbeats 4000000
/-! Pi9: a def by its body; what only the def made goes with it. -/
namespace Pi
open PySem L2
open PyProof.Rows hiding St
open Classical

def startD (n : Nat) (ds : List Val) : Loc := ds.map some ++ List.replicate (n - ds.length) none
def bodyF (n : Nat) (m : Sm) : FnM := fun ds S => match m (startD n ds) S with
  | .ok (.ret d) S' => .ok d S'
  | .ok (.nx _) S' => .ok .non S'
  | _ => .no
theorem LR.start {c : RC} {M : Addr → Own} {μ : Nat → Addr} {N : Nat} {H : Hp} {Ns : List Str} {ds : List Val} {vs : List V} (r : VRs c M μ N H ds vs) : LR c M μ N H (startD Ns.length ds) (L2.start Ns vs) := by
  have hl := r.length
  refine ⟨by unfold startD L2.start; simp [hl], fun i d h => ?_⟩
  unfold startD at h
  by_cases hi : i < ds.length
  · rw [List.getElem?_append_left (by simpa using hi), List.getElem?_map] at h
    cases e : ds[i]? with
    | none => rw [e] at h; cases h
    | some d' =>
      rw [e] at h
      cases h
      obtain ⟨v, hv, rv⟩ := r.get e
      refine ⟨v, ?_, rv⟩
      unfold L2.start
      rw [List.getElem?_append_left (by simp; omega), List.getElem?_map, hv]
      rfl
  · rw [List.getElem?_append_right (by simpa using hi), List.getElem?_replicate] at h
    split at h <;> cases h
section
variable {P : Program} {w : World} {K : PySem.W.Frag} {mg : Str → Option Value} {base : Heap} {c : RC}
/-- the context of a def's body -/
abbrev bodyCx (P : Program) (w : World) (K : PySem.W.Frag) (mg : Str → Option Value) (base : Heap) (N : List Str) (qual : Str) (scope : Scope) (f : Addr) (cd : Value) (A : Around) (outer : List Env) (s : Shared) (H : Hp) (E : XK) : Cx := (cxOf CX0 P w K mg base N qual scope f cd A outer s H E).nox
theorem fnOk_of {x qual : Str} {params : Arguments} {body : List Stmt} {scope : Scope} {dvs : List V} {kws : List (Str × V)} {f : Addr} {fd : FuncData} {N ps : List Str} {lv : Nat} {m : Sm} (F : FunD K x qual params body scope dvs kws f fd) (S : FnScope N ps scope)
    (hb : ∀ (cd : Value) (A : Around) (outer : List Env) (s : Shared) (H : Hp) (E : XK), (A.deeper (envOfC qual scope s.heap.objs.size f cd)).guards = some [] → Room lv (A.deeper (envOfC qual scope s.heap.objs.size f cd)) → PSs (bodyCx P w K mg base N qual scope f cd A outer s H E) body (tS c m)) :
    PiX.FnG P w K mg base CX0 (lv + 1) f fd ps (spF c ps.length (bodyF N.length m)) := by
  refine PiX.fnG_of F S (fun vs H Q E h => h.1) (fun cdv A outer s H vs Q E hg hr h => ⟨tS c m, PSs.nox (hb cdv A outer s H E hg hr), ?_⟩)
  obtain ⟨hl, M, μ, S0, ds, d, S', sm, r, q, k⟩ := h
  unfold bodyF at q
  split at q
  · rename_i d' S1 q1
    cases q
    exact ⟨M, μ, S0, _, _, _, sm, LR.start r, q1, fun M' μ' H' v e' s' r' => k M' μ' H' v e' s' r'⟩
  · rename_i ρ1 S1 q1
    cases q
    exact ⟨M, μ, S0, _, _, _, sm, LR.start r, q1, fun M' μ' H' σ' e' s' _ => k M' μ' H' .non e' s' .non⟩
  · cases q

/-! ### what only the def made goes with it -/
noncomputable def gcF (m : FnM) : FnM := fun ds S => match m ds S with
  | .ok d S' => if wfV S.length d ∧ ∀ k ∈ S'.take S.length, wfC S.length k then .ok d (S'.take S.length) else .no
  | .no => .no
/-- .. and a list that it made and hands back is a value -/
noncomputable def gcL (m : FnM) : FnM := fun ds S => match m ds S with
  | .ok (.ref n) S' => match S'[n]? with
    | some (.lst xs) => if S.length ≤ n ∧ wfVs S.length xs ∧ ∀ k ∈ S'.take S.length, wfC S.length k then .ok (.lst xs) (S'.take S.length) else .no
    | _ => .no
  | _ => .no
theorem Sim.take {M : Addr → Own} {μ : Nat → Addr} {S : Store} {H : Hp} (s : Sim c M μ S H) {n : Nat} (hn : n ≤ S.length) (w : ∀ k ∈ S.take n, wfC n k) : Sim c M μ (S.take n) H := by
  have hl : (S.take n).length = n := by simp; omega
  refine ⟨fun i k h => ?_, fun i j h1 h2 q => s.inj i j (by omega) (by omega) q⟩
  have hi := (List.getElem?_eq_some_iff.mp h).1
  have hk := w k (List.mem_of_getElem? h)
  rw [List.getElem?_take_of_lt (by omega)] at h
  obtain ⟨m, ok⟩ := s.cell i k h
  rw [hl]
  exact ⟨m, ok.shrink hk⟩
theorem spF_gc {n : Nat} {m : FnM} (vs : List V) (H : Hp) (Q : VK) (E : XK) (h : spF c n (gcF m) vs H Q E) : spF c n m vs H Q E := by
  obtain ⟨hl, M, μ, S, ds, d, S', sm, r, q, k⟩ := h
  unfold gcF at q
  split at q
  · rename_i d1 S1 q1
    split at q
    · rename_i hw
      cases q
      refine ⟨hl, M, μ, S, ds, _, S1, sm, r, q1, fun M' μ' H' v e' s' r' => ?_⟩
      have hle : S.length ≤ S1.length := e'.n
      have ht : (S1.take S.length).length = S.length := by simp; omega
      unfold KE at k
      rw [ht] at k
      exact k M' μ' H' v ⟨Nat.le_refl _, e'.mu, e'.keep⟩ (s'.take hle hw.2) (VR.shrink hw.1 r')
    · cases q
  · cases q
theorem spF_gcL {n : Nat} {m : FnM} (vs : List V) (H : Hp) (Q : VK) (E : XK) (h : spF c n (gcL m) vs H Q E) : spF c n m vs H Q E := by
  obtain ⟨hl, M, μ, S, ds, d, S', sm, r, q, k⟩ := h
  unfold gcL at q
  split at q
  · rename_i n1 S1 q1
    split at q
    · rename_i xs hx
      split at q
      · rename_i hw
        cases q
        refine ⟨hl, M, μ, S, ds, _, S1, sm, r, q1, fun M' μ' H' v e' s' r' => ?_⟩
        have hle : S.length ≤ S1.length := e'.n
        have ht : (S1.take S.length).length = S.length := by simp; omega
        unfold KE at k
        rw [ht] at k
        obtain ⟨hn, rfl⟩ := r'.ref_inv
        obtain ⟨hM, us, hH, ru⟩ := s'.cell n1 _ hx
        have hM' : own M' (μ' n1) .val (μ' n1) = .val := own_same
        have sT := s'.take hle hw.2.2
        have sT2 : Sim c (own M' (μ' n1) .val) μ' (S1.take S.length) H' := by
          refine sT.keep (M1 := own M' (μ' n1) .val) (H1 := H') (Ext.free hM) fun i hi => ⟨rfl, own_ne fun q => ?_⟩
          rw [ht] at hi
          have := s'.inj i n1 (by omega) hn q
          omega
        have e2 : Ext M μ S.length H (own M' (μ' n1) .val) μ' S.length H' := by
          refine ⟨Nat.le_refl _, e'.mu, fun a o ha hm => ?_⟩
          obtain ⟨h1, h2⟩ := e'.keep a o ha hm
          refine ⟨h1, (own_ne fun q => ?_).trans h2⟩
          subst q
          rw [hM] at h2
          exact hm h2.symm
        exact k _ μ' H' _ e2 sT2 (.lst hM' hH (VRs.shrink hw.2.1 (ru.ext (Ext.free (H := H') hM))))
      · cases q
    · cases q
  · cases q
end
end Pi
set_option Elab.async false
set_option linter.all false
set_option maxRecDepth 100000
set_option maxHeartbeats 4000000
/-! Pi10: what the text's forms need of the machine, by looks at the text. -/
namespace Pi
open PySem L2
open PyProof.Rows hiding St
open Classical

def notStar : Expr → Bool
  | .Starred .. => false
  | _ => true
theorem starEach_cons {e : Expr} {es : List Expr} {env : Env} (h : notStar e = true) : starEach (e :: es) env = (false, eval e env) :: starEach es env := by
  cases e <;> first | rfl | cases h
theorem star_none {env : Env} {pos : Pos} : ∀ {es : List Expr}, es.all notStar = true → (backTo pos (starEach es env)).any (·.1) = false
  | [], _ => rfl
  | e :: es, h => by
    rw [List.all_cons, Bool.and_eq_true] at h
    rw [starEach_cons h.1]
    have := star_none (env := env) (pos := pos) h.2
    unfold backTo at this ⊢
    rw [List.map_cons, List.any_cons, this]
    rfl
theorem star_all {env : Env} {pos : Pos} : ∀ {es : List Expr}, es.all notStar = true → (backTo pos (starEach es env)).all (fun x => !x.1) = true
  | [], _ => rfl
  | e :: es, h => by
    rw [List.all_cons, Bool.and_eq_true] at h
    rw [starEach_cons h.1]
    have := star_all (env := env) (pos := pos) h.2
    unfold backTo at this ⊢
    rw [List.map_cons, List.all_cons, this]
    rfl
def kwNames (kws : List Keyword) : List (Option Str) := kws.map (·.arg)
theorem kw_all {env : Env} {pos : Pos} : ∀ {kws : List Keyword}, kws.all (·.arg.isSome) = true → (backToKw pos (keywordEach kws env)).all (·.1.isSome) = true
  | [], _ => rfl
  | ⟨n, v, p⟩ :: kws, h => by
    rw [List.all_cons, Bool.and_eq_true] at h
    have := kw_all (env := env) (pos := pos) h.2
    show (backToKw pos ((n, eval v env) :: keywordEach kws env)).all (·.1.isSome) = true
    unfold backToKw at this ⊢
    rw [List.map_cons, List.all_cons, this, Bool.and_true]
    exact h.1
theorem kw_any {env : Env} {pos : Pos} : ∀ {kws : List Keyword}, kws.all (·.arg.isSome) = true → (backToKw pos (keywordEach kws env)).any (·.1.isNone) = false
  | [], _ => rfl
  | ⟨n, v, p⟩ :: kws, h => by
    rw [List.all_cons, Bool.and_eq_true] at h
    have := kw_any (env := env) (pos := pos) h.2
    show (backToKw pos ((n, eval v env) :: keywordEach kws env)).any (·.1.isNone) = false
    unfold backToKw at this ⊢
    rw [List.map_cons, List.any_cons, this, Bool.or_false]
    have h1 : n.isSome = true := h.1
    show n.isNone = false
    cases n with
    | none => cases h1
    | some x => rfl
theorem kw_names {env : Env} {pos : Pos} : ∀ {kws : List Keyword}, (backToKw pos (keywordEach kws env)).filterMap (·.1) = kws.filterMap (·.arg)
  | [] => rfl
  | ⟨n, v, p⟩ :: kws => by
    have := kw_names (env := env) (pos := pos) (kws := kws)
    show (backToKw pos ((n, eval v env) :: keywordEach kws env)).filterMap (·.1) = _
    unfold backToKw at this ⊢
    rw [List.map_cons, List.filterMap_cons, List.filterMap_cons, this]
/-- super() alone is looked at by an attribute -/
def attrPlain : Expr → Bool
  | .Call (.Name _ _) [] [] _ => false
  | _ => true
theorem attr_base {o : Expr} {f : Str} {env : Env} {whole : Sem Value} (h : attrPlain o = true) : attributeBase o f env whole = whole := by
  unfold attributeBase
  split
  · cases h
  · rfl
def testPlain : Expr → Bool
  | .UnaryOp .Not _ _ => false
  | .BoolOp _ _ _ => false
  | .IfExp _ _ _ _ => false
  | .Compare _ _ _ _ => false
  | _ => true
theorem test_plain {e : Expr} {env : Env} (h : testPlain e = true) (whole : Sem Value) : PySem.isTrue e env whole = (do let v ← whole; standAt e.pos; holding [v] (truthy v)) := by
  cases e with
  | UnaryOp op x p => cases op <;> first | rfl | cases h
  | BoolOp _ _ _ => cases h
  | IfExp _ _ _ _ => cases h
  | Compare _ _ _ _ => cases h
  | _ => rfl
def notComp : Expr → Bool
  | .ListComp .. => false
  | .SetComp .. => false
  | .DictComp .. => false
  | _ => true
theorem swaps_with {e : Expr} {t : Option Expr} {l : Nat} {env : Env} (h : notComp e = true) : swapsWith e t l env = pure false := by
  cases e <;> first | rfl | cases h
theorem swaps_sole {e t : Expr} {l : Nat} {env : Env} (h : notComp e = true) : swapsWithSole [t] e l env = pure false := swaps_with h
def ixPlain : Expr → Bool
  | .Slice _ _ none _ => false
  | _ => true
theorem ix_plain {e : Expr} (h : ixPlain e = true) : PlainIx e := by
  intro o i
  cases e with
  | Slice a b s p =>
    cases s with
    | none => cases h
    | some s => rfl
  | _ => rfl
def notSet : Expr → Bool
  | .Set .. => false
  | _ => true
theorem set_folded {e : Expr} {env : Env} (h : notSet e = true) (x : Value) : foldedSetIterable e env x = pure x := by
  cases e <;> first | rfl | cases h
theorem assign_length {env : Env} : ∀ {es : List Expr}, (assignEach es env).length = es.length
  | [] => rfl
  | e :: es => by
    have := assign_length (env := env) (es := es)
    cases e <;> exact congrArg Nat.succ this
theorem assign_cons {e : Expr} {es : List Expr} {env : Env} (h : notStar e = true) : (assignEach (e :: es) env).map (·.2) = assign e env :: (assignEach es env).map (·.2) := by
  cases e <;> first | rfl | cases h
theorem assign_star {env : Env} : ∀ {es : List Expr}, es.all notStar = true → (assignEach es env).findIdx? (·.1) = none
  | [], _ => rfl
  | e :: es, h => by
    rw [List.all_cons, Bool.and_eq_true] at h
    have ih := assign_star (env := env) h.2
    have he : assignEach (e :: es) env = (false, assign e env) :: assignEach es env := by
      obtain ⟨h1, _⟩ := h
      cases e <;> first | rfl | cases h1
    rw [he, List.findIdx?_cons, ih]
    rfl
/-- a, b = x, y: whether the stores are swapped; none: not known -/
def isTuple : Expr → Bool
  | .Tuple .. => true
  | _ => false
def isListE : Expr → Bool
  | .List .. => true
  | _ => false
theorem swapped_none {t e : Expr} {env : Env} (h : (isTuple t || isListE t) = false ∨ isTuple e = false) : swappedStores [t] e env = pure none := by
  rcases h with h | h
  · cases t <;> first | rfl | cases h
  · cases t <;> cases e <;> first | rfl | cases h
def starred : Expr → Bool
  | .Starred .. => true
  | _ => false
def isName : Expr → Bool
  | .Name .. => true
  | _ => false
/-- the stores stand in their own order -/
def swapNo (ts vs : List Expr) : Bool := !(ts.length == 2 || ts.length == 3) || vs.length != ts.length || vs.any starred || !ts.all isName
theorem names_short {f : Expr → Option Str} (hf : ∀ e, isName e = false → f e = none) : ∀ {ts : List Expr}, ts.all isName = false → (ts.filterMap f).length < ts.length
  | [], h => by cases h
  | t :: ts, h => by
    rw [List.filterMap_cons]
    by_cases ht : isName t = true
    · rw [List.all_cons, ht, Bool.true_and] at h
      have ih := names_short hf h
      cases f t with
      | none => exact Nat.lt_of_lt_of_le ih (Nat.le_succ _)
      | some x => exact Nat.succ_lt_succ ih
    · rw [hf t (by simpa using ht)]
      exact Nat.lt_succ_of_le (List.length_filterMap_le f ts)
theorem swap_no {ts vs : List Expr} {kt k2 : Nat} {pt p2 : Pos} {env : Env} (h : swapNo ts vs = true) : swappedStores [.Tuple ts kt pt] (.Tuple vs k2 p2) env = pure none := by
  unfold swappedStores
  dsimp only
  split
  · rfl
  rename_i h1
  split
  · rfl
  rename_i h2
  rw [if_pos]
  unfold swapNo at h
  have h1' : (!(ts.length == 2 || ts.length == 3) || vs.length != ts.length) = false := by
    cases hh : (!(ts.length == 2 || ts.length == 3) || vs.length != ts.length) with
    | false => rfl
    | true => rw [hh] at h1; exact absurd rfl h1
  rw [h1', Bool.false_or] at h
  have hst : vs.any starred = false := by
    rw [← Bool.not_eq_true]
    intro hh
    apply h2
    rw [List.any_eq_true] at hh ⊢
    obtain ⟨e, he, hs⟩ := hh
    refine ⟨e, he, ?_⟩
    cases e <;> first | rfl | cases hs
  rw [hst, Bool.false_or] at h
  have h3 : ts.all isName = false := by simpa using h
  rw [Bool.or_eq_true]
  left
  rw [bne_iff_ne]
  apply Nat.ne_of_lt
  apply names_short _ h3
  intro e he
  cases e <;> first | rfl | cases he
def swap2 (sc : Scope) (x y : Str) (px py : Pos) (a b : Expr) : Bool :=
  sc.names.lookup x == some .local && sc.names.lookup y == some .local && py.line == px.line && x != y && !starred a && !starred b &&
  !(foldedForSure 8 a && foldedForSure 8 b) && !(constantsAlone 8 a && constantsAlone 8 b)
theorem swap_two {x y : Str} {px py : Pos} {a b : Expr} {kt k2 : Nat} {pt p2 : Pos} {env : Env} (hk : env.blockKind = .function) (h : swap2 env.scope x y px py a b = true) : swappedStores [.Tuple [.Name x px, .Name y py] kt pt] (.Tuple [a, b] k2 p2) env = pure (some [x, y]) := by
  unfold swap2 at h
  simp only [Bool.and_eq_true, Bool.not_eq_true'] at h
  obtain ⟨⟨⟨⟨⟨⟨⟨h1, h2⟩, h3⟩, h4⟩, h5⟩, h6⟩, h7⟩, h8⟩ := h
  have e1 : (env.kindOf x == some .local) = true := h1
  have e2 : (env.kindOf y == some .local) = true := h2
  have hd : [x, y].eraseDups.length = 2 := by
    have : (y == x) = false := by
      cases hyx : (y == x) with
      | false => rfl
      | true => 
        have : y = x := by simpa using hyx
        subst this
        simp at h4
    simp [List.eraseDups_cons, this]
  have hf : ∀ f : Expr → Option Str, f (.Name x px) = some x → f (.Name y py) = some y → [Expr.Name x px, Expr.Name y py].filterMap f = [x, y] := fun f q1 q2 => by
    rw [List.filterMap_cons, q1, List.filterMap_cons, q2, List.filterMap_nil]
  unfold swappedStores
  dsimp only
  rw [hf]
  · split
    · rename_i hh
      rw [hk] at hh
      simp at hh
    split
    · rename_i hh
      exfalso
      rw [List.any_eq_true] at hh
      obtain ⟨e, he, hs⟩ := hh
      rcases List.mem_cons.mp he with rfl | he
      · cases e <;> first | (cases h5; done) | cases hs
      · rcases List.mem_cons.mp he with rfl | he
        · cases e <;> first | (cases h6; done) | cases hs
        · cases he
    split
    · rename_i hh
      rw [hd] at hh
      simp at hh
    split
    · rename_i hh
      simp only [List.all_cons, List.all_nil, Bool.and_true, h7] at hh
      cases hh
    split
    · rename_i hh
      simp only [List.all_cons, List.all_nil, Bool.and_true, h8] at hh
      cases hh
    · rfl
  · show (if env.kindOf x == some .local && px.line == px.line then some x else none) = some x
    rw [e1]
    simp
  · show (if env.kindOf y == some .local && py.line == px.line then some y else none) = some y
    rw [e2, h3]
    rfl
def swap3 (sc : Scope) (x y z : Str) (px py pz : Pos) (a b d : Expr) : Bool :=
  sc.names.lookup x == some .local && sc.names.lookup y == some .local && sc.names.lookup z == some .local && py.line == px.line && pz.line == px.line && x != y && x != z && y != z && !starred a && !starred b && !starred d &&
  !(foldedForSure 8 a && (foldedForSure 8 b && foldedForSure 8 d)) && !(constantsAlone 8 a && (constantsAlone 8 b && constantsAlone 8 d))
theorem swap_three {x y z : Str} {px py pz : Pos} {a b d : Expr} {kt k2 : Nat} {pt p2 : Pos} {env : Env} (hk : env.blockKind = .function) (h : swap3 env.scope x y z px py pz a b d = true) : swappedStores [.Tuple [.Name x px, .Name y py, .Name z pz] kt pt] (.Tuple [a, b, d] k2 p2) env = pure (some [x, y, z]) := by
  unfold swap3 at h
  simp only [Bool.and_eq_true, Bool.not_eq_true'] at h
  obtain ⟨⟨⟨⟨⟨⟨⟨⟨⟨⟨⟨⟨h1, h2⟩, h3⟩, g1⟩, g2⟩, n1⟩, n2⟩, n3⟩, h5⟩, h6⟩, h6b⟩, h7⟩, h8⟩ := h
  have e1 : (env.kindOf x == some .local) = true := h1
  have e2 : (env.kindOf y == some .local) = true := h2
  have e3 : (env.kindOf z == some .local) = true := h3
  have ne : ∀ {u v : Str}, (u != v) = true → (v == u) = false := fun {u v} hh => by
    cases hyx : (v == u) with
    | false => rfl
    | true =>
      have : v = u := by simpa using hyx
      subst this
      simp at hh
  have hd : [x, y, z].eraseDups.length = 3 := by
    simp [List.eraseDups_cons, ne n1, ne n2, ne n3]
  have hf : ∀ f : Expr → Option Str, f (.Name x px) = some x → f (.Name y py) = some y → f (.Name z pz) = some z → [Expr.Name x px, Expr.Name y py, Expr.Name z pz].filterMap f = [x, y, z] := fun f q1 q2 q3 => by
    rw [List.filterMap_cons, q1, List.filterMap_cons, q2, List.filterMap_cons, q3, List.filterMap_nil]
  unfold swappedStores
  dsimp only
  rw [hf]
  · split
    · rename_i hh
      rw [hk] at hh
      simp at hh
    split
    · rename_i hh
      exfalso
      rw [List.any_eq_true] at hh
      obtain ⟨e, he, hs⟩ := hh
      rcases List.mem_cons.mp he with rfl | he
      · cases e <;> first | (cases h5; done) | cases hs
      · rcases List.mem_cons.mp he with rfl | he
        · cases e <;> first | (cases h6; done) | cases hs
        · rcases List.mem_cons.mp he with rfl | he
          · cases e <;> first | (cases h6b; done) | cases hs
          · cases he
    split
    · rename_i hh
      rw [hd] at hh
      simp at hh
    split
    · rename_i hh
      simp only [List.all_cons, List.all_nil, Bool.and_true, h7] at hh
      cases hh
    split
    · rename_i hh
      simp only [List.all_cons, List.all_nil, Bool.and_true, h8] at hh
      cases hh
    · rfl
  · show (if env.kindOf x == some .local && px.line == px.line then some x else none) = some x
    rw [e1]
    simp
  · show (if env.kindOf y == some .local && py.line == px.line then some y else none) = some y
    rw [e2, g1]
    rfl
  · show (if env.kindOf z == some .local && pz.line == px.line then some z else none) = some z
    rw [e3, g2]
    rfl
/-- both sides known ahead: no stores are swapped -/
theorem swap_fold {ts vs : List Expr} {kt k2 : Nat} {pt p2 : Pos} {env : Env} (h : vs.all (foldedForSure 8) = true) : swappedStores [.Tuple ts kt pt] (.Tuple vs k2 p2) env = pure none := by
  unfold swappedStores
  dsimp only
  split
  · rfl
  split
  · rfl
  split
  · rfl
  first | rfl | rw [if_pos h]
/-- a method call by its place -/
theorem meth_form {o : Expr} {mn : Str} {args : List Expr} {apos pos : Pos} {env : Env} (hp : attrPlain o = true) (hs : args.all notStar = true) (hn : args.length < 30) (hl : (apos.endLine == pos.line) = true) :
    eval (.Call (.Attribute o mn apos) args [] pos) env = (do
      let ov ← eval o env
      standAt apos.atName
      let (f, first) ← holding [ov] (getMethod ov mn (do return (← importBound o env).getD true))
      callWith pos f first (backTo pos (starEach args env)) (backToKw pos (keywordEach [] env))) := by
  have hf : methodCallForm (args.length + ([] : List Keyword).length) (backTo pos (starEach args env)) (backToKw pos (keywordEach [] env)) = true := by
    unfold methodCallForm
    rw [star_all hs]
    have : (args.length + ([] : List Keyword).length + if (backToKw pos (keywordEach [] env)).isEmpty = true then 0 else 1) < 30 := hn
    simp [backToKw, keywordEach, hn]
  rw [arm_eval_Call, attr_base hp]
  unfold methodCall calleeOf methodCallPos
  rw [hf]
  simp only [hl, Bool.or_true, if_true, Bool.not_true, Bool.false_or]
  rfl
end Pi
set_option Elab.async false
set_option linter.all false
set_option maxRecDepth 100000
set_option maxHeartbeats 4000000
/-! Pi11: methods of lists and numbers, chains of comparisons, in, starred targets. -/
namespace Pi
open PySem L2
open PyProof.Rows hiding St
open Classical

section
variable {X : Cx} {c : RC} {T : Tab} {e o a b d : Expr} {es : List Expr} {pos p apos : Pos} {m mo ma mb md : Cm} {ms mk : List Cm} {x : Str}
def opBits (d : Val) (S : Store) : Res Val := match d with
  | .int i => .ok (.int (Builtin.Int.intBits i : Nat)) S
  | _ => .no
theorem de_bits (ho : PE X o (tE c mo)) (hbase : attributeBase o "bit_length" X.env (eval o X.env) = eval o X.env) (hline : (apos.endLine == pos.line) = true) : PE X (.Call (.Attribute o "bit_length" apos) [] [] pos) (tE c (c1 opBits mo)) := PE.imp (pe_bits ho hbase hline) fun σ H Q h => by
  obtain ⟨M, μ, S, ρ, d, S', s, l, q, k⟩ := tE_c1 h
  refine ⟨M, μ, S, ρ, d, S', s, l, q, fun M1 μ1 H1 v e1 s1 r1 => ?_⟩
  obtain ⟨M2, μ2, S2, d2, d3, S3, s2, r2, q2, k2⟩ := k M1 μ1 H1 v e1 s1 r1
  unfold opBits at q2
  split at q2
  · cases q2
    exact ⟨_, r2.int_inv, k2 _ _ _ _ .refl s2 .int⟩
  · cases q2
/-! ### lists that change -/
def cApp (mo ma : Cm) : Cm := fun ρ S => (mo ρ S).bind fun x S1 => match x with
  | .ref n => match S1[n]? with
    | some (.lst _) => (ma ρ S1).bind fun y S2 => match S2[n]? with
      | some (.lst xs) => if xs.length < sizeLine then .ok .non (S2.set n (.lst (xs ++ [y]))) else .no
      | _ => .no
    | _ => .no
  | _ => .no
def opPop (x : Val) (S : Store) : Res Val := match x with
  | .ref n => match S[n]? with
    | some (.lst xs) => match xs[xs.length - 1]? with
      | some y => .ok y (S.set n (.lst xs.dropLast))
      | none => .no
    | _ => .no
  | _ => .no
theorem de_app (ho : PE X o (tE c mo)) (ha : PA X [a] (tA c [ma])) (hbase : attributeBase o "append" X.env (eval o X.env) = eval o X.env)
    (hfew : ((backTo pos (starEach [a] X.env)).all (fun x => !x.1) && (backToKw pos (keywordEach [] X.env)).all (fun x => x.1.isSome)
      && decide ([a].length + ([] : List Keyword).length + (if ([] : List Keyword).isEmpty then 0 else 1) < 30)) = true)
    (hline : (apos.endLine == pos.line) = true) (hs : starEach [a] X.env = (false, eval a X.env) :: starEach [] X.env) : PE X (.Call (.Attribute o "append" apos) [a] [] pos) (tE c (cApp mo ma)) :=
  PE.imp (pe_bm PySem.F.plainAttrs_list PySem.F.slot_list_append PySem.F.type_list_append mt_append ho ha hbase hfew hline hs rfl) fun σ H Q h => by
  obtain ⟨M, μ, S, ρ, d, S', sm, l, q, k⟩ := h
  obtain ⟨d0, S1, q1, qq⟩ := Res.bind_eq_ok q
  refine ⟨M, μ, S, ρ, d0, S1, sm, l, q1, fun M1 μ1 H1 v0 e1 s1 r1 => ?_⟩
  split at qq
  · rename_i n
    split at qq
    · rename_i ys hys
      obtain ⟨d1, S2, q2, q3⟩ := Res.bind_eq_ok qq
      have hev : evs [ma] ρ S1 = .ok [d1] S2 := by simp only [evs, q2, Res.bind_ok]
      split at q3
      · rename_i xs hs
        split at q3
        · rename_i hz
          cases q3
          obtain ⟨hn, rfl⟩ := r1.ref_inv
          obtain ⟨m0, us0, t0, _⟩ := s1.cell _ _ hys
          refine ⟨.inl ⟨rfl, _, SqL.of t0⟩, M1, μ1, S1, ρ, [d1], S2, s1, l.ext e1, hev, fun M2 μ2 H2 vs e2 s2 r2 => ?_⟩
          obtain ⟨v1, rfl, rv1⟩ := r2.one_inv
          have hmu : μ2 n = μ1 n := e2.mu n hn
          obtain ⟨m, us, t, q4⟩ := s2.cell _ _ hs
          have eW : Ext M2 μ2 S2.length H2 M2 μ2 S2.length (upd H2 (μ2 n) (.lst (us ++ [v1]))) := Ext.write m
          refine ⟨μ2 n, us, v1, by rw [hmu], rfl, t, by rw [q4.length]; exact hz, ?_⟩
          refine k M2 μ2 _ _ ?_ (s2.write (List.getElem?_eq_some_iff.mp hs).1 ⟨_, upd_same, (q4.append (.cons rv1 .nil)).ext eW⟩) .non
          rw [List.length_set]
          exact (e1.trans e2).trans eW
        · cases q3
      · cases q3
    · cases qq
  · cases qq
theorem de_pop (ho : PE X o (tE c mo)) (hbase : attributeBase o "pop" X.env (eval o X.env) = eval o X.env) (hline : (apos.endLine == pos.line) = true) : PE X (.Call (.Attribute o "pop" apos) [] [] pos) (tE c (c1 opPop mo)) :=
  PE.imp (pe_bm0 PySem.F.plainAttrs_list PySem.F.slot_list_pop PySem.F.type_list_pop mt_pop ho hbase hline) fun σ H Q h => by
  obtain ⟨M, μ, S, ρ, d, S', s, l, q, k⟩ := tE_c1 h
  refine ⟨M, μ, S, ρ, d, S', s, l, q, fun M1 μ1 H1 v e1 s1 r1 => ?_⟩
  obtain ⟨M2, μ2, S2, d2, d3, S3, s2, r2, q2, k2⟩ := k M1 μ1 H1 v e1 s1 r1
  unfold opPop at q2
  split at q2
  · rename_i n
    split at q2
    · rename_i xs hs
      split at q2
      · rename_i y hy
        cases q2
        obtain ⟨hn, rfl⟩ := r2.ref_inv
        obtain ⟨m, us, t, q4⟩ := s2.cell _ _ hs
        obtain ⟨v, hv, rv⟩ := q4.get hy
        have eW : Ext M2 μ2 S2.length H1 M2 μ2 S2.length (upd H1 (μ2 n) (.lst us.dropLast)) := Ext.write m
        refine ⟨.inl ⟨rfl, _, SqL.of t⟩, μ2 n, us, v, rfl, rfl, t, by rw [q4.length]; exact hv, ?_⟩
        unfold KE at k2
        rw [List.length_set] at k2
        exact k2 M2 μ2 _ _ eW (s2.write hn ⟨_, upd_same, q4.dropLast.ext eW⟩) (rv.ext eW)
      · cases q2
    · cases q2
  · cases q2

/-! ### chains -/
def cChn (g g' : Val → Val → Store → Res Val) (ma mb md : Cm) : Cm := fun ρ S => (ma ρ S).bind fun x S1 => (mb ρ S1).bind fun y S2 => (g x y S2).bind fun z S3 => match z with
  | .bl true => (md ρ S3).bind fun w S4 => g' y w S4
  | .bl false => .ok (.bl false) S3
  | _ => .no
def rSO (c : RC) (g : Val → Val → Store → Res Val) : R2 := fun x y H Q => ∃ M μ S d1 d2 d S', Sim c M μ S H ∧ VR c M μ S.length H d1 x ∧ VR c M μ S.length H d2 y ∧ g d1 d2 S = .ok d S' ∧ KE c M μ S.length H d S' Q
theorem SO2.opR {f : Value → Value → Sem Value} {g : Val → Val → Store → Res Val} (h : SO2 X c f g) : OpR X f (rSO c g) := by
  intro pins s σ H x y v u Q I r1 r2 hh
  obtain ⟨M, μ, S, d1, d2, d, S', sm, w1, w2, q, k⟩ := hh
  exact h pins s σ H M μ S x y v u d1 d2 d S' Q I sm w1 w2 r1 r2 q k
theorem it_chn {g g' : Val → Val → Store → Res Val} {σ : St} {H : Hp} {Q : VK} (h : tE c (cChn g g' ma mb md) σ H Q) : tChain (rSO c g) (rSO c g') (tE c ma) (tE c mb) (tE c md) σ H Q := by
  obtain ⟨M, μ, S, ρ, d, S', sm, l, q, k⟩ := h
  obtain ⟨x, S1, q1, q⟩ := Res.bind_eq_ok q
  obtain ⟨y, S2, q2, q⟩ := Res.bind_eq_ok q
  obtain ⟨z, S3, q3, q⟩ := Res.bind_eq_ok q
  refine ⟨M, μ, S, ρ, x, S1, sm, l, q1, fun M1 μ1 H1 v1 e1 s1 r1 => ⟨M1, μ1, S1, ρ, y, S2, s1, l.ext e1, q2, fun M2 μ2 H2 v2 e2 s2 r2 => ⟨M2, μ2, S2, x, y, z, S3, s2, r1.ext e2, r2, q3, fun M3 μ3 H3 v3 e3 s3 r3 => ?_⟩⟩⟩
  split at q
  · refine ⟨true, r3.bl_inv, iteT ?_⟩
    obtain ⟨w, S4, q4, q5⟩ := Res.bind_eq_ok q
    exact ⟨M3, μ3, S3, ρ, w, S4, s3, l.ext ((e1.trans e2).trans e3), q4, fun M4 μ4 H4 v4 e4 s4 r4 => ⟨M4, μ4, S4, y, w, d, S', s4, (r2.ext e3).ext e4, r4, q5, k.ext (((e1.trans e2).trans e3).trans e4)⟩⟩
  · cases q
    exact ⟨false, r3.bl_inv, iteF (k _ _ _ _ ((e1.trans e2).trans e3) s3 .bl)⟩
  · cases q
theorem de_chn {op op' : CmpOp} {g g' : Val → Val → Store → Res Val} (h1 : SO2 X c (compareOp op) g) (h2 : SO2 X c (compareOp op') g') (ha : PE X a (tE c ma)) (hb : PE X b (tE c mb)) (hd : PE X d (tE c md)) (hm : lastMarks [op, op'] [b, d] = false) : PE X (.Compare a [op, op'] [b, d] pos) (tE c (cChn g g' ma mb md)) :=
  PE.imp (pe_chain h1.opR h2.opR ha hb hd hm) fun σ H Q h => it_chn h
theorem dt_chn {op op' : CmpOp} {g g' : Val → Val → Store → Res Val} (h1 : SO2 X c (compareOp op) g) (h2 : SO2 X c (compareOp op') g') (ha : PE X a (tE c ma)) (hb : PE X b (tE c mb)) (hd : PE X d (tE c md)) (hm : lastMarks [op, op'] [b, d] = false) : PT X (.Compare a [op, op'] [b, d] pos) (tT c (cChn g g' ma mb md)) :=
  PT.imp (pt_chain h1.opR h2.opR ha hb hd hm) fun σ H Q h => it_chn (tT_val h)

/-! ### in -/
section
variable {prog : Program} {w : World} {A : Around} {E : Value → Shared → Prop} {s : Shared}
open PySem.SeqAt
open AutoSeq1 (wpAny_loadPart')
open MeetsSeq MeetsSeq2 MeetsSeq3 SeqRoads2
theorem tuple_inB {R : Result → Shared → Prop} (l : Addr) (items : Array Value) (n : Nat) (dd : Option Addr) (sl : Array (Option Value)) (x : Value) (f : Nat → Bool) (I : Shared → Prop)
    (turn : ∀ i (h1 : i < items.size) s, I s → wpAny (model prog w) A.in1 (eqBool items[i] x) (fun r s' => r = f i ∧ I s') (fun e s' => R (.error e) s') s)
    (fin : ∀ s, I s → R (.ok (.ret (.bool ((List.range items.size).any f)))) s) {s : Shared} (hl1 : s.heap.get? l = some { cls := .type "tuple", dict := dd, data := .seq items n, slots := sl }) (h : I s) :
    wpAny (model prog w) A.in1 (Builtin.«tuple.__contains__» ⟨[.ref l, x], []⟩) (FinOf prog w A R) (fun e s' => R (.error e) s') s := by
  have h0 := h
  obtain ⟨hp, g, d, tk, os⟩ := s
  wp_walk using wpAny_loadPart' hl1, wpAny_forIn_array _ (fun rest b s' => b.1 = none ∧ I s' ∧ ∃ i, rest = items.toList.drop i ∧ (∀ s, I s → R (.ok (.ret (.bool (((List.range items.size).drop i).any f)))) s)) _
  case turn =>
    rintro y rest b s' ⟨hb', hI, i, hz, hR⟩
    have hlt : i < items.size := by
      rcases Nat.lt_or_ge i items.toList.length with h' | h'
      · simpa using h'
      · rw [List.drop_of_length_le h'] at hz; cases hz
    rw [List.drop_eq_getElem_cons (by simpa using hlt)] at hz
    injection hz with hy hrest
    have hy : y = items[i] := by simpa using hy
    subst hy
    have hd : (List.range items.size).drop i = i :: (List.range items.size).drop (i + 1) := by simp [List.drop_eq_getElem_cons, hlt]
    rw [hd] at hR
    refine wpAny_bind (wpAny_mono (turn i hlt s' hI) (fun r s2 q2 => ?_) fun _ _ x => x)
    obtain ⟨hr, q2⟩ := q2
    subst hr
    cases hy : f i with
    | true =>
      have hF := hR s2 q2
      obtain ⟨hp2, g2, d2, tk2, os2⟩ := s2
      wp_walk
      simpa [hy] using hF
    | false =>
      obtain ⟨hp2, g2, d2, tk2, os2⟩ := s2
      wp_walk
      exact ⟨rfl, q2, i + 1, hrest, fun s hs => by simpa [hy] using hR s hs⟩
  case fin =>
    rintro ⟨b1, b2⟩ s' ⟨hb', hI, i, hz, hR⟩
    simp only at hb'
    subst hb'
    have hge : items.size ≤ i := by
      rcases Nat.lt_or_ge i items.toList.length with h' | h'
      · rw [List.drop_eq_getElem_cons h'] at hz; cases hz
      · simpa using h'
    have hF := hR s' hI
    rw [List.drop_of_length_le (by simpa using hge)] at hF
    wp_walk
    simpa using hF
  case h =>
    exact ⟨rfl, h0, 0, rfl, fun s hs => by simpa using fin s hs⟩
theorem in_tupB {l : Addr} {items : Array Value} {x : Value} {Q : Value → Shared → Prop} (neg : Bool) (f : Nat → Bool) (I : Shared → Prop) (hl : s.heap.IsTuple l items)
    (turn : ∀ i (h1 : i < items.size) s, I s → wpAny (model prog w) A.in1 (eqBool items[i] x) (fun r s' => r = f i ∧ I s') E s)
    (fin : ∀ s, I s → Q (.bool (neg != (List.range items.size).any f)) s) (h : I s) : wpAny (model prog w) A (compareOp (if neg then .NotIn else .In) x (.ref l)) Q E s := by
  obtain ⟨⟨cls, dd, data, sl⟩, ho, hc, n, hd⟩ := id hl
  simp only at hc hd
  subst hc hd
  have hT : s.TypeIs (.ref l) "tuple" := ⟨_, ho, rfl⟩
  cases neg with
  | false =>
    show wpAny _ A (do return .bool (← contains (.ref l) x)) Q E s
    refine wpAny_bind (wpAny_contains_slot hT F.slot_tuple_contains (wpAny_mono (Q := fun v s' => ∃ b, v = .bool b ∧ Q (.bool b) s') (GQ.call_here F.slot_tuple_contains hT F.entry_tuple_contains (F.args_tuple_contains_2 _ _) ?_) (fun v s' hv => ?_) fun _ _ e => e))
    · exact tuple_inB (R := wants (fun v s' => ∃ b, v = .bool b ∧ Q (.bool b) s') E) l items n dd sl x f I turn (fun s' q => ⟨_, rfl, by simpa using fin s' q⟩) ho h
    · obtain ⟨b, rfl, hq⟩ := hv
      exact wpAny_truthy_bool (wpAny_pure hq)
  | true =>
    show wpAny _ A (do return .bool (!(← contains (.ref l) x))) Q E s
    refine wpAny_bind (wpAny_contains_slot hT F.slot_tuple_contains (wpAny_mono (Q := fun v s' => ∃ b, v = .bool b ∧ Q (.bool (!b)) s') (GQ.call_here F.slot_tuple_contains hT F.entry_tuple_contains (F.args_tuple_contains_2 _ _) ?_) (fun v s' hv => ?_) fun _ _ e => e))
    · exact tuple_inB (R := wants (fun v s' => ∃ b, v = .bool b ∧ Q (.bool (!b)) s') E) l items n dd sl x f I turn (fun s' q => ⟨_, rfl, by simpa using fin s' q⟩) ho h
    · obtain ⟨b, rfl, hq⟩ := hv
      exact wpAny_truthy_bool (wpAny_pure hq)
end
/-- in a row, by == -/
def vin (f : Val → Val → Option Bool) (x : Val) : List Val → Option Bool
  | [] => some false
  | y :: ys => match f y x, vin f x ys with
    | some a, some b => some (a || b)
    | _, _ => none
theorem vin_get {f : Val → Val → Option Bool} {x : Val} : ∀ {ys : List Val} {b : Bool}, vin f x ys = some b → (∀ (i : Nat) y, ys[i]? = some y → ∃ k, f y x = some k) ∧
    (List.range ys.length).any (fun i => match ys[i]? with | some y => f y x == some true | none => false) = b
  | [], b, h => by
    cases h
    exact ⟨fun i y h => by simp at h, rfl⟩
  | y :: ys, b, h => by
    unfold vin at h
    split at h
    · rename_i a b' e1 e2
      cases h
      obtain ⟨h1, h2⟩ := vin_get e2
      refine ⟨fun i y' g => ?_, ?_⟩
      · cases i with
        | zero => simp at g; subst g; exact ⟨a, e1⟩
        | succ i => exact h1 i y' (by simpa using g)
      · rw [List.length_cons, List.range_succ_eq_map, List.any_cons, List.any_map]
        rw [← h2]
        congr 1
        simp [e1]
    · cases h
variable {eqc : Nat → Bool} {lv : Nat}
def opIn (eqc : Nat → Bool) (neg : Bool) (x y : Val) (S : Store) : Res Val := match y with
  | .tup ys => match vin (veq eqc DEEP) x ys with
    | some b => .ok (.bl (neg != b)) S
    | none => .no
  | _ => .no
theorem so_in (hK : X.K = c.K) (EF : EqFns X c eqc lv) (hr : Room (lv + (DEEP + 1)) X.A) (gd : X.A.guards = some []) (neg : Bool) : SO2 X c (compareOp (if neg then .NotIn else .In)) (opIn eqc neg) := by
  intro pins s σ H M μ S x y v u d1 d2 d S' Q I sm r1 r2 rv ru q k
  unfold opIn at q
  split at q
  · rename_i ys
    split at q
    · rename_i b hb
      cases q
      obtain ⟨a2, vs, rfl, t2, q2⟩ := r2.tup_inv
      cases ru
      obtain ⟨its, r, e, z⟩ := I.tuple (hK ▸ t2.sq)
      obtain ⟨hs, hbb⟩ := vin_get hb
      have l1 : its.toArray.size = ys.length := by rw [List.size_toArray, ← r.length, q2.length]
      refine in_tupB neg (fun i => match ys[i]? with | some y => veq eqc DEEP y d1 == some true | none => false) (EqI X c pins σ H M μ S) e (fun i h1 s' l => ?_) (fun s' q => ?_) (.here I sm)
      · obtain ⟨M1, μ1, H1, I1, e1, sm1⟩ := l
        have g1 : its[i]? = some its.toArray[i] := by
          have h1' : i < its.length := by simpa using h1
          rw [List.getElem?_eq_getElem h1'] <;> simp
        have k1 : i < vs.length := by rw [r.length]; simpa using h1
        obtain ⟨u, hu, ru⟩ := r.get (List.getElem?_eq_getElem k1)
        rw [g1] at hu
        obtain ⟨d2, p1, w1⟩ := q2.get' (List.getElem?_eq_getElem k1)
        obtain ⟨kk, hk⟩ := hs i d2 p1
        rw [p1]
        simp only [hk]
        rw [Option.some.inj hu]
        refine wpAny_mono (veq_ok hK EF DEEP d2 d1 kk hk X.A.in1 pins s' σ H1 M1 μ1 S _ _ u v (SubG.in1 ⟨hr, rfl, gd⟩) I1 sm1 (w1.ext e1) (r1.ext e1) ru rv) (fun r s2 q => ?_) fun _ _ x => x
        obtain ⟨hr, M2, μ2, H2, I2, e2, sm2⟩ := q
        refine ⟨by rw [hr]; cases kk <;> rfl, M2, μ2, H2, I2, e1.trans e2, sm2⟩
      · refine q.ke k ?_
        rw [l1, hbb]
    · cases q
  · cases q
end
end Pi
set_option Elab.async false
set_option linter.all false
set_option maxRecDepth 100000
set_option maxHeartbeats 4000000
/-! Pi12: a starred target, comprehensions of two clauses. -/
namespace Pi
open PySem L2
open PyProof.Rows hiding St
open Classical

section
variable {X : Cx} {c : RC} {e : Expr} {es : List Expr} {pos : Pos}
def gStar (i n : Nat) (gs : List Tg) : Tg := fun d ρ S => match lstItems d S with
  | some xs => if i < n ∧ n ≤ xs.length + 1 ∧ xs.length ≤ 16384 then gAll gs (xs.take i ++ [.lst ((xs.drop i).take (xs.length + 1 - n))] ++ (xs.drop i).drop (xs.length + 1 - n)) ρ S else .no
  | none => .no
theorem pgs_starred {t : TGs} (hs : notStar e = true) (h : PGs X (e :: es) t) : PGs X (.Starred e pos :: es) t := ⟨fun pins s σ H vs us Q I r q => by
  have e1 : (assignEach (.Starred e pos :: es) X.env).map (·.2) = assign e X.env :: (assignEach es X.env).map (·.2) := rfl
  have := h.run pins s σ H vs us Q I r q
  rw [assign_cons hs] at this
  rw [e1]
  exact this⟩
theorem dg_star {k i : Nat} {gs : List Tg} (hK : X.K = c.K) (hc : X.calm = true) (h : PGs X es (tGs c gs)) (hn : (assignEach es X.env).length = gs.length) (hst : (assignEach es X.env).findIdx? (·.1) = some i) : PG X (.Tuple es k pos) (tG c (gStar i gs.length gs)) := by
  refine ⟨fun pins s σ H v u Q I r hw => ?_⟩
  obtain ⟨M, μ, S, d, ρ, ρ', S', sm, l, rd, q, kk⟩ := hw
  unfold gStar at q
  split at q
  · rename_i xs hx
    split at q
    · rename_i hlen
      obtain ⟨hi, hlen, hz0⟩ := hlen
      obtain ⟨a, us, rfl, hq, rv⟩ := lstItems_rel hx sm rd
      cases r
      obtain ⟨its, ri, pl, hz⟩ := I.list (hK ▸ hq)
      have hl : s.heap.IsList a its.toArray := by
        obtain ⟨o, m, e, c, d, q⟩ := pl
        exact ⟨o, e, c, m, q⟩
      have hlz : its.length = xs.length := by rw [← ri.length, rv.length]
      rw [PyProof.Rows.assign_Tuple]
      refine wpAny_bind (wpAny_standAt ?_)
      unfold unpack
      rw [hn, hst]
      refine wpAny_bind (wpAny_holding ?_)
      generalize hnn : gs.length = n
      rw [hnn] at hi hlen q
      have hlt : a ≠ s.heap.objs.size := by obtain ⟨o, ho, _⟩ := hl; exact Nat.ne_of_lt (Heap.lt_size ho)
      unfold unpackItems
      refine wpAny_bind ?_
      unfold notIterableAtAll
      refine wpAny_bind (wpAny_specialOf hl.typeIs slot_list_iter.lookup ?_)
      refine wpAny_pure ?_
      simp only [Bool.false_eq_true, if_false]
      refine wpAny_bind (wpAny_holding (wpAny_pyIter_list hl ?_))
      refine wpAny_bind (wpAny_holding (PySem.W.kun_draw hlt i 0 _ _ ⟨_, Heap.get?_push_size _ rfl, rfl, rfl⟩ (hl.push _) (by simp; omega) fun h₁ hit₁ hs₁ => ?_))
      have hl₁ : h₁.IsList a its.toArray := (hl.push _).extBut hs₁.extBut hlt
      rw [Nat.zero_add] at hit₁
      have hit₁' := hit₁
      obtain ⟨oi, hoi, _⟩ := hit₁'
      have hl₁' := hl₁
      obtain ⟨ol, hol, _⟩ := hl₁'
      rw [List.drop_zero]
      have hfl : (its.toArray.toList.take i).length = i := by simp; omega
      rw [if_neg (show ¬ ((its.toArray.toList.take i).length < i) by rw [hfl]; omega)]
      refine wpAny_bind (wpAny_holding (PySem.W.kun_collect (s := { s with heap := h₁ }) (T := "list_iterator") (.inr (.inr (.inl rfl))) (Walks.list (A := X.A.in1) (I.ok.hd hc) s.heap.objs.size a hlt its.toArray) (fun j u st => st.1.typeIs) (k := i) (by simp; omega) ⟨hit₁, hl₁⟩ (Heap.lt_size hoi) (Heap.lt_size hol) (fun h₂ tk hk => ?_) (by rw [sizeLine_eq]; simp; omega)))
      have hrl : (its.toArray.toList.drop i).length = its.length - i := by simp
      have hmid : (its.toArray.toList.drop i).length - (n - 1 - i) = xs.length + 1 - n := by rw [hrl]; omega
      show wpAny _ _ (if (its.toArray.toList.drop i).length < n - 1 - i then _ else _) _ _ _
      rw [if_neg (by rw [hrl]; omega)]
      show wpAny _ _ (newList ((its.toArray.toList.drop i).take ((its.toArray.toList.drop i).length - (n - 1 - i))) >>= fun d => pure (its.toArray.toList.take i ++ [d] ++ (its.toArray.toList.drop i).drop ((its.toArray.toList.drop i).length - (n - 1 - i)))) _ _ _
      rw [hmid]
      have he : ∀ b o, s.heap.get? b = some o → h₂.get? b = some o := fun b o e => hk b o (Nat.ne_of_lt (Heap.lt_size e)) (hs₁.extBut b o (Nat.ne_of_lt (Heap.lt_size e)) (Heap.get?_push_of_some _ e))
      have I1 : Inv X pins σ H { s with heap := h₂, toks := tk } := I.kept (t' := tk) he
      have rmid : Vals ((us.drop i).take (xs.length + 1 - n)) ((its.drop i).take (xs.length + 1 - n)) := (ri.drop i).take _
      have I2 := I1.lnew (t' := tk) rmid (by rw [List.length_take, List.length_drop, sizeLine_eq]; have := rv.length; omega)
      have hn0 : H h₂.objs.size = none := I1.fresh
      refine wpAny_bind (wpAny_newList (wpAny_pure ?_) (by simp; rw [sizeLine_eq]; omega))
      have eN : Ext M μ S.length H (own M h₂.objs.size .val) μ S.length (upd H h₂.objs.size (.lst ((us.drop i).take (xs.length + 1 - n)))) := Ext.new hn0
      have rvN := rv.ext eN
      have rAll : VRs c (own M h₂.objs.size .val) μ S.length (upd H h₂.objs.size (.lst ((us.drop i).take (xs.length + 1 - n)))) (xs.take i ++ [.lst ((xs.drop i).take (xs.length + 1 - n))] ++ (xs.drop i).drop (xs.length + 1 - n)) (us.take i ++ [.ref h₂.objs.size] ++ (us.drop i).drop (xs.length + 1 - n)) :=
        ((rvN.take i).append (.cons (.lst own_same upd_same ((rvN.drop i).take _)) .nil)).append ((rvN.drop i).drop _)
      have vAll : Vals (us.take i ++ [.ref h₂.objs.size] ++ (us.drop i).drop (xs.length + 1 - n)) (its.toArray.toList.take i ++ [.ref h₂.objs.size] ++ (its.toArray.toList.drop i).drop (xs.length + 1 - n)) :=
        ((ri.take i).append (.cons (show RelV (V.ref h₂.objs.size) (.ref h₂.objs.size) from rfl) .nil)).append ((ri.drop i).drop _)
      have I2' : Inv X pins σ (upd H h₂.objs.size (.lst ((us.drop i).take (xs.length + 1 - n)))) { s with heap := h₂.push { cls := .type "list", data := .seq ((its.toArray.toList.drop i).take (xs.length + 1 - n)).toArray }, toks := tk } := I2
      refine h.run pins _ σ _ _ _ Q I2' vAll ?_
      exact ⟨_, μ, S, _, ρ, ρ', S', sm.new hn0, l.ext eN, rAll, q, fun M' μ' H' σ' e' s' l' => kk M' μ' H' σ' (eN.trans e') s' l'⟩
    · cases q
  · cases q

/-! ### comprehensions of two clauses -/
noncomputable def lcIn (ck : Store → Prop) (pt : Pat) (mt me : Cm) (ρ : Loc) : List Val → List Val → Store → Res (List Val)
  | [], acc, S => if ck S then .ok acc S else .no
  | d :: r, acc, S => if ck S then (match pt.put d ρ with
    | some ρ1 => (mt ρ1 S).bind fun b S1 => match b with
      | .bl true => (me ρ1 S1).bind fun y S2 => if acc.length < sizeLine then lcIn ck pt mt me ρ r (acc ++ [y]) S2 else .no
      | .bl false => lcIn ck pt mt me ρ r acc S1
      | _ => .no
    | none => .no) else .no
noncomputable def lcOut (ck : Store → Prop) (pt : Pat) (mt : Cm) (it1 : Itm) (vs1 : List Nat) (pt1 : Pat) (mt1 me : Cm) (ρ : Loc) : List Val → List Val → Store → Res (List Val)
  | [], acc, S => if ck S then .ok acc S else .no
  | d :: r, acc, S => if ck S then (match pt.put d ρ with
    | some ρ1 => (mt ρ1 S).bind fun b S1 => match b with
      | .bl true => (it1 ρ1 S1).bind fun p S2 => (lcIn (chk p.1 p.2) pt1 mt1 me (wipeD ρ1 vs1) p.1 acc S2).bind fun acc2 S3 => lcOut ck pt mt it1 vs1 pt1 mt1 me ρ r acc2 S3
      | .bl false => lcOut ck pt mt it1 vs1 pt1 mt1 me ρ r acc S1
      | _ => .no
    | none => .no) else .no
noncomputable def cLc2 (cell : Bool) (it : Itm) (own vs1 : List Nat) (pt : Pat) (mt : Cm) (it1 : Itm) (pt1 : Pat) (mt1 me : Cm) : Cm := fun ρ S => (it ρ S).bind fun p S1 => (lcOut (chk p.1 p.2) pt mt it1 vs1 pt1 mt1 me (wipeD ρ own) p.1 [] S1).bind fun ds S2 =>
  if cell then .ok (.ref S2.length) (S2 ++ [.lst ds]) else .ok (.lst ds) S2
theorem it_lc2 {own' : List (Str × Nat)} {vs1 : List Nat} {it it1 : Itm} {pt pt1 : Pat} {mt mt1 me : Cm} (cell : Bool) (hown : ∀ i ∈ pt.slots, i ∈ own'.map (·.2)) (hown1 : ∀ i ∈ pt1.slots, i ∈ vs1) {σ : St} {H0 : Hp} {Q : VK} (h : tE c (cLc2 cell it (own'.map (·.2)) vs1 pt mt it1 pt1 mt1 me) σ H0 Q) :
    tLc2 (tI c it) (tPat c pt) (tT c mt) (tI c it1) (tPat c pt1) (tT c mt1) (tE c me) (own'.map (·.2)) vs1 σ H0 Q := by
  obtain ⟨M, μ, S, ρ, d, S', s, l, q, k⟩ := h
  obtain ⟨⟨ds, o⟩, S1, q1, q⟩ := Res.bind_eq_ok q
  obtain ⟨res, S2, q2, q3⟩ := Res.bind_eq_ok q
  simp only at q2
  generalize hvs : own'.map (·.2) = vs at *
  refine ⟨M, μ, S, ρ, ds, o, S1, s, l, q1, fun M1 μ1 H1 J e1 sm1 yl => ?_⟩
  intro D hD
  have eD : Ext M1 μ1 S1.length H1 (own M1 D .held) μ1 S1.length (L2.upd H1 D (.lst [])) := Ext.new hD
  refine ⟨fun i n H => n = ds.length - i ∧ i ≤ ds.length ∧ ∃ M2 μ2 Sc acc us, Sim c M2 μ2 Sc H ∧ LR c M2 μ2 Sc.length H (wipeD ρ vs) (L2.wipe σ vs) ∧ Ext M1 μ1 S1.length H1 M2 μ2 Sc.length H ∧ M2 D = .held ∧ H D = some (.lst us) ∧ VRs c M2 μ2 Sc.length H acc us ∧
      lcOut (chk ds o) pt mt it1 vs1 pt1 mt1 me (wipeD ρ vs) (ds.drop i) acc Sc = .ok res S2,
    ⟨ds.length, by simp, Nat.zero_le _, own M1 D .held, μ1, S1, [], [], sm1.new hD, ((l.ext e1).wipe _).ext eD, eD, own_same, upd_same, .nil, q2⟩, fun i n H hW => ?_⟩
  obtain ⟨rfl, hi, M2, μ2, Sc, acc, us, sm2, l2, e2, hM, hH, ra, q4⟩ := hW
  by_cases hlt : i < ds.length
  · rw [List.drop_eq_getElem_cons hlt] at q4
    unfold lcOut at q4
    split at q4
    · rename_i hck
      split at q4
      · rename_i ρ1 hput
        obtain ⟨hgo, hy⟩ := yl.go M2 μ2 Sc H e2.cy sm2 hck i ds[i] (List.getElem?_eq_getElem hlt)
        refine .inr ⟨hgo, fun H => i + 1 ≤ ds.length ∧ ∃ M2 μ2 Sc acc us, Sim c M2 μ2 Sc H ∧ LR c M2 μ2 Sc.length H (wipeD ρ vs) (L2.wipe σ vs) ∧ Ext M1 μ1 S1.length H1 M2 μ2 Sc.length H ∧ M2 D = .held ∧ H D = some (.lst us) ∧ VRs c M2 μ2 Sc.length H acc us ∧
            lcOut (chk ds o) pt mt it1 vs1 pt1 mt1 me (wipeD ρ vs) (ds.drop (i + 1)) acc Sc = .ok res S2,
          fun H' hw => ⟨ds.length - (i + 1), by omega, rfl, hw⟩, fun x H' hyl => ?_⟩
        obtain ⟨M3, e3, sm3, r3, hheld⟩ := hy x H' hyl
        obtain ⟨hH3, hM3⟩ := hheld D _ hH hM
        refine ⟨M3, μ2, Sc.length, ds[i], _, ρ1, l2.ext e3, r3, hput, fun σ2 l3 ag => ⟨wipe_agree hown ag, ?_⟩⟩
        obtain ⟨b, S3, q5, q6⟩ := Res.bind_eq_ok q4
        have hmon : ∀ {M4 : Addr → Own} {μ4 : Nat → Addr} {N4 : Nat} {H4 : Hp}, Ext M3 μ2 Sc.length H' M4 μ4 N4 H4 → M4 D = .held ∧ H4 D = some (.lst us) := fun e => by
          obtain ⟨h1, h2⟩ := e.keep D _ hH3 (by rw [hM3]; decide)
          exact ⟨h2.trans hM3, h1⟩
        split at q6
        · obtain ⟨⟨ds1, o1⟩, S4, q7, q8⟩ := Res.bind_eq_ok q6
          obtain ⟨acc2, S5, q9, q10⟩ := Res.bind_eq_ok q8
          simp only at q9
          refine ⟨M3, μ2, Sc, ρ1, true, S3, sm3, l3, q5, fun M4 μ4 H4 e4 sm4 => iteT ?_⟩
          refine ⟨M4, μ4, S3, ρ1, ds1, o1, S4, sm4, l3.ext e4, q7, fun M5 μ5 H5 J1 e5 sm5 yl1 => ?_⟩
          obtain ⟨hM5, hH5⟩ := hmon (e4.trans e5)
          have eA := (e3.trans e4).trans e5
          refine ⟨fun j n H => n = ds1.length - j ∧ j ≤ ds1.length ∧ ∃ M6 μ6 Sc acc us, Sim c M6 μ6 Sc H ∧ LR c M6 μ6 Sc.length H (wipeD ρ1 vs1) (L2.wipe σ2 vs1) ∧ Ext (cy M5) μ5 S4.length H5 (cy M6) μ6 Sc.length H ∧ Ext M1 μ1 S1.length H1 M6 μ6 Sc.length H ∧ LR c M6 μ6 Sc.length H (wipeD ρ vs) (L2.wipe σ vs) ∧ M6 D = .held ∧ H D = some (.lst us) ∧ VRs c M6 μ6 Sc.length H acc us ∧
              lcIn (chk ds1 o1) pt1 mt1 me (wipeD ρ1 vs1) (ds1.drop j) acc Sc = .ok acc2 S5,
            ⟨ds1.length, by simp, Nat.zero_le _, M5, μ5, S4, acc, us, sm5, ((l3.ext e4).ext e5).wipe _, .refl, e2.trans eA, l2.ext eA, hM5, hH5, ra.ext eA, q9⟩, fun j n H hW1 => ?_⟩
          obtain ⟨rfl, hj, M6, μ6, Sd, acc6, us6, sm6, l6, e6, e16, l26, hM6, hH6, ra6, q11⟩ := hW1
          by_cases hlt1 : j < ds1.length
          · rw [List.drop_eq_getElem_cons hlt1] at q11
            unfold lcIn at q11
            split at q11
            · rename_i hck1
              split at q11
              · rename_i ρ7 hput1
                obtain ⟨hgo1, hy1⟩ := yl1.go M6 μ6 Sd H e6 sm6 hck1 j ds1[j] (List.getElem?_eq_getElem hlt1)
                refine .inr ⟨hgo1, fun H => j + 1 ≤ ds1.length ∧ ∃ M6 μ6 Sc acc us, Sim c M6 μ6 Sc H ∧ LR c M6 μ6 Sc.length H (wipeD ρ1 vs1) (L2.wipe σ2 vs1) ∧ Ext (cy M5) μ5 S4.length H5 (cy M6) μ6 Sc.length H ∧ Ext M1 μ1 S1.length H1 M6 μ6 Sc.length H ∧ LR c M6 μ6 Sc.length H (wipeD ρ vs) (L2.wipe σ vs) ∧ M6 D = .held ∧ H D = some (.lst us) ∧ VRs c M6 μ6 Sc.length H acc us ∧
                    lcIn (chk ds1 o1) pt1 mt1 me (wipeD ρ1 vs1) (ds1.drop (j + 1)) acc Sc = .ok acc2 S5,
                  fun H' hw => ⟨ds1.length - (j + 1), by omega, rfl, hw⟩, fun x1 H7 hyl1 => ?_⟩
                obtain ⟨M7, e7, sm7, r7, hheld1⟩ := hy1 x1 H7 hyl1
                obtain ⟨hH7, hM7⟩ := hheld1 D _ hH6 hM6
                refine ⟨M7, μ6, Sd.length, ds1[j], _, ρ7, l6.ext e7, r7, hput1, fun σ7 l7 ag1 => ⟨wipe_agree hown1 ag1, ?_⟩⟩
                obtain ⟨b7, S7, q12, q13⟩ := Res.bind_eq_ok q11
                have hmon1 : ∀ {M4 : Addr → Own} {μ4 : Nat → Addr} {N4 : Nat} {H4 : Hp}, Ext M7 μ6 Sd.length H7 M4 μ4 N4 H4 → M4 D = .held ∧ H4 D = some (.lst us6) := fun e => by
                  obtain ⟨h1, h2⟩ := e.keep D _ hH7 (by rw [hM7]; decide)
                  exact ⟨h2.trans hM7, h1⟩
                split at q13
                · obtain ⟨y, S8, q14, q15⟩ := Res.bind_eq_ok q13
                  split at q15
                  · rename_i hlen
                    refine ⟨M7, μ6, Sd, ρ7, true, S7, sm7, l7, q12, fun M8 μ8 H8 e8 sm8 => iteT ?_⟩
                    refine ⟨M8, μ8, S7, ρ7, y, S8, sm8, l7.ext e8, q14, fun M9 μ9 H9 v e9 sm9 r9 => ?_⟩
                    obtain ⟨hM9, hH9⟩ := hmon1 (e8.trans e9)
                    have eB := (e7.trans e8).trans e9
                    refine ⟨us6, hH9, by rw [ra6.length]; exact hlen, hlt1, M9, μ9, S8, acc6 ++ [y], us6 ++ [v], sm9.upd hM9, (l6.ext eB).upd hM9, Ext.cyUpd hM5 (e6.trans eB.cy), Ext.upd hD (e16.trans eB), (l26.ext eB).upd hM9, hM9, upd_same, VRs.upd hM9 ((ra6.ext eB).append (.cons r9 .nil)), q15⟩
                  · cases q15
                · refine ⟨M7, μ6, Sd, ρ7, false, S7, sm7, l7, q12, fun M8 μ8 H8 e8 sm8 => iteF ?_⟩
                  obtain ⟨hM8, hH8⟩ := hmon1 e8
                  have eB := e7.trans e8
                  exact ⟨hlt1, M8, μ8, S7, acc6, us6, sm8, l6.ext eB, e6.trans eB.cy, e16.trans eB, l26.ext eB, hM8, hH8, ra6.ext eB, q13⟩
                · cases q13
              · cases q11
            · cases q11
          · have hl : j = ds1.length := by omega
            subst hl
            rw [List.drop_length] at q11
            unfold lcIn at q11
            split at q11
            · rename_i hck1
              cases q11
              refine .inl ⟨yl1.stop M6 μ6 _ H e6 sm6 hck1, hlt, M6, μ6, _, _, us6, sm6, l26, e16, hM6, hH6, ra6, q10⟩
            · cases q11
        · refine ⟨M3, μ2, Sc, ρ1, false, S3, sm3, l3, q5, fun M4 μ4 H4 e4 sm4 => iteF ?_⟩
          obtain ⟨hM4, hH4⟩ := hmon e4
          have eA := e3.trans e4
          exact ⟨hlt, M4, μ4, S3, acc, us, sm4, l2.ext eA, e2.trans eA, hM4, hH4, ra.ext eA, q6⟩
        · cases q6
      · cases q4
    · cases q4
  · have hl : i = ds.length := by omega
    subst hl
    rw [List.drop_length] at q4
    unfold lcOut at q4
    split at q4
    · rename_i hck
      cases q4
      refine .inl ⟨yl.stop M2 μ2 _ H e2.cy sm2 hck, ?_⟩
      have eF := e1.trans e2
      have hD0 : ∀ {w : Own}, Ext M μ S.length H0 (own M2 D w) μ2 S2.length H := fun {w} => by
        refine ⟨eF.n, eF.mu, fun a o ha hm => ?_⟩
        obtain ⟨h1, h2⟩ := e1.keep a o ha hm
        obtain ⟨h3, h4⟩ := e2.keep a o h1 (by rw [h2]; exact hm)
        exact ⟨h3, (own_ne (ne_of_none h1 hD)).trans (h4.trans h2)⟩
      split at q3
      · cases q3
        have eC : Ext (own M2 D .cell) μ2 S2.length H (own M2 D .cell) (mu1 μ2 S2.length D) (S2.length + 1) H := ⟨Nat.le_succ _, fun n hn => mu1_lt hn, fun a o ha hm => ⟨ha, rfl⟩⟩
        have hl : (S2 ++ [Cell.lst res]).length = S2.length + 1 := by simp
        unfold KE at k
        rw [hl] at k
        refine k (own M2 D .cell) (mu1 μ2 S2.length D) H (.ref D) (hD0.trans eC) (sm2.heldCell hM hH ra) ?_
        have := VR.ref (c := c) (M := own M2 D .cell) (μ := mu1 μ2 S2.length D) (N := S2.length + 1) (H := H) (n := S2.length) (Nat.lt_succ_self _)
        rw [mu1_same] at this
        exact this
      · cases q3
        exact k (own M2 D .val) μ2 H _ hD0 (sm2.held hM) (.lst own_same hH (VRs.swap (own_back hM) ra))
    · cases q4
theorem de_lc2 {elt tg iter tg1 iter1 : Expr} {ifs ifs1 : List Expr} {scope : Scope} {own' : List (Str × Nat)} {vs1 : List Nat} {it it1 : Itm} {pt pt1 : Pat} {mt mt1 me : Cm} (cell : Bool) (hc : X.calm = true) (hN : X.N.Nodup) (hi : PI X tg iter (tI c it)) (ok : BlkOk X.N X.env.scope scope own') (hv : ∀ i ∈ vs1, i ∈ own'.map (·.2))
    (hown : ∀ i ∈ pt.slots, i ∈ own'.map (·.2)) (hown1 : ∀ i ∈ pt1.slots, i ∈ vs1)
    (hg : ∀ (s : Shared) (H : Hp) (C : Addr) (cl : List (Str × Addr)) (fp : List Addr), PG (X.blk s H scope (compEnvC scope cl C X.env) fp) tg (tPat c pt)) (ht : ∀ (s : Shared) (H : Hp) (C : Addr) (cl : List (Str × Addr)) (fp : List Addr), PTs (X.blk s H scope (compEnvC scope cl C X.env) fp) ifs (tT c mt))
    (hi1 : ∀ (s : Shared) (H : Hp) (C : Addr) (cl : List (Str × Addr)) (fp : List Addr), PI (X.blk s H scope (compEnvC scope cl C X.env) fp) tg1 iter1 (tI c it1))
    (hg1 : ∀ (s : Shared) (H : Hp) (C : Addr) (cl : List (Str × Addr)) (fp : List Addr), PG (X.blk s H scope (compEnvC scope cl C X.env) fp) tg1 (tPat c pt1)) (ht1 : ∀ (s : Shared) (H : Hp) (C : Addr) (cl : List (Str × Addr)) (fp : List Addr), PTs (X.blk s H scope (compEnvC scope cl C X.env) fp) ifs1 (tT c mt1))
    (he : ∀ (s : Shared) (H : Hp) (C : Addr) (cl : List (Str × Addr)) (fp : List Addr), PE (X.blk s H scope (compEnvC scope cl C X.env) fp) elt (tE c me)) (hs : ∀ x, foldedSetIterable iter X.env x = pure x) (hs1 : ∀ env x, foldedSetIterable iter1 env x = pure x) :
    PE X (.ListComp elt [⟨tg, iter, ifs, 0⟩, ⟨tg1, iter1, ifs1, 0⟩] scope pos) (tE c (cLc2 cell it (own'.map (·.2)) vs1 pt mt it1 pt1 mt1 me)) := PE.imp (pe_lc2 hc hN hi ok hv hg ht hi1 hg1 ht1 he hs hs1) fun σ H0 Q h => it_lc2 cell hown hown1 h
end
end Pi
set_option Elab.async false
set_option linter.all false
set_option maxRecDepth 100000
set_option maxHeartbeats 4000000
/-! X6: list(reversed(x)) of a list. -/
namespace PiX
open PySem PySem.Spec L2
open PyProof.Rows hiding St
section
variable {prog : Program} {w : World} {A : Around} {E : Value → Shared → Prop} {s : Shared} {it l : Addr} {items : Array Value}
abbrev RevP (items : Array Value) : Nat → Value → Prop := fun i v => items[items.size - 1 - i]? = some v
theorem rl_extend {R : Result → Shared → Prop} (hh : A.handled = none) (hit : s.heap.IsRevIter it l ((items.size : Int) - 1)) (hl : s.heap.IsList l items) (hne : l ≠ it) (hn : items.size ≤ sizeLine) (D : Addr) (h1 : D ≠ it) (h2 : D ≠ l) (c0 : Nat)
    (hD : s.heap.get? D = some { cls := .type "list", data := .seq #[] c0 })
    (hR : ∀ h' tk ac c', (∀ b o, b ≠ D → b ≠ it → s.heap.get? b = some o → h'.get? b = some o) → h'.get? D = some { cls := .type "list", dict := none, data := .seq ac c', slots := #[] } → ItemsOf (RevP items) ac items.size → R (.ok (.ret .none)) { s with heap := h', toks := tk }) :
    wpAny (model prog w) A.in1 (Builtin.List.listExtendWith (.ref D) (.ref it) .none)
      (fun fin s' => match fin with | .done f => R (.ok f) s' | .again c' => c'.quiet = true ∧ codeAny (model prog w) A c' R s') (fun e s' => R (.error e) s') s := by
  have W := (Walks.listRev (prog := prog) (w := w) (A := A.in1) hh it l hne items).toS
  have hf : D ∉ [it, l] := by
    simp only [List.mem_cons, List.not_mem_nil, or_false, not_or]
    exact ⟨h1, h2⟩
  have hT : s.TypeIs (.ref it) "list_reverseiterator" := hit.typeIs
  have e1 : Builtin.List.listSameRef (.ref D) (.ref it) = false := by simp [Builtin.List.listSameRef, h1]
  unfold Builtin.List.listExtendWith
  refine wpAny_bind (wpAny_typeOf hT ?_)
  rw [if_neg (by rw [e1]; decide)]
  refine wpAny_bind (wpAny_pyIter_revIter hit ?_)
  refine wpAny_bind (wpAny_holding ?_)
  unfold Builtin.List.listLengthHint
  refine wpAny_bind (wpAny_specialOf hT RT.nolen_lri ?_)
  show wpAny _ A.in1 (specialOf (Value.ref it) (Str.ofString "__length_hint__") >>= _) _ _ _
  refine wpAny_bind (wpAny_specialOf hT RT.hint_lri ?_)
  generalize hid : ("list_reverseiterator.__length_hint__" : String) = id0
  wp_delta
  rw [show splitId id0 = some ("list_reverseiterator", "__length_hint__") from by subst hid; decide +kernel]
  subst hid
  refine wpAny_bind (wpAny_isInstance (b := true) hT (by rw [isSubtype_type]; kernel_rfl) ?_)
  refine wpAny_pure ?_
  rw [if_neg (by decide)]
  have e0 : ((items.size : Nat) : Int) - 1 - ((0 : Nat) : Int) = (items.size : Int) - 1 := by omega
  refine wpAny_pure ⟨plainId_quiet F.plain_extend_loop _, codeAny_extend_loopS W hn D hf .none items.size 0 _ _ _ rfl (Nat.zero_le _) ⟨Nat.zero_le _, by rw [e0]; exact hit, hl⟩ hD (ItemsOf.nil _) fun s' ac c' hm hS hacc => ?_⟩
  rw [Moved.eq_with hm]
  refine hR s'.heap s'.toks ac c' (fun b o hb hb2 e => hm.heap b o (fun z => ?_) e) hS hacc
  rcases List.mem_cons.mp z with e' | z
  · exact hb e'
  · exact hb2 (List.mem_singleton.mp z)
theorem rl_call {Q : Value → Shared → Prop} (hh : A.handled = none) (hit : s.heap.IsRevIter it l ((items.size : Int) - 1)) (hl : s.heap.IsList l items) (hne : l ≠ it) (hn : items.size ≤ sizeLine)
    (hQ : ∀ h' tk ac c', (∀ b o, b ≠ it → s.heap.get? b = some o → h'.get? b = some o) → h'.get? s.heap.objs.size = some { cls := .type "list", dict := none, data := .seq ac c', slots := #[] } → ItemsOf (RevP items) ac items.size → Q (.ref s.heap.objs.size) { s with heap := h', toks := tk }) :
    wpAny (model prog w) A (call (.type "list") [.ref it]) Q E s := by
  refine callType_codes (Q₁ := fun obj s1 => obj = .ref s.heap.objs.size ∧ s1 = { s with heap := s.heap.push { cls := .type "list", data := .seq #[] } }) F.called_list (F.typeCall_list_1 _) F.entry_list_init (code_list_new _ ⟨rfl, rfl⟩) fun obj s1 h1 => ?_
  obtain ⟨rfl, rfl⟩ := h1
  obtain ⟨oi, hoi, _⟩ := id hit
  obtain ⟨ol, hol, _⟩ := id hl
  have d1 : s.heap.objs.size ≠ it := Nat.ne_of_gt (Heap.lt_size hoi)
  have d2 : s.heap.objs.size ≠ l := Nat.ne_of_gt (Heap.lt_size hol)
  generalize hD : s.heap.objs.size = D at *
  have hS : (s.heap.push { cls := .type "list", data := .seq #[] }).get? D = some { cls := .type "list", data := .seq #[] } := by
    rw [← hD]
    exact Heap.get?_push_size _ rfl
  refine ⟨⟨_, hS, rfl⟩, F.args_list_init_2 _ _, ?_⟩
  show wpAny _ _ (do let old ← Builtin.List.listItems (.ref D); Builtin.List.listUpdate (.ref D) (fun _ => #[]); letGo old.toList.reverse; Builtin.List.listExtendWith (.ref D) (.ref it) .none) _ _ _
  refine wpAny_bind ?_
  unfold Builtin.List.listItems
  refine wpAny_bind (wpAny_seqItems hS rfl (wpAny_pure ?_))
  show wpAny _ _ (updateSeq D (fun _ => #[]) >>= fun _ => letGo (#[] : Array Value).toList.reverse >>= fun _ => Builtin.List.listExtendWith (.ref D) (.ref it) .none) _ _ _
  refine wpAny_bind (wpAny_updateSeq hS rfl ?_)
  have hS2 := Heap.get?_update_self (Obj.mapSeq (fun _ => (#[] : Array Value))) hS rfl
  have oth : ∀ b o, b ≠ D → (s.heap.push { cls := .type "list", data := .seq #[] }).get? b = some o → ((s.heap.push { cls := .type "list", data := .seq #[] }).update D (Obj.mapSeq (fun _ => (#[] : Array Value)))).get? b = some o := fun b o hb e => (Heap.get?_update_other _ _ (Ne.symm hb)).trans e
  refine wpAny_bind (wpAny_letGo ?_)
  refine rl_extend (A := A.in1) hh (hit.at fun o e => oth _ o d1.symm (Heap.get?_push_of_some _ e)) ((hl.push _).at fun o e => oth _ o d2.symm e) hne hn D d1 d2 _ hS2 fun h' tk ac c' hk hS' hacc => ?_
  refine ⟨rfl, hQ h' tk ac c' (fun b o hb e => ?_) hS' hacc⟩
  have hb2 : b ≠ D := by
    rw [← hD]
    exact Nat.ne_of_lt (Heap.lt_size e)
  exact hk b o hb2 hb (oth b o hb2 (Heap.get?_push_of_some _ e))
end
section
variable {X : Cx}
/-- list(reversed(e)), e a list: a new list -/
def tListRev (K : PySem.W.Frag) (te : TE) : TE := fun σ H Q => te σ H fun v H1 => ∃ (a : Addr) (xs : List V), v = .ref a ∧ SqL K H1 a xs ∧ ∀ q, H1 q = none → Q (.ref q) (upd H1 q (.lst xs.reverse))
theorem pe_listRev {e : Expr} {te : TE} {p p2 pos pos2 : Pos} (hc : X.calm = true) (hg : Gl X "list") (hm : X.mg "list" = none) (hg2 : Gl X "reversed") (hm2 : X.mg "reversed" = none) (he : PE X e te)
    (hs : starEach [e] X.env = (false, eval e X.env) :: starEach [] X.env)
    (hs2 : starEach [.Call (.Name "reversed" p2) [e] [] pos2] X.env = (false, eval (.Call (.Name "reversed" p2) [e] [] pos2) X.env) :: starEach [] X.env) :
    PE X (.Call (.Name "list" p) [.Call (.Name "reversed" p2) [e] [] pos2] [] pos) (tListRev X.K te) := by
  refine ⟨fun pins s σ H Q I h => ?_⟩
  have inner : wpAny (model X.prog X.w) X.A (eval (.Call (.Name "reversed" p2) [e] [] pos2) X.env) (fun v s1 => wpAny (model X.prog X.w) X.A (call (.type "list") [v]) (EP X pins σ Q) X.xe s1) X.xe s := by
    refine Call_ (ld_blt I hg2 hm2 PyProof.Rows.boot_reversed (PyProof.Rows.callWith_type1 (PyProof.Rows.args_cons (thn (he.run pins s σ H _ I h) fun u s1 ⟨v, H1, I1, r1, q1⟩ => PyProof.Rows.args_nil ?_) hs) hs rfl))
    obtain ⟨a, xs, ev, hq, q⟩ := q1
    subst ev
    obtain rfl : u = Value.ref a := r1
    obtain ⟨its, rv, p', hz⟩ := I1.list hq
    refine call_reversed_list p'.isList ?_
    have k0 : ∀ b o, s1.heap.get? b = some o → (s1.heap.push (revObj a ((its.toArray.size : Int) - 1))).get? b = some o := fun b o e => Heap.get?_push_of_some _ e
    have I2 : Inv X pins σ H1 { s1 with heap := s1.heap.push (revObj a ((its.toArray.size : Int) - 1)) } := I1.kept (t' := s1.toks) k0
    obtain ⟨f0, f1, f2, f3, f4, f5⟩ := I1.fpOk (H' := H1) (b := s1.heap.objs.size) (Nat.le_refl _) (I1.hok.fresh (Nat.le_refl _))
    have hl := p'.isList
    obtain ⟨ol, hol, _⟩ := id hl
    have hne : a ≠ s1.heap.objs.size := Nat.ne_of_lt (Heap.lt_size hol)
    have hn : its.toArray.size ≤ sizeLine := by rw [List.size_toArray, ← rv.length]; exact hz
    refine rl_call (s := { s1 with heap := s1.heap.push (revObj a ((its.toArray.size : Int) - 1)) }) (I1.ok.hd hc) ⟨_, Heap.get?_push_size _ rfl, rfl, rfl⟩ (hl.push _) hne hn fun h' tk ac c' hk hS hi => ?_
    have I3 : Inv X pins σ (upd H1 (s1.heap.objs.size + 1) (.lst xs.reverse)) { s1 with heap := h', toks := tk } := by
      have hD : (s1.heap.push (revObj a ((its.toArray.size : Int) - 1))).objs.size = s1.heap.objs.size + 1 := by rw [Heap.size_push]
      have I4 : Inv X pins σ H1 { s1 with heap := h', toks := tk } := I2.turned (t' := tk) (fun b o hb e => hk b o hb e) f0 f1 f3 f4 f5
      refine I1.turnedNew (t' := tk) (ch := [s1.heap.objs.size]) (T := s1.heap.objs.size + 1) (fun b o hb e => hk b o (fun z => hb (by simp [z])) (k0 b o e)) (fun b hb => ?_) (Nat.le_succ _) ?_
      · rw [List.mem_singleton.mp hb]
        exact ⟨f0, f1, f2, f3, f4, f5⟩
      · refine ⟨by rw [List.length_reverse]; exact hz, ac.toList, c', ?_, ?_⟩
        · exact RT.vals_rev rv hi
        · rw [← hD, Array.toArray_toList]
          exact hS
    exact ⟨.ref (s1.heap.objs.size + 1), _, I3, by rw [Heap.size_push]; rfl, q _ (I1.hok.fresh (Nat.le_succ _))⟩
  exact Call_ (ld_blt I hg hm PyProof.Rows.boot_list (PyProof.Rows.callWith_type1 (PyProof.Rows.args_cons (thn inner fun u s1 q => PyProof.Rows.args_nil q) hs2) hs2 rfl))
end
end PiX
set_option Elab.async false
set_option linter.all false
set_option maxRecDepth 100000
set_option maxHeartbeats 4000000
/-! PiR: repr, join, list(reversed()), lists repeated and put together, the empty dict. -/
namespace Pi
open PySem L2
open PyProof.Rows hiding St

mutual
/-- the data a value shows as: without dicts -/
def pyOf : Val → Option PyData
  | .non => some .none
  | .bl b => some (.bool b)
  | .int i => some (.int i)
  | .str z => some (.str z)
  | .tup xs => match pysOf xs with
    | some ps => some (.tuple ps)
    | none => none
  | .lst xs => match pysOf xs with
    | some ps => some (.list ps)
    | none => none
  | _ => none
def pysOf : List Val → Option (List PyData)
  | [] => some []
  | x :: xs => match pyOf x, pysOf xs with
    | some p, some ps => some (p :: ps)
    | _, _ => none
end
section
variable {X : Cx} {c : RC} {M : Addr → Own} {μ : Nat → Addr} {N : Nat} {H : Hp} {pins : List (Addr × Obj)} {σ : St} {s : Shared}
mutual
theorem reads_of (I : Inv X pins σ H s) (hK : X.K = c.K) : ∀ {d : Val} {v : V} {u : Value} {pd : PyData}, VR c M μ N H d v → RelV v u → pyOf d = some pd → pd.hasDict = false ∧ ∃ as, Reads s.heap u pd as
  | .non, v, u, pd, r, rv, h => by
    unfold pyOf at h
    cases h
    rw [r.non_inv] at rv
    obtain rfl : u = Value.none := rv
    exact ⟨by rw [PyData.hasDict], _, .none⟩
  | .bl b, v, u, pd, r, rv, h => by
    unfold pyOf at h
    cases h
    rw [r.bl_inv] at rv
    obtain rfl : u = Value.bool b := rv
    exact ⟨by rw [PyData.hasDict], _, .bool b⟩
  | .int i, v, u, pd, r, rv, h => by
    unfold pyOf at h
    cases h
    rw [r.int_inv] at rv
    obtain ⟨t, rfl⟩ := (show ∃ t, u = Value.int i t from rv)
    exact ⟨by rw [PyData.hasDict], _, .int i t⟩
  | .str z, v, u, pd, r, rv, h => by
    unfold pyOf at h
    cases h
    rw [r.str_inv] at rv
    obtain ⟨t, rfl⟩ := (show ∃ t, u = Value.str z t from rv)
    exact ⟨by rw [PyData.hasDict], _, .str z t⟩
  | .tup xs, v, u, pd, r, rv, h => by
    unfold pyOf at h
    split at h
    · rename_i ps hps
      cases h
      obtain ⟨a, us, rfl, t, rs⟩ := r.tup_inv
      obtain rfl : u = Value.ref a := rv
      obtain ⟨its, rw', ⟨o, ho, hc, n, hd⟩, _⟩ := I.tuple (hK ▸ t.sq)
      obtain ⟨q1, as, q2⟩ := readsAll_of I hK rs rw' hps
      exact ⟨by rw [PyData.hasDict]; exact q1, _, .tuple ho hc hd (by rw [List.toList_toArray]; exact q2)⟩
    · cases h
  | .lst xs, v, u, pd, r, rv, h => by
    unfold pyOf at h
    split at h
    · rename_i ps hps
      cases h
      obtain ⟨a, us, rfl, m, t, rs⟩ := r.lst_inv
      obtain rfl : u = Value.ref a := rv
      obtain ⟨its, rw', ⟨o, n, ho, hc, _, hd⟩, _⟩ := I.list (SqL.of t)
      obtain ⟨q1, as, q2⟩ := readsAll_of I hK rs rw' hps
      exact ⟨by rw [PyData.hasDict]; exact q1, _, .list ho hc hd (by rw [List.toList_toArray]; exact q2)⟩
    · cases h
  | .frl xs, v, u, pd, r, rv, h => by unfold pyOf at h; cases h
  | .obj C xs, v, u, pd, r, rv, h => by unfold pyOf at h; cases h
  | .ref n, v, u, pd, r, rv, h => by unfold pyOf at h; cases h
  | .fn f, v, u, pd, r, rv, h => by unfold pyOf at h; cases h
  | .exn C xs, v, u, pd, r, rv, h => by unfold pyOf at h; cases h
  | .dic ks xs, v, u, pd, r, rv, h => by unfold pyOf at h; cases h
theorem readsAll_of (I : Inv X pins σ H s) (hK : X.K = c.K) : ∀ {ds : List Val} {vs : List V} {us : List Value} {ps : List PyData}, VRs c M μ N H ds vs → Vals vs us → pysOf ds = some ps → PyData.hasDictAll ps = false ∧ ∃ as, ReadsAll s.heap us ps as
  | [], vs, us, ps, r, rv, h => by
    unfold pysOf at h
    cases h
    rw [r.nil_inv] at rv
    cases rv
    exact ⟨by rw [PyData.hasDictAll], _, .nil⟩
  | d :: ds, vs, us, ps, r, rv, h => by
    unfold pysOf at h
    split at h
    · rename_i p ps' h1 h2
      cases h
      obtain ⟨v, vs', rfl, r1, r2⟩ := r.cons_inv
      cases rv with
      | cons rv1 rv2 =>
        obtain ⟨q1, as, q2⟩ := reads_of I hK r1 rv1 h1
        obtain ⟨q3, bs, q4⟩ := readsAll_of I hK r2 rv2 h2
        exact ⟨by rw [PyData.hasDictAll, q1, q3]; rfl, _, .cons q2 q4⟩
    · cases h
end
end
/-- what repr shows of a value -/
def showD : Val → Option PyData
  | .dic [] [] => some (.dict [])
  | d => pyOf d
def showFit (p : PyData) : Prop := p.showable = true ∧ p.shown.length ≤ sizeLine ∧ p.depth ≤ 100
open Classical in
noncomputable def biRepr (ds : List Val) (S : Store) : Res Val := match ds with
  | [d] => match showD d with
    | some p => if showFit p then .ok (.str p.shown) S else .no
    | none => .no
  | _ => .no
section
variable {X : Cx} {c : RC} {a b e o : Expr} {ma mb mo : Cm} {pos p apos : Pos}
theorem so_repr (hK : X.K = c.K) (gd : X.A.guards = some []) (hu : X.A.units + 200 < cLine) : SOC X c (.builtin "repr") biRepr := by
  intro pins s σ H M μ S xs us ds d S' Q I sm r rv q k
  unfold biRepr at q
  split at q
  · rename_i d0
    split at q
    · rename_i pd hpd
      split at q
      · rename_i hf
        cases q
        obtain ⟨hs, hz, hdp⟩ := hf
        obtain ⟨v, rfl, r1⟩ := r.one_inv
        obtain ⟨u, rfl, ru⟩ := rv.one
        have fin : ∀ (h' : Heap) (t : Tok) (tk : Nat), (∀ b o, s.heap.get? b = some o → h'.get? b = some o) → EP X pins σ Q (.str pd.shown t) { s with heap := h', toks := tk } := fun h' t tk hk =>
          ⟨.str pd.shown, H, I.kept (t' := tk) hk, ⟨t, rfl⟩, k M μ H _ .refl sm .str⟩
        have kk : ∀ b o, s.heap.get? b = some o → s.heap.get? b = some o := fun _ _ e => e
        unfold showD at hpd
        split at hpd
        · cases hpd
          obtain ⟨a, ws, rfl, m, t, hl, _⟩ := r1.dic_inv
          obtain rfl : u = Value.ref a := ru
          have hw : ws = [] := by simpa using hl
          subst hw
          obtain ⟨_, hsys, vs, kv, oo, es, ep, ho, hx, hd, hko, hpr, _⟩ := dk_of I.hok t
          have hes : es.toList = [] := by
            cases kv
            revert hpr
            generalize es.toList = L
            intro hpr
            cases hpr
            rfl
          have R : Reads s.heap (.ref a) (.dict []) (a :: [] ++ []) := .dict ho hx.1 hd (by rw [hes]; exact .nil) (by rw [hes]; exact .nil)
          refine repr_of_reads' R hs (fun _ hm => ?_) gd (by omega) kk (fun h' t tk hk => fin h' t tk hk) hz
          have : sysModules = a := by simpa using hm
          rw [← this] at hsys
          simp at hsys
        · obtain ⟨hnd, as, R⟩ := reads_of I hK r1 ru hpd
          cases R with
          | none =>
            exact PySem.P.repr_of_none (fin s.heap _ _ kk)
          | bool b =>
            refine PySem.P.repr_of_bool ?_
            have := fin s.heap s.toks (s.toks + 1) kk
            cases b <;> exact this
          | int i t =>
            refine PySem.P.repr_of_int ?_ (fin s.heap _ _ kk)
            simpa [PyData.showable] using hs
          | str z t => exact PySem.P.repr_of_str (fin s.heap _ _ kk) hz
          | list h1 h2 h3 h4 => exact repr_of_reads' (.list h1 h2 h3 h4) hs (PyData.noDict_hsm hnd) gd (by omega) kk (fun h' t tk hk => fin h' t tk hk) hz
          | tuple h1 h2 h3 h4 => exact repr_of_reads' (.tuple h1 h2 h3 h4) hs (PyData.noDict_hsm hnd) gd (by omega) kk (fun h' t tk hk => fin h' t tk hk) hz
          | dict h1 h2 h3 h4 h5 => simp [PyData.hasDict] at hnd
      · cases q
    · cases q
  · cases q

/-! ### {} -/
theorem de_dnew : PE X (.Dict [] [] pos) (tE c (cC (.dic [] []))) := PE.imp pe_dnewK fun σ H Q h => by
  obtain ⟨M, μ, S, ρ, d, S', s, l, q, k⟩ := h
  cases q
  intro x hx
  exact k (own M x .val) μ _ _ (Ext.new hx) (s.new hx) (by unfold VR; exact ⟨x, [], rfl, own_same, upd_same, rfl, .nil⟩)

/-! ### + of lists that gives a list that is written later; list * number -/
def opAddC (x y : Val) (S : Store) : Res Val := match x, y with
  | .lst xs, .lst ys => if xs.length + ys.length ≤ sizeLine then .ok (.ref S.length) (S ++ [.lst (xs ++ ys)]) else .no
  | _, _ => .no
theorem so_addC : SO2 X c (binaryOp .Add) opAddC := by
  intro pins s σ H M μ S x y v u d1 d2 d S' Q I sm r1 r2 rv ru q k
  unfold opAddC at q
  split at q
  · split at q
    · rename_i hl
      cases q
      obtain ⟨a1, us, rfl, m1, t1, q1⟩ := r1.lst_inv
      obtain ⟨a2, vs, rfl, m2, t2, q2⟩ := r2.lst_inv
      exact op_cat pins s σ H _ _ v u Q I rv ru ⟨a1, a2, us, vs, rfl, rfl, t1, t2, by rw [q1.length, q2.length]; exact hl, fun p hp => k.cellNew sm (q1.append q2) hp⟩
    · cases q
  · cases q
def opRep (x y : Val) (S : Store) : Res Val := match x, y with
  | .lst xs, .int k => if -(2 ^ 63) ≤ k ∧ k < 2 ^ 63 ∧ xs.length * k.toNat ≤ sizeLine then .ok (.lst (List.replicate k.toNat xs).flatten) S else .no
  | _, _ => .no
theorem VRs.rep {M : Addr → Own} {μ : Nat → Addr} {N : Nat} {H : Hp} {ds : List Val} {vs : List V} (r : VRs c M μ N H ds vs) : ∀ n : Nat, VRs c M μ N H (List.replicate n ds).flatten (List.replicate n vs).flatten
  | 0 => .nil
  | n + 1 => by
    rw [List.replicate_succ, List.replicate_succ, List.flatten_cons, List.flatten_cons]
    exact r.append (VRs.rep r n)
theorem so_rep : SO2 X c (binaryOp .Mult) opRep := by
  intro pins s σ H M μ S x y v u d1 d2 d S' Q I sm r1 r2 rv ru q k
  unfold opRep at q
  split at q
  · split at q
    · rename_i hl
      cases q
      obtain ⟨a1, us, rfl, m1, t1, q1⟩ := r1.lst_inv
      exact op_rep pins s σ H _ _ v u Q I rv ru ⟨a1, _, us, rfl, r2.int_inv, t1, hl.1, hl.2.1, by rw [q1.length]; exact hl.2.2, fun p hp => k.lstNew sm (q1.rep _) hp⟩
    · cases q
  · cases q
/-- * of numbers, of a list and a number -/
def opMulR (x y : Val) (S : Store) : Res Val := match opMul x y S with
  | .ok d S' => .ok d S'
  | .no => opRep x y S
theorem so_mulR : SO2 X c (binaryOp .Mult) opMulR := so_mul.or so_rep

/-! ### join -/
def opJoin (x y : Val) (S : Store) : Res Val := match x, y with
  | .str a, .lst xs => match strsOf xs with
    | some ys => if (ys.map (·.length)).sum + ys.length * a.length ≤ 16777216 then .ok (.str (Txt.join a ys)) S else .no
    | none => .no
  | _, _ => .no
where strsOf : List Val → Option (List Str)
  | [] => some []
  | .str z :: r => match strsOf r with
    | some zs => some (z :: zs)
    | none => none
  | _ => none
theorem strsOf_rel {M : Addr → Own} {μ : Nat → Addr} {N : Nat} {H : Hp} : ∀ {ds : List Val} {vs : List V} {ys : List Str}, opJoin.strsOf ds = some ys → VRs c M μ N H ds vs → vs = ys.map V.str
  | [], vs, ys, h, r => by
    unfold opJoin.strsOf at h
    cases h
    rw [r.nil_inv]
    rfl
  | d :: ds, vs, ys, h, r => by
    unfold opJoin.strsOf at h
    split at h
    · rename_i h1
      cases h1
    · rename_i z r' h1
      cases h1
      split at h
      · rename_i zs h2
        cases h
        obtain ⟨v, vs', rfl, r1, r2⟩ := r.cons_inv
        rw [r1.str_inv, strsOf_rel h2 r2]
        rfl
      · cases h
    · cases h
theorem de_join (ho : PE X o (tE c mo)) (ha : PE X a (tE c ma)) (hs : starEach [a] X.env = [(false, eval a X.env)]) (hbase : attributeBase o "join" X.env (eval o X.env) = eval o X.env) (hline : (apos.endLine == pos.line) = true) :
    PE X (.Call (.Attribute o "join" apos) [a] [] pos) (tE c (fun ρ S => (mo ρ S).bind fun x S1 => match x with
      | .str z => (ma ρ S1).bind fun y S2 => opJoin (.str z) y S2
      | _ => .no)) := PE.imp (pe_join ho ha hs hbase hline) fun σ H Q h => by
  obtain ⟨M, μ, S, ρ, d, S', s, l, q, k⟩ := h
  obtain ⟨x, S1, q1, q2⟩ := Res.bind_eq_ok q
  refine ⟨M, μ, S, ρ, x, S1, s, l, q1, fun M1 μ1 H1 v e1 s1 r1 => ?_⟩
  split at q2
  · rename_i z
    obtain ⟨y, S2, q3, q4⟩ := Res.bind_eq_ok q2
    refine ⟨⟨z, r1.str_inv⟩, M1, μ1, S1, ρ, y, S2, s1, l.ext e1, q3, fun M2 μ2 H2 u e2 s2 r2 => ?_⟩
    unfold opJoin at q4
    split at q4
    · rename_i z' xs hz
      cases hz
      split at q4
      · rename_i ys hys
        split at q4
        · rename_i hl
          cases q4
          obtain ⟨p, us, rfl, m, t, rs⟩ := r2.lst_inv
          have := strsOf_rel hys rs
          subst this
          exact ⟨_, p, ys, r1.str_inv, rfl, .inl (SqL.of t), hl, k M2 μ2 H2 _ (e1.trans e2) s2 .str⟩
        · cases q4
      · cases q4
    · cases q4
  · cases q2

/-! ### list(reversed()) -/
def opLRev (cell : Bool) (x : Val) (S : Store) : Res Val := match lstItems x S with
  | some xs => if cell then .ok (.ref S.length) (S ++ [.lst xs.reverse]) else .ok (.lst xs.reverse) S
  | none => .no
theorem de_lrev {p2 pos2 : Pos} (cell : Bool) (hK : X.K = c.K) (hc : X.calm = true) (hg : Gl X "list") (hm : X.mg "list" = none) (hg2 : Gl X "reversed") (hm2 : X.mg "reversed" = none) (he : PE X e (tE c ma))
    (hs : starEach [e] X.env = (false, eval e X.env) :: starEach [] X.env)
    (hs2 : starEach [.Call (.Name "reversed" p2) [e] [] pos2] X.env = (false, eval (.Call (.Name "reversed" p2) [e] [] pos2) X.env) :: starEach [] X.env) :
    PE X (.Call (.Name "list" p) [.Call (.Name "reversed" p2) [e] [] pos2] [] pos) (tE c (c1 (opLRev cell) ma)) := PE.imp (PiX.pe_listRev hc hg hm hg2 hm2 he hs hs2) fun σ H Q h => by
  obtain ⟨M, μ, S, ρ, d, S', s, l, q, k⟩ := tE_c1 h
  refine ⟨M, μ, S, ρ, d, S', s, l, q, fun M1 μ1 H1 v e1 s1 r1 => ?_⟩
  obtain ⟨M2, μ2, S2, d2, d3, S3, s2, r2, q2, k2⟩ := k M1 μ1 H1 v e1 s1 r1
  unfold opLRev at q2
  split at q2
  · rename_i ys hy
    obtain ⟨a, us, rfl, t, q4⟩ := lstItems_rel hy s2 r2
    refine ⟨a, us, rfl, hK ▸ t, fun p hp => ?_⟩
    split at q2
    · cases q2
      exact k2.cellNew s2 q4.reverse hp
    · cases q2
      exact k2.lstNew s2 q4.reverse hp
  · cases q2
end
end Pi
set_option Elab.async false
set_option linter.all false
set_option maxRecDepth 100000
set_option maxHeartbeats 4000000
/-! PiW: exceptions made, their fields read. -/
namespace Pi
open PySem L2
open PyProof.Rows hiding St

/-- C(..), C an exception class -/
def makeX (k : XcS) (C lv n : Nat) (ks : List Str) (ds zs : List Val) (S : Store) : Res Val := if k.own then (match k.shapes.find? fun s => s.1 == n && s.2.1 == ks with
  | some s => if 2 ≤ lv ∧ ds.length = n ∧ zs.length = ks.length then .ok (.exn C (s.2.2.map (Src.pick ds zs))) S else .no
  | none => .no) else if ds.length ≤ 1000 ∧ ks = [] then .ok (.exn C []) S else .no
def cMakeX (k : XcS) (C lv n : Nat) (ks : List Str) (ms mk : List Cm) : Cm := fun ρ S => (evs ms ρ S).bind fun ds S1 => (evs mk ρ S1).bind fun zs S2 => makeX k C lv n ks ds zs S2
section
variable {X : Cx} {c : RC} {x : Str} {e : Expr} {es : List Expr} {kws : List Keyword} {ms mk : List Cm} {m : Cm} {pos p : Pos}
theorem KE.exnNew {M : Addr → Own} {μ : Nat → Addr} {S : Store} {H : Hp} {ds : List Val} {ys : List V} {C : Nat} {fl : List Str} {Q : VK} (k : KE c M μ S.length H (.exn C ds) S Q) (s : Sim c M μ S H) (r : VRs c M μ S.length H ds ys) (hf : c.flds C = fl) (hl : ys.length = fl.length)
    {a dx : Addr} (ha : H a = none) (hdx : H dx = none) (ne : dx ≠ a) : Q (.ref a) (upd (upd H dx (exd dx (fl.zip ys).reverse)) a (exo a (c.ca C) (some dx))) := by
  have e1 : Ext M μ S.length H (own M dx .val) μ S.length (upd H dx (exd dx (fl.zip ys).reverse)) := Ext.new hdx
  have ha' : upd H dx (exd dx (fl.zip ys).reverse) a = none := by
    rw [upd_ne (Ne.symm ne)]
    exact ha
  have e2 := Ext.new (M := own M dx .val) (μ := μ) (N := S.length) (o := exo a (c.ca C) (some dx)) (w := .val) ha'
  refine k (own (own M dx .val) a .val) μ _ _ (e1.trans e2) ((s.new hdx).new ha') ?_
  unfold VR
  refine ⟨a, ys, rfl, own_same, by rw [hf]; exact hl, .inr ⟨dx, ?_, upd_same, ?_⟩, r.ext (e1.trans e2)⟩
  · rw [own_ne ne]
    exact own_same
  · rw [upd_ne ne, upd_same, hf]
theorem run_mkx {k : XcS} {C lv n : Nat} {ks : List Str} (hX : XcHolds X.prog X.w X.K X.mg X.base c C k) (hr : Room lv X.A) {pins : List (Addr × Obj)} {σ : St} {H : Hp} {s : Shared} {Q : VK} {us ws : List Value} {vs zs : List V} (I : Inv X pins σ H s) (r : Vals vs us) (rz : Vals zs ws)
    {M : Addr → Own} {μ : Nat → Addr} {S S' : Store} {ds gs : List Val} {d : Val} (sm : Sim c M μ S H) (r1 : VRs c M μ S.length H ds vs) (r2 : VRs c M μ S.length H gs zs) (q : makeX k C lv n ks ds gs S = .ok d S') (kk : KE c M μ S.length H d S' Q) :
    wpAny (model X.prog X.w) X.A (call (.ref (c.ca C)) us (ks.zip ws)) (EP X pins σ Q) X.xe s := by
  unfold makeX at q
  split at q
  · rename_i ho
    split at q
    · rename_i sh hs
      split at q
      · rename_i hc
        have hm := List.mem_of_find?_eq_some hs
        have hp := List.find?_some hs
        simp only [Bool.and_eq_true, beq_iff_eq] at hp
        obtain ⟨n', ks', src⟩ := sh
        simp only at hp q
        obtain ⟨rfl, rfl⟩ := hp
        obtain ⟨hlv, l1, l2⟩ := hc
        cases q
        obtain ⟨f, fd, ps, tl, newId, B, nb, initId, T, XB, iC, tI, F, hsh⟩ := hX.mkx ho
        obtain ⟨hn, hlen, hfit, g, gV, hb, hgV⟩ := hsh _ _ src hm
        have w1 : vs.length = n' := by rw [r1.length, l1]
        have w2 : zs.length = ks'.length := by rw [r2.length, l2]
        have ry : VRs c M μ S.length H (src.map (Src.pick ds gs)) (src.map (Src.pickV vs zs)) := pick_rel r1 r2 (by rw [l1, l2]; exact hfit)
        exact PiX.run_xmake (CX := CX0) T XB iC tI F (hr.mono hlv) hb pass0 I r rz w1 w2 hn (ys := src.map (Src.pickV vs zs)) (by rw [List.length_map, hlen]) (fun a => hgV _ _ _ w1 w2) fun a dx ha hdx ne => kk.exnNew sm ry hX.flds (by rw [List.length_map, hlen]) ha hdx ne
      · cases q
    · cases q
  · rename_i ho
    split at q
    · rename_i hc
      cases q
      obtain ⟨hl, rfl⟩ := hc
      obtain ⟨hf, B, newId, initId, bmB, FB, qx⟩ := hX.pl (by simpa using ho)
      refine PiX.run_xplain FB qx I r (by rw [r1.length]; exact hl) fun a ha => ?_
      refine kk (own M a .val) μ _ _ (Ext.new ha) (sm.new ha) ?_
      unfold VR
      exact ⟨a, [], rfl, own_same, by rw [hX.flds, hf]; rfl, .inl ⟨by rw [hX.flds, hf]; rfl, upd_same⟩, .nil⟩
    · cases q
theorem de_xmake {k : XcS} {C lv n : Nat} {ks : List Str} (hX : XcHolds X.prog X.w X.K X.mg X.base c C k) (hN : X.mg x = some (.ref (c.ca C))) (hr : Room lv X.A) (hg : Gl X x) (ha : PA X (e :: es) (tA c ms)) (hkw : PK X kws (tA c mk)) (hdb : (x == ("__debug__" : Str)) = false)
    (hall : (backToKw pos (keywordEach kws X.env)).all (·.1.isSome) = true) (hks : (backToKw pos (keywordEach kws X.env)).filterMap (·.1) = ks) (he : starEach (e :: es) X.env = (false, eval e X.env) :: starEach es X.env)
    (hpl : ((backTo pos (starEach (e :: es) X.env)).any (·.1) || (backToKw pos (keywordEach kws X.env)).any (·.1.isNone)) = false) : PE X (.Call (.Name x p) (e :: es) kws pos) (tE c (cMakeX k C lv n ks ms mk)) := by
  refine ⟨fun pins s σ H Q I h => ?_⟩
  obtain ⟨M, μ, S, ρ, d, S', sm, l, q, kk⟩ := h
  obtain ⟨ds, S1, q1, q⟩ := Res.bind_eq_ok q
  obtain ⟨gs, S2, q2, q⟩ := Res.bind_eq_ok q
  refine wpAny_Call_Name_kw (ld_glob I hg hN ?_ hdb)
  refine PySem.W.callWith_KW (h₀ := X.base) I.ok.mod.kin hX.kp hall (thn (ha.run pos pins s σ H (fun vs H1 => ∃ M1 μ1, Ext M μ S.length H M1 μ1 S1.length H1 ∧ Sim c M1 μ1 S1 H1 ∧ VRs c M1 μ1 S1.length H1 ds vs) I ⟨M, μ, S, ρ, ds, S1, sm, l, q1, fun M1 μ1 H1 vs e1 s1 r1 => ⟨M1, μ1, e1, s1, r1⟩⟩) fun us s1 ⟨vs, H1, I1, r, M1, μ1, e1, sm1, r1⟩ => ?_) hpl he
  refine thn (hkw.run pos pins s1 σ H1 (fun zs H2 => ∃ M2 μ2, Ext M1 μ1 S1.length H1 M2 μ2 S2.length H2 ∧ Sim c M2 μ2 S2 H2 ∧ VRs c M2 μ2 S2.length H2 gs zs) I1 ⟨M1, μ1, S1, ρ, gs, S2, sm1, l.ext e1, q2, fun M2 μ2 H2 zs e2 s2 r2 => ⟨M2, μ2, e2, s2, r2⟩⟩) fun ws s2 ⟨zs, H2, I2, rz, M2, μ2, e2, sm2, r2⟩ => ⟨I2.kIn, ?_⟩
  rw [hks]
  exact run_mkx hX hr I2 r rz sm2 (r1.ext e2) r2 q (kk.ext (e1.trans e2))
/-- .. by keywords alone -/
theorem de_xmake0 {k : XcS} {C lv n : Nat} {ks : List Str} (hX : XcHolds X.prog X.w X.K X.mg X.base c C k) (hN : X.mg x = some (.ref (c.ca C))) (hr : Room lv X.A) (hg : Gl X x) (hkw : PK X kws (tA c mk)) (hdb : (x == ("__debug__" : Str)) = false)
    (hall : (backToKw pos (keywordEach kws X.env)).all (·.1.isSome) = true) (hks : (backToKw pos (keywordEach kws X.env)).filterMap (·.1) = ks)
    (hpl : ((backTo pos (starEach [] X.env)).any (·.1) || (backToKw pos (keywordEach kws X.env)).any (·.1.isNone)) = false) : PE X (.Call (.Name x p) [] kws pos) (tE c (cMakeX k C lv n ks [] mk)) := by
  refine ⟨fun pins s σ H Q I h => ?_⟩
  obtain ⟨M, μ, S, ρ, d, S', sm, l, q, kk⟩ := h
  obtain ⟨ds, S1, q1, q⟩ := Res.bind_eq_ok q
  cases q1
  obtain ⟨gs, S2, q2, q⟩ := Res.bind_eq_ok q
  refine wpAny_Call_Name_kw (ld_glob I hg hN ?_ hdb)
  refine PySem.W.callWith_KW0 (h₀ := X.base) I.ok.mod.kin hX.kp hall ?_ hpl
  refine thn (hkw.run pos pins s σ H (fun zs H2 => ∃ M2 μ2, Ext M μ S.length H M2 μ2 S2.length H2 ∧ Sim c M2 μ2 S2 H2 ∧ VRs c M2 μ2 S2.length H2 gs zs) I ⟨M, μ, S, ρ, gs, S2, sm, l, q2, fun M2 μ2 H2 zs e2 s2 r2 => ⟨M2, μ2, e2, s2, r2⟩⟩) fun ws s2 ⟨zs, H2, I2, rz, M2, μ2, e2, sm2, r2⟩ => ⟨I2.kIn, ?_⟩
  rw [hks]
  exact run_mkx (us := []) (vs := []) hX hr I2 .nil rz sm2 .nil r2 q (kk.ext e2)

/-! ### a field of an exception -/
theorem lookup_rev {f : Str} {v : V} : ∀ {l : List (Str × V)}, (l.map (·.1)).Nodup → l.lookup f = some v → l.reverse.lookup f = some v
  | [], _, h => by cases h
  | (g, u) :: l, hn, h => by
    rw [List.map_cons, List.nodup_cons] at hn
    have app : ∀ (l1 l2 : List (Str × V)), (l1 ++ l2).lookup f = (l1.lookup f).or (l2.lookup f) := fun l1 l2 => by
      induction l1 with
      | nil => rfl
      | cons x r ih =>
        obtain ⟨y, z⟩ := x
        rw [List.cons_append, List.lookup_cons, List.lookup_cons]
        cases f == y with
        | true => rfl
        | false => exact ih
    rw [List.reverse_cons, app]
    rw [List.lookup_cons] at h
    cases q : f == g with
    | true =>
      rw [q] at h
      cases h
      have hno : l.reverse.lookup f = none := by
        rw [eq_of_beq q]
        cases hh : l.reverse.lookup g with
        | none => rfl
        | some z =>
          exfalso
          refine hn.1 ?_
          have mem : ∀ (l : List (Str × V)), l.lookup g = some z → g ∈ l.map (·.1) := fun l => by
            induction l with
            | nil => intro h; cases h
            | cons x r ih =>
              obtain ⟨y, t⟩ := x
              rw [List.lookup_cons]
              intro h
              cases q2 : g == y with
              | true => rw [eq_of_beq q2]; exact List.mem_cons_self
              | false =>
                rw [q2] at h
                exact List.mem_cons_of_mem _ (ih h)
          have := mem _ hh
          rw [List.map_reverse, List.mem_reverse] at this
          exact this
      rw [hno, List.lookup_cons, q]
      rfl
    | false =>
      rw [q] at h
      rw [lookup_rev hn.2 h]
      rfl
/-- e.f, e an exception -/
def tXget (K : PySem.W.Frag) (f : Str) (te : TE) : TE := fun σ H Q => te σ H fun x H1 => ∃ (a C dx : Addr) (tl : List Value) (newId : String) (fs : List (Str × V)) (v : V), x = .ref a ∧ PiX.XCls K C tl newId ∧ PySem.W.findIn K (.ref C) f = some none ∧ H1 a = some (exo a C (some dx)) ∧ H1 dx = some (exd dx fs) ∧ fs.lookup f = some v ∧ Q v H1
theorem pe_xget {f : Str} {te : TE} (he : PE X e te) (hb : attributeBase e f X.env (eval e X.env) = eval e X.env) : PE X (.Attribute e f pos) (tXget X.K f te) :=
  ⟨fun pins s σ H Q I h => attr_of hb (thn (he.run pins s σ H _ I h) fun v s1 ⟨x, H1, I1, r1, a, C, dx, tl, newId, fs, y, ex, T, hno, ea, ed, hv, q⟩ => by
    subst ex
    obtain rfl : v = Value.ref a := r1
    exact PiX.xget_ok T I1 ea ed hno hv fun w k rw' => ⟨y, H1, I1.tok k, rw', q⟩)⟩
/-- o.f, o an instance or an exception -/
def opAttrX (T : Tab) (f : Str) (d : Val) (S : Store) : Res Val := match d with
  | .exn C xs => match T.xcls C with
    | some k => match (k.flds.zip xs).lookup f with
      | some v => if f ∈ k.flds then .ok v S else .no
      | none => .no
    | none => .no
  | d => opAttr T f d S
theorem de_attrX {T : Tab} {f : Str} {lv : Nat} (hT : XTab lv X c T) (hK : X.K = c.K) (he : PE X e (tE c m)) (hb : attributeBase e f X.env (eval e X.env) = eval e X.env) : PE X (.Attribute e f pos) (tE c (c1 (opAttrX T f) m)) := by
  have h1 := de_attr (pos := pos) hT hK he hb
  have h2 := pe_xget (pos := pos) he hb
  refine ⟨fun pins s σ H Q I h => ?_⟩
  obtain ⟨M, μ, S, ρ, d, S', sm, l, q, k⟩ := h
  obtain ⟨d1, S1, q1, q2⟩ := Res.bind_eq_ok q
  cases d1 with
  | exn C xs =>
    refine h2.run pins s σ H Q I ⟨M, μ, S, ρ, _, S1, sm, l, q1, fun M1 μ1 H1 v e1 s1 r1 => ?_⟩
    have q2' : (match T.xcls C with
      | some k => match (k.flds.zip xs).lookup f with
        | some v => if f ∈ k.flds then Res.ok v S1 else .no
        | none => .no
      | none => .no) = Res.ok d S' := q2
    split at q2'
    · rename_i kc hk
      split at q2'
      · rename_i y hy
        split at q2'
        · rename_i hf
          cases q2'
          have hX := hT.xcls C kc hk
          obtain ⟨a, us, rfl, m1, hl, t, rs⟩ := r1.exn_inv
          obtain ⟨tl, newId, T1⟩ := hX.cls
          rw [hX.flds] at t hl
          obtain ⟨u, hu, ru⟩ := look_rel rs hy
          rcases t with ⟨t0, _⟩ | ⟨dx, t1, t2, t3⟩
          · exfalso
            have t0' : kc.flds.zip us = [] := by simpa using t0
            rw [t0'] at hu
            cases hu
          · refine ⟨a, c.ca C, dx, tl, newId, _, u, rfl, T1, hX.noat f hf, t2, t3, lookup_rev ?_ hu, k _ _ _ _ e1 s1 ru⟩
            rw [List.map_fst_zip (by omega)]
            exact hX.nodup
        · cases q2'
      · cases q2'
    · cases q2'
  | _ => exact h1.run pins s σ H Q I ⟨M, μ, S, ρ, d, S', sm, l, by unfold c1; rw [q1]; exact q2, k⟩
end
end Pi
set_option Elab.async false
set_option linter.all false
set_option maxRecDepth 100000
set_option maxHeartbeats 4000000
/-! X5: the __init__ of an exception: Base.__init__(self, 'txt'), then its fields. -/
namespace PiX
open PySem PySem.Spec L2
open PyProof.Rows hiding St
section
variable {P : Program} {w : World} {K : PySem.W.Frag} {mg : Str → Option Value} {base : Heap}
/-- .. where the base stands: an own class, a built-in one -/
inductive XWh (K : PySem.W.Frag) (mg : Str → Option Value) (x : Str) (initId : String) : Prop where
  | own (C : Addr) (mc : Value) (hm : mg x = some (.ref C)) (h1 : PySem.W.specialIn K (.ref C) "__getattribute__" = some (some (.builtin "type.__getattribute__"))) (h2 : PySem.W.readsIn K C mc = true)
      (h3 : PySem.W.findCls K (.ref C) mc "__init__" = some (.val (.builtin initId))) : XWh K mg x initId
  | blt (T : String) (hm : mg x = none) (hb : bootBuiltins x = some (.type T)) (hn : x ≠ "__name__") (h1 : typeOf (.type T) = pure (.type "type")) (h2 : Manifest.isStub T = false)
      (h3 : PySem.W.findCls K (.type T) (.type "type") "__init__" = some (.val (.builtin initId))) : XWh K mg x initId
theorem XWh.at {x : Str} {initId : String} (h : XWh K mg x initId) {X : Cx} (hK : X.K = K) (hm : X.mg = mg) : XFind X x initId := by
  subst hK hm
  cases h with
  | own C mc a b c d => exact .own C mc a b c d
  | blt T a b c d e f => exact .blt T a b c d e f
theorem spX_len {ps fl : List Str} {C : Addr} (h : ps.length = fl.length + 1) : ∀ vs H Q E, spX C fl vs H Q E → vs.length = ps.length := fun vs H Q E ⟨a, ys, e, l, _⟩ => by
  rw [e, List.length_cons, l, h]
variable {x qual : Str} {params : Arguments} {scope : Scope} {dvs : List V} {kws : List (Str × V)} {fa C : Addr} {fd : FuncData} {B self f1 f2 q1 q2 z : Str} {p1 p2 p3 p4 p5 p6 p7 p8 p9 r1 r2 r3 pos pos1 : Pos} {tl : List Value} {newId Bn nb initId : String}
/-- names that may stand in such a text -/
def okName (x : Str) : Bool := !(x == ("__debug__" : Str)) && !(x == ("__classdict__" : Str))
theorem okName_d {x : Str} (h : okName x = true) : (x == ("__debug__" : Str)) = false := by
  unfold okName at h
  simp only [Bool.and_eq_true, Bool.not_eq_true'] at h
  exact h.1
theorem okName_c {x : Str} (h : okName x = true) : (x == ("__classdict__" : Str)) = false := by
  unfold okName at h
  simp only [Bool.and_eq_true, Bool.not_eq_true'] at h
  exact h.2
theorem init_call {X : Cx} {j} (hX : XFind X B initId) (hg : Gl X B) (hB : okName B = true) (hh : PySem.W.handedIn (.builtin initId) = true) (hl : (p2.endLine == pos.line) = true) (hN : X.N[0]? = some self) (hv : Vis X.env.scope self) (hs : okName self = true) :
    PE X (.Call (.Attribute (.Name B p1) "__init__" p2) [.Name self p3, .Constant (.str z) j p4] [] pos) (tXi X.K initId (tCons (tVar 0) (tCons (tC (.str z)) tNil))) :=
  pe_xinit hg hX hh (okName_d hB) (pa_cons (pe_var hN hv (okName_d hs) (okName_c hs)) (pa_cons pe_str pa_nil rfl) rfl) (Pi.meth_form rfl rfl (by decide : 2 < 30) hl) rfl rfl
/-- one field -/
theorem init_ok1 {j} (F : FunD K x qual params [.Expr (.Call (.Attribute (.Name B p1) "__init__" p2) [.Name self p3, .Constant (.str z) j p4] [] pos) pos1, .Assign [.Attribute (.Name self p5) f1 p6] (.Name q1 p7) r1] scope dvs kws fa fd)
    (S : FnScope [self, q1] [self, q1] scope) (hB : scope.names.lookup B = some .globalImplicit) (hs : scope.names.lookup self = some .local) (hq : scope.names.lookup q1 = some .local) (oB : okName B = true) (os : okName self = true) (oq : okName q1 = true)
    (hl : (p2.endLine == pos.line) = true) (W : XWh K mg B initId) (hh : PySem.W.handedIn (.builtin initId) = true) (T : XCls K C tl newId) (XB : XBase Bn nb newId initId tl) (no : PySem.W.findIn K (.ref C) f1 = some none) :
    FnOk P w K mg base CX0 1 fa fd [self, q1] (spX C [f1]) := by
  refine FunD.ok F S (spX_len rfl) fun cdv A outer s H vs Q E hr h => ?_
  obtain ⟨a, ys, rfl, hy, ha, hq2⟩ := h
  refine ⟨_, pss_cons (ps_expr (init_call (W.at rfl rfl) (show Env.kindOf _ B = _ from hB) oB hh hl rfl (.inl hs) os) rfl) (pss_cons (ps_xst (pe_var (i := 0) rfl (.inl hs) (okName_d os) (okName_c os)) (pe_var (i := 1) rfl (.inl hq) (okName_d oq) (okName_c oq)) rfl) pss_nil), ?_⟩
  match ys, hy with
  | [y], _ =>
    refine ⟨.ref a, rfl, ?_⟩
    refine ⟨a, C, [.str z], tl, newId, Bn, nb, rfl, Nat.le_of_ble_eq_true rfl, T, XB, ha, ?_⟩
    refine ⟨y, rfl, .ref a, rfl, a, C, tl, newId, rfl, T, XB.tail, no, .inl ⟨ha, fun dx hdx ne => ?_⟩⟩
    exact hq2 dx hdx ne
/-- two fields -/
theorem init_ok2 {j} (F : FunD K x qual params [.Expr (.Call (.Attribute (.Name B p1) "__init__" p2) [.Name self p3, .Constant (.str z) j p4] [] pos) pos1, .Assign [.Attribute (.Name self p5) f1 p6] (.Name q1 p7) r1, .Assign [.Attribute (.Name self p8) f2 p9] (.Name q2 r3) r2] scope dvs kws fa fd)
    (S : FnScope [self, q1, q2] [self, q1, q2] scope) (hB : scope.names.lookup B = some .globalImplicit) (hs : scope.names.lookup self = some .local) (hq : scope.names.lookup q1 = some .local) (hq' : scope.names.lookup q2 = some .local) (oB : okName B = true) (os : okName self = true) (oq : okName q1 = true) (oq' : okName q2 = true)
    (hl : (p2.endLine == pos.line) = true) (W : XWh K mg B initId) (hh : PySem.W.handedIn (.builtin initId) = true) (T : XCls K C tl newId) (XB : XBase Bn nb newId initId tl) (no : PySem.W.findIn K (.ref C) f1 = some none) (no2 : PySem.W.findIn K (.ref C) f2 = some none) :
    FnOk P w K mg base CX0 1 fa fd [self, q1, q2] (spX C [f1, f2]) := by
  refine FunD.ok F S (spX_len rfl) fun cdv A outer s H vs Q E hr h => ?_
  obtain ⟨a, ys, rfl, hy, ha, hq2⟩ := h
  refine ⟨_, pss_cons (ps_expr (init_call (W.at rfl rfl) (show Env.kindOf _ B = _ from hB) oB hh hl rfl (.inl hs) os) rfl) (pss_cons (ps_xst (pe_var (i := 0) rfl (.inl hs) (okName_d os) (okName_c os)) (pe_var (i := 1) rfl (.inl hq) (okName_d oq) (okName_c oq)) rfl)
    (pss_cons (ps_xst (pe_var (i := 0) rfl (.inl hs) (okName_d os) (okName_c os)) (pe_var (i := 2) rfl (.inl hq') (okName_d oq') (okName_c oq')) rfl) pss_nil)), ?_⟩
  match ys, hy with
  | [y, y'], _ =>
    refine ⟨.ref a, rfl, ?_⟩
    refine ⟨a, C, [.str z], tl, newId, Bn, nb, rfl, Nat.le_of_ble_eq_true rfl, T, XB, ha, ?_⟩
    refine ⟨y, rfl, .ref a, rfl, a, C, tl, newId, rfl, T, XB.tail, no, .inl ⟨ha, fun dx hdx ne => ?_⟩⟩
    refine ⟨y', rfl, .ref a, rfl, a, C, tl, newId, rfl, T, XB.tail, no2, .inr ⟨dx, [(f1, y)], upd_same, ?_, Nat.le_of_ble_eq_true rfl, ?_⟩⟩
    · rw [upd_ne ne]
      exact upd_same
    · have e : upd (upd (upd H dx (exd dx [(f1, y)])) a (exo a C (some dx))) dx (exd dx [(f2, y'), (f1, y)]) = upd (upd H dx (exd dx ([f1, f2].zip [y, y']).reverse)) a (exo a C (some dx)) := by
        funext b
        unfold upd
        by_cases h1 : b = dx
        · subst h1
          rw [if_pos rfl, if_neg ne, if_pos rfl]
          rfl
        · rw [if_neg h1]
          by_cases h2 : b = a
          · rw [if_pos h2, if_pos h2]
          · rw [if_neg h2, if_neg h2, if_neg h1, if_neg h1]
      have := hq2 dx hdx ne
      rw [← e] at this
      exact this
end
end PiX
set_option Elab.async false
set_option linter.all false
set_option maxRecDepth 100000
set_option maxHeartbeats 4000000
/-! Ev: laws of the steps of the small language. -/
namespace Ev
open PySem L2 Pi
def ident (n : Nat) : List Src := (List.range n).map .pos
def shp (n : Nat) : List (Nat × List Str × List Src) := [(n, [], ident n)]
/-! ### laws of the steps -/
section
variable {ρ : Pi.Loc} {S S1 S2 S3 : Store} {ma mb mc : Cm} {ms mk : List Cm} {x y z d : Val} {ds zs : List Val}
theorem ev_c1 {f : Val → Store → Res Val} (h1 : ma ρ S = .ok x S1) (h2 : f x S1 = .ok z S2) : c1 f ma ρ S = .ok z S2 := by
  show (ma ρ S).bind _ = _
  rw [h1]; exact h2
theorem ev_c2 {f : Val → Val → Store → Res Val} (h1 : ma ρ S = .ok x S1) (h2 : mb ρ S1 = .ok y S2) (h3 : f x y S2 = .ok z S3) : c2 f ma mb ρ S = .ok z S3 := by
  show (ma ρ S).bind _ = _
  rw [h1]
  show (mb ρ S1).bind _ = _
  rw [h2]; exact h3
theorem ev_nil : evs [] ρ S = .ok [] S := rfl
theorem ev_cons (h1 : ma ρ S = .ok x S1) (h2 : evs ms ρ S1 = .ok ds S2) : evs (ma :: ms) ρ S = .ok (x :: ds) S2 := by
  show (ma ρ S).bind (fun d S1 => (evs ms ρ S1).bind fun ds S2 => .ok (d :: ds) S2) = _
  rw [h1]
  show (evs ms ρ S1).bind _ = _
  rw [h2]; rfl
theorem ev_cN {f : List Val → Store → Res Val} (h1 : evs ms ρ S = .ok ds S1) (h2 : f ds S1 = .ok z S2) : cN f ms ρ S = .ok z S2 := by
  show (evs ms ρ S).bind _ = _
  rw [h1]; exact h2
theorem ev_call {F : FnS} {lv n : Nat} {ks : List Str} (h1 : evs ms ρ S = .ok ds S1) (h2 : evs mk ρ S1 = .ok zs S2) (h3 : callF F lv n ks ds zs S2 = .ok d S3) : cCall F lv n ks ms mk ρ S = .ok d S3 := by
  show (evs ms ρ S).bind _ = _
  rw [h1]
  show (evs mk ρ S1).bind _ = _
  rw [h2]; exact h3
theorem ev_make {k : ClsS} {C lv n : Nat} {ks : List Str} (h1 : evs ms ρ S = .ok ds S1) (h2 : evs mk ρ S1 = .ok zs S2) (h3 : makeF k C lv n ks ds zs S2 = .ok d S3) : cMake k C lv n ks ms mk ρ S = .ok d S3 := by
  show (evs ms ρ S).bind _ = _
  rw [h1]
  show (evs mk ρ S1).bind _ = _
  rw [h2]; exact h3
theorem ev_iteT {mt : Cm} (h1 : mt ρ S = .ok (.bl true) S1) (h2 : ma ρ S1 = .ok z S2) : cIte mt ma mb ρ S = .ok z S2 := by
  show (mt ρ S).bind _ = _
  rw [h1]; exact h2
theorem ev_iteF {mt : Cm} (h1 : mt ρ S = .ok (.bl false) S1) (h2 : mb ρ S1 = .ok z S2) : cIte mt ma mb ρ S = .ok z S2 := by
  show (mt ρ S).bind _ = _
  rw [h1]; exact h2
theorem ev_not {b : Bool} (h1 : ma ρ S = .ok (.bl b) S1) : cNot ma ρ S = .ok (.bl (!b)) S1 := by
  show (ma ρ S).bind _ = _
  rw [h1]; rfl
theorem ev_andT (h1 : ma ρ S = .ok (.bl true) S1) (h2 : mb ρ S1 = .ok z S2) : cAnd ma mb ρ S = .ok z S2 := by
  show (ma ρ S).bind _ = _
  rw [h1]; exact h2
theorem ev_andF (h1 : ma ρ S = .ok (.bl false) S1) : cAnd ma mb ρ S = .ok (.bl false) S1 := by
  show (ma ρ S).bind _ = _
  rw [h1]; rfl
theorem ev_orF (h1 : ma ρ S = .ok (.bl false) S1) (h2 : mb ρ S1 = .ok z S2) : cOr ma mb ρ S = .ok z S2 := by
  show (ma ρ S).bind _ = _
  rw [h1]; exact h2
theorem ev_orT (h1 : ma ρ S = .ok (.bl true) S1) : cOr ma mb ρ S = .ok (.bl true) S1 := by
  show (ma ρ S).bind _ = _
  rw [h1]; rfl
theorem ev_chnT {g g' : Val → Val → Store → Res Val} {S4 S5 : Store} {w : Val} (h1 : ma ρ S = .ok x S1) (h2 : mb ρ S1 = .ok y S2) (h3 : g x y S2 = .ok (.bl true) S3) (h4 : mc ρ S3 = .ok w S4) (h5 : g' y w S4 = .ok z S5) : cChn g g' ma mb mc ρ S = .ok z S5 := by
  show (ma ρ S).bind _ = _
  rw [h1]
  show (mb ρ S1).bind _ = _
  rw [h2]
  show (g x y S2).bind _ = _
  rw [h3]
  show (mc ρ S3).bind _ = _
  rw [h4]; exact h5
variable {s t : Sm} {f : Fl} {ρ1 ρ2 : Pi.Loc}
theorem ev_seqN (h1 : s ρ S = .ok (.nx ρ1) S1) (h2 : t ρ1 S1 = .ok f S2) : sSeq s t ρ S = .ok f S2 := by
  unfold sSeq
  rw [h1]; exact h2
theorem ev_seqR (h1 : s ρ S = .ok (.ret d) S1) : sSeq s t ρ S = .ok (.ret d) S1 := by
  unfold sSeq
  rw [h1]
theorem ev_ret (h1 : ma ρ S = .ok d S1) : sRet ma ρ S = .ok (.ret d) S1 := by
  show (ma ρ S).bind _ = _
  rw [h1]; rfl
theorem ev_expr (h1 : ma ρ S = .ok d S1) : sExpr ma ρ S = .ok (.nx ρ) S1 := by
  show (ma ρ S).bind _ = _
  rw [h1]; rfl
theorem ev_asg {g : Tg} (h1 : ma ρ S = .ok d S1) (h2 : g d ρ S1 = .ok ρ1 S2) : sAsg ma g ρ S = .ok (.nx ρ1) S2 := by
  show (ma ρ S).bind _ = _
  rw [h1]
  show (g d ρ S1).bind _ = _
  rw [h2]; rfl
theorem ev_par {i j : Nat} (h1 : ma ρ S = .ok x S1) (h2 : mb ρ S1 = .ok y S2) : sPar i j ma mb ρ S = .ok (.nx ((ρ.set i (some x)).set j (some y))) S2 := by
  show (ma ρ S).bind _ = _
  rw [h1]
  show (mb ρ S1).bind _ = _
  rw [h2]; rfl
theorem ev_par3 {i j k : Nat} (h1 : ma ρ S = .ok x S1) (h2 : mb ρ S1 = .ok y S2) (h3 : mc ρ S2 = .ok z S3) : sPar3 i j k ma mb mc ρ S = .ok (.nx (((ρ.set i (some x)).set j (some y)).set k (some z))) S3 := by
  show (ma ρ S).bind _ = _
  rw [h1]
  show (mb ρ S1).bind _ = _
  rw [h2]
  show (mc ρ S2).bind _ = _
  rw [h3]; rfl
theorem ev_ifT {mt : Cm} (h1 : mt ρ S = .ok (.bl true) S1) (h2 : s ρ S1 = .ok f S2) : sIf mt s t ρ S = .ok f S2 := by
  show (mt ρ S).bind _ = _
  rw [h1]; exact h2
theorem ev_ifF {mt : Cm} (h1 : mt ρ S = .ok (.bl false) S1) (h2 : t ρ S1 = .ok f S2) : sIf mt s t ρ S = .ok f S2 := by
  show (mt ρ S).bind _ = _
  rw [h1]; exact h2
theorem ev_pass : sPass ρ S = .ok (.nx ρ) S := rfl
theorem ev_body {n : Nat} {m : Sm} (h : m (startD n ds) S = .ok (.ret d) S1) : bodyF n m ds S = .ok d S1 := by
  unfold bodyF; rw [h]
theorem ev_bodyN {n : Nat} {m : Sm} (h : m (startD n ds) S = .ok (.nx ρ) S1) : bodyF n m ds S = .ok .non S1 := by
  unfold bodyF; rw [h]
theorem vo_mul {i j : Int} (h : mulOk i j) : opMul (.int i) (.int j) S = .ok (.int (i * j)) S := by
  show (if mulOk i j then _ else _) = _
  rw [if_pos h]
theorem vo_div {i j : Int} (h : divOk i j) : opDiv (.int i) (.int j) S = .ok (.int (i.fdiv j)) S := by
  show (if divOk i j then _ else _) = _
  rw [if_pos h]
theorem vo_mod {i j : Int} (h : j ≠ 0) : opMod (.int i) (.int j) S = .ok (.int (i.fmod j)) S := by
  show (if j ≠ 0 then _ else _) = _
  rw [if_pos h]
theorem vo_shl {i j : Int} (h : shlOk i j) : opShl (.int i) (.int j) S = .ok (.int (i * 2 ^ j.toNat)) S := by
  show (if shlOk i j then _ else _) = _
  rw [if_pos h]
theorem vo_mulR {i j : Int} (h : mulOk i j) : opMulR (.int i) (.int j) S = .ok (.int (i * j)) S := by
  unfold opMulR
  rw [vo_mul h]
theorem vo_eqI {q : Nat → Bool} {i j : Int} {neg : Bool} : opEq q neg (.int i) (.int j) S = .ok (.bl (neg != decide (i = j))) S := by
  show (if scal (V.int i) (V.int j) = true then Res.ok (Val.bl (neg != decide (V.int i = V.int j))) S else .no) = _
  rw [if_pos (show scal (V.int i) (V.int j) = true from rfl)]
  simp only [V.int.injEq]
end
section
variable {ρ : Pi.Loc} {S S1 S2 S3 : Store} {ma mb mo : Cm} {ms mk : List Cm} {x y z d r : Val} {ds zs : List Val}
theorem ev_var {i : Nat} (h : ρ[i]? = some (some d)) : cVar i ρ S = .ok d S := by
  unfold cVar; rw [h]
theorem ev_notT (h1 : ma ρ S = .ok (.bl false) S1) : cNot ma ρ S = .ok (.bl true) S1 := ev_not h1
theorem ev_notF (h1 : ma ρ S = .ok (.bl true) S1) : cNot ma ρ S = .ok (.bl false) S1 := ev_not h1
theorem lc_nil {ck : Store → Prop} {pt : Pat} {mt me : Cm} {acc : List Val} (h : ck S) : lcLoop ck pt mt me ρ [] acc S = .ok acc S := by
  unfold lcLoop; exact if_pos h
theorem lc_cons {ck : Store → Prop} {pt : Pat} {mt me : Cm} {acc l res : List Val} {ρ1 : Pi.Loc} {S4 : Store} (h : ck S) (hp : pt.put d ρ = some ρ1) (ht : mt ρ1 S = .ok (.bl true) S1) (he : me ρ1 S1 = .ok y S2) (hl : acc.length < sizeLine) (hr : lcLoop ck pt mt me ρ l (acc ++ [y]) S2 = .ok res S4) : lcLoop ck pt mt me ρ (d :: l) acc S = .ok res S4 := by
  unfold lcLoop
  rw [if_pos h, hp]
  simp only [ht, Res.bind_ok, he, if_pos hl]
  exact hr
theorem ev_lc {it : Itm} {own : List Nat} {pt : Pat} {mt me : Cm} {xs res : List Val} {o : Option Nat} (h1 : it ρ S = .ok (xs, o) S1) (h2 : lcLoop (chk xs o) pt mt me (wipeD ρ own) xs [] S1 = .ok res S2) : cLc false it own pt mt me ρ S = .ok (.lst res) S2 := by
  unfold cLc
  rw [h1, Res.bind_ok, h2, Res.bind_ok]
  rfl
theorem it_tup {xs : List Val} (h : ma ρ S = .ok (.tup xs) S1) : itSeq ma ρ S = .ok (xs, none) S1 := by
  unfold itSeq; rw [h]; rfl
theorem it_lst {xs : List Val} (h : ma ρ S = .ok (.lst xs) S1) : itSeq ma ρ S = .ok (xs, none) S1 := by
  unfold itSeq; rw [h]; rfl
theorem sl_lt {n : Nat} (h : n < 1000) : n < sizeLine := by rw [sizeLine_eq]; omega
theorem ev_cC : cC d ρ S = .ok d S := rfl
theorem ev_tup {l : List Val} (h : l.length ≤ sizeLine) : mkTup l S = .ok (.tup l) S := if_pos h
theorem ev_lst {l : List Val} (h : l.length ≤ sizeLine) : mkLst l S = .ok (.lst l) S := if_pos h
theorem sl2 {a b : Val} : [a, b].length ≤ sizeLine := by rw [sizeLine_eq]; exact Nat.le_of_ble_eq_true rfl
theorem sl3 {a b c : Val} : [a, b, c].length ≤ sizeLine := by rw [sizeLine_eq]; exact Nat.le_of_ble_eq_true rfl
theorem sl5 {a b c d e : Val} : [a, b, c, d, e].length ≤ sizeLine := by rw [sizeLine_eq]; exact Nat.le_of_ble_eq_true rfl
theorem ident_pick : ∀ {n : Nat}, ds.length = n → (ident n).map (Src.pick ds zs) = ds := by
  intro n h
  subst h
  unfold ident
  refine List.ext_getElem (by simp) fun i h1 h2 => ?_
  simp only [List.getElem_map, List.getElem_range, Src.pick]
  rw [List.getD_eq_getElem?_getD, List.getElem?_eq_getElem h2]
  rfl
theorem ev_callF {F : FnS} {lv n : Nat} (h1 : F.shapes = shp n) (h2 : Nat.ble F.lvl lv = true) (h3 : ds.length = n) (h4 : F.m ds S = .ok d S1) : callF F lv n [] ds [] S = .ok d S1 := by
  unfold callF
  rw [h1]
  have e : (shp n).find? (fun s : Nat × List Str × List Src => s.1 == n && s.2.1 == []) = some (n, [], ident n) := by
    unfold shp
    rw [List.find?_cons]
    simp
  rw [e]
  simp only
  rw [if_pos ⟨Nat.le_of_ble_eq_true h2, h3, rfl⟩, ident_pick h3]
  exact h4
theorem vo_ge {i j : Int} : opGe (.int i) (.int j) S = .ok (.bl (decide (j ≤ i))) S := rfl
theorem vo_gt {i j : Int} : opGt (.int i) (.int j) S = .ok (.bl (decide (j < i))) S := rfl
theorem vo_lt {i j : Int} : opLt (.int i) (.int j) S = .ok (.bl (decide (i < j))) S := rfl
theorem vo_le {i j : Int} : opLe (.int i) (.int j) S = .ok (.bl (decide (i ≤ j))) S := rfl
theorem vo_sub {i j : Int} : opSub (.int i) (.int j) S = .ok (.int (i - j)) S := rfl
theorem vo_add {i j : Int} : opAdd (.int i) (.int j) S = .ok (.int (i + j)) S := rfl
theorem vo_abs {i : Int} : biAbs [.int i] S = .ok (.int i.natAbs) S := by
  show Res.ok (Val.int (if i < 0 then -i else i)) S = _
  have e : (if i < 0 then -i else i) = (i.natAbs : Int) := by split <;> omega
  rw [e]
end
theorem two_pow_mono (k m : Nat) (hk : k ≤ m) : 2 ^ k ≤ 2 ^ m := Nat.pow_le_pow_right (Nat.succ_pos 1) hk
theorem intBits_le {i : Int} {k : Nat} (h : i.natAbs < 2 ^ k) : Builtin.Int.intBits i ≤ k := PyProof.Rows.intBits_le h
theorem mul_ok {i j : Int} {a b : Nat} (h1 : i.natAbs < 2 ^ a) (h2 : j.natAbs < 2 ^ b) (h : a + b ≤ 134217728) : mulOk i j := by
  have e1 := intBits_le h1
  have e2 := intBits_le h2
  unfold mulOk
  omega
theorem div_ok {i j : Int} (h0 : j ≠ 0) (h : j.natAbs < 2 ^ 9000) : divOk i j := by
  refine ⟨h0, ?_⟩
  unfold Builtin.divisionGoesByPylong
  have hl : j.natAbs.log2 < 9000 := (Nat.log2_lt (by omega)).mpr h
  have : ¬ ((if (j == 0) = true then 0 else j.natAbs.log2 / 30 + 1) > 300) := by
    split <;> omega
  show (decide ((if (j == 0) = true then 0 else j.natAbs.log2 / 30 + 1) > 300) && _) = false
  rw [decide_eq_false this]
  rfl
/-! ### lowest -/
section
variable {ρ : Pi.Loc} {S S1 S2 S3 : Store} {ma mb mc : Cm} {F : FnS} {lv : Nat} {x y z r : Val}
theorem ev_call1 (h1 : ma ρ S = .ok x S1) (hs : F.shapes = shp 1) (hl : Nat.ble F.lvl lv = true) (h : F.m [x] S1 = .ok r S3) : cCall F lv 1 [] [ma] [] ρ S = .ok r S3 :=
  ev_call (ev_cons h1 ev_nil) ev_nil (ev_callF hs hl rfl h)
theorem ev_call2 (h1 : ma ρ S = .ok x S1) (h2 : mb ρ S1 = .ok y S2) (hs : F.shapes = shp 2) (hl : Nat.ble F.lvl lv = true) (h : F.m [x, y] S2 = .ok r S3) : cCall F lv 2 [] [ma, mb] [] ρ S = .ok r S3 :=
  ev_call (ev_cons h1 (ev_cons h2 ev_nil)) ev_nil (ev_callF hs hl rfl h)
theorem ev_call3 {S4 : Store} (h1 : ma ρ S = .ok x S1) (h2 : mb ρ S1 = .ok y S2) (h3 : mc ρ S2 = .ok z S3) (hs : F.shapes = shp 3) (hl : Nat.ble F.lvl lv = true) (h : F.m [x, y, z] S3 = .ok r S4) : cCall F lv 3 [] [ma, mb, mc] [] ρ S = .ok r S4 :=
  ev_call (ev_cons h1 (ev_cons h2 (ev_cons h3 ev_nil))) ev_nil (ev_callF hs hl rfl h)
theorem ev_tup2 (h1 : ma ρ S = .ok x S1) (h2 : mb ρ S1 = .ok y S2) : cN mkTup [ma, mb] ρ S = .ok (.tup [x, y]) S2 := ev_cN (ev_cons h1 (ev_cons h2 ev_nil)) (ev_tup sl2)
theorem ev_tup3 (h1 : ma ρ S = .ok x S1) (h2 : mb ρ S1 = .ok y S2) (h3 : mc ρ S2 = .ok z S3) : cN mkTup [ma, mb, mc] ρ S = .ok (.tup [x, y, z]) S3 := ev_cN (ev_cons h1 (ev_cons h2 (ev_cons h3 ev_nil))) (ev_tup sl3)
end
section
variable {ρ ρ1 ρ2 : Pi.Loc} {S S1 S2 : Store} {d : Val} {r : List Val} {ck : Store → Prop} {g : Tg} {b : Sm} {res : Res Fl}
theorem for_nil (h : ck S) : loopF ck g b [] ρ S = .ok (.nx ρ) S := by
  unfold loopF; exact if_pos h
theorem for_cons (h : ck S) (hg : g d ρ S = .ok ρ1 S1) (hb : b ρ1 S1 = .ok (.nx ρ2) S2) (hr : loopF ck g b r ρ2 S2 = res) : loopF ck g b (d :: r) ρ S = res := by
  unfold loopF
  rw [if_pos h, hg, Res.bind_ok, hb]
  exact hr
theorem ev_for {it : Itm} {xs : List Val} {o : Option Nat} (h1 : it ρ S = .ok (xs, o) S1) (h2 : loopF (chk xs o) g b xs ρ S1 = res) : sFor it g b ρ S = res := by
  unfold sFor
  rw [h1, Res.bind_ok]
  exact h2
theorem it_range1 {m : Cm} {j : Int} (h : m ρ S = .ok (.int j) S1) (hs : small62 j) : itRange [m] ρ S = .ok (rangeD 0 j.toNat, none) S1 := by
  unfold itRange
  rw [ev_cons h ev_nil, Res.bind_ok]
  simp only
  rw [if_pos hs]
end
theorem small_ok {j : Int} (h1 : 0 ≤ j) (h2 : j ≤ 1000) : small62 j := ⟨by omega, by omega⟩
abbrev FnP (K : PySem.W.Frag) (x q : Str) (st : Stmt) (f : Addr) (fd : FuncData) : Prop := FunD K x q (defArgs st) (defBody st) (defScope st) [] [] f fd
theorem ident_pickV {vs zs : List V} : ∀ {n : Nat}, vs.length = n → (ident n).map (Src.pickV vs zs) = vs := by
  intro n h
  subst h
  unfold ident
  refine List.ext_getElem (by simp) fun i h1 h2 => ?_
  simp only [List.getElem_map, List.getElem_range, Src.pickV]
  rw [List.getD_eq_getElem?_getD, List.getElem?_eq_getElem h2]
  rfl
theorem ident_fits {n m : Nat} : (ident n).all (Src.fits n m) = true := by
  unfold ident
  rw [List.all_map, List.all_eq_true]
  intro i hi
  exact decide_eq_true (List.mem_range.mp hi)
section
variable {P : Program} {w : World} {K : PySem.W.Frag} {mg : Str → Option Value} {base : Heap} {c : RC} {f : Addr} {fd : FuncData}
theorem sh_plain {F0 : FnS} {x q : Str} {st : Stmt} (F : FnP K x q st f fd) (hs : F0.shapes = shp F0.ps.length)
    (h : ∀ (kV doc pm : Value) (an : Option Addr) (cdv ct : Value) (us : List Value), us.length = F0.ps.length → bindArgs (PySem.W.fnOf x q (defArgs st) (defBody st) (defScope st) .none kV doc pm an cdv ct) ⟨us, []⟩ = pure (F0.ps.zip us)) :
    ∀ n ks src, (n, ks, src) ∈ F0.shapes → (src.length = F0.ps.length ∧ src.all (Src.fits n ks.length) = true) ∧ ∃ g gV, KBn K fd F0.ps n ks g gV ∧ ∀ vs zs, vs.length = n → zs.length = ks.length → gV vs zs = src.map (Src.pickV vs zs) := by
  intro n ks src hm
  rw [hs] at hm
  have hm : (n, ks, src) = (F0.ps.length, [], ident F0.ps.length) := by
    unfold shp at hm
    exact List.mem_singleton.mp hm
  cases hm
  refine ⟨⟨by simp [ident], ident_fits⟩, fun us _ => us, fun vs _ => vs, ⟨fun s us ws X l1 l2 => ?_, fun r1 _ => r1⟩, fun vs zs h1 h2 => (ident_pickV h1).symm⟩
  have b := FunD.bindsA (ps := F0.ps) F h s us l1
  exact b
end
end Ev
set_option Elab.async false
set_option linter.all false
set_option maxRecDepth 100000
set_option maxHeartbeats 4000000
/-! XE: a law's end, from a promise that holds where the stack has no guards. -/
namespace PiX
open PySem PySem.Spec L2
open PyProof.Rows hiding St
theorem callerA_free : callerA.guards = some [] := by rfl
section
variable {P : Program} {w : World} {K : PySem.W.Frag} {mg mb : Str → Option Value} {n : Nat} {f a : Addr} {fd : FuncData} {par : Str} {sp : Sp} {s : Shared} {its : List Value} {zs : List Int}
/-- what the law's call is to give -/
def Done (s : Shared) : Result → Shared → Prop := fun r s' => r = .ok (.ret (.bool true)) ∧ OldK s.heap s'.heap ∧ s'.os = s.os ∧ AllBare s'.gens
theorem law_at (kin : K.In s.heap) (ns : s.heap.Ns mainGlobals mg) (nb : s.heap.Ns builtinsNs mb) (hbb : ∀ x : Str, x ≠ "__name__" → mb x = bootBuiltins x) (nl : s.heap.NoLimit) (ge : s.gens = #[])
    (lo : s.heap.get? a = some { cls := .type "list", data := .seq its.toArray }) (rm : Room n callerA) (F : ∀ base : Heap, K.In base → base.Ns mainGlobals mg → FnG P w K mg base CX0 n f fd [par] sp) (bd : ∀ (s : Shared) (u : Value), BindsTo s fd ⟨[u], []⟩ [(par, u)])
    {H : Hp} (on : Only H) (ok : HOk P w H s.heap) (alone : ∀ b, H b ≠ none → b = a) (out : H a ≠ none → K.lookup a = none) (q : sp [.ref a] H (fun v _ => v = .bl true) fun _ _ _ => False) :
    codeAny (model P w) callerA (.call (.ref f) ⟨[.ref a], []⟩) (Done s) s := by
  have notA : ∀ {b : Addr}, b ≠ a → H b = none := fun {b} ne => by
    cases e : H b with
    | none => rfl
    | some u => exact absurd (alone b (by rw [e]; exact Option.some_ne_none u)) ne
  have see : ∀ {b : Addr} {o : Obj}, s.heap.get? b = some o → H b = none → (hidT s.heap H).get? b = some o := fun e n => hidT_get e n
  have dictNs : ∀ {b : Addr} {m : Str → Option Value}, s.heap.Ns b m → (hidT s.heap H).Ns b m := fun {b m} ⟨o, es, ep, e, d, r⟩ => by
    refine ⟨o, es, ep, see e (notA fun z => ?_), d, r⟩
    rw [z, lo] at e
    cases e
    cases d
  have kin' : K.In (hidT s.heap H) := fun b o e => by
    refine see (kin b o e) ?_
    by_cases z : b = a
    · cases e2 : H b with
      | none => rfl
      | some u =>
        have := out (by rw [← z, e2]; exact Option.some_ne_none u)
        rw [← z, e] at this
        cases this
    · exact notA z
  have md : Mod K mg (hidT s.heap H) := by
    obtain ⟨mc, l1, l2⟩ := nl
    exact { kin := kin', glob := dictNs ns, blt := ⟨mb, dictNs nb, hbb⟩, nolimit := ⟨mc, dictNs l1, l2⟩ }
  have e0 : Env0 P w K mg (hidT s.heap H) callerA [] s H := ⟨rfl, md, fun b o e => of_hidT e, Nat.le_of_eq (hidT_size _ _), trivial, fun b hb => (List.not_mem_nil hb).elim, ok, .of_eq ge⟩
  have go := (F _ kin' (dictNs ns)).go callerA [] s H ⟨[.ref a], []⟩ [.ref a] [.ref a] (fun v _ => v = .bl true) (fun _ _ _ => False) callerA_free rm e0 (bd s (.ref a)) (.cons rfl .nil) q
  refine codeAny_mono go fun r s' h => ?_
  rcases r with e | fl
  · exact False.elim h
  · cases fl with
    | ret u =>
      obtain ⟨v, H', o1, o2, un, ok', ru, ev⟩ := h
      have ev' : v = .bl true := ev
      subst ev'
      have eu : u = Value.bool true := ru
      subst eu
      refine ⟨rfl, OldK.of_keep fun b o e => ?_, o1, o2⟩
      cases z : H b with
      | none => exact un.keep b o e z List.not_mem_nil List.not_mem_nil
      | some u =>
        rcases on b with y | ⟨ob, xs, y⟩
        · rw [y] at z
          cases z
        · have a1 := (ok b _ y).1
          have a2 := (ok' b _ (un.frzs b ob _ y)).1
          rw [a1] at e
          cases e
          exact a2
    | next => exact False.elim h
    | brk => exact False.elim h
    | cont => exact False.elim h
theorem ints_vals : ∀ {us : List Value} {is : List Int}, IntsAre us is → Vals (is.map V.int) us
  | _, _, .nil => .nil
  | _, _, .cons m t h => .cons ⟨t, rfl⟩ (ints_vals h)
theorem law_end (kin : K.In s.heap) (ns : s.heap.Ns mainGlobals mg) (nb : s.heap.Ns builtinsNs mb) (hbb : ∀ x : Str, x ≠ "__name__" → mb x = bootBuiltins x) (nl : s.heap.NoLimit) (ge : s.gens = #[])
    (lo : s.heap.get? a = some { cls := .type "list", data := .seq its.toArray }) (ia : IntsAre its zs) (hz : zs.length ≤ sizeLine) (rm : Room n callerA) (F : ∀ base : Heap, K.In base → base.Ns mainGlobals mg → FnG P w K mg base CX0 n f fd [par] sp)
    (bd : ∀ (s : Shared) (u : Value), BindsTo s fd ⟨[u], []⟩ [(par, u)]) (q : ∀ H : Hp, Only H → SqL K H a (zs.map V.int) → sp [.ref a] H (fun v _ => v = .bl true) fun _ _ _ => False) : codeAny (model P w) callerA (.call (.ref f) ⟨[.ref a], []⟩) (Done s) s := by
  have rel := ints_vals ia
  have len := ia.length
  cases hk : K.lookup a with
  | some o =>
    have same := kin a o hk
    rw [lo] at same
    cases same
    refine law_at kin ns nb hbb nl ge lo rm F bd (H := fun _ => none) (fun _ => .inl rfl) (fun b u z => nomatch z) (fun b z => absurd rfl z) (fun z => absurd rfl z) (q _ (fun _ => .inl rfl) (.inr ⟨_, its.toArray, _, hk, rfl, rfl, rfl, ?_, by rw [List.toList_toArray]; exact rel⟩))
    rw [List.size_toArray, len]
    exact hz
  | none =>
    have one : ∀ b, (fun b => if b = a then some (HO.frz { cls := .type "list", data := .seq its.toArray } (.lst (zs.map V.int))) else none : Hp) b = none ∨ (b = a ∧ (fun b => if b = a then some (HO.frz { cls := .type "list", data := .seq its.toArray } (.lst (zs.map V.int))) else none : Hp) b = some (HO.frz { cls := .type "list", data := .seq its.toArray } (.lst (zs.map V.int)))) := fun b => by
      by_cases z : b = a
      · exact .inr ⟨z, if_pos z⟩
      · exact .inl (if_neg z)
    have on : Only (fun b => if b = a then some (HO.frz { cls := .type "list", data := .seq its.toArray } (.lst (zs.map V.int))) else none) := fun b => (one b).imp id fun h => ⟨_, _, h.2⟩
    refine law_at kin ns nb hbb nl ge lo rm F bd on (fun b u z => ?_) (fun b z => ?_) (fun _ => hk) (q _ on (.inl (.inr ⟨_, if_pos rfl⟩)))
    · rcases one b with h | ⟨h1, h2⟩
      · cases h.symm.trans z
      · cases h2.symm.trans z
        subst h1
        exact ⟨lo, by rw [List.length_map]; exact hz, its, _, rel, lo⟩
    · rcases one b with h | ⟨h1, h2⟩
      · exact absurd h z
      · exact h1
end
/-- a law whose def promises so -/
theorem walk_G {l : PySem.W.OpenLaw} {most k : Nat} {q : Program} {loose : List Str} {XP : (Str → Option Value) → Heap → Prop} {YP : World → Heap → Prop} {d : DefRec} {par : Str} (hm : l.most = some most) (hs : most ≤ sizeLine) (hd : d.params.defaults = []) (rm : Room k callerA)
    (F : ∀ (w : World) (mg : Str → Option Value) (f : Addr) (h : Heap), YP w h → h.Ns mainGlobals mg → mg d.name = some (.ref f) → ∃ (K : PySem.W.Frag) (fd : FuncData) (sp : Sp), K.In h ∧ (∀ (s : Shared) (u : Value), BindsTo s fd ⟨[u], []⟩ [(par, u)]) ∧
      (∀ (H : Hp) (a : Addr) (zs : List Int), zs.length ≤ most → Only H → SqL K H a (zs.map V.int) → sp [.ref a] H (fun v _ => v = .bl true) fun _ _ _ => False) ∧ ∀ base : Heap, K.In base → base.Ns mainGlobals mg → FnG l.prog w K mg base CX0 k f fd [par] sp) :
    PySem.W.WalkO q loose XP YP l.row.toRowW d [] (fun f vs => PySem.call f vs) :=
  Att.attach_call hm hd fun w s₀ s₁ mg mb fa o pm cd doc a vs zs G Y ho h1 hcd hmg hobj hi hl hg => by
    obtain ⟨K, fd, sp, kin, bd, ans, FF⟩ := F w mg fa _ Y G.T.g hmg
    exact law_end kin G.T.g G.T.b G.T.builtins G.T.nolimit hg hobj hi (Nat.le_trans hl hs) rm FF bd fun H on sq => ans H a zs hl on sq
end PiX
set_option Elab.async false
set_option linter.all false
set_option maxRecDepth 100000
set_option maxHeartbeats 4000000
/-! Pi13: from the text to what it computes: expressions. -/
namespace Pi
open PySem L2
open PyProof.Rows hiding St
open Classical

/-- what is known where a text stands -/
structure CE where
  T : Tab
  sc : Scope
  N : List Str
  lv : Nat
  cells : List (Nat × Nat)
  fn : Str → Bool
def biNames : List Str := ["len", "list", "tuple", "any", "all", "sum", "abs", "max", "min", "int", "bool", "str", "isinstance", "range", "enumerate", "zip", "reversed", "sorted", "set", "dict", "repr", "ValueError", "ZeroDivisionError", "KeyError"]
structure Good (E : CE) (X : Cx) (c : RC) : Prop where
  T : XTab E.lv X c E.T
  K : X.K = c.K
  calm : X.calm = true
  N : X.N = E.N
  nd : X.N.Nodup
  sc : X.env.scope = E.sc
  kind : X.env.scope.kind = .function
  room : Room E.lv X.A
  gd : X.A.guards = some []
  bi : ∀ x ∈ biNames, X.mg x = none
  pass : PassesOwn (model X.prog X.w) X.A X.env X.xe
  fn : ∀ x, E.fn x = true → X.fn x = true
theorem Good.bk {E : CE} {X : Cx} {c : RC} (g : Good E X c) : X.env.blockKind = .function := by
  unfold Env.blockKind
  rw [g.kind]
  rfl
def ixOf (x : Str) : List Str → Option Nat
  | [] => none
  | y :: r => if y == x then some 0 else (ixOf x r).map (· + 1)
theorem ixOf_get {x : Str} : ∀ {N : List Str} {i : Nat}, ixOf x N = some i → N[i]? = some x
  | [], i, h => by cases h
  | y :: r, i, h => by
    unfold ixOf at h
    split at h
    · rename_i e
      cases h
      rw [eq_of_beq e]
      rfl
    · obtain ⟨j, hj, rfl⟩ := Option.map_eq_some_iff.mp h
      rw [List.getElem?_cons_succ]
      exact ixOf_get hj
def inC (E : CE) (p : Pos) : Bool := E.cells.any fun q => q.1 == p.line && q.2 == p.col
def plainName (x : Str) : Bool := !(x == ("__debug__" : Str)) && !(x == ("__classdict__" : Str)) && !(x == ("__name__" : Str))
theorem plain_debug {x : Str} (h : plainName x = true) : (x == ("__debug__" : Str)) = false := by
  unfold plainName at h
  simp only [Bool.and_eq_true, Bool.not_eq_true'] at h
  exact h.1.1
theorem plain_cd {x : Str} (h : plainName x = true) : (x == ("__classdict__" : Str)) = false := by
  unfold plainName at h
  simp only [Bool.and_eq_true, Bool.not_eq_true'] at h
  exact h.1.2
theorem plain_nm {x : Str} (h : plainName x = true) : x ≠ ("__name__" : Str) := by
  unfold plainName at h
  simp only [Bool.and_eq_true, Bool.not_eq_true'] at h
  intro e
  rw [e] at h
  have := h.2
  simp at this
def varIx (E : CE) (x : Str) : Option Nat := match E.sc.names.lookup x with
  | some .local => ixOf x E.N
  | some .cell => ixOf x E.N
  | some .free => ixOf x E.N
  | _ => none
def isGl (E : CE) (x : Str) : Bool := match E.sc.names.lookup x with
  | some .globalImplicit => true
  | _ => false
section
variable {E : CE} {X : Cx} {c : RC} {x : Str} {e a b o : Expr} {es : List Expr} {m : Cm} {pos p apos : Pos}
theorem varIx_ok (g : Good E X c) {i : Nat} (h : varIx E x = some i) : X.N[i]? = some x ∧ Vis X.env.scope x := by
  rw [g.N, g.sc]
  unfold varIx at h
  split at h
  · rename_i e; exact ⟨ixOf_get h, .inl e⟩
  · rename_i e; exact ⟨ixOf_get h, .inr (.inl e)⟩
  · rename_i e; exact ⟨ixOf_get h, .inr (.inr e)⟩
  · cases h
theorem isGl_ok (g : Good E X c) (h : isGl E x = true) : Gl X x := by
  unfold isGl at h
  unfold Gl Env.kindOf
  rw [g.sc]
  split at h
  · rename_i e; exact e
  · cases h
def cmName (E : CE) (x : Str) : Option Cm := if plainName x then (match varIx E x with
  | some i => some (cVar i)
  | none => if isGl E x then (E.T.consts.lookup x).map cC else none) else none
theorem cmName_ok (g : Good E X c) (h : cmName E x = some m) : PE X (.Name x p) (tE c m) := by
  unfold cmName at h
  split at h
  · rename_i hp
    split at h
    · rename_i i hi
      cases h
      obtain ⟨h1, h2⟩ := varIx_ok g hi
      exact de_var h1 h2 (plain_debug hp) (plain_cd hp)
    · split at h
      · rename_i hg
        obtain ⟨d, hd, rfl⟩ := Option.map_eq_some_iff.mp h
        obtain ⟨u, v, hm, rv, hv⟩ := g.T.consts x d hd
        exact PE.imp (pe_glob (isGl_ok g hg) hm rv (plain_debug hp)) fun σ H Q q => ie_c hv q
      · cases h
  · cases h

def binD (cell : Bool) : Operator → Option (Val → Val → Store → Res Val)
  | .Add => if cell then some opAddC else some opAdd
  | .Sub => some opSub
  | .Mult => some opMulR
  | .FloorDiv => some opDiv
  | .Mod => some opMod
  | .Pow => some opPow
  | .LShift => some opShl
  | _ => none
theorem binD_ok (g : Good E X c) {cell : Bool} {op : Operator} {f : Val → Val → Store → Res Val} (h : binD cell op = some f) : SO2 X c (binaryOp op) f := by
  unfold binD at h
  split at h
  · split at h <;> cases h
    · exact so_addC
    · exact so_add g.K
  all_goals cases h
  · exact so_sub
  · exact so_mulR
  · exact so_div
  · exact so_mod
  · exact so_pow
  · exact so_shl
def cmpD (E : CE) : CmpOp → Option (Val → Val → Store → Res Val)
  | .Eq => if E.T.eqlv + (DEEP + 1) ≤ E.lv then some (opEq E.T.eqc false) else none
  | .NotEq => if E.T.eqlv + (DEEP + 1) ≤ E.lv then some (opEq E.T.eqc true) else none
  | .Lt => some opLt
  | .LtE => some opLe
  | .Gt => some opGt
  | .GtE => some opGe
  | .Is => some (opIs false)
  | .IsNot => some (opIs true)
  | .In => if E.T.eqlv + (DEEP + 1) ≤ E.lv then some (opIn E.T.eqc false) else none
  | .NotIn => if E.T.eqlv + (DEEP + 1) ≤ E.lv then some (opIn E.T.eqc true) else none
theorem cmpD_ok (g : Good E X c) {op : CmpOp} {f : Val → Val → Store → Res Val} (h : cmpD E op = some f) : SO2 X c (compareOp op) f := by
  unfold cmpD at h
  split at h
  · split at h
    · rename_i hl; cases h; exact so_eq g.K (g.T.eqf (by omega)) (g.room.mono hl) g.gd false
    · cases h
  · split at h
    · rename_i hl; cases h; exact so_eq g.K (g.T.eqf (by omega)) (g.room.mono hl) g.gd true
    · cases h
  · cases h; exact so_lt
  · cases h; exact so_le
  · cases h; exact so_gt
  · cases h; exact so_ge
  · cases h; exact so_is false
  · cases h; exact so_is true
  · split at h
    · rename_i hl; cases h; exact so_in g.K (g.T.eqf (by omega)) (g.room.mono hl) g.gd false
    · cases h
  · split at h
    · rename_i hl; cases h; exact so_in g.K (g.T.eqf (by omega)) (g.room.mono hl) g.gd true
    · cases h

/-! ### the parts are known -/
abbrev RecE := CE → Expr → Option Cm
structure RecOk (rE rT : RecE) : Prop where
  e : ∀ {E : CE} {e : Expr} {m : Cm} {X : Cx} {c : RC}, Good E X c → rE E e = some m → PE X e (tE c m)
  t : ∀ {E : CE} {e : Expr} {m : Cm} {X : Cx} {c : RC}, Good E X c → rT E e = some m → PT X e (tT c m)
variable {rE rT : RecE}
def allM (f : Expr → Option Cm) : List Expr → Option (List Cm)
  | [] => some []
  | e :: es => if notStar e then (match f e, allM f es with
    | some m, some ms => some (m :: ms)
    | _, _ => none) else none
theorem allM_star {f : Expr → Option Cm} : ∀ {es : List Expr} {ms : List Cm}, allM f es = some ms → es.all notStar = true
  | [], ms, h => rfl
  | e :: es, ms, h => by
    unfold allM at h
    split at h
    · rename_i hs
      split at h
      · rename_i m ms' h1 h2
        rw [List.all_cons, hs, allM_star h2]
        rfl
      · cases h
    · cases h
theorem allM_ok (R : RecOk rE rT) (g : Good E X c) : ∀ {es : List Expr} {ms : List Cm}, allM (rE E) es = some ms → PA X es (tA c ms)
  | [], ms, h => by cases h; exact da_nil
  | e :: es, ms, h => by
    unfold allM at h
    split at h
    · rename_i hs
      split at h
      · rename_i m ms' h1 h2
        cases h
        exact da_cons (R.e g h1) (allM_ok R g h2) (starEach_cons hs)
      · cases h
    · cases h
def kwM (f : Expr → Option Cm) : List Keyword → Option (List Cm × List Str)
  | [] => some ([], [])
  | ⟨some k, e, _⟩ :: es => match f e, kwM f es with
    | some m, some (ms, ks) => some (m :: ms, k :: ks)
    | _, _ => none
  | ⟨none, _, _⟩ :: _ => none
theorem kwM_ok (R : RecOk rE rT) (g : Good E X c) : ∀ {kws : List Keyword} {ms : List Cm} {ks : List Str}, kwM (rE E) kws = some (ms, ks) → PK X kws (tA c ms) ∧ kws.all (·.arg.isSome) = true ∧ kws.filterMap (·.arg) = ks
  | [], ms, ks, h => by cases h; exact ⟨dk_nil, rfl, rfl⟩
  | ⟨some k, e, kp⟩ :: es, ms, ks, h => by
    unfold kwM at h
    split at h
    · rename_i m ms' ks' h1 h2
      cases h
      obtain ⟨q1, q2, q3⟩ := kwM_ok R g h2
      refine ⟨dk_cons (R.e g h1) q1, ?_, ?_⟩
      · rw [List.all_cons, q2]
        rfl
      · rw [List.filterMap_cons, q3]
    · cases h
  | ⟨none, e, kp⟩ :: es, ms, ks, h => by unfold kwM at h; cases h

/-! ### calls of built-in names -/
inductive Bi where
  | len | any | all | sum | abs | max | min | repr
inductive BiT where
  | list (cell : Bool) | tuple | int
noncomputable def Bi.f : Bi → List Val → Store → Res Val
  | .len => biLen
  | .any => biAny
  | .all => biAll
  | .sum => biSum
  | .abs => biAbs
  | .max => biMax
  | .min => biMin
  | .repr => biRepr
def Bi.id : Bi → String
  | .len => "len"
  | .any => "any"
  | .all => "all"
  | .sum => "sum"
  | .abs => "abs"
  | .max => "max"
  | .min => "min"
  | .repr => "repr"
def BiT.f : BiT → List Val → Store → Res Val
  | .list cell => biList cell
  | .tuple => biTuple
  | .int => biInt
def BiT.id : BiT → String
  | .list _ => "list"
  | .tuple => "tuple"
  | .int => "int"
theorem Bi.ok (g : Good E X c) : ∀ b : Bi, SOC X c (.builtin b.id) b.f
  | .len => so_len g.K
  | .any => so_any g.calm g.K
  | .all => so_all g.calm g.K
  | .sum => so_sum g.calm g.K
  | .abs => so_abs
  | .max => so_max g.calm
  | .min => so_min g.calm
  | .repr => so_repr g.K g.gd (by have := g.room.un; omega)
theorem BiT.ok (g : Good E X c) : ∀ b : BiT, SOC X c (.type b.id) b.f
  | .list cell => so_list cell g.K
  | .tuple => so_tuple g.K
  | .int => so_int
theorem Bi.boot : ∀ b : Bi, bootBuiltins (Str.ofString b.id) = some (.builtin b.id) := by
  intro b; cases b <;> rfl
theorem BiT.boot : ∀ b : BiT, bootBuiltins (Str.ofString b.id) = some (.type b.id) := by
  intro b; cases b <;> rfl
def biOf (x : Str) : Option Bi := [Bi.len, .any, .all, .sum, .abs, .max, .min, .repr].find? fun b => Str.ofString b.id == x
def biTOf (x : Str) (cell : Bool) : Option BiT := [BiT.list cell, .tuple, .int].find? fun b => Str.ofString b.id == x
def inBi (x : Str) : Bool := biNames.any (· == x)
theorem inBi_ok (g : Good E X c) (h : inBi x = true) : X.mg x = none := by
  unfold inBi at h
  rw [List.any_eq_true] at h
  obtain ⟨y, hy, e⟩ := h
  rw [← eq_of_beq e]
  exact g.bi y hy
theorem SOC.callR {f : Value} {k : List Val → Store → Res Val} (h : SOC X c f k) : CallR X f (fun vs H Q => ∃ M μ S ds d S', Sim c M μ S H ∧ VRs c M μ S.length H ds vs ∧ k ds S = .ok d S' ∧ KE c M μ S.length H d S' Q) := by
  intro pins s σ H xs us Q I r q
  obtain ⟨M, μ, S, ds, d, S', sm, rv, q, kk⟩ := q
  exact h pins s σ H M μ S xs us ds d S' Q I sm rv r q kk
/-- a class's name, for isinstance -/
def tyName (E : CE) (x : Str) : Option Ty := if plainName x && isGl E x then (if inBi x then ([Ty.bt "int", .bt "bool", .bt "str", .bt "tuple", .bt "list", .bt "ValueError", .bt "ZeroDivisionError", .bt "KeyError"].find? fun t => match t with
    | .bt n => Str.ofString n == x
    | _ => false) else (match E.T.cnames.lookup x with
    | some C => some (.own C)
    | none => (E.T.xnames.lookup x).map Ty.exc)) else none
theorem tyName_ok (g : Good E X c) {u : Ty} (h : tyName E x = some u) : PE X (.Name x p) (tC (u.v c)) ∧ ClsV (u.v c) (u.val c) := by
  unfold tyName at h
  split at h
  · rename_i hp
    rw [Bool.and_eq_true] at hp
    split at h
    · rename_i hb
      have hm := List.mem_of_find?_eq_some h
      have hx := List.find?_some h
      have hmg := inBi_ok g hb
      simp only [List.mem_cons, List.not_mem_nil, or_false] at hm
      rcases hm with rfl | rfl | rfl | rfl | rfl | rfl | rfl | rfl
      all_goals
        have hx' := eq_of_beq hx
        subst hx'
        exact ⟨pe_bltn (isGl_ok g hp.2) hmg rfl rfl (plain_nm hp.1) (plain_debug hp.1), .ty _⟩
    · split at h
      · rename_i C hC
        cases h
        exact ⟨pe_glob (isGl_ok g hp.2) (g.T.cnames x C hC) rfl (plain_debug hp.1), .own _⟩
      · obtain ⟨C, hC, rfl⟩ := Option.map_eq_some_iff.mp h
        exact ⟨pe_glob (isGl_ok g hp.2) (g.T.xnames x C hC) rfl (plain_debug hp.1), .own _⟩
  · cases h
def isIsi (x : Str) : Bool := x == ("isinstance" : Str)
def cIsi (kit : Ty → Ty → Option Bool) (u : Ty) (m : Cm) : Cm := cN (biIsi kit u) [m]
noncomputable def callE0 (rE : RecE) (E : CE) (x : Str) (es : List Expr) (kws : List Keyword) (pos : Pos) : Option Cm :=
  if plainName x && isGl E x then (match es with
  | [] => none
  | e :: es' => if isIsi x then (match es', kws with
      | [.Name y _], [] => if notStar e then (match rE E e, tyName E y with
        | some m, some u => some (cIsi E.T.kit u m)
        | _, _ => none) else none
      | _, _ => none)
    else match allM (rE E) es with
    | none => none
    | some ms => if inBi x then (match kws with
        | [] => match biOf x with
          | some b => some (cN b.f ms)
          | none => match biTOf x (inC E pos) with
            | some b => some (cN b.f ms)
            | none => none
        | _ => none)
      else match kwM (rE E) kws with
        | none => none
        | some (mk, ks) => match E.T.fns.lookup x with
          | some F => some (cCall F E.lv es.length ks ms mk)
          | none => match E.T.cnames.lookup x with
            | some C => match E.T.cls C with
              | some k => some (cMake k C E.lv es.length ks ms mk)
              | none => none
            | none => none) else none
theorem callE0_ok (R : RecOk rE rT) (g : Good E X c) {kws : List Keyword} (h : callE0 rE E x es kws pos = some m) : PE X (.Call (.Name x p) es kws pos) (tE c m) := by
  unfold callE0 at h
  split at h
  · rename_i hp
    rw [Bool.and_eq_true] at hp
    have hg := isGl_ok g hp.2
    split at h
    · cases h
    · rename_i e es'
      split at h
      · rename_i hi
        have hx : x = ("isinstance" : Str) := eq_of_beq hi
        subst hx
        split at h
        · rename_i y py
          split at h
          · rename_i hns
            split at h
            · rename_i m1 u h1 h2
              cases h
              obtain ⟨q1, q2⟩ := tyName_ok (p := py) g h2
              have hA : PA X [e, .Name y py] (tCons (tE c m1) (tCons (tC (u.v c)) tNil)) := pa_cons (R.e g h1) (pa_cons q1 pa_nil) (starEach_cons hns)
              refine PE.imp (pe_callB call_is2 hg (inBi_ok g rfl) rfl hA (he := starEach_cons hns)) fun σ H Q q => ?_
              obtain ⟨M, μ, S, ρ, d, S', sm, l, q, k⟩ := q
              obtain ⟨ds, S1, q3, q4⟩ := Res.bind_eq_ok q
              simp only [evs] at q3
              obtain ⟨d1, S2, q5, q6⟩ := Res.bind_eq_ok q3
              cases q6
              refine ⟨M, μ, S, ρ, d1, _, sm, l, q5, fun M1 μ1 H1 v e1 s1 r1 => ?_⟩
              obtain ⟨x', hx', hr⟩ := isi_ok g.K g.T.kit s1 (.cons r1 .nil) q4 (k.ext e1)
              cases hx'
              exact hr
            · cases h
          · cases h
        · cases h
      · split at h
        · cases h
        · rename_i ms hms
          have hst := allM_star hms
          have hA := allM_ok R g hms
          have hh : notStar e = true := by rw [List.all_cons, Bool.and_eq_true] at hst; exact hst.1
          have hpl1 : (backTo pos (starEach es' X.env)).any (·.1) = false := star_none (by rw [List.all_cons, Bool.and_eq_true] at hst; exact hst.2)
          split at h
          · rename_i hb
            have hmg := inBi_ok g hb
            split at h
            · split at h
              · rename_i b hbb
                cases h
                have hx : Str.ofString b.id = x := eq_of_beq (List.find?_some (p := fun b => Str.ofString (Bi.id b) == x) hbb)
                subst hx
                refine PE.imp (pe_callB (SOC.callR (b.ok g)) hg hmg b.boot hA (plain_nm hp.1) (plain_debug hp.1) (starEach_cons hh) hpl1) fun σ H Q q => tE_cN q
              · split at h
                · rename_i b hbb
                  cases h
                  have hx : Str.ofString b.id = x := eq_of_beq (List.find?_some (p := fun b => Str.ofString (BiT.id b) == x) hbb)
                  subst hx
                  refine PE.imp (pe_callTy (SOC.callR (b.ok g)) hg hmg b.boot hA (plain_nm hp.1) (plain_debug hp.1) (starEach_cons hh) hpl1) fun σ H Q q => tE_cN q
                · cases h
            · cases h
          · split at h
            · cases h
            · rename_i mk ks hkw
              obtain ⟨q1, q2, q3⟩ := kwM_ok R g hkw
              have hpl2 : ((backTo pos (starEach (e :: es') X.env)).any (·.1) || (backToKw pos (keywordEach kws X.env)).any (·.1.isNone)) = false := by
                rw [star_none hst, kw_any q2]
                rfl
              split at h
              · rename_i F hF
                cases h
                exact de_call g.T hF g.room g.gd hg hA q1 (plain_debug hp.1) (kw_all q2) (kw_names.trans q3) (starEach_cons hh) hpl2
              · split at h
                · rename_i C hC
                  split at h
                  · rename_i k hk
                    cases h
                    exact de_make g.T hC hk g.room g.gd hg hA q1 (plain_debug hp.1) (kw_all q2) (kw_names.trans q3) (starEach_cons hh) hpl2
                  · cases h
                · cases h
  · cases h
/-- list(reversed(e)) -/
def lrevE (rE : RecE) (E : CE) (x : Str) (es : List Expr) (kws : List Keyword) (pos : Pos) : Option Cm := match es, kws with
  | [.Call (.Name y _) [e] [] _], [] => if x == ("list" : Str) && (y == ("reversed" : Str) && (isGl E x && (isGl E y && notStar e))) then (rE E e).map (c1 (opLRev (inC E pos))) else none
  | _, _ => none
theorem lrevE_ok (R : RecOk rE rT) (g : Good E X c) {kws : List Keyword} (h : lrevE rE E x es kws pos = some m) : PE X (.Call (.Name x p) es kws pos) (tE c m) := by
  unfold lrevE at h
  split at h
  · split at h
    · rename_i hp
      simp only [Bool.and_eq_true] at hp
      obtain ⟨h1, h2, h3, h4, h5⟩ := hp
      obtain ⟨ma, hm, rfl⟩ := Option.map_eq_some_iff.mp h
      have e1 := eq_of_beq h1
      have e2 := eq_of_beq h2
      subst e1 e2
      exact de_lrev _ g.K g.calm (isGl_ok g h3) (inBi_ok g rfl) (isGl_ok g h4) (inBi_ok g rfl) (R.e g hm) (starEach_cons h5) rfl
    · cases h
  · cases h
/-- an exception of an own class -/
def xmkE (rE : RecE) (E : CE) (x : Str) (es : List Expr) (kws : List Keyword) : Option Cm := if plainName x && isGl E x then (match E.T.xnames.lookup x with
  | some C => match E.T.xcls C, allM (rE E) es, kwM (rE E) kws with
    | some k, some ms, some (mk, ks) => some (cMakeX k C E.lv es.length ks ms mk)
    | _, _, _ => none
  | none => none) else none
theorem xmkE_ok (R : RecOk rE rT) (g : Good E X c) {kws : List Keyword} (h : xmkE rE E x es kws = some m) : PE X (.Call (.Name x p) es kws pos) (tE c m) := by
  unfold xmkE at h
  split at h
  · rename_i hp
    rw [Bool.and_eq_true] at hp
    have hg := isGl_ok g hp.2
    split at h
    · rename_i C hC
      split at h
      · rename_i k ms mk ks hk hms hkw
        cases h
        have hst := allM_star hms
        have hA := allM_ok R g hms
        obtain ⟨q1, q2, q3⟩ := kwM_ok R g hkw
        have hpl2 : ((backTo pos (starEach es X.env)).any (·.1) || (backToKw pos (keywordEach kws X.env)).any (·.1.isNone)) = false := by
          rw [star_none hst, kw_any q2]
          rfl
        cases es with
        | nil =>
          cases hms
          exact de_xmake0 (g.T.xcls C k hk) (g.T.xnames x C hC) g.room hg q1 (plain_debug hp.1) (kw_all q2) (kw_names.trans q3) hpl2
        | cons e es' =>
          have hh : notStar e = true := by rw [List.all_cons, Bool.and_eq_true] at hst; exact hst.1
          exact de_xmake (g.T.xcls C k hk) (g.T.xnames x C hC) g.room hg hA q1 (plain_debug hp.1) (kw_all q2) (kw_names.trans q3) (starEach_cons hh) hpl2
      · cases h
    · cases h
  · cases h
noncomputable def callE (rE : RecE) (E : CE) (x : Str) (es : List Expr) (kws : List Keyword) (pos : Pos) : Option Cm := match lrevE rE E x es kws pos with
  | some m => some m
  | none => match xmkE rE E x es kws with
    | some m => some m
    | none => callE0 rE E x es kws pos
theorem callE_ok (R : RecOk rE rT) (g : Good E X c) {kws : List Keyword} (h : callE rE E x es kws pos = some m) : PE X (.Call (.Name x p) es kws pos) (tE c m) := by
  unfold callE at h
  split at h
  · rename_i m' hm
    cases h
    exact lrevE_ok R g hm
  · split at h
    · rename_i m' hm
      cases h
      exact xmkE_ok R g hm
    · exact callE0_ok R g h
/-! ### methods -/
def cJoin (mo ma : Cm) : Cm := fun ρ S => (mo ρ S).bind fun x S1 => match x with
  | .str z => (ma ρ S1).bind fun y S2 => opJoin (.str z) y S2
  | _ => .no
noncomputable def methE (rE : RecE) (E : CE) (o : Expr) (mn : Str) (apos : Pos) (es : List Expr) (pos : Pos) : Option Cm :=
  if attrPlain o && apos.endLine == pos.line && decide (es.length < 30) then (match rE E o, allM (rE E) es with
  | some mo, some ms => if mn == ("append" : Str) then (match es, ms with
      | [_], [ma] => some (cApp mo ma)
      | _, _ => none)
    else if mn == ("pop" : Str) then (match es with
      | [] => some (c1 opPop mo)
      | _ => none)
    else if mn == ("bit_length" : Str) then (match es with
      | [] => some (c1 opBits mo)
      | _ => none)
    else if mn == ("join" : Str) then (match es, ms with
      | [_], [ma] => some (cJoin mo ma)
      | _, _ => none)
    else some (cMeth E.T E.lv mn es.length mo ms)
  | _, _ => none) else none
theorem methE_ok (R : RecOk rE rT) (g : Good E X c) {mn : Str} (h : methE rE E o mn apos es pos = some m) : PE X (.Call (.Attribute o mn apos) es [] pos) (tE c m) := by
  unfold methE at h
  split at h
  · rename_i hp
    simp only [Bool.and_eq_true, decide_eq_true_eq] at hp
    obtain ⟨⟨hp, hl⟩, hlen⟩ := hp
    split at h
    · rename_i mo ms hmo hms
      have ho := R.e g hmo
      have hst := allM_star hms
      have hA := allM_ok R g hms
      split at h
      · rename_i hx
        have hx := eq_of_beq hx
        subst hx
        split at h
        · rename_i a ma
          cases h
          have hna : notStar a = true := by simpa using hst
          refine de_app ho hA (attr_base hp) ?_ hl (starEach_cons hna)
          rw [star_all hst]
          rfl
        · cases h
      · split at h
        · rename_i hx
          have hx := eq_of_beq hx
          subst hx
          split at h
          · cases h
            exact de_pop ho (attr_base hp) hl
          · cases h
        · split at h
          · rename_i hx
            have hx := eq_of_beq hx
            subst hx
            split at h
            · cases h
              exact de_bits ho (attr_base hp) hl
            · cases h
          · split at h
            · rename_i hx
              have hx := eq_of_beq hx
              subst hx
              split at h
              · rename_i a ma
                cases h
                have hna : notStar a = true := by simpa using hst
                have ha : PE X a (tE c ma) := by
                  unfold allM at hms
                  rw [if_pos hna] at hms
                  split at hms
                  · rename_i m1 ms1 h1 h2
                    cases hms
                    exact R.e g h1
                  · cases hms
                exact de_join ho ha (starEach_cons hna) (attr_base hp) hl
              · cases h
            cases h
            cases es with
            | nil =>
              cases hms
              exact de_meth0 g.T g.room g.gd ho (meth_form hp rfl hlen hl)
            | cons e es' =>
              have hst' := hst
              rw [List.all_cons, Bool.and_eq_true] at hst'
              have e1 : (e :: es').length = es'.length + 1 := rfl
              exact de_meth g.T g.room g.gd ho hA (starEach_cons hst'.1) (star_none hst'.2) (meth_form hp hst hlen hl)
    · cases h
  · cases h
end
end Pi
set_option Elab.async false
set_option linter.all false
set_option maxRecDepth 100000
set_option maxHeartbeats 4000000
/-! Pi14: from the text to what it computes: the rest. -/
namespace Pi
open PySem L2
open PyProof.Rows hiding St
open Classical

section
variable {E : CE} {X : Cx} {c : RC} {x : Str} {e a b o tg iter elt : Expr} {es : List Expr} {m : Cm} {pos p apos : Pos} {rE rT : RecE}
/-! ### patterns -/
def locIx (E : CE) (x : Str) : Option Nat := match E.sc.names.lookup x with
  | some .local => ixOf x E.N
  | some .cell => if E.fn x then ixOf x E.N else none
  | _ => none
theorem locIx_ok (g : Good E X c) {i : Nat} (h : locIx E x = some i) : X.N[i]? = some x ∧ L2.Loc X.env.scope x ∧ (X.fn x = true ∨ X.env.scope.names.lookup x = some .local) := by
  rw [g.N, g.sc]
  unfold locIx at h
  split at h
  · rename_i e; exact ⟨ixOf_get h, .inl e, .inr e⟩
  · rename_i e
    split at h
    · rename_i f; exact ⟨ixOf_get h, .inr e, .inl (g.fn x f)⟩
    · cases h
  · cases h
def patsE (f : Expr → Option Pat) : List Expr → Option (List Pat)
  | [] => some []
  | e :: es => if notStar e then (match f e, patsE f es with
    | some p, some ps => some (p :: ps)
    | _, _ => none) else none
def patE : Nat → CE → Expr → Option Pat
  | 0, _, _ => none
  | n + 1, E, e => match e with
    | .Name x _ => (locIx E x).map .nm
    | .Tuple es _ _ => (patsE (patE n E) es).map .tp
    | _ => none
theorem patsE_ok {f : Expr → Option Pat} (hf : ∀ e p, f e = some p → PG X e (tPat c p)) : ∀ {es : List Expr} {ps : List Pat}, patsE f es = some ps → PGs X es (tPats c ps) ∧ es.all notStar = true ∧ es.length = ps.length
  | [], ps, h => by cases h; exact ⟨dgs_nil, rfl, rfl⟩
  | e :: es, ps, h => by
    unfold patsE at h
    split at h
    · rename_i hs
      split at h
      · rename_i p ps' h1 h2
        cases h
        obtain ⟨q1, q2, q3⟩ := patsE_ok hf h2
        exact ⟨dgs_cons (hf _ _ h1) q1 (assign_cons hs), by rw [List.all_cons, hs, q2]; rfl, by rw [List.length_cons, List.length_cons, q3]⟩
      · cases h
    · cases h
theorem patE_ok (g : Good E X c) : ∀ (n : Nat) (e : Expr) (p : Pat), patE n E e = some p → PG X e (tPat c p)
  | 0, e, p, h => by cases h
  | n + 1, e, p, h => by
    unfold patE at h
    split at h
    · obtain ⟨i, hi, rfl⟩ := Option.map_eq_some_iff.mp h
      obtain ⟨h1, h2, h3⟩ := locIx_ok g hi
      exact dg_name g.nd h1 h2 h3
    · obtain ⟨ps, hi, rfl⟩ := Option.map_eq_some_iff.mp h
      obtain ⟨q1, q2, q3⟩ := patsE_ok (fun e p => patE_ok g n e p) hi
      exact dg_tup g.K g.calm q1 (by rw [assign_length, q3]) (assign_star q2)
    · cases h
/-! ### what is walked -/
def isRange (x : Str) : Bool := x == ("range" : Str)
def isEnum (x : Str) : Bool := x == ("enumerate" : Str)
noncomputable def itE (rE : RecE) (E : CE) (tg iter : Expr) : Option Itm := match iter with
  | .Call (.Name x p) es [] pos => if isRange x && isGl E x then (match allM (rE E) es with
      | some [ma] => some (itRange [ma])
      | some [ma, mb] => some (itRange [ma, mb])
      | _ => none) else if isEnum x && isGl E x then (match tg, allM (rE E) es with
      | .Tuple _ _ _, some [ma] => some (itEnum ma)
      | _, _ => none) else (rE E (.Call (.Name x p) es [] pos)).map itSeq
  | e => (rE E e).map itSeq
theorem allM_len {f : Expr → Option Cm} : ∀ {es : List Expr} {ms : List Cm}, allM f es = some ms → es.length = ms.length
  | [], ms, h => by cases h; rfl
  | e :: es, ms, h => by
    unfold allM at h
    split at h
    · split at h
      · rename_i m ms' h1 h2
        cases h
        rw [List.length_cons, List.length_cons, allM_len h2]
      · cases h
    · cases h
theorem itE_ok (R : RecOk rE rT) (g : Good E X c) {it : Itm} (h : itE rE E tg iter = some it) : PI X tg iter (tI c it) := by
  unfold itE at h
  split at h
  · rename_i x p es pos
    split at h
    · rename_i hr
      rw [Bool.and_eq_true] at hr
      have hx : x = ("range" : Str) := eq_of_beq hr.1
      subst hx
      have hg := isGl_ok g hr.2
      have hm : X.mg "range" = none := inBi_ok g rfl
      split at h
      · rename_i ma hms
        cases h
        have hl := allM_len hms
        have hst := allM_star hms
        have hA := allM_ok R g hms
        match es, hl with
        | [e], _ =>
          have hs : notStar e = true := by simpa using hst
          exact di_range1 hg hm hA (starEach_cons hs)
      · rename_i ma mb hms
        cases h
        have hl := allM_len hms
        have hst := allM_star hms
        have hA := allM_ok R g hms
        match es, hl with
        | [e, e2], _ =>
          have hs : notStar e = true ∧ notStar e2 = true := by simpa using hst
          have s2 : starEach [e2] X.env = [(false, eval e2 X.env)] := starEach_cons hs.2
          exact di_range2 hg hm hA (by rw [starEach_cons hs.1, s2]) s2
      · cases h
    · split at h
      · rename_i hr
        rw [Bool.and_eq_true] at hr
        have hx : x = ("enumerate" : Str) := eq_of_beq hr.1
        subst hx
        split at h
        · rename_i ma hms
          cases h
          have hl := allM_len hms
          have hst := allM_star hms
          have hA := allM_ok R g hms
          match es, hl with
          | [e], _ =>
            have hs : notStar e = true := by simpa using hst
            exact di_enum (isGl_ok g hr.2) (inBi_ok g rfl) hA (starEach_cons hs)
        · cases h
      · obtain ⟨m, hm, rfl⟩ := Option.map_eq_some_iff.mp h
        exact di_seq g.K (R.e g hm)
  · obtain ⟨m, hm, rfl⟩ := Option.map_eq_some_iff.mp h
    exact di_seq g.K (R.e g hm)
/-! ### comprehensions -/
def ownOf (N : List Str) (scope : Scope) : List (Str × Nat) := scope.names.filterMap fun p => match p.2 with
  | .local => (ixOf p.1 N).map fun i => (p.1, i)
  | .cell => (ixOf p.1 N).map fun i => (p.1, i)
  | _ => none
def blkE (E : CE) (scope : Scope) : CE := { E with sc := relS scope E.sc, fn := fun x => scope.names.lookup x == some .cell }
theorem blk_good (g : Good E X c) {scope : Scope} {own' : List (Str × Nat)} (ok : BlkOk X.N X.env.scope scope own') (s : Shared) (H : Hp) (C : Addr) (cl : List (Str × Addr)) (fp : List Addr) : Good (blkE E scope) (X.blk s H scope (compEnvC scope cl C X.env) fp) c where
  T := g.T
  K := g.K
  calm := g.calm
  N := g.N
  nd := g.nd
  sc := by show relS scope X.env.scope = relS scope E.sc; rw [g.sc]
  kind := by show scope.kind = .function; exact ok.kind
  room := g.room
  gd := g.gd
  bi := g.bi
  pass := .never
  fn := fun x h => h
def ifsM (rT : RecE) (E : CE) : List Expr → Option Cm
  | [] => some (cC (.bl true))
  | [t] => rT E t
  | _ => none
theorem PTs.imp {ifs : List Expr} {t t' : TT} (h : PTs X ifs t) (i : ∀ σ H Q, t' σ H Q → t σ H Q) : PTs X ifs t' := ⟨fun pins s σ H Q I q => h.run pins s σ H Q I (i σ H Q q)⟩
theorem ifsM_ok (R : RecOk rE rT) (g : Good E X c) {ifs : List Expr} {mt : Cm} (h : ifsM rT E ifs = some mt) : PTs X ifs (tT c mt) := by
  unfold ifsM at h
  split at h
  · cases h
    refine PTs.imp pts_nil fun σ H Q q => ?_
    obtain ⟨M, μ, S, ρ, b, S', sm, l, q, k⟩ := q
    cases q
    exact k M μ H .refl sm
  · exact pts_one (R.t g h)
  · cases h
noncomputable def lcE (rE rT : RecE) (E : CE) (elt : Expr) (gens : List Comprehension) (scope : Scope) (pos : Pos) : Option Cm :=
  if blkC E.N E.sc scope (ownOf E.N scope) then (match gens with
  | [⟨tg, iter, ifs, 0⟩] => if notSet iter then (match itE rE E tg iter, patE 8 (blkE E scope) tg, ifsM rT (blkE E scope) ifs, rE (blkE E scope) elt with
    | some it, some pt, some mt, some me => if pt.slots.all fun i => ((ownOf E.N scope).map (·.2)).contains i then some (cLc (inC E pos) it ((ownOf E.N scope).map (·.2)) pt mt me) else none
    | _, _, _, _ => none) else none
  | [⟨tg, iter, ifs, 0⟩, ⟨tg1, iter1, ifs1, 0⟩] => if notSet iter && notSet iter1 then (match itE rE E tg iter, patE 8 (blkE E scope) tg, ifsM rT (blkE E scope) ifs, itE rE (blkE E scope) tg1 iter1, patE 8 (blkE E scope) tg1, ifsM rT (blkE E scope) ifs1, rE (blkE E scope) elt with
    | some it, some pt, some mt, some it1, some pt1, some mt1, some me => if (pt.slots.all fun i => ((ownOf E.N scope).map (·.2)).contains i) && (pt1.slots.all fun i => ((ownOf E.N scope).map (·.2)).contains i) then some (cLc2 (inC E pos) it ((ownOf E.N scope).map (·.2)) pt1.slots pt mt it1 pt1 mt1 me) else none
    | _, _, _, _, _, _, _ => none) else none
  | _ => none) else none
theorem slots_ok {l vs : List Nat} (h : (l.all fun i => vs.contains i) = true) : ∀ i ∈ l, i ∈ vs := fun i hi => by
  rw [List.all_eq_true] at h
  simpa using h i hi
theorem lcE_ok (R : RecOk rE rT) (g : Good E X c) {gens : List Comprehension} {scope : Scope} (h : lcE rE rT E elt gens scope pos = some m) : PE X (.ListComp elt gens scope pos) (tE c m) := by
  unfold lcE at h
  split at h
  · rename_i hb
    have ok : BlkOk X.N X.env.scope scope (ownOf E.N scope) := by rw [g.N, g.sc]; exact blkOk_by hb
    have gb := blk_good g ok
    split at h
    · rename_i tg iter ifs
      split at h
      · rename_i hns
        split at h
        · rename_i it pt mt me h1 h2 h3 h4
          split at h
          · rename_i hsl
            cases h
            exact de_lc _ g.calm g.nd (itE_ok R g h1) ok (slots_ok hsl) (fun s H C cl fp => patE_ok (gb s H C cl fp) 8 tg pt h2) (fun s H C cl fp => ifsM_ok R (gb s H C cl fp) h3) (fun s H C cl fp => R.e (gb s H C cl fp) h4) (set_folded hns)
          · cases h
        · cases h
      · cases h
    · rename_i tg iter ifs tg1 iter1 ifs1
      split at h
      · rename_i hns
        rw [Bool.and_eq_true] at hns
        split at h
        · rename_i it pt mt it1 pt1 mt1 me h1 h2 h3 h4 h5 h6 h7
          split at h
          · rename_i hsl
            rw [Bool.and_eq_true] at hsl
            cases h
            exact de_lc2 _ g.calm g.nd (itE_ok R g h1) ok (slots_ok hsl.2) (slots_ok hsl.1) (fun i hi => hi) (fun s H C cl fp => patE_ok (gb s H C cl fp) 8 tg pt h2) (fun s H C cl fp => ifsM_ok R (gb s H C cl fp) h3)
              (fun s H C cl fp => itE_ok R (gb s H C cl fp) h4) (fun s H C cl fp => patE_ok (gb s H C cl fp) 8 tg1 pt1 h5) (fun s H C cl fp => ifsM_ok R (gb s H C cl fp) h6) (fun s H C cl fp => R.e (gb s H C cl fp) h7) (set_folded hns.1) (fun env x => set_folded hns.2 x)
          · cases h
        · cases h
      · cases h
    · cases h
  · cases h
/-! ### the step -/
def boolE (rE : RecE) (E : CE) (op : BoolOp) : List Expr → Option Cm
  | [] => none
  | [a] => rE E a
  | a :: b :: r => match rE E a, boolE rE E op (b :: r) with
    | some ma, some mb => some (match op with
      | .And => cAnd ma mb
      | .Or => cOr ma mb)
    | _, _ => none
theorem boolE_ok (R : RecOk rE rT) (g : Good E X c) {op : BoolOp} : ∀ {es : List Expr} {m : Cm}, boolE rE E op es = some m → PE X (.BoolOp op es pos) (tE c m)
  | [], m, h => by cases h
  | [a], m, h => de_one (R.e g h)
  | a :: b :: r, m, h => by
    unfold boolE at h
    split at h
    · rename_i ma mb h1 h2
      cases h
      cases op with
      | And => exact de_and (R.e g h1) (boolE_ok R g h2)
      | Or => exact de_or (R.e g h1) (boolE_ok R g h2)
    · cases h
theorem boolT_ok (R : RecOk rE rT) (g : Good E X c) {op : BoolOp} : ∀ {es : List Expr} {m : Cm}, boolE rT E op es = some m → PW X (.BoolOp op es pos) (tT c m)
  | [], m, h => by cases h
  | [a], m, h => by
    cases op with
    | And => exact dw_and1 (R.t g h)
    | Or => exact dw_or1 (R.t g h)
  | a :: b :: r, m, h => by
    unfold boolE at h
    split at h
    · rename_i ma mb h1 h2
      cases h
      cases op with
      | And => exact dw_and (R.t g h1) (boolT_ok R g h2)
      | Or => exact dw_or (R.t g h1) (boolT_ok R g h2)
    · cases h
def cmpE (rE : RecE) (E : CE) (a : Expr) (ops : List CmpOp) (bs : List Expr) : Option Cm := match ops, bs with
  | [op], [b] => if behindInMarks op b then none else (match cmpD E op, rE E a, rE E b with
    | some f, some ma, some mb => some (c2 f ma mb)
    | _, _, _ => none)
  | [op, op2], [b, d] => if lastMarks [op, op2] [b, d] then none else (match cmpD E op, cmpD E op2, rE E a, rE E b, rE E d with
    | some f, some f2, some ma, some mb, some md => some (cChn f f2 ma mb md)
    | _, _, _, _, _ => none)
  | _, _ => none
theorem cmpE_ok (R : RecOk rE rT) (g : Good E X c) {ops : List CmpOp} {bs : List Expr} (h : cmpE rE E a ops bs = some m) : PE X (.Compare a ops bs pos) (tE c m) ∧ PT X (.Compare a ops bs pos) (tT c m) := by
  unfold cmpE at h
  split at h
  · split at h
    · cases h
    · rename_i hm
      have hm' := Bool.eq_false_iff.mpr hm
      split at h
      · rename_i f ma mb h1 h2 h3
        cases h
        exact ⟨de_cmp (cmpD_ok g h1) (R.e g h2) (R.e g h3) hm', dt_cmp (cmpD_ok g h1) (R.e g h2) (R.e g h3) hm'⟩
      · cases h
  · split at h
    · cases h
    · rename_i hm
      have hm' := Bool.eq_false_iff.mpr hm
      split at h
      · rename_i f f2 ma mb md h1 h2 h3 h4 h5
        cases h
        exact ⟨de_chn (cmpD_ok g h1) (cmpD_ok g h2) (R.e g h3) (R.e g h4) (R.e g h5) hm', dt_chn (cmpD_ok g h1) (cmpD_ok g h2) (R.e g h3) (R.e g h4) (R.e g h5) hm'⟩
      · cases h
  · cases h
def prtE (rE : RecE) (E : CE) : Option Expr → Option (Option Cm)
  | none => some none
  | some e => (rE E e).map some
theorem prtE_ok (R : RecOk rE rT) (g : Good E X c) {eo : Option Expr} {mo : Option Cm} (h : prtE rE E eo = some mo) : PO X eo (tP c mo) := by
  unfold prtE at h
  split at h
  · cases h
    exact dp_none
  · obtain ⟨m, hm, rfl⟩ := Option.map_eq_some_iff.mp h
    exact dp_some (R.e g hm)
def subE (rE : RecE) (E : CE) (o i : Expr) (pos : Pos) : Option Cm := match i with
  | .Slice none none (some (.UnaryOp .USub (.Constant (.int 1) _ _) _)) _ => (rE E o).map (c1 (opRev (inC E pos)))
  | .Slice lo hi none _ => (match rE E o, prtE rE E lo, prtE rE E hi with
    | some mo, some ml, some mh => some (cSl (inC E pos) mo ml mh)
    | _, _, _ => none)
  | .Slice _ _ _ _ => none
  | i => (match rE E o, rE E i with
    | some mo, some mi => some (c2 opIx mo mi)
    | _, _ => none)
theorem subE_ok (R : RecOk rE rT) (g : Good E X c) {i : Expr} (h : subE rE E o i pos = some m) : PE X (.Subscript o i pos) (tE c m) := by
  unfold subE at h
  split at h
  · obtain ⟨m, hm, rfl⟩ := Option.map_eq_some_iff.mp h
    exact de_rev _ g.K (R.e g hm)
  · split at h
    · rename_i mo ml mh h1 h2 h3
      cases h
      exact de_sl _ g.K (R.e g h1) (prtE_ok R g h2) (prtE_ok R g h3)
    · cases h
  · cases h
  · rename_i hn1 hn2 hn3
    split at h
    · rename_i mo mi h1 h2
      cases h
      refine de_ix g.K (R.e g h1) (R.e g h2) (ix_plain ?_)
      unfold ixPlain
      split
      · exact absurd rfl (hn3 _ _ _ _)
      · rfl
    · cases h
noncomputable def stepE (rE rT : RecE) (E : CE) (e : Expr) : Option Cm := match e with
  | .Name x _ => cmName E x
  | .Constant (.int i) _ _ => some (cC (.int i))
  | .Constant (.bool b) _ _ => some (cC (.bl b))
  | .Constant .none _ _ => some (cC .non)
  | .Constant (.str s) _ _ => some (cC (.str s))
  | .BinOp a op b pos => match binD (inC E pos) op, rE E a, rE E b with
    | some f, some ma, some mb => some (c2 f ma mb)
    | _, _, _ => none
  | .UnaryOp .USub a _ => (rE E a).map (c1 opNeg)
  | .UnaryOp .Not a _ => (rE E a).map cNot
  | .BoolOp op es _ => boolE rE E op es
  | .IfExp t a b _ => match rT E t, rE E a, rE E b with
    | some mt, some ma, some mb => some (cIte mt ma mb)
    | _, _, _ => none
  | .Compare a ops bs _ => cmpE rE E a ops bs
  | .Call (.Name x _) es kws pos => callE rE E x es kws pos
  | .Call (.Attribute o mn apos) es [] pos => methE rE E o mn apos es pos
  | .Attribute o f _ => if attrPlain o then (rE E o).map (c1 (opAttrX E.T f)) else none
  | .Subscript o i pos => subE rE E o i pos
  | .List es pos => (allM (rE E) es).map fun ms => if inC E pos then cN mkLstC ms else cN mkLst ms
  | .Tuple es _ _ => (allM (rE E) es).map (cN mkTup)
  | .ListComp elt gens scope pos => lcE rE rT E elt gens scope pos
  | .Dict [] [] _ => some (cC (.dic [] []))
  | _ => none
theorem stepE_ok (R : RecOk rE rT) (g : Good E X c) (h : stepE rE rT E e = some m) : PE X e (tE c m) := by
  unfold stepE at h
  split at h
  · exact cmName_ok g h
  · cases h; exact de_int
  · cases h; exact de_bl
  · cases h; exact de_non
  · cases h; exact de_str
  · split at h
    · rename_i f ma mb h1 h2 h3
      cases h
      exact de_bin (binD_ok g h1) (R.e g h2) (R.e g h3)
    · cases h
  · obtain ⟨m, hm, rfl⟩ := Option.map_eq_some_iff.mp h
    exact de_un so_neg (R.e g hm)
  · obtain ⟨m, hm, rfl⟩ := Option.map_eq_some_iff.mp h
    exact de_not (R.e g hm)
  · exact boolE_ok R g h
  · split at h
    · rename_i mt ma mb h1 h2 h3
      cases h
      exact de_ite (R.t g h1) (R.e g h2) (R.e g h3)
    · cases h
  · exact (cmpE_ok R g h).1
  · exact callE_ok R g h
  · exact methE_ok R g h
  · split at h
    · rename_i hp
      obtain ⟨m, hm, rfl⟩ := Option.map_eq_some_iff.mp h
      exact de_attrX g.T g.K (R.e g hm) (attr_base hp)
    · cases h
  · exact subE_ok R g h
  · obtain ⟨ms, hm, rfl⟩ := Option.map_eq_some_iff.mp h
    split
    · exact de_lstC (allM_ok R g hm)
    · exact de_lst (allM_ok R g hm)
  · obtain ⟨ms, hm, rfl⟩ := Option.map_eq_some_iff.mp h
    exact de_tup (allM_ok R g hm)
  · exact lcE_ok R g h
  · cases h
    exact de_dnew
  · cases h
def stepT (rE rT : RecE) (E : CE) (e : Expr) : Option Cm := match e with
  | .UnaryOp .Not a _ => (rT E a).map cNot
  | .BoolOp op es _ => boolE rT E op es
  | .Compare a ops bs _ => cmpE rE E a ops bs
  | e => if testPlain e then rE E e else none
theorem stepT_ok (R : RecOk rE rT) (g : Good E X c) (R1 : ∀ {m : Cm}, stepT rE rT E e = some m → testPlain e = true → PE X e (tE c m)) (h : stepT rE rT E e = some m) : PT X e (tT c m) := by
  have h0 := h
  unfold stepT at h
  split at h
  · obtain ⟨m, hm, rfl⟩ := Option.map_eq_some_iff.mp h
    exact dt_not (R.t g hm)
  · exact (boolT_ok R g h).pt
  · exact (cmpE_ok R g h).2
  · split at h
    · rename_i hp
      exact dt_val (R1 h0 hp) (test_plain hp)
    · cases h
noncomputable def comp : Nat → RecE × RecE
  | 0 => (fun _ _ => none, fun _ _ => none)
  | n + 1 => (stepE (comp n).1 (comp n).2, stepT (stepE (comp n).1 (comp n).2) (comp n).2)
theorem comp_ok : ∀ n, RecOk (comp n).1 (comp n).2
  | 0 => ⟨fun _ h => (nomatch h), fun _ h => (nomatch h)⟩
  | n + 1 => by
    have R := comp_ok n
    have R1 : ∀ {E : CE} {e : Expr} {m : Cm} {X : Cx} {c : RC}, Good E X c → (comp (n + 1)).1 E e = some m → PE X e (tE c m) := fun g h => stepE_ok R g h
    have RR : RecOk (stepE (comp n).1 (comp n).2) (comp n).2 := ⟨fun g h => R1 g h, R.t⟩
    refine ⟨R1, fun {E e m X c} g h => ?_⟩
    refine stepT_ok RR g (fun {m'} h' hp => ?_) h
    have h2 : (comp (n + 1)).1 E e = some m' := by
      unfold stepT at h'
      split at h'
      · cases hp
      · cases hp
      · cases hp
      · rw [if_pos hp] at h'
        exact h'
    exact R1 g h2
end
end Pi
set_option Elab.async false
set_option linter.all false
set_option maxRecDepth 100000
set_option maxHeartbeats 4000000
/-! Pi15: from the text to what it computes: targets, statements, defs. -/
namespace Pi
open PySem L2
open PyProof.Rows hiding St
open Classical

section
variable {E : CE} {X : Cx} {c : RC} {x : Str} {e a b o tg iter elt : Expr} {es : List Expr} {m : Cm} {pos p apos : Pos} {rE rT : RecE}
/-! ### targets -/
def unstar : Expr → Expr
  | .Starred e _ => e
  | e => e
def tgsE (f : Expr → Option Tg) : List Expr → Option (List Tg)
  | [] => some []
  | e :: es => if notStar (unstar e) then (match f (unstar e), tgsE f es with
    | some p, some ps => some (p :: ps)
    | _, _ => none) else none
def starIx : List Expr → Option Nat
  | [] => none
  | e :: es => if notStar e then (starIx es).map (· + 1) else some 0
def ixSlice : Expr → Bool
  | .Slice .. => true
  | _ => false
def tgE (rE : RecE) : Nat → CE → Expr → Option Tg
  | 0, _, _ => none
  | n + 1, E, e => match patE 8 E e with
    | some p => some (gPat p)
    | none => match e with
      | .Attribute o f _ => (rE E o).map (gFld E.T f)
      | .Subscript o i _ => if ixSlice i then none else (match rE E o, rE E i with
        | some mo, some mi => some (gIx mo mi)
        | _, _ => none)
      | .Tuple es _ _ => match starIx es, tgsE (tgE rE n E) es with
        | none, some gs => some (gTup gs)
        | some i, some gs => some (gStar i gs.length gs)
        | _, _ => none
      | _ => none
theorem tgsE_ok {f : Expr → Option Tg} (hf : ∀ e p, f e = some p → PG X e (tG c p)) : ∀ {es : List Expr} {ps : List Tg}, tgsE f es = some ps → PGs X es (tGs c ps) ∧ es.length = ps.length
  | [], ps, h => by cases h; exact ⟨dgG_nil, rfl⟩
  | e :: es, ps, h => by
    unfold tgsE at h
    split at h
    · rename_i hs
      split at h
      · rename_i p ps' h1 h2
        cases h
        obtain ⟨q1, q3⟩ := tgsE_ok hf h2
        refine ⟨?_, by rw [List.length_cons, List.length_cons, q3]⟩
        have q := dgG_cons (hf _ _ h1) q1 (assign_cons hs)
        cases e with
        | Starred e' p' => exact pgs_starred hs q
        | _ => exact q
      · cases h
    · cases h
theorem starIx_ok {env : Env} : ∀ {es : List Expr}, (assignEach es env).findIdx? (·.1) = starIx es
  | [] => rfl
  | e :: es => by
    have ih := starIx_ok (env := env) (es := es)
    by_cases hs : notStar e = true
    · have he : assignEach (e :: es) env = (false, assign e env) :: assignEach es env := by cases e <;> first | rfl | cases hs
      have e2 : starIx (e :: es) = (starIx es).map (· + 1) := if_pos hs
      rw [he, List.findIdx?_cons, ih, e2]
      rfl
    · cases e with
      | Starred e' p' => rfl
      | _ => exact absurd rfl hs
theorem ix_assign {i : Expr} {env : Env} (h : ixSlice i = false) (v : Value) : assign (.Subscript o i pos) env v = (do
      let ov ← holding [v] (eval o env)
      let iv ← holding [v, ov] (eval i env)
      standAt pos
      holding [v, ov, iv] (setItem ov iv v)
      release [v, ov, iv] []) := by
  cases i <;> first | rfl | cases h
theorem tgE_ok (R : RecOk rE rT) (g : Good E X c) : ∀ (n : Nat) (e : Expr) (t : Tg), tgE rE n E e = some t → PG X e (tG c t)
  | 0, e, t, h => by cases h
  | n + 1, e, t, h => by
    unfold tgE at h
    split at h
    · rename_i p hp
      cases h
      exact dg_pat (patE_ok g 8 e p hp)
    · split at h
      · obtain ⟨mo, hm, rfl⟩ := Option.map_eq_some_iff.mp h
        exact dg_fld g.T (R.e g hm) (fun v => rfl)
      · split at h
        · cases h
        · rename_i hix
          split at h
          · rename_i mo mi h1 h2
            cases h
            exact dg_ix (R.e g h1) (R.e g h2) (ix_assign (by simpa using hix))
          · cases h
      · split at h
        · rename_i gs h1 h2
          cases h
          obtain ⟨q1, q2⟩ := tgsE_ok (fun e p => tgE_ok R g n e p) h2
          exact dg_gtup g.K g.calm q1 (by rw [assign_length, q2]) (starIx_ok.trans h1)
        · rename_i i gs h1 h2
          cases h
          obtain ⟨q1, q2⟩ := tgsE_ok (fun e p => tgE_ok R g n e p) h2
          exact dg_star g.K g.calm q1 (by rw [assign_length, q2]) (starIx_ok.trans h1)
        · cases h
      · cases h
/-! ### assignments -/
def tgName : Expr → Bool
  | .Name .. => true
  | _ => false
theorem swaps_tuple {line : Nat} {env : Env} (h : tgName tg = false) : swapsWithSole [tg] e line env = pure false := by
  show swapsWith e (some tg) line env = pure false
  cases tg <;> first | (cases e <;> rfl) | (cases h; done)
def swpNo (tg e : Expr) : Bool := if (isTuple tg || isListE tg) && isTuple e then (match tg, e with
  | .Tuple ts _ _, .Tuple vs _ _ => swapNo ts vs || vs.all (foldedForSure 8)
  | _, _ => false) else true
theorem swpNo_ok {env : Env} (h : swpNo tg e = true) : swappedStores [tg] e env = pure none := by
  unfold swpNo at h
  split at h
  · split at h
    · rw [Bool.or_eq_true] at h
      exact h.elim swap_no swap_fold
    · cases h
  · rename_i hh
    refine swapped_none ?_
    have hh := Bool.eq_false_iff.mpr hh
    rw [Bool.and_eq_false_iff] at hh
    exact hh
def swSame (E : CE) (y : Str) (py pos : Pos) (scope : Scope) : Bool := E.sc.names.lookup y == some .local && py.line == pos.line && !(scope.names.any fun q => q.1 == y && (q.2 == .local || q.2 == .cell))
theorem swSame_ok (g : Good E X c) {y : Str} {py pos : Pos} {gens : List Comprehension} {scope : Scope} {line : Nat} : swapsWith (.ListComp elt gens scope pos) (some (.Name y py)) line X.env = pure (swSame E y py pos scope) := by
  have hb := g.bk
  unfold swapsWith swSame
  rw [← g.sc]
  show pure (X.env.blockKind == .function && X.env.kindOf y == some .local && py.line == pos.line && !(scope.names.any fun (n, k) => n == y && (k == .local || k == .cell))) = _
  rw [hb]
  show pure (true && X.env.kindOf y == some .local && py.line == pos.line && !(scope.names.any fun (n, k) => n == y && (k == .local || k == .cell))) = _
  rw [Bool.true_and]
  rfl
theorem lcE_set (R : RecOk rE rT) (g : Good E X c) {gens : List Comprehension} {scope : Scope} {y : Str} {py spos : Pos} {i : Nat} (h : lcE rE rT E elt gens scope pos = some m) (hi : X.N[i]? = some y) (hs : swSame E y py pos scope = true) :
    PS X (.Assign [.Name y py] (.ListComp elt gens scope pos) spos) (tS c (sAsg m (gPat (.nm i)))) := by
  have hsw : swapsWith (.ListComp elt gens scope pos) (some (.Name y py)) spos.line X.env = pure true := by rw [swSame_ok g, hs]
  have hyl : X.env.scope.names.lookup y = some .local := by
    rw [g.sc]
    unfold swSame at hs
    simp only [Bool.and_eq_true] at hs
    exact eq_of_beq hs.1.1
  have key : ∀ {D : Ends} {σ : St} {H : Hp}, tS c (sAsg m (gPat (.nm i))) D σ H → tE c m σ H (fun v H1 => gName i v σ H1 D.nx) := fun {D σ H} q => by
    obtain ⟨M, μ, S, ρ, f, S', s, l, q, k⟩ := q
    obtain ⟨d, S1, q1, q⟩ := Res.bind_eq_ok q
    obtain ⟨ρ', S2, q2, q3⟩ := Res.bind_eq_ok q
    cases q3
    refine ⟨M, μ, S, ρ, d, S1, s, l, q1, fun M1 μ1 H1 v e1 s1 r1 => ?_⟩
    cases q2
    exact k M1 μ1 H1 _ e1 s1 ((l.ext e1).set r1)
  unfold lcE at h
  split at h
  · rename_i hb
    have ok : BlkOk X.N X.env.scope scope (ownOf E.N scope) := by rw [g.N, g.sc]; exact blkOk_by hb
    have gb := blk_good g ok
    split at h
    · rename_i tg iter ifs
      split at h
      · rename_i hns
        split at h
        · rename_i it pt mt me h1 h2 h3 h4
          split at h
          · rename_i hsl
            cases h
            exact PS.imp (ps_setLc g.calm g.nd hi hyl hsw (itE_ok R g h1) ok (fun s H C cl fp => patE_ok (gb s H C cl fp) 8 tg pt h2) (fun s H C cl fp => ifsM_ok R (gb s H C cl fp) h3) (fun s H C cl fp => R.e (gb s H C cl fp) h4) (set_folded hns))
              fun D σ H q => it_lc _ (slots_ok hsl) (key q)
          · cases h
        · cases h
      · cases h
    · rename_i tg iter ifs tg1 iter1 ifs1
      split at h
      · rename_i hns
        rw [Bool.and_eq_true] at hns
        split at h
        · rename_i it pt mt it1 pt1 mt1 me h1 h2 h3 h4 h5 h6 h7
          split at h
          · rename_i hsl
            rw [Bool.and_eq_true] at hsl
            cases h
            exact PS.imp (ps_setLc2 g.calm g.nd hi hyl hsw (itE_ok R g h1) ok (slots_ok hsl.2) (fun s H C cl fp => patE_ok (gb s H C cl fp) 8 tg pt h2) (fun s H C cl fp => ifsM_ok R (gb s H C cl fp) h3)
              (fun s H C cl fp => itE_ok R (gb s H C cl fp) h4) (fun s H C cl fp => patE_ok (gb s H C cl fp) 8 tg1 pt1 h5) (fun s H C cl fp => ifsM_ok R (gb s H C cl fp) h6) (fun s H C cl fp => R.e (gb s H C cl fp) h7) (set_folded hns.1) (fun env x => set_folded hns.2 x))
              fun D σ H q => it_lc2 _ (slots_ok hsl.1) (fun i hi => hi) (key q)
          · cases h
        · cases h
      · cases h
    · cases h
  · cases h
def parS (rE : RecE) (E : CE) (tg e : Expr) : Option Sm := match tg, e with
  | .Tuple [.Name x px, .Name y py] _ _, .Tuple [a, b] _ _ => if swap2 E.sc x y px py a b then (match ixOf x E.N, ixOf y E.N, allM (rE E) [a, b] with
    | some i, some j, some [ma, mb] => if i == j then none else some (sPar i j ma mb)
    | _, _, _ => none) else none
  | .Tuple [.Name x px, .Name y py, .Name z pz] _ _, .Tuple [a, b, d] _ _ => if swap3 E.sc x y z px py pz a b d then (match ixOf x E.N, ixOf y E.N, ixOf z E.N, allM (rE E) [a, b, d] with
    | some i, some j, some k, some [ma, mb, md] => if i == j || i == k || j == k then none else some (sPar3 i j k ma mb md)
    | _, _, _, _ => none) else none
  | _, _ => none
theorem parS_ok (R : RecOk rE rT) (g : Good E X c) {s : Sm} (h : parS rE E tg e = some s) : PS X (.Assign [tg] e pos) (tS c s) := by
  unfold parS at h
  split at h
  · rename_i x px y py _ _ a b _ _
    split at h
    · rename_i hsw
      have hsw' := hsw
      unfold swap2 at hsw'
      simp only [Bool.and_eq_true] at hsw'
      have hx : X.env.scope.names.lookup x = some .local := by rw [g.sc]; exact eq_of_beq hsw'.1.1.1.1.1.1.1
      have hy : X.env.scope.names.lookup y = some .local := by rw [g.sc]; exact eq_of_beq hsw'.1.1.1.1.1.1.2
      split at h
      · rename_i i j ma mb h1 h2 h3
        split at h
        · cases h
        · rename_i hij
          cases h
          exact ds_par g.calm g.nd (by rw [g.N]; exact ixOf_get h1) (by rw [g.N]; exact ixOf_get h2) (by simpa using hij) hx hy (allM_ok R g h3) (swap_two g.bk (by rw [g.sc]; exact hsw)) (swaps_sole rfl)
      · cases h
    · cases h
  · rename_i x px y py z pz _ _ a b d _ _
    split at h
    · rename_i hsw
      have hsw' := hsw
      unfold swap3 at hsw'
      simp only [Bool.and_eq_true] at hsw'
      have hx : X.env.scope.names.lookup x = some .local := by rw [g.sc]; exact eq_of_beq hsw'.1.1.1.1.1.1.1.1.1.1.1.1
      have hy : X.env.scope.names.lookup y = some .local := by rw [g.sc]; exact eq_of_beq hsw'.1.1.1.1.1.1.1.1.1.1.1.2
      have hz : X.env.scope.names.lookup z = some .local := by rw [g.sc]; exact eq_of_beq hsw'.1.1.1.1.1.1.1.1.1.1.2
      split at h
      · rename_i i j k ma mb md h1 h2 h3 h4
        split at h
        · cases h
        · rename_i hij
          cases h
          simp only [Bool.or_eq_true, beq_iff_eq, not_or] at hij
          exact ds_par3 g.calm g.nd (by rw [g.N]; exact ixOf_get h1) (by rw [g.N]; exact ixOf_get h2) (by rw [g.N]; exact ixOf_get h3) hij.1.1 hij.1.2 hij.2 hx hy hz (allM_ok R g h4) (swap_three g.bk (by rw [g.sc]; exact hsw)) (swaps_sole rfl)
      · cases h
    · cases h
  · cases h
noncomputable def asgS (rE rT : RecE) (E : CE) (tg e : Expr) : Sm := match parS rE E tg e with
  | some s => s
  | none => if swpNo tg e && notStar tg then (if notComp e || !tgName tg then (match rE E e, tgE rE 8 E tg with
      | some m, some g => sAsg m g
      | _, _ => sNo)
    else (match tg, e with
      | .Name y py, .ListComp elt gens scope pos => match lcE rE rT E elt gens scope pos, ixOf y E.N with
        | some m, some i => if swSame E y py pos scope then sAsg m (gPat (.nm i)) else sNo
        | _, _ => sNo
      | _, _ => sNo)) else sNo
theorem asgS_ok (R : RecOk rE rT) (g : Good E X c) : PS X (.Assign [tg] e pos) (tS c (asgS rE rT E tg e)) := by
  unfold asgS
  split
  · rename_i s hs
    exact parS_ok R g hs
  · split
    · rename_i hw
      rw [Bool.and_eq_true] at hw
      have h1 : (assignEach [tg] X.env).map (·.2) = [assign tg X.env] := assign_cons hw.2
      split
      · rename_i hc
        split
        · rename_i m t hm ht
          rw [Bool.or_eq_true] at hc
          refine ds_asg (R.e g hm) (tgE_ok R g 8 tg t ht) ?_ (swpNo_ok hw.1) h1
          rcases hc with hc | hc
          · exact swaps_sole hc
          · exact swaps_tuple (by simpa using hc)
        · exact ds_no
      · split
        · split
          · rename_i m i hm hi
            split
            · rename_i hsw
              exact lcE_set R g hm (by rw [g.N]; exact ixOf_get hi) hsw
            · exact ds_no
          · exact ds_no
        · exact ds_no
    · exact ds_no
/-! ### statements -/
def inpD : Operator → Option (Val → Val → Store → Res Val)
  | .Add => some (iop always fun i j => .int (i + j))
  | .Sub => some (iop always fun i j => .int (i - j))
  | _ => none
theorem inpD_ok {op : Operator} {f : Val → Val → Store → Res Val} (h : inpD op = some f) : SO2 X c (inplaceOp op) f := by
  unfold inpD at h
  split at h <;> cases h
  · exact so_iop (rI_of0 iop_add) fun _ _ _ _ _ _ => .int
  · exact so_iop (rI_of0 iop_sub) fun _ _ _ _ _ _ => .int
def seqS (f : Stmt → Sm) : List Stmt → Sm
  | [] => sPass
  | s :: r => sSeq (f s) (seqS f r)
theorem seqS_ok {f : Stmt → Sm} (hf : ∀ s, PS X s (tS c (f s))) : ∀ b : List Stmt, PSs X b (tS c (seqS f b))
  | [] => dss_nil
  | s :: r => dss_cons (hf s) (seqS_ok hf r)
noncomputable def stepS (rE rT : RecE) (rS : Stmt → Sm) (E : CE) (st : Stmt) : Sm := match st with
  | .Pass _ => sPass
  | .Break _ => sBrk
  | .Continue _ => sCont
  | .Return none _ => sRet (cC .non)
  | .Return (some e) _ => (match rE E e with
    | some m => sRet m
    | none => sNo)
  | .Expr (.Constant (.str _) _ _) _ => sPass
  | .Expr e _ => if notComp e then (match rE E e with
    | some m => sExpr m
    | none => sNo) else sNo
  | .Assign [tg] e _ => asgS rE rT E tg e
  | .AugAssign (.Name x _) op e _ => (match locIx E x, inpD op, rE E e with
    | some i, some f, some m => sAug i f m
    | _, _, _ => sNo)
  | .If t a b _ => (match rT E t with
    | some mt => sIf mt (seqS rS a) (seqS rS b)
    | none => sNo)
  | .While t b [] _ => (match rT E t with
    | some mt => sWhile mt (seqS rS b)
    | none => sNo)
  | .For tg iter b [] _ => if notSet iter then (match itE rE E tg iter, tgE rE 8 E tg with
    | some it, some g => sFor it g (seqS rS b)
    | _, _ => sNo) else sNo
  | _ => sNo
theorem stepS_ok (R : RecOk rE rT) (g : Good E X c) {rS : Stmt → Sm} (hS : ∀ s, PS X s (tS c (rS s))) (st : Stmt) : PS X st (tS c (stepS rE rT rS E st)) := by
  unfold stepS
  split
  · exact ds_pass
  · exact ds_brk
  · exact ds_cont
  · exact ds_retN
  · split
    · rename_i hm; exact ds_ret (R.e g hm)
    · exact ds_no
  · exact ds_doc
  · split
    · rename_i hc
      split
      · rename_i hm; exact ds_expr (R.e g hm) (swaps_with hc)
      · exact ds_no
    · exact ds_no
  · exact asgS_ok R g
  · split
    · rename_i i f m h1 h2 h3
      obtain ⟨q1, q2, q3⟩ := locIx_ok g h1
      exact ds_aug g.nd q1 q2 (R.e g h3) (inpD_ok h2) q3
    · exact ds_no
  · split
    · rename_i hm; exact ds_if (R.t g hm) (seqS_ok hS _) (seqS_ok hS _)
    · exact ds_no
  · split
    · rename_i hm; exact ds_while g.pass (R.t g hm) (seqS_ok hS _)
    · exact ds_no
  · split
    · rename_i hns
      split
      · rename_i it t h1 h2
        exact ds_for g.pass g.calm (itE_ok R g h1) (tgE_ok R g 8 _ t h2) (seqS_ok hS _) (set_folded hns)
      · exact ds_no
    · exact ds_no
  · exact ds_no
noncomputable def compS : Nat → CE → Stmt → Sm
  | 0, _, _ => sNo
  | n + 1, E, st => stepS (comp n).1 (comp n).2 (compS n E) E st
theorem compS_ok (g : Good E X c) : ∀ (n : Nat) (st : Stmt), PS X st (tS c (compS n E st))
  | 0, st => ds_no
  | n + 1, st => stepS_ok (comp_ok n) g (compS_ok g n) st
noncomputable def compB (n : Nat) (E : CE) (b : List Stmt) : Sm := seqS (compS n E) b
theorem compB_ok (g : Good E X c) (n : Nat) (b : List Stmt) : PSs X b (tS c (compB n E b)) := seqS_ok (compS_ok g n) b
end
/-! ### defs -/
section
variable {P : Program} {w : World} {K : PySem.W.Frag} {mg : Str → Option Value} {base : Heap} {c : RC}
def defE (T : Tab) (scope : Scope) (N : List Str) (lv : Nat) (cells : List (Nat × Nat)) : CE := ⟨T, scope, N, lv, cells, fun _ => true⟩
theorem def_ok {T : Tab} {n : Nat} {cells : List (Nat × Nat)} {x qual : Str} {params : Arguments} {body : List Stmt} {scope : Scope} {dvs : List V} {kws : List (Str × V)} {f : Addr} {fd : FuncData} {N ps : List Str} {lv : Nat}
    (hT : TabOk P w K mg base c lv T) (hK : K = c.K) (hb : ∀ x ∈ biNames, mg x = none) (F : FunD K x qual params body scope dvs kws f fd) (S : FnScope N ps scope) :
    PiX.FnG P w K mg base CX0 (lv + 1) f fd ps (spF c ps.length (bodyF N.length (compB n (defE T scope N lv cells) body))) :=
  fnOk_of F S fun cd A outer s H E hg hr => compB_ok (E := defE T scope N lv cells) (X := bodyCx P w K mg base N qual scope f cd A outer s H E) {
    T := hT
    K := hK
    calm := rfl
    N := rfl
    nd := S.nd
    sc := rfl
    kind := S.kind
    room := hr
    gd := hg
    bi := hb
    pass := .never
    fn := fun _ _ => rfl } n body
theorem FnHolds.mono {F : FnS} {f : Addr} {fd : FuncData} {j k : Nat} (h : FnHolds P w K mg base c k F f fd) (hj : j ≤ k) : FnHolds P w K mg base c j F f fd := ⟨fun hl => h.ok (Nat.le_trans hl hj), h.sh⟩
theorem TabOk.mono {T : Tab} {j k : Nat} (h : TabOk P w K mg base c k T) (hj : j ≤ k) : TabOk P w K mg base c j T where
  fns := fun x F e => let ⟨f, fd, h1, h2, h3⟩ := h.fns x F e; ⟨f, fd, h1, h2, h3.mono hj⟩
  cnames := h.cnames
  cls := fun C k e => let q := h.cls C k e; ⟨q.flds, q.cl, q.noat, q.few, q.nodup, fun m F e => let ⟨h0, f, fd, h1, h2⟩ := q.meths m F e; ⟨h0, f, fd, h1, h2.mono hj⟩, let ⟨f, fd, h1, h2⟩ := q.init; ⟨f, fd, h1, h2.mono hj⟩⟩
  consts := h.consts
  kit := h.kit
  xnames := h.xnames
  xcls := h.xcls
  eqs := fun C e hl => h.eqs C e (Nat.le_trans hl hj)
/-- what refines a def's own function may stand for it -/
def Ref (m m' : FnM) : Prop := ∀ ds S d S', m ds S = .ok d S' → m' ds S = .ok d S'
theorem FnG.ref {lv : Nat} {f : Addr} {fd : FuncData} {ps : List Str} {m m' : FnM} (F : PiX.FnG P w K mg base CX0 lv f fd ps (spF c ps.length m')) (h : Ref m m') : PiX.FnG P w K mg base CX0 lv f fd ps (spF c ps.length m) :=
  F.imp fun vs H Q E q => by
    obtain ⟨hl, M, μ, S, ds, d, S', sm, r, q, k⟩ := q
    exact ⟨hl, M, μ, S, ds, d, S', sm, r, h ds S d S' q, k⟩
theorem FnG.gc {lv : Nat} {f : Addr} {fd : FuncData} {ps : List Str} {m : FnM} (F : PiX.FnG P w K mg base CX0 lv f fd ps (spF c ps.length m)) : PiX.FnG P w K mg base CX0 lv f fd ps (spF c ps.length (gcF m)) := F.imp fun vs H Q E q => spF_gc vs H Q E q
theorem FnG.gcL {lv : Nat} {f : Addr} {fd : FuncData} {ps : List Str} {m : FnM} (F : PiX.FnG P w K mg base CX0 lv f fd ps (spF c ps.length m)) : PiX.FnG P w K mg base CX0 lv f fd ps (spF c ps.length (gcL m)) := F.imp fun vs H Q E q => spF_gcL vs H Q E q
end
end Pi
set_option Elab.async false
set_option linter.all false
/-! HK: what is looked at behind the top: the facts, one Bool, also over the interpreter's own statics (readsIn asks them). -/
namespace PiX
open PySem L2
/-- what the names reach, and the statics -/
def reach (g : Addr → Option Obj) (n : Nat) : List Addr := cStatics :: He.asD g n
abbrev Seen : Type := He.AlD × Bool
def seenOf (n : Nat) (fa : List He.Fa) (fn : List He.DefD) (ex : PySem.W.Frag → Bool) (g : Addr → Option Obj) : Seen := (He.obsD fa fn (He.frT g (reach g n)), ex (He.frT g (reach g n)))
def hookS (n : Nat) (fa : List He.Fa) (fn : List He.DefD) (ex : PySem.W.Frag → Bool) : PySem.W.Hook where
  α := Seen
  obs := fun s => seenOf n fa fn ex s.heap.get?
  val := fun _ => (He.valD fn, true)
  says := fun _ h => ∃ K : PySem.W.Frag, K.In h ∧ He.SaysD fa fn K ∧ ex K = true
  of := fun _ _ e => ⟨_, He.frT_in, congrArg Prod.fst e, congrArg Prod.snd e⟩
  keeps := fun _ _ _ ⟨K, hK, c⟩ k => ⟨K, PySem.W.Frag.In.keeps hK k, c⟩
theorem seen_eq {n : Nat} {fa : List He.Fa} {fn : List He.DefD} {ex : PySem.W.Frag → Bool} {g : Addr → Option Obj} {s : Shared} (h : ∀ a, g a = s.heap.get? a) : seenOf n fa fn ex g = (hookS n fa fn ex).obs s := by
  have e : g = s.heap.get? := funext h
  rw [e]
  rfl
end PiX
set_option Elab.async false
set_option linter.all false
set_option maxRecDepth 100000
namespace K92
open PySem L2 Pi Ev
def top (i : Nat) : Stmt := PySem.Challenge.pw_pointhouse_k92_whole_refusals_made_by_ha.main.body.getD i (.Pass ⟨0, 0, 0, 0⟩)
def xNoText : XcS := ⟨["row"], true, [(1, [], [.pos 0]), (0, ["row"], [.kw 0])]⟩
def xNoExact : XcS := ⟨[], false, []⟩
def xNoLine : XcS := ⟨[], false, []⟩
def xNoRow : XcS := ⟨[], false, []⟩
def xNoBack : XcS := ⟨[], false, []⟩
def xTwoRoots : XcS := ⟨["one", "other"], true, [(2, [], [.pos 0, .pos 1]), (0, ["one", "other"], [.kw 0, .kw 1]), (0, ["other", "one"], [.kw 1, .kw 0])]⟩
def xNotPlain : XcS := ⟨["number"], true, [(1, [], [.pos 0]), (0, ["number"], [.kw 0])]⟩
def xNeverDone : XcS := ⟨["number"], true, [(1, [], [.pos 0]), (0, ["number"], [.kw 0])]⟩
def xNoDeed : XcS := ⟨["thing"], true, [(1, [], [.pos 0]), (0, ["thing"], [.kw 0])]⟩
def xNoFit : XcS := ⟨["thing"], true, [(1, [], [.pos 0]), (0, ["thing"], [.kw 0])]⟩
def xTaken : XcS := ⟨["name"], true, [(1, [], [.pos 0]), (0, ["name"], [.kw 0])]⟩
def xUndone : XcS := ⟨["number"], true, [(1, [], [.pos 0]), (0, ["number"], [.kw 0])]⟩
def xNoBottom : XcS := ⟨[], false, []⟩
def xNoWay : XcS := ⟨["way"], true, [(1, [], [.pos 0]), (0, ["way"], [.kw 0])]⟩
def xMissing : XcS := ⟨["name"], true, [(1, [], [.pos 0]), (0, ["name"], [.kw 0])]⟩
def xPointError : XcS := ⟨[], false, []⟩
def xNames : List Str := ["NoText", "NoExact", "NoLine", "NoRow", "NoBack", "TwoRoots", "NotPlain", "NeverDone", "NoDeed", "NoFit", "Taken", "Undone", "NoBottom", "NoWay", "Missing", "PointError"]
def xList : List XcS := [xNoText, xNoExact, xNoLine, xNoRow, xNoBack, xTwoRoots, xNotPlain, xNeverDone, xNoDeed, xNoFit, xTaken, xUndone, xNoBottom, xNoWay, xMissing, xPointError]
def eqT : Nat → Bool := fun _ => false
/-- is the class C one of D? PointError is 15 -/
def kin (C D : Nat) : Bool := C == D || (D == 15 && decide (C < 12))
def kit92 : Ty → Ty → Option Bool
  | .exc C, .exc D => if C < 16 ∧ D < 16 then some (kin C D) else none
  | .exc C, .bt n => if C < 16 then (if n = "ValueError" then some (decide (C < 12) || C == 15) else if n = "ZeroDivisionError" then some (C == 12) else if n = "KeyError" then some (C == 13 || C == 14) else none) else none
  | _, _ => none
def xcs92 : Nat → Option XcS := fun C => xList[C]?
noncomputable def TX : Tab := { fns := [], cnames := [], cls := fun _ => none, consts := [], kit := kit92, eqlv := 0, xnames := [], xcls := xcs92 }
noncomputable def b_law_deck : Sm := (sSeq (sAsg (c1 (opLRev true) (cSl false (cVar 0) none (some (cC (.int 63))))) (gPat (.nm 1))) (sSeq (sRet (cN mkLstC [(cVar 1), (c2 opAdd (cN biSum [(cLc false (itSeq (cVar 1)) [2] (.nm 2) (cC (.bl true)) (c2 opMod (cVar 2) (cC (.int 2147483587))))]) (c2 opMulR (cC (.int 69621)) (cN biLen [(cVar 1)]))), (cC (.int 0))])) sPass))
def N_law_deck : List Str := ["_law_script", "_law_cells", "_law_cell"]
abbrev s_law_deck : Stmt := top 18
noncomputable def F_law_deck : FnS := ⟨["_law_script"], 1, bodyF N_law_deck.length b_law_deck, shp 1⟩
noncomputable def b_law_draw : Sm := (sSeq (sAsg (c2 opAdd (c2 opIx (cVar 0) (cC (.int 2))) (cC (.int 1))) (gIx (cVar 0) (cC (.int 2)))) (sSeq (sAsg (c2 opIx (cVar 0) (cC (.int 1))) (gPat (.nm 2))) (sSeq (sIf (c2 (opEq eqT true) (c2 opIx (cVar 0) (cC (.int 0))) (cN mkLst [])) (sSeq (sAsg (c1 opPop (c2 opIx (cVar 0) (cC (.int 0)))) (gPat (.nm 2))) sPass) sPass) (sSeq (sIf (c2 opGe (cVar 2) (c2 opPow (cC (.int 10)) (cC (.int 18)))) (sSeq (sExpr (cApp (c2 opIx (cVar 0) (cC (.int 0))) (c2 opDiv (cVar 2) (cVar 1)))) (sSeq (sRet (c2 opMod (cVar 2) (cVar 1))) sPass)) sPass) (sSeq (sAsg (c2 opMod (c2 opMulR (c2 opAdd (c2 opAdd (c2 opMod (cVar 2) (cC (.int 2147483587))) (c2 opMulR (cC (.int 65537)) (c2 opIx (cVar 0) (cC (.int 2))))) (cC (.int 9))) (cC (.int 39373))) (cC (.int 2147483647))) (gPat (.nm 3))) (sSeq (sAsg (c2 opMod (c2 opAdd (c2 opAdd (c2 opMulR (cVar 3) (cVar 3)) (c2 opMulR (cC (.int 48271)) (c2 opIx (cVar 0) (cC (.int 2))))) (cC (.int 17))) (cC (.int 2147483629))) (gPat (.nm 3))) (sSeq (sRet (c2 opMod (c2 opDiv (c2 opMod (c2 opMulR (cVar 3) (c2 opAdd (c2 opDiv (cVar 3) (cC (.int 5))) (cC (.int 69621)))) (cC (.int 2305843009213693951))) (cC (.int 64))) (cVar 1))) sPass)))))))
def N_law_draw : List Str := ["_law_deck_here", "_law_size", "_law_cell", "_law_value"]
abbrev s_law_draw : Stmt := top 19
noncomputable def F_law_draw : FnS := ⟨["_law_deck_here", "_law_size"], 14, bodyF N_law_draw.length b_law_draw, shp 2⟩
noncomputable def b_law_stuff : Sm := (sSeq (sAsg (cC (.str "abcdefghijklmnopqrstuvwxyz")) (gPat (.nm 1))) (sSeq (sAsg (cJoin (cC (.str "")) (cLc false (itRange [(c2 opAdd (cC (.int 1)) (cCall F_law_draw 14 2 [] [(cVar 0), (cC (.int 8))] []))]) [4] (.nm 4) (cC (.bl true)) (c2 opIx (cVar 1) (cCall F_law_draw 14 2 [] [(cVar 0), (cC (.int 26))] [])))) (gPat (.nm 2))) (sSeq (sAsg (cN mkLst [(cC (.int 0)), (cCall F_law_draw 14 2 [] [(cVar 0), (cC (.int 15))] []), (c2 opSub (cC (.int 0)) (cCall F_law_draw 14 2 [] [(cVar 0), (cC (.int 99))] [])), (c2 opPow (cC (.int 10)) (cC (.int 39))), (cC .non), (cC (.bl true)), (cC (.str "")), (cVar 2), (cN mkTup []), (cN mkTup [(cVar 2), (cC (.int 1))]), (cN mkLst [(cVar 2)]), (cC (.dic [] []))]) (gPat (.nm 3))) (sSeq (sRet (c2 opIx (cVar 3) (cCall F_law_draw 14 2 [] [(cVar 0), (cC (.int 12))] []))) sPass))))
def N_law_stuff : List Str := ["_law_deck_here", "_law_letters", "_law_word", "_law_some", "_law_k"]
abbrev s_law_stuff : Stmt := top 20
noncomputable def F_law_stuff : FnS := ⟨["_law_deck_here"], 15, bodyF N_law_stuff.length b_law_stuff, shp 1⟩
noncomputable def b_law_fields_right : Sm := (sSeq (sAsg (cN mkLst [(c1 (opAttrX TX "row") (cMakeX xNoText 0 13 1 [] [(cVar 0)] [])), (c1 (opAttrX TX "row") (cMakeX xNoText 0 13 0 ["row"] [] [(cVar 0)])), (c1 (opAttrX TX "number") (cMakeX xNotPlain 6 13 1 [] [(cVar 0)] [])), (c1 (opAttrX TX "number") (cMakeX xNotPlain 6 13 0 ["number"] [] [(cVar 0)]))]) (gPat (.nm 2))) (sSeq (sAsg (c2 opAdd (cVar 2) (cN mkLst [(c1 (opAttrX TX "number") (cMakeX xNeverDone 7 13 1 [] [(cVar 0)] [])), (c1 (opAttrX TX "number") (cMakeX xNeverDone 7 13 0 ["number"] [] [(cVar 0)])), (c1 (opAttrX TX "number") (cMakeX xUndone 11 13 1 [] [(cVar 0)] [])), (c1 (opAttrX TX "number") (cMakeX xUndone 11 13 0 ["number"] [] [(cVar 0)]))])) (gPat (.nm 2))) (sSeq (sAsg (c2 opAdd (cVar 2) (cN mkLst [(c1 (opAttrX TX "thing") (cMakeX xNoDeed 8 13 1 [] [(cVar 0)] [])), (c1 (opAttrX TX "thing") (cMakeX xNoDeed 8 13 0 ["thing"] [] [(cVar 0)])), (c1 (opAttrX TX "thing") (cMakeX xNoFit 9 13 1 [] [(cVar 0)] [])), (c1 (opAttrX TX "thing") (cMakeX xNoFit 9 13 0 ["thing"] [] [(cVar 0)]))])) (gPat (.nm 2))) (sSeq (sAsg (c2 opAdd (cVar 2) (cN mkLst [(c1 (opAttrX TX "name") (cMakeX xTaken 10 13 1 [] [(cVar 0)] [])), (c1 (opAttrX TX "name") (cMakeX xTaken 10 13 0 ["name"] [] [(cVar 0)])), (c1 (opAttrX TX "name") (cMakeX xMissing 14 13 1 [] [(cVar 0)] [])), (c1 (opAttrX TX "name") (cMakeX xMissing 14 13 0 ["name"] [] [(cVar 0)]))])) (gPat (.nm 2))) (sSeq (sAsg (c2 opAdd (cVar 2) (cN mkLst [(c1 (opAttrX TX "way") (cMakeX xNoWay 13 13 1 [] [(cVar 0)] [])), (c1 (opAttrX TX "way") (cMakeX xNoWay 13 13 0 ["way"] [] [(cVar 0)])), (c1 (opAttrX TX "one") (cMakeX xTwoRoots 5 13 2 [] [(cVar 0), (cVar 1)] [])), (c1 (opAttrX TX "other") (cMakeX xTwoRoots 5 13 2 [] [(cVar 1), (cVar 0)] []))])) (gPat (.nm 2))) (sSeq (sAsg (c2 opAddC (cVar 2) (cN mkLst [(c1 (opAttrX TX "one") (cMakeX xTwoRoots 5 13 0 ["one", "other"] [] [(cVar 0), (cVar 1)])), (c1 (opAttrX TX "other") (cMakeX xTwoRoots 5 13 0 ["one", "other"] [] [(cVar 1), (cVar 0)]))])) (gPat (.nm 2))) (sSeq (sExpr (cApp (cVar 2) (c1 (opAttrX TX "one") (cMakeX xTwoRoots 5 13 0 ["other", "one"] [] [(cVar 1), (cVar 0)])))) (sSeq (sRet (c2 (opEq eqT false) (cLc false (itSeq (cVar 2)) [3] (.nm 3) (c2 (opEq eqT true) (cN biRepr [(cVar 3)]) (cN biRepr [(cVar 0)])) (cC (.int 1))) (cN mkLst []))) sPass))))))))
def N_law_fields_right : List Str := ["_law_it", "_law_two", "_law_found", "_law_stuff_here"]
abbrev s_law_fields_right : Stmt := top 21
noncomputable def F_law_fields_right : FnS := ⟨["_law_it", "_law_two"], 14, bodyF N_law_fields_right.length b_law_fields_right, shp 2⟩
noncomputable def b_law_kin : Sm := (sSeq (sAsg (cN mkLst [(cIsi kit92 (.exc 0) (cVar 0)), (cIsi kit92 (.exc 1) (cVar 0)), (cIsi kit92 (.exc 2) (cVar 0)), (cIsi kit92 (.exc 3) (cVar 0))]) (gPat (.nm 1))) (sSeq (sAsg (c2 opAdd (cVar 1) (cN mkLst [(cIsi kit92 (.exc 4) (cVar 0)), (cIsi kit92 (.exc 5) (cVar 0)), (cIsi kit92 (.exc 6) (cVar 0)), (cIsi kit92 (.exc 7) (cVar 0))])) (gPat (.nm 1))) (sSeq (sAsg (c2 opAdd (cVar 1) (cN mkLst [(cIsi kit92 (.exc 8) (cVar 0)), (cIsi kit92 (.exc 9) (cVar 0)), (cIsi kit92 (.exc 10) (cVar 0)), (cIsi kit92 (.exc 11) (cVar 0))])) (gPat (.nm 1))) (sSeq (sRet (c2 opAdd (cVar 1) (cN mkLst [(cIsi kit92 (.exc 12) (cVar 0)), (cIsi kit92 (.exc 13) (cVar 0)), (cIsi kit92 (.exc 14) (cVar 0))]))) sPass))))
def N_law_kin : List Str := ["_law_e", "_law_found"]
abbrev s_law_kin : Stmt := top 22
noncomputable def F_law_kin : FnS := ⟨["_law_e"], 3, bodyF N_law_kin.length b_law_kin, shp 1⟩
noncomputable def b_law_families_right : Sm := (sSeq (sAsg (cN mkLst [(cMakeX xNoText 0 13 1 [] [(cVar 0)] []), (cMakeX xNoExact 1 13 1 [] [(cVar 1)] []), (cMakeX xNoLine 2 13 1 [] [(cVar 1)] []), (cMakeX xNoRow 3 13 1 [] [(cVar 1)] []), (cMakeX xNoBack 4 13 1 [] [(cVar 1)] []), (cMakeX xTwoRoots 5 13 2 [] [(cVar 0), (cVar 1)] []), (cMakeX xNotPlain 6 13 1 [] [(cVar 0)] [])]) (gPat (.nm 2))) (sSeq (sAsg (c2 opAdd (cVar 2) (cN mkLst [(cMakeX xNeverDone 7 13 1 [] [(cVar 0)] []), (cMakeX xNoDeed 8 13 1 [] [(cVar 0)] []), (cMakeX xNoFit 9 13 1 [] [(cVar 0)] []), (cMakeX xTaken 10 13 1 [] [(cVar 0)] []), (cMakeX xUndone 11 13 1 [] [(cVar 0)] []), (cMakeX xNoBottom 12 13 1 [] [(cVar 1)] []), (cMakeX xNoWay 13 13 1 [] [(cVar 0)] []), (cMakeX xMissing 14 13 1 [] [(cVar 0)] [])])) (gPat (.nm 2))) (sSeq (sFor (itEnum (cVar 2)) (gPat (.tp [(.nm 3), (.nm 4)])) (sSeq (sIf (c2 (opEq eqT true) (cCall F_law_kin 13 1 [] [(cVar 4)] []) (cLc false (itRange [(cC (.int 15))]) [5] (.nm 5) (cC (.bl true)) (c2 (opEq eqT false) (cVar 5) (cVar 3)))) (sSeq (sRet (cC (.bl false))) sPass) sPass) (sSeq (sIf (cOr (c2 (opEq eqT true) (cIsi kit92 (.exc 15) (cVar 4)) (c2 opLt (cVar 3) (cC (.int 12)))) (c2 (opEq eqT true) (cIsi kit92 (.bt "ValueError") (cVar 4)) (c2 opLt (cVar 3) (cC (.int 12))))) (sSeq (sRet (cC (.bl false))) sPass) sPass) (sSeq (sIf (cOr (c2 (opEq eqT true) (cIsi kit92 (.bt "ZeroDivisionError") (cVar 4)) (c2 (opEq eqT false) (cVar 3) (cC (.int 12)))) (c2 (opEq eqT true) (cIsi kit92 (.bt "KeyError") (cVar 4)) (c2 opGt (cVar 3) (cC (.int 12))))) (sSeq (sRet (cC (.bl false))) sPass) sPass) sPass)))) (sSeq (sRet (cAnd (cIsi kit92 (.bt "ValueError") (cMakeX xPointError 15 13 1 [] [(cVar 1)] [])) (c2 (opEq eqT false) (cCall F_law_kin 13 1 [] [(cMakeX xPointError 15 13 1 [] [(cVar 1)] [])] []) (c2 opMulR (cN mkLst [(cC (.bl false))]) (cC (.int 15)))))) sPass))))
def N_law_families_right : List Str := ["_law_it", "_law_word", "_law_some", "_law_k", "_law_e", "_law_j"]
abbrev s_law_families_right : Stmt := top 23
noncomputable def F_law_families_right : FnS := ⟨["_law_it", "_law_word"], 14, bodyF N_law_families_right.length b_law_families_right, shp 2⟩
noncomputable def b_law : Sm := (sSeq (sAsg (cCall F_law_deck 15 1 [] [(cVar 0)] []) (gPat (.nm 1))) (sSeq (sFor (itRange [(cC (.int 12))]) (gPat (.nm 2)) (sSeq (sIf (cNot (cCall F_law_fields_right 15 2 [] [(cCall F_law_stuff 15 1 [] [(cVar 1)] []), (cCall F_law_stuff 15 1 [] [(cVar 1)] [])] [])) (sSeq (sRet (cC (.bl false))) sPass) sPass) (sSeq (sIf (cNot (cCall F_law_families_right 15 2 [] [(cCall F_law_stuff 15 1 [] [(cVar 1)] []), (c2 opIx (cN mkLst [(cC (.str "x")), (cC (.str "")), (cC (.str "no such row")), (cC (.str "a b"))]) (cCall F_law_draw 15 2 [] [(cVar 1), (cC (.int 4))] []))] [])) (sSeq (sRet (cC (.bl false))) sPass) sPass) sPass))) (sSeq (sRet (cC (.bl true))) sPass)))
def N_law : List Str := ["_law_script", "_law_deck_here", "_law_turn"]
abbrev s_law : Stmt := top 24
noncomputable def T92 : Tab := { fns := [("_law_deck", F_law_deck), ("_law_draw", F_law_draw), ("_law_stuff", F_law_stuff), ("_law_fields_right", F_law_fields_right), ("_law_kin", F_law_kin), ("_law_families_right", F_law_families_right)], cnames := [], cls := fun _ => none, consts := [], kit := kit92, eqlv := 0, xnames := [("NoText", 0), ("NoExact", 1), ("NoLine", 2), ("NoRow", 3), ("NoBack", 4), ("TwoRoots", 5), ("NotPlain", 6), ("NeverDone", 7), ("NoDeed", 8), ("NoFit", 9), ("Taken", 10), ("Undone", 11), ("NoBottom", 12), ("NoWay", 13), ("Missing", 14), ("PointError", 15)], xcls := xcs92 }
theorem ce_law_deck : compB 60 (defE T92 (defScope s_law_deck) N_law_deck 0 [(67, 17), (68, 11)]) (defBody s_law_deck) = b_law_deck := by rfl
theorem ce_law_draw : compB 60 (defE T92 (defScope s_law_draw) N_law_draw 13 []) (defBody s_law_draw) = b_law_draw := by rfl
theorem ce_law_stuff : compB 60 (defE T92 (defScope s_law_stuff) N_law_stuff 14 []) (defBody s_law_stuff) = b_law_stuff := by rfl
theorem ce_law_fields_right : compB 60 (defE T92 (defScope s_law_fields_right) N_law_fields_right 13 [(91, 17)]) (defBody s_law_fields_right) = b_law_fields_right := by rfl
theorem ce_law_kin : compB 60 (defE T92 (defScope s_law_kin) N_law_kin 2 []) (defBody s_law_kin) = b_law_kin := by rfl
theorem ce_law_families_right : compB 60 (defE T92 (defScope s_law_families_right) N_law_families_right 13 []) (defBody s_law_families_right) = b_law_families_right := by rfl
theorem ce_law : compB 60 (defE T92 (defScope s_law) N_law 15 []) (defBody s_law) = b_law := by rfl
end K92
set_option Elab.async false
set_option linter.all false
set_option maxRecDepth 100000
set_option maxHeartbeats 4000000
/-! N1: k92: the deck, a draw. -/
namespace K92
open PySem L2 Pi Ev
/-- the deck lies at d, its numbers at k; c draws at most so far -/
structure Dk (S : Store) (d k c : Nat) : Prop where
  ne : d ≠ k
  ok : ∃ (t n : Int) (is : List Int), S[d]? = some (.lst [.ref k, .int t, .int n]) ∧ S[k]? = some (.lst (is.map .int)) ∧ 0 ≤ n ∧ n ≤ c ∧ is.length ≤ 63
theorem fm {x m : Int} (h : 0 < m) : 0 ≤ x.fmod m ∧ x.fmod m < m := ⟨Int.fmod_nonneg_of_pos _ h, Int.fmod_lt_of_pos _ h⟩
section
variable {S S1 : Store} {d k : Nat} {a b e : Val} {ρ : Pi.Loc} {ma : Cm}
theorem ixR0 (h : S[d]? = some (.lst [a, b, e])) : opIx (.ref d) (.int 0) S = .ok a S := by
  unfold opIx lstItems
  simp only [h]
  rfl
theorem ixR1 (h : S[d]? = some (.lst [a, b, e])) : opIx (.ref d) (.int 1) S = .ok b S := by
  unfold opIx lstItems
  simp only [h]
  rfl
theorem ixR2 (h : S[d]? = some (.lst [a, b, e])) : opIx (.ref d) (.int 2) S = .ok e S := by
  unfold opIx lstItems
  simp only [h]
  rfl
theorem gix2 {v : Val} (hv : ρ[0]? = some (some (.ref d))) (h : S[d]? = some (.lst [a, b, e])) : gIx (cVar 0) (cC (.int 2)) v ρ S = .ok ρ (S.set d (.lst [a, b, v])) := by
  unfold gIx
  rw [ev_var hv, Res.bind_ok, ev_cC, Res.bind_ok]
  simp only [h]
  rfl
theorem mul64 {i j : Int} (h1 : i.natAbs < 2 ^ 64) (h2 : j.natAbs < 2 ^ 64) : mulOk i j := mul_ok h1 h2 (by decide)
theorem it_ref {xs : List Val} (h : ma ρ S = .ok (.ref k) S1) (hs : S1[k]? = some (.lst xs)) : itSeq ma ρ S = .ok (xs, some k) S1 := by
  unfold itSeq
  rw [h]
  show (match S1[k]? with
    | some (.lst xs) => Res.ok (xs, some k) S1
    | _ => .no) = _
  rw [hs]
end
noncomputable def drawTail : Sm := (sSeq (sAsg (c2 opMod (c2 opMulR (c2 opAdd (c2 opAdd (c2 opMod (cVar 2) (cC (.int 2147483587))) (c2 opMulR (cC (.int 65537)) (c2 opIx (cVar 0) (cC (.int 2))))) (cC (.int 9))) (cC (.int 39373))) (cC (.int 2147483647))) (gPat (.nm 3))) (sSeq (sAsg (c2 opMod (c2 opAdd (c2 opAdd (c2 opMulR (cVar 3) (cVar 3)) (c2 opMulR (cC (.int 48271)) (c2 opIx (cVar 0) (cC (.int 2))))) (cC (.int 17))) (cC (.int 2147483629))) (gPat (.nm 3))) (sSeq (sRet (c2 opMod (c2 opDiv (c2 opMod (c2 opMulR (cVar 3) (c2 opAdd (c2 opDiv (cVar 3) (cC (.int 5))) (cC (.int 69621)))) (cC (.int 2305843009213693951))) (cC (.int 64))) (cVar 1))) sPass)))
theorem fd5 {x : Int} (h0 : 0 ≤ x) (h1 : x < 2147483629) : 0 ≤ x.fdiv 5 ∧ x.fdiv 5 < 2147483629 := by
  have e : x.fdiv 5 = x / 5 := Int.fdiv_eq_ediv_of_nonneg _ (by decide)
  rw [e]
  omega
theorem draw_tail {S : Store} {d k : Nat} {t n z most : Int} {w : Option Val} (h : S[d]? = some (.lst [.ref k, .int t, .int n])) (h0 : 0 ≤ n) (h1 : n ≤ 1000000) (hm : 0 < most) : ∃ r : Int, 0 ≤ r ∧ r < most ∧ drawTail [some (.ref d), some (.int most), some (.int z), w] S = .ok (.ret (.int r)) S := by
  obtain ⟨a1, a2⟩ := fm (x := z) (show (0 : Int) < 2147483587 by decide)
  obtain ⟨b1, b2⟩ := fm (x := (z.fmod 2147483587 + 65537 * n + 9) * 39373) (show (0 : Int) < 2147483647 by decide)
  obtain ⟨c1, c2⟩ := fm (x := ((z.fmod 2147483587 + 65537 * n + 9) * 39373).fmod 2147483647 * ((z.fmod 2147483587 + 65537 * n + 9) * 39373).fmod 2147483647 + 48271 * n + 17) (show (0 : Int) < 2147483629 by decide)
  generalize hA : z.fmod 2147483587 = A at *
  generalize hB : ((A + 65537 * n + 9) * 39373).fmod 2147483647 = B at *
  generalize hC : (B * B + 48271 * n + 17).fmod 2147483629 = C at *
  obtain ⟨d1, d2⟩ := fd5 c1 c2
  refine ⟨((C * (C.fdiv 5 + 69621)).fmod 2305843009213693951 |>.fdiv 64).fmod most, (fm hm).1, (fm hm).2, ?_⟩
  have g1 : mulOk 65537 n := mul64 (by decide) (by omega)
  have g2 : mulOk (A + 65537 * n + 9) 39373 := mul64 (by omega) (by decide)
  have g3 : mulOk B B := mul64 (by omega) (by omega)
  have g4 : mulOk 48271 n := mul64 (by decide) (by omega)
  have g5 : mulOk C (C.fdiv 5 + 69621) := mul64 (by omega) (by omega)
  have g6 : ∀ x : Int, divOk x 64 := fun x => div_ok (by decide) (Nat.lt_of_lt_of_le (show (64 : Int).natAbs < 2 ^ 10 by decide) (two_pow_mono _ _ (by decide)))
  have g7 : ∀ x : Int, divOk x 5 := fun x => div_ok (by decide) (Nat.lt_of_lt_of_le (show (5 : Int).natAbs < 2 ^ 10 by decide) (two_pow_mono _ _ (by decide)))
  refine ev_seqN (ev_asg (ev_c2 (ev_c2 (ev_c2 (ev_c2 (ev_c2 (ev_var rfl) ev_cC (by rw [vo_mod (by decide), hA])) (ev_c2 ev_cC (ev_c2 (ev_var rfl) ev_cC (ixR2 h)) (vo_mulR g1)) vo_add) ev_cC vo_add) ev_cC (vo_mulR g2)) ev_cC (by rw [vo_mod (by decide), hB])) rfl) ?_
  refine ev_seqN (ev_asg (ev_c2 (ev_c2 (ev_c2 (ev_c2 (ev_var rfl) (ev_var rfl) (vo_mulR g3)) (ev_c2 ev_cC (ev_c2 (ev_var rfl) ev_cC (ixR2 h)) (vo_mulR g4)) vo_add) ev_cC vo_add) ev_cC (by rw [vo_mod (by decide), hC])) rfl) ?_
  exact ev_seqR (ev_ret (ev_c2 (ev_c2 (ev_c2 (ev_c2 (ev_var rfl) (ev_c2 (ev_c2 (ev_var rfl) ev_cC (vo_div (g7 _))) ev_cC vo_add) (vo_mulR g5)) ev_cC (vo_mod (by decide))) ev_cC (vo_div (g6 _))) (ev_var rfl) (vo_mod (by omega))))
/-- from where the cell is known -/
noncomputable def drawEnd : Sm := sSeq (sIf (c2 opGe (cVar 2) (c2 opPow (cC (.int 10)) (cC (.int 18)))) (sSeq (sExpr (cApp (c2 opIx (cVar 0) (cC (.int 0))) (c2 opDiv (cVar 2) (cVar 1)))) (sSeq (sRet (c2 opMod (cVar 2) (cVar 1))) sPass)) sPass) drawTail
theorem draw_end {S : Store} {d k c : Nat} {t n z most : Int} {is : List Int} {w : Option Val} (ne : d ≠ k) (h1 : S[d]? = some (.lst [.ref k, .int t, .int n])) (h2 : S[k]? = some (.lst (is.map .int))) (h3 : 0 ≤ n) (h4 : n ≤ c + 1) (hc : c ≤ 100000) (h5 : is.length ≤ 62) (hm : 0 < most) (hm2 : most ≤ 100) :
    ∃ (r : Int) (S' : Store), drawEnd [some (.ref d), some (.int most), some (.int z), w] S = .ok (.ret (.int r)) S' ∧ 0 ≤ r ∧ r < most ∧ Dk S' d k (c + 1) := by
  have hk : k < S.length := (List.getElem?_eq_some_iff.mp h2).1
  have hmod : most ≠ 0 := by omega
  have hdiv : ∀ x : Int, divOk x most := fun x => div_ok hmod (Nat.lt_of_lt_of_le (show most.natAbs < 2 ^ 10 by omega) (two_pow_mono _ _ (by decide)))
  have hpow : opPow (.int 10) (.int 18) S = .ok (.int 1000000000000000000) S := by
    show (if powOk 10 18 then Res.ok (Val.int (10 ^ (18 : Int).toNat)) S else .no) = _
    rw [if_pos ⟨by decide, by decide, by decide⟩]
    rfl
  by_cases hbig : 1000000000000000000 ≤ z
  · have happ : cApp (c2 opIx (cVar 0) (cC (.int 0))) (c2 opDiv (cVar 2) (cVar 1)) [some (.ref d), some (.int most), some (.int z), w] S = .ok .non (S.set k (.lst (is.map .int ++ [.int (z.fdiv most)]))) := by
      unfold cApp
      rw [ev_c2 (ev_var rfl) ev_cC (ixR0 h1), Res.bind_ok]
      simp only [h2]
      rw [ev_c2 (ev_var rfl) (ev_var rfl) (vo_div (hdiv z)), Res.bind_ok]
      simp only [h2]
      rw [if_pos (by rw [sizeLine_eq]; simp; omega)]
    refine ⟨z.fmod most, S.set k (.lst (is.map .int ++ [.int (z.fdiv most)])), ev_seqR (ev_ifT (ev_c2 (ev_var rfl) (ev_c2 ev_cC ev_cC hpow) (by rw [vo_ge, decide_eq_true hbig])) (ev_seqN (ev_expr happ) (ev_seqR (ev_ret (ev_c2 (ev_var rfl) (ev_var rfl) (vo_mod hmod)))))), (fm hm).1, (fm hm).2, ne, t, n, is ++ [z.fdiv most], ?_, ?_, h3, by omega, by simp; omega⟩
    · rw [List.getElem?_set_ne (Ne.symm ne)]
      exact h1
    · rw [List.getElem?_set_self hk]
      simp
  · obtain ⟨r, r1, r2, hr⟩ := draw_tail (S := S) (z := z) (w := w) h1 h3 (by omega) hm
    exact ⟨r, S, ev_seqN (ev_ifF (ev_c2 (ev_var rfl) (ev_c2 ev_cC ev_cC hpow) (by rw [vo_ge, decide_eq_false hbig])) ev_pass) hr, r1, r2, ne, t, n, is, h1, h2, h3, by omega, by omega⟩
theorem L_draw {S : Store} {d k c : Nat} {most : Int} (h : Dk S d k c) (hc : c ≤ 100000) (hm : 0 < most) (hm2 : most ≤ 100) : ∃ (r : Int) (S' : Store), F_law_draw.m [.ref d, .int most] S = .ok (.int r) S' ∧ 0 ≤ r ∧ r < most ∧ Dk S' d k (c + 1) := by
  obtain ⟨ne, t, n, is, h1, h2, h3, h4, h5⟩ := h
  have hd : d < S.length := (List.getElem?_eq_some_iff.mp h1).1
  generalize hS1 : S.set d (.lst [.ref k, .int t, .int (n + 1)]) = S1
  have e1 : S1[d]? = some (.lst [.ref k, .int t, .int (n + 1)]) := by rw [← hS1]; exact List.getElem?_set_self hd
  have e2 : S1[k]? = some (.lst (is.map .int)) := by rw [← hS1, List.getElem?_set_ne ne]; exact h2
  have hk1 : k < S1.length := (List.getElem?_eq_some_iff.mp e2).1
  have start : ∀ {f : Fl} {S' : Store}, (sSeq (sIf (c2 (opEq eqT true) (c2 opIx (cVar 0) (cC (.int 0))) (cN mkLst [])) (sSeq (sAsg (c1 opPop (c2 opIx (cVar 0) (cC (.int 0)))) (gPat (.nm 2))) sPass) sPass) drawEnd) [some (.ref d), some (.int most), some (.int t), none] S1 = .ok f S' → b_law_draw (startD 4 [.ref d, .int most]) S = .ok f S' := by
    intro f S' q
    refine ev_seqN (ev_asg (ev_c2 (ev_c2 (ev_var rfl) ev_cC (ixR2 h1)) ev_cC vo_add) (gix2 rfl h1)) ?_
    rw [hS1]
    exact ev_seqN (ev_asg (ev_c2 (ev_var rfl) ev_cC (ixR1 e1)) rfl) q
  have hnil : mkLst [] S1 = .ok (.lst []) S1 := ev_lst (by rw [sizeLine_eq]; exact Nat.zero_le _)
  have htest : c2 (opEq eqT true) (c2 opIx (cVar 0) (cC (.int 0))) (cN mkLst []) [some (.ref d), some (.int most), some (.int t), none] S1 = .ok (.bl (true != (is.map Val.int).isEmpty)) S1 := by
    refine ev_c2 (ev_c2 (ev_var rfl) ev_cC (ixR0 e1)) (ev_cN ev_nil hnil) ?_
    show (match S1[k]? with
      | some (.lst xs) => Res.ok (Val.bl (true != xs.isEmpty)) S1
      | _ => .no) = _
    rw [e2]
  rcases List.eq_nil_or_concat is with hz | ⟨is', z, hz⟩
  · subst hz
    obtain ⟨r, S', hr, q⟩ := draw_end (S := S1) (z := t) (w := none) (c := c) ne e1 e2 (by omega) (by omega) hc (by decide) hm hm2
    exact ⟨r, S', ev_body (start (ev_seqN (ev_ifF htest ev_pass) hr)), q⟩
  · rw [List.concat_eq_append] at hz
    subst hz
    have hlen : is'.length ≤ 62 := by simp at h5; omega
    have hpop : opPop (.ref k) S1 = .ok (.int z) (S1.set k (.lst (is'.map .int))) := by
      unfold opPop
      simp only [e2]
      have : (List.map Val.int (is' ++ [z]))[(List.map Val.int (is' ++ [z])).length - 1]? = some (.int z) := by simp
      rw [this]
      simp only
      congr 2
      simp
    generalize hS2 : S1.set k (.lst (is'.map .int)) = S2 at hpop
    have e3 : S2[d]? = some (.lst [.ref k, .int t, .int (n + 1)]) := by rw [← hS2, List.getElem?_set_ne (Ne.symm ne)]; exact e1
    have e4 : S2[k]? = some (.lst (is'.map .int)) := by rw [← hS2]; exact List.getElem?_set_self hk1
    have ht : (true != (List.map Val.int (is' ++ [z])).isEmpty) = true := by simp
    rw [ht] at htest
    obtain ⟨r, S', hr, q⟩ := draw_end (S := S2) (z := z) (w := none) (c := c) ne e3 e4 (by omega) (by omega) hc hlen hm hm2
    exact ⟨r, S', ev_body (start (ev_seqN (ev_ifT htest (ev_seqN (ev_asg (ev_c1 (ev_c2 (ev_var rfl) ev_cC (ixR0 e1)) hpop) rfl) ev_pass)) hr)), q⟩
/-! ### the deck is laid -/
theorem mods_loop {ρ : Pi.Loc} {k : Nat} {S : Store} {all : List Val} (hS : S[k]? = some (.lst all)) (hρ : ρ.length = 3) : ∀ (is : List Int) (acc : List Int), acc.length + is.length ≤ 63 →
    lcLoop (chk all (some k)) (.nm 2) (cC (.bl true)) (c2 opMod (cVar 2) (cC (.int 2147483587))) ρ (is.map .int) (acc.map .int) S = .ok ((acc ++ is.map fun i => i.fmod 2147483587).map .int) S
  | [], acc, h => by
    rw [List.map_nil, List.map_nil, List.append_nil]
    exact lc_nil hS
  | i :: is, acc, h => by
    rw [List.length_cons] at h
    have ih := mods_loop hS hρ is (acc ++ [i.fmod 2147483587]) (by rw [List.length_append, List.length_singleton]; omega)
    have hx : (ρ.set 2 (some (Val.int i)))[2]? = some (some (.int i)) := List.getElem?_set_self (by omega)
    refine lc_cons (ρ1 := ρ.set 2 (some (.int i))) (y := .int (i.fmod 2147483587)) hS rfl ev_cC (ev_c2 (ev_var hx) ev_cC (vo_mod (by decide))) (by rw [List.length_map, sizeLine_eq]; omega) ?_
    rw [List.map_append, List.append_assoc] at ih
    rw [List.map_append, List.map_cons, List.map_cons]
    rw [List.map_append] at ih
    exact ih
theorem intsOf_map : ∀ is : List Int, intsOf (is.map Val.int) = some is
  | [] => rfl
  | i :: r => by
    show (intsOf (r.map Val.int)).map (i :: ·) = _
    rw [intsOf_map r]
    rfl
theorem L_deck {S : Store} {is : List Int} (hl : is.length ≤ 63) : ∃ (d k : Nat) (S' : Store), F_law_deck.m [.frl (is.map .int)] S = .ok (.ref d) S' ∧ Dk S' d k 0 := by
  obtain ⟨js, hj, hjl⟩ : ∃ js : List Int, cutD (is.map Val.int) none (some 63) = js.map .int ∧ js.length ≤ 63 := by
    refine ⟨(is.drop (HT.sIx (is.map Val.int).length 0 none)).take (HT.sIx (is.map Val.int).length (is.map Val.int).length (some 63) - HT.sIx (is.map Val.int).length 0 none), ?_, ?_⟩
    · unfold cutD
      rw [List.map_take, List.map_drop]
    · rw [List.length_take, List.length_drop]
      omega
  have hsl : cSl false (cVar 0) none (some (cC (.int 63))) (startD 3 [.frl (is.map .int)]) S = .ok (.lst (js.map .int)) S := by
    unfold cSl
    rw [ev_var rfl, Res.bind_ok]
    show (Res.ok (Val.lst (cutD (is.map Val.int) none (some 63))) S) = _
    rw [hj]
  have hrv : opLRev true (.lst (js.map .int)) S = .ok (.ref S.length) (S ++ [.lst (js.map Val.int).reverse]) := rfl
  generalize hS1 : S ++ [Cell.lst (js.map Val.int).reverse] = S1 at hrv
  have e1 : S1[S.length]? = some (.lst (js.reverse.map .int)) := by
    rw [← hS1, List.getElem?_append_right (Nat.le_refl _), List.map_reverse]
    simp
  have hl1 : S1.length = S.length + 1 := by rw [← hS1]; simp
  have hsum : ∃ t : Int, c2 opAdd (cN biSum [(cLc false (itSeq (cVar 1)) [2] (.nm 2) (cC (.bl true)) (c2 opMod (cVar 2) (cC (.int 2147483587))))]) (c2 opMulR (cC (.int 69621)) (cN biLen [(cVar 1)])) [some (.frl (is.map .int)), some (.ref S.length), none] S1 = .ok (.int t) S1 := by
    have h1 := mods_loop (ρ := [some (.frl (is.map .int)), some (.ref S.length), none]) e1 rfl js.reverse [] (by simpa using hjl)
    have hs : biSum [.lst ((([] : List Int) ++ js.reverse.map fun i : Int => i.fmod 2147483587).map Val.int)] S1 = .ok (.int (js.reverse.map fun i : Int => i.fmod 2147483587).sum) S1 := by
      show (match (some ((([] : List Int) ++ js.reverse.map fun i : Int => i.fmod 2147483587).map Val.int)).bind intsOf with
        | some bs => Res.ok (Val.int bs.sum) S1
        | none => .no) = _
      rw [List.nil_append, Option.bind_some, intsOf_map]
    have hn : biLen [.ref S.length] S1 = .ok (.int (js.length : Int)) S1 := by
      show (match seqItems (.ref S.length) S1 with
        | some xs => Res.ok (Val.int xs.length) S1
        | none => .no) = _
      have : seqItems (.ref S.length) S1 = some (js.reverse.map .int) := by
        show lstItems (.ref S.length) S1 = _
        unfold lstItems
        simp only [e1]
      rw [this]
      simp
    exact ⟨_, ev_c2 (ev_cN (ev_cons (ev_lc (it_ref (ev_var rfl) e1) h1) ev_nil) hs) (ev_c2 ev_cC (ev_cN (ev_cons (ev_var rfl) ev_nil) hn) (vo_mulR (i := 69621) (j := (js.length : Int)) (mul64 (by decide) (by omega)))) vo_add⟩
  obtain ⟨t, ht⟩ := hsum
  refine ⟨S1.length, S.length, S1 ++ [.lst [.ref S.length, .int t, .int 0]], ?_, by omega, t, 0, js.reverse, ?_, ?_, by decide, by decide, by simpa using hjl⟩
  · refine ev_body (ev_seqN (ev_asg (ev_c1 hsl hrv) rfl) (ev_seqR (ev_ret ?_)))
    refine ev_cN (ev_cons (ev_var rfl) (ev_cons ht (ev_cons ev_cC ev_nil))) ?_
    show (if [Val.ref S.length, .int t, .int 0].length ≤ sizeLine then Res.ok (Val.ref S1.length) _ else .no) = _
    rw [if_pos (by rw [sizeLine_eq]; exact Nat.le_of_ble_eq_true rfl)]
  · rw [List.getElem?_append_right (Nat.le_refl _)]
    simp
  · rw [List.getElem?_append_left (by omega)]
    exact e1
end K92
set_option Elab.async false
set_option linter.all false
set_option maxRecDepth 100000
set_option maxHeartbeats 4000000
/-! N2: k92: things drawn, and that repr shows them. -/
namespace K92
open PySem L2 Pi Ev
/-- repr shows it -/
def Sh (d : Val) : Prop := ∃ p, showD d = some p ∧ showFit p
theorem Sh.run {d : Val} {p : PyData} {S : Store} (h1 : showD d = some p) (h2 : showFit p) : biRepr [d] S = .ok (.str p.shown) S := by
  unfold biRepr
  simp only [h1]
  exact if_pos h2
/-- letters -/
def Word (z : Str) : Prop := z.length ≤ 8 ∧ ∀ c ∈ z.cps.toList, c < 128
theorem Word.rp {z : Str} (h : Word z) : (reprText z).length ≤ 82 := by
  have := StrLaws.reprText_len z fun c hc => Nat.lt_of_lt_of_le (h.2 c hc) (by decide)
  have := h.1
  omega
theorem sz (n : Nat) (h : n ≤ 1000000) : n ≤ sizeLine := by rw [sizeLine_eq]; omega
theorem sh_non : Sh .non := ⟨_, rfl, by rw [PyData.showable], sz _ (by rw [PyData.shown]; decide), by rw [PyData.depth]; decide⟩
theorem sh_bl : Sh (.bl true) := ⟨_, rfl, by rw [PyData.showable], sz _ (by rw [PyData.shown]; decide), by rw [PyData.depth]; decide⟩
theorem sh_int {i : Int} (h : i.natAbs.log2 < 1920) : Sh (.int i) := ⟨_, rfl, by rw [PyData.showable]; exact decide_eq_true h, by rw [PyData.shown]; exact int_text_fits h, by rw [PyData.depth]; decide⟩
theorem small_log {i : Int} (h : i.natAbs < 2 ^ 200) : i.natAbs.log2 < 1920 := by
  by_cases h0 : i.natAbs = 0
  · rw [h0]
    decide
  · have := (Nat.log2_lt h0).mpr h
    omega
theorem sh_str {z : Str} (h : Word z) : Sh (.str z) := ⟨_, rfl, by rw [PyData.showable], sz _ (by rw [PyData.shown]; have := h.rp; omega), by rw [PyData.depth]; decide⟩
theorem sh_tup0 : Sh (.tup []) := ⟨.tuple [], rfl, by rw [PyData.showable, PyData.showableAll], sz _ (by rw [PyData.shown, PyData.shownAll]; decide), by rw [PyData.depth, PyData.depthAll]; decide⟩
theorem sh_dic : Sh (.dic [] []) := ⟨.dict [], rfl, by rw [PyData.showable, PyData.showableKv], sz _ (by rw [PyData.shown, PyData.shownKv]; decide), by rw [PyData.depth, PyData.depthKv]; decide⟩
theorem sh_tup2 {z : Str} (h : Word z) : Sh (.tup [.str z, .int 1]) := by
  refine ⟨.tuple [.str z, .int 1], rfl, ?_, sz _ ?_, ?_⟩
  · simp only [PyData.showable, PyData.showableAll]
    decide
  · simp only [PyData.shown, PyData.shownAll]
    show (("(" : Str) ++ (reprText z ++ ", " ++ (Str.ofString (toString (1 : Int)))) ++ ")").length ≤ _
    rw [strLen_append, strLen_append, strLen_append, strLen_append]
    have := h.rp
    have e1 : (Str.ofString "(").length = 1 := by decide
    have e2 : (Str.ofString ", ").length = 2 := by decide
    have e3 : (Str.ofString (toString (1 : Int))).length = 1 := by decide
    have e4 : (Str.ofString ")").length = 1 := by decide
    omega
  · simp only [PyData.depth, PyData.depthAll]
    decide
theorem sh_lst1 {z : Str} (h : Word z) : Sh (.lst [.str z]) := by
  refine ⟨.list [.str z], rfl, ?_, sz _ ?_, ?_⟩
  · simp only [PyData.showable, PyData.showableAll]
    decide
  · simp only [PyData.shown, PyData.shownAll]
    show (("[" : Str) ++ "" ++ reprText z ++ "]").length ≤ _
    rw [strLen_append, strLen_append, strLen_append]
    have := h.rp
    have e1 : (Str.ofString "[").length = 1 := by decide
    have e2 : (Str.ofString "").length = 0 := by decide
    have e4 : (Str.ofString "]").length = 1 := by decide
    omega
  · simp only [PyData.depth, PyData.depthAll]
    decide
/-! ### a place in a list, a letter -/
theorem at_lst {l : List Val} {r : Int} (h0 : 0 ≤ r) (h1 : r < l.length) : ∃ x, x ∈ l ∧ ∀ S : Store, opIx (.lst l) (.int r) S = .ok x S := by
  have hn : r.toNat < l.length := by omega
  refine ⟨l[r.toNat], List.getElem_mem hn, fun S => ?_⟩
  have e : atI l r = some l[r.toNat] := by
    unfold atI ixN
    rw [if_pos h0, if_pos (by omega), Option.bind_some, List.getElem?_eq_getElem hn]
  unfold opIx
  show (match lstItems (.lst l) S with
    | some xs => match atI xs r with
      | some d => Res.ok d S
      | none => .no
    | none => .no) = _
  show (match atI l r with
    | some d => Res.ok d S
    | none => .no) = _
  rw [e]
def letters : Str := "abcdefghijklmnopqrstuvwxyz"
theorem letter_at : ∀ n : Fin 26, ∃ k, atI letters.cps.toList ((n : Nat) : Int) = some k ∧ k < 128 := by
  have : ∀ n : Fin 26, (match atI letters.cps.toList ((n : Nat) : Int) with
    | some k => decide (k < 128)
    | none => false) = true := by decide +kernel
  intro n
  have h := this n
  split at h
  · rename_i k hk
    exact ⟨k, hk, of_decide_eq_true h⟩
  · cases h
theorem letter {r : Int} (h0 : 0 ≤ r) (h1 : r < 26) : ∃ k, k < 128 ∧ ∀ S : Store, opIx (.str letters) (.int r) S = .ok (.str ⟨#[k]⟩) S := by
  obtain ⟨k, hk, hl⟩ := letter_at ⟨r.toNat, by omega⟩
  have e : ((r.toNat : Nat) : Int) = r := by omega
  simp only [e] at hk
  refine ⟨k, hl, fun S => ?_⟩
  show (if letters.length ≤ sizeLine then (match atI letters.cps.toList r with
    | some k => Res.ok (Val.str ⟨#[k]⟩) S
    | none => .no) else .no) = _
  rw [if_pos (sz _ (by decide +kernel)), hk]
/-! ### the word -/
theorem joinL_nil : ∀ l : List (List Nat), TL.joinL [] l = l.flatten
  | [] => rfl
  | [p] => by simp [TL.joinL]
  | p :: q :: r => by
    rw [TL.joinL, joinL_nil (q :: r)]
    rfl
theorem join_ones (ks : List Nat) : Txt.join "" (ks.map fun k => (⟨#[k]⟩ : Str)) = ⟨ks.toArray⟩ := by
  have e := SX.join_S [] (ks.map fun k => [k])
  rw [List.map_map] at e
  have e1 : (SX.S ∘ fun k : Nat => [k]) = fun k => (⟨#[k]⟩ : Str) := rfl
  rw [e1, joinL_nil] at e
  have e2 : ∀ ks : List Nat, (List.map (fun k => [k]) ks).flatten = ks := fun ks => by
    induction ks with
    | nil => rfl
    | cons k r ih => rw [List.map_cons, List.flatten_cons, ih]; rfl
  rw [e2 ks] at e
  exact e
theorem strsOf_map : ∀ zs : List Str, opJoin.strsOf (zs.map Val.str) = some zs
  | [] => rfl
  | z :: r => by
    show (match opJoin.strsOf (r.map Val.str) with
      | some zs => some (z :: zs)
      | none => none) = _
    rw [strsOf_map r]
theorem word_loop {d k : Nat} {ρ : Pi.Loc} {all : List Val} (h0 : ρ[0]? = some (some (.ref d))) (h1 : ρ[1]? = some (some (.str letters))) (hρ : ρ.length = 5) : ∀ (l : List Val) (acc : List Nat) (c : Nat) (S : Store), Dk S d k c → c + l.length ≤ 100000 → acc.length + l.length ≤ 8 → (∀ x ∈ acc, x < 128) →
    ∃ (ks : List Nat) (S' : Store), lcLoop (chk all none) (.nm 4) (cC (.bl true)) (c2 opIx (cVar 1) (cCall F_law_draw 14 2 [] [(cVar 0), (cC (.int 26))] [])) ρ l ((acc.map fun k => (⟨#[k]⟩ : Str)).map Val.str) S = .ok ((ks.map fun k => (⟨#[k]⟩ : Str)).map Val.str) S' ∧
      Dk S' d k (c + l.length) ∧ ks.length ≤ 8 ∧ ∀ x ∈ ks, x < 128
  | [], acc, c, S, D, hc, hl, ha => ⟨acc, S, lc_nil trivial, D, by simpa using hl, ha⟩
  | x :: l, acc, c, S, D, hc, hl, ha => by
    rw [List.length_cons] at hc hl
    obtain ⟨r, S1, e1, p1, p2, D1⟩ := L_draw (most := 26) D (by omega) (by decide) (by decide)
    obtain ⟨y, hy, iy⟩ := letter p1 p2
    obtain ⟨ks, S', e2, D2, l2, a2⟩ := word_loop h0 h1 hρ l (acc ++ [y]) (c + 1) S1 D1 (by omega) (by rw [List.length_append, List.length_singleton]; omega) (fun z hz => by
      rcases List.mem_append.mp hz with hz | hz
      · exact ha z hz
      · rw [List.mem_singleton.mp hz]; exact hy)
    have g0 : (ρ.set 4 (some x))[0]? = some (some (.ref d)) := by rw [List.getElem?_set_ne (by decide)]; exact h0
    have g1 : (ρ.set 4 (some x))[1]? = some (some (.str letters)) := by rw [List.getElem?_set_ne (by decide)]; exact h1
    refine ⟨ks, S', ?_, by rw [List.length_cons, show c + (l.length + 1) = c + 1 + l.length by omega]; exact D2, l2, a2⟩
    refine lc_cons (ρ1 := ρ.set 4 (some x)) trivial rfl ev_cC (ev_c2 (ev_var g1) (ev_call2 (ev_var g0) ev_cC rfl rfl e1) (iy S1)) (by simp only [List.length_map]; exact Nat.lt_of_lt_of_le (by omega) (sz 10 (by decide))) ?_
    rw [List.map_append, List.map_append] at e2
    exact e2
theorem L_stuff {S : Store} {d k c : Nat} (h : Dk S d k c) (hc : c ≤ 50000) : ∃ (v : Val) (S' : Store), F_law_stuff.m [.ref d] S = .ok v S' ∧ Sh v ∧ Dk S' d k (c + 12) := by
  obtain ⟨n, S1, e1, p1, p1', D1⟩ := L_draw (most := 8) h (by omega) (by decide) (by decide)
  have hrl : (rangeD 0 (1 + n).toNat).length = (1 + n).toNat := by simp [rangeD]
  obtain ⟨ks, S2, e2, D2, kl, ka⟩ := word_loop (d := d) (k := k) (ρ := [some (.ref d), some (.str letters), none, none, none]) (all := rangeD 0 (1 + n).toNat) rfl rfl rfl (rangeD 0 (1 + n).toNat) [] (c + 1) S1 D1 (by rw [hrl]; omega) (by rw [hrl]; simp; omega) (fun x hx => by cases hx)
  rw [hrl] at D2
  obtain ⟨r2, S3, e3, p3, p3', D3⟩ := L_draw (most := 15) D2 (by omega) (by decide) (by decide)
  obtain ⟨r3, S4, e4, p4, p4', D4⟩ := L_draw (most := 99) D3 (by omega) (by decide) (by decide)
  obtain ⟨r4, S5, e5, p5, p5', D5⟩ := L_draw (most := 12) D4 (by omega) (by decide) (by decide)
  have W : Word ⟨ks.toArray⟩ := ⟨by show ks.toArray.size ≤ 8; simpa using kl, fun x hx => ka x (by simpa using hx)⟩
  generalize hw : (⟨ks.toArray⟩ : Str) = w at W
  have W0 : Word "" := ⟨by decide, fun x hx => by cases hx⟩
  obtain ⟨x, hx, ix⟩ := at_lst (l := [.int 0, .int r2, .int (0 - r3), .int (10 ^ 39), .non, .bl true, .str "", .str w, .tup [], .tup [.str w, .int 1], .lst [.str w], .dic [] []]) p5 (show r4 < 12 from p5')
  refine ⟨x, S5, ?_, ?_, ?_⟩
  · have hj : cJoin (cC (.str "")) (cLc false (itRange [(c2 opAdd (cC (.int 1)) (cCall F_law_draw 14 2 [] [(cVar 0), (cC (.int 8))] []))]) [4] (.nm 4) (cC (.bl true)) (c2 opIx (cVar 1) (cCall F_law_draw 14 2 [] [(cVar 0), (cC (.int 26))] []))) [some (.ref d), some (.str letters), none, none, none] S = .ok (.str w) S2 := by
      have hlc := ev_lc (own := [4]) (it_range1 (ρ := [some (.ref d), some (.str letters), none, none, none]) (ev_c2 ev_cC (ev_call2 (lv := 14) (ma := cVar 0) (mb := cC (.int 8)) (ev_var rfl) ev_cC rfl rfl e1) vo_add) (small_ok (by omega) (by omega))) e2
      show (Res.ok (Val.str "") S).bind _ = _
      show (cLc false (itRange [(c2 opAdd (cC (.int 1)) (cCall F_law_draw 14 2 [] [(cVar 0), (cC (.int 8))] []))]) [4] (.nm 4) (cC (.bl true)) (c2 opIx (cVar 1) (cCall F_law_draw 14 2 [] [(cVar 0), (cC (.int 26))] [])) [some (.ref d), some (.str letters), none, none, none] S).bind (fun y S2 => opJoin (.str "") y S2) = _
      rw [hlc, Res.bind_ok]
      unfold opJoin
      simp only [strsOf_map]
      rw [if_pos ?_, join_ones, hw]
      have e0 : (Str.ofString "").length = 0 := by decide
      rw [e0, Nat.mul_zero, Nat.add_zero]
      have : ∀ l : List Nat, ((l.map fun k => (⟨#[k]⟩ : Str)).map (·.length)).sum = l.length := fun l => by
        induction l with
        | nil => rfl
        | cons y r ih =>
          rw [List.map_cons, List.map_cons, List.sum_cons, ih, List.length_cons]
          show 1 + r.length = _
          omega
      rw [this]
      omega
    have hpow : opPow (.int 10) (.int 39) S4 = .ok (.int (10 ^ 39)) S4 := by
      show (if powOk 10 39 then Res.ok (Val.int (10 ^ (39 : Int).toNat)) S4 else .no) = _
      rw [if_pos ⟨by decide, by decide, by decide⟩]
      rfl
    refine ev_body (ev_seqN (ev_asg ev_cC rfl) (ev_seqN (ev_asg hj rfl) (ev_seqN (ev_asg (ev_cN (ev_cons ev_cC (ev_cons (ev_call2 (ev_var rfl) ev_cC rfl rfl e3) (ev_cons (ev_c2 ev_cC (ev_call2 (ev_var rfl) ev_cC rfl rfl e4) vo_sub) (ev_cons (ev_c2 ev_cC ev_cC hpow) (ev_cons ev_cC (ev_cons ev_cC (ev_cons ev_cC (ev_cons (ev_var rfl) (ev_cons (ev_cN ev_nil (ev_tup (sz _ (by decide)))) (ev_cons (ev_cN (ev_cons (ev_var rfl) (ev_cons ev_cC ev_nil)) (ev_tup sl2)) (ev_cons (ev_cN (ev_cons (ev_var rfl) ev_nil) (ev_lst (sz _ (Nat.le_of_ble_eq_true rfl)))) (ev_cons ev_cC ev_nil)))))))))))) (ev_lst (sz _ (Nat.le_of_ble_eq_true rfl)))) rfl) (ev_seqR (ev_ret (ev_c2 (ev_var rfl) (ev_call2 (ev_var rfl) ev_cC rfl rfl e5) (ix S5)))))))
  · simp only [List.mem_cons, List.not_mem_nil, or_false] at hx
    rcases hx with rfl | rfl | rfl | rfl | rfl | rfl | rfl | rfl | rfl | rfl | rfl | rfl
    · exact sh_int (small_log (by decide))
    · exact sh_int (small_log (Nat.lt_of_lt_of_le (show r2.natAbs < 2 ^ 10 by omega) (two_pow_mono _ _ (by decide))))
    · exact sh_int (small_log (Nat.lt_of_lt_of_le (show (0 - r3).natAbs < 2 ^ 10 by omega) (two_pow_mono _ _ (by decide))))
    · exact sh_int (small_log (by decide))
    · exact sh_non
    · exact sh_bl
    · exact sh_str W0
    · exact sh_str W
    · exact sh_tup0
    · exact sh_tup2 W
    · exact sh_lst1 W
    · exact sh_dic
  · obtain ⟨ne, t, n', is, q1, q2, q3, q4, q5⟩ := D5
    exact ⟨ne, t, n', is, q1, q2, q3, by omega, q5⟩
end K92
set_option Elab.async false
set_option linter.all false
set_option maxRecDepth 100000
set_option maxHeartbeats 4000000
/-! N3: k92: the fields. -/
namespace K92
open PySem L2 Pi Ev
section
variable {k : XcS} {C : Nat} {f g : Str} {ρ : Pi.Loc} {S S1 : Store} {x y : Val}
theorem ev_xmk {lv n : Nat} {ks : List Str} {ms mk : List Cm} {ds zs : List Val} {S2 S3 : Store} {d : Val} (h1 : evs ms ρ S = .ok ds S1) (h2 : evs mk ρ S1 = .ok zs S2) (h3 : makeX k C lv n ks ds zs S2 = .ok d S3) : cMakeX k C lv n ks ms mk ρ S = .ok d S3 := by
  show (evs ms ρ S).bind _ = _
  rw [h1]
  show (evs mk ρ S1).bind _ = _
  rw [h2]
  exact h3
/-- what is needed of a class with one field -/
structure F1 (k : XcS) (C : Nat) (f : Str) : Prop where
  p : ∀ x S, makeX k C 13 1 [] [x] [] S = .ok (.exn C [x]) S
  q : ∀ x S, makeX k C 13 0 [f] [] [x] S = .ok (.exn C [x]) S
  a : ∀ x S, opAttrX TX f (.exn C [x]) S = .ok x S
theorem F1.pos (h : F1 k C f) (hx : ρ[0]? = some (some x)) : c1 (opAttrX TX f) (cMakeX k C 13 1 [] [cVar 0] []) ρ S = .ok x S := ev_c1 (ev_xmk (ev_cons (ev_var hx) ev_nil) ev_nil (h.p x S)) (h.a x S)
theorem F1.kw (h : F1 k C f) (hx : ρ[0]? = some (some x)) : c1 (opAttrX TX f) (cMakeX k C 13 0 [f] [] [cVar 0]) ρ S = .ok x S := ev_c1 (ev_xmk ev_nil (ev_cons (ev_var hx) ev_nil) (h.q x S)) (h.a x S)
theorem f_NoText : F1 xNoText 0 "row" := ⟨fun _ _ => rfl, fun _ _ => rfl, fun _ _ => rfl⟩
theorem f_NotPlain : F1 xNotPlain 6 "number" := ⟨fun _ _ => rfl, fun _ _ => rfl, fun _ _ => rfl⟩
theorem f_NeverDone : F1 xNeverDone 7 "number" := ⟨fun _ _ => rfl, fun _ _ => rfl, fun _ _ => rfl⟩
theorem f_NoDeed : F1 xNoDeed 8 "thing" := ⟨fun _ _ => rfl, fun _ _ => rfl, fun _ _ => rfl⟩
theorem f_NoFit : F1 xNoFit 9 "thing" := ⟨fun _ _ => rfl, fun _ _ => rfl, fun _ _ => rfl⟩
theorem f_Taken : F1 xTaken 10 "name" := ⟨fun _ _ => rfl, fun _ _ => rfl, fun _ _ => rfl⟩
theorem f_Undone : F1 xUndone 11 "number" := ⟨fun _ _ => rfl, fun _ _ => rfl, fun _ _ => rfl⟩
theorem f_NoWay : F1 xNoWay 13 "way" := ⟨fun _ _ => rfl, fun _ _ => rfl, fun _ _ => rfl⟩
theorem f_Missing : F1 xMissing 14 "name" := ⟨fun _ _ => rfl, fun _ _ => rfl, fun _ _ => rfl⟩
theorem two_p (x y : Val) (S : Store) : makeX xTwoRoots 5 13 2 [] [x, y] [] S = .ok (.exn 5 [x, y]) S := rfl
theorem two_k (x y : Val) (S : Store) : makeX xTwoRoots 5 13 0 ["one", "other"] [] [x, y] S = .ok (.exn 5 [x, y]) S := rfl
theorem two_o (x y : Val) (S : Store) : makeX xTwoRoots 5 13 0 ["other", "one"] [] [y, x] S = .ok (.exn 5 [x, y]) S := rfl
theorem two_1 (x y : Val) (S : Store) : opAttrX TX "one" (.exn 5 [x, y]) S = .ok x S := rfl
theorem two_2 (x y : Val) (S : Store) : opAttrX TX "other" (.exn 5 [x, y]) S = .ok y S := rfl
theorem vo_cat {a b : List Val} (h : a.length + b.length ≤ 1000) : opAdd (.lst a) (.lst b) S = .ok (.lst (a ++ b)) S := by
  show (if a.length + b.length ≤ sizeLine then Res.ok (Val.lst (a ++ b)) S else .no) = _
  rw [if_pos (sz _ (by omega))]
theorem vo_catC {a b : List Val} (h : a.length + b.length ≤ 1000) : opAddC (.lst a) (.lst b) S = .ok (.ref S.length) (S ++ [.lst (a ++ b)]) := by
  show (if a.length + b.length ≤ sizeLine then Res.ok (Val.ref S.length) (S ++ [.lst (a ++ b)]) else .no) = _
  rw [if_pos (sz _ (by omega))]
theorem skip_loop {ck : Store → Prop} {mt me : Cm} (hck : ck S) (ht : mt (ρ.set 3 (some x)) S = .ok (.bl false) S) : ∀ l : List Val, (∀ y ∈ l, y = x) → lcLoop ck (.nm 3) mt me ρ l [] S = .ok [] S
  | [], _ => lc_nil hck
  | y :: l, h => by
    rw [h y List.mem_cons_self]
    unfold lcLoop
    rw [if_pos hck]
    show (mt (ρ.set 3 (some x)) S).bind _ = _
    rw [ht]
    exact skip_loop hck ht l fun z hz => h z (List.mem_cons_of_mem _ hz)
end
theorem L_fields {S : Store} {x y : Val} (h : Sh x) : ∃ cell, F_law_fields_right.m [x, y] S = .ok (.bl true) (S ++ [cell]) := by
  obtain ⟨p, hp1, hp2⟩ := h
  have hr : ∀ S, biRepr [x] S = .ok (.str p.shown) S := fun S => Sh.run hp1 hp2
  refine ⟨.lst (List.replicate 23 x), ?_⟩
  have l4 : ∀ a b c d : Val, [a, b, c, d].length ≤ sizeLine := fun _ _ _ _ => sz _ (Nat.le_of_ble_eq_true rfl)
  have hset : ∀ a b : Cell, (S ++ [a]).set S.length b = S ++ [b] := fun a b => by simp
  refine ev_body (ev_seqN (ev_asg (ev_cN (ev_cons (f_NoText.pos rfl) (ev_cons (f_NoText.kw rfl) (ev_cons (f_NotPlain.pos rfl) (ev_cons (f_NotPlain.kw rfl) ev_nil)))) (ev_lst (l4 _ _ _ _))) rfl) ?_)
  refine ev_seqN (ev_asg (ev_c2 (ev_var rfl) (ev_cN (ev_cons (f_NeverDone.pos rfl) (ev_cons (f_NeverDone.kw rfl) (ev_cons (f_Undone.pos rfl) (ev_cons (f_Undone.kw rfl) ev_nil)))) (ev_lst (l4 _ _ _ _))) (vo_cat (Nat.le_of_ble_eq_true rfl))) rfl) ?_
  refine ev_seqN (ev_asg (ev_c2 (ev_var rfl) (ev_cN (ev_cons (f_NoDeed.pos rfl) (ev_cons (f_NoDeed.kw rfl) (ev_cons (f_NoFit.pos rfl) (ev_cons (f_NoFit.kw rfl) ev_nil)))) (ev_lst (l4 _ _ _ _))) (vo_cat (Nat.le_of_ble_eq_true rfl))) rfl) ?_
  refine ev_seqN (ev_asg (ev_c2 (ev_var rfl) (ev_cN (ev_cons (f_Taken.pos rfl) (ev_cons (f_Taken.kw rfl) (ev_cons (f_Missing.pos rfl) (ev_cons (f_Missing.kw rfl) ev_nil)))) (ev_lst (l4 _ _ _ _))) (vo_cat (Nat.le_of_ble_eq_true rfl))) rfl) ?_
  refine ev_seqN (ev_asg (ev_c2 (ev_var rfl) (ev_cN (ev_cons (f_NoWay.pos rfl) (ev_cons (f_NoWay.kw rfl) (ev_cons (ev_c1 (ev_xmk (ev_cons (ev_var rfl) (ev_cons (ev_var rfl) ev_nil)) ev_nil (two_p _ _ _)) (two_1 _ _ _)) (ev_cons (ev_c1 (ev_xmk (ev_cons (ev_var rfl) (ev_cons (ev_var rfl) ev_nil)) ev_nil (two_p _ _ _)) (two_2 _ _ _)) ev_nil)))) (ev_lst (l4 _ _ _ _))) (vo_cat (Nat.le_of_ble_eq_true rfl))) rfl) ?_
  refine ev_seqN (ev_asg (ev_c2 (ev_var rfl) (ev_cN (ev_cons (ev_c1 (ev_xmk ev_nil (ev_cons (ev_var rfl) (ev_cons (ev_var rfl) ev_nil)) (two_k _ _ _)) (two_1 _ _ _)) (ev_cons (ev_c1 (ev_xmk ev_nil (ev_cons (ev_var rfl) (ev_cons (ev_var rfl) ev_nil)) (two_k _ _ _)) (two_2 _ _ _)) ev_nil)) (ev_lst sl2)) (vo_catC (Nat.le_of_ble_eq_true rfl))) rfl) ?_
  generalize hS1 : S ++ [Cell.lst _] = S1
  have e1 : S1[S.length]? = some (.lst (List.replicate 22 x)) := by rw [← hS1, List.getElem?_append_right (Nat.le_refl _), Nat.sub_self]; rfl
  have hlast : c1 (opAttrX TX "one") (cMakeX xTwoRoots 5 13 0 ["other", "one"] [] [(cVar 1), (cVar 0)]) [some x, some y, some (.ref S.length), none] S1 = .ok x S1 := ev_c1 (ev_xmk ev_nil (ev_cons (ev_var rfl) (ev_cons (ev_var rfl) ev_nil)) (two_o _ _ _)) (two_1 _ _ _)
  have happ : cApp (cVar 2) (c1 (opAttrX TX "one") (cMakeX xTwoRoots 5 13 0 ["other", "one"] [] [(cVar 1), (cVar 0)])) [some x, some y, some (.ref S.length), none] S1 = .ok .non (S ++ [.lst (List.replicate 23 x)]) := by
    unfold cApp
    rw [ev_var rfl, Res.bind_ok]
    simp only [e1]
    rw [hlast, Res.bind_ok]
    simp only [e1]
    rw [if_pos (by rw [sizeLine_eq]; simp), ← hS1, hset]
    rfl
  refine ev_seqN (ev_expr happ) ?_
  have e2 : (S ++ [Cell.lst (List.replicate 23 x)])[S.length]? = some (.lst (List.replicate 23 x)) := by rw [List.getElem?_append_right (Nat.le_refl _), Nat.sub_self]; rfl
  generalize S ++ [Cell.lst (List.replicate 23 x)] = S2 at e2 ⊢
  have ht : ∀ S2 : Store, c2 (opEq eqT true) (cN biRepr [(cVar 3)]) (cN biRepr [(cVar 0)]) [some x, some y, some (.ref S.length), some x] S2 = .ok (.bl false) S2 := fun S2 => by
    refine ev_c2 (ev_cN (ev_cons (ev_var rfl) ev_nil) (hr _)) (ev_cN (ev_cons (ev_var rfl) ev_nil) (hr _)) ?_
    show (if scal (V.str p.shown) (V.str p.shown) = true then Res.ok (Val.bl (true != decide (V.str p.shown = V.str p.shown))) S2 else .no) = _
    rw [if_pos (show scal (V.str p.shown) (V.str p.shown) = true from rfl), decide_eq_true rfl]
    rfl
  have hlc := ev_lc (own := [3]) (pt := .nm 3) (me := cC (.int 1)) (it_ref (ma := cVar 2) (ρ := [some x, some y, some (.ref S.length), none]) (ev_var rfl) e2) (skip_loop (mt := c2 (opEq eqT true) (cN biRepr [(cVar 3)]) (cN biRepr [(cVar 0)])) (ρ := [some x, some y, some (.ref S.length), none]) (x := x) e2 (ht S2) (List.replicate 23 x) fun z hz => List.eq_of_mem_replicate hz)
  exact ev_seqR (ev_ret (ev_c2 hlc (ev_cN ev_nil (ev_lst (sz _ (by decide)))) rfl))
theorem Dk.app {S : Store} {d k c : Nat} (h : Dk S d k c) (x : Cell) : Dk (S ++ [x]) d k c := by
  obtain ⟨ne, t, n, is, h1, h2, h3⟩ := h
  have hd : d < S.length := (List.getElem?_eq_some_iff.mp h1).1
  have hk : k < S.length := (List.getElem?_eq_some_iff.mp h2).1
  exact ⟨ne, t, n, is, by rw [List.getElem?_append_left hd]; exact h1, by rw [List.getElem?_append_left hk]; exact h2, h3⟩
end K92
set_option Elab.async false
set_option linter.all false
set_option maxRecDepth 100000
set_option maxHeartbeats 4000000
/-! N4: k92: kinds. -/
namespace K92
open PySem L2 Pi Ev
section
variable {ρ : Pi.Loc} {S S1 : Store} {x y : Val} {C D : Nat} {xs : List Val} {ma : Cm}
theorem bl_veq {q : Nat → Bool} (a : Bool) : ∀ n : Nat, veq q n (.bl a) (.bl a) = some true
  | 0 => by cases a <;> rfl
  | n + 1 => by
    show veq q n (.bl a) (.bl a) = _
    exact bl_veq a n
theorem bls_veq {q : Nat → Bool} {n : Nat} : ∀ bs : List Bool, veqs (veq q n) (bs.map Val.bl) (bs.map Val.bl) = some true
  | [] => rfl
  | b :: r => by
    show (match veq q n (.bl b) (.bl b), veqs (veq q n) (r.map Val.bl) (r.map Val.bl) with
      | some a, some b => some (a && b)
      | _, _ => none) = _
    rw [bl_veq, bls_veq r]
    rfl
theorem eq_bls {neg : Bool} (bs : List Bool) : opEq eqT neg (.lst (bs.map .bl)) (.lst (bs.map .bl)) S = .ok (.bl (neg != true)) S := by
  show (if (bs.map Val.bl).length = (bs.map Val.bl).length then (match veqs (veq eqT DEEP) (bs.map Val.bl) (bs.map Val.bl) with
    | some b => Res.ok (Val.bl (neg != b)) S
    | none => .no) else .ok (.bl neg) S) = _
  rw [if_pos rfl, bls_veq]
theorem eq_bl {a b : Bool} (h : a = b) : opEq eqT true (.bl a) (.bl b) S = .ok (.bl false) S := by
  subst h
  show (if scal (V.bl a) (V.bl a) = true then Res.ok (Val.bl (true != decide (V.bl a = V.bl a))) S else .no) = _
  rw [if_pos (show scal (V.bl a) (V.bl a) = true from rfl), decide_eq_true rfl]
  rfl
theorem isi_x (h1 : C < 16) (h2 : D < 16) (hm : ma ρ S = .ok (.exn C xs) S1) : cIsi kit92 (.exc D) ma ρ S = .ok (.bl (kin C D)) S1 := by
  refine ev_cN (ev_cons hm ev_nil) ?_
  show (match (if C < 16 ∧ D < 16 then some (kin C D) else none) with
    | some b => Res.ok (Val.bl b) S1
    | none => .no) = _
  rw [if_pos ⟨h1, h2⟩]
theorem isi_ve (h1 : C < 16) (hm : ma ρ S = .ok (.exn C xs) S1) : cIsi kit92 (.bt "ValueError") ma ρ S = .ok (.bl (decide (C < 12) || C == 15)) S1 := by
  refine ev_cN (ev_cons hm ev_nil) ?_
  show (match (if C < 16 then (if ("ValueError" : String) = "ValueError" then some (decide (C < 12) || C == 15) else if ("ValueError" : String) = "ZeroDivisionError" then some (C == 12) else if ("ValueError" : String) = "KeyError" then some (C == 13 || C == 14) else none) else none) with
    | some b => Res.ok (Val.bl b) S1
    | none => .no) = _
  rw [if_pos h1, if_pos rfl]
theorem isi_ze (h1 : C < 16) (hm : ma ρ S = .ok (.exn C xs) S1) : cIsi kit92 (.bt "ZeroDivisionError") ma ρ S = .ok (.bl (C == 12)) S1 := by
  refine ev_cN (ev_cons hm ev_nil) ?_
  show (match (if C < 16 then (if ("ZeroDivisionError" : String) = "ValueError" then some (decide (C < 12) || C == 15) else if ("ZeroDivisionError" : String) = "ZeroDivisionError" then some (C == 12) else if ("ZeroDivisionError" : String) = "KeyError" then some (C == 13 || C == 14) else none) else none) with
    | some b => Res.ok (Val.bl b) S1
    | none => .no) = _
  rw [if_pos h1, if_neg (by decide), if_pos rfl]
theorem isi_ke (h1 : C < 16) (hm : ma ρ S = .ok (.exn C xs) S1) : cIsi kit92 (.bt "KeyError") ma ρ S = .ok (.bl (C == 13 || C == 14)) S1 := by
  refine ev_cN (ev_cons hm ev_nil) ?_
  show (match (if C < 16 then (if ("KeyError" : String) = "ValueError" then some (decide (C < 12) || C == 15) else if ("KeyError" : String) = "ZeroDivisionError" then some (C == 12) else if ("KeyError" : String) = "KeyError" then some (C == 13 || C == 14) else none) else none) with
    | some b => Res.ok (Val.bl b) S1
    | none => .no) = _
  rw [if_pos h1, if_neg (by decide), if_neg (by decide), if_pos rfl]
end
def kinL (C : Nat) : List Bool := [kin C 0, kin C 1, kin C 2, kin C 3, kin C 4, kin C 5, kin C 6, kin C 7, kin C 8, kin C 9, kin C 10, kin C 11, kin C 12, kin C 13, kin C 14]
theorem L_kin {C : Nat} {xs : List Val} {S : Store} (h : C < 16) : F_law_kin.m [.exn C xs] S = .ok (.lst ((kinL C).map .bl)) S := by
  have i : ∀ {ρ : Pi.Loc} (D : Nat), D < 16 → ρ[0]? = some (some (.exn C xs)) → cIsi kit92 (.exc D) (cVar 0) ρ S = .ok (.bl (kin C D)) S := fun D hD hρ => isi_x h hD (ev_var hρ)
  have l4 : ∀ a b c d : Val, [a, b, c, d].length ≤ sizeLine := fun _ _ _ _ => sz _ (Nat.le_of_ble_eq_true rfl)
  refine ev_body (ev_seqN (ev_asg (ev_cN (ev_cons (i 0 (by decide) rfl) (ev_cons (i 1 (by decide) rfl) (ev_cons (i 2 (by decide) rfl) (ev_cons (i 3 (by decide) rfl) ev_nil)))) (ev_lst (l4 _ _ _ _))) rfl) ?_)
  refine ev_seqN (ev_asg (ev_c2 (ev_var rfl) (ev_cN (ev_cons (i 4 (by decide) rfl) (ev_cons (i 5 (by decide) rfl) (ev_cons (i 6 (by decide) rfl) (ev_cons (i 7 (by decide) rfl) ev_nil)))) (ev_lst (l4 _ _ _ _))) (vo_cat (Nat.le_of_ble_eq_true rfl))) rfl) ?_
  refine ev_seqN (ev_asg (ev_c2 (ev_var rfl) (ev_cN (ev_cons (i 8 (by decide) rfl) (ev_cons (i 9 (by decide) rfl) (ev_cons (i 10 (by decide) rfl) (ev_cons (i 11 (by decide) rfl) ev_nil)))) (ev_lst (l4 _ _ _ _))) (vo_cat (Nat.le_of_ble_eq_true rfl))) rfl) ?_
  exact ev_seqR (ev_ret (ev_c2 (ev_var rfl) (ev_cN (ev_cons (i 12 (by decide) rfl) (ev_cons (i 13 (by decide) rfl) (ev_cons (i 14 (by decide) rfl) ev_nil))) (ev_lst sl3)) (vo_cat (Nat.le_of_ble_eq_true rfl))))
theorem kin_facts : ∀ k : Fin 15, kinL k = ((List.range 15).map fun j => decide ((0 + (j : Nat) : Int) = ((k : Nat) : Int))) ∧ kin k 15 = decide (((k : Nat) : Int) < 12) ∧ (decide ((k : Nat) < 12) || (k : Nat) == 15) = decide (((k : Nat) : Int) < 12) ∧
    ((k : Nat) == 12) = decide (((k : Nat) : Int) = 12) ∧ ((k : Nat) == 13 || (k : Nat) == 14) = decide ((12 : Int) < ((k : Nat) : Int)) := by decide +kernel
theorem eqs_loop {ρ : Pi.Loc} {k : Int} {all : List Val} {S : Store} (h3 : ρ[3]? = some (some (.int k))) (hρ : ρ.length = 6) : ∀ (is : List Int) (acc : List Bool), acc.length + is.length ≤ 100 →
    lcLoop (chk all none) (.nm 5) (cC (.bl true)) (c2 (opEq eqT false) (cVar 5) (cVar 3)) ρ (is.map .int) (acc.map .bl) S = .ok ((acc ++ is.map fun i => decide (i = k)).map .bl) S
  | [], acc, h => by
    rw [List.map_nil, List.map_nil, List.append_nil]
    exact lc_nil trivial
  | i :: is, acc, h => by
    rw [List.length_cons] at h
    have ih := eqs_loop (all := all) (S := S) h3 hρ is (acc ++ [decide (i = k)]) (by rw [List.length_append, List.length_singleton]; omega)
    have hx : (ρ.set 5 (some (Val.int i)))[5]? = some (some (.int i)) := List.getElem?_set_self (by omega)
    have hy : (ρ.set 5 (some (Val.int i)))[3]? = some (some (.int k)) := by rw [List.getElem?_set_ne (by decide)]; exact h3
    have he : c2 (opEq eqT false) (cVar 5) (cVar 3) (ρ.set 5 (some (Val.int i))) S = .ok (.bl (decide (i = k))) S := by
      refine ev_c2 (ev_var hx) (ev_var hy) ?_
      rw [vo_eqI]
      simp
    refine lc_cons (ρ1 := ρ.set 5 (some (.int i))) (y := .bl (decide (i = k))) (S1 := S) (S2 := S) trivial rfl ev_cC he (by rw [List.length_map, sizeLine_eq]; omega) ?_
    have e1 : (acc ++ [decide (i = k)]).map Val.bl = acc.map Val.bl ++ [.bl (decide (i = k))] := by simp
    rw [e1, List.append_assoc] at ih
    exact ih
noncomputable def famBody : Sm := (sSeq (sIf (c2 (opEq eqT true) (cCall F_law_kin 13 1 [] [(cVar 4)] []) (cLc false (itRange [(cC (.int 15))]) [5] (.nm 5) (cC (.bl true)) (c2 (opEq eqT false) (cVar 5) (cVar 3)))) (sSeq (sRet (cC (.bl false))) sPass) sPass) (sSeq (sIf (cOr (c2 (opEq eqT true) (cIsi kit92 (.exc 15) (cVar 4)) (c2 opLt (cVar 3) (cC (.int 12)))) (c2 (opEq eqT true) (cIsi kit92 (.bt "ValueError") (cVar 4)) (c2 opLt (cVar 3) (cC (.int 12))))) (sSeq (sRet (cC (.bl false))) sPass) sPass) (sSeq (sIf (cOr (c2 (opEq eqT true) (cIsi kit92 (.bt "ZeroDivisionError") (cVar 4)) (c2 (opEq eqT false) (cVar 3) (cC (.int 12)))) (c2 (opEq eqT true) (cIsi kit92 (.bt "KeyError") (cVar 4)) (c2 opGt (cVar 3) (cC (.int 12))))) (sSeq (sRet (cC (.bl false))) sPass) sPass) sPass)))
theorem fam_step {a b l z : Option Val} {k : Nat} {xs : List Val} {S : Store} (hk : k < 15) : famBody [a, b, l, some (.int (k : Nat)), some (.exn k xs), z] S = .ok (.nx [a, b, l, some (.int (k : Nat)), some (.exn k xs), z]) S := by
  obtain ⟨k1, k2, k3, k4, k5⟩ := kin_facts ⟨k, hk⟩
  simp only at k1 k2 k3 k4 k5
  have h16 : k < 16 := by omega
  have hm : ∀ S, cVar 4 [a, b, l, some (.int (k : Nat)), some (.exn k xs), z] S = .ok (.exn k xs) S := fun S => ev_var rfl
  have hkin : cCall F_law_kin 13 1 [] [(cVar 4)] [] [a, b, l, some (.int (k : Nat)), some (.exn k xs), z] S = .ok (.lst ((kinL k).map .bl)) S := ev_call1 (hm S) rfl rfl (L_kin h16)
  have hl := eqs_loop (ρ := [a, b, l, some (.int (k : Nat)), some (.exn k xs), none]) (k := (k : Nat)) (all := rangeD 0 15) (S := S) rfl rfl ((List.range 15).map fun j => (0 + (j : Nat) : Int)) [] (by simp)
  have hr : cLc false (itRange [(cC (.int 15))]) [5] (.nm 5) (cC (.bl true)) (c2 (opEq eqT false) (cVar 5) (cVar 3)) [a, b, l, some (.int (k : Nat)), some (.exn k xs), z] S = .ok (.lst ((kinL k).map .bl)) S := by
    have := ev_lc (own := [5]) (ρ := [a, b, l, some (.int (k : Nat)), some (.exn k xs), z]) (it_range1 (m := cC (.int 15)) (j := 15) (S := S) ev_cC (small_ok (by decide) (by decide))) hl
    rw [this, k1, List.nil_append, List.map_map]
    rfl
  refine ev_seqN (ev_ifF (ev_c2 hkin hr (eq_bls (kinL k))) ev_pass) ?_
  have hlt : ∀ S, c2 opLt (cVar 3) (cC (.int 12)) [a, b, l, some (.int (k : Nat)), some (.exn k xs), z] S = .ok (.bl (decide (((k : Nat) : Int) < 12))) S := fun S => ev_c2 (ev_var rfl) ev_cC vo_lt
  refine ev_seqN (ev_ifF (ev_orF (ev_c2 (isi_x h16 (by decide) (hm S)) (hlt S) (eq_bl k2)) (ev_c2 (isi_ve h16 (hm S)) (hlt S) (eq_bl k3))) ev_pass) ?_
  refine ev_seqN (ev_ifF (ev_orF (ev_c2 (isi_ze h16 (hm S)) (ev_c2 (ev_var rfl) ev_cC vo_eqI) (eq_bl (k4.trans (by simp)))) (ev_c2 (isi_ke h16 (hm S)) (ev_c2 (ev_var rfl) ev_cC vo_gt) (eq_bl k5))) ev_pass) ?_
  exact ev_pass
theorem fam_loop {a b l : Option Val} {S : Store} {ck : Store → Prop} (hck : ck S) : ∀ (ps : List (Nat × List Val)) (z3 z4 : Option Val), (∀ p ∈ ps, p.1 < 15) → ∃ z3' z4', loopF ck (gPat (.tp [(.nm 3), (.nm 4)])) famBody (ps.map fun p => .tup [.int (p.1 : Nat), .exn p.1 p.2]) [a, b, l, z3, z4, none] S = .ok (.nx [a, b, l, z3', z4', none]) S
  | [], z3, z4, _ => ⟨z3, z4, for_nil hck⟩
  | p :: ps, z3, z4, h => by
    obtain ⟨w3, w4, e⟩ := fam_loop (a := a) (b := b) (l := l) hck ps (some (.int (p.1 : Nat))) (some (.exn p.1 p.2)) fun q hq => h q (List.mem_cons_of_mem _ hq)
    exact ⟨w3, w4, for_cons hck rfl (fam_step (h p List.mem_cons_self)) e⟩
theorem it_enum {ρ : Pi.Loc} {S S1 : Store} {m : Cm} {xs : List Val} (h : m ρ S = .ok (.lst xs) S1) : itEnum m ρ S = .ok (enumD xs, none) S1 := by
  unfold itEnum
  rw [h]
  rfl
theorem L_families {S : Store} {x y : Val} : F_law_families_right.m [x, y] S = .ok (.bl true) S := by
  have pl : ∀ (k : XcS) (C : Nat) (z : Val) (S : Store), k.own = false → makeX k C 13 1 [] [z] [] S = .ok (.exn C []) S := fun k C z S h => by
    unfold makeX
    rw [if_neg (by rw [h]; decide), if_pos ⟨Nat.le_of_ble_eq_true rfl, rfl⟩]
  have one : ∀ {k : XcS} {C : Nat} {f : Str} {ρ : Pi.Loc}, F1 k C f → ρ[0]? = some (some x) → cMakeX k C 13 1 [] [cVar 0] [] ρ S = .ok (.exn C [x]) S := fun F h => ev_xmk (ev_cons (ev_var h) ev_nil) ev_nil (F.p x S)
  have nul : ∀ {k : XcS} {C : Nat} {ρ : Pi.Loc}, k.own = false → ρ[1]? = some (some y) → cMakeX k C 13 1 [] [cVar 1] [] ρ S = .ok (.exn C []) S := fun F h => ev_xmk (ev_cons (ev_var h) ev_nil) ev_nil (pl _ _ y S F)
  have l7 : ∀ a b c d e f g : Val, [a, b, c, d, e, f, g].length ≤ sizeLine := fun _ _ _ _ _ _ _ => sz _ (Nat.le_of_ble_eq_true rfl)
  have l8 : ∀ a b c d e f g h : Val, [a, b, c, d, e, f, g, h].length ≤ sizeLine := fun _ _ _ _ _ _ _ _ => sz _ (Nat.le_of_ble_eq_true rfl)
  refine ev_body (ev_seqN (ev_asg (ev_cN (ev_cons (one f_NoText rfl) (ev_cons (nul rfl rfl) (ev_cons (nul rfl rfl) (ev_cons (nul rfl rfl) (ev_cons (nul rfl rfl) (ev_cons (ev_xmk (ev_cons (ev_var rfl) (ev_cons (ev_var rfl) ev_nil)) ev_nil (two_p _ _ _)) (ev_cons (one f_NotPlain rfl) ev_nil))))))) (ev_lst (l7 _ _ _ _ _ _ _))) rfl) ?_)
  refine ev_seqN (ev_asg (ev_c2 (ev_var rfl) (ev_cN (ev_cons (one f_NeverDone rfl) (ev_cons (one f_NoDeed rfl) (ev_cons (one f_NoFit rfl) (ev_cons (one f_Taken rfl) (ev_cons (one f_Undone rfl) (ev_cons (nul rfl rfl) (ev_cons (one f_NoWay rfl) (ev_cons (one f_Missing rfl) ev_nil)))))))) (ev_lst (l8 _ _ _ _ _ _ _ _))) (vo_cat (Nat.le_of_ble_eq_true rfl))) rfl) ?_
  obtain ⟨z3, z4, hl⟩ := fam_loop (a := some x) (b := some y) (l := some (.lst [.exn 0 [x], .exn 1 [], .exn 2 [], .exn 3 [], .exn 4 [], .exn 5 [x, y], .exn 6 [x], .exn 7 [x], .exn 8 [x], .exn 9 [x], .exn 10 [x], .exn 11 [x], .exn 12 [], .exn 13 [x], .exn 14 [x]])) (S := S) (ck := chk (enumD [.exn 0 [x], .exn 1 [], .exn 2 [], .exn 3 [], .exn 4 [], .exn 5 [x, y], .exn 6 [x], .exn 7 [x], .exn 8 [x], .exn 9 [x], .exn 10 [x], .exn 11 [x], .exn 12 [], .exn 13 [x], .exn 14 [x]]) none) trivial
    [(0, [x]), (1, []), (2, []), (3, []), (4, []), (5, [x, y]), (6, [x]), (7, [x]), (8, [x]), (9, [x]), (10, [x]), (11, [x]), (12, []), (13, [x]), (14, [x])] none none (by
      intro p hp
      simp only [List.mem_cons, List.not_mem_nil, or_false] at hp
      rcases hp with rfl | rfl | rfl | rfl | rfl | rfl | rfl | rfl | rfl | rfl | rfl | rfl | rfl | rfl | rfl <;> exact Nat.le_of_ble_eq_true rfl)
  refine ev_seqN (ev_for (it_enum (ev_var rfl)) hl) ?_
  have hp : ∀ {ρ : Pi.Loc}, ρ[1]? = some (some y) → cMakeX xPointError 15 13 1 [] [cVar 1] [] ρ S = .ok (.exn 15 []) S := fun h => nul rfl h
  have hm : c2 opMulR (cN mkLst [(cC (.bl false))]) (cC (.int 15)) [some x, some y, some (.lst [.exn 0 [x], .exn 1 [], .exn 2 [], .exn 3 [], .exn 4 [], .exn 5 [x, y], .exn 6 [x], .exn 7 [x], .exn 8 [x], .exn 9 [x], .exn 10 [x], .exn 11 [x], .exn 12 [], .exn 13 [x], .exn 14 [x]]), z3, z4, none] S = .ok (.lst ((kinL 15).map .bl)) S := by
    refine ev_c2 (ev_cN (ev_cons ev_cC ev_nil) (ev_lst (sz _ (Nat.le_of_ble_eq_true rfl)))) ev_cC ?_
    show (if -(2 ^ 63) ≤ (15 : Int) ∧ (15 : Int) < 2 ^ 63 ∧ [Val.bl false].length * (15 : Int).toNat ≤ sizeLine then Res.ok (Val.lst (List.replicate (15 : Int).toNat [Val.bl false]).flatten) S else .no) = _
    rw [if_pos ⟨by decide, by decide, sz _ (Nat.le_of_ble_eq_true rfl)⟩]
    rfl
  refine ev_seqR (ev_ret (ev_andT (isi_ve (by decide) (hp rfl)) (ev_c2 (ev_call1 (hp rfl) rfl rfl (L_kin (by decide))) hm ?_)))
  exact eq_bls (kinL 15)
end K92
set_option Elab.async false
set_option linter.all false
set_option maxRecDepth 100000
set_option maxHeartbeats 4000000
/-! N5: k92: the law is kept. -/
namespace K92
open PySem L2 Pi Ev
noncomputable def lawBody : Sm := (sSeq (sIf (cNot (cCall F_law_fields_right 15 2 [] [(cCall F_law_stuff 15 1 [] [(cVar 1)] []), (cCall F_law_stuff 15 1 [] [(cVar 1)] [])] [])) (sSeq (sRet (cC (.bl false))) sPass) sPass) (sSeq (sIf (cNot (cCall F_law_families_right 15 2 [] [(cCall F_law_stuff 15 1 [] [(cVar 1)] []), (c2 opIx (cN mkLst [(cC (.str "x")), (cC (.str "")), (cC (.str "no such row")), (cC (.str "a b"))]) (cCall F_law_draw 15 2 [] [(cVar 1), (cC (.int 4))] []))] [])) (sSeq (sRet (cC (.bl false))) sPass) sPass) sPass))
theorem law_turn {a z : Option Val} {d k c : Nat} {S : Store} (h : Dk S d k c) (hc : c ≤ 10000) : ∃ S', lawBody [a, some (.ref d), z] S = .ok (.nx [a, some (.ref d), z]) S' ∧ Dk S' d k (c + 37) := by
  obtain ⟨v1, S1, e1, h1, D1⟩ := L_stuff h (by omega)
  obtain ⟨v2, S2, e2, h2, D2⟩ := L_stuff D1 (by omega)
  obtain ⟨cl, e3⟩ := L_fields (S := S2) (y := v2) h1
  have D3 := D2.app cl
  obtain ⟨v4, S4, e4, h4, D4⟩ := L_stuff D3 (by omega)
  obtain ⟨r, S5, e5, p5, p5', D5⟩ := L_draw (most := 4) D4 (by omega) (by decide) (by decide)
  obtain ⟨y, hy, iy⟩ := at_lst (l := [.str "x", .str "", .str "no such row", .str "a b"]) p5 (show r < 4 from p5')
  refine ⟨S5, ?_, by rw [show c + 37 = c + 12 + 12 + 12 + 1 by omega]; exact D5⟩
  refine ev_seqN (ev_ifF (ev_notF (ev_call2 (ev_call1 (ev_var rfl) rfl rfl e1) (ev_call1 (ev_var rfl) rfl rfl e2) rfl rfl e3)) ev_pass) ?_
  exact ev_seqN (ev_ifF (ev_notF (ev_call2 (ev_call1 (ev_var rfl) rfl rfl e4) (ev_c2 (ev_cN (ev_cons ev_cC (ev_cons ev_cC (ev_cons ev_cC (ev_cons ev_cC ev_nil)))) (ev_lst (sz _ (Nat.le_of_ble_eq_true rfl)))) (ev_call2 (ev_var rfl) ev_cC rfl rfl e5) (iy S5)) rfl rfl L_families)) ev_pass) ev_pass
theorem law_loop {a : Option Val} {d k : Nat} {all : List Val} : ∀ (l : List Val) (z : Option Val) (c : Nat) (S : Store), Dk S d k c → c + 37 * l.length ≤ 10000 → ∃ z' S', loopF (chk all none) (gPat (.nm 2)) lawBody l [a, some (.ref d), z] S = .ok (.nx [a, some (.ref d), z']) S'
  | [], z, c, S, _, _ => ⟨z, S, for_nil trivial⟩
  | x :: l, z, c, S, h, hc => by
    rw [List.length_cons] at hc
    obtain ⟨S1, e1, D1⟩ := law_turn (a := a) (z := some x) h (by omega)
    obtain ⟨z', S2, e2⟩ := law_loop (a := a) (all := all) l (some x) (c + 37) S1 D1 (by omega)
    exact ⟨z', S2, for_cons trivial rfl e1 e2⟩
theorem law_runs {S : Store} {is : List Int} (hl : is.length ≤ 63) : ∃ S', bodyF N_law.length b_law [.frl (is.map .int)] S = .ok (.bl true) S' := by
  obtain ⟨d, k, S1, e1, D1⟩ := L_deck (S := S) hl
  obtain ⟨z, S2, e2⟩ := law_loop (a := some (.frl (is.map .int))) (all := rangeD 0 12) (rangeD 0 12) none 0 S1 D1 (by simp [rangeD])
  exact ⟨S2, ev_body (ev_seqN (ev_asg (ev_call1 (ev_var rfl) rfl rfl e1) rfl) (ev_seqN (ev_for (it_range1 (j := 12) ev_cC (small_ok (by decide) (by decide))) e2) (ev_seqR (ev_ret ev_cC))))⟩
end K92
set_option Elab.async false
set_option linter.all false
set_option maxRecDepth 100000
set_option maxHeartbeats 0
namespace K92
open PySem L2 Pi Ev
def d_law_deck : He.DefD := ⟨("_law_deck", none), "_law_deck", "_law_deck", defArgs s_law_deck, defBody s_law_deck, defScope s_law_deck, [], []⟩
def d_law_draw : He.DefD := ⟨("_law_draw", none), "_law_draw", "_law_draw", defArgs s_law_draw, defBody s_law_draw, defScope s_law_draw, [], []⟩
def d_law_stuff : He.DefD := ⟨("_law_stuff", none), "_law_stuff", "_law_stuff", defArgs s_law_stuff, defBody s_law_stuff, defScope s_law_stuff, [], []⟩
def d_law_fields_right : He.DefD := ⟨("_law_fields_right", none), "_law_fields_right", "_law_fields_right", defArgs s_law_fields_right, defBody s_law_fields_right, defScope s_law_fields_right, [], []⟩
def d_law_kin : He.DefD := ⟨("_law_kin", none), "_law_kin", "_law_kin", defArgs s_law_kin, defBody s_law_kin, defScope s_law_kin, [], []⟩
def d_law_families_right : He.DefD := ⟨("_law_families_right", none), "_law_families_right", "_law_families_right", defArgs s_law_families_right, defBody s_law_families_right, defScope s_law_families_right, [], []⟩
def d_law : He.DefD := ⟨("law", none), "law", "law", defArgs s_law, defBody s_law, defScope s_law, [], []⟩
abbrev si_NoText : Stmt := inClass (top 2) 0
def di_NoText : He.DefD := ⟨("NoText", some "__init__"), "__init__", "NoText.__init__", defArgs si_NoText, defBody si_NoText, defScope si_NoText, [], []⟩
abbrev si_TwoRoots : Stmt := inClass (top 7) 0
def di_TwoRoots : He.DefD := ⟨("TwoRoots", some "__init__"), "__init__", "TwoRoots.__init__", defArgs si_TwoRoots, defBody si_TwoRoots, defScope si_TwoRoots, [], []⟩
abbrev si_NotPlain : Stmt := inClass (top 8) 0
def di_NotPlain : He.DefD := ⟨("NotPlain", some "__init__"), "__init__", "NotPlain.__init__", defArgs si_NotPlain, defBody si_NotPlain, defScope si_NotPlain, [], []⟩
abbrev si_NeverDone : Stmt := inClass (top 9) 0
def di_NeverDone : He.DefD := ⟨("NeverDone", some "__init__"), "__init__", "NeverDone.__init__", defArgs si_NeverDone, defBody si_NeverDone, defScope si_NeverDone, [], []⟩
abbrev si_NoDeed : Stmt := inClass (top 10) 0
def di_NoDeed : He.DefD := ⟨("NoDeed", some "__init__"), "__init__", "NoDeed.__init__", defArgs si_NoDeed, defBody si_NoDeed, defScope si_NoDeed, [], []⟩
abbrev si_NoFit : Stmt := inClass (top 11) 0
def di_NoFit : He.DefD := ⟨("NoFit", some "__init__"), "__init__", "NoFit.__init__", defArgs si_NoFit, defBody si_NoFit, defScope si_NoFit, [], []⟩
abbrev si_Taken : Stmt := inClass (top 12) 0
def di_Taken : He.DefD := ⟨("Taken", some "__init__"), "__init__", "Taken.__init__", defArgs si_Taken, defBody si_Taken, defScope si_Taken, [], []⟩
abbrev si_Undone : Stmt := inClass (top 13) 0
def di_Undone : He.DefD := ⟨("Undone", some "__init__"), "__init__", "Undone.__init__", defArgs si_Undone, defBody si_Undone, defScope si_Undone, [], []⟩
abbrev si_NoWay : Stmt := inClass (top 15) 0
def di_NoWay : He.DefD := ⟨("NoWay", some "__init__"), "__init__", "NoWay.__init__", defArgs si_NoWay, defBody si_NoWay, defScope si_NoWay, [], []⟩
abbrev si_Missing : Stmt := inClass (top 16) 0
def di_Missing : He.DefD := ⟨("Missing", some "__init__"), "__init__", "Missing.__init__", defArgs si_Missing, defBody si_Missing, defScope si_Missing, [], []⟩
def fn : List He.DefD := [d_law_deck, d_law_draw, d_law_stuff, d_law_fields_right, d_law_kin, d_law_families_right, d_law, di_NoText, di_TwoRoots, di_NotPlain, di_NeverDone, di_NoDeed, di_NoFit, di_Taken, di_Undone, di_NoWay, di_Missing]
def fa_0 : List He.Fa := [.glo "_law_deck", .glo "_law_draw", .glo "_law_stuff", .glo "_law_fields_right", .glo "_law_kin", .glo "_law_families_right", .glo "law", .glo "NoText", .glo "NoExact", .glo "NoLine", .glo "NoRow", .glo "NoBack", .glo "TwoRoots", .glo "NotPlain", .glo "NeverDone", .glo "NoDeed", .glo "NoFit", .glo "Taken", .glo "Undone", .glo "NoBottom", .glo "NoWay", .glo "Missing", .glo "PointError", .free "len", .free "list"]
def fa_1 : List He.Fa := [.free "tuple", .free "any", .free "all", .free "sum", .free "abs", .free "max", .free "min", .free "int", .free "bool", .free "str", .free "isinstance", .free "range", .free "enumerate", .free "zip", .free "reversed", .free "sorted", .free "set", .free "dict", .free "repr", .free "ValueError", .free "ZeroDivisionError", .free "KeyError"]
def fa : List He.Fa := fa_0 ++ fa_1
def loose_0 : List Str := ["__name__", "PointError", "NoText", "NoExact", "NoLine", "NoRow", "NoBack", "TwoRoots", "NotPlain", "NeverDone", "NoDeed", "NoFit", "Taken", "Undone", "NoBottom", "NoWay", "Missing", "_law_deck", "_law_draw", "_law_stuff", "_law_fields_right", "_law_kin", "_law_families_right"]
def loose : List Str := loose_0
def ca (K : PySem.W.Frag) (C : Nat) : Addr := He.ga K (xNames.getD C "")
/-- an own __init__, its fields -/
def exI (K : PySem.W.Frag) (C : Nat) (fs : List Str) : Bool := decide (PySem.W.findIn K (.ref (ca K C)) "__init__" = some (some (.ref (He.ma K (ca K C) "__init__")))) &&
  (decide (PySem.W.typeIn K (.ref (He.ma K (ca K C) "__init__")) = some (.type "function")) && fs.all fun f => decide (PySem.W.findIn K (.ref (ca K C)) f = some none))
def clB (K : PySem.W.Frag) (c mc : Value) (id : String) : Bool := match PySem.W.findCls K c mc "__init__" with
  | some (.val v) => decide (v = .builtin id)
  | _ => false
theorem clB_ok {K : PySem.W.Frag} {c mc : Value} {id : String} (h : clB K c mc id = true) : PySem.W.findCls K c mc "__init__" = some (.val (.builtin id)) := by
  unfold clB at h
  split at h
  · rename_i v e
    rw [of_decide_eq_true h] at e
    exact e
  · cases h
def exB (K : PySem.W.Frag) : Bool := decide (PySem.W.specialIn K (.ref (ca K 15)) "__getattribute__" = some (some (.builtin "type.__getattribute__"))) && (PySem.W.readsIn K (ca K 15) (.type "type") && (clB K (.ref (ca K 15)) (.type "type") "ValueError.__init__" && clB K (.type "KeyError") (.type "type") "KeyError.__init__"))
def exK (K : PySem.W.Frag) : Bool := ((List.range 16).all fun C => (List.range 16).all fun D => decide (PySem.W.kitOne K (.ref (ca K C)) (.ref (ca K D)) = some (kin C D))) &&
  ((List.range 16).all fun C => decide (PySem.W.kitOne K (.ref (ca K C)) (.type "ValueError") = some (decide (C < 12) || C == 15)) && (decide (PySem.W.kitOne K (.ref (ca K C)) (.type "ZeroDivisionError") = some (C == 12)) && decide (PySem.W.kitOne K (.ref (ca K C)) (.type "KeyError") = some (C == 13 || C == 14))))
def exX (K : PySem.W.Frag) : Bool := (PiX.xclB K (ca K 0) PiX.valTl "ValueError.__new__" && (PiX.xclB K (ca K 1) PiX.valTl "ValueError.__new__" && (PiX.xclB K (ca K 2) PiX.valTl "ValueError.__new__" && (PiX.xclB K (ca K 3) PiX.valTl "ValueError.__new__" && (PiX.xclB K (ca K 4) PiX.valTl "ValueError.__new__" && (PiX.xclB K (ca K 5) PiX.valTl "ValueError.__new__" && (PiX.xclB K (ca K 6) PiX.valTl "ValueError.__new__" && (PiX.xclB K (ca K 7) PiX.valTl "ValueError.__new__" && (PiX.xclB K (ca K 8) PiX.valTl "ValueError.__new__" && (PiX.xclB K (ca K 9) PiX.valTl "ValueError.__new__" && (PiX.xclB K (ca K 10) PiX.valTl "ValueError.__new__" && (PiX.xclB K (ca K 11) PiX.valTl "ValueError.__new__" && (PiX.xclB K (ca K 12) PiX.zerTl "ZeroDivisionError.__new__" && (PiX.xclB K (ca K 13) PiX.keyTl "LookupError.__new__" && (PiX.xclB K (ca K 14) PiX.keyTl "LookupError.__new__" && PiX.xclB K (ca K 15) PiX.valTl "ValueError.__new__")))))))))))))))
def exN (K : PySem.W.Frag) : Bool := (exI K 0 ["row"] && (exI K 5 ["one", "other"] && (exI K 6 ["number"] && (exI K 7 ["number"] && (exI K 8 ["thing"] && (exI K 9 ["thing"] && (exI K 10 ["name"] && (exI K 11 ["number"] && (exI K 13 ["way"] && exI K 14 ["name"])))))))))
def exP (K : PySem.W.Frag) : Bool := (PySem.W.excIn K (ca K 1) PiX.valTl "ValueError.__new__" && (PySem.W.excIn K (ca K 2) PiX.valTl "ValueError.__new__" && (PySem.W.excIn K (ca K 3) PiX.valTl "ValueError.__new__" && (PySem.W.excIn K (ca K 4) PiX.valTl "ValueError.__new__" && (PySem.W.excIn K (ca K 12) PiX.zerTl "ZeroDivisionError.__new__" && PySem.W.excIn K (ca K 15) PiX.valTl "ValueError.__new__")))))
def ex (K : PySem.W.Frag) : Bool := exX K && (exN K && (exP K && (exB K && exK K)))
end K92
set_option Elab.async false
set_option linter.all false
set_option maxRecDepth 100000
set_option maxHeartbeats 4000000
/-! H92: k92: what the head saw, as the table. -/
namespace K92
open PySem L2 Pi Ev
def RC92 (K : PySem.W.Frag) : RC := ⟨K, fun C => ca K C, fun C => match xList[C]? with
  | some k => k.flds
  | none => [], fun _ => 0⟩
theorem mem_of_lookup {α : Type} {x : Str} {F : α} : ∀ {l : List (Str × α)}, l.lookup x = some F → (x, F) ∈ l
  | [], h => by cases h
  | (y, G) :: r, h => by
    rw [List.lookup_cons] at h
    cases q : x == y with
    | true =>
      rw [q] at h
      cases h
      rw [eq_of_beq q]
      exact List.mem_cons_self
    | false =>
      rw [q] at h
      exact List.mem_cons_of_mem _ (mem_of_lookup h)
theorem vals_back : ∀ {zs : List V} {ws : List Value}, Vals zs ws → Vals zs.reverse ws.reverse
  | _, _, .nil => .nil
  | _, _, .cons h r => by
    rw [List.reverse_cons, List.reverse_cons]
    exact (vals_back r).append (.cons h .nil)
section
variable {P : Program} {w : World} {K : PySem.W.Frag} {mg : Str → Option Value} {base h : Heap} {f : Addr} {fd : FuncData}
/-- keywords that name plain parameters -/
theorem kb_plain {x q : Str} {st : Stmt} {ps : List Str} {n : Nat} {ks : List Str} (F : FnP K x q st f fd) (g : {α : Type} → List α → List α → List α) (hrel : ∀ {vs zs : List V} {us ws : List Value}, Vals vs us → Vals zs ws → Vals (g vs zs) (g us ws))
    (h : ∀ (kV doc pm : Value) (an : Option Addr) (cdv ct : Value) (us ws : List Value), us.length = n → ws.length = ks.length → bindArgs (PySem.W.fnOf x q (defArgs st) (defBody st) (defScope st) .none kV doc pm an cdv ct) ⟨us, ks.zip ws⟩ = pure (ps.zip (g us ws))) : KBn K fd ps n ks g g := by
  obtain ⟨oc, od, dV, kV, doc, pm, an, cdv, ct, osl, rfl, lk, hcd, hD, hK⟩ := F.ex
  rcases hD with ⟨_, rfl⟩ | ⟨e, _⟩
  · exact ⟨fun s us ws X l1 l2 => BindsTo.of_looks fun M => PySem.W.Looks.of_pure (h _ _ _ _ _ _ us ws l1 l2), fun r1 r2 => hrel r1 r2⟩
  · exact absurd rfl e
theorem bi_free (X : K.In h) (G : h.Ns mainGlobals mg) (cD : He.SaysD fa fn K) : ∀ x ∈ biNames, mg x = none := by
  intro x hx
  unfold biNames at hx
  rcases List.mem_cons.mp hx with rfl | hx
  · exact He.free_ok X G (cD.fact 23 (f := .free "len") rfl)
  rcases List.mem_cons.mp hx with rfl | hx
  · exact He.free_ok X G (cD.fact 24 (f := .free "list") rfl)
  rcases List.mem_cons.mp hx with rfl | hx
  · exact He.free_ok X G (cD.fact 25 (f := .free "tuple") rfl)
  rcases List.mem_cons.mp hx with rfl | hx
  · exact He.free_ok X G (cD.fact 26 (f := .free "any") rfl)
  rcases List.mem_cons.mp hx with rfl | hx
  · exact He.free_ok X G (cD.fact 27 (f := .free "all") rfl)
  rcases List.mem_cons.mp hx with rfl | hx
  · exact He.free_ok X G (cD.fact 28 (f := .free "sum") rfl)
  rcases List.mem_cons.mp hx with rfl | hx
  · exact He.free_ok X G (cD.fact 29 (f := .free "abs") rfl)
  rcases List.mem_cons.mp hx with rfl | hx
  · exact He.free_ok X G (cD.fact 30 (f := .free "max") rfl)
  rcases List.mem_cons.mp hx with rfl | hx
  · exact He.free_ok X G (cD.fact 31 (f := .free "min") rfl)
  rcases List.mem_cons.mp hx with rfl | hx
  · exact He.free_ok X G (cD.fact 32 (f := .free "int") rfl)
  rcases List.mem_cons.mp hx with rfl | hx
  · exact He.free_ok X G (cD.fact 33 (f := .free "bool") rfl)
  rcases List.mem_cons.mp hx with rfl | hx
  · exact He.free_ok X G (cD.fact 34 (f := .free "str") rfl)
  rcases List.mem_cons.mp hx with rfl | hx
  · exact He.free_ok X G (cD.fact 35 (f := .free "isinstance") rfl)
  rcases List.mem_cons.mp hx with rfl | hx
  · exact He.free_ok X G (cD.fact 36 (f := .free "range") rfl)
  rcases List.mem_cons.mp hx with rfl | hx
  · exact He.free_ok X G (cD.fact 37 (f := .free "enumerate") rfl)
  rcases List.mem_cons.mp hx with rfl | hx
  · exact He.free_ok X G (cD.fact 38 (f := .free "zip") rfl)
  rcases List.mem_cons.mp hx with rfl | hx
  · exact He.free_ok X G (cD.fact 39 (f := .free "reversed") rfl)
  rcases List.mem_cons.mp hx with rfl | hx
  · exact He.free_ok X G (cD.fact 40 (f := .free "sorted") rfl)
  rcases List.mem_cons.mp hx with rfl | hx
  · exact He.free_ok X G (cD.fact 41 (f := .free "set") rfl)
  rcases List.mem_cons.mp hx with rfl | hx
  · exact He.free_ok X G (cD.fact 42 (f := .free "dict") rfl)
  rcases List.mem_cons.mp hx with rfl | hx
  · exact He.free_ok X G (cD.fact 43 (f := .free "repr") rfl)
  rcases List.mem_cons.mp hx with rfl | hx
  · exact He.free_ok X G (cD.fact 44 (f := .free "ValueError") rfl)
  rcases List.mem_cons.mp hx with rfl | hx
  · exact He.free_ok X G (cD.fact 45 (f := .free "ZeroDivisionError") rfl)
  rcases List.mem_cons.mp hx with rfl | hx
  · exact He.free_ok X G (cD.fact 46 (f := .free "KeyError") rfl)
  cases hx
theorem ex5 (hex : ex K = true) : exX K = true ∧ exN K = true ∧ exP K = true ∧ exB K = true ∧ exK K = true := by
  unfold ex at hex
  simpa only [Bool.and_eq_true] using hex
theorem exX_ok (hex : ex K = true) : PiX.xclB K (ca K 0) PiX.valTl "ValueError.__new__" = true ∧ PiX.xclB K (ca K 1) PiX.valTl "ValueError.__new__" = true ∧ PiX.xclB K (ca K 2) PiX.valTl "ValueError.__new__" = true ∧ PiX.xclB K (ca K 3) PiX.valTl "ValueError.__new__" = true ∧ PiX.xclB K (ca K 4) PiX.valTl "ValueError.__new__" = true ∧ PiX.xclB K (ca K 5) PiX.valTl "ValueError.__new__" = true ∧ PiX.xclB K (ca K 6) PiX.valTl "ValueError.__new__" = true ∧ PiX.xclB K (ca K 7) PiX.valTl "ValueError.__new__" = true ∧ PiX.xclB K (ca K 8) PiX.valTl "ValueError.__new__" = true ∧ PiX.xclB K (ca K 9) PiX.valTl "ValueError.__new__" = true ∧ PiX.xclB K (ca K 10) PiX.valTl "ValueError.__new__" = true ∧ PiX.xclB K (ca K 11) PiX.valTl "ValueError.__new__" = true ∧ PiX.xclB K (ca K 12) PiX.zerTl "ZeroDivisionError.__new__" = true ∧ PiX.xclB K (ca K 13) PiX.keyTl "LookupError.__new__" = true ∧ PiX.xclB K (ca K 14) PiX.keyTl "LookupError.__new__" = true ∧ PiX.xclB K (ca K 15) PiX.valTl "ValueError.__new__" = true := by
  have hh := (ex5 hex).1
  unfold exX at hh
  simpa only [Bool.and_eq_true] using hh
theorem exN_ok (hex : ex K = true) : exI K 0 ["row"] = true ∧ exI K 5 ["one", "other"] = true ∧ exI K 6 ["number"] = true ∧ exI K 7 ["number"] = true ∧ exI K 8 ["thing"] = true ∧ exI K 9 ["thing"] = true ∧ exI K 10 ["name"] = true ∧ exI K 11 ["number"] = true ∧ exI K 13 ["way"] = true ∧ exI K 14 ["name"] = true := by
  have hh := (ex5 hex).2.1
  unfold exN at hh
  simpa only [Bool.and_eq_true] using hh
theorem exP_ok (hex : ex K = true) : PySem.W.excIn K (ca K 1) PiX.valTl "ValueError.__new__" = true ∧ PySem.W.excIn K (ca K 2) PiX.valTl "ValueError.__new__" = true ∧ PySem.W.excIn K (ca K 3) PiX.valTl "ValueError.__new__" = true ∧ PySem.W.excIn K (ca K 4) PiX.valTl "ValueError.__new__" = true ∧ PySem.W.excIn K (ca K 12) PiX.zerTl "ZeroDivisionError.__new__" = true ∧ PySem.W.excIn K (ca K 15) PiX.valTl "ValueError.__new__" = true := by
  have hh := (ex5 hex).2.2.1
  unfold exP at hh
  simpa only [Bool.and_eq_true] using hh
theorem xc_NoText (hex : ex K = true) : PiX.XCls K (ca K 0) PiX.valTl "ValueError.__new__" := PiX.xclB_ok ((exX_ok hex).1)
theorem xc_NoExact (hex : ex K = true) : PiX.XCls K (ca K 1) PiX.valTl "ValueError.__new__" := PiX.xclB_ok ((exX_ok hex).2.1)
theorem xc_NoLine (hex : ex K = true) : PiX.XCls K (ca K 2) PiX.valTl "ValueError.__new__" := PiX.xclB_ok ((exX_ok hex).2.2.1)
theorem xc_NoRow (hex : ex K = true) : PiX.XCls K (ca K 3) PiX.valTl "ValueError.__new__" := PiX.xclB_ok ((exX_ok hex).2.2.2.1)
theorem xc_NoBack (hex : ex K = true) : PiX.XCls K (ca K 4) PiX.valTl "ValueError.__new__" := PiX.xclB_ok ((exX_ok hex).2.2.2.2.1)
theorem xc_TwoRoots (hex : ex K = true) : PiX.XCls K (ca K 5) PiX.valTl "ValueError.__new__" := PiX.xclB_ok ((exX_ok hex).2.2.2.2.2.1)
theorem xc_NotPlain (hex : ex K = true) : PiX.XCls K (ca K 6) PiX.valTl "ValueError.__new__" := PiX.xclB_ok ((exX_ok hex).2.2.2.2.2.2.1)
theorem xc_NeverDone (hex : ex K = true) : PiX.XCls K (ca K 7) PiX.valTl "ValueError.__new__" := PiX.xclB_ok ((exX_ok hex).2.2.2.2.2.2.2.1)
theorem xc_NoDeed (hex : ex K = true) : PiX.XCls K (ca K 8) PiX.valTl "ValueError.__new__" := PiX.xclB_ok ((exX_ok hex).2.2.2.2.2.2.2.2.1)
theorem xc_NoFit (hex : ex K = true) : PiX.XCls K (ca K 9) PiX.valTl "ValueError.__new__" := PiX.xclB_ok ((exX_ok hex).2.2.2.2.2.2.2.2.2.1)
theorem xc_Taken (hex : ex K = true) : PiX.XCls K (ca K 10) PiX.valTl "ValueError.__new__" := PiX.xclB_ok ((exX_ok hex).2.2.2.2.2.2.2.2.2.2.1)
theorem xc_Undone (hex : ex K = true) : PiX.XCls K (ca K 11) PiX.valTl "ValueError.__new__" := PiX.xclB_ok ((exX_ok hex).2.2.2.2.2.2.2.2.2.2.2.1)
theorem xc_NoBottom (hex : ex K = true) : PiX.XCls K (ca K 12) PiX.zerTl "ZeroDivisionError.__new__" := PiX.xclB_ok ((exX_ok hex).2.2.2.2.2.2.2.2.2.2.2.2.1)
theorem xc_NoWay (hex : ex K = true) : PiX.XCls K (ca K 13) PiX.keyTl "LookupError.__new__" := PiX.xclB_ok ((exX_ok hex).2.2.2.2.2.2.2.2.2.2.2.2.2.1)
theorem xc_Missing (hex : ex K = true) : PiX.XCls K (ca K 14) PiX.keyTl "LookupError.__new__" := PiX.xclB_ok ((exX_ok hex).2.2.2.2.2.2.2.2.2.2.2.2.2.2.1)
theorem xc_PointError (hex : ex K = true) : PiX.XCls K (ca K 15) PiX.valTl "ValueError.__new__" := PiX.xclB_ok ((exX_ok hex).2.2.2.2.2.2.2.2.2.2.2.2.2.2.2)
theorem xc_all (hex : ex K = true) : ∀ C : Nat, C < 16 → ∃ tl newId, PiX.XCls K (ca K C) tl newId
  | 0, _ => ⟨_, _, xc_NoText hex⟩
  | 1, _ => ⟨_, _, xc_NoExact hex⟩
  | 2, _ => ⟨_, _, xc_NoLine hex⟩
  | 3, _ => ⟨_, _, xc_NoRow hex⟩
  | 4, _ => ⟨_, _, xc_NoBack hex⟩
  | 5, _ => ⟨_, _, xc_TwoRoots hex⟩
  | 6, _ => ⟨_, _, xc_NotPlain hex⟩
  | 7, _ => ⟨_, _, xc_NeverDone hex⟩
  | 8, _ => ⟨_, _, xc_NoDeed hex⟩
  | 9, _ => ⟨_, _, xc_NoFit hex⟩
  | 10, _ => ⟨_, _, xc_Taken hex⟩
  | 11, _ => ⟨_, _, xc_Undone hex⟩
  | 12, _ => ⟨_, _, xc_NoBottom hex⟩
  | 13, _ => ⟨_, _, xc_NoWay hex⟩
  | 14, _ => ⟨_, _, xc_Missing hex⟩
  | 15, _ => ⟨_, _, xc_PointError hex⟩
  | _ + 16, h => absurd h (by omega)
theorem exI_ok {C : Nat} {fs : List Str} (hh : exI K C fs = true) : PySem.W.findIn K (.ref (ca K C)) "__init__" = some (some (.ref (He.ma K (ca K C) "__init__"))) ∧ PySem.W.typeIn K (.ref (He.ma K (ca K C) "__init__")) = some (.type "function") ∧ ∀ f ∈ fs, PySem.W.findIn K (.ref (ca K C)) f = some none := by
  unfold exI at hh
  simp only [Bool.and_eq_true, decide_eq_true_eq, List.all_eq_true] at hh
  exact hh
theorem wh_pe (X : K.In h) (G : h.Ns mainGlobals mg) (cD : He.SaysD fa fn K) (hex : ex K = true) : PiX.XWh K mg "PointError" "ValueError.__init__" := by
  have hh := (ex5 hex).2.2.2.1
  unfold exB at hh
  simp only [Bool.and_eq_true, decide_eq_true_eq] at hh
  obtain ⟨h1, h2, h3, h4⟩ := hh
  exact .own (ca K 15) (.type "type") (He.glo_ok X G (cD.fact 22 (f := .glo "PointError") rfl)) h1 h2 (clB_ok h3)
theorem wh_ke (X : K.In h) (G : h.Ns mainGlobals mg) (cD : He.SaysD fa fn K) (hex : ex K = true) : PiX.XWh K mg "KeyError" "KeyError.__init__" := by
  have hh := (ex5 hex).2.2.2.1
  unfold exB at hh
  simp only [Bool.and_eq_true, decide_eq_true_eq] at hh
  obtain ⟨h1, h2, h3, h4⟩ := hh
  exact .blt "KeyError" (bi_free X G cD _ (by simp [biNames])) rfl (by decide) rfl (by decide +kernel) (clB_ok h4)
theorem xs_NoText : FnScope ["self", "row"] ["self", "row"] (defScope si_NoText) := ⟨rfl, rfl, rfl, by decide +kernel, rfl, by decide +kernel, by decide +kernel⟩
theorem xh_NoText (X : K.In h) (G : h.Ns mainGlobals mg) (cD : He.SaysD fa fn K) (hex : ex K = true) : XcHolds P w K mg base (RC92 K) 0 xNoText where
  flds := rfl
  nodup := (by decide +kernel : (["row"] : List Str).Nodup)
  noat := (exI_ok ((exN_ok hex).1)).2.2
  cls := ⟨_, _, xc_NoText hex⟩
  mkx := fun _ => by
    obtain ⟨i1, i2, i3⟩ := exI_ok ((exN_ok hex).1)
    obtain ⟨fd, FF⟩ := cD.def_ 7 (d := di_NoText) rfl
    have F : FnP K "__init__" "NoText.__init__" si_NoText (He.ma K (ca K 0) "__init__") fd := FF
    refine ⟨_, fd, ["self", "row"], _, _, _, _, _, xc_NoText hex, PiX.xb_val, i1, i2, PiX.init_ok1 (B := "PointError") (self := "self") (f1 := "row") (q1 := "row") F xs_NoText rfl rfl rfl rfl rfl rfl rfl (wh_pe X G cD hex) (by decide +kernel) (xc_NoText hex) PiX.xb_val (i3 _ (by simp)), ?_⟩
    intro n ks src hm
    rcases List.mem_cons.mp hm with e | hm
    · cases e
      exact ⟨Nat.le_of_ble_eq_true rfl, rfl, rfl, _, _, kb_plain (ps := ["self", "row"]) (n := 2) (ks := []) F (fun us _ => us) (fun r1 _ => r1) (fun _ _ _ _ _ _ us ws h1 h2 => match us, ws, h1, h2 with | [_, _], [], _, _ => rfl), fun v vs zs h1 h2 => match vs, zs, h1, h2 with | [_], [], _, _ => rfl⟩
    rcases List.mem_cons.mp hm with e | hm
    · cases e
      exact ⟨Nat.le_of_ble_eq_true rfl, rfl, rfl, _, _, kb_plain (ps := ["self", "row"]) (n := 1) (ks := ["row"]) F (fun us zs => us ++ zs) (fun r1 r2 => r1.append r2) (fun _ _ _ _ _ _ us ws h1 h2 => match us, ws, h1, h2 with | [_], [_], _, _ => rfl), fun v vs zs h1 h2 => match vs, zs, h1, h2 with | [], [_], _, _ => rfl⟩
    cases hm
  pl := fun e => by cases e
theorem xh_NoExact (hex : ex K = true) : XcHolds P w K mg base (RC92 K) 1 xNoExact where
  flds := rfl
  nodup := List.nodup_nil
  noat := fun f hf => (List.not_mem_nil hf).elim
  cls := ⟨_, _, xc_NoExact hex⟩
  mkx := fun e => by cases e
  pl := fun _ => ⟨rfl, _, _, _, _, F.excBase_ValueError, (exP_ok hex).1⟩
theorem xh_NoLine (hex : ex K = true) : XcHolds P w K mg base (RC92 K) 2 xNoLine where
  flds := rfl
  nodup := List.nodup_nil
  noat := fun f hf => (List.not_mem_nil hf).elim
  cls := ⟨_, _, xc_NoLine hex⟩
  mkx := fun e => by cases e
  pl := fun _ => ⟨rfl, _, _, _, _, F.excBase_ValueError, (exP_ok hex).2.1⟩
theorem xh_NoRow (hex : ex K = true) : XcHolds P w K mg base (RC92 K) 3 xNoRow where
  flds := rfl
  nodup := List.nodup_nil
  noat := fun f hf => (List.not_mem_nil hf).elim
  cls := ⟨_, _, xc_NoRow hex⟩
  mkx := fun e => by cases e
  pl := fun _ => ⟨rfl, _, _, _, _, F.excBase_ValueError, (exP_ok hex).2.2.1⟩
theorem xh_NoBack (hex : ex K = true) : XcHolds P w K mg base (RC92 K) 4 xNoBack where
  flds := rfl
  nodup := List.nodup_nil
  noat := fun f hf => (List.not_mem_nil hf).elim
  cls := ⟨_, _, xc_NoBack hex⟩
  mkx := fun e => by cases e
  pl := fun _ => ⟨rfl, _, _, _, _, F.excBase_ValueError, (exP_ok hex).2.2.2.1⟩
theorem xs_TwoRoots : FnScope ["self", "one", "other"] ["self", "one", "other"] (defScope si_TwoRoots) := ⟨rfl, rfl, rfl, by decide +kernel, rfl, by decide +kernel, by decide +kernel⟩
theorem xh_TwoRoots (X : K.In h) (G : h.Ns mainGlobals mg) (cD : He.SaysD fa fn K) (hex : ex K = true) : XcHolds P w K mg base (RC92 K) 5 xTwoRoots where
  flds := rfl
  nodup := (by decide +kernel : (["one", "other"] : List Str).Nodup)
  noat := (exI_ok ((exN_ok hex).2.1)).2.2
  cls := ⟨_, _, xc_TwoRoots hex⟩
  mkx := fun _ => by
    obtain ⟨i1, i2, i3⟩ := exI_ok ((exN_ok hex).2.1)
    obtain ⟨fd, FF⟩ := cD.def_ 8 (d := di_TwoRoots) rfl
    have F : FnP K "__init__" "TwoRoots.__init__" si_TwoRoots (He.ma K (ca K 5) "__init__") fd := FF
    refine ⟨_, fd, ["self", "one", "other"], _, _, _, _, _, xc_TwoRoots hex, PiX.xb_val, i1, i2, PiX.init_ok2 (B := "PointError") (self := "self") (f1 := "one") (f2 := "other") (q1 := "one") (q2 := "other") F xs_TwoRoots rfl rfl rfl rfl rfl rfl rfl rfl rfl (wh_pe X G cD hex) (by decide +kernel) (xc_TwoRoots hex) PiX.xb_val (i3 _ (by simp)) (i3 _ (by simp)), ?_⟩
    intro n ks src hm
    rcases List.mem_cons.mp hm with e | hm
    · cases e
      exact ⟨Nat.le_of_ble_eq_true rfl, rfl, rfl, _, _, kb_plain (ps := ["self", "one", "other"]) (n := 3) (ks := []) F (fun us _ => us) (fun r1 _ => r1) (fun _ _ _ _ _ _ us ws h1 h2 => match us, ws, h1, h2 with | [_, _, _], [], _, _ => rfl), fun v vs zs h1 h2 => match vs, zs, h1, h2 with | [_, _], [], _, _ => rfl⟩
    rcases List.mem_cons.mp hm with e | hm
    · cases e
      exact ⟨Nat.le_of_ble_eq_true rfl, rfl, rfl, _, _, kb_plain (ps := ["self", "one", "other"]) (n := 1) (ks := ["one", "other"]) F (fun us zs => us ++ zs) (fun r1 r2 => r1.append r2) (fun _ _ _ _ _ _ us ws h1 h2 => match us, ws, h1, h2 with | [_], [_, _], _, _ => rfl), fun v vs zs h1 h2 => match vs, zs, h1, h2 with | [], [_, _], _, _ => rfl⟩
    rcases List.mem_cons.mp hm with e | hm
    · cases e
      exact ⟨Nat.le_of_ble_eq_true rfl, rfl, rfl, _, _, kb_plain (ps := ["self", "one", "other"]) (n := 1) (ks := ["other", "one"]) F (fun us zs => us ++ zs.reverse) (fun r1 r2 => r1.append (vals_back r2)) (fun _ _ _ _ _ _ us ws h1 h2 => match us, ws, h1, h2 with | [_], [_, _], _, _ => rfl), fun v vs zs h1 h2 => match vs, zs, h1, h2 with | [], [_, _], _, _ => rfl⟩
    cases hm
  pl := fun e => by cases e
theorem xs_NotPlain : FnScope ["self", "number"] ["self", "number"] (defScope si_NotPlain) := ⟨rfl, rfl, rfl, by decide +kernel, rfl, by decide +kernel, by decide +kernel⟩
theorem xh_NotPlain (X : K.In h) (G : h.Ns mainGlobals mg) (cD : He.SaysD fa fn K) (hex : ex K = true) : XcHolds P w K mg base (RC92 K) 6 xNotPlain where
  flds := rfl
  nodup := (by decide +kernel : (["number"] : List Str).Nodup)
  noat := (exI_ok ((exN_ok hex).2.2.1)).2.2
  cls := ⟨_, _, xc_NotPlain hex⟩
  mkx := fun _ => by
    obtain ⟨i1, i2, i3⟩ := exI_ok ((exN_ok hex).2.2.1)
    obtain ⟨fd, FF⟩ := cD.def_ 9 (d := di_NotPlain) rfl
    have F : FnP K "__init__" "NotPlain.__init__" si_NotPlain (He.ma K (ca K 6) "__init__") fd := FF
    refine ⟨_, fd, ["self", "number"], _, _, _, _, _, xc_NotPlain hex, PiX.xb_val, i1, i2, PiX.init_ok1 (B := "PointError") (self := "self") (f1 := "number") (q1 := "number") F xs_NotPlain rfl rfl rfl rfl rfl rfl rfl (wh_pe X G cD hex) (by decide +kernel) (xc_NotPlain hex) PiX.xb_val (i3 _ (by simp)), ?_⟩
    intro n ks src hm
    rcases List.mem_cons.mp hm with e | hm
    · cases e
      exact ⟨Nat.le_of_ble_eq_true rfl, rfl, rfl, _, _, kb_plain (ps := ["self", "number"]) (n := 2) (ks := []) F (fun us _ => us) (fun r1 _ => r1) (fun _ _ _ _ _ _ us ws h1 h2 => match us, ws, h1, h2 with | [_, _], [], _, _ => rfl), fun v vs zs h1 h2 => match vs, zs, h1, h2 with | [_], [], _, _ => rfl⟩
    rcases List.mem_cons.mp hm with e | hm
    · cases e
      exact ⟨Nat.le_of_ble_eq_true rfl, rfl, rfl, _, _, kb_plain (ps := ["self", "number"]) (n := 1) (ks := ["number"]) F (fun us zs => us ++ zs) (fun r1 r2 => r1.append r2) (fun _ _ _ _ _ _ us ws h1 h2 => match us, ws, h1, h2 with | [_], [_], _, _ => rfl), fun v vs zs h1 h2 => match vs, zs, h1, h2 with | [], [_], _, _ => rfl⟩
    cases hm
  pl := fun e => by cases e
theorem xs_NeverDone : FnScope ["self", "number"] ["self", "number"] (defScope si_NeverDone) := ⟨rfl, rfl, rfl, by decide +kernel, rfl, by decide +kernel, by decide +kernel⟩
theorem xh_NeverDone (X : K.In h) (G : h.Ns mainGlobals mg) (cD : He.SaysD fa fn K) (hex : ex K = true) : XcHolds P w K mg base (RC92 K) 7 xNeverDone where
  flds := rfl
  nodup := (by decide +kernel : (["number"] : List Str).Nodup)
  noat := (exI_ok ((exN_ok hex).2.2.2.1)).2.2
  cls := ⟨_, _, xc_NeverDone hex⟩
  mkx := fun _ => by
    obtain ⟨i1, i2, i3⟩ := exI_ok ((exN_ok hex).2.2.2.1)
    obtain ⟨fd, FF⟩ := cD.def_ 10 (d := di_NeverDone) rfl
    have F : FnP K "__init__" "NeverDone.__init__" si_NeverDone (He.ma K (ca K 7) "__init__") fd := FF
    refine ⟨_, fd, ["self", "number"], _, _, _, _, _, xc_NeverDone hex, PiX.xb_val, i1, i2, PiX.init_ok1 (B := "PointError") (self := "self") (f1 := "number") (q1 := "number") F xs_NeverDone rfl rfl rfl rfl rfl rfl rfl (wh_pe X G cD hex) (by decide +kernel) (xc_NeverDone hex) PiX.xb_val (i3 _ (by simp)), ?_⟩
    intro n ks src hm
    rcases List.mem_cons.mp hm with e | hm
    · cases e
      exact ⟨Nat.le_of_ble_eq_true rfl, rfl, rfl, _, _, kb_plain (ps := ["self", "number"]) (n := 2) (ks := []) F (fun us _ => us) (fun r1 _ => r1) (fun _ _ _ _ _ _ us ws h1 h2 => match us, ws, h1, h2 with | [_, _], [], _, _ => rfl), fun v vs zs h1 h2 => match vs, zs, h1, h2 with | [_], [], _, _ => rfl⟩
    rcases List.mem_cons.mp hm with e | hm
    · cases e
      exact ⟨Nat.le_of_ble_eq_true rfl, rfl, rfl, _, _, kb_plain (ps := ["self", "number"]) (n := 1) (ks := ["number"]) F (fun us zs => us ++ zs) (fun r1 r2 => r1.append r2) (fun _ _ _ _ _ _ us ws h1 h2 => match us, ws, h1, h2 with | [_], [_], _, _ => rfl), fun v vs zs h1 h2 => match vs, zs, h1, h2 with | [], [_], _, _ => rfl⟩
    cases hm
  pl := fun e => by cases e
theorem xs_NoDeed : FnScope ["self", "thing"] ["self", "thing"] (defScope si_NoDeed) := ⟨rfl, rfl, rfl, by decide +kernel, rfl, by decide +kernel, by decide +kernel⟩
theorem xh_NoDeed (X : K.In h) (G : h.Ns mainGlobals mg) (cD : He.SaysD fa fn K) (hex : ex K = true) : XcHolds P w K mg base (RC92 K) 8 xNoDeed where
  flds := rfl
  nodup := (by decide +kernel : (["thing"] : List Str).Nodup)
  noat := (exI_ok ((exN_ok hex).2.2.2.2.1)).2.2
  cls := ⟨_, _, xc_NoDeed hex⟩
  mkx := fun _ => by
    obtain ⟨i1, i2, i3⟩ := exI_ok ((exN_ok hex).2.2.2.2.1)
    obtain ⟨fd, FF⟩ := cD.def_ 11 (d := di_NoDeed) rfl
    have F : FnP K "__init__" "NoDeed.__init__" si_NoDeed (He.ma K (ca K 8) "__init__") fd := FF
    refine ⟨_, fd, ["self", "thing"], _, _, _, _, _, xc_NoDeed hex, PiX.xb_val, i1, i2, PiX.init_ok1 (B := "PointError") (self := "self") (f1 := "thing") (q1 := "thing") F xs_NoDeed rfl rfl rfl rfl rfl rfl rfl (wh_pe X G cD hex) (by decide +kernel) (xc_NoDeed hex) PiX.xb_val (i3 _ (by simp)), ?_⟩
    intro n ks src hm
    rcases List.mem_cons.mp hm with e | hm
    · cases e
      exact ⟨Nat.le_of_ble_eq_true rfl, rfl, rfl, _, _, kb_plain (ps := ["self", "thing"]) (n := 2) (ks := []) F (fun us _ => us) (fun r1 _ => r1) (fun _ _ _ _ _ _ us ws h1 h2 => match us, ws, h1, h2 with | [_, _], [], _, _ => rfl), fun v vs zs h1 h2 => match vs, zs, h1, h2 with | [_], [], _, _ => rfl⟩
    rcases List.mem_cons.mp hm with e | hm
    · cases e
      exact ⟨Nat.le_of_ble_eq_true rfl, rfl, rfl, _, _, kb_plain (ps := ["self", "thing"]) (n := 1) (ks := ["thing"]) F (fun us zs => us ++ zs) (fun r1 r2 => r1.append r2) (fun _ _ _ _ _ _ us ws h1 h2 => match us, ws, h1, h2 with | [_], [_], _, _ => rfl), fun v vs zs h1 h2 => match vs, zs, h1, h2 with | [], [_], _, _ => rfl⟩
    cases hm
  pl := fun e => by cases e
theorem xs_NoFit : FnScope ["self", "thing"] ["self", "thing"] (defScope si_NoFit) := ⟨rfl, rfl, rfl, by decide +kernel, rfl, by decide +kernel, by decide +kernel⟩
theorem xh_NoFit (X : K.In h) (G : h.Ns mainGlobals mg) (cD : He.SaysD fa fn K) (hex : ex K = true) : XcHolds P w K mg base (RC92 K) 9 xNoFit where
  flds := rfl
  nodup := (by decide +kernel : (["thing"] : List Str).Nodup)
  noat := (exI_ok ((exN_ok hex).2.2.2.2.2.1)).2.2
  cls := ⟨_, _, xc_NoFit hex⟩
  mkx := fun _ => by
    obtain ⟨i1, i2, i3⟩ := exI_ok ((exN_ok hex).2.2.2.2.2.1)
    obtain ⟨fd, FF⟩ := cD.def_ 12 (d := di_NoFit) rfl
    have F : FnP K "__init__" "NoFit.__init__" si_NoFit (He.ma K (ca K 9) "__init__") fd := FF
    refine ⟨_, fd, ["self", "thing"], _, _, _, _, _, xc_NoFit hex, PiX.xb_val, i1, i2, PiX.init_ok1 (B := "PointError") (self := "self") (f1 := "thing") (q1 := "thing") F xs_NoFit rfl rfl rfl rfl rfl rfl rfl (wh_pe X G cD hex) (by decide +kernel) (xc_NoFit hex) PiX.xb_val (i3 _ (by simp)), ?_⟩
    intro n ks src hm
    rcases List.mem_cons.mp hm with e | hm
    · cases e
      exact ⟨Nat.le_of_ble_eq_true rfl, rfl, rfl, _, _, kb_plain (ps := ["self", "thing"]) (n := 2) (ks := []) F (fun us _ => us) (fun r1 _ => r1) (fun _ _ _ _ _ _ us ws h1 h2 => match us, ws, h1, h2 with | [_, _], [], _, _ => rfl), fun v vs zs h1 h2 => match vs, zs, h1, h2 with | [_], [], _, _ => rfl⟩
    rcases List.mem_cons.mp hm with e | hm
    · cases e
      exact ⟨Nat.le_of_ble_eq_true rfl, rfl, rfl, _, _, kb_plain (ps := ["self", "thing"]) (n := 1) (ks := ["thing"]) F (fun us zs => us ++ zs) (fun r1 r2 => r1.append r2) (fun _ _ _ _ _ _ us ws h1 h2 => match us, ws, h1, h2 with | [_], [_], _, _ => rfl), fun v vs zs h1 h2 => match vs, zs, h1, h2 with | [], [_], _, _ => rfl⟩
    cases hm
  pl := fun e => by cases e
theorem xs_Taken : FnScope ["self", "name"] ["self", "name"] (defScope si_Taken) := ⟨rfl, rfl, rfl, by decide +kernel, rfl, by decide +kernel, by decide +kernel⟩
theorem xh_Taken (X : K.In h) (G : h.Ns mainGlobals mg) (cD : He.SaysD fa fn K) (hex : ex K = true) : XcHolds P w K mg base (RC92 K) 10 xTaken where
  flds := rfl
  nodup := (by decide +kernel : (["name"] : List Str).Nodup)
  noat := (exI_ok ((exN_ok hex).2.2.2.2.2.2.1)).2.2
  cls := ⟨_, _, xc_Taken hex⟩
  mkx := fun _ => by
    obtain ⟨i1, i2, i3⟩ := exI_ok ((exN_ok hex).2.2.2.2.2.2.1)
    obtain ⟨fd, FF⟩ := cD.def_ 13 (d := di_Taken) rfl
    have F : FnP K "__init__" "Taken.__init__" si_Taken (He.ma K (ca K 10) "__init__") fd := FF
    refine ⟨_, fd, ["self", "name"], _, _, _, _, _, xc_Taken hex, PiX.xb_val, i1, i2, PiX.init_ok1 (B := "PointError") (self := "self") (f1 := "name") (q1 := "name") F xs_Taken rfl rfl rfl rfl rfl rfl rfl (wh_pe X G cD hex) (by decide +kernel) (xc_Taken hex) PiX.xb_val (i3 _ (by simp)), ?_⟩
    intro n ks src hm
    rcases List.mem_cons.mp hm with e | hm
    · cases e
      exact ⟨Nat.le_of_ble_eq_true rfl, rfl, rfl, _, _, kb_plain (ps := ["self", "name"]) (n := 2) (ks := []) F (fun us _ => us) (fun r1 _ => r1) (fun _ _ _ _ _ _ us ws h1 h2 => match us, ws, h1, h2 with | [_, _], [], _, _ => rfl), fun v vs zs h1 h2 => match vs, zs, h1, h2 with | [_], [], _, _ => rfl⟩
    rcases List.mem_cons.mp hm with e | hm
    · cases e
      exact ⟨Nat.le_of_ble_eq_true rfl, rfl, rfl, _, _, kb_plain (ps := ["self", "name"]) (n := 1) (ks := ["name"]) F (fun us zs => us ++ zs) (fun r1 r2 => r1.append r2) (fun _ _ _ _ _ _ us ws h1 h2 => match us, ws, h1, h2 with | [_], [_], _, _ => rfl), fun v vs zs h1 h2 => match vs, zs, h1, h2 with | [], [_], _, _ => rfl⟩
    cases hm
  pl := fun e => by cases e
theorem xs_Undone : FnScope ["self", "number"] ["self", "number"] (defScope si_Undone) := ⟨rfl, rfl, rfl, by decide +kernel, rfl, by decide +kernel, by decide +kernel⟩
theorem xh_Undone (X : K.In h) (G : h.Ns mainGlobals mg) (cD : He.SaysD fa fn K) (hex : ex K = true) : XcHolds P w K mg base (RC92 K) 11 xUndone where
  flds := rfl
  nodup := (by decide +kernel : (["number"] : List Str).Nodup)
  noat := (exI_ok ((exN_ok hex).2.2.2.2.2.2.2.1)).2.2
  cls := ⟨_, _, xc_Undone hex⟩
  mkx := fun _ => by
    obtain ⟨i1, i2, i3⟩ := exI_ok ((exN_ok hex).2.2.2.2.2.2.2.1)
    obtain ⟨fd, FF⟩ := cD.def_ 14 (d := di_Undone) rfl
    have F : FnP K "__init__" "Undone.__init__" si_Undone (He.ma K (ca K 11) "__init__") fd := FF
    refine ⟨_, fd, ["self", "number"], _, _, _, _, _, xc_Undone hex, PiX.xb_val, i1, i2, PiX.init_ok1 (B := "PointError") (self := "self") (f1 := "number") (q1 := "number") F xs_Undone rfl rfl rfl rfl rfl rfl rfl (wh_pe X G cD hex) (by decide +kernel) (xc_Undone hex) PiX.xb_val (i3 _ (by simp)), ?_⟩
    intro n ks src hm
    rcases List.mem_cons.mp hm with e | hm
    · cases e
      exact ⟨Nat.le_of_ble_eq_true rfl, rfl, rfl, _, _, kb_plain (ps := ["self", "number"]) (n := 2) (ks := []) F (fun us _ => us) (fun r1 _ => r1) (fun _ _ _ _ _ _ us ws h1 h2 => match us, ws, h1, h2 with | [_, _], [], _, _ => rfl), fun v vs zs h1 h2 => match vs, zs, h1, h2 with | [_], [], _, _ => rfl⟩
    rcases List.mem_cons.mp hm with e | hm
    · cases e
      exact ⟨Nat.le_of_ble_eq_true rfl, rfl, rfl, _, _, kb_plain (ps := ["self", "number"]) (n := 1) (ks := ["number"]) F (fun us zs => us ++ zs) (fun r1 r2 => r1.append r2) (fun _ _ _ _ _ _ us ws h1 h2 => match us, ws, h1, h2 with | [_], [_], _, _ => rfl), fun v vs zs h1 h2 => match vs, zs, h1, h2 with | [], [_], _, _ => rfl⟩
    cases hm
  pl := fun e => by cases e
theorem xh_NoBottom (hex : ex K = true) : XcHolds P w K mg base (RC92 K) 12 xNoBottom where
  flds := rfl
  nodup := List.nodup_nil
  noat := fun f hf => (List.not_mem_nil hf).elim
  cls := ⟨_, _, xc_NoBottom hex⟩
  mkx := fun e => by cases e
  pl := fun _ => ⟨rfl, _, _, _, _, F.excBase_ZeroDivisionError, (exP_ok hex).2.2.2.2.1⟩
theorem xs_NoWay : FnScope ["self", "way"] ["self", "way"] (defScope si_NoWay) := ⟨rfl, rfl, rfl, by decide +kernel, rfl, by decide +kernel, by decide +kernel⟩
theorem xh_NoWay (X : K.In h) (G : h.Ns mainGlobals mg) (cD : He.SaysD fa fn K) (hex : ex K = true) : XcHolds P w K mg base (RC92 K) 13 xNoWay where
  flds := rfl
  nodup := (by decide +kernel : (["way"] : List Str).Nodup)
  noat := (exI_ok ((exN_ok hex).2.2.2.2.2.2.2.2.1)).2.2
  cls := ⟨_, _, xc_NoWay hex⟩
  mkx := fun _ => by
    obtain ⟨i1, i2, i3⟩ := exI_ok ((exN_ok hex).2.2.2.2.2.2.2.2.1)
    obtain ⟨fd, FF⟩ := cD.def_ 15 (d := di_NoWay) rfl
    have F : FnP K "__init__" "NoWay.__init__" si_NoWay (He.ma K (ca K 13) "__init__") fd := FF
    refine ⟨_, fd, ["self", "way"], _, _, _, _, _, xc_NoWay hex, PiX.xb_key, i1, i2, PiX.init_ok1 (B := "KeyError") (self := "self") (f1 := "way") (q1 := "way") F xs_NoWay rfl rfl rfl rfl rfl rfl rfl (wh_ke X G cD hex) (by decide +kernel) (xc_NoWay hex) PiX.xb_key (i3 _ (by simp)), ?_⟩
    intro n ks src hm
    rcases List.mem_cons.mp hm with e | hm
    · cases e
      exact ⟨Nat.le_of_ble_eq_true rfl, rfl, rfl, _, _, kb_plain (ps := ["self", "way"]) (n := 2) (ks := []) F (fun us _ => us) (fun r1 _ => r1) (fun _ _ _ _ _ _ us ws h1 h2 => match us, ws, h1, h2 with | [_, _], [], _, _ => rfl), fun v vs zs h1 h2 => match vs, zs, h1, h2 with | [_], [], _, _ => rfl⟩
    rcases List.mem_cons.mp hm with e | hm
    · cases e
      exact ⟨Nat.le_of_ble_eq_true rfl, rfl, rfl, _, _, kb_plain (ps := ["self", "way"]) (n := 1) (ks := ["way"]) F (fun us zs => us ++ zs) (fun r1 r2 => r1.append r2) (fun _ _ _ _ _ _ us ws h1 h2 => match us, ws, h1, h2 with | [_], [_], _, _ => rfl), fun v vs zs h1 h2 => match vs, zs, h1, h2 with | [], [_], _, _ => rfl⟩
    cases hm
  pl := fun e => by cases e
theorem xs_Missing : FnScope ["self", "name"] ["self", "name"] (defScope si_Missing) := ⟨rfl, rfl, rfl, by decide +kernel, rfl, by decide +kernel, by decide +kernel⟩
theorem xh_Missing (X : K.In h) (G : h.Ns mainGlobals mg) (cD : He.SaysD fa fn K) (hex : ex K = true) : XcHolds P w K mg base (RC92 K) 14 xMissing where
  flds := rfl
  nodup := (by decide +kernel : (["name"] : List Str).Nodup)
  noat := (exI_ok ((exN_ok hex).2.2.2.2.2.2.2.2.2)).2.2
  cls := ⟨_, _, xc_Missing hex⟩
  mkx := fun _ => by
    obtain ⟨i1, i2, i3⟩ := exI_ok ((exN_ok hex).2.2.2.2.2.2.2.2.2)
    obtain ⟨fd, FF⟩ := cD.def_ 16 (d := di_Missing) rfl
    have F : FnP K "__init__" "Missing.__init__" si_Missing (He.ma K (ca K 14) "__init__") fd := FF
    refine ⟨_, fd, ["self", "name"], _, _, _, _, _, xc_Missing hex, PiX.xb_key, i1, i2, PiX.init_ok1 (B := "KeyError") (self := "self") (f1 := "name") (q1 := "name") F xs_Missing rfl rfl rfl rfl rfl rfl rfl (wh_ke X G cD hex) (by decide +kernel) (xc_Missing hex) PiX.xb_key (i3 _ (by simp)), ?_⟩
    intro n ks src hm
    rcases List.mem_cons.mp hm with e | hm
    · cases e
      exact ⟨Nat.le_of_ble_eq_true rfl, rfl, rfl, _, _, kb_plain (ps := ["self", "name"]) (n := 2) (ks := []) F (fun us _ => us) (fun r1 _ => r1) (fun _ _ _ _ _ _ us ws h1 h2 => match us, ws, h1, h2 with | [_, _], [], _, _ => rfl), fun v vs zs h1 h2 => match vs, zs, h1, h2 with | [_], [], _, _ => rfl⟩
    rcases List.mem_cons.mp hm with e | hm
    · cases e
      exact ⟨Nat.le_of_ble_eq_true rfl, rfl, rfl, _, _, kb_plain (ps := ["self", "name"]) (n := 1) (ks := ["name"]) F (fun us zs => us ++ zs) (fun r1 r2 => r1.append r2) (fun _ _ _ _ _ _ us ws h1 h2 => match us, ws, h1, h2 with | [_], [_], _, _ => rfl), fun v vs zs h1 h2 => match vs, zs, h1, h2 with | [], [_], _, _ => rfl⟩
    cases hm
  pl := fun e => by cases e
theorem xh_PointError (hex : ex K = true) : XcHolds P w K mg base (RC92 K) 15 xPointError where
  flds := rfl
  nodup := List.nodup_nil
  noat := fun f hf => (List.not_mem_nil hf).elim
  cls := ⟨_, _, xc_PointError hex⟩
  mkx := fun e => by cases e
  pl := fun _ => ⟨rfl, _, _, _, _, F.excBase_ValueError, (exP_ok hex).2.2.2.2.2⟩
theorem sc_law_deck : FnScope N_law_deck ["_law_script"] (defScope s_law_deck) := ⟨rfl, rfl, rfl, by decide +kernel, rfl, by decide +kernel, by decide +kernel⟩
theorem fh_law_deck {c : RC} {n : Nat} (hT : ∀ j, j < n → TabOk P w K mg base c j T92) (hK : K = c.K) (hb : ∀ x ∈ biNames, mg x = none) (F : FnP K "_law_deck" "_law_deck" s_law_deck f fd) : FnHolds P w K mg base c n F_law_deck f fd :=
  ⟨fun hl => (by
    have := def_ok (n := 60) (cells := [(67, 17), (68, 11)]) (lv := 0) (hT 0 hl) hK hb F sc_law_deck
    rw [ce_law_deck] at this
    exact this),
  sh_plain F rfl fun _ _ _ _ _ _ us hl => match us, hl with | [_], _ => rfl⟩
theorem sc_law_draw : FnScope N_law_draw ["_law_deck_here", "_law_size"] (defScope s_law_draw) := ⟨rfl, rfl, rfl, by decide +kernel, rfl, by decide +kernel, by decide +kernel⟩
theorem fh_law_draw {c : RC} {n : Nat} (hT : ∀ j, j < n → TabOk P w K mg base c j T92) (hK : K = c.K) (hb : ∀ x ∈ biNames, mg x = none) (F : FnP K "_law_draw" "_law_draw" s_law_draw f fd) : FnHolds P w K mg base c n F_law_draw f fd :=
  ⟨fun hl => (by
    have := def_ok (n := 60) (cells := []) (lv := 13) (hT 13 hl) hK hb F sc_law_draw
    rw [ce_law_draw] at this
    exact this),
  sh_plain F rfl fun _ _ _ _ _ _ us hl => match us, hl with | [_, _], _ => rfl⟩
theorem sc_law_stuff : FnScope N_law_stuff ["_law_deck_here"] (defScope s_law_stuff) := ⟨rfl, rfl, rfl, by decide +kernel, rfl, by decide +kernel, by decide +kernel⟩
theorem fh_law_stuff {c : RC} {n : Nat} (hT : ∀ j, j < n → TabOk P w K mg base c j T92) (hK : K = c.K) (hb : ∀ x ∈ biNames, mg x = none) (F : FnP K "_law_stuff" "_law_stuff" s_law_stuff f fd) : FnHolds P w K mg base c n F_law_stuff f fd :=
  ⟨fun hl => (by
    have := def_ok (n := 60) (cells := []) (lv := 14) (hT 14 hl) hK hb F sc_law_stuff
    rw [ce_law_stuff] at this
    exact this),
  sh_plain F rfl fun _ _ _ _ _ _ us hl => match us, hl with | [_], _ => rfl⟩
theorem sc_law_fields_right : FnScope N_law_fields_right ["_law_it", "_law_two"] (defScope s_law_fields_right) := ⟨rfl, rfl, rfl, by decide +kernel, rfl, by decide +kernel, by decide +kernel⟩
theorem fh_law_fields_right {c : RC} {n : Nat} (hT : ∀ j, j < n → TabOk P w K mg base c j T92) (hK : K = c.K) (hb : ∀ x ∈ biNames, mg x = none) (F : FnP K "_law_fields_right" "_law_fields_right" s_law_fields_right f fd) : FnHolds P w K mg base c n F_law_fields_right f fd :=
  ⟨fun hl => (by
    have := def_ok (n := 60) (cells := [(91, 17)]) (lv := 13) (hT 13 hl) hK hb F sc_law_fields_right
    rw [ce_law_fields_right] at this
    exact this),
  sh_plain F rfl fun _ _ _ _ _ _ us hl => match us, hl with | [_, _], _ => rfl⟩
theorem sc_law_kin : FnScope N_law_kin ["_law_e"] (defScope s_law_kin) := ⟨rfl, rfl, rfl, by decide +kernel, rfl, by decide +kernel, by decide +kernel⟩
theorem fh_law_kin {c : RC} {n : Nat} (hT : ∀ j, j < n → TabOk P w K mg base c j T92) (hK : K = c.K) (hb : ∀ x ∈ biNames, mg x = none) (F : FnP K "_law_kin" "_law_kin" s_law_kin f fd) : FnHolds P w K mg base c n F_law_kin f fd :=
  ⟨fun hl => (by
    have := def_ok (n := 60) (cells := []) (lv := 2) (hT 2 hl) hK hb F sc_law_kin
    rw [ce_law_kin] at this
    exact this),
  sh_plain F rfl fun _ _ _ _ _ _ us hl => match us, hl with | [_], _ => rfl⟩
theorem sc_law_families_right : FnScope N_law_families_right ["_law_it", "_law_word"] (defScope s_law_families_right) := ⟨rfl, rfl, rfl, by decide +kernel, rfl, by decide +kernel, by decide +kernel⟩
theorem fh_law_families_right {c : RC} {n : Nat} (hT : ∀ j, j < n → TabOk P w K mg base c j T92) (hK : K = c.K) (hb : ∀ x ∈ biNames, mg x = none) (F : FnP K "_law_families_right" "_law_families_right" s_law_families_right f fd) : FnHolds P w K mg base c n F_law_families_right f fd :=
  ⟨fun hl => (by
    have := def_ok (n := 60) (cells := []) (lv := 13) (hT 13 hl) hK hb F sc_law_families_right
    rw [ce_law_families_right] at this
    exact this),
  sh_plain F rfl fun _ _ _ _ _ _ us hl => match us, hl with | [_, _], _ => rfl⟩
theorem sc_law : FnScope N_law ["_law_script"] (defScope s_law) := ⟨rfl, rfl, rfl, by decide +kernel, rfl, by decide +kernel, by decide +kernel⟩
theorem fns_ok {n : Nat} (X : K.In h) (G : h.Ns mainGlobals mg) (cD : He.SaysD fa fn K) (hT : ∀ j, j < n → TabOk P w K mg base (RC92 K) j T92) : ∀ x F, T92.fns.lookup x = some F → ∃ f fd, mg x = some (.ref f) ∧ PySem.W.keepIn K (.ref f) = true ∧ FnHolds P w K mg base (RC92 K) n F f fd := by
  intro x F e
  have hb := bi_free X G cD
  have hx : (x, F) ∈ ([("_law_deck", F_law_deck), ("_law_draw", F_law_draw), ("_law_stuff", F_law_stuff), ("_law_fields_right", F_law_fields_right), ("_law_kin", F_law_kin), ("_law_families_right", F_law_families_right)] : List (Str × FnS)) := mem_of_lookup e
  rcases List.mem_cons.mp hx with e | hx
  · cases e
    obtain ⟨fd, FF⟩ := cD.def_ 0 (d := d_law_deck) rfl
    exact ⟨_, fd, He.glo_ok X G (cD.fact 0 (f := .glo "_law_deck") rfl), FunD.kp FF, fh_law_deck hT rfl hb FF⟩
  rcases List.mem_cons.mp hx with e | hx
  · cases e
    obtain ⟨fd, FF⟩ := cD.def_ 1 (d := d_law_draw) rfl
    exact ⟨_, fd, He.glo_ok X G (cD.fact 1 (f := .glo "_law_draw") rfl), FunD.kp FF, fh_law_draw hT rfl hb FF⟩
  rcases List.mem_cons.mp hx with e | hx
  · cases e
    obtain ⟨fd, FF⟩ := cD.def_ 2 (d := d_law_stuff) rfl
    exact ⟨_, fd, He.glo_ok X G (cD.fact 2 (f := .glo "_law_stuff") rfl), FunD.kp FF, fh_law_stuff hT rfl hb FF⟩
  rcases List.mem_cons.mp hx with e | hx
  · cases e
    obtain ⟨fd, FF⟩ := cD.def_ 3 (d := d_law_fields_right) rfl
    exact ⟨_, fd, He.glo_ok X G (cD.fact 3 (f := .glo "_law_fields_right") rfl), FunD.kp FF, fh_law_fields_right hT rfl hb FF⟩
  rcases List.mem_cons.mp hx with e | hx
  · cases e
    obtain ⟨fd, FF⟩ := cD.def_ 4 (d := d_law_kin) rfl
    exact ⟨_, fd, He.glo_ok X G (cD.fact 4 (f := .glo "_law_kin") rfl), FunD.kp FF, fh_law_kin hT rfl hb FF⟩
  rcases List.mem_cons.mp hx with e | hx
  · cases e
    obtain ⟨fd, FF⟩ := cD.def_ 5 (d := d_law_families_right) rfl
    exact ⟨_, fd, He.glo_ok X G (cD.fact 5 (f := .glo "_law_families_right") rfl), FunD.kp FF, fh_law_families_right hT rfl hb FF⟩
  cases hx
theorem kit_ok (hex : ex K = true) : KitOk K (RC92 K) kit92 where
  one := fun t u b e => by
    have hh := (ex5 hex).2.2.2.2
    unfold exK at hh
    simp only [Bool.and_eq_true, List.all_eq_true, List.mem_range, decide_eq_true_eq] at hh
    obtain ⟨h1, h2⟩ := hh
    cases t with
    | exc C =>
      cases u with
      | exc D =>
        have e1 : (if C < 16 ∧ D < 16 then some (kin C D) else none) = some b := e
        split at e1
        · rename_i hc
          cases e1
          exact h1 C hc.1 D hc.2
        · cases e1
      | bt m =>
        have e1 : (if C < 16 then (if m = "ValueError" then some (decide (C < 12) || C == 15) else if m = "ZeroDivisionError" then some (C == 12) else if m = "KeyError" then some (C == 13 || C == 14) else none) else none) = some b := e
        split at e1
        · rename_i hc
          obtain ⟨g1, g2, g3⟩ := h2 C hc
          split at e1
          · rename_i hm
            subst hm
            cases e1
            exact g1
          · split at e1
            · rename_i hm
              subst hm
              cases e1
              exact g2
            · split at e1
              · rename_i hm
                subst hm
                cases e1
                exact g3
              · cases e1
        · cases e1
      | own D => cases e
    | own C => cases u <;> cases e
    | bt m => cases u <;> cases e
  ask := fun C u b e => by cases u <;> cases e
  askX := fun C u b e => by
    refine xc_all hex C ?_
    cases u with
    | exc D =>
      have e1 : (if C < 16 ∧ D < 16 then some (kin C D) else none) = some b := e
      split at e1
      · rename_i hc
        exact hc.1
      · cases e1
    | bt m =>
      have e1 : (if C < 16 then (if m = "ValueError" then some (decide (C < 12) || C == 15) else if m = "ZeroDivisionError" then some (C == 12) else if m = "KeyError" then some (C == 13 || C == 14) else none) else none) = some b := e
      split at e1
      · rename_i hc
        exact hc
      · cases e1
    | own D => cases e
theorem xcls_ok (X : K.In h) (G : h.Ns mainGlobals mg) (cD : He.SaysD fa fn K) (hex : ex K = true) : ∀ (C : Nat) (k : XcS), xList[C]? = some k → XcHolds P w K mg base (RC92 K) C k
  | 0, k, e => by
    cases e
    exact xh_NoText X G cD hex
  | 1, k, e => by
    cases e
    exact xh_NoExact hex
  | 2, k, e => by
    cases e
    exact xh_NoLine hex
  | 3, k, e => by
    cases e
    exact xh_NoRow hex
  | 4, k, e => by
    cases e
    exact xh_NoBack hex
  | 5, k, e => by
    cases e
    exact xh_TwoRoots X G cD hex
  | 6, k, e => by
    cases e
    exact xh_NotPlain X G cD hex
  | 7, k, e => by
    cases e
    exact xh_NeverDone X G cD hex
  | 8, k, e => by
    cases e
    exact xh_NoDeed X G cD hex
  | 9, k, e => by
    cases e
    exact xh_NoFit X G cD hex
  | 10, k, e => by
    cases e
    exact xh_Taken X G cD hex
  | 11, k, e => by
    cases e
    exact xh_Undone X G cD hex
  | 12, k, e => by
    cases e
    exact xh_NoBottom hex
  | 13, k, e => by
    cases e
    exact xh_NoWay X G cD hex
  | 14, k, e => by
    cases e
    exact xh_Missing X G cD hex
  | 15, k, e => by
    cases e
    exact xh_PointError hex
  | _ + 16, k, e => by cases e
theorem tab_ok (X : K.In h) (G : h.Ns mainGlobals mg) (cD : He.SaysD fa fn K) (hex : ex K = true) : ∀ n, TabOk P w K mg base (RC92 K) n T92 := by
  intro n
  induction n using Nat.strongRecOn with
  | _ n hT =>
  exact {
    fns := fns_ok X G cD hT
    cnames := fun x C e => by cases e
    cls := fun C k e => by cases e
    consts := fun x d e => by cases e
    kit := kit_ok hex
    xnames := fun x C e => by
      have hx : (x, C) ∈ ([("NoText", 0), ("NoExact", 1), ("NoLine", 2), ("NoRow", 3), ("NoBack", 4), ("TwoRoots", 5), ("NotPlain", 6), ("NeverDone", 7), ("NoDeed", 8), ("NoFit", 9), ("Taken", 10), ("Undone", 11), ("NoBottom", 12), ("NoWay", 13), ("Missing", 14), ("PointError", 15)] : List (Str × Nat)) := mem_of_lookup e
      rcases List.mem_cons.mp hx with e | hx
      · cases e
        exact He.glo_ok X G (cD.fact 7 (f := .glo "NoText") rfl)
      rcases List.mem_cons.mp hx with e | hx
      · cases e
        exact He.glo_ok X G (cD.fact 8 (f := .glo "NoExact") rfl)
      rcases List.mem_cons.mp hx with e | hx
      · cases e
        exact He.glo_ok X G (cD.fact 9 (f := .glo "NoLine") rfl)
      rcases List.mem_cons.mp hx with e | hx
      · cases e
        exact He.glo_ok X G (cD.fact 10 (f := .glo "NoRow") rfl)
      rcases List.mem_cons.mp hx with e | hx
      · cases e
        exact He.glo_ok X G (cD.fact 11 (f := .glo "NoBack") rfl)
      rcases List.mem_cons.mp hx with e | hx
      · cases e
        exact He.glo_ok X G (cD.fact 12 (f := .glo "TwoRoots") rfl)
      rcases List.mem_cons.mp hx with e | hx
      · cases e
        exact He.glo_ok X G (cD.fact 13 (f := .glo "NotPlain") rfl)
      rcases List.mem_cons.mp hx with e | hx
      · cases e
        exact He.glo_ok X G (cD.fact 14 (f := .glo "NeverDone") rfl)
      rcases List.mem_cons.mp hx with e | hx
      · cases e
        exact He.glo_ok X G (cD.fact 15 (f := .glo "NoDeed") rfl)
      rcases List.mem_cons.mp hx with e | hx
      · cases e
        exact He.glo_ok X G (cD.fact 16 (f := .glo "NoFit") rfl)
      rcases List.mem_cons.mp hx with e | hx
      · cases e
        exact He.glo_ok X G (cD.fact 17 (f := .glo "Taken") rfl)
      rcases List.mem_cons.mp hx with e | hx
      · cases e
        exact He.glo_ok X G (cD.fact 18 (f := .glo "Undone") rfl)
      rcases List.mem_cons.mp hx with e | hx
      · cases e
        exact He.glo_ok X G (cD.fact 19 (f := .glo "NoBottom") rfl)
      rcases List.mem_cons.mp hx with e | hx
      · cases e
        exact He.glo_ok X G (cD.fact 20 (f := .glo "NoWay") rfl)
      rcases List.mem_cons.mp hx with e | hx
      · cases e
        exact He.glo_ok X G (cD.fact 21 (f := .glo "Missing") rfl)
      rcases List.mem_cons.mp hx with e | hx
      · cases e
        exact He.glo_ok X G (cD.fact 22 (f := .glo "PointError") rfl)
      cases hx
    xcls := fun C k e => xcls_ok X G cD hex C k e
    eqs := fun C e hl => by cases e }
end
/-! ### the law -/
noncomputable def spLaw (K : PySem.W.Frag) : Sp := spF (RC92 K) 1 (bodyF N_law.length b_law)
theorem law_sp {K : PySem.W.Frag} {H : Hp} {a : Addr} {ns : List Int} (hl : ns.length ≤ 63) (hS : SqL K H a (ns.map V.int)) : spLaw K [.ref a] H (fun v _ => v = .bl true) fun _ _ _ => False := by
  obtain ⟨S', hr⟩ := law_runs (S := []) hl
  refine ⟨rfl, fun _ => .val, fun _ => 0, [], [.frl (ns.map .int)], .bl true, S', ⟨fun n k e => by simp at e, fun m n h1 => absurd h1 (Nat.not_lt_zero _)⟩, .cons (.frl (hS.elim (fun z => .inl ⟨rfl, z⟩) .inr) ?_) .nil, hr, fun M' μ' H' v _ _ r => r.bl_inv⟩
  have : ∀ is : List Int, VRs (RC92 K) (fun _ => Own.val) (fun _ => 0) 0 H (is.map Val.int) (is.map V.int) := by
    intro is
    induction is with
    | nil => exact .nil
    | cons i r ih => exact .cons .int ih
  exact this ns
theorem law_facts {P : Program} {w : World} {K : PySem.W.Frag} {h : Heap} {mg : Str → Option Value} {f : Addr} (X : K.In h) (G : h.Ns mainGlobals mg) (hfa : mg ("law" : Str) = some (.ref f)) (cD : He.SaysD fa fn K) (hex : ex K = true) :
    ∃ fd : FuncData, (∀ (s : Shared) (v : Value), BindsTo s fd ⟨[v], []⟩ [("_law_script", v)]) ∧ ∀ base : Heap, K.In base → base.Ns mainGlobals mg → PiX.FnG P w K mg base CX0 16 f fd ["_law_script"] (spLaw K) := by
  obtain ⟨fd, FF⟩ := cD.def_ 6 (d := d_law) rfl
  have F : FnP K "law" "law" s_law (He.ga K "law") fd := FF
  have e := hfa.symm.trans (He.glo_ok X G (cD.fact 6 (f := .glo "law") rfl))
  cases e
  have b := FunD.bindsA (ps := ["_law_script"]) F fun _ _ _ _ _ _ us hl => match us, hl with | [_], _ => rfl
  refine ⟨fd, fun s v => b s [v] rfl, fun base _ _ => ?_⟩
  have := def_ok (P := P) (w := w) (base := base) (n := 60) (cells := []) (lv := 15) (tab_ok X G cD hex 15) rfl (bi_free X G cD) F sc_law
  rw [ce_law] at this
  exact this
end K92
set_option Elab.async false
set_option linter.all false
set_option maxRecDepth 100000
set_option maxHeartbeats 0
namespace K92
open PySem L2 Pi
abbrev R : PySem.W.OpenRow := PySem.W.OpenLaw.row PySem.Challenge.rw_pointhouse_k92_whole_refusals_made_by_ha
abbrev hk : PySem.W.Hook := PiX.hookS 4 fa fn ex
def ob (s : PySem.W.SharedT) : PiX.Seen := PiX.seenOf 4 fa fn ex (HandSHeadRun.getT s)
theorem ob_eq (s : PySem.W.SharedT) : ob s = hk.obs s.abs := PiX.seen_eq (HandSHeadRun.getT_eq s)
theorem run (w : World) : HandSHeadRun.RunEq R (PySem.W.view R.prog [24]) hk ob 6000 loose w := by
  intro os
  kernel_rfl
end K92
set_option Elab.async false
set_option linter.all false
set_option maxRecDepth 100000
set_option maxHeartbeats 0
open PySem PySem.W PySem.Calls PyProof.Rows
theorem PySem.Challenge.cw_pointhouse_k92_whole_refusals_made_by_ha_holds : PySem.Challenge.rw_pointhouse_k92_whole_refusals_made_by_ha.Holds := by
  w_on; o_law
  refine HandSHeadRun.head_any (r := OpenLaw.row PySem.Challenge.rw_pointhouse_k92_whole_refusals_made_by_ha) (q := view (OpenLaw.row PySem.Challenge.rw_pointhouse_k92_whole_refusals_made_by_ha).prog [24]) (H := K92.hk) (ob := K92.ob) (M := 6000) (loose := K92.loose) (d := HandSHeadRun.topDef (OpenLaw.row PySem.Challenge.rw_pointhouse_k92_whole_refusals_made_by_ha).prog 24) (kwd := []) K92.ob_eq
    (by kernel_rfl) (fun s => by kernel_rfl) K92.run (by kernel_rfl) (by kernel_rfl) (by kernel_rfl) (by rfl) (by first | assumption | decide +kernel) (by decide +kernel) ⟨rfl, rfl, rfl, rfl, rfl, by decide +kernel⟩ ?hw ?hc
  case hw => w_witness2
  case hc =>
    refine PiX.walk_G (l := PySem.Challenge.rw_pointhouse_k92_whole_refusals_made_by_ha) (most := 63) (k := 16) (par := "_law_script") rfl (by decide) (by kernel_rfl) ⟨rfl, by decide, by decide⟩ ?F
    intro w mg fa h Y G hmg0
    obtain ⟨K, KX, cD, hex⟩ := Y
    have hmg : mg ("law" : PySem.Str) = some (.ref fa) := by
      have e : (HandSHeadRun.topDef (OpenLaw.row PySem.Challenge.rw_pointhouse_k92_whole_refusals_made_by_ha).prog 24).name = ("law" : PySem.Str) := by kernel_rfl
      rw [← e]
      exact hmg0
    obtain ⟨fd, hb, hF⟩ := K92.law_facts (P := (PySem.Challenge.rw_pointhouse_k92_whole_refusals_made_by_ha).prog) (w := w) KX G hmg cD hex
    exact ⟨K, fd, K92.spLaw K, KX, hb, fun H a ns hl _ hS => K92.law_sp hl hS, hF⟩
