import PyProof.Rows.All
import Wide.All
import OpenK.AllK
import Wide.FinOn
import HandS.ExcInit
import HandS.ExcOwn
import HandS.ExcValue
import KE.KExcInit
import KE.KExcIs
import PyProof.Rows.FactsExc_KeyError
import PyProof.ExcBaseAll.LookupError
import PyProof.ExcBaseAll.ValueError
import HandS.Base
import HandS.Call
import HandS.HeadHook3
import HandS.Head3
import HandS.HeadEnd
import HandS.HeadWalk
import HandS.Words
import HandS.List
import HandS.Comp
import HandS.Dict
import HandS.WordsList
import HandS.TupAny
import HandS.IsInst
import HandS.Flow
import HandS.Deep
import HandS.ExcIs
import HandS.ExcField
import HandS.Defaults
import HandS.Ends
import HandS.CallSlots
import HandS.Style
import HandS.Exc
import HandS.Wide
import PyProof.StrBlock2
import HandS.Text
import HandS.WordsDict
import HandS.Iter
import HandS.SetKeys
import PyProof.ReprRoads
import PyProof.CallFns
import HandS.Strs
import HandS.Small
import HandS.More
import KE.KUnpackStar
import KE.KRevSl
import HandS.TryMany
import HandS.MakeKwOnly
import HandS.ClsMeth
import PyProof.ReprReads
import PySem.Challenge.RW_farlook_k13_rules_by_form_and_refusals_a
set_option Elab.async false
section
set_option Elab.async false
set_option linter.all false
set_option maxRecDepth 100000
set_option maxHeartbeats 4000000
/-! E0: own exception classes over ValueError, KeyError, LookupError. -/
namespace DX
open PySem PySem.Spec PySem.Calls
open PyProof.Rows hiding St
open PySem.HandSPX (excO)

inductive Fam where
  | ve
  | ke
  | le
deriving DecidableEq
def Fam.own : Fam → String
  | .ve => "ValueError"
  | .ke => "KeyError"
  | .le => "LookupError"
/-- the class that its __new__ speaks of -/
def Fam.B : Fam → String
  | .ve => "ValueError"
  | _ => "LookupError"
def Fam.newId : Fam → String
  | .ve => "ValueError.__new__"
  | _ => "LookupError.__new__"
def Fam.initId : Fam → String
  | .ve => "ValueError.__init__"
  | .ke => "KeyError.__init__"
  | .le => "LookupError.__init__"
def Fam.tail : Fam → List Value
  | .ve => [.type "ValueError", .type "Exception", .type "BaseException", .type "object"]
  | .ke => [.type "KeyError", .type "LookupError", .type "Exception", .type "BaseException", .type "object"]
  | .le => [.type "LookupError", .type "Exception", .type "BaseException", .type "object"]
/-- what makes -/
def Fam.initB : Fam → String
  | .ve => "ValueError.__init__"
  | _ => "LookupError.__init__"
def Fam.tailB : Fam → List Value
  | .ve => [.type "ValueError", .type "Exception", .type "BaseException", .type "object"]
  | _ => [.type "LookupError", .type "Exception", .type "BaseException", .type "object"]
theorem Fam.facts : ∀ f : Fam, ExcBaseFacts f.B f.newId f.initB f.tailB
  | .ve => PySem.F.excBase_ValueError
  | .ke => PySem.F.excBase_LookupError
  | .le => PySem.F.excBase_LookupError
theorem Fam.hasB (f : Fam) : f.tail.contains (.type f.B) = true := by cases f <;> decide +kernel
theorem Fam.noA (f : Fam) : f.tail.contains (.type "AttributeError") = false := by cases f <;> decide +kernel
theorem Fam.noN (f : Fam) : f.tail.contains (.type "NameError") = false := by cases f <;> decide +kernel
theorem Fam.hasO (f : Fam) : f.tail.contains (.type f.own) = true := by cases f <;> decide +kernel
theorem pass_ke (self : Value) : refuseLoop self "__setattr__" Fam.ke.tail = pure () := by kernel_rfl
theorem slot_sa (T : String) (h : typeLookup (.type T) "__setattr__" = pure (some (.builtin "object.__setattr__"))) (hs : isSubtype (.type T) (.type "object") = pure true) : Slot T "__setattr__" "object.__setattr__" :=
  .of (owner := "object") (n := "__setattr__") h (by decide +kernel) (by decide +kernel) (by decide +kernel) (by first | exact .inl (by decide +kernel) | exact .inr (by decide +kernel)) hs
theorem store_ke : StoreFacts "KeyError" Fam.ke.tail "object.__setattr__" "object" := { PySem.F.store_ValueError with
  mro := by kernel_rfl
  slot := slot_sa "KeyError" (by rw [typeLookup_type, builtinLookup_eq_fast]; kernel_rfl) (by rw [isSubtype_type]; kernel_rfl)
  hasOwner := by decide +kernel
  passes := pass_ke }
theorem Fam.sf : ∀ f : Fam, StoreFacts f.own f.tail "object.__setattr__" "object"
  | .ve => PySem.F.store_ValueError
  | .ke => store_ke
  | .le => PySem.F.store_LookupError
/-- the family's own __init__ -/
structure InitF (cls id : String) : Prop where
  slot : Slot cls "__init__" id
  entry : entryFor table id = some Builtin.«BaseException.__init__»
  split : splitId id = some (cls, "__init__")
  kind : builtinKind id = some .slot
  row : Manifest.signature? id = some ⟨.positional, "*", cls, .self, [⟨"args", .varPos, false⟩]⟩
  star : (cls != "*") = true
theorem Fam.init : ∀ f : Fam, InitF f.own f.initId
  | .ve => let F := PySem.F.excBase_ValueError; ⟨F.init, F.initEntry, F.initSplit, F.initKind, F.initRow, F.noStar⟩
  | .le => let F := PySem.F.excBase_LookupError; ⟨F.init, F.initEntry, F.initSplit, F.initKind, F.initRow, F.noStar⟩
  | .ke => let F := excClass_KeyError; ⟨F.init, F.initEntry, F.initSplit, F.initKind, F.initSig, by decide +kernel⟩

section
variable {M : Model} {A : Around} {E : Value → Shared → Prop} {h : Heap} {g : Array GenState} {d : Drawn} {t : Nat} {os : OsState} {prog : Program} {w : World} {R : Result → Shared → Prop}
variable {nm q : Str} {C N : Addr} {bs bm : List Value} {hdct : Bool} {sn : List Str} {sub : List Value} {ab : Bool} {col : Option Bool} {dd : Option Addr} {k0 k1 k2 k3 k5 : Option Value} {f : Fam}
abbrev Tl (f : Fam) (bm : List Value) : Prop := ∀ X : String, bm.contains (.type X) = f.tail.contains (.type X)
theorem chk_new (T : Tl f bm) {rest : List Value} {kw : List (Str × Value)} {Q : Unit → Shared → Prop} (hC : h.get? C = some (excClassObj nm q C N bs bm hdct sn sub ab col dd k0 k1 k2 k3 k5 f.newId)) (hq : Q () ⟨h, g, d, t, os⟩) :
    wpAny M A (checkBuiltinCall f.newId ⟨.ref C :: rest, kw⟩) Q E ⟨h, g, d, t, os⟩ := by
  have F := f.facts
  have c1 : (Value.ref C :: bm).contains (.type f.B) = true := by rw [List.contains_cons, T, f.hasB, Bool.or_true]
  have c2 := F.noStar
  simp only [checkBuiltinCall, F.newKind, F.newSplit, F.newRow]
  repeat (first | refine wpAny_loadPart_at hC ?_ | (refine wpAny_isSubtype_exc hC ?_; rw [c1]) | refine wpAny_staticBase_exc hC ?_ | refine wpAny_madeBy_exc hC ?_ | simp only [bne_self_eq_false, Bool.false_eq_true, if_false] | wp_step)
  exact hq
theorem chk_init (T : Tl f bm) {e : Addr} {oe : Obj} {rest : List Value} {Q : Unit → Shared → Prop} (hC : h.get? C = some (excClassObj nm q C N bs bm hdct sn sub ab col dd k0 k1 k2 k3 k5 f.newId)) (he : h.get? e = some oe) (hc : oe.cls = .ref C) (hq : Q () ⟨h, g, d, t, os⟩) :
    wpAny M A (checkBuiltinCall f.initId ⟨.ref e :: rest, []⟩) Q E ⟨h, g, d, t, os⟩ := by
  have F := f.init
  have c1 : (Value.ref C :: bm).contains (.type f.own) = true := by rw [List.contains_cons, T, f.hasO, Bool.or_true]
  have c2 := F.star
  simp only [checkBuiltinCall, F.kind, F.split, F.row]
  repeat (first | (with_reducible refine wpAny_loadPart_at he ?_; rw [hc]) | with_reducible refine wpAny_loadPart_at hC ?_ | (with_reducible refine wpAny_isSubtype_exc hC ?_; rw [c1]) | wp_step)
  refine wpAny_onRaise ?_
  rw [show ∀ (a b : String) (n : Nat), Bind.check ⟨.positional, "*", f.own, .self, [⟨"args", .varPos, false⟩]⟩ a b n (List.map (fun x => x.fst) ({ pos := Value.ref e :: rest } : Args).kw) = pure () from
    fun a b n => by exact check_star_args _ _ _ _ _ _]
  exact wpAny_pure hq
theorem run_new (T : Tl f bm) {rest : List Value} {kw : List (Str × Value)} (hC : h.get? C = some (excClassObj nm q C N bs bm hdct sn sub ab col dd k0 k1 k2 k3 k5 f.newId))
    (hq : R (.ok (.ret (.ref (h.objs.size + 1)))) ⟨(h.push (W.kdv_tup rest)).push (excO C h.objs.size), g, d, t, os⟩) (hz : rest.length ≤ sizeLine) :
    codeAny (model prog w) A (.builtin f.newId ⟨.ref C :: rest, kw⟩) R ⟨h, g, d, t, os⟩ := by
  have F := f.facts
  have c0 := F.ends
  have c1 : (Value.ref C :: bm).contains (.type f.B) = true := by rw [List.contains_cons, T, f.hasB, Bool.or_true]
  have c2 : (Value.ref C :: bm).contains (.type "AttributeError") = false := by rw [List.contains_cons, T, f.noA]; rfl
  have c3 : (Value.ref C :: bm).contains (.type "NameError") = false := by rw [List.contains_cons, T, f.noN]; rfl
  refine codeAny_builtinAt F.entry ?_
  unfold Builtin.«BaseException.__new__»
  refine PySem.wpAt_bind ?_
  show PySem.wpAt _ _ _ (stack >>= _) _ _ _
  refine PySem.wpAt_bind (PySem.wpAt_stack fun pp bl => PySem.wpAt_of_wpAny ?_)
  wp_walk
  refine PySem.wpAt_of_wpAny ?_
  rw [F.owner]
  repeat (first | with_reducible refine wpAny_madeHere_exc F.canon hC ?_ | with_reducible refine wpAny_loadPart_at hC ?_ | (with_reducible refine wpAny_isSubtype_exc hC ?_; first | rw [c1] | rw [c2] | rw [c3]) | wp_step)
  show R _ _
  rw [Heap.size_push]
  exact hq
/-- type.__call__ on such a class: the object, then what stands as __init__ -/
theorem type_call {rest : List Value} {kw : List (Str × Value)} {iv : Value} {Q : Fin → Shared → Prop} (T : Tl f bm) (hC : h.get? C = some (excClassObj nm q C N bs bm hdct sn sub ab col dd k0 k1 k2 k3 k5 f.newId))
    (hi : W.Looks (model prog w) h (typeLookup (.ref C) "__init__") (some iv)) (hb : ∀ self, W.Looks (model prog w) h (bindSpecial iv self) (iv, [self])) (hz : rest.length ≤ sizeLine)
    (hq : codeAny (model prog w) A (.call iv ⟨.ref (h.objs.size + 1) :: rest, kw⟩) (fun r s' => match r with | .ok (.ret v) => v = .none ∧ Q (.done (.ret (.ref (h.objs.size + 1)))) s' | .ok _ => False | .error e => E e s')
      ⟨(h.push (W.kdv_tup rest)).push (excO C h.objs.size), g, d, t, os⟩) :
    wpAny (model prog w) A (Builtin.«type.__call__» ⟨.ref C :: rest, kw⟩) Q E ⟨h, g, d, t, os⟩ := by
  repeat (first | with_reducible refine wpAny_loadPart_at hC ?_ | with_reducible refine wpAny_madeBy_exc hC ?_ | wp_step)
  refine codeAny_call_builtin_code (Code.quiet_builtin _ f.facts.quiet) (chk_new T hC (run_new T hC ?_ hz))
  show wpAny _ _ _ _ _ _
  have k : ∀ b o, h.get? b = some o → ((h.push (W.kdv_tup rest)).push (excO C h.objs.size)).get? b = some o := fun b o e => by exact Heap.get?_push_of_some _ (Heap.get?_push_of_some _ e)
  have k1 := k _ _ hC
  have k2 : ((h.push (W.kdv_tup rest)).push (excO C h.objs.size)).get? (h.objs.size + 1) = some (excO C h.objs.size) := by heap_get
  have k3 : (Value.ref C :: bm).contains (.ref C) = true := by simp
  have i1 := hi.keeps k
  have b1 := (hb (.ref (h.objs.size + 1))).keeps k
  unfold isInstance
  repeat (first | with_reducible refine wpAny_loadPart_at k2 ?_ | (with_reducible refine wpAny_isSubtype_exc k1 ?_; rw [k3]) | wp_step)
  show wpAny _ _ (typeLookup (.ref C) _) _ _ _
  refine i1.at (wpAny_holding (wpAny_bind (b1.at (wpAny_bind (wpAny_call (codeAny_mono hq fun r s' z => ?_))))))
  rcases r with e | (v | _ | _ | _) <;> first | exact z | exact z.elim | skip
  obtain ⟨rfl, z⟩ := z
  first
    | exact wpAny_pure (wpAny_pure z)
    | (wp_walk; exact z)
theorem call_any {rest : List Value} {kw : List (Str × Value)} {iv : Value} (T : Tl f bm) (hC : h.get? C = some (excClassObj nm q C N bs bm hdct sn sub ab col dd k0 k1 k2 k3 k5 f.newId))
    (hi : W.Looks (model prog w) h (typeLookup (.ref C) "__init__") (some iv)) (hb : ∀ self, W.Looks (model prog w) h (bindSpecial iv self) (iv, [self])) (hz : rest.length ≤ sizeLine)
    (hq : codeAny (model prog w) (A.under (.builtin "type.__call__" ⟨.ref C :: rest, kw⟩)) (.call iv ⟨.ref (h.objs.size + 1) :: rest, kw⟩) (W.InitBack (h.objs.size + 1) R) ⟨(h.push (W.kdv_tup rest)).push (excO C h.objs.size), g, d, t, os⟩) :
    codeAny (model prog w) A (.call (.ref C) ⟨rest, kw⟩) R ⟨h, g, d, t, os⟩ := by
  have f1 := tc_lookup
  have f2 := tc_bind (.ref C)
  have f3 : (⟨h, g, d, t, os⟩ : Shared).TypeIs (.ref C) "type" := by exact ⟨_, hC, rfl⟩
  refine codeAny_of_tree ?_
  show wpAny _ _ (callAny (.ref C) _) _ _ _
  repeat (any_goals (first | assumption | with_reducible refine wpAny_loadPart_at hC ?_ | wp_step))
  refine ⟨rfl, codeAny_call_builtin_at (Code.quiet_builtin _ (by decide +kernel)) entry_typeCall (wpAny_check_type_call_sub hC (type_call T hC hi hb hz ?_))⟩
  refine codeAny_mono hq fun r s' z => ?_
  rcases r with e | (v | _ | _ | _) <;> exact z
/-- the family's __init__: the args are laid anew -/
theorem init_any (T : Tl f bm) {e t0 : Addr} {rest : List Value} (hC : h.get? C = some (excClassObj nm q C N bs bm hdct sn sub ab col dd k0 k1 k2 k3 k5 f.newId)) (he : h.get? e = some (excO C t0)) (hz : rest.length ≤ sizeLine)
    (hq : ∀ h' t1, (∀ b o, b ≠ e → h.get? b = some o → h'.get? b = some o) → h'.get? e = some (excO C t1) → R (.ok (.ret .none)) ⟨h', g, d, t, os⟩) :
    codeAny (model prog w) A (.call (.builtin f.initId) ⟨.ref e :: rest, []⟩) R ⟨h, g, d, t, os⟩ := by
  have F := f.init
  refine codeAny_call_builtin F.slot.plain F.entry (chk_init T hC he rfl ?_)
  wp_walk
  refine hq _ h.objs.size (fun b o hb ho => ?_) ?_
  · exact (Heap.get?_update_other _ _ (Ne.symm hb)).trans (Heap.get?_push_of_some _ ho)
  · exact (Heap.get?_update_self _ (Heap.get?_push_of_some _ he) rfl).trans rfl
end
section
variable {prog : Program} {w : World} {A : Around} {E : Value → Shared → Prop} {R : Result → Shared → Prop} {hp : Heap} {g : Array GenState} {d : Drawn} {t : Nat} {os : OsState} {K : W.Frag} {name : Str} {tk : Tok} {v : Value} {x C t0 dx : Addr} {f : Fam}
open Builtin Builtin.ObjectAttr in
/-- the first field -/
theorem osa_first (X : K.In hp) (hx : hp.get? x = some (excO C t0)) (ov : W.excOver K C f.tail = true) (hh : W.hasDictIn K C = true) (ha : W.takerIn K C name = some none)
    (hq : ∀ h' tk' dx, (∀ b o, b ≠ x → hp.get? b = some o → h'.get? b = some o) → hp.objs.size ≤ dx → dx ≠ x → h'.get? x = some { cls := .ref C, dict := some dx, data := .fields #[.ref t0, .none, .none, .none, .bool false, .none] } →
      h'.Ns1 dx (fun y => if y = name then some v else none) → R (.ok (.ret .none)) ⟨h', g, d, tk', os⟩) :
    codeAny (model prog w) A (.call (.builtin "object.__setattr__") ⟨[.ref x, .str name tk, v], []⟩) R ⟨hp, g, d, t, os⟩ := by
  have ne : x ≠ hp.objs.size := Nat.ne_of_lt (Heap.lt_size hx)
  obtain ⟨cd, hc, hd⟩ := W.any_some hh
  refine W.osa_openX (od := none) f.sf X ⟨hx, rfl, rfl, trivial⟩ ov ha fun b => ?_
  refine wpAny_bind (wpAny_pure (wpAny_bind (W.instanceDict_exc (t := t0) (c2 := .none) hx (W.looks_clsIn X hc) hd ?_)))
  show wpAny _ _ (storeInDict hp.objs.size (.str name tk) name v) _ _ _
  refine PySem.HandSPX.store_in_new ?_ fun h' tk' hn sb => ?_
  · exact ⟨_, #[], _, (Heap.get?_update_ne _ _ _ _ ne.symm).trans (Heap.get?_push_at rfl rfl), rfl, fun e he => absurd he (by simp), fun _ => rfl⟩
  · have hx1 : (hp.push (W.dictOf [] 0)).get? x = some (excO C t0) := Heap.get?_push_of_some _ hx
    refine hq h' tk' hp.objs.size (fun b o hb ho => ?_) (Nat.le_refl _) ne.symm ?_ hn
    · exact (sb.2 b (Nat.ne_of_lt (Heap.lt_size ho))).trans ((Heap.get?_update_ne _ _ _ _ hb).trans (Heap.get?_push_of_some _ ho))
    · exact (sb.2 x ne).trans (Heap.get?_update_self _ hx1 rfl)
open Builtin Builtin.ObjectAttr in
/-- a further field -/
theorem osa_more {m0 : Str → Option Value} {ns : List Str} (X : K.In hp) (hx : hp.get? x = some { cls := .ref C, dict := some dx, data := .fields #[.ref t0, .none, .none, .none, .bool false, .none] }) (hn : hp.Ns1 dx m0) (hw : Within m0 ns) (hz : ns.length ≤ 1000)
    (ov : W.excOver K C f.tail = true) (hh : W.hasDictIn K C = true) (ha : W.takerIn K C name = some none)
    (hq : ∀ h' tk', (∀ b o, b ≠ dx → hp.get? b = some o → h'.get? b = some o) → h'.Ns1 dx (fun y => if y = name then some v else m0 y) → R (.ok (.ret .none)) ⟨h', g, d, tk', os⟩) :
    codeAny (model prog w) A (.call (.builtin "object.__setattr__") ⟨[.ref x, .str name tk, v], []⟩) R ⟨hp, g, d, t, os⟩ := by
  obtain ⟨oD, esD, epD, hoD, hdD, _⟩ := hn.count hw
  obtain ⟨cd, hc, hd⟩ := W.any_some hh
  refine W.osa_openX (od := some oD) f.sf X ⟨hx, rfl, rfl, hoD⟩ ov ha fun b => ?_
  refine wpAny_bind (wpAny_pure (wpAny_bind (wpAny_bind (wpAny_loadPart hx (wpAny_bind ((W.looks_clsIn X hc).here ?_))))))
  rw [hd]
  refine wpAny_pure (a := some dx) ?_
  exact PySem.OEX.store_in_old hn hw hz fun h' tk' hn' sb => hq h' tk' (fun b o hb ho => (sb.2 b hb).trans ho) hn'
end
end DX
end
section
set_option Elab.async false
set_option linter.all false
set_option maxRecDepth 100000
set_option maxHeartbeats 2000000
/-! EB: what is asked of an own exception class. -/
namespace DL
open PySem PySem.Spec L2 DX
open PyProof.Rows hiding St
/-- what the written part says of an own exception class -/
structure EC (K : PySem.W.Frag) (f : Fam) (C : Addr) : Prop where
  ini : PySem.W.excInitIn K C f.tail f.newId = true
  ov : PySem.W.excOver K C f.tail = true
  hd : PySem.W.hasDictIn K C = true
  sa : PySem.W.findIn K (.ref C) "__setattr__" = some (some (.builtin "object.__setattr__"))
  kC : PySem.W.keepIn K (.ref C) = true
  exC : PySem.W.subIn K (.ref C) (.type "BaseException") = some true
  tyC : PySem.W.typeIn K (.ref C) = some (.type "type")
  ga : PySem.W.findIn K (.ref C) "__getattribute__" = some (some (.builtin "BaseException.__getattribute__"))
  gg : PySem.W.findIn K (.ref C) "__getattr__" = some none
  ca : PySem.W.findIn K (.ref C) "__class__" = some (some (.builtin "object.__class__"))
  cg : PySem.W.specialIn K (.builtin "object.__class__") "__get__" = some (some (.builtin "getset_descriptor.__get__"))
  ct : PySem.W.takesIn K (.builtin "object.__class__") = some true
  mo : PySem.W.mroIn K C (.type "object") = some true
def eqB {α : Type} [DecidableEq α] (a b : α) : Bool := decide (a = b)
def ecB (K : PySem.W.Frag) (f : Fam) (C : Addr) : Bool :=
  PySem.W.excInitIn K C f.tail f.newId && PySem.W.excOver K C f.tail && PySem.W.hasDictIn K C && (PySem.W.findIn K (.ref C) "__setattr__" == some (some (.builtin "object.__setattr__"))) && PySem.W.keepIn K (.ref C) &&
  (PySem.W.subIn K (.ref C) (.type "BaseException") == some true) && (PySem.W.typeIn K (.ref C) == some (.type "type")) && (PySem.W.findIn K (.ref C) "__getattribute__" == some (some (.builtin "BaseException.__getattribute__"))) &&
  (PySem.W.findIn K (.ref C) "__getattr__" == some none) && (PySem.W.findIn K (.ref C) "__class__" == some (some (.builtin "object.__class__"))) && (PySem.W.specialIn K (.builtin "object.__class__") "__get__" == some (some (.builtin "getset_descriptor.__get__"))) &&
  (PySem.W.takesIn K (.builtin "object.__class__") == some true) && (PySem.W.mroIn K C (.type "object") == some true)
theorem ecB_ok {K : PySem.W.Frag} {f : Fam} {C : Addr} (h : ecB K f C = true) : EC K f C := by
  unfold ecB at h
  simp only [Bool.and_eq_true, beq_iff_eq] at h
  obtain ⟨⟨⟨⟨⟨⟨⟨⟨⟨⟨⟨⟨a, b⟩, c⟩, d⟩, e⟩, f⟩, g⟩, i⟩, j⟩, k⟩, l⟩, m⟩, n⟩ := h
  exact ⟨a, b, c, d, e, f, g, i, j, k, l, m, n⟩

end DL
end
section
set_option Elab.async false
set_option linter.all false
set_option maxRecDepth 100000
set_option maxHeartbeats 4000000
namespace K13
open PySem PySem.Spec L2
open PyProof.Rows hiding St
def top (i : Nat) : Stmt := PySem.Challenge.pw_farlook_k13_rules_by_form_and_refusals_a.main.body.getD i (.Pass ⟨0, 0, 0, 0⟩)
/-- the first statement of a class's body -/
def inC (i : Nat) : Stmt := match top i with
  | .ClassDef _ _ _ b _ _ _ _ _ _ _ => b.getD 0 (.Pass ⟨0, 0, 0, 0⟩)
  | s => s
abbrev s_is_whole : Stmt := top 41
abbrev N_is_whole : List Str := ["thing", "low", "high"]
abbrev s_is_name : Stmt := top 42
abbrev N_is_name : List Str := ["thing", "sign"]
abbrev s_is_text : Stmt := top 43
abbrev N_is_text : List Str := ["thing", "sign"]
abbrev s_is_number : Stmt := top 44
abbrev N_is_number : List Str := ["thing"]
abbrev s_is_pair : Stmt := top 45
abbrev N_is_pair : List Str := ["thing", "word"]
abbrev s_is_thing : Stmt := top 46
abbrev N_is_thing : List Str := ["thing"]
abbrev s_is_worth_within : Stmt := top 47
abbrev N_is_worth_within : List Str := ["thing", "deep", "part"]
abbrev s_is_worth : Stmt := top 48
abbrev N_is_worth : List Str := ["thing"]
abbrev s_is_rule : Stmt := top 52
abbrev N_is_rule : List Str := ["thing", "word", "parts"]
abbrev s_are_rules : Stmt := top 53
abbrev N_are_rules : List Str := ["thing", "led_names", "counted_names", "rule"]
abbrev s__law_cell : Stmt := top 55
abbrev N__law_cell : List Str := ["script", "k"]
abbrev s__law_purse : Stmt := top 56
abbrev N__law_purse : List Str := ["cell"]
abbrev s__law_take : Stmt := top 57
abbrev N__law_take : List Str := ["purse", "below", "digit", "left", "right"]
abbrev s__law_pool : Stmt := top 58
abbrev N__law_pool : List Str := ["purse", "size", "letters", "way", "first", "step", "words", "stem", "at", "head", "tail", "found", "k", "name"]
abbrev s__law_rules : Stmt := top 59
abbrev N__law_rules : List Str := ["purse", "pool", "found", "ruled", "noted", "k", "name", "other", "worth", "rule"]
abbrev s__law_spoilt : Stmt := top 60
abbrev N__law_spoilt : List Str := ["purse", "rules", "pool", "way", "at", "name", "odd", "deep", "both", "one"]
abbrev s__law_called : Stmt := top 61
abbrev N__law_called : List Str := ["thing", "sign"]
abbrev s__law_worthy : Stmt := top 62
abbrev N__law_worthy : List Str := ["thing", "deep", "part"]
abbrev s__law_rule_good : Stmt := top 63
abbrev N__law_rule_good : List Str := ["rule", "sizes"]
abbrev s__law_good : Stmt := top 64
abbrev N__law_good : List Str := ["thing", "ruled", "noted", "rule"]
abbrev s__law_joined_one : Stmt := top 65
abbrev N__law_joined_one : List Str := ["script", "k", "purse", "pool", "rules", "step", "thing", "turn", "due", "kept"]
abbrev s__law_cell_two : Stmt := top 66
abbrev N__law_cell_two : List Str := ["script", "k"]
abbrev s__law_box : Stmt := top 67
abbrev N__law_box : List Str := ["cell"]
abbrev s__law_take_two : Stmt := top 68
abbrev N__law_take_two : List Str := ["box", "much", "digit", "number"]
abbrev s__law_same : Stmt := top 69
abbrev N__law_same : List Str := ["gained", "thing"]
abbrev s__law_any : Stmt := top 70
abbrev N__law_any : List Str := ["box", "some"]
abbrev s__law_marks_first : Stmt := top 71
abbrev N__law_marks_first : List Str := ["e", "marks"]
abbrev s__law_marks_last : Stmt := top 72
abbrev N__law_marks_last : List Str := ["e", "marks"]
abbrev s__law_made_first : Stmt := top 73
abbrev N__law_made_first : List Str := ["one", "made"]
abbrev s__law_made_last : Stmt := top 74
abbrev N__law_made_last : List Str := ["one", "made"]
abbrev s__law_families : Stmt := top 75
abbrev N__law_families : List Str := ["e", "own"]
abbrev s__law_family_of : Stmt := top 76
abbrev N__law_family_of : List Str := ["place"]
abbrev s__law_fields_right : Stmt := top 77
abbrev N__law_fields_right : List Str := ["place", "e", "one", "before"]
abbrev s__law_taken : Stmt := top 78
abbrev N__law_taken : List Str := ["e", "place"]
abbrev s__law_by_names_right : Stmt := top 79
abbrev N__law_by_names_right : List Str := ["one", "other", "made", "both", "e"]
abbrev s__law_right : Stmt := top 80
abbrev N__law_right : List Str := ["box", "one", "before", "made", "place", "e", "marks", "k"]
abbrev s__law_joined_two : Stmt := top 81
abbrev N__law_joined_two : List Str := ["script", "k"]
abbrev s_law : Stmt := top 82
abbrev N_law : List Str := ["script"]
abbrev s_NoNumber : Stmt := inC 4
abbrev N_NoNumber : List Str := ["self", "found"]
abbrev s_NoName : Stmt := inC 5
abbrev N_NoName : List Str := ["self", "found"]
abbrev s_NoWorth : Stmt := inC 6
abbrev N_NoWorth : List Str := ["self", "found"]
abbrev s_NoTree : Stmt := inC 7
abbrev N_NoTree : List Str := ["self", "found"]
abbrev s_NoDeed : Stmt := inC 8
abbrev N_NoDeed : List Str := ["self", "found"]
abbrev s_NoParams : Stmt := inC 9
abbrev N_NoParams : List Str := ["self", "found"]
abbrev s_NoText : Stmt := inC 10
abbrev N_NoText : List Str := ["self", "found"]
abbrev s_NoRow : Stmt := inC 11
abbrev N_NoRow : List Str := ["self", "at"]
abbrev s_NoStore : Stmt := inC 12
abbrev N_NoStore : List Str := ["self", "found"]
abbrev s_NoKind : Stmt := inC 13
abbrev N_NoKind : List Str := ["self", "found"]
abbrev s_NoRows : Stmt := inC 14
abbrev N_NoRows : List Str := ["self", "found"]
abbrev s_NoRules : Stmt := inC 15
abbrev N_NoRules : List Str := ["self", "found"]
abbrev s_NoAsk : Stmt := inC 16
abbrev N_NoAsk : List Str := ["self", "found"]
abbrev s_NoWay : Stmt := inC 17
abbrev N_NoWay : List Str := ["self", "found"]
abbrev s_NoLine : Stmt := inC 18
abbrev N_NoLine : List Str := ["self", "found"]
abbrev s_NoPaper : Stmt := inC 19
abbrev N_NoPaper : List Str := ["self", "found"]
abbrev s_NoList : Stmt := inC 20
abbrev N_NoList : List Str := ["self", "found"]
abbrev s_NoTruth : Stmt := inC 21
abbrev N_NoTruth : List Str := ["self", "found"]
abbrev s_Unfit : Stmt := inC 22
abbrev N_Unfit : List Str := ["self", "found"]
abbrev s_Doubled : Stmt := inC 23
abbrev N_Doubled : List Str := ["self", "found"]
abbrev s_TooMany : Stmt := inC 24
abbrev N_TooMany : List Str := ["self", "many"]
abbrev s_NoThing : Stmt := inC 25
abbrev N_NoThing : List Str := ["self", "found"]
abbrev s_NotThere : Stmt := inC 26
abbrev N_NotThere : List Str := ["self", "found"]
abbrev s_Fault : Stmt := inC 27
abbrev N_Fault : List Str := ["self", "why", "found"]
abbrev s_Ended : Stmt := inC 28
abbrev N_Ended : List Str := ["self", "found"]
abbrev s_Over : Stmt := inC 29
abbrev N_Over : List Str := ["self"]
/-- the class's place -/
abbrev ca (K : PySem.W.Frag) (x : Str) : Addr := He.ga K x
/-- every class that isinstance asks for -/
def clsV (K : PySem.W.Frag) : List Value := [.ref (ca K "InnerError"), .ref (ca K "Missing"), .ref (ca K "Barred"), .ref (ca K "NoNumber"), .ref (ca K "NoName"), .ref (ca K "NoWorth"), .ref (ca K "NoTree"), .ref (ca K "NoDeed"), .ref (ca K "NoParams"), .ref (ca K "NoText"), .ref (ca K "NoRow"), .ref (ca K "NoStore"), .ref (ca K "NoKind"), .ref (ca K "NoRows"), .ref (ca K "NoRules"), .ref (ca K "NoAsk"), .ref (ca K "NoWay"), .ref (ca K "NoLine"), .ref (ca K "NoPaper"), .ref (ca K "NoList"), .ref (ca K "NoTruth"), .ref (ca K "Unfit"), .ref (ca K "Doubled"), .ref (ca K "TooMany"), .ref (ca K "NoThing"), .ref (ca K "NotThere"), .ref (ca K "Fault"), .ref (ca K "Ended"), .ref (ca K "Over"), .type "ValueError", .type "KeyError", .type "LookupError"]
/-- isinstance, every class against every class -/
def isTab (K : PySem.W.Frag) : List (List (Option Bool)) := [("InnerError" : Str), ("Missing" : Str), ("Barred" : Str), ("NoNumber" : Str), ("NoName" : Str), ("NoWorth" : Str), ("NoTree" : Str), ("NoDeed" : Str), ("NoParams" : Str), ("NoText" : Str), ("NoRow" : Str), ("NoStore" : Str), ("NoKind" : Str), ("NoRows" : Str), ("NoRules" : Str), ("NoAsk" : Str), ("NoWay" : Str), ("NoLine" : Str), ("NoPaper" : Str), ("NoList" : Str), ("NoTruth" : Str), ("Unfit" : Str), ("Doubled" : Str), ("TooMany" : Str), ("NoThing" : Str), ("NotThere" : Str), ("Fault" : Str), ("Ended" : Str), ("Over" : Str)].map fun c => (clsV K).map fun v => PySem.W.kitOne K (.ref (ca K c)) v
def wantTab : List (List (Option Bool)) := [
  [some true, some false, some false, some false, some false, some false, some false, some false, some false, some false, some false, some false, some false, some false, some false, some false, some false, some false, some false, some false, some false, some false, some false, some false, some false, some false, some false, some false, some false, some true, some false, some false],
  [some false, some true, some false, some false, some false, some false, some false, some false, some false, some false, some false, some false, some false, some false, some false, some false, some false, some false, some false, some false, some false, some false, some false, some false, some false, some false, some false, some false, some false, some false, some true, some true],
  [some false, some false, some true, some false, some false, some false, some false, some false, some false, some false, some false, some false, some false, some false, some false, some false, some false, some false, some false, some false, some false, some false, some false, some false, some false, some false, some false, some false, some false, some false, some false, some true],
  [some true, some false, some false, some true, some false, some false, some false, some false, some false, some false, some false, some false, some false, some false, some false, some false, some false, some false, some false, some false, some false, some false, some false, some false, some false, some false, some false, some false, some false, some true, some false, some false],
  [some true, some false, some false, some false, some true, some false, some false, some false, some false, some false, some false, some false, some false, some false, some false, some false, some false, some false, some false, some false, some false, some false, some false, some false, some false, some false, some false, some false, some false, some true, some false, some false],
  [some true, some false, some false, some false, some false, some true, some false, some false, some false, some false, some false, some false, some false, some false, some false, some false, some false, some false, some false, some false, some false, some false, some false, some false, some false, some false, some false, some false, some false, some true, some false, some false],
  [some true, some false, some false, some false, some false, some false, some true, some false, some false, some false, some false, some false, some false, some false, some false, some false, some false, some false, some false, some false, some false, some false, some false, some false, some false, some false, some false, some false, some false, some true, some false, some false],
  [some true, some false, some false, some false, some false, some false, some false, some true, some false, some false, some false, some false, some false, some false, some false, some false, some false, some false, some false, some false, some false, some false, some false, some false, some false, some false, some false, some false, some false, some true, some false, some false],
  [some true, some false, some false, some false, some false, some false, some false, some false, some true, some false, some false, some false, some false, some false, some false, some false, some false, some false, some false, some false, some false, some false, some false, some false, some false, some false, some false, some false, some false, some true, some false, some false],
  [some true, some false, some false, some false, some false, some false, some false, some false, some false, some true, some false, some false, some false, some false, some false, some false, some false, some false, some false, some false, some false, some false, some false, some false, some false, some false, some false, some false, some false, some true, some false, some false],
  [some true, some false, some false, some false, some false, some false, some false, some false, some false, some false, some true, some false, some false, some false, some false, some false, some false, some false, some false, some false, some false, some false, some false, some false, some false, some false, some false, some false, some false, some true, some false, some false],
  [some true, some false, some false, some false, some false, some false, some false, some false, some false, some false, some false, some true, some false, some false, some false, some false, some false, some false, some false, some false, some false, some false, some false, some false, some false, some false, some false, some false, some false, some true, some false, some false],
  [some true, some false, some false, some false, some false, some false, some false, some false, some false, some false, some false, some false, some true, some false, some false, some false, some false, some false, some false, some false, some false, some false, some false, some false, some false, some false, some false, some false, some false, some true, some false, some false],
  [some true, some false, some false, some false, some false, some false, some false, some false, some false, some false, some false, some false, some false, some true, some false, some false, some false, some false, some false, some false, some false, some false, some false, some false, some false, some false, some false, some false, some false, some true, some false, some false],
  [some true, some false, some false, some false, some false, some false, some false, some false, some false, some false, some false, some false, some false, some false, some true, some false, some false, some false, some false, some false, some false, some false, some false, some false, some false, some false, some false, some false, some false, some true, some false, some false],
  [some true, some false, some false, some false, some false, some false, some false, some false, some false, some false, some false, some false, some false, some false, some false, some true, some false, some false, some false, some false, some false, some false, some false, some false, some false, some false, some false, some false, some false, some true, some false, some false],
  [some true, some false, some false, some false, some false, some false, some false, some false, some false, some false, some false, some false, some false, some false, some false, some false, some true, some false, some false, some false, some false, some false, some false, some false, some false, some false, some false, some false, some false, some true, some false, some false],
  [some true, some false, some false, some false, some false, some false, some false, some false, some false, some false, some false, some false, some false, some false, some false, some false, some false, some true, some false, some false, some false, some false, some false, some false, some false, some false, some false, some false, some false, some true, some false, some false],
  [some true, some false, some false, some false, some false, some false, some false, some false, some false, some false, some false, some false, some false, some false, some false, some false, some false, some false, some true, some false, some false, some false, some false, some false, some false, some false, some false, some false, some false, some true, some false, some false],
  [some true, some false, some false, some false, some false, some false, some false, some false, some false, some false, some false, some false, some false, some false, some false, some false, some false, some false, some false, some true, some false, some false, some false, some false, some false, some false, some false, some false, some false, some true, some false, some false],
  [some true, some false, some false, some false, some false, some false, some false, some false, some false, some false, some false, some false, some false, some false, some false, some false, some false, some false, some false, some false, some true, some false, some false, some false, some false, some false, some false, some false, some false, some true, some false, some false],
  [some true, some false, some false, some false, some false, some false, some false, some false, some false, some false, some false, some false, some false, some false, some false, some false, some false, some false, some false, some false, some false, some true, some false, some false, some false, some false, some false, some false, some false, some true, some false, some false],
  [some true, some false, some false, some false, some false, some false, some false, some false, some false, some false, some false, some false, some false, some false, some false, some false, some false, some false, some false, some false, some false, some false, some true, some false, some false, some false, some false, some false, some false, some true, some false, some false],
  [some true, some false, some false, some false, some false, some false, some false, some false, some false, some false, some false, some false, some false, some false, some false, some false, some false, some false, some false, some false, some false, some false, some false, some true, some false, some false, some false, some false, some false, some true, some false, some false],
  [some false, some true, some false, some false, some false, some false, some false, some false, some false, some false, some false, some false, some false, some false, some false, some false, some false, some false, some false, some false, some false, some false, some false, some false, some true, some false, some false, some false, some false, some false, some true, some true],
  [some false, some true, some false, some false, some false, some false, some false, some false, some false, some false, some false, some false, some false, some false, some false, some false, some false, some false, some false, some false, some false, some false, some false, some false, some false, some true, some false, some false, some false, some false, some true, some true],
  [some false, some false, some true, some false, some false, some false, some false, some false, some false, some false, some false, some false, some false, some false, some false, some false, some false, some false, some false, some false, some false, some false, some false, some false, some false, some false, some true, some false, some false, some false, some false, some true],
  [some false, some false, some true, some false, some false, some false, some false, some false, some false, some false, some false, some false, some false, some false, some false, some false, some false, some false, some false, some false, some false, some false, some false, some false, some false, some false, some false, some true, some false, some false, some false, some true],
  [some false, some false, some true, some false, some false, some false, some false, some false, some false, some false, some false, some false, some false, some false, some false, some false, some false, some false, some false, some false, some false, some false, some false, some false, some false, some false, some false, some false, some true, some false, some false, some true]]
end K13
end
section
set_option Elab.async false
set_option linter.all false
set_option maxRecDepth 100000
set_option maxHeartbeats 4000000
namespace K13
open PySem PySem.Spec L2 DL DX
open PyProof.Rows hiding St
def D_is_whole : He.DefD := ⟨("is_whole", none), "is_whole", "is_whole", defArgs s_is_whole, defBody s_is_whole, defScope s_is_whole, [], []⟩
def D_is_name : He.DefD := ⟨("is_name", none), "is_name", "is_name", defArgs s_is_name, defBody s_is_name, defScope s_is_name, [], []⟩
def D_is_text : He.DefD := ⟨("is_text", none), "is_text", "is_text", defArgs s_is_text, defBody s_is_text, defScope s_is_text, [], []⟩
def D_is_number : He.DefD := ⟨("is_number", none), "is_number", "is_number", defArgs s_is_number, defBody s_is_number, defScope s_is_number, [], []⟩
def D_is_pair : He.DefD := ⟨("is_pair", none), "is_pair", "is_pair", defArgs s_is_pair, defBody s_is_pair, defScope s_is_pair, [], []⟩
def D_is_thing : He.DefD := ⟨("is_thing", none), "is_thing", "is_thing", defArgs s_is_thing, defBody s_is_thing, defScope s_is_thing, [], []⟩
def D_is_worth_within : He.DefD := ⟨("is_worth_within", none), "is_worth_within", "is_worth_within", defArgs s_is_worth_within, defBody s_is_worth_within, defScope s_is_worth_within, [], []⟩
def D_is_worth : He.DefD := ⟨("is_worth", none), "is_worth", "is_worth", defArgs s_is_worth, defBody s_is_worth, defScope s_is_worth, [], []⟩
def D_is_rule : He.DefD := ⟨("is_rule", none), "is_rule", "is_rule", defArgs s_is_rule, defBody s_is_rule, defScope s_is_rule, [], []⟩
def D_are_rules : He.DefD := ⟨("are_rules", none), "are_rules", "are_rules", defArgs s_are_rules, defBody s_are_rules, defScope s_are_rules, [], []⟩
def D__law_cell : He.DefD := ⟨("_law_cell", none), "_law_cell", "_law_cell", defArgs s__law_cell, defBody s__law_cell, defScope s__law_cell, [], []⟩
def D__law_purse : He.DefD := ⟨("_law_purse", none), "_law_purse", "_law_purse", defArgs s__law_purse, defBody s__law_purse, defScope s__law_purse, [], []⟩
def D__law_take : He.DefD := ⟨("_law_take", none), "_law_take", "_law_take", defArgs s__law_take, defBody s__law_take, defScope s__law_take, [], []⟩
def D__law_pool : He.DefD := ⟨("_law_pool", none), "_law_pool", "_law_pool", defArgs s__law_pool, defBody s__law_pool, defScope s__law_pool, [], []⟩
def D__law_rules : He.DefD := ⟨("_law_rules", none), "_law_rules", "_law_rules", defArgs s__law_rules, defBody s__law_rules, defScope s__law_rules, [], []⟩
def D__law_spoilt : He.DefD := ⟨("_law_spoilt", none), "_law_spoilt", "_law_spoilt", defArgs s__law_spoilt, defBody s__law_spoilt, defScope s__law_spoilt, [], []⟩
def D__law_called : He.DefD := ⟨("_law_called", none), "_law_called", "_law_called", defArgs s__law_called, defBody s__law_called, defScope s__law_called, [], []⟩
def D__law_worthy : He.DefD := ⟨("_law_worthy", none), "_law_worthy", "_law_worthy", defArgs s__law_worthy, defBody s__law_worthy, defScope s__law_worthy, [], []⟩
def D__law_rule_good : He.DefD := ⟨("_law_rule_good", none), "_law_rule_good", "_law_rule_good", defArgs s__law_rule_good, defBody s__law_rule_good, defScope s__law_rule_good, [], []⟩
def D__law_good : He.DefD := ⟨("_law_good", none), "_law_good", "_law_good", defArgs s__law_good, defBody s__law_good, defScope s__law_good, [], []⟩
def D__law_joined_one : He.DefD := ⟨("_law_joined_one", none), "_law_joined_one", "_law_joined_one", defArgs s__law_joined_one, defBody s__law_joined_one, defScope s__law_joined_one, [], []⟩
def D__law_cell_two : He.DefD := ⟨("_law_cell_two", none), "_law_cell_two", "_law_cell_two", defArgs s__law_cell_two, defBody s__law_cell_two, defScope s__law_cell_two, [], []⟩
def D__law_box : He.DefD := ⟨("_law_box", none), "_law_box", "_law_box", defArgs s__law_box, defBody s__law_box, defScope s__law_box, [], []⟩
def D__law_take_two : He.DefD := ⟨("_law_take_two", none), "_law_take_two", "_law_take_two", defArgs s__law_take_two, defBody s__law_take_two, defScope s__law_take_two, [], []⟩
def D__law_same : He.DefD := ⟨("_law_same", none), "_law_same", "_law_same", defArgs s__law_same, defBody s__law_same, defScope s__law_same, [], []⟩
def D__law_any : He.DefD := ⟨("_law_any", none), "_law_any", "_law_any", defArgs s__law_any, defBody s__law_any, defScope s__law_any, [], []⟩
def D__law_marks_first : He.DefD := ⟨("_law_marks_first", none), "_law_marks_first", "_law_marks_first", defArgs s__law_marks_first, defBody s__law_marks_first, defScope s__law_marks_first, [], []⟩
def D__law_marks_last : He.DefD := ⟨("_law_marks_last", none), "_law_marks_last", "_law_marks_last", defArgs s__law_marks_last, defBody s__law_marks_last, defScope s__law_marks_last, [], []⟩
def D__law_made_first : He.DefD := ⟨("_law_made_first", none), "_law_made_first", "_law_made_first", defArgs s__law_made_first, defBody s__law_made_first, defScope s__law_made_first, [], []⟩
def D__law_made_last : He.DefD := ⟨("_law_made_last", none), "_law_made_last", "_law_made_last", defArgs s__law_made_last, defBody s__law_made_last, defScope s__law_made_last, [], []⟩
def D__law_families : He.DefD := ⟨("_law_families", none), "_law_families", "_law_families", defArgs s__law_families, defBody s__law_families, defScope s__law_families, [], []⟩
def D__law_family_of : He.DefD := ⟨("_law_family_of", none), "_law_family_of", "_law_family_of", defArgs s__law_family_of, defBody s__law_family_of, defScope s__law_family_of, [], []⟩
def D__law_fields_right : He.DefD := ⟨("_law_fields_right", none), "_law_fields_right", "_law_fields_right", defArgs s__law_fields_right, defBody s__law_fields_right, defScope s__law_fields_right, [], []⟩
def D__law_taken : He.DefD := ⟨("_law_taken", none), "_law_taken", "_law_taken", defArgs s__law_taken, defBody s__law_taken, defScope s__law_taken, [], []⟩
def D__law_by_names_right : He.DefD := ⟨("_law_by_names_right", none), "_law_by_names_right", "_law_by_names_right", defArgs s__law_by_names_right, defBody s__law_by_names_right, defScope s__law_by_names_right, [], []⟩
def D__law_right : He.DefD := ⟨("_law_right", none), "_law_right", "_law_right", defArgs s__law_right, defBody s__law_right, defScope s__law_right, [], []⟩
def D__law_joined_two : He.DefD := ⟨("_law_joined_two", none), "_law_joined_two", "_law_joined_two", defArgs s__law_joined_two, defBody s__law_joined_two, defScope s__law_joined_two, [], []⟩
def D_law : He.DefD := ⟨("law", none), "law", "law", defArgs s_law, defBody s_law, defScope s_law, [], []⟩
def D_NoNumber : He.DefD := ⟨("NoNumber", some "__init__"), "__init__", "NoNumber.__init__", defArgs s_NoNumber, defBody s_NoNumber, defScope s_NoNumber, [], []⟩
def D_NoName : He.DefD := ⟨("NoName", some "__init__"), "__init__", "NoName.__init__", defArgs s_NoName, defBody s_NoName, defScope s_NoName, [], []⟩
def D_NoWorth : He.DefD := ⟨("NoWorth", some "__init__"), "__init__", "NoWorth.__init__", defArgs s_NoWorth, defBody s_NoWorth, defScope s_NoWorth, [], []⟩
def D_NoTree : He.DefD := ⟨("NoTree", some "__init__"), "__init__", "NoTree.__init__", defArgs s_NoTree, defBody s_NoTree, defScope s_NoTree, [], []⟩
def D_NoDeed : He.DefD := ⟨("NoDeed", some "__init__"), "__init__", "NoDeed.__init__", defArgs s_NoDeed, defBody s_NoDeed, defScope s_NoDeed, [], []⟩
def D_NoParams : He.DefD := ⟨("NoParams", some "__init__"), "__init__", "NoParams.__init__", defArgs s_NoParams, defBody s_NoParams, defScope s_NoParams, [], []⟩
def D_NoText : He.DefD := ⟨("NoText", some "__init__"), "__init__", "NoText.__init__", defArgs s_NoText, defBody s_NoText, defScope s_NoText, [], []⟩
def D_NoRow : He.DefD := ⟨("NoRow", some "__init__"), "__init__", "NoRow.__init__", defArgs s_NoRow, defBody s_NoRow, defScope s_NoRow, [], []⟩
def D_NoStore : He.DefD := ⟨("NoStore", some "__init__"), "__init__", "NoStore.__init__", defArgs s_NoStore, defBody s_NoStore, defScope s_NoStore, [], []⟩
def D_NoKind : He.DefD := ⟨("NoKind", some "__init__"), "__init__", "NoKind.__init__", defArgs s_NoKind, defBody s_NoKind, defScope s_NoKind, [], []⟩
def D_NoRows : He.DefD := ⟨("NoRows", some "__init__"), "__init__", "NoRows.__init__", defArgs s_NoRows, defBody s_NoRows, defScope s_NoRows, [], []⟩
def D_NoRules : He.DefD := ⟨("NoRules", some "__init__"), "__init__", "NoRules.__init__", defArgs s_NoRules, defBody s_NoRules, defScope s_NoRules, [], []⟩
def D_NoAsk : He.DefD := ⟨("NoAsk", some "__init__"), "__init__", "NoAsk.__init__", defArgs s_NoAsk, defBody s_NoAsk, defScope s_NoAsk, [], []⟩
def D_NoWay : He.DefD := ⟨("NoWay", some "__init__"), "__init__", "NoWay.__init__", defArgs s_NoWay, defBody s_NoWay, defScope s_NoWay, [], []⟩
def D_NoLine : He.DefD := ⟨("NoLine", some "__init__"), "__init__", "NoLine.__init__", defArgs s_NoLine, defBody s_NoLine, defScope s_NoLine, [], []⟩
def D_NoPaper : He.DefD := ⟨("NoPaper", some "__init__"), "__init__", "NoPaper.__init__", defArgs s_NoPaper, defBody s_NoPaper, defScope s_NoPaper, [], []⟩
def D_NoList : He.DefD := ⟨("NoList", some "__init__"), "__init__", "NoList.__init__", defArgs s_NoList, defBody s_NoList, defScope s_NoList, [], []⟩
def D_NoTruth : He.DefD := ⟨("NoTruth", some "__init__"), "__init__", "NoTruth.__init__", defArgs s_NoTruth, defBody s_NoTruth, defScope s_NoTruth, [], []⟩
def D_Unfit : He.DefD := ⟨("Unfit", some "__init__"), "__init__", "Unfit.__init__", defArgs s_Unfit, defBody s_Unfit, defScope s_Unfit, [], []⟩
def D_Doubled : He.DefD := ⟨("Doubled", some "__init__"), "__init__", "Doubled.__init__", defArgs s_Doubled, defBody s_Doubled, defScope s_Doubled, [], []⟩
def D_TooMany : He.DefD := ⟨("TooMany", some "__init__"), "__init__", "TooMany.__init__", defArgs s_TooMany, defBody s_TooMany, defScope s_TooMany, [], []⟩
def D_NoThing : He.DefD := ⟨("NoThing", some "__init__"), "__init__", "NoThing.__init__", defArgs s_NoThing, defBody s_NoThing, defScope s_NoThing, [], []⟩
def D_NotThere : He.DefD := ⟨("NotThere", some "__init__"), "__init__", "NotThere.__init__", defArgs s_NotThere, defBody s_NotThere, defScope s_NotThere, [], []⟩
def D_Fault : He.DefD := ⟨("Fault", some "__init__"), "__init__", "Fault.__init__", defArgs s_Fault, defBody s_Fault, defScope s_Fault, [], []⟩
def D_Ended : He.DefD := ⟨("Ended", some "__init__"), "__init__", "Ended.__init__", defArgs s_Ended, defBody s_Ended, defScope s_Ended, [], []⟩
def D_Over : He.DefD := ⟨("Over", some "__init__"), "__init__", "Over.__init__", defArgs s_Over, defBody s_Over, defScope s_Over, [], []⟩
def fn : List He.DefD := [D_is_whole, D_is_name, D_is_text, D_is_number, D_is_pair, D_is_thing, D_is_worth_within, D_is_worth, D_is_rule, D_are_rules, D__law_cell, D__law_purse, D__law_take, D__law_pool, D__law_rules, D__law_spoilt, D__law_called, D__law_worthy, D__law_rule_good, D__law_good, D__law_joined_one, D__law_cell_two, D__law_box, D__law_take_two, D__law_same, D__law_any, D__law_marks_first, D__law_marks_last, D__law_made_first, D__law_made_last, D__law_families, D__law_family_of, D__law_fields_right, D__law_taken, D__law_by_names_right, D__law_right, D__law_joined_two, D_law, D_NoNumber, D_NoName, D_NoWorth, D_NoTree, D_NoDeed, D_NoParams, D_NoText, D_NoRow, D_NoStore, D_NoKind, D_NoRows, D_NoRules, D_NoAsk, D_NoWay, D_NoLine, D_NoPaper, D_NoList, D_NoTruth, D_Unfit, D_Doubled, D_TooMany, D_NoThing, D_NotThere, D_Fault, D_Ended, D_Over]
def fa : List He.Fa := [.free "KeyError", .free "LookupError", .free "ValueError", .free "all", .free "bool", .free "dict", .free "enumerate", .free "int", .free "isinstance", .free "len", .free "list", .free "max", .free "min", .free "ord", .free "range", .free "repr", .free "set", .free "str", .free "tuple", .int "MOST_NUMBER" 1000000000, .int "MOST_THING" 999, .int "MOST_SIGNS" 60, .int "MOST_PARTS" 30, .int "MOST_DEEP" 4, .int "MOST_NAME" 8, .int "PER_CENT" 37, .int "QUOTE" 39, .str "LETTERS" "abcdefghijklmnopqrstuvwxyz", .glo "NO_NAMES", .int "MOST_RULES" 8, .glo "LENGTHS", .glo "is_whole", .glo "is_name", .glo "is_text", .glo "is_number", .glo "is_pair", .glo "is_thing", .glo "is_worth_within", .glo "is_worth", .glo "is_rule", .glo "are_rules", .glo "_law_cell", .glo "_law_purse", .glo "_law_take", .glo "_law_pool", .glo "_law_rules", .glo "_law_spoilt", .glo "_law_called", .glo "_law_worthy", .glo "_law_rule_good", .glo "_law_good", .glo "_law_joined_one", .glo "_law_cell_two", .glo "_law_box", .glo "_law_take_two", .glo "_law_same", .glo "_law_any", .glo "_law_marks_first", .glo "_law_marks_last", .glo "_law_made_first", .glo "_law_made_last", .glo "_law_families", .glo "_law_family_of", .glo "_law_fields_right", .glo "_law_taken", .glo "_law_by_names_right", .glo "_law_right", .glo "_law_joined_two", .glo "law", .glo "InnerError", .glo "Missing", .glo "Barred", .glo "NoNumber", .glo "NoName", .glo "NoWorth", .glo "NoTree", .glo "NoDeed", .glo "NoParams", .glo "NoText", .glo "NoRow", .glo "NoStore", .glo "NoKind", .glo "NoRows", .glo "NoRules", .glo "NoAsk", .glo "NoWay", .glo "NoLine", .glo "NoPaper", .glo "NoList", .glo "NoTruth", .glo "Unfit", .glo "Doubled", .glo "TooMany", .glo "NoThing", .glo "NotThere", .glo "Fault", .glo "Ended", .glo "Over"]
def ts : List He.Tab := [(fun K => ca K "LENGTHS", ["hide", "bar", "as", "give", "count"])]
def fams : List (Str × Fam) := [("InnerError", .ve), ("Missing", .ke), ("Barred", .le), ("NoNumber", .ve), ("NoName", .ve), ("NoWorth", .ve), ("NoTree", .ve), ("NoDeed", .ve), ("NoParams", .ve), ("NoText", .ve), ("NoRow", .ve), ("NoStore", .ve), ("NoKind", .ve), ("NoRows", .ve), ("NoRules", .ve), ("NoAsk", .ve), ("NoWay", .ve), ("NoLine", .ve), ("NoPaper", .ve), ("NoList", .ve), ("NoTruth", .ve), ("Unfit", .ve), ("Doubled", .ve), ("TooMany", .ve), ("NoThing", .ke), ("NotThere", .ke), ("Fault", .le), ("Ended", .le), ("Over", .le)]
def bases : List (Str × Fam) := [("InnerError", .ve), ("Missing", .ke), ("Barred", .le)]
def owns : List Str := ["NoNumber", "NoName", "NoWorth", "NoTree", "NoDeed", "NoParams", "NoText", "NoRow", "NoStore", "NoKind", "NoRows", "NoRules", "NoAsk", "NoWay", "NoLine", "NoPaper", "NoList", "NoTruth", "Unfit", "Doubled", "TooMany", "NoThing", "NotThere", "Fault", "Ended", "Over"]
def flds : List (Str × Str) := [("NoNumber", "found"), ("NoName", "found"), ("NoWorth", "found"), ("NoTree", "found"), ("NoDeed", "found"), ("NoParams", "found"), ("NoText", "found"), ("NoRow", "at"), ("NoStore", "found"), ("NoKind", "found"), ("NoRows", "found"), ("NoRules", "found"), ("NoAsk", "found"), ("NoWay", "found"), ("NoLine", "found"), ("NoPaper", "found"), ("NoList", "found"), ("NoTruth", "found"), ("Unfit", "found"), ("Doubled", "found"), ("TooMany", "many"), ("NoThing", "found"), ("NotThere", "found"), ("Fault", "why"), ("Fault", "found"), ("Ended", "found")]
def tupN : Str := "NO_NAMES"
def tupD : List Str := ["me", "here", "none"]
def tabN : Str := "LENGTHS"
def tabD : List (Str × PyData) := [("hide", (.int 2)), ("bar", (.int 2)), ("as", (.int 3)), ("give", (.int 3)), ("count", (.int 2))]
def listB (K : PySem.W.Frag) : Bool := match K.lookup sysModules with
  | some ⟨.type c, _, _, _⟩ => decide (c = "dict")
  | _ => false
def strsB : List Value → List Str → Bool
  | [], [] => true
  | .str x _ :: r, y :: s => decide (x = y) && strsB r s
  | _, _ => false
def tupB (K : PySem.W.Frag) : Bool := match K.lookup (ca K tupN) with
  | some ⟨.type c, _, .seq its _, _⟩ => decide (c = "tuple") && (decide (its.size ≤ sizeLine) && strsB its.toList tupD)
  | _ => false
def intB (d : PyData) (o : Option (Option Value)) : Bool := match d with
  | .int i => (match o with
    | some (some (.int j _)) => decide (i = j)
    | _ => false)
  | _ => false
def tabB (K : PySem.W.Frag) : Bool := tabD.all fun q => intB q.2 (PySem.W.nsIn K (ca K tabN) q.1)
def ecAll (K : PySem.W.Frag) : Bool := fams.all fun q => ecB K q.2 (ca K q.1)
def biAll (K : PySem.W.Frag) : Bool := bases.all fun q => PySem.W.findIn K (.ref (ca K q.1)) "__init__" == some (some (.builtin q.2.initId))
def valIs (o : Option PySem.W.CFound) (n : String) : Bool := match o with
  | some (.val (.builtin m)) => decide (m = n)
  | _ => false
def crAll (K : PySem.W.Frag) : Bool := bases.all fun q => PySem.W.readsIn K (ca K q.1) (.type "type") && ((PySem.W.specialIn K (.ref (ca K q.1)) "__getattribute__" == some (some (.builtin "type.__getattribute__"))) && valIs (PySem.W.findCls K (.ref (ca K q.1)) (.type "type") "__init__") q.2.initId)
def inAll (K : PySem.W.Frag) : Bool := owns.all fun c => (PySem.W.findIn K (.ref (ca K c)) "__init__" == some (some (.ref (He.fAd K (c, some "__init__"))))) && (PySem.W.typeIn K (.ref (He.fAd K (c, some "__init__"))) == some (.type "function"))
def noAll (K : PySem.W.Frag) : Bool := flds.all fun q => PySem.W.findIn K (.ref (ca K q.1)) q.2 == some none
def more (K : PySem.W.Frag) : Bool := listB K && (tupB K && (tabB K && (ecAll K && (biAll K && (crAll K && (inAll K && (noAll K && decide (isTab K = wantTab))))))))
end K13
end
section
set_option Elab.async false
set_option linter.all false
set_option maxRecDepth 100000
set_option maxHeartbeats 0
namespace K13
open PySem PySem.Spec L2 DL DX
open PyProof.Rows hiding St
def loose0 : List Str := ["InnerError", "Missing", "Barred", "NoNumber", "NoName", "NoWorth", "NoTree", "NoDeed", "NoParams", "NoText", "NoRow", "NoStore", "NoKind", "NoRows", "NoRules", "NoAsk", "NoWay", "NoLine", "NoPaper", "NoList", "NoTruth", "Unfit", "Doubled", "TooMany", "NoThing", "NotThere", "Fault", "Ended", "Over", "MOST_NUMBER"]
def loose1 : List Str := ["MOST_THING", "MOST_SIGNS", "MOST_PARTS", "MOST_DEEP", "MOST_NAME", "PER_CENT", "QUOTE", "LETTERS", "NO_NAMES", "is_whole", "is_name", "is_text", "is_number", "is_pair", "is_thing", "is_worth_within", "is_worth", "MOST_RULES", "LENGTHS", "is_rule", "are_rules", "_law_cell", "_law_purse", "_law_take", "_law_pool", "_law_rules", "_law_spoilt", "_law_called", "_law_worthy", "_law_rule_good"]
def loose2 : List Str := ["_law_good", "_law_joined_one", "_law_cell_two", "_law_box", "_law_take_two", "_law_same", "_law_any", "_law_marks_first", "_law_marks_last", "_law_made_first", "_law_made_last", "_law_families", "_law_family_of", "_law_fields_right", "_law_taken", "_law_by_names_right", "_law_right", "_law_joined_two"]
def looseN : List Str := loose0 ++ loose1 ++ loose2
/-! ### the Hook: a part of the heap, looked at -/
/-- what an object names, but the module's own names -/
def refsN (g : Addr → Option Obj) (a : Addr) : List Addr := match g a with
  | some o => (He.refsD o).filter fun b => !Nat.beq b mainGlobals
  | none => []
def asM (g : Addr → Option Obj) : List Addr :=
  let l1 := refsN g mainGlobals
  let l2 := l1.flatMap (refsN g)
  let l3 := l2.flatMap (refsN g)
  let l4 := l3.flatMap (refsN g)
  sysModules :: cStatics :: mainGlobals :: (l1 ++ (l2 ++ (l3 ++ l4)))
abbrev AlM : Type := He.AlT × Bool
def obsM (K : PySem.W.Frag) : AlM := (He.obsT fa fn ts K, more K)
def valM (w : World) : AlM := (He.valT fn ts w, true)
def obsMG (g : Addr → Option Obj) : AlM := obsM (He.frG g (asM g))
def hk : PySem.W.Hook where
  α := AlM
  obs := fun s => obsMG s.heap.get?
  val := valM
  says := fun w h => ∃ K : PySem.W.Frag, K.In h ∧ obsM K = valM w
  of := fun _ _ e => ⟨_, He.frG_in, e⟩
  keeps := fun _ _ _ ⟨K, hK, c⟩ k => ⟨K, PySem.W.Frag.In.keeps hK k, c⟩
abbrev R : PySem.W.OpenRow := PySem.W.OpenLaw.row PySem.Challenge.rw_farlook_k13_rules_by_form_and_refusals_a
def ob (s : PySem.W.SharedT) : AlM := obsMG (HandSHeadRun.getT s)
theorem ob_eq (s : PySem.W.SharedT) : ob s = hk.obs s.abs := by
  have e : HandSHeadRun.getT s = s.abs.heap.get? := funext (HandSHeadRun.getT_eq s)
  show obsMG (HandSHeadRun.getT s) = obsMG s.abs.heap.get?
  rw [e]
theorem run0 (w : World) : HandSHeadRun.RunEq R (PySem.W.view R.prog [82]) hk ob 12000 looseN (w.withFollow "special-get-raises" false) := by
  intro os
  kernel_rfl
theorem run1 (w : World) : HandSHeadRun.RunEq R (PySem.W.view R.prog [82]) hk ob 12000 looseN (w.withFollow "special-get-raises" true) := by
  intro os
  kernel_rfl
theorem run (w : World) : HandSHeadRun.RunEq R (PySem.W.view R.prog [82]) hk ob 12000 looseN w :=
  PySem.W.byRow2 "special-get-raises" (P := fun w => HandSHeadRun.RunEq R (PySem.W.view R.prog [82]) hk ob 12000 looseN w) run0 run1 w
end K13
end
section
set_option Elab.async false
set_option linter.all false
set_option maxRecDepth 100000
set_option maxHeartbeats 2000000
/-! D0: the data level: what nobody changes is a datum, what changes an address into a map. -/
namespace DL
open PySem PySem.Spec L2
open PyProof.Rows hiding St

theorem Same.rd {H H' : Hp} {a : Addr} {u : HO} (e : Same H H') (h : Rd H a u) : Rd H' a u := by
  rcases h with h | ⟨o, h⟩
  · exact .inl (e a _ h)
  · exact .inr ⟨o, e a _ h⟩
theorem Same.seqT {K : PySem.W.Frag} {H H' : Hp} {a : Addr} {xs : List V} (e : Same H H') (h : SqT K H a xs) : SqT K H' a xs := by
  rcases h with h | h
  · exact .inl (Same.rd e h)
  · exact .inr h
theorem Same.new {H : Hp} {p : Addr} {o : HO} (h : H p = none) : Same H (upd H p o) := fun a u e => by
  rw [upd_ne (ne_of_none e h)]
  exact e

/-! ### data -/
def keyD : Key → PyData
  | .inl i => .int i
  | .inr x => .str x
mutual
inductive DD (K : PySem.W.Frag) (S : Hp) : V → PyData → Prop
  | non : DD K S .non .none
  | bl (b : Bool) : DD K S (.bl b) (.bool b)
  | int (i : Int) : DD K S (.int i) (.int i)
  | str (x : Str) : DD K S (.str x) (.str x)
  | lst {a : Addr} {xs : List V} {ds : List PyData} : SqL K S a xs → DDs K S xs ds → DD K S (.ref a) (.list ds)
  | tup {a : Addr} {xs : List V} {ds : List PyData} : SqT K S a xs → DDs K S xs ds → DD K S (.ref a) (.tuple ds)
  | dct {a : Addr} {kvs : List (Key × V)} {ds : List (PyData × PyData)} : S a = some (.dK kvs) → DDk K S kvs ds → DD K S (.ref a) (.dict ds)
inductive DDs (K : PySem.W.Frag) (S : Hp) : List V → List PyData → Prop
  | nil : DDs K S [] []
  | cons {v : V} {vs : List V} {d : PyData} {ds : List PyData} : DD K S v d → DDs K S vs ds → DDs K S (v :: vs) (d :: ds)
inductive DDk (K : PySem.W.Frag) (S : Hp) : List (Key × V) → List (PyData × PyData) → Prop
  | nil : DDk K S [] []
  | cons {k : Key} {v : V} {vs : List (Key × V)} {d : PyData} {ds : List (PyData × PyData)} : DD K S v d → DDk K S vs ds → DDk K S ((k, v) :: vs) ((keyD k, d) :: ds)
end
section
variable {K : PySem.W.Frag} {S S' : Hp}
mutual
theorem DD.mono (e : Same S S') : ∀ {d : PyData} {v : V}, DD K S v d → DD K S' v d
  | _, _, .non => .non
  | _, _, .bl b => .bl b
  | _, _, .int i => .int i
  | _, _, .str x => .str x
  | _, _, .lst h q => .lst (Same.seq e h) (DDs.mono e q)
  | _, _, .tup h q => .tup (Same.seqT e h) (DDs.mono e q)
  | _, _, .dct h q => .dct (e _ _ h) (DDk.mono e q)
theorem DDs.mono (e : Same S S') : ∀ {ds : List PyData} {vs : List V}, DDs K S vs ds → DDs K S' vs ds
  | _, _, .nil => .nil
  | _, _, .cons h t => .cons (DD.mono e h) (DDs.mono e t)
theorem DDk.mono (e : Same S S') : ∀ {ds : List (PyData × PyData)} {vs : List (Key × V)}, DDk K S vs ds → DDk K S' vs ds
  | _, _, .nil => .nil
  | _, _, .cons h t => .cons (DD.mono e h) (DDk.mono e t)
end
end

/-- a value at the data level: a datum; a thing that changes; a tuple with such things in it -/
inductive AV where
  | dat (d : PyData)
  | ref (a : Addr)
  | tup (xs : List AV)
mutual
inductive RV (K : PySem.W.Frag) (S : Hp) : V → AV → Prop
  | dat {v : V} {d : PyData} : DD K S v d → RV K S v (.dat d)
  | ref (a : Addr) : RV K S (.ref a) (.ref a)
  | tup {a : Addr} {vs : List V} {xs : List AV} : SqT K S a vs → RVs K S vs xs → RV K S (.ref a) (.tup xs)
inductive RVs (K : PySem.W.Frag) (S : Hp) : List V → List AV → Prop
  | nil : RVs K S [] []
  | cons {v : V} {vs : List V} {x : AV} {xs : List AV} : RV K S v x → RVs K S vs xs → RVs K S (v :: vs) (x :: xs)
end
section
variable {K : PySem.W.Frag} {S S' : Hp}
mutual
theorem RV.mono (e : Same S S') : ∀ {x : AV} {v : V}, RV K S v x → RV K S' v x
  | _, _, .dat h => .dat (h.mono e)
  | _, _, .ref a => .ref a
  | _, _, .tup h q => .tup (Same.seqT e h) (RVs.mono e q)
theorem RVs.mono (e : Same S S') : ∀ {xs : List AV} {vs : List V}, RVs K S vs xs → RVs K S' vs xs
  | _, _, .nil => .nil
  | _, _, .cons h t => .cons (RV.mono e h) (RVs.mono e t)
end
theorem RVs.length : ∀ {xs : List AV} {vs : List V}, RVs K S vs xs → vs.length = xs.length
  | _, _, .nil => rfl
  | _, _, .cons _ t => congrArg (· + 1) (RVs.length t)
theorem DDs.length : ∀ {xs : List PyData} {vs : List V}, DDs K S vs xs → vs.length = xs.length
  | _, _, .nil => rfl
  | _, _, .cons _ t => congrArg (· + 1) (DDs.length t)
theorem DDk.length : ∀ {xs : List (PyData × PyData)} {vs : List (Key × V)}, DDk K S vs xs → vs.length = xs.length
  | _, _, .nil => rfl
  | _, _, .cons _ t => congrArg (· + 1) (DDk.length t)
theorem RVs.of_dat : ∀ {ds : List PyData} {vs : List V}, DDs K S vs ds → RVs K S vs (ds.map .dat)
  | _, _, .nil => .nil
  | _, _, .cons h t => .cons (.dat h) (RVs.of_dat t)
theorem RVs.to_dat : ∀ {ds : List PyData} {vs : List V}, RVs K S vs (ds.map .dat) → DDs K S vs ds
  | [], _, .nil => .nil
  | _ :: _, _, .cons (.dat h) t => .cons h (RVs.to_dat t)
theorem RVs.get : ∀ {xs : List AV} {vs : List V} {i : Nat} {x : AV}, RVs K S vs xs → xs[i]? = some x → ∃ v, vs[i]? = some v ∧ RV K S v x
  | _, _, _, _, .nil, e => by simp at e
  | _, _, 0, _, .cons h _, e => by
    simp at e
    subst e
    exact ⟨_, rfl, h⟩
  | _, _, i + 1, x, .cons _ t, e => by
    obtain ⟨v, h1, h2⟩ := RVs.get (i := i) (x := x) t (by simpa using e)
    exact ⟨v, by simpa using h1, h2⟩
theorem RVs.append : ∀ {xs ys : List AV} {vs us : List V}, RVs K S vs xs → RVs K S us ys → RVs K S (vs ++ us) (xs ++ ys)
  | _, _, _, _, .nil, s => s
  | _, _, _, _, .cons h t, s => .cons h (RVs.append t s)
theorem DDs.append : ∀ {xs ys : List PyData} {vs us : List V}, DDs K S vs xs → DDs K S us ys → DDs K S (vs ++ us) (xs ++ ys)
  | _, _, _, _, .nil, s => s
  | _, _, _, _, .cons h t, s => .cons h (DDs.append t s)
theorem DDs.take : ∀ {xs : List PyData} {vs : List V} (n : Nat), DDs K S vs xs → DDs K S (vs.take n) (xs.take n)
  | _, _, 0, _ => .nil
  | _, _, _ + 1, .nil => .nil
  | _, _, n + 1, .cons h t => .cons h (DDs.take n t)
theorem DDs.drop : ∀ {xs : List PyData} {vs : List V} (n : Nat), DDs K S vs xs → DDs K S (vs.drop n) (xs.drop n)
  | _, _, 0, h => h
  | _, _, _ + 1, .nil => .nil
  | _, _, n + 1, .cons _ t => DDs.drop n t
theorem RVs.take : ∀ {xs : List AV} {vs : List V} (n : Nat), RVs K S vs xs → RVs K S (vs.take n) (xs.take n)
  | _, _, 0, _ => .nil
  | _, _, _ + 1, .nil => .nil
  | _, _, n + 1, .cons h t => .cons h (RVs.take n t)
theorem RVs.drop : ∀ {xs : List AV} {vs : List V} (n : Nat), RVs K S vs xs → RVs K S (vs.drop n) (xs.drop n)
  | _, _, 0, h => h
  | _, _, _ + 1, .nil => .nil
  | _, _, n + 1, .cons _ t => RVs.drop n t
theorem RVs.set {v : V} {x : AV} (h : RV K S v x) : ∀ {xs : List AV} {vs : List V} (n : Nat), RVs K S vs xs → RVs K S (vs.set n v) (xs.set n x)
  | _, _, _, .nil => .nil
  | _, _, 0, .cons _ t => .cons h t
  | _, _, n + 1, .cons q t => .cons q (RVs.set h n t)
theorem DDs.get : ∀ {xs : List PyData} {vs : List V} {i : Nat} {x : PyData}, DDs K S vs xs → xs[i]? = some x → ∃ v, vs[i]? = some v ∧ DD K S v x
  | _, _, _, _, .nil, e => by simp at e
  | _, _, 0, _, .cons h _, e => by
    simp at e
    subst e
    exact ⟨_, rfl, h⟩
  | _, _, i + 1, x, .cons _ t, e => by
    obtain ⟨v, h1, h2⟩ := DDs.get (i := i) (x := x) t (by simpa using e)
    exact ⟨v, by simpa using h1, h2⟩
end

/-! ### things that change -/
inductive MO where
  | lst (xs : List AV)
  | dct (kvs : List (Key × AV))
  | ins (C dx : Addr) (fs : List (Str × AV))
  | exc (C dx : Addr) (fs : List (Str × AV))
  | raw (C : Addr)
abbrev Mp := Addr → Option MO
def um (M : Mp) (a : Addr) (o : MO) : Mp := fun b => if b = a then some o else M b
theorem um_same {M : Mp} {a : Addr} {o : MO} : um M a o a = some o := if_pos rfl
theorem um_ne {M : Mp} {a b : Addr} {o : MO} (h : b ≠ a) : um M a o b = M b := if_neg h
theorem um_um {M : Mp} {a : Addr} {o u : MO} : um (um M a o) a u = um M a u := by
  funext b
  unfold um
  split <;> rfl
theorem um_self {M : Mp} {a : Addr} {o : MO} (h : M a = some o) : um M a o = M := by
  funext b
  unfold um
  split
  · rename_i e
    rw [e, h]
  · rfl
theorem um_comm {M : Mp} {a b : Addr} {o u : MO} (h : a ≠ b) : um (um M a o) b u = um (um M b u) a o := by
  funext c
  unfold um
  by_cases h1 : c = b
  · subst h1
    simp [Ne.symm h]
  · by_cases h2 : c = a
    · subst h2
      simp [h]
    · simp [h1, h2]
theorem mne {M : Mp} {a b : Addr} {o : MO} (h : M a = some o) (h' : M b = none) : a ≠ b := fun e => by
  rw [e, h'] at h
  cases h
def RFs (K : PySem.W.Frag) (S : Hp) (vs : List (Str × V)) (xs : List (Str × AV)) : Prop := vs.map (·.1) = xs.map (·.1) ∧ RVs K S (vs.map (·.2)) (xs.map (·.2))
def RKs (K : PySem.W.Frag) (S : Hp) (vs : List (Key × V)) (xs : List (Key × AV)) : Prop := vs.map (·.1) = xs.map (·.1) ∧ RVs K S (vs.map (·.2)) (xs.map (·.2))
inductive RMO (K : PySem.W.Frag) (S H : Hp) (a : Addr) : MO → Prop
  | lst {vs : List V} {xs : List AV} : H a = some (.lst vs) → RVs K S vs xs → RMO K S H a (.lst xs)
  | dct {vs : List (Key × V)} {xs : List (Key × AV)} : H a = some (.dK vs) → RKs K S vs xs → RMO K S H a (.dct xs)
  | ins {C dx : Addr} {vs : List (Str × V)} {xs : List (Str × AV)} : H a = some (.ins C dx vs) → H dx = some (.own a) → S dx = none → RFs K S vs xs → RMO K S H a (.ins C dx xs)
  | exc {C dx : Addr} {vs : List (Str × V)} {xs : List (Str × AV)} : H a = some (exo a C (some dx)) → H dx = some (exd dx vs) → S dx = none → RFs K S vs xs → RMO K S H a (.exc C dx xs)
  | raw {C : Addr} : H a = some (exo a C none) → RMO K S H a (.raw C)
structure Rp (K : PySem.W.Frag) (S H : Hp) (M : Mp) : Prop where
  ext : Same S H
  mo : ∀ a o, M a = some o → S a = none ∧ RMO K S H a o
  sep : ∀ a b C C' dx fs fs', M a = some (.exc C dx fs) → M b = some (.exc C' dx fs') → a = b
section
variable {K : PySem.W.Frag} {S S' H H' : Hp} {M : Mp} {a p : Addr} {o : MO}
theorem RMO.there (h : RMO K S H a o) : ∃ u, H a = some u := by
  cases h with
  | lst e _ => exact ⟨_, e⟩
  | dct e _ => exact ⟨_, e⟩
  | ins e _ _ _ => exact ⟨_, e⟩
  | exc e _ _ _ => exact ⟨_, e⟩
  | raw e => exact ⟨_, e⟩
theorem Rp.fresh (r : Rp K S H M) (h : H p = none) : M p = none := by
  cases e : M p with
  | none => rfl
  | some o =>
    obtain ⟨u, q⟩ := (r.mo p o e).2.there
    rw [h] at q
    cases q
theorem Rp.freshS (r : Rp K S H M) (h : H p = none) : S p = none := Same.free r.ext h
/-- a new datum's object -/
theorem Rp.frozen (r : Rp K S H M) (h : H p = none) (u : HO) : Same S (upd S p u) ∧ Rp K (upd S p u) (upd H p u) M := by
  have hs := r.freshS h
  have e := Same.new (o := u) hs
  refine ⟨e, ⟨fun b v q => ?_, fun a o q => ?_, r.sep⟩⟩
  · by_cases hb : b = p
    · subst hb
      rw [upd_same] at q ⊢
      exact q
    · rw [upd_ne hb] at q ⊢
      exact r.ext b v q
  · obtain ⟨h1, h2⟩ := r.mo a o q
    have ha : a ≠ p := mne q (r.fresh h)
    refine ⟨by rw [upd_ne ha]; exact h1, ?_⟩
    cases h2 with
    | lst e1 e2 => exact .lst (by rw [upd_ne ha]; exact e1) (e2.mono e)
    | dct e1 e2 => exact .dct (by rw [upd_ne ha]; exact e1) ⟨e2.1, e2.2.mono e⟩
    | ins e1 e2 e3 e4 =>
      have hd := ne_of_none e2 h
      exact .ins (by rw [upd_ne ha]; exact e1) (by rw [upd_ne hd]; exact e2) (by rw [upd_ne hd]; exact e3) ⟨e4.1, e4.2.mono e⟩
    | exc e1 e2 e3 e4 =>
      have hd := ne_of_none e2 h
      exact .exc (by rw [upd_ne ha]; exact e1) (by rw [upd_ne hd]; exact e2) (by rw [upd_ne hd]; exact e3) ⟨e4.1, e4.2.mono e⟩
    | raw e1 => exact .raw (by rw [upd_ne ha]; exact e1)
/-- what stands beside a changed object -/
theorem RMO.beside (h : RMO K S H a o) (k : ∀ b, b = a ∨ H b = some (.own a) ∨ (∃ fs, H b = some (exd b fs)) → H' b = H b) : RMO K S H' a o := by
  cases h with
  | lst e1 e2 => exact .lst ((k a (.inl rfl)).trans e1) e2
  | dct e1 e2 => exact .dct ((k a (.inl rfl)).trans e1) e2
  | ins e1 e2 e3 e4 => exact .ins ((k a (.inl rfl)).trans e1) ((k _ (.inr (.inl e2))).trans e2) e3 e4
  | exc e1 e2 e3 e4 => exact .exc ((k a (.inl rfl)).trans e1) ((k _ (.inr (.inr ⟨_, e2⟩))).trans e2) e3 e4
  | raw e1 => exact .raw ((k a (.inl rfl)).trans e1)
/-- what stands at p is no part of another thing -/
def Solo (H : Hp) (p : Addr) : Prop := (∀ b, H p ≠ some (.own b)) ∧ ∀ fs, H p ≠ some (exd p fs)
theorem solo_none (h : H p = none) : Solo H p := And.intro (fun b z => nomatch h.symm.trans z) (fun fs z => nomatch h.symm.trans z)
theorem solo_lst {vs : List V} (h : H p = some (.lst vs)) : Solo H p := And.intro (fun b z => nomatch h.symm.trans z) fun fs z => by
  have y : HO.lst vs = HO.ext _ := Option.some.inj (h.symm.trans z)
  cases y
theorem solo_dK {vs : List (Key × V)} (h : H p = some (.dK vs)) : Solo H p := And.intro (fun b z => nomatch h.symm.trans z) fun fs z => by
  have y : HO.dK vs = HO.ext _ := Option.some.inj (h.symm.trans z)
  cases y
theorem Rp.put (r : Rp K S H M) (hs : S p = none) (ho : Solo H p) (u : HO) (n : RMO K S (upd H p u) p o) (ne : ∀ C dx fs, o ≠ .exc C dx fs := by intro _ _ _ z; cases z) : Rp K S (upd H p u) (um M p o) := by
  have up : ∀ a C dx fs, um M p o a = some (.exc C dx fs) → M a = some (.exc C dx fs) := fun a C dx fs z => by
    by_cases ha : a = p
    · subst ha
      rw [um_same] at z
      cases z
      exact (ne C dx fs rfl).elim
    · rw [um_ne ha] at z
      exact z
  refine ⟨fun b v q => ?_, fun a o' q => ?_, fun a b C C' dx fs fs' z z' => r.sep a b C C' dx fs fs' (up _ _ _ _ z) (up _ _ _ _ z')⟩
  · have hb : b ≠ p := ne_of_none q hs
    rw [upd_ne hb]
    exact r.ext b v q
  · by_cases ha : a = p
    · subst ha
      rw [um_same] at q
      cases q
      exact ⟨hs, n⟩
    · rw [um_ne ha] at q
      obtain ⟨h1, h2⟩ := r.mo a o' q
      refine ⟨h1, h2.beside fun b hb => ?_⟩
      have hp : b ≠ p := by
        rcases hb with rfl | hb | ⟨fs, hb⟩
        · exact ha
        · intro z
          rw [z] at hb
          exact ho.1 _ hb
        · intro z
          rw [z] at hb
          exact ho.2 _ hb
      exact upd_ne hp
theorem Rp.alloc (r : Rp K S H M) (h : H p = none) (u : HO) (n : RMO K S (upd H p u) p o) (ne : ∀ C dx fs, o ≠ .exc C dx fs := by intro _ _ _ z; cases z) : Rp K S (upd H p u) (um M p o) := r.put (r.freshS h) (solo_none h) u n ne
end

/-! ### slots -/
abbrev DSt := List (Option AV)
structure RSl (K : PySem.W.Frag) (S : Hp) (σ : St) (δ : DSt) : Prop where
  len : σ.length = δ.length
  at_ : ∀ (i : Nat) (x : AV), δ[i]? = some (some x) → ∃ v, σ[i]? = some (some v) ∧ RV K S v x
section
variable {K : PySem.W.Frag} {S S' : Hp} {σ : St} {δ : DSt}
theorem RSl.mono (r : RSl K S σ δ) (e : Same S S') : RSl K S' σ δ := ⟨r.len, fun i x h => by
  obtain ⟨v, h1, h2⟩ := r.at_ i x h
  exact ⟨v, h1, h2.mono e⟩⟩
theorem RSl.set (r : RSl K S σ δ) {v : V} {x : AV} (h : RV K S v x) (i : Nat) : RSl K S (σ.set i (some v)) (δ.set i (some x)) := ⟨by simp [r.len], fun j y e => by
  by_cases hj : i = j
  · subst hj
    have hi : i < δ.length := by
      have := (List.getElem?_eq_some_iff.mp e).1
      simpa using this
    rw [List.getElem?_set_self hi] at e
    cases e
    exact ⟨v, List.getElem?_set_self (by rw [r.len]; exact hi), h⟩
  · rw [List.getElem?_set_ne hj] at e ⊢
    exact r.at_ j y e⟩
def wipeD (δ : DSt) : List Nat → DSt
  | [] => δ
  | v :: vs => (wipeD δ vs).set v none
theorem RSl.none (r : RSl K S σ δ) (i : Nat) : RSl K S (σ.set i Option.none) (δ.set i Option.none) := ⟨by simp [r.len], fun j y e => by
  by_cases hj : i = j
  · subst hj
    have hi : i < δ.length := by
      have := (List.getElem?_eq_some_iff.mp e).1
      simpa using this
    rw [List.getElem?_set_self hi] at e
    cases e
  · rw [List.getElem?_set_ne hj] at e ⊢
    exact r.at_ j y e⟩
theorem RSl.wipe (r : RSl K S σ δ) : ∀ vs : List Nat, RSl K S (L2.wipe σ vs) (wipeD δ vs)
  | [] => r
  | v :: vs => (RSl.wipe r vs).none v
def dstart (N : List Str) (xs : List AV) : DSt := xs.map some ++ List.replicate (N.length - xs.length) Option.none
theorem RSl.start (N : List Str) {vs : List V} {xs : List AV} (h : RVs K S vs xs) : RSl K S (L2.start N vs) (dstart N xs) := ⟨by simp [L2.start, dstart, h.length], fun i x e => by
  unfold dstart at e
  unfold L2.start
  by_cases hi : i < xs.length
  · rw [List.getElem?_append_left (by simpa using hi), List.getElem?_map] at e
    rw [List.getElem?_append_left (by simpa [h.length] using hi), List.getElem?_map]
    cases q : xs[i]? with
    | none =>
      rw [q] at e
      cases e
    | some y =>
      rw [q] at e
      cases e
      obtain ⟨v, h1, h2⟩ := h.get q
      exact ⟨v, by rw [h1]; rfl, h2⟩
  · rw [List.getElem?_append_right (by simpa using hi), List.getElem?_replicate] at e
    split at e
    · cases e
    · cases e⟩
end

/-! ### the judgements -/
abbrev DK := AV → Mp → Prop
/-- an exception: its class, its fields -/
abbrev DXK := Value → List (Str × AV) → Mp → Prop
abbrev DTE := DSt → Mp → DK → DXK → Prop
abbrev DTT := DSt → Mp → (Bool → Mp → Prop) → DXK → Prop
abbrev DTA := DSt → Mp → (List AV → Mp → Prop) → DXK → Prop
structure DEnds where
  nx : DSt → Mp → Prop
  rt : DK
  bk : DSt → Mp → Prop := fun _ _ => False
  ct : DSt → Mp → Prop := fun _ _ => False
  xp : Value → List (Str × AV) → DSt → Mp → Prop := fun _ _ _ _ => False
abbrev DTS := DEnds → DSt → Mp → Prop
abbrev WXc := Value → Option Addr → L2.St → Hp → Prop
section
variable (K : PySem.W.Frag)
def To (S : Hp) (P : DK) (Q : VK) : Prop := ∀ (x : AV) (M : Mp) (S' H' : Hp) (v : V), P x M → Same S S' → Rp K S' H' M → RV K S' v x → Q v H'
def ToB (S : Hp) (P : Bool → Mp → Prop) (Q : Bool → Hp → Prop) : Prop := ∀ (b : Bool) (M : Mp) (S' H' : Hp), P b M → Same S S' → Rp K S' H' M → Q b H'
def ToA (S : Hp) (P : List AV → Mp → Prop) (Q : List V → Hp → Prop) : Prop := ∀ (xs : List AV) (M : Mp) (S' H' : Hp) (vs : List V), P xs M → Same S S' → Rp K S' H' M → RVs K S' vs xs → Q vs H'
def ToS (S : Hp) (P : DSt → Mp → Prop) (Q : L2.St → Hp → Prop) : Prop := ∀ (δ : DSt) (M : Mp) (S' H' : Hp) (σ : L2.St), P δ M → Same S S' → Rp K S' H' M → RSl K S' σ δ → Q σ H'
def XD (S H : Hp) (d : Option Addr) (fs : List (Str × AV)) : Prop := (d = none ∧ fs = []) ∨ ∃ dx vs, d = some dx ∧ H dx = some (.xd vs) ∧ RFs K S vs fs
def ToX (S : Hp) (R : DXK) (E : XK) : Prop := ∀ (c : Value) (fs : List (Str × AV)) (M : Mp) (S' H' : Hp) (d : Option Addr), R c fs M → Same S S' → Rp K S' H' M → XD K S' H' d fs → E c d H'
def ToXS (S : Hp) (R : Value → List (Str × AV) → DSt → Mp → Prop) (EX : WXc) : Prop := ∀ (c : Value) (fs : List (Str × AV)) (δ : DSt) (M : Mp) (S' H' : Hp) (σ : L2.St) (d : Option Addr), R c fs δ M → Same S S' → Rp K S' H' M → RSl K S' σ δ → XD K S' H' d fs → EX c d σ H'
structure ToD (EX : WXc) (S : Hp) (E : DEnds) (D : Ends) : Prop where
  nx : ToS K S E.nx D.nx
  rt : To K S E.rt D.rt
  bk : ToS K S E.bk D.bk
  ct : ToS K S E.ct D.ct
  xp : ToXS K S E.xp EX
def lE (EX : WXc) (w : DTE) : TE := fun σ H Q => ∃ (S : Hp) (M : Mp) (δ : DSt) (P : DK) (R : DXK), Rp K S H M ∧ RSl K S σ δ ∧ w δ M P R ∧ To K S P Q ∧ ToX K S R (fun c d H' => EX c d σ H')
def lT (EX : WXc) (w : DTT) : TT := fun σ H Q => ∃ (S : Hp) (M : Mp) (δ : DSt) (P : Bool → Mp → Prop) (R : DXK), Rp K S H M ∧ RSl K S σ δ ∧ w δ M P R ∧ ToB K S P Q ∧ ToX K S R (fun c d H' => EX c d σ H')
def lA (EX : WXc) (w : DTA) : TA := fun σ H Q => ∃ (S : Hp) (M : Mp) (δ : DSt) (P : List AV → Mp → Prop) (R : DXK), Rp K S H M ∧ RSl K S σ δ ∧ w δ M P R ∧ ToA K S P Q ∧ ToX K S R (fun c d H' => EX c d σ H')
def lS (EX : WXc) (w : DTS) : TS := fun D σ H => ∃ (S : Hp) (M : Mp) (δ : DSt) (E : DEnds), Rp K S H M ∧ RSl K S σ δ ∧ w E δ M ∧ ToD K EX S E D
end
section
variable {K : PySem.W.Frag} {S S' : Hp} {EX : WXc}
theorem To.mono {P : DK} {Q : VK} (h : To K S P Q) (e : Same S S') : To K S' P Q := fun x M S2 H2 v p q => h x M S2 H2 v p (e.trans q)
theorem ToB.mono {P : Bool → Mp → Prop} {Q : Bool → Hp → Prop} (h : ToB K S P Q) (e : Same S S') : ToB K S' P Q := fun x M S2 H2 p q => h x M S2 H2 p (e.trans q)
theorem ToA.mono {P : List AV → Mp → Prop} {Q : List V → Hp → Prop} (h : ToA K S P Q) (e : Same S S') : ToA K S' P Q := fun x M S2 H2 v p q => h x M S2 H2 v p (e.trans q)
theorem ToS.mono {P : DSt → Mp → Prop} {Q : L2.St → Hp → Prop} (h : ToS K S P Q) (e : Same S S') : ToS K S' P Q := fun x M S2 H2 v p q => h x M S2 H2 v p (e.trans q)
theorem ToX.mono {R : DXK} {E : XK} (h : ToX K S R E) (e : Same S S') : ToX K S' R E := fun c fs M S2 H2 d p q => h c fs M S2 H2 d p (e.trans q)
theorem ToXS.mono {R : Value → List (Str × AV) → DSt → Mp → Prop} (h : ToXS K S R EX) (e : Same S S') : ToXS K S' R EX := fun c fs δ M S2 H2 σ d p q => h c fs δ M S2 H2 σ d p (e.trans q)
theorem ToXS.at_ {R : Value → List (Str × AV) → DSt → Mp → Prop} (h : ToXS K S R EX) {σ : L2.St} {δ : DSt} (r : RSl K S σ δ) : ToX K S (fun c fs M => R c fs δ M) (fun c d H' => EX c d σ H') := fun c fs M S2 H2 d p q r2 x => h c fs δ M S2 H2 σ d p q r2 (r.mono q) x
theorem ToD.mono {E : DEnds} {D : Ends} (h : ToD K EX S E D) (e : Same S S') : ToD K EX S' E D := ⟨h.nx.mono e, h.rt.mono e, h.bk.mono e, h.ct.mono e, h.xp.mono e⟩
end
abbrev DE (X : Cx) (EX : WXc) (e : Expr) (w : DTE) : Prop := PE X e (lE X.K EX w)
abbrev DT (X : Cx) (EX : WXc) (e : Expr) (w : DTT) : Prop := PT X e (lT X.K EX w)
abbrev DW (X : Cx) (EX : WXc) (e : Expr) (w : DTT) : Prop := PW X e (lT X.K EX w)
abbrev DA (X : Cx) (EX : WXc) (es : List Expr) (w : DTA) : Prop := PA X es (lA X.K EX w)
abbrev DS (X : Cx) (EX : WXc) (st : Stmt) (w : DTS) : Prop := PS X st (lS X.K EX w)
abbrev DSs (X : Cx) (EX : WXc) (st : List Stmt) (w : DTS) : Prop := PSs X st (lS X.K EX w)

section
variable {X : Cx} {EX : WXc}
theorem pe_imp {e : Expr} {t t' : TE} (h : PE X e t) (k : ∀ σ H Q, t' σ H Q → t σ H Q) : PE X e t' := ⟨fun pins s σ H Q I q => h.run pins s σ H Q I (k σ H Q q)⟩
theorem pt_imp {e : Expr} {t t' : TT} (h : PT X e t) (k : ∀ σ H Q, t' σ H Q → t σ H Q) : PT X e t' := ⟨fun pins s σ H Q I q => h.run pins s σ H Q I (k σ H Q q)⟩
theorem pw_imp {e : Expr} {t t' : TT} (h : PW X e t) (k : ∀ σ H Q, t' σ H Q → t σ H Q) : PW X e t' := ⟨fun wh pins s σ H Q I q => h.run wh pins s σ H Q I (k σ H Q q)⟩
theorem pa_imp {es : List Expr} {t t' : TA} (h : PA X es t) (k : ∀ σ H Q, t' σ H Q → t σ H Q) : PA X es t' := ⟨fun pos pins s σ H Q I q => h.run pos pins s σ H Q I (k σ H Q q)⟩
theorem ps_imp {st : Stmt} {t t' : TS} (h : PS X st t) (k : ∀ D σ H, t' D σ H → t D σ H) : PS X st t' := ⟨fun pins s σ H D I q => h.run pins s σ H D I (k D σ H q)⟩
theorem pss_imp {st : List Stmt} {t t' : TS} (h : PSs X st t) (k : ∀ D σ H, t' D σ H → t D σ H) : PSs X st t' := ⟨fun pins s σ H D I q => h.run pins s σ H D I (k D σ H q)⟩
theorem pg_imp {e : Expr} {t t' : TG} (h : PG X e t) (k : ∀ v σ H Q, t' v σ H Q → t v σ H Q) : PG X e t' := ⟨fun pins s σ H v u Q I r q => h.run pins s σ H v u Q I r (k v σ H Q q)⟩

/-! ### names, constants -/
def wVar (i : Nat) : DTE := fun δ M P _ => ∃ x, δ[i]? = some (some x) ∧ P x M
def wC (d : PyData) : DTE := fun _ M P _ => P (.dat d) M
theorem de_var {i : Nat} {e : Expr} (h : PE X e (tVar i)) : DE X EX e (wVar i) := pe_imp h fun σ H Q ⟨S, M, δ, P, R, r, rs, ⟨x, e1, p⟩, k, _⟩ => by
  obtain ⟨v, h1, h2⟩ := rs.at_ _ _ e1
  exact ⟨v, h1, k x M S H v p (Same.refl S) r h2⟩
theorem de_c {v : V} {d : PyData} {e : Expr} (h : PE X e (tC v)) (hd : ∀ S, DD X.K S v d) : DE X EX e (wC d) := pe_imp h fun σ H Q ⟨S, M, δ, P, R, r, rs, p, k, _⟩ => k _ M S H v p (Same.refl S) r (.dat (hd S))
theorem de_int {i j pos} : DE X EX (.Constant (.int i) j pos) (wC (.int i)) := de_c pe_int fun _ => .int i
theorem de_bl {b j pos} : DE X EX (.Constant (.bool b) j pos) (wC (.bool b)) := de_c pe_bl fun _ => .bl b
theorem de_non {j pos} : DE X EX (.Constant .none j pos) (wC .none) := de_c pe_non fun _ => .non
theorem de_str {x j pos} : DE X EX (.Constant (.str x) j pos) (wC (.str x)) := de_c pe_str fun _ => .str x

/-! ### operators -/
abbrev D2 := AV → AV → Mp → DK → Prop
def lO (K : PySem.W.Frag) (w : D2) : R2 := fun x y H Q => ∃ (S : Hp) (M : Mp) (a b : AV) (P : DK), Rp K S H M ∧ RV K S x a ∧ RV K S y b ∧ w a b M P ∧ To K S P Q
def wOp (w : D2) (wa wb : DTE) : DTE := fun δ M P R => wa δ M (fun x M1 => wb δ M1 (fun y M2 => w x y M2 P) R) R
theorem op_imp {f : Value → Value → Sem Value} {r r' : R2} (h : OpR X f r) (k : ∀ x y H Q, r' x y H Q → r x y H Q) : OpR X f r' := fun pins s σ H x y v u Q I rx ry q => h pins s σ H x y v u Q I rx ry (k x y H Q q)
theorem bin_l {K : PySem.W.Frag} {w : D2} {wa wb : DTE} {σ : L2.St} {H : Hp} {Q : VK} (h : lE K EX (wOp w wa wb) σ H Q) : tOp (lO K w) (lE K EX wa) (lE K EX wb) σ H Q := by
  obtain ⟨S, M, δ, P, R, r, rs, p, k, kx⟩ := h
  refine ⟨S, M, δ, _, R, r, rs, p, fun x M1 S1 H1 v p1 e1 r1 rv1 => ?_, kx⟩
  refine ⟨S1, M1, δ, _, R, r1, rs.mono e1, p1, fun y M2 S2 H2 u p2 e2 r2 rv2 => ?_, kx.mono e1⟩
  exact ⟨S2, M2, x, y, P, r2, rv1.mono e2, rv2, p2, k.mono (e1.trans e2)⟩
theorem de_op {a b : Expr} {op : Operator} {w : D2} {wa wb : DTE} {pos : Pos} (ho : OpR X (binaryOp op) (lO X.K w)) (ha : DE X EX a wa) (hb : DE X EX b wb) : DE X EX (.BinOp a op b pos) (wOp w wa wb) := pe_imp (pe_op ho ha hb) fun _ _ _ h => bin_l h
theorem de_cmp {a b : Expr} {op : CmpOp} {w : D2} {wa wb : DTE} {pos : Pos} (ho : OpR X (compareOp op) (lO X.K w)) (ha : DE X EX a wa) (hb : DE X EX b wb) (hm : behindInMarks op b = false) : DE X EX (.Compare a [op] [b] pos) (wOp w wa wb) := pe_imp (pe_cmpR ho ha hb hm) fun _ _ _ h => bin_l h

/-! ### statements -/
def wSeq (t u : DTS) : DTS := fun E δ M => t { E with nx := u E } δ M
def wNext : DTS := fun E δ M => E.nx δ M
def wRet (w : DTE) : DTS := fun E δ M => w δ M E.rt fun c fs M1 => E.xp c fs δ M1
def wDrop (w : DTE) : DTS := fun E δ M => w δ M (fun _ M1 => E.nx δ M1) fun c fs M1 => E.xp c fs δ M1
def wIf (c : DTT) (t u : DTS) : DTS := fun E δ M => c δ M (fun b M1 => if b = true then t E δ M1 else u E δ M1) fun c fs M1 => E.xp c fs δ M1
def wSet (i : Nat) (w : DTE) : DTS := fun E δ M => w δ M (fun x M1 => E.nx (δ.set i (some x)) M1) fun c fs M1 => E.xp c fs δ M1
theorem dss_nil : DSs X EX [] wNext := pss_imp pss_nil fun D σ H ⟨S, M, δ, E, r, rs, p, k⟩ => k.nx δ M S H σ p (Same.refl S) r rs
theorem dss_cons {st : Stmt} {rest : List Stmt} {t u : DTS} (h1 : DS X EX st t) (h2 : DSs X EX rest u) : DSs X EX (st :: rest) (wSeq t u) := pss_imp (pss_cons h1 h2) fun D σ H ⟨S, M, δ, E, r, rs, p, k⟩ =>
  ⟨S, M, δ, _, r, rs, p, ⟨fun δ1 M1 S1 H1 σ1 p1 e1 r1 rs1 => ⟨S1, M1, δ1, E, r1, rs1, p1, k.mono e1⟩, k.rt, k.bk, k.ct, k.xp⟩⟩
theorem dss_one {st : Stmt} {t : DTS} (h1 : DS X EX st t) : DSs X EX [st] t := pss_one h1
theorem ds_pass {pos} : DS X EX (.Pass pos) wNext := ps_imp ps_pass fun D σ H ⟨S, M, δ, E, r, rs, p, k⟩ => k.nx δ M S H σ p (Same.refl S) r rs
theorem ds_ret {e : Expr} {w : DTE} {pos : Pos} (he : DE X EX e w) : DS X EX (.Return (some e) pos) (wRet w) := ps_imp (ps_ret he) fun D σ H ⟨S, M, δ, E, r, rs, p, k⟩ => ⟨S, M, δ, _, _, r, rs, p, k.rt, k.xp.at_ rs⟩
theorem ds_expr {e : Expr} {w : DTE} {pos : Pos} (he : DE X EX e w) (hs : swapsWith e none pos.line X.env = pure false := by rfl) : DS X EX (.Expr e pos) (wDrop w) := ps_imp (ps_expr he hs) fun D σ H ⟨S, M, δ, E, r, rs, p, k⟩ =>
  ⟨S, M, δ, _, _, r, rs, p, fun x M1 S1 H1 v p1 e1 r1 _ => k.nx δ M1 S1 H1 σ p1 e1 r1 (rs.mono e1), k.xp.at_ rs⟩
theorem ds_if {c : Expr} {a b : List Stmt} {wc : DTT} {t u : DTS} {pos : Pos} (hc : DT X EX c wc) (ha : DSs X EX a t) (hb : DSs X EX b u) : DS X EX (.If c a b pos) (wIf wc t u) := ps_imp (ps_if hc ha hb) fun D σ H ⟨S, M, δ, E, r, rs, p, k⟩ =>
  ⟨S, M, δ, _, _, r, rs, p, fun b M1 S1 H1 p1 e1 r1 => by
    cases b with
    | true => exact ⟨S1, M1, δ, E, r1, rs.mono e1, p1, k.mono e1⟩
    | false => exact ⟨S1, M1, δ, E, r1, rs.mono e1, p1, k.mono e1⟩, k.xp.at_ rs⟩
theorem ds_setP {i : Nat} {x : Str} {e : Expr} {w : DTE} {pos pos' : Pos} (hp : PS X (.Assign [.Name x pos'] e pos) (tAsg (lE X.K EX w) (gName i))) : DS X EX (.Assign [.Name x pos'] e pos) (wSet i w) := ps_imp hp fun D σ H ⟨S, M, δ, E, r, rs, p, k⟩ =>
  ⟨S, M, δ, _, _, r, rs, p, fun x M1 S1 H1 v p1 e1 r1 rv => k.nx _ M1 S1 H1 _ p1 e1 r1 ((rs.mono e1).set rv i), k.xp.at_ rs⟩

/-! ### tests, and, or, not -/
def onB (x : AV) (k : Bool → Prop) : Prop := match x with
  | .dat (.bool b) => k b
  | _ => False
theorem onB_inv {x : AV} {k : Bool → Prop} (h : onB x k) : ∃ b, x = .dat (.bool b) ∧ k b := by
  unfold onB at h
  split at h
  · exact ⟨_, rfl, h⟩
  · exact h.elim
def onI (x : AV) (k : Int → Prop) : Prop := match x with
  | .dat (.int b) => k b
  | _ => False
theorem onI_inv {x : AV} {k : Int → Prop} (h : onI x k) : ∃ b, x = .dat (.int b) ∧ k b := by
  unfold onI at h
  split at h
  · exact ⟨_, rfl, h⟩
  · exact h.elim
def onS (x : AV) (k : Str → Prop) : Prop := match x with
  | .dat (.str b) => k b
  | _ => False
theorem onS_inv {x : AV} {k : Str → Prop} (h : onS x k) : ∃ b, x = .dat (.str b) ∧ k b := by
  unfold onS at h
  split at h
  · exact ⟨_, rfl, h⟩
  · exact h.elim
def wAnd (t u : DTT) : DTT := fun δ M P R => t δ M (fun c M1 => if c = true then u δ M1 P R else P false M1) R
def wOr (t u : DTT) : DTT := fun δ M P R => t δ M (fun c M1 => if c = true then P true M1 else u δ M1 P R) R
def wNot (t : DTT) : DTT := fun δ M P R => t δ M (fun c M1 => P (!c) M1) R
def wB (w : DTE) : DTT := fun δ M P R => w δ M (fun x M1 => onB x fun b => P b M1) R
theorem rv_bl {K : PySem.W.Frag} {S : Hp} {v : V} {i : Bool} (h : RV K S v (.dat (.bool i))) : v = .bl i := by
  cases h with
  | dat d => cases d; rfl
theorem dt_val {e : Expr} {w : DTE} (h : DE X EX e w) (he : ∀ whole, isTrue e X.env whole = (do let v ← whole; standAt e.pos; holding [v] (truthy v)) := by intro _; rfl) : DT X EX e (wB w) := pt_imp (pt_val h he) fun σ H Q ⟨S, M, δ, P, R, r, rs, p, k, kx⟩ =>
  ⟨S, M, δ, _, R, r, rs, p, fun x M1 S1 H1 v p0 e2 r1 rv => by
    obtain ⟨b, e1, p1⟩ := onB_inv p0
    subst e1
    exact ⟨b, rv_bl rv, k b M1 S1 H1 p1 e2 r1⟩, kx⟩
theorem dt_cmp {a b : Expr} {op : CmpOp} {w : D2} {wa wb : DTE} {pos : Pos} (ho : OpR X (compareOp op) (lO X.K w)) (ha : DE X EX a wa) (hb : DE X EX b wb) (hm : behindInMarks op b = false) : DT X EX (.Compare a [op] [b] pos) (wB (wOp w wa wb)) := pt_imp (pt_cmpR ho ha hb hm) fun σ H Q ⟨S, M, δ, P, R, r, rs, p, k, kx⟩ =>
  bin_l ⟨S, M, δ, _, R, r, rs, p, fun x M1 S1 H1 v p0 e2 r1 rv => by
    obtain ⟨b, e1, p1⟩ := onB_inv p0
    subst e1
    exact ⟨b, rv_bl rv, k b M1 S1 H1 p1 e2 r1⟩, kx⟩
variable {a b c : Expr} {rest : List Expr} {pos : Pos} {t u : DTT} {wa wb wc : DTE}
theorem dw_and1 (ha : DT X EX a t) : DW X EX (.BoolOp .And [a] pos) t := pw_and1 ha
theorem dw_or1 (ha : DT X EX a t) : DW X EX (.BoolOp .Or [a] pos) t := pw_or1 ha
theorem dw_and (ha : DT X EX a t) (hb : DW X EX (.BoolOp .And (b :: rest) pos) u) : DW X EX (.BoolOp .And (a :: b :: rest) pos) (wAnd t u) := pw_imp (pw_and ha hb) fun _ _ _ ⟨S, M, δ, P, R, r, rs, p, k, kx⟩ =>
  ⟨S, M, δ, _, R, r, rs, p, fun b M1 S1 H1 p1 e1 r1 => by
    cases b with
    | true => exact ⟨S1, M1, δ, P, R, r1, rs.mono e1, p1, k.mono e1, kx.mono e1⟩
    | false => exact k false M1 S1 H1 p1 e1 r1, kx⟩
theorem dw_or (ha : DT X EX a t) (hb : DW X EX (.BoolOp .Or (b :: rest) pos) u) : DW X EX (.BoolOp .Or (a :: b :: rest) pos) (wOr t u) := pw_imp (pw_or ha hb) fun _ _ _ ⟨S, M, δ, P, R, r, rs, p, k, kx⟩ =>
  ⟨S, M, δ, _, R, r, rs, p, fun b M1 S1 H1 p1 e1 r1 => by
    cases b with
    | false => exact ⟨S1, M1, δ, P, R, r1, rs.mono e1, p1, k.mono e1, kx.mono e1⟩
    | true => exact k true M1 S1 H1 p1 e1 r1, kx⟩
theorem dt_bool {e : Expr} {w : DTT} (h : DW X EX e w) : DT X EX e w := h.pt
theorem dt_not (ha : DT X EX a t) : DT X EX (.UnaryOp .Not a pos) (wNot t) := pt_imp (pt_not ha) fun σ H Q ⟨S, M, δ, P, R, r, rs, p, k, kx⟩ =>
  ⟨S, M, δ, _, R, r, rs, p, fun b M1 S1 H1 p1 e1 r1 => k _ M1 S1 H1 p1 e1 r1, kx⟩
/-- .. as values: bools -/
def wAndV (wa wb : DTE) : DTE := fun δ M P R => wa δ M (fun x M1 => onB x fun c => if c = true then wb δ M1 P R else P (.dat (.bool false)) M1) R
def wOrV (wa wb : DTE) : DTE := fun δ M P R => wa δ M (fun x M1 => onB x fun c => if c = true then P (.dat (.bool true)) M1 else wb δ M1 P R) R
def wNotV (wa : DTE) : DTE := fun δ M P R => wa δ M (fun x M1 => onB x fun c => P (.dat (.bool (!c))) M1) R
theorem de_one {op} (h : DE X EX a wa) : DE X EX (.BoolOp op [a] pos) wa := pe_one h
theorem de_and (ha : DE X EX a wa) (hb : DE X EX (.BoolOp .And (b :: rest) pos) wb) : DE X EX (.BoolOp .And (a :: b :: rest) pos) (wAndV wa wb) := pe_imp (pe_and ha hb) fun σ H Q ⟨S, M, δ, P, R, r, rs, p, k, kx⟩ =>
  ⟨S, M, δ, _, R, r, rs, p, fun x M1 S1 H1 v p0 e2 r1 rv => by
    obtain ⟨c, e1, p1⟩ := onB_inv p0
    subst e1
    refine ⟨c, rv_bl rv, ?_⟩
    cases c with
    | true => exact ⟨S1, M1, δ, P, R, r1, rs.mono e2, p1, k.mono e2, kx.mono e2⟩
    | false => exact k _ M1 S1 H1 _ p1 e2 r1 (.dat (.bl false)), kx⟩
theorem de_or (ha : DE X EX a wa) (hb : DE X EX (.BoolOp .Or (b :: rest) pos) wb) : DE X EX (.BoolOp .Or (a :: b :: rest) pos) (wOrV wa wb) := pe_imp (pe_or ha hb) fun σ H Q ⟨S, M, δ, P, R, r, rs, p, k, kx⟩ =>
  ⟨S, M, δ, _, R, r, rs, p, fun x M1 S1 H1 v p0 e2 r1 rv => by
    obtain ⟨c, e1, p1⟩ := onB_inv p0
    subst e1
    refine ⟨c, rv_bl rv, ?_⟩
    cases c with
    | false => exact ⟨S1, M1, δ, P, R, r1, rs.mono e2, p1, k.mono e2, kx.mono e2⟩
    | true => exact k _ M1 S1 H1 _ p1 e2 r1 (.dat (.bl true)), kx⟩
theorem de_not (ha : DE X EX a wa) : DE X EX (.UnaryOp .Not a pos) (wNotV wa) := pe_imp (pe_not ha) fun σ H Q ⟨S, M, δ, P, R, r, rs, p, k, kx⟩ =>
  ⟨S, M, δ, _, R, r, rs, p, fun x M1 S1 H1 v p0 e2 r1 rv => by
    obtain ⟨c, e1, p1⟩ := onB_inv p0
    subst e1
    exact ⟨c, rv_bl rv, k _ M1 S1 H1 _ p1 e2 r1 (.dat (.bl _))⟩, kx⟩
def wIfE (c : DTT) (wa wb : DTE) : DTE := fun δ M P R => c δ M (fun b M1 => if b = true then wa δ M1 P R else wb δ M1 P R) R
theorem de_if (hc : DT X EX c t) (ha : DE X EX a wa) (hb : DE X EX b wb) : DE X EX (.IfExp c a b pos) (wIfE t wa wb) := pe_imp (pe_ifExp hc ha hb) fun σ H Q ⟨S, M, δ, P, R, r, rs, p, k, kx⟩ =>
  ⟨S, M, δ, _, R, r, rs, p, fun b M1 S1 H1 p1 e1 r1 => by
    cases b with
    | true => exact ⟨S1, M1, δ, P, R, r1, rs.mono e1, p1, k.mono e1, kx.mono e1⟩
    | false => exact ⟨S1, M1, δ, P, R, r1, rs.mono e1, p1, k.mono e1, kx.mono e1⟩, kx⟩
/-- a < b < c -/
def wChain (w w' : D2) (wa wb wc : DTE) : DTE := fun δ M P R => wa δ M (fun x M1 => wb δ M1 (fun y M2 => w x y M2 fun z M3 => onB z fun k => if k = true then wc δ M3 (fun u M4 => w' y u M4 P) R else P (.dat (.bool false)) M3) R) R
theorem chain_l {K : PySem.W.Frag} {w w' : D2} {σ : L2.St} {H : Hp} {Q : VK} (h : lE K EX (wChain w w' wa wb wc) σ H Q) : tChain (lO K w) (lO K w') (lE K EX wa) (lE K EX wb) (lE K EX wc) σ H Q := by
  obtain ⟨S, M, δ, P, R, r, rs, p, k, kx⟩ := h
  refine ⟨S, M, δ, _, R, r, rs, p, fun x M1 S1 H1 v p1 e1 r1 rv1 => ?_, kx⟩
  refine ⟨S1, M1, δ, _, R, r1, rs.mono e1, p1, fun y M2 S2 H2 u p2 e2 r2 rv2 => ?_, kx.mono e1⟩
  refine ⟨S2, M2, x, y, _, r2, rv1.mono e2, rv2, p2, fun z M3 S3 H3 zv p3 e3 r3 rv3 => ?_⟩
  obtain ⟨b, ez, p4⟩ := onB_inv p3
  subst ez
  have e13 := (e1.trans e2).trans e3
  refine ⟨b, rv_bl rv3, ?_⟩
  cases b with
  | false => exact k _ M3 S3 H3 _ p4 e13 r3 (.dat (.bl false))
  | true => exact ⟨S3, M3, δ, _, R, r3, rs.mono e13, p4, fun u' M4 S4 H4 uv p5 e4 r4 rv4 => ⟨S4, M4, y, u', P, r4, rv2.mono (e3.trans e4), rv4, p5, k.mono (e13.trans e4)⟩, kx.mono e13⟩
theorem de_chain {op op' : CmpOp} {w w' : D2} (ho : OpR X (compareOp op) (lO X.K w)) (ho' : OpR X (compareOp op') (lO X.K w')) (ha : DE X EX a wa) (hb : DE X EX b wb) (hc : DE X EX c wc) (hm : lastMarks [op, op'] [b, c] = false := by with_unfolding_all rfl) :
    DE X EX (.Compare a [op, op'] [b, c] pos) (wChain w w' wa wb wc) := pe_imp (pe_chain ho ho' ha hb hc hm) fun _ _ _ h => chain_l h
theorem dt_chain {op op' : CmpOp} {w w' : D2} (ho : OpR X (compareOp op) (lO X.K w)) (ho' : OpR X (compareOp op') (lO X.K w')) (ha : DE X EX a wa) (hb : DE X EX b wb) (hc : DE X EX c wc) (hm : lastMarks [op, op'] [b, c] = false := by with_unfolding_all rfl) :
    DT X EX (.Compare a [op, op'] [b, c] pos) (wB (wChain w w' wa wb wc)) := pt_imp (pt_chain ho ho' ha hb hc hm) fun σ H Q ⟨S, M, δ, P, R, r, rs, p, k, kx⟩ =>
  chain_l ⟨S, M, δ, _, R, r, rs, p, fun x M1 S1 H1 v p0 e2 r1 rv => by
    obtain ⟨b, e1, p1⟩ := onB_inv p0
    subst e1
    exact ⟨b, rv_bl rv, k b M1 S1 H1 p1 e2 r1⟩, kx⟩
end
end DL
end
section
set_option Elab.async false
set_option linter.all false
set_option maxRecDepth 100000
set_option maxHeartbeats 2000000
/-! G0: promises of defs where no repr runs around (guards), so that repr of data can be told. -/
namespace DL
open PySem PySem.Spec L2
open PyProof.Rows hiding St

theorem gd_deeper {A : Around} {env : Env} : (A.deeper env).guards = A.guards := rfl
structure FnG (P : Program) (w : World) (K : PySem.W.Frag) (mg : Str → Option Value) (base : Heap) (CX : CXT) (k : Nat) (f : Addr) (fd : FuncData) (ps : List Str) (sp : Sp) : Prop where
  many : ∀ xs H Q E, sp xs H Q E → xs.length = ps.length
  go : ∀ (A : Around) (out : List Env) (s : Shared) (H : Hp) (ar : Args) (us : List Value) (xs : List V) (Q : VK) (E : XK), Room k A → A.guards = some [] → Env0 P w K mg base A out s H →
    BindsTo s fd ar (ps.zip us) → Vals xs us → sp xs H Q E → codeAny (model P w) A (.call (.ref f) ar) (CR CX out P w H s Q E) s
section
variable {P : Program} {w : World} {K : PySem.W.Frag} {mg : Str → Option Value} {base : Heap} {CX : CXT}
theorem FnG.of {k : Nat} {f : Addr} {fd : FuncData} {ps : List Str} {sp : Sp} (F : FnOk P w K mg base CX k f fd ps sp) : FnG P w K mg base CX k f fd ps sp :=
  ⟨F.len, fun A out s H ar us xs Q E hr _ e0 hb rv h => F.run A out s H ar us xs Q E hr e0 hb rv h⟩
theorem FnG.mono {j k : Nat} {f : Addr} {fd : FuncData} {ps : List Str} {sp : Sp} (F : FnG P w K mg base CX j f fd ps sp) (h : j ≤ k) : FnG P w K mg base CX k f fd ps sp :=
  ⟨F.many, fun A out s H ar us xs Q E hr => F.go A out s H ar us xs Q E (hr.mono h)⟩
/-- a def by its body -/
theorem fnG_of {x qual : Str} {params : Arguments} {body : List Stmt} {scope : Scope} {dvs : List V} {kws : List (Str × V)} {f : Addr} {fd : FuncData} {N ps : List Str} {k : Nat} {sp : Sp}
    (F : FunD K x qual params body scope dvs kws f fd) (S : FnScope N ps scope) (many : ∀ xs H Q E, sp xs H Q E → xs.length = ps.length)
    (hb : ∀ (cdv : Value) (A : Around) (out : List Env) (s : Shared) (H : Hp) (xs : List V) (Q : VK) (E : XK), Room k (A.deeper (envOfC qual scope s.heap.objs.size f cdv)) → A.guards = some [] → sp xs H Q E →
      ∃ t, PSs (cxOf CX P w K mg base N qual scope f cdv A out s H E) body t ∧ t { nx := fun _ H' => Q .non H', rt := Q } (L2.start N xs) H) : FnG P w K mg base CX (k + 1) f fd ps sp := by
  obtain ⟨oc, od, dV, kV, doc, pm, an, cdv, ct, osl, e1, e2, e3, _, _⟩ := F.ex
  subst e1
  refine ⟨many, fun A out s H ar us xs Q E hr hgd e0 hbi rv hs => ?_⟩
  have kin := e0.mod.kin.keeps fun b o z => (e0.bs b o z).1
  have nl := e0.mod.nolimit.keeps fun b o z => (e0.bs b o z).1
  have kinds : ∀ y ∈ ps.zip us, scope.names.lookup y.1 = some .local ∨ (scope.names.lookup y.1 = some .cell ∧ ((cellsFrom (s.heap.objs.size + 1) scope.names []).lookup y.1).isSome = true) := by
    intro y hy
    rcases S.par y.1 (List.of_mem_zip hy).1 with z | z
    · exact .inl z
    · exact .inr ⟨z, PySem.W.cellsFrom_some _ _ _ (.inl z)⟩
  refine codeAny_call_function hr.depth (kin _ _ e2) rfl S.co S.gen rfl (PySem.W.codeRec_of kin e3) (hbi _ _ _ _ (wpAny_newFunctionEnv_cells S.kind kinds fun env z s1 ic => ?_))
  subst z
  obtain ⟨t, ht, hq⟩ := hb cdv A out s H xs Q E (hr.deeper _) hgd hs
  have I0 := inv_start (CX := CX) (P := P) (w := w) (K := K) (mg := mg) (base := base) (E := E) S hr.hd e0 (many _ _ _ _ hs) rv ic
  refine ⟨nl.keeps ic.toInCall.keep, codeAny_func (wpAny_mono (ht.run [] s1 _ H _ I0 hq) (fun fl s' z => ?_) fun _ _ z => z)⟩
  cases fl with
  | next =>
    obtain ⟨_, H', J, q⟩ := z
    exact ⟨V.non, H', J.os, J.bare, J.base, J.hok, rfl, q⟩
  | ret u =>
    obtain ⟨v, _, H', J, r, q⟩ := z
    exact ⟨v, H', J.os, J.bare, J.base, J.hok, r, q⟩
  | brk => exact z.elim fun _ z => z.elim fun _ z => z.2.elim
  | cont => exact z.elim fun _ z => z.elim fun _ z => z.2.elim
end
section
variable {X : Cx} {CX : CXT} {k : Nat} {f : Addr} {fd : FuncData} {ps : List Str} {sp : Sp} {dvs : List V} {ds : List Value} {E : XK} {x : Str} {p pos : Pos} {e : Expr} {es : List Expr} {t : TA}
theorem go_fnG {pins : List (Addr × Obj)} {σ : L2.St} {H : Hp} {s : Shared} {Q : VK} {us : List Value} {xs : List V} (F : FnG X.prog X.w X.K X.mg X.base CX k f fd ps sp) (hr : Room k X.A) (hgd : X.A.guards = some []) (hb : Binds X.K fd ps ds) (hd : Vals dvs ds)
    (hx : PassesAt CX X σ E) (I : Inv X pins σ H s) (rv : Vals xs us) (h : sp (xs ++ dvs) H Q E) : wpAny (model X.prog X.w) X.A (call (.ref f) us) (EP X pins σ Q) X.xe s := by
  have r2 := rv.append hd
  have hl : (us ++ ds).length = ps.length := r2.length.symm.trans (F.many _ _ _ _ h)
  refine wpAny_call (codeAny_mono (F.go X.A X.stack s H ⟨us, []⟩ (us ++ ds) (xs ++ dvs) Q E hr hgd I.env0 (hb s us I.kIn hl) r2 h) fun r s' z => ?_)
  cases r with
  | error e => exact hx pins H s e s' I z
  | ok fl => cases fl with
    | ret u => exact I.after z
    | next => exact z.elim
    | brk => exact z.elim
    | cont => exact z.elim
theorem pe_callSG {E : L2.St → XK} (F : FnG X.prog X.w X.K X.mg X.base CX k f fd ps sp) (hr : Room k X.A) (hgd : X.A.guards = some []) (hg : Gl X x) (hm : X.mg x = some (.ref f)) (hk : PySem.W.keepIn X.K (.ref f) = true) (hb : Binds X.K fd ps ds) (hd : Vals dvs ds) (hx : ∀ σ, PassesAt CX X σ (E σ))
    (ha : PA X (e :: es) t) (n1 : (x == ("__debug__" : Str)) = false := by decide) (n2 : starEach (e :: es) X.env = (false, eval e X.env) :: starEach es X.env := by rfl) (n3 : (backTo pos (starEach es X.env)).any (·.1) = false := by rfl) :
    PE X (.Call (.Name x p) (e :: es) [] pos) (tCallSD sp dvs E t) :=
  ⟨fun pins s σ H Q I h => wpAny_Call_Name_kw (ld_glob I hg hm (PySem.W.callWith_K (h₀ := X.base) I.ok.mod.kin hk (thn (ha.run pos pins s σ H _ I h) fun us s1 ⟨vs, H1, I1, r, q⟩ => ⟨I1.kIn, go_fnG F hr hgd hb hd (hx σ) I1 r q⟩) n2 n3) n1)⟩
theorem pe_callSG0 {E : L2.St → XK} (F : FnG X.prog X.w X.K X.mg X.base CX k f fd ps sp) (hr : Room k X.A) (hgd : X.A.guards = some []) (hg : Gl X x) (hm : X.mg x = some (.ref f)) (hk : PySem.W.keepIn X.K (.ref f) = true) (hb : Binds X.K fd ps ds) (hd : Vals dvs ds) (hx : ∀ σ, PassesAt CX X σ (E σ))
    (n1 : (x == ("__debug__" : Str)) = false := by decide) : PE X (.Call (.Name x p) [] [] pos) (fun σ H Q => sp dvs H Q (E σ)) :=
  ⟨fun pins s σ H Q I h => wpAny_Call_Name_kw (ld_glob I hg hm (PySem.W.callWith_K0 I.kIn hk (go_fnG (us := []) (xs := []) F hr hgd hb hd (hx σ) I .nil h)) n1)⟩
end

/-! ### the law's end -/
theorem law_goG {P : Program} {w : World} {K : PySem.W.Frag} {mg mb : Str → Option Value} {CX : CXT} {k : Nat} {fa a : Addr} {fd : FuncData} {x : Str} {sp : Sp} {s₁ : Shared} {vs : List Value} {ns : List Int}
    (KX : K.In s₁.heap) (hns : s₁.heap.Ns mainGlobals mg) (hb : s₁.heap.Ns builtinsNs mb) (hbb : ∀ x : Str, x ≠ "__name__" → mb x = bootBuiltins x) (hlim : s₁.heap.NoLimit) (hg : s₁.gens = #[])
    (ha : s₁.heap.get? a = some { cls := .type "list", data := .seq vs.toArray }) (hi : IntsAre vs ns) (hl : ns.length ≤ sizeLine) (hr : Room k callerA)
    (F : ∀ base : Heap, K.In base → base.Ns mainGlobals mg → FnG P w K mg base CX k fa fd [x] sp) (hbind : ∀ (s : Shared) (u : Value), BindsTo s fd ⟨[u], []⟩ [(x, u)])
    (hsp : ∀ H : Hp, Only H → SqL K H a (ns.map V.int) → sp [.ref a] H (fun v _ => v = .bl true) fun _ _ _ => False)
    (hCX : ∀ H e s', CX [] H s₁ (fun _ _ _ => False) e s' → False) :
    codeAny (model P w) callerA (.call (.ref fa) ⟨[.ref a], []⟩) (fun r s' => r = .ok (.ret (.bool true)) ∧ OldK s₁.heap s'.heap ∧ s'.os = s₁.os ∧ AllBare s'.gens) s₁ := by
  have rv := vals_ints hi
  have nV := hi.length
  have main : ∀ H : Hp, Only H → SqL K H a (ns.map V.int) → HOk P w H s₁.heap → (∀ b, H b ≠ none → b = a) → (H a ≠ none → K.lookup a = none) →
      codeAny (model P w) callerA (.call (.ref fa) ⟨[.ref a], []⟩) (fun r s' => r = .ok (.ret (.bool true)) ∧ OldK s₁.heap s'.heap ∧ s'.os = s₁.os ∧ AllBare s'.gens) s₁ := by
    intro H o1 o2 ok one out
    have dn : ∀ {b : Addr} {o : Obj} {es : Array DictEntry} {ep : Nat}, s₁.heap.get? b = some o → o.data = .dict es ep → H b = none := by
      intro b o es ep e1 e2
      cases q : H b with
      | none => rfl
      | some u =>
        have z := one b (fun z => by rw [q] at z; cases z)
        rw [z, ha] at e1
        cases e1
        cases (show Data.seq vs.toArray _ = Data.dict es ep from e2)
    have nk : ∀ {b : Addr} {m : Str → Option Value}, s₁.heap.Ns b m → (hidT s₁.heap H).Ns b m := fun ⟨o, es, ep, e, d, r⟩ => ⟨o, es, ep, hidT_get e (dn e d), d, r⟩
    have kb : K.In (hidT s₁.heap H) := by
      intro b o e
      refine hidT_get (KX b o e) ?_
      cases q : H b with
      | none => rfl
      | some u =>
        have z := one b (fun z => by rw [q] at z; cases z)
        rw [z] at e q
        rw [out (fun z => by rw [q] at z; cases z)] at e
        cases e
    have e0 : Env0 P w K mg (hidT s₁.heap H) callerA [] s₁ H := ⟨rfl, ⟨kb, nk hns, ⟨mb, nk hb, hbb⟩, hlim.elim fun mc z => ⟨mc, nk z.1, z.2⟩⟩, fun b o e => of_hidT e, Nat.le_of_eq (hidT_size _ _), trivial, fun b z => (nomatch (show b ∈ ([] : List Addr) from z)), ok, .of_eq hg⟩
    refine codeAny_mono ((F _ kb (nk hns)).go callerA [] s₁ H ⟨[.ref a], []⟩ [.ref a] [.ref a] _ _ hr rfl e0 (hbind s₁ (.ref a)) (.cons rfl .nil) (hsp H o1 o2)) fun r s' h => ?_
    cases r with
    | error e => exact (hCX H e s' h).elim
    | ok fl => cases fl with
      | next => exact h.elim
      | brk => exact h.elim
      | cont => exact h.elim
      | ret u =>
        obtain ⟨v, H', z1, z2, un, ok', z3, z4⟩ := h
        cases (show v = .bl true from z4)
        cases (show u = Value.bool true from z3)
        refine ⟨rfl, OldK.of_keep fun b o e => ?_, z1, z2⟩
        cases q : H b with
        | none => exact un.keep b o e q (fun z => nomatch (show b ∈ ([] : List Addr) from z)) (fun z => nomatch z)
        | some u =>
          rcases o1 b with z | ⟨ob, ys, z⟩
          · rw [q] at z
            cases z
          · have z5 := (ok b _ z).1
            have z6 := (ok' b _ (un.frzs b ob _ z)).1
            rw [e] at z5
            cases z5
            exact z6
  cases hk : K.lookup a with
  | some o =>
    have e := KX a o hk
    rw [ha] at e
    cases e
    exact main (fun _ => none) (fun _ => .inl rfl) (.inr ⟨_, vs.toArray, _, hk, rfl, rfl, rfl, by rw [List.size_toArray, nV]; exact hl, by simpa using rv⟩) (fun b u z => by cases (show (none : Option HO) = some u from z)) (fun b z => absurd rfl z) fun z => absurd rfl z
  | none =>
    refine main (fun b => if b = a then some (.frz { cls := .type "list", data := .seq vs.toArray } (.lst (ns.map V.int))) else none) (fun b => ?_) (.inl (.inr ⟨_, if_pos rfl⟩)) (fun b u z => ?_) (fun b z => ?_) fun _ => hk
    · by_cases e : b = a
      · exact .inr ⟨_, _, if_pos e⟩
      · exact .inl (if_neg e)
    · by_cases e : b = a
      · cases (if_pos e).symm.trans z
        subst e
        exact ⟨ha, by rw [List.length_map]; exact hl, vs, _, rv, ha⟩
      · cases (if_neg e).symm.trans z
    · by_cases e : b = a
      · exact e
      · exact absurd (if_neg e) z
theorem walk_goG {l : PySem.W.OpenLaw} {n k : Nat} {q : Program} {loose : List Str} {XP : (Str → Option Value) → Heap → Prop} {YP : World → Heap → Prop} {d : DefRec} {CX : World → CXT} {x : Str}
    (hn : l.most = some n) (hn2 : n ≤ sizeLine) (hdf : d.params.defaults = []) (hr : Room k callerA)
    (F : ∀ (w : World) (mg : Str → Option Value) (fa : Addr) (h : Heap), YP w h → h.Ns mainGlobals mg → mg d.name = some (.ref fa) →
      ∃ (K : PySem.W.Frag) (fd : FuncData) (sp : Sp), K.In h ∧ (∀ (s : Shared) (u : Value), BindsTo s fd ⟨[u], []⟩ [(x, u)]) ∧
        (∀ (H : Hp) (a : Addr) (ns : List Int), ns.length ≤ n → Only H → SqL K H a (ns.map V.int) → sp [.ref a] H (fun v _ => v = .bl true) fun _ _ _ => False) ∧
        ∀ base : Heap, K.In base → base.Ns mainGlobals mg → FnG l.prog w K mg base (CX w) k fa fd [x] sp)
    (hCX : ∀ (w : World) (H : Hp) (s : Shared) (e : Value) (s' : Shared), CX w [] H s (fun _ _ _ => False) e s' → False) :
    PySem.W.WalkO q loose XP YP l.row.toRowW d [] (fun f vs => PySem.call f vs) :=
  Att.attach_call hn hdf fun w s₀ s₁ mg mb fa o pm cd doc a vs ns G Y ho hd hcd hmg hobj hints hlen hg =>
    let ⟨K, fd, sp, KX, hb, hsp, hF⟩ := F w mg fa _ Y G.T.g hmg
    law_goG KX G.T.g G.T.b G.T.builtins G.T.nolimit hg hobj hints (Nat.le_trans hlen hn2) hr hF hb (fun H hO hS => hsp H a ns hlen hO hS) fun H e s' => hCX w H s₁ e s'
end DL
end
section
set_option Elab.async false
set_option linter.all false
set_option maxRecDepth 100000
set_option maxHeartbeats 2000000
/-! D1: calls of defs, operators, tests. -/
namespace DL
open PySem PySem.Spec L2
open PyProof.Rows hiding St

/-! ### what a def promises at the data level -/
abbrev DSp := List AV → Mp → DK → DXK → Prop
def lSp (K : PySem.W.Frag) (sp : DSp) : Sp := fun vs H Q E => ∃ (S : Hp) (M : Mp) (xs : List AV) (P : DK) (R : DXK), Rp K S H M ∧ RVs K S vs xs ∧ sp xs M P R ∧ To K S P Q ∧ ToX K S R E
abbrev PX0 : DXK := fun _ _ _ => False
theorem toX0 {K : PySem.W.Frag} {S : Hp} {E : XK} : ToX K S PX0 E := fun _ _ _ _ _ _ p => p.elim

section
variable {X : Cx} {EX : WXc} {e : Expr} {es : List Expr} {we : DTE} {w : DTA} {pos p : Pos}
/-! ### arguments -/
def wNil : DTA := fun _ M P _ => P [] M
def wCons (we : DTE) (w : DTA) : DTA := fun δ M P R => we δ M (fun x M1 => w δ M1 (fun xs M2 => P (x :: xs) M2) R) R
theorem da_nil : DA X EX [] wNil := pa_imp pa_nil fun σ H Q ⟨S, M, δ, P, R, r, rs, p, k, kx⟩ => k [] M S H [] p (Same.refl S) r .nil
theorem da_cons (he : DE X EX e we) (h : DA X EX es w) (hs : starEach (e :: es) X.env = (false, eval e X.env) :: starEach es X.env := by rfl) : DA X EX (e :: es) (wCons we w) := pa_imp (pa_cons he h hs) fun σ H Q ⟨S, M, δ, P, R, r, rs, p, k, kx⟩ =>
  ⟨S, M, δ, _, R, r, rs, p, fun x M1 S1 H1 v p1 e1 r1 rv => ⟨S1, M1, δ, _, R, r1, rs.mono e1, p1, fun xs M2 S2 H2 vs p2 e2 r2 rvs => k (x :: xs) M2 S2 H2 (v :: vs) p2 (e1.trans e2) r2 (.cons (rv.mono e2) rvs), kx.mono e1⟩, kx⟩

/-! ### calls of defs -/
/-- a def of the module that has no defaults -/
structure GDef (K : PySem.W.Frag) (mg : Str → Option Value) (x : Str) (st : Stmt) (ps : List Str) (f : Addr) (fd : FuncData) : Prop where
  fn : FunD K x x (defArgs st) (defBody st) (defScope st) [] [] f fd
  glo : mg x = some (.ref f)
  bnd : Binds K fd ps []
/-- it keeps its promise -/
structure GOk (P : Program) (w : World) (K : PySem.W.Frag) (mg : Str → Option Value) (base : Heap) (CX : CXT) (k : Nat) (x : Str) (ps : List Str) (sp : DSp) : Prop where
  ok : ∃ f fd, mg x = some (.ref f) ∧ PySem.W.keepIn K (.ref f) = true ∧ Binds K fd ps [] ∧ FnG P w K mg base CX k f fd ps (lSp K sp)
theorem GOk.mono {P : Program} {w : World} {K : PySem.W.Frag} {mg : Str → Option Value} {base : Heap} {CX : CXT} {j k : Nat} {x : Str} {ps : List Str} {sp : DSp} (G : GOk P w K mg base CX j x ps sp) (h : j ≤ k) : GOk P w K mg base CX k x ps sp :=
  let ⟨f, fd, a, b, c, d⟩ := G.ok
  ⟨f, fd, a, b, c, d.mono h⟩
/-- a def by its body's reading -/
theorem gok_of {P : Program} {w : World} {K : PySem.W.Frag} {mg : Str → Option Value} {base : Heap} {CX : CXT} {k : Nat} {x : Str} {st : Stmt} {f : Addr} {fd : FuncData} {N ps : List Str} {sp : DSp} (G : GDef K mg x st ps f fd) (S : FnScope N ps (defScope st))
    (many : ∀ xs M P R, sp xs M P R → xs.length = ps.length)
    (hb : ∀ (cdv : Value) (A : Around) (out : List Env) (s : Shared) (H : Hp) (E : XK), Room k (A.deeper (envOfC x (defScope st) s.heap.objs.size f cdv)) → A.guards = some [] →
      ∃ t : DTS, DSs (cxOf CX P w K mg base N x (defScope st) f cdv A out s H E) (fun c d _ H' => E c d H') (defBody st) t ∧
        ∀ (xs : List AV) (M : Mp) (P : DK) (R : DXK), sp xs M P R → t { nx := fun _ M' => P (.dat .none) M', rt := P, xp := fun c fs _ M' => R c fs M' } (dstart N xs) M) :
    GOk P w K mg base CX (k + 1) x ps sp :=
  ⟨f, fd, G.glo, G.fn.kp, G.bnd, fnG_of G.fn S (fun vs H Q E ⟨S, M, xs, P, R, r, rvs, p, _, _⟩ => rvs.length.trans (many _ _ _ _ p)) fun cdv A out s H vs Q E hr hgd ⟨S0, M, xs, P, R, r, rvs, p, k1, k2⟩ => by
    obtain ⟨t, ht, hq⟩ := hb cdv A out s H E hr hgd
    exact ⟨_, ht, S0, M, dstart N xs, _, r, RSl.start N rvs, hq xs M P R p, ⟨fun δ M' S' H' σ p1 e1 r1 _ => k1 _ M' S' H' .non p1 e1 r1 (.dat .non), k1, fun _ _ _ _ _ z => z.elim, fun _ _ _ _ _ z => z.elim, fun c fs δ M' S' H' σ d p1 e1 r1 _ x => k2 c fs M' S' H' d p1 e1 r1 x⟩⟩⟩
/-- what a callee raises reaches the caller's wish -/
def PAt (CX : CXT) (X : Cx) (EX : WXc) : Prop := ∀ σ, PassesAt CX X σ (fun c d H => EX c d σ H)
theorem pat0 : PAt CX0 X EX := fun σ _ _ _ _ _ _ h => h.elim
theorem pat_of (tk : Takes X EX) : PAt (L2.CX X.prog X.w) X EX := fun σ => passAt tk σ
theorem patF {X : Cx} : PAt (L2.CX X.prog X.w) X (fun _ _ _ _ => False) := fun σ _ _ _ _ _ _ h => by
  obtain ⟨_, _, _, _, _, _, _, _, _, _, _, _, z⟩ := h
  exact z.elim
def wCall (sp : DSp) (w : DTA) : DTE := fun δ M P R => w δ M (fun xs M1 => sp xs M1 P R) R
theorem de_call {CX : CXT} {k : Nat} {x : Str} {ps : List Str} {sp : DSp} (G : GOk X.prog X.w X.K X.mg X.base CX k x ps sp) (hr : Room k X.A) (hgd : X.A.guards = some []) (hg : Gl X x) (hx : PAt CX X EX)
    (ha : DA X EX (e :: es) w) (n1 : (x == ("__debug__" : Str)) = false := by decide) (n2 : starEach (e :: es) X.env = (false, eval e X.env) :: starEach es X.env := by rfl) (n3 : (backTo pos (starEach es X.env)).any (·.1) = false := by rfl) :
    DE X EX (.Call (.Name x p) (e :: es) [] pos) (wCall sp w) := by
  obtain ⟨f, fd, hm, hk, hb, F⟩ := G.ok
  exact pe_imp (pe_callSG F hr hgd hg hm hk hb .nil hx ha n1 n2 n3) fun σ H Q ⟨S, M, δ, P, R, r, rs, p, k, kx⟩ =>
    ⟨S, M, δ, _, R, r, rs, p, fun xs M1 S1 H1 vs p1 e1 r1 rvs => by
      show lSp X.K sp (vs ++ []) H1 Q _
      rw [List.append_nil]
      exact ⟨S1, M1, xs, P, R, r1, rvs, p1, k.mono e1, kx.mono e1⟩, kx⟩
theorem de_call0 {CX : CXT} {k : Nat} {x : Str} {ps : List Str} {sp : DSp} (G : GOk X.prog X.w X.K X.mg X.base CX k x ps sp) (hr : Room k X.A) (hgd : X.A.guards = some []) (hg : Gl X x) (hx : PAt CX X EX)
    (n1 : (x == ("__debug__" : Str)) = false := by decide) : DE X EX (.Call (.Name x p) [] [] pos) (wCall sp wNil) := by
  obtain ⟨f, fd, hm, hk, hb, F⟩ := G.ok
  exact pe_imp (pe_callSG0 F hr hgd hg hm hk hb .nil hx n1) fun σ H Q ⟨S, M, δ, P, R, r, rs, p, k, kx⟩ => ⟨S, M, [], P, R, r, .nil, p, k, kx⟩

/-! ### values by their data -/
theorem rv_int {K : PySem.W.Frag} {S : Hp} {v : V} {i : Int} (h : RV K S v (.dat (.int i))) : v = .int i := by
  cases h with
  | dat d => cases d; rfl
theorem rv_str {K : PySem.W.Frag} {S : Hp} {v : V} {i : Str} (h : RV K S v (.dat (.str i))) : v = .str i := by
  cases h with
  | dat d => cases d; rfl
theorem rv_non {K : PySem.W.Frag} {S : Hp} {v : V} (h : RV K S v (.dat .none)) : v = .non := by
  cases h with
  | dat d => cases d; rfl
theorem rv_tup {K : PySem.W.Frag} {S : Hp} {v : V} {ds : List PyData} (h : RV K S v (.dat (.tuple ds))) : ∃ a vs, v = .ref a ∧ SqT K S a vs ∧ DDs K S vs ds := by
  cases h with
  | dat d => cases d with
    | tup h q => exact ⟨_, _, rfl, h, q⟩
theorem rv_lst {K : PySem.W.Frag} {S : Hp} {v : V} {ds : List PyData} (h : RV K S v (.dat (.list ds))) : ∃ a vs, v = .ref a ∧ SqL K S a vs ∧ DDs K S vs ds := by
  cases h with
  | dat d => cases d with
    | lst h q => exact ⟨_, _, rfl, h, q⟩
theorem rv_ref {K : PySem.W.Frag} {S : Hp} {v : V} {a : Addr} (h : RV K S v (.ref a)) : v = .ref a := by
  cases h; rfl
theorem rp_lst {K : PySem.W.Frag} {S H : Hp} {M : Mp} {a : Addr} {xs : List AV} (r : Rp K S H M) (h : M a = some (.lst xs)) : ∃ vs, S a = none ∧ H a = some (.lst vs) ∧ RVs K S vs xs := by
  obtain ⟨s, g⟩ := r.mo a _ h
  cases g with
  | lst h1 h2 => exact ⟨_, s, h1, h2⟩
theorem rp_dct {K : PySem.W.Frag} {S H : Hp} {M : Mp} {a : Addr} {xs : List (Key × AV)} (r : Rp K S H M) (h : M a = some (.dct xs)) : ∃ vs, S a = none ∧ H a = some (.dK vs) ∧ RKs K S vs xs := by
  obtain ⟨s, g⟩ := r.mo a _ h
  cases g with
  | dct h1 h2 => exact ⟨_, s, h1, h2⟩
theorem lO_mk {K : PySem.W.Frag} {x y : V} {H : Hp} {Q : VK} {w : D2} (h : lO K w x y H Q) : ∃ (S : Hp) (M : Mp) (a b : AV) (P : DK), Rp K S H M ∧ RV K S x a ∧ RV K S y b ∧ w a b M P ∧ To K S P Q := h

/-! ### operators -/
/-- two ints: the answer under a condition -/
def onII (C : Int → Int → Prop) (g : Int → Int → PyData) : D2 := fun x y M P => match x, y with
  | .dat (.int i), .dat (.int j) => C i j ∧ P (.dat (g i j)) M
  | _, _ => False
theorem onII_inv {C : Int → Int → Prop} {g : Int → Int → PyData} {x y : AV} {M : Mp} {P : DK} (h : onII C g x y M P) : ∃ i j, x = .dat (.int i) ∧ y = .dat (.int j) ∧ C i j ∧ P (.dat (g i j)) M := by
  unfold onII at h
  split at h
  · exact ⟨_, _, rfl, rfl, h.1, h.2⟩
  · exact h.elim
theorem dop_I {f : Value → Value → Sem Value} {C : Int → Int → Prop} {g : Int → Int → V} {g' : Int → Int → PyData} (h : OpR X f (rI C g)) (hg : ∀ S i j, DD X.K S (g i j) (g' i j)) : OpR X f (lO X.K (onII C g')) := op_imp h fun x y H Q ⟨S, M, a, b, P, r, ra, rb, p, k⟩ => by
  obtain ⟨i, j, e1, e2, c, p2⟩ := onII_inv p
  subst e1 e2
  exact ⟨i, j, rv_int ra, rv_int rb, c, k _ M S H _ p2 (Same.refl S) r (.dat (hg S i j))⟩
def wSub : D2 := fun x y M P => match x, y with
  | .dat (.int i), .dat (.int j) => P (.dat (.int (i - j))) M
  | _, _ => False
theorem do_sub : OpR X (binaryOp .Sub) (lO X.K wSub) := op_imp op_sub fun x y H Q ⟨S, M, a, b, P, r, ra, rb, p, k⟩ => by
  unfold wSub at p
  split at p
  · exact ⟨_, _, rv_int ra, rv_int rb, k _ M S H _ p (Same.refl S) r (.dat (.int _))⟩
  · exact p.elim
abbrev wFdiv : D2 := onII CDivW fun i j => .int (i / j)
abbrev wMod : D2 := onII (fun _ j => 0 < j) fun i j => .int (i % j)
abbrev wPow : D2 := onII CPow fun i j => .int (i ^ j.toNat)
theorem do_fdiv : OpR X (binaryOp .FloorDiv) (lO X.K wFdiv) := dop_I op_fdivW fun _ _ _ => .int _
theorem do_mod : OpR X (binaryOp .Mod) (lO X.K wMod) := dop_I op_mod fun _ _ _ => .int _
theorem do_pow : OpR X (binaryOp .Pow) (lO X.K wPow) := dop_I op_pow fun _ _ _ => .int _
/-- order: ints, texts -/
def strLt (a b : Str) : Bool := decide (a.cps.toList < b.cps.toList)
def wLt : D2 := fun x y M P => match x, y with
  | .dat (.int i), .dat (.int j) => P (.dat (.bool (decide (i < j)))) M
  | .dat (.str a), .dat (.str b) => P (.dat (.bool (strLt a b))) M
  | _, _ => False
theorem do_lt : OpR X (compareOp .Lt) (lO X.K wLt) := fun pins s σ H x y v u Q I rx ry ⟨S, M, a, b, P, r, ra, rb, p, k⟩ => by
  unfold wLt at p
  split at p
  · exact op_lt pins s σ H x y v u Q I rx ry ⟨_, _, rv_int ra, rv_int rb, k _ M S H _ p (Same.refl S) r (.dat (.bl _))⟩
  · exact op_lt_str pins s σ H x y v u Q I rx ry ⟨_, _, rv_str ra, rv_str rb, k _ M S H _ p (Same.refl S) r (.dat (.bl _))⟩
  · exact p.elim
def onI0 (g : Int → Int → Bool) : D2 := fun x y M P => match x, y with
  | .dat (.int i), .dat (.int j) => P (.dat (.bool (g i j))) M
  | _, _ => False
theorem dop_I0 {f : Value → Value → Sem Value} {g : Int → Int → Bool} (h : OpR X f (rI0 fun i j => .bl (g i j))) : OpR X f (lO X.K (onI0 g)) := op_imp h fun x y H Q ⟨S, M, a, b, P, r, ra, rb, p, k⟩ => by
  unfold onI0 at p
  split at p
  · exact ⟨_, _, rv_int ra, rv_int rb, k _ M S H _ p (Same.refl S) r (.dat (.bl _))⟩
  · exact p.elim
abbrev wGt : D2 := onI0 fun i j => decide (j < i)
abbrev wGe : D2 := onI0 fun i j => decide (j ≤ i)
theorem do_gt : OpR X (compareOp .Gt) (lO X.K wGt) := dop_I0 op_gt
theorem do_ge : OpR X (compareOp .GtE) (lO X.K wGe) := dop_I0 op_ge
def wLe : D2 := fun x y M P => match x, y with
  | .dat (.int i), .dat (.int j) => P (.dat (.bool (decide (i ≤ j)))) M
  | .dat (.str a), .dat (.str b) => P (.dat (.bool (!strLt b a))) M
  | _, _ => False
theorem do_le : OpR X (compareOp .LtE) (lO X.K wLe) := fun pins s σ H x y v u Q I rx ry ⟨S, M, a, b, P, r, ra, rb, p, k⟩ => by
  unfold wLe at p
  split at p
  · exact op_le pins s σ H x y v u Q I rx ry ⟨_, _, rv_int ra, rv_int rb, k _ M S H _ p (Same.refl S) r (.dat (.bl _))⟩
  · exact op_le_str pins s σ H x y v u Q I rx ry ⟨_, _, rv_str ra, rv_str rb, k _ M S H _ p (Same.refl S) r (.dat (.bl _))⟩
  · exact p.elim
/-- is None, is True .. -/
def isNoneA : AV → Bool
  | .dat .none => true
  | _ => false
theorem rv_isNone {K : PySem.W.Frag} {S : Hp} {v : V} {x : AV} (h : RV K S v x) : decide (v = .non) = isNoneA x := by
  cases h with
  | dat d => cases d <;> rfl
  | ref a => rfl
  | tup _ _ => rfl
def wIs (n : Bool) : D2 := fun x y M P => match y with
  | .dat .none => P (.dat (.bool (n != isNoneA x))) M
  | .dat (.bool b) => (match x with
    | .dat (.bool a) => P (.dat (.bool (n != (a == b)))) M
    | _ => False)
  | _ => False
theorem wIs_inv {n : Bool} {x y : AV} {M : Mp} {P : DK} (h : wIs n x y M P) : (y = .dat .none ∧ P (.dat (.bool (n != isNoneA x))) M) ∨ ∃ a b, x = .dat (.bool a) ∧ y = .dat (.bool b) ∧ P (.dat (.bool (n != (a == b)))) M := by
  unfold wIs at h
  split at h
  · exact .inl ⟨rfl, h⟩
  · split at h
    · exact .inr ⟨_, _, rfl, rfl, h⟩
    · exact h.elim
  · exact h.elim
theorem do_is : OpR X (compareOp .Is) (lO X.K (wIs false)) := fun pins s σ H x y v u Q I rx ry ⟨S, M, a, b, P, r, ra, rb, p, k⟩ => by
  rcases wIs_inv p with ⟨e1, p2⟩ | ⟨c, d, e1, e2, p2⟩
  · subst e1
    refine op_isN pins s σ H x y v u Q I rx ry ⟨rv_non rb, ?_⟩
    rw [rv_isNone ra]
    have q : P (.dat (.bool (isNoneA a))) M := by
      cases h : isNoneA a <;> rw [h] at p2 <;> exact p2
    exact k _ M S H _ q (Same.refl S) r (.dat (.bl _))
  · subst e1 e2
    refine op_isBl pins s σ H x y v u Q I rx ry ⟨c, d, rv_bl ra, rv_bl rb, ?_⟩
    have q : P (.dat (.bool (decide (c = d)))) M := by
      cases c <;> cases d <;> exact p2
    exact k _ M S H _ q (Same.refl S) r (.dat (.bl _))
theorem do_isNot : OpR X (compareOp .IsNot) (lO X.K (wIs true)) := fun pins s σ H x y v u Q I rx ry ⟨S, M, a, b, P, r, ra, rb, p, k⟩ => by
  rcases wIs_inv p with ⟨e1, p2⟩ | ⟨c, d, e1, e2, p2⟩
  · subst e1
    refine op_notN pins s σ H x y v u Q I rx ry ⟨rv_non rb, ?_⟩
    rw [rv_isNone ra]
    have q : P (.dat (.bool (!isNoneA a))) M := by
      cases h : isNoneA a <;> rw [h] at p2 <;> exact p2
    exact k _ M S H _ q (Same.refl S) r (.dat (.bl _))
  · subst e1 e2
    refine op_notBl pins s σ H x y v u Q I rx ry ⟨c, d, rv_bl ra, rv_bl rb, ?_⟩
    have q : P (.dat (.bool (!decide (c = d)))) M := by
      cases c <;> cases d <;> exact p2
    exact k _ M S H _ q (Same.refl S) r (.dat (.bl _))

/-! ### data of any depth: == -/
mutual
theorem DD.dp {K : PySem.W.Frag} {S H : Hp} (e : Same S H) : ∀ {d : PyData} {v : V}, DD K S v d → d.canLay0 = true → Dp K H v d
  | _, _, .non, _ => .non
  | _, _, .bl b, _ => .bl b
  | _, _, .int i, _ => .int i
  | _, _, .str x, _ => .str x
  | _, _, .lst h q, c => .lst (Same.seq e h) (DDs.dp e q (by simpa [PyData.canLay0] using c))
  | _, _, .tup h q, c => .tup (Same.seqT e h) (DDs.dp e q (by simpa [PyData.canLay0] using c))
  | _, _, .dct h q, c => by simp [PyData.canLay0] at c
theorem DDs.dp {K : PySem.W.Frag} {S H : Hp} (e : Same S H) : ∀ {ds : List PyData} {vs : List V}, DDs K S vs ds → PyData.canLayAll0 ds = true → DpAll K H vs ds
  | _, _, .nil, _ => .nil
  | _, _, .cons h t, c => by
    simp [PyData.canLayAll0] at c
    exact .cons (DD.dp e h c.1) (DDs.dp e t c.2)
end
def wEq (n : Bool) : D2 := fun x y M P => match x, y with
  | .dat d, .dat e => SeqAt.shaped d = true ∧ SeqAt.shaped e = true ∧ P (.dat (.bool (n != PyData.eqv d e))) M
  | _, _ => False
theorem wEq_inv {n : Bool} {x y : AV} {M : Mp} {P : DK} (h : wEq n x y M P) : ∃ d e, x = .dat d ∧ y = .dat e ∧ SeqAt.shaped d = true ∧ SeqAt.shaped e = true ∧ P (.dat (.bool (n != PyData.eqv d e))) M := by
  unfold wEq at h
  split at h
  · exact ⟨_, _, rfl, rfl, h⟩
  · exact h.elim
theorem do_eq (hu : X.A.units + 64 < cLine) : OpR X (compareOp .Eq) (lO X.K (wEq false)) := op_imp (op_eqD hu) fun x y H Q ⟨S, M, a, b, P, r, ra, rb, p, k⟩ => by
  obtain ⟨d, e, e1, e2, s1, s2, p2⟩ := wEq_inv p
  subst e1 e2
  cases ra with
  | dat ha =>
    cases rb with
    | dat hb =>
      refine ⟨d, e, ha.dp r.ext (SeqAt.canLay_of_shaped s1), hb.dp r.ext (SeqAt.canLay_of_shaped s2), s1, s2, k (.dat (.bool (PyData.eqv d e))) M S H _ ?_ (Same.refl S) r (.dat (.bl _))⟩
      cases h : PyData.eqv d e <;> rw [h] at p2 <;> exact p2
theorem do_ne (hu : X.A.units + 64 < cLine) : OpR X (compareOp .NotEq) (lO X.K (wEq true)) := op_imp (op_neD hu) fun x y H Q ⟨S, M, a, b, P, r, ra, rb, p, k⟩ => by
  obtain ⟨d, e, e1, e2, s1, s2, p2⟩ := wEq_inv p
  subst e1 e2
  cases ra with
  | dat ha =>
    cases rb with
    | dat hb =>
      refine ⟨d, e, ha.dp r.ext (SeqAt.canLay_of_shaped s1), hb.dp r.ext (SeqAt.canLay_of_shaped s2), s1, s2, k (.dat (.bool (!PyData.eqv d e))) M S H _ ?_ (Same.refl S) r (.dat (.bl _))⟩
      cases h : PyData.eqv d e <;> rw [h] at p2 <;> exact p2

/-! ### in: a text in a text; flat data in a row -/
def inStr (i j : Str) : Bool := !(Builtin.Str.occurrences j i 0 j.length 1).isEmpty
def flatD : PyData → Bool
  | .none => true
  | .bool _ => true
  | .int _ => true
  | .str _ => true
  | _ => false
theorem flat_of {K : PySem.W.Frag} {S : Hp} {v : V} {d : PyData} (h : DD K S v d) (f : flatD d = true) : flatV v = true := by
  cases h <;> first | rfl | cases f
theorem flats_of {K : PySem.W.Frag} {S : Hp} : ∀ {ds : List PyData} {vs : List V}, DDs K S vs ds → ds.all flatD = true → vs.all flatV = true
  | _, _, .nil, _ => rfl
  | _, _, .cons h t, f => by
    simp at f ⊢
    exact ⟨flat_of h f.1, fun x hx => by
      have := flats_of t (by simpa using f.2)
      simp at this
      exact this x hx⟩
theorem eqV_of {K : PySem.W.Frag} {S : Hp} {v u : V} {d e : PyData} (h : DD K S v d) (q : DD K S u e) (f : flatD d = true) (f' : flatD e = true) : eqV v u = PyData.eqv d e := by
  cases h <;> cases q <;> first | (cases f; done) | (cases f'; done) | (simp [eqV, PyData.eqv]; done)
def anyIn (d : PyData) (ds : List PyData) : Bool := ds.any fun z => PyData.eqv z d
theorem inV_of {K : PySem.W.Frag} {S : Hp} {v : V} {d : PyData} (h : DD K S v d) (f : flatD d = true) : ∀ {ds : List PyData} {vs : List V}, DDs K S vs ds → ds.all flatD = true → inV v vs = anyIn d ds
  | _, _, .nil, _ => rfl
  | _, _, .cons q t, f' => by
    simp only [List.all_cons, Bool.and_eq_true] at f'
    show (eqV _ v || inV v _) = _
    rw [eqV_of q h f'.1 f, inV_of h f t f'.2]
    rfl
def wIn (n : Bool) : D2 := fun x y M P => match x, y with
  | .dat d, .dat (.tuple ds) => flatD d = true ∧ ds.all flatD = true ∧ P (.dat (.bool (n != anyIn d ds))) M
  | .dat d, .dat (.list ds) => flatD d = true ∧ ds.all flatD = true ∧ P (.dat (.bool (n != anyIn d ds))) M
  | .dat (.str i), .dat (.str j) => P (.dat (.bool (n != inStr i j))) M
  | .dat d, .ref a => ∃ ds, M a = some (.lst (ds.map .dat)) ∧ flatD d = true ∧ ds.all flatD = true ∧ P (.dat (.bool (n != anyIn d ds))) M
  | _, _ => False
theorem in_seq {K : PySem.W.Frag} {neg : Bool} {x y : V} {H S : Hp} {Q : VK} {M : Mp} {P : DK} {d : PyData} {ds : List PyData} {a : Addr} {vs : List V} (r : Rp K S H M) (ra : RV K S x (.dat d)) (ey : y = .ref a) (hs : SqL K H a vs ∨ SqT K H a vs) (hd : DDs K S vs ds) (f1 : flatD d = true) (f2 : ds.all flatD = true)
    (p : P (.dat (.bool (neg != anyIn d ds))) M) (k : To K S P Q) : rIn K neg x y H Q := by
  cases ra with
  | dat h =>
    refine ⟨a, vs, ey, hs, flat_of h f1, flats_of hd f2, ?_⟩
    rw [inV_of h f1 hd f2]
    have q : P (.dat (.bool (if neg then !anyIn d ds else anyIn d ds))) M := by
      cases neg <;> cases h : anyIn d ds <;> rw [h] at p <;> exact p
    exact k _ M S H _ q (Same.refl S) r (.dat (.bl _))
theorem wIn_l {K : PySem.W.Frag} {neg : Bool} {x y : V} {H : Hp} {Q : VK} (h : lO K (wIn neg) x y H Q) : rIn K neg x y H Q ∨ ∃ i j, x = .str i ∧ y = .str j ∧ Q (.bl (neg != inStr i j)) H := by
  obtain ⟨S, M, a, b, P, r, ra, rb, p, k⟩ := h
  unfold wIn at p
  split at p
  · obtain ⟨q, vs, e, h1, h2⟩ := rv_tup rb
    exact .inl (in_seq r ra e (.inr (Same.seqT r.ext h1)) h2 p.1 p.2.1 p.2.2 k)
  · obtain ⟨q, vs, e, h1, h2⟩ := rv_lst rb
    exact .inl (in_seq r ra e (.inl (Same.seq r.ext h1)) h2 p.1 p.2.1 p.2.2 k)
  · exact .inr ⟨_, _, rv_str ra, rv_str rb, k _ M S H _ p (Same.refl S) r (.dat (.bl _))⟩
  · obtain ⟨ds, em, f1, f2, p⟩ := p
    obtain ⟨vs, _, h1, h2⟩ := rp_lst r em
    exact .inl (in_seq r ra (rv_ref rb) (.inl (SqL.of h1)) h2.to_dat f1 f2 p k)
  · exact p.elim
theorem do_in : OpR X (compareOp .In) (lO X.K (wIn false)) := fun pins s σ H x y v u Q I rx ry h => by
  rcases wIn_l h with h | ⟨i, j, e1, e2, q⟩
  · exact op_in_seq pins s σ H x y v u Q I rx ry h
  · refine op_in_str pins s σ H x y v u Q I rx ry ⟨i, j, e1, e2, ?_⟩
    have z : (false != inStr i j) = !(Builtin.Str.occurrences j i 0 j.length 1).isEmpty := by simp [inStr]
    rw [← z]
    exact q
theorem do_notIn : OpR X (compareOp .NotIn) (lO X.K (wIn true)) := fun pins s σ H x y v u Q I rx ry h => by
  rcases wIn_l h with h | ⟨i, j, e1, e2, q⟩
  · exact op_notIn_seq pins s σ H x y v u Q I rx ry h
  · refine op_notIn_str pins s σ H x y v u Q I rx ry ⟨i, j, e1, e2, ?_⟩
    have z : (true != inStr i j) = !(!(Builtin.Str.occurrences j i 0 j.length 1).isEmpty) := by simp [inStr]
    rw [← z]
    exact q

/-! ### + and * -/
def wAdd : D2 := fun x y M P => match x, y with
  | .dat (.int i), .dat (.int j) => P (.dat (.int (i + j))) M
  | .dat (.str a), .dat (.str b) => a.length + b.length ≤ sizeLine ∧ P (.dat (.str (a ++ b))) M
  | .dat (.tuple a), .dat (.tuple b) => a.length + b.length ≤ sizeLine ∧ P (.dat (.tuple (a ++ b))) M
  | .ref a, .ref b => ∃ xs ys, M a = some (.lst xs) ∧ M b = some (.lst ys) ∧ xs.length + ys.length ≤ sizeLine ∧ ∀ p, M p = none → P (.ref p) (um M p (.lst (xs ++ ys)))
  | _, _ => False
theorem do_add : OpR X (binaryOp .Add) (lO X.K wAdd) := fun pins s σ H x y v u Q I rx ry ⟨S, M, a, b, P, r, ra, rb, p, k⟩ => by
  unfold wAdd at p
  split at p
  · exact op_add pins s σ H x y v u Q I rx ry ⟨_, _, rv_int ra, rv_int rb, k _ M S H _ p (Same.refl S) r (.dat (.int _))⟩
  · exact op_add_str pins s σ H x y v u Q I rx ry ⟨_, _, rv_str ra, rv_str rb, p.1, k _ M S H _ p.2 (Same.refl S) r (.dat (.str _))⟩
  · rename_i xs ys
    obtain ⟨p1, vs, rfl, h1, q1⟩ := rv_tup ra
    obtain ⟨p2, us, rfl, h2, q2⟩ := rv_tup rb
    obtain ⟨c, p⟩ := p
    have l1 := q1.length
    have l2 := q2.length
    refine op_catA pins s σ H _ _ v u Q I rx ry ⟨p1, p2, vs, us, rfl, rfl, Same.seqT r.ext h1, Same.seqT r.ext h2, by omega, fun z => ?_, fun z z2 => ?_, fun z z2 q hq => ?_⟩
    · subst z
      cases q1
      exact k _ M S H _ p (Same.refl S) r rb
    · subst z2
      cases q2
      rw [List.append_nil] at p
      exact k _ M S H _ p (Same.refl S) r ra
    · obtain ⟨e, r'⟩ := r.frozen hq (.tup (vs ++ us))
      exact k _ M _ _ _ p e r' (.dat (.tup (SqT.of upd_same) ((q1.append q2).mono e)))
  · obtain ⟨xs, ys, h1, h2, c, p⟩ := p
    obtain ⟨vs, _, a1, b1⟩ := rp_lst r h1
    obtain ⟨us, _, a2, b2⟩ := rp_lst r h2
    have l1 := b1.length
    have l2 := b2.length
    exact op_cat pins s σ H x y v u Q I rx ry ⟨_, _, vs, us, rv_ref ra, rv_ref rb, a1, a2, by omega, fun q hq => k _ _ S _ _ (p q (r.fresh hq)) (Same.refl S) (r.alloc hq _ (.lst upd_same (b1.append b2))) (.ref q)⟩
  · exact p.elim
def wMul : D2 := fun x y M P => match x, y with
  | .dat (.int i), .dat (.int j) => CMul i j ∧ P (.dat (.int (i * j))) M
  | .dat (.str a), .dat (.int j) => MulOk a j ∧ P (.dat (.str (Txt.mul a j))) M
  | _, _ => False
theorem do_mul : OpR X (binaryOp .Mult) (lO X.K wMul) := fun pins s σ H x y v u Q I rx ry ⟨S, M, a, b, P, r, ra, rb, p, k⟩ => by
  unfold wMul at p
  split at p
  · exact op_mul pins s σ H x y v u Q I rx ry ⟨_, _, rv_int ra, rv_int rb, p.1, k _ M S H _ p.2 (Same.refl S) r (.dat (.int _))⟩
  · have e1 := rv_str ra
    have e2 := rv_int rb
    subst e1 e2
    obtain ⟨t, rfl⟩ := rx
    obtain ⟨t', rfl⟩ := ry
    exact PySem.SB.mul p.1 fun t2 k2 => ⟨.str _, H, I.tok _, ⟨_, rfl⟩, k _ M S H _ p.2 (Same.refl S) r (.dat (.str _))⟩
  · exact p.elim
end
end DL
end
section
set_option Elab.async false
set_option linter.all false
set_option maxRecDepth 100000
set_option maxHeartbeats 2000000
/-! D2: displays, places in what is a row, len, isinstance, built-ins, what is walked, comprehensions. -/
namespace DL
open PySem PySem.Spec L2
open PyProof.Rows hiding St

/-! ### displays -/
def datsOf : List AV → Option (List PyData)
  | [] => some []
  | .dat d :: r => (datsOf r).map (d :: ·)
  | _ :: _ => none
theorem datsOf_map : ∀ {xs : List AV} {ds : List PyData}, datsOf xs = some ds → xs = ds.map .dat
  | [], _, h => by cases h; rfl
  | .dat d :: r, _, h => by
    unfold datsOf at h
    cases q : datsOf r with
    | none => rw [q] at h; cases h
    | some es =>
      rw [q] at h
      cases h
      rw [datsOf_map q]
      rfl
theorem datsOf_dats (ds : List PyData) : datsOf (ds.map .dat) = some ds := by
  induction ds with
  | nil => rfl
  | cons d r ih =>
    show (datsOf (r.map .dat)).map (d :: ·) = _
    rw [ih]
    rfl
def onDs (xs : List AV) (k : List PyData → Prop) : Prop := match datsOf xs with
  | some ds => k ds
  | none => False
theorem onDs_inv {xs : List AV} {k : List PyData → Prop} (h : onDs xs k) : ∃ ds, datsOf xs = some ds ∧ k ds := by
  unfold onDs at h
  split at h
  · exact ⟨_, by assumption, h⟩
  · exact h.elim
def mkTup (xs : List AV) : AV := match datsOf xs with
  | some ds => .dat (.tuple ds)
  | none => .tup xs
theorem rv_mkTup {K : PySem.W.Frag} {S : Hp} {a : Addr} {vs : List V} {xs : List AV} (h : SqT K S a vs) (q : RVs K S vs xs) : RV K S (.ref a) (mkTup xs) := by
  unfold mkTup
  cases e : datsOf xs with
  | none => exact .tup h q
  | some ds =>
    have z := datsOf_map e
    subst z
    exact .dat (.tup h q.to_dat)
section
variable {X : Cx} {EX : WXc} {e : Expr} {es : List Expr} {we : DTE} {w : DTA} {pos p : Pos}
def wTup (w : DTA) : DTE := fun δ M P R => w δ M (fun xs M1 => xs.length ≤ sizeLine ∧ P (mkTup xs) M1) R
theorem de_tup {x1} (h : DA X EX es w) : DE X EX (.Tuple es x1 pos) (wTup w) := pe_imp (pe_tup h) fun σ H Q ⟨S, M, δ, P, R, r, rs, p, k, kx⟩ =>
  ⟨S, M, δ, _, R, r, rs, p, fun xs M1 S1 H1 vs ⟨l, p1⟩ e1 r1 rvs => ⟨by rw [rvs.length]; exact l, fun q hq => by
    obtain ⟨e2, r2⟩ := r1.frozen hq (.tup vs)
    exact k _ M1 _ _ _ p1 (e1.trans e2) r2 (rv_mkTup (SqT.of upd_same) (rvs.mono e2))⟩, kx⟩
/-- a list that nobody changes -/
def wLst (w : DTA) : DTE := fun δ M P R => w δ M (fun xs M1 => xs.length ≤ sizeLine ∧ onDs xs fun ds => P (.dat (.list ds)) M1) R
theorem de_lst (h : DA X EX es w) : DE X EX (.List es pos) (wLst w) := pe_imp (pe_lst h) fun σ H Q ⟨S, M, δ, P, R, r, rs, p, k, kx⟩ =>
  ⟨S, M, δ, _, R, r, rs, p, fun xs M1 S1 H1 vs ⟨l, p0⟩ e1 r1 rvs => ⟨by rw [rvs.length]; exact l, fun q hq => by
    obtain ⟨ds, ed, p1⟩ := onDs_inv p0
    obtain ⟨e2, r2⟩ := r1.frozen hq (.lst vs)
    have z := datsOf_map ed
    subst z
    exact k _ M1 _ _ _ p1 (e1.trans e2) r2 (.dat (.lst (SqL.of upd_same) (rvs.to_dat.mono e2)))⟩, kx⟩
/-- a list that changes -/
def wLstM (w : DTA) : DTE := fun δ M P R => w δ M (fun xs M1 => xs.length ≤ sizeLine ∧ ∀ q, M1 q = none → P (.ref q) (um M1 q (.lst xs))) R
theorem de_lstM (h : DA X EX es w) : DE X EX (.List es pos) (wLstM w) := pe_imp (pe_lst h) fun σ H Q ⟨S, M, δ, P, R, r, rs, p, k, kx⟩ =>
  ⟨S, M, δ, _, R, r, rs, p, fun xs M1 S1 H1 vs ⟨l, p1⟩ e1 r1 rvs => ⟨by rw [rvs.length]; exact l, fun q hq =>
    k _ _ _ _ _ (p1 q (r1.fresh hq)) e1 (r1.alloc hq _ (.lst upd_same rvs)) (.ref q)⟩, kx⟩

/-! ### items -/
def itemA (M : Mp) : AV → Int → Option AV
  | .dat (.tuple ds), i => (atI ds i).map .dat
  | .dat (.list ds), i => (atI ds i).map .dat
  | .dat (.str z), i => if z.length ≤ sizeLine then (atI z.cps.toList i).map fun c => .dat (.str ⟨#[c]⟩) else none
  | .tup xs, i => atI xs i
  | .ref a, i => match M a with
    | some (.lst xs) => atI xs i
    | _ => none
  | _, _ => none
theorem atI_map {α β : Type} (f : α → β) (xs : List α) (i : Int) : atI (xs.map f) i = (atI xs i).map f := by
  unfold atI
  rw [List.length_map]
  cases ixN xs.length i with
  | none => rfl
  | some j =>
    show (xs.map f)[j]? = (xs[j]?).map f
    rw [List.getElem?_map]
theorem RVs.atI {K : PySem.W.Frag} {S : Hp} {xs : List AV} {vs : List V} {i : Int} {x : AV} (h : RVs K S vs xs) (e : atI xs i = some x) : ∃ v, L2.atI vs i = some v ∧ RV K S v x := by
  unfold L2.atI at e ⊢
  rw [h.length]
  cases q : ixN xs.length i with
  | none =>
    rw [q] at e
    cases e
  | some j =>
    rw [q] at e
    exact h.get e
theorem DDs.atI {K : PySem.W.Frag} {S : Hp} {xs : List PyData} {vs : List V} {i : Int} {x : PyData} (h : DDs K S vs xs) (e : atI xs i = some x) : ∃ v, L2.atI vs i = some v ∧ DD K S v x := by
  unfold L2.atI at e ⊢
  rw [h.length]
  cases q : ixN xs.length i with
  | none =>
    rw [q] at e
    cases e
  | some j =>
    rw [q] at e
    exact h.get e
def onO {α : Type} (o : Option α) (k : α → Prop) : Prop := match o with
  | some x => k x
  | none => False
theorem onO_inv {α : Type} {o : Option α} {k : α → Prop} (h : onO o k) : ∃ x, o = some x ∧ k x := by
  cases o with
  | none => exact h.elim
  | some x => exact ⟨x, rfl, h⟩
def wIx : D2 := fun x y M P => onI y fun i => onO (itemA M x i) fun z => P z M
theorem dix : IxR X (lO X.K wIx) := fun va sl pins s σ H x y v u Q I rx ry ⟨S, M, a, b, P, r, ra, rb, p0, k⟩ hsub => by
  obtain ⟨i, e1, p1⟩ := onI_inv p0
  obtain ⟨z, e2, p⟩ := onO_inv p1
  subst e1
  refine ix_seq va sl pins s σ H x y v u Q I rx ry ?_ hsub
  have ey := rv_int rb
  cases ra with
  | dat hd =>
    cases hd with
    | tup hs hds =>
      obtain ⟨d, ed, ez⟩ := Option.map_eq_some_iff.mp e2
      subst ez
      obtain ⟨v', h1, h2⟩ := hds.atI ed
      exact .inr (.inl ⟨_, _, i, v', rfl, ey, Same.seqT r.ext hs, h1, k _ M S H _ p (Same.refl S) r (.dat h2)⟩)
    | lst hs hds =>
      obtain ⟨d, ed, ez⟩ := Option.map_eq_some_iff.mp e2
      subst ez
      obtain ⟨v', h1, h2⟩ := hds.atI ed
      exact .inl ⟨_, _, i, v', rfl, ey, Same.seq r.ext hs, h1, k _ M S H _ p (Same.refl S) r (.dat h2)⟩
    | str z' =>
      simp only [itemA] at e2
      by_cases hl : z'.length ≤ sizeLine
      · rw [if_pos hl] at e2
        obtain ⟨c, ec, ez⟩ := Option.map_eq_some_iff.mp e2
        subst ez
        exact .inr (.inr ⟨_, i, c, rfl, ey, hl, ec, k _ M S H _ p (Same.refl S) r (.dat (.str _))⟩)
      · rw [if_neg hl] at e2
        cases e2
    | non => cases e2
    | bl _ => cases e2
    | int _ => cases e2
    | dct _ _ => cases e2
  | ref a =>
    cases e3 : M a with
    | none =>
      simp only [itemA, e3] at e2
      cases e2
    | some o =>
      obtain ⟨_, g⟩ := r.mo a o e3
      cases g with
      | lst h1 h2 =>
        simp only [itemA, e3] at e2
        obtain ⟨v', h3, h4⟩ := h2.atI e2
        exact .inl ⟨a, _, i, v', rfl, ey, SqL.of h1, h3, k _ M S H _ p (Same.refl S) r h4⟩
      | dct _ _ =>
        simp only [itemA, e3] at e2
        cases e2
      | ins _ _ _ _ =>
        simp only [itemA, e3] at e2
        cases e2
      | exc _ _ _ _ =>
        simp only [itemA, e3] at e2
        cases e2
      | raw _ =>
        simp only [itemA, e3] at e2
        cases e2
  | tup hs hvs =>
    obtain ⟨v', h1, h2⟩ := hvs.atI (show atI _ i = some z from e2)
    exact .inr (.inl ⟨_, _, i, v', rfl, ey, Same.seqT r.ext hs, h1, k _ M S H _ p (Same.refl S) r h2⟩)
theorem de_ix {a b : Expr} {wa wb : DTE} (ha : DE X EX a wa) (hb : DE X EX b wb) (hs : PlainIx b) : DE X EX (.Subscript a b pos) (wOp wIx wa wb) := pe_imp (pe_ix dix ha hb hs) fun _ _ _ h => bin_l h

/-! ### len -/
def lenA (M : Mp) : AV → Option Nat
  | .dat (.tuple ds) => some ds.length
  | .dat (.list ds) => some ds.length
  | .dat (.dict ds) => some ds.length
  | .dat (.str z) => if z.length ≤ sizeLine then some z.length else none
  | .tup xs => some xs.length
  | .ref a => match M a with
    | some (.lst xs) => some xs.length
    | some (.dct xs) => some xs.length
    | _ => none
  | _ => none
def wLen (we : DTE) : DTE := fun δ M P R => we δ M (fun x M1 => onO (lenA M1 x) fun n => P (.dat (.int (n : Nat))) M1) R
end
section
variable {X : Cx}
theorem dlen : CallR X (.builtin "len") (fun xs H Q => ∃ (S : Hp) (M : Mp) (v : V) (x : AV) (n : Nat), xs = [v] ∧ Rp X.K S H M ∧ RV X.K S v x ∧ lenA M x = some n ∧ Q (.int (n : Nat)) H) := by
  intro pins s σ H xs us Q I rvs ⟨S, M, v, x, n, e1, r, ra, e2, q⟩
  subst e1
  have seq : ∀ (a : Addr) (ys : List V), v = .ref a → ys.length = n → (SqL X.K H a ys ∨ SqT X.K H a ys) → wpAny (model X.prog X.w) X.A (call (.builtin "len") us) (EP X pins σ Q) X.xe s := fun a ys ev el h => by
    subst el
    exact call_len_seq pins s σ H [v] us Q I rvs ⟨a, ys, by rw [ev], h, q⟩
  have dic : ∀ (a : Addr) (kvs : List (Key × V)), v = .ref a → kvs.length = n → H a = some (.dK kvs) → wpAny (model X.prog X.w) X.A (call (.builtin "len") us) (EP X pins σ Q) X.xe s := fun a kvs ev el h => by
    subst el
    exact call_lenD pins s σ H [v] us Q I rvs ⟨a, kvs, by rw [ev], h, q⟩
  cases ra with
  | dat hd =>
    cases hd with
    | tup hs hds => exact seq _ _ rfl (hds.length.trans (Option.some.inj e2)) (.inr (Same.seqT r.ext hs))
    | lst hs hds => exact seq _ _ rfl (hds.length.trans (Option.some.inj e2)) (.inl (Same.seq r.ext hs))
    | dct hs hds => exact dic _ _ rfl (hds.length.trans (Option.some.inj e2)) (r.ext _ _ hs)
    | str z' =>
      simp only [lenA] at e2
      by_cases hl : z'.length ≤ sizeLine
      · rw [if_pos hl] at e2
        cases e2
        exact call_len_str pins s σ H _ us Q I rvs ⟨z', rfl, hl, q⟩
      · rw [if_neg hl] at e2
        cases e2
    | non => cases e2
    | bl _ => cases e2
    | int _ => cases e2
  | ref a =>
    cases e3 : M a with
    | none =>
      simp only [lenA, e3] at e2
      cases e2
    | some o =>
      obtain ⟨_, g⟩ := r.mo a o e3
      cases g with
      | lst h1 h2 =>
        simp only [lenA, e3] at e2
        exact seq _ _ rfl (h2.length.trans (Option.some.inj e2)) (.inl (SqL.of h1))
      | dct h1 h2 =>
        simp only [lenA, e3] at e2
        have l := congrArg List.length h2.1
        simp only [List.length_map] at l
        exact dic _ _ rfl (l.trans (Option.some.inj e2)) h1
      | ins _ _ _ _ =>
        simp only [lenA, e3] at e2
        cases e2
      | exc _ _ _ _ =>
        simp only [lenA, e3] at e2
        cases e2
      | raw _ =>
        simp only [lenA, e3] at e2
        cases e2
  | tup hs hvs => exact seq _ _ rfl (hvs.length.trans (Option.some.inj e2)) (.inr (Same.seqT r.ext hs))
end
section
variable {X : Cx} {EX : WXc} {e : Expr} {es : List Expr} {we : DTE} {w : DTA} {pos p : Pos}
theorem de_len (hg : Gl X "len") (hm : X.mg "len" = none) (he : DE X EX e we) (hs : starEach [e] X.env = (false, eval e X.env) :: starEach [] X.env := by rfl) :
    DE X EX (.Call (.Name "len" p) [e] [] pos) (wLen we) := pe_imp (pe_callB dlen hg hm PySem.boot_len (pa_cons he pa_nil hs) (by decide) (by decide) hs) fun σ H Q ⟨S, M, δ, P, R, r, rs, p, k, kx⟩ =>
  ⟨S, M, δ, _, R, r, rs, p, fun x M1 S1 H1 v p0 e1 r1 rv => by
    obtain ⟨n, e2, p1⟩ := onO_inv p0
    exact ⟨S1, M1, v, x, n, rfl, r1, rv, e2, k _ M1 S1 H1 _ p1 e1 r1 (.dat (.int _))⟩, kx⟩
/-- a one-place built-in by what it does -/
abbrev D1R := AV → Mp → DK → Prop
def l1 (K : PySem.W.Frag) (w : D1R) : List V → Hp → VK → Prop := fun xs H Q => ∃ (S : Hp) (M : Mp) (v : V) (x : AV) (P : DK), xs = [v] ∧ Rp K S H M ∧ RV K S v x ∧ w x M P ∧ To K S P Q
def wUn (w : D1R) (we : DTE) : DTE := fun δ M P R => we δ M (fun x M1 => w x M1 P) R
theorem de_b1 {id : String} {x : Str} {w : D1R} (hc : CallR X (.builtin id) (l1 X.K w)) (hg : Gl X x) (hm : X.mg x = none) (hv : bootBuiltins x = some (.builtin id)) (he : DE X EX e we) (hn : x ≠ "__name__" := by decide) (hdb : (x == ("__debug__" : Str)) = false := by decide)
    (hs : starEach [e] X.env = (false, eval e X.env) :: starEach [] X.env := by rfl) : DE X EX (.Call (.Name x p) [e] [] pos) (wUn w we) := pe_imp (pe_callB hc hg hm hv (pa_cons he pa_nil hs) hn hdb hs) fun σ H Q ⟨S, M, δ, P, R, r, rs, p, k, kx⟩ =>
  ⟨S, M, δ, _, R, r, rs, p, fun x M1 S1 H1 v p1 e1 r1 rv => ⟨S1, M1, v, x, P, rfl, r1, rv, p1, k.mono e1⟩, kx⟩
theorem de_t1 {T : String} {x : Str} {w : D1R} (hc : CallR X (.type T) (l1 X.K w)) (hg : Gl X x) (hm : X.mg x = none) (hv : bootBuiltins x = some (.type T)) (he : DE X EX e we) (hn : x ≠ "__name__" := by decide) (hdb : (x == ("__debug__" : Str)) = false := by decide)
    (hs : starEach [e] X.env = (false, eval e X.env) :: starEach [] X.env := by rfl) : DE X EX (.Call (.Name x p) [e] [] pos) (wUn w we) := pe_imp (pe_callTy hc hg hm hv (pa_cons he pa_nil hs) hn hdb hs) fun σ H Q ⟨S, M, δ, P, R, r, rs, p, k, kx⟩ =>
  ⟨S, M, δ, _, R, r, rs, p, fun x M1 S1 H1 v p1 e1 r1 rv => ⟨S1, M1, v, x, P, rfl, r1, rv, p1, k.mono e1⟩, kx⟩
/-- ord of one sign; all of truths; int of an int or a truth -/
def wOrd : D1R := fun x M P => onS x fun z => z.length = 1 ∧ P (.dat (.int (z.cps.getD 0 0 : Nat))) M
theorem c_ord : CallR X (.builtin "ord") (l1 X.K wOrd) := fun pins s σ H xs us Q I rvs ⟨S, M, v, x, P, e1, r, ra, p0, k⟩ => by
  obtain ⟨z, e2, e3, p⟩ := onS_inv p0
  subst e1 e2
  exact call_ord pins s σ H _ us Q I rvs ⟨z, by rw [rv_str ra], e3, k _ M S H _ p (Same.refl S) r (.dat (.int _))⟩
def boolsOf : List PyData → Option (List Bool)
  | [] => some []
  | .bool b :: r => (boolsOf r).map (b :: ·)
  | _ :: _ => none
theorem boolsOf_map : ∀ {ds : List PyData} {bs : List Bool}, boolsOf ds = some bs → ds = bs.map .bool
  | [], _, h => by cases h; rfl
  | .bool d :: r, _, h => by
    unfold boolsOf at h
    cases q : boolsOf r with
    | none => rw [q] at h; cases h
    | some es =>
      rw [q] at h
      cases h
      rw [boolsOf_map q]
      rfl
theorem boolsOf_bools (bs : List Bool) : boolsOf (bs.map .bool) = some bs := by
  induction bs with
  | nil => rfl
  | cons d r ih =>
    show (boolsOf (r.map .bool)).map (d :: ·) = _
    rw [ih]
    rfl
theorem dds_bools {K : PySem.W.Frag} {S : Hp} : ∀ {bs : List Bool} {vs : List V}, DDs K S vs (bs.map .bool) → vs = bs.map V.bl
  | [], _, .nil => rfl
  | _ :: _, _, .cons h t => by
    cases h
    rw [dds_bools t]
    rfl
theorem dds_strs {K : PySem.W.Frag} {S : Hp} : ∀ {bs : List Str} {vs : List V}, DDs K S vs (bs.map .str) → vs = bs.map V.str
  | [], _, .nil => rfl
  | _ :: _, _, .cons h t => by
    cases h
    rw [dds_strs t]
    rfl
def onL (x : AV) (k : List PyData → Prop) : Prop := match x with
  | .dat (.list ds) => k ds
  | _ => False
theorem onL_inv {x : AV} {k : List PyData → Prop} (h : onL x k) : ∃ ds, x = .dat (.list ds) ∧ k ds := by
  unfold onL at h
  split at h
  · exact ⟨_, rfl, h⟩
  · exact h.elim
def wAll : D1R := fun x M P => onL x fun ds => onO (boolsOf ds) fun bs => P (.dat (.bool (bs.all id))) M
theorem c_all (hc : X.calm = true) : CallR X (.builtin "all") (l1 X.K wAll) := fun pins s σ H xs us Q I rvs ⟨S, M, v, x, P, e1, r, ra, p0, k⟩ => by
  obtain ⟨ds, e2, p1⟩ := onL_inv p0
  obtain ⟨bs, e5, p⟩ := onO_inv p1
  have e6 := boolsOf_map e5
  subst e1 e2 e6
  obtain ⟨a, vs, e3, h1, h2⟩ := rv_lst ra
  subst e3
  have e4 := dds_bools h2
  subst e4
  exact cr_all hc pins s σ H _ us Q I rvs ⟨a, bs, rfl, Same.seq r.ext h1, k _ M S H _ p (Same.refl S) r (.dat (.bl _))⟩
def wInt1 : D1R := fun x M P => match x with
  | .dat (.int i) => P (.dat (.int i)) M
  | .dat (.bool b) => P (.dat (.int (if b then 1 else 0))) M
  | _ => False
theorem c_int1 : CallR X (.type "int") (l1 X.K wInt1) := fun pins s σ H xs us Q I rvs ⟨S, M, v, x, P, e1, r, ra, p, k⟩ => by
  subst e1
  unfold wInt1 at p
  split at p
  · exact call_int1 pins s σ H _ us Q I rvs (.inl ⟨_, by rw [rv_int ra], k _ M S H _ p (Same.refl S) r (.dat (.int _))⟩)
  · exact call_int1 pins s σ H _ us Q I rvs (.inr ⟨_, by rw [rv_bl ra], k _ M S H _ p (Same.refl S) r (.dat (.int _))⟩)
  · exact p.elim
/-- tuple(..), list(..) of a row: a datum -/
def rowA (M : Mp) : AV → Option (List AV)
  | .dat (.list ds) => some (ds.map .dat)
  | .dat (.tuple ds) => some (ds.map .dat)
  | .tup xs => some xs
  | .ref a => match M a with
    | some (.lst xs) => some xs
    | _ => none
  | _ => none
theorem row_of {K : PySem.W.Frag} {S H : Hp} {M : Mp} {v : V} {x : AV} {xs : List AV} (r : Rp K S H M) (h : RV K S v x) (p : rowA M x = some xs) : ∃ a vs, v = .ref a ∧ RVs K S vs xs ∧ (SqL K H a vs ∨ SqT K S a vs) := by
  cases h with
  | dat hd => cases hd with
    | lst h1 h2 =>
      cases p
      exact ⟨_, _, rfl, RVs.of_dat h2, .inl (Same.seq r.ext h1)⟩
    | tup h1 h2 =>
      cases p
      exact ⟨_, _, rfl, RVs.of_dat h2, .inr h1⟩
    | non => cases p
    | bl _ => cases p
    | int _ => cases p
    | str _ => cases p
    | dct _ _ => cases p
  | tup h1 h2 =>
    cases p
    exact ⟨_, _, rfl, h2, .inr h1⟩
  | ref a =>
    cases e3 : M a with
    | none =>
      simp only [rowA, e3] at p
      cases p
    | some o =>
      cases o with
      | lst ys =>
        simp only [rowA, e3] at p
        cases p
        obtain ⟨vs, _, h1, h2⟩ := rp_lst r e3
        exact ⟨a, vs, rfl, h2, .inl (SqL.of h1)⟩
      | dct _ =>
        simp only [rowA, e3] at p
        cases p
      | ins _ _ _ =>
        simp only [rowA, e3] at p
        cases p
      | exc _ _ _ =>
        simp only [rowA, e3] at p
        cases p
      | raw _ =>
        simp only [rowA, e3] at p
        cases p
def wTupOf : D1R := fun x M P => onO (rowA M x) fun xs => P (mkTup xs) M
theorem c_tupOf : CallR X (.type "tuple") (l1 X.K wTupOf) := fun pins s σ H xs us Q I rvs ⟨S, M, v, x, P, e1, r, ra, p0, k⟩ => by
  obtain ⟨ys, e2, p⟩ := onO_inv p0
  subst e1
  obtain ⟨a, vs, e3, h1, h2⟩ := row_of r ra e2
  subst e3
  rcases h2 with h2 | h2
  · refine call_tuple_of pins s σ H _ us Q I rvs ⟨a, vs, rfl, .inl ⟨h2, fun l hl => ?_⟩⟩
    obtain ⟨e4, r4⟩ := r.frozen hl (.tup vs)
    exact k _ M _ _ _ p e4 r4 (rv_mkTup (SqT.of upd_same) (h1.mono e4))
  · exact call_tuple_of pins s σ H _ us Q I rvs ⟨a, vs, rfl, .inr ⟨Same.seqT r.ext h2, k _ M S H _ p (Same.refl S) r (rv_mkTup h2 h1)⟩⟩
/-- list(..): a datum | a list that changes -/
def wLstOf : D1R := fun x M P => onO (rowA M x) fun xs => onDs xs fun ds => P (.dat (.list ds)) M
theorem c_lstOf : CallR X (.type "list") (l1 X.K wLstOf) := fun pins s σ H xs us Q I rvs ⟨S, M, v, x, P, e1, r, ra, p0, k⟩ => by
  obtain ⟨ys, e2, p1⟩ := onO_inv p0
  obtain ⟨ds, e5, p⟩ := onDs_inv p1
  have e6 := datsOf_map e5
  subst e1 e6
  obtain ⟨a, vs, e3, h1, h2⟩ := row_of r ra e2
  subst e3
  refine call_list_of pins s σ H _ us Q I rvs ⟨a, vs, rfl, h2.imp (fun z => z) (fun z => Same.seqT r.ext z), fun l hl => ?_⟩
  obtain ⟨e4, r4⟩ := r.frozen hl (.lst vs)
  exact k _ M _ _ _ p e4 r4 (.dat (.lst (SqL.of upd_same) (h1.to_dat.mono e4)))
def wLstOfM : D1R := fun x M P => onO (rowA M x) fun xs => ∀ q, M q = none → P (.ref q) (um M q (.lst xs))
theorem c_lstOfM : CallR X (.type "list") (l1 X.K wLstOfM) := fun pins s σ H xs us Q I rvs ⟨S, M, v, x, P, e1, r, ra, p0, k⟩ => by
  obtain ⟨ys, e2, p⟩ := onO_inv p0
  subst e1
  obtain ⟨a, vs, e3, h1, h2⟩ := row_of r ra e2
  subst e3
  exact call_list_of pins s σ H _ us Q I rvs ⟨a, vs, rfl, h2.imp (fun z => z) (fun z => Same.seqT r.ext z), fun l hl => k _ _ S _ _ (p l (r.fresh hl)) (Same.refl S) (r.alloc hl _ (.lst upd_same h1)) (.ref l)⟩
/-- max, min of two -/
abbrev D2R := AV → AV → Mp → DK → Prop
def l2 (K : PySem.W.Frag) (w : D2R) : List V → Hp → VK → Prop := fun xs H Q => ∃ (S : Hp) (M : Mp) (v u : V) (x y : AV) (P : DK), xs = [v, u] ∧ Rp K S H M ∧ RV K S v x ∧ RV K S u y ∧ w x y M P ∧ To K S P Q
theorem de_b2 {id : String} {x : Str} {w : D2R} {a b : Expr} {wa wb : DTE} (hc : CallR X (.builtin id) (l2 X.K w)) (hg : Gl X x) (hm : X.mg x = none) (hv : bootBuiltins x = some (.builtin id)) (ha : DE X EX a wa) (hb : DE X EX b wb) (hn : x ≠ "__name__" := by decide) (hdb : (x == ("__debug__" : Str)) = false := by decide)
    (hs : starEach [a, b] X.env = (false, eval a X.env) :: starEach [b] X.env := by rfl) (hs2 : starEach [b] X.env = (false, eval b X.env) :: starEach [] X.env := by rfl) (hp : (backTo pos (starEach [b] X.env)).any (·.1) = false := by rfl) : DE X EX (.Call (.Name x p) [a, b] [] pos) (wOp w wa wb) := pe_imp (pe_callB hc hg hm hv (pa_cons ha (pa_cons hb pa_nil hs2) hs) hn hdb hs hp) fun σ H Q ⟨S, M, δ, P, R, r, rs, p, k, kx⟩ =>
  ⟨S, M, δ, _, R, r, rs, p, fun x M1 S1 H1 v p1 e1 r1 rv => ⟨S1, M1, δ, _, R, r1, rs.mono e1, p1, fun y M2 S2 H2 u p2 e2 r2 ru => ⟨S2, M2, v, u, x, y, P, rfl, r2, rv.mono e2, ru, p2, k.mono (e1.trans e2)⟩, kx.mono e1⟩, kx⟩
def wMax2 : D2R := onII (fun _ _ => True) fun i j => .int (if j > i then j else i)
def wMin2 : D2R := onII (fun _ _ => True) fun i j => .int (if j < i then j else i)
theorem c_max2 (hc : X.calm = true) : CallR X (.builtin "max") (l2 X.K wMax2) := fun pins s σ H xs us Q I rvs ⟨S, M, v, u, x, y, P, e1, r, ra, rb, p0, k⟩ => by
  obtain ⟨i, j, e2, e3, _, p⟩ := onII_inv p0
  subst e1 e2 e3
  exact call_max2 hc pins s σ H _ us Q I rvs ⟨i, j, by rw [rv_int ra, rv_int rb], k _ M S H _ p (Same.refl S) r (.dat (.int _))⟩
theorem c_min2 (hc : X.calm = true) : CallR X (.builtin "min") (l2 X.K wMin2) := fun pins s σ H xs us Q I rvs ⟨S, M, v, u, x, y, P, e1, r, ra, rb, p0, k⟩ => by
  obtain ⟨i, j, e2, e3, _, p⟩ := onII_inv p0
  subst e1 e2 e3
  exact call_min2 hc pins s σ H _ us Q I rvs ⟨i, j, by rw [rv_int ra, rv_int rb], k _ M S H _ p (Same.refl S) r (.dat (.int _))⟩

/-! ### isinstance of data, with a built-in class -/
def tyD : PyData → String
  | .none => "NoneType"
  | .bool _ => "bool"
  | .int _ => "int"
  | .str _ => "str"
  | .list _ => "list"
  | .tuple _ => "tuple"
  | .dict _ => "dict"
def tyA (M : Mp) : AV → Option String
  | .dat d => some (tyD d)
  | .tup _ => some "tuple"
  | .ref a => match M a with
    | some (.lst _) => some "list"
    | some (.dct _) => some "dict"
    | _ => none
def isT (t T : String) : Bool := t == T || (t == "bool" && T == "int")
def tyAll : List String := ["NoneType", "bool", "int", "str", "list", "tuple", "dict"]
def kitOk (T : String) : Bool := tyAll.all fun t => decide (kitB t T = some (isT t T))
theorem kit_int : kitOk "int" = true := by decide +kernel
theorem kit_bool : kitOk "bool" = true := by decide +kernel
theorem kit_str : kitOk "str" = true := by decide +kernel
theorem kit_list : kitOk "list" = true := by decide +kernel
theorem kit_tuple : kitOk "tuple" = true := by decide +kernel
theorem kit_dict : kitOk "dict" = true := by decide +kernel
theorem kit_at {T t : String} (h : kitOk T = true) (ht : t ∈ tyAll) : kitB t T = some (isT t T) := of_decide_eq_true (List.all_eq_true.mp h t ht)
theorem tyD_all (d : PyData) : tyD d ∈ tyAll := by cases d <;> simp [tyD, tyAll]
theorem tyX_L {K : PySem.W.Frag} {H : Hp} {a : Addr} {xs : List V} (h : SqL K H a xs) : TyX K H (.ref a) (.type "list") := by
  rcases h with (h | ⟨o, h⟩) | ⟨o, its, n, h1, h2, _⟩
  · exact .base (.lst h)
  · exact .base (.frz h)
  · exact .kList h1 h2
theorem tyX_T {K : PySem.W.Frag} {H : Hp} {a : Addr} {xs : List V} (h : SqT K H a xs) : TyX K H (.ref a) (.type "tuple") := by
  rcases h with (h | ⟨o, h⟩) | ⟨o, its, n, h1, h2, _⟩
  · exact .base (.tup h)
  · exact .fTuple h
  · exact .kTuple h1 h2
theorem tyX_D {K : PySem.W.Frag} {H : Hp} {a : Addr} {xs : List (Key × V)} (h : H a = some (.dK xs)) : TyX K H (.ref a) (.type "dict") := .base (.dK h)
theorem tyX_of {K : PySem.W.Frag} {S H : Hp} {M : Mp} {v : V} {x : AV} {t : String} (r : Rp K S H M) (h : RV K S v x) (e : tyA M x = some t) : TyX K H v (.type t) ∧ t ∈ tyAll := by
  cases h with
  | dat hd =>
    cases e
    refine ⟨?_, tyD_all _⟩
    cases hd with
    | non => exact .base .non
    | bl b => exact .base (.bl b)
    | int b => exact .base (.int b)
    | str b => exact .base (.str b)
    | lst h _ => exact tyX_L (Same.seq r.ext h)
    | tup h _ => exact tyX_T (Same.seqT r.ext h)
    | dct h _ => exact tyX_D (r.ext _ _ h)
  | tup h _ =>
    cases e
    exact ⟨tyX_T (Same.seqT r.ext h), by decide⟩
  | ref a =>
    cases e3 : M a with
    | none =>
      simp only [tyA, e3] at e
      cases e
    | some o =>
      obtain ⟨_, g⟩ := r.mo a o e3
      cases g with
      | lst h1 h2 =>
        simp only [tyA, e3] at e
        cases e
        exact ⟨tyX_L (SqL.of (K := K) h1), by decide⟩
      | dct h1 h2 =>
        simp only [tyA, e3] at e
        cases e
        exact ⟨tyX_D (K := K) h1, by decide⟩
      | ins _ _ _ _ =>
        simp only [tyA, e3] at e
        cases e
      | exc _ _ _ _ =>
        simp only [tyA, e3] at e
        cases e
      | raw _ =>
        simp only [tyA, e3] at e
        cases e
def wIsi (T : String) (we : DTE) : DTE := fun δ M P R => we δ M (fun x M1 => onO (tyA M1 x) fun t => P (.dat (.bool (isT t T))) M1) R
theorem de_isi {T : String} {x : Str} {p2 : Pos} (hT : kitOk T = true) (hg : Gl X "isinstance") (hm : X.mg "isinstance" = none) (hg2 : Gl X x) (hm2 : X.mg x = none) (hv2 : bootBuiltins x = some (.type T)) (he : DE X EX e we) (hn2 : x ≠ "__name__" := by decide) (hd2 : (x == ("__debug__" : Str)) = false := by decide)
    (hs : starEach [e, .Name x p2] X.env = (false, eval e X.env) :: starEach [.Name x p2] X.env := by rfl) (hs2 : starEach [.Name x p2] X.env = (false, eval (.Name x p2) X.env) :: starEach [] X.env := by rfl) (hp : (backTo pos (starEach [.Name x p2] X.env)).any (·.1) = false := by rfl)
    (hv : bootBuiltins "isinstance" = some (.builtin "isinstance") := by decide +kernel) :
    DE X EX (.Call (.Name "isinstance" p) [e, .Name x p2] [] pos) (wIsi T we) := pe_imp (pe_callB call_isi hg hm hv (pa_cons he (pa_cons (pe_bltn (v := .ty T) hg2 hm2 hv2 rfl hn2 hd2) pa_nil hs2) hs) (by decide) (by decide) hs hp) fun σ H Q ⟨S, M, δ, P, R, r, rs, p, k, kx⟩ =>
  ⟨S, M, δ, _, R, r, rs, p, fun x M1 S1 H1 v p0 e1 r1 rv => by
    obtain ⟨t, e2, p1⟩ := onO_inv p0
    obtain ⟨h1, h2⟩ := tyX_of r1 rv e2
    exact ⟨v, .ty T, .type t, .type T, isT t T, rfl, .ty T, h1, kit_ty (kit_at hT h2), k _ M1 S1 H1 _ p1 e1 r1 (.dat (.bl _))⟩, kx⟩
end
end DL
end
section
set_option Elab.async false
set_option linter.all false
set_option maxRecDepth 100000
set_option maxHeartbeats 2000000
/-! D3: targets, loops, comprehensions, slices, methods of lists and texts. -/
namespace DL
open PySem PySem.Spec L2
open PyProof.Rows hiding St

/-! ### targets -/
abbrev DTG := AV → DSt → Mp → (DSt → Mp → Prop) → DXK → Prop
abbrev DTGs := List AV → DSt → Mp → (DSt → Mp → Prop) → DXK → Prop
def lG (K : PySem.W.Frag) (EX : WXc) (g : DTG) : TG := fun v σ H Q => ∃ (S : Hp) (M : Mp) (δ : DSt) (x : AV) (P : DSt → Mp → Prop) (R : DXK), Rp K S H M ∧ RSl K S σ δ ∧ RV K S v x ∧ g x δ M P R ∧ ToS K S P Q ∧ ToX K S R (fun c d H' => EX c d σ H')
def lGs (K : PySem.W.Frag) (EX : WXc) (g : DTGs) : TGs := fun vs σ H Q => ∃ (S : Hp) (M : Mp) (δ : DSt) (xs : List AV) (P : DSt → Mp → Prop) (R : DXK), Rp K S H M ∧ RSl K S σ δ ∧ RVs K S vs xs ∧ g xs δ M P R ∧ ToS K S P Q
abbrev DG (X : Cx) (EX : WXc) (e : Expr) (g : DTG) : Prop := PG X e (lG X.K EX g)
abbrev DGs (X : Cx) (EX : WXc) (es : List Expr) (g : DTGs) : Prop := PGs X es (lGs X.K EX g)
def gN (i : Nat) : DTG := fun x δ M P _ => P (δ.set i (some x)) M
def gNil' : DTGs := fun xs δ M P _ => xs = [] ∧ P δ M
/-- names alone stand in a tuple of targets -/
def gConsN (i : Nat) (gs : DTGs) : DTGs := fun xs δ M P R => match xs with
  | x :: r => gs r (δ.set i (some x)) M P R
  | [] => False
/-- the parts of a tuple -/
def partsA : AV → Option (List AV)
  | .dat (.tuple ds) => some (ds.map .dat)
  | .tup xs => some xs
  | _ => none
def gT (n : Nat) (gs : DTGs) : DTG := fun x δ M P R => onO (partsA x) fun xs => xs.length = n ∧ gs xs δ M P R
theorem parts_of {K : PySem.W.Frag} {S H : Hp} {v : V} {x : AV} {xs : List AV} (e : Same S H) (h : RV K S v x) (p : partsA x = some xs) : ∃ a vs, v = .ref a ∧ SqT K H a vs ∧ RVs K S vs xs := by
  cases h with
  | dat hd => cases hd with
    | tup h1 h2 =>
      cases p
      exact ⟨_, _, rfl, Same.seqT e h1, RVs.of_dat h2⟩
    | non => cases p
    | bl _ => cases p
    | int _ => cases p
    | str _ => cases p
    | lst _ _ => cases p
    | dct _ _ => cases p
  | ref a => cases p
  | tup h1 h2 =>
    cases p
    exact ⟨_, _, rfl, Same.seqT e h1, h2⟩
section
variable {X : Cx} {EX : WXc} {e : Expr} {es : List Expr} {we : DTE} {w : DTA} {pos p : Pos}
theorem dg_name {i : Nat} {t : Expr} (h : PG X t (gName i)) : DG X EX t (gN i) := pg_imp h fun v σ H Q ⟨S, M, δ, x, P, R, r, rs, rv, p, k, _⟩ => k _ M S H _ p (Same.refl S) r (rs.set rv i)
theorem pgs_imp {es : List Expr} {t t' : TGs} (h : PGs X es t) (k : ∀ v σ H Q, t' v σ H Q → t v σ H Q) : PGs X es t' := ⟨fun pins s σ H v u Q I r q => h.run pins s σ H v u Q I r (k v σ H Q q)⟩
theorem dgs_nil : DGs X EX [] gNil' := pgs_imp pgs_nil fun v σ H Q ⟨S, M, δ, xs, P, R, r, rs, rv, ⟨e1, p⟩, k⟩ => by
  subst e1
  cases rv
  exact ⟨rfl, k δ M S H σ p (Same.refl S) r rs⟩
theorem dgs_cons {i : Nat} {t : Expr} {gs : DTGs} (h : PG X t (gName i)) (hs : DGs X EX es gs) (ha : (assignEach (t :: es) X.env).map (·.2) = assign t X.env :: (assignEach es X.env).map (·.2) := by rfl) : DGs X EX (t :: es) (gConsN i gs) := pgs_imp (pgs_cons h hs ha) fun vs σ H Q ⟨S, M, δ, xs, P, R, r, rs, rv, p, k⟩ => by
  cases rv with
  | nil => exact p.elim
  | cons h1 h2 => exact ⟨_, _, rfl, S, M, _, _, P, R, r, rs.set h1 i, h2, p, k⟩
theorem dg_tup {k n : Nat} {gs : DTGs} (hc : X.calm = true) (h : DGs X EX es gs) (hn : (assignEach es X.env).length = n := by rfl) (hst : (assignEach es X.env).findIdx? (·.1) = none := by rfl) : DG X EX (.Tuple es k pos) (gT n gs) := pg_imp (pg_tup hc h hn hst) fun v σ H Q ⟨S, M, δ, x, P, R, r, rs, rv, p0, k, _⟩ => by
  obtain ⟨xs, e1, e2, p⟩ := onO_inv p0
  obtain ⟨a, vs, h1, h2, h3⟩ := parts_of r.ext rv e1
  exact ⟨a, vs, h1, h2, h3.length.trans e2, S, M, δ, xs, P, R, r, rs, h3, p, k⟩
def wAsg (we : DTE) (g : DTG) : DTS := fun E δ M => we δ M (fun x M1 => g x δ M1 E.nx fun c fs M2 => E.xp c fs δ M2) fun c fs M1 => E.xp c fs δ M1
theorem ds_asg {t : Expr} {g : DTG} (he : DE X EX e we) (hg : DG X EX t g) (hs : swapsWithSole [t] e pos.line X.env = pure false := by rfl) (hw : swappedStores [t] e X.env = pure none := by rfl)
    (h1 : (assignEach [t] X.env).map (·.2) = [assign t X.env] := by rfl) : DS X EX (.Assign [t] e pos) (wAsg we g) := ps_imp (ps_asg he hg hs hw h1) fun D σ H ⟨S, M, δ, E, r, rs, p, k⟩ =>
  ⟨S, M, δ, _, _, r, rs, p, fun x M1 S1 H1 v p1 e1 r1 rv => ⟨S1, M1, δ, x, _, _, r1, rs.mono e1, rv, p1, k.nx.mono e1, (k.xp.mono e1).at_ (rs.mono e1)⟩, k.xp.at_ rs⟩
/-- a, b = x, y ; a, b, c = x, y, z -/
def wPar (i j : Nat) (w : DTA) : DTS := fun E δ M => w δ M (fun xs M1 => match xs with
  | [x, y] => E.nx ((δ.set i (some x)).set j (some y)) M1
  | _ => False) fun c fs M1 => E.xp c fs δ M1
def wPar3 (i j l : Nat) (w : DTA) : DTS := fun E δ M => w δ M (fun xs M1 => match xs with
  | [x, y, z] => E.nx (((δ.set i (some x)).set j (some y)).set l (some z)) M1
  | _ => False) fun c fs M1 => E.xp c fs δ M1
theorem ds_par {i j : Nat} {st : Stmt} (h : PS X st (tPar i j (lA X.K EX w))) : DS X EX st (wPar i j w) := ps_imp h fun D σ H ⟨S, M, δ, E, r, rs, p, k⟩ =>
  ⟨S, M, δ, _, _, r, rs, p, fun xs M1 S1 H1 vs p0 e2 r1 rvs => by
    obtain ⟨x, y, e1, p1⟩ : ∃ x y, xs = [x, y] ∧ E.nx ((δ.set i (some x)).set j (some y)) M1 := by
      dsimp only at p0
      split at p0
      · exact ⟨_, _, rfl, p0⟩
      · exact p0.elim
    subst e1
    cases rvs with
    | cons h1 t1 => cases t1 with
      | cons h2 t2 =>
        cases t2
        exact ⟨_, _, rfl, k.nx _ M1 S1 H1 _ p1 e2 r1 (((rs.mono e2).set h1 i).set h2 j)⟩, k.xp.at_ rs⟩
theorem ds_par3 {i j l : Nat} {st : Stmt} (h : PS X st (tPar3 i j l (lA X.K EX w))) : DS X EX st (wPar3 i j l w) := ps_imp h fun D σ H ⟨S, M, δ, E, r, rs, p, k⟩ =>
  ⟨S, M, δ, _, _, r, rs, p, fun xs M1 S1 H1 vs p0 e2 r1 rvs => by
    obtain ⟨x, y, z, e1, p1⟩ : ∃ x y z, xs = [x, y, z] ∧ E.nx (((δ.set i (some x)).set j (some y)).set l (some z)) M1 := by
      dsimp only at p0
      split at p0
      · exact ⟨_, _, _, rfl, p0⟩
      · exact p0.elim
    subst e1
    cases rvs with
    | cons h1 t1 => cases t1 with
      | cons h2 t2 => cases t2 with
        | cons h3 t3 =>
          cases t3
          exact ⟨_, _, _, rfl, k.nx _ M1 S1 H1 _ p1 e2 r1 ((((rs.mono e2).set h1 i).set h2 j).set h3 l)⟩, k.xp.at_ rs⟩
/-- o[i] = v, o a changing list -/
def onM (M : Mp) (x : AV) (k : Addr → List AV → Prop) : Prop := match x with
  | .ref a => (match M a with
    | some (.lst xs) => k a xs
    | _ => False)
  | _ => False
theorem onM_inv {M : Mp} {x : AV} {k : Addr → List AV → Prop} (h : onM M x k) : ∃ a xs, x = .ref a ∧ M a = some (.lst xs) ∧ k a xs := by
  unfold onM at h
  split at h
  · split at h
    · exact ⟨_, _, rfl, by assumption, h⟩
    · exact h.elim
  · exact h.elim
def gIx (wo wi : DTE) : DTG := fun x δ M P R => wo δ M (fun o M1 => wi δ M1 (fun y M2 => onI y fun i => onM M2 o fun a xs => onO (ixN xs.length i) fun j => P δ (um M2 a (.lst (xs.set j x)))) R) R
theorem dg_ix {o i : Expr} {wo wi : DTE} (ho : DE X EX o wo) (hi : DE X EX i wi)
    (ha : ∀ v, assign (.Subscript o i pos) X.env v = (do
      let ov ← holding [v] (eval o X.env)
      let iv ← holding [v, ov] (eval i X.env)
      standAt pos
      holding [v, ov, iv] (setItem ov iv v)
      release [v, ov, iv] []) := by intro _; rfl) : DG X EX (.Subscript o i pos) (gIx wo wi) := pg_imp (pg_sub ho hi set_list ha) fun v σ H Q ⟨S, M, δ, x, P, R, r, rs, rv, p, k, kx⟩ =>
  ⟨S, M, δ, _, R, r, rs, p, fun ov M1 S1 H1 o' p1 e1 r1 rv1 => ⟨S1, M1, δ, _, R, r1, rs.mono e1, p1, fun yv M2 S2 H2 y' p0 e2 r2 rv2 => by
    obtain ⟨i, ey, p3⟩ := onI_inv p0
    obtain ⟨a, xs, ea, em, p4⟩ := onM_inv p3
    obtain ⟨j, ej, p2⟩ := onO_inv p4
    subst ea ey
    cases rv1
    obtain ⟨sa, g⟩ := r2.mo _ _ em
    cases g with
    | lst h1 h2 =>
      refine ⟨a, _, i, j, rfl, rv_int rv2, h1, by rw [h2.length]; exact ej, k _ _ S2 _ σ p2 (e1.trans e2) (r2.put sa (solo_lst h1) _ (.lst upd_same (RVs.set (rv.mono (e1.trans e2)) j h2))) (rs.mono (e1.trans e2))⟩, kx.mono e1⟩, kx⟩
end

/-! ### what is walked -/
def JOk (K : PySem.W.Frag) (S : Hp) (G : Mp → Prop) (J : It) (xs : List AV) : Prop := ∀ (i : Nat) (S' H' : Hp) (M' : Mp), G M' → Same S S' → Rp K S' H' M' →
  (i < xs.length → J.go i H') ∧ (xs.length ≤ i → J.stop i H') ∧ ∀ v H'', J.yld i H' v H'' → ∀ y, xs[i]? = some y → ∃ S'', Same S' S'' ∧ Rp K S'' H'' M' ∧ RV K S'' v y
abbrev DTI := DSt → Mp → (List AV → (Mp → Prop) → Mp → Prop) → DXK → Prop
def lI (K : PySem.W.Frag) (EX : WXc) (src : DTI) : TI := fun σ H Q => ∃ (S : Hp) (M : Mp) (δ : DSt) (P : List AV → (Mp → Prop) → Mp → Prop) (R : DXK), Rp K S H M ∧ RSl K S σ δ ∧ src δ M P R ∧
  (∀ xs G M1 S1 H1 J, P xs G M1 → Same S S1 → Rp K S1 H1 M1 → JOk K S1 G J xs → Q J H1) ∧ ToX K S R (fun c d H' => EX c d σ H')
abbrev DI (X : Cx) (EX : WXc) (tg it : Expr) (src : DTI) : Prop := PI X tg it (lI X.K EX src)
abbrev GT : Mp → Prop := fun _ => True
section
variable {X : Cx} {EX : WXc} {tg e : Expr} {we : DTE}
theorem pi_imp {it : Expr} {t t' : TI} (h : PI X tg it t) (k : ∀ σ H Q, t' σ H Q → t σ H Q) : PI X tg it t' := ⟨fun pins s σ H Q I q => h.run pins s σ H Q I (k σ H Q q)⟩
theorem jok_list {K : PySem.W.Frag} {S : Hp} {a : Addr} {vs : List V} {xs : List AV} (h : SqL K S a vs) (q : RVs K S vs xs) : JOk K S GT (Itl K a) xs := fun i S' H' M' _ e r => by
  have hv := Same.seq (e.trans r.ext) h
  refine ⟨fun hi => ?_, fun hi => ⟨vs, hv, by rw [q.length]; exact hi⟩, fun v H'' y x ex => ?_⟩
  · have hi' : i < vs.length := by rw [q.length]; exact hi
    exact ⟨vs, vs[i], hv, List.getElem?_eq_getElem hi'⟩
  · obtain ⟨rfl, hy⟩ := y
    obtain ⟨v', h1, h2⟩ := q.get ex
    have z := (hy vs hv).symm.trans h1
    cases z
    exact ⟨S', Same.refl S', r, h2.mono e⟩
theorem jok_tup {K : PySem.W.Frag} {S : Hp} {a : Addr} {vs : List V} {xs : List AV} (h : SqT K S a vs) (q : RVs K S vs xs) : JOk K S GT (Itt K a) xs := fun i S' H' M' _ e r => by
  have hv := Same.seqT (e.trans r.ext) h
  refine ⟨fun hi => ?_, fun hi => ⟨vs, hv, by rw [q.length]; exact hi⟩, fun v H'' y x ex => ?_⟩
  · have hi' : i < vs.length := by rw [q.length]; exact hi
    exact ⟨vs, vs[i], hv, List.getElem?_eq_getElem hi'⟩
  · obtain ⟨rfl, hy⟩ := y
    obtain ⟨v', h1, h2⟩ := q.get ex
    have z := (hy vs hv).symm.trans h1
    cases z
    exact ⟨S', Same.refl S', r, h2.mono e⟩
theorem jok_mut {K : PySem.W.Frag} {S : Hp} {a : Addr} {xs : List AV} : JOk K S (fun M => M a = some (.lst xs)) (Itl K a) xs := fun i S' H' M' em e r => by
  obtain ⟨_, g⟩ := r.mo _ _ em
  cases g with
  | lst h1 h2 =>
    rename_i vs
    have hv : SqL K H' a vs := SqL.of h1
    refine ⟨fun hi => ?_, fun hi => ⟨vs, hv, by rw [h2.length]; exact hi⟩, fun v H'' y x ex => ?_⟩
    · have hi' : i < vs.length := by rw [h2.length]; exact hi
      exact ⟨vs, vs[i], hv, List.getElem?_eq_getElem hi'⟩
    · obtain ⟨rfl, hy⟩ := y
      obtain ⟨v', h3, h4⟩ := h2.get ex
      have z := (hy vs hv).symm.trans h3
      cases z
      exact ⟨S', Same.refl S', r, h4⟩
/-- a list of data | a changing list | a tuple | a text, sign by sign -/
def iL (we : DTE) : DTI := fun δ M P R => we δ M (fun x M1 => onL x fun ds => P (ds.map .dat) GT M1) R
def iM (we : DTE) : DTI := fun δ M P R => we δ M (fun x M1 => onM M1 x fun a xs => P xs (fun M => M a = some (.lst xs)) M1) R
def iT (we : DTE) : DTI := fun δ M P R => we δ M (fun x M1 => onO (partsA x) fun xs => P xs GT M1) R
def iS (we : DTE) : DTI := fun δ M P R => we δ M (fun x M1 => onS x fun z => P (z.cps.toList.map fun c => .dat (.str ⟨#[c]⟩)) GT M1) R
theorem di_L (he : DE X EX e we) : DI X EX tg e (iL we) := pi_imp (pi_list he) fun σ H Q ⟨S, M, δ, P, R, r, rs, p, k, kx⟩ =>
  ⟨S, M, δ, _, R, r, rs, p, fun x M1 S1 H1 v p0 e2 r1 rv => by
    obtain ⟨ds, e1, p1⟩ := onL_inv p0
    subst e1
    obtain ⟨a, vs, e3, h1, h2⟩ := rv_lst rv
    exact ⟨a, e3, ⟨vs, Same.seq r1.ext h1⟩, k _ GT M1 S1 H1 _ p1 e2 r1 (jok_list h1 (RVs.of_dat h2))⟩, kx⟩
theorem di_M (he : DE X EX e we) : DI X EX tg e (iM we) := pi_imp (pi_list he) fun σ H Q ⟨S, M, δ, P, R, r, rs, p, k, kx⟩ =>
  ⟨S, M, δ, _, R, r, rs, p, fun x M1 S1 H1 v p0 e2 r1 rv => by
    obtain ⟨a, xs, e1, em, p1⟩ := onM_inv p0
    subst e1
    cases rv
    obtain ⟨_, g⟩ := r1.mo _ _ em
    cases g with
    | lst h1 h2 => exact ⟨a, rfl, ⟨_, SqL.of h1⟩, k _ _ M1 S1 H1 _ p1 e2 r1 jok_mut⟩, kx⟩
theorem di_T (he : DE X EX e we) : DI X EX tg e (iT we) := pi_imp (pi_tup he) fun σ H Q ⟨S, M, δ, P, R, r, rs, p, k, kx⟩ =>
  ⟨S, M, δ, _, R, r, rs, p, fun x M1 S1 H1 v p0 e2 r1 rv => by
    obtain ⟨xs, e1, p1⟩ := onO_inv p0
    obtain ⟨a, vs, e3, h1, h2⟩ := parts_of (Same.refl S1) rv e1
    exact ⟨a, e3, ⟨vs, Same.seqT r1.ext h1⟩, k _ GT M1 S1 H1 _ p1 e2 r1 (jok_tup h1 h2)⟩, kx⟩
/-- a text, a range -/
theorem jok_str {K : PySem.W.Frag} {S : Hp} {z : Str} : JOk K S GT (Its z) (z.cps.toList.map fun c => .dat (.str ⟨#[c]⟩)) := fun i S' H' M' _ e r => by
  refine ⟨fun hi => by show i < z.cps.size; simpa using hi, fun hi => by show z.cps.size ≤ i; simpa using hi, fun v H'' y x ex => ?_⟩
  obtain ⟨rfl, c, ec, ev⟩ := y
  subst ev
  rw [List.getElem?_map, Array.getElem?_toList, ec] at ex
  cases ex
  exact ⟨S', Same.refl S', r, .dat (.str _)⟩
theorem di_S (he : DE X EX e we) : DI X EX tg e (iS we) := pi_imp (pi_str he) fun σ H Q ⟨S, M, δ, P, R, r, rs, p, k, kx⟩ =>
  ⟨S, M, δ, _, R, r, rs, p, fun x M1 S1 H1 v p0 e2 r1 rv => by
    obtain ⟨z, e1, p1⟩ := onS_inv p0
    subst e1
    exact ⟨z, rv_str rv, k _ GT M1 S1 H1 _ p1 e2 r1 jok_str⟩, kx⟩
def iR1 (we : DTE) : DTI := fun δ M P R => we δ M (fun x M1 => onI x fun j => (-(2 ^ 62) ≤ j ∧ j < 2 ^ 62) ∧ P ((List.range j.toNat).map fun (i : Nat) => .dat (.int (i : Int))) GT M1) R
theorem jok_range {K : PySem.W.Frag} {S : Hp} {n : Nat} {lo : Int} : JOk K S GT (Itr lo n) ((List.range n).map fun (i : Nat) => .dat (.int (lo + (i : Int)))) := fun i S' H' M' _ e r => by
  refine ⟨fun hi => by show i < n; simpa using hi, fun hi => by show n ≤ i; simpa using hi, fun v H'' y x ex => ?_⟩
  obtain ⟨rfl, ev⟩ := y
  subst ev
  rw [List.getElem?_map] at ex
  cases q : (List.range n)[i]? with
  | none =>
    rw [q] at ex
    cases ex
  | some j =>
    rw [q] at ex
    cases ex
    have hj : j = i := by
      obtain ⟨h1, h2⟩ := List.getElem?_eq_some_iff.mp q
      simpa using h2.symm
    subst hj
    exact ⟨S', Same.refl S', r, .dat (.int _)⟩
theorem di_R1 {a : Expr} {wa : DTE} {p pos : Pos} (hg : Gl X "range") (hm : X.mg "range" = none) (ha : DE X EX a wa) (hs : starEach [a] X.env = [(false, eval a X.env)] := by rfl) (hs2 : starEach [a] X.env = (false, eval a X.env) :: starEach [] X.env := by rfl) : DI X EX tg (.Call (.Name "range" p) [a] [] pos) (iR1 wa) := pi_imp (pi_range1 hg hm (pa_cons ha pa_nil hs2) hs) fun σ H Q ⟨S, M, δ, P, R, r, rs, p, k, kx⟩ =>
  ⟨S, M, δ, _, R, r, rs, p, fun x M1 S1 H1 v p0 e2 r1 rv => by
    obtain ⟨j, e1, ⟨h1, h2⟩, p1⟩ := onI_inv p0
    subst e1
    refine ⟨j, by rw [rv_int rv], h1, h2, k _ GT M1 S1 H1 _ p1 e2 r1 ?_⟩
    have q := jok_range (K := X.K) (S := S1) (n := j.toNat) (lo := 0)
    simpa using q, kx⟩

/-! ### for -/
def forGo (G : Mp → Prop) (g : DTG) (b : DTS) (E : DEnds) : List AV → DSt → Mp → Prop
  | [], δ, M => G M ∧ E.nx δ M
  | x :: xs, δ, M => G M ∧ g x δ M (fun δ1 M1 => b { nx := forGo G g b E xs, rt := E.rt, bk := E.nx, ct := forGo G g b E xs, xp := E.xp } δ1 M1) fun c fs M1 => E.xp c fs δ M1
def wFor (src : DTI) (g : DTG) (b : DTS) : DTS := fun E δ M => src δ M (fun xs G M1 => forGo G g b E xs δ M1) fun c fs M1 => E.xp c fs δ M1
theorem forGo_G {G : Mp → Prop} {g : DTG} {b : DTS} {E : DEnds} {xs : List AV} {δ : DSt} {M : Mp} (h : forGo G g b E xs δ M) : G M := by
  cases xs with
  | nil => exact h.1
  | cons x r => exact h.1
theorem ds_for {body : List Stmt} {g : DTG} {b : DTS} {src : DTI} {pos : Pos} (hp : PassesOwn (model X.prog X.w) X.A X.env X.xe) (hc : X.calm = true) (hi : DI X EX tg e src) (hg : DG X EX tg g) (hb : DSs X EX body b)
    (hs : ∀ x, foldedSetIterable e X.env x = pure x := by intro _; rfl) : DS X EX (.For tg e body [] pos) (wFor src g b) := ps_imp (ps_for hp hc hi hg hb hs) fun D σ H ⟨S, M, δ, E, r, rs, p, k⟩ =>
  ⟨S, M, δ, _, _, r, rs, p, fun xs G M1 S1 H1 J p1 e1 r1 jk => by
    refine ⟨fun i m σ' H' => ∃ S2 M2 δ2, Same S1 S2 ∧ Rp X.K S2 H' M2 ∧ RSl X.K S2 σ' δ2 ∧ i + m = xs.length ∧ forGo G g b E (xs.drop i) δ2 M2, ⟨xs.length, S1, M1, δ, Same.refl S1, r1, rs.mono e1, by omega, p1⟩, fun i m σ' H' ⟨S2, M2, δ2, e2, r2, rs2, em, f2⟩ => ?_⟩
    have jk2 := jk i S2 H' M2 (forGo_G f2) e2 r2
    by_cases hi : i < xs.length
    · refine .inr ⟨jk2.1 hi, fun σ3 H3 => ∃ S3 M3 δ3, Same S1 S3 ∧ Rp X.K S3 H3 M3 ∧ RSl X.K S3 σ3 δ3 ∧ forGo G g b E (xs.drop (i + 1)) δ3 M3, fun σ3 H3 ⟨S3, M3, δ3, a, b', c, d⟩ => ⟨m - 1, by omega, S3, M3, δ3, a, b', c, by omega, d⟩, fun v H3 y => ?_⟩
      have ex : xs[i]? = some xs[i] := List.getElem?_eq_getElem hi
      obtain ⟨S3, e3, r3, rv3⟩ := jk2.2.2 v H3 y _ ex
      rw [List.drop_eq_getElem_cons hi] at f2
      have e13 := e2.trans e3
      refine ⟨S3, M2, δ2, xs[i], _, _, r3, rs2.mono e3, rv3, f2.2, fun δ4 M4 S4 H4 σ4 p4 e4 r4 rs4 => ?_, (k.xp.mono (e1.trans e13)).at_ (rs2.mono e3)⟩
      have e14 := e13.trans e4
      refine ⟨S4, M4, δ4, _, r4, rs4, p4, ⟨fun δ5 M5 S5 H5 σ5 p5 e5 r5 rs5 => ⟨S5, M5, δ5, e14.trans e5, r5, rs5, p5⟩, k.rt.mono (e1.trans e14), k.nx.mono (e1.trans e14), fun δ5 M5 S5 H5 σ5 p5 e5 r5 rs5 => ⟨S5, M5, δ5, e14.trans e5, r5, rs5, p5⟩, k.xp.mono (e1.trans e14)⟩⟩
    · have hl : xs.drop i = [] := List.drop_eq_nil_of_le (by omega)
      rw [hl] at f2
      exact .inl ⟨jk2.2.1 (by omega), k.nx δ2 M2 S2 H' σ' f2.2 (e1.trans e2) r2 rs2⟩, k.xp.at_ rs⟩
/-! ### while -/
def whGo (c : DTT) (b : DTS) (E : DEnds) : Nat → DSt → Mp → Prop
  | 0, _, _ => False
  | n + 1, δ, M => c δ M (fun t M1 => if t = true then b { nx := whGo c b E n, rt := E.rt, bk := E.nx, ct := whGo c b E n, xp := E.xp } δ M1 else E.nx δ M1) fun cl fs M1 => E.xp cl fs δ M1
def wWhile (c : DTT) (b : DTS) : DTS := fun E δ M => ∃ n, whGo c b E n δ M
theorem ds_while {c : Expr} {body : List Stmt} {wc : DTT} {b : DTS} {pos : Pos} (hp : PassesOwn (model X.prog X.w) X.A X.env X.xe) (hc : DT X EX c wc) (hb : DSs X EX body b) : DS X EX (.While c body [] pos) (wWhile wc b) := ps_imp (ps_while hp hc hb) fun D σ H ⟨S, M, δ, E, r, rs, ⟨n, p⟩, k⟩ => by
  refine ⟨fun m σ' H' => ∃ S2 M2 δ2, Same S S2 ∧ Rp X.K S2 H' M2 ∧ RSl X.K S2 σ' δ2 ∧ whGo wc b E m δ2 M2, ⟨n, S, M, δ, Same.refl S, r, rs, p⟩, fun m σ' H' ⟨S2, M2, δ2, e2, r2, rs2, f2⟩ => ?_⟩
  cases m with
  | zero => exact f2.elim
  | succ m =>
    refine ⟨S2, M2, δ2, _, _, r2, rs2, f2, fun t M3 S3 H3 p3 e3 r3 => ?_, (k.xp.mono e2).at_ rs2⟩
    have e13 := e2.trans e3
    cases t with
    | false => exact k.nx δ2 M3 S3 H3 σ' p3 e13 r3 (rs2.mono e3)
    | true =>
      refine ⟨fun σ4 H4 => ∃ S4 M4 δ4, Same S S4 ∧ Rp X.K S4 H4 M4 ∧ RSl X.K S4 σ4 δ4 ∧ whGo wc b E m δ4 M4, fun σ4 H4 z => ⟨m, Nat.lt_succ_self m, z⟩, ?_⟩
      exact ⟨S3, M3, δ2, _, r3, rs2.mono e3, p3, ⟨fun δ5 M5 S5 H5 σ5 p5 e5 r5 rs5 => ⟨S5, M5, δ5, e13.trans e5, r5, rs5, p5⟩, k.rt.mono e13, k.nx.mono e13, fun δ5 M5 S5 H5 σ5 p5 e5 r5 rs5 => ⟨S5, M5, δ5, e13.trans e5, r5, rs5, p5⟩, k.xp.mono e13⟩⟩
end
end DL
end
section
set_option Elab.async false
set_option linter.all false
set_option maxRecDepth 100000
set_option maxHeartbeats 2000000
/-! D4: comprehensions. -/
namespace DL
open PySem PySem.Spec L2
open PyProof.Rows hiding St

/-- the map without D -/
def dm (M : Mp) (D : Addr) : Mp := fun b => if b = D then none else M b
theorem dm_um {M : Mp} {D : Addr} {o : MO} (h : M D = none) : dm (um M D o) D = M := by
  funext b
  unfold dm um
  by_cases e : b = D
  · subst e
    simp [h]
  · simp [e]
theorem dm_um2 {M : Mp} {D : Addr} {o : MO} : dm (um M D o) D = dm M D := by
  funext b
  unfold dm um
  by_cases e : b = D
  · simp [e]
  · simp [e]
theorem dm_um_ne {M : Mp} {D a : Addr} {o : MO} (h : a ≠ D) : dm (um M a o) D = um (dm M D) a o := by
  funext b
  unfold dm um
  by_cases e : b = D
  · subst e
    simp [Ne.symm h]
  · simp [e]
theorem dm_none {M : Mp} {D : Addr} (h : M D = none) : dm M D = M := by
  funext b
  unfold dm
  by_cases e : b = D
  · subst e
    simp [h]
  · simp [e]
/-- D becomes a datum -/
theorem Rp.freeze {K : PySem.W.Frag} {S H : Hp} {M : Mp} {D : Addr} {ds : List PyData} (r : Rp K S H M) (h : M D = some (.lst (ds.map .dat))) : ∃ S', Same S S' ∧ Rp K S' H (dm M D) ∧ DD K S' (.ref D) (.list ds) := by
  obtain ⟨sD, g⟩ := r.mo D _ h
  cases g with
  | lst h1 h2 =>
    rename_i vs
    have e := Same.new (o := .lst vs) sD
    have up : ∀ a C dx fs, dm M D a = some (.exc C dx fs) → M a = some (.exc C dx fs) := fun a C dx fs z => by
      unfold dm at z
      split at z
      · cases z
      · exact z
    refine ⟨upd S D (.lst vs), e, ⟨fun b v q => ?_, fun a o q => ?_, fun a b C C' dx fs fs' z z' => r.sep a b C C' dx fs fs' (up _ _ _ _ z) (up _ _ _ _ z')⟩, .lst (SqL.of upd_same) (h2.to_dat.mono e)⟩
    · by_cases hb : b = D
      · subst hb
        rw [upd_same] at q
        cases q
        exact h1
      · rw [upd_ne hb] at q
        exact r.ext b v q
    · have ha : a ≠ D := fun z => by
        rw [z] at q
        have : dm M D D = none := if_pos rfl
        rw [this] at q
        cases q
      have q' : M a = some o := by
        have z : dm M D a = M a := if_neg ha
        rw [z] at q
        exact q
      obtain ⟨s1, g1⟩ := r.mo a o q'
      refine ⟨by rw [upd_ne ha]; exact s1, ?_⟩
      cases g1 with
      | lst a1 a2 => exact .lst a1 (a2.mono e)
      | dct a1 a2 => exact .dct a1 ⟨a2.1, a2.2.mono e⟩
      | ins a1 a2 a3 a4 =>
        refine .ins a1 a2 ?_ ⟨a4.1, a4.2.mono e⟩
        rw [upd_ne (fun z => by rw [z, h1] at a2; cases a2)]
        exact a3
      | exc a1 a2 a3 a4 =>
        refine .exc a1 a2 ?_ ⟨a4.1, a4.2.mono e⟩
        rw [upd_ne (fun z => (solo_lst h1).2 _ (z ▸ a2))]
        exact a3
      | raw a1 => exact .raw a1

/-- the turns: D holds what is made; st: the slots by an item -/
def lcGo (G : Mp → Prop) (st : AV → DSt → Option DSt) (tt : DTT) (te : DTE) (δ : DSt) (D : Addr) (fin : List AV → Mp → Prop) : List AV → List AV → Mp → Prop
  | [], acc, M => G M ∧ fin acc M
  | x :: xs, acc, M => G M ∧ onO (st x δ) fun δ' => tt δ' M (fun b M1 => if b = true then te δ' M1 (fun y M2 => M2 D = some (.lst acc) ∧ acc.length < sizeLine ∧ lcGo G st tt te δ D fin xs (acc ++ [y]) (um M2 D (.lst (acc ++ [y])))) (fun _ _ _ => False)
      else M1 D = some (.lst acc) ∧ lcGo G st tt te δ D fin xs acc M1) (fun _ _ _ => False)
theorem lcGo_G {G : Mp → Prop} {st : AV → DSt → Option DSt} {tt : DTT} {te : DTE} {δ : DSt} {D : Addr} {fin : List AV → Mp → Prop} {xs acc : List AV} {M : Mp} (h : lcGo G st tt te δ D fin xs acc M) : G M := by
  cases xs with
  | nil => exact h.1
  | cons x r => exact h.1
/-- what a comprehension's target does to the slots, told for both sides at once -/
structure CT (K : PySem.W.Frag) (g : TG) (vs : List Nat) (st : AV → DSt → Option DSt) : Prop where
  run : ∀ (S H : Hp) (M : Mp) (σ : L2.St) (δ δ' : DSt) (v : V) (x : AV) (Q : L2.St → Hp → Prop), Rp K S H M → RSl K S σ δ → RV K S v x → st x δ = some δ' → (∀ σ', L2.wipe σ' vs = L2.wipe σ vs → RSl K S σ' δ' → Q σ' H) → g v (L2.wipe σ vs) H Q
/-- one name -/
theorem ct_name {K : PySem.W.Frag} {i : Nat} : CT K (gName i) [i] (fun x δ => some (δ.set i (some x))) := ⟨fun S H M σ δ δ' v x Q r rs rv e k => by
  cases e
  refine k _ ?_ ?_
  · show ((σ.set i none).set i (some v)).set i none = σ.set i none
    rw [List.set_set, List.set_set]
  · show RSl K S ((σ.set i none).set i (some v)) _
    rw [List.set_set]
    exact rs.set rv i⟩
section
variable {X : Cx} {EX : WXc}
abbrev EXF : WXc := fun _ _ _ _ => False
theorem toXF {K : PySem.W.Frag} {S : Hp} {E : XK} : ToX K S (fun _ _ _ => False) E := fun _ _ _ _ _ _ p => p.elim
/-- the core, both ends -/
theorem lc_l {K : PySem.W.Frag} {src : DTI} {g : TG} {vs : List Nat} {st : AV → DSt → Option DSt} {tt : DTT} {te : DTE} {σ : L2.St} {H : Hp} {Q : VK} (ct : CT K g vs st) {S : Hp} {M : Mp} {δ : DSt} {R : DXK}
    (r : Rp K S H M) (rs : RSl K S σ δ) (fin : Addr → List AV → Mp → Prop) (p : src δ M (fun xs G M1 => ∀ D, M1 D = none → lcGo G st tt te δ D (fin D) xs [] (um M1 D (.lst []))) R) (kx : ToX K S R (fun c d H' => EX c d σ H'))
    (kf : ∀ D acc M' S' H', fin D acc M' → Same S S' → Rp K S' H' M' → Q (.ref D) H') : tLc (lI K EX src) g (lT K EXF tt) (lE K EXF te) vs σ H Q := by
  refine ⟨S, M, δ, _, R, r, rs, p, fun xs G M1 S1 H1 J p1 e1 r1 jk D hD => ?_, kx⟩
  have hM := r1.fresh hD
  have r2 : Rp K S1 (upd H1 D (.lst [])) (um M1 D (.lst [])) := r1.alloc hD _ (.lst upd_same .nil)
  refine ⟨fun i m H' => ∃ S2 M2 acc, Same S1 S2 ∧ Rp K S2 H' M2 ∧ i + m = xs.length ∧ M2 D = some (.lst acc) ∧ lcGo G st tt te δ D (fin D) (xs.drop i) acc M2, ⟨xs.length, S1, _, [], Same.refl S1, r2, by omega, um_same, p1 D hM⟩, fun i m H' ⟨S2, M2, acc, e2, r2, em, hacc, f2⟩ => ?_⟩
  have jk2 := jk i S2 H' M2 (lcGo_G f2) e2 r2
  by_cases hi : i < xs.length
  · refine .inr ⟨jk2.1 hi, fun H3 => ∃ S3 M3 acc', Same S1 S3 ∧ Rp K S3 H3 M3 ∧ M3 D = some (.lst acc') ∧ lcGo G st tt te δ D (fin D) (xs.drop (i + 1)) acc' M3, fun H3 ⟨S3, M3, a', a, b', c, d⟩ => ⟨m - 1, by omega, S3, M3, a', a, b', by omega, c, d⟩, fun v H3 y => ?_⟩
    have ex : xs[i]? = some xs[i] := List.getElem?_eq_getElem hi
    obtain ⟨S3, e3, r3, rv3⟩ := jk2.2.2 v H3 y _ ex
    rw [List.drop_eq_getElem_cons hi] at f2
    obtain ⟨_, f20⟩ := f2
    obtain ⟨δ', hst, f3⟩ := onO_inv f20
    have e03 := (e1.trans e2).trans e3
    refine ct.run S3 H3 M2 σ δ δ' v xs[i] _ r3 (rs.mono e03) rv3 hst fun σ' hw rs' => ⟨hw, ?_⟩
    refine ⟨S3, M2, δ', _, _, r3, rs', f3, fun b M4 S4 H4 p4 e4 r4 => ?_, toXF⟩
    cases b with
    | false => exact ⟨S4, M4, acc, (e2.trans e3).trans e4, r4, p4⟩
    | true =>
      refine ⟨S4, M4, δ', _, _, r4, rs'.mono e4, p4, fun yv M5 S5 H5 u ⟨hD5, hl, p5⟩ e5 r5 rv5 => ?_, toXF⟩
      obtain ⟨sD, g5⟩ := r5.mo D _ hD5
      cases g5 with
      | lst a1 a2 =>
        refine ⟨_, a1, by rw [a2.length]; exact hl, S5, _, acc ++ [yv], ((e2.trans e3).trans e4).trans e5, r5.put sD (solo_lst a1) _ (.lst upd_same (a2.append (.cons rv5 .nil))), um_same, p5⟩
  · have hl : xs.drop i = [] := List.drop_eq_nil_of_le (by omega)
    rw [hl] at f2
    exact .inl ⟨jk2.2.1 (by omega), kf D acc M2 S2 H' f2.2 (e1.trans e2) r2⟩
/-- .. a list that changes | a datum -/
def wLcM (src : DTI) (st : AV → DSt → Option DSt) (tt : DTT) (te : DTE) : DTE := fun δ M P R => src δ M (fun xs G M1 => ∀ D, M1 D = none → lcGo G st tt te δ D (fun _ M2 => P (.ref D) M2) xs [] (um M1 D (.lst []))) R
def wLc (src : DTI) (st : AV → DSt → Option DSt) (tt : DTT) (te : DTE) : DTE := fun δ M P R => src δ M (fun xs G M1 => ∀ D, M1 D = none → lcGo G st tt te δ D (fun acc M2 => M2 D = some (.lst acc) ∧ onDs acc fun ds => P (.dat (.list ds)) (dm M2 D)) xs [] (um M1 D (.lst []))) R
theorem lcM_l {K : PySem.W.Frag} {src : DTI} {g : TG} {vs : List Nat} {st : AV → DSt → Option DSt} {tt : DTT} {te : DTE} (ct : CT K g vs st) {σ : L2.St} {H : Hp} {Q : VK} (h : lE K EX (wLcM src st tt te) σ H Q) : tLc (lI K EX src) g (lT K EXF tt) (lE K EXF te) vs σ H Q := by
  obtain ⟨S, M, δ, P, R, r, rs, p, k, kx⟩ := h
  exact lc_l ct r rs (fun D _ M2 => P (.ref D) M2) p kx fun D acc M' S' H' q e r' => k _ M' S' H' _ q e r' (.ref D)
theorem lc_l' {K : PySem.W.Frag} {src : DTI} {g : TG} {vs : List Nat} {st : AV → DSt → Option DSt} {tt : DTT} {te : DTE} (ct : CT K g vs st) {σ : L2.St} {H : Hp} {Q : VK} (h : lE K EX (wLc src st tt te) σ H Q) : tLc (lI K EX src) g (lT K EXF tt) (lE K EXF te) vs σ H Q := by
  obtain ⟨S, M, δ, P, R, r, rs, p, k, kx⟩ := h
  refine lc_l ct r rs (fun D acc M2 => M2 D = some (.lst acc) ∧ onDs acc fun ds => P (.dat (.list ds)) (dm M2 D)) p kx fun D acc M' S' H' ⟨q1, q0⟩ e r' => ?_
  obtain ⟨ds, q2, q3⟩ := onDs_inv q0
  have z := datsOf_map q2
  subst z
  obtain ⟨S2, e2, r2, d2⟩ := r'.freeze q1
  exact k _ _ S2 H' _ q3 (e.trans e2) r2 (.dat d2)
/-- no tests -/
theorem dts_nil : PTs X [] (lT X.K EX fun _ M P _ => P true M) := ⟨fun pins s σ H Q I ⟨S, M, δ, P, R, r, rs, p, k, _⟩ => pts_nil.run pins s σ H Q I (k true M S H p (Same.refl S) r)⟩
def wYes : DTT := fun _ M P _ => P true M
theorem de_lcM {elt tg iter : Expr} {ifs : List Expr} {scope : Scope} {own : List (Str × Nat)} {pos : Pos} {src : DTI} {g : TG} {st : AV → DSt → Option DSt} {tt : DTT} {te : DTE} (hc : X.calm = true) (hN : X.N.Nodup) (hi : DI X EX tg iter src) (ok : BlkOk X.N X.env.scope scope own) (ct : CT X.K g (own.map (·.2)) st)
    (hg : ∀ (s : Shared) (H : Hp) (C : Addr) (cl : List (Str × Addr)) (fp : List Addr), PG (X.blk s H scope (compEnvC scope cl C X.env) fp) tg g) (ht : ∀ (s : Shared) (H : Hp) (C : Addr) (cl : List (Str × Addr)) (fp : List Addr), PTs (X.blk s H scope (compEnvC scope cl C X.env) fp) ifs (lT X.K EXF tt))
    (he : ∀ (s : Shared) (H : Hp) (C : Addr) (cl : List (Str × Addr)) (fp : List Addr), PE (X.blk s H scope (compEnvC scope cl C X.env) fp) elt (lE X.K EXF te)) (hs : ∀ x, foldedSetIterable iter X.env x = pure x := by intro _; rfl) :
    DE X EX (.ListComp elt [⟨tg, iter, ifs, 0⟩] scope pos) (wLcM src st tt te) := pe_imp (pe_lc hc hN hi ok hg ht he hs) fun _ _ _ h => lcM_l ct h
theorem de_lc {elt tg iter : Expr} {ifs : List Expr} {scope : Scope} {own : List (Str × Nat)} {pos : Pos} {src : DTI} {g : TG} {st : AV → DSt → Option DSt} {tt : DTT} {te : DTE} (hc : X.calm = true) (hN : X.N.Nodup) (hi : DI X EX tg iter src) (ok : BlkOk X.N X.env.scope scope own) (ct : CT X.K g (own.map (·.2)) st)
    (hg : ∀ (s : Shared) (H : Hp) (C : Addr) (cl : List (Str × Addr)) (fp : List Addr), PG (X.blk s H scope (compEnvC scope cl C X.env) fp) tg g) (ht : ∀ (s : Shared) (H : Hp) (C : Addr) (cl : List (Str × Addr)) (fp : List Addr), PTs (X.blk s H scope (compEnvC scope cl C X.env) fp) ifs (lT X.K EXF tt))
    (he : ∀ (s : Shared) (H : Hp) (C : Addr) (cl : List (Str × Addr)) (fp : List Addr), PE (X.blk s H scope (compEnvC scope cl C X.env) fp) elt (lE X.K EXF te)) (hs : ∀ x, foldedSetIterable iter X.env x = pure x := by intro _; rfl) :
    DE X EX (.ListComp elt [⟨tg, iter, ifs, 0⟩] scope pos) (wLc src st tt te) := pe_imp (pe_lc hc hN hi ok hg ht he hs) fun _ _ _ h => lc_l' ct h
/-- y = [..] on one line -/
theorem ds_setLc {i : Nat} {st : Stmt} {src : DTI} {g : TG} {vs : List Nat} {sx : AV → DSt → Option DSt} {tt : DTT} {te : DTE} (ct : CT X.K g vs sx) (h : PS X st (tAsg (tLc (lI X.K EX src) g (lT X.K EXF tt) (lE X.K EXF te) vs) (gName i))) : DS X EX st (wSet i (wLc src sx tt te)) := ps_imp h fun D σ H ⟨S, M, δ, E, r, rs, p, k⟩ =>
  lc_l' ct ⟨S, M, δ, _, _, r, rs, p, fun x M1 S1 H1 v p1 e1 r1 rv => k.nx _ M1 S1 H1 _ p1 e1 r1 ((rs.mono e1).set rv i), k.xp.at_ rs⟩
theorem ds_setLcM {i : Nat} {st : Stmt} {src : DTI} {g : TG} {vs : List Nat} {sx : AV → DSt → Option DSt} {tt : DTT} {te : DTE} (ct : CT X.K g vs sx) (h : PS X st (tAsg (tLc (lI X.K EX src) g (lT X.K EXF tt) (lE X.K EXF te) vs) (gName i))) : DS X EX st (wSet i (wLcM src sx tt te)) := ps_imp h fun D σ H ⟨S, M, δ, E, r, rs, p, k⟩ =>
  lcM_l ct ⟨S, M, δ, _, _, r, rs, p, fun x M1 S1 H1 v p1 e1 r1 rv => k.nx _ M1 S1 H1 _ p1 e1 r1 ((rs.mono e1).set rv i), k.xp.at_ rs⟩
end

/-! ### comprehensions that change nothing -/
/-- w gives v and changes nothing -/
def EvE (w : DTE) (δ : DSt) (v : AV) : Prop := ∀ (M : Mp) (P : DK) (R : DXK), P v M → w δ M P R
def EvT (w : DTT) (δ : DSt) (v : Bool) : Prop := ∀ (M : Mp) (P : Bool → Mp → Prop) (R : DXK), P v M → w δ M P R
theorem lcGo_pure {st : AV → DSt → Option DSt} {tt : DTT} {te : DTE} {δ : DSt} {D : Addr} {M1 : Mp} {fin : List AV → Mp → Prop} (f : AV → DSt) (p : AV → Bool) (g : AV → PyData) :
    ∀ (xs : List AV) (acc : List AV), acc.length + xs.length ≤ sizeLine → (∀ x ∈ xs, st x δ = some (f x) ∧ EvT tt (f x) (p x) ∧ (p x = true → EvE te (f x) (.dat (g x)))) →
      fin (acc ++ ((xs.filter p).map fun x => .dat (g x))) (um M1 D (.lst (acc ++ ((xs.filter p).map fun x => .dat (g x))))) → lcGo GT st tt te δ D fin xs acc (um M1 D (.lst acc))
  | [], acc, _, _, h => ⟨trivial, by simpa using h⟩
  | x :: xs, acc, hl, hx, h => by
    obtain ⟨h1, h2, h3⟩ := hx x List.mem_cons_self
    have hr := fun y hy => hx y (List.mem_cons_of_mem x hy)
    simp only [List.length_cons] at hl
    refine ⟨trivial, ?_⟩
    rw [h1]
    refine h2 _ _ _ ?_
    cases hp : p x with
    | false =>
      rw [if_neg Bool.false_ne_true]
      refine ⟨um_same, lcGo_pure f p g xs acc (by omega) hr ?_⟩
      rw [List.filter_cons_of_neg (by rw [hp]; decide)] at h
      exact h
    | true =>
      rw [if_pos rfl]
      refine h3 hp _ _ _ ⟨um_same, by omega, ?_⟩
      rw [um_um]
      refine lcGo_pure f p g xs (acc ++ [.dat (g x)]) (by simp; omega) hr ?_
      rw [List.filter_cons_of_pos hp, List.map_cons] at h
      simpa using h
theorem lc_pure {st : AV → DSt → Option DSt} {tt : DTT} {te : DTE} {δ : DSt} {M1 : Mp} {P : DK} (f : AV → DSt) (p : AV → Bool) (g : AV → PyData) {xs : List AV} (hl : xs.length ≤ sizeLine) (hx : ∀ x ∈ xs, st x δ = some (f x) ∧ EvT tt (f x) (p x) ∧ (p x = true → EvE te (f x) (.dat (g x))))
    (h : P (.dat (.list ((xs.filter p).map g))) M1) : ∀ D, M1 D = none → lcGo GT st tt te δ D (fun acc M2 => M2 D = some (.lst acc) ∧ onDs acc fun ds => P (.dat (.list ds)) (dm M2 D)) xs [] (um M1 D (.lst [])) := fun D hD => by
  refine lcGo_pure f p g xs [] (by simpa using hl) hx ⟨?_, ?_⟩
  · simp [um_same]
  · have z := datsOf_dats ((xs.filter p).map g)
    rw [List.map_map] at z
    show onDs ((xs.filter p).map (AV.dat ∘ g)) _
    unfold onDs
    rw [z, dm_um hD]
    exact h
end DL
end
section
set_option Elab.async false
set_option linter.all false
set_option maxRecDepth 100000
set_option maxHeartbeats 2000000
/-! D5: slices, methods of lists and texts, repr. -/
namespace DL
open PySem PySem.Spec L2
open PyProof.Rows hiding St

section
variable {X : Cx} {EX : WXc} {e o : Expr} {es : List Expr} {we wo : DTE} {w : DTA} {pos p : Pos}
/-! ### slices -/
abbrev DTO := DSt → Mp → (Option Int → Mp → Prop) → DXK → Prop
def lP (K : PySem.W.Frag) (EX : WXc) (w : DTO) : TO := fun σ H Q => ∃ (S : Hp) (M : Mp) (δ : DSt) (P : Option Int → Mp → Prop) (R : DXK), Rp K S H M ∧ RSl K S σ δ ∧ w δ M P R ∧ (∀ i M' S' H', P i M' → Same S S' → Rp K S' H' M' → Q i H') ∧ ToX K S R (fun c d H' => EX c d σ H')
abbrev DO (X : Cx) (EX : WXc) (e : Option Expr) (w : DTO) : Prop := PO X e (lP X.K EX w)
theorem po_imp {e : Option Expr} {t t' : TO} (h : PO X e t) (k : ∀ σ H Q, t' σ H Q → t σ H Q) : PO X e t' := ⟨fun pins s σ H Q I q => h.run pins s σ H Q I (k σ H Q q)⟩
def wNoPart : DTO := fun _ M P _ => P none M
def wPart (we : DTE) : DTO := fun δ M P R => we δ M (fun x M1 => onI x fun i => P (some i) M1) R
theorem do_none : DO X EX none wNoPart := po_imp po_none fun σ H Q ⟨S, M, δ, P, R, r, rs, p, k, kx⟩ => k none M S H p (Same.refl S) r
theorem do_some (he : DE X EX e we) : DO X EX (some e) (wPart we) := po_imp (po_some he) fun σ H Q ⟨S, M, δ, P, R, r, rs, p, k, kx⟩ =>
  ⟨S, M, δ, _, R, r, rs, p, fun x M1 S1 H1 v p0 e2 r1 rv => by
    obtain ⟨i, e1, p1⟩ := onI_inv p0
    subst e1
    exact ⟨i, rv_int rv, k _ M1 S1 H1 p1 e2 r1⟩, kx⟩
def cut (n : Nat) (lo hi : Option Int) {α : Type} (xs : List α) : List α := (xs.drop (HT.sIx n 0 lo)).take (HT.sIx n n hi - HT.sIx n 0 lo)
abbrev DSl := AV → Option Int → Option Int → Mp → DK → Prop
def lSl (K : PySem.W.Frag) (w : DSl) : V → Option Int → Option Int → Hp → VK → Prop := fun x lo hi H Q => ∃ (S : Hp) (M : Mp) (a : AV) (P : DK), Rp K S H M ∧ RV K S x a ∧ w a lo hi M P ∧ To K S P Q
def wSlice (r : DSl) (we : DTE) (wl wh : DTO) : DTE := fun δ M P R => we δ M (fun x M1 => wl δ M1 (fun lo M2 => wh δ M2 (fun hi M3 => r x lo hi M3 P) R) R) R
theorem de_slice {r : DSl} {lo hi : Option Expr} {wl wh : DTO} {p2 : Pos} (hr : SlR X (lSl X.K r)) (he : DE X EX e we) (hl : DO X EX lo wl) (hh : DO X EX hi wh) : DE X EX (.Subscript e (.Slice lo hi none p2) pos) (wSlice r we wl wh) := pe_imp (pe_slice hr he hl hh) fun σ H Q ⟨S, M, δ, P, R, r, rs, p, k, kx⟩ =>
  ⟨S, M, δ, _, R, r, rs, p, fun x M1 S1 H1 v p1 e1 r1 rv => ⟨S1, M1, δ, _, R, r1, rs.mono e1, p1, fun lo M2 S2 H2 p2 e2 r2 => ⟨S2, M2, δ, _, R, r2, rs.mono (e1.trans e2), p2, fun hi M3 S3 H3 p3 e3 r3 =>
    ⟨S3, M3, x, P, r3, rv.mono (e2.trans e3), p3, k.mono ((e1.trans e2).trans e3)⟩, kx.mono (e1.trans e2)⟩, kx.mono e1⟩, kx⟩
theorem cutV_dds {K : PySem.W.Frag} {S : Hp} {vs : List V} {ds : List PyData} (h : DDs K S vs ds) (lo hi : Option Int) : DDs K S (cutV vs lo hi) (cut ds.length lo hi ds) := by
  unfold cutV cut
  rw [h.length]
  exact (h.drop _).take _
theorem cutV_rvs {K : PySem.W.Frag} {S : Hp} {vs : List V} {ds : List AV} (h : RVs K S vs ds) (lo hi : Option Int) : RVs K S (cutV vs lo hi) (cut ds.length lo hi ds) := by
  unfold cutV cut
  rw [h.length]
  exact (h.drop _).take _
theorem cut_whole {α : Type} {xs : List α} {lo hi : Option Int} (h : HT.sIx xs.length 0 lo = 0 ∧ HT.sIx xs.length xs.length hi = xs.length) : cut xs.length lo hi xs = xs := by
  unfold cut
  rw [h.1, h.2]
  simp
/-- of a tuple of data, of a list of data, of a text; of a changing list: a new one -/
def wSl : DSl := fun x lo hi M P => match x with
  | .dat (.tuple ds) => P (.dat (.tuple (cut ds.length lo hi ds))) M
  | .dat (.list ds) => P (.dat (.list (cut ds.length lo hi ds))) M
  | .dat (.str z) => z.length ≤ sizeLine ∧ P (.dat (.str (cutS z lo hi))) M
  | .ref a => (match M a with
    | some (.lst xs) => ∀ q, M q = none → P (.ref q) (um M q (.lst (cut xs.length lo hi xs)))
    | _ => False)
  | _ => False
theorem sr : SlR X (lSl X.K wSl) := fun pins s σ H x v vl vu lo hi sl Q I rx hs pl pu ⟨S, M, a, P, r, rv, p, k⟩ => by
  unfold wSl at p
  split at p
  · rename_i ds
    obtain ⟨q, vs, e2, h1, h2⟩ := rv_tup rv
    subst e2
    refine sl_tupA pins s σ H _ v vl vu lo hi sl Q I rx hs pl pu ⟨q, vs, rfl, Same.seqT r.ext h1, fun z => ?_, fun z q' hq => ?_⟩
    · rw [h2.length] at z
      rw [cut_whole z] at p
      exact k _ M S H _ p (Same.refl S) r rv
    · obtain ⟨e3, r3⟩ := r.frozen hq (.tup (cutV vs lo hi))
      exact k _ M _ _ _ p e3 r3 (.dat (.tup (SqT.of upd_same) ((cutV_dds h2 lo hi).mono e3)))
  · obtain ⟨q, vs, e2, h1, h2⟩ := rv_lst rv
    subst e2
    refine sl_list pins s σ H _ v vl vu lo hi sl Q I rx hs pl pu ⟨q, vs, rfl, Same.seq r.ext h1, fun q' hq => ?_⟩
    obtain ⟨e3, r3⟩ := r.frozen hq (.lst (cutV vs lo hi))
    exact k _ M _ _ _ p e3 r3 (.dat (.lst (SqL.of upd_same) ((cutV_dds h2 lo hi).mono e3)))
  · exact sl_str pins s σ H x v vl vu lo hi sl Q I rx hs pl pu ⟨_, rv_str rv, p.1, k _ M S H _ p.2 (Same.refl S) r (.dat (.str _))⟩
  · split at p
    · obtain ⟨vs, _, h1, h2⟩ := rp_lst r (by assumption)
      exact sl_list pins s σ H x v vl vu lo hi sl Q I rx hs pl pu ⟨_, vs, rv_ref rv, SqL.of h1, fun q' hq => k _ _ S _ _ (p q' (r.fresh hq)) (Same.refl S) (r.alloc hq _ (.lst upd_same (cutV_rvs h2 lo hi))) (.ref q')⟩
    · exact p.elim
  · exact p.elim
theorem de_sl {lo hi : Option Expr} {wl wh : DTO} {p2 : Pos} (he : DE X EX e we) (hl : DO X EX lo wl) (hh : DO X EX hi wh) : DE X EX (.Subscript e (.Slice lo hi none p2) pos) (wSlice wSl we wl wh) := de_slice sr he hl hh

/-! ### methods -/
abbrev DMt := AV → List AV → Mp → DK → Prop
def lMt (K : PySem.W.Frag) (w : DMt) : V → List V → Hp → VK → Prop := fun x vs H Q => ∃ (S : Hp) (M : Mp) (a : AV) (xs : List AV) (P : DK), Rp K S H M ∧ RV K S x a ∧ RVs K S vs xs ∧ w a xs M P ∧ To K S P Q
theorem mt_imp {id : String} {r r' : V → List V → Hp → VK → Prop} (h : MtR X id r) (k : ∀ x vs H Q, r' x vs H Q → r x vs H Q) : MtR X id r' := fun pins s σ H x xs v us Q I rx rs q => h pins s σ H x xs v us Q I rx rs (k _ _ _ _ q)
/-- o.append(x), o a changing list -/
def wAppend (wo we : DTE) : DTE := fun δ M P R => wo δ M (fun o M1 => onM M1 o fun _ _ => we δ M1 (fun x M2 => onM M2 o fun a xs => xs.length < sizeLine ∧ P (.dat .none) (um M2 a (.lst (xs ++ [x])))) R) R
theorem de_append {apos : Pos} (ho : DE X EX o wo) (he : DE X EX e we) (n0 : attributeBase o "append" X.env (eval o X.env) = eval o X.env := by rfl)
    (n1 : ((backTo pos (starEach [e] X.env)).all (fun x => !x.1) && (backToKw pos (keywordEach [] X.env)).all (fun x => x.1.isSome) && decide ([e].length + ([] : List Keyword).length + (if ([] : List Keyword).isEmpty then 0 else 1) < 30)) = true := by rfl)
    (n2 : (apos.endLine == pos.line) = true := by rfl) (n3 : starEach [e] X.env = (false, eval e X.env) :: starEach [] X.env := by rfl) : DE X EX (.Call (.Attribute o "append" apos) [e] [] pos) (wAppend wo we) :=
  pe_imp (pe_bm PySem.F.plainAttrs_list PySem.F.slot_list_append PySem.F.type_list_append mt_append ho (pa_cons he pa_nil n3) n0 n1 n2 n3) fun σ H Q ⟨S, M, δ, P, R, r, rs, p, k, kx⟩ =>
  ⟨S, M, δ, _, R, r, rs, p, fun ov M1 S1 H1 v p0 e2 r1 rv => by
    obtain ⟨a, ys, e1, ey, p1⟩ := onM_inv p0
    subst e1
    cases rv
    obtain ⟨vs, _, h1, h2⟩ := rp_lst r1 ey
    refine ⟨.inl ⟨rfl, _, SqL.of h1⟩, S1, M1, δ, _, R, r1, rs.mono e2, p1, fun x M2 S2 H2 u p3 e3 r2 rv2 => ?_, kx.mono e2⟩
    obtain ⟨a', xs, ea, em, hl, p2⟩ := onM_inv p3
    cases ea
    obtain ⟨us, s2, a1, a2⟩ := rp_lst r2 em
    exact ⟨a, _, u, rfl, rfl, a1, by rw [a2.length]; exact hl, k _ _ S2 _ _ p2 (e2.trans e3) (r2.put s2 (solo_lst a1) _ (.lst upd_same (a2.append (.cons rv2 .nil)))) (.dat .non)⟩, kx⟩
/-- sep.join(a row of texts) -/
def strsOf : List AV → Option (List Str)
  | [] => some []
  | .dat (.str b) :: r => (strsOf r).map (b :: ·)
  | _ :: _ => none
theorem strsOf_map : ∀ {ds : List AV} {bs : List Str}, strsOf ds = some bs → ds = bs.map fun z => .dat (.str z)
  | [], _, h => by cases h; rfl
  | .dat (.str d) :: r, _, h => by
    unfold strsOf at h
    cases q : strsOf r with
    | none => rw [q] at h; cases h
    | some es =>
      rw [q] at h
      cases h
      rw [strsOf_map q]
      rfl
theorem strsOf_strs (bs : List Str) : strsOf (bs.map fun z => .dat (.str z)) = some bs := by
  induction bs with
  | nil => rfl
  | cons d r ih =>
    show (strsOf (r.map fun z => .dat (.str z))).map (d :: ·) = _
    rw [ih]
    rfl
theorem rvs_strs {K : PySem.W.Frag} {S : Hp} : ∀ {bs : List Str} {vs : List V}, RVs K S vs (bs.map fun z => .dat (.str z)) → vs = bs.map V.str
  | [], _, .nil => rfl
  | _ :: _, _, .cons h t => by
    cases rv_str h
    rw [rvs_strs t]
    rfl
def wJoin (wo we : DTE) : DTE := fun δ M P R => wo δ M (fun o M1 => onS o fun a => we δ M1 (fun x M2 => onO (rowA M2 x) fun xs => onO (strsOf xs) fun ys => (ys.map (·.length)).sum + ys.length * a.length ≤ 16777216 ∧ P (.dat (.str (Txt.join a ys))) M2) R) R
theorem de_join {apos : Pos} (ho : DE X EX o wo) (he : DE X EX e we) (hs : starEach [e] X.env = [(false, eval e X.env)] := by rfl) (hbase : attributeBase o "join" X.env (eval o X.env) = eval o X.env := by rfl) (hline : (apos.endLine == pos.line) = true := by rfl) :
    DE X EX (.Call (.Attribute o "join" apos) [e] [] pos) (wJoin wo we) := pe_imp (pe_join ho he hs hbase hline) fun σ H Q ⟨S, M, δ, P, R, r, rs, p, k, kx⟩ =>
  ⟨S, M, δ, _, R, r, rs, p, fun ov M1 S1 H1 v p0 e2 r1 rv => by
    obtain ⟨a, e1, p1⟩ := onS_inv p0
    subst e1
    cases rv_str rv
    refine ⟨⟨a, rfl⟩, S1, M1, δ, _, R, r1, rs.mono e2, p1, fun x M2 S2 H2 u p3 e3 r2 rv2 => ?_, kx.mono e2⟩
    obtain ⟨xs, ex, p4⟩ := onO_inv p3
    obtain ⟨ys, ey, hl, p5⟩ := onO_inv p4
    have ez := strsOf_map ey
    subst ez
    obtain ⟨b, vs, e4, h1, h2⟩ := row_of r2 rv2 ex
    subst e4
    have e5 := rvs_strs h1
    subst e5
    exact ⟨a, b, ys, rfl, rfl, h2.imp (fun z => z) (fun z => Same.seqT r2.ext z), hl, k _ M2 S2 H2 _ p5 (e2.trans e3) r2 (.dat (.str _))⟩, kx⟩

/-! ### repr -/
mutual
/-- what a value reads as, through what changes -/
inductive RdA (M : Mp) : AV → PyData → Prop
  | dat (d : PyData) : RdA M (.dat d) d
  | tup {xs : List AV} {ds : List PyData} : RdAs M xs ds → RdA M (.tup xs) (.tuple ds)
  | lst {a : Addr} {xs : List AV} {ds : List PyData} : M a = some (.lst xs) → RdAs M xs ds → RdA M (.ref a) (.list ds)
  | dct {a : Addr} {xs : List (Key × AV)} {ds : List PyData} : M a = some (.dct xs) → RdAs M (xs.map (·.2)) ds → RdA M (.ref a) (.dict ((xs.map fun q => keyD q.1).zip ds))
inductive RdAs (M : Mp) : List AV → List PyData → Prop
  | nil : RdAs M [] []
  | cons {x : AV} {xs : List AV} {d : PyData} {ds : List PyData} : RdA M x d → RdAs M xs ds → RdAs M (x :: xs) (d :: ds)
end
theorem rdAs_dats {M : Mp} : ∀ ds : List PyData, RdAs M (ds.map .dat) ds
  | [] => .nil
  | d :: r => .cons (.dat d) (rdAs_dats r)
end
end DL
end
section
set_option Elab.async false
set_option linter.all false
set_option maxRecDepth 100000
set_option maxHeartbeats 2000000
/-! D6: repr of data. -/
namespace DL
open PySem PySem.Spec L2
open PyProof.Rows hiding St

/-- the written part holds sys.modules, a dict -/
def HasSys (K : PySem.W.Frag) : Prop := ∃ o, K.lookup sysModules = some o ∧ o.cls = .type "dict"
section
variable {X : Cx} {pins : List (Addr × Obj)} {σ : L2.St} {H : Hp} {s : Shared} {a : Addr} {u : HO}
theorem notSys (I : Inv X pins σ H s) (hs : HasSys X.K) (h : H a = some u) : a ≠ sysModules := fun z => by
  obtain ⟨o, ho, _⟩ := hs
  have e := (I.bs _ o (I.ok.mod.kin _ _ ho)).2
  rw [← z, h] at e
  cases e
theorem notSysL (I : Inv X pins σ H s) (hs : HasSys X.K) {xs : List V} (h : SqL X.K H a xs) : a ≠ sysModules := by
  rcases h with (h | ⟨_, h⟩) | ⟨o, _, _, h, hc, _⟩
  · exact notSys I hs h
  · exact notSys I hs h
  · intro z
    obtain ⟨o', ho, hc'⟩ := hs
    rw [z, ho] at h
    cases h
    rw [hc'] at hc
    exact absurd hc (by decide)
theorem keys_read {h : Heap} {P : Program} {w : World} : ∀ {es : List DictEntry} {vs : List (Key × Value)} {kvs : List (Key × V)}, Pairs (mixKind P w) es vs → KV kvs vs → ReadsAll h (es.map (·.key)) (kvs.map fun q => keyD q.1) []
  | _, _, _, .nil, .nil => .nil
  | _, _, _, .cons h1 h2 t, .cons ⟨e1, e2⟩ t' => by
    rename_i e kv es kvs0 p l
    have ih := keys_read (h := h) t t'
    have hk : keyIs p.1 e.key = true := by rw [e1]; exact h1
    rcases keyIs_shape hk with ⟨i, tk, q1, q2⟩ | ⟨x, tk, q1, q2⟩
    · refine ReadsAll.cons (as := []) (bs := []) ?_ ih
      show Reads h e.key (keyD p.1) []
      rw [q1, q2]
      exact .int i tk
    · refine ReadsAll.cons (as := []) (bs := []) ?_ ih
      show Reads h e.key (keyD p.1) []
      rw [q1, q2]
      exact .str x tk
theorem vals_of {P : Program} {w : World} : ∀ {es : List DictEntry} {vs : List (Key × Value)} {kvs : List (Key × V)}, Pairs (mixKind P w) es vs → KV kvs vs → Vals (kvs.map (·.2)) (es.map (·.val))
  | _, _, _, .nil, .nil => .nil
  | _, _, _, .cons h1 h2 t, .cons ⟨e1, e2⟩ t' => .cons (by show RelV _ (DictEntry.val _); rw [h2]; exact e2) (vals_of t t')
theorem ddk_keys {K : PySem.W.Frag} {S : Hp} : ∀ {ds : List (PyData × PyData)} {kvs : List (Key × V)}, DDk K S kvs ds → ds.map (·.1) = kvs.map fun q => keyD q.1
  | _, _, .nil => rfl
  | _, _, .cons _ t => congrArg (_ :: ·) (ddk_keys t)
mutual
theorem DD.reads (I : Inv X pins σ H s) (hs : HasSys X.K) {S : Hp} (e : Same S H) : ∀ (d : PyData) (v : V) (u : Value), DD X.K S v d → RelV v u → ∃ as, Reads s.heap u d as ∧ sysModules ∉ as
  | .none, _, _, h, r => by cases h; cases r; exact ⟨_, .none, by simp⟩
  | .bool b, _, _, h, r => by cases h; cases r; exact ⟨_, .bool b, by simp⟩
  | .int i, _, _, h, r => by cases h; obtain ⟨t, rfl⟩ := r; exact ⟨_, .int i t, by simp⟩
  | .str x, _, _, h, r => by cases h; obtain ⟨t, rfl⟩ := r; exact ⟨_, .str x t, by simp⟩
  | .list ds, _, _, h, r => by
    cases h with
    | lst h1 h2 =>
      cases r
      have hl := Same.seq e h1
      obtain ⟨its, rv, ⟨o, n, ho, hc, _, hd⟩, _⟩ := I.list hl
      obtain ⟨as, q, nq⟩ := DDs.reads I hs e ds _ its h2 rv
      refine ⟨_, .list ho hc hd q, fun z => ?_⟩
      rcases List.mem_cons.mp z with z | z
      · exact notSysL I hs hl z.symm
      · exact nq z
  | .tuple ds, _, _, h, r => by
    cases h with
    | tup h1 h2 =>
      cases r
      obtain ⟨its, rv, ⟨o, ho, hc, n, hd⟩, _⟩ := I.tuple (Same.seqT e h1)
      obtain ⟨as, q, nq⟩ := DDs.reads I hs e ds _ its h2 rv
      exact ⟨_, .tuple ho hc hd q, nq⟩
  | .dict ds, _, _, h, r => by
    cases h with
    | dct h1 h2 =>
      cases r
      have hh := e _ _ h1
      obtain ⟨_, _, vs, kv, o, es, ep, ho, hex, hd, _, hp, _⟩ := I.hok _ _ hh
      have q1 := keys_read (h := s.heap) hp kv
      rw [← ddk_keys h2] at q1
      obtain ⟨as, q2, nq⟩ := DDk.reads I hs e ds _ _ h2 (vals_of hp kv)
      refine ⟨_, .dict ho hex.1 hd q1 q2, fun z => ?_⟩
      rcases List.mem_append.mp z with z | z
      · rcases List.mem_cons.mp z with z | z
        · exact notSys I hs hh z.symm
        · cases z
      · exact nq z
theorem DDs.reads (I : Inv X pins σ H s) (hs : HasSys X.K) {S : Hp} (e : Same S H) : ∀ (ds : List PyData) (vs : List V) (us : List Value), DDs X.K S vs ds → Vals vs us → ∃ as, ReadsAll s.heap us ds as ∧ sysModules ∉ as
  | [], _, _, h, r => by cases h; cases r; exact ⟨_, .nil, by simp⟩
  | d :: ds, _, _, h, r => by
    cases h with
    | cons h1 h2 => cases r with
      | cons r1 r2 =>
        obtain ⟨as, q1, n1⟩ := DD.reads I hs e d _ _ h1 r1
        obtain ⟨bs, q2, n2⟩ := DDs.reads I hs e ds _ _ h2 r2
        exact ⟨_, .cons q1 q2, fun z => (List.mem_append.mp z).elim n1 n2⟩
theorem DDk.reads (I : Inv X pins σ H s) (hs : HasSys X.K) {S : Hp} (e : Same S H) : ∀ (ds : List (PyData × PyData)) (vs : List (Key × V)) (us : List Value), DDk X.K S vs ds → Vals (vs.map (·.2)) us → ∃ as, ReadsAll s.heap us (ds.map (·.2)) as ∧ sysModules ∉ as
  | [], _, _, h, r => by cases h; cases r; exact ⟨_, .nil, by simp⟩
  | (k, d) :: ds, _, _, h, r => by
    cases h with
    | cons h1 h2 => cases r with
      | cons r1 r2 =>
        obtain ⟨as, q1, n1⟩ := DD.reads I hs e d _ _ h1 r1
        obtain ⟨bs, q2, n2⟩ := DDk.reads I hs e ds _ _ h2 r2
        exact ⟨_, .cons q1 q2, fun z => (List.mem_append.mp z).elim n1 n2⟩
end
theorem RdAs.len {M : Mp} : ∀ {xs : List AV} {ds : List PyData}, RdAs M xs ds → xs.length = ds.length
  | _, _, .nil => rfl
  | _, _, .cons _ t => congrArg (· + 1) (RdAs.len t)
mutual
theorem RdA.reads (I : Inv X pins σ H s) (hs : HasSys X.K) {S : Hp} {M : Mp} (r : Rp X.K S H M) : ∀ {x : AV} {d : PyData}, RdA M x d → ∀ (v : V) (u : Value), RV X.K S v x → RelV v u → ∃ as, Reads s.heap u d as ∧ sysModules ∉ as
  | _, _, .dat d, v, u, h, ru => by
    cases h with
    | dat h => exact h.reads I hs r.ext d v u ru
  | _, _, .tup q, v, u, h, ru => by
    cases h with
    | tup h1 h2 =>
      cases ru
      obtain ⟨its, rv, ⟨o, ho, hc, n, hd⟩, _⟩ := I.tuple (Same.seqT r.ext h1)
      obtain ⟨as, q1, n1⟩ := RdAs.reads I hs r q _ its h2 rv
      exact ⟨_, .tuple ho hc hd q1, n1⟩
  | _, _, .lst em q, v, u, h, ru => by
    cases h
    cases ru
    obtain ⟨vs, _, h1, h2⟩ := rp_lst r em
    have hl := SqL.of (K := X.K) h1
    obtain ⟨its, rv, ⟨o, n, ho, hc, _, hd⟩, _⟩ := I.list hl
    obtain ⟨as, q1, n1⟩ := RdAs.reads I hs r q _ its h2 rv
    refine ⟨_, .list ho hc hd q1, fun z => ?_⟩
    rcases List.mem_cons.mp z with z | z
    · exact notSysL I hs hl z.symm
    · exact n1 z
  | _, _, .dct (xs := xs) (ds := ds) em q, v, u, h, ru => by
    cases h
    cases ru
    obtain ⟨kvs, _, h1, h2⟩ := rp_dct r em
    obtain ⟨_, _, vs, kv, o, es, ep, ho, hex, hd, _, hp, _⟩ := I.hok _ _ h1
    have q1 := keys_read (h := s.heap) hp kv
    obtain ⟨as, q2, n2⟩ := RdAs.reads I hs r q _ _ h2.2 (vals_of hp kv)
    have l1 : ds.length = xs.length := by
      have := q.len
      simpa using this.symm
    have e1 : ((xs.map fun q => keyD q.1).zip ds).map (·.1) = kvs.map fun q => keyD q.1 := by
      rw [List.map_fst_zip (by simp [l1])]
      have z := congrArg (List.map keyD) h2.1
      rw [List.map_map, List.map_map] at z
      exact z.symm
    have e2 : ((xs.map fun q => keyD q.1).zip ds).map (·.2) = ds := List.map_snd_zip (by simp [l1])
    rw [← e1] at q1
    have q3 : ReadsAll s.heap (es.toList.map (·.val)) (((xs.map fun q => keyD q.1).zip ds).map (·.2)) as := by
      rw [e2]
      exact q2
    refine ⟨_, .dict ho hex.1 hd q1 q3, fun z => ?_⟩
    rcases List.mem_append.mp z with z | z
    · rcases List.mem_cons.mp z with z | z
      · exact notSys I hs h1 z.symm
      · cases z
    · exact n2 z
theorem RdAs.reads (I : Inv X pins σ H s) (hs : HasSys X.K) {S : Hp} {M : Mp} (r : Rp X.K S H M) : ∀ {xs : List AV} {ds : List PyData}, RdAs M xs ds → ∀ (vs : List V) (us : List Value), RVs X.K S vs xs → Vals vs us → ∃ as, ReadsAll s.heap us ds as ∧ sysModules ∉ as
  | _, _, .nil, vs, us, h, ru => by cases h; cases ru; exact ⟨_, .nil, by simp⟩
  | _, _, .cons q1 q2, vs, us, h, ru => by
    cases h with
    | cons h1 h2 => cases ru with
      | cons r1 r2 =>
        obtain ⟨as, a1, n1⟩ := RdA.reads I hs r q1 _ _ h1 r1
        obtain ⟨bs, a2, n2⟩ := RdAs.reads I hs r q2 _ _ h2 r2
        exact ⟨_, .cons a1 a2, fun z => (List.mem_append.mp z).elim n1 n2⟩
end
end
/-- repr(x): what it reads as, shown -/
def wRepr : D1R := fun x M P => ∃ d, RdA M x d ∧ d.showable = true ∧ d.shown.length ≤ sizeLine ∧ d.depth ≤ 64 ∧ P (.dat (.str d.shown)) M
section
variable {X : Cx}
theorem c_repr (hs : HasSys X.K) (hgd : X.A.guards = some []) (hu : X.A.units + 66 < cLine) : CallR X (.builtin "repr") (l1 X.K wRepr) := fun pins s σ H xs us Q I rvs ⟨S, M, v, x, P, e1, r, ra, ⟨d, hd, h1, h2, h3, p⟩, k⟩ => by
  subst e1
  cases rvs with
  | cons rv t =>
    cases t
    rename_i u
    obtain ⟨as, hr, ns⟩ := RdA.reads I hs r hd v u ra rv
    have fin : ∀ (h' : Heap) (tk : Tok) (n : Nat), (∀ b o, s.heap.get? b = some o → h'.get? b = some o) → EP X pins σ Q (.str d.shown tk) { s with heap := h', toks := n } := fun h' tk n hk =>
      ⟨.str d.shown, H, I.kept (t' := n) hk, ⟨_, rfl⟩, k _ M S H _ p (Same.refl S) r (.dat (.str _))⟩
    cases hr with
    | none => exact PySem.P.repr_of_none (by simpa [PyData.shown] using fin s.heap s.toks (s.toks + 1) fun _ _ z => z)
    | bool b => exact PySem.P.repr_of_bool (by simpa [PyData.shown] using fin s.heap s.toks (s.toks + 1) fun _ _ z => z)
    | int i t => exact PySem.P.repr_of_int (by simpa [PyData.showable] using h1) (by simpa [PyData.shown] using fin s.heap s.toks (s.toks + 1) fun _ _ z => z)
    | str z t => exact PySem.P.repr_of_str (by simpa [PyData.shown] using fin s.heap s.toks (s.toks + 1) fun _ _ z => z) (by simpa [PyData.shown] using h2)
    | list a b c e => exact repr_of_reads' (.list a b c e) h1 (fun _ => ns) hgd (by omega) (fun _ _ z => z) (fun h' tk n hk => fin h' tk n hk) h2
    | tuple a b c e => exact repr_of_reads' (.tuple a b c e) h1 (fun _ => ns) hgd (by omega) (fun _ _ z => z) (fun h' tk n hk => fin h' tk n hk) h2
    | dict a b c e f => exact repr_of_reads' (.dict a b c e f) h1 (fun _ => ns) hgd (by omega) (fun _ _ z => z) (fun h' tk n hk => fin h' tk n hk) h2
end
end DL
end
section
set_option Elab.async false
set_option linter.all false
set_option maxRecDepth 100000
set_option maxHeartbeats 4000000
/-! D7: len(set(a list of texts)), any number. -/
namespace DL
open PySem PySem.Spec
open PyProof.Rows hiding St

/-- the texts met first, in order -/
def ddUp (xs : List Str) : List Str := xs.foldl (fun acc x => if acc.any (· == x) then acc else acc ++ [x]) []
theorem ddUp_snoc (xs : List Str) (x : Str) : ddUp (xs ++ [x]) = if (ddUp xs).any (· == x) then ddUp xs else ddUp xs ++ [x] := by
  unfold ddUp
  rw [List.foldl_append]
  rfl
theorem ddUp_len_snoc (xs : List Str) (x : Str) : (ddUp (xs ++ [x])).length = if (ddUp xs).any (· == x) then (ddUp xs).length else (ddUp xs).length + 1 := by
  rw [ddUp_snoc]
  split
  · rfl
  · simp
theorem ddUp_any_snoc (xs : List Str) (x k : Str) : ((ddUp xs).any (· == k) || decide (k = x)) = (ddUp (xs ++ [x])).any (· == k) := by
  rw [ddUp_snoc]
  split
  · rename_i h
    by_cases e : k = x
    · subst e
      simp [h]
    · simp [e]
  · by_cases e : k = x
    · subst e
      simp
    · have e' : (x == k) = false := by simpa [beq_iff_eq] using fun z : x = k => e z.symm
      simp [e, e']
theorem ddUp_le : ∀ (n : Nat) (xs : List Str), xs.length = n → (ddUp xs).length ≤ n
  | 0, xs, h => by
    cases xs with
    | nil => simp [ddUp]
    | cons _ _ => simp at h
  | n + 1, xs, h => by
    obtain ⟨ys, y, e⟩ : ∃ ys y, xs = ys ++ [y] := ⟨xs.dropLast, xs.getLast (by intro z; rw [z] at h; simp at h), (List.dropLast_concat_getLast _).symm⟩
    subst e
    have ih := ddUp_le n ys (by simpa using h)
    rw [ddUp_len_snoc]
    split <;> omega
theorem ddUp_nodup : ∀ (n : Nat) (xs : List Str), xs.length = n → xs.Nodup → ddUp xs = xs
  | 0, xs, h, _ => by
    cases xs with
    | nil => rfl
    | cons _ _ => simp at h
  | n + 1, xs, h, d => by
    obtain ⟨ys, y, e⟩ : ∃ ys y, xs = ys ++ [y] := ⟨xs.dropLast, xs.getLast (by intro z; rw [z] at h; simp at h), (List.dropLast_concat_getLast _).symm⟩
    subst e
    have q := List.nodup_append.mp d
    rw [ddUp_snoc, ddUp_nodup n ys (by simpa using h) q.1]
    rw [if_neg]
    intro z
    obtain ⟨w, hw, e⟩ := List.any_eq_true.mp z
    have e' : w = y := by simpa using e
    subst e'
    exact q.2.2 w hw w (by simp) rfl
section
variable {P : Program} {w : World} {A : Around} {R : Result → Shared → Prop} {I S : Addr} {fp wr : List Addr} {G : Array GenState → Array GenState → Prop} {n : Nat} {PP : Nat → Value → Prop} {ST : Nat → Shared → Prop}
theorem set_turns (W : WalksS P w A.in1 I fp wr G n PP ST) (out : S ∉ fp) (xs : List Str) (hz : xs.length = n) (hn : n < 4000) (hv : ∀ i v, PP i v → ∃ tk, v = .str (xs.getD i Str.empty) tk) :
    ∀ (k i : Nat) (s : Shared), n - i = k → i ≤ n → ST i s → s.heap.SetOf (strKind P w) S (fun y => (ddUp (xs.take i)).any (· == y)) (ddUp (xs.take i)).length →
      (∀ s', Moved (S :: wr) G s s' → s'.heap.SetOf (strKind P w) S (fun y => (ddUp (xs.take n)).any (· == y)) (ddUp (xs.take n)).length → R (.ok (.ret .none)) s') →
      codeAny (model P w) A (.builtin "set.update.loop" ⟨[.ref S, .ref I], []⟩) R s := by
  have h1 : S ∉ wr := fun z => out (W.sub _ z)
  have h2 : ∀ b ∈ wr, b ∈ S :: wr := fun b z => List.mem_cons_of_mem _ z
  intro k
  induction k with
  | zero =>
    intro i s ek hi st hS last
    obtain rfl : i = n := by omega
    refine codeAny_builtin (F.entry_set_update_loop) ?_
    rw [Around.under_plainId (F.plain_set_update_loop) _]
    show wpAny _ A.in1 (pyNext (.ref I) >>= _) _ _ _
    refine wpAny_bind (W.done s _ _ st fun s' mv => ?_)
    show wpAny _ A.in1 (ret Value.none) _ _ _
    refine wpAny_pure (last s' (mv.mono h2) ?_)
    obtain ⟨o, es, ep, tb, q, more⟩ := hS
    exact ⟨o, es, ep, tb, mv.heap S _ h1 q, more⟩
  | succ k ih =>
    intro i s ek hi st hS last
    have lt : i < n := by omega
    have tk1 : xs.take (i + 1) = xs.take i ++ [xs.getD i Str.empty] := by
      have z : i < xs.length := by omega
      rw [List.take_succ_eq_append_getElem z, List.getD_eq_getElem?_getD, List.getElem?_eq_getElem z]
      rfl
    refine codeAny_builtin (F.entry_set_update_loop) ?_
    rw [Around.under_plainId (F.plain_set_update_loop) _]
    show wpAny _ A.in1 (pyNext (.ref I) >>= _) _ _ _
    refine wpAny_bind (W.item i s _ _ lt st fun v s' pv st' mv => ?_)
    obtain ⟨tk, rfl⟩ := hv i v pv
    have hS' : s'.heap.SetOf (strKind P w) S (fun y => (ddUp (xs.take i)).any (· == y)) (ddUp (xs.take i)).length := by
      obtain ⟨o, es, ep, tb, q, more⟩ := hS
      exact ⟨o, es, ep, tb, mv.heap S _ h1 q, more⟩
    have room := ddUp_le i (xs.take i) (by rw [List.length_take]; omega)
    show wpAny _ A.in1 (holding [Value.str (xs.getD i Str.empty) tk] (setAdd S (.str (xs.getD i Str.empty) tk)) >>= _) _ _ _
    refine wpAny_bind (wpAny_holding ?_)
    unfold setAdd
    refine wpAny_holding (wpAny_bind ((strKind P w).pyHash (k := xs.getD i Str.empty) (strKind_is _ _ _ _) ?_))
    refine wpAny_setAddHashed_of (knd := strKind P w) (s := { s' with toks := s'.toks + 1 }) (strKind_is _ _ _ _) rfl hS' (by unfold scanBound; omega) fun g sb g2 => ?_
    have g3 : g.SetOf (strKind P w) S (fun y => (ddUp (xs.take (i + 1))).any (· == y)) (ddUp (xs.take (i + 1))).length := by
      rw [tk1]
      exact SetOf_congr g2 (fun y => ddUp_any_snoc _ _ _) (ddUp_len_snoc _ _).symm
    refine wpAny_pure ⟨plainId_quiet (F.plain_set_update_loop) _, ih (i + 1) _ (by omega) lt (W.frame _ s' _ _ st' (Nat.le_succ _) fun b hb o e => ?_) g3 fun s2 mv2 hS2 => ?_⟩
    · exact (sb.2 b fun z => out (z ▸ hb)).trans e
    · refine last s2 (Moved.trans W.gtrans ((mv.mono h2).then_heap (Nat.le_succ _) fun b o hb e => ?_) mv2) hS2
      exact (sb.2 b fun z => hb (z ▸ List.mem_cons_self)).trans e
end
section
variable {P : Program} {w : World} {A : Around} {E : Value → Shared → Prop} {s : Shared}
/-- set(a list of texts) -/
theorem set_texts {l : Addr} {its : Array Value} {xs : List Str} {Q : Value → Shared → Prop} (hh : A.handled = none) (hl : s.heap.IsList l its) (hi : StrsAre its.toList xs) (hn : xs.length < 4000)
    (h : ∀ (g : Heap) (tk : Nat), g.SetOf (strKind P w) s.heap.objs.size (fun y => (ddUp xs).any (· == y)) (ddUp xs).length →
      (∀ b o, b < s.heap.objs.size → s.heap.get? b = some o → g.get? b = some o) → Q (.ref s.heap.objs.size) { s with heap := g, toks := tk }) : wpAny (model P w) A (call (.type "set") [.ref l]) Q E s := by
  obtain ⟨cc, tl, mr⟩ := PySem.F.called_set.mro
  have f1 := PySem.F.called_set.made
  have f2 := PySem.F.called_set.sub
  have hz : xs.length = its.size := by rw [← StrsAre.len_eq hi, Array.length_toList]
  have full : xs.take its.size = xs := by rw [← hz, List.take_length]
  refine wpAny_call (codeAny_of_tree ?_)
  show wpAny _ _ (callAny (.type "set") _) _ _ _
  refine wpAny_pure ⟨Code.quiet_builtin _ (by decide +kernel), codeAny_builtin (PySem.F.entry_type_call) ?_⟩
  rw [Around.under_plain (weight_type_call_type "set" [.ref l] []) (by rfl)]
  have f3 := PySem.F.called_set.notType
  have f4 := PySem.F.called_set.canCreate
  have f5 := PySem.F.typeCall_set_1 (.ref l)
  repeat (any_goals (first | assumption | wp_step))
  refine codeAny_mono (code_set_new_1 (.ref l) (E := E) (Q₁ := fun ob s1 => ∃ led : Bool, ob = .ref s.heap.objs.size ∧ s1 = { s with heap := s.heap.push { cls := .type "set", dict := none, data := .set #[] 0 (.fresh 0 0 led) } }) fun led => ⟨led, rfl, rfl⟩) fun r s1 hr => ?_
  cases r with
  | error e => exact hr
  | ok fl =>
    cases fl with
    | ret ob =>
      obtain ⟨led, rfl, rfl⟩ := hr
      have hS : (s.heap.push { cls := .type "set", dict := none, data := .set #[] 0 (.fresh 0 0 led) }).get? s.heap.objs.size = some { cls := .type "set", dict := none, data := .set #[] 0 (.fresh 0 0 led) } := Heap.get?_push_size _ (by rfl)
      have hT : Shared.TypeIs { s with heap := s.heap.push { cls := .type "set", dict := none, data := .set #[] 0 (.fresh 0 0 led) } } (.ref s.heap.objs.size) "set" := ⟨_, hS, by rfl⟩
      have f6 := PySem.F.called_set.init.lookup
      have f7 := PySem.F.called_set.init.bind (.ref s.heap.objs.size)
      repeat (any_goals (first | assumption | wp_step))
      refine codeAny_mono (codeAny_call_builtin (R := wants (fun r s2 => r = .none ∧ ∃ g tk, s2 = { s with heap := g, toks := tk } ∧ g.SetOf (strKind P w) s.heap.objs.size (fun y => (ddUp xs).any (· == y)) (ddUp xs).length ∧
          (∀ b o, b < s.heap.objs.size → s.heap.get? b = some o → g.get? b = some o)) E) PySem.F.called_set.init.plain (PySem.F.entry_set_init) (check_set_init_1 hT ?_)) fun r2 s2 hr2 => ?_
      · obtain ⟨ol, e1, e2, nl, e3⟩ := hl
        obtain ⟨oc, od, dt, osl⟩ := ol
        simp only at e2 e3
        subst e2 e3
        have e4 : (s.heap.push { cls := .type "set", dict := none, data := .set #[] 0 (.fresh 0 0 led) }).get? l = some { cls := .type "list", dict := od, data := .seq its nl, slots := osl } := Heap.get?_push_of_some _ e1
        have f8 := PySem.F.sub_list_set
        have f9 := PySem.F.sub_list_frozenset
        have fa : (Value.type "list" == Value.type "dict") = false := by decide
        have il : (s.heap.push { cls := .type "set", dict := none, data := .set #[] 0 (.fresh 0 0 led) }).IsList l its := ⟨_, e4, by rfl, nl, by rfl⟩
        unfold Builtin.«set.__init__» noKeywords Builtin.Frozenset.updateFrom
        generalize hPI : pyIter = PI
        wp_walk
        subst hPI
        refine wpAny_pyIter_list il (wpAny_bind (wpAny_runValue ?_))
        have lS : l < s.heap.objs.size := Heap.lt_size e1
        have hh3 : A.in1.in1.in1.handled = none := by simp [hh]
        have nI : l ≠ (s.heap.push { cls := .type "set", dict := none, data := .set #[] 0 (.fresh 0 0 led) }).objs.size := by
          rw [Heap.size_push]
          exact Nat.ne_of_lt (Nat.lt_succ_of_lt lS)
        have nS : s.heap.objs.size ∉ [(s.heap.push { cls := .type "set", dict := none, data := .set #[] 0 (.fresh 0 0 led) }).objs.size, l] := by
          rw [Heap.size_push]
          simp only [List.mem_cons, List.mem_singleton, List.not_mem_nil, or_false, not_or]
          exact ⟨Nat.ne_of_lt (Nat.lt_succ_self _), Nat.ne_of_gt lS⟩
        have vals : ∀ (i : Nat) (v : Value), its[i]? = some v → ∃ tk, v = .str (xs.getD i Str.empty) tk := fun i v q => SS.strs_at hi i v (by rw [Array.getElem?_toList]; exact q)
        refine set_turns ((Walks.list hh3 _ l nI its).toS) (S := s.heap.objs.size) nS xs hz (by omega) vals (its.size - 0) 0 _ (by omega) (Nat.zero_le _) ⟨⟨_, Heap.get?_push_size _ rfl, rfl, rfl⟩, (il.push _)⟩ ?_ ?_
        · have g0 : ((s.heap.push { cls := .type "set", dict := none, data := .set #[] 0 (.fresh 0 0 led) }).push { cls := .type "list_iterator", data := .fields #[.ref l, .int 0 0] }).get? s.heap.objs.size = some { cls := .type "set", dict := none, data := .set #[] 0 (.fresh 0 0 led) } := Heap.get?_push_of_some _ hS
          exact SetOf_congr ((setObjOf_fresh (knd := strKind P w) led).setOf g0 (by unfold scanBound; omega)) (fun _ => rfl) rfl
        · intro s3 mv hS3
          rw [full] at hS3
          obtain ⟨g, gg, dd, tk, oo⟩ := s3
          have q1 : gg = s.gens := mv.gens
          have q2 : dd = s.drawn := mv.drawn
          have q3 : oo = s.os := mv.os
          subst q1 q2 q3
          show wpAny _ _ _ _ _ _
          refine wpAny_pure ?_
          show wpAny _ _ (ret Value.none) _ _ _
          refine wpAny_pure ⟨rfl, g, tk, rfl, hS3, fun b o hb e => ?_⟩
          refine mv.heap b o ?_ (Heap.get?_push_of_some _ (Heap.get?_push_of_some _ e))
          simp only [List.mem_cons, List.mem_singleton, List.not_mem_nil, or_false, not_or]
          refine ⟨Nat.ne_of_lt hb, ?_⟩
          rw [Heap.size_push]
          exact Nat.ne_of_lt (Nat.lt_succ_of_lt hb)
      · cases r2 with
        | error e => exact hr2
        | ok f2 =>
          cases f2 with
          | ret r =>
            obtain ⟨rfl, g, tk, rfl, hS2, k2⟩ := hr2
            repeat (any_goals (first | assumption | wp_step))
            exact h _ _ hS2 k2
          | _ => exact hr2.elim
    | _ => exact hr.elim
end
open L2
section
variable {X : Cx} {EX : WXc} {a : Expr} {wa : DTE} {p p2 q pos : Pos}
def onStrs (ds : List PyData) (k : List Str → Prop) : Prop := onO (strsOf (ds.map .dat)) k
def wLenSet (wa : DTE) : DTE := fun δ M P R => wa δ M (fun x M1 => onL x fun ds => onStrs ds fun xs => xs.length < 4000 ∧ P (.dat (.int ((ddUp xs).length : Nat))) M1) R
theorem dds_of_strs {K : PySem.W.Frag} {S : Hp} {ds : List PyData} {vs : List V} {xs : List Str} (h : DDs K S vs ds) (e : strsOf (ds.map .dat) = some xs) : vs = xs.map V.str := by
  have z := strsOf_map e
  have q := RVs.of_dat h
  rw [z] at q
  exact rvs_strs q
theorem pe_lenSetT (hc : X.calm = true) (hg : Gl X "len") (hm : X.mg "len" = none) (hg2 : Gl X "set") (hm2 : X.mg "set" = none) {ta : TE} (ha : PE X a ta) (na : starEach [a] X.env = (false, eval a X.env) :: starEach [] X.env) :
    PE X (.Call (.Name "len" p) [.Call (.Name "set" p2) [a] [] q] [] pos) (fun σ H Q => ta σ H fun x H1 => ∃ (l : Addr) (xs : List Str), x = V.ref l ∧ SqL X.K H1 l (xs.map V.str) ∧ xs.length < 4000 ∧ Q (.int (ddUp xs).length) H1) := by
  refine ⟨fun pins s σ H Q I h => ?_⟩
  refine Call_ (ld_blt I hg hm (PySem.boot_len) ?_)
  refine callWith_builtin1 (args_cons ?_ (by rfl)) (by rfl) (by rfl)
  refine Call_ (ld_blt I hg2 hm2 (PyProof.Rows.boot_set) ?_)
  refine callWith_type1 (args_cons (thn (ha.run pins s σ H _ I h) fun v s1 ⟨x, H1, I1, r1, q1⟩ => args_nil ?_) na) na (by rfl)
  obtain ⟨l, xs, rfl, hq, h1, q1⟩ := q1
  cases r1
  obtain ⟨its, r, pl, hz⟩ := I1.list hq
  refine set_texts (I1.ok.hd hc) pl.isList (xs := xs) (by simpa using strsAre_of r) h1 fun g tk hS hk => ?_
  refine args_nil ?_
  have le := ddUp_le _ xs rfl
  obtain ⟨o, es, ep, t, ho, hex, hd, _, _, _, hf, hn⟩ := hS
  have I2 : Inv X pins σ H1 { s1 with heap := g, toks := tk } := I1.kept fun b o e => hk b o (Heap.lt_size e) e
  exact call_len_set ho hex hd hf (by rw [hn]; omega) ⟨.int (ddUp xs).length, H1, I2.tok _, ⟨_, by rw [hn]⟩, q1⟩
theorem de_lenSet (hc : X.calm = true) (hg : Gl X "len") (hm : X.mg "len" = none) (hg2 : Gl X "set") (hm2 : X.mg "set" = none) (ha : DE X EX a wa) (na : starEach [a] X.env = (false, eval a X.env) :: starEach [] X.env := by rfl) :
    DE X EX (.Call (.Name "len" p) [.Call (.Name "set" p2) [a] [] q] [] pos) (wLenSet wa) := pe_imp (pe_lenSetT hc hg hm hg2 hm2 ha na) fun σ H Q ⟨S, M, δ, P, R, r, rs, p, k, kx⟩ =>
  ⟨S, M, δ, _, R, r, rs, p, fun x M1 S1 H1 v p0 e2 r1 rv => by
    obtain ⟨ds, e1, p1⟩ := onL_inv p0
    subst e1
    obtain ⟨xs, e3, l, p2⟩ := onO_inv p1
    obtain ⟨b, vs, e4, h1, h2⟩ := rv_lst rv
    subst e4
    have e5 := dds_of_strs h2 e3
    subst e5
    exact ⟨b, xs, rfl, Same.seq r1.ext h1, l, k _ M1 S1 H1 _ p2 e2 r1 (.dat (.int _))⟩, kx⟩
end
end DL
end
section
set_option Elab.async false
set_option linter.all false
set_option maxRecDepth 100000
set_option maxHeartbeats 2000000
/-! D8: minus, constants of the module, dicts, steps of slices, starred targets, enumerate. -/
namespace DL
open PySem PySem.Spec L2
open PyProof.Rows hiding St

section
variable {X : Cx} {EX : WXc} {a e : Expr} {wa we : DTE} {pos p : Pos}
/-! ### -e, return, constants -/
def wNeg (wa : DTE) : DTE := fun δ M P R => wa δ M (fun x M1 => onI x fun i => P (.dat (.int (-i))) M1) R
theorem de_neg (ha : DE X EX a wa) : DE X EX (.UnaryOp .USub a pos) (wNeg wa) := pe_imp (pe_un un_neg ha) fun σ H Q ⟨S, M, δ, P, R, r, rs, p, k, kx⟩ =>
  ⟨S, M, δ, _, R, r, rs, p, fun x M1 S1 H1 v p0 e1 r1 rv => by
    obtain ⟨i, e2, p1⟩ := onI_inv p0
    subst e2
    exact ⟨i, rv_int rv, k _ M1 S1 H1 _ p1 e1 r1 (.dat (.int _))⟩, kx⟩
/-- a constant of the module -/
structure GC (K : PySem.W.Frag) (mg : Str → Option Value) (x : Str) (d : PyData) : Prop where
  ex : ∃ u v, mg x = some u ∧ RelV v u ∧ ∀ S, DD K S v d
theorem de_g {x : Str} {d : PyData} (G : GC X.K X.mg x d) (hg : Gl X x) (n1 : (x == ("__debug__" : Str)) = false := by decide) : DE X EX (.Name x pos) (wC d) := by
  obtain ⟨u, v, h1, h2, h3⟩ := G.ex
  exact de_c (pe_glob hg h1 h2 n1) h3
/-- a thing of the module, by its place -/
def wRef (a : Addr) : DTE := fun _ M P _ => P (.ref a) M
theorem de_gr {x : Str} {b : Addr} (h : X.mg x = some (.ref b)) (hg : Gl X x) (n1 : (x == ("__debug__" : Str)) = false := by decide) : DE X EX (.Name x pos) (wRef b) :=
  pe_imp (pe_glob (v := .ref b) hg h rfl n1) fun σ H Q ⟨S, M, δ, P, R, r, rs, p, k, _⟩ => k _ M S H (.ref b) p (Same.refl S) r (.ref b)

/-! ### tables of the module -/
def tabGet : List (Str × PyData) → Str → Option PyData
  | [], _ => none
  | (k, d) :: r, z => if k = z then some d else tabGet r z
structure KTab (K : PySem.W.Frag) (w : World) (d : Addr) (kvs : List (Str × PyData)) : Prop where
  at_ : ∃ es n, KDict K w d es n
  val : ∀ z, (tabGet kvs z = none ∧ PySem.W.nsIn K d z = some none) ∨ ∃ x u v, tabGet kvs z = some x ∧ PySem.W.nsIn K d z = some (some u) ∧ RelV v u ∧ ∀ S, DD K S v x
def wInTab (n : Bool) (kvs : List (Str × PyData)) (wa : DTE) : DTE := fun δ M P R => wa δ M (fun x M1 => onS x fun z => P (.dat (.bool (n != (tabGet kvs z).isSome))) M1) R
theorem tab_in {d : Addr} {kvs : List (Str × PyData)} {z : Str} (T : KTab X.K X.w d kvs) : ∃ r, PySem.W.nsIn X.K d z = some r ∧ r.isSome = (tabGet kvs z).isSome := by
  rcases T.val z with ⟨h1, h2⟩ | ⟨x, u, v, h1, h2, _, _⟩
  · exact ⟨_, h2, by rw [h1]; rfl⟩
  · exact ⟨_, h2, by rw [h1]; rfl⟩
theorem de_inTab {x : Str} {p2 : Pos} {d : Addr} {kvs : List (Str × PyData)} (T : KTab X.K X.w d kvs) (h : X.mg x = some (.ref d)) (hg : Gl X x) (ha : DE X EX a wa) (n1 : (x == ("__debug__" : Str)) = false := by decide) :
    DE X EX (.Compare a [.In] [.Name x p2] pos) (wInTab false kvs wa) := by
  obtain ⟨es, n, D⟩ := T.at_
  exact pe_imp (pe_cmpR (op_in_kd D) ha (pe_glob (v := .ref d) hg h rfl n1) (by rfl)) fun σ H Q ⟨S, M, δ, P, R, r, rs, p, k, kx⟩ =>
    ⟨S, M, δ, _, R, r, rs, p, fun y M1 S1 H1 v p0 e1 r1 rv => by
      obtain ⟨z, e2, p1⟩ := onS_inv p0
      subst e2
      obtain ⟨q, h1, h2⟩ := tab_in (z := z) T
      refine ⟨z, q, rv_str rv, rfl, h1, ?_⟩
      rw [h2]
      have p2 : P (.dat (.bool (tabGet kvs z).isSome)) M1 := by cases hq : (tabGet kvs z).isSome <;> rw [hq] at p1 <;> exact p1
      exact k _ M1 S1 H1 _ p2 e1 r1 (.dat (.bl _)), kx⟩
theorem de_notInTab {x : Str} {p2 : Pos} {d : Addr} {kvs : List (Str × PyData)} (T : KTab X.K X.w d kvs) (h : X.mg x = some (.ref d)) (hg : Gl X x) (ha : DE X EX a wa) (n1 : (x == ("__debug__" : Str)) = false := by decide) :
    DE X EX (.Compare a [.NotIn] [.Name x p2] pos) (wInTab true kvs wa) := by
  obtain ⟨es, n, D⟩ := T.at_
  exact pe_imp (pe_cmpR (op_notIn_kd D) ha (pe_glob (v := .ref d) hg h rfl n1) (by rfl)) fun σ H Q ⟨S, M, δ, P, R, r, rs, p, k, kx⟩ =>
    ⟨S, M, δ, _, R, r, rs, p, fun y M1 S1 H1 v p0 e1 r1 rv => by
      obtain ⟨z, e2, p1⟩ := onS_inv p0
      subst e2
      obtain ⟨q, h1, h2⟩ := tab_in (z := z) T
      refine ⟨z, q, rv_str rv, rfl, h1, ?_⟩
      rw [h2]
      have p2 : P (.dat (.bool (!(tabGet kvs z).isSome))) M1 := by cases hq : (tabGet kvs z).isSome <;> rw [hq] at p1 <;> exact p1
      exact k _ M1 S1 H1 _ p2 e1 r1 (.dat (.bl _)), kx⟩
def wTab (kvs : List (Str × PyData)) (wa : DTE) : DTE := fun δ M P R => wa δ M (fun x M1 => onS x fun z => onO (tabGet kvs z) fun d => P (.dat d) M1) R
theorem de_tab {x : Str} {p2 : Pos} {d : Addr} {kvs : List (Str × PyData)} (T : KTab X.K X.w d kvs) (h : X.mg x = some (.ref d)) (hg : Gl X x) (ha : DE X EX a wa) (hs : NoSl a) (n1 : (x == ("__debug__" : Str)) = false := by decide) :
    DE X EX (.Subscript (.Name x p2) a pos) (wTab kvs wa) := by
  obtain ⟨es, n, D⟩ := T.at_
  refine pe_imp (t := fun σ H Q => lE X.K EX wa σ H fun y H1 => ∃ (z : Str) (u0 : Value) (v0 : V), y = .str z ∧ PySem.W.nsIn X.K d z = some (some u0) ∧ RelV v0 u0 ∧ Q v0 H1) ⟨fun pins s σ H Q I q => ?_⟩ fun σ H Q ⟨S, M, δ, P, R, r, rs, p, k, kx⟩ =>
    ⟨S, M, δ, _, R, r, rs, p, fun y M1 S1 H1 v p0 e1 r1 rv => by
      obtain ⟨z, e2, p1⟩ := onS_inv p0
      obtain ⟨x, e3, p2⟩ := onO_inv p1
      subst e2
      rcases T.val z with ⟨h1, _⟩ | ⟨x', u, v', h1, h2, h3, h4⟩
      · rw [h1] at e3
        cases e3
      · rw [h1] at e3
        cases e3
        exact ⟨z, u, v', rv_str rv, h2, h3, k _ M1 S1 H1 _ p2 e1 r1 (.dat (h4 S1))⟩, kx⟩
  refine subD_of PySem.F.slot_dict_getitem.lookup hs (thn ((pe_glob (v := V.ref d) hg h rfl n1).run pins s σ H _ I (show tC (V.ref d) σ H (fun x H' => x = .ref d ∧ lE X.K EX wa σ H' fun y H1 => ∃ (z : Str) (u0 : Value) (v0 : V), y = .str z ∧ PySem.W.nsIn X.K d z = some (some u0) ∧ RelV v0 u0 ∧ Q v0 H1) from ⟨rfl, q⟩)) fun u s1 ⟨x, H1, I1, rx, ex, q1⟩ => thn (ha.run pins s1 σ H1 _ I1 q1) fun iv s2 ⟨y, H2, I2, ry, z, u0, v0, ey, h1, h2, q2⟩ => ?_)
  subst ex ey
  cases rx
  exact ⟨kd_type D I2, op_item_kd D pins s2 σ H2 (.ref d) (.str z) (.ref d) iv Q I2 rfl ry ⟨z, u0, v0, rfl, rfl, h1, h2, q2⟩⟩
end
end DL
end
section
set_option Elab.async false
set_option linter.all false
set_option maxRecDepth 100000
set_option maxHeartbeats 2000000
/-! D9: dicts of the def's own; t[::-1]; starred targets; enumerate. -/
namespace DL
open PySem PySem.Spec L2
open PyProof.Rows hiding St

/-! ### dicts -/
def keyA : AV → Option Key
  | .dat (.int i) => some (.inl i)
  | .dat (.str z) => some (.inr z)
  | _ => none
theorem keyA_v {K : PySem.W.Frag} {S : Hp} {v : V} {x : AV} {k : Key} (h : RV K S v x) (e : keyA x = some k) : v = kV k := by
  unfold keyA at e
  split at e
  · cases e
    exact rv_int h
  · cases e
    exact rv_str h
  · cases e
def kvsOf : List (AV × AV) → Option (List (Key × AV))
  | [] => some []
  | (x, y) :: r => match keyA x, kvsOf r with
    | some k, some l => some ((k, y) :: l)
    | _, _ => none
def dGet : List (PyData × PyData) → Key → Option PyData
  | [], _ => none
  | (d, v) :: r, k => if keyA (.dat d) = some k then some v else dGet r k
def mGet : List (Key × AV) → Key → Option AV
  | [], _ => none
  | (d, v) :: r, k => if d = k then some v else mGet r k
theorem keyA_keyD (k : Key) : keyA (.dat (keyD k)) = some k := by
  cases k <;> rfl
theorem valV_cons (q : Key × V) (r : List (Key × V)) (k : Key) : valV (q :: r) k = if q.1 = k then some q.2 else valV r k := by
  unfold valV
  rw [List.find?_cons]
  by_cases e : q.1 = k
  · simp [e]
  · simp [e]
theorem ddk_get {K : PySem.W.Frag} {S : Hp} {k : Key} : ∀ {ds : List (PyData × PyData)} {kvs : List (Key × V)}, DDk K S kvs ds → (valV kvs k = none ∧ dGet ds k = none) ∨ ∃ v d, valV kvs k = some v ∧ dGet ds k = some d ∧ DD K S v d
  | _, _, .nil => .inl ⟨rfl, rfl⟩
  | _, _, .cons (k := k') h t => by
    rw [valV_cons]
    unfold dGet
    rw [keyA_keyD]
    by_cases e : k' = k
    · subst e
      exact .inr ⟨_, _, if_pos rfl, if_pos rfl, h⟩
    · rw [if_neg e, if_neg (fun z => e (Option.some.inj z))]
      exact ddk_get t
theorem rks_get {K : PySem.W.Frag} {S : Hp} {k : Key} : ∀ {xs : List (Key × AV)} {kvs : List (Key × V)}, RKs K S kvs xs → (valV kvs k = none ∧ mGet xs k = none) ∨ ∃ v d, valV kvs k = some v ∧ mGet xs k = some d ∧ RV K S v d
  | [], [], _ => .inl ⟨rfl, rfl⟩
  | [], _ :: _, h => by have := h.1; simp at this
  | _ :: _, [], h => by have := h.1; simp at this
  | (k1, x) :: xs, (k2, v) :: kvs, h => by
    have h1 := h.1
    simp only [List.map_cons, List.cons.injEq] at h1
    have h2 := h.2
    simp only [List.map_cons] at h2
    cases h2 with
    | cons q t =>
      rw [valV_cons]
      unfold mGet
      rw [h1.1]
      dsimp only
      by_cases e : k1 = k
      · exact .inr ⟨_, _, if_pos e, if_pos e, q⟩
      · rw [if_neg e, if_neg e]
        exact rks_get ⟨h1.2, t⟩
/-- what stands at a key -/
def getD (M : Mp) : AV → Key → Option (Option AV)
  | .dat (.dict ds), k => some ((dGet ds k).map .dat)
  | .ref a, k => match M a with
    | some (.dct kvs) => some (mGet kvs k)
    | _ => none
  | _, _ => none
theorem getD_of {K : PySem.W.Frag} {S H : Hp} {M : Mp} {v : V} {x : AV} {k : Key} {o : Option AV} (r : Rp K S H M) (h : RV K S v x) (e : getD M x k = some o) :
    ∃ a w, v = .ref a ∧ DGet H a (kV k) w ∧ (o = none ∧ w = none ∨ ∃ y u, o = some y ∧ w = some u ∧ RV K S u y) := by
  cases h with
  | dat hd =>
    cases hd with
    | dct h1 h2 =>
      cases e
      refine ⟨_, _, rfl, DGet.k (r.ext _ _ h1), ?_⟩
      rcases ddk_get (k := k) h2 with ⟨q1, q2⟩ | ⟨u, d, q1, q2, q3⟩
      · exact .inl ⟨by rw [q2]; rfl, q1⟩
      · exact .inr ⟨.dat d, u, by rw [q2]; rfl, q1, .dat q3⟩
    | non => cases e
    | bl _ => cases e
    | int _ => cases e
    | str _ => cases e
    | lst _ _ => cases e
    | tup _ _ => cases e
  | tup _ _ => cases e
  | ref a =>
    cases e3 : M a with
    | none =>
      simp only [getD, e3] at e
      cases e
    | some q =>
      cases q with
      | dct kvs =>
        simp only [getD, e3] at e
        cases e
        obtain ⟨vs, _, h1, h2⟩ := rp_dct r e3
        refine ⟨a, _, rfl, DGet.k h1, ?_⟩
        rcases rks_get (k := k) h2 with ⟨q1, q2⟩ | ⟨u, d, q1, q2, q3⟩
        · exact .inl ⟨q2, q1⟩
        · exact .inr ⟨d, u, q2, q1, q3⟩
      | lst _ =>
        simp only [getD, e3] at e
        cases e
      | ins _ _ _ =>
        simp only [getD, e3] at e
        cases e
      | exc _ _ _ =>
        simp only [getD, e3] at e
        cases e
      | raw _ =>
        simp only [getD, e3] at e
        cases e
section
variable {X : Cx} {EX : WXc} {a b e : Expr} {es : List Expr} {wa wb we : DTE} {w : DTA} {pos p : Pos}
def wInD (n : Bool) (wa wb : DTE) : DTE := fun δ M P R => wa δ M (fun x M1 => wb δ M1 (fun y M2 => onO (keyA x) fun k => onO (getD M2 y k) fun o => P (.dat (.bool (n != o.isSome))) M2) R) R
theorem de_inD (hu : X.A.units + 64 < cLine) (ha : DE X EX a wa) (hb : DE X EX b wb) (h1 : behindInMarks .In b = false) : DE X EX (.Compare a [.In] [b] pos) (wInD false wa wb) :=
  pe_imp (pe_cmp (pc_din (by omega) ha hb) h1) fun σ H Q ⟨S, M, δ, P, R, r, rs, p, k, kx⟩ =>
  ⟨S, M, δ, _, R, r, rs, p, fun x M1 S1 H1 v p1 e1 r1 rv => ⟨S1, M1, δ, _, R, r1, rs.mono e1, p1, fun y M2 S2 H2 u p2 e2 r2 rv2 => by
    obtain ⟨kk, ek, p3⟩ := onO_inv p2
    obtain ⟨o, eo, p4⟩ := onO_inv p3
    obtain ⟨ad, w, ed, g, c⟩ := getD_of r2 rv2 eo
    rw [keyA_v rv ek]
    have z : w.isSome = o.isSome := by
      rcases c with ⟨c1, c2⟩ | ⟨_, _, c1, c2, _⟩
      · rw [c1, c2]; rfl
      · rw [c1, c2]; rfl
    refine ⟨ad, w, ed, g, ?_⟩
    rw [z]
    have p5 : P (.dat (.bool o.isSome)) M2 := by cases hq : o.isSome <;> rw [hq] at p4 <;> exact p4
    exact k _ M2 S2 H2 _ p5 (e1.trans e2) r2 (.dat (.bl _)), kx.mono e1⟩, kx⟩
theorem de_notInD (hu : X.A.units + 64 < cLine) (ha : DE X EX a wa) (hb : DE X EX b wb) (h1 : behindInMarks .NotIn b = false) : DE X EX (.Compare a [.NotIn] [b] pos) (wInD true wa wb) :=
  pe_imp (pe_cmp (pc_dnotin (by omega) ha hb) h1) fun σ H Q ⟨S, M, δ, P, R, r, rs, p, k, kx⟩ =>
  ⟨S, M, δ, _, R, r, rs, p, fun x M1 S1 H1 v p1 e1 r1 rv => ⟨S1, M1, δ, _, R, r1, rs.mono e1, p1, fun y M2 S2 H2 u p2 e2 r2 rv2 => by
    obtain ⟨kk, ek, p3⟩ := onO_inv p2
    obtain ⟨o, eo, p4⟩ := onO_inv p3
    obtain ⟨ad, w, ed, g, c⟩ := getD_of r2 rv2 eo
    rw [keyA_v rv ek]
    have z : w.isSome = o.isSome := by
      rcases c with ⟨c1, c2⟩ | ⟨_, _, c1, c2, _⟩
      · rw [c1, c2]; rfl
      · rw [c1, c2]; rfl
    refine ⟨ad, w, ed, g, ?_⟩
    rw [z]
    have p5 : P (.dat (.bool (!o.isSome))) M2 := by cases hq : o.isSome <;> rw [hq] at p4 <;> exact p4
    exact k _ M2 S2 H2 _ p5 (e1.trans e2) r2 (.dat (.bl _)), kx.mono e1⟩, kx⟩
def wIxD (wa wb : DTE) : DTE := fun δ M P R => wa δ M (fun x M1 => wb δ M1 (fun y M2 => onO (keyA y) fun k => onO (getD M2 x k) fun o => onO o fun z => P z M2) R) R
theorem de_ixD (hu : X.A.units + 64 < cLine) (ha : DE X EX a wa) (hb : DE X EX b wb) (hs : NoSl b) : DE X EX (.Subscript a b pos) (wIxD wa wb) :=
  pe_imp (pe_dget (by omega) ha hb hs) fun σ H Q ⟨S, M, δ, P, R, r, rs, p, k, kx⟩ =>
  ⟨S, M, δ, _, R, r, rs, p, fun x M1 S1 H1 v p1 e1 r1 rv => ⟨S1, M1, δ, _, R, r1, rs.mono e1, p1, fun y M2 S2 H2 u p2 e2 r2 rv2 => by
    obtain ⟨kk, ek, p3⟩ := onO_inv p2
    obtain ⟨o, eo, p4⟩ := onO_inv p3
    obtain ⟨z, ez, p5⟩ := onO_inv p4
    subst ez
    obtain ⟨ad, w, ed, g, c⟩ := getD_of r2 (rv.mono e2) eo
    rcases c with ⟨c1, _⟩ | ⟨y', u', c1, c2, c3⟩
    · cases c1
    · cases c1
      subst c2
      rw [keyA_v rv2 ek]
      exact ⟨ad, u', ed, g, k _ M2 S2 H2 _ p5 (e1.trans e2) r2 c3⟩, kx.mono e1⟩, kx⟩
/-! displays -/
abbrev DTP := DSt → Mp → (List (AV × AV) → Mp → Prop) → DXK → Prop
def wPairs : List (DTE × DTE) → DTP
  | [], _, M, P, _ => P [] M
  | (wk, wv) :: r, δ, M, P, R => wk δ M (fun x M1 => wv δ M1 (fun y M2 => wPairs r δ M2 (fun ps M3 => P ((x, y) :: ps) M3) R) R) R
def DPs (X : Cx) (EX : WXc) (pos : Pos) (ks : List (Option Expr)) (vs : List Expr) (ws : List (DTE × DTE)) : Prop := PPs X pos ks vs (ws.map fun q => (lE X.K EX q.1, lE X.K EX q.2))
theorem dps_nil : DPs X EX pos [] [] [] := pps_nil
theorem dps_cons {k v : Expr} {ks : List (Option Expr)} {vs : List Expr} {wk wv : DTE} {ws : List (DTE × DTE)} (hk : DE X EX k wk) (hv : DE X EX v wv) (h : DPs X EX pos ks vs ws) : DPs X EX pos (some k :: ks) (v :: vs) ((wk, wv) :: ws) := pps_cons hk hv h
inductive RPs (K : PySem.W.Frag) (S : Hp) : List (V × V) → List (AV × AV) → Prop
  | nil : RPs K S [] []
  | cons {v u : V} {x y : AV} {vs : List (V × V)} {xs : List (AV × AV)} : RV K S v x → RV K S u y → RPs K S vs xs → RPs K S ((v, u) :: vs) ((x, y) :: xs)
theorem pairs_l {K : PySem.W.Frag} : ∀ {ws : List (DTE × DTE)} {σ : L2.St} {δ : DSt} {S H : Hp} {M : Mp} {P : List (AV × AV) → Mp → Prop} {R : DXK} {Q : List (V × V) → Hp → Prop}, Rp K S H M → RSl K S σ δ → wPairs ws δ M P R →
    (∀ xs M' S' H' vs, P xs M' → Same S S' → Rp K S' H' M' → RPs K S' vs xs → Q vs H') → ToX K S R (fun c d H' => EX c d σ H') → tPairs (ws.map fun q => (lE K EX q.1, lE K EX q.2)) σ H Q
  | [], σ, δ, S, H, M, P, R, Q, r, rs, p, k, kx => k [] M S H [] p (Same.refl S) r .nil
  | (wk, wv) :: ws, σ, δ, S, H, M, P, R, Q, r, rs, p, k, kx =>
    ⟨S, M, δ, _, R, r, rs, p, fun x M1 S1 H1 v p1 e1 r1 rv1 => ⟨S1, M1, δ, _, R, r1, rs.mono e1, p1, fun y M2 S2 H2 u p2 e2 r2 rv2 =>
      pairs_l r2 (rs.mono (e1.trans e2)) p2 (fun xs M3 S3 H3 vs p3 e3 r3 rp => k _ M3 S3 H3 _ p3 ((e1.trans e2).trans e3) r3 (.cons (rv1.mono (e2.trans e3)) (rv2.mono e3) rp)) (kx.mono (e1.trans e2)), kx.mono e1⟩, kx⟩
theorem kvs_of {K : PySem.W.Frag} {S : Hp} : ∀ {xs : List (AV × AV)} {vs : List (V × V)} {l : List (Key × AV)}, RPs K S vs xs → kvsOf xs = some l → ∃ kvs : List (Key × V), vs = kvs.map (fun kv => (kV kv.1, kv.2)) ∧ RKs K S kvs l
  | _, _, _, .nil, e => by
    cases e
    exact ⟨[], rfl, rfl, .nil⟩
  | (x, y) :: xs, _, l, .cons (u := u) h1 h2 t, e => by
    unfold kvsOf at e
    split at e
    · rename_i k r' e1 e2
      cases e
      obtain ⟨kvs, q1, q2⟩ := kvs_of t e2
      exact ⟨(k, u) :: kvs, by rw [q1, keyA_v h1 e1]; rfl, by simp [q2.1], .cons h2 q2.2⟩
    · cases e
theorem mergeK_nodup : ∀ {more kvs : List (Key × V)}, ((kvs ++ more).map (·.1)).Nodup → mergeK kvs more = kvs ++ more
  | [], kvs, _ => by simp [mergeK]
  | q :: r, kvs, h => by
    have e : putK kvs q.1 q.2 = kvs ++ [q] := by
      unfold putK
      rw [if_neg]
      intro z
      obtain ⟨w, hw, e⟩ := List.any_eq_true.mp z
      have e' : w.1 = q.1 := by simpa using e
      rw [List.map_append, List.nodup_append] at h
      exact h.2.2 w.1 (List.mem_map_of_mem hw) q.1 (by simp) e'
    show mergeK (putK kvs q.1 q.2) r = _
    rw [e, mergeK_nodup (by simpa using h)]
    simp
theorem RKs.length {K : PySem.W.Frag} {S : Hp} {vs : List (Key × V)} {xs : List (Key × AV)} (h : RKs K S vs xs) : vs.length = xs.length := by
  have := congrArg List.length h.1
  simpa using this
/-- a dict that changes -/
def wDctM (ws : List (DTE × DTE)) : DTE := fun δ M P R => ∀ q, M q = none → wPairs ws δ (um M q (.dct [])) (fun ps M1 => M1 q = some (.dct []) ∧ onO (kvsOf ps) fun l => l.length ≤ 15 ∧ (l.map (·.1)).Nodup ∧ P (.ref q) (um M1 q (.dct l))) R
theorem de_dctM {ks : List (Option Expr)} {vs : List Expr} {ws : List (DTE × DTE)} (h : DPs X EX pos ks vs ws) (hall : ks.all (·.isSome) = true := by rfl) (hl : ks.length = vs.length := by rfl) (h0 : ks ≠ [] := by intro z; cases z) (h15 : ks.length ≤ 15 := by decide) :
    DE X EX (.Dict ks vs pos) (wDctM ws) := pe_imp (pe_disp h hall hl h0 h15) fun σ H Q ⟨S, M, δ, P, R, r, rs, p, k, kx⟩ q hq =>
  pairs_l (r.alloc hq (.dK []) (.dct upd_same ⟨rfl, .nil⟩)) rs (p q (r.fresh hq)) (fun xs M1 S1 H1 us ⟨e0, p0⟩ e1 r1 rp => by
    obtain ⟨l, el, l15, nd, p1⟩ := onO_inv p0
    obtain ⟨kvs, q1, q2⟩ := kvs_of rp el
    obtain ⟨zs, sq, a1, a2⟩ := rp_dct r1 e0
    have ez : zs = [] := by
      cases zs with
      | nil => rfl
      | cons _ _ => have := a2.length; simp at this
    subst ez
    have ln := q2.length
    have em : mergeK [] kvs = kvs := mergeK_nodup (by rw [List.nil_append, q2.1]; exact nd)
    refine ⟨a1, kvs, q1, by omega, ?_⟩
    rw [em]
    exact k _ _ S1 _ _ p1 e1 (r1.put sq (solo_dK a1) _ (.dct upd_same q2)) (.ref q)) kx
theorem de_dct0M : DE X EX (.Dict [] [] pos) (fun δ M P _ => ∀ q, M q = none → P (.ref q) (um M q (.dct []))) := pe_imp pe_dnewK fun σ H Q ⟨S, M, δ, P, R, r, rs, p, k, kx⟩ q hq =>
  k _ _ S _ _ (p q (r.fresh hq)) (Same.refl S) (r.alloc hq _ (.dct upd_same ⟨rfl, .nil⟩)) (.ref q)
/-- a dict that nobody changes -/
def datKs : List (Key × AV) → Option (List (PyData × PyData))
  | [] => some []
  | (k, .dat d) :: r => (datKs r).map ((keyD k, d) :: ·)
  | _ => none
theorem datKs_of {K : PySem.W.Frag} {S : Hp} : ∀ {l : List (Key × AV)} {ds : List (PyData × PyData)} {kvs : List (Key × V)}, datKs l = some ds → RKs K S kvs l → DDk K S kvs ds
  | [], _, [], e, _ => by cases e; exact .nil
  | [], _, _ :: _, _, h => by have := h.length; simp at this
  | _ :: _, _, [], _, h => by have := h.length; simp at this
  | (k, x) :: l, _, (k', v) :: kvs, e, h => by
    cases x with
    | ref _ => cases e
    | tup _ => cases e
    | dat d =>
      obtain ⟨es, q1, q2⟩ := Option.map_eq_some_iff.mp (show (datKs l).map ((keyD k, d) :: ·) = some _ from e)
      subst q2
      have h1 := h.1
      simp only [List.map_cons, List.cons.injEq] at h1
      have h2 := h.2
      simp only [List.map_cons] at h2
      cases h2 with
      | cons a1 a2 =>
        cases a1 with
        | dat a1 =>
          have e1 : k' = k := h1.1
          subst e1
          exact .cons a1 (datKs_of q1 ⟨h1.2, a2⟩)
/-- D, a changing dict, becomes a datum -/
theorem Rp.freezeD {K : PySem.W.Frag} {S H : Hp} {M : Mp} {D : Addr} {l : List (Key × AV)} {ds : List (PyData × PyData)} (r : Rp K S H M) (h : M D = some (.dct l)) (hd : datKs l = some ds) : ∃ S', Same S S' ∧ Rp K S' H (dm M D) ∧ DD K S' (.ref D) (.dict ds) := by
  obtain ⟨kvs, sD, h1, h2⟩ := rp_dct r h
  have e := Same.new (o := .dK kvs) sD
  have up : ∀ a C dx fs, dm M D a = some (.exc C dx fs) → M a = some (.exc C dx fs) := fun a C dx fs z => by
    unfold dm at z
    split at z
    · cases z
    · exact z
  refine ⟨upd S D (.dK kvs), e, ⟨fun b v q => ?_, fun a o q => ?_, fun a b C C' dx fs fs' z z' => r.sep a b C C' dx fs fs' (up _ _ _ _ z) (up _ _ _ _ z')⟩, .dct upd_same (DDk.mono e (datKs_of hd h2))⟩
  · by_cases hb : b = D
    · subst hb
      rw [upd_same] at q
      cases q
      exact h1
    · rw [upd_ne hb] at q
      exact r.ext b v q
  · have ha : a ≠ D := fun z => by
      rw [z] at q
      have : dm M D D = none := if_pos rfl
      rw [this] at q
      cases q
    have q' : M a = some o := by
      have z : dm M D a = M a := if_neg ha
      rw [z] at q
      exact q
    obtain ⟨s1, g1⟩ := r.mo a o q'
    refine ⟨by rw [upd_ne ha]; exact s1, ?_⟩
    cases g1 with
    | lst a1 a2 => exact .lst a1 (a2.mono e)
    | dct a1 a2 => exact .dct a1 ⟨a2.1, a2.2.mono e⟩
    | ins a1 a2 a3 a4 =>
      refine .ins a1 a2 ?_ ⟨a4.1, a4.2.mono e⟩
      rw [upd_ne (fun z => (solo_dK h1).1 _ (z ▸ a2))]
      exact a3
    | exc a1 a2 a3 a4 =>
      refine .exc a1 a2 ?_ ⟨a4.1, a4.2.mono e⟩
      rw [upd_ne (fun z => (solo_dK h1).2 _ (z ▸ a2))]
      exact a3
    | raw a1 => exact .raw a1
/-- every pair's wish is a constant -/
def cPairs : List (PyData × PyData) → List (DTE × DTE)
  | [] => []
  | (a, b) :: r => (wC a, wC b) :: cPairs r
def wDct (ds : List (PyData × PyData)) : DTE := fun _ M P _ => P (.dat (.dict ds)) M
theorem wPairs_c {δ : DSt} {R : DXK} : ∀ {ds : List (PyData × PyData)} {M : Mp} {P : List (AV × AV) → Mp → Prop}, P (ds.map fun q => (.dat q.1, .dat q.2)) M → wPairs (cPairs ds) δ M P R
  | [], _, _, h => h
  | (a, b) :: r, M, P, h => wPairs_c (ds := r) (P := fun ps M3 => P ((.dat a, .dat b) :: ps) M3) h
def keysD : List (PyData × PyData) → Option (List (Key × PyData))
  | [] => some []
  | (a, b) :: r => match keyA (.dat a), keysD r with
    | some k, some l => some ((k, b) :: l)
    | _, _ => none
theorem keysD_of : ∀ {ds : List (PyData × PyData)} {l : List (Key × PyData)}, keysD ds = some l → kvsOf (ds.map fun q => (.dat q.1, .dat q.2)) = some (l.map fun q => (q.1, .dat q.2)) ∧ datKs (l.map fun q => (q.1, .dat q.2)) = some ds
  | [], _, e => by cases e; exact ⟨rfl, rfl⟩
  | (a, b) :: r, l, e => by
    unfold keysD at e
    split at e
    · rename_i k l' e1 e2
      cases e
      obtain ⟨q1, q2⟩ := keysD_of e2
      refine ⟨?_, ?_⟩
      · show kvsOf ((.dat a, .dat b) :: r.map fun q => (.dat q.1, .dat q.2)) = _
        unfold kvsOf
        rw [e1, q1]
        rfl
      · show (datKs (l'.map fun q => (q.1, .dat q.2))).map _ = _
        rw [q2]
        have : keyD k = a := by
          unfold keyA at e1
          split at e1
          · rename_i z; cases z; cases e1; rfl
          · rename_i z; cases z; cases e1; rfl
          · cases e1
        rw [this]
        rfl
    · cases e
theorem de_dct {ks : List (Option Expr)} {vs : List Expr} {ds : List (PyData × PyData)} {l : List (Key × PyData)} (h : DPs X EX pos ks vs (cPairs ds)) (hk : keysD ds = some l := by rfl) (nd : (l.map (·.1)).Nodup := by decide) (h15' : l.length ≤ 15 := by decide)
    (hall : ks.all (·.isSome) = true := by rfl) (hl : ks.length = vs.length := by rfl) (h0 : ks ≠ [] := by intro z; cases z) (h15 : ks.length ≤ 15 := by decide) :
    DE X EX (.Dict ks vs pos) (wDct ds) := pe_imp (pe_disp h hall hl h0 h15) fun σ H Q ⟨S, M, δ, P, R, r, rs, p, k, kx⟩ q hq =>
  pairs_l (P := fun xs M1 => xs = ds.map (fun q => (.dat q.1, .dat q.2)) ∧ M1 = um M q (.dct [])) (r.alloc hq (.dK []) (.dct upd_same ⟨rfl, .nil⟩)) rs (wPairs_c ⟨rfl, rfl⟩) (fun xs M1 S1 H1 us ⟨e0, em1⟩ e1 r1 rp => by
    obtain ⟨k1, k2⟩ := keysD_of hk
    subst e0 em1
    obtain ⟨kvs, q1, q2⟩ := kvs_of rp k1
    obtain ⟨zs, sq, a1, a2⟩ := rp_dct r1 um_same
    have ez : zs = [] := by
      cases zs with
      | nil => rfl
      | cons _ _ => have := a2.length; simp at this
    subst ez
    have ln := q2.length
    rw [List.length_map] at ln
    have em : mergeK [] kvs = kvs := mergeK_nodup (by
      rw [List.nil_append, q2.1, List.map_map]
      exact nd)
    refine ⟨a1, kvs, q1, by omega, ?_⟩
    rw [em]
    have r2 := r1.put sq (solo_dK a1) (.dK kvs) (.dct upd_same q2)
    obtain ⟨S2, e2, r3, d3⟩ := r2.freezeD um_same k2
    rw [um_um, dm_um (r.fresh hq)] at r3
    exact k _ M S2 _ _ p (e1.trans e2) r3 (.dat d3)) kx
theorem de_dct0 : DE X EX (.Dict [] [] pos) (wDct []) := pe_imp pe_dnewK fun σ H Q ⟨S, M, δ, P, R, r, rs, p, k, kx⟩ q hq => by
  obtain ⟨e, r2⟩ := r.frozen hq (.dK [])
  exact k _ M _ _ _ p e r2 (.dat (.dct upd_same .nil))
/-! o[k] = v, o a changing dict -/
def onDM (M : Mp) (x : AV) (k : Addr → List (Key × AV) → Prop) : Prop := match x with
  | .ref a => (match M a with
    | some (.dct xs) => k a xs
    | _ => False)
  | _ => False
theorem onDM_inv {M : Mp} {x : AV} {k : Addr → List (Key × AV) → Prop} (h : onDM M x k) : ∃ a xs, x = .ref a ∧ M a = some (.dct xs) ∧ k a xs := by
  unfold onDM at h
  split at h
  · split at h
    · exact ⟨_, _, rfl, by assumption, h⟩
    · exact h.elim
  · exact h.elim
def mPut (kvs : List (Key × AV)) (k : Key) (v : AV) : List (Key × AV) := if (kvs.any fun kv => decide (kv.1 = k)) = true then kvs.map (fun kv => if kv.1 = k then (kv.1, v) else kv) else kvs ++ [(k, v)]
theorem rks_any {K : PySem.W.Frag} {S : Hp} {k : Key} : ∀ {xs : List (Key × AV)} {kvs : List (Key × V)}, RKs K S kvs xs → (kvs.any fun kv => decide (kv.1 = k)) = (xs.any fun kv => decide (kv.1 = k))
  | [], [], _ => rfl
  | [], _ :: _, h => by have := h.length; simp at this
  | _ :: _, [], h => by have := h.length; simp at this
  | q :: xs, q' :: kvs, h => by
    have h1 := h.1
    simp only [List.map_cons, List.cons.injEq] at h1
    have h2 := h.2
    simp only [List.map_cons] at h2
    cases h2 with
    | cons a b =>
      rw [List.any_cons, List.any_cons, rks_any ⟨h1.2, b⟩, h1.1]
theorem rks_mapset {K : PySem.W.Frag} {S : Hp} {k : Key} {v : V} {x : AV} (hv : RV K S v x) : ∀ {xs : List (Key × AV)} {kvs : List (Key × V)}, RKs K S kvs xs → RKs K S (kvs.map fun kv => if kv.1 = k then (kv.1, v) else kv) (xs.map fun kv => if kv.1 = k then (kv.1, x) else kv)
  | [], [], _ => ⟨rfl, .nil⟩
  | [], _ :: _, h => by have := h.length; simp at this
  | _ :: _, [], h => by have := h.length; simp at this
  | q :: xs, q' :: kvs, h => by
    have h1 := h.1
    simp only [List.map_cons, List.cons.injEq] at h1
    have h2 := h.2
    simp only [List.map_cons] at h2
    cases h2 with
    | cons a b =>
      obtain ⟨i1, i2⟩ := rks_mapset (k := k) hv (⟨h1.2, b⟩ : RKs K S kvs xs)
      by_cases e : q.1 = k
      · refine ⟨?_, ?_⟩
        · simp only [List.map_cons, h1.1, e, if_pos]
          rw [i1]
        · simp only [List.map_cons, h1.1, e, if_pos]
          exact .cons hv i2
      · refine ⟨?_, ?_⟩
        · simp only [List.map_cons, h1.1, e, if_neg, not_false_eq_true]
          rw [i1]
        · simp only [List.map_cons, h1.1, e, if_neg, not_false_eq_true]
          exact .cons a i2
theorem rks_put {K : PySem.W.Frag} {S : Hp} {k : Key} {v : V} {x : AV} (hv : RV K S v x) {xs : List (Key × AV)} {kvs : List (Key × V)} (h : RKs K S kvs xs) : RKs K S (putK kvs k v) (mPut xs k x) := by
  unfold putK mPut
  rw [rks_any h]
  split
  · exact rks_mapset hv h
  · refine ⟨by simp [h.1], ?_⟩
    rw [List.map_append, List.map_append]
    exact h.2.append (.cons hv .nil)
def gIxD (wo wi : DTE) : DTG := fun x δ M P R => wo δ M (fun o M1 => wi δ M1 (fun y M2 => onO (keyA y) fun k => onDM M2 o fun a xs => xs.length < sizeLine ∧ P δ (um M2 a (.dct (mPut xs k x)))) R) R
theorem dg_ixD {o i : Expr} {wo wi : DTE} (hu : X.A.units + 64 < cLine) (ho : DE X EX o wo) (hi : DE X EX i wi)
    (ha : ∀ v, assign (.Subscript o i pos) X.env v = (do
      let ov ← holding [v] (eval o X.env)
      let iv ← holding [v, ov] (eval i X.env)
      standAt pos
      holding [v, ov, iv] (setItem ov iv v)
      release [v, ov, iv] []) := by intro _; rfl) : DG X EX (.Subscript o i pos) (gIxD wo wi) := pg_imp (pg_sub ho hi (set_dict (by omega)) ha) fun v σ H Q ⟨S, M, δ, x, P, R, r, rs, rv, p, k, kx⟩ =>
  ⟨S, M, δ, _, R, r, rs, p, fun ov M1 S1 H1 o' p1 e1 r1 rv1 => ⟨S1, M1, δ, _, R, r1, rs.mono e1, p1, fun yv M2 S2 H2 y' p0 e2 r2 rv2 => by
    obtain ⟨kk, ey, p3⟩ := onO_inv p0
    obtain ⟨ad, xs, ea, em, hl, p4⟩ := onDM_inv p3
    subst ea
    cases rv1
    obtain ⟨vs, sa, h1, h2⟩ := rp_dct r2 em
    rw [keyA_v rv2 ey]
    refine ⟨ad, _, rfl, DPut.k h1 (by rw [h2.length]; exact hl), k _ _ S2 _ σ p4 (e1.trans e2) (r2.put sa (solo_dK h1) _ (.dct upd_same (rks_put (rv.mono (e1.trans e2)) h2))) (rs.mono (e1.trans e2))⟩, kx.mono e1⟩, kx⟩

/-! ### enumerate over a changing list -/
theorem jok_enum {K : PySem.W.Frag} {S : Hp} {a : Addr} {xs : List AV} : JOk K S (fun M => M a = some (.lst xs)) (Ite K a) (xs.zipIdx.map fun q => mkTup [.dat (.int (q.2 : Int)), q.1]) := fun i S' H' M' em e r => by
  obtain ⟨vs, _, h1, h2⟩ := rp_lst r em
  have hv : SqL K H' a vs := SqL.of h1
  have hl : (xs.zipIdx.map fun q => mkTup [.dat (.int (q.2 : Int)), q.1]).length = xs.length := by simp
  rw [hl]
  refine ⟨fun hi => ?_, fun hi => ⟨vs, hv, by rw [h2.length]; exact hi⟩, fun v H'' y x ex => ?_⟩
  · have hi' : i < vs.length := by rw [h2.length]; exact hi
    exact ⟨vs, vs[i], hv, List.getElem?_eq_getElem hi'⟩
  · obtain ⟨T, u, rfl, hT, rfl, hy⟩ := y
    rw [List.getElem?_map, List.getElem?_zipIdx] at ex
    cases q : xs[i]? with
    | none =>
      rw [q] at ex
      cases ex
    | some z =>
      rw [q] at ex
      cases ex
      obtain ⟨v', h3, h4⟩ := h2.get q
      cases (hy vs hv).symm.trans h3
      obtain ⟨e2, r2⟩ := r.frozen hT (.tup [.int (i : Nat), u])
      refine ⟨_, e2, r2, rv_mkTup (SqT.of upd_same) (.cons ?_ (.cons (h4.mono e2) .nil))⟩
      have e3 : ((z, 0 + i).2 : Nat) = i := by simp
      rw [e3]
      exact .dat (.int _)
def iEnumM (we : DTE) : DTI := fun δ M P R => we δ M (fun x M1 => onM M1 x fun a xs => P (xs.zipIdx.map fun q => mkTup [.dat (.int (q.2 : Int)), q.1]) (fun M => M a = some (.lst xs)) M1) R
theorem di_enumM {kk : Nat} {tpos : Pos} (hg : Gl X "enumerate") (hm : X.mg "enumerate" = none) (he : DE X EX e we) (hs : starEach [e] X.env = [(false, eval e X.env)] := by rfl) (hs2 : starEach [e] X.env = (false, eval e X.env) :: starEach [] X.env := by rfl) :
    DI X EX (.Tuple es kk tpos) (.Call (.Name "enumerate" p) [e] [] pos) (iEnumM we) := pi_imp (pi_enum hg hm (pa_cons he pa_nil hs2) hs) fun σ H Q ⟨S, M, δ, P, R, r, rs, p, k, kx⟩ =>
  ⟨S, M, δ, _, R, r, rs, p, fun x M1 S1 H1 v p0 e2 r1 rv => by
    obtain ⟨a, xs, e1, em, p1⟩ := onM_inv p0
    subst e1
    cases rv
    obtain ⟨vs, _, h1, h2⟩ := rp_lst r1 em
    exact ⟨a, vs, rfl, SqL.of h1, k _ _ M1 S1 H1 _ p1 e2 r1 jok_enum⟩, kx⟩
end
end DL
end
section
set_option Elab.async false
set_option linter.all false
set_option maxRecDepth 100000
set_option maxHeartbeats 2000000
/-! D10: own exceptions as values: made, their fields set and read, isinstance. -/
namespace DL
open PySem PySem.Spec L2 DX
open PyProof.Rows hiding St
open PySem.HandSPX (excO)

section
variable {X : Cx} {pins : List (Addr × Obj)} {σ : L2.St} {H : Hp} {s : Shared} {a C dx : Addr} {n : Str} {y : V} {u : Value} {fs : List (Str × V)} {Q : Unit → Shared → Prop} {E : Value → Shared → Prop} {A : Around} {f : Fam}
theorem taker_none {K : PySem.W.Frag} (h : PySem.W.findIn K (.ref C) n = some none) : PySem.W.takerIn K C n = some none := by
  unfold PySem.W.takerIn
  rw [h]
  rfl
/-- a first field -/
theorem oset_new (T : EC X.K f C) (I : Inv X pins σ H s) (e : H a = some (exo a C none)) (hno : PySem.W.findIn X.K (.ref C) n = some none) (ry : RelV y u)
    (h : ∀ dx s', H dx = none → dx ≠ a → Inv X pins σ (upd (upd H dx (exd dx [(n, y)])) a (exo a C (some dx))) s' → Q () s') : wpAny (model X.prog X.w) A (setAttr (.ref a) n u) Q E s := by
  obtain ⟨t1, ho⟩ := exo_at I.hok e
  obtain ⟨hp, g, d, t, os⟩ := s
  refine PySem.W.set_plain I.kIn (ox := excO C t1) (od := none) ⟨ho, rfl, rfl, trivial⟩ T.sa (osa_first I.kIn ho T.ov T.hd (taker_none hno) fun h' tk' dx k dn dne hx hn => ?_)
  have hnd : H dx = none := I.hok.fresh dn
  have nd : ∀ {b : Addr} {o : Obj}, hp.get? b = some o → b ≠ dx := fun {b o} z => Nat.ne_of_lt (Nat.lt_of_lt_of_le (Heap.lt_size z) dn)
  have na : ∀ {b : Addr}, H b = none → b ≠ a := fun {b} z w => by
    rw [w, e] at z
    cases z
  have U : Un X.fs [] H (upd (upd H dx (exd dx [(n, y)])) a (exo a C (some dx))) hp h' := {
    keep := fun b o z w _ _ => k b o (na w) z
    slot := fun b o z w _ _ => ⟨o.slots, k b o (na w) z⟩
    free := fun b o z w _ => by
      rw [upd_ne (na w), upd_ne (nd z)]
      exact w
    there := fun b o z _ => by
      by_cases hb : b = a
      · subst hb
        exact ⟨_, hx⟩
      · exact ⟨o, k b o hb z⟩
    tups := fun b xs z => by
      rw [upd_ne (at_ne e z exo_tup), upd_ne (ne_of_none z hnd)]
      exact z
    frzs := fun b o v z => by
      rw [upd_ne (at_ne e z exo_frz), upd_ne (ne_of_none z hnd)]
      exact z
    tbls := fun b ps z => ⟨#[], by
      rw [upd_ne (at_ne e z exo_tbl), upd_ne (ne_of_none z hnd), z]
      simp⟩ }
  refine h dx _ hnd dne (I.un (t' := tk') U fun b o z => ?_)
  by_cases hb : b = a
  · subst hb
    rw [upd_same] at z
    cases z
    exact exo_ok hx
  · rw [upd_ne hb] at z
    by_cases hd : b = dx
    · subst hd
      rw [upd_same] at z
      cases z
      exact exd_ok hn (relO_put (fs := []) ry fun _ => True.intro)
    · rw [upd_ne hd] at z
      refine (I.hok b o z).stay (fun c v hc w => k c v ?_ w) (fun c hc => ?_) (fun c xs hc => ?_)
      · rcases hc with hc | hc
        · rw [hc]
          exact hb
        · exact at_ne e hc exo_own
      · rw [upd_ne (at_ne e hc exo_own), upd_ne (ne_of_none hc hnd)]
        exact hc
      · rw [upd_ne (at_ne e hc exo_tup), upd_ne (ne_of_none hc hnd)]
        exact hc
/-- a further one -/
theorem oset_old (T : EC X.K f C) (I : Inv X pins σ H s) (e : H a = some (exo a C (some dx))) (ed : H dx = some (exd dx fs)) (hl : fs.length ≤ 900) (hno : PySem.W.findIn X.K (.ref C) n = some none) (ry : RelV y u)
    (h : ∀ s', Inv X pins σ (upd H dx (exd dx ((n, y) :: fs))) s' → Q () s') : wpAny (model X.prog X.w) A (setAttr (.ref a) n u) Q E s := by
  obtain ⟨t1, ho⟩ := exo_at I.hok e
  obtain ⟨mA, hns, rel⟩ := exd_at I.hok ed
  have hw := within_of rel
  obtain ⟨hp, g, d, t, os⟩ := s
  obtain ⟨oD, _, _, hoD, _, _⟩ := hns.count hw
  refine PySem.W.set_plain I.kIn (ox := { cls := .ref C, dict := some dx, data := .fields #[.ref t1, .none, .none, .none, .bool false, .none] }) (od := some oD) ⟨ho, rfl, rfl, hoD⟩ T.sa
    (osa_more I.kIn ho hns hw (by rw [List.length_map]; omega) T.ov T.hd (taker_none hno) fun h' tk' k hn => ?_)
  have hd : ∃ o, h'.get? dx = some o := by
    obtain ⟨o, _, _, q, _⟩ := hn
    exact ⟨o, q⟩
  exact h _ (I.write (t' := tk') (x := dx) (e := dx) (o := exd dx ((n, y) :: fs)) (by rw [ed]; exact True.intro) (.inl rfl) k hd (exd_ok hn (relO_put ry rel)))
/-- Base.__init__(self, ..) -/
theorem oini {us : List Value} {Q : Value → Shared → Prop} (T : EC X.K f C) (I : Inv X pins σ H s) (e : H a = some (exo a C none)) (hl : us.length ≤ sizeLine) (h : ∀ s', Inv X pins σ H s' → Q .none s') :
    wpAny (model X.prog X.w) A (call (.builtin f.initId) (.ref a :: us)) Q E s := by
  obtain ⟨nm, N, q, bs, bm, hdct, sn, sub, ab, col, dd, k0, k1, k2, k3, k5, hC, hT⟩ := PySem.W.excInit_of I.kIn T.ini
  obtain ⟨t1, ho⟩ := exo_at I.hok e
  obtain ⟨hp, g, d, t, os⟩ := s
  refine wpAny_call (init_any hT hC ho hl fun h' t2 k hx => ?_)
  have J := I.write (t' := t) (x := a) (e := a) (o := exo a C none) (by rw [e]; exact True.intro) (.inl rfl) k ⟨_, hx⟩ (exo_ok hx)
  have eu : upd H a (exo a C none) = H := funext fun b => by
    by_cases hb : b = a
    · rw [hb, upd_same, e]
    · rw [upd_ne hb]
  rw [eu] at J
  exact h _ J
end
/-! ### the exception that stands at a value -/
def onX (M : Mp) (x : AV) (k : Addr → Addr → Option Addr → List (Str × AV) → Prop) : Prop := match x with
  | .ref a => (match M a with
    | some (.raw C) => k a C none []
    | some (.exc C dx fs) => k a C (some dx) fs
    | _ => False)
  | _ => False
theorem onX_inv {M : Mp} {x : AV} {k : Addr → Addr → Option Addr → List (Str × AV) → Prop} (h : onX M x k) : ∃ a C, x = .ref a ∧ ((M a = some (.raw C) ∧ k a C none []) ∨ ∃ dx fs, M a = some (.exc C dx fs) ∧ k a C (some dx) fs) := by
  unfold onX at h
  split at h
  · split at h
    · exact ⟨_, _, rfl, .inl ⟨by assumption, h⟩⟩
    · exact ⟨_, _, rfl, .inr ⟨_, _, by assumption, h⟩⟩
    · exact h.elim
  · exact h.elim
theorem rp_raw {K : PySem.W.Frag} {S H : Hp} {M : Mp} {a C : Addr} (r : Rp K S H M) (h : M a = some (.raw C)) : S a = none ∧ H a = some (exo a C none) := by
  obtain ⟨s, g⟩ := r.mo a _ h
  cases g with
  | raw h1 => exact ⟨s, h1⟩
theorem rp_exc {K : PySem.W.Frag} {S H : Hp} {M : Mp} {a C dx : Addr} {fs : List (Str × AV)} (r : Rp K S H M) (h : M a = some (.exc C dx fs)) : ∃ vs, S a = none ∧ H a = some (exo a C (some dx)) ∧ H dx = some (exd dx vs) ∧ S dx = none ∧ RFs K S vs fs := by
  obtain ⟨s, g⟩ := r.mo a _ h
  cases g with
  | exc h1 h2 h3 h4 => exact ⟨_, s, h1, h2, h3, h4⟩
theorem solo_exo {H : Hp} {p C : Addr} {d : Option Addr} (h : H p = some (exo p C d)) (hd : ∀ fs, exo p C d ≠ exd p fs) : Solo H p := And.intro (fun b z => exo_own (Option.some.inj (h.symm.trans z))) fun fs z => hd fs (Option.some.inj (h.symm.trans z))
/-- another thing stands beside an exception and its dict -/
theorem Rp.excPut {K : PySem.W.Frag} {S H : Hp} {M : Mp} {a C dx : Addr} {xs : List (Str × AV)} {vs : List (Str × V)} (r : Rp K S H M) (sa : S a = none) (sd : S dx = none) (na : dx ≠ a)
    (ha : ∀ b, M b ≠ none → b ≠ a → ∀ c, (c = a ∨ c = dx) → c ≠ b ∧ H c ≠ some (.own b) ∧ ∀ C' fs, M b = some (.exc C' c fs) → False) (rf : RFs K S vs xs) :
    Rp K S (upd (upd H dx (exd dx vs)) a (exo a C (some dx))) (um M a (.exc C dx xs)) := by
  refine ⟨fun b v q => ?_, fun b o q => ?_, fun b b' C1 C2 d1 f1 f2 z z' => ?_⟩
  · rw [upd_ne (ne_of_none q sa), upd_ne (ne_of_none q sd)]
    exact r.ext b v q
  · by_cases hb : b = a
    · subst hb
      rw [um_same] at q
      cases q
      exact ⟨sa, .exc upd_same (by rw [upd_ne na, upd_same]) sd rf⟩
    · rw [um_ne hb] at q
      obtain ⟨s1, g⟩ := r.mo b o q
      have k := ha b (by rw [q]; exact fun z => nomatch z) hb
      have ka := k a (.inl rfl)
      have kd := k dx (.inr rfl)
      have keep : ∀ c, c ≠ a → c ≠ dx → upd (upd H dx (exd dx vs)) a (exo a C (some dx)) c = H c := fun c h1 h2 => by rw [upd_ne h1, upd_ne h2]
      refine ⟨s1, ?_⟩
      cases g with
      | lst e1 e2 => exact .lst ((keep b hb (Ne.symm kd.1)).trans e1) e2
      | dct e1 e2 => exact .dct ((keep b hb (Ne.symm kd.1)).trans e1) e2
      | raw e1 => exact .raw ((keep b hb (Ne.symm kd.1)).trans e1)
      | ins e1 e2 e3 e4 => exact .ins ((keep b hb (Ne.symm kd.1)).trans e1) ((keep _ (fun z => ka.2.1 (z ▸ e2)) (fun z => kd.2.1 (z ▸ e2))).trans e2) e3 e4
      | exc e1 e2 e3 e4 => exact .exc ((keep b hb (Ne.symm kd.1)).trans e1) ((keep _ (fun z => ka.2.2 _ _ (z ▸ q)) (fun z => kd.2.2 _ _ (z ▸ q))).trans e2) e3 e4
  · by_cases hb : b = a
    · by_cases hb' : b' = a
      · rw [hb, hb']
      · subst hb
        rw [um_same] at z
        rw [um_ne hb'] at z'
        cases z
        exact ((ha b' (by rw [z']; exact fun q => nomatch q) hb' dx (.inr rfl)).2.2 _ _ z').elim
    · by_cases hb' : b' = a
      · subst hb'
        rw [um_same] at z'
        rw [um_ne hb] at z
        cases z'
        exact ((ha b (by rw [z]; exact fun q => nomatch q) hb dx (.inr rfl)).2.2 _ _ z).elim
      · rw [um_ne hb] at z
        rw [um_ne hb'] at z'
        exact r.sep b b' C1 C2 d1 f1 f2 z z'
/-- the class bears such fields -/
def XF (K : PySem.W.Frag) (n : Str) (C : Addr) : Prop := (∃ f, EC K f C) ∧ PySem.W.findIn K (.ref C) n = some none
section
variable {X : Cx} {EX : WXc} {o e : Expr} {es : List Expr} {wo we : DTE} {w : DTA} {pos p p' : Pos}
/-- o.n = e -/
def wOset (K : PySem.W.Frag) (n : Str) (wo we : DTE) : DTS := fun E δ M => we δ M (fun y M1 => wo δ M1 (fun x M2 => onX M2 x fun a C d fs => XF K n C ∧ fs.length ≤ 900 ∧ (match d with
  | none => ∀ dx, M2 dx = none → dx ≠ a → E.nx δ (um M2 a (.exc C dx [(n, y)]))
  | some dx => E.nx δ (um M2 a (.exc C dx ((n, y) :: fs))))) fun c fs M2 => E.xp c fs δ M2) fun c fs M1 => E.xp c fs δ M1
theorem exo_exd {a C p : Addr} {d : Option Addr} {fs : List (Str × V)} {P : Heap} : True := trivial
/-- no exception's dict is an exception -/
theorem exo_ne_exd {pins : List (Addr × Obj)} {σ : L2.St} {H : Hp} {s : Shared} {a C : Addr} {d : Option Addr} {fs : List (Str × V)} (I : Inv X pins σ H s) (h : H a = some (exo a C d)) : H a ≠ some (exd a fs) := fun z => by
  obtain ⟨t, e1⟩ := exo_at I.hok h
  obtain ⟨mA, ⟨o, es, ep, e2, e3, _⟩, _⟩ := exd_at I.hok z
  rw [e1] at e2
  cases e2
  cases e3
theorem ds_oset {n : Str} (ho : DE X EX o wo) (he : DE X EX e we) (hs : swapsWith e (some (.Attribute o n p')) pos.line X.env = pure false := by rfl) : DS X EX (.Assign [.Attribute o n p'] e pos) (wOset X.K n wo we) := by
  refine ⟨fun pins s σ H D I ⟨S, M, δ, E, r, rs, p, k⟩ => ?_⟩
  refine plainObj_wpAny_Assign_Attribute (thn (he.run pins s σ H (fun y H1 => ∃ (S1 : Hp) (M1 : Mp) (yv : AV), Same S S1 ∧ Rp X.K S1 H1 M1 ∧ RV X.K S1 y yv ∧ wo δ M1 (fun x M2 => onX M2 x fun a C d fs => XF X.K n C ∧ fs.length ≤ 900 ∧ (match d with
      | none => ∀ dx, M2 dx = none → dx ≠ a → E.nx δ (um M2 a (.exc C dx [(n, yv)]))
      | some dx => E.nx δ (um M2 a (.exc C dx ((n, yv) :: fs))))) fun c fs M2 => E.xp c fs δ M2) I
    ⟨S, M, δ, _, _, r, rs, p, fun y M1 S1 H1 v p1 e1 r1 rv => ⟨S1, M1, y, e1, r1, rv, p1⟩, k.xp.at_ rs⟩) fun v s1 ⟨y, H1, I1, rv1, S1, M1, yv, e1, r1, ry, p1⟩ =>
    thn (ho.run pins s1 σ H1 (fun x H2 => ∃ (S2 : Hp) (M2 : Mp) (xv : AV), Same S1 S2 ∧ Rp X.K S2 H2 M2 ∧ RV X.K S2 x xv ∧ (onX M2 xv fun a C d fs => XF X.K n C ∧ fs.length ≤ 900 ∧ (match d with
      | none => ∀ dx, M2 dx = none → dx ≠ a → E.nx δ (um M2 a (.exc C dx [(n, yv)]))
      | some dx => E.nx δ (um M2 a (.exc C dx ((n, yv) :: fs)))))) I1
    ⟨S1, M1, δ, _, _, r1, rs.mono e1, p1, fun x M2 S2 H2 u p2 e2 r2 rx => ⟨S2, M2, x, e2, r2, rx, p2⟩, (k.xp.mono e1).at_ (rs.mono e1)⟩) fun u s2 ⟨x, H2, I2, rv2, S2, M2, xv, e2, r2, rx, p2⟩ => ?_) hs
  obtain ⟨a, C, ex, hc⟩ := onX_inv p2
  subst ex
  cases rx
  cases rv2
  have es := e1.trans e2
  have ry' := ry.mono e2
  rcases hc with ⟨hm, ⟨⟨f, T⟩, hno⟩, _, q⟩ | ⟨dx, fs, hm, ⟨⟨f, T⟩, hno⟩, hl, q⟩
  · obtain ⟨sa, ha⟩ := rp_raw r2 hm
    refine oset_new T I2 ha hno rv1 fun dx s' hd nd J => ?_
    have sd := r2.freshS hd
    have r3 := r2.excPut (C := C) (dx := dx) (xs := [(n, yv)]) (vs := [(n, y)]) sa sd nd (fun b hb nb c hc => by
      rcases hc with rfl | rfl
      · refine ⟨Ne.symm nb, fun z => exo_own (Option.some.inj (ha.symm.trans z)), fun C' fs' z => ?_⟩
        obtain ⟨vs, _, _, z2, _, _⟩ := rp_exc r2 z
        exact exo_ne_exd I2 ha z2
      · refine ⟨fun z => hb (z ▸ r2.fresh hd), fun z => (nomatch hd.symm.trans z), fun C' fs' z => ?_⟩
        obtain ⟨vs, _, _, z2, _, _⟩ := rp_exc r2 z
        rw [hd] at z2
        cases z2) ⟨rfl, .cons ry' .nil⟩
    exact ⟨σ, _, J, k.nx δ _ S2 _ σ (q dx (r2.fresh hd) nd) es r3 (rs.mono es)⟩
  · obtain ⟨vs, sa, ha, hd, sd, rf⟩ := rp_exc r2 hm
    have lv : vs.length = fs.length := by
      have := congrArg List.length rf.1
      simpa using this
    refine oset_old T I2 ha hd (by omega) hno rv1 fun s' J => ?_
    have nd : dx ≠ a := fun z => exo_ne_exd I2 ha (z ▸ hd)
    have r3 := r2.excPut (C := C) (dx := dx) (xs := (n, yv) :: fs) (vs := (n, y) :: vs) sa sd nd (fun b hb nb c hc => by
      rcases hc with rfl | rfl
      · refine ⟨Ne.symm nb, fun z => exo_own (Option.some.inj (ha.symm.trans z)), fun C' fs' z => ?_⟩
        obtain ⟨ws, _, _, z2, _, _⟩ := rp_exc r2 z
        exact exo_ne_exd I2 ha z2
      · refine ⟨fun z => ?_, fun z => exd_own (Option.some.inj (hd.symm.trans z)), fun C' fs' z => ?_⟩
        · subst z
          obtain ⟨ob, eb⟩ := Option.ne_none_iff_exists'.mp hb
          obtain ⟨_, g⟩ := r2.mo _ _ eb
          cases g with
          | lst e1 _ => exact (solo_lst e1).2 _ hd
          | dct e1 _ => exact (solo_dK e1).2 _ hd
          | raw e1 => exact exo_ne_exd I2 e1 hd
          | exc e1 _ _ _ => exact exo_ne_exd I2 e1 hd
          | ins e1 _ _ _ =>
            have y : HO.ins _ _ _ = HO.ext _ := Option.some.inj (e1.symm.trans hd)
            cases y
        · exact nb (r2.sep _ _ _ _ _ _ _ z hm)) ⟨by simp [rf.1], .cons ry' rf.2⟩
    have eu : upd (upd H2 dx (exd dx ((n, y) :: vs))) a (exo a C (some dx)) = upd H2 dx (exd dx ((n, y) :: vs)) := funext fun b => by
      by_cases hb : b = a
      · subst hb
        rw [upd_same, upd_ne (Ne.symm nd), ha]
      · rw [upd_ne hb]
    rw [eu] at r3
    exact ⟨σ, _, J, k.nx δ _ S2 _ σ q es r3 (rs.mono es)⟩
end
end DL
end
section
set_option Elab.async false
set_option linter.all false
set_option maxRecDepth 100000
set_option maxHeartbeats 2000000
/-! D11: own exceptions: Base.__init__(self, ..), o.f, C(..), isinstance, raise, try. -/
namespace DL
open PySem PySem.Spec L2 DX
open PyProof.Rows hiding St
open PySem.HandSPX (excO)
section
variable {X : Cx} {EX : WXc} {o e : Expr} {es : List Expr} {wo we : DTE} {w : DTA} {pos p p1 p2 p' : Pos}
/-! ### o.n -/
def wFld (K : PySem.W.Frag) (n : Str) (we : DTE) : DTE := fun δ M P R => we δ M (fun x M1 => onX M1 x fun a C d fs => XF K n C ∧ onO (fs.lookup n) fun y => P y M1) R
theorem alookup {α : Type} (f g : Str) (y : α) (fs : List (Str × α)) : ((f, y) :: fs).lookup g = if g = f then some y else fs.lookup g := by
  by_cases h : g = f
  · subst h
    simp [List.lookup]
  · have e : (g == f) = false := by simpa using h
    rw [if_neg h]
    simp [List.lookup, e]
theorem rfs_lookup {K : PySem.W.Frag} {S : Hp} {n : Str} : ∀ {vs : List (Str × V)} {xs : List (Str × AV)} {y : AV}, RFs K S vs xs → xs.lookup n = some y → ∃ v, vs.lookup n = some v ∧ RV K S v y
  | [], [], _, _, e => by cases e
  | [], _ :: _, _, h, _ => by have := h.1; simp at this
  | _ :: _, [], _, h, _ => by have := h.1; simp at this
  | (k1, v) :: vs, (k2, x) :: xs, y, h, e => by
    have h1 := h.1
    simp only [List.map_cons, List.cons.injEq] at h1
    have h2 := h.2
    simp only [List.map_cons] at h2
    obtain ⟨h3, h4⟩ := h1
    subst h3
    cases h2 with
    | cons a b =>
      rw [alookup] at e ⊢
      by_cases q : n = k1
      · rw [if_pos q] at e ⊢
        cases e
        exact ⟨v, rfl, a⟩
      · rw [if_neg q] at e ⊢
        exact rfs_lookup ⟨h4, b⟩ e
theorem de_fld {n : Str} (he : DE X EX e we) (hb : attributeBase e n X.env (eval e X.env) = eval e X.env := by rfl) : DE X EX (.Attribute e n pos) (wFld X.K n we) := by
  refine pe_imp (t := fun σ H Q => lE X.K EX we σ H fun x H1 => ∃ (a C dx : Addr) (vs : List (Str × V)) (v : V), x = .ref a ∧ XF X.K n C ∧ H1 a = some (exo a C (some dx)) ∧ H1 dx = some (exd dx vs) ∧ vs.lookup n = some v ∧ Q v H1) ⟨fun pins s σ H Q I h => ?_⟩
    fun σ H Q ⟨S, M, δ, P, R, r, rs, p, k, kx⟩ => ⟨S, M, δ, _, R, r, rs, p, fun x M1 S1 H1 v p0 e1 r1 rv => by
      obtain ⟨a, C, ex, hc⟩ := onX_inv p0
      subst ex
      cases rv
      rcases hc with ⟨_, _, hz⟩ | ⟨dx, fs, hm, xf, hz⟩
      · obtain ⟨_, z, _⟩ := onO_inv hz
        cases z
      · obtain ⟨y, ey, p1⟩ := onO_inv hz
        obtain ⟨vs, _, h1, h2, _, rf⟩ := rp_exc r1 hm
        obtain ⟨u, eu, ru⟩ := rfs_lookup rf ey
        exact ⟨a, C, dx, vs, u, rfl, xf, h1, h2, eu, k _ M1 S1 H1 _ p1 e1 r1 ru⟩, kx⟩
  refine attr_of hb (thn (he.run pins s σ H _ I h) fun u s1 ⟨x, H1, I1, rx, a, C, dx, vs, v, ex, ⟨⟨f, T⟩, hno⟩, h1, h2, l, q⟩ => ?_)
  subst ex
  cases rx
  obtain ⟨t1, ho⟩ := exo_at I1.hok h1
  obtain ⟨mA, hns, rel⟩ := exd_at I1.hok h2
  obtain ⟨od, hod, hl⟩ := lookIn_ns hns
  obtain ⟨u, hu, ru⟩ := RelO.some_of (v := v) (o := mA n) (by rw [← l]; exact rel n)
  have J : PySem.W.InstAt s1.heap a { cls := .ref C, dict := some dx, data := .fields #[.ref t1, .none, .none, .none, .bool false, .none] } C (some od) := ⟨ho, rfl, rfl, hod⟩
  exact HandSPX.exc_get I1.kIn J T.ga T.gg T.exC (PySem.W.findObj_own T.hd hno rfl (by rw [hl, hu])) (handed_of ru) ⟨v, H1, I1.tok _, ru, q⟩
/-! ### isinstance(o, C) -/
def wIsX (K : PySem.W.Frag) (cv : Value) (we : DTE) : DTE := fun δ M P R => we δ M (fun x M1 => onX M1 x fun a C d fs => (∃ f, EC K f C) ∧ onO (PySem.W.kitOne K (.ref C) cv) fun b => P (.dat (.bool b)) M1) R
theorem call_isX : CallR X (.builtin "isinstance") (fun xs H Q => ∃ (a C : Addr) (d : Option Addr) (c : V) (cv : Value) (b : Bool) (f : Fam), xs = [.ref a, c] ∧ (∀ u, RelV c u → u = cv) ∧ EC X.K f C ∧ H a = some (exo a C d) ∧ (∀ dx, d = some dx → ∃ vs, H dx = some (exd dx vs)) ∧ PySem.W.kitOne X.K (.ref C) cv = some b ∧ Q (.bl b) H) := by
  intro pins s σ H xs us Q I r ⟨a, C, d, c, cv, b, f, ex, hcv, T, ha, hd, e, q⟩
  subst ex
  cases r with
  | cons rx rr => cases rr with
    | cons rt rr =>
      cases rr
      cases rx
      have ec := hcv _ rt
      subst ec
      obtain ⟨t1, ho⟩ := exo_at I.hok ha
      have fin : ∀ (od : Option Obj), PySem.W.InstAt s.heap a { cls := .ref C, dict := d, data := .fields #[.ref t1, .none, .none, .none, .bool false, .none] } C od → wpAny (model X.prog X.w) X.A (call (.builtin "isinstance") [.ref a, _]) (EP X pins σ Q) X.xe s := fun od J =>
        PySem.W.kia_one (PySem.W.kitx_exc (od := od) (by obtain ⟨cd, h1, _⟩ := PySem.W.any_some T.hd; rw [h1]; rfl) T.ga T.gg T.exC T.ca T.cg T.ct T.mo) I.kIn J e (fun z => nomatch z) fun tk => ⟨.bl b, H, I.kept (t' := tk) fun _ _ z => z, rfl, q⟩
      cases d with
      | none => exact fin none ⟨ho, rfl, rfl, trivial⟩
      | some dx =>
        obtain ⟨vs, h2⟩ := hd dx rfl
        obtain ⟨mA, hns, rel⟩ := exd_at I.hok h2
        obtain ⟨od, hod, hl⟩ := lookIn_ns hns
        exact fin (some od) ⟨ho, rfl, rfl, hod⟩
theorem isX_l {K : PySem.W.Frag} {x : V} {H : Hp} {Q : VK} {S : Hp} {M : Mp} {xv : AV} {P : DK} {cv : Value} (r : Rp K S H M) (rv : RV K S x xv) (p0 : onX M xv fun a C d fs => (∃ f, EC K f C) ∧ onO (PySem.W.kitOne K (.ref C) cv) fun b => P (.dat (.bool b)) M) (k : To K S P Q) :
    ∃ (a C : Addr) (d : Option Addr) (b : Bool) (f : Fam), x = .ref a ∧ EC K f C ∧ H a = some (exo a C d) ∧ (∀ dx, d = some dx → ∃ vs, H dx = some (exd dx vs)) ∧ PySem.W.kitOne K (.ref C) cv = some b ∧ Q (.bl b) H := by
  obtain ⟨a, C, ex, hc⟩ := onX_inv p0
  subst ex
  cases rv
  rcases hc with ⟨hm, ⟨f, T⟩, hz⟩ | ⟨dx, fs, hm, ⟨f, T⟩, hz⟩
  · obtain ⟨b, eb, p1⟩ := onO_inv hz
    obtain ⟨_, h1⟩ := rp_raw r hm
    exact ⟨a, C, none, b, f, rfl, T, h1, fun dx z => (nomatch z), eb, k _ M S H _ p1 (Same.refl S) r (.dat (.bl _))⟩
  · obtain ⟨b, eb, p1⟩ := onO_inv hz
    obtain ⟨vs, _, h1, h2, _, _⟩ := rp_exc r hm
    exact ⟨a, C, some dx, b, f, rfl, T, h1, fun dx' z => by cases z; exact ⟨vs, h2⟩, eb, k _ M S H _ p1 (Same.refl S) r (.dat (.bl _))⟩
/-- against an own class -/
theorem de_isXo {x : Str} {D : Addr} (hg : Gl X "isinstance") (hm : X.mg "isinstance" = none) (hg2 : Gl X x) (hm2 : X.mg x = some (.ref D)) (he : DE X EX e we) (hd2 : (x == ("__debug__" : Str)) = false := by decide)
    (hs : starEach [e, .Name x p2] X.env = (false, eval e X.env) :: starEach [.Name x p2] X.env := by rfl) (hs2 : starEach [.Name x p2] X.env = (false, eval (.Name x p2) X.env) :: starEach [] X.env := by rfl) (hp : (backTo pos (starEach [.Name x p2] X.env)).any (·.1) = false := by rfl)
    (hv : bootBuiltins "isinstance" = some (.builtin "isinstance") := by decide +kernel) :
    DE X EX (.Call (.Name "isinstance" p) [e, .Name x p2] [] pos) (wIsX X.K (.ref D) we) := pe_imp (pe_callB call_isX hg hm hv (pa_cons he (pa_cons (pe_glob (v := .ref D) hg2 hm2 rfl hd2) pa_nil hs2) hs) (by decide) (by decide) hs hp) fun σ H Q ⟨S, M, δ, P, R, r, rs, p, k, kx⟩ =>
  ⟨S, M, δ, _, R, r, rs, p, fun y M1 S1 H1 v p0 e1 r1 rv => by
    obtain ⟨a, C, d, b, f, ex, T, h1, h2, h3, q⟩ := isX_l r1 rv p0 (k.mono e1)
    exact ⟨a, C, d, .ref D, .ref D, b, f, by rw [ex], fun u z => z, T, h1, h2, h3, q⟩, kx⟩
/-- against a built-in one -/
theorem de_isXb {x : Str} {T : String} (hg : Gl X "isinstance") (hm : X.mg "isinstance" = none) (hg2 : Gl X x) (hm2 : X.mg x = none) (hv2 : bootBuiltins x = some (.type T)) (he : DE X EX e we) (hn2 : x ≠ "__name__" := by decide) (hd2 : (x == ("__debug__" : Str)) = false := by decide)
    (hs : starEach [e, .Name x p2] X.env = (false, eval e X.env) :: starEach [.Name x p2] X.env := by rfl) (hs2 : starEach [.Name x p2] X.env = (false, eval (.Name x p2) X.env) :: starEach [] X.env := by rfl) (hp : (backTo pos (starEach [.Name x p2] X.env)).any (·.1) = false := by rfl)
    (hv : bootBuiltins "isinstance" = some (.builtin "isinstance") := by decide +kernel) :
    DE X EX (.Call (.Name "isinstance" p) [e, .Name x p2] [] pos) (wIsX X.K (.type T) we) := pe_imp (pe_callB call_isX hg hm hv (pa_cons he (pa_cons (pe_bltn (v := .ty T) hg2 hm2 hv2 rfl hn2 hd2) pa_nil hs2) hs) (by decide) (by decide) hs hp) fun σ H Q ⟨S, M, δ, P, R, r, rs, p, k, kx⟩ =>
  ⟨S, M, δ, _, R, r, rs, p, fun y M1 S1 H1 v p0 e1 r1 rv => by
    obtain ⟨a, C, d, b, f, ex, T', h1, h2, h3, q⟩ := isX_l r1 rv p0 (k.mono e1)
    exact ⟨a, C, d, .ty T, .type T, b, f, by rw [ex], fun u z => z, T', h1, h2, h3, q⟩, kx⟩
/-! ### Base.__init__(self, ..) -/
/-- the base's __init__ read off the class -/
structure BI (K : PySem.W.Frag) (f : Fam) (B : Addr) : Prop where
  rd : PySem.W.readsIn K B (.type "type") = true
  gs : PySem.W.specialIn K (.ref B) "__getattribute__" = some (some (.builtin "type.__getattribute__"))
  at_ : PySem.W.findCls K (.ref B) (.type "type") "__init__" = some (.val (.builtin f.initId))
def onRaw (K : PySem.W.Frag) (f : Fam) (M : Mp) (xs : List AV) (k : Prop) : Prop := match xs with
  | .ref a :: r => (match M a with
    | some (.raw C) => EC K f C ∧ r.length ≤ 1000 ∧ k
    | _ => False)
  | _ => False
theorem onRaw_inv {K : PySem.W.Frag} {f : Fam} {M : Mp} {xs : List AV} {k : Prop} (h : onRaw K f M xs k) : ∃ a r C, xs = .ref a :: r ∧ M a = some (.raw C) ∧ EC K f C ∧ r.length ≤ 1000 ∧ k := by
  unfold onRaw at h
  split at h
  · split at h
    · exact ⟨_, _, _, rfl, by assumption, h⟩
    · exact h.elim
  · exact h.elim
def wBI (K : PySem.W.Frag) (f : Fam) (w : DTA) : DTE := fun δ M P R => w δ M (fun xs M1 => onRaw K f M1 xs (P (.dat .none) M1)) R
theorem de_bi {x : Str} {B : Addr} {f : Fam} {pl : Sem Bool} (T : BI X.K f B) (hg : Gl X x) (hm : X.mg x = some (.ref B)) (ha : DA X EX (e :: es) w)
    (hc : eval (.Call (.Attribute (.Name x p1) "__init__" p2) (e :: es) [] pos) X.env = (do
      let ov ← eval (.Name x p1) X.env
      standAt p2.atName
      let (f, first) ← holding [ov] (getMethod ov "__init__" pl)
      callWith pos f first (backTo pos (starEach (e :: es) X.env)) (backToKw pos (keywordEach [] X.env))) := by rfl)
    (he : starEach (e :: es) X.env = (false, eval e X.env) :: starEach es X.env := by rfl) (hpl : (backTo pos (starEach es X.env)).any (·.1) = false := by rfl) (hdb : (x == ("__debug__" : Str)) = false := by decide) :
    DE X EX (.Call (.Attribute (.Name x p1) "__init__" p2) (e :: es) [] pos) (wBI X.K f w) := by
  refine pe_imp (t := fun σ H Q => lA X.K EX w σ H fun vs H1 => ∃ (a C : Addr) (ws : List V), vs = .ref a :: ws ∧ ws.length ≤ 1000 ∧ EC X.K f C ∧ H1 a = some (exo a C none) ∧ Q .non H1) ⟨fun pins s σ H Q I h => ?_⟩
    fun σ H Q ⟨S, M, δ, P, R, r, rs, p, k, kx⟩ => ⟨S, M, δ, _, R, r, rs, p, fun xs M1 S1 H1 vs p0 e1 r1 rvs => by
      obtain ⟨a, rr, C, ex, hm, h1, h2, h3⟩ := onRaw_inv p0
      subst ex
      cases rvs with
      | cons ra rw' =>
        cases ra
        exact ⟨a, C, _, rfl, by rw [rw'.length]; exact h2, h1, (rp_raw r1 hm).2, k _ M1 S1 H1 _ h3 e1 r1 (.dat .non)⟩, kx⟩
  refine PySem.W.methodCall_KW (ld_glob I hg hm ?_ hdb) hc
  refine PySem.W.method_cls I.kIn T.gs (PySem.W.cls_value I.kIn T.rd T.at_ (by cases f <;> decide +kernel) ?_)
  show wpAny _ _ (callWith pos (Value.builtin f.initId) [] (backTo pos (starEach (e :: es) X.env)) []) _ _ _
  refine callWith_method1 (thn (ha.run pos pins _ σ H _ (I.tok _) h) fun us s1 ⟨vs, H1, I1, r1, a, C, ws, ev, hl, T', ea, q⟩ => ?_) he hpl
  subst ev
  cases r1 with
  | @cons _ u0 _ ur ra rw' =>
    obtain rfl : u0 = Value.ref a := ra
    have hlen : ur.length ≤ sizeLine := by
      rw [← Paired.length rw', sizeLine_eq]
      omega
    exact oini T' I1 ea hlen fun s' J => ⟨.non, H1, J, rfl, q⟩
end
end DL
end
section
set_option Elab.async false
set_option linter.all false
set_option maxRecDepth 100000
set_option maxHeartbeats 2000000
/-! D12: own exceptions made: C(..), C(k = ..); raise; try. -/
namespace DL
open PySem PySem.Spec L2 DX
open PyProof.Rows hiding St
open PySem.HandSPX (excO)
theorem RVs.getD {K : PySem.W.Frag} {S : Hp} : ∀ {xs : List AV} {vs : List V} (i : Nat), RVs K S vs xs → RV K S (vs.getD i .non) (xs.getD i (.dat .none))
  | _, _, _, .nil => .dat .non
  | _, _, 0, .cons h _ => h
  | _, _, i + 1, .cons _ t => by
    simpa using RVs.getD i t
theorem Vals.getD : ∀ {xs : List V} {us : List Value} (i : Nat), Vals xs us → RelV (xs.getD i .non) (us.getD i .none)
  | _, _, _, .nil => rfl
  | _, _, 0, .cons h _ => h
  | _, _, i + 1, .cons _ t => by
    simpa using Vals.getD i t
/-- the class at C, its own __init__ keeping sp; kk: the orders of keywords that are told -/
structure MOk (P : Program) (w : World) (K : PySem.W.Frag) (mg : Str → Option Value) (base : Heap) (CX : CXT) (k : Nat) (C : Addr) (ps : List Str) (kk : List (List Str × List Nat)) (sp : DSp) : Prop where
  cls : ∃ f, EC K f C
  ex : ∃ fI fd, PySem.W.findIn K (.ref C) "__init__" = some (some (.ref fI)) ∧ PySem.W.typeIn K (.ref fI) = some (.type "function") ∧ Binds K fd ps [] ∧ FnG P w K mg base CX k fI fd ps (lSp K sp) ∧
    ∀ q ∈ kk, ∀ (s : Shared) (u : Value) (ws : List Value), K.In s.heap → ws.length = q.1.length → BindsTo s fd ⟨[u], q.1.zip ws⟩ (ps.zip (u :: q.2.map fun i => ws.getD i .none))
theorem gd_make {A : Around} {C : Addr} {us : List Value} {kw : List (Str × Value)} (h : A.guards = some []) : (A.under (.builtin "type.__call__" ⟨.ref C :: us, kw⟩)).guards = some [] := by
  obtain ⟨hd, d, fr, gs, u⟩ := A
  have e : gs = some [] := h
  subst e
  first | rfl | simp [Around.under, pushGuards, Code.guards, Code.isGuard, guardIds] | decide +kernel
section
variable {X : Cx} {EX : WXc} {CX : CXT} {k : Nat} {C : Addr} {ps : List Str} {kk : List (List Str × List Nat)} {sp : DSp} {x : Str} {e : Expr} {es : List Expr} {w : DTA} {pos p : Pos} {kws : List Keyword}
theorem mkX_go {pins : List (Addr × Obj)} {σ : L2.St} {H : Hp} {s : Shared} {S : Hp} {M : Mp} {P : DK} {R : DXK} {Q : VK} {us : List Value} {kw : List (Str × Value)} {ua : List Value} {ya : List AV} {va : List V} {fI : Addr} {fd : FuncData} {f : Fam}
    (T : EC X.K f C) (iC : PySem.W.findIn X.K (.ref C) "__init__" = some (some (.ref fI))) (tI : PySem.W.typeIn X.K (.ref fI) = some (.type "function")) (F : FnG X.prog X.w X.K X.mg X.base CX k fI fd ps (lSp X.K sp)) (hr : Room (k + 1) X.A) (hgd : X.A.guards = some []) (hx : PAt CX X EX)
    (I : Inv X pins σ H s) (r : Rp X.K S H M) (hz : us.length ≤ sizeLine) (hb : ∀ (s' : Shared) (u : Value), X.K.In s'.heap → BindsTo s' fd ⟨u :: us, kw⟩ (ps.zip (u :: ua))) (rv : RVs X.K S va ya) (ru : Vals va ua)
    (h : ∀ a, M a = none → sp (.ref a :: ya) (um M a (.raw C)) (fun v M2 => v = .dat .none ∧ P (.ref a) M2) R) (kp : To X.K S P Q) (kx : ToX X.K S R (fun c d H' => EX c d σ H')) :
    wpAny (model X.prog X.w) X.A (call (.ref C) us kw) (EP X pins σ Q) X.xe s := by
  obtain ⟨nm, N, q, bs, bm, hdct, sn, sub, ab, col, dd, k0, k1, k2, k3, k5, hC, hT⟩ := PySem.W.excInit_of I.kIn T.ini
  obtain ⟨hp, g, dr, tk, os⟩ := s
  have hsz : hp.objs.size ≤ hp.objs.size + 1 := Nat.le_succ _
  have hn : H (hp.objs.size + 1) = none := I.hok.fresh hsz
  have hq := h (hp.objs.size + 1) (r.fresh hn)
  have kk : ∀ b o, hp.get? b = some o → ((hp.push (PySem.W.kdv_tup us)).push (excO C hp.objs.size)).get? b = some o := fun b o z => Heap.get?_push_of_some _ (Heap.get?_push_of_some _ z)
  have hget : ((hp.push (PySem.W.kdv_tup us)).push (excO C hp.objs.size)).get? (hp.objs.size + 1) = some (excO C hp.objs.size) := by heap_get
  have I2 : Inv X pins σ (upd H (hp.objs.size + 1) (exo (hp.objs.size + 1) C none)) ⟨(hp.push (PySem.W.kdv_tup us)).push (excO C hp.objs.size), g, dr, tk, os⟩ :=
    I.laid (t' := tk) (a := hp.objs.size + 1) (o := exo (hp.objs.size + 1) C none) (h' := (hp.push (PySem.W.kdv_tup us)).push (excO C hp.objs.size)) kk hsz (exo_ok hget)
  have r2 := r.alloc hn (exo (hp.objs.size + 1) C none) (.raw (C := C) upd_same)
  have hsp : lSp X.K sp (.ref (hp.objs.size + 1) :: va) (upd H (hp.objs.size + 1) (exo (hp.objs.size + 1) C none)) (fun v H2 => v = .non ∧ Q (.ref (hp.objs.size + 1)) H2) (fun c d H' => EX c d σ H') :=
    ⟨S, _, _, _, R, r2, .cons (.ref _) rv, hq, fun v M2 S2 H2 u ⟨ev, p2⟩ e2 r3 rv2 => by
      subst ev
      exact ⟨rv_non rv2, kp _ M2 S2 H2 _ p2 e2 r3 (.ref _)⟩, kx⟩
  refine wpAny_call (call_any hT hC (PySem.W.looks_findIn I.kIn iC) (fun self => PySem.W.bind_fn I.kIn self tI) hz
    (codeAny_mono (F.go _ X.stack _ _ ⟨Value.ref (hp.objs.size + 1) :: us, kw⟩ (Value.ref (hp.objs.size + 1) :: ua) _ _ (fun c d H' => EX c d σ H') (hr.make C us kw) (gd_make hgd) (I2.env0.make C us kw) (hb _ _ I2.kIn) (show Vals (V.ref (hp.objs.size + 1) :: va) (Value.ref (hp.objs.size + 1) :: ua) from .cons rfl ru) hsp) fun r s' hq' => ?_))
  cases r with
  | error er => exact hx σ pins _ _ er s' I2 hq'
  | ok fl =>
    cases fl with
    | ret u =>
      obtain ⟨v, H3, I3, rv3, ev, q3⟩ := I2.after hq'
      subst ev
      exact ⟨rv3, ⟨.ref (hp.objs.size + 1), H3, I3, rfl, q3⟩⟩
    | next => exact False.elim hq'
    | brk => exact False.elim hq'
    | cont => exact False.elim hq'
/-- C(e, ..) -/
def wMk (C : Addr) (sp : DSp) (n : Nat) (w : DTA) : DTE := fun δ M P R => w δ M (fun xs M1 => xs.length = n ∧ ∀ a, M1 a = none → sp (.ref a :: xs) (um M1 a (.raw C)) (fun v M2 => v = .dat .none ∧ P (.ref a) M2) R) R
theorem de_mk {n : Nat} (G : MOk X.prog X.w X.K X.mg X.base CX k C ps kk sp) (hr : Room (k + 1) X.A) (hgd : X.A.guards = some []) (hx : PAt CX X EX) (hg : Gl X x) (hm : X.mg x = some (.ref C)) (ha : DA X EX (e :: es) w) (hn : ps.length = n + 1 := by rfl) (hn9 : n ≤ 1000 := by decide)
    (hdb : (x == ("__debug__" : Str)) = false := by decide) (he : starEach (e :: es) X.env = (false, eval e X.env) :: starEach es X.env := by rfl) (hpl : (backTo pos (starEach es X.env)).any (·.1) = false := by rfl) :
    DE X EX (.Call (.Name x p) (e :: es) [] pos) (wMk C sp n w) := by
  obtain ⟨f, T⟩ := G.cls
  obtain ⟨fI, fd, iC, tI, hb, F, _⟩ := G.ex
  refine ⟨fun pins s σ H Q I ⟨S, M, δ, P, R, r, rs, p0, kp, kx⟩ => ?_⟩
  refine wpAny_Call_Name_kw (ld_glob I hg hm ?_ hdb)
  refine PySem.W.callWith_K (h₀ := X.base) I.ok.mod.kin T.kC (thn (ha.run pos pins s σ H (fun vs H1 => ∃ (S1 : Hp) (M1 : Mp) (xs : List AV), Same S S1 ∧ Rp X.K S1 H1 M1 ∧ RVs X.K S1 vs xs ∧ xs.length = n ∧ ∀ a, M1 a = none → sp (.ref a :: xs) (um M1 a (.raw C)) (fun v M2 => v = .dat .none ∧ P (.ref a) M2) R) I
    ⟨S, M, δ, _, R, r, rs, p0, fun xs M1 S1 H1 vs p1 e1 r1 rvs => ⟨S1, M1, xs, e1, r1, rvs, p1⟩, kx⟩) fun us s1 ⟨vs, H1, I1, r1, S1, M1, xs, e1, rp, rvs, ln, q⟩ => ⟨I1.kIn, ?_⟩) he hpl
  have l1 : us.length = n := (Paired.length r1).symm.trans (rvs.length.trans ln)
  refine mkX_go (us := us) (kw := []) (ua := us) (va := vs) (ya := xs) T iC tI F hr hgd hx I1 rp (by rw [sizeLine_eq]; omega) (fun s' u kin => ?_) rvs r1 q (kp.mono e1) (kx.mono e1)
  have z := hb s' (u :: us) kin (by simp [l1, hn])
  rw [List.append_nil] at z
  exact z
/-- C(k = e, ..) -/
def wMkK (C : Addr) (sp : DSp) (ix : List Nat) (n : Nat) (w : DTA) : DTE := fun δ M P R => w δ M (fun xs M1 => xs.length = n ∧ ∀ a, M1 a = none → sp (.ref a :: ix.map fun i => xs.getD i (.dat .none)) (um M1 a (.raw C)) (fun v M2 => v = .dat .none ∧ P (.ref a) M2) R) R
abbrev DKw (X : Cx) (EX : WXc) (kws : List Keyword) (w : DTA) : Prop := PK X kws (lA X.K EX w)
theorem pk_imp {kws : List Keyword} {t t' : TA} (h : PK X kws t) (k : ∀ σ H Q, t' σ H Q → t σ H Q) : PK X kws t' := ⟨fun pos pins s σ H Q I q => h.run pos pins s σ H Q I (k σ H Q q)⟩
theorem dk_nil : DKw X EX [] wNil := pk_imp pk_nil fun σ H Q ⟨S, M, δ, P, R, r, rs, p, k, kx⟩ => k [] M S H [] p (Same.refl S) r .nil
theorem dk_cons {we : DTE} {nm : Option Str} {kpos : Pos} (he : DE X EX e we) (h : DKw X EX kws w) : DKw X EX (⟨nm, e, kpos⟩ :: kws) (wCons we w) := pk_imp (pk_cons he h) fun σ H Q ⟨S, M, δ, P, R, r, rs, p, k, kx⟩ =>
  ⟨S, M, δ, _, R, r, rs, p, fun x M1 S1 H1 v p1 e1 r1 rv => ⟨S1, M1, δ, _, R, r1, rs.mono e1, p1, fun xs M2 S2 H2 vs p2 e2 r2 rvs => k (x :: xs) M2 S2 H2 (v :: vs) p2 (e1.trans e2) r2 (.cons (rv.mono e2) rvs), kx.mono e1⟩, kx⟩
theorem rvs_pick {K : PySem.W.Frag} {S : Hp} {xs : List AV} {vs : List V} (h : RVs K S vs xs) : ∀ ix : List Nat, RVs K S (ix.map fun i => vs.getD i .non) (ix.map fun i => xs.getD i (.dat .none))
  | [] => .nil
  | i :: r => .cons (h.getD i) (rvs_pick h r)
theorem vals_pick {vs : List V} {us : List Value} (h : Vals vs us) : ∀ ix : List Nat, Vals (ix.map fun i => vs.getD i .non) (ix.map fun i => us.getD i .none)
  | [] => .nil
  | i :: r => .cons (Vals.getD i h) (vals_pick h r)
theorem de_mkK {ks : List Str} {ix : List Nat} (G : MOk X.prog X.w X.K X.mg X.base CX k C ps kk sp) (hr : Room (k + 1) X.A) (hgd : X.A.guards = some []) (hx : PAt CX X EX) (hg : Gl X x) (hm : X.mg x = some (.ref C)) (hk : (ks, ix) ∈ kk) (ha : DKw X EX kws w)
    (hall : (backToKw pos (keywordEach kws X.env)).all (·.1.isSome) = true := by rfl) (hks : (backToKw pos (keywordEach kws X.env)).filterMap (·.1) = ks := by rfl) (hdb : (x == ("__debug__" : Str)) = false := by decide)
    (hpl : ((backTo pos (starEach [] X.env)).any (·.1) || (backToKw pos (keywordEach kws X.env)).any (·.1.isNone)) = false := by rfl) :
    DE X EX (.Call (.Name x p) [] kws pos) (wMkK C sp ix ks.length w) := by
  obtain ⟨f, T⟩ := G.cls
  obtain ⟨fI, fd, iC, tI, _, F, hb⟩ := G.ex
  refine ⟨fun pins s σ H Q I ⟨S, M, δ, P, R, r, rs, p0, kp, kx⟩ => ?_⟩
  refine wpAny_Call_Name_kw (ld_glob I hg hm ?_ hdb)
  refine PySem.W.callWith_KW0 (h₀ := X.base) I.ok.mod.kin T.kC hall (thn (ha.run pos pins s σ H (fun vs H1 => ∃ (S1 : Hp) (M1 : Mp) (xs : List AV), Same S S1 ∧ Rp X.K S1 H1 M1 ∧ RVs X.K S1 vs xs ∧ xs.length = ks.length ∧ ∀ a, M1 a = none → sp (.ref a :: ix.map fun i => xs.getD i (.dat .none)) (um M1 a (.raw C)) (fun v M2 => v = .dat .none ∧ P (.ref a) M2) R) I
    ⟨S, M, δ, _, R, r, rs, p0, fun xs M1 S1 H1 vs p1 e1 r1 rvs => ⟨S1, M1, xs, e1, r1, rvs, p1⟩, kx⟩) fun us s1 ⟨vs, H1, I1, r1, S1, M1, xs, e1, rp, rvs, ln, q⟩ => ⟨I1.kIn, ?_⟩) hpl
  rw [hks]
  have l1 : us.length = ks.length := (Paired.length r1).symm.trans (rvs.length.trans ln)
  exact mkX_go (us := []) (kw := ks.zip us) (ua := ix.map fun i => us.getD i .none) (va := ix.map fun i => vs.getD i .non) (ya := ix.map fun i => xs.getD i (.dat .none)) T iC tI F hr hgd hx I1 rp (Nat.zero_le _) (fun s' u kin => hb _ hk s' u us kin l1)
    (rvs_pick rvs ix) (vals_pick r1 ix) q (kp.mono e1) (kx.mono e1)
/-! a class without an own __init__ -/
structure BC (K : PySem.W.Frag) (f : Fam) (C : Addr) : Prop where
  cls : EC K f C
  ini : PySem.W.findIn K (.ref C) "__init__" = some (some (.builtin f.initId))
theorem mk0_go {pins : List (Addr × Obj)} {σ : L2.St} {H : Hp} {s : Shared} {us : List Value} {f : Fam} {Q : Value → Shared → Prop} {E : Value → Shared → Prop} (B : BC X.K f C) (I : Inv X pins σ H s) (hz : us.length ≤ sizeLine)
    (h : ∀ (h' : Heap) (a t1 : Addr), (∀ b o, s.heap.get? b = some o → h'.get? b = some o) → s.heap.objs.size ≤ a → s.heap.get? a = none → h'.get? a = some (excO C t1) → Q (.ref a) { s with heap := h' }) :
    wpAny (model X.prog X.w) X.A (call (.ref C) us) Q E s := by
  obtain ⟨nm, N, q, bs, bm, hdct, sn, sub, ab, col, dd, k0, k1, k2, k3, k5, hC, hT⟩ := PySem.W.excInit_of I.kIn B.cls.ini
  obtain ⟨hp, g, dr, tk, os⟩ := s
  have kk : ∀ b o, hp.get? b = some o → ((hp.push (PySem.W.kdv_tup us)).push (excO C hp.objs.size)).get? b = some o := fun b o z => Heap.get?_push_of_some _ (Heap.get?_push_of_some _ z)
  have hget : ((hp.push (PySem.W.kdv_tup us)).push (excO C hp.objs.size)).get? (hp.objs.size + 1) = some (excO C hp.objs.size) := by heap_get
  have hnew : hp.get? (hp.objs.size + 1) = none := by
    cases z : hp.get? (hp.objs.size + 1) with
    | none => rfl
    | some o => exact absurd (Heap.lt_size z) (Nat.not_lt.mpr (Nat.le_succ _))
  refine wpAny_call (call_any hT hC (PySem.W.looks_findIn I.kIn B.ini) (fun self => ?_) hz (init_any hT (kk _ _ hC) hget hz fun h' t1 k hx => ?_))
  · exact PySem.W.Looks.of_pure (f.init.slot.bind self)
  · exact ⟨rfl, h h' _ t1 (fun b o z => k b o (fun w => by rw [w, hnew] at z; cases z) (kk b o z)) (Nat.le_succ _) hnew hx⟩
def wMk0 (C : Addr) (w : DTA) : DTE := fun δ M P R => w δ M (fun xs M1 => xs.length ≤ 1000 ∧ ∀ a, M1 a = none → P (.ref a) (um M1 a (.raw C))) R
theorem de_mk0 {f : Fam} (B : BC X.K f C) (hg : Gl X x) (hm : X.mg x = some (.ref C)) (ha : DA X EX (e :: es) w)
    (hdb : (x == ("__debug__" : Str)) = false := by decide) (he : starEach (e :: es) X.env = (false, eval e X.env) :: starEach es X.env := by rfl) (hpl : (backTo pos (starEach es X.env)).any (·.1) = false := by rfl) :
    DE X EX (.Call (.Name x p) (e :: es) [] pos) (wMk0 C w) := by
  refine ⟨fun pins s σ H Q I ⟨S, M, δ, P, R, r, rs, p0, kp, kx⟩ => ?_⟩
  refine wpAny_Call_Name_kw (ld_glob I hg hm ?_ hdb)
  refine PySem.W.callWith_K (h₀ := X.base) I.ok.mod.kin B.cls.kC (thn (ha.run pos pins s σ H (fun vs H1 => ∃ (S1 : Hp) (M1 : Mp), Same S S1 ∧ Rp X.K S1 H1 M1 ∧ vs.length ≤ 1000 ∧ ∀ a, M1 a = none → P (.ref a) (um M1 a (.raw C))) I
    ⟨S, M, δ, _, R, r, rs, p0, fun xs M1 S1 H1 vs ⟨l, p1⟩ e1 r1 rvs => ⟨S1, M1, e1, r1, by rw [rvs.length]; exact l, p1⟩, kx⟩) fun us s1 ⟨vs, H1, I1, r1, S1, M1, e1, rp, ln, q⟩ => ⟨I1.kIn, ?_⟩) he hpl
  refine mk0_go (us := us) B I1 (by show us.length ≤ sizeLine; rw [← Paired.length r1, sizeLine_eq]; omega) fun h' a t1 k sz new hx => ?_
  have hn : H1 a = none := I1.hok.fresh sz
  exact ⟨.ref a, _, I1.laid (t' := s1.toks) k sz (exo_ok hx), rfl, kp _ _ S1 _ _ (q a (rp.fresh hn)) e1 (rp.alloc hn _ (.raw upd_same)) (.ref a)⟩
/-! ### raise C(..) -/
def wRaise0 (C : Addr) (w : DTA) : DTS := fun E δ M => w δ M (fun xs M1 => xs.length ≤ 1000 ∧ E.xp (.ref C) [] δ M1) fun c fs M1 => E.xp c fs δ M1
theorem ds_raise0 {f : Fam} {rpos : Pos} (hc : X.calm = true) (tk : Takes X EX) (B : BC X.K f C) (hg : Gl X x) (hm : X.mg x = some (.ref C)) (ha : DA X EX (e :: es) w)
    (hdb : (x == ("__debug__" : Str)) = false := by decide) (he : starEach (e :: es) X.env = (false, eval e X.env) :: starEach es X.env := by rfl) (hpl : (backTo pos (starEach es X.env)).any (·.1) = false := by rfl) :
    DS X EX (.Raise (some (.Call (.Name x p) (e :: es) [] pos)) none rpos) (wRaise0 C w) := by
  refine ps_imp (ps_raise (t := fun σ H Q => lA X.K EX w σ H fun vs H1 => vs.length ≤ 1000 ∧ Q (.ref C) none H1) hc tk fun pins s σ H Q I h => ?_) fun D σ H ⟨S, M, δ, E, r, rs, p0, k⟩ =>
    ⟨S, M, δ, _, _, r, rs, p0, fun xs M1 S1 H1 vs ⟨l, p1⟩ e1 r1 rvs => ⟨by rw [rvs.length]; exact l, k.xp _ [] δ M1 S1 H1 σ none p1 e1 r1 (rs.mono e1) (.inl ⟨rfl, rfl⟩)⟩, k.xp.at_ rs⟩
  refine wpAny_Call_Name_kw (ld_glob I hg hm ?_ hdb)
  refine PySem.W.callWith_K (h₀ := X.base) I.ok.mod.kin B.cls.kC (thn (ha.run pos pins s σ H _ I h) fun us s1 ⟨vs, H1, I1, r1, ln, q⟩ => ⟨I1.kIn, ?_⟩) he hpl
  refine mk0_go (us := us) B I1 (by show us.length ≤ sizeLine; rw [← Paired.length r1, sizeLine_eq]; omega) fun h' a t1 k sz new hx => ?_
  exact ⟨a, _, _, s1, H1, .ref C, none, rfl, I1, k, new, hx, ⟨rfl, rfl⟩, rfl, rfl, I1.hok.fresh sz, rfl, I1.bare, raises_own B.cls.exC B.cls.tyC, q⟩
/-! ### try: .. except C: .. -/
def pickX (K : PySem.W.Frag) (E : DEnds) (c : Value) (fs : List (Str × AV)) : List (Value × DTS) → DSt → Mp → Prop
  | [], δ, M => E.xp c fs δ M
  | (cv, t) :: r, δ, M => onO (PySem.W.exmOne K c cv) fun b => if b = true then t E δ M else pickX K E c fs r δ M
def wTry (K : PySem.W.Frag) (l : List (Value × DTS)) (body : DTS) : DTS := fun E δ M => body { E with xp := fun c fs δ1 M1 => pickX K E c fs l δ1 M1 } δ M
inductive DHds (X : Cx) (EX : WXc) : List ExceptHandler → List (Value × DTS) → Prop
  | nil : DHds X EX [] []
  | cons {x : Str} {c : Value} {t : DTS} {b₀ : Stmt} {suite : List Stmt} {np pos' : Pos} {hds : List ExceptHandler} {l : List (Value × DTS)} (hc : Names X x c)
      (hsu : ∀ (a : Addr) (pn : List (Addr × Obj)), DSs (X.suite a pn) EX (b₀ :: suite) t) (r : DHds X EX hds l) :
      DHds X EX (.ExceptHandler (some (.Name x np)) none (b₀ :: suite) pos' :: hds) ((c, t) :: l)
abbrev lHds (K : PySem.W.Frag) (EX : WXc) (l : List (Value × DTS)) : List (Value × (Addr → Value → Option Addr → TS)) := l.map fun q => (q.1, fun _ _ _ => lS K EX q.2)
theorem hds_l {hds : List ExceptHandler} {l : List (Value × DTS)} (h : DHds X EX hds l) : HdsOk X hds (lHds X.K EX l) := by
  induction h with
  | nil => exact .nil
  | cons hc hsu r ih => exact .cons hc (fun a oe cls d pn _ _ => hsu a ((a, oe) :: pn)) ih
theorem pick_l {K : PySem.W.Frag} {S H : Hp} {σ : L2.St} {δ : DSt} {M : Mp} {E : DEnds} {D : Ends} {c : Value} {d : Option Addr} {fs : List (Str × AV)} (r : Rp K S H M) (rs : RSl K S σ δ) (xd : XD K S H d fs) (k : ToD K EX S E D) :
    ∀ {l : List (Value × DTS)}, pickX K E c fs l δ M → wMany K EX D (lHds K EX l) c d σ H
  | [], h => k.xp c fs δ M S H σ d h (Same.refl S) r rs xd
  | (cv, t) :: l, h => by
    obtain ⟨b, e1, h1⟩ := onO_inv h
    refine ⟨b, e1, fun hb a _ => ?_, fun hb => ?_⟩
    · rw [if_pos hb] at h1
      exact ⟨S, M, δ, E, r, rs, h1, k⟩
    · rw [if_neg (by rw [hb]; decide)] at h1
      exact pick_l r rs xd k h1
theorem ds_try {body : List Stmt} {h₀ : ExceptHandler} {hds : List ExceptHandler} {l : List (Value × DTS)} {tpos : Pos} {wb : DTS} (hs : X.stack = X.env :: X.outer) (hf : X.env.frame = some X.env.locals) (tk : Takes X EX)
    (hb : ∀ (W : WXc) (pn : List (Addr × Obj)) (xe : Value → Shared → Prop), Takes (X.tr pn xe) W → PassesOwn (model X.prog X.w) X.A X.env xe → DSs (X.tr pn xe) W body wb) (hh : DHds X EX (h₀ :: hds) l) :
    DS X EX (.Try body (h₀ :: hds) [] [] tpos) (wTry X.K l wb) := ps_imp (ps_try_many (tb := fun W => lS X.K W wb) hs hf tk hb (hds_l hh)) fun D σ H ⟨S, M, δ, E, r, rs, p0, k⟩ =>
  ⟨S, M, δ, _, r, rs, p0, ⟨k.nx, k.rt, k.bk, k.ct, fun c fs δ1 M1 S1 H1 σ1 d p1 e1 r1 rs1 xd => pick_l r1 rs1 xd (k.mono e1) p1⟩⟩
end
end DL
namespace DL
open PySem PySem.Spec L2 DX
open PyProof.Rows hiding St
/-- C() -/
theorem de_mk_0 {X : Cx} {EX : WXc} {CX : CXT} {k : Nat} {C : Addr} {ps : List Str} {kk : List (List Str × List Nat)} {sp : DSp} {x : Str} {pos p : Pos} (G : MOk X.prog X.w X.K X.mg X.base CX k C ps kk sp) (hr : Room (k + 1) X.A) (hgd : X.A.guards = some []) (hx : PAt CX X EX) (hg : Gl X x) (hm : X.mg x = some (.ref C)) (hn : ps.length = 1 := by rfl)
    (hdb : (x == ("__debug__" : Str)) = false := by decide) : DE X EX (.Call (.Name x p) [] [] pos) (wMk C sp 0 wNil) := by
  obtain ⟨f, T⟩ := G.cls
  obtain ⟨fI, fd, iC, tI, hb, F, _⟩ := G.ex
  refine ⟨fun pins s σ H Q I ⟨S, M, δ, P, R, r, rs, ⟨_, p0⟩, kp, kx⟩ => ?_⟩
  refine wpAny_Call_Name_kw (ld_glob I hg hm ?_ hdb)
  refine PySem.W.callWith_K0 I.kIn T.kC ?_
  refine mkX_go (us := []) (kw := []) (ua := []) (va := []) (ya := []) T iC tI F hr hgd hx I r (Nat.zero_le _) (fun s' u kin => ?_) .nil .nil p0 kp kx
  have z := hb s' [u] kin (by simp [hn])
  rw [List.append_nil] at z
  exact z
end DL
end
section
set_option Elab.async false
set_option linter.all false
set_option maxRecDepth 100000
set_option maxHeartbeats 2000000
/-! D13: t[::-1] of a tuple; word, *parts = t; == through changing lists. -/
namespace DL
open PySem PySem.Spec L2
open PyProof.Rows hiding St
section
variable {prog : Program} {w : World} {A : Around} {E : Value → Shared → Prop} {s : Shared}
theorem adjust_back (n : Nat) : Builtin.Slice.sliceAdjust none none (-1) (n : Int) = ((n : Int) - 1, -1) := by
  unfold Builtin.Slice.sliceAdjust
  simp
theorem places_back (n : Nat) : Builtin.Slice.slicePlaces ((n : Int) - 1) (-1) (-1) = n := by
  unfold Builtin.Slice.slicePlaces
  have h1 : ¬ ((-1 : Int) > 0) := by omega
  rw [if_neg h1]
  split
  · rename_i h
    have : ((n : Int) - 1 - -1 - 1) / (- -1) + 1 = (n : Int) := by
      have e : (- -1 : Int) = 1 := rfl
      rw [e, Int.ediv_one]
      omega
    rw [this]
    rfl
  · omega
theorem pick_back (xs : Array Value) : ((List.range xs.size).filterMap fun (m : Nat) => xs[(((xs.size : Int) - 1) + (m : Int) * (-1)).toNat]?).toArray = xs.toList.reverse.toArray := by
  have e : ((List.range xs.size).filterMap fun (m : Nat) => xs[(((xs.size : Int) - 1) + (m : Int) * (-1)).toNat]?) = ((List.range xs.size).map fun m => xs.size - 1 - m).filterMap (xs[·]?) := by
    rw [List.filterMap_map]
    have z : (fun (m : Nat) => xs[(((xs.size : Int) - 1) + (m : Int) * (-1)).toNat]?) = ((fun x => xs[x]?) ∘ fun m => xs.size - 1 - m) := by
      funext m
      show xs[(((xs.size : Int) - 1) + (m : Int) * (-1)).toNat]? = xs[xs.size - 1 - m]?
      congr 1
      omega
    rw [z]
  rw [e, PySem.W.krv_range, List.filterMap_reverse, PySem.W.krv_all]
theorem getItem_tup_back {t sl : Addr} {items : Array Value} {vl vu vs : Value} {Q : Value → Shared → Prop} (ht : IsTup s.heap t items) (hs : s.heap.IsSliceOf sl vl vu vs) (pl : IsPart vl none) (pu : IsPart vu none) (ps : IsPart vs (some (-1)))
    (h : Q (.ref s.heap.objs.size) { s with heap := s.heap.push { cls := .type "tuple", data := .seq items.toList.reverse.toArray } }) (hz : items.size ≤ sizeLine) : wpAny (model prog w) A (getItem (.ref t) (.ref sl)) Q E s := by
  have fit : sizeOk (.seq items.toList.reverse.toArray) := by
    show items.toList.reverse.toArray.size ≤ sizeLine
    simpa using hz
  obtain ⟨os, h1, h2, h3⟩ := id hs
  have ty : s.TypeIs (.ref sl) "slice" := ⟨os, h1, h2⟩
  unfold getItem
  try with_reducible refine wpAny_holding ?_
  first | refine wpAny_bind (wpAny_pure ?_) | skip
  refine wpAny_bind (wpAny_sequenceKey ht.typeIs (by decide) (wpAny_bind (wpAny_callSpecial?_slot (name := Str.ofString "__getitem__") ht.typeIs (PyProof.Rows.slot_tuple_getitem) (wpAny_call_entry (PyProof.Rows.slot_tuple_getitem) ht.typeIs entry_tuple_getitem ?_ (args_tuple_getitem _ _)))))
  show wpAny _ _ (Builtin.Tuple.tupleItemsOf (.ref t) >>= _) _ _ _
  refine wpAny_bind (tupleItemsOf_ ht (wpAny_bind (wpAny_typeOf ty ?_)))
  rw [if_pos (by decide)]
  refine wpAny_bind ?_
  unfold Builtin.Slice.sliceApplied Builtin.Slice.sliceFields
  refine wpAny_bind (wpAny_bind (wpAny_field h1 h3 (x := vl) rfl (wpAny_bind (wpAny_field h1 h3 (x := vu) rfl (wpAny_bind (wpAny_field h1 h3 (x := vs) rfl (wpAny_pure ?_)))))))
  refine wpAny_bind (HT.slicePart_ ps ?_)
  show wpAny _ _ (if ((-1 : Int) == 0) = true then _ else _) _ _ _
  rw [if_neg (by decide)]
  refine wpAny_bind (HT.slicePart_ pl (wpAny_bind (HT.slicePart_ pu (wpAny_bind (wpAny_pure ?_)))))
  show wpAny _ _ (match Builtin.Slice.sliceAdjust none none (-1) (items.size : Int) with | (lo, hi) => pure (lo, (-1 : Int), Builtin.Slice.slicePlaces lo hi (-1))) _ _ _
  rw [adjust_back]
  show wpAny _ _ (pure (((items.size : Int) - 1), (-1 : Int), Builtin.Slice.slicePlaces ((items.size : Int) - 1) (-1) (-1))) _ _ _
  rw [places_back]
  refine wpAny_pure ?_
  have no : ¬ ((((items.size : Int) - 1) == 0 && (-1 : Int) == 1 && items.size == items.size) = true) := by simp
  show wpAny _ _ (if (((items.size : Int) - 1) == 0 && (-1 : Int) == 1 && items.size == items.size) = true then _ else _) _ _ _
  rw [if_neg no, pick_back]
  first
    | exact wpAny_bind (m := Builtin.Tuple.tupleExact _) (wpAny_newObj_type (wpAny_pure ⟨_, rfl, wpAny_pure h⟩) fit)
    | exact wpAny_bind (m := Builtin.Tuple.tupleExact _) (wpAny_newObj_type (wpAny_bind (wpAny_pure (wpAny_pure ⟨_, rfl, wpAny_pure h⟩))) fit)
    | exact wpAny_bind (wpAny_bind (m := Builtin.Tuple.tupleExact _) (wpAny_newObj_type (wpAny_pure (wpAny_pure ⟨_, rfl, wpAny_pure h⟩)) fit))
/-- x, *y = a tuple of one or more -/
theorem unpack_star1 {t : Addr} {items : Array Value} {Q : List Value → Shared → Prop} (hh : A.handled = none) (ht : IsTup s.heap t items) (h1 : 1 ≤ items.size) (hz : items.size ≤ 16384)
    (hq : ∀ (h' : Heap) (tk : Nat), (∀ b o, s.heap.get? b = some o → h'.get? b = some o) → Q (items.toList.take 1 ++ [.ref h'.objs.size]) { s with heap := h'.push { cls := .type "list", data := .seq (items.toList.drop 1).toArray }, toks := tk }) :
    wpAny (model prog w) A (unpackItems (.ref t) 2 (some 1)) Q E s := by
  have ne : t ≠ s.heap.objs.size := by
    obtain ⟨o, q, _⟩ := ht
    exact Nat.ne_of_lt (Heap.lt_size q)
  unfold unpackItems
  refine wpAny_bind ?_
  unfold notIterableAtAll
  refine wpAny_bind (wpAny_specialOf ht.typeIs (slot_tuple_iter).lookup (wpAny_pure ?_))
  simp only [Bool.false_eq_true, if_false]
  refine wpAny_bind (wpAny_holding (iter_tuple ht (wpAny_bind (wpAny_holding (draw_tuple ne 1 0 _ _ ⟨_, Heap.get?_push_size _ rfl, rfl, rfl⟩ (ht.push _) (by omega) fun g i1 sb => ?_)))))
  have t1 : IsTup g t items := (ht.push _).extBut sb.extBut ne
  rw [Nat.zero_add] at i1
  have i1' := i1
  obtain ⟨oi, qi, _⟩ := i1'
  have t1' := t1
  obtain ⟨ol, ql, _⟩ := t1'
  rw [List.drop_zero]
  have l1 : (items.toList.take 1).length = 1 := by
    rw [List.length_take, Array.length_toList]
    omega
  rw [if_neg (show ¬ ((items.toList.take 1).length < 1) by omega)]
  refine wpAny_bind (wpAny_holding (PySem.W.kun_collect (s := { s with heap := g }) (T := "tuple_iterator") (.inr (.inr (.inr rfl))) (Walks.tuple (A := A.in1) hh s.heap.objs.size t ne items) (fun j u st => st.1.typeIs) (k := 1) (by omega) ⟨i1, t1⟩ (Heap.lt_size qi) (Heap.lt_size ql) (fun g2 tk k2 => ?_) (by rw [sizeLine_eq]; omega)))
  have l2 : (items.toList.drop 1).length = items.size - 1 := by rw [List.length_drop, Array.length_toList]
  show wpAny _ _ (if (items.toList.drop 1).length < 0 then _ else _) _ _ _
  rw [if_neg (by omega)]
  show wpAny _ _ (newList ((items.toList.drop 1).take ((items.toList.drop 1).length - 0)) >>= fun d => pure (items.toList.take 1 ++ [d] ++ (items.toList.drop 1).drop ((items.toList.drop 1).length - 0))) _ _ _
  rw [Nat.sub_zero, List.take_length, List.drop_length]
  have old : ∀ b o, s.heap.get? b = some o → g2.get? b = some o := fun b o e => by
    have hb : b ≠ s.heap.objs.size := Nat.ne_of_lt (Heap.lt_size e)
    exact k2 b o hb ((sb.2 b hb).trans (Heap.get?_push_of_some _ e))
  refine wpAny_bind (wpAny_newList (wpAny_pure ?_) (by rw [l2, sizeLine_eq]; omega))
  rw [List.append_nil]
  exact hq g2 tk old
end
section
variable {X : Cx} {EX : WXc} {e : Expr} {we wa wb : DTE} {pos : Pos}
/-! ### t[::-1] -/
def wRevT (we : DTE) : DTE := fun δ M P R => we δ M (fun x M1 => match x with
  | .dat (.tuple ds) => P (.dat (.tuple ds.reverse)) M1
  | _ => False) R
theorem DDs.rev {K : PySem.W.Frag} {S : Hp} : ∀ {ds : List PyData} {vs : List V}, DDs K S vs ds → DDs K S vs.reverse ds.reverse
  | _, _, .nil => .nil
  | _, _, .cons h t => by
    rw [List.reverse_cons, List.reverse_cons]
    exact (DDs.rev t).append (.cons h .nil)
theorem de_revT {k : Nat} {p1 p2 p3 : Pos} (he : DE X EX e we) : DE X EX (.Subscript e (.Slice none none (some (.UnaryOp .USub (.Constant (.int 1) k p1) p2)) p3) pos) (wRevT we) := by
  refine pe_imp (t := fun σ H Q => lE X.K EX we σ H fun x H1 => ∃ (a : Addr) (vs : List V), x = .ref a ∧ SqT X.K H1 a vs ∧ ∀ q, H1 q = none → Q (.ref q) (upd H1 q (.tup vs.reverse))) ⟨fun pins s σ H Q I h => ?_⟩
    fun σ H Q ⟨S, M, δ, P, R, r, rs, p, k, kx⟩ => ⟨S, M, δ, _, R, r, rs, p, fun x M1 S1 H1 v p0 e1 r1 rv => by
      dsimp only at p0
      split at p0
      · obtain ⟨a, vs, ev, h1, h2⟩ := rv_tup rv
        refine ⟨a, vs, ev, Same.seqT r1.ext h1, fun q hq => ?_⟩
        obtain ⟨e2, r2⟩ := r1.frozen hq (.tup vs.reverse)
        exact k _ M1 _ _ _ p0 (e1.trans e2) r2 (.dat (.tup (SqT.of upd_same) (h2.rev.mono e2)))
      · exact p0.elim, kx⟩
  refine Subscript_ (thn (he.run pins s σ H _ I h) fun v s1 ⟨x, H1, I1, r1, a, vs, ex, hx, q⟩ => ?_)
  subst ex
  cases r1
  have hst : PO X (some (.UnaryOp .USub (.Constant (.int 1) k p1) p2)) (tPart (tUn (rU fun i => .int (-i)) (tC (.int 1)))) := po_some (pe_un un_neg pe_int)
  refine wpAny_Slice (thn (po_none.run pins s1 σ H1 (fun o H2 => o = none ∧ H2 = H1) I1 ⟨rfl, rfl⟩) fun vl s2 ⟨l, H2, I2, pl, el, e2⟩ => ?_)
  subst el e2
  refine thn (po_none.run pins s2 σ H2 (fun o H3 => o = none ∧ H3 = H2) I2 ⟨rfl, rfl⟩) fun vu s3 ⟨u, H3, I3, pu, eu, e3⟩ => ?_
  subst eu e3
  refine thn (hst.run pins s3 σ H3 (fun o H4 => o = some (-1) ∧ H4 = H3) I3 ⟨1, rfl, -1, rfl, rfl, rfl⟩) fun vs' s4 ⟨o, H4, I4, ps, eo, e4⟩ => ?_
  subst eo e4
  have I5 : Inv X pins σ H4 { s4 with heap := s4.heap.push { cls := .type "slice", data := .fields #[vl, vu, vs'] } } := I4.kept (t' := s4.toks) fun b ob z => Heap.get?_push_of_some _ z
  obtain ⟨its, r, ht, hz⟩ := I5.tuple hx
  show wpAny (model X.prog X.w) X.A (subscriptTail e (.Slice none none (some (.UnaryOp .USub (.Constant (.int 1) k p1) p2)) p3) (.ref a) (.ref s4.heap.objs.size)) _ _ _
  refine tail_any (ops := [.ref a, .ref s4.heap.objs.size]) ht.typeIs (PyProof.Rows.slot_tuple_getitem.lookup) ?_ (by with_unfolding_all rfl)
  refine getItem_tup_back ht (Heap.IsSliceOf.new _ vl vu vs') pl pu ps ?_ (by rw [List.size_toArray, ← Paired.length r]; exact hz)
  have hn := I5.hok.fresh (Nat.le_refl _)
  refine ⟨.ref _, _, I5.laid (t' := s4.toks) (o := .tup vs.reverse) (fun b ob z => Heap.get?_push_of_some _ z) (Nat.le_refl _) ?_, rfl, q _ hn⟩
  exact ⟨by rw [List.length_reverse]; exact hz, _, r.reverse, _, Heap.get?_push_size _ rfl, rfl, 0, by simp⟩
/-! ### x, *y = t -/
def gStar (i j : Nat) : DTG := fun x δ M P _ => match x with
  | .dat (.tuple (d :: ds)) => ds.length ≤ 16000 ∧ P ((δ.set i (some (.dat d))).set j (some (.dat (.list ds)))) M
  | _ => False
theorem dg_star {i j kk : Nat} {a b : Expr} {sp : Pos} (hc : X.calm = true) (ha : PG X a (gName i)) (hb : PG X b (gName j)) (h0 : assignEach [a, .Starred b sp] X.env = [(false, assign a X.env), (true, assign b X.env)] := by rfl) :
    DG X EX (.Tuple [a, .Starred b sp] kk pos) (gStar i j) := by
  refine pg_imp (t := fun v σ H Q => ∃ (t : Addr) (x : V) (xs : List V), v = .ref t ∧ SqT X.K H t (x :: xs) ∧ xs.length ≤ 16000 ∧ ∀ q, H q = none → Q ((σ.set i (some x)).set j (some (.ref q))) (upd H q (.lst xs))) ⟨fun pins s σ H v u Q I r h => ?_⟩
    fun v σ H Q ⟨S, M, δ, x, P, R, r, rs, rv, p, k, _⟩ => by
      unfold gStar at p
      split at p
      · rename_i d ds
        obtain ⟨t, vs, ev, h1, h2⟩ := rv_tup rv
        cases h2 with
        | cons q1 q2 =>
          refine ⟨t, _, _, ev, Same.seqT r.ext h1, by rw [q2.length]; exact p.1, fun q hq => ?_⟩
          obtain ⟨e2, r2⟩ := r.frozen hq (.lst _)
          exact k _ M _ _ _ p.2 e2 r2 (((rs.mono e2).set (.dat (q1.mono e2)) i).set (.dat (.lst (SqL.of upd_same) (q2.mono e2))) j)
      · exact p.elim
  obtain ⟨t, x, xs, ev, hq, hl, q⟩ := h
  subst ev
  cases r
  obtain ⟨its, rv, ht, hz⟩ := I.tuple hq
  cases rv with
  | cons r1 r2 =>
    rename_i u1 us
    have ln := Paired.length r2
    show wpAny _ _ (assign (.Tuple [a, .Starred b sp] kk pos) X.env (.ref t)) _ _ _
    rw [assign_Tuple, h0]
    refine wpAny_bind (wpAny_standAt ?_)
    unfold unpack
    refine wpAny_bind (wpAny_holding ?_)
    refine unpack_star1 (I.ok.hd hc) ht (by simp) (by simp; omega) fun h' tk k => ?_
    have I1 : Inv X pins σ H { s with heap := h', toks := tk } := I.kept k
    have hn : H h'.objs.size = none := I1.hok.fresh (Nat.le_refl _)
    have I2 := I1.laid (t' := tk) (a := h'.objs.size) (o := .lst xs) (h' := h'.push { cls := .type "list", data := .seq us.toArray }) (fun b o z => Heap.get?_push_of_some _ z) (Nat.le_refl _) ⟨by rw [sizeLine_eq]; omega, us, 0, r2, Heap.get?_push_size _ rfl⟩
    show wpAny _ _ (assignInOrder [assign a X.env, assign b X.env] [u1, .ref h'.objs.size]) _ _ _
    refine assignInOrder_cons (thn (ha.run pins _ σ _ x u1 (fun σ1 H1 => σ1 = σ.set i (some x) ∧ H1 = upd H h'.objs.size (.lst xs)) I2 r1 ⟨rfl, rfl⟩) fun _ s1 ⟨σ1, H1, I3, e1, e2⟩ => ?_)
    subst e1 e2
    refine assignInOrder_cons (thn (hb.run pins s1 _ _ (.ref h'.objs.size) (.ref h'.objs.size) _ I3 rfl (q _ hn)) fun _ s2 ⟨σ2, H2, I4, q2⟩ => ?_)
    exact assignInOrder_nil ⟨σ2, H2, I4, q2⟩
/-! ### == through lists that change -/
def rdF (M : Mp) : AV → Option PyData
  | .dat d => some d
  | .ref a => match M a with
    | some (.lst xs) => (datsOf xs).map .list
    | _ => none
  | _ => none
theorem rdF_dp {K : PySem.W.Frag} {S H : Hp} {M : Mp} {v : V} {x : AV} {d : PyData} (r : Rp K S H M) (h : RV K S v x) (e : rdF M x = some d) (c : d.canLay0 = true) : Dp K H v d := by
  cases h with
  | dat hd =>
    cases e
    exact hd.dp r.ext c
  | tup _ _ => cases e
  | ref a =>
    cases e3 : M a with
    | none =>
      simp only [rdF, e3] at e
      cases e
    | some o =>
      cases o with
      | lst xs =>
        simp only [rdF, e3] at e
        obtain ⟨ds, e4, e5⟩ := Option.map_eq_some_iff.mp e
        subst e5
        obtain ⟨vs, _, h1, h2⟩ := rp_lst r e3
        have z := datsOf_map e4
        subst z
        exact .lst (SqL.of h1) (h2.to_dat.dp r.ext (by simpa [PyData.canLay0] using c))
      | dct _ =>
        simp only [rdF, e3] at e
        cases e
      | ins _ _ _ =>
        simp only [rdF, e3] at e
        cases e
      | exc _ _ _ =>
        simp only [rdF, e3] at e
        cases e
      | raw _ =>
        simp only [rdF, e3] at e
        cases e
def wEqM (n : Bool) : D2 := fun x y M P => onO (rdF M x) fun d => onO (rdF M y) fun e => SeqAt.shaped d = true ∧ SeqAt.shaped e = true ∧ P (.dat (.bool (n != PyData.eqv d e))) M
theorem do_eqM (hu : X.A.units + 64 < cLine) : OpR X (compareOp .Eq) (lO X.K (wEqM false)) := op_imp (op_eqD hu) fun x y H Q ⟨S, M, a, b, P, r, ra, rb, p, k⟩ => by
  obtain ⟨d, e1, p1⟩ := onO_inv p
  obtain ⟨e, e2, s1, s2, p2⟩ := onO_inv p1
  refine ⟨d, e, rdF_dp r ra e1 (SeqAt.canLay_of_shaped s1), rdF_dp r rb e2 (SeqAt.canLay_of_shaped s2), s1, s2, k (.dat (.bool (PyData.eqv d e))) M S H _ ?_ (Same.refl S) r (.dat (.bl _))⟩
  cases h : PyData.eqv d e <;> rw [h] at p2 <;> exact p2
theorem do_neM (hu : X.A.units + 64 < cLine) : OpR X (compareOp .NotEq) (lO X.K (wEqM true)) := op_imp (op_neD hu) fun x y H Q ⟨S, M, a, b, P, r, ra, rb, p, k⟩ => by
  obtain ⟨d, e1, p1⟩ := onO_inv p
  obtain ⟨e, e2, s1, s2, p2⟩ := onO_inv p1
  refine ⟨d, e, rdF_dp r ra e1 (SeqAt.canLay_of_shaped s1), rdF_dp r rb e2 (SeqAt.canLay_of_shaped s2), s1, s2, k (.dat (.bool (!PyData.eqv d e))) M S H _ ?_ (Same.refl S) r (.dat (.bl _))⟩
  cases h : PyData.eqv d e <;> rw [h] at p2 <;> exact p2
end
end DL
end
section
set_option Elab.async false
set_option linter.all false
set_option maxRecDepth 100000
set_option maxHeartbeats 2000000
/-! D14: names of built-ins; in-tests of dicts as tests. -/
namespace DL
open PySem PySem.Spec L2
open PyProof.Rows hiding St
theorem boot_t_int : bootBuiltins "int" = some (.type "int") := by decide +kernel
theorem boot_t_bool : bootBuiltins "bool" = some (.type "bool") := by decide +kernel
theorem boot_t_str : bootBuiltins "str" = some (.type "str") := by decide +kernel
theorem boot_t_list : bootBuiltins "list" = some (.type "list") := by decide +kernel
theorem boot_t_tuple : bootBuiltins "tuple" = some (.type "tuple") := by decide +kernel
theorem boot_t_dict : bootBuiltins "dict" = some (.type "dict") := by decide +kernel
theorem boot_t_ValueError : bootBuiltins "ValueError" = some (.type "ValueError") := by decide +kernel
theorem boot_t_KeyError : bootBuiltins "KeyError" = some (.type "KeyError") := by decide +kernel
theorem boot_t_LookupError : bootBuiltins "LookupError" = some (.type "LookupError") := by decide +kernel
theorem boot_ord' : bootBuiltins "ord" = some (.builtin "ord") := by decide +kernel
theorem boot_all' : bootBuiltins "all" = some (.builtin "all") := by decide +kernel
theorem boot_repr' : bootBuiltins "repr" = some (.builtin "repr") := by decide +kernel
theorem boot_max' : bootBuiltins "max" = some (.builtin "max") := by decide +kernel
theorem boot_min' : bootBuiltins "min" = some (.builtin "min") := by decide +kernel
theorem boot_len' : bootBuiltins "len" = some (.builtin "len") := by decide +kernel
theorem boot_isinstance' : bootBuiltins "isinstance" = some (.builtin "isinstance") := by decide +kernel
section
variable {X : Cx} {EX : WXc} {a b e : Expr} {wa wb we : DTE} {pos p : Pos}
theorem tB_l {K : PySem.W.Frag} {w : DTE} {t : TE} {σ : L2.St} {H : Hp} {Q : Bool → Hp → Prop} (h : lT K EX (wB w) σ H Q) (k : ∀ Q', lE K EX w σ H Q' → t σ H Q') : tB t σ H Q := by
  obtain ⟨S, M, δ, P, R, r, rs, p, kp, kx⟩ := h
  refine k _ ⟨S, M, δ, _, R, r, rs, p, fun x M1 S1 H1 v p0 e2 r1 rv => ?_, kx⟩
  obtain ⟨b, e1, p1⟩ := onB_inv p0
  subst e1
  exact ⟨b, rv_bl rv, kp b M1 S1 H1 p1 e2 r1⟩
theorem in_l {K : PySem.W.Frag} {σ : L2.St} {H : Hp} {Q : VK} (h : lE K EX (wInD false wa wb) σ H Q) : tDIn (lE K EX wa) (lE K EX wb) σ H Q := by
  obtain ⟨S, M, δ, P, R, r, rs, p, k, kx⟩ := h
  exact ⟨S, M, δ, _, R, r, rs, p, fun x M1 S1 H1 v p1 e1 r1 rv => ⟨S1, M1, δ, _, R, r1, rs.mono e1, p1, fun y M2 S2 H2 u p2 e2 r2 rv2 => by
    obtain ⟨kk, ek, p3⟩ := onO_inv p2
    obtain ⟨o, eo, p4⟩ := onO_inv p3
    obtain ⟨ad, w, ed, g, c⟩ := getD_of r2 rv2 eo
    rw [keyA_v rv ek]
    have z : w.isSome = o.isSome := by
      rcases c with ⟨c1, c2⟩ | ⟨_, _, c1, c2, _⟩
      · rw [c1, c2]; rfl
      · rw [c1, c2]; rfl
    refine ⟨ad, w, ed, g, ?_⟩
    rw [z]
    have p5 : P (.dat (.bool o.isSome)) M2 := by cases hq : o.isSome <;> rw [hq] at p4 <;> exact p4
    exact k _ M2 S2 H2 _ p5 (e1.trans e2) r2 (.dat (.bl _)), kx.mono e1⟩, kx⟩
theorem notIn_l {K : PySem.W.Frag} {σ : L2.St} {H : Hp} {Q : VK} (h : lE K EX (wInD true wa wb) σ H Q) : tDNotIn (lE K EX wa) (lE K EX wb) σ H Q := by
  obtain ⟨S, M, δ, P, R, r, rs, p, k, kx⟩ := h
  exact ⟨S, M, δ, _, R, r, rs, p, fun x M1 S1 H1 v p1 e1 r1 rv => ⟨S1, M1, δ, _, R, r1, rs.mono e1, p1, fun y M2 S2 H2 u p2 e2 r2 rv2 => by
    obtain ⟨kk, ek, p3⟩ := onO_inv p2
    obtain ⟨o, eo, p4⟩ := onO_inv p3
    obtain ⟨ad, w, ed, g, c⟩ := getD_of r2 rv2 eo
    rw [keyA_v rv ek]
    have z : w.isSome = o.isSome := by
      rcases c with ⟨c1, c2⟩ | ⟨_, _, c1, c2, _⟩
      · rw [c1, c2]; rfl
      · rw [c1, c2]; rfl
    refine ⟨ad, w, ed, g, ?_⟩
    rw [z]
    have p5 : P (.dat (.bool (!o.isSome))) M2 := by cases hq : o.isSome <;> rw [hq] at p4 <;> exact p4
    exact k _ M2 S2 H2 _ p5 (e1.trans e2) r2 (.dat (.bl _)), kx.mono e1⟩, kx⟩
theorem dt_inD (hu : X.A.units + 64 < cLine) (ha : DE X EX a wa) (hb : DE X EX b wb) (h1 : behindInMarks .In b = false) : DT X EX (.Compare a [.In] [b] pos) (wB (wInD false wa wb)) := pt_imp (pt_cmp (pc_din (by omega) ha hb) h1) fun _ _ _ h => tB_l h fun _ q => in_l q
theorem dt_notInD (hu : X.A.units + 64 < cLine) (ha : DE X EX a wa) (hb : DE X EX b wb) (h1 : behindInMarks .NotIn b = false) : DT X EX (.Compare a [.NotIn] [b] pos) (wB (wInD true wa wb)) := pt_imp (pt_cmp (pc_dnotin (by omega) ha hb) h1) fun _ _ _ h => tB_l h fun _ q => notIn_l q
theorem dt_notInTab {x : Str} {p2 : Pos} {d : Addr} {kvs : List (Str × PyData)} (T : KTab X.K X.w d kvs) (h : X.mg x = some (.ref d)) (hg : Gl X x) (ha : DE X EX a wa) (n1 : (x == ("__debug__" : Str)) = false := by decide) :
    DT X EX (.Compare a [.NotIn] [.Name x p2] pos) (wB (wInTab true kvs wa)) := by
  obtain ⟨es, n, D⟩ := T.at_
  refine pt_imp (pt_cmpR (op_notIn_kd D) ha (pe_glob (v := .ref d) hg h rfl n1) (by rfl)) fun _ _ _ hh => tB_l hh fun Q' ⟨S, M, δ, P, R, r, rs, p, k, kx⟩ =>
    ⟨S, M, δ, _, R, r, rs, p, fun y M1 S1 H1 v p0 e1 r1 rv => by
      obtain ⟨z, e2, p1⟩ := onS_inv p0
      subst e2
      obtain ⟨q, h1, h2⟩ := tab_in (z := z) T
      refine ⟨z, q, rv_str rv, rfl, h1, ?_⟩
      rw [h2]
      have p2 : P (.dat (.bool (!(tabGet kvs z).isSome))) M1 := by cases hq : (tabGet kvs z).isSome <;> rw [hq] at p1 <;> exact p1
      exact k _ M1 S1 H1 _ p2 e1 r1 (.dat (.bl _)), kx⟩
/-- o.n, the written part named (inside a comprehension's block) -/
theorem de_fldK {K : PySem.W.Frag} {n : Str} (he : DE X EX e we) (hK : X.K = K := by rfl) (hb : attributeBase e n X.env (eval e X.env) = eval e X.env := by rfl) : DE X EX (.Attribute e n pos) (wFld K n we) := by
  subst hK
  exact de_fld he hb
theorem de_isXoK {K : PySem.W.Frag} {x : Str} {D : Addr} {p2 : Pos} (hg : Gl X "isinstance") (hm : X.mg "isinstance" = none) (hg2 : Gl X x) (hm2 : X.mg x = some (.ref D)) (he : DE X EX e we) (hK : X.K = K := by rfl) (hd2 : (x == ("__debug__" : Str)) = false := by decide)
    (hs : starEach [e, .Name x p2] X.env = (false, eval e X.env) :: starEach [.Name x p2] X.env := by rfl) (hs2 : starEach [.Name x p2] X.env = (false, eval (.Name x p2) X.env) :: starEach [] X.env := by rfl) (hp : (backTo pos (starEach [.Name x p2] X.env)).any (·.1) = false := by rfl) :
    DE X EX (.Call (.Name "isinstance" p) [e, .Name x p2] [] pos) (wIsX K (.ref D) we) := by
  subst hK
  exact de_isXo hg hm hg2 hm2 he hd2 hs hs2 hp
def wNoX (t : DTS) : DTS := fun E δ M => t { E with xp := fun _ _ _ _ => False } δ M
/-- nothing leaves it -/
theorem dss_noX {st : List Stmt} {t : DTS} (h : DSs X EXF st t) : DSs X EX st (wNoX t) := pss_imp h fun D σ H ⟨S, M, δ, E, r, rs, p, k⟩ => ⟨S, M, δ, _, r, rs, p, ⟨k.nx, k.rt, k.bk, k.ct, fun _ _ _ _ _ _ _ _ z => z.elim⟩⟩
theorem nm_cls {x : Str} {C : Addr} (h : X.mg x = some (.ref C)) (hg : Gl X x) (hd : (x == ("__debug__" : Str)) = false := by decide) : Names X x (.ref C) := ⟨hg, hd, .inl h⟩
end
end DL
end
section
set_option Elab.async false
set_option linter.all false
set_option maxRecDepth 100000
set_option maxHeartbeats 400000
/-! DG: going through a wish, step by step. -/
namespace DL
open PySem PySem.Spec L2
open PyProof.Rows hiding St
theorem onO_mk {α : Type} {o : Option α} {k : α → Prop} {x : α} (e : o = some x) (h : k x) : onO o k := by
  subst e
  exact h
theorem onB_mk {x : AV} {k : Bool → Prop} {b : Bool} (e : x = .dat (.bool b)) (h : k b) : onB x k := by
  subst e
  exact h
theorem onI_mk {x : AV} {k : Int → Prop} {b : Int} (e : x = .dat (.int b)) (h : k b) : onI x k := by
  subst e
  exact h
theorem onS_mk {x : AV} {k : Str → Prop} {b : Str} (e : x = .dat (.str b)) (h : k b) : onS x k := by
  subst e
  exact h
theorem onL_mk {x : AV} {k : List PyData → Prop} {b : List PyData} (e : x = .dat (.list b)) (h : k b) : onL x k := by
  subst e
  exact h
theorem onDs_mk {xs : List AV} {k : List PyData → Prop} {ds : List PyData} (e : datsOf xs = some ds) (h : k ds) : onDs xs k := by
  unfold onDs
  rw [e]
  exact h
theorem onM_mk {M : Mp} {a : Addr} {xs : List AV} {k : Addr → List AV → Prop} (e : M a = some (.lst xs)) (h : k a xs) : onM M (.ref a) k := by
  unfold onM
  dsimp only
  rw [e]
  exact h
theorem bne_f (b : Bool) : (false != b) = b := by cases b <;> rfl
theorem bne_t (b : Bool) : (true != b) = !b := by cases b <;> rfl
/-- a test told as an equation -/
theorem ifT {c : Bool} {p q : Prop} (e : c = true) (h : p) : if c = true then p else q := by
  rw [if_pos e]
  exact h
theorem ifF {c : Bool} {p q : Prop} (e : c = false) (h : q) : if c = true then p else q := by
  rw [if_neg (by rw [e]; decide)]
  exact h
theorem ifB {c : Bool} {p q : Prop} (h1 : c = true → p) (h2 : c = false → q) : if c = true then p else q := by
  cases c with
  | true => exact ifT rfl (h1 rfl)
  | false => exact ifF rfl (h2 rfl)
/-! ### comprehensions that change nothing, over a list of any kind -/
section
variable {α : Type} {st : AV → DSt → Option DSt} {tt : DTT} {te : DTE} {src : DTI} {δ : DSt} {M : Mp} {P : DK} {R : DXK} {i : Nat}
theorem lcGo_of {G : Mp → Prop} {D : Addr} {fin : List AV → Mp → Prop} (hG : ∀ acc, G (um M D (.lst acc))) (f : α → DSt) (p : α → Bool) (g : α → AV) (mk : α → AV) :
    ∀ (l : List α) (acc : List AV), acc.length + l.length ≤ sizeLine → (∀ a ∈ l, st (mk a) δ = some (f a) ∧ EvT tt (f a) (p a) ∧ (p a = true → EvE te (f a) (g a))) →
      fin (acc ++ (l.filter p).map g) (um M D (.lst (acc ++ (l.filter p).map g))) → lcGo G st tt te δ D fin (l.map mk) acc (um M D (.lst acc))
  | [], acc, _, _, h => ⟨hG _, by simpa using h⟩
  | a :: l, acc, hl, hx, h => by
    obtain ⟨h1, h2, h3⟩ := hx a List.mem_cons_self
    have hr := fun y hy => hx y (List.mem_cons_of_mem a hy)
    simp only [List.length_cons] at hl
    refine ⟨hG _, ?_⟩
    rw [h1]
    refine h2 _ _ _ ?_
    cases hp : p a with
    | false =>
      rw [if_neg Bool.false_ne_true]
      refine ⟨um_same, lcGo_of hG f p g mk l acc (by omega) hr ?_⟩
      rw [List.filter_cons_of_neg (by rw [hp]; decide)] at h
      exact h
    | true =>
      rw [if_pos rfl]
      refine h3 hp _ _ _ ⟨um_same, by omega, ?_⟩
      rw [um_um]
      refine lcGo_of hG f p g mk l (acc ++ [g a]) (by simp; omega) hr ?_
      rw [List.filter_cons_of_pos hp, List.map_cons] at h
      simpa using h
/-- a comprehension over what does not change: l's items, p the test, g what is made -/
theorem g_lc (f : α → DSt) (p : α → Bool) (g : α → PyData) (mk : α → AV) (l : List α) (hs : ∀ Pk : List AV → (Mp → Prop) → Mp → Prop, Pk (l.map mk) GT M → src δ M Pk R) (hl : l.length ≤ sizeLine)
    (hx : ∀ a ∈ l, st (mk a) δ = some (f a) ∧ EvT tt (f a) (p a) ∧ (p a = true → EvE te (f a) (.dat (g a)))) (h : P (.dat (.list ((l.filter p).map g))) M) : wLc src st tt te δ M P R :=
  hs _ fun D hD => lcGo_of (G := GT) (fun _ => trivial) f p (fun a => .dat (g a)) mk l [] (by simpa using hl) hx ⟨by simp [um_same], by
    have z := datsOf_dats ((l.filter p).map g)
    rw [List.map_map] at z
    show onDs ((l.filter p).map (AV.dat ∘ g)) _
    unfold onDs
    rw [z, dm_um hD]
    exact h⟩
theorem filter_yes (l : List α) : l.filter (fun _ => true) = l := List.filter_eq_self.mpr fun _ _ => rfl
theorem boolsOf_of (l : List α) (b : α → Bool) : boolsOf (l.map fun a => .bool (b a)) = some (l.map b) := by
  have := boolsOf_bools (l.map b)
  rw [List.map_map] at this
  exact this
theorem g_lenSet {wa : DTE} {xs : List Str} (hw : ∀ Pk : DK, Pk (.dat (.list (xs.map .str))) M → wa δ M Pk R) (hl : xs.length < 4000) (h : P (.dat (.int ((ddUp xs).length : Nat))) M) : wLenSet wa δ M P R := by
  refine hw _ ?_
  refine onL_mk rfl ?_
  unfold onStrs
  rw [List.map_map]
  exact onO_mk (strsOf_strs xs) ⟨hl, h⟩
/-- all([test for x in ..]) -/
theorem g_all (l : List α) (mk : α → AV) (b : α → Bool) (hs : ∀ Pk : List AV → (Mp → Prop) → Mp → Prop, Pk (l.map mk) GT M → src δ M Pk R) (hl : l.length ≤ sizeLine) (hx : ∀ a ∈ l, EvE te (δ.set i (some (mk a))) (.dat (.bool (b a)))) (h : P (.dat (.bool (l.all b))) M) :
    wLc src (fun x δ => some (δ.set i (some x))) (fun _ M P _ => P true M) te δ M (fun x M1 => wAll x M1 P) R := by
  refine g_lc (fun a => δ.set i (some (mk a))) (fun _ => true) (fun a => .bool (b a)) mk l hs hl (fun a ha => ⟨rfl, fun M P R h => h, fun _ => hx a ha⟩) ?_
  unfold wAll onL
  refine onO_mk (x := l.map b) ?_ ?_
  · rw [filter_yes]
    exact boolsOf_of l b
  · rw [List.all_map]
    exact h
end
end DL
end
section
set_option Elab.async false
set_option linter.all false
set_option maxRecDepth 100000
set_option maxHeartbeats 400000
/-! DQ: equations of the wishes at data of a known form. -/
namespace DL
open PySem PySem.Spec
open PyProof.Rows hiding St
open L2 hiding wNot
section
variable {α : Type} {k : α → Prop} {M : Mp} {P : DK} {a : Addr} {ds es : List PyData}
theorem q_onO (x : α) : onO (some x) k = k x := rfl
theorem q_onO0 : onO (none : Option α) k = False := rfl
theorem q_onB {k : Bool → Prop} (b : Bool) : onB (.dat (.bool b)) k = k b := rfl
theorem q_onI {k : Int → Prop} (i : Int) : onI (.dat (.int i)) k = k i := rfl
theorem q_onS {k : Str → Prop} (i : Str) : onS (.dat (.str i)) k = k i := rfl
theorem q_onL {k : List PyData → Prop} : onL (.dat (.list ds)) k = k ds := rfl
theorem q_ty (d : PyData) : tyA M (.dat d) = some (tyD d) := rfl
theorem q_tyT {xs : List AV} : tyA M (.tup xs) = some "tuple" := rfl
theorem q_ty0 : tyD .none = "NoneType" := rfl
theorem q_ty1 (b : Bool) : tyD (.bool b) = "bool" := rfl
theorem q_ty2 (b : Int) : tyD (.int b) = "int" := rfl
theorem q_ty3 (b : Str) : tyD (.str b) = "str" := rfl
theorem q_ty4 : tyD (.list ds) = "list" := rfl
theorem q_ty5 : tyD (.tuple ds) = "tuple" := rfl
theorem q_ty6 (b : List (PyData × PyData)) : tyD (.dict b) = "dict" := rfl
theorem q_lenT : lenA M (.dat (.tuple ds)) = some ds.length := rfl
theorem q_lenL : lenA M (.dat (.list ds)) = some ds.length := rfl
theorem q_lenS (z : Str) : lenA M (.dat (.str z)) = if z.length ≤ sizeLine then some z.length else none := rfl
theorem q_ixT (i : Int) : itemA M (.dat (.tuple ds)) i = (atI ds i).map .dat := rfl
theorem q_ixL (i : Int) : itemA M (.dat (.list ds)) i = (atI ds i).map .dat := rfl
theorem q_ixA {xs : List AV} (i : Int) : itemA M (.tup xs) i = atI xs i := rfl
theorem q_leI (i j : Int) : wLe (.dat (.int i)) (.dat (.int j)) M P = P (.dat (.bool (decide (i ≤ j)))) M := rfl
theorem q_leS (i j : Str) : wLe (.dat (.str i)) (.dat (.str j)) M P = P (.dat (.bool (!strLt j i))) M := rfl
theorem q_ltI (i j : Int) : wLt (.dat (.int i)) (.dat (.int j)) M P = P (.dat (.bool (decide (i < j)))) M := rfl
theorem q_ltS (i j : Str) : wLt (.dat (.str i)) (.dat (.str j)) M P = P (.dat (.bool (strLt i j))) M := rfl
theorem q_I0 {g : Int → Int → Bool} (i j : Int) : onI0 g (.dat (.int i)) (.dat (.int j)) M P = P (.dat (.bool (g i j))) M := rfl
theorem q_II {C : Int → Int → Prop} {g : Int → Int → PyData} (i j : Int) : onII C g (.dat (.int i)) (.dat (.int j)) M P = (C i j ∧ P (.dat (g i j)) M) := rfl
theorem q_sub (i j : Int) : wSub (.dat (.int i)) (.dat (.int j)) M P = P (.dat (.int (i - j))) M := rfl
theorem q_addI (i j : Int) : wAdd (.dat (.int i)) (.dat (.int j)) M P = P (.dat (.int (i + j))) M := rfl
theorem q_addS (i j : Str) : wAdd (.dat (.str i)) (.dat (.str j)) M P = (i.length + j.length ≤ sizeLine ∧ P (.dat (.str (i ++ j))) M) := rfl
theorem q_addT : wAdd (.dat (.tuple ds)) (.dat (.tuple es)) M P = (ds.length + es.length ≤ sizeLine ∧ P (.dat (.tuple (ds ++ es))) M) := rfl
theorem q_addL {a b : Addr} : wAdd (.ref a) (.ref b) M P = ∃ xs ys, M a = some (.lst xs) ∧ M b = some (.lst ys) ∧ xs.length + ys.length ≤ sizeLine ∧ ∀ p, M p = none → P (.ref p) (um M p (.lst (xs ++ ys))) := rfl
theorem q_mulI (i j : Int) : wMul (.dat (.int i)) (.dat (.int j)) M P = (CMul i j ∧ P (.dat (.int (i * j))) M) := rfl
theorem q_mulS (i : Str) (j : Int) : wMul (.dat (.str i)) (.dat (.int j)) M P = (MulOk i j ∧ P (.dat (.str (Txt.mul i j))) M) := rfl
def isNone (d : PyData) : Bool := match d with
  | .none => true
  | _ => false
theorem q_none (d : PyData) : isNoneA (.dat d) = isNone d := by cases d <;> rfl
theorem q_noneR : isNoneA (.ref a) = false := rfl
theorem q_is (n : Bool) (x : AV) : wIs n x (.dat .none) M P = P (.dat (.bool (n != isNoneA x))) M := rfl
theorem q_isB (n a b : Bool) : wIs n (.dat (.bool a)) (.dat (.bool b)) M P = P (.dat (.bool (n != (a == b)))) M := rfl
theorem q_inT (n : Bool) (d : PyData) : wIn n (.dat d) (.dat (.tuple ds)) M P = (flatD d = true ∧ ds.all flatD = true ∧ P (.dat (.bool (n != anyIn d ds))) M) := rfl
theorem q_inL (n : Bool) (d : PyData) : wIn n (.dat d) (.dat (.list ds)) M P = (flatD d = true ∧ ds.all flatD = true ∧ P (.dat (.bool (n != anyIn d ds))) M) := rfl
theorem q_inS (n : Bool) (i j : Str) : wIn n (.dat (.str i)) (.dat (.str j)) M P = P (.dat (.bool (n != inStr i j))) M := rfl
theorem q_inM (n : Bool) (d : PyData) : wIn n (.dat d) (.ref a) M P = ∃ ds, M a = some (.lst (ds.map .dat)) ∧ flatD d = true ∧ ds.all flatD = true ∧ P (.dat (.bool (n != anyIn d ds))) M := rfl
theorem q_eq (n : Bool) (x y : AV) : wEqM n x y M P = onO (rdF M x) fun d => onO (rdF M y) fun e => SeqAt.shaped d = true ∧ SeqAt.shaped e = true ∧ P (.dat (.bool (n != PyData.eqv d e))) M := rfl
theorem q_rd (d : PyData) : rdF M (.dat d) = some d := rfl
theorem q_ord (z : Str) : wOrd (.dat (.str z)) M P = (z.length = 1 ∧ P (.dat (.int (z.cps.getD 0 0 : Nat))) M) := rfl
theorem q_ix (x y : AV) : wIx x y M P = onI y fun i => onO (itemA M x i) fun z => P z M := rfl
theorem q_tup : mkTup (ds.map .dat) = .dat (.tuple ds) := by
  unfold mkTup
  rw [datsOf_dats]
theorem q_tup0 : mkTup [] = .dat (.tuple []) := rfl
theorem q_tup1 (a : PyData) : mkTup [.dat a] = .dat (.tuple [a]) := rfl
theorem q_tup2 (a b : PyData) : mkTup [.dat a, .dat b] = .dat (.tuple [a, b]) := rfl
theorem q_tup3 (a b c : PyData) : mkTup [.dat a, .dat b, .dat c] = .dat (.tuple [a, b, c]) := rfl
theorem q_eqI (a b : Int) : PyData.eqv (.int a) (.int b) = decide (a = b) := by unfold PyData.eqv; by_cases h : a = b <;> simp [h]
theorem q_eqS (a b : Str) : PyData.eqv (.str a) (.str b) = decide (a = b) := by unfold PyData.eqv; by_cases h : a = b <;> simp [h]
theorem q_shI (a : Int) : SeqAt.shaped (.int a) = true := rfl
theorem shS {a : Str} (h : PyData.strOk a = true) : SeqAt.shaped (.str a) = true := by
  unfold SeqAt.shaped
  simp [PyData.canLay0, PyData.depth, h]
theorem q_flI (a : Int) : flatD (.int a) = true := rfl
theorem q_flS (a : Str) : flatD (.str a) = true := rfl
theorem q_flN : flatD .none = true := rfl
theorem q_flB (a : Bool) : flatD (.bool a) = true := rfl
theorem q_at0 {x : α} {xs : List α} : atI (x :: xs) 0 = some x := by
  simp [atI, L2.ixN]
theorem q_at1 {x y : α} {xs : List α} : atI (x :: y :: xs) 1 = some y := by
  have e : ixN (x :: y :: xs).length 1 = some 1 := by
    unfold ixN
    rw [if_pos (by decide), if_pos (by simp only [List.length_cons]; omega)]
    rfl
  unfold atI
  rw [e]
  rfl
theorem q_at2 {x y z : α} {xs : List α} : atI (x :: y :: z :: xs) 2 = some z := by
  have e : ixN (x :: y :: z :: xs).length 2 = some 2 := by
    unfold ixN
    rw [if_pos (by decide), if_pos (by simp only [List.length_cons]; omega)]
    rfl
  unfold atI
  rw [e]
  rfl
theorem q_star {i j : Nat} {δ : DSt} {Pk : DSt → Mp → Prop} {R : DXK} {d : PyData} : gStar i j (.dat (.tuple (d :: ds))) δ M Pk R = (ds.length ≤ 16000 ∧ Pk ((δ.set i (some (.dat d))).set j (some (.dat (.list ds)))) M) := rfl
theorem q_gN {i : Nat} {δ : DSt} {Pk : DSt → Mp → Prop} {R : DXK} {x : AV} : gN i x δ M Pk R = Pk (δ.set i (some x)) M := rfl
theorem q_onDs {xs : List AV} {k : List PyData → Prop} : onDs xs k = onO (datsOf xs) k := by
  unfold onDs onO
  cases datsOf xs <;> rfl
theorem q_dats0 : datsOf [] = some [] := rfl
theorem q_datsc {d : PyData} {r : List AV} : datsOf (.dat d :: r) = (datsOf r).map (d :: ·) := rfl
theorem q_sz0 : (0 ≤ sizeLine) = True := eq_true (Nat.zero_le _)
theorem q_sz1 : (1 ≤ sizeLine) = True := eq_true (by decide)
theorem q_sz2 : (2 ≤ sizeLine) = True := eq_true (by decide)
theorem q_sz3 : (3 ≤ sizeLine) = True := eq_true (by decide)
theorem q_sz4 : (4 ≤ sizeLine) = True := eq_true (by decide)
theorem q_sz5 : (5 ≤ sizeLine) = True := eq_true (by decide)
theorem q_sz6 : (6 ≤ sizeLine) = True := eq_true (by decide)
theorem q_sz7 : (7 ≤ sizeLine) = True := eq_true (by decide)
theorem q_sz11 : (11 ≤ sizeLine) = True := eq_true (by decide)
theorem q_sz12 : (12 ≤ sizeLine) = True := eq_true (by decide)
theorem q_keyS (z : Str) : keyA (.dat (.str z)) = some (.inr z) := rfl
theorem q_getD {b : List (PyData × PyData)} {z : L2.Key} : getD M (.dat (.dict b)) z = some ((dGet b z).map .dat) := rfl
theorem q_dct {b : List (PyData × PyData)} {δ : DSt} {R : DXK} : wDct b δ M P R = P (.dat (.dict b)) M := rfl
theorem dGet_tab : ∀ (l : List (Str × PyData)) (z : Str), dGet (l.map fun q => (.str q.1, q.2)) (.inr z) = tabGet l z
  | [], _ => rfl
  | (x, v) :: r, z => by
    show (if keyA (.dat (.str x)) = some (.inr z) then some v else dGet (r.map fun q => (.str q.1, q.2)) (.inr z)) = (if x = z then some v else tabGet r z)
    rw [dGet_tab r z, q_keyS]
    by_cases e : x = z
    · subst e
      rw [if_pos rfl, if_pos rfl]
    · rw [if_neg (fun h => e (Sum.inr.inj (Option.some.inj h))), if_neg e]
theorem q_partsT : partsA (.dat (.tuple ds)) = some (ds.map .dat) := rfl
theorem q_ixU {q : Addr} {xs : List AV} {i : Int} : itemA (um M q (.lst xs)) (.ref q) i = atI xs i := by
  simp only [itemA, um_same]
theorem q_onMU {q : Addr} {xs : List AV} {k : Addr → List AV → Prop} : onM (um M q (.lst xs)) (.ref q) k = k q xs := by
  simp only [onM, um_same]
theorem q_lenU {q : Addr} {xs : List AV} : lenA (um M q (.lst xs)) (.ref q) = some xs.length := by
  simp only [lenA, um_same]
theorem q_um {q : Addr} {o u : MO} : um (um M q o) q u = um M q u := um_um
theorem q_n30 : ixN 3 0 = some 0 := rfl
theorem q_n31 : ixN 3 1 = some 1 := rfl
theorem q_n32 : ixN 3 2 = some 2 := rfl
theorem q_max (i j : Int) : wMax2 (.dat (.int i)) (.dat (.int j)) M P = (True ∧ P (.dat (.int (if j > i then j else i))) M) := rfl
theorem q_map {β : Type} {f : α → β} (x : α) : Option.map f (some x) = some (f x) := rfl
theorem q_all0 {p : α → Bool} : ([] : List α).all p = true := rfl
theorem q_allc {p : α → Bool} {x : α} {l : List α} : (x :: l).all p = (p x && l.all p) := rfl
end
end DL
end
section
set_option Elab.async false
set_option linter.all false
/-! DR: what is shown of a datum is a text that can be held against others. -/
namespace DL
open PySem PySem.Spec
def OkZ (z : Str) : Prop := ∀ c ∈ z.cps.toList, c < 1114112
theorem okz_of {z : Str} (h : PyData.strOk z = true) : OkZ z := fun c hc => by
  unfold PyData.strOk at h
  rw [Array.all_eq_true'] at h
  exact of_decide_eq_true (h c (Array.mem_toList_iff.mp hc))
theorem okz_to {z : Str} (h : OkZ z) : PyData.strOk z = true := by
  unfold PyData.strOk
  rw [Array.all_eq_true']
  exact fun c hc => decide_eq_true (h c (Array.mem_toList_iff.mpr hc))
theorem okz_app {a b : Str} (ha : OkZ a) (hb : OkZ b) : OkZ (a ++ b) := fun c hc => by
  have hc' : c ∈ (a.cps ++ b.cps).toList := hc
  rw [Array.toList_append, List.mem_append] at hc'
  exact hc'.elim (ha c) (hb c)
theorem chr_lt (c : Char) : c.toNat < 1114112 := by
  have := c.valid
  rcases this with h | h
  · have : c.toNat = c.val.toNat := rfl
    omega
  · have : c.toNat = c.val.toNat := rfl
    omega
theorem okz_lit (s : String) : OkZ (Str.ofString s) := fun c hc => by
  rw [Str.ofString_eq_toList] at hc
  simp at hc
  obtain ⟨d, _, rfl⟩ := hc
  exact chr_lt d
theorem okl_repr {q c : Nat} (hc : c < 1114112) (hq : q < 1114112) : ∀ x ∈ Builtin.Str.reprChar q c, x < 1114112 := by
  have hx : ∀ w, ∀ x ∈ List.replicate (w - ((Nat.toDigits 16 c).map Char.toNat).length) 48 ++ (Nat.toDigits 16 c).map Char.toNat, x < 1114112 := fun w x hx => by
    rcases List.mem_append.mp hx with h | h
    · have := List.eq_of_mem_replicate h
      omega
    · obtain ⟨d, _, rfl⟩ := List.mem_map.mp h
      exact chr_lt d
  unfold Builtin.Str.reprChar
  dsimp only
  repeat' split
  all_goals
    intro x h
    simp only [List.mem_append, List.mem_cons, List.not_mem_nil, or_false] at h
  all_goals first
    | (rcases h with rfl | rfl <;> omega)
    | omega
    | (rcases h with (rfl | rfl) | h
       · omega
       · omega
       · exact hx _ x (List.mem_append.mpr h))
theorem okl_fold {q : Nat} (hq : q < 1114112) : ∀ (l : List Nat) (acc : Array Nat), (∀ c ∈ l, c < 1114112) → (∀ c ∈ acc.toList, c < 1114112) → ∀ c ∈ (l.foldl (fun out c => out ++ (Builtin.Str.reprChar q c).toArray) acc).toList, c < 1114112
  | [], acc, _, h => h
  | c :: r, acc, h, ha => by
    rw [List.foldl_cons]
    refine okl_fold hq r _ (fun d hd => h d (List.mem_cons_of_mem _ hd)) fun d hd => ?_
    rw [Array.toList_append, List.mem_append] at hd
    rcases hd with hd | hd
    · exact ha d hd
    · exact okl_repr (h c List.mem_cons_self) hq d (by simpa using hd)
theorem okz_repr {z : Str} (h : OkZ z) : OkZ (reprText z) := fun c hc => by
  have hq : reprQuote z < 1114112 := by
    unfold reprQuote
    split <;> omega
  unfold reprText at hc
  have hc' : c ∈ ((z.cps.foldl (fun out c => out ++ (Builtin.Str.reprChar (reprQuote z) c).toArray) #[reprQuote z]).push (reprQuote z)).toList := hc
  rw [Array.toList_push, List.mem_append, ← Array.foldl_toList] at hc'
  rcases hc' with hc' | hc'
  · refine okl_fold hq _ _ h (fun d hd => ?_) c hc'
    have : d = reprQuote z := by simpa using hd
    omega
  · have : c = reprQuote z := by simpa using hc'
    omega
theorem okz_join {s : Str} (hs : OkZ s) : ∀ {ts : List Str}, (∀ t ∈ ts, OkZ t) → OkZ (Str.join s ts)
  | [], _ => fun c hc => by
    have : c ∈ ([] : List Nat) := hc
    cases this
  | [x], h => h x List.mem_cons_self
  | x :: y :: r, h => by
    show OkZ (x ++ s ++ Str.join s (y :: r))
    exact okz_app (okz_app (h x List.mem_cons_self) hs) (okz_join hs fun t ht => h t (List.mem_cons_of_mem _ ht))
theorem okz_from : ∀ (ts : List Str) (k : Nat) (acc : Str), OkZ acc → (∀ t ∈ ts, OkZ t) → OkZ (textFrom k acc ts)
  | [], k, acc, h, _ => h
  | t :: r, k, acc, h, ht => by
    show OkZ (textFrom (k + 1) (acc ++ (if k > 0 then ", " else "" : String) ++ t) r)
    refine okz_from r (k + 1) _ (okz_app (okz_app h ?_) (ht t List.mem_cons_self)) fun x hx => ht x (List.mem_cons_of_mem _ hx)
    exact okz_lit _
mutual
def okD : PyData → Prop
  | .none => True
  | .bool _ => True
  | .int _ => True
  | .str x => OkZ x
  | .list xs => okDs xs
  | .tuple xs => okDs xs
  | .dict kvs => okDk kvs
def okDs : List PyData → Prop
  | [] => True
  | x :: xs => okD x ∧ okDs xs
def okDk : List (PyData × PyData) → Prop
  | [] => True
  | (k, v) :: r => okD k ∧ okD v ∧ okDk r
end
mutual
theorem okz_shown : ∀ (d : PyData), okD d → OkZ d.shown
  | .none, _ => okz_lit _
  | .bool b, _ => by cases b <;> exact okz_lit _
  | .int i, _ => okz_lit _
  | .str x, h => okz_repr (by simpa only [okD] using h)
  | .list xs, h => by
    simp only [PyData.shown]
    exact okz_app (okz_from _ 0 _ (okz_lit _) (okz_all xs (by simpa only [okD] using h))) (okz_lit _)
  | .tuple xs, h => by
    simp only [PyData.shown]
    unfold tupleText
    exact okz_app (okz_app (okz_lit _) (okz_join (okz_lit _) (okz_all xs (by simpa only [okD] using h)))) (okz_lit _)
  | .dict kvs, h => by
    simp only [PyData.shown]
    unfold dictText
    exact okz_app (okz_app (okz_lit _) (okz_join (okz_lit _) (okz_kv kvs (by simpa only [okD] using h)))) (okz_lit _)
theorem okz_all : ∀ (xs : List PyData), okDs xs → ∀ t ∈ PyData.shownAll xs, OkZ t
  | [], _, t, ht => by
    simp [PyData.shownAll] at ht
  | x :: xs, h, t, ht => by
    simp only [okDs] at h
    simp only [PyData.shownAll, List.mem_cons] at ht
    rcases ht with rfl | ht
    · exact okz_shown x h.1
    · exact okz_all xs h.2 t ht
theorem okz_kv : ∀ (kvs : List (PyData × PyData)), okDk kvs → ∀ t ∈ PyData.shownKv kvs, OkZ t
  | [], _, t, ht => by
    simp [PyData.shownKv] at ht
  | (k, v) :: r, h, t, ht => by
    simp only [okDk] at h
    simp only [PyData.shownKv, List.mem_cons] at ht
    rcases ht with rfl | ht
    · exact okz_app (okz_app (okz_shown k h.1) (okz_lit _)) (okz_shown v h.2.1)
    · exact okz_kv r h.2.2 t ht
end
mutual
theorem okd_lay : ∀ (d : PyData), d.canLay0 = true → okD d
  | .none, _ => by simp only [okD]
  | .bool _, _ => by simp only [okD]
  | .int _, _ => by simp only [okD]
  | .str x, h => by
    simp only [okD]
    exact okz_of (by simpa only [PyData.canLay0] using h)
  | .list xs, h => by
    simp only [okD]
    exact okds_lay xs (by simpa only [PyData.canLay0] using h)
  | .tuple xs, h => by
    simp only [okD]
    exact okds_lay xs (by simpa only [PyData.canLay0] using h)
  | .dict _, h => by simp [PyData.canLay0] at h
theorem okds_lay : ∀ (xs : List PyData), PyData.canLayAll0 xs = true → okDs xs
  | [], _ => by simp only [okDs]
  | x :: xs, h => by
    simp only [PyData.canLayAll0, Bool.and_eq_true] at h
    simp only [okDs]
    exact ⟨okd_lay x h.1, okds_lay xs h.2⟩
end
theorem shown_shaped {d : PyData} (h : okD d) : SeqAt.shaped (.str d.shown) = true := shS (okz_to (okz_shown d h))
end DL
end
section
set_option Elab.async false
set_option linter.all false
set_option maxRecDepth 100000
set_option maxHeartbeats 4000000
namespace K13
open PySem PySem.Spec L2 DL DX
open PyProof.Rows hiding St
theorem sc_is_whole : FnScope N_is_whole ["thing", "low", "high"] (defScope s_is_whole) := ⟨rfl, rfl, rfl, by decide +kernel, rfl, by decide +kernel, by decide +kernel⟩
theorem sc_is_name : FnScope N_is_name ["thing"] (defScope s_is_name) := ⟨rfl, rfl, rfl, by decide +kernel, rfl, by decide +kernel, by decide +kernel⟩
theorem sc_is_text : FnScope N_is_text ["thing"] (defScope s_is_text) := ⟨rfl, rfl, rfl, by decide +kernel, rfl, by decide +kernel, by decide +kernel⟩
theorem sc_is_number : FnScope N_is_number ["thing"] (defScope s_is_number) := ⟨rfl, rfl, rfl, by decide +kernel, rfl, by decide +kernel, by decide +kernel⟩
theorem sc_is_pair : FnScope N_is_pair ["thing", "word"] (defScope s_is_pair) := ⟨rfl, rfl, rfl, by decide +kernel, rfl, by decide +kernel, by decide +kernel⟩
theorem sc_is_thing : FnScope N_is_thing ["thing"] (defScope s_is_thing) := ⟨rfl, rfl, rfl, by decide +kernel, rfl, by decide +kernel, by decide +kernel⟩
theorem sc_is_worth_within : FnScope N_is_worth_within ["thing", "deep"] (defScope s_is_worth_within) := ⟨rfl, rfl, rfl, by decide +kernel, rfl, by decide +kernel, by decide +kernel⟩
theorem sc_is_worth : FnScope N_is_worth ["thing"] (defScope s_is_worth) := ⟨rfl, rfl, rfl, by decide +kernel, rfl, by decide +kernel, by decide +kernel⟩
theorem sc_is_rule : FnScope N_is_rule ["thing"] (defScope s_is_rule) := ⟨rfl, rfl, rfl, by decide +kernel, rfl, by decide +kernel, by decide +kernel⟩
theorem sc_are_rules : FnScope N_are_rules ["thing"] (defScope s_are_rules) := ⟨rfl, rfl, rfl, by decide +kernel, rfl, by decide +kernel, by decide +kernel⟩
theorem sc__law_cell : FnScope N__law_cell ["script", "k"] (defScope s__law_cell) := ⟨rfl, rfl, rfl, by decide +kernel, rfl, by decide +kernel, by decide +kernel⟩
theorem sc__law_purse : FnScope N__law_purse ["cell"] (defScope s__law_purse) := ⟨rfl, rfl, rfl, by decide +kernel, rfl, by decide +kernel, by decide +kernel⟩
theorem sc__law_take : FnScope N__law_take ["purse", "below"] (defScope s__law_take) := ⟨rfl, rfl, rfl, by decide +kernel, rfl, by decide +kernel, by decide +kernel⟩
theorem sc__law_pool : FnScope N__law_pool ["purse", "size"] (defScope s__law_pool) := ⟨rfl, rfl, rfl, by decide +kernel, rfl, by decide +kernel, by decide +kernel⟩
theorem sc__law_rules : FnScope N__law_rules ["purse", "pool"] (defScope s__law_rules) := ⟨rfl, rfl, rfl, by decide +kernel, rfl, by decide +kernel, by decide +kernel⟩
theorem sc__law_spoilt : FnScope N__law_spoilt ["purse", "rules", "pool"] (defScope s__law_spoilt) := ⟨rfl, rfl, rfl, by decide +kernel, rfl, by decide +kernel, by decide +kernel⟩
theorem sc__law_called : FnScope N__law_called ["thing"] (defScope s__law_called) := ⟨rfl, rfl, rfl, by decide +kernel, rfl, by decide +kernel, by decide +kernel⟩
theorem sc__law_worthy : FnScope N__law_worthy ["thing", "deep"] (defScope s__law_worthy) := ⟨rfl, rfl, rfl, by decide +kernel, rfl, by decide +kernel, by decide +kernel⟩
theorem sc__law_rule_good : FnScope N__law_rule_good ["rule"] (defScope s__law_rule_good) := ⟨rfl, rfl, rfl, by decide +kernel, rfl, by decide +kernel, by decide +kernel⟩
theorem sc__law_good : FnScope N__law_good ["thing"] (defScope s__law_good) := ⟨rfl, rfl, rfl, by decide +kernel, rfl, by decide +kernel, by decide +kernel⟩
theorem sc__law_joined_one : FnScope N__law_joined_one ["script"] (defScope s__law_joined_one) := ⟨rfl, rfl, rfl, by decide +kernel, rfl, by decide +kernel, by decide +kernel⟩
theorem sc__law_cell_two : FnScope N__law_cell_two ["script", "k"] (defScope s__law_cell_two) := ⟨rfl, rfl, rfl, by decide +kernel, rfl, by decide +kernel, by decide +kernel⟩
theorem sc__law_box : FnScope N__law_box ["cell"] (defScope s__law_box) := ⟨rfl, rfl, rfl, by decide +kernel, rfl, by decide +kernel, by decide +kernel⟩
theorem sc__law_take_two : FnScope N__law_take_two ["box", "much"] (defScope s__law_take_two) := ⟨rfl, rfl, rfl, by decide +kernel, rfl, by decide +kernel, by decide +kernel⟩
theorem sc__law_same : FnScope N__law_same ["gained", "thing"] (defScope s__law_same) := ⟨rfl, rfl, rfl, by decide +kernel, rfl, by decide +kernel, by decide +kernel⟩
theorem sc__law_any : FnScope N__law_any ["box"] (defScope s__law_any) := ⟨rfl, rfl, rfl, by decide +kernel, rfl, by decide +kernel, by decide +kernel⟩
theorem sc__law_marks_first : FnScope N__law_marks_first ["e"] (defScope s__law_marks_first) := ⟨rfl, rfl, rfl, by decide +kernel, rfl, by decide +kernel, by decide +kernel⟩
theorem sc__law_marks_last : FnScope N__law_marks_last ["e"] (defScope s__law_marks_last) := ⟨rfl, rfl, rfl, by decide +kernel, rfl, by decide +kernel, by decide +kernel⟩
theorem sc__law_made_first : FnScope N__law_made_first ["one"] (defScope s__law_made_first) := ⟨rfl, rfl, rfl, by decide +kernel, rfl, by decide +kernel, by decide +kernel⟩
theorem sc__law_made_last : FnScope N__law_made_last ["one"] (defScope s__law_made_last) := ⟨rfl, rfl, rfl, by decide +kernel, rfl, by decide +kernel, by decide +kernel⟩
theorem sc__law_families : FnScope N__law_families ["e"] (defScope s__law_families) := ⟨rfl, rfl, rfl, by decide +kernel, rfl, by decide +kernel, by decide +kernel⟩
theorem sc__law_family_of : FnScope N__law_family_of ["place"] (defScope s__law_family_of) := ⟨rfl, rfl, rfl, by decide +kernel, rfl, by decide +kernel, by decide +kernel⟩
theorem sc__law_fields_right : FnScope N__law_fields_right ["place", "e", "one", "before"] (defScope s__law_fields_right) := ⟨rfl, rfl, rfl, by decide +kernel, rfl, by decide +kernel, by decide +kernel⟩
theorem sc__law_taken : FnScope N__law_taken ["e", "place"] (defScope s__law_taken) := ⟨rfl, rfl, rfl, by decide +kernel, rfl, by decide +kernel, by decide +kernel⟩
theorem sc__law_by_names_right : FnScope N__law_by_names_right ["one", "other"] (defScope s__law_by_names_right) := ⟨rfl, rfl, rfl, by decide +kernel, rfl, by decide +kernel, by decide +kernel⟩
theorem sc__law_right : FnScope N__law_right ["box"] (defScope s__law_right) := ⟨rfl, rfl, rfl, by decide +kernel, rfl, by decide +kernel, by decide +kernel⟩
theorem sc__law_joined_two : FnScope N__law_joined_two ["script"] (defScope s__law_joined_two) := ⟨rfl, rfl, rfl, by decide +kernel, rfl, by decide +kernel, by decide +kernel⟩
theorem sc_law : FnScope N_law ["script"] (defScope s_law) := ⟨rfl, rfl, rfl, by decide +kernel, rfl, by decide +kernel, by decide +kernel⟩
theorem sc_NoNumber : FnScope N_NoNumber ["self", "found"] (defScope s_NoNumber) := ⟨rfl, rfl, rfl, by decide +kernel, rfl, by decide +kernel, by decide +kernel⟩
theorem sc_NoName : FnScope N_NoName ["self", "found"] (defScope s_NoName) := ⟨rfl, rfl, rfl, by decide +kernel, rfl, by decide +kernel, by decide +kernel⟩
theorem sc_NoWorth : FnScope N_NoWorth ["self", "found"] (defScope s_NoWorth) := ⟨rfl, rfl, rfl, by decide +kernel, rfl, by decide +kernel, by decide +kernel⟩
theorem sc_NoTree : FnScope N_NoTree ["self", "found"] (defScope s_NoTree) := ⟨rfl, rfl, rfl, by decide +kernel, rfl, by decide +kernel, by decide +kernel⟩
theorem sc_NoDeed : FnScope N_NoDeed ["self", "found"] (defScope s_NoDeed) := ⟨rfl, rfl, rfl, by decide +kernel, rfl, by decide +kernel, by decide +kernel⟩
theorem sc_NoParams : FnScope N_NoParams ["self", "found"] (defScope s_NoParams) := ⟨rfl, rfl, rfl, by decide +kernel, rfl, by decide +kernel, by decide +kernel⟩
theorem sc_NoText : FnScope N_NoText ["self", "found"] (defScope s_NoText) := ⟨rfl, rfl, rfl, by decide +kernel, rfl, by decide +kernel, by decide +kernel⟩
theorem sc_NoRow : FnScope N_NoRow ["self", "at"] (defScope s_NoRow) := ⟨rfl, rfl, rfl, by decide +kernel, rfl, by decide +kernel, by decide +kernel⟩
theorem sc_NoStore : FnScope N_NoStore ["self", "found"] (defScope s_NoStore) := ⟨rfl, rfl, rfl, by decide +kernel, rfl, by decide +kernel, by decide +kernel⟩
theorem sc_NoKind : FnScope N_NoKind ["self", "found"] (defScope s_NoKind) := ⟨rfl, rfl, rfl, by decide +kernel, rfl, by decide +kernel, by decide +kernel⟩
theorem sc_NoRows : FnScope N_NoRows ["self", "found"] (defScope s_NoRows) := ⟨rfl, rfl, rfl, by decide +kernel, rfl, by decide +kernel, by decide +kernel⟩
theorem sc_NoRules : FnScope N_NoRules ["self", "found"] (defScope s_NoRules) := ⟨rfl, rfl, rfl, by decide +kernel, rfl, by decide +kernel, by decide +kernel⟩
theorem sc_NoAsk : FnScope N_NoAsk ["self", "found"] (defScope s_NoAsk) := ⟨rfl, rfl, rfl, by decide +kernel, rfl, by decide +kernel, by decide +kernel⟩
theorem sc_NoWay : FnScope N_NoWay ["self", "found"] (defScope s_NoWay) := ⟨rfl, rfl, rfl, by decide +kernel, rfl, by decide +kernel, by decide +kernel⟩
theorem sc_NoLine : FnScope N_NoLine ["self", "found"] (defScope s_NoLine) := ⟨rfl, rfl, rfl, by decide +kernel, rfl, by decide +kernel, by decide +kernel⟩
theorem sc_NoPaper : FnScope N_NoPaper ["self", "found"] (defScope s_NoPaper) := ⟨rfl, rfl, rfl, by decide +kernel, rfl, by decide +kernel, by decide +kernel⟩
theorem sc_NoList : FnScope N_NoList ["self", "found"] (defScope s_NoList) := ⟨rfl, rfl, rfl, by decide +kernel, rfl, by decide +kernel, by decide +kernel⟩
theorem sc_NoTruth : FnScope N_NoTruth ["self", "found"] (defScope s_NoTruth) := ⟨rfl, rfl, rfl, by decide +kernel, rfl, by decide +kernel, by decide +kernel⟩
theorem sc_Unfit : FnScope N_Unfit ["self", "found"] (defScope s_Unfit) := ⟨rfl, rfl, rfl, by decide +kernel, rfl, by decide +kernel, by decide +kernel⟩
theorem sc_Doubled : FnScope N_Doubled ["self", "found"] (defScope s_Doubled) := ⟨rfl, rfl, rfl, by decide +kernel, rfl, by decide +kernel, by decide +kernel⟩
theorem sc_TooMany : FnScope N_TooMany ["self", "many"] (defScope s_TooMany) := ⟨rfl, rfl, rfl, by decide +kernel, rfl, by decide +kernel, by decide +kernel⟩
theorem sc_NoThing : FnScope N_NoThing ["self", "found"] (defScope s_NoThing) := ⟨rfl, rfl, rfl, by decide +kernel, rfl, by decide +kernel, by decide +kernel⟩
theorem sc_NotThere : FnScope N_NotThere ["self", "found"] (defScope s_NotThere) := ⟨rfl, rfl, rfl, by decide +kernel, rfl, by decide +kernel, by decide +kernel⟩
theorem sc_Fault : FnScope N_Fault ["self", "why", "found"] (defScope s_Fault) := ⟨rfl, rfl, rfl, by decide +kernel, rfl, by decide +kernel, by decide +kernel⟩
theorem sc_Ended : FnScope N_Ended ["self", "found"] (defScope s_Ended) := ⟨rfl, rfl, rfl, by decide +kernel, rfl, by decide +kernel, by decide +kernel⟩
theorem sc_Over : FnScope N_Over ["self"] (defScope s_Over) := ⟨rfl, rfl, rfl, by decide +kernel, rfl, by decide +kernel, by decide +kernel⟩
structure Facts (K : PySem.W.Frag) (mg : Str → Option Value) (w : World) : Prop where
  m_KeyError : mg "KeyError" = none
  m_LookupError : mg "LookupError" = none
  m_ValueError : mg "ValueError" = none
  m_all : mg "all" = none
  m_bool : mg "bool" = none
  m_dict : mg "dict" = none
  m_enumerate : mg "enumerate" = none
  m_int : mg "int" = none
  m_isinstance : mg "isinstance" = none
  m_len : mg "len" = none
  m_list : mg "list" = none
  m_max : mg "max" = none
  m_min : mg "min" = none
  m_ord : mg "ord" = none
  m_range : mg "range" = none
  m_repr : mg "repr" = none
  m_set : mg "set" = none
  m_str : mg "str" = none
  m_tuple : mg "tuple" = none
  c_MOST_NUMBER : GC K mg "MOST_NUMBER" (.int 1000000000)
  c_MOST_THING : GC K mg "MOST_THING" (.int 999)
  c_MOST_SIGNS : GC K mg "MOST_SIGNS" (.int 60)
  c_MOST_PARTS : GC K mg "MOST_PARTS" (.int 30)
  c_MOST_DEEP : GC K mg "MOST_DEEP" (.int 4)
  c_MOST_NAME : GC K mg "MOST_NAME" (.int 8)
  c_PER_CENT : GC K mg "PER_CENT" (.int 37)
  c_QUOTE : GC K mg "QUOTE" (.int 39)
  c_LETTERS : GC K mg "LETTERS" (.str "abcdefghijklmnopqrstuvwxyz")
  c_NO_NAMES : GC K mg "NO_NAMES" (.tuple [(.str "me"), (.str "here"), (.str "none")])
  c_MOST_RULES : GC K mg "MOST_RULES" (.int 8)
  t_LENGTHS : mg "LENGTHS" = some (.ref (ca K "LENGTHS")) ∧ KTab K w (ca K "LENGTHS") [("hide", (.int 2)), ("bar", (.int 2)), ("as", (.int 3)), ("give", (.int 3)), ("count", (.int 2))]
  d_is_whole : ∃ f fd, GDef K mg "is_whole" s_is_whole ["thing", "low", "high"] f fd
  d_is_name : ∃ f fd, GDef K mg "is_name" s_is_name ["thing"] f fd
  d_is_text : ∃ f fd, GDef K mg "is_text" s_is_text ["thing"] f fd
  d_is_number : ∃ f fd, GDef K mg "is_number" s_is_number ["thing"] f fd
  d_is_pair : ∃ f fd, GDef K mg "is_pair" s_is_pair ["thing", "word"] f fd
  d_is_thing : ∃ f fd, GDef K mg "is_thing" s_is_thing ["thing"] f fd
  d_is_worth_within : ∃ f fd, GDef K mg "is_worth_within" s_is_worth_within ["thing", "deep"] f fd
  d_is_worth : ∃ f fd, GDef K mg "is_worth" s_is_worth ["thing"] f fd
  d_is_rule : ∃ f fd, GDef K mg "is_rule" s_is_rule ["thing"] f fd
  d_are_rules : ∃ f fd, GDef K mg "are_rules" s_are_rules ["thing"] f fd
  d__law_cell : ∃ f fd, GDef K mg "_law_cell" s__law_cell ["script", "k"] f fd
  d__law_purse : ∃ f fd, GDef K mg "_law_purse" s__law_purse ["cell"] f fd
  d__law_take : ∃ f fd, GDef K mg "_law_take" s__law_take ["purse", "below"] f fd
  d__law_pool : ∃ f fd, GDef K mg "_law_pool" s__law_pool ["purse", "size"] f fd
  d__law_rules : ∃ f fd, GDef K mg "_law_rules" s__law_rules ["purse", "pool"] f fd
  d__law_spoilt : ∃ f fd, GDef K mg "_law_spoilt" s__law_spoilt ["purse", "rules", "pool"] f fd
  d__law_called : ∃ f fd, GDef K mg "_law_called" s__law_called ["thing"] f fd
  d__law_worthy : ∃ f fd, GDef K mg "_law_worthy" s__law_worthy ["thing", "deep"] f fd
  d__law_rule_good : ∃ f fd, GDef K mg "_law_rule_good" s__law_rule_good ["rule"] f fd
  d__law_good : ∃ f fd, GDef K mg "_law_good" s__law_good ["thing"] f fd
  d__law_joined_one : ∃ f fd, GDef K mg "_law_joined_one" s__law_joined_one ["script"] f fd
  d__law_cell_two : ∃ f fd, GDef K mg "_law_cell_two" s__law_cell_two ["script", "k"] f fd
  d__law_box : ∃ f fd, GDef K mg "_law_box" s__law_box ["cell"] f fd
  d__law_take_two : ∃ f fd, GDef K mg "_law_take_two" s__law_take_two ["box", "much"] f fd
  d__law_same : ∃ f fd, GDef K mg "_law_same" s__law_same ["gained", "thing"] f fd
  d__law_any : ∃ f fd, GDef K mg "_law_any" s__law_any ["box"] f fd
  d__law_marks_first : ∃ f fd, GDef K mg "_law_marks_first" s__law_marks_first ["e"] f fd
  d__law_marks_last : ∃ f fd, GDef K mg "_law_marks_last" s__law_marks_last ["e"] f fd
  d__law_made_first : ∃ f fd, GDef K mg "_law_made_first" s__law_made_first ["one"] f fd
  d__law_made_last : ∃ f fd, GDef K mg "_law_made_last" s__law_made_last ["one"] f fd
  d__law_families : ∃ f fd, GDef K mg "_law_families" s__law_families ["e"] f fd
  d__law_family_of : ∃ f fd, GDef K mg "_law_family_of" s__law_family_of ["place"] f fd
  d__law_fields_right : ∃ f fd, GDef K mg "_law_fields_right" s__law_fields_right ["place", "e", "one", "before"] f fd
  d__law_taken : ∃ f fd, GDef K mg "_law_taken" s__law_taken ["e", "place"] f fd
  d__law_by_names_right : ∃ f fd, GDef K mg "_law_by_names_right" s__law_by_names_right ["one", "other"] f fd
  d__law_right : ∃ f fd, GDef K mg "_law_right" s__law_right ["box"] f fd
  d__law_joined_two : ∃ f fd, GDef K mg "_law_joined_two" s__law_joined_two ["script"] f fd
  d_law : ∃ f fd, GDef K mg "law" s_law ["script"] f fd
  g_InnerError : mg "InnerError" = some (.ref (ca K "InnerError"))
  e_InnerError : EC K .ve (ca K "InnerError")
  g_Missing : mg "Missing" = some (.ref (ca K "Missing"))
  e_Missing : EC K .ke (ca K "Missing")
  g_Barred : mg "Barred" = some (.ref (ca K "Barred"))
  e_Barred : EC K .le (ca K "Barred")
  g_NoNumber : mg "NoNumber" = some (.ref (ca K "NoNumber"))
  e_NoNumber : EC K .ve (ca K "NoNumber")
  g_NoName : mg "NoName" = some (.ref (ca K "NoName"))
  e_NoName : EC K .ve (ca K "NoName")
  g_NoWorth : mg "NoWorth" = some (.ref (ca K "NoWorth"))
  e_NoWorth : EC K .ve (ca K "NoWorth")
  g_NoTree : mg "NoTree" = some (.ref (ca K "NoTree"))
  e_NoTree : EC K .ve (ca K "NoTree")
  g_NoDeed : mg "NoDeed" = some (.ref (ca K "NoDeed"))
  e_NoDeed : EC K .ve (ca K "NoDeed")
  g_NoParams : mg "NoParams" = some (.ref (ca K "NoParams"))
  e_NoParams : EC K .ve (ca K "NoParams")
  g_NoText : mg "NoText" = some (.ref (ca K "NoText"))
  e_NoText : EC K .ve (ca K "NoText")
  g_NoRow : mg "NoRow" = some (.ref (ca K "NoRow"))
  e_NoRow : EC K .ve (ca K "NoRow")
  g_NoStore : mg "NoStore" = some (.ref (ca K "NoStore"))
  e_NoStore : EC K .ve (ca K "NoStore")
  g_NoKind : mg "NoKind" = some (.ref (ca K "NoKind"))
  e_NoKind : EC K .ve (ca K "NoKind")
  g_NoRows : mg "NoRows" = some (.ref (ca K "NoRows"))
  e_NoRows : EC K .ve (ca K "NoRows")
  g_NoRules : mg "NoRules" = some (.ref (ca K "NoRules"))
  e_NoRules : EC K .ve (ca K "NoRules")
  g_NoAsk : mg "NoAsk" = some (.ref (ca K "NoAsk"))
  e_NoAsk : EC K .ve (ca K "NoAsk")
  g_NoWay : mg "NoWay" = some (.ref (ca K "NoWay"))
  e_NoWay : EC K .ve (ca K "NoWay")
  g_NoLine : mg "NoLine" = some (.ref (ca K "NoLine"))
  e_NoLine : EC K .ve (ca K "NoLine")
  g_NoPaper : mg "NoPaper" = some (.ref (ca K "NoPaper"))
  e_NoPaper : EC K .ve (ca K "NoPaper")
  g_NoList : mg "NoList" = some (.ref (ca K "NoList"))
  e_NoList : EC K .ve (ca K "NoList")
  g_NoTruth : mg "NoTruth" = some (.ref (ca K "NoTruth"))
  e_NoTruth : EC K .ve (ca K "NoTruth")
  g_Unfit : mg "Unfit" = some (.ref (ca K "Unfit"))
  e_Unfit : EC K .ve (ca K "Unfit")
  g_Doubled : mg "Doubled" = some (.ref (ca K "Doubled"))
  e_Doubled : EC K .ve (ca K "Doubled")
  g_TooMany : mg "TooMany" = some (.ref (ca K "TooMany"))
  e_TooMany : EC K .ve (ca K "TooMany")
  g_NoThing : mg "NoThing" = some (.ref (ca K "NoThing"))
  e_NoThing : EC K .ke (ca K "NoThing")
  g_NotThere : mg "NotThere" = some (.ref (ca K "NotThere"))
  e_NotThere : EC K .ke (ca K "NotThere")
  g_Fault : mg "Fault" = some (.ref (ca K "Fault"))
  e_Fault : EC K .le (ca K "Fault")
  g_Ended : mg "Ended" = some (.ref (ca K "Ended"))
  e_Ended : EC K .le (ca K "Ended")
  g_Over : mg "Over" = some (.ref (ca K "Over"))
  e_Over : EC K .le (ca K "Over")
  b_InnerError : BC K .ve (ca K "InnerError")
  i_InnerError : BI K .ve (ca K "InnerError")
  b_Missing : BC K .ke (ca K "Missing")
  i_Missing : BI K .ke (ca K "Missing")
  b_Barred : BC K .le (ca K "Barred")
  i_Barred : BI K .le (ca K "Barred")
  j_NoNumber : ∃ fI fd, PySem.W.findIn K (.ref (ca K "NoNumber")) "__init__" = some (some (.ref fI)) ∧ PySem.W.typeIn K (.ref fI) = some (.type "function") ∧ FunD K "__init__" "NoNumber.__init__" (defArgs s_NoNumber) (defBody s_NoNumber) (defScope s_NoNumber) [] [] fI fd
  f_NoNumber_found : PySem.W.findIn K (.ref (ca K "NoNumber")) "found" = some none
  j_NoName : ∃ fI fd, PySem.W.findIn K (.ref (ca K "NoName")) "__init__" = some (some (.ref fI)) ∧ PySem.W.typeIn K (.ref fI) = some (.type "function") ∧ FunD K "__init__" "NoName.__init__" (defArgs s_NoName) (defBody s_NoName) (defScope s_NoName) [] [] fI fd
  f_NoName_found : PySem.W.findIn K (.ref (ca K "NoName")) "found" = some none
  j_NoWorth : ∃ fI fd, PySem.W.findIn K (.ref (ca K "NoWorth")) "__init__" = some (some (.ref fI)) ∧ PySem.W.typeIn K (.ref fI) = some (.type "function") ∧ FunD K "__init__" "NoWorth.__init__" (defArgs s_NoWorth) (defBody s_NoWorth) (defScope s_NoWorth) [] [] fI fd
  f_NoWorth_found : PySem.W.findIn K (.ref (ca K "NoWorth")) "found" = some none
  j_NoTree : ∃ fI fd, PySem.W.findIn K (.ref (ca K "NoTree")) "__init__" = some (some (.ref fI)) ∧ PySem.W.typeIn K (.ref fI) = some (.type "function") ∧ FunD K "__init__" "NoTree.__init__" (defArgs s_NoTree) (defBody s_NoTree) (defScope s_NoTree) [] [] fI fd
  f_NoTree_found : PySem.W.findIn K (.ref (ca K "NoTree")) "found" = some none
  j_NoDeed : ∃ fI fd, PySem.W.findIn K (.ref (ca K "NoDeed")) "__init__" = some (some (.ref fI)) ∧ PySem.W.typeIn K (.ref fI) = some (.type "function") ∧ FunD K "__init__" "NoDeed.__init__" (defArgs s_NoDeed) (defBody s_NoDeed) (defScope s_NoDeed) [] [] fI fd
  f_NoDeed_found : PySem.W.findIn K (.ref (ca K "NoDeed")) "found" = some none
  j_NoParams : ∃ fI fd, PySem.W.findIn K (.ref (ca K "NoParams")) "__init__" = some (some (.ref fI)) ∧ PySem.W.typeIn K (.ref fI) = some (.type "function") ∧ FunD K "__init__" "NoParams.__init__" (defArgs s_NoParams) (defBody s_NoParams) (defScope s_NoParams) [] [] fI fd
  f_NoParams_found : PySem.W.findIn K (.ref (ca K "NoParams")) "found" = some none
  j_NoText : ∃ fI fd, PySem.W.findIn K (.ref (ca K "NoText")) "__init__" = some (some (.ref fI)) ∧ PySem.W.typeIn K (.ref fI) = some (.type "function") ∧ FunD K "__init__" "NoText.__init__" (defArgs s_NoText) (defBody s_NoText) (defScope s_NoText) [] [] fI fd
  f_NoText_found : PySem.W.findIn K (.ref (ca K "NoText")) "found" = some none
  j_NoRow : ∃ fI fd, PySem.W.findIn K (.ref (ca K "NoRow")) "__init__" = some (some (.ref fI)) ∧ PySem.W.typeIn K (.ref fI) = some (.type "function") ∧ FunD K "__init__" "NoRow.__init__" (defArgs s_NoRow) (defBody s_NoRow) (defScope s_NoRow) [] [] fI fd
  f_NoRow_at : PySem.W.findIn K (.ref (ca K "NoRow")) "at" = some none
  j_NoStore : ∃ fI fd, PySem.W.findIn K (.ref (ca K "NoStore")) "__init__" = some (some (.ref fI)) ∧ PySem.W.typeIn K (.ref fI) = some (.type "function") ∧ FunD K "__init__" "NoStore.__init__" (defArgs s_NoStore) (defBody s_NoStore) (defScope s_NoStore) [] [] fI fd
  f_NoStore_found : PySem.W.findIn K (.ref (ca K "NoStore")) "found" = some none
  j_NoKind : ∃ fI fd, PySem.W.findIn K (.ref (ca K "NoKind")) "__init__" = some (some (.ref fI)) ∧ PySem.W.typeIn K (.ref fI) = some (.type "function") ∧ FunD K "__init__" "NoKind.__init__" (defArgs s_NoKind) (defBody s_NoKind) (defScope s_NoKind) [] [] fI fd
  f_NoKind_found : PySem.W.findIn K (.ref (ca K "NoKind")) "found" = some none
  j_NoRows : ∃ fI fd, PySem.W.findIn K (.ref (ca K "NoRows")) "__init__" = some (some (.ref fI)) ∧ PySem.W.typeIn K (.ref fI) = some (.type "function") ∧ FunD K "__init__" "NoRows.__init__" (defArgs s_NoRows) (defBody s_NoRows) (defScope s_NoRows) [] [] fI fd
  f_NoRows_found : PySem.W.findIn K (.ref (ca K "NoRows")) "found" = some none
  j_NoRules : ∃ fI fd, PySem.W.findIn K (.ref (ca K "NoRules")) "__init__" = some (some (.ref fI)) ∧ PySem.W.typeIn K (.ref fI) = some (.type "function") ∧ FunD K "__init__" "NoRules.__init__" (defArgs s_NoRules) (defBody s_NoRules) (defScope s_NoRules) [] [] fI fd
  f_NoRules_found : PySem.W.findIn K (.ref (ca K "NoRules")) "found" = some none
  j_NoAsk : ∃ fI fd, PySem.W.findIn K (.ref (ca K "NoAsk")) "__init__" = some (some (.ref fI)) ∧ PySem.W.typeIn K (.ref fI) = some (.type "function") ∧ FunD K "__init__" "NoAsk.__init__" (defArgs s_NoAsk) (defBody s_NoAsk) (defScope s_NoAsk) [] [] fI fd
  f_NoAsk_found : PySem.W.findIn K (.ref (ca K "NoAsk")) "found" = some none
  j_NoWay : ∃ fI fd, PySem.W.findIn K (.ref (ca K "NoWay")) "__init__" = some (some (.ref fI)) ∧ PySem.W.typeIn K (.ref fI) = some (.type "function") ∧ FunD K "__init__" "NoWay.__init__" (defArgs s_NoWay) (defBody s_NoWay) (defScope s_NoWay) [] [] fI fd
  f_NoWay_found : PySem.W.findIn K (.ref (ca K "NoWay")) "found" = some none
  j_NoLine : ∃ fI fd, PySem.W.findIn K (.ref (ca K "NoLine")) "__init__" = some (some (.ref fI)) ∧ PySem.W.typeIn K (.ref fI) = some (.type "function") ∧ FunD K "__init__" "NoLine.__init__" (defArgs s_NoLine) (defBody s_NoLine) (defScope s_NoLine) [] [] fI fd
  f_NoLine_found : PySem.W.findIn K (.ref (ca K "NoLine")) "found" = some none
  j_NoPaper : ∃ fI fd, PySem.W.findIn K (.ref (ca K "NoPaper")) "__init__" = some (some (.ref fI)) ∧ PySem.W.typeIn K (.ref fI) = some (.type "function") ∧ FunD K "__init__" "NoPaper.__init__" (defArgs s_NoPaper) (defBody s_NoPaper) (defScope s_NoPaper) [] [] fI fd
  f_NoPaper_found : PySem.W.findIn K (.ref (ca K "NoPaper")) "found" = some none
  j_NoList : ∃ fI fd, PySem.W.findIn K (.ref (ca K "NoList")) "__init__" = some (some (.ref fI)) ∧ PySem.W.typeIn K (.ref fI) = some (.type "function") ∧ FunD K "__init__" "NoList.__init__" (defArgs s_NoList) (defBody s_NoList) (defScope s_NoList) [] [] fI fd
  f_NoList_found : PySem.W.findIn K (.ref (ca K "NoList")) "found" = some none
  j_NoTruth : ∃ fI fd, PySem.W.findIn K (.ref (ca K "NoTruth")) "__init__" = some (some (.ref fI)) ∧ PySem.W.typeIn K (.ref fI) = some (.type "function") ∧ FunD K "__init__" "NoTruth.__init__" (defArgs s_NoTruth) (defBody s_NoTruth) (defScope s_NoTruth) [] [] fI fd
  f_NoTruth_found : PySem.W.findIn K (.ref (ca K "NoTruth")) "found" = some none
  j_Unfit : ∃ fI fd, PySem.W.findIn K (.ref (ca K "Unfit")) "__init__" = some (some (.ref fI)) ∧ PySem.W.typeIn K (.ref fI) = some (.type "function") ∧ FunD K "__init__" "Unfit.__init__" (defArgs s_Unfit) (defBody s_Unfit) (defScope s_Unfit) [] [] fI fd
  f_Unfit_found : PySem.W.findIn K (.ref (ca K "Unfit")) "found" = some none
  j_Doubled : ∃ fI fd, PySem.W.findIn K (.ref (ca K "Doubled")) "__init__" = some (some (.ref fI)) ∧ PySem.W.typeIn K (.ref fI) = some (.type "function") ∧ FunD K "__init__" "Doubled.__init__" (defArgs s_Doubled) (defBody s_Doubled) (defScope s_Doubled) [] [] fI fd
  f_Doubled_found : PySem.W.findIn K (.ref (ca K "Doubled")) "found" = some none
  j_TooMany : ∃ fI fd, PySem.W.findIn K (.ref (ca K "TooMany")) "__init__" = some (some (.ref fI)) ∧ PySem.W.typeIn K (.ref fI) = some (.type "function") ∧ FunD K "__init__" "TooMany.__init__" (defArgs s_TooMany) (defBody s_TooMany) (defScope s_TooMany) [] [] fI fd
  f_TooMany_many : PySem.W.findIn K (.ref (ca K "TooMany")) "many" = some none
  j_NoThing : ∃ fI fd, PySem.W.findIn K (.ref (ca K "NoThing")) "__init__" = some (some (.ref fI)) ∧ PySem.W.typeIn K (.ref fI) = some (.type "function") ∧ FunD K "__init__" "NoThing.__init__" (defArgs s_NoThing) (defBody s_NoThing) (defScope s_NoThing) [] [] fI fd
  f_NoThing_found : PySem.W.findIn K (.ref (ca K "NoThing")) "found" = some none
  j_NotThere : ∃ fI fd, PySem.W.findIn K (.ref (ca K "NotThere")) "__init__" = some (some (.ref fI)) ∧ PySem.W.typeIn K (.ref fI) = some (.type "function") ∧ FunD K "__init__" "NotThere.__init__" (defArgs s_NotThere) (defBody s_NotThere) (defScope s_NotThere) [] [] fI fd
  f_NotThere_found : PySem.W.findIn K (.ref (ca K "NotThere")) "found" = some none
  j_Fault : ∃ fI fd, PySem.W.findIn K (.ref (ca K "Fault")) "__init__" = some (some (.ref fI)) ∧ PySem.W.typeIn K (.ref fI) = some (.type "function") ∧ FunD K "__init__" "Fault.__init__" (defArgs s_Fault) (defBody s_Fault) (defScope s_Fault) [] [] fI fd
  f_Fault_why : PySem.W.findIn K (.ref (ca K "Fault")) "why" = some none
  f_Fault_found : PySem.W.findIn K (.ref (ca K "Fault")) "found" = some none
  j_Ended : ∃ fI fd, PySem.W.findIn K (.ref (ca K "Ended")) "__init__" = some (some (.ref fI)) ∧ PySem.W.typeIn K (.ref fI) = some (.type "function") ∧ FunD K "__init__" "Ended.__init__" (defArgs s_Ended) (defBody s_Ended) (defScope s_Ended) [] [] fI fd
  f_Ended_found : PySem.W.findIn K (.ref (ca K "Ended")) "found" = some none
  j_Over : ∃ fI fd, PySem.W.findIn K (.ref (ca K "Over")) "__init__" = some (some (.ref fI)) ∧ PySem.W.typeIn K (.ref fI) = some (.type "function") ∧ FunD K "__init__" "Over.__init__" (defArgs s_Over) (defBody s_Over) (defScope s_Over) [] [] fI fd
  isx : isTab K = wantTab
  sys : HasSys K
end K13
end
section
set_option Elab.async false
set_option linter.all false
set_option maxRecDepth 100000
set_option maxHeartbeats 4000000
namespace K13
open PySem PySem.Spec L2 DL DX
open PyProof.Rows hiding St
/-! ### the own __init__s: none, one, two fields -/
def spX0 (K : PySem.W.Frag) (c : Str) : DSp := fun xs M P _ => ∃ a, xs = [.ref a] ∧ M a = some (.raw (ca K c)) ∧ P (.dat .none) M
def spX1 (K : PySem.W.Frag) (c f : Str) : DSp := fun xs M P _ => ∃ a y, xs = [.ref a, y] ∧ M a = some (.raw (ca K c)) ∧ ∀ dx, M dx = none → dx ≠ a → P (.dat .none) (um M a (.exc (ca K c) dx [(f, y)]))
def spX2 (K : PySem.W.Frag) (c f f2 : Str) : DSp := fun xs M P _ => ∃ a y z, xs = [.ref a, y, z] ∧ M a = some (.raw (ca K c)) ∧ ∀ dx, M dx = none → dx ≠ a → P (.dat .none) (um M a (.exc (ca K c) dx [(f2, z), (f, y)]))
theorem spX0_many {K : PySem.W.Frag} {c : Str} {p1 : Str} (xs : List AV) (M : Mp) (P : DK) (R : DXK) (h : spX0 K c xs M P R) : xs.length = [p1].length := by
  obtain ⟨a, rfl, _⟩ := h
  rfl
theorem spX1_many {K : PySem.W.Frag} {c f : Str} {p1 p2 : Str} (xs : List AV) (M : Mp) (P : DK) (R : DXK) (h : spX1 K c f xs M P R) : xs.length = [p1, p2].length := by
  obtain ⟨a, y, rfl, _⟩ := h
  rfl
theorem spX2_many {K : PySem.W.Frag} {c f f2 : Str} {p1 p2 p3 : Str} (xs : List AV) (M : Mp) (P : DK) (R : DXK) (h : spX2 K c f f2 xs M P R) : xs.length = [p1, p2, p3].length := by
  obtain ⟨a, y, z, rfl, _⟩ := h
  rfl
/-- a class by its own __init__'s reading -/
theorem xok_of {P : Program} {w : World} {K : PySem.W.Frag} {mg : Str → Option Value} {base : Heap} {CX : CXT} {k : Nat} {C fI : Addr} {f : Fam} {fd : FuncData} {st : Stmt} {qual : Str} {N ps : List Str} {kk : List (List Str × List Nat)} {sp : DSp}
    (T : EC K f C) (iC : PySem.W.findIn K (.ref C) "__init__" = some (some (.ref fI))) (tI : PySem.W.typeIn K (.ref fI) = some (.type "function")) (D : FunD K "__init__" qual (defArgs st) (defBody st) (defScope st) [] [] fI fd) (bn : Binds K fd ps [])
    (S : FnScope N ps (defScope st)) (many : ∀ xs M P R, sp xs M P R → xs.length = ps.length)
    (kb : ∀ q ∈ kk, ∀ (s : Shared) (u : Value) (ws : List Value), K.In s.heap → ws.length = q.1.length → BindsTo s fd ⟨[u], q.1.zip ws⟩ (ps.zip (u :: q.2.map fun i => ws.getD i .none)))
    (hb : ∀ (cdv : Value) (A : Around) (out : List Env) (s : Shared) (H : Hp) (E : XK), Room k (A.deeper (envOfC qual (defScope st) s.heap.objs.size fI cdv)) → A.guards = some [] →
      ∃ t : DTS, DSs (cxOf CX P w K mg base N qual (defScope st) fI cdv A out s H E) (fun c d _ H' => E c d H') (defBody st) t ∧
        ∀ (xs : List AV) (M : Mp) (P : DK) (R : DXK), sp xs M P R → t { nx := fun _ M' => P (.dat .none) M', rt := P, xp := fun c fs _ M' => R c fs M' } (dstart N xs) M) :
    MOk P w K mg base CX (k + 1) C ps kk sp :=
  ⟨⟨f, T⟩, fI, fd, iC, tI, bn, fnG_of D S (fun vs H Q E ⟨S, M, xs, P, R, r, rvs, p, _, _⟩ => rvs.length.trans (many _ _ _ _ p)) fun cdv A out s H vs Q E hr hgd ⟨S0, M, xs, P, R, r, rvs, p, k1, k2⟩ => by
    obtain ⟨t, ht, hq⟩ := hb cdv A out s H E hr hgd
    exact ⟨_, ht, S0, M, dstart N xs, _, r, RSl.start N rvs, hq xs M P R p, ⟨fun δ M' S' H' σ p1 e1 r1 _ => k1 _ M' S' H' .non p1 e1 r1 (.dat .non), k1, fun _ _ _ _ _ z => z.elim, fun _ _ _ _ _ z => z.elim, fun c fs δ M' S' H' σ d p1 e1 r1 _ x => k2 c fs M' S' H' d p1 e1 r1 x⟩⟩, kb⟩
theorem kbind_of {K : PySem.W.Frag} {x qual : Str} {params : Arguments} {body : List Stmt} {scope : Scope} {f : Addr} {fd : FuncData} {ps : List Str} {kk : List (List Str × List Nat)} (D : FunD K x qual params body scope [] [] f fd)
    (h : ∀ q ∈ kk, ∀ (u : Value) (ws : List Value), ws.length = q.1.length → True ∧ ∀ (kV doc pm : Value) (an : Option Addr) (cdv ct : Value) (z : Unit), bindArgs (PySem.W.fnOf x qual params body scope .none kV doc pm an cdv ct) ⟨[u], q.1.zip ws⟩ = pure (ps.zip (u :: q.2.map fun i => ws.getD i .none))) :
    ∀ q ∈ kk, ∀ (s : Shared) (u : Value) (ws : List Value), K.In s.heap → ws.length = q.1.length → BindsTo s fd ⟨[u], q.1.zip ws⟩ (ps.zip (u :: q.2.map fun i => ws.getD i .none)) := by
  intro q hq s u ws X hl
  obtain ⟨oc, od, dV, kV, doc, pm, an, cdv, ct, osl, rfl, lk, hcd, hD, hK⟩ := D.ex
  rcases hD with ⟨_, rfl⟩ | ⟨e, _⟩
  · exact BindsTo.of_looks fun M => PySem.W.Looks.of_pure ((h q hq u ws hl).2 kV doc pm an cdv ct ())
  · exact absurd rfl e
section
variable {K : PySem.W.Frag} {f : Fam} {c n n2 : Str} {a : Addr} {x y z : AV} {M : Mp} {P : DK} {R : DXK} {d : PyData} {p1 p2 p3 : Str}
abbrev endsOf (P : DK) (R : DXK) : DEnds := { nx := fun _ M' => P (.dat .none) M', rt := P, xp := fun c fs _ M' => R c fs M' }
theorem raw_at (T : EC K f (ca K c)) (hM : M a = some (.raw (ca K c))) {xs : List AV} (hx : xs.length ≤ 1000) {k : Prop} (h : k) : onRaw K f M (.ref a :: xs) k := by
  simp only [onRaw, hM]
  exact ⟨T, hx, h⟩
theorem onX_raw (hM : M a = some (.raw (ca K c))) {k : Addr → Addr → Option Addr → List (Str × AV) → Prop} (h : k a (ca K c) none []) : onX M (.ref a) k := by
  simp only [onX, hM]
  exact h
theorem onX_exc {dx : Addr} {fs : List (Str × AV)} (hM : M a = some (.exc (ca K c) dx fs)) {k : Addr → Addr → Option Addr → List (Str × AV) → Prop} (h : k a (ca K c) (some dx) fs) : onX M (.ref a) k := by
  simp only [onX, hM]
  exact h
theorem sx0 (T : EC K f (ca K c)) (hM : M a = some (.raw (ca K c))) (hP : P (.dat .none) M) : wDrop (wBI K f (wCons (wVar 0) (wCons (wC d) wNil))) (endsOf P R) (dstart [p1] [.ref a]) M :=
  ⟨_, rfl, raw_at (xs := [_]) T hM (by show 1 ≤ 1000; omega) hP⟩
theorem sx1 (T : EC K f (ca K c)) (hn : PySem.W.findIn K (.ref (ca K c)) n = some none) (hM : M a = some (.raw (ca K c))) (hP : ∀ dx, M dx = none → dx ≠ a → P (.dat .none) (um M a (.exc (ca K c) dx [(n, y)]))) :
    wSeq (wDrop (wBI K f (wCons (wVar 0) (wCons (wC d) wNil)))) (wOset K n (wVar 0) (wVar 1)) (endsOf P R) (dstart [p1, p2] [.ref a, y]) M :=
  ⟨_, rfl, raw_at (xs := [_]) T hM (by show 1 ≤ 1000; omega) ⟨_, rfl, _, rfl, onX_raw hM ⟨⟨⟨f, T⟩, hn⟩, Nat.zero_le _, hP⟩⟩⟩
theorem sx2 (T : EC K f (ca K c)) (hn : PySem.W.findIn K (.ref (ca K c)) n = some none) (hn2 : PySem.W.findIn K (.ref (ca K c)) n2 = some none) (hM : M a = some (.raw (ca K c))) (hP : ∀ dx, M dx = none → dx ≠ a → P (.dat .none) (um M a (.exc (ca K c) dx [(n2, z), (n, y)]))) :
    wSeq (wDrop (wBI K f (wCons (wVar 0) (wCons (wC d) wNil)))) (wSeq (wOset K n (wVar 0) (wVar 1)) (wOset K n2 (wVar 0) (wVar 2))) (endsOf P R) (dstart [p1, p2, p3] [.ref a, y, z]) M :=
  ⟨_, rfl, raw_at (xs := [_]) T hM (by show 1 ≤ 1000; omega) ⟨_, rfl, _, rfl, onX_raw hM ⟨⟨⟨f, T⟩, hn⟩, Nat.zero_le _, fun dx h1 h2 => ⟨_, rfl, _, rfl, onX_exc (c := c) um_same ⟨⟨⟨f, T⟩, hn2⟩, by show 1 ≤ 900; omega, by
    have z := hP dx h1 h2
    rw [← um_um (o := .exc (ca K c) dx [(n, y)])] at z
    exact z⟩⟩⟩⟩⟩
end
section
variable {P : Program} {w : World} {K : PySem.W.Frag} {mg : Str → Option Value} {base : Heap}
theorem X_NoNumber (T : Facts K mg w) : MOk P w K mg base CX0 1 (ca K "NoNumber") ["self", "found"] [(["found"], [0])] (spX1 K "NoNumber" "found") := by
  obtain ⟨fI, fd, iC, tI, D⟩ := T.j_NoNumber
  refine xok_of T.e_NoNumber iC tI D (D.bindsN fun _ _ _ _ _ _ us hl => match us, hl with | [_, _], _ => rfl) sc_NoNumber spX1_many ?_ fun cdv A out s H E hr hgd => ⟨_, (dss_cons (ds_expr (de_bi T.i_InnerError (by rfl) T.g_InnerError (da_cons (de_var (pv 0)) (da_cons de_str da_nil)))) (dss_one (ds_oset (de_var (pv 0)) (de_var (pv 1))))), ?_⟩
  · exact kbind_of D fun q h => by
      obtain rfl := List.mem_singleton.mp h
      exact fun u ws hl => match ws, hl with | [_], _ => ⟨trivial, fun _ _ _ _ _ _ _ => rfl⟩
  · rintro xs M P R ⟨a, y, rfl, hM, hP⟩
    exact sx1 T.e_NoNumber T.f_NoNumber_found hM hP
theorem X_NoName (T : Facts K mg w) : MOk P w K mg base CX0 1 (ca K "NoName") ["self", "found"] [(["found"], [0])] (spX1 K "NoName" "found") := by
  obtain ⟨fI, fd, iC, tI, D⟩ := T.j_NoName
  refine xok_of T.e_NoName iC tI D (D.bindsN fun _ _ _ _ _ _ us hl => match us, hl with | [_, _], _ => rfl) sc_NoName spX1_many ?_ fun cdv A out s H E hr hgd => ⟨_, (dss_cons (ds_expr (de_bi T.i_InnerError (by rfl) T.g_InnerError (da_cons (de_var (pv 0)) (da_cons de_str da_nil)))) (dss_one (ds_oset (de_var (pv 0)) (de_var (pv 1))))), ?_⟩
  · exact kbind_of D fun q h => by
      obtain rfl := List.mem_singleton.mp h
      exact fun u ws hl => match ws, hl with | [_], _ => ⟨trivial, fun _ _ _ _ _ _ _ => rfl⟩
  · rintro xs M P R ⟨a, y, rfl, hM, hP⟩
    exact sx1 T.e_NoName T.f_NoName_found hM hP
theorem X_NoWorth (T : Facts K mg w) : MOk P w K mg base CX0 1 (ca K "NoWorth") ["self", "found"] [(["found"], [0])] (spX1 K "NoWorth" "found") := by
  obtain ⟨fI, fd, iC, tI, D⟩ := T.j_NoWorth
  refine xok_of T.e_NoWorth iC tI D (D.bindsN fun _ _ _ _ _ _ us hl => match us, hl with | [_, _], _ => rfl) sc_NoWorth spX1_many ?_ fun cdv A out s H E hr hgd => ⟨_, (dss_cons (ds_expr (de_bi T.i_InnerError (by rfl) T.g_InnerError (da_cons (de_var (pv 0)) (da_cons de_str da_nil)))) (dss_one (ds_oset (de_var (pv 0)) (de_var (pv 1))))), ?_⟩
  · exact kbind_of D fun q h => by
      obtain rfl := List.mem_singleton.mp h
      exact fun u ws hl => match ws, hl with | [_], _ => ⟨trivial, fun _ _ _ _ _ _ _ => rfl⟩
  · rintro xs M P R ⟨a, y, rfl, hM, hP⟩
    exact sx1 T.e_NoWorth T.f_NoWorth_found hM hP
theorem X_NoTree (T : Facts K mg w) : MOk P w K mg base CX0 1 (ca K "NoTree") ["self", "found"] [(["found"], [0])] (spX1 K "NoTree" "found") := by
  obtain ⟨fI, fd, iC, tI, D⟩ := T.j_NoTree
  refine xok_of T.e_NoTree iC tI D (D.bindsN fun _ _ _ _ _ _ us hl => match us, hl with | [_, _], _ => rfl) sc_NoTree spX1_many ?_ fun cdv A out s H E hr hgd => ⟨_, (dss_cons (ds_expr (de_bi T.i_InnerError (by rfl) T.g_InnerError (da_cons (de_var (pv 0)) (da_cons de_str da_nil)))) (dss_one (ds_oset (de_var (pv 0)) (de_var (pv 1))))), ?_⟩
  · exact kbind_of D fun q h => by
      obtain rfl := List.mem_singleton.mp h
      exact fun u ws hl => match ws, hl with | [_], _ => ⟨trivial, fun _ _ _ _ _ _ _ => rfl⟩
  · rintro xs M P R ⟨a, y, rfl, hM, hP⟩
    exact sx1 T.e_NoTree T.f_NoTree_found hM hP
theorem X_NoDeed (T : Facts K mg w) : MOk P w K mg base CX0 1 (ca K "NoDeed") ["self", "found"] [(["found"], [0])] (spX1 K "NoDeed" "found") := by
  obtain ⟨fI, fd, iC, tI, D⟩ := T.j_NoDeed
  refine xok_of T.e_NoDeed iC tI D (D.bindsN fun _ _ _ _ _ _ us hl => match us, hl with | [_, _], _ => rfl) sc_NoDeed spX1_many ?_ fun cdv A out s H E hr hgd => ⟨_, (dss_cons (ds_expr (de_bi T.i_InnerError (by rfl) T.g_InnerError (da_cons (de_var (pv 0)) (da_cons de_str da_nil)))) (dss_one (ds_oset (de_var (pv 0)) (de_var (pv 1))))), ?_⟩
  · exact kbind_of D fun q h => by
      obtain rfl := List.mem_singleton.mp h
      exact fun u ws hl => match ws, hl with | [_], _ => ⟨trivial, fun _ _ _ _ _ _ _ => rfl⟩
  · rintro xs M P R ⟨a, y, rfl, hM, hP⟩
    exact sx1 T.e_NoDeed T.f_NoDeed_found hM hP
theorem X_NoParams (T : Facts K mg w) : MOk P w K mg base CX0 1 (ca K "NoParams") ["self", "found"] [(["found"], [0])] (spX1 K "NoParams" "found") := by
  obtain ⟨fI, fd, iC, tI, D⟩ := T.j_NoParams
  refine xok_of T.e_NoParams iC tI D (D.bindsN fun _ _ _ _ _ _ us hl => match us, hl with | [_, _], _ => rfl) sc_NoParams spX1_many ?_ fun cdv A out s H E hr hgd => ⟨_, (dss_cons (ds_expr (de_bi T.i_InnerError (by rfl) T.g_InnerError (da_cons (de_var (pv 0)) (da_cons de_str da_nil)))) (dss_one (ds_oset (de_var (pv 0)) (de_var (pv 1))))), ?_⟩
  · exact kbind_of D fun q h => by
      obtain rfl := List.mem_singleton.mp h
      exact fun u ws hl => match ws, hl with | [_], _ => ⟨trivial, fun _ _ _ _ _ _ _ => rfl⟩
  · rintro xs M P R ⟨a, y, rfl, hM, hP⟩
    exact sx1 T.e_NoParams T.f_NoParams_found hM hP
theorem X_NoText (T : Facts K mg w) : MOk P w K mg base CX0 1 (ca K "NoText") ["self", "found"] [(["found"], [0])] (spX1 K "NoText" "found") := by
  obtain ⟨fI, fd, iC, tI, D⟩ := T.j_NoText
  refine xok_of T.e_NoText iC tI D (D.bindsN fun _ _ _ _ _ _ us hl => match us, hl with | [_, _], _ => rfl) sc_NoText spX1_many ?_ fun cdv A out s H E hr hgd => ⟨_, (dss_cons (ds_expr (de_bi T.i_InnerError (by rfl) T.g_InnerError (da_cons (de_var (pv 0)) (da_cons de_str da_nil)))) (dss_one (ds_oset (de_var (pv 0)) (de_var (pv 1))))), ?_⟩
  · exact kbind_of D fun q h => by
      obtain rfl := List.mem_singleton.mp h
      exact fun u ws hl => match ws, hl with | [_], _ => ⟨trivial, fun _ _ _ _ _ _ _ => rfl⟩
  · rintro xs M P R ⟨a, y, rfl, hM, hP⟩
    exact sx1 T.e_NoText T.f_NoText_found hM hP
theorem X_NoRow (T : Facts K mg w) : MOk P w K mg base CX0 1 (ca K "NoRow") ["self", "at"] [(["at"], [0])] (spX1 K "NoRow" "at") := by
  obtain ⟨fI, fd, iC, tI, D⟩ := T.j_NoRow
  refine xok_of T.e_NoRow iC tI D (D.bindsN fun _ _ _ _ _ _ us hl => match us, hl with | [_, _], _ => rfl) sc_NoRow spX1_many ?_ fun cdv A out s H E hr hgd => ⟨_, (dss_cons (ds_expr (de_bi T.i_InnerError (by rfl) T.g_InnerError (da_cons (de_var (pv 0)) (da_cons de_str da_nil)))) (dss_one (ds_oset (de_var (pv 0)) (de_var (pv 1))))), ?_⟩
  · exact kbind_of D fun q h => by
      obtain rfl := List.mem_singleton.mp h
      exact fun u ws hl => match ws, hl with | [_], _ => ⟨trivial, fun _ _ _ _ _ _ _ => rfl⟩
  · rintro xs M P R ⟨a, y, rfl, hM, hP⟩
    exact sx1 T.e_NoRow T.f_NoRow_at hM hP
theorem X_NoStore (T : Facts K mg w) : MOk P w K mg base CX0 1 (ca K "NoStore") ["self", "found"] [(["found"], [0])] (spX1 K "NoStore" "found") := by
  obtain ⟨fI, fd, iC, tI, D⟩ := T.j_NoStore
  refine xok_of T.e_NoStore iC tI D (D.bindsN fun _ _ _ _ _ _ us hl => match us, hl with | [_, _], _ => rfl) sc_NoStore spX1_many ?_ fun cdv A out s H E hr hgd => ⟨_, (dss_cons (ds_expr (de_bi T.i_InnerError (by rfl) T.g_InnerError (da_cons (de_var (pv 0)) (da_cons de_str da_nil)))) (dss_one (ds_oset (de_var (pv 0)) (de_var (pv 1))))), ?_⟩
  · exact kbind_of D fun q h => by
      obtain rfl := List.mem_singleton.mp h
      exact fun u ws hl => match ws, hl with | [_], _ => ⟨trivial, fun _ _ _ _ _ _ _ => rfl⟩
  · rintro xs M P R ⟨a, y, rfl, hM, hP⟩
    exact sx1 T.e_NoStore T.f_NoStore_found hM hP
theorem X_NoKind (T : Facts K mg w) : MOk P w K mg base CX0 1 (ca K "NoKind") ["self", "found"] [(["found"], [0])] (spX1 K "NoKind" "found") := by
  obtain ⟨fI, fd, iC, tI, D⟩ := T.j_NoKind
  refine xok_of T.e_NoKind iC tI D (D.bindsN fun _ _ _ _ _ _ us hl => match us, hl with | [_, _], _ => rfl) sc_NoKind spX1_many ?_ fun cdv A out s H E hr hgd => ⟨_, (dss_cons (ds_expr (de_bi T.i_InnerError (by rfl) T.g_InnerError (da_cons (de_var (pv 0)) (da_cons de_str da_nil)))) (dss_one (ds_oset (de_var (pv 0)) (de_var (pv 1))))), ?_⟩
  · exact kbind_of D fun q h => by
      obtain rfl := List.mem_singleton.mp h
      exact fun u ws hl => match ws, hl with | [_], _ => ⟨trivial, fun _ _ _ _ _ _ _ => rfl⟩
  · rintro xs M P R ⟨a, y, rfl, hM, hP⟩
    exact sx1 T.e_NoKind T.f_NoKind_found hM hP
theorem X_NoRows (T : Facts K mg w) : MOk P w K mg base CX0 1 (ca K "NoRows") ["self", "found"] [(["found"], [0])] (spX1 K "NoRows" "found") := by
  obtain ⟨fI, fd, iC, tI, D⟩ := T.j_NoRows
  refine xok_of T.e_NoRows iC tI D (D.bindsN fun _ _ _ _ _ _ us hl => match us, hl with | [_, _], _ => rfl) sc_NoRows spX1_many ?_ fun cdv A out s H E hr hgd => ⟨_, (dss_cons (ds_expr (de_bi T.i_InnerError (by rfl) T.g_InnerError (da_cons (de_var (pv 0)) (da_cons de_str da_nil)))) (dss_one (ds_oset (de_var (pv 0)) (de_var (pv 1))))), ?_⟩
  · exact kbind_of D fun q h => by
      obtain rfl := List.mem_singleton.mp h
      exact fun u ws hl => match ws, hl with | [_], _ => ⟨trivial, fun _ _ _ _ _ _ _ => rfl⟩
  · rintro xs M P R ⟨a, y, rfl, hM, hP⟩
    exact sx1 T.e_NoRows T.f_NoRows_found hM hP
theorem X_NoRules (T : Facts K mg w) : MOk P w K mg base CX0 1 (ca K "NoRules") ["self", "found"] [(["found"], [0])] (spX1 K "NoRules" "found") := by
  obtain ⟨fI, fd, iC, tI, D⟩ := T.j_NoRules
  refine xok_of T.e_NoRules iC tI D (D.bindsN fun _ _ _ _ _ _ us hl => match us, hl with | [_, _], _ => rfl) sc_NoRules spX1_many ?_ fun cdv A out s H E hr hgd => ⟨_, (dss_cons (ds_expr (de_bi T.i_InnerError (by rfl) T.g_InnerError (da_cons (de_var (pv 0)) (da_cons de_str da_nil)))) (dss_one (ds_oset (de_var (pv 0)) (de_var (pv 1))))), ?_⟩
  · exact kbind_of D fun q h => by
      obtain rfl := List.mem_singleton.mp h
      exact fun u ws hl => match ws, hl with | [_], _ => ⟨trivial, fun _ _ _ _ _ _ _ => rfl⟩
  · rintro xs M P R ⟨a, y, rfl, hM, hP⟩
    exact sx1 T.e_NoRules T.f_NoRules_found hM hP
theorem X_NoAsk (T : Facts K mg w) : MOk P w K mg base CX0 1 (ca K "NoAsk") ["self", "found"] [(["found"], [0])] (spX1 K "NoAsk" "found") := by
  obtain ⟨fI, fd, iC, tI, D⟩ := T.j_NoAsk
  refine xok_of T.e_NoAsk iC tI D (D.bindsN fun _ _ _ _ _ _ us hl => match us, hl with | [_, _], _ => rfl) sc_NoAsk spX1_many ?_ fun cdv A out s H E hr hgd => ⟨_, (dss_cons (ds_expr (de_bi T.i_InnerError (by rfl) T.g_InnerError (da_cons (de_var (pv 0)) (da_cons de_str da_nil)))) (dss_one (ds_oset (de_var (pv 0)) (de_var (pv 1))))), ?_⟩
  · exact kbind_of D fun q h => by
      obtain rfl := List.mem_singleton.mp h
      exact fun u ws hl => match ws, hl with | [_], _ => ⟨trivial, fun _ _ _ _ _ _ _ => rfl⟩
  · rintro xs M P R ⟨a, y, rfl, hM, hP⟩
    exact sx1 T.e_NoAsk T.f_NoAsk_found hM hP
theorem X_NoWay (T : Facts K mg w) : MOk P w K mg base CX0 1 (ca K "NoWay") ["self", "found"] [(["found"], [0])] (spX1 K "NoWay" "found") := by
  obtain ⟨fI, fd, iC, tI, D⟩ := T.j_NoWay
  refine xok_of T.e_NoWay iC tI D (D.bindsN fun _ _ _ _ _ _ us hl => match us, hl with | [_, _], _ => rfl) sc_NoWay spX1_many ?_ fun cdv A out s H E hr hgd => ⟨_, (dss_cons (ds_expr (de_bi T.i_InnerError (by rfl) T.g_InnerError (da_cons (de_var (pv 0)) (da_cons de_str da_nil)))) (dss_one (ds_oset (de_var (pv 0)) (de_var (pv 1))))), ?_⟩
  · exact kbind_of D fun q h => by
      obtain rfl := List.mem_singleton.mp h
      exact fun u ws hl => match ws, hl with | [_], _ => ⟨trivial, fun _ _ _ _ _ _ _ => rfl⟩
  · rintro xs M P R ⟨a, y, rfl, hM, hP⟩
    exact sx1 T.e_NoWay T.f_NoWay_found hM hP
theorem X_NoLine (T : Facts K mg w) : MOk P w K mg base CX0 1 (ca K "NoLine") ["self", "found"] [(["found"], [0])] (spX1 K "NoLine" "found") := by
  obtain ⟨fI, fd, iC, tI, D⟩ := T.j_NoLine
  refine xok_of T.e_NoLine iC tI D (D.bindsN fun _ _ _ _ _ _ us hl => match us, hl with | [_, _], _ => rfl) sc_NoLine spX1_many ?_ fun cdv A out s H E hr hgd => ⟨_, (dss_cons (ds_expr (de_bi T.i_InnerError (by rfl) T.g_InnerError (da_cons (de_var (pv 0)) (da_cons de_str da_nil)))) (dss_one (ds_oset (de_var (pv 0)) (de_var (pv 1))))), ?_⟩
  · exact kbind_of D fun q h => by
      obtain rfl := List.mem_singleton.mp h
      exact fun u ws hl => match ws, hl with | [_], _ => ⟨trivial, fun _ _ _ _ _ _ _ => rfl⟩
  · rintro xs M P R ⟨a, y, rfl, hM, hP⟩
    exact sx1 T.e_NoLine T.f_NoLine_found hM hP
theorem X_NoPaper (T : Facts K mg w) : MOk P w K mg base CX0 1 (ca K "NoPaper") ["self", "found"] [(["found"], [0])] (spX1 K "NoPaper" "found") := by
  obtain ⟨fI, fd, iC, tI, D⟩ := T.j_NoPaper
  refine xok_of T.e_NoPaper iC tI D (D.bindsN fun _ _ _ _ _ _ us hl => match us, hl with | [_, _], _ => rfl) sc_NoPaper spX1_many ?_ fun cdv A out s H E hr hgd => ⟨_, (dss_cons (ds_expr (de_bi T.i_InnerError (by rfl) T.g_InnerError (da_cons (de_var (pv 0)) (da_cons de_str da_nil)))) (dss_one (ds_oset (de_var (pv 0)) (de_var (pv 1))))), ?_⟩
  · exact kbind_of D fun q h => by
      obtain rfl := List.mem_singleton.mp h
      exact fun u ws hl => match ws, hl with | [_], _ => ⟨trivial, fun _ _ _ _ _ _ _ => rfl⟩
  · rintro xs M P R ⟨a, y, rfl, hM, hP⟩
    exact sx1 T.e_NoPaper T.f_NoPaper_found hM hP
theorem X_NoList (T : Facts K mg w) : MOk P w K mg base CX0 1 (ca K "NoList") ["self", "found"] [(["found"], [0])] (spX1 K "NoList" "found") := by
  obtain ⟨fI, fd, iC, tI, D⟩ := T.j_NoList
  refine xok_of T.e_NoList iC tI D (D.bindsN fun _ _ _ _ _ _ us hl => match us, hl with | [_, _], _ => rfl) sc_NoList spX1_many ?_ fun cdv A out s H E hr hgd => ⟨_, (dss_cons (ds_expr (de_bi T.i_InnerError (by rfl) T.g_InnerError (da_cons (de_var (pv 0)) (da_cons de_str da_nil)))) (dss_one (ds_oset (de_var (pv 0)) (de_var (pv 1))))), ?_⟩
  · exact kbind_of D fun q h => by
      obtain rfl := List.mem_singleton.mp h
      exact fun u ws hl => match ws, hl with | [_], _ => ⟨trivial, fun _ _ _ _ _ _ _ => rfl⟩
  · rintro xs M P R ⟨a, y, rfl, hM, hP⟩
    exact sx1 T.e_NoList T.f_NoList_found hM hP
theorem X_NoTruth (T : Facts K mg w) : MOk P w K mg base CX0 1 (ca K "NoTruth") ["self", "found"] [(["found"], [0])] (spX1 K "NoTruth" "found") := by
  obtain ⟨fI, fd, iC, tI, D⟩ := T.j_NoTruth
  refine xok_of T.e_NoTruth iC tI D (D.bindsN fun _ _ _ _ _ _ us hl => match us, hl with | [_, _], _ => rfl) sc_NoTruth spX1_many ?_ fun cdv A out s H E hr hgd => ⟨_, (dss_cons (ds_expr (de_bi T.i_InnerError (by rfl) T.g_InnerError (da_cons (de_var (pv 0)) (da_cons de_str da_nil)))) (dss_one (ds_oset (de_var (pv 0)) (de_var (pv 1))))), ?_⟩
  · exact kbind_of D fun q h => by
      obtain rfl := List.mem_singleton.mp h
      exact fun u ws hl => match ws, hl with | [_], _ => ⟨trivial, fun _ _ _ _ _ _ _ => rfl⟩
  · rintro xs M P R ⟨a, y, rfl, hM, hP⟩
    exact sx1 T.e_NoTruth T.f_NoTruth_found hM hP
theorem X_Unfit (T : Facts K mg w) : MOk P w K mg base CX0 1 (ca K "Unfit") ["self", "found"] [(["found"], [0])] (spX1 K "Unfit" "found") := by
  obtain ⟨fI, fd, iC, tI, D⟩ := T.j_Unfit
  refine xok_of T.e_Unfit iC tI D (D.bindsN fun _ _ _ _ _ _ us hl => match us, hl with | [_, _], _ => rfl) sc_Unfit spX1_many ?_ fun cdv A out s H E hr hgd => ⟨_, (dss_cons (ds_expr (de_bi T.i_InnerError (by rfl) T.g_InnerError (da_cons (de_var (pv 0)) (da_cons de_str da_nil)))) (dss_one (ds_oset (de_var (pv 0)) (de_var (pv 1))))), ?_⟩
  · exact kbind_of D fun q h => by
      obtain rfl := List.mem_singleton.mp h
      exact fun u ws hl => match ws, hl with | [_], _ => ⟨trivial, fun _ _ _ _ _ _ _ => rfl⟩
  · rintro xs M P R ⟨a, y, rfl, hM, hP⟩
    exact sx1 T.e_Unfit T.f_Unfit_found hM hP
theorem X_Doubled (T : Facts K mg w) : MOk P w K mg base CX0 1 (ca K "Doubled") ["self", "found"] [(["found"], [0])] (spX1 K "Doubled" "found") := by
  obtain ⟨fI, fd, iC, tI, D⟩ := T.j_Doubled
  refine xok_of T.e_Doubled iC tI D (D.bindsN fun _ _ _ _ _ _ us hl => match us, hl with | [_, _], _ => rfl) sc_Doubled spX1_many ?_ fun cdv A out s H E hr hgd => ⟨_, (dss_cons (ds_expr (de_bi T.i_InnerError (by rfl) T.g_InnerError (da_cons (de_var (pv 0)) (da_cons de_str da_nil)))) (dss_one (ds_oset (de_var (pv 0)) (de_var (pv 1))))), ?_⟩
  · exact kbind_of D fun q h => by
      obtain rfl := List.mem_singleton.mp h
      exact fun u ws hl => match ws, hl with | [_], _ => ⟨trivial, fun _ _ _ _ _ _ _ => rfl⟩
  · rintro xs M P R ⟨a, y, rfl, hM, hP⟩
    exact sx1 T.e_Doubled T.f_Doubled_found hM hP
theorem X_TooMany (T : Facts K mg w) : MOk P w K mg base CX0 1 (ca K "TooMany") ["self", "many"] [(["many"], [0])] (spX1 K "TooMany" "many") := by
  obtain ⟨fI, fd, iC, tI, D⟩ := T.j_TooMany
  refine xok_of T.e_TooMany iC tI D (D.bindsN fun _ _ _ _ _ _ us hl => match us, hl with | [_, _], _ => rfl) sc_TooMany spX1_many ?_ fun cdv A out s H E hr hgd => ⟨_, (dss_cons (ds_expr (de_bi T.i_InnerError (by rfl) T.g_InnerError (da_cons (de_var (pv 0)) (da_cons de_str da_nil)))) (dss_one (ds_oset (de_var (pv 0)) (de_var (pv 1))))), ?_⟩
  · exact kbind_of D fun q h => by
      obtain rfl := List.mem_singleton.mp h
      exact fun u ws hl => match ws, hl with | [_], _ => ⟨trivial, fun _ _ _ _ _ _ _ => rfl⟩
  · rintro xs M P R ⟨a, y, rfl, hM, hP⟩
    exact sx1 T.e_TooMany T.f_TooMany_many hM hP
theorem X_NoThing (T : Facts K mg w) : MOk P w K mg base CX0 1 (ca K "NoThing") ["self", "found"] [(["found"], [0])] (spX1 K "NoThing" "found") := by
  obtain ⟨fI, fd, iC, tI, D⟩ := T.j_NoThing
  refine xok_of T.e_NoThing iC tI D (D.bindsN fun _ _ _ _ _ _ us hl => match us, hl with | [_, _], _ => rfl) sc_NoThing spX1_many ?_ fun cdv A out s H E hr hgd => ⟨_, (dss_cons (ds_expr (de_bi T.i_Missing (by rfl) T.g_Missing (da_cons (de_var (pv 0)) (da_cons de_str da_nil)))) (dss_one (ds_oset (de_var (pv 0)) (de_var (pv 1))))), ?_⟩
  · exact kbind_of D fun q h => by
      obtain rfl := List.mem_singleton.mp h
      exact fun u ws hl => match ws, hl with | [_], _ => ⟨trivial, fun _ _ _ _ _ _ _ => rfl⟩
  · rintro xs M P R ⟨a, y, rfl, hM, hP⟩
    exact sx1 T.e_NoThing T.f_NoThing_found hM hP
theorem X_NotThere (T : Facts K mg w) : MOk P w K mg base CX0 1 (ca K "NotThere") ["self", "found"] [(["found"], [0])] (spX1 K "NotThere" "found") := by
  obtain ⟨fI, fd, iC, tI, D⟩ := T.j_NotThere
  refine xok_of T.e_NotThere iC tI D (D.bindsN fun _ _ _ _ _ _ us hl => match us, hl with | [_, _], _ => rfl) sc_NotThere spX1_many ?_ fun cdv A out s H E hr hgd => ⟨_, (dss_cons (ds_expr (de_bi T.i_Missing (by rfl) T.g_Missing (da_cons (de_var (pv 0)) (da_cons de_str da_nil)))) (dss_one (ds_oset (de_var (pv 0)) (de_var (pv 1))))), ?_⟩
  · exact kbind_of D fun q h => by
      obtain rfl := List.mem_singleton.mp h
      exact fun u ws hl => match ws, hl with | [_], _ => ⟨trivial, fun _ _ _ _ _ _ _ => rfl⟩
  · rintro xs M P R ⟨a, y, rfl, hM, hP⟩
    exact sx1 T.e_NotThere T.f_NotThere_found hM hP
theorem X_Fault (T : Facts K mg w) : MOk P w K mg base CX0 1 (ca K "Fault") ["self", "why", "found"] [(["found", "why"], [1, 0])] (spX2 K "Fault" "why" "found") := by
  obtain ⟨fI, fd, iC, tI, D⟩ := T.j_Fault
  refine xok_of T.e_Fault iC tI D (D.bindsN fun _ _ _ _ _ _ us hl => match us, hl with | [_, _, _], _ => rfl) sc_Fault spX2_many ?_ fun cdv A out s H E hr hgd => ⟨_, (dss_cons (ds_expr (de_bi T.i_Barred (by rfl) T.g_Barred (da_cons (de_var (pv 0)) (da_cons de_str da_nil)))) (dss_cons (ds_oset (de_var (pv 0)) (de_var (pv 1))) (dss_one (ds_oset (de_var (pv 0)) (de_var (pv 2)))))), ?_⟩
  · exact kbind_of D fun q h => by
      obtain rfl := List.mem_singleton.mp h
      exact fun u ws hl => match ws, hl with | [_, _], _ => ⟨trivial, fun _ _ _ _ _ _ _ => rfl⟩
  · rintro xs M P R ⟨a, y, z, rfl, hM, hP⟩
    exact sx2 T.e_Fault T.f_Fault_why T.f_Fault_found hM hP
theorem X_Ended (T : Facts K mg w) : MOk P w K mg base CX0 1 (ca K "Ended") ["self", "found"] [(["found"], [0])] (spX1 K "Ended" "found") := by
  obtain ⟨fI, fd, iC, tI, D⟩ := T.j_Ended
  refine xok_of T.e_Ended iC tI D (D.bindsN fun _ _ _ _ _ _ us hl => match us, hl with | [_, _], _ => rfl) sc_Ended spX1_many ?_ fun cdv A out s H E hr hgd => ⟨_, (dss_cons (ds_expr (de_bi T.i_Barred (by rfl) T.g_Barred (da_cons (de_var (pv 0)) (da_cons de_str da_nil)))) (dss_one (ds_oset (de_var (pv 0)) (de_var (pv 1))))), ?_⟩
  · exact kbind_of D fun q h => by
      obtain rfl := List.mem_singleton.mp h
      exact fun u ws hl => match ws, hl with | [_], _ => ⟨trivial, fun _ _ _ _ _ _ _ => rfl⟩
  · rintro xs M P R ⟨a, y, rfl, hM, hP⟩
    exact sx1 T.e_Ended T.f_Ended_found hM hP
theorem X_Over (T : Facts K mg w) : MOk P w K mg base CX0 1 (ca K "Over") ["self"] [] (spX0 K "Over" ) := by
  obtain ⟨fI, fd, iC, tI, D⟩ := T.j_Over
  refine xok_of T.e_Over iC tI D (D.bindsN fun _ _ _ _ _ _ us hl => match us, hl with | [_], _ => rfl) sc_Over spX0_many ?_ fun cdv A out s H E hr hgd => ⟨_, (dss_one (ds_expr (de_bi T.i_Barred (by rfl) T.g_Barred (da_cons (de_var (pv 0)) (da_cons de_str da_nil))))), ?_⟩
  · exact fun q h => nomatch h
  · rintro xs M P R ⟨a, rfl, hM, hP⟩
    exact sx0 T.e_Over hM hP
end
end K13
end
section
set_option Elab.async false
set_option linter.all false
set_option maxRecDepth 100000
set_option maxHeartbeats 400000
namespace K13
open PySem PySem.Spec L2 DL DX
open PyProof.Rows hiding St
/-! ### what is looked at beside the kit's facts -/
theorem intB_ok {d : PyData} {o : Option (Option Value)} (h : intB d o = true) : ∃ i t, d = .int i ∧ o = some (some (.int i t)) := by
  unfold intB at h
  split at h
  · split at h
    · exact ⟨_, _, rfl, by rw [of_decide_eq_true h]⟩
    · cases h
  · cases h
theorem valIs_ok {o : Option PySem.W.CFound} {n : String} (h : valIs o n = true) : o = some (.val (.builtin n)) := by
  unfold valIs at h
  split at h
  · rw [of_decide_eq_true h]
  · cases h
theorem more_all {K : PySem.W.Frag} (B : more K = true) : listB K = true ∧ tupB K = true ∧ tabB K = true ∧ ecAll K = true ∧ biAll K = true ∧ crAll K = true ∧ inAll K = true ∧ noAll K = true ∧ isTab K = wantTab := by
  unfold more at B
  simp only [Bool.and_eq_true, decide_eq_true_eq] at B
  exact B
section
variable {K : PySem.W.Frag} {mg : Str → Option Value} {w : World}
theorem b_sys (B : more K = true) : HasSys K := by
  have b := (more_all B).1
  unfold listB at b
  split at b
  · rename_i c d dt sl e
    exact ⟨_, e, congrArg Value.type (of_decide_eq_true b)⟩
  · cases b
theorem strsB_ok : ∀ {us : List Value} {xs : List Str}, strsB us xs = true → Vals (xs.map V.str) us
  | [], [], _ => .nil
  | [], _ :: _, h => by cases h
  | .str x t :: r, y :: s, h => by
    obtain ⟨h1, h2⟩ := Bool.and_eq_true_iff.mp (show (decide (x = y) && strsB r s) = true from h)
    exact .cons ⟨t, by rw [of_decide_eq_true h1]⟩ (strsB_ok h2)
  | .str _ _ :: _, [], h => by cases h
  | .none :: _, xs, h => by cases xs <;> cases h
  | .ellipsis :: _, xs, h => by cases xs <;> cases h
  | .notImplemented :: _, xs, h => by cases xs <;> cases h
  | .bool _ :: _, xs, h => by cases xs <;> cases h
  | .int _ _ :: _, xs, h => by cases xs <;> cases h
  | .float _ _ :: _, xs, h => by cases xs <;> cases h
  | .bytes _ _ :: _, xs, h => by cases xs <;> cases h
  | .type _ :: _, xs, h => by cases xs <;> cases h
  | .builtin _ :: _, xs, h => by cases xs <;> cases h
  | .ref _ :: _, xs, h => by cases xs <;> cases h
theorem dds_of_map {S : Hp} : ∀ xs : List Str, DDs K S (xs.map V.str) (xs.map PyData.str)
  | [] => .nil
  | x :: r => .cons (.str x) (dds_of_map r)
theorem b_tup (B : more K = true) : ∀ S, DD K S (.ref (ca K tupN)) (.tuple (tupD.map .str)) := fun S => by
  have b := (more_all B).2.1
  unfold tupB at b
  split at b
  · rename_i c d its n sl e
    obtain ⟨b1, b2⟩ := Bool.and_eq_true_iff.mp b
    obtain ⟨b3, b4⟩ := Bool.and_eq_true_iff.mp b2
    exact .tup (.inr ⟨_, its, n, e, congrArg Value.type (of_decide_eq_true b1), rfl, of_decide_eq_true b3, strsB_ok b4⟩) (dds_of_map tupD)
  · cases b
theorem gc_int {x : Str} {i : Int} (h : ∃ t, mg x = some (.int i t)) : GC K mg x (.int i) :=
  let ⟨t, e⟩ := h
  ⟨⟨_, .int i, e, ⟨t, rfl⟩, fun _ => .int i⟩⟩
theorem gc_str {x : Str} {i : Str} (h : ∃ t, mg x = some (.str i t)) : GC K mg x (.str i) :=
  let ⟨t, e⟩ := h
  ⟨⟨_, .str i, e, ⟨t, rfl⟩, fun _ => .str i⟩⟩
theorem gc_tup {x : Str} {a : Addr} {d : PyData} (h : mg x = some (.ref a)) (hd : ∀ S, DD K S (.ref a) d) : GC K mg x d := ⟨⟨_, .ref a, h, rfl, hd⟩⟩
theorem all_at {α : Type} {l : List α} {p : α → Bool} (h : l.all p = true) {x : α} (hx : x ∈ l) : p x = true := List.all_eq_true.mp h x hx
theorem b_tab (B : more K = true) : tabB K = true := (more_all B).2.2.1
theorem ecAll_at (h : ecAll K = true) : ∀ q ∈ fams, ecB K q.2 (ca K q.1) = true := by
  unfold ecAll at h
  rw [List.all_eq_true] at h
  exact h
theorem biAll_at (h : biAll K = true) : ∀ q ∈ bases, (PySem.W.findIn K (.ref (ca K q.1)) "__init__" == some (some (.builtin q.2.initId))) = true := by
  unfold biAll at h
  rw [List.all_eq_true] at h
  exact h
theorem crAll_at (h : crAll K = true) : ∀ q ∈ bases, (PySem.W.readsIn K (ca K q.1) (.type "type") && ((PySem.W.specialIn K (.ref (ca K q.1)) "__getattribute__" == some (some (.builtin "type.__getattribute__"))) && valIs (PySem.W.findCls K (.ref (ca K q.1)) (.type "type") "__init__") q.2.initId)) = true := by
  unfold crAll at h
  rw [List.all_eq_true] at h
  exact h
theorem inAll_at (h : inAll K = true) : ∀ c ∈ owns, ((PySem.W.findIn K (.ref (ca K c)) "__init__" == some (some (.ref (He.fAd K (c, some "__init__"))))) && (PySem.W.typeIn K (.ref (He.fAd K (c, some "__init__"))) == some (.type "function"))) = true := by
  unfold inAll at h
  rw [List.all_eq_true] at h
  exact h
theorem noAll_at (h : noAll K = true) : ∀ q ∈ flds, (PySem.W.findIn K (.ref (ca K q.1)) q.2 == some none) = true := by
  unfold noAll at h
  rw [List.all_eq_true] at h
  exact h
theorem tabB_at (h : tabB K = true) : ∀ q ∈ tabD, intB q.2 (PySem.W.nsIn K (ca K tabN) q.1) = true := by
  unfold tabB at h
  rw [List.all_eq_true] at h
  exact h
theorem b_ec (B : more K = true) (q : Str × Fam) (h : q ∈ fams) : EC K q.2 (ca K q.1) := ecB_ok (ecAll_at (more_all B).2.2.2.1 q h)
theorem b_bi (B : more K = true) (q : Str × Fam) (h : q ∈ bases) : PySem.W.findIn K (.ref (ca K q.1)) "__init__" = some (some (.builtin q.2.initId)) := beq_iff_eq.mp (biAll_at (more_all B).2.2.2.2.1 q h)
theorem b_cr (B : more K = true) (q : Str × Fam) (h : q ∈ bases) : BI K q.2 (ca K q.1) := by
  obtain ⟨b1, b2⟩ := Bool.and_eq_true_iff.mp (crAll_at (more_all B).2.2.2.2.2.1 q h)
  obtain ⟨b3, b4⟩ := Bool.and_eq_true_iff.mp b2
  exact ⟨b1, beq_iff_eq.mp b3, valIs_ok b4⟩
theorem b_in (B : more K = true) (c : Str) (h : c ∈ owns) : PySem.W.findIn K (.ref (ca K c)) "__init__" = some (some (.ref (He.fAd K (c, some "__init__")))) ∧ PySem.W.typeIn K (.ref (He.fAd K (c, some "__init__"))) = some (.type "function") := by
  obtain ⟨b1, b2⟩ := Bool.and_eq_true_iff.mp (inAll_at (more_all B).2.2.2.2.2.2.1 c h)
  exact ⟨beq_iff_eq.mp b1, beq_iff_eq.mp b2⟩
theorem b_no (B : more K = true) (q : Str × Str) (h : q ∈ flds) : PySem.W.findIn K (.ref (ca K q.1)) q.2 = some none := beq_iff_eq.mp (noAll_at (more_all B).2.2.2.2.2.2.2.1 q h)
theorem b_isx (B : more K = true) : isTab K = wantTab := (more_all B).2.2.2.2.2.2.2.2
/-- a table of ints by texts -/
theorem tabGet_mem : ∀ {l : List (Str × PyData)} {z : Str} {d : PyData}, tabGet l z = some d → (z, d) ∈ l
  | [], _, _, h => by cases h
  | (k, x) :: r, z, d, h => by
    unfold tabGet at h
    by_cases e : k = z
    · rw [if_pos e] at h
      cases h
      rw [e]
      exact List.mem_cons_self
    · rw [if_neg e] at h
      exact List.mem_cons_of_mem _ (tabGet_mem h)
theorem isStr_of {u : Value} {z : Str} (h : u.isStr z = true) : ∃ t, u = .str z t := by
  cases u <;> simp [Value.isStr] at h
  exact ⟨_, by rw [h]⟩
theorem ktab_of {a : Addr} (hk : ∃ es n, KDict K w a es n) (hd : ((ts.map fun t => He.dicW K (t.1 K)))[0]? = (ts.map fun t => some (He.keysIn w.params t.2))[0]?) (b : tabB K = true) (ha : a = ca K tabN := by rfl) : KTab K w a tabD := by
  subst ha
  refine ⟨hk, fun z => ?_⟩
  obtain ⟨es, n, D⟩ := hk
  have e1 : He.dicW K (ca K tabN) = some (He.keysIn w.params (tabD.map (·.1))) := Option.some.inj hd
  have e2 : es.toList.map He.keyOf = He.keysIn w.params (tabD.map (·.1)) := by
    unfold He.dicW at e1
    rw [D.at_] at e1
    have z : (match decide ("dict" = "dict") && ((#[] : Array (Option Value)).isEmpty && !(ca K tabN == sysModules)) with
      | true => some (es.toList.map He.keyOf)
      | false => none) = some (He.keysIn w.params (tabD.map (·.1))) := e1
    rw [D.low] at z
    exact Option.some.inj z
  cases hg : tabGet tabD z with
  | some d =>
    obtain ⟨i, t, e, h2⟩ := intB_ok (tabB_at b _ (tabGet_mem hg))
    dsimp only at e
    subst e
    exact .inr ⟨.int i, _, .int i, rfl, h2, ⟨t, rfl⟩, fun _ => .int i⟩
  | none =>
    refine .inl ⟨rfl, ?_⟩
    have key : ∀ (l : List DictEntry) (ks : List (Str × PyData)), l.map He.keyOf = He.keysIn w.params (ks.map (·.1)) → tabGet ks z = none → l.find? (·.key.isStr z) = none ∧ l.any (·.refKey) = false := by
      intro l
      induction l with
      | nil => intro ks _ _; exact ⟨rfl, rfl⟩
      | cons q r ih =>
        intro ks h1 h2
        cases ks with
        | nil => cases h1
        | cons k s =>
          have h3 : He.keyOf q :: r.map He.keyOf = some (k.1, PyData.keyHash w.params k.1) :: He.keysIn w.params (s.map (·.1)) := h1
          injection h3 with h4 h5
          unfold tabGet at h2
          by_cases ek : k.1 = z
          · rw [if_pos ek] at h2
            cases h2
          · rw [if_neg ek] at h2
            obtain ⟨i1, i2⟩ := ih s h5 h2
            unfold He.keyOf at h4
            split at h4
            · rename_i x t hx
              have h6 := (Prod.mk.inj (Option.some.inj h4)).1
              have ns : q.key.isStr z = false := by
                cases hh : q.key.isStr z with
                | false => rfl
                | true =>
                  obtain ⟨t', e'⟩ := isStr_of hh
                  rw [hx] at e'
                  cases e'
                  exact (ek h6.symm).elim
              have nr : q.refKey = false := by
                unfold DictEntry.refKey
                rw [hx]
              refine ⟨?_, ?_⟩
              · rw [List.find?_cons, ns]
                exact i1
              · rw [List.any_cons, nr, i2]
                rfl
            · cases h4
    obtain ⟨f1, f2⟩ := key es.toList tabD e2 hg
    unfold PySem.W.nsIn
    rw [D.at_]
    dsimp only
    rw [f1, f2]
    first | rfl | done
end

set_option maxHeartbeats 400000 in
theorem facts_of {K : PySem.W.Frag} {h : Heap} {mg : Str → Option Value} {w : World} (X : K.In h) (G : h.Ns mainGlobals mg) (c : He.SaysT fa fn ts w K) (B : more K = true) : Facts K mg w where
  m_KeyError := He.free_ok X G (c.d.fact 0 (f := .free "KeyError") rfl)
  m_LookupError := He.free_ok X G (c.d.fact 1 (f := .free "LookupError") rfl)
  m_ValueError := He.free_ok X G (c.d.fact 2 (f := .free "ValueError") rfl)
  m_all := He.free_ok X G (c.d.fact 3 (f := .free "all") rfl)
  m_bool := He.free_ok X G (c.d.fact 4 (f := .free "bool") rfl)
  m_dict := He.free_ok X G (c.d.fact 5 (f := .free "dict") rfl)
  m_enumerate := He.free_ok X G (c.d.fact 6 (f := .free "enumerate") rfl)
  m_int := He.free_ok X G (c.d.fact 7 (f := .free "int") rfl)
  m_isinstance := He.free_ok X G (c.d.fact 8 (f := .free "isinstance") rfl)
  m_len := He.free_ok X G (c.d.fact 9 (f := .free "len") rfl)
  m_list := He.free_ok X G (c.d.fact 10 (f := .free "list") rfl)
  m_max := He.free_ok X G (c.d.fact 11 (f := .free "max") rfl)
  m_min := He.free_ok X G (c.d.fact 12 (f := .free "min") rfl)
  m_ord := He.free_ok X G (c.d.fact 13 (f := .free "ord") rfl)
  m_range := He.free_ok X G (c.d.fact 14 (f := .free "range") rfl)
  m_repr := He.free_ok X G (c.d.fact 15 (f := .free "repr") rfl)
  m_set := He.free_ok X G (c.d.fact 16 (f := .free "set") rfl)
  m_str := He.free_ok X G (c.d.fact 17 (f := .free "str") rfl)
  m_tuple := He.free_ok X G (c.d.fact 18 (f := .free "tuple") rfl)
  c_MOST_NUMBER := gc_int (He.int_ok X G (c.d.fact 19 (f := .int "MOST_NUMBER" 1000000000) rfl))
  c_MOST_THING := gc_int (He.int_ok X G (c.d.fact 20 (f := .int "MOST_THING" 999) rfl))
  c_MOST_SIGNS := gc_int (He.int_ok X G (c.d.fact 21 (f := .int "MOST_SIGNS" 60) rfl))
  c_MOST_PARTS := gc_int (He.int_ok X G (c.d.fact 22 (f := .int "MOST_PARTS" 30) rfl))
  c_MOST_DEEP := gc_int (He.int_ok X G (c.d.fact 23 (f := .int "MOST_DEEP" 4) rfl))
  c_MOST_NAME := gc_int (He.int_ok X G (c.d.fact 24 (f := .int "MOST_NAME" 8) rfl))
  c_PER_CENT := gc_int (He.int_ok X G (c.d.fact 25 (f := .int "PER_CENT" 37) rfl))
  c_QUOTE := gc_int (He.int_ok X G (c.d.fact 26 (f := .int "QUOTE" 39) rfl))
  c_LETTERS := gc_str (He.str_ok X G (c.d.fact 27 (f := .str "LETTERS" "abcdefghijklmnopqrstuvwxyz") rfl))
  c_NO_NAMES := gc_tup (He.glo_ok X G (c.d.fact 28 (f := .glo "NO_NAMES") rfl)) (b_tup B)
  c_MOST_RULES := gc_int (He.int_ok X G (c.d.fact 29 (f := .int "MOST_RULES" 8) rfl))
  t_LENGTHS := ⟨He.glo_ok X G (c.d.fact 30 (f := .glo "LENGTHS") rfl), ktab_of (c.tab 0 rfl) (congrArg (fun z : He.AlT => z.2[0]?) c) (b_tab B)⟩
  d_is_whole := (let ⟨fd, F⟩ := c.d.def_ 0 (d := D_is_whole) rfl; ⟨_, fd, F, He.glo_ok X G (c.d.fact 31 (f := .glo "is_whole") rfl), F.bindsN fun _ _ _ _ _ _ us hl => match us, hl with | [_, _, _], _ => rfl⟩)
  d_is_name := (let ⟨fd, F⟩ := c.d.def_ 1 (d := D_is_name) rfl; ⟨_, fd, F, He.glo_ok X G (c.d.fact 32 (f := .glo "is_name") rfl), F.bindsN fun _ _ _ _ _ _ us hl => match us, hl with | [_], _ => rfl⟩)
  d_is_text := (let ⟨fd, F⟩ := c.d.def_ 2 (d := D_is_text) rfl; ⟨_, fd, F, He.glo_ok X G (c.d.fact 33 (f := .glo "is_text") rfl), F.bindsN fun _ _ _ _ _ _ us hl => match us, hl with | [_], _ => rfl⟩)
  d_is_number := (let ⟨fd, F⟩ := c.d.def_ 3 (d := D_is_number) rfl; ⟨_, fd, F, He.glo_ok X G (c.d.fact 34 (f := .glo "is_number") rfl), F.bindsN fun _ _ _ _ _ _ us hl => match us, hl with | [_], _ => rfl⟩)
  d_is_pair := (let ⟨fd, F⟩ := c.d.def_ 4 (d := D_is_pair) rfl; ⟨_, fd, F, He.glo_ok X G (c.d.fact 35 (f := .glo "is_pair") rfl), F.bindsN fun _ _ _ _ _ _ us hl => match us, hl with | [_, _], _ => rfl⟩)
  d_is_thing := (let ⟨fd, F⟩ := c.d.def_ 5 (d := D_is_thing) rfl; ⟨_, fd, F, He.glo_ok X G (c.d.fact 36 (f := .glo "is_thing") rfl), F.bindsN fun _ _ _ _ _ _ us hl => match us, hl with | [_], _ => rfl⟩)
  d_is_worth_within := (let ⟨fd, F⟩ := c.d.def_ 6 (d := D_is_worth_within) rfl; ⟨_, fd, F, He.glo_ok X G (c.d.fact 37 (f := .glo "is_worth_within") rfl), F.bindsN fun _ _ _ _ _ _ us hl => match us, hl with | [_, _], _ => rfl⟩)
  d_is_worth := (let ⟨fd, F⟩ := c.d.def_ 7 (d := D_is_worth) rfl; ⟨_, fd, F, He.glo_ok X G (c.d.fact 38 (f := .glo "is_worth") rfl), F.bindsN fun _ _ _ _ _ _ us hl => match us, hl with | [_], _ => rfl⟩)
  d_is_rule := (let ⟨fd, F⟩ := c.d.def_ 8 (d := D_is_rule) rfl; ⟨_, fd, F, He.glo_ok X G (c.d.fact 39 (f := .glo "is_rule") rfl), F.bindsN fun _ _ _ _ _ _ us hl => match us, hl with | [_], _ => rfl⟩)
  d_are_rules := (let ⟨fd, F⟩ := c.d.def_ 9 (d := D_are_rules) rfl; ⟨_, fd, F, He.glo_ok X G (c.d.fact 40 (f := .glo "are_rules") rfl), F.bindsN fun _ _ _ _ _ _ us hl => match us, hl with | [_], _ => rfl⟩)
  d__law_cell := (let ⟨fd, F⟩ := c.d.def_ 10 (d := D__law_cell) rfl; ⟨_, fd, F, He.glo_ok X G (c.d.fact 41 (f := .glo "_law_cell") rfl), F.bindsN fun _ _ _ _ _ _ us hl => match us, hl with | [_, _], _ => rfl⟩)
  d__law_purse := (let ⟨fd, F⟩ := c.d.def_ 11 (d := D__law_purse) rfl; ⟨_, fd, F, He.glo_ok X G (c.d.fact 42 (f := .glo "_law_purse") rfl), F.bindsN fun _ _ _ _ _ _ us hl => match us, hl with | [_], _ => rfl⟩)
  d__law_take := (let ⟨fd, F⟩ := c.d.def_ 12 (d := D__law_take) rfl; ⟨_, fd, F, He.glo_ok X G (c.d.fact 43 (f := .glo "_law_take") rfl), F.bindsN fun _ _ _ _ _ _ us hl => match us, hl with | [_, _], _ => rfl⟩)
  d__law_pool := (let ⟨fd, F⟩ := c.d.def_ 13 (d := D__law_pool) rfl; ⟨_, fd, F, He.glo_ok X G (c.d.fact 44 (f := .glo "_law_pool") rfl), F.bindsN fun _ _ _ _ _ _ us hl => match us, hl with | [_, _], _ => rfl⟩)
  d__law_rules := (let ⟨fd, F⟩ := c.d.def_ 14 (d := D__law_rules) rfl; ⟨_, fd, F, He.glo_ok X G (c.d.fact 45 (f := .glo "_law_rules") rfl), F.bindsN fun _ _ _ _ _ _ us hl => match us, hl with | [_, _], _ => rfl⟩)
  d__law_spoilt := (let ⟨fd, F⟩ := c.d.def_ 15 (d := D__law_spoilt) rfl; ⟨_, fd, F, He.glo_ok X G (c.d.fact 46 (f := .glo "_law_spoilt") rfl), F.bindsN fun _ _ _ _ _ _ us hl => match us, hl with | [_, _, _], _ => rfl⟩)
  d__law_called := (let ⟨fd, F⟩ := c.d.def_ 16 (d := D__law_called) rfl; ⟨_, fd, F, He.glo_ok X G (c.d.fact 47 (f := .glo "_law_called") rfl), F.bindsN fun _ _ _ _ _ _ us hl => match us, hl with | [_], _ => rfl⟩)
  d__law_worthy := (let ⟨fd, F⟩ := c.d.def_ 17 (d := D__law_worthy) rfl; ⟨_, fd, F, He.glo_ok X G (c.d.fact 48 (f := .glo "_law_worthy") rfl), F.bindsN fun _ _ _ _ _ _ us hl => match us, hl with | [_, _], _ => rfl⟩)
  d__law_rule_good := (let ⟨fd, F⟩ := c.d.def_ 18 (d := D__law_rule_good) rfl; ⟨_, fd, F, He.glo_ok X G (c.d.fact 49 (f := .glo "_law_rule_good") rfl), F.bindsN fun _ _ _ _ _ _ us hl => match us, hl with | [_], _ => rfl⟩)
  d__law_good := (let ⟨fd, F⟩ := c.d.def_ 19 (d := D__law_good) rfl; ⟨_, fd, F, He.glo_ok X G (c.d.fact 50 (f := .glo "_law_good") rfl), F.bindsN fun _ _ _ _ _ _ us hl => match us, hl with | [_], _ => rfl⟩)
  d__law_joined_one := (let ⟨fd, F⟩ := c.d.def_ 20 (d := D__law_joined_one) rfl; ⟨_, fd, F, He.glo_ok X G (c.d.fact 51 (f := .glo "_law_joined_one") rfl), F.bindsN fun _ _ _ _ _ _ us hl => match us, hl with | [_], _ => rfl⟩)
  d__law_cell_two := (let ⟨fd, F⟩ := c.d.def_ 21 (d := D__law_cell_two) rfl; ⟨_, fd, F, He.glo_ok X G (c.d.fact 52 (f := .glo "_law_cell_two") rfl), F.bindsN fun _ _ _ _ _ _ us hl => match us, hl with | [_, _], _ => rfl⟩)
  d__law_box := (let ⟨fd, F⟩ := c.d.def_ 22 (d := D__law_box) rfl; ⟨_, fd, F, He.glo_ok X G (c.d.fact 53 (f := .glo "_law_box") rfl), F.bindsN fun _ _ _ _ _ _ us hl => match us, hl with | [_], _ => rfl⟩)
  d__law_take_two := (let ⟨fd, F⟩ := c.d.def_ 23 (d := D__law_take_two) rfl; ⟨_, fd, F, He.glo_ok X G (c.d.fact 54 (f := .glo "_law_take_two") rfl), F.bindsN fun _ _ _ _ _ _ us hl => match us, hl with | [_, _], _ => rfl⟩)
  d__law_same := (let ⟨fd, F⟩ := c.d.def_ 24 (d := D__law_same) rfl; ⟨_, fd, F, He.glo_ok X G (c.d.fact 55 (f := .glo "_law_same") rfl), F.bindsN fun _ _ _ _ _ _ us hl => match us, hl with | [_, _], _ => rfl⟩)
  d__law_any := (let ⟨fd, F⟩ := c.d.def_ 25 (d := D__law_any) rfl; ⟨_, fd, F, He.glo_ok X G (c.d.fact 56 (f := .glo "_law_any") rfl), F.bindsN fun _ _ _ _ _ _ us hl => match us, hl with | [_], _ => rfl⟩)
  d__law_marks_first := (let ⟨fd, F⟩ := c.d.def_ 26 (d := D__law_marks_first) rfl; ⟨_, fd, F, He.glo_ok X G (c.d.fact 57 (f := .glo "_law_marks_first") rfl), F.bindsN fun _ _ _ _ _ _ us hl => match us, hl with | [_], _ => rfl⟩)
  d__law_marks_last := (let ⟨fd, F⟩ := c.d.def_ 27 (d := D__law_marks_last) rfl; ⟨_, fd, F, He.glo_ok X G (c.d.fact 58 (f := .glo "_law_marks_last") rfl), F.bindsN fun _ _ _ _ _ _ us hl => match us, hl with | [_], _ => rfl⟩)
  d__law_made_first := (let ⟨fd, F⟩ := c.d.def_ 28 (d := D__law_made_first) rfl; ⟨_, fd, F, He.glo_ok X G (c.d.fact 59 (f := .glo "_law_made_first") rfl), F.bindsN fun _ _ _ _ _ _ us hl => match us, hl with | [_], _ => rfl⟩)
  d__law_made_last := (let ⟨fd, F⟩ := c.d.def_ 29 (d := D__law_made_last) rfl; ⟨_, fd, F, He.glo_ok X G (c.d.fact 60 (f := .glo "_law_made_last") rfl), F.bindsN fun _ _ _ _ _ _ us hl => match us, hl with | [_], _ => rfl⟩)
  d__law_families := (let ⟨fd, F⟩ := c.d.def_ 30 (d := D__law_families) rfl; ⟨_, fd, F, He.glo_ok X G (c.d.fact 61 (f := .glo "_law_families") rfl), F.bindsN fun _ _ _ _ _ _ us hl => match us, hl with | [_], _ => rfl⟩)
  d__law_family_of := (let ⟨fd, F⟩ := c.d.def_ 31 (d := D__law_family_of) rfl; ⟨_, fd, F, He.glo_ok X G (c.d.fact 62 (f := .glo "_law_family_of") rfl), F.bindsN fun _ _ _ _ _ _ us hl => match us, hl with | [_], _ => rfl⟩)
  d__law_fields_right := (let ⟨fd, F⟩ := c.d.def_ 32 (d := D__law_fields_right) rfl; ⟨_, fd, F, He.glo_ok X G (c.d.fact 63 (f := .glo "_law_fields_right") rfl), F.bindsN fun _ _ _ _ _ _ us hl => match us, hl with | [_, _, _, _], _ => rfl⟩)
  d__law_taken := (let ⟨fd, F⟩ := c.d.def_ 33 (d := D__law_taken) rfl; ⟨_, fd, F, He.glo_ok X G (c.d.fact 64 (f := .glo "_law_taken") rfl), F.bindsN fun _ _ _ _ _ _ us hl => match us, hl with | [_, _], _ => rfl⟩)
  d__law_by_names_right := (let ⟨fd, F⟩ := c.d.def_ 34 (d := D__law_by_names_right) rfl; ⟨_, fd, F, He.glo_ok X G (c.d.fact 65 (f := .glo "_law_by_names_right") rfl), F.bindsN fun _ _ _ _ _ _ us hl => match us, hl with | [_, _], _ => rfl⟩)
  d__law_right := (let ⟨fd, F⟩ := c.d.def_ 35 (d := D__law_right) rfl; ⟨_, fd, F, He.glo_ok X G (c.d.fact 66 (f := .glo "_law_right") rfl), F.bindsN fun _ _ _ _ _ _ us hl => match us, hl with | [_], _ => rfl⟩)
  d__law_joined_two := (let ⟨fd, F⟩ := c.d.def_ 36 (d := D__law_joined_two) rfl; ⟨_, fd, F, He.glo_ok X G (c.d.fact 67 (f := .glo "_law_joined_two") rfl), F.bindsN fun _ _ _ _ _ _ us hl => match us, hl with | [_], _ => rfl⟩)
  d_law := (let ⟨fd, F⟩ := c.d.def_ 37 (d := D_law) rfl; ⟨_, fd, F, He.glo_ok X G (c.d.fact 68 (f := .glo "law") rfl), F.bindsN fun _ _ _ _ _ _ us hl => match us, hl with | [_], _ => rfl⟩)
  g_InnerError := He.glo_ok X G (c.d.fact 69 (f := .glo "InnerError") rfl)
  e_InnerError := b_ec B ("InnerError", .ve) (by decide +kernel)
  g_Missing := He.glo_ok X G (c.d.fact 70 (f := .glo "Missing") rfl)
  e_Missing := b_ec B ("Missing", .ke) (by decide +kernel)
  g_Barred := He.glo_ok X G (c.d.fact 71 (f := .glo "Barred") rfl)
  e_Barred := b_ec B ("Barred", .le) (by decide +kernel)
  g_NoNumber := He.glo_ok X G (c.d.fact 72 (f := .glo "NoNumber") rfl)
  e_NoNumber := b_ec B ("NoNumber", .ve) (by decide +kernel)
  g_NoName := He.glo_ok X G (c.d.fact 73 (f := .glo "NoName") rfl)
  e_NoName := b_ec B ("NoName", .ve) (by decide +kernel)
  g_NoWorth := He.glo_ok X G (c.d.fact 74 (f := .glo "NoWorth") rfl)
  e_NoWorth := b_ec B ("NoWorth", .ve) (by decide +kernel)
  g_NoTree := He.glo_ok X G (c.d.fact 75 (f := .glo "NoTree") rfl)
  e_NoTree := b_ec B ("NoTree", .ve) (by decide +kernel)
  g_NoDeed := He.glo_ok X G (c.d.fact 76 (f := .glo "NoDeed") rfl)
  e_NoDeed := b_ec B ("NoDeed", .ve) (by decide +kernel)
  g_NoParams := He.glo_ok X G (c.d.fact 77 (f := .glo "NoParams") rfl)
  e_NoParams := b_ec B ("NoParams", .ve) (by decide +kernel)
  g_NoText := He.glo_ok X G (c.d.fact 78 (f := .glo "NoText") rfl)
  e_NoText := b_ec B ("NoText", .ve) (by decide +kernel)
  g_NoRow := He.glo_ok X G (c.d.fact 79 (f := .glo "NoRow") rfl)
  e_NoRow := b_ec B ("NoRow", .ve) (by decide +kernel)
  g_NoStore := He.glo_ok X G (c.d.fact 80 (f := .glo "NoStore") rfl)
  e_NoStore := b_ec B ("NoStore", .ve) (by decide +kernel)
  g_NoKind := He.glo_ok X G (c.d.fact 81 (f := .glo "NoKind") rfl)
  e_NoKind := b_ec B ("NoKind", .ve) (by decide +kernel)
  g_NoRows := He.glo_ok X G (c.d.fact 82 (f := .glo "NoRows") rfl)
  e_NoRows := b_ec B ("NoRows", .ve) (by decide +kernel)
  g_NoRules := He.glo_ok X G (c.d.fact 83 (f := .glo "NoRules") rfl)
  e_NoRules := b_ec B ("NoRules", .ve) (by decide +kernel)
  g_NoAsk := He.glo_ok X G (c.d.fact 84 (f := .glo "NoAsk") rfl)
  e_NoAsk := b_ec B ("NoAsk", .ve) (by decide +kernel)
  g_NoWay := He.glo_ok X G (c.d.fact 85 (f := .glo "NoWay") rfl)
  e_NoWay := b_ec B ("NoWay", .ve) (by decide +kernel)
  g_NoLine := He.glo_ok X G (c.d.fact 86 (f := .glo "NoLine") rfl)
  e_NoLine := b_ec B ("NoLine", .ve) (by decide +kernel)
  g_NoPaper := He.glo_ok X G (c.d.fact 87 (f := .glo "NoPaper") rfl)
  e_NoPaper := b_ec B ("NoPaper", .ve) (by decide +kernel)
  g_NoList := He.glo_ok X G (c.d.fact 88 (f := .glo "NoList") rfl)
  e_NoList := b_ec B ("NoList", .ve) (by decide +kernel)
  g_NoTruth := He.glo_ok X G (c.d.fact 89 (f := .glo "NoTruth") rfl)
  e_NoTruth := b_ec B ("NoTruth", .ve) (by decide +kernel)
  g_Unfit := He.glo_ok X G (c.d.fact 90 (f := .glo "Unfit") rfl)
  e_Unfit := b_ec B ("Unfit", .ve) (by decide +kernel)
  g_Doubled := He.glo_ok X G (c.d.fact 91 (f := .glo "Doubled") rfl)
  e_Doubled := b_ec B ("Doubled", .ve) (by decide +kernel)
  g_TooMany := He.glo_ok X G (c.d.fact 92 (f := .glo "TooMany") rfl)
  e_TooMany := b_ec B ("TooMany", .ve) (by decide +kernel)
  g_NoThing := He.glo_ok X G (c.d.fact 93 (f := .glo "NoThing") rfl)
  e_NoThing := b_ec B ("NoThing", .ke) (by decide +kernel)
  g_NotThere := He.glo_ok X G (c.d.fact 94 (f := .glo "NotThere") rfl)
  e_NotThere := b_ec B ("NotThere", .ke) (by decide +kernel)
  g_Fault := He.glo_ok X G (c.d.fact 95 (f := .glo "Fault") rfl)
  e_Fault := b_ec B ("Fault", .le) (by decide +kernel)
  g_Ended := He.glo_ok X G (c.d.fact 96 (f := .glo "Ended") rfl)
  e_Ended := b_ec B ("Ended", .le) (by decide +kernel)
  g_Over := He.glo_ok X G (c.d.fact 97 (f := .glo "Over") rfl)
  e_Over := b_ec B ("Over", .le) (by decide +kernel)
  b_InnerError := ⟨b_ec B ("InnerError", .ve) (by decide +kernel), b_bi B ("InnerError", .ve) (by decide +kernel)⟩
  i_InnerError := b_cr B ("InnerError", .ve) (by decide +kernel)
  b_Missing := ⟨b_ec B ("Missing", .ke) (by decide +kernel), b_bi B ("Missing", .ke) (by decide +kernel)⟩
  i_Missing := b_cr B ("Missing", .ke) (by decide +kernel)
  b_Barred := ⟨b_ec B ("Barred", .le) (by decide +kernel), b_bi B ("Barred", .le) (by decide +kernel)⟩
  i_Barred := b_cr B ("Barred", .le) (by decide +kernel)
  j_NoNumber := (let ⟨fd, F⟩ := c.d.def_ 38 (d := D_NoNumber) rfl; let ⟨a, b⟩ := b_in B "NoNumber" (by decide +kernel); ⟨_, fd, a, b, F⟩)
  f_NoNumber_found := b_no B ("NoNumber", "found") (by decide +kernel)
  j_NoName := (let ⟨fd, F⟩ := c.d.def_ 39 (d := D_NoName) rfl; let ⟨a, b⟩ := b_in B "NoName" (by decide +kernel); ⟨_, fd, a, b, F⟩)
  f_NoName_found := b_no B ("NoName", "found") (by decide +kernel)
  j_NoWorth := (let ⟨fd, F⟩ := c.d.def_ 40 (d := D_NoWorth) rfl; let ⟨a, b⟩ := b_in B "NoWorth" (by decide +kernel); ⟨_, fd, a, b, F⟩)
  f_NoWorth_found := b_no B ("NoWorth", "found") (by decide +kernel)
  j_NoTree := (let ⟨fd, F⟩ := c.d.def_ 41 (d := D_NoTree) rfl; let ⟨a, b⟩ := b_in B "NoTree" (by decide +kernel); ⟨_, fd, a, b, F⟩)
  f_NoTree_found := b_no B ("NoTree", "found") (by decide +kernel)
  j_NoDeed := (let ⟨fd, F⟩ := c.d.def_ 42 (d := D_NoDeed) rfl; let ⟨a, b⟩ := b_in B "NoDeed" (by decide +kernel); ⟨_, fd, a, b, F⟩)
  f_NoDeed_found := b_no B ("NoDeed", "found") (by decide +kernel)
  j_NoParams := (let ⟨fd, F⟩ := c.d.def_ 43 (d := D_NoParams) rfl; let ⟨a, b⟩ := b_in B "NoParams" (by decide +kernel); ⟨_, fd, a, b, F⟩)
  f_NoParams_found := b_no B ("NoParams", "found") (by decide +kernel)
  j_NoText := (let ⟨fd, F⟩ := c.d.def_ 44 (d := D_NoText) rfl; let ⟨a, b⟩ := b_in B "NoText" (by decide +kernel); ⟨_, fd, a, b, F⟩)
  f_NoText_found := b_no B ("NoText", "found") (by decide +kernel)
  j_NoRow := (let ⟨fd, F⟩ := c.d.def_ 45 (d := D_NoRow) rfl; let ⟨a, b⟩ := b_in B "NoRow" (by decide +kernel); ⟨_, fd, a, b, F⟩)
  f_NoRow_at := b_no B ("NoRow", "at") (by decide +kernel)
  j_NoStore := (let ⟨fd, F⟩ := c.d.def_ 46 (d := D_NoStore) rfl; let ⟨a, b⟩ := b_in B "NoStore" (by decide +kernel); ⟨_, fd, a, b, F⟩)
  f_NoStore_found := b_no B ("NoStore", "found") (by decide +kernel)
  j_NoKind := (let ⟨fd, F⟩ := c.d.def_ 47 (d := D_NoKind) rfl; let ⟨a, b⟩ := b_in B "NoKind" (by decide +kernel); ⟨_, fd, a, b, F⟩)
  f_NoKind_found := b_no B ("NoKind", "found") (by decide +kernel)
  j_NoRows := (let ⟨fd, F⟩ := c.d.def_ 48 (d := D_NoRows) rfl; let ⟨a, b⟩ := b_in B "NoRows" (by decide +kernel); ⟨_, fd, a, b, F⟩)
  f_NoRows_found := b_no B ("NoRows", "found") (by decide +kernel)
  j_NoRules := (let ⟨fd, F⟩ := c.d.def_ 49 (d := D_NoRules) rfl; let ⟨a, b⟩ := b_in B "NoRules" (by decide +kernel); ⟨_, fd, a, b, F⟩)
  f_NoRules_found := b_no B ("NoRules", "found") (by decide +kernel)
  j_NoAsk := (let ⟨fd, F⟩ := c.d.def_ 50 (d := D_NoAsk) rfl; let ⟨a, b⟩ := b_in B "NoAsk" (by decide +kernel); ⟨_, fd, a, b, F⟩)
  f_NoAsk_found := b_no B ("NoAsk", "found") (by decide +kernel)
  j_NoWay := (let ⟨fd, F⟩ := c.d.def_ 51 (d := D_NoWay) rfl; let ⟨a, b⟩ := b_in B "NoWay" (by decide +kernel); ⟨_, fd, a, b, F⟩)
  f_NoWay_found := b_no B ("NoWay", "found") (by decide +kernel)
  j_NoLine := (let ⟨fd, F⟩ := c.d.def_ 52 (d := D_NoLine) rfl; let ⟨a, b⟩ := b_in B "NoLine" (by decide +kernel); ⟨_, fd, a, b, F⟩)
  f_NoLine_found := b_no B ("NoLine", "found") (by decide +kernel)
  j_NoPaper := (let ⟨fd, F⟩ := c.d.def_ 53 (d := D_NoPaper) rfl; let ⟨a, b⟩ := b_in B "NoPaper" (by decide +kernel); ⟨_, fd, a, b, F⟩)
  f_NoPaper_found := b_no B ("NoPaper", "found") (by decide +kernel)
  j_NoList := (let ⟨fd, F⟩ := c.d.def_ 54 (d := D_NoList) rfl; let ⟨a, b⟩ := b_in B "NoList" (by decide +kernel); ⟨_, fd, a, b, F⟩)
  f_NoList_found := b_no B ("NoList", "found") (by decide +kernel)
  j_NoTruth := (let ⟨fd, F⟩ := c.d.def_ 55 (d := D_NoTruth) rfl; let ⟨a, b⟩ := b_in B "NoTruth" (by decide +kernel); ⟨_, fd, a, b, F⟩)
  f_NoTruth_found := b_no B ("NoTruth", "found") (by decide +kernel)
  j_Unfit := (let ⟨fd, F⟩ := c.d.def_ 56 (d := D_Unfit) rfl; let ⟨a, b⟩ := b_in B "Unfit" (by decide +kernel); ⟨_, fd, a, b, F⟩)
  f_Unfit_found := b_no B ("Unfit", "found") (by decide +kernel)
  j_Doubled := (let ⟨fd, F⟩ := c.d.def_ 57 (d := D_Doubled) rfl; let ⟨a, b⟩ := b_in B "Doubled" (by decide +kernel); ⟨_, fd, a, b, F⟩)
  f_Doubled_found := b_no B ("Doubled", "found") (by decide +kernel)
  j_TooMany := (let ⟨fd, F⟩ := c.d.def_ 58 (d := D_TooMany) rfl; let ⟨a, b⟩ := b_in B "TooMany" (by decide +kernel); ⟨_, fd, a, b, F⟩)
  f_TooMany_many := b_no B ("TooMany", "many") (by decide +kernel)
  j_NoThing := (let ⟨fd, F⟩ := c.d.def_ 59 (d := D_NoThing) rfl; let ⟨a, b⟩ := b_in B "NoThing" (by decide +kernel); ⟨_, fd, a, b, F⟩)
  f_NoThing_found := b_no B ("NoThing", "found") (by decide +kernel)
  j_NotThere := (let ⟨fd, F⟩ := c.d.def_ 60 (d := D_NotThere) rfl; let ⟨a, b⟩ := b_in B "NotThere" (by decide +kernel); ⟨_, fd, a, b, F⟩)
  f_NotThere_found := b_no B ("NotThere", "found") (by decide +kernel)
  j_Fault := (let ⟨fd, F⟩ := c.d.def_ 61 (d := D_Fault) rfl; let ⟨a, b⟩ := b_in B "Fault" (by decide +kernel); ⟨_, fd, a, b, F⟩)
  f_Fault_why := b_no B ("Fault", "why") (by decide +kernel)
  f_Fault_found := b_no B ("Fault", "found") (by decide +kernel)
  j_Ended := (let ⟨fd, F⟩ := c.d.def_ 62 (d := D_Ended) rfl; let ⟨a, b⟩ := b_in B "Ended" (by decide +kernel); ⟨_, fd, a, b, F⟩)
  f_Ended_found := b_no B ("Ended", "found") (by decide +kernel)
  j_Over := (let ⟨fd, F⟩ := c.d.def_ 63 (d := D_Over) rfl; let ⟨a, b⟩ := b_in B "Over" (by decide +kernel); ⟨_, fd, a, b, F⟩)
  isx := b_isx B
  sys := b_sys B
end K13
end
section
set_option Elab.async false
set_option linter.all false
set_option maxRecDepth 100000
set_option maxHeartbeats 400000
namespace K13
open PySem PySem.Spec L2 DL DX
open PyProof.Rows hiding St
local macro_rules | `(tactic| trivial) => `(tactic| simp only [DL.wSeq, DL.wNext, DL.wRet, DL.wDrop, DL.wIf, DL.wSet, DL.wC, DL.wVar, DL.wOp, DL.wAnd, DL.wOr, DL.wNot, DL.wB, DL.wAndV, DL.wOrV, DL.wNotV, DL.wIfE, DL.wChain, DL.wIsi, DL.wUn, DL.wLen, DL.wCall, DL.wNil, DL.wCons, DL.wTup, DL.wLst, DL.wLstM, DL.wNeg, DL.isT, String.reduceBEq, Bool.or_false, Bool.false_or, Bool.or_true, Bool.true_or, Bool.or_self, Bool.and_self, DL.wGt, DL.wGe, DL.dstart, List.map_cons, List.map_nil, List.length_cons, List.length_nil, List.cons_append, List.nil_append, List.getElem?_cons_zero, List.getElem?_cons_succ, Option.some.injEq, exists_eq_left', exists_eq_left, List.set_cons_zero, List.set_cons_succ, decide_true, decide_false, Bool.true_and, Bool.and_true, Bool.false_and, Bool.and_false, true_and, Bool.not_true, Bool.not_false, if_true, if_false, reduceIte, Bool.false_eq_true, bne_self_eq_false, DL.bne_f, DL.bne_t, List.getElem?_nil, Nat.reduceAdd, Nat.reduceSub, List.replicate_succ, List.replicate_zero, DL.q_onO, DL.q_onO0, DL.q_onB, DL.q_onI, DL.q_onS, DL.q_onL, DL.q_ty, DL.q_tyT, DL.q_ty0, DL.q_ty1, DL.q_ty2, DL.q_ty3, DL.q_ty4, DL.q_ty5, DL.q_ty6, DL.q_lenT, DL.q_lenL, DL.q_lenS, DL.q_ixT, DL.q_ixL, DL.q_ixA, DL.q_leI, DL.q_leS, DL.q_ltI, DL.q_ltS, DL.q_I0, DL.q_II, DL.q_sub, DL.q_addI, DL.q_addS, DL.q_addT, DL.q_addL, DL.q_mulI, DL.q_mulS, DL.q_none, DL.q_noneR, DL.q_is, DL.q_isB, DL.q_inT, DL.q_inL, DL.q_inS, DL.q_inM, DL.q_eq, DL.q_rd, DL.q_ord, DL.q_ix, DL.q_tup, DL.q_tup0, DL.q_tup1, DL.q_tup2, DL.q_tup3, DL.q_eqI, DL.q_eqS, DL.q_shI, DL.q_flI, DL.q_flS, DL.q_flN, DL.q_flB, DL.q_at0, DL.q_at1, DL.q_at2, DL.q_partsT, DL.iT, DL.iS, DL.iL, DL.wAsg, DL.q_star, DL.q_gN, DL.wInTab, DL.wTab, DL.q_onDs, DL.q_dats0, DL.q_datsc, DL.q_sz0, DL.q_sz1, DL.q_sz2, DL.q_sz3, DL.q_sz4, DL.q_sz5, DL.q_sz6, DL.q_sz7, DL.q_sz11, DL.q_sz12, DL.q_keyS, DL.q_getD, DL.q_dct, DL.wInD, DL.wIxD, DL.q_ixU, DL.q_onMU, DL.q_lenU, DL.q_um, DL.q_n30, DL.q_n31, DL.q_n32, DL.q_max, DL.gIx, DL.q_map, DL.q_all0, DL.q_allc])
section
variable {P : Program} {w : World} {K : PySem.W.Frag} {mg : Str → Option Value} {base : Heap} {k : Nat}
def isWhole (d : PyData) (lo hi : Int) : Bool := match d with
  | .int i => decide (lo ≤ i) && decide (i ≤ hi)
  | _ => false
def spWhole : DSp := fun xs M P _ => ∃ d lo hi, xs = [.dat d, .dat (.int lo), .dat (.int hi)] ∧ P (.dat (.bool (isWhole d lo hi))) M
theorem ok_is_whole (T : Facts K mg w) : GOk P w K mg base CX0 1 "is_whole" ["thing", "low", "high"] spWhole := by
  obtain ⟨f, fd, D⟩ := T.d_is_whole
  refine gok_of D sc_is_whole ?_ fun cdv A out s H E hr hgd => ?_
  · rintro xs M P R ⟨d, lo, hi, rfl, h⟩
    rfl
  have hu := Room.units hr
  have hu66 : (A.deeper (envOfC "is_whole" (defScope s_is_whole) s.heap.objs.size f cdv)).units + 66 < cLine := by
    have := hr.un
    omega
  refine ⟨_, (dss_one (ds_ret (de_and (de_isi kit_int (by rfl) T.m_isinstance (by rfl) T.m_int boot_t_int (de_var (pv 0))) (de_and (de_not (de_isi kit_bool (by rfl) T.m_isinstance (by rfl) T.m_bool boot_t_bool (de_var (pv 0)))) (de_one (de_chain do_le do_le (de_var (pv 1)) (de_var (pv 0)) (de_var (pv 2)))))))), ?_⟩
  rintro xs M P R ⟨d, lo, hi, rfl, h⟩
  cases d with
  | int i =>
    trivial
    refine ifB (fun e => ?_) fun e => ?_
    · simp only [isWhole, e, Bool.true_and] at h
      exact h
    · simp only [isWhole, e, Bool.false_and] at h
      exact h
  | _ =>
    trivial
    exact h
def noNames : List PyData := [.str "me", .str "here", .str "none"]
def lettersZ : Str := "abcdefghijklmnopqrstuvwxyz"
def isName (d : PyData) : Bool := match d with
  | .str z => (decide (1 ≤ (z.length : Int)) && decide ((z.length : Int) ≤ 8)) && (!anyIn (.str z) noNames && z.cps.toList.all fun c => inStr ⟨#[c]⟩ lettersZ)
  | _ => false
/-- texts short enough to be walked -/
def fitT (d : PyData) : Prop := match d with
  | .str z => z.length ≤ 10000 ∧ PyData.strOk z = true
  | _ => True
def spName : DSp := fun xs M P _ => ∃ d, xs = [.dat d] ∧ fitT d ∧ P (.dat (.bool (isName d))) M
theorem ok_is_name (T : Facts K mg w) : GOk P w K mg base CX0 1 "is_name" ["thing"] spName := by
  obtain ⟨f, fd, D⟩ := T.d_is_name
  refine gok_of D sc_is_name ?_ fun cdv A out s H E hr hgd => ?_
  · rintro xs M P R ⟨d, rfl, h⟩
    rfl
  have hu := Room.units hr
  have hu66 : (A.deeper (envOfC "is_name" (defScope s_is_name) s.heap.objs.size f cdv)).units + 66 < cLine := by
    have := hr.un
    omega
  refine ⟨_, (dss_cons (ds_if (dt_bool (dw_or (dt_not (dt_val (de_isi kit_str (by rfl) T.m_isinstance (by rfl) T.m_str boot_t_str (de_var (pv 0))))) (dw_or (dt_not (dt_chain do_le do_le de_int (de_len (by rfl) T.m_len (de_var (pv 0))) (de_g T.c_MOST_NAME (by rfl)))) (dw_or1 (dt_cmp do_in (de_var (pv 0)) (de_g T.c_NO_NAMES (by rfl)) (by rfl))))))
      (dss_one (ds_ret de_bl))
      dss_nil)
    (dss_one (ds_ret (de_b1 (c_all rfl) (by rfl) T.m_all boot_all' (de_lc (own := [("sign", 1)]) rfl sc_is_name.nd (di_S (de_var (pv 0))) (blkOk_by (own := [("sign", 1)]) (N := N_is_name) (sc := defScope s_is_name) (by decide +kernel)) (ct_name (i := 1)) (fun _ _ _ _ _ => pg_name (i := 1) sc_is_name.nd rfl (Or.inl rfl)) (fun _ _ _ _ _ => dts_nil) (fun _ _ _ _ _ => (de_cmp do_in (de_var (pv 1)) (de_g T.c_LETTERS (by rfl)) (by rfl)))))))), ?_⟩
  rintro xs M P R ⟨d, rfl, ft, h⟩
  cases d with
  | str z =>
    have hz : z.length ≤ sizeLine := Nat.le_trans ft.1 (by decide)
    simp only [isName] at h
    trivial
    rw [if_pos hz]
    trivial
    refine ifB (fun e1 => ifB (fun e2 => ?_) fun e2 => ifB (fun e3 => ?_) fun e3 => ?_) fun e1 => ?_
    · have e2' : decide ((z.length : Int) ≤ 8) = false := by simpa using e2
      simpa only [e1, e2', Bool.false_and, Bool.and_false] using h
    · have e3' : anyIn (.str z) noNames = true := by simpa [noNames] using e3
      simpa only [e3', Bool.not_true, Bool.false_and, Bool.and_false] using h
    · have e2' : decide ((z.length : Int) ≤ 8) = true := by simpa using e2
      have e3' : anyIn (.str z) noNames = false := by simpa [noNames] using e3
      rw [e1, e2', e3'] at h
      refine g_all z.cps.toList (fun c => .dat (.str ⟨#[c]⟩)) (fun c => inStr ⟨#[c]⟩ lettersZ) (fun Pk q => ?_) hz (fun c _ M P R q => ?_) h
      · exact ⟨_, rfl, q⟩
      · trivial
        exact q
    · simpa only [e1, Bool.false_and] using h
  | _ =>
    trivial
    exact h
def okSign (c : Nat) : Bool := (!strLt ⟨#[c]⟩ " " && !strLt "~" ⟨#[c]⟩) && !anyIn (.int ((⟨#[c]⟩ : Str).cps.getD 0 0 : Nat)) [.int 37, .int 39]
def isText (d : PyData) : Bool := match d with
  | .str z => decide ((z.length : Int) ≤ 60) && z.cps.toList.all okSign
  | _ => false
def spText : DSp := fun xs M P _ => ∃ d, xs = [.dat d] ∧ fitT d ∧ P (.dat (.bool (isText d))) M
theorem ok_is_text (T : Facts K mg w) : GOk P w K mg base CX0 1 "is_text" ["thing"] spText := by
  obtain ⟨f, fd, D⟩ := T.d_is_text
  refine gok_of D sc_is_text ?_ fun cdv A out s H E hr hgd => ?_
  · rintro xs M P R ⟨d, rfl, h⟩
    rfl
  have hu := Room.units hr
  have hu66 : (A.deeper (envOfC "is_text" (defScope s_is_text) s.heap.objs.size f cdv)).units + 66 < cLine := by
    have := hr.un
    omega
  refine ⟨_, (dss_cons (ds_if (dt_bool (dw_or (dt_not (dt_val (de_isi kit_str (by rfl) T.m_isinstance (by rfl) T.m_str boot_t_str (de_var (pv 0))))) (dw_or1 (dt_cmp do_gt (de_len (by rfl) T.m_len (de_var (pv 0))) (de_g T.c_MOST_SIGNS (by rfl)) (by rfl)))))
      (dss_one (ds_ret de_bl))
      dss_nil)
    (dss_one (ds_ret (de_b1 (c_all rfl) (by rfl) T.m_all boot_all' (de_lc (own := [("sign", 1)]) rfl sc_is_text.nd (di_S (de_var (pv 0))) (blkOk_by (own := [("sign", 1)]) (N := N_is_text) (sc := defScope s_is_text) (by decide +kernel)) (ct_name (i := 1)) (fun _ _ _ _ _ => pg_name (i := 1) sc_is_text.nd rfl (Or.inl rfl)) (fun _ _ _ _ _ => dts_nil) (fun _ _ _ _ _ => (de_and (de_chain do_le do_le de_str (de_var (pv 1)) de_str) (de_one (de_cmp do_notIn (de_b1 c_ord (by rfl) T.m_ord boot_ord' (de_var (pv 1))) (de_tup (da_cons (de_g T.c_PER_CENT (by rfl)) (da_cons (de_g T.c_QUOTE (by rfl)) da_nil))) (by rfl)))))))))), ?_⟩
  rintro xs M P R ⟨d, rfl, ft, h⟩
  cases d with
  | str z =>
    have hz : z.length ≤ sizeLine := Nat.le_trans ft.1 (by decide)
    simp only [isText] at h
    trivial
    rw [if_pos hz]
    trivial
    refine ifB (fun e1 => ?_) fun e1 => ?_
    · have e1' : decide ((z.length : Int) ≤ 60) = false := decide_eq_false (by have := of_decide_eq_true e1; omega)
      simpa only [e1', Bool.false_and] using h
    · have e1' : decide ((z.length : Int) ≤ 60) = true := decide_eq_true (by have := of_decide_eq_false e1; omega)
      rw [e1'] at h
      refine g_all z.cps.toList (fun c => .dat (.str ⟨#[c]⟩)) okSign (fun Pk q => ?_) hz (fun c _ M P R q => ?_) h
      · exact ⟨_, rfl, q⟩
      · trivial
        refine ifB (fun e1 => ifB (fun e2 => ⟨rfl, ?_⟩) fun e2 => ?_) fun e1 => ?_
        · simpa only [okSign, e1, e2, Bool.true_and] using q
        · simpa only [okSign, e1, e2, Bool.true_and, Bool.false_and] using q
        · simpa only [okSign, e1, Bool.false_and] using q
  | _ =>
    trivial
    exact h
def spNumber : DSp := fun xs M P _ => ∃ d, xs = [.dat d] ∧ P (.dat (.bool (isWhole d (-1000000000) 1000000000))) M
theorem ok_is_number (T : Facts K mg w) : GOk P w K mg base CX0 2 "is_number" ["thing"] spNumber := by
  have G_is_whole := ok_is_whole (P := P) (base := base) T
  obtain ⟨f, fd, D⟩ := T.d_is_number
  refine gok_of D sc_is_number ?_ fun cdv A out s H E hr hgd => ?_
  · rintro xs M P R ⟨d, rfl, h⟩
    rfl
  have hu := Room.units hr
  have hu66 : (A.deeper (envOfC "is_number" (defScope s_is_number) s.heap.objs.size f cdv)).units + 66 < cLine := by
    have := hr.un
    omega
  refine ⟨_, (dss_one (ds_ret (de_call G_is_whole (hr.mono (by omega)) hgd (by rfl) pat0 (da_cons (de_var (pv 0)) (da_cons (de_neg (de_g T.c_MOST_NUMBER (by rfl))) (da_cons (de_g T.c_MOST_NUMBER (by rfl)) da_nil)))))), ?_⟩
  rintro xs M P R ⟨d, rfl, h⟩
  trivial
  exact ⟨d, _, _, rfl, h⟩
def fitD : PyData → Prop
  | .tuple [a, _] => fitT a
  | _ => True
def isPair (d : PyData) (wd : Str) : Bool := match d with
  | .tuple [a, _] => (match a with
    | .str z => decide (z = wd)
    | _ => false)
  | _ => false
def spPair : DSp := fun xs M P _ => ∃ d wd, xs = [.dat d, .dat (.str wd)] ∧ fitD d ∧ PyData.strOk wd = true ∧ P (.dat (.bool (isPair d wd))) M
theorem ok_is_pair (T : Facts K mg w) : GOk P w K mg base CX0 1 "is_pair" ["thing", "word"] spPair := by
  obtain ⟨f, fd, D⟩ := T.d_is_pair
  refine gok_of D sc_is_pair ?_ fun cdv A out s H E hr hgd => ?_
  · rintro xs M P R ⟨d, wd, rfl, h⟩
    rfl
  have hu := Room.units hr
  have hu66 : (A.deeper (envOfC "is_pair" (defScope s_is_pair) s.heap.objs.size f cdv)).units + 66 < cLine := by
    have := hr.un
    omega
  refine ⟨_, (dss_one (ds_ret (de_and (de_isi kit_tuple (by rfl) T.m_isinstance (by rfl) T.m_tuple boot_t_tuple (de_var (pv 0))) (de_and (de_cmp (do_eqM hu) (de_len (by rfl) T.m_len (de_var (pv 0))) de_int (by rfl)) (de_and (de_isi kit_str (by rfl) T.m_isinstance (by rfl) T.m_str boot_t_str (de_ix (de_var (pv 0)) de_int (fun _ _ => rfl))) (de_one (de_cmp (do_eqM hu) (de_ix (de_var (pv 0)) de_int (fun _ _ => rfl)) (de_var (pv 1)) (by rfl)))))))), ?_⟩
  rintro xs M P R ⟨d, wd, rfl, fd, hw, h⟩
  cases d with
  | tuple ds =>
    trivial
    match ds, fd, h with
    | [], _, h => exact ifF rfl h
    | [_], _, h => exact ifF rfl h
    | [a, b], fd, h =>
      refine ifT rfl ?_
      trivial
      cases a with
      | str z =>
        trivial
        refine ⟨shS fd.2, shS hw, h⟩
      | _ =>
        trivial
        exact h
    | _ :: _ :: _ :: r, _, h =>
      refine ifF (decide_eq_false ?_) h
      simp only [List.length_cons]
      omega
  | _ =>
    trivial
    exact h
def isThing (d : PyData) : Bool := isPair d "thing" && (match d with
  | .tuple [_, b] => isWhole b 0 999
  | _ => false)
def spThing : DSp := fun xs M P _ => ∃ d, xs = [.dat d] ∧ fitD d ∧ P (.dat (.bool (isThing d))) M
theorem pair_inv {d : PyData} {wd : Str} (h : isPair d wd = true) : ∃ b, d = .tuple [.str wd, b] := by
  unfold isPair at h
  split at h
  · split at h
    · exact ⟨_, by rw [of_decide_eq_true h]⟩
    · cases h
  · cases h
theorem ok_is_thing (T : Facts K mg w) : GOk P w K mg base CX0 2 "is_thing" ["thing"] spThing := by
  have G_is_whole := ok_is_whole (P := P) (base := base) T
  have G_is_pair := ok_is_pair (P := P) (base := base) T
  obtain ⟨f, fd, D⟩ := T.d_is_thing
  refine gok_of D sc_is_thing ?_ fun cdv A out s H E hr hgd => ?_
  · rintro xs M P R ⟨d, rfl, h⟩
    rfl
  have hu := Room.units hr
  have hu66 : (A.deeper (envOfC "is_thing" (defScope s_is_thing) s.heap.objs.size f cdv)).units + 66 < cLine := by
    have := hr.un
    omega
  refine ⟨_, (dss_one (ds_ret (de_and (de_call G_is_pair (hr.mono (by omega)) hgd (by rfl) pat0 (da_cons (de_var (pv 0)) (da_cons de_str da_nil))) (de_one (de_call G_is_whole (hr.mono (by omega)) hgd (by rfl) pat0 (da_cons (de_ix (de_var (pv 0)) de_int (fun _ _ => rfl)) (da_cons de_int (da_cons (de_g T.c_MOST_THING (by rfl)) da_nil)))))))), ?_⟩
  rintro xs M P R ⟨d, rfl, fd, h⟩
  trivial
  refine ⟨d, _, rfl, fd, by decide +kernel, ?_⟩
  trivial
  refine ifB (fun e => ?_) fun e => ?_
  · obtain ⟨b, rfl⟩ := pair_inv e
    trivial
    refine ⟨b, _, _, rfl, ?_⟩
    simpa only [isThing, e, Bool.true_and] using h
  · simpa only [isThing, e, Bool.false_and] using h

end
end K13
end
section
set_option Elab.async false
set_option linter.all false
set_option maxRecDepth 100000
set_option maxHeartbeats 400000
namespace K13
open PySem PySem.Spec L2 DL DX
open PyProof.Rows hiding St
local macro_rules | `(tactic| trivial) => `(tactic| simp only [DL.wSeq, DL.wNext, DL.wRet, DL.wDrop, DL.wIf, DL.wSet, DL.wC, DL.wVar, DL.wOp, DL.wAnd, DL.wOr, DL.wNot, DL.wB, DL.wAndV, DL.wOrV, DL.wNotV, DL.wIfE, DL.wChain, DL.wIsi, DL.wUn, DL.wLen, DL.wCall, DL.wNil, DL.wCons, DL.wTup, DL.wLst, DL.wLstM, DL.wNeg, DL.isT, String.reduceBEq, Bool.or_false, Bool.false_or, Bool.or_true, Bool.true_or, Bool.or_self, Bool.and_self, DL.wGt, DL.wGe, DL.dstart, List.map_cons, List.map_nil, List.length_cons, List.length_nil, List.cons_append, List.nil_append, List.getElem?_cons_zero, List.getElem?_cons_succ, Option.some.injEq, exists_eq_left', exists_eq_left, List.set_cons_zero, List.set_cons_succ, decide_true, decide_false, Bool.true_and, Bool.and_true, Bool.false_and, Bool.and_false, true_and, Bool.not_true, Bool.not_false, if_true, if_false, reduceIte, Bool.false_eq_true, bne_self_eq_false, DL.bne_f, DL.bne_t, List.getElem?_nil, Nat.reduceAdd, Nat.reduceSub, List.replicate_succ, List.replicate_zero, DL.q_onO, DL.q_onO0, DL.q_onB, DL.q_onI, DL.q_onS, DL.q_onL, DL.q_ty, DL.q_tyT, DL.q_ty0, DL.q_ty1, DL.q_ty2, DL.q_ty3, DL.q_ty4, DL.q_ty5, DL.q_ty6, DL.q_lenT, DL.q_lenL, DL.q_lenS, DL.q_ixT, DL.q_ixL, DL.q_ixA, DL.q_leI, DL.q_leS, DL.q_ltI, DL.q_ltS, DL.q_I0, DL.q_II, DL.q_sub, DL.q_addI, DL.q_addS, DL.q_addT, DL.q_addL, DL.q_mulI, DL.q_mulS, DL.q_none, DL.q_noneR, DL.q_is, DL.q_isB, DL.q_inT, DL.q_inL, DL.q_inS, DL.q_inM, DL.q_eq, DL.q_rd, DL.q_ord, DL.q_ix, DL.q_tup, DL.q_tup0, DL.q_tup1, DL.q_tup2, DL.q_tup3, DL.q_eqI, DL.q_eqS, DL.q_shI, DL.q_flI, DL.q_flS, DL.q_flN, DL.q_flB, DL.q_at0, DL.q_at1, DL.q_at2, DL.q_partsT, DL.iT, DL.iS, DL.iL, DL.wAsg, DL.q_star, DL.q_gN, DL.wInTab, DL.wTab, DL.q_onDs, DL.q_dats0, DL.q_datsc, DL.q_sz0, DL.q_sz1, DL.q_sz2, DL.q_sz3, DL.q_sz4, DL.q_sz5, DL.q_sz6, DL.q_sz7, DL.q_sz11, DL.q_sz12, DL.q_keyS, DL.q_getD, DL.q_dct, DL.wInD, DL.wIxD, DL.q_ixU, DL.q_onMU, DL.q_lenU, DL.q_um, DL.q_n30, DL.q_n31, DL.q_n32, DL.q_max, DL.gIx, DL.q_map, DL.q_all0, DL.q_allc])
section
variable {P : Program} {w : World} {K : PySem.W.Frag} {mg : Str → Option Value} {base : Heap} {k : Nat}
/-- a promise of nothing -/
theorem gok_no {x : Str} {st : Stmt} {f : Addr} {fd : FuncData} {ps : List Str} (G : GDef K mg x st ps f fd) : GOk P w K mg base CX0 k x ps (fun _ _ _ _ => False) :=
  ⟨f, fd, G.glo, G.fn.kp, G.bnd, ⟨fun _ _ _ _ ⟨_, _, _, _, _, _, _, z, _⟩ => z.elim, fun _ _ _ _ _ _ _ _ _ _ _ _ _ _ ⟨_, _, _, _, _, _, _, z, _⟩ => z.elim⟩⟩
def plainW (d : PyData) : Bool := isNone d || (isWhole d (-1000000000) 1000000000 || (isText d || isThing d))
def rowW (q : PyData → Bool) (d : PyData) : Bool := match d with
  | .tuple [_, b] => (match b with
    | .tuple ps => decide ((ps.length : Int) ≤ 30) && ps.all q
    | _ => false)
  | _ => false
def worthIn : Nat → PyData → Bool
  | 0, d => plainW d
  | n + 1, d => plainW d || (isPair d "row" && rowW (worthIn n) d)
def fitW : Nat → PyData → Prop
  | 0, d => fitT d ∧ fitD d
  | n + 1, d => fitT d ∧ fitD d ∧ ∀ a ps, d = .tuple [a, .tuple ps] → ps.length ≤ 10000 ∧ ∀ p ∈ ps, fitW n p
theorem fitW.t : ∀ {n : Nat} {d : PyData}, fitW n d → fitT d ∧ fitD d
  | 0, _, h => h
  | _ + 1, _, h => ⟨h.1, h.2.1⟩
def spWW (n : Nat) : DSp := fun xs M P _ => ∃ d, xs = [.dat d, .dat (.int (n : Nat))] ∧ fitW n d ∧ P (.dat (.bool (worthIn n d))) M
theorem plain_in : ∀ {n : Nat} {d : PyData}, plainW d = true → worthIn n d = true
  | 0, _, h => h
  | n + 1, d, h => by
    unfold worthIn
    rw [h]
    rfl
theorem ok_is_worth_within (T : Facts K mg w) : ∀ n : Nat, GOk P w K mg base CX0 (n + 3) "is_worth_within" ["thing", "deep"] (spWW n) := by
  have G_is_number := ok_is_number (P := P) (base := base) T
  have G_is_text := ok_is_text (P := P) (base := base) T
  have G_is_thing := ok_is_thing (P := P) (base := base) T
  have G_is_pair := ok_is_pair (P := P) (base := base) T
  have step : ∀ (n : Nat) (sp : DSp), GOk P w K mg base CX0 (n + 2) "is_worth_within" ["thing", "deep"] sp → (∀ d, fitW n d → n ≠ 0 → True) → (∀ (m : Nat), n = m + 1 → sp = spWW m) → GOk P w K mg base CX0 (n + 3) "is_worth_within" ["thing", "deep"] (spWW n) := by
    intro n sp G_is_worth_within _ hsp
    obtain ⟨f, fd, D⟩ := T.d_is_worth_within
    refine gok_of D sc_is_worth_within ?_ fun cdv A out s H E hr hgd => ?_
    · rintro xs M P R ⟨d, rfl, h⟩
      rfl
    have hu := Room.units hr
    have hu66 : (A.deeper (envOfC "is_worth_within" (defScope s_is_worth_within) s.heap.objs.size f cdv)).units + 66 < cLine := by
      have := hr.un
      omega
    refine ⟨_, (dss_cons (ds_if (dt_bool (dw_or (dt_cmp do_is (de_var (pv 0)) de_non (by rfl)) (dw_or (dt_val (de_call G_is_number (hr.mono (by omega)) hgd (by rfl) pat0 (da_cons (de_var (pv 0)) da_nil))) (dw_or (dt_val (de_call G_is_text (hr.mono (by omega)) hgd (by rfl) pat0 (da_cons (de_var (pv 0)) da_nil))) (dw_or1 (dt_val (de_call G_is_thing (hr.mono (by omega)) hgd (by rfl) pat0 (da_cons (de_var (pv 0)) da_nil))))))))
        (dss_one (ds_ret de_bl))
        dss_nil)
      (dss_cons (ds_if (dt_bool (dw_or (dt_cmp (do_eqM hu) (de_var (pv 1)) de_int (by rfl)) (dw_or (dt_not (dt_val (de_call G_is_pair (hr.mono (by omega)) hgd (by rfl) pat0 (da_cons (de_var (pv 0)) (da_cons de_str da_nil))))) (dw_or (dt_not (dt_val (de_isi kit_tuple (by rfl) T.m_isinstance (by rfl) T.m_tuple boot_t_tuple (de_ix (de_var (pv 0)) de_int (fun _ _ => rfl))))) (dw_or1 (dt_cmp do_gt (de_len (by rfl) T.m_len (de_ix (de_var (pv 0)) de_int (fun _ _ => rfl))) (de_g T.c_MOST_PARTS (by rfl)) (by rfl)))))))
        (dss_one (ds_ret de_bl))
        dss_nil)
      (dss_one (ds_ret (de_b1 (c_all rfl) (by rfl) T.m_all boot_all' (de_lc (own := [("part", 2)]) rfl sc_is_worth_within.nd (di_T (de_ix (de_var (pv 0)) de_int (fun _ _ => rfl))) (blkOk_by (own := [("part", 2)]) (N := N_is_worth_within) (sc := defScope s_is_worth_within) (by decide +kernel)) (ct_name (i := 2)) (fun _ _ _ _ _ => pg_name (i := 2) sc_is_worth_within.nd rfl (Or.inl rfl)) (fun _ _ _ _ _ => dts_nil) (fun _ _ _ _ _ => (de_call G_is_worth_within (hr.mono (by omega)) hgd (by rfl) pat0 (da_cons (de_var (pv 2)) (da_cons (de_op do_sub (de_var (pv 1)) de_int) da_nil)))))))))), ?_⟩
    rintro xs M P R ⟨d, rfl, ft, h⟩
    have hp : plainW d = true → P (.dat (.bool true)) M := fun e => by
      rw [plain_in e] at h
      exact h
    trivial
    refine ifB (fun e0 => hp (by simp [plainW, e0])) fun e0 => ?_
    refine ⟨d, rfl, ?_⟩
    trivial
    refine ifB (fun e1 => hp (by simp [plainW, e1])) fun e1 => ?_
    refine ⟨d, rfl, ft.t.1, ?_⟩
    trivial
    refine ifB (fun e2 => hp (by simp [plainW, e2])) fun e2 => ?_
    refine ⟨d, rfl, ft.t.2, ?_⟩
    trivial
    refine ifB (fun e3 => hp (by simp [plainW, e3])) fun e3 => ?_
    have np : plainW d = false := by simp [plainW, e0, e1, e2, e3]
    cases n with
    | zero =>
      refine ifT rfl ?_
      simpa only [worthIn, np] using h
    | succ m =>
      have es := hsp m rfl
      subst es
      refine ifF (decide_eq_false (by omega)) ?_
      refine ⟨d, _, rfl, ft.t.2, by decide +kernel, ?_⟩
      trivial
      have hs : worthIn (m + 1) d = (isPair d "row" && rowW (worthIn m) d) := by
        show (plainW d || _) = _
        rw [np, Bool.false_or]
      rw [hs] at h
      refine ifB (fun e4 => ?_) fun e4 => ?_
      · have e5 : isPair d "row" = false := by simpa using e4
        rw [e5, Bool.false_and] at h
        exact h
      · have e5 : isPair d "row" = true := by simpa using e4
        rw [e5, Bool.true_and] at h
        obtain ⟨b, rfl⟩ := pair_inv e5
        trivial
        cases b with
        | tuple ps =>
          trivial
          obtain ⟨l1, l2⟩ := ft.2.2 _ ps rfl
          refine ifB (fun e6 => ?_) fun e6 => ?_
          · have e7 : decide ((ps.length : Int) ≤ 30) = false := decide_eq_false (by have := of_decide_eq_true e6; omega)
            simpa only [rowW, e7, Bool.false_and] using h
          · have e7 : decide ((ps.length : Int) ≤ 30) = true := decide_eq_true (by have := of_decide_eq_false e6; omega)
            simp only [rowW, e7, Bool.true_and] at h
            refine g_all ps .dat (worthIn m) (fun Pk q => ?_) (Nat.le_trans l1 (by decide)) (fun p hp' M P R q => ?_) h
            · trivial
              exact q
            · trivial
              refine ⟨p, ?_, l2 p hp', q⟩
              rw [show ((m + 1 : Nat) : Int) - 1 = (m : Nat) by omega]
        | _ =>
          trivial
          exact h
  intro n
  induction n with
  | zero =>
    obtain ⟨f, fd, D⟩ := T.d_is_worth_within
    exact step 0 _ (gok_no D) (fun _ _ _ => True.intro) fun m e => by omega
  | succ n ih =>
    refine step (n + 1) _ ih (fun _ _ _ => True.intro) fun m e => ?_
    cases e
    rfl

end
end K13
end
section
set_option Elab.async false
set_option linter.all false
set_option maxRecDepth 100000
set_option maxHeartbeats 400000
namespace K13
open PySem PySem.Spec L2 DL DX
open PyProof.Rows hiding St
local macro_rules | `(tactic| trivial) => `(tactic| simp only [DL.wSeq, DL.wNext, DL.wRet, DL.wDrop, DL.wIf, DL.wSet, DL.wC, DL.wVar, DL.wOp, DL.wAnd, DL.wOr, DL.wNot, DL.wB, DL.wAndV, DL.wOrV, DL.wNotV, DL.wIfE, DL.wChain, DL.wIsi, DL.wUn, DL.wLen, DL.wCall, DL.wNil, DL.wCons, DL.wTup, DL.wLst, DL.wLstM, DL.wNeg, DL.isT, String.reduceBEq, Bool.or_false, Bool.false_or, Bool.or_true, Bool.true_or, Bool.or_self, Bool.and_self, DL.wGt, DL.wGe, DL.dstart, List.map_cons, List.map_nil, List.length_cons, List.length_nil, List.cons_append, List.nil_append, List.getElem?_cons_zero, List.getElem?_cons_succ, Option.some.injEq, exists_eq_left', exists_eq_left, List.set_cons_zero, List.set_cons_succ, decide_true, decide_false, Bool.true_and, Bool.and_true, Bool.false_and, Bool.and_false, true_and, Bool.not_true, Bool.not_false, if_true, if_false, reduceIte, Bool.false_eq_true, bne_self_eq_false, DL.bne_f, DL.bne_t, List.getElem?_nil, Nat.reduceAdd, Nat.reduceSub, List.replicate_succ, List.replicate_zero, DL.q_onO, DL.q_onO0, DL.q_onB, DL.q_onI, DL.q_onS, DL.q_onL, DL.q_ty, DL.q_tyT, DL.q_ty0, DL.q_ty1, DL.q_ty2, DL.q_ty3, DL.q_ty4, DL.q_ty5, DL.q_ty6, DL.q_lenT, DL.q_lenL, DL.q_lenS, DL.q_ixT, DL.q_ixL, DL.q_ixA, DL.q_leI, DL.q_leS, DL.q_ltI, DL.q_ltS, DL.q_I0, DL.q_II, DL.q_sub, DL.q_addI, DL.q_addS, DL.q_addT, DL.q_addL, DL.q_mulI, DL.q_mulS, DL.q_none, DL.q_noneR, DL.q_is, DL.q_isB, DL.q_inT, DL.q_inL, DL.q_inS, DL.q_inM, DL.q_eq, DL.q_rd, DL.q_ord, DL.q_ix, DL.q_tup, DL.q_tup0, DL.q_tup1, DL.q_tup2, DL.q_tup3, DL.q_eqI, DL.q_eqS, DL.q_shI, DL.q_flI, DL.q_flS, DL.q_flN, DL.q_flB, DL.q_at0, DL.q_at1, DL.q_at2, DL.q_partsT, DL.iT, DL.iS, DL.iL, DL.wAsg, DL.q_star, DL.q_gN, DL.wInTab, DL.wTab, DL.q_onDs, DL.q_dats0, DL.q_datsc, DL.q_sz0, DL.q_sz1, DL.q_sz2, DL.q_sz3, DL.q_sz4, DL.q_sz5, DL.q_sz6, DL.q_sz7, DL.q_sz11, DL.q_sz12, DL.q_keyS, DL.q_getD, DL.q_dct, DL.wInD, DL.wIxD, DL.q_ixU, DL.q_onMU, DL.q_lenU, DL.q_um, DL.q_n30, DL.q_n31, DL.q_n32, DL.q_max, DL.gIx, DL.q_map, DL.q_all0, DL.q_allc])
section
variable {P : Program} {w : World} {K : PySem.W.Frag} {mg : Str → Option Value} {base : Heap} {k : Nat}
def isWorth (d : PyData) : Bool := worthIn 4 d
def spWorth : DSp := fun xs M P _ => ∃ d, xs = [.dat d] ∧ fitW 4 d ∧ P (.dat (.bool (isWorth d))) M
theorem ok_is_worth (T : Facts K mg w) : GOk P w K mg base CX0 8 "is_worth" ["thing"] spWorth := by
  have G_is_worth_within := ok_is_worth_within (P := P) (base := base) T 4
  obtain ⟨f, fd, D⟩ := T.d_is_worth
  refine gok_of D sc_is_worth ?_ fun cdv A out s H E hr hgd => ?_
  · rintro xs M P R ⟨d, rfl, h⟩
    rfl
  have hu := Room.units hr
  have hu66 : (A.deeper (envOfC "is_worth" (defScope s_is_worth) s.heap.objs.size f cdv)).units + 66 < cLine := by
    have := hr.un
    omega
  refine ⟨_, (dss_one (ds_ret (de_call G_is_worth_within (hr.mono (by omega)) hgd (by rfl) pat0 (da_cons (de_var (pv 0)) (da_cons (de_g T.c_MOST_DEEP (by rfl)) da_nil))))), ?_⟩
  rintro xs M P R ⟨d, rfl, ft, h⟩
  trivial
  exact ⟨d, rfl, ft, h⟩
def lens : List (Str × PyData) := [("hide", .int 2), ("bar", .int 2), ("as", .int 3), ("give", .int 3), ("count", .int 2)]
def lenOf (wd : Str) : Int := match tabGet lens wd with
  | some d => (match d with
    | .int n => n
    | _ => 0)
  | none => 0
def tailB (wd : Str) (qs : List PyData) : Bool := match qs with
  | [] => !decide (wd = "as") && !decide (wd = "give")
  | q :: _ => if decide (wd = "as") = true then isName q else (!decide (wd = "give") || isWorth q)
def restB (wd : Str) (ps : List PyData) : Bool := match ps with
  | [] => false
  | p :: qs => isName p && tailB wd qs
def ruleB (wd : Str) (ps : List PyData) : Bool := (tabGet lens wd).isSome && (decide ((ps.length : Int) + 1 = lenOf wd) && restB wd ps)
theorem tab_mem : ∀ {l : List (Str × PyData)} {z : Str} {d : PyData}, tabGet l z = some d → (z, d) ∈ l
  | [], _, _, h => by cases h
  | (k, x) :: r, z, d, h => by
    unfold tabGet at h
    by_cases e : k = z
    · rw [if_pos e] at h
      cases h
      rw [e]
      exact List.mem_cons_self
    · rw [if_neg e] at h
      exact List.mem_cons_of_mem _ (tab_mem h)
theorem lens_some {wd : Str} {d : PyData} (h : tabGet lens wd = some d) : d = .int (lenOf wd) ∧ 2 ≤ lenOf wd ∧ (wd = "as" ∨ wd = "give" → lenOf wd = 3) := by
  have e : ∀ i, d = .int i → lenOf wd = i := fun i e => by
    unfold lenOf
    rw [h, e]
  have m := tab_mem h
  simp only [lens, List.mem_cons, Prod.mk.injEq, List.not_mem_nil, or_false] at m
  rcases m with ⟨m1, m2⟩ | ⟨m1, m2⟩ | ⟨m1, m2⟩ | ⟨m1, m2⟩ | ⟨m1, m2⟩
  · rw [e _ m2]
    exact ⟨m2, by omega, fun z => by rw [m1] at z; exact absurd z (by decide +kernel)⟩
  · rw [e _ m2]
    exact ⟨m2, by omega, fun z => by rw [m1] at z; exact absurd z (by decide +kernel)⟩
  · rw [e _ m2]
    exact ⟨m2, by omega, fun z => rfl⟩
  · rw [e _ m2]
    exact ⟨m2, by omega, fun z => rfl⟩
  · rw [e _ m2]
    exact ⟨m2, by omega, fun z => by rw [m1] at z; exact absurd z (by decide +kernel)⟩
def isRule (d : PyData) : Bool := match d with
  | .tuple ds => (match ds with
    | [] => false
    | a :: ps => (match a with
      | .str wd => ruleB wd ps
      | _ => false))
  | _ => false
def fitR (d : PyData) : Prop := match d with
  | .tuple ds => (match ds with
    | [] => True
    | a :: ps => (match a with
      | .str z => ps.length ≤ 9999 ∧ PyData.strOk z = true ∧ (∀ p ∈ ps, fitT p) ∧ (z = "give" → ∀ p ∈ ps, fitW 4 p)
      | _ => True))
  | _ => True
def spRule : DSp := fun xs M P _ => ∃ d, xs = [.dat d] ∧ fitR d ∧ P (.dat (.bool (isRule d))) M
theorem ok_is_rule (T : Facts K mg w) : GOk P w K mg base CX0 9 "is_rule" ["thing"] spRule := by
  have G_is_worth := ok_is_worth (P := P) (base := base) T
  have G_is_name := ok_is_name (P := P) (base := base) T
  obtain ⟨f, fd, D⟩ := T.d_is_rule
  refine gok_of D sc_is_rule ?_ fun cdv A out s H E hr hgd => ?_
  · rintro xs M P R ⟨d, rfl, h⟩
    rfl
  have hu := Room.units hr
  have hu66 : (A.deeper (envOfC "is_rule" (defScope s_is_rule) s.heap.objs.size f cdv)).units + 66 < cLine := by
    have := hr.un
    omega
  refine ⟨_, (dss_cons (ds_if (dt_bool (dw_or (dt_not (dt_val (de_isi kit_tuple (by rfl) T.m_isinstance (by rfl) T.m_tuple boot_t_tuple (de_var (pv 0))))) (dw_or (dt_cmp (do_eqM hu) (de_len (by rfl) T.m_len (de_var (pv 0))) de_int (by rfl)) (dw_or1 (dt_not (dt_val (de_isi kit_str (by rfl) T.m_isinstance (by rfl) T.m_str boot_t_str (de_ix (de_var (pv 0)) de_int (fun _ _ => rfl)))))))))
      (dss_one (ds_ret de_bl))
      dss_nil)
    (dss_cons (ds_asg (de_var (pv 0)) (dg_star rfl (pg_name (i := 1) sc_is_rule.nd rfl (Or.inl rfl)) (pg_name (i := 2) sc_is_rule.nd rfl (Or.inl rfl))))
    (dss_cons (ds_if (dt_bool (dw_or (dt_notInTab T.t_LENGTHS.2 T.t_LENGTHS.1 (by rfl) (de_var (pv 1))) (dw_or (dt_cmp (do_neM hu) (de_len (by rfl) T.m_len (de_var (pv 0))) (de_tab T.t_LENGTHS.2 T.t_LENGTHS.1 (by rfl) (de_var (pv 1)) (fun _ _ => rfl)) (by rfl)) (dw_or1 (dt_not (dt_val (de_call G_is_name (hr.mono (by omega)) hgd (by rfl) pat0 (da_cons (de_ix (de_var (pv 2)) de_int (fun _ _ => rfl)) da_nil))))))))
      (dss_one (ds_ret de_bl))
      dss_nil)
    (dss_cons (ds_if (dt_cmp (do_eqM hu) (de_var (pv 1)) de_str (by rfl))
      (dss_one (ds_ret (de_call G_is_name (hr.mono (by omega)) hgd (by rfl) pat0 (da_cons (de_ix (de_var (pv 2)) de_int (fun _ _ => rfl)) da_nil))))
      dss_nil)
    (dss_one (ds_ret (de_or (de_cmp (do_neM hu) (de_var (pv 1)) de_str (by rfl)) (de_one (de_call G_is_worth (hr.mono (by omega)) hgd (by rfl) pat0 (da_cons (de_ix (de_var (pv 2)) de_int (fun _ _ => rfl)) da_nil)))))))))), ?_⟩
  rintro xs M P R ⟨d, rfl, ft, h⟩
  cases d with
  | tuple ds =>
    cases ds with
    | nil =>
      trivial
      exact h
    | cons a ps =>
      trivial
      cases a with
      | str wd =>
        trivial
        refine ifF (decide_eq_false (by omega)) ?_
        have hl : ps.length ≤ 16000 := by
          have := ft.1
          omega
        refine ⟨hl, ?_⟩
        have hb : isRule (.tuple (.str wd :: ps)) = ruleB wd ps := rfl
        rw [hb] at h
        have ew := ft.2.1
        cases et : tabGet lens wd with
        | none =>
          have et' : tabGet [("hide", .int 2), ("bar", .int 2), ("as", .int 3), ("give", .int 3), ("count", .int 2)] wd = none := et
          rw [et']
          refine ifT rfl ?_
          simpa only [ruleB, et, Option.isSome_none, Bool.false_and] using h
        | some d =>
          have et' : tabGet [("hide", .int 2), ("bar", .int 2), ("as", .int 3), ("give", .int 3), ("count", .int 2)] wd = some d := et
          obtain ⟨ed, l2, l3⟩ := lens_some et
          subst ed
          rw [et']
          refine ifF rfl ?_
          trivial
          have hr2 : ruleB wd ps = (decide ((ps.length : Int) + 1 = lenOf wd) && restB wd ps) := by
            unfold ruleB
            rw [et]
            rfl
          rw [hr2] at h
          refine ifB (fun e1 => ?_) fun e1 => ?_
          · have e2 : decide ((ps.length : Int) + 1 = lenOf wd) = false := decide_eq_false (by simpa using e1)
            rw [e2, Bool.false_and] at h
            exact h
          · have e3 : (ps.length : Int) + 1 = lenOf wd := by simpa using e1
            rw [decide_eq_true e3, Bool.true_and] at h
            cases ps with
            | cons p qs =>
              trivial
              have fp := ft.2.2.1 p (by simp)
              refine ⟨p, rfl, fp, ?_⟩
              trivial
              refine ifB (fun e4 => ?_) fun e4 => ?_
              · have e5 : isName p = false := by simpa using e4
                simpa only [restB, e5, Bool.false_and] using h
              · have e5 : isName p = true := by simpa using e4
                simp only [restB, e5, Bool.true_and] at h
                refine ⟨shS ew, shS (by decide +kernel), ifB (fun e6 => ?_) fun e6 => ⟨shS ew, shS (by decide +kernel), ifB (fun e7 => ?_) fun e7 => ?_⟩⟩
                · have e8 := l3 (.inl (of_decide_eq_true e6))
                  cases qs with
                  | cons q rs =>
                    trivial
                    refine ⟨q, rfl, ft.2.2.1 q (by simp), ?_⟩
                    simpa only [tailB, e6, if_true] using h
                  | nil =>
                    simp only [List.length_cons, List.length_nil] at e3
                    omega
                · have e9 : decide (wd = "give") = false := by simpa using e7
                  cases qs with
                  | nil => simpa only [tailB, e6, e9, Bool.not_false, Bool.and_true] using h
                  | cons q rs => simpa only [tailB, e6, e9, Bool.not_false, Bool.true_or, Bool.false_eq_true, if_false] using h
                · have e9 : decide (wd = "give") = true := by simpa using e7
                  have e8 := l3 (.inr (of_decide_eq_true e9))
                  cases qs with
                  | cons q rs =>
                    trivial
                    refine ⟨q, rfl, ft.2.2.2 (of_decide_eq_true e9) q (by simp), ?_⟩
                    simpa only [tailB, e6, e9, Bool.not_true, Bool.false_or, Bool.false_eq_true, if_false] using h
                  | nil =>
                    simp only [List.length_cons, List.length_nil] at e3
                    omega
            | nil =>
              simp only [List.length_nil] at e3
              omega
      | _ =>
        trivial
        exact ifB (fun _ => h) fun _ => h
  | _ =>
    trivial
    exact h

end
end K13
end
section
set_option Elab.async false
set_option linter.all false
set_option maxRecDepth 100000
set_option maxHeartbeats 400000
namespace K13
open PySem PySem.Spec L2 DL DX
open PyProof.Rows hiding St
local macro_rules | `(tactic| trivial) => `(tactic| simp only [DL.wSeq, DL.wNext, DL.wRet, DL.wDrop, DL.wIf, DL.wSet, DL.wC, DL.wVar, DL.wOp, DL.wAnd, DL.wOr, DL.wNot, DL.wB, DL.wAndV, DL.wOrV, DL.wNotV, DL.wIfE, DL.wChain, DL.wIsi, DL.wUn, DL.wLen, DL.wCall, DL.wNil, DL.wCons, DL.wTup, DL.wLst, DL.wLstM, DL.wNeg, DL.isT, String.reduceBEq, Bool.or_false, Bool.false_or, Bool.or_true, Bool.true_or, Bool.or_self, Bool.and_self, DL.wGt, DL.wGe, DL.dstart, List.map_cons, List.map_nil, List.length_cons, List.length_nil, List.cons_append, List.nil_append, List.getElem?_cons_zero, List.getElem?_cons_succ, Option.some.injEq, exists_eq_left', exists_eq_left, List.set_cons_zero, List.set_cons_succ, decide_true, decide_false, Bool.true_and, Bool.and_true, Bool.false_and, Bool.and_false, true_and, Bool.not_true, Bool.not_false, if_true, if_false, reduceIte, Bool.false_eq_true, bne_self_eq_false, DL.bne_f, DL.bne_t, List.getElem?_nil, Nat.reduceAdd, Nat.reduceSub, List.replicate_succ, List.replicate_zero, DL.q_onO, DL.q_onO0, DL.q_onB, DL.q_onI, DL.q_onS, DL.q_onL, DL.q_ty, DL.q_tyT, DL.q_ty0, DL.q_ty1, DL.q_ty2, DL.q_ty3, DL.q_ty4, DL.q_ty5, DL.q_ty6, DL.q_lenT, DL.q_lenL, DL.q_lenS, DL.q_ixT, DL.q_ixL, DL.q_ixA, DL.q_leI, DL.q_leS, DL.q_ltI, DL.q_ltS, DL.q_I0, DL.q_II, DL.q_sub, DL.q_addI, DL.q_addS, DL.q_addT, DL.q_addL, DL.q_mulI, DL.q_mulS, DL.q_none, DL.q_noneR, DL.q_is, DL.q_isB, DL.q_inT, DL.q_inL, DL.q_inS, DL.q_inM, DL.q_eq, DL.q_rd, DL.q_ord, DL.q_ix, DL.q_tup, DL.q_tup0, DL.q_tup1, DL.q_tup2, DL.q_tup3, DL.q_eqI, DL.q_eqS, DL.q_shI, DL.q_flI, DL.q_flS, DL.q_flN, DL.q_flB, DL.q_at0, DL.q_at1, DL.q_at2, DL.q_partsT, DL.iT, DL.iS, DL.iL, DL.wAsg, DL.q_star, DL.q_gN, DL.wInTab, DL.wTab, DL.q_onDs, DL.q_dats0, DL.q_datsc, DL.q_sz0, DL.q_sz1, DL.q_sz2, DL.q_sz3, DL.q_sz4, DL.q_sz5, DL.q_sz6, DL.q_sz7, DL.q_sz11, DL.q_sz12, DL.q_keyS, DL.q_getD, DL.q_dct, DL.wInD, DL.wIxD, DL.q_ixU, DL.q_onMU, DL.q_lenU, DL.q_um, DL.q_n30, DL.q_n31, DL.q_n32, DL.q_max, DL.gIx, DL.q_map, DL.q_all0, DL.q_allc])
section
variable {P : Program} {w : World} {K : PySem.W.Frag} {mg : Str → Option Value} {base : Heap} {k : Nat}
def headW (d : PyData) : Str := match d with
  | .tuple ds => (match ds with
    | a :: _ => (match a with
      | .str z => z
      | _ => "")
    | _ => "")
  | _ => ""
def nameW (d : PyData) : Str := match d with
  | .tuple ds => (match ds with
    | _ :: b :: _ => (match b with
      | .str z => z
      | _ => "")
    | _ => "")
  | _ => ""
theorem rule_inv {d : PyData} (h : isRule d = true) : ∃ wd nm rest, d = .tuple (.str wd :: .str nm :: rest) := by
  cases d with
  | tuple ds =>
    cases ds with
    | nil => cases h
    | cons a ps =>
      cases a with
      | str wd =>
        have h1 : ruleB wd ps = true := h
        unfold ruleB at h1
        simp only [Bool.and_eq_true] at h1
        cases ps with
        | nil => exact absurd h1.2.2 (by simp [restB])
        | cons p qs =>
          have h2 := h1.2.2
          simp only [restB, Bool.and_eq_true] at h2
          cases p with
          | str nm => exact ⟨wd, nm, qs, rfl⟩
          | _ => exact absurd h2.1 (by simp [isName])
      | _ => cases h
  | _ => cases h
def led (ds : List PyData) : List Str := (ds.filter fun r => !decide (headW r = "count")).map nameW
def counted (ds : List PyData) : List Str := (ds.filter fun r => decide (headW r = "count")).map nameW
def noTwice (xs : List Str) : Bool := decide (((ddUp xs).length : Int) = (xs.length : Int))
def rulesB (ds : List PyData) : Bool := decide ((ds.length : Int) ≤ 8) && (ds.all isRule && (noTwice (led ds) && noTwice (counted ds)))
def areRules (d : PyData) : Bool := match d with
  | .tuple ds => rulesB ds
  | _ => false
def fitS (d : PyData) : Prop := match d with
  | .tuple ds => ds.length ≤ 10000 ∧ ∀ r ∈ ds, fitR r
  | _ => True
def spRules : DSp := fun xs M P _ => ∃ d, xs = [.dat d] ∧ fitS d ∧ P (.dat (.bool (areRules d))) M
theorem ok_are_rules (T : Facts K mg w) : GOk P w K mg base CX0 10 "are_rules" ["thing"] spRules := by
  have G_is_rule := ok_is_rule (P := P) (base := base) T
  obtain ⟨f, fd, D⟩ := T.d_are_rules
  refine gok_of D sc_are_rules ?_ fun cdv A out s H E hr hgd => ?_
  · rintro xs M P R ⟨d, rfl, h⟩
    rfl
  have hu := Room.units hr
  have hu66 : (A.deeper (envOfC "are_rules" (defScope s_are_rules) s.heap.objs.size f cdv)).units + 66 < cLine := by
    have := hr.un
    omega
  refine ⟨_, (dss_cons (ds_if (dt_bool (dw_or (dt_not (dt_val (de_isi kit_tuple (by rfl) T.m_isinstance (by rfl) T.m_tuple boot_t_tuple (de_var (pv 0))))) (dw_or (dt_cmp do_gt (de_len (by rfl) T.m_len (de_var (pv 0))) (de_g T.c_MOST_RULES (by rfl)) (by rfl)) (dw_or1 (dt_not (dt_val (de_b1 (c_all rfl) (by rfl) T.m_all boot_all' (de_lc (own := [("rule", 3)]) rfl sc_are_rules.nd (di_T (de_var (pv 0))) (blkOk_by (own := [("rule", 3)]) (N := N_are_rules) (sc := defScope s_are_rules) (by decide +kernel)) (ct_name (i := 3)) (fun _ _ _ _ _ => pg_name (i := 3) sc_are_rules.nd rfl (Or.inl rfl)) (fun _ _ _ _ _ => dts_nil) (fun _ _ _ _ _ => (de_call G_is_rule (hr.mono (by omega)) hgd (by rfl) pat0 (da_cons (de_var (pv 3)) da_nil)))))))))))
      (dss_one (ds_ret de_bl))
      dss_nil)
    (dss_cons (ds_setLc (ct_name (i := 3)) (ps_setLc (own := [("rule", 3)]) (i := 1) rfl sc_are_rules.nd rfl rfl (sw_true rfl rfl rfl (by decide +kernel)) (di_T (de_var (pv 0))) (blkOk_by (own := [("rule", 3)]) (N := N_are_rules) (sc := defScope s_are_rules) (by decide +kernel)) (fun _ _ _ _ _ => pg_name (i := 3) sc_are_rules.nd rfl (Or.inl rfl)) (fun _ _ _ _ _ => pts_one (dt_cmp (do_neM hu) (de_ix (de_var (pv 3)) de_int (fun _ _ => rfl)) de_str (by rfl))) (fun _ _ _ _ _ => (de_ix (de_var (pv 3)) de_int (fun _ _ => rfl)))))
    (dss_cons (ds_setLc (ct_name (i := 3)) (ps_setLc (own := [("rule", 3)]) (i := 2) rfl sc_are_rules.nd rfl rfl (sw_true rfl rfl rfl (by decide +kernel)) (di_T (de_var (pv 0))) (blkOk_by (own := [("rule", 3)]) (N := N_are_rules) (sc := defScope s_are_rules) (by decide +kernel)) (fun _ _ _ _ _ => pg_name (i := 3) sc_are_rules.nd rfl (Or.inl rfl)) (fun _ _ _ _ _ => pts_one (dt_cmp (do_eqM hu) (de_ix (de_var (pv 3)) de_int (fun _ _ => rfl)) de_str (by rfl))) (fun _ _ _ _ _ => (de_ix (de_var (pv 3)) de_int (fun _ _ => rfl)))))
    (dss_one (ds_ret (de_and (de_cmp (do_eqM hu) (de_lenSet rfl (by rfl) T.m_len (by rfl) T.m_set (de_var (pv 1))) (de_len (by rfl) T.m_len (de_var (pv 1))) (by rfl)) (de_one (de_cmp (do_eqM hu) (de_lenSet rfl (by rfl) T.m_len (by rfl) T.m_set (de_var (pv 2))) (de_len (by rfl) T.m_len (de_var (pv 2))) (by rfl))))))))), ?_⟩
  rintro xs M P R ⟨d, rfl, ft, h⟩
  cases d with
  | tuple ds =>
    trivial
    have hb : areRules (.tuple ds) = rulesB ds := rfl
    rw [hb] at h
    refine ifB (fun e1 => ?_) fun e1 => ?_
    · have e2 : decide ((ds.length : Int) ≤ 8) = false := decide_eq_false (by have := of_decide_eq_true e1; omega)
      simpa only [rulesB, e2, Bool.false_and] using h
    · have e2 : decide ((ds.length : Int) ≤ 8) = true := decide_eq_true (by have := of_decide_eq_false e1; omega)
      refine g_all ds .dat isRule (fun Pk q => ⟨_, rfl, q⟩) (Nat.le_trans ft.1 (by decide)) (fun r hr' M P R q => ?_) ?_
      · trivial
        exact ⟨r, rfl, ft.2 r hr', q⟩
      · trivial
        refine ifB (fun e3 => ?_) fun e3 => ?_
        · have e4 : ds.all isRule = false := by simpa using e3
          simpa only [rulesB, e4, Bool.false_and, Bool.and_false] using h
        · have e4 : ds.all isRule = true := by simpa using e3
          simp only [rulesB, e2, e4, Bool.true_and] at h
          have ruled : ∀ r ∈ ds, isRule r = true := List.all_eq_true.mp e4
          have tOk : ∀ r ∈ ds, PyData.strOk (headW r) = true := fun r hr' => by
            obtain ⟨wd, nm, rest, e⟩ := rule_inv (ruled r hr')
            have z := ft.2 r hr'
            rw [e] at z ⊢
            exact z.2.1
          have l1 : (led ds).length ≤ ds.length := by
            unfold led
            rw [List.length_map]
            exact List.length_filter_le _ _
          have l2 : (counted ds).length ≤ ds.length := by
            unfold counted
            rw [List.length_map]
            exact List.length_filter_le _ _
          have l3 : (ds.length : Int) ≤ 8 := of_decide_eq_true e2
          refine g_lc (fun r => [some (.dat (.tuple ds)), none, none, some (.dat r)]) (fun r => !decide (headW r = "count")) (fun r => .str (nameW r)) .dat ds (fun Pk q => ⟨_, rfl, q⟩) (Nat.le_trans ft.1 (by decide)) (fun r hr' => ⟨rfl, fun M P R q => ?_, fun _ M P R q => ?_⟩) ?_
          · have z := tOk r hr'
            obtain ⟨wd, nm, rest, e⟩ := rule_inv (ruled r hr')
            subst e
            trivial
            exact ⟨shS z, shS (by decide +kernel), q⟩
          · obtain ⟨wd, nm, rest, e⟩ := rule_inv (ruled r hr')
            subst e
            trivial
            exact q
          refine g_lc (fun r => [some (.dat (.tuple ds)), _, none, some (.dat r)]) (fun r => decide (headW r = "count")) (fun r => .str (nameW r)) .dat ds (fun Pk q => ⟨_, rfl, q⟩) (Nat.le_trans ft.1 (by decide)) (fun r hr' => ⟨rfl, fun M P R q => ?_, fun _ M P R q => ?_⟩) ?_
          · have z := tOk r hr'
            obtain ⟨wd, nm, rest, e⟩ := rule_inv (ruled r hr')
            subst e
            trivial
            exact ⟨shS z, shS (by decide +kernel), q⟩
          · obtain ⟨wd, nm, rest, e⟩ := rule_inv (ruled r hr')
            subst e
            trivial
            exact q
          have m1 : ((ds.filter fun r => !decide (headW r = "count")).map fun r => PyData.str (nameW r)) = (led ds).map .str := by
            unfold led
            rw [List.map_map]
            rfl
          have m2 : ((ds.filter fun r => decide (headW r = "count")).map fun r => PyData.str (nameW r)) = (counted ds).map .str := by
            unfold counted
            rw [List.map_map]
            rfl
          rw [m1, m2]
          refine g_lenSet (xs := led ds) (fun Pk q => ⟨_, rfl, q⟩) (by omega) ?_
          trivial
          rw [List.length_map]
          refine ifB (fun e5 => ?_) fun e5 => ?_
          · refine g_lenSet (xs := counted ds) (fun Pk q => ⟨_, rfl, q⟩) (by omega) ?_
            trivial
            rw [List.length_map]
            simpa only [noTwice, e5, Bool.true_and] using h
          · simpa only [noTwice, e5, Bool.false_and] using h
  | _ =>
    trivial
    exact h

end
end K13
end
section
set_option Elab.async false
set_option linter.all false
set_option maxRecDepth 100000
set_option maxHeartbeats 400000
namespace K13
open PySem PySem.Spec L2 DL DX
open PyProof.Rows hiding St
local macro_rules | `(tactic| trivial) => `(tactic| simp only [DL.wSeq, DL.wNext, DL.wRet, DL.wDrop, DL.wIf, DL.wSet, DL.wC, DL.wVar, DL.wOp, DL.wAnd, DL.wOr, DL.wNot, DL.wB, DL.wAndV, DL.wOrV, DL.wNotV, DL.wIfE, DL.wChain, DL.wIsi, DL.wUn, DL.wLen, DL.wCall, DL.wNil, DL.wCons, DL.wTup, DL.wLst, DL.wLstM, DL.wNeg, DL.isT, String.reduceBEq, Bool.or_false, Bool.false_or, Bool.or_true, Bool.true_or, Bool.or_self, Bool.and_self, DL.wGt, DL.wGe, DL.dstart, List.map_cons, List.map_nil, List.length_cons, List.length_nil, List.cons_append, List.nil_append, List.getElem?_cons_zero, List.getElem?_cons_succ, Option.some.injEq, exists_eq_left', exists_eq_left, List.set_cons_zero, List.set_cons_succ, decide_true, decide_false, Bool.true_and, Bool.and_true, Bool.false_and, Bool.and_false, true_and, Bool.not_true, Bool.not_false, if_true, if_false, reduceIte, Bool.false_eq_true, bne_self_eq_false, DL.bne_f, DL.bne_t, List.getElem?_nil, Nat.reduceAdd, Nat.reduceSub, List.replicate_succ, List.replicate_zero, DL.q_onO, DL.q_onO0, DL.q_onB, DL.q_onI, DL.q_onS, DL.q_onL, DL.q_ty, DL.q_tyT, DL.q_ty0, DL.q_ty1, DL.q_ty2, DL.q_ty3, DL.q_ty4, DL.q_ty5, DL.q_ty6, DL.q_lenT, DL.q_lenL, DL.q_lenS, DL.q_ixT, DL.q_ixL, DL.q_ixA, DL.q_leI, DL.q_leS, DL.q_ltI, DL.q_ltS, DL.q_I0, DL.q_II, DL.q_sub, DL.q_addI, DL.q_addS, DL.q_addT, DL.q_addL, DL.q_mulI, DL.q_mulS, DL.q_none, DL.q_noneR, DL.q_is, DL.q_isB, DL.q_inT, DL.q_inL, DL.q_inS, DL.q_inM, DL.q_eq, DL.q_rd, DL.q_ord, DL.q_ix, DL.q_tup, DL.q_tup0, DL.q_tup1, DL.q_tup2, DL.q_tup3, DL.q_eqI, DL.q_eqS, DL.q_shI, DL.q_flI, DL.q_flS, DL.q_flN, DL.q_flB, DL.q_at0, DL.q_at1, DL.q_at2, DL.q_partsT, DL.iT, DL.iS, DL.iL, DL.wAsg, DL.q_star, DL.q_gN, DL.wInTab, DL.wTab, DL.q_onDs, DL.q_dats0, DL.q_datsc, DL.q_sz0, DL.q_sz1, DL.q_sz2, DL.q_sz3, DL.q_sz4, DL.q_sz5, DL.q_sz6, DL.q_sz7, DL.q_sz11, DL.q_sz12, DL.q_keyS, DL.q_getD, DL.q_dct, DL.wInD, DL.wIxD, DL.q_ixU, DL.q_onMU, DL.q_lenU, DL.q_um, DL.q_n30, DL.q_n31, DL.q_n32, DL.q_max, DL.gIx, DL.q_map, DL.q_all0, DL.q_allc])
section
variable {P : Program} {w : World} {K : PySem.W.Frag} {mg : Str → Option Value} {base : Heap} {k : Nat}
theorem lt_one (c d : Nat) : strLt ⟨#[c]⟩ ⟨#[d]⟩ = decide (c < d) := by
  unfold strLt
  have e : ((⟨#[c]⟩ : Str).cps.toList < (⟨#[d]⟩ : Str).cps.toList) ↔ c < d := by
    show ([c] < [d]) ↔ _
    rw [List.cons_lt_cons_iff]
    simp
  by_cases h : c < d
  · rw [decide_eq_true (e.mpr h), decide_eq_true h]
  · rw [decide_eq_false (fun z => h (e.mp z)), decide_eq_false h]
def lowSign (c : Nat) : Bool := decide (97 ≤ c) && decide (c ≤ 122)
theorem low_in (c : Nat) : inStr ⟨#[c]⟩ lettersZ = lowSign c := by
  unfold inStr
  rw [PySem.StrLaws.found_one]
  have e : lettersZ.cps.toList = [97, 98, 99, 100, 101, 102, 103, 104, 105, 106, 107, 108, 109, 110, 111, 112, 113, 114, 115, 116, 117, 118, 119, 120, 121, 122] := by decide +kernel
  rw [e]
  unfold lowSign
  by_cases h : 97 ≤ c ∧ c ≤ 122
  · rw [decide_eq_true h.1, decide_eq_true h.2]
    refine decide_eq_true ?_
    obtain ⟨h1, h2⟩ := h
    simp only [List.mem_cons, List.not_mem_nil, or_false]
    omega
  · have : (decide (97 ≤ c) && decide (c ≤ 122)) = false := by
      by_cases h1 : 97 ≤ c
      · have h2 : ¬ c ≤ 122 := fun z => h ⟨h1, z⟩
        simp [h2]
      · simp [h1]
    rw [this]
    refine decide_eq_false fun z => h ?_
    simp only [List.mem_cons, List.not_mem_nil, or_false] at z
    omega
theorem low_cmp (c : Nat) : (!strLt ⟨#[c]⟩ "a" && !strLt "z" ⟨#[c]⟩) = lowSign c := by
  have e1 : ("a" : Str) = ⟨#[97]⟩ := by decide +kernel
  have e2 : ("z" : Str) = ⟨#[122]⟩ := by decide +kernel
  rw [e1, e2, lt_one, lt_one]
  unfold lowSign
  by_cases h1 : c < 97 <;> by_cases h2 : 122 < c <;> simp [h1, h2] <;> omega
theorem eqv_nil (xs : List PyData) : PyData.eqv (.list xs) (.list []) = xs.isEmpty := by
  cases xs <;> rfl
theorem shL0 : SeqAt.shaped (.list []) = true := by decide +kernel
/-- a list of flat texts can be held against another -/
theorem layS {xs : List Str} (h : ∀ x ∈ xs, PyData.strOk x = true) : PyData.canLayAll0 (xs.map .str) = true := by
  induction xs with
  | nil => rfl
  | cons x r ih =>
    simp only [List.map_cons, PyData.canLayAll0, PyData.canLay0, Bool.and_eq_true]
    exact ⟨h x List.mem_cons_self, ih fun y hy => h y (List.mem_cons_of_mem x hy)⟩
theorem depthS (xs : List Str) : PyData.depthAll (xs.map .str) = 0 := by
  induction xs with
  | nil => rfl
  | cons x r ih =>
    simp only [List.map_cons, PyData.depthAll, PyData.depth, ih]
    rfl
theorem shLS {xs : List Str} (h : ∀ x ∈ xs, PyData.strOk x = true) : SeqAt.shaped (.list (xs.map .str)) = true := by
  unfold SeqAt.shaped
  simp only [PyData.canLay0, layS h, PyData.depth, depthS, Bool.true_and]
  decide
def lawCalled (d : PyData) : Bool := match d with
  | .str z => (decide (1 ≤ (z.length : Int)) && decide ((z.length : Int) ≤ 8)) && (!anyIn (.str z) noNames && z.cps.toList.all lowSign)
  | _ => false
theorem called_name (d : PyData) : lawCalled d = isName d := by
  cases d with
  | str z =>
    have e : (fun c => inStr ⟨#[c]⟩ lettersZ) = lowSign := funext low_in
    show _ = (_ && (_ && z.cps.toList.all fun c => inStr ⟨#[c]⟩ lettersZ))
    rw [e]
    rfl
  | _ => rfl
def spCalled : DSp := fun xs M P _ => ∃ d, xs = [.dat d] ∧ fitT d ∧ P (.dat (.bool (isName d))) M
theorem filt_nil {α : Type} (l : List α) (p : α → Bool) : (l.filter fun c => !p c).isEmpty = l.all p := by
  induction l with
  | nil => rfl
  | cons x r ih =>
    rw [List.filter_cons, List.all_cons]
    cases h : p x
    · simp
    · simp [ih]
theorem signOk {z : Str} (h : PyData.strOk z = true) {c : Nat} (hc : c ∈ z.cps.toList) : PyData.strOk ⟨#[c]⟩ = true := by
  unfold PyData.strOk at h ⊢
  rw [Array.all_eq_true'] at h
  have := h c (by simpa using hc)
  simpa using this
theorem ok__law_called (T : Facts K mg w) : GOk P w K mg base CX0 1 "_law_called" ["thing"] spCalled := by
  obtain ⟨f, fd, D⟩ := T.d__law_called
  refine gok_of D sc__law_called ?_ fun cdv A out s H E hr hgd => ?_
  · rintro xs M P R ⟨d, rfl, h⟩
    rfl
  have hu := Room.units hr
  have hu66 : (A.deeper (envOfC "_law_called" (defScope s__law_called) s.heap.objs.size f cdv)).units + 66 < cLine := by
    have := hr.un
    omega
  refine ⟨_, (dss_cons (ds_if (dt_bool (dw_or (dt_not (dt_val (de_isi kit_str (by rfl) T.m_isinstance (by rfl) T.m_str boot_t_str (de_var (pv 0))))) (dw_or (dt_not (dt_chain do_le do_le de_int (de_len (by rfl) T.m_len (de_var (pv 0))) de_int)) (dw_or1 (dt_cmp do_in (de_var (pv 0)) (de_tup (da_cons de_str (da_cons de_str (da_cons de_str da_nil)))) (by rfl))))))
      (dss_one (ds_ret de_bl))
      dss_nil)
    (dss_one (ds_ret (de_cmp (do_eqM hu) (de_lc (own := [("sign", 1)]) rfl sc__law_called.nd (di_S (de_var (pv 0))) (blkOk_by (own := [("sign", 1)]) (N := N__law_called) (sc := defScope s__law_called) (by decide +kernel)) (ct_name (i := 1)) (fun _ _ _ _ _ => pg_name (i := 1) sc__law_called.nd rfl (Or.inl rfl)) (fun _ _ _ _ _ => pts_one (dt_not (dt_chain do_le do_le de_str (de_var (pv 1)) de_str))) (fun _ _ _ _ _ => (de_var (pv 1)))) (de_lst da_nil) (by rfl))))), ?_⟩
  rintro xs M P R ⟨d, rfl, ft, h⟩
  rw [← called_name] at h
  cases d with
  | str z =>
    have hz : z.length ≤ sizeLine := Nat.le_trans ft.1 (by decide)
    simp only [lawCalled] at h
    trivial
    rw [if_pos hz]
    trivial
    refine ifB (fun e1 => ifB (fun e2 => ?_) fun e2 => ?_) fun e1 => ?_
    · have e2' : decide ((z.length : Int) ≤ 8) = false := by simpa using e2
      simpa only [e1, e2', Bool.false_and, Bool.and_false] using h
    · refine ifB (fun e3 => ?_) fun e3 => ?_
      · have e3' : anyIn (.str z) noNames = true := by simpa [noNames] using e3
        simpa only [e3', Bool.not_true, Bool.false_and, Bool.and_false] using h
      · have e2' : decide ((z.length : Int) ≤ 8) = true := by simpa using e2
        have e3' : anyIn (.str z) noNames = false := by simpa [noNames] using e3
        rw [e1, e2', e3'] at h
        refine g_lc (fun c => [some (.dat (.str z)), some (.dat (.str ⟨#[c]⟩))]) (fun c => !lowSign c) (fun c => .str ⟨#[c]⟩) (fun c => .dat (.str ⟨#[c]⟩)) z.cps.toList (fun Pk q => ⟨_, rfl, q⟩) hz (fun c _ => ⟨rfl, fun M P R q => ?_, fun _ M P R q => ?_⟩) ?_
        · trivial
          rw [← low_cmp] at q
          refine ifB (fun e => ?_) fun e => ?_
          · rw [e, Bool.true_and] at q
            exact q
          · rw [e, Bool.false_and] at q
            exact q
        · trivial
          exact q
        · trivial
          have em : ((z.cps.toList.filter fun c => !lowSign c).map fun c => PyData.str ⟨#[c]⟩) = ((z.cps.toList.filter fun c => !lowSign c).map fun c => (⟨#[c]⟩ : Str)).map .str := by
            rw [List.map_map]
            rfl
          refine ⟨?_, shL0, ?_⟩
          · rw [em]
            refine shLS fun x hx => ?_
            obtain ⟨c, hc, rfl⟩ := List.mem_map.mp hx
            exact signOk ft.2 (List.mem_filter.mp hc).1
          · rw [eqv_nil, List.isEmpty_map, filt_nil]
            simpa using h
    · simpa only [e1, Bool.false_and] using h
  | _ =>
    trivial
    exact h

end
end K13
end
section
set_option Elab.async false
set_option linter.all false
set_option maxRecDepth 100000
set_option maxHeartbeats 400000
namespace K13
open PySem PySem.Spec L2 DL DX
open PyProof.Rows hiding St
local macro_rules | `(tactic| trivial) => `(tactic| simp only [DL.wSeq, DL.wNext, DL.wRet, DL.wDrop, DL.wIf, DL.wSet, DL.wC, DL.wVar, DL.wOp, DL.wAnd, DL.wOr, DL.wNot, DL.wB, DL.wAndV, DL.wOrV, DL.wNotV, DL.wIfE, DL.wChain, DL.wIsi, DL.wUn, DL.wLen, DL.wCall, DL.wNil, DL.wCons, DL.wTup, DL.wLst, DL.wLstM, DL.wNeg, DL.isT, String.reduceBEq, Bool.or_false, Bool.false_or, Bool.or_true, Bool.true_or, Bool.or_self, Bool.and_self, DL.wGt, DL.wGe, DL.dstart, List.map_cons, List.map_nil, List.length_cons, List.length_nil, List.cons_append, List.nil_append, List.getElem?_cons_zero, List.getElem?_cons_succ, Option.some.injEq, exists_eq_left', exists_eq_left, List.set_cons_zero, List.set_cons_succ, decide_true, decide_false, Bool.true_and, Bool.and_true, Bool.false_and, Bool.and_false, true_and, Bool.not_true, Bool.not_false, if_true, if_false, reduceIte, Bool.false_eq_true, bne_self_eq_false, DL.bne_f, DL.bne_t, List.getElem?_nil, Nat.reduceAdd, Nat.reduceSub, List.replicate_succ, List.replicate_zero, DL.q_onO, DL.q_onO0, DL.q_onB, DL.q_onI, DL.q_onS, DL.q_onL, DL.q_ty, DL.q_tyT, DL.q_ty0, DL.q_ty1, DL.q_ty2, DL.q_ty3, DL.q_ty4, DL.q_ty5, DL.q_ty6, DL.q_lenT, DL.q_lenL, DL.q_lenS, DL.q_ixT, DL.q_ixL, DL.q_ixA, DL.q_leI, DL.q_leS, DL.q_ltI, DL.q_ltS, DL.q_I0, DL.q_II, DL.q_sub, DL.q_addI, DL.q_addS, DL.q_addT, DL.q_addL, DL.q_mulI, DL.q_mulS, DL.q_none, DL.q_noneR, DL.q_is, DL.q_isB, DL.q_inT, DL.q_inL, DL.q_inS, DL.q_inM, DL.q_eq, DL.q_rd, DL.q_ord, DL.q_ix, DL.q_tup, DL.q_tup0, DL.q_tup1, DL.q_tup2, DL.q_tup3, DL.q_eqI, DL.q_eqS, DL.q_shI, DL.q_flI, DL.q_flS, DL.q_flN, DL.q_flB, DL.q_at0, DL.q_at1, DL.q_at2, DL.q_partsT, DL.iT, DL.iS, DL.iL, DL.wAsg, DL.q_star, DL.q_gN, DL.wInTab, DL.wTab, DL.q_onDs, DL.q_dats0, DL.q_datsc, DL.q_sz0, DL.q_sz1, DL.q_sz2, DL.q_sz3, DL.q_sz4, DL.q_sz5, DL.q_sz6, DL.q_sz7, DL.q_sz11, DL.q_sz12, DL.q_keyS, DL.q_getD, DL.q_dct, DL.wInD, DL.wIxD, DL.q_ixU, DL.q_onMU, DL.q_lenU, DL.q_um, DL.q_n30, DL.q_n31, DL.q_n32, DL.q_max, DL.gIx, DL.q_map, DL.q_all0, DL.q_allc])
section
variable {P : Program} {w : World} {K : PySem.W.Frag} {mg : Str → Option Value} {base : Heap} {k : Nat}
def niceT (d : PyData) : Prop := match d with
  | .str z => z.cps.toList.all okSign = true
  | _ => True
def fitP (d : PyData) : Prop := fitT d ∧ niceT d ∧ ∀ a b, d = .tuple [a, b] → flatD a = true ∧ fitT a
/-- what the law may look at as a worth -/
def fitL : Nat → PyData → Prop
  | 0, d => fitP d
  | n + 1, d => fitP d ∧ ∀ a ps, d = .tuple [a, .tuple ps] → ps.length ≤ 10000 ∧ ∀ p ∈ ps, fitL n p ∧ p.canLay0 = true ∧ p.depth ≤ 60
theorem fitL.p : ∀ {n : Nat} {d : PyData}, fitL n d → fitP d
  | 0, _, h => h
  | _ + 1, _, h => h.1
def spWorthy (n : Nat) : DSp := fun xs M P _ => ∃ d, xs = [.dat d, .dat (.int (n : Nat))] ∧ fitL n d ∧ P (.dat (.bool (worthIn n d))) M
theorem worth_np {d : PyData} (h : plainW d = false) : ∀ n, worthIn n d = (match n with
    | 0 => false
    | m + 1 => isPair d "row" && rowW (worthIn m) d)
  | 0 => h
  | m + 1 => by
    show (plainW d || _) = _
    rw [h, Bool.false_or]
theorem worth_flat {d : PyData} (h : ∀ ds, d ≠ .tuple ds) (n : Nat) : worthIn n d = plainW d := by
  cases n with
  | zero => rfl
  | succ m =>
    show (plainW d || _) = _
    have : isPair d "row" = false := by
      cases d with
      | tuple ds => exact (h ds rfl).elim
      | _ => rfl
    rw [this, Bool.false_and, Bool.or_false]
theorem depth_of_mem {ps : List PyData} {k : Nat} (h : ∀ p ∈ ps, p.depth ≤ k) : PyData.depthAll ps ≤ k := by
  induction ps with
  | nil => exact Nat.zero_le _
  | cons p r ih =>
    simp only [PyData.depthAll]
    exact Nat.max_le.mpr ⟨h p List.mem_cons_self, ih fun x hx => h x (List.mem_cons_of_mem p hx)⟩
theorem lay_of_mem {ps : List PyData} (h : ∀ p ∈ ps, p.canLay0 = true) : PyData.canLayAll0 ps = true := by
  induction ps with
  | nil => rfl
  | cons p r ih =>
    simp only [PyData.canLayAll0, Bool.and_eq_true]
    exact ⟨h p List.mem_cons_self, ih fun x hx => h x (List.mem_cons_of_mem p hx)⟩
theorem shL {ps : List PyData} (h : ∀ p ∈ ps, p.canLay0 = true ∧ p.depth ≤ 60) : SeqAt.shaped (.list ps) = true := by
  have h1 := depth_of_mem (k := 60) fun p hp => (h p hp).2
  have h2 := lay_of_mem fun p hp => (h p hp).1
  unfold SeqAt.shaped
  simp only [PyData.canLay0, PyData.depth, h2, Bool.true_and]
  exact decide_eq_true (by omega)
theorem ok__law_worthy (T : Facts K mg w) : ∀ n : Nat, GOk P w K mg base CX0 (n + 1) "_law_worthy" ["thing", "deep"] (spWorthy n) := by
  have step : ∀ (n : Nat) (sp : DSp), GOk P w K mg base CX0 n "_law_worthy" ["thing", "deep"] sp → (∀ (m : Nat), n = m + 1 → sp = spWorthy m) → GOk P w K mg base CX0 (n + 1) "_law_worthy" ["thing", "deep"] (spWorthy n) := by
    intro n sp G__law_worthy hsp
    obtain ⟨f, fd, D⟩ := T.d__law_worthy
    refine gok_of D sc__law_worthy ?_ fun cdv A out s H E hr hgd => ?_
    · rintro xs M P R ⟨d, rfl, h⟩
      rfl
    have hu := Room.units hr
    have hu66 : (A.deeper (envOfC "_law_worthy" (defScope s__law_worthy) s.heap.objs.size f cdv)).units + 66 < cLine := by
      have := hr.un
      omega
    refine ⟨_, (dss_cons (ds_if (dt_bool (dw_or (dt_cmp do_is (de_var (pv 0)) de_non (by rfl)) (dw_or1 (dt_val (de_isi kit_int (by rfl) T.m_isinstance (by rfl) T.m_int boot_t_int (de_var (pv 0)))))))
        (dss_one (ds_ret (de_or (de_cmp do_is (de_var (pv 0)) de_non (by rfl)) (de_one (de_and (de_not (de_isi kit_bool (by rfl) T.m_isinstance (by rfl) T.m_bool boot_t_bool (de_var (pv 0)))) (de_one (de_chain do_le do_le (de_op do_sub de_int (de_op do_pow de_int de_int)) (de_var (pv 0)) (de_op do_pow de_int de_int))))))))
        dss_nil)
      (dss_cons (ds_if (dt_val (de_isi kit_str (by rfl) T.m_isinstance (by rfl) T.m_str boot_t_str (de_var (pv 0))))
        (dss_one (ds_ret (de_cmp do_le (de_len (by rfl) T.m_len (de_var (pv 0))) de_int (by rfl))))
        dss_nil)
      (dss_cons (ds_if (dt_bool (dw_or (dt_not (dt_val (de_isi kit_tuple (by rfl) T.m_isinstance (by rfl) T.m_tuple boot_t_tuple (de_var (pv 0))))) (dw_or (dt_cmp (do_neM hu) (de_len (by rfl) T.m_len (de_var (pv 0))) de_int (by rfl)) (dw_or1 (dt_cmp do_notIn (de_ix (de_var (pv 0)) de_int (fun _ _ => rfl)) (de_tup (da_cons de_str (da_cons de_str da_nil))) (by rfl))))))
        (dss_one (ds_ret de_bl))
        dss_nil)
      (dss_cons (ds_if (dt_cmp (do_eqM hu) (de_ix (de_var (pv 0)) de_int (fun _ _ => rfl)) de_str (by rfl))
        (dss_one (ds_ret (de_and (de_isi kit_int (by rfl) T.m_isinstance (by rfl) T.m_int boot_t_int (de_ix (de_var (pv 0)) de_int (fun _ _ => rfl))) (de_and (de_not (de_isi kit_bool (by rfl) T.m_isinstance (by rfl) T.m_bool boot_t_bool (de_ix (de_var (pv 0)) de_int (fun _ _ => rfl)))) (de_one (de_chain do_le do_le de_int (de_ix (de_var (pv 0)) de_int (fun _ _ => rfl)) de_int))))))
        dss_nil)
      (dss_cons (ds_if (dt_bool (dw_or (dt_cmp (do_eqM hu) (de_var (pv 1)) de_int (by rfl)) (dw_or (dt_not (dt_val (de_isi kit_tuple (by rfl) T.m_isinstance (by rfl) T.m_tuple boot_t_tuple (de_ix (de_var (pv 0)) de_int (fun _ _ => rfl))))) (dw_or1 (dt_cmp do_gt (de_len (by rfl) T.m_len (de_ix (de_var (pv 0)) de_int (fun _ _ => rfl))) de_int (by rfl))))))
        (dss_one (ds_ret de_bl))
        dss_nil)
      (dss_one (ds_ret (de_cmp (do_eqM hu) (de_lc (own := [("part", 2)]) rfl sc__law_worthy.nd (di_T (de_ix (de_var (pv 0)) de_int (fun _ _ => rfl))) (blkOk_by (own := [("part", 2)]) (N := N__law_worthy) (sc := defScope s__law_worthy) (by decide +kernel)) (ct_name (i := 2)) (fun _ _ _ _ _ => pg_name (i := 2) sc__law_worthy.nd rfl (Or.inl rfl)) (fun _ _ _ _ _ => pts_one (dt_not (dt_val (de_call G__law_worthy (hr.mono (by omega)) hgd (by rfl) pat0 (da_cons (de_var (pv 2)) (da_cons (de_op do_sub (de_var (pv 1)) de_int) da_nil)))))) (fun _ _ _ _ _ => (de_var (pv 2)))) (de_lst da_nil) (by rfl))))))))), ?_⟩
    rintro xs M P R ⟨d, rfl, ft, h⟩
    have cp : CPow 10 9 := by unfold CPow; decide
    have p9 : (10 : Int) ^ Int.toNat 9 = 1000000000 := by decide
    cases d with
    | tuple ds =>
      trivial
      refine ifF rfl ?_
      match ds, ft, h with
      | [], ft, h => exact ifT rfl (by rw [worth_np rfl] at h; cases n <;> exact h)
      | [_], ft, h => exact ifT rfl (by rw [worth_np rfl] at h; cases n <;> exact h)
      | x :: y :: z :: r, ft, h =>
        refine ifT ?_ (by rw [worth_np rfl] at h; cases n <;> exact h)
        simp only [List.length_cons]
        have : decide ((((r.length + 1 + 1 + 1 : Nat)) : Int) = 2) = false := decide_eq_false (by omega)
        rw [this]
        rfl
      | [a, b], ft, h =>
        obtain ⟨ft1, ft2, ft3⟩ := ft.p
        obtain ⟨fa, fta⟩ := ft3 a b rfl
        refine ifF rfl ?_
        trivial
        refine ⟨fa, ?_⟩
        cases a with
        | str z =>
          have e1 : anyIn (.str z) [.str "thing", .str "row"] = (decide (z = "thing") || decide (z = "row")) := by
            unfold anyIn
            simp only [List.any_cons, List.any_nil, q_eqS, Bool.or_false]
            rw [show (decide (("thing" : Str) = z)) = decide (z = "thing") from by simp [eq_comm], show (decide (("row" : Str) = z)) = decide (z = "row") from by simp [eq_comm]]
          rw [e1]
          by_cases t1 : z = "thing"
          · subst t1
            refine ifF rfl ?_
            trivial
            refine ⟨shS (by decide +kernel), shS (by decide +kernel), ?_⟩
            have hw : worthIn n (.tuple [.str "thing", b]) = isWhole b 0 999 := by
              have e3 : plainW (.tuple [.str "thing", b]) = isWhole b 0 999 := by
                show (false || (false || (false || (decide (("thing" : Str) = "thing") && isWhole b 0 999)))) = _
                simp
              have e4 : isPair (.tuple [.str "thing", b]) "row" = false := by
                show decide (("thing" : Str) = "row") = false
                decide +kernel
              cases n with
              | zero => exact e3
              | succ m =>
                show (plainW _ || (isPair _ _ && _)) = _
                rw [e3, e4, Bool.false_and, Bool.or_false]
            rw [hw] at h
            cases b with
            | int i =>
              trivial
              refine ifB (fun e => ?_) fun e => ?_
              · simpa only [isWhole, e, Bool.true_and] using h
              · simpa only [isWhole, e, Bool.false_and] using h
            | bool c =>
              trivial
              exact h
            | _ =>
              trivial
              exact h
          · by_cases t2 : z = "row"
            · subst t2
              refine ifF (by decide +kernel) ?_
              trivial
              refine ⟨shS (by decide +kernel), shS (by decide +kernel), ifF (by decide +kernel) ?_⟩
              have np : plainW (.tuple [.str "row", b]) = false := by
                show (false || (false || (false || (decide (("row" : Str) = "thing") && isWhole b 0 999)))) = _
                have : decide (("row" : Str) = "thing") = false := by decide +kernel
                rw [this]
                rfl
              rw [worth_np np] at h
              cases n with
              | zero => exact ifT rfl h
              | succ m =>
                have es := hsp m rfl
                subst es
                refine ifF (decide_eq_false (by omega)) ?_
                have er : isPair (.tuple [.str "row", b]) "row" = true := by
                  show decide (("row" : Str) = "row") = true
                  decide +kernel
                simp only [er, Bool.true_and] at h
                cases b with
                | tuple ps =>
                  trivial
                  obtain ⟨l1, l2⟩ := ft.2 _ ps rfl
                  refine ifB (fun e6 => ?_) fun e6 => ?_
                  · have e7 : decide ((ps.length : Int) ≤ 30) = false := decide_eq_false (by have := of_decide_eq_true e6; omega)
                    simpa only [rowW, e7, Bool.false_and] using h
                  · have e7 : decide ((ps.length : Int) ≤ 30) = true := decide_eq_true (by have := of_decide_eq_false e6; omega)
                    simp only [rowW, e7, Bool.true_and] at h
                    refine g_lc (fun p => [_, _, some (.dat p)]) (fun p => !worthIn m p) (fun p => p) .dat ps (fun Pk q => ?_) (Nat.le_trans l1 (by decide)) (fun p hp' => ⟨rfl, fun M P R q => ?_, fun _ M P R q => ?_⟩) ?_
                    · trivial
                      exact q
                    · trivial
                      refine ⟨p, ?_, (l2 p hp').1, ?_⟩
                      · rw [show ((m + 1 : Nat) : Int) - 1 = (m : Nat) by omega]
                      · trivial
                        exact q
                    · trivial
                      exact q
                    · trivial
                      rw [List.map_id']
                      refine ⟨shL fun p hp' => (l2 p (List.mem_filter.mp hp').1).2, shL0, ?_⟩
                      rw [eqv_nil, filt_nil]
                      exact h
                | _ =>
                  trivial
                  exact h
            · refine ifT (by simp [t1, t2]) ?_
              have np : plainW (.tuple [.str z, b]) = false := by
                show (false || (false || (false || (decide (z = "thing") && isWhole b 0 999)))) = _
                simp [t1]
              rw [worth_np np] at h
              cases n with
              | zero => exact h
              | succ m =>
                have er : isPair (.tuple [.str z, b]) "row" = false := decide_eq_false t2
                simpa only [er, Bool.false_and] using h
        | none => exact ifT rfl (by rw [worth_np rfl] at h; cases n <;> exact h)
        | bool _ => exact ifT rfl (by rw [worth_np rfl] at h; cases n <;> exact h)
        | int _ => exact ifT rfl (by rw [worth_np rfl] at h; cases n <;> exact h)
        | list _ => cases fa
        | tuple _ => cases fa
        | dict _ => cases fa
    | none =>
      rw [worth_flat (by intro ds e; cases e)] at h
      trivial
      exact ifT rfl (ifT rfl h)
    | bool b =>
      rw [worth_flat (by intro ds e; cases e)] at h
      trivial
      exact ifF rfl (ifF rfl h)
    | int i =>
      rw [worth_flat (by intro ds e; cases e)] at h
      have e1 : plainW (.int i) = isWhole (.int i) (-1000000000) 1000000000 := by simp [plainW, isNone, isText, isThing, isPair]
      rw [e1] at h
      trivial
      rw [p9]
      refine ifF rfl (ifF rfl ⟨cp, ifB (fun e => ⟨cp, ?_⟩) fun e => ?_⟩)
      · have e2 : decide (-1000000000 ≤ i) = true := e
        simpa only [isWhole, e2, Bool.true_and] using h
      · have e2 : decide (-1000000000 ≤ i) = false := e
        simpa only [isWhole, e2, Bool.false_and] using h
    | str z =>
      rw [worth_flat (by intro ds e; cases e)] at h
      have e1 : plainW (.str z) = isText (.str z) := by simp [plainW, isNone, isWhole, isThing, isPair]
      rw [e1] at h
      have nz : z.cps.toList.all okSign = true := ft.p.2.1
      have hz : z.length ≤ sizeLine := Nat.le_trans ft.p.1.1 (by decide)
      trivial
      refine ifF rfl ?_
      rw [if_pos hz]
      trivial
      simpa only [isText, nz, Bool.and_true] using h
    | list _ =>
      rw [worth_flat (by intro ds e; cases e)] at h
      trivial
      exact ifF rfl h
    | dict _ =>
      rw [worth_flat (by intro ds e; cases e)] at h
      trivial
      exact ifF rfl h
  intro n
  induction n with
  | zero =>
    obtain ⟨f, fd, D⟩ := T.d__law_worthy
    exact step 0 _ (gok_no D) fun m e => by omega
  | succ n ih =>
    refine step (n + 1) _ ih fun m e => ?_
    cases e
    rfl

end
end K13
end
section
set_option Elab.async false
set_option linter.all false
set_option maxRecDepth 100000
set_option maxHeartbeats 400000
namespace K13
open PySem PySem.Spec L2 DL DX
open PyProof.Rows hiding St
local macro_rules | `(tactic| trivial) => `(tactic| simp only [DL.wSeq, DL.wNext, DL.wRet, DL.wDrop, DL.wIf, DL.wSet, DL.wC, DL.wVar, DL.wOp, DL.wAnd, DL.wOr, DL.wNot, DL.wB, DL.wAndV, DL.wOrV, DL.wNotV, DL.wIfE, DL.wChain, DL.wIsi, DL.wUn, DL.wLen, DL.wCall, DL.wNil, DL.wCons, DL.wTup, DL.wLst, DL.wLstM, DL.wNeg, DL.isT, String.reduceBEq, Bool.or_false, Bool.false_or, Bool.or_true, Bool.true_or, Bool.or_self, Bool.and_self, DL.wGt, DL.wGe, DL.dstart, List.map_cons, List.map_nil, List.length_cons, List.length_nil, List.cons_append, List.nil_append, List.getElem?_cons_zero, List.getElem?_cons_succ, Option.some.injEq, exists_eq_left', exists_eq_left, List.set_cons_zero, List.set_cons_succ, decide_true, decide_false, Bool.true_and, Bool.and_true, Bool.false_and, Bool.and_false, true_and, Bool.not_true, Bool.not_false, if_true, if_false, reduceIte, Bool.false_eq_true, bne_self_eq_false, DL.bne_f, DL.bne_t, List.getElem?_nil, Nat.reduceAdd, Nat.reduceSub, List.replicate_succ, List.replicate_zero, DL.q_onO, DL.q_onO0, DL.q_onB, DL.q_onI, DL.q_onS, DL.q_onL, DL.q_ty, DL.q_tyT, DL.q_ty0, DL.q_ty1, DL.q_ty2, DL.q_ty3, DL.q_ty4, DL.q_ty5, DL.q_ty6, DL.q_lenT, DL.q_lenL, DL.q_lenS, DL.q_ixT, DL.q_ixL, DL.q_ixA, DL.q_leI, DL.q_leS, DL.q_ltI, DL.q_ltS, DL.q_I0, DL.q_II, DL.q_sub, DL.q_addI, DL.q_addS, DL.q_addT, DL.q_addL, DL.q_mulI, DL.q_mulS, DL.q_none, DL.q_noneR, DL.q_is, DL.q_isB, DL.q_inT, DL.q_inL, DL.q_inS, DL.q_inM, DL.q_eq, DL.q_rd, DL.q_ord, DL.q_ix, DL.q_tup, DL.q_tup0, DL.q_tup1, DL.q_tup2, DL.q_tup3, DL.q_eqI, DL.q_eqS, DL.q_shI, DL.q_flI, DL.q_flS, DL.q_flN, DL.q_flB, DL.q_at0, DL.q_at1, DL.q_at2, DL.q_partsT, DL.iT, DL.iS, DL.iL, DL.wAsg, DL.q_star, DL.q_gN, DL.wInTab, DL.wTab, DL.q_onDs, DL.q_dats0, DL.q_datsc, DL.q_sz0, DL.q_sz1, DL.q_sz2, DL.q_sz3, DL.q_sz4, DL.q_sz5, DL.q_sz6, DL.q_sz7, DL.q_sz11, DL.q_sz12, DL.q_keyS, DL.q_getD, DL.q_dct, DL.wInD, DL.wIxD, DL.q_ixU, DL.q_onMU, DL.q_lenU, DL.q_um, DL.q_n30, DL.q_n31, DL.q_n32, DL.q_max, DL.gIx, DL.q_map, DL.q_all0, DL.q_allc])
section
variable {P : Program} {w : World} {K : PySem.W.Frag} {mg : Str → Option Value} {base : Heap} {k : Nat}
def fitRL (d : PyData) : Prop := match d with
  | .tuple ds => (match ds with
    | [] => True
    | a :: ps => (match a with
      | .str z => ps.length ≤ 9999 ∧ PyData.strOk z = true ∧ (∀ p ∈ ps, fitT p) ∧ (z = "give" → ∀ p ∈ ps, fitL 4 p)
      | _ => True))
  | _ => True
def spRuleG : DSp := fun xs M P _ => ∃ d, xs = [.dat d] ∧ fitRL d ∧ P (.dat (.bool (isRule d))) M
theorem ok__law_rule_good (T : Facts K mg w) : GOk P w K mg base CX0 6 "_law_rule_good" ["rule"] spRuleG := by
  have G__law_called := ok__law_called (P := P) (base := base) T
  have G__law_worthy := ok__law_worthy (P := P) (base := base) T 4
  obtain ⟨f, fd, D⟩ := T.d__law_rule_good
  refine gok_of D sc__law_rule_good ?_ fun cdv A out s H E hr hgd => ?_
  · rintro xs M P R ⟨d, rfl, h⟩
    rfl
  have hu := Room.units hr
  have hu66 : (A.deeper (envOfC "_law_rule_good" (defScope s__law_rule_good) s.heap.objs.size f cdv)).units + 66 < cLine := by
    have := hr.un
    omega
  refine ⟨_, (dss_cons (ds_setP (ps_set (i := 1) sc__law_rule_good.nd rfl (Or.inl rfl) (de_dct (ds := [((.str "hide"), (.int 2)), ((.str "bar"), (.int 2)), ((.str "as"), (.int 3)), ((.str "give"), (.int 3)), ((.str "count"), (.int 2))]) (dps_cons de_str de_int (dps_cons de_str de_int (dps_cons de_str de_int (dps_cons de_str de_int (dps_cons de_str de_int dps_nil))))))))
    (dss_cons (ds_if (dt_bool (dw_or (dt_not (dt_val (de_isi kit_tuple (by rfl) T.m_isinstance (by rfl) T.m_tuple boot_t_tuple (de_var (pv 0))))) (dw_or (dt_cmp (do_eqM hu) (de_len (by rfl) T.m_len (de_var (pv 0))) de_int (by rfl)) (dw_or (dt_not (dt_val (de_isi kit_str (by rfl) T.m_isinstance (by rfl) T.m_str boot_t_str (de_ix (de_var (pv 0)) de_int (fun _ _ => rfl))))) (dw_or1 (dt_notInD hu (de_ix (de_var (pv 0)) de_int (fun _ _ => rfl)) (de_var (pv 1)) (by rfl)))))))
      (dss_one (ds_ret de_bl))
      dss_nil)
    (dss_cons (ds_if (dt_bool (dw_or (dt_cmp (do_neM hu) (de_len (by rfl) T.m_len (de_var (pv 0))) (de_ixD hu (de_var (pv 1)) (de_ix (de_var (pv 0)) de_int (fun _ _ => rfl)) (fun _ _ => rfl)) (by rfl)) (dw_or1 (dt_not (dt_val (de_call G__law_called (hr.mono (by omega)) hgd (by rfl) pat0 (da_cons (de_ix (de_var (pv 0)) de_int (fun _ _ => rfl)) da_nil)))))))
      (dss_one (ds_ret de_bl))
      dss_nil)
    (dss_cons (ds_if (dt_cmp (do_eqM hu) (de_ix (de_var (pv 0)) de_int (fun _ _ => rfl)) de_str (by rfl))
      (dss_one (ds_ret (de_call G__law_called (hr.mono (by omega)) hgd (by rfl) pat0 (da_cons (de_ix (de_var (pv 0)) de_int (fun _ _ => rfl)) da_nil))))
      dss_nil)
    (dss_one (ds_ret (de_or (de_cmp (do_neM hu) (de_ix (de_var (pv 0)) de_int (fun _ _ => rfl)) de_str (by rfl)) (de_one (de_call G__law_worthy (hr.mono (by omega)) hgd (by rfl) pat0 (da_cons (de_ix (de_var (pv 0)) de_int (fun _ _ => rfl)) (da_cons de_int da_nil))))))))))), ?_⟩
  rintro xs M P R ⟨d, rfl, ft, h⟩
  have dl : ∀ z : Str, dGet [(.str "hide", .int 2), (.str "bar", .int 2), (.str "as", .int 3), (.str "give", .int 3), (.str "count", .int 2)] (.inr z) = tabGet lens z := fun z => dGet_tab lens z
  cases d with
  | tuple ds =>
    cases ds with
    | nil =>
      trivial
      exact h
    | cons a ps =>
      trivial
      refine ifF (decide_eq_false (by omega)) ?_
      cases a with
      | str wd =>
        trivial
        rw [dl]
        have hb : isRule (.tuple (.str wd :: ps)) = ruleB wd ps := rfl
        rw [hb] at h
        have ew := ft.2.1
        cases et : tabGet lens wd with
        | none =>
          refine ifT rfl ?_
          simpa only [ruleB, et, Option.isSome_none, Bool.false_and] using h
        | some d =>
          obtain ⟨ed, l2, l3⟩ := lens_some et
          subst ed
          refine ifF rfl ?_
          trivial
          have hr2 : ruleB wd ps = (decide ((ps.length : Int) + 1 = lenOf wd) && restB wd ps) := by
            unfold ruleB
            rw [et]
            rfl
          rw [hr2] at h
          refine ifB (fun e1 => ?_) fun e1 => ?_
          · have e2 : decide ((ps.length : Int) + 1 = lenOf wd) = false := decide_eq_false (by simpa using e1)
            rw [e2, Bool.false_and] at h
            exact h
          · have e3 : (ps.length : Int) + 1 = lenOf wd := by simpa using e1
            rw [decide_eq_true e3, Bool.true_and] at h
            cases ps with
            | cons p qs =>
              trivial
              have fp := ft.2.2.1 p (by simp)
              refine ⟨p, rfl, fp, ?_⟩
              trivial
              refine ifB (fun e4 => ?_) fun e4 => ?_
              · have e5 : isName p = false := by simpa using e4
                simpa only [restB, e5, Bool.false_and] using h
              · have e5 : isName p = true := by simpa using e4
                simp only [restB, e5, Bool.true_and] at h
                refine ⟨shS ew, shS (by decide +kernel), ifB (fun e6 => ?_) fun e6 => ⟨shS ew, shS (by decide +kernel), ifB (fun e7 => ?_) fun e7 => ?_⟩⟩
                · have e8 := l3 (.inl (of_decide_eq_true e6))
                  cases qs with
                  | cons q rs =>
                    trivial
                    refine ⟨q, rfl, ft.2.2.1 q (by simp), ?_⟩
                    simpa only [tailB, e6, if_true] using h
                  | nil =>
                    simp only [List.length_cons, List.length_nil] at e3
                    omega
                · have e9 : decide (wd = "give") = false := by simpa using e7
                  cases qs with
                  | nil => simpa only [tailB, e6, e9, Bool.not_false, Bool.and_true] using h
                  | cons q rs => simpa only [tailB, e6, e9, Bool.not_false, Bool.true_or, Bool.false_eq_true, if_false] using h
                · have e9 : decide (wd = "give") = true := by simpa using e7
                  have e8 := l3 (.inr (of_decide_eq_true e9))
                  cases qs with
                  | cons q rs =>
                    trivial
                    refine ⟨q, rfl, ft.2.2.2 (of_decide_eq_true e9) q (by simp), ?_⟩
                    show P (.dat (.bool (isWorth q))) M
                    simpa only [tailB, e6, e9, Bool.not_true, Bool.false_or, Bool.false_eq_true, if_false] using h
                  | nil =>
                    simp only [List.length_cons, List.length_nil] at e3
                    omega
            | nil =>
              simp only [List.length_nil] at e3
              omega
      | _ =>
        trivial
        exact h
  | _ =>
    trivial
    exact h

end
end K13
end
section
set_option Elab.async false
set_option linter.all false
set_option maxRecDepth 100000
set_option maxHeartbeats 400000
namespace K13
open PySem PySem.Spec L2 DL DX
open PyProof.Rows hiding St
local macro_rules | `(tactic| trivial) => `(tactic| simp only [DL.wSeq, DL.wNext, DL.wRet, DL.wDrop, DL.wIf, DL.wSet, DL.wC, DL.wVar, DL.wOp, DL.wAnd, DL.wOr, DL.wNot, DL.wB, DL.wAndV, DL.wOrV, DL.wNotV, DL.wIfE, DL.wChain, DL.wIsi, DL.wUn, DL.wLen, DL.wCall, DL.wNil, DL.wCons, DL.wTup, DL.wLst, DL.wLstM, DL.wNeg, DL.isT, String.reduceBEq, Bool.or_false, Bool.false_or, Bool.or_true, Bool.true_or, Bool.or_self, Bool.and_self, DL.wGt, DL.wGe, DL.dstart, List.map_cons, List.map_nil, List.length_cons, List.length_nil, List.cons_append, List.nil_append, List.getElem?_cons_zero, List.getElem?_cons_succ, Option.some.injEq, exists_eq_left', exists_eq_left, List.set_cons_zero, List.set_cons_succ, decide_true, decide_false, Bool.true_and, Bool.and_true, Bool.false_and, Bool.and_false, true_and, Bool.not_true, Bool.not_false, if_true, if_false, reduceIte, Bool.false_eq_true, bne_self_eq_false, DL.bne_f, DL.bne_t, List.getElem?_nil, Nat.reduceAdd, Nat.reduceSub, List.replicate_succ, List.replicate_zero, DL.q_onO, DL.q_onO0, DL.q_onB, DL.q_onI, DL.q_onS, DL.q_onL, DL.q_ty, DL.q_tyT, DL.q_ty0, DL.q_ty1, DL.q_ty2, DL.q_ty3, DL.q_ty4, DL.q_ty5, DL.q_ty6, DL.q_lenT, DL.q_lenL, DL.q_lenS, DL.q_ixT, DL.q_ixL, DL.q_ixA, DL.q_leI, DL.q_leS, DL.q_ltI, DL.q_ltS, DL.q_I0, DL.q_II, DL.q_sub, DL.q_addI, DL.q_addS, DL.q_addT, DL.q_addL, DL.q_mulI, DL.q_mulS, DL.q_none, DL.q_noneR, DL.q_is, DL.q_isB, DL.q_inT, DL.q_inL, DL.q_inS, DL.q_inM, DL.q_eq, DL.q_rd, DL.q_ord, DL.q_ix, DL.q_tup, DL.q_tup0, DL.q_tup1, DL.q_tup2, DL.q_tup3, DL.q_eqI, DL.q_eqS, DL.q_shI, DL.q_flI, DL.q_flS, DL.q_flN, DL.q_flB, DL.q_at0, DL.q_at1, DL.q_at2, DL.q_partsT, DL.iT, DL.iS, DL.iL, DL.wAsg, DL.q_star, DL.q_gN, DL.wInTab, DL.wTab, DL.q_onDs, DL.q_dats0, DL.q_datsc, DL.q_sz0, DL.q_sz1, DL.q_sz2, DL.q_sz3, DL.q_sz4, DL.q_sz5, DL.q_sz6, DL.q_sz7, DL.q_sz11, DL.q_sz12, DL.q_keyS, DL.q_getD, DL.q_dct, DL.wInD, DL.wIxD, DL.q_ixU, DL.q_onMU, DL.q_lenU, DL.q_um, DL.q_n30, DL.q_n31, DL.q_n32, DL.q_max, DL.gIx, DL.q_map, DL.q_all0, DL.q_allc])
section
variable {P : Program} {w : World} {K : PySem.W.Frag} {mg : Str → Option Value} {base : Heap} {k : Nat}
/-- what the law may look at as rules -/
def fitG (d : PyData) : Prop := match d with
  | .tuple ds => ds.length ≤ 10000 ∧ ∀ r ∈ ds, fitRL r ∧ r.canLay0 = true ∧ r.depth ≤ 60
  | _ => True
def spGood : DSp := fun xs M P _ => ∃ d, xs = [.dat d] ∧ fitG d ∧ P (.dat (.bool (areRules d))) M
theorem ok__law_good (T : Facts K mg w) : GOk P w K mg base CX0 7 "_law_good" ["thing"] spGood := by
  have G__law_rule_good := ok__law_rule_good (P := P) (base := base) T
  obtain ⟨f, fd, D⟩ := T.d__law_good
  refine gok_of D sc__law_good ?_ fun cdv A out s H E hr hgd => ?_
  · rintro xs M P R ⟨d, rfl, h⟩
    rfl
  have hu := Room.units hr
  have hu66 : (A.deeper (envOfC "_law_good" (defScope s__law_good) s.heap.objs.size f cdv)).units + 66 < cLine := by
    have := hr.un
    omega
  refine ⟨_, (dss_cons (ds_if (dt_bool (dw_or (dt_not (dt_val (de_isi kit_tuple (by rfl) T.m_isinstance (by rfl) T.m_tuple boot_t_tuple (de_var (pv 0))))) (dw_or (dt_cmp do_gt (de_len (by rfl) T.m_len (de_var (pv 0))) de_int (by rfl)) (dw_or1 (dt_cmp (do_neM hu) (de_lc (own := [("rule", 3)]) rfl sc__law_good.nd (di_T (de_var (pv 0))) (blkOk_by (own := [("rule", 3)]) (N := N__law_good) (sc := defScope s__law_good) (by decide +kernel)) (ct_name (i := 3)) (fun _ _ _ _ _ => pg_name (i := 3) sc__law_good.nd rfl (Or.inl rfl)) (fun _ _ _ _ _ => pts_one (dt_not (dt_val (de_call G__law_rule_good (hr.mono (by omega)) hgd (by rfl) pat0 (da_cons (de_var (pv 3)) da_nil))))) (fun _ _ _ _ _ => (de_var (pv 3)))) (de_lst da_nil) (by rfl))))))
      (dss_one (ds_ret de_bl))
      dss_nil)
    (dss_cons (ds_setLc (ct_name (i := 3)) (ps_setLc (own := [("rule", 3)]) (i := 1) rfl sc__law_good.nd rfl rfl (sw_true rfl rfl rfl (by decide +kernel)) (di_T (de_var (pv 0))) (blkOk_by (own := [("rule", 3)]) (N := N__law_good) (sc := defScope s__law_good) (by decide +kernel)) (fun _ _ _ _ _ => pg_name (i := 3) sc__law_good.nd rfl (Or.inl rfl)) (fun _ _ _ _ _ => pts_one (dt_cmp (do_neM hu) (de_ix (de_var (pv 3)) de_int (fun _ _ => rfl)) de_str (by rfl))) (fun _ _ _ _ _ => (de_ix (de_var (pv 3)) de_int (fun _ _ => rfl)))))
    (dss_cons (ds_setLc (ct_name (i := 3)) (ps_setLc (own := [("rule", 3)]) (i := 2) rfl sc__law_good.nd rfl rfl (sw_true rfl rfl rfl (by decide +kernel)) (di_T (de_var (pv 0))) (blkOk_by (own := [("rule", 3)]) (N := N__law_good) (sc := defScope s__law_good) (by decide +kernel)) (fun _ _ _ _ _ => pg_name (i := 3) sc__law_good.nd rfl (Or.inl rfl)) (fun _ _ _ _ _ => pts_one (dt_cmp (do_eqM hu) (de_ix (de_var (pv 3)) de_int (fun _ _ => rfl)) de_str (by rfl))) (fun _ _ _ _ _ => (de_ix (de_var (pv 3)) de_int (fun _ _ => rfl)))))
    (dss_one (ds_ret (de_and (de_cmp (do_eqM hu) (de_lenSet rfl (by rfl) T.m_len (by rfl) T.m_set (de_var (pv 1))) (de_len (by rfl) T.m_len (de_var (pv 1))) (by rfl)) (de_one (de_cmp (do_eqM hu) (de_lenSet rfl (by rfl) T.m_len (by rfl) T.m_set (de_var (pv 2))) (de_len (by rfl) T.m_len (de_var (pv 2))) (by rfl))))))))), ?_⟩
  rintro xs M P R ⟨d, rfl, ft, h⟩
  cases d with
  | tuple ds =>
    trivial
    have hb : areRules (.tuple ds) = rulesB ds := rfl
    rw [hb] at h
    refine ifB (fun e1 => ?_) fun e1 => ?_
    · have e2 : decide ((ds.length : Int) ≤ 8) = false := decide_eq_false (by have := of_decide_eq_true e1; omega)
      simpa only [rulesB, e2, Bool.false_and] using h
    · have e2 : decide ((ds.length : Int) ≤ 8) = true := decide_eq_true (by have := of_decide_eq_false e1; omega)
      refine g_lc (fun r => [some (.dat (.tuple ds)), none, none, some (.dat r)]) (fun r => !isRule r) (fun r => r) .dat ds (fun Pk q => ⟨_, rfl, q⟩) (Nat.le_trans ft.1 (by decide)) (fun r hr' => ⟨rfl, fun M P R q => ?_, fun _ M P R q => ?_⟩) ?_
      · trivial
        refine ⟨r, rfl, (ft.2 r hr').1, ?_⟩
        trivial
        exact q
      · trivial
        exact q
      · trivial
        rw [List.map_id']
        refine ⟨shL fun p hp' => (ft.2 p (List.mem_filter.mp hp').1).2, shL0, ?_⟩
        rw [eqv_nil, filt_nil]
        refine ifB (fun e3 => ?_) fun e3 => ?_
        · have e4 : ds.all isRule = false := by simpa using e3
          simpa only [rulesB, e4, Bool.false_and, Bool.and_false] using h
        · have e4 : ds.all isRule = true := by simpa using e3
          simp only [rulesB, e2, e4, Bool.true_and] at h
          have ruled : ∀ r ∈ ds, isRule r = true := List.all_eq_true.mp e4
          have tOk : ∀ r ∈ ds, PyData.strOk (headW r) = true := fun r hr' => by
            obtain ⟨wd, nm, rest, e⟩ := rule_inv (ruled r hr')
            have z := (ft.2 r hr').1
            rw [e] at z ⊢
            exact z.2.1
          have l1 : (led ds).length ≤ ds.length := by
            unfold led
            rw [List.length_map]
            exact List.length_filter_le _ _
          have l2 : (counted ds).length ≤ ds.length := by
            unfold counted
            rw [List.length_map]
            exact List.length_filter_le _ _
          have l3 : (ds.length : Int) ≤ 8 := of_decide_eq_true e2
          refine g_lc (fun r => [some (.dat (.tuple ds)), none, none, some (.dat r)]) (fun r => !decide (headW r = "count")) (fun r => .str (nameW r)) .dat ds (fun Pk q => ⟨_, rfl, q⟩) (Nat.le_trans ft.1 (by decide)) (fun r hr' => ⟨rfl, fun M P R q => ?_, fun _ M P R q => ?_⟩) ?_
          · have z := tOk r hr'
            obtain ⟨wd, nm, rest, e⟩ := rule_inv (ruled r hr')
            subst e
            trivial
            exact ⟨shS z, shS (by decide +kernel), q⟩
          · obtain ⟨wd, nm, rest, e⟩ := rule_inv (ruled r hr')
            subst e
            trivial
            exact q
          refine g_lc (fun r => [some (.dat (.tuple ds)), _, none, some (.dat r)]) (fun r => decide (headW r = "count")) (fun r => .str (nameW r)) .dat ds (fun Pk q => ⟨_, rfl, q⟩) (Nat.le_trans ft.1 (by decide)) (fun r hr' => ⟨rfl, fun M P R q => ?_, fun _ M P R q => ?_⟩) ?_
          · have z := tOk r hr'
            obtain ⟨wd, nm, rest, e⟩ := rule_inv (ruled r hr')
            subst e
            trivial
            exact ⟨shS z, shS (by decide +kernel), q⟩
          · obtain ⟨wd, nm, rest, e⟩ := rule_inv (ruled r hr')
            subst e
            trivial
            exact q
          have m1 : ((ds.filter fun r => !decide (headW r = "count")).map fun r => PyData.str (nameW r)) = (led ds).map .str := by
            unfold led
            rw [List.map_map]
            rfl
          have m2 : ((ds.filter fun r => decide (headW r = "count")).map fun r => PyData.str (nameW r)) = (counted ds).map .str := by
            unfold counted
            rw [List.map_map]
            rfl
          rw [m1, m2]
          refine g_lenSet (xs := led ds) (fun Pk q => ⟨_, rfl, q⟩) (by omega) ?_
          trivial
          rw [List.length_map]
          refine ifB (fun e5 => ?_) fun e5 => ?_
          · refine g_lenSet (xs := counted ds) (fun Pk q => ⟨_, rfl, q⟩) (by omega) ?_
            trivial
            rw [List.length_map]
            simpa only [noTwice, e5, Bool.true_and] using h
          · simpa only [noTwice, e5, Bool.false_and] using h
  | _ =>
    trivial
    exact h

end
end K13
end
section
set_option Elab.async false
set_option linter.all false
set_option maxRecDepth 100000
set_option maxHeartbeats 400000
namespace K13
open PySem PySem.Spec L2 DL DX
open PyProof.Rows hiding St
local macro_rules | `(tactic| trivial) => `(tactic| simp only [DL.wSeq, DL.wNext, DL.wRet, DL.wDrop, DL.wIf, DL.wSet, DL.wC, DL.wVar, DL.wOp, DL.wAnd, DL.wOr, DL.wNot, DL.wB, DL.wAndV, DL.wOrV, DL.wNotV, DL.wIfE, DL.wChain, DL.wIsi, DL.wUn, DL.wLen, DL.wCall, DL.wNil, DL.wCons, DL.wTup, DL.wLst, DL.wLstM, DL.wNeg, DL.isT, String.reduceBEq, Bool.or_false, Bool.false_or, Bool.or_true, Bool.true_or, Bool.or_self, Bool.and_self, DL.wGt, DL.wGe, DL.dstart, List.map_cons, List.map_nil, List.length_cons, List.length_nil, List.cons_append, List.nil_append, List.getElem?_cons_zero, List.getElem?_cons_succ, Option.some.injEq, exists_eq_left', exists_eq_left, List.set_cons_zero, List.set_cons_succ, decide_true, decide_false, Bool.true_and, Bool.and_true, Bool.false_and, Bool.and_false, true_and, Bool.not_true, Bool.not_false, if_true, if_false, reduceIte, Bool.false_eq_true, bne_self_eq_false, DL.bne_f, DL.bne_t, List.getElem?_nil, Nat.reduceAdd, Nat.reduceSub, List.replicate_succ, List.replicate_zero, DL.q_onO, DL.q_onO0, DL.q_onB, DL.q_onI, DL.q_onS, DL.q_onL, DL.q_ty, DL.q_tyT, DL.q_ty0, DL.q_ty1, DL.q_ty2, DL.q_ty3, DL.q_ty4, DL.q_ty5, DL.q_ty6, DL.q_lenT, DL.q_lenL, DL.q_lenS, DL.q_ixT, DL.q_ixL, DL.q_ixA, DL.q_leI, DL.q_leS, DL.q_ltI, DL.q_ltS, DL.q_I0, DL.q_II, DL.q_sub, DL.q_addI, DL.q_addS, DL.q_addT, DL.q_addL, DL.q_mulI, DL.q_mulS, DL.q_none, DL.q_noneR, DL.q_is, DL.q_isB, DL.q_inT, DL.q_inL, DL.q_inS, DL.q_inM, DL.q_eq, DL.q_rd, DL.q_ord, DL.q_ix, DL.q_tup, DL.q_tup0, DL.q_tup1, DL.q_tup2, DL.q_tup3, DL.q_eqI, DL.q_eqS, DL.q_shI, DL.q_flI, DL.q_flS, DL.q_flN, DL.q_flB, DL.q_at0, DL.q_at1, DL.q_at2, DL.q_partsT, DL.iT, DL.iS, DL.iL, DL.wAsg, DL.q_star, DL.q_gN, DL.wInTab, DL.wTab, DL.q_onDs, DL.q_dats0, DL.q_datsc, DL.q_sz0, DL.q_sz1, DL.q_sz2, DL.q_sz3, DL.q_sz4, DL.q_sz5, DL.q_sz6, DL.q_sz7, DL.q_sz11, DL.q_sz12, DL.q_keyS, DL.q_getD, DL.q_dct, DL.wInD, DL.wIxD, DL.q_ixU, DL.q_onMU, DL.q_lenU, DL.q_um, DL.q_n30, DL.q_n31, DL.q_n32, DL.q_max, DL.gIx, DL.q_map, DL.q_all0, DL.q_allc])
section
variable {P : Program} {w : World} {K : PySem.W.Frag} {mg : Str → Option Value} {base : Heap} {k : Nat}
def spCell : DSp := fun xs M P _ => ∃ (ns : List Int) (k : Nat), xs = [.dat (.list (ns.map .int)), .dat (.int (k : Nat))] ∧ k < 1000 ∧ ∀ c : Int, P (.dat (.int c)) M
theorem ok__law_cell (T : Facts K mg w) : GOk P w K mg base CX0 1 "_law_cell" ["script", "k"] spCell := by
  obtain ⟨f, fd, D⟩ := T.d__law_cell
  refine gok_of D sc__law_cell ?_ fun cdv A out s H E hr hgd => ?_
  · rintro xs M P R ⟨d, k, rfl, h⟩
    rfl
  have hu := Room.units hr
  have hu66 : (A.deeper (envOfC "_law_cell" (defScope s__law_cell) s.heap.objs.size f cdv)).units + 66 < cLine := by
    have := hr.un
    omega
  refine ⟨_, (dss_cons (ds_if (dt_cmp do_lt (de_var (pv 1)) (de_len (by rfl) T.m_len (de_var (pv 0))) (by rfl))
      (dss_one (ds_ret (de_ix (de_var (pv 0)) (de_var (pv 1)) (fun _ _ => rfl))))
      dss_nil)
    (dss_one (ds_ret (de_op do_add (de_op do_mul de_int (de_var (pv 1))) de_int)))), ?_⟩
  rintro xs M P R ⟨ns, k, rfl, hk, h⟩
  trivial
  refine ifB (fun e => ?_) fun e => ⟨.inl ⟨by omega, by omega⟩, h _⟩
  have hl : k < ns.length := by
    have := of_decide_eq_true e
    rw [List.length_map] at this
    omega
  have e2 : atI (ns.map PyData.int) (k : Int) = some (.int ns[k]) := by
    rw [atI_map]
    unfold atI ixN
    rw [if_pos (by omega), if_pos (by omega)]
    simp [hl]
  rw [e2]
  trivial
  exact h _
/-- a purse of draws at q: how many were drawn past its number -/
def Purse (M : Mp) (q : Addr) (c : Nat) : Prop := ∃ a b : Int, M q = some (.lst [.dat (.int a), .dat (.int b), .dat (.int (c : Nat))]) ∧ 0 ≤ a ∧ 0 ≤ b ∧ b < 2147483648
def spPurse : DSp := fun xs M P _ => ∃ (c : Int), xs = [.dat (.int c)] ∧ ∀ (q : Addr) (a b : Int), M q = none → 0 ≤ a → 0 ≤ b → b < 2147483648 → P (.ref q) (um M q (.lst [.dat (.int a), .dat (.int b), .dat (.int 0)]))
theorem ok__law_purse (T : Facts K mg w) : GOk P w K mg base CX0 1 "_law_purse" ["cell"] spPurse := by
  obtain ⟨f, fd, D⟩ := T.d__law_purse
  refine gok_of D sc__law_purse ?_ fun cdv A out s H E hr hgd => ?_
  · rintro xs M P R ⟨d, rfl, h⟩
    rfl
  have hu := Room.units hr
  have hu66 : (A.deeper (envOfC "_law_purse" (defScope s__law_purse) s.heap.objs.size f cdv)).units + 66 < cLine := by
    have := hr.un
    omega
  refine ⟨_, (dss_one (ds_ret (de_lstM (da_cons (de_b2 (c_max2 rfl) (by rfl) T.m_max boot_max' de_int (de_op do_sub (de_var (pv 0)) (de_op do_pow de_int de_int))) (da_cons (de_op do_mod (de_var (pv 0)) de_int) (da_cons de_int da_nil)))))), ?_⟩
  rintro xs M P R ⟨c, rfl, h⟩
  trivial
  refine ⟨by unfold CPow; decide, by decide, fun q hq => ?_⟩
  have p18 : (10 : Int) ^ Int.toNat 18 = 1000000000000000000 := by decide
  rw [p18]
  refine h q _ _ hq ?_ (Int.emod_nonneg _ (by decide)) (by have := Int.emod_lt_of_pos c (b := 2147483543) (by decide); omega)
  split <;> omega
def spTake : DSp := fun xs M P _ => ∃ (q : Addr) (n : Int) (c : Nat), xs = [.ref q, .dat (.int n)] ∧ 0 < n ∧ n ≤ 1000000000000000000000000000000 ∧ c < 1000000 ∧ (∃ a b : Int, M q = some (.lst [.dat (.int a), .dat (.int b), .dat (.int (c : Nat))]) ∧ 0 ≤ a ∧ 0 ≤ b ∧ b < 2147483648 ∧
  ∀ (r a' : Int) (c' : Nat), 0 ≤ r → r < n → 0 ≤ a' → c' ≤ c + 1 → P (.dat (.int r)) (um M q (.lst [.dat (.int a'), .dat (.int b), .dat (.int (c' : Nat))])))
theorem div_ok {a n : Int} (h : 0 < n) (h2 : n ≤ 1000000000000000000000000000000) : CDivW a n := by
  refine ⟨h, ?_⟩
  have e : n.natAbs < 2 ^ 100 := by
    have : (2 : Nat) ^ 100 = 1267650600228229401496703205376 := by decide
    rw [this]
    omega
  have := (Nat.log2_lt (by omega)).mpr e
  omega
theorem ok__law_take (T : Facts K mg w) : GOk P w K mg base CX0 1 "_law_take" ["purse", "below"] spTake := by
  obtain ⟨f, fd, D⟩ := T.d__law_take
  refine gok_of D sc__law_take ?_ fun cdv A out s H E hr hgd => ?_
  · rintro xs M P R ⟨d, n, c, rfl, h⟩
    rfl
  have hu := Room.units hr
  have hu66 : (A.deeper (envOfC "_law_take" (defScope s__law_take) s.heap.objs.size f cdv)).units + 66 < cLine := by
    have := hr.un
    omega
  refine ⟨_, (dss_cons (ds_if (dt_cmp do_gt (de_ix (de_var (pv 0)) de_int (fun _ _ => rfl)) de_int (by rfl))
      (dss_cons (ds_setP (ps_set (i := 2) sc__law_take.nd rfl (Or.inl rfl) (de_op do_mod (de_ix (de_var (pv 0)) de_int (fun _ _ => rfl)) (de_var (pv 1)))))
    (dss_cons (ds_asg (de_op do_fdiv (de_ix (de_var (pv 0)) de_int (fun _ _ => rfl)) (de_var (pv 1))) (dg_ix (de_var (pv 0)) de_int))
    (dss_one (ds_ret (de_var (pv 2))))))
      dss_nil)
    (dss_cons (ds_asg (de_op do_add (de_ix (de_var (pv 0)) de_int (fun _ _ => rfl)) de_int) (dg_ix (de_var (pv 0)) de_int))
    (dss_cons (ds_setP (ps_set (i := 3) sc__law_take.nd rfl (Or.inl rfl) (de_op do_mod (de_op do_pow (de_op do_add (de_op do_add (de_ix (de_var (pv 0)) de_int (fun _ _ => rfl)) (de_op do_mul de_int (de_ix (de_var (pv 0)) de_int (fun _ _ => rfl)))) de_int) de_int) de_int)))
    (dss_cons (ds_setP (ps_set (i := 4) sc__law_take.nd rfl (Or.inl rfl) (de_op do_mod (de_op do_pow (de_op do_add (de_op do_mul (de_ix (de_var (pv 0)) de_int (fun _ _ => rfl)) (de_ix (de_var (pv 0)) de_int (fun _ _ => rfl))) de_int) de_int) de_int)))
    (dss_one (ds_ret (de_op do_mod (de_op do_fdiv (de_op do_add (de_var (pv 3)) (de_op do_mul de_int (de_var (pv 4)))) de_int) (de_var (pv 1))))))))), ?_⟩
  rintro xs M P R ⟨q, n, c, rfl, hn, hn2, hc, a, b, hM, ha, hb, hb2, h⟩
  rw [← um_self hM]
  trivial
  refine ifB (fun e => ?_) fun e => ?_
  · refine ⟨hn, div_ok hn hn2, h _ _ c (Int.emod_nonneg _ (by omega)) (Int.emod_lt_of_pos _ hn) (Int.ediv_nonneg ha (by omega)) (by omega)⟩
  · have m1 : 0 ≤ b * ((c : Int) + 1) := Int.mul_nonneg hb (by omega)
    have m2 : b * ((c : Int) + 1) ≤ 2147483648 * 1000000 := Int.mul_le_mul (by omega) (by omega) (by omega) (by decide)
    have n1 := Int.emod_nonneg ((b * ((c : Int) + 1) + 90007) ^ Int.toNat 3) (b := 2147483587) (by decide)
    have n2 := Int.emod_lt_of_pos ((b * ((c : Int) + 1) + 90007) ^ Int.toNat 3) (b := 2147483587) (by decide)
    refine ⟨.inl ⟨by decide, by decide⟩, ⟨by decide, by decide, ?_⟩, by decide, .inr ⟨by omega, by omega⟩, ⟨by decide, by decide, ?_⟩, by decide, .inl ⟨by decide, by decide⟩, ⟨by decide, by decide +kernel⟩, hn, ?_⟩
    · show (b + 6007 * ((c : Int) + 1) + 41).natAbs < 18446744073709551616
      omega
    · show (b * ((c : Int) + 1) + 90007).natAbs < 18446744073709551616
      omega
    · exact h _ a (c + 1) (Int.emod_nonneg _ (by omega)) (Int.emod_lt_of_pos _ hn) ha (by omega)

end
end K13
end
section
set_option Elab.async false
set_option linter.all false
set_option maxRecDepth 100000
set_option maxHeartbeats 400000
namespace K13
open PySem PySem.Spec L2 DL DX
open PyProof.Rows hiding St
local macro_rules | `(tactic| trivial) => `(tactic| simp only [DL.wSeq, DL.wNext, DL.wRet, DL.wDrop, DL.wIf, DL.wSet, DL.wC, DL.wVar, DL.wOp, DL.wAnd, DL.wOr, DL.wNot, DL.wB, DL.wAndV, DL.wOrV, DL.wNotV, DL.wIfE, DL.wChain, DL.wIsi, DL.wUn, DL.wLen, DL.wCall, DL.wNil, DL.wCons, DL.wTup, DL.wLst, DL.wLstM, DL.wNeg, DL.isT, String.reduceBEq, Bool.or_false, Bool.false_or, Bool.or_true, Bool.true_or, Bool.or_self, Bool.and_self, DL.wGt, DL.wGe, DL.dstart, List.map_cons, List.map_nil, List.length_cons, List.length_nil, List.cons_append, List.nil_append, List.getElem?_cons_zero, List.getElem?_cons_succ, Option.some.injEq, exists_eq_left', exists_eq_left, List.set_cons_zero, List.set_cons_succ, decide_true, decide_false, Bool.true_and, Bool.and_true, Bool.false_and, Bool.and_false, true_and, Bool.not_true, Bool.not_false, if_true, if_false, reduceIte, Bool.false_eq_true, bne_self_eq_false, DL.bne_f, DL.bne_t, List.getElem?_nil, Nat.reduceAdd, Nat.reduceSub, List.replicate_succ, List.replicate_zero, DL.q_onO, DL.q_onO0, DL.q_onB, DL.q_onI, DL.q_onS, DL.q_onL, DL.q_ty, DL.q_tyT, DL.q_ty0, DL.q_ty1, DL.q_ty2, DL.q_ty3, DL.q_ty4, DL.q_ty5, DL.q_ty6, DL.q_lenT, DL.q_lenL, DL.q_lenS, DL.q_ixT, DL.q_ixL, DL.q_ixA, DL.q_leI, DL.q_leS, DL.q_ltI, DL.q_ltS, DL.q_I0, DL.q_II, DL.q_sub, DL.q_addI, DL.q_addS, DL.q_addT, DL.q_addL, DL.q_mulI, DL.q_mulS, DL.q_none, DL.q_noneR, DL.q_is, DL.q_isB, DL.q_inT, DL.q_inL, DL.q_inS, DL.q_inM, DL.q_eq, DL.q_rd, DL.q_ord, DL.q_ix, DL.q_tup, DL.q_tup0, DL.q_tup1, DL.q_tup2, DL.q_tup3, DL.q_eqI, DL.q_eqS, DL.q_shI, DL.q_flI, DL.q_flS, DL.q_flN, DL.q_flB, DL.q_at0, DL.q_at1, DL.q_at2, DL.q_partsT, DL.iT, DL.iS, DL.iL, DL.wAsg, DL.q_star, DL.q_gN, DL.wInTab, DL.wTab, DL.q_onDs, DL.q_dats0, DL.q_datsc, DL.q_sz0, DL.q_sz1, DL.q_sz2, DL.q_sz3, DL.q_sz4, DL.q_sz5, DL.q_sz6, DL.q_sz7, DL.q_sz11, DL.q_sz12, DL.q_keyS, DL.q_getD, DL.q_dct, DL.wInD, DL.wIxD, DL.q_ixU, DL.q_onMU, DL.q_lenU, DL.q_um, DL.q_n30, DL.q_n31, DL.q_n32, DL.q_max, DL.gIx, DL.q_map, DL.q_all0, DL.q_allc])
section
variable {P : Program} {w : World} {K : PySem.W.Frag} {mg : Str → Option Value} {base : Heap} {k : Nat}
theorem ok__law_cell_two (T : Facts K mg w) : GOk P w K mg base CX0 1 "_law_cell_two" ["script", "k"] spCell := by
  obtain ⟨f, fd, D⟩ := T.d__law_cell_two
  refine gok_of D sc__law_cell_two ?_ fun cdv A out s H E hr hgd => ?_
  · rintro xs M P R ⟨d, k, rfl, h⟩
    rfl
  have hu := Room.units hr
  have hu66 : (A.deeper (envOfC "_law_cell_two" (defScope s__law_cell_two) s.heap.objs.size f cdv)).units + 66 < cLine := by
    have := hr.un
    omega
  refine ⟨_, (dss_cons (ds_if (dt_cmp do_lt (de_var (pv 1)) (de_len (by rfl) T.m_len (de_var (pv 0))) (by rfl))
      (dss_one (ds_ret (de_ix (de_var (pv 0)) (de_var (pv 1)) (fun _ _ => rfl))))
      dss_nil)
    (dss_one (ds_ret (de_op do_add (de_op do_mul de_int (de_var (pv 1))) de_int)))), ?_⟩
  rintro xs M P R ⟨ns, k, rfl, hk, h⟩
  trivial
  refine ifB (fun e => ?_) fun e => ⟨.inl ⟨by omega, by omega⟩, h _⟩
  have hl : k < ns.length := by
    have := of_decide_eq_true e
    rw [List.length_map] at this
    omega
  have e2 : atI (ns.map PyData.int) (k : Int) = some (.int ns[k]) := by
    rw [atI_map]
    unfold atI ixN
    rw [if_pos (by omega), if_pos (by omega)]
    simp [hl]
  rw [e2]
  trivial
  exact h _
theorem ok__law_box (T : Facts K mg w) : GOk P w K mg base CX0 1 "_law_box" ["cell"] spPurse := by
  obtain ⟨f, fd, D⟩ := T.d__law_box
  refine gok_of D sc__law_box ?_ fun cdv A out s H E hr hgd => ?_
  · rintro xs M P R ⟨d, rfl, h⟩
    rfl
  have hu := Room.units hr
  have hu66 : (A.deeper (envOfC "_law_box" (defScope s__law_box) s.heap.objs.size f cdv)).units + 66 < cLine := by
    have := hr.un
    omega
  refine ⟨_, (dss_one (ds_ret (de_lstM (da_cons (de_b2 (c_max2 rfl) (by rfl) T.m_max boot_max' de_int (de_op do_sub (de_var (pv 0)) (de_op do_pow de_int de_int))) (da_cons (de_op do_mod (de_var (pv 0)) de_int) (da_cons de_int da_nil)))))), ?_⟩
  rintro xs M P R ⟨c, rfl, h⟩
  trivial
  refine ⟨by unfold CPow; decide, by decide, fun q hq => ?_⟩
  have p18 : (10 : Int) ^ Int.toNat 18 = 1000000000000000000 := by decide
  rw [p18]
  refine h q _ _ hq ?_ (Int.emod_nonneg _ (by decide)) (by have := Int.emod_lt_of_pos c (b := 2147483629) (by decide); omega)
  split <;> omega
theorem ok__law_take_two (T : Facts K mg w) : GOk P w K mg base CX0 1 "_law_take_two" ["box", "much"] spTake := by
  obtain ⟨f, fd, D⟩ := T.d__law_take_two
  refine gok_of D sc__law_take_two ?_ fun cdv A out s H E hr hgd => ?_
  · rintro xs M P R ⟨d, n, c, rfl, h⟩
    rfl
  have hu := Room.units hr
  have hu66 : (A.deeper (envOfC "_law_take_two" (defScope s__law_take_two) s.heap.objs.size f cdv)).units + 66 < cLine := by
    have := hr.un
    omega
  refine ⟨_, (dss_cons (ds_if (dt_cmp do_gt (de_ix (de_var (pv 0)) de_int (fun _ _ => rfl)) de_int (by rfl))
      (dss_cons (ds_setP (ps_set (i := 2) sc__law_take_two.nd rfl (Or.inl rfl) (de_op do_mod (de_ix (de_var (pv 0)) de_int (fun _ _ => rfl)) (de_var (pv 1)))))
    (dss_cons (ds_asg (de_op do_fdiv (de_ix (de_var (pv 0)) de_int (fun _ _ => rfl)) (de_var (pv 1))) (dg_ix (de_var (pv 0)) de_int))
    (dss_one (ds_ret (de_var (pv 2))))))
      dss_nil)
    (dss_cons (ds_asg (de_op do_add (de_ix (de_var (pv 0)) de_int (fun _ _ => rfl)) de_int) (dg_ix (de_var (pv 0)) de_int))
    (dss_cons (ds_setP (ps_set (i := 3) sc__law_take_two.nd rfl (Or.inl rfl) (de_op do_mod (de_op do_pow (de_op do_add (de_op do_add (de_ix (de_var (pv 0)) de_int (fun _ _ => rfl)) (de_op do_mul de_int (de_ix (de_var (pv 0)) de_int (fun _ _ => rfl)))) de_int) de_int) de_int)))
    (dss_cons (ds_setP (ps_set (i := 3) sc__law_take_two.nd rfl (Or.inl rfl) (de_op do_mod (de_op do_pow (de_op do_add (de_op do_fdiv (de_var (pv 3)) de_int) (de_op do_mul (de_op do_mul de_int (de_ix (de_var (pv 0)) de_int (fun _ _ => rfl))) (de_ix (de_var (pv 0)) de_int (fun _ _ => rfl)))) de_int) de_int)))
    (dss_one (ds_ret (de_op do_mod (de_op do_fdiv (de_var (pv 3)) de_int) (de_var (pv 1))))))))), ?_⟩
  rintro xs M P R ⟨q, n, c, rfl, hn, hn2, hc, a, b, hM, ha, hb, hb2, h⟩
  rw [← um_self hM]
  trivial
  refine ifB (fun e => ?_) fun e => ?_
  · refine ⟨hn, div_ok hn hn2, h _ _ c (Int.emod_nonneg _ (by omega)) (Int.emod_lt_of_pos _ hn) (Int.ediv_nonneg ha (by omega)) (by omega)⟩
  · have n1 := Int.emod_nonneg ((b + 7919 * ((c : Int) + 1) + 47) ^ Int.toNat 5) (b := 2147483647) (by decide)
    have n2 := Int.emod_lt_of_pos ((b + 7919 * ((c : Int) + 1) + 47) ^ Int.toNat 5) (b := 2147483647) (by decide)
    have m1 : 0 ≤ 104729 * ((c : Int) + 1) * ((c : Int) + 1) := Int.mul_nonneg (by omega) (by omega)
    have m2 : 104729 * ((c : Int) + 1) * ((c : Int) + 1) ≤ 104729000000 * 1000000 := Int.mul_le_mul (by omega) (by omega) (by omega) (by decide)
    refine ⟨.inl ⟨by decide, by decide⟩, ⟨by decide, by decide, ?_⟩, by decide, ⟨by decide, by decide +kernel⟩, .inl ⟨by decide, by decide⟩, .inr ⟨by omega, by omega⟩, ⟨by decide, by decide, ?_⟩, by decide, ⟨by decide, by decide +kernel⟩, hn, ?_⟩
    · show (b + 7919 * ((c : Int) + 1) + 47).natAbs < 18446744073709551616
      omega
    · show ((b + 7919 * ((c : Int) + 1) + 47) ^ Int.toNat 5 % 2147483647 / 8 + 104729 * ((c : Int) + 1) * ((c : Int) + 1)).natAbs < 18446744073709551616
      generalize (b + 7919 * ((c : Int) + 1) + 47) ^ Int.toNat 5 % 2147483647 = u at n1 n2 ⊢
      generalize 104729 * ((c : Int) + 1) * ((c : Int) + 1) = v at m1 m2 ⊢
      omega
    · exact h _ a (c + 1) (Int.emod_nonneg _ (by omega)) (Int.emod_lt_of_pos _ hn) ha (by omega)

end
end K13
end
section
set_option Elab.async false
set_option linter.all false
set_option maxRecDepth 100000
set_option maxHeartbeats 400000
namespace K13
open PySem PySem.Spec L2 DL DX
open PyProof.Rows hiding St
local macro_rules | `(tactic| trivial) => `(tactic| simp only [DL.wSeq, DL.wNext, DL.wRet, DL.wDrop, DL.wIf, DL.wSet, DL.wC, DL.wVar, DL.wOp, DL.wAnd, DL.wOr, DL.wNot, DL.wB, DL.wAndV, DL.wOrV, DL.wNotV, DL.wIfE, DL.wChain, DL.wIsi, DL.wUn, DL.wLen, DL.wCall, DL.wNil, DL.wCons, DL.wTup, DL.wLst, DL.wLstM, DL.wNeg, DL.isT, String.reduceBEq, Bool.or_false, Bool.false_or, Bool.or_true, Bool.true_or, Bool.or_self, Bool.and_self, DL.wGt, DL.wGe, DL.dstart, List.map_cons, List.map_nil, List.length_cons, List.length_nil, List.cons_append, List.nil_append, List.getElem?_cons_zero, List.getElem?_cons_succ, Option.some.injEq, exists_eq_left', exists_eq_left, List.set_cons_zero, List.set_cons_succ, decide_true, decide_false, Bool.true_and, Bool.and_true, Bool.false_and, Bool.and_false, true_and, Bool.not_true, Bool.not_false, if_true, if_false, reduceIte, Bool.false_eq_true, bne_self_eq_false, DL.bne_f, DL.bne_t, List.getElem?_nil, Nat.reduceAdd, Nat.reduceSub, List.replicate_succ, List.replicate_zero, DL.q_onO, DL.q_onO0, DL.q_onB, DL.q_onI, DL.q_onS, DL.q_onL, DL.q_ty, DL.q_tyT, DL.q_ty0, DL.q_ty1, DL.q_ty2, DL.q_ty3, DL.q_ty4, DL.q_ty5, DL.q_ty6, DL.q_lenT, DL.q_lenL, DL.q_lenS, DL.q_ixT, DL.q_ixL, DL.q_ixA, DL.q_leI, DL.q_leS, DL.q_ltI, DL.q_ltS, DL.q_I0, DL.q_II, DL.q_sub, DL.q_addI, DL.q_addS, DL.q_addT, DL.q_addL, DL.q_mulI, DL.q_mulS, DL.q_none, DL.q_noneR, DL.q_is, DL.q_isB, DL.q_inT, DL.q_inL, DL.q_inS, DL.q_inM, DL.q_eq, DL.q_rd, DL.q_ord, DL.q_ix, DL.q_tup, DL.q_tup0, DL.q_tup1, DL.q_tup2, DL.q_tup3, DL.q_eqI, DL.q_eqS, DL.q_shI, DL.q_flI, DL.q_flS, DL.q_flN, DL.q_flB, DL.q_at0, DL.q_at1, DL.q_at2, DL.q_partsT, DL.iT, DL.iS, DL.iL, DL.wAsg, DL.q_star, DL.q_gN, DL.wInTab, DL.wTab, DL.q_onDs, DL.q_dats0, DL.q_datsc, DL.q_sz0, DL.q_sz1, DL.q_sz2, DL.q_sz3, DL.q_sz4, DL.q_sz5, DL.q_sz6, DL.q_sz7, DL.q_sz11, DL.q_sz12, DL.q_keyS, DL.q_getD, DL.q_dct, DL.wInD, DL.wIxD, DL.q_ixU, DL.q_onMU, DL.q_lenU, DL.q_um, DL.q_n30, DL.q_n31, DL.q_n32, DL.q_max, DL.gIx, DL.q_map, DL.q_all0, DL.q_allc])
section
variable {P : Program} {w : World} {K : PySem.W.Frag} {mg : Str → Option Value} {base : Heap} {k : Nat}
/-- lower-case letters only -/
def Lt (z : Str) : Prop := ∀ c ∈ z.cps.toList, 97 ≤ c ∧ c < 123
theorem letters26 : ∀ c : Fin 26, inStr ⟨#[97 + c.val]⟩ lettersZ = true := by decide +kernel
theorem lt_in {c : Nat} (h : 97 ≤ c ∧ c < 123) : inStr ⟨#[c]⟩ lettersZ = true := by
  have := letters26 ⟨c - 97, by omega⟩
  have e : 97 + (c - 97) = c := by omega
  simpa [e] using this
theorem lt_name {z : Str} (h : Lt z) (h1 : 1 ≤ z.length) (h8 : z.length ≤ 8) (hn : anyIn (.str z) noNames = false) : isName (.str z) = true := by
  unfold isName
  dsimp only
  rw [hn, decide_eq_true (by omega : 1 ≤ (z.length : Int)), decide_eq_true (by omega : (z.length : Int) ≤ 8), List.all_eq_true.mpr fun c hc => lt_in (h c hc)]
  rfl
theorem lt_app {a b : Str} (ha : Lt a) (hb : Lt b) : Lt (a ++ b) := fun c hc => by
  have hc' : c ∈ (a.cps ++ b.cps).toList := hc
  rw [Array.toList_append, List.mem_append] at hc'
  exact hc'.elim (ha c) (hb c)
theorem len_app (a b : Str) : (a ++ b).length = a.length + b.length := Array.size_append
theorem lt_chr {c : Nat} (h : 97 ≤ c ∧ c < 123) : Lt ⟨#[c]⟩ := fun x hx => by
  have : x = c := by simpa using hx
  omega
theorem atI_mem {α : Type} (l : List α) (i : Int) (h0 : 0 ≤ i) (h1 : i < (l.length : Nat)) : ∃ x ∈ l, atI l i = some x := by
  refine ⟨l[i.toNat]'(by omega), List.getElem_mem _, ?_⟩
  unfold atI ixN
  rw [if_pos h0, if_pos (by omega)]
  simp
theorem lettersL : lettersZ.cps.toList = (List.range 26).map (97 + ·) := by decide +kernel
theorem lett_at {M : Mp} {i : Int} (h0 : 0 ≤ i) (h1 : i < 26) : ∃ c : Nat, (97 ≤ c ∧ c < 123) ∧ itemA M (.dat (.str lettersZ)) i = some (.dat (.str ⟨#[c]⟩)) := by
  obtain ⟨x, hx, e⟩ := atI_mem lettersZ.cps.toList i h0 (by rw [lettersL]; simpa using h1)
  refine ⟨x, ?_, ?_⟩
  · rw [lettersL, List.mem_map] at hx
    obtain ⟨j, hj, rfl⟩ := hx
    have := List.mem_range.mp hj
    omega
  · show (if lettersZ.length ≤ sizeLine then (atI lettersZ.cps.toList i).map (fun c => AV.dat (.str ⟨#[c]⟩)) else none) = _
    rw [if_pos (by decide +kernel), e]
    rfl
theorem lt_nil : Lt Str.empty := fun c hc => by
  have : c ∈ ([] : List Nat) := hc
  cases this
theorem lt_join {xs : List Str} (h : ∀ x ∈ xs, Lt x) (h1 : ∀ x ∈ xs, x.length = 1) : Lt (Txt.join Str.empty xs) ∧ (Txt.join Str.empty xs).length = xs.length := by
  unfold Txt.join
  rw [StrLaws.glued_eq_join]
  induction xs with
  | nil => exact ⟨lt_nil, rfl⟩
  | cons x r ih =>
    have i2 := ih (fun y hy => h y (List.mem_cons_of_mem x hy)) (fun y hy => h1 y (List.mem_cons_of_mem x hy))
    have hx := h x List.mem_cons_self
    have hl := h1 x List.mem_cons_self
    cases r with
    | nil => exact ⟨hx, hl⟩
    | cons y r =>
      have e : Str.join Str.empty (x :: y :: r) = x ++ Str.empty ++ Str.join Str.empty (y :: r) := rfl
      rw [e]
      refine ⟨lt_app (lt_app hx lt_nil) i2.1, ?_⟩
      rw [len_app, len_app, i2.2, hl]
      show 1 + 0 + _ = _
      simp only [List.length_cons]
      omega

end
end K13
end
section
set_option Elab.async false
set_option linter.all false
set_option maxRecDepth 100000
set_option maxHeartbeats 400000
namespace K13
open PySem PySem.Spec L2 DL DX
open PyProof.Rows hiding St
local macro_rules | `(tactic| trivial) => `(tactic| simp only [DL.wSeq, DL.wNext, DL.wRet, DL.wDrop, DL.wIf, DL.wSet, DL.wC, DL.wVar, DL.wOp, DL.wAnd, DL.wOr, DL.wNot, DL.wB, DL.wAndV, DL.wOrV, DL.wNotV, DL.wIfE, DL.wChain, DL.wIsi, DL.wUn, DL.wLen, DL.wCall, DL.wNil, DL.wCons, DL.wTup, DL.wLst, DL.wLstM, DL.wNeg, DL.isT, String.reduceBEq, Bool.or_false, Bool.false_or, Bool.or_true, Bool.true_or, Bool.or_self, Bool.and_self, DL.wGt, DL.wGe, DL.dstart, List.map_cons, List.map_nil, List.length_cons, List.length_nil, List.cons_append, List.nil_append, List.getElem?_cons_zero, List.getElem?_cons_succ, Option.some.injEq, exists_eq_left', exists_eq_left, List.set_cons_zero, List.set_cons_succ, decide_true, decide_false, Bool.true_and, Bool.and_true, Bool.false_and, Bool.and_false, true_and, Bool.not_true, Bool.not_false, if_true, if_false, reduceIte, Bool.false_eq_true, bne_self_eq_false, DL.bne_f, DL.bne_t, List.getElem?_nil, Nat.reduceAdd, Nat.reduceSub, List.replicate_succ, List.replicate_zero, DL.q_onO, DL.q_onO0, DL.q_onB, DL.q_onI, DL.q_onS, DL.q_onL, DL.q_ty, DL.q_tyT, DL.q_ty0, DL.q_ty1, DL.q_ty2, DL.q_ty3, DL.q_ty4, DL.q_ty5, DL.q_ty6, DL.q_lenT, DL.q_lenL, DL.q_lenS, DL.q_ixT, DL.q_ixL, DL.q_ixA, DL.q_leI, DL.q_leS, DL.q_ltI, DL.q_ltS, DL.q_I0, DL.q_II, DL.q_sub, DL.q_addI, DL.q_addS, DL.q_addT, DL.q_addL, DL.q_mulI, DL.q_mulS, DL.q_none, DL.q_noneR, DL.q_is, DL.q_isB, DL.q_inT, DL.q_inL, DL.q_inS, DL.q_inM, DL.q_eq, DL.q_rd, DL.q_ord, DL.q_ix, DL.q_tup, DL.q_tup0, DL.q_tup1, DL.q_tup2, DL.q_tup3, DL.q_eqI, DL.q_eqS, DL.q_shI, DL.q_flI, DL.q_flS, DL.q_flN, DL.q_flB, DL.q_at0, DL.q_at1, DL.q_at2, DL.q_partsT, DL.iT, DL.iS, DL.iL, DL.wAsg, DL.q_star, DL.q_gN, DL.wInTab, DL.wTab, DL.q_onDs, DL.q_dats0, DL.q_datsc, DL.q_sz0, DL.q_sz1, DL.q_sz2, DL.q_sz3, DL.q_sz4, DL.q_sz5, DL.q_sz6, DL.q_sz7, DL.q_sz11, DL.q_sz12, DL.q_keyS, DL.q_getD, DL.q_dct, DL.wInD, DL.wIxD, DL.q_ixU, DL.q_onMU, DL.q_lenU, DL.q_um, DL.q_n30, DL.q_n31, DL.q_n32, DL.q_max, DL.gIx, DL.q_map, DL.q_all0, DL.q_allc])
section
variable {P : Program} {w : World} {K : PySem.W.Frag} {mg : Str → Option Value} {base : Heap} {k : Nat}
/-- a purse of draws at q: at most n were drawn past its number -/
def PurseB (M : Mp) (q : Addr) (n : Nat) : Prop := ∃ (a b : Int) (c : Nat), M q = some (.lst [.dat (.int a), .dat (.int b), .dat (.int (c : Nat))]) ∧ 0 ≤ a ∧ 0 ≤ b ∧ b < 2147483648 ∧ c ≤ n
/-- alike but at q -/
def Off (q : Addr) (M M' : Mp) : Prop := ∀ x, x ≠ q → M' x = M x
theorem Off.refl {q : Addr} {M : Mp} : Off q M M := fun _ _ => rfl
theorem Off.trans {q : Addr} {M M1 M2 : Mp} (h : Off q M M1) (h2 : Off q M1 M2) : Off q M M2 := fun x hx => (h2 x hx).trans (h x hx)
theorem off_um {q : Addr} {M : Mp} {o : MO} : Off q M (um M q o) := fun x hx => by
  unfold um
  rw [if_neg hx]
theorem g_take {q : Addr} {n : Nat} {m : Int} {M : Mp} {P : DK} {R : DXK} (h : PurseB M q n) (hn : n < 1000000) (h0 : 0 < m) (h1 : m ≤ 1000000000000000000000000000000)
    (k : ∀ (r : Int) (M' : Mp), 0 ≤ r → r < m → PurseB M' q (n + 1) → Off q M M' → P (.dat (.int r)) M') : spTake [.ref q, .dat (.int m)] M P R := by
  obtain ⟨a, b, c, hM, ha, hb, hb2, hc⟩ := h
  refine ⟨q, m, c, rfl, h0, h1, by omega, a, b, hM, ha, hb, hb2, fun r a' c' r0 r1 a0 cc => k r _ r0 r1 ⟨a', b, c', um_same, a0, hb, hb2, by omega⟩ off_um⟩
/-- a comprehension whose every turn draws once -/
theorem lcGo_take {α : Type} {st : AV → DSt → Option DSt} {te : DTE} {δ : DSt} {D q : Addr} {fin : List AV → Mp → Prop} (hD : D ≠ q) (mk : α → AV) (Q : AV → Prop) (N : Nat) (hN : N ≤ sizeLine) :
    ∀ (l : List α) (acc : List AV) (n : Nat) (M : Mp), acc.length + l.length ≤ N → (∀ a ∈ l, ∃ f, st (mk a) δ = some f ∧ ∀ (n : Nat) (M : Mp) (P : DK) (R : DXK), n < 999000 → PurseB M q n → (∀ y M', Q y → PurseB M' q (n + 1) → Off q M M' → P y M') → te f M P R) →
      PurseB M q n → n + l.length < 999000 → M D = some (.lst acc) →
      (∀ ys M', ys.length = l.length → (∀ y ∈ ys, Q y) → PurseB M' q (n + l.length) → (∀ x, x ≠ q → x ≠ D → M' x = M x) → M' D = some (.lst (acc ++ ys)) → fin (acc ++ ys) M') →
      lcGo GT st (fun _ M P _ => P true M) te δ D fin (l.map mk) acc M
  | [], acc, n, M, _, _, hp, _, hM, k => ⟨True.intro, by simpa using k [] M rfl (fun y hy => by cases hy) hp (fun _ _ _ => rfl) (by simpa using hM)⟩
  | a :: l, acc, n, M, hl, hx, hp, hn, hM, k => by
    obtain ⟨f, h1, h2⟩ := hx a List.mem_cons_self
    simp only [List.length_cons] at hl hn
    refine ⟨True.intro, ?_⟩
    rw [h1]
    refine h2 n M _ _ (by omega) hp fun y M' qy hp' ho => ⟨(ho D hD).trans hM, by omega, ?_⟩
    have hpu : PurseB (um M' D (.lst (acc ++ [y]))) q (n + 1) := by
      obtain ⟨a, b, c, z⟩ := hp'
      exact ⟨a, b, c, (off_um q (Ne.symm hD)).trans z.1, z.2⟩
    refine lcGo_take hD mk Q N hN l (acc ++ [y]) (n + 1) _ (by simp; omega) (fun z hz => hx z (List.mem_cons_of_mem a hz)) hpu (by omega) um_same fun ys M2 hy q2 p2 o2 m2 => ?_
    have e : acc ++ [y] ++ ys = acc ++ (y :: ys) := by simp
    rw [e] at m2 ⊢
    refine k (y :: ys) M2 (by simp [hy]) (fun z hz => ?_) (by simp only [List.length_cons]; rw [show n + (l.length + 1) = n + 1 + l.length by omega]; exact p2) (fun x x1 x2 => ?_) m2
    · rcases List.mem_cons.mp hz with rfl | hz
      · exact qy
      · exact q2 z hz
    · rw [o2 x x1 x2, off_um x x2, ho x x1]
theorem PurseB.mono {M : Mp} {q : Addr} {n m : Nat} (h : PurseB M q n) (e : n ≤ m) : PurseB M q m := by
  obtain ⟨a, b, c, h1, h2, h3, h4, h5⟩ := h
  exact ⟨a, b, c, h1, h2, h3, h4, by omega⟩
theorem PurseB.um {M : Mp} {q D : Addr} {n : Nat} {o : MO} (h : PurseB M q n) (e : q ≠ D) : PurseB (um M D o) q n := by
  obtain ⟨a, b, c, z⟩ := h
  exact ⟨a, b, c, (off_um q e).trans z.1, z.2⟩
theorem names_of {p : Str → Prop} : ∀ {ys : List AV}, (∀ y ∈ ys, ∃ s, y = .dat (.str s) ∧ p s) → ∃ ns : List Str, ys = ns.map (fun s => .dat (.str s)) ∧ ∀ s ∈ ns, p s
  | [], _ => ⟨[], rfl, fun s hs => by cases hs⟩
  | y :: ys, h => by
    obtain ⟨s, rfl, hs⟩ := h y List.mem_cons_self
    obtain ⟨ns, rfl, hn⟩ := names_of fun z hz => h z (List.mem_cons_of_mem _ hz)
    refine ⟨s :: ns, rfl, fun t ht => ?_⟩
    rcases List.mem_cons.mp ht with rfl | ht
    · exact hs
    · exact hn t ht
def poolW : List PyData := [.str "get", .str "call", .str "let", .str "deed", .str "kind", .str "row", .str "wants", .str "end", .str "if", .str "done", .str "as", .str "hide"]
theorem poolW_ok : ∀ x ∈ poolW, isName x = true := List.all_eq_true.mp (by decide +kernel)
theorem cut_map {α β : Type} (f : α → β) (n : Nat) (lo hi : Option Int) (xs : List α) : cut n lo hi (xs.map f) = (cut n lo hi xs).map f := by
  unfold cut
  rw [List.map_take, List.map_drop]
theorem cut_two {α : Type} (xs : List α) (i : Int) (h0 : 0 ≤ i) (h1 : i ≤ (xs.length : Nat)) :
    cut xs.length none (some i) xs = xs.take i.toNat ∧ cut xs.length (some i) none xs = xs.drop i.toNat := by
  have e : ∀ d, HT.sIx xs.length d (some i) = i.toNat := fun d => by
    obtain ⟨k, rfl⟩ := Int.eq_ofNat_of_zero_le h0
    rw [HT.sIx_nat]
    simp only [Int.toNat_natCast]
    omega
  unfold cut
  rw [e, e]
  have e0 : HT.sIx xs.length 0 none = 0 := rfl
  have e1 : HT.sIx xs.length xs.length none = xs.length := rfl
  rw [e0, e1]
  refine ⟨by simp, ?_⟩
  rw [List.take_of_length_le]
  simp
theorem g_join {M : Mp} {k : List Str → Prop} (xs : List Str) (h1 : ∀ x ∈ xs, x.length = 1) (hl : xs.length ≤ 1000) (hk : k xs) :
    onO (rowA M (.dat (.list (xs.map .str)))) fun zs => onO (strsOf zs) fun ys => (ys.map fun x => x.length).sum + ys.length * (Str.ofString "").length ≤ 16777216 ∧ k ys := by
  refine onO_mk rfl (onO_mk (x := xs) ?_ ⟨?_, hk⟩)
  · rw [List.map_map]
    exact strsOf_strs xs
  · have e : (xs.map fun x => x.length).sum = xs.length := by
      clear hk hl
      induction xs with
      | nil => rfl
      | cons x r ih =>
        rw [List.map_cons, List.sum_cons, ih fun y hy => h1 y (List.mem_cons_of_mem x hy), h1 x List.mem_cons_self, List.length_cons]
        omega
    have e0 : (Str.ofString "").length = 0 := by decide +kernel
    rw [e, e0]
    omega
theorem forGo_inv {α : Type} {g : DTG} {b : DTS} {E : DEnds} (mk : α → AV) (I : Nat → DSt → Mp → Prop) :
    ∀ (l : List α) (i : Nat) (δ : DSt) (M : Mp), I i δ M → (∀ a ∈ l, ∀ (j : Nat) (δ : DSt) (M : Mp) (E' : DEnds), j < i + l.length → I j δ M → E'.rt = E.rt → E'.bk = E.nx → E'.xp = E.xp → (∀ δ' M', I (j + 1) δ' M' → E'.nx δ' M' ∧ E'.ct δ' M') → g (mk a) δ M (fun δ1 M1 => b E' δ1 M1) fun c fs M1 => E.xp c fs δ M1) →
      (∀ δ M, I (i + l.length) δ M → E.nx δ M) → forGo GT g b E (l.map mk) δ M
  | [], i, δ, M, h, _, hn => ⟨True.intro, hn δ M h⟩
  | a :: l, i, δ, M, h, hs, hn => by
    refine ⟨True.intro, ?_⟩
    refine hs a List.mem_cons_self i δ M { nx := forGo GT g b E (l.map mk), rt := E.rt, bk := E.nx, ct := forGo GT g b E (l.map mk), xp := E.xp } (by simp) h rfl rfl rfl fun δ' M' h' => ?_
    have z := forGo_inv mk I l (i + 1) δ' M' h' (fun c hc j δ M E' hj => hs c (List.mem_cons_of_mem a hc) j δ M E' (by rw [List.length_cons]; omega)) fun δ M h => hn δ M (by
      rw [List.length_cons, show i + (l.length + 1) = i + 1 + l.length by omega]
      exact h)
    exact ⟨z, z⟩
theorem inNo {z : Str} (h : anyIn (.str z) noNames = true) : isName (.str (Str.ofString "x" ++ z)) = true := by
  unfold anyIn noNames at h
  simp only [List.any_cons, List.any_nil, Bool.or_false, Bool.or_eq_true] at h
  have ev : ∀ a b : Str, PyData.eqv (.str a) (.str b) = true → a = b := fun a b h => by
    rw [q_eqS] at h
    exact of_decide_eq_true h
  rcases h with h | h | h
  · rw [← ev _ _ h]
    decide +kernel
  · rw [← ev _ _ h]
    decide +kernel
  · rw [← ev _ _ h]
    decide +kernel
theorem mul01 {x : Str} {i : Int} (h : i = 0 ∨ i = 1) : MulOk x i ∧ (Txt.mul x i = Str.empty ∨ Txt.mul x i = x) := by
  rcases h with rfl | rfl
  · exact ⟨⟨by decide, fun h => absurd (by decide) h, fun h => absurd (by decide) h⟩, .inl rfl⟩
  · refine ⟨⟨by decide, fun _ h => ?_, fun _ h => ?_⟩, .inr ?_⟩
    · cases h
    · cases h
    · rfl
/-- the law's pool: a fresh list of names -/
def spPool : DSp := fun xs M P _ => ∃ (q : Addr) (n size : Nat), xs = [.ref q, .dat (.int (size : Nat))] ∧ PurseB M q n ∧ n + 100 < 900000 ∧ size ≤ 60 ∧
  ∀ (D : Addr) (names : List Str) (M' : Mp), D ≠ q → M D = none → M' D = some (.lst (names.map fun s => .dat (.str s))) → PurseB M' q (n + 100) → (∀ x, x ≠ q → x ≠ D → M' x = M x) → names.length = size → (∀ s ∈ names, isName (.str s) = true) → P (.ref D) M'
theorem ok__law_pool (T : Facts K mg w) : GOk P w K mg base CX0 4 "_law_pool" ["purse", "size"] spPool := by
  have G__law_take := ok__law_take (P := P) (base := base) T
  obtain ⟨f, fd, D⟩ := T.d__law_pool
  refine gok_of D sc__law_pool ?_ fun cdv A out s H E hr hgd => ?_
  · rintro xs M P R ⟨d, n, c, rfl, h⟩
    rfl
  have hu := Room.units hr
  have hu66 : (A.deeper (envOfC "_law_pool" (defScope s__law_pool) s.heap.objs.size f cdv)).units + 66 < cLine := by
    have := hr.un
    omega
  refine ⟨_, (dss_cons (ds_setP (ps_set (i := 2) sc__law_pool.nd rfl (Or.inr rfl) de_str))
    (dss_cons (ds_setP (ps_set (i := 3) sc__law_pool.nd rfl (Or.inl rfl) (de_call G__law_take (hr.mono (by omega)) hgd (by rfl) pat0 (da_cons (de_var (pv 0)) (da_cons de_int da_nil)))))
    (dss_cons (ds_setP (ps_set (i := 4) sc__law_pool.nd rfl (Or.inr rfl) (de_call G__law_take (hr.mono (by omega)) hgd (by rfl) pat0 (da_cons (de_var (pv 0)) (da_cons de_int da_nil)))))
    (dss_cons (ds_setP (ps_set (i := 5) sc__law_pool.nd rfl (Or.inr rfl) (de_ix (de_lst (da_cons de_int (da_cons de_int (da_cons de_int (da_cons de_int da_nil))))) (de_call G__law_take (hr.mono (by omega)) hgd (by rfl) pat0 (da_cons (de_var (pv 0)) (da_cons de_int da_nil))) (fun _ _ => rfl))))
    (dss_cons (ds_if (dt_cmp (do_eqM hu) (de_var (pv 3)) de_int (by rfl))
      (dss_cons (ds_setP (ps_set (i := 6) sc__law_pool.nd rfl (Or.inr rfl) (de_lst (da_cons de_str (da_cons de_str (da_cons de_str (da_cons de_str (da_cons de_str (da_cons de_str (da_cons de_str (da_cons de_str (da_cons de_str (da_cons de_str (da_cons de_str (da_cons de_str da_nil)))))))))))))))
    (dss_one (ds_ret (de_lcM (own := [("k", 12)]) rfl sc__law_pool.nd (di_R1 (by rfl) T.m_range (de_var (pv 1))) (blkOk_by (own := [("k", 12)]) (N := N__law_pool) (sc := defScope s__law_pool) (by decide +kernel)) (ct_name (i := 12)) (fun _ _ _ _ _ => pg_name (i := 12) sc__law_pool.nd rfl (Or.inl rfl)) (fun _ _ _ _ _ => dts_nil) (fun _ _ _ _ _ => (de_ix (de_var (pv 6)) (de_op do_mod (de_op do_add (de_var (pv 4)) (de_op do_mul (de_var (pv 5)) (de_var (pv 12)))) de_int) (fun _ _ => rfl)))))))
      dss_nil)
    (dss_cons (ds_setLc (ct_name (i := 12)) (ps_setLc (own := [("k", 12)]) (i := 7) rfl sc__law_pool.nd rfl rfl (sw_true rfl rfl rfl (by decide +kernel)) (di_R1 (by rfl) T.m_range (de_call G__law_take (hr.mono (by omega)) hgd (by rfl) pat0 (da_cons (de_var (pv 0)) (da_cons de_int da_nil)))) (blkOk_by (own := [("k", 12)]) (N := N__law_pool) (sc := defScope s__law_pool) (by decide +kernel)) (fun _ _ _ _ _ => pg_name (i := 12) sc__law_pool.nd rfl (Or.inl rfl)) (fun _ _ _ _ _ => dts_nil) (fun _ _ _ _ _ => (de_ix (de_var (pv 2)) (de_call G__law_take (hr.mono (by omega)) hgd (by rfl) pat0 (da_cons (de_var (pv 0)) (da_cons de_int da_nil))) (fun _ _ => rfl)))))
    (dss_cons (ds_setP (ps_set (i := 8) sc__law_pool.nd rfl (Or.inl rfl) (de_call G__law_take (hr.mono (by omega)) hgd (by rfl) pat0 (da_cons (de_var (pv 0)) (da_cons (de_op do_add (de_len (by rfl) T.m_len (de_var (pv 7))) de_int) da_nil)))))
    (dss_cons (ds_par (ps_par (i := 9) (j := 10) rfl sc__law_pool.nd rfl rfl (by decide) rfl rfl (da_cons (de_join de_str (de_sl (de_var (pv 7)) do_none (do_some (de_var (pv 8))))) (da_cons (de_join de_str (de_sl (de_var (pv 7)) (do_some (de_var (pv 8))) do_none)) da_nil)) rfl))
    (dss_cons (ds_setP (ps_set (i := 11) sc__law_pool.nd rfl (Or.inl rfl) (de_lstM da_nil)))
    (dss_cons (ds_for (passes_of rfl) rfl (di_R1 (by rfl) T.m_range (de_var (pv 1))) (dg_name (pg_name (i := 12) sc__law_pool.nd rfl (Or.inl rfl)))
      (dss_cons (ds_setP (ps_set (i := 13) sc__law_pool.nd rfl (Or.inl rfl) (de_op do_add (de_op do_add (de_var (pv 9)) (de_ix (de_var (pv 2)) (de_op do_mod (de_op do_add (de_var (pv 4)) (de_op do_mul (de_var (pv 5)) (de_var (pv 12)))) de_int) (fun _ _ => rfl))) (de_var (pv 10)))))
    (dss_cons (ds_setP (ps_set (i := 13) sc__law_pool.nd rfl (Or.inl rfl) (de_if (dt_cmp (do_eqM hu) (de_var (pv 3)) de_int (by rfl)) (de_op do_add (de_var (pv 13)) (de_op do_mul (de_ix (de_var (pv 2)) (de_var (pv 4)) (fun _ _ => rfl)) (de_op do_mod (de_var (pv 12)) de_int))) (de_var (pv 13)))))
    (dss_one (ds_expr (de_append (de_var (pv 11)) (de_if (dt_cmp do_in (de_var (pv 13)) (de_tup (da_cons de_str (da_cons de_str (da_cons de_str da_nil)))) (by rfl)) (de_op do_add de_str (de_var (pv 13))) (de_var (pv 13)))))))))
    (dss_one (ds_ret (de_var (pv 11)))))))))))))), ?_⟩
  rintro xs M P R ⟨q, n, size, rfl, hp, hn, hs, h⟩
  trivial
  refine g_take hp (by omega) (by decide) (by decide) fun way M1 w0 w1 hp1 o1 => ?_
  trivial
  refine g_take hp1 (by omega) (by decide) (by decide) fun first M2 f0 f1 hp2 o2 => ?_
  refine g_take hp2 (by omega) (by decide) (by decide) fun step M3 s0 s1 hp3 o3 => ?_
  obtain ⟨z, ⟨z0, z1⟩, ez⟩ : ∃ z : Int, (1 ≤ z ∧ z ≤ 11) ∧ atI [PyData.int 1, PyData.int 5, PyData.int 7, PyData.int 11] step = some (.int z) := by
    obtain ⟨x, hx, e⟩ := atI_mem [PyData.int 1, PyData.int 5, PyData.int 7, PyData.int 11] step s0 s1
    rw [e]
    simp only [List.mem_cons, List.not_mem_nil, or_false] at hx
    rcases hx with rfl | rfl | rfl | rfl
    · exact ⟨1, by decide, rfl⟩
    · exact ⟨5, by decide, rfl⟩
    · exact ⟨7, by decide, rfl⟩
    · exact ⟨11, by decide, rfl⟩
  trivial
  rw [ez]
  trivial
  have o3' : Off q M M3 := o1.trans (o2.trans o3)
  refine ifB (fun e => ?_) fun e => ?_
  · unfold wLcM iR1
    trivial
    refine ⟨⟨by omega, by omega⟩, fun D hD => ?_⟩
    have hDq : D ≠ q := fun e => by
      obtain ⟨a, b, c, hq, _⟩ := hp3
      rw [e, hq] at hD
      cases hD
    refine lcGo_take hDq (fun k : Nat => .dat (.int (k : Nat))) (fun y => ∃ s, y = .dat (.str s) ∧ isName (.str s) = true) 100000 (by decide) (List.range (size : Int).toNat) [] (n + 3) _ (by simp; omega) (fun k hk => ⟨_, rfl, fun n M P R hn hp h => ?_⟩) ?_ ?_ um_same ?_
    · trivial
      have hk' : k < 60 := by
        have := List.mem_range.mp hk
        omega
      obtain ⟨x, hx, ex⟩ := atI_mem poolW ((first + z * (k : Nat)) % 12) (Int.emod_nonneg _ (by decide)) (Int.emod_lt_of_pos _ (by decide))
      refine ⟨.inl ⟨by omega, by omega⟩, by decide, ?_⟩
      show onO (Option.map AV.dat (atI poolW ((first + z * (k : Nat)) % 12))) _
      rw [ex]
      have nx : isName x = true := poolW_ok x hx
      obtain ⟨s, rfl⟩ : ∃ s, x = .str s := by
        cases x <;> first | exact ⟨_, rfl⟩ | cases nx
      exact h _ M ⟨s, rfl, nx⟩ (hp.mono (by omega)) Off.refl
    · exact hp3.um (Ne.symm hDq)
    · simp
      omega
    · intro ys M' hl hy hp' ho hM
      obtain ⟨names, rfl, hn⟩ := names_of hy
      rw [List.length_map] at hl
      refine h D names M' hDq ?_ hM (hp'.mono (by simp; omega)) (fun x h1 h2 => ?_) (by simpa using hl) hn
      · rw [← o3' D hDq, hD]
      · rw [ho x h1 h2, off_um x h2, o3' x h1]
  · unfold wLc iR1
    trivial
    refine g_take hp3 (by omega) (by decide) (by decide) fun m M4 m0 m1 hp4 o4 => ?_
    trivial
    refine ⟨⟨by omega, by omega⟩, fun D hD => ?_⟩
    have hDq : D ≠ q := fun e => by
      obtain ⟨a, b, c, hq, _⟩ := hp4
      rw [e, hq] at hD
      cases hD
    refine lcGo_take hDq (fun k : Nat => .dat (.int (k : Nat))) (fun y => ∃ s, y = .dat (.str s) ∧ Lt s ∧ s.length = 1) 100000 (by decide) (List.range m.toNat) [] (n + 4) _ (by simp; omega) (fun k hk => ⟨_, rfl, fun n M P R hn hp h => ?_⟩) (hp4.um (Ne.symm hDq)) (by simp; omega) um_same ?_
    · trivial
      refine g_take hp (by omega) (by decide) (by decide) fun r M' r0 r1 hp' o' => ?_
      trivial
      obtain ⟨c, hc, ec⟩ := lett_at (M := M') r0 r1
      refine onO_mk ec ?_
      exact h _ M' ⟨_, rfl, lt_chr hc, rfl⟩ hp' o'
    · intro ys M5 hl hy hp5 ho5 hM5
      obtain ⟨stem, rfl, hst⟩ := names_of hy
      rw [List.length_map] at hl
      have hsl : stem.length ≤ 6 := by
        rw [hl]
        simp
        omega
      refine ⟨hM5, ?_⟩
      rw [List.nil_append]
      have em : stem.map (fun s => AV.dat (.str s)) = (stem.map PyData.str).map AV.dat := by
        rw [List.map_map]
        rfl
      rw [em]
      refine onO_mk (datsOf_dats _) ?_
      have o5 : Off q M3 (dm M5 D) := fun x hx => by
        unfold dm
        by_cases e : x = D
        · rw [if_pos e, e, ← o4 D hDq, hD]
        · rw [if_neg e, ho5 x hx e, off_um x e, o4 x hx]
      have hp6 : PurseB (dm M5 D) q (n + 11) := by
        obtain ⟨a, b, c, z1, z2, z3, z4, z5⟩ := hp5
        refine ⟨a, b, c, ?_, z2, z3, z4, ?_⟩
        · unfold dm
          rw [if_neg (Ne.symm hDq)]
          exact z1
        · simp at z5
          omega
      generalize dm M5 D = M6 at o5 hp6
      rw [List.length_map]
      refine g_take hp6 (by omega) (by omega) (by omega) fun at' M7 a0 a1 hp7 o7 => ?_
      unfold wPar wJoin wSlice wNoPart wPart wSl
      trivial
      obtain ⟨ct1, ct2⟩ := cut_two stem at' a0 (by omega)
      rw [List.length_map, cut_map, cut_map, ct1, ct2]
      have hst1 : ∀ x ∈ stem.take at'.toNat, Lt x ∧ x.length = 1 := fun x hx => hst x (List.mem_of_mem_take hx)
      have hst2 : ∀ x ∈ stem.drop at'.toNat, Lt x ∧ x.length = 1 := fun x hx => hst x (List.mem_of_mem_drop hx)
      have l1 : (stem.take at'.toNat).length ≤ 6 := by rw [List.length_take]; omega
      have l2 : (stem.drop at'.toNat).length ≤ 6 := by rw [List.length_drop]; omega
      have l12 : (stem.take at'.toNat).length + (stem.drop at'.toNat).length ≤ 6 := by rw [List.length_take, List.length_drop]; omega
      obtain ⟨j1, j1l⟩ := lt_join (fun x hx => (hst1 x hx).1) fun x hx => (hst1 x hx).2
      obtain ⟨j2, j2l⟩ := lt_join (fun x hx => (hst2 x hx).1) fun x hx => (hst2 x hx).2
      refine g_join _ (fun x hx => (hst1 x hx).2) (by omega) ?_
      refine g_join _ (fun x hx => (hst2 x hx).2) (by omega) ?_
      have ee : Str.ofString "" = Str.empty := by decide +kernel
      rw [ee]
      rw [← j1l, ← j2l] at l12
      generalize Txt.join Str.empty (stem.take at'.toNat) = hd at j1 l12 ⊢
      generalize Txt.join Str.empty (stem.drop at'.toNat) = tl at j2 l12 ⊢
      intro D2 hD2
      have hD2q : D2 ≠ q := fun e => by
        obtain ⟨a, b, c, hq, _⟩ := hp7
        rw [e, hq] at hD2
        cases hD2
      unfold wFor
      trivial
      refine ⟨⟨by omega, by omega⟩, ?_⟩
      refine forGo_inv (fun k : Nat => .dat (.int (k : Nat))) (fun j δ M => (∃ o12 o13, δ = [some (.ref q), some (.dat (.int (size : Nat))), some (.dat (.str lettersZ)), some (.dat (.int way)), some (.dat (.int first)), some (.dat (.int z)), none, some (.dat (.list (stem.map .str))), some (.dat (.int at')), some (.dat (.str hd)), some (.dat (.str tl)), some (.ref D2), o12, o13]) ∧
        PurseB M q (n + 12) ∧ (∀ x, x ≠ q → x ≠ D2 → M x = M7 x) ∧ ∃ names : List Str, M D2 = some (.lst (names.map fun s => .dat (.str s))) ∧ names.length = j ∧ ∀ s ∈ names, isName (.str s) = true) (List.range (size : Int).toNat) 0 _ _ ?_ ?_ ?_
      · exact ⟨⟨none, none, rfl⟩, hp7.um (Ne.symm hD2q), fun x _ h2 => off_um x h2, [], um_same, rfl, fun s hs => by cases hs⟩
      · rintro k hk j δ M E' hjb ⟨⟨o12, o13, rfl⟩, hpj, hoj, names, hMj, hlj, hnj⟩ e1 e2 e3 hnx
        unfold gN
        trivial
        have hk' : k < 60 := by
          have := List.mem_range.mp hk
          omega
        obtain ⟨c1, hc1, ec1⟩ := lett_at (M := M) (Int.emod_nonneg (first + z * (k : Nat)) (b := 26) (by decide)) (Int.emod_lt_of_pos _ (by decide))
        refine ⟨.inl ⟨by omega, by omega⟩, by decide, onO_mk ec1 ?_⟩
        trivial
        have hS : 1000 ≤ sizeLine := by decide
        have c1l : (⟨#[c1]⟩ : Str).length = 1 := rfl
        have nl : (hd ++ (⟨#[c1]⟩ : Str) ++ tl).length = hd.length + 1 + tl.length := by rw [len_app, len_app, c1l]
        have nlt : Lt (hd ++ (⟨#[c1]⟩ : Str) ++ tl) := lt_app (lt_app j1 (lt_chr hc1)) j2
        refine ⟨by omega, by rw [len_app, c1l]; omega, ?_⟩
        generalize hd ++ (⟨#[c1]⟩ : Str) ++ tl = nm at nl nlt
        have fin : ∀ nm : Str, Lt nm → 1 ≤ nm.length → nm.length ≤ 8 → wAppend (wVar 11) (wIfE (wB (wOp (wIn false) (wVar 13) (wTup (wCons (wC (.str (Str.ofString "me"))) (wCons (wC (.str (Str.ofString "here"))) (wCons (wC (.str (Str.ofString "none"))) wNil)))))) (wOp wAdd (wC (.str (Str.ofString "x"))) (wVar 13)) (wVar 13))
            [some (.ref q), some (.dat (.int (size : Nat))), some (.dat (.str lettersZ)), some (.dat (.int way)), some (.dat (.int first)), some (.dat (.int z)), none, some (.dat (.list (stem.map .str))), some (.dat (.int at')), some (.dat (.str hd)), some (.dat (.str tl)), some (.ref D2), some (.dat (.int (k : Nat))), some (.dat (.str nm))] M
            (fun x M1 => E'.nx [some (.ref q), some (.dat (.int (size : Nat))), some (.dat (.str lettersZ)), some (.dat (.int way)), some (.dat (.int first)), some (.dat (.int z)), none, some (.dat (.list (stem.map .str))), some (.dat (.int at')), some (.dat (.str hd)), some (.dat (.str tl)), some (.ref D2), some (.dat (.int (k : Nat))), some (.dat (.str nm))] M1)
            (fun c fs M1 => E'.xp c fs [some (.ref q), some (.dat (.int (size : Nat))), some (.dat (.str lettersZ)), some (.dat (.int way)), some (.dat (.int first)), some (.dat (.int z)), none, some (.dat (.list (stem.map .str))), some (.dat (.int at')), some (.dat (.str hd)), some (.dat (.str tl)), some (.ref D2), some (.dat (.int (k : Nat))), some (.dat (.str nm))] M1) := by
          intro nm nlt n1 n8
          unfold wAppend
          trivial
          refine onM_mk hMj ?_
          have put : ∀ s : Str, isName (.str s) = true → onM M (.ref D2) fun a xs => xs.length < sizeLine ∧ E'.nx [some (.ref q), some (.dat (.int (size : Nat))), some (.dat (.str lettersZ)), some (.dat (.int way)), some (.dat (.int first)), some (.dat (.int z)), none, some (.dat (.list (stem.map .str))), some (.dat (.int at')), some (.dat (.str hd)), some (.dat (.str tl)), some (.ref D2), some (.dat (.int (k : Nat))), some (.dat (.str nm))] (um M a (.lst (xs ++ [.dat (.str s)]))) := fun s hs => by
            refine onM_mk hMj ⟨?_, ?_⟩
            · rw [List.length_map, hlj]
              simp at hjb
              omega
            · refine (hnx _ _ ⟨⟨_, _, rfl⟩, hpj.um (Ne.symm hD2q), fun x h1 h2 => (off_um x h2).trans (hoj x h1 h2), names ++ [s], ?_, by simp [hlj], fun t ht => ?_⟩).1
              · rw [um_same, List.map_append]
                rfl
              · rcases List.mem_append.mp ht with ht | ht
                · exact hnj t ht
                · rw [List.mem_singleton.mp ht]
                  exact hs
          refine ifB (fun e => ⟨?_, put _ (inNo e)⟩) fun e => put _ (lt_name nlt n1 n8 e)
          have xl : (Str.ofString "x").length = 1 := by decide +kernel
          omega
        refine ifB (fun e => ?_) fun e => ?_
        · obtain ⟨c2, hc2, ec2⟩ := lett_at (M := M) f0 f1
          refine onO_mk ec2 ⟨by decide, ?_⟩
          trivial
          obtain ⟨mo, mv⟩ := mul01 (x := (⟨#[c2]⟩ : Str)) (i := (k : Nat) % 2) (by omega)
          have ml : Lt (Txt.mul (⟨#[c2]⟩ : Str) ((k : Nat) % 2)) ∧ (Txt.mul (⟨#[c2]⟩ : Str) ((k : Nat) % 2)).length ≤ 1 := by
            rcases mv with e | e
            · rw [e]
              exact ⟨lt_nil, by decide⟩
            · rw [e]
              exact ⟨lt_chr hc2, Nat.le_refl 1⟩
          exact ⟨mo, by omega, fin _ (lt_app nlt ml.1) (by rw [len_app]; omega) (by rw [len_app]; omega)⟩
        · exact fin nm nlt (by omega) (by omega)
      · rintro δ M ⟨⟨o12, o13, rfl⟩, hpj, hoj, names, hMj, hlj, hnj⟩
        trivial
        refine h D2 names M hD2q ?_ hMj (hpj.mono (by omega)) (fun x h1 h2 => ?_) (by simpa using hlj) hnj
        · rw [← o3' D2 hD2q, ← o5 D2 hD2q, ← o7 D2 hD2q, hD2]
        · rw [hoj x h1 h2, o7 x h1, o5 x h1, o3' x h1]

end
end K13
end
section
set_option Elab.async false
set_option linter.all false
set_option maxRecDepth 100000
set_option maxHeartbeats 400000
namespace K13
open PySem PySem.Spec L2 DL DX
open PyProof.Rows hiding St
local macro_rules | `(tactic| trivial) => `(tactic| simp only [DL.wSeq, DL.wNext, DL.wRet, DL.wDrop, DL.wIf, DL.wSet, DL.wC, DL.wVar, DL.wOp, DL.wAnd, DL.wOr, DL.wNot, DL.wB, DL.wAndV, DL.wOrV, DL.wNotV, DL.wIfE, DL.wChain, DL.wIsi, DL.wUn, DL.wLen, DL.wCall, DL.wNil, DL.wCons, DL.wTup, DL.wLst, DL.wLstM, DL.wNeg, DL.isT, String.reduceBEq, Bool.or_false, Bool.false_or, Bool.or_true, Bool.true_or, Bool.or_self, Bool.and_self, DL.wGt, DL.wGe, DL.dstart, List.map_cons, List.map_nil, List.length_cons, List.length_nil, List.cons_append, List.nil_append, List.getElem?_cons_zero, List.getElem?_cons_succ, Option.some.injEq, exists_eq_left', exists_eq_left, List.set_cons_zero, List.set_cons_succ, decide_true, decide_false, Bool.true_and, Bool.and_true, Bool.false_and, Bool.and_false, true_and, Bool.not_true, Bool.not_false, if_true, if_false, reduceIte, Bool.false_eq_true, bne_self_eq_false, DL.bne_f, DL.bne_t, List.getElem?_nil, Nat.reduceAdd, Nat.reduceSub, List.replicate_succ, List.replicate_zero, DL.q_onO, DL.q_onO0, DL.q_onB, DL.q_onI, DL.q_onS, DL.q_onL, DL.q_ty, DL.q_tyT, DL.q_ty0, DL.q_ty1, DL.q_ty2, DL.q_ty3, DL.q_ty4, DL.q_ty5, DL.q_ty6, DL.q_lenT, DL.q_lenL, DL.q_lenS, DL.q_ixT, DL.q_ixL, DL.q_ixA, DL.q_leI, DL.q_leS, DL.q_ltI, DL.q_ltS, DL.q_I0, DL.q_II, DL.q_sub, DL.q_addI, DL.q_addS, DL.q_addT, DL.q_addL, DL.q_mulI, DL.q_mulS, DL.q_none, DL.q_noneR, DL.q_is, DL.q_isB, DL.q_inT, DL.q_inL, DL.q_inS, DL.q_inM, DL.q_eq, DL.q_rd, DL.q_ord, DL.q_ix, DL.q_tup, DL.q_tup0, DL.q_tup1, DL.q_tup2, DL.q_tup3, DL.q_eqI, DL.q_eqS, DL.q_shI, DL.q_flI, DL.q_flS, DL.q_flN, DL.q_flB, DL.q_at0, DL.q_at1, DL.q_at2, DL.q_partsT, DL.iT, DL.iS, DL.iL, DL.wAsg, DL.q_star, DL.q_gN, DL.wInTab, DL.wTab, DL.q_onDs, DL.q_dats0, DL.q_datsc, DL.q_sz0, DL.q_sz1, DL.q_sz2, DL.q_sz3, DL.q_sz4, DL.q_sz5, DL.q_sz6, DL.q_sz7, DL.q_sz11, DL.q_sz12, DL.q_keyS, DL.q_getD, DL.q_dct, DL.wInD, DL.wIxD, DL.q_ixU, DL.q_onMU, DL.q_lenU, DL.q_um, DL.q_n30, DL.q_n31, DL.q_n32, DL.q_max, DL.gIx, DL.q_map, DL.q_all0, DL.q_allc])
section
variable {P : Program} {w : World} {K : PySem.W.Frag} {mg : Str → Option Value} {base : Heap} {k : Nat}
/-- the law's rules, made of a pool -/
def worths : List PyData := [.none, .int 5, .int (-1000000000), .str "a b", .tuple [.str "thing", .int 999], .tuple [.str "row", .tuple [.tuple [.str "row", .tuple []], .int 7]]]
def Made (r : PyData) : Prop := ∃ nm, isName (.str nm) = true ∧ (r = .tuple [.str "hide", .str nm] ∨ r = .tuple [.str "bar", .str nm] ∨ (∃ ot, isName (.str ot) = true ∧ r = .tuple [.str "as", .str nm, .str ot]) ∨ (∃ x ∈ worths, r = .tuple [.str "give", .str nm, x]) ∨ r = .tuple [.str "count", .str nm])
def spMade : DSp := fun xs M P _ => ∃ (q p : Addr) (n : Nat) (names : List Str), xs = [.ref q, .ref p] ∧ PurseB M q n ∧ n + 200 < 900000 ∧ p ≠ q ∧ M p = some (.lst (names.map fun s => .dat (.str s))) ∧ 0 < names.length ∧ names.length ≤ 60 ∧ (∀ s ∈ names, isName (.str s) = true) ∧
  ∀ (ds : List PyData) (M' : Mp), PurseB M' q (n + 200) → (∀ x, x ≠ q → (M' x = M x ∨ M x = none)) → areRules (.tuple ds) = true → (∀ r ∈ ds, Made r) → P (.dat (.tuple ds)) M'
theorem pool_len {M : Mp} {p : Addr} {names : List Str} (h : M p = some (.lst (names.map fun s => .dat (.str s)))) : lenA M (.ref p) = some names.length := by
  unfold lenA
  simp only [h, List.length_map]
theorem pool_at {M : Mp} {p : Addr} {names : List Str} {i : Int} (h : M p = some (.lst (names.map fun s => .dat (.str s)))) (h0 : 0 ≤ i) (h1 : i < (names.length : Nat)) : ∃ s ∈ names, itemA M (.ref p) i = some (.dat (.str s)) := by
  obtain ⟨s, hs, e⟩ := atI_mem names i h0 h1
  refine ⟨s, hs, ?_⟩
  unfold itemA
  simp only [h]
  rw [atI_map, e]
  rfl
theorem count_led {fs : List PyData} {r : PyData} (h : headW r = "count") : led (fs ++ [r]) = led fs ∧ counted (fs ++ [r]) = counted fs ++ [nameW r] := by
  unfold led counted
  simp [h]
theorem led_led {fs : List PyData} {r : PyData} (h : headW r ≠ "count") : led (fs ++ [r]) = led fs ++ [nameW r] ∧ counted (fs ++ [r]) = counted fs := by
  unfold led counted
  simp [h]
theorem worths_ok : ∀ x ∈ worths, isWorth x = true := List.all_eq_true.mp (by decide +kernel)
theorem isR_hide {nm : Str} (h : isName (.str nm) = true) : isRule (.tuple [.str "hide", .str nm]) = true := by
  show ((tabGet lens "hide").isSome && (decide (((1 : Nat) : Int) + 1 = lenOf "hide") && (isName (.str nm) && tailB "hide" []))) = true
  rw [h]
  decide +kernel
theorem isR_bar {nm : Str} (h : isName (.str nm) = true) : isRule (.tuple [.str "bar", .str nm]) = true := by
  show ((tabGet lens "bar").isSome && (decide (((1 : Nat) : Int) + 1 = lenOf "bar") && (isName (.str nm) && tailB "bar" []))) = true
  rw [h]
  decide +kernel
theorem isR_count {nm : Str} (h : isName (.str nm) = true) : isRule (.tuple [.str "count", .str nm]) = true := by
  show ((tabGet lens "count").isSome && (decide (((1 : Nat) : Int) + 1 = lenOf "count") && (isName (.str nm) && tailB "count" []))) = true
  rw [h]
  decide +kernel
theorem isR_as {nm ot : Str} (h : isName (.str nm) = true) (h2 : isName (.str ot) = true) : isRule (.tuple [.str "as", .str nm, .str ot]) = true := by
  show ((tabGet lens "as").isSome && (decide (((2 : Nat) : Int) + 1 = lenOf "as") && (isName (.str nm) && (if decide ((Str.ofString "as") = Str.ofString "as") = true then isName (.str ot) else (!decide ((Str.ofString "as") = Str.ofString "give") || isWorth (.str ot)))))) = true
  rw [h, h2, if_pos (by decide +kernel)]
  decide +kernel
theorem isR_give {nm : Str} {x : PyData} (h : isName (.str nm) = true) (h2 : isWorth x = true) : isRule (.tuple [.str "give", .str nm, x]) = true := by
  show ((tabGet lens "give").isSome && (decide (((2 : Nat) : Int) + 1 = lenOf "give") && (isName (.str nm) && (if decide ((Str.ofString "give") = Str.ofString "as") = true then isName x else (!decide ((Str.ofString "give") = Str.ofString "give") || isWorth x))))) = true
  rw [h, h2, if_neg (by decide +kernel), Bool.or_true]
  decide +kernel
theorem made_ok {ds : List PyData} (hm : ∀ r ∈ ds, Made r) (h1 : (led ds).Nodup) (h2 : (counted ds).Nodup) (hl : ds.length ≤ 8) : areRules (.tuple ds) = true := by
  show rulesB ds = true
  have nt : ∀ xs : List Str, xs.Nodup → noTwice xs = true := fun xs h => by
    unfold noTwice
    rw [ddUp_nodup _ xs rfl h]
    simp
  unfold rulesB
  rw [nt _ h1, nt _ h2, decide_eq_true (by omega : (ds.length : Int) ≤ 8), List.all_eq_true.mpr fun r hr => ?_]
  · rfl
  · obtain ⟨nm, hn, h⟩ := hm r hr
    rcases h with rfl | rfl | ⟨ot, ho, rfl⟩ | ⟨x, hx, rfl⟩ | rfl
    · exact isR_hide hn
    · exact isR_bar hn
    · exact isR_as hn ho
    · exact isR_give hn (worths_ok x hx)
    · exact isR_count hn
theorem g_app {i j : Nat} {δ : DSt} {M : Mp} {P : DK} {R : DXK} {a : Addr} {x : AV} {xs : List AV} (hi : δ[i]? = some (some (.ref a))) (hj : δ[j]? = some (some x)) (hM : M a = some (.lst xs)) (hl : xs.length < sizeLine) (h : P (.dat .none) (um M a (.lst (xs ++ [x])))) :
    wAppend (wVar i) (wVar j) δ M P R := ⟨_, hi, onM_mk hM ⟨_, hj, onM_mk hM ⟨hl, h⟩⟩⟩
theorem flat_strs (xs : List Str) : (xs.map PyData.str).all flatD = true := by
  rw [List.all_map]
  exact List.all_eq_true.mpr fun _ _ => rfl
theorem notIn_strs {s : Str} {xs : List Str} (h : anyIn (.str s) (xs.map .str) = false) : s ∉ xs := fun hm => by
  unfold anyIn at h
  rw [List.any_map] at h
  have := List.any_eq_false.mp h s hm
  simp only [Function.comp, q_eqS, decide_true] at this
  exact this True.intro
theorem dats_strs (xs : List Str) : xs.map (fun s => AV.dat (.str s)) = (xs.map PyData.str).map .dat := by
  rw [List.map_map]
  rfl
theorem nodup_snoc {xs : List Str} {s : Str} (h : xs.Nodup) (hn : s ∉ xs) : (xs ++ [s]).Nodup := by
  rw [List.nodup_append]
  exact ⟨h, by simp, fun a ha b hb e => hn (by rw [← List.mem_singleton.mp hb, ← e]; exact ha)⟩
theorem ok__law_rules (T : Facts K mg w) : GOk P w K mg base CX0 4 "_law_rules" ["purse", "pool"] spMade := by
  have G__law_take := ok__law_take (P := P) (base := base) T
  obtain ⟨f, fd, D⟩ := T.d__law_rules
  refine gok_of D sc__law_rules ?_ fun cdv A out s H E hr hgd => ?_
  · rintro xs M P R ⟨d, n, c, ns, rfl, h⟩
    rfl
  have hu := Room.units hr
  have hu66 : (A.deeper (envOfC "_law_rules" (defScope s__law_rules) s.heap.objs.size f cdv)).units + 66 < cLine := by
    have := hr.un
    omega
  refine ⟨_, (dss_cons (ds_par3 (ps_par3 (i := 2) (j := 3) (l := 4) rfl sc__law_rules.nd rfl rfl rfl (by decide) (by decide) (by decide) rfl rfl rfl (da_cons (de_lstM da_nil) (da_cons (de_lstM da_nil) (da_cons (de_lstM da_nil) da_nil))) rfl))
    (dss_cons (ds_for (passes_of rfl) rfl (di_R1 (by rfl) T.m_range (de_ix (de_lst (da_cons (de_call G__law_take (hr.mono (by omega)) hgd (by rfl) pat0 (da_cons (de_var (pv 0)) (da_cons de_int da_nil))) (da_cons de_int (da_cons (de_call G__law_take (hr.mono (by omega)) hgd (by rfl) pat0 (da_cons (de_var (pv 0)) (da_cons de_int da_nil))) da_nil)))) (de_call G__law_take (hr.mono (by omega)) hgd (by rfl) pat0 (da_cons (de_var (pv 0)) (da_cons de_int da_nil))) (fun _ _ => rfl))) (dg_name (pg_name (i := 5) sc__law_rules.nd rfl (Or.inl rfl)))
      (dss_cons (ds_par (ps_par (i := 6) (j := 7) rfl sc__law_rules.nd rfl rfl (by decide) rfl rfl (da_cons (de_ix (de_var (pv 1)) (de_call G__law_take (hr.mono (by omega)) hgd (by rfl) pat0 (da_cons (de_var (pv 0)) (da_cons (de_len (by rfl) T.m_len (de_var (pv 1))) da_nil))) (fun _ _ => rfl)) (da_cons (de_ix (de_var (pv 1)) (de_call G__law_take (hr.mono (by omega)) hgd (by rfl) pat0 (da_cons (de_var (pv 0)) (da_cons (de_len (by rfl) T.m_len (de_var (pv 1))) da_nil))) (fun _ _ => rfl)) da_nil)) rfl))
    (dss_cons (ds_setP (ps_set (i := 8) sc__law_rules.nd rfl (Or.inl rfl) (de_ix (de_lst (da_cons de_non (da_cons de_int (da_cons (de_op do_sub de_int (de_op do_pow de_int de_int)) (da_cons de_str (da_cons (de_tup (da_cons de_str (da_cons de_int da_nil))) (da_cons (de_tup (da_cons de_str (da_cons (de_tup (da_cons (de_tup (da_cons de_str (da_cons (de_tup da_nil) da_nil))) (da_cons de_int da_nil))) da_nil))) da_nil))))))) (de_call G__law_take (hr.mono (by omega)) hgd (by rfl) pat0 (da_cons (de_var (pv 0)) (da_cons de_int da_nil))) (fun _ _ => rfl))))
    (dss_cons (ds_setP (ps_set (i := 9) sc__law_rules.nd rfl (Or.inl rfl) (de_ix (de_lst (da_cons (de_tup (da_cons de_str (da_cons (de_var (pv 6)) da_nil))) (da_cons (de_tup (da_cons de_str (da_cons (de_var (pv 6)) da_nil))) (da_cons (de_tup (da_cons de_str (da_cons (de_var (pv 6)) (da_cons (de_var (pv 7)) da_nil)))) (da_cons (de_tup (da_cons de_str (da_cons (de_var (pv 6)) (da_cons (de_var (pv 8)) da_nil)))) da_nil))))) (de_call G__law_take (hr.mono (by omega)) hgd (by rfl) pat0 (da_cons (de_var (pv 0)) (da_cons de_int da_nil))) (fun _ _ => rfl))))
    (dss_cons (ds_if (dt_cmp (do_eqM hu) (de_call G__law_take (hr.mono (by omega)) hgd (by rfl) pat0 (da_cons (de_var (pv 0)) (da_cons de_int da_nil))) de_int (by rfl))
      (dss_one (ds_setP (ps_set (i := 9) sc__law_rules.nd rfl (Or.inl rfl) (de_tup (da_cons de_str (da_cons (de_var (pv 6)) da_nil))))))
      dss_nil)
    (dss_cons (ds_if (dt_bool (dw_and (dt_cmp (do_eqM hu) (de_ix (de_var (pv 9)) de_int (fun _ _ => rfl)) de_str (by rfl)) (dw_and1 (dt_cmp do_notIn (de_var (pv 6)) (de_var (pv 4)) (by rfl)))))
      (dss_cons (ds_expr (de_append (de_var (pv 4)) (de_var (pv 6))))
    (dss_one (ds_expr (de_append (de_var (pv 2)) (de_var (pv 9))))))
      dss_nil)
    (dss_one (ds_if (dt_bool (dw_and (dt_cmp (do_neM hu) (de_ix (de_var (pv 9)) de_int (fun _ _ => rfl)) de_str (by rfl)) (dw_and1 (dt_cmp do_notIn (de_var (pv 6)) (de_var (pv 3)) (by rfl)))))
      (dss_cons (ds_expr (de_append (de_var (pv 3)) (de_var (pv 6))))
    (dss_one (ds_expr (de_append (de_var (pv 2)) (de_var (pv 9))))))
      dss_nil))))))))
    (dss_one (ds_ret (de_t1 c_tupOf (by rfl) T.m_tuple boot_t_tuple (de_sl (de_var (pv 2)) do_none (do_some de_int))))))), ?_⟩
  rintro xs M P R ⟨q, p, n, names, rfl, hp, hn, hpq, hM, n0, n60, hnm, h⟩
  unfold wPar3
  trivial
  intro D1 hD1 D2 hD2 D3 hD3
  unfold wFor iR1
  trivial
  have hq : M q ≠ none := fun e => by
    obtain ⟨a, b, c, hq, _⟩ := hp
    rw [hq] at e
    cases e
  have hpn : M p ≠ none := fun e => by
    rw [hM] at e
    cases e
  have d1q : D1 ≠ q := fun e => hq (e ▸ hD1)
  have d1p : D1 ≠ p := fun e => hpn (e ▸ hD1)
  have e2' : D2 ≠ D1 := fun e => by
    rw [e, um_same] at hD2
    cases hD2
  rw [off_um D2 e2'] at hD2
  have d2q : D2 ≠ q := fun e => hq (e ▸ hD2)
  have d2p : D2 ≠ p := fun e => hpn (e ▸ hD2)
  have e3 : D3 ≠ D2 := fun e => by
    rw [e, um_same] at hD3
    cases hD3
  rw [off_um D3 e3] at hD3
  have e4 : D3 ≠ D1 := fun e => by
    rw [e, um_same] at hD3
    cases hD3
  rw [off_um D3 e4] at hD3
  have d3q : D3 ≠ q := fun e => hq (e ▸ hD3)
  have d3p : D3 ≠ p := fun e => hpn (e ▸ hD3)
  have hp0 := ((hp.um (o := .lst []) (Ne.symm d1q)).um (o := .lst []) (Ne.symm d2q)).um (o := .lst []) (Ne.symm d3q)
  have o0 : ∀ x, x ≠ D1 → x ≠ D2 → x ≠ D3 → um (um (um M D1 (.lst [])) D2 (.lst [])) D3 (.lst []) x = M x := fun x h1 h2 h3 => by
    rw [off_um x h3, off_um x h2, off_um x h1]
  have m1 : um (um (um M D1 (.lst [])) D2 (.lst [])) D3 (.lst []) D1 = some (.lst []) := by
    rw [off_um D1 (Ne.symm e4), off_um D1 (Ne.symm e2'), um_same]
  have m2 : um (um (um M D1 (.lst [])) D2 (.lst [])) D3 (.lst []) D2 = some (.lst []) := by
    rw [off_um D2 (Ne.symm e3), um_same]
  have m3 : um (um (um M D1 (.lst [])) D2 (.lst [])) D3 (.lst []) D3 = some (.lst []) := um_same
  generalize um (um (um M D1 (.lst [])) D2 (.lst [])) D3 (.lst []) = M0 at hp0 o0 m1 m2 m3 ⊢
  refine g_take hp0 (by omega) (by decide) (by decide) fun t1 M1 a1 b1 hp1 o1 => ?_
  refine g_take hp1 (by omega) (by decide) (by decide) fun t2 M2 a2 b2 hp2 o2 => ?_
  trivial
  refine g_take hp2 (by omega) (by decide) (by decide) fun t3 M3 a3 b3 hp3 o3 => ?_
  trivial
  have o03 : Off q M0 M3 := o1.trans (o2.trans o3)
  obtain ⟨j, ⟨j0, j1⟩, ej⟩ : ∃ j : Int, (0 ≤ j ∧ j ≤ 12) ∧ atI [PyData.int t1, PyData.int 12, PyData.int t2] t3 = some (.int j) := by
    obtain ⟨x, hx, e⟩ := atI_mem [PyData.int t1, PyData.int 12, PyData.int t2] t3 a3 b3
    rw [e]
    simp only [List.mem_cons, List.not_mem_nil, or_false] at hx
    rcases hx with rfl | rfl | rfl
    · exact ⟨t1, by omega, rfl⟩
    · exact ⟨12, by decide, rfl⟩
    · exact ⟨t2, by omega, rfl⟩
  rw [ej]
  trivial
  refine ⟨⟨by omega, by omega⟩, ?_⟩
  refine forGo_inv (fun k : Nat => .dat (.int (k : Nat))) (fun j δ M' => (∃ o5 o6 o7 o8 o9, δ = [some (.ref q), some (.ref p), some (.ref D1), some (.ref D2), some (.ref D3), o5, o6, o7, o8, o9]) ∧ PurseB M' q (n + 3 + 5 * j) ∧
    (∀ x, x ≠ q → x ≠ D1 → x ≠ D2 → x ≠ D3 → M' x = M x) ∧ ∃ fs : List PyData, M' D1 = some (.lst (fs.map .dat)) ∧ M' D2 = some (.lst ((led fs).map fun s => .dat (.str s))) ∧ M' D3 = some (.lst ((counted fs).map fun s => .dat (.str s))) ∧ fs.length ≤ 2 * j ∧
    (∀ r ∈ fs, Made r) ∧ (led fs).Nodup ∧ (counted fs).Nodup) (List.range j.toNat) 0 _ _ ?_ ?_ ?_
  · refine ⟨⟨none, none, none, none, none, rfl⟩, hp3.mono (by omega), fun x h0 h1 h2 h3 => by rw [o03 x h0, o0 x h1 h2 h3], [], ?_, ?_, ?_, ?_, ?_, List.nodup_nil, List.nodup_nil⟩
    · rw [o03 D1 d1q, m1]
      rfl
    · rw [o03 D2 d2q, m2]
      rfl
    · rw [o03 D3 d3q, m3]
      rfl
    · simp
    · intro r hr
      cases hr
  · rintro k hk j' δ M4 E' hjb ⟨⟨o5, o6, o7, o8, o9, rfl⟩, hp4, oo, fs, f1, f2, f3, fl, fm, fn1, fn2⟩ y1 y2 y3 hnx
    have hjb' : j' < 12 := by
      simp at hjb
      omega
    unfold gN wPar
    trivial
    have mp4 : M4 p = some (.lst (names.map fun s => .dat (.str s))) := (oo p hpq (Ne.symm d1p) (Ne.symm d2p) (Ne.symm d3p)).trans hM
    refine onO_mk (pool_len mp4) (g_take hp4 (by omega) (by omega) (by omega) fun u1 M5 u10 u11 hp5 q5 => ?_)
    have mp5 := (q5 p hpq).trans mp4
    obtain ⟨nm, hnm1, ei⟩ := pool_at mp5 u10 u11
    trivial
    refine onO_mk ei ?_
    refine onO_mk (pool_len mp5) (g_take hp5 (by omega) (by omega) (by omega) fun u2 M6 u20 u21 hp6 q6 => ?_)
    obtain ⟨ot, hot, ei2⟩ := pool_at ((q6 p hpq).trans mp5) u20 u21
    trivial
    refine onO_mk ei2 ⟨by unfold CPow; decide, ?_⟩
    refine g_take hp6 (by omega) (by decide) (by decide) fun u3 M7 u30 u31 hp7 q7 => ?_
    trivial
    obtain ⟨wo, hwo, ew⟩ := atI_mem worths u3 u30 u31
    refine onO_mk (x := .dat wo) (by
      show (atI worths u3).map AV.dat = _
      rw [ew]
      rfl) ?_
    trivial
    refine g_take hp7 (by omega) (by decide) (by decide) fun u4 M8 u40 u41 hp8 q8 => ?_
    trivial
    obtain ⟨wd, rest, hwd, hmade, er⟩ : ∃ (wd : Str) (rest : List PyData), (wd ≠ "count" ∧ PyData.strOk wd = true) ∧ Made (.tuple (.str wd :: .str nm :: rest)) ∧ atI [PyData.tuple [.str "hide", .str nm], PyData.tuple [.str "bar", .str nm], PyData.tuple [.str "as", .str nm, .str ot], PyData.tuple [.str "give", .str nm, wo]] u4 = some (.tuple (.str wd :: .str nm :: rest)) := by
      obtain ⟨x, hx, e⟩ := atI_mem [PyData.tuple [.str "hide", .str nm], PyData.tuple [.str "bar", .str nm], PyData.tuple [.str "as", .str nm, .str ot], PyData.tuple [.str "give", .str nm, wo]] u4 u40 u41
      rw [e]
      simp only [List.mem_cons, List.not_mem_nil, or_false] at hx
      rcases hx with rfl | rfl | rfl | rfl
      · exact ⟨"hide", [], by decide +kernel, ⟨nm, hnm nm hnm1, .inl rfl⟩, rfl⟩
      · exact ⟨"bar", [], by decide +kernel, ⟨nm, hnm nm hnm1, .inr (.inl rfl)⟩, rfl⟩
      · exact ⟨"as", [.str ot], by decide +kernel, ⟨nm, hnm nm hnm1, .inr (.inr (.inl ⟨ot, hnm ot hot, rfl⟩))⟩, rfl⟩
      · exact ⟨"give", [wo], by decide +kernel, ⟨nm, hnm nm hnm1, .inr (.inr (.inr (.inl ⟨wo, hwo, rfl⟩)))⟩, rfl⟩
    refine onO_mk (x := .dat (.tuple (.str wd :: .str nm :: rest))) (by rw [er]; rfl) ?_
    refine g_take hp8 (by omega) (by decide) (by decide) fun u5 M9 u50 u51 hp9 q9 => ?_
    have o49 : Off q M4 M9 := q5.trans (q6.trans (q7.trans (q8.trans q9)))
    have g1 := (o49 D1 d1q).trans f1
    have g2 := (o49 D2 d2q).trans f2
    have g3 := (o49 D3 d3q).trans f3
    rw [dats_strs] at g2 g3
    have off9 : ∀ x, x ≠ q → x ≠ D1 → x ≠ D2 → x ≠ D3 → M9 x = M x := fun x h0 h1 h2 h3 => (o49 x h0).trans (oo x h0 h1 h2 h3)
    have fl2 : (led fs).length ≤ fs.length := by
      unfold led
      rw [List.length_map]
      exact List.length_filter_le _ _
    have fl3 : (counted fs).length ≤ fs.length := by
      unfold counted
      rw [List.length_map]
      exact List.length_filter_le _ _
    have hS : 1000 ≤ sizeLine := by decide
    have hc0 : SeqAt.shaped (.str (Str.ofString "count")) = true := shS (by decide +kernel)
    trivial
    refine ifB (fun e => ⟨hc0, hc0, _, g3, flat_strs _, ifB (fun e2 => ?_) fun e2 => ⟨hc0, hc0, ?_⟩⟩) fun e => ?_
    · refine g_app rfl rfl g3 (by simp; omega) ?_
      refine g_app rfl rfl ((off_um D1 (Ne.symm e4)).trans g1) (by simp; omega) ⟨hc0, hc0, ?_⟩
      have ni : nm ∉ counted fs := notIn_strs (by simpa using e2)
      obtain ⟨c1, c2⟩ := count_led (fs := fs) (r := .tuple [.str "count", .str nm]) rfl
      refine (hnx _ _ ⟨⟨_, _, _, _, _, rfl⟩, ((hp9.mono (by omega)).um (Ne.symm d3q)).um (Ne.symm d1q), fun x h0 h1 h2 h3 => by rw [off_um x h1, off_um x h3, off9 x h0 h1 h2 h3], fs ++ [.tuple [.str "count", .str nm]], ?_, ?_, ?_, by simp; omega, ?_, ?_, ?_⟩).1
      · rw [um_same, List.map_append]
        rfl
      · rw [off_um D2 e2', off_um D2 (Ne.symm e3), g2, c1, dats_strs]
      · rw [off_um D3 e4, um_same, c2, dats_strs, List.map_append, List.map_append]
        rfl
      · intro r hr'
        rcases List.mem_append.mp hr' with hr' | hr'
        · exact fm r hr'
        · rw [List.mem_singleton.mp hr']
          exact ⟨nm, hnm nm hnm1, .inr (.inr (.inr (.inr rfl)))⟩
      · rw [c1]
        exact fn1
      · rw [c2]
        exact nodup_snoc fn2 ni
    · exact (hnx _ _ ⟨⟨_, _, _, _, _, rfl⟩, hp9.mono (by omega), off9, fs, g1, by rw [g2, dats_strs], by rw [g3, dats_strs], by omega, fm, fn1, fn2⟩).1
    · have hw0 : SeqAt.shaped (.str wd) = true := shS hwd.2
      refine ⟨hw0, hc0, ifF (decide_eq_false hwd.1) ⟨hw0, hc0, ifT (by rw [decide_eq_false hwd.1]; rfl) ⟨_, g2, flat_strs _, ifB (fun e2 => ?_) fun e2 => ?_⟩⟩⟩
      · refine g_app rfl rfl g2 (by simp; omega) ?_
        refine g_app rfl rfl ((off_um D1 (Ne.symm e2')).trans g1) (by simp; omega) ?_
        have ni : nm ∉ led fs := notIn_strs (by simpa using e2)
        obtain ⟨c1, c2⟩ := led_led (fs := fs) (r := .tuple (.str wd :: .str nm :: rest)) hwd.1
        refine (hnx _ _ ⟨⟨_, _, _, _, _, rfl⟩, ((hp9.mono (by omega)).um (Ne.symm d2q)).um (Ne.symm d1q), fun x h0 h1 h2 h3 => by rw [off_um x h1, off_um x h2, off9 x h0 h1 h2 h3], fs ++ [.tuple (.str wd :: .str nm :: rest)], ?_, ?_, ?_, by simp; omega, ?_, ?_, ?_⟩).1
        · rw [um_same, List.map_append]
          rfl
        · rw [off_um D2 e2', um_same, c1, dats_strs, List.map_append, List.map_append]
          rfl
        · rw [off_um D3 e4, off_um D3 e3, g3, c2, dats_strs]
        · intro r hr'
          rcases List.mem_append.mp hr' with hr' | hr'
          · exact fm r hr'
          · rw [List.mem_singleton.mp hr']
            exact hmade
        · rw [c1]
          exact nodup_snoc fn1 ni
        · rw [c2]
          exact fn2
      · exact (hnx _ _ ⟨⟨_, _, _, _, _, rfl⟩, hp9.mono (by omega), off9, fs, g1, by rw [g2, dats_strs], by rw [g3, dats_strs], by omega, fm, fn1, fn2⟩).1
  · rintro δ M4 ⟨⟨o5, o6, o7, o8, o9, rfl⟩, hp4, oo, fs, f1, f2, f3, fl, fm, fn1, fn2⟩
    unfold wSlice wNoPart wPart wTupOf
    trivial
    unfold wSl
    dsimp only
    rw [f1]
    intro D4 hD4
    have e8 : cut (fs.map AV.dat).length none (some 8) (fs.map AV.dat) = (fs.take 8).map .dat := by
      rw [List.length_map, cut_map]
      congr 1
      unfold cut
      have z1 : HT.sIx fs.length 0 none = 0 := rfl
      have z2 : HT.sIx fs.length fs.length (some 8) = min 8 fs.length := HT.sIx_nat fs.length fs.length 8
      rw [z1, z2, List.drop_zero, Nat.sub_zero]
      rw [Nat.min_comm, List.take_eq_take_iff]
      omega
    rw [e8]
    refine onO_mk (x := (fs.take 8).map .dat) (by unfold rowA; simp only [um_same]) ?_
    rw [q_tup]
    have hjj : n + 3 + 5 * (0 + (List.range j.toNat).length) ≤ n + 200 := by
      simp
      omega
    refine h (fs.take 8) _ (((hp4.mono hjj)).um fun e => ?_) (fun x hx => ?_) (made_ok (fun r hr' => fm r (List.mem_of_mem_take hr')) ?_ ?_ (by rw [List.length_take]; omega)) fun r hr' => fm r (List.mem_of_mem_take hr')
    · obtain ⟨a, b, c, hq', _⟩ := hp4
      rw [← e, hq'] at hD4
      cases hD4
    · by_cases x1 : x = D1
      · exact .inr (x1 ▸ hD1)
      by_cases x2 : x = D2
      · exact .inr (x2 ▸ hD2)
      by_cases x3 : x = D3
      · exact .inr (x3 ▸ hD3)
      by_cases x4 : x = D4
      · refine .inr ?_
        rw [← oo x hx x1 x2 x3, x4]
        exact hD4
      · refine .inl ?_
        rw [off_um x x4, oo x hx x1 x2 x3]
    · exact fn1.sublist (((List.take_sublist 8 fs).filter _).map _)
    · exact fn2.sublist (((List.take_sublist 8 fs).filter _).map _)

end
end K13
end
section
set_option Elab.async false
set_option linter.all false
set_option maxRecDepth 100000
set_option maxHeartbeats 400000
namespace K13
open PySem PySem.Spec L2 DL DX
open PyProof.Rows hiding St
local macro_rules | `(tactic| trivial) => `(tactic| simp only [DL.wSeq, DL.wNext, DL.wRet, DL.wDrop, DL.wIf, DL.wSet, DL.wC, DL.wVar, DL.wOp, DL.wAnd, DL.wOr, DL.wNot, DL.wB, DL.wAndV, DL.wOrV, DL.wNotV, DL.wIfE, DL.wChain, DL.wIsi, DL.wUn, DL.wLen, DL.wCall, DL.wNil, DL.wCons, DL.wTup, DL.wLst, DL.wLstM, DL.wNeg, DL.isT, String.reduceBEq, Bool.or_false, Bool.false_or, Bool.or_true, Bool.true_or, Bool.or_self, Bool.and_self, DL.wGt, DL.wGe, DL.dstart, List.map_cons, List.map_nil, List.length_cons, List.length_nil, List.cons_append, List.nil_append, List.getElem?_cons_zero, List.getElem?_cons_succ, Option.some.injEq, exists_eq_left', exists_eq_left, List.set_cons_zero, List.set_cons_succ, decide_true, decide_false, Bool.true_and, Bool.and_true, Bool.false_and, Bool.and_false, true_and, Bool.not_true, Bool.not_false, if_true, if_false, reduceIte, Bool.false_eq_true, bne_self_eq_false, DL.bne_f, DL.bne_t, List.getElem?_nil, Nat.reduceAdd, Nat.reduceSub, List.replicate_succ, List.replicate_zero, DL.q_onO, DL.q_onO0, DL.q_onB, DL.q_onI, DL.q_onS, DL.q_onL, DL.q_ty, DL.q_tyT, DL.q_ty0, DL.q_ty1, DL.q_ty2, DL.q_ty3, DL.q_ty4, DL.q_ty5, DL.q_ty6, DL.q_lenT, DL.q_lenL, DL.q_lenS, DL.q_ixT, DL.q_ixL, DL.q_ixA, DL.q_leI, DL.q_leS, DL.q_ltI, DL.q_ltS, DL.q_I0, DL.q_II, DL.q_sub, DL.q_addI, DL.q_addS, DL.q_addT, DL.q_addL, DL.q_mulI, DL.q_mulS, DL.q_none, DL.q_noneR, DL.q_is, DL.q_isB, DL.q_inT, DL.q_inL, DL.q_inS, DL.q_inM, DL.q_eq, DL.q_rd, DL.q_ord, DL.q_ix, DL.q_tup, DL.q_tup0, DL.q_tup1, DL.q_tup2, DL.q_tup3, DL.q_eqI, DL.q_eqS, DL.q_shI, DL.q_flI, DL.q_flS, DL.q_flN, DL.q_flB, DL.q_at0, DL.q_at1, DL.q_at2, DL.q_partsT, DL.iT, DL.iS, DL.iL, DL.wAsg, DL.q_star, DL.q_gN, DL.wInTab, DL.wTab, DL.q_onDs, DL.q_dats0, DL.q_datsc, DL.q_sz0, DL.q_sz1, DL.q_sz2, DL.q_sz3, DL.q_sz4, DL.q_sz5, DL.q_sz6, DL.q_sz7, DL.q_sz11, DL.q_sz12, DL.q_keyS, DL.q_getD, DL.q_dct, DL.wInD, DL.wIxD, DL.q_ixU, DL.q_onMU, DL.q_lenU, DL.q_um, DL.q_n30, DL.q_n31, DL.q_n32, DL.q_max, DL.gIx, DL.q_map, DL.q_all0, DL.q_allc])
section
variable {P : Program} {w : World} {K : PySem.W.Frag} {mg : Str → Option Value} {base : Heap} {k : Nat}
mutual
/-- what may be looked at, told by a test -/
def nz : PyData → Bool
  | .str z => decide (z.length ≤ 10000) && (PyData.strOk z && z.cps.toList.all okSign)
  | .tuple [a, .tuple ps] => flatD a && (nz a && (decide (ps.length ≤ 10000) && nzAll ps))
  | .tuple [a, b] => flatD a && (nz a && nz b)
  | .tuple ds => decide (ds.length ≤ 10000) && nzAll ds
  | _ => true
def nzAll : List PyData → Bool
  | [] => true
  | d :: ds => nz d && nzAll ds
end
theorem nzAll_mem : ∀ {ds : List PyData}, nzAll ds = true → ∀ d ∈ ds, nz d = true
  | [], _, d, h => by cases h
  | x :: ds, h, d, hd => by
    simp only [nzAll, Bool.and_eq_true] at h
    rcases List.mem_cons.mp hd with rfl | hd
    · exact h.1
    · exact nzAll_mem h.2 d hd
theorem nz_T {d : PyData} (h : nz d = true) : fitT d ∧ niceT d := by
  cases d with
  | str z =>
    simp only [nz, Bool.and_eq_true, decide_eq_true_eq] at h
    exact ⟨⟨h.1, h.2.1⟩, h.2.2⟩
  | _ => exact ⟨True.intro, True.intro⟩
theorem nz_pair {a b : PyData} (h : nz (.tuple [a, b]) = true) : flatD a = true ∧ nz a = true := by
  cases b <;> simp only [nz, Bool.and_eq_true] at h <;> exact ⟨h.1, h.2.1⟩
theorem nz_P {d : PyData} (h : nz d = true) : fitP d := by
  refine ⟨(nz_T h).1, (nz_T h).2, fun a b e => ?_⟩
  subst e
  exact ⟨(nz_pair h).1, (nz_T (nz_pair h).2).1⟩
theorem lay_mem : ∀ {ds : List PyData}, PyData.canLayAll0 ds = true → ∀ d ∈ ds, d.canLay0 = true
  | [], _, d, h => by cases h
  | x :: ds, h, d, hd => by
    simp only [PyData.canLayAll0, Bool.and_eq_true] at h
    rcases List.mem_cons.mp hd with rfl | hd
    · exact h.1
    · exact lay_mem h.2 d hd
theorem depth_mem : ∀ {ds : List PyData}, ∀ d ∈ ds, d.depth ≤ PyData.depthAll ds
  | [], d, h => by cases h
  | x :: ds, d, hd => by
    simp only [PyData.depthAll]
    rcases List.mem_cons.mp hd with rfl | hd
    · omega
    · have := depth_mem d hd
      omega
theorem nz_two {a : PyData} {ps : List PyData} (h : nz (.tuple [a, .tuple ps]) = true) (l : (PyData.tuple [a, .tuple ps]).canLay0 = true) (dp : (PyData.tuple [a, .tuple ps]).depth ≤ 62) : ps.length ≤ 10000 ∧ ∀ p ∈ ps, nz p = true ∧ p.canLay0 = true ∧ p.depth ≤ 60 := by
  simp only [nz, nzAll, Bool.and_eq_true, decide_eq_true_eq] at h
  simp only [PyData.canLay0, PyData.canLayAll0, Bool.and_eq_true] at l
  simp only [PyData.depth, PyData.depthAll] at dp
  refine ⟨h.2.2.1, fun p hp => ⟨nzAll_mem h.2.2.2 p hp, lay_mem l.2.1 p hp, ?_⟩⟩
  have := depth_mem p hp
  omega
theorem nz_L : ∀ (n : Nat) {d : PyData}, nz d = true → d.canLay0 = true → d.depth ≤ 62 → fitL n d
  | 0, _, h, _, _ => nz_P h
  | n + 1, d, h, l, dp => ⟨nz_P h, fun a ps e => by
    subst e
    obtain ⟨y1, y2⟩ := nz_two h l dp
    exact ⟨y1, fun p hp => ⟨nz_L n (y2 p hp).1 (y2 p hp).2.1 (by have := (y2 p hp).2.2; omega), (y2 p hp).2⟩⟩⟩
theorem nz_D {d : PyData} (h : nz d = true) : fitD d := by
  unfold fitD
  split
  · exact (nz_T (nz_pair h).2).1
  · exact True.intro
theorem nz_W : ∀ (n : Nat) {d : PyData}, nz d = true → d.canLay0 = true → d.depth ≤ 62 → fitW n d
  | 0, _, h, _, _ => ⟨(nz_T h).1, nz_D h⟩
  | n + 1, d, h, l, dp => ⟨(nz_T h).1, nz_D h, fun a ps e => by
    subst e
    obtain ⟨y1, y2⟩ := nz_two h l dp
    exact ⟨y1, fun p hp => nz_W n (y2 p hp).1 (y2 p hp).2.1 (by have := (y2 p hp).2.2; omega)⟩⟩
/-- what may stand among rules -/
structure El (k : Nat) (r : PyData) : Prop where
  lay : r.canLay0 = true
  sh : r.showable = true
  lv : r.leavesShort 13 = true
  dp : r.depth ≤ k
  ft : fitT r
  ng : r ≠ .str "give"
  fr : fitR r
  fl : fitRL r
structure Rows (k b n : Nat) (ds : List PyData) : Prop where
  len : ds.length ≤ n
  blk : PyData.bulkAll ds ≤ b
  el : ∀ r ∈ ds, El k r
theorem El.mono {k j : Nat} {r : PyData} (h : El k r) (e : k ≤ j) : El j r := { h with dp := Nat.le_trans h.dp e }
theorem bulk_app : ∀ (xs ys : List PyData), PyData.bulkAll (xs ++ ys) = PyData.bulkAll xs + PyData.bulkAll ys
  | [], ys => by simp [PyData.bulkAll]
  | x :: xs, ys => by
    rw [List.cons_append]
    simp only [PyData.bulkAll]
    rw [bulk_app xs ys]
    omega
theorem bulk_cut (xs : List PyData) (i : Nat) : PyData.bulkAll (xs.take i) ≤ PyData.bulkAll xs ∧ PyData.bulkAll (xs.drop i) ≤ PyData.bulkAll xs := by
  have e := bulk_app (xs.take i) (xs.drop i)
  rw [List.take_append_drop] at e
  omega
theorem bulk_rev : ∀ (xs : List PyData), PyData.bulkAll xs.reverse = PyData.bulkAll xs
  | [] => rfl
  | x :: xs => by
    rw [List.reverse_cons, bulk_app, bulk_rev xs]
    simp only [PyData.bulkAll]
    omega
theorem bulk_mem : ∀ {xs : List PyData} {x : PyData}, x ∈ xs → PyData.bulk x + 1 ≤ PyData.bulkAll xs
  | [], x, h => by cases h
  | y :: xs, x, h => by
    simp only [PyData.bulkAll]
    rcases List.mem_cons.mp h with rfl | h
    · omega
    · have := bulk_mem h
      omega
theorem Rows.mono {k b n k' b' n' : Nat} {ds : List PyData} (h : Rows k b n ds) (e1 : k ≤ k') (e2 : b ≤ b') (e3 : n ≤ n') : Rows k' b' n' ds := ⟨Nat.le_trans h.len e3, Nat.le_trans h.blk e2, fun r hr => (h.el r hr).mono e1⟩
theorem Rows.take {k b n : Nat} {ds : List PyData} (h : Rows k b n ds) (i : Nat) : Rows k b n (ds.take i) := ⟨by have := h.len; rw [List.length_take]; omega, Nat.le_trans (bulk_cut ds i).1 h.blk, fun r hr => h.el r (List.mem_of_mem_take hr)⟩
theorem Rows.drop {k b n : Nat} {ds : List PyData} (h : Rows k b n ds) (i : Nat) : Rows k b n (ds.drop i) := ⟨by have := h.len; rw [List.length_drop]; omega, Nat.le_trans (bulk_cut ds i).2 h.blk, fun r hr => h.el r (List.mem_of_mem_drop hr)⟩
theorem Rows.rev {k b n : Nat} {ds : List PyData} (h : Rows k b n ds) : Rows k b n ds.reverse := ⟨by have := h.len; rw [List.length_reverse]; omega, by rw [bulk_rev]; exact h.blk, fun r hr => h.el r (List.mem_reverse.mp hr)⟩
theorem Rows.app {k b n b' n' : Nat} {ds es : List PyData} (h : Rows k b n ds) (h' : Rows k b' n' es) : Rows k (b + b') (n + n') (ds ++ es) := ⟨by
  have := h.len
  have := h'.len
  rw [List.length_append]
  omega, by
  have := h.blk
  have := h'.blk
  rw [bulk_app]
  omega, fun r hr => (List.mem_append.mp hr).elim (h.el r) (h'.el r)⟩
theorem Rows.one {k b : Nat} {r : PyData} (h : El k r) (hb : r.bulk ≤ b) : Rows k (b + 1) 1 [r] := ⟨Nat.le_refl 1, by simp only [PyData.bulkAll]; omega, fun x hx => by rw [List.mem_singleton.mp hx]; exact h⟩
theorem all_lay : ∀ {ds : List PyData}, (∀ r ∈ ds, r.canLay0 = true) → PyData.canLayAll0 ds = true
  | [], _ => rfl
  | x :: ds, h => by
    simp only [PyData.canLayAll0, Bool.and_eq_true]
    exact ⟨h x List.mem_cons_self, all_lay fun r hr => h r (List.mem_cons_of_mem x hr)⟩
theorem all_show : ∀ {ds : List PyData}, (∀ r ∈ ds, r.showable = true) → PyData.showableAll ds = true
  | [], _ => rfl
  | x :: ds, h => by
    simp only [PyData.showableAll, Bool.and_eq_true]
    exact ⟨h x List.mem_cons_self, all_show fun r hr => h r (List.mem_cons_of_mem x hr)⟩
theorem all_short : ∀ {ds : List PyData}, (∀ r ∈ ds, r.leavesShort 13 = true) → PyData.leavesShortAll 13 ds = true
  | [], _ => rfl
  | x :: ds, h => by
    simp only [PyData.leavesShortAll, Bool.and_eq_true]
    exact ⟨h x List.mem_cons_self, all_short fun r hr => h r (List.mem_cons_of_mem x hr)⟩
theorem Rows.lay {k b n : Nat} {ds : List PyData} (h : Rows k b n ds) : PyData.canLayAll0 ds = true := all_lay fun r hr => (h.el r hr).lay
theorem Rows.dp {k b n : Nat} {ds : List PyData} (h : Rows k b n ds) : PyData.depthAll ds ≤ k := depth_of_mem fun r hr => (h.el r hr).dp
theorem lay_str {z : Str} (h : (PyData.str z).canLay0 = true) : PyData.strOk z = true := by
  simpa only [PyData.canLay0] using h
/-- rules as one of the rules -/
theorem Rows.wrap {k b n : Nat} {ds : List PyData} (h : Rows k b n ds) (hn : n ≤ 9999) : El (k + 1) (.tuple ds) where
  lay := by
    simp only [PyData.canLay0]
    exact h.lay
  sh := by
    simp only [PyData.showable]
    exact all_show fun r hr => (h.el r hr).sh
  lv := by
    simp only [PyData.leavesShort]
    exact all_short fun r hr => (h.el r hr).lv
  dp := by
    have := h.dp
    simp only [PyData.depth]
    omega
  ft := True.intro
  ng := fun e => by cases e
  fr := by
    cases ds with
    | nil => exact True.intro
    | cons a ps =>
      have ha := h.el a List.mem_cons_self
      cases a with
      | str z =>
        have hl := h.len
        simp only [List.length_cons] at hl
        exact ⟨by omega, lay_str ha.lay, fun p hp => (h.el p (List.mem_cons_of_mem _ hp)).ft, fun e => (ha.ng (by rw [e])).elim⟩
      | _ => exact True.intro
  fl := by
    cases ds with
    | nil => exact True.intro
    | cons a ps =>
      have ha := h.el a List.mem_cons_self
      cases a with
      | str z =>
        have hl := h.len
        simp only [List.length_cons] at hl
        exact ⟨by omega, lay_str ha.lay, fun p hp => (h.el p (List.mem_cons_of_mem _ hp)).ft, fun e => (ha.ng (by rw [e])).elim⟩
      | _ => exact True.intro
/-- a rule as a list -/
theorem El.lst {k : Nat} {ps : List PyData} (h : El k (.tuple ps)) : El k (.list ps) where
  lay := by
    have := h.lay
    simpa only [PyData.canLay0] using this
  sh := by
    have := h.sh
    simpa only [PyData.showable] using this
  lv := by
    have := h.lv
    simpa only [PyData.leavesShort] using this
  dp := by
    have := h.dp
    simpa only [PyData.depth] using this
  ft := True.intro
  ng := fun e => by cases e
  fr := True.intro
  fl := True.intro
theorem Rows.fitS {k b n : Nat} {ds : List PyData} (h : Rows k b n ds) (hn : n ≤ 10000) : fitS (.tuple ds) := ⟨Nat.le_trans h.len hn, fun r hr => (h.el r hr).fr⟩
theorem Rows.fitG {k b n : Nat} {ds : List PyData} (h : Rows k b n ds) (hn : n ≤ 10000) (hk : k ≤ 60) : fitG (.tuple ds) := ⟨Nat.le_trans h.len hn, fun r hr => ⟨(h.el r hr).fl, (h.el r hr).lay, Nat.le_trans (h.el r hr).dp hk⟩⟩
theorem Rows.shaped {k b n : Nat} {ds : List PyData} (h : Rows k b n ds) (hk : k ≤ 60) : SeqAt.shaped (.tuple ds) = true := by
  have := h.dp
  unfold SeqAt.shaped
  simp only [PyData.canLay0, PyData.depth, h.lay, Bool.true_and]
  exact decide_eq_true (by omega)
/-- it can be shown -/
def Shows (d : PyData) : Prop := d.showable = true ∧ d.shown.length ≤ sizeLine ∧ d.depth ≤ 64 ∧ PyData.strOk d.shown = true
theorem Rows.shows {k b n : Nat} {ds : List PyData} (h : Rows k b n ds) (hk : k ≤ 60) (hb : b ≤ 1000000) : Shows (.tuple ds) := by
  have h1 := h.dp
  have h2 := h.blk
  refine ⟨?_, PyData.shown_fits_bulk (B := 13) (by decide) (by decide) ?_ ?_, ?_, okz_to (okz_shown _ (okd_lay _ ?_))⟩
  · simp only [PyData.showable]
    exact all_show fun r hr => (h.el r hr).sh
  · simp only [PyData.leavesShort]
    exact all_short fun r hr => (h.el r hr).lv
  · have : (2 : Nat) ^ 20 = 1048576 := by decide
    simp only [PyData.bulk]
    omega
  · simp only [PyData.depth]
    omega
  · simp only [PyData.canLay0]
    exact h.lay
theorem Rows.showsL {k b n : Nat} {ds : List PyData} (h : Rows k b n ds) (hk : k ≤ 60) (hb : b ≤ 1000000) : Shows (.list ds) := by
  have h1 := h.dp
  have h2 := h.blk
  refine ⟨?_, PyData.shown_fits_bulk (B := 13) (by decide) (by decide) ?_ ?_, ?_, okz_to (okz_shown _ (okd_lay _ ?_))⟩
  · simp only [PyData.showable]
    exact all_show fun r hr => (h.el r hr).sh
  · simp only [PyData.leavesShort]
    exact all_short fun r hr => (h.el r hr).lv
  · have : (2 : Nat) ^ 20 = 1048576 := by decide
    simp only [PyData.bulk]
    omega
  · simp only [PyData.depth]
    omega
  · simp only [PyData.canLay0]
    exact h.lay
/-- what spoiling hands back -/
def Outp (k b n : Nat) (d : PyData) : Prop := (∃ ds, d = .tuple ds ∧ Rows k b n ds) ∨ ((∀ ds, d ≠ .tuple ds) ∧ Shows d)
theorem Outp.fit {k b n : Nat} {d : PyData} (h : Outp k b n d) (hn : n ≤ 10000) (hk : k ≤ 60) (hb : b ≤ 1000000) : fitS d ∧ fitG d ∧ Shows d := by
  rcases h with ⟨ds, rfl, h⟩ | ⟨h, s⟩
  · exact ⟨h.fitS hn, h.fitG hn hk, h.shows hk hb⟩
  · refine ⟨?_, ?_, s⟩
    · cases d with
      | tuple ds => exact (h ds rfl).elim
      | _ => exact True.intro
    · cases d with
      | tuple ds => exact (h ds rfl).elim
      | _ => exact True.intro

end
end K13
end
section
set_option Elab.async false
set_option linter.all false
set_option maxRecDepth 100000
set_option maxHeartbeats 400000
namespace K13
open PySem PySem.Spec L2 DL DX
open PyProof.Rows hiding St
local macro_rules | `(tactic| trivial) => `(tactic| simp only [DL.wSeq, DL.wNext, DL.wRet, DL.wDrop, DL.wIf, DL.wSet, DL.wC, DL.wVar, DL.wOp, DL.wAnd, DL.wOr, DL.wNot, DL.wB, DL.wAndV, DL.wOrV, DL.wNotV, DL.wIfE, DL.wChain, DL.wIsi, DL.wUn, DL.wLen, DL.wCall, DL.wNil, DL.wCons, DL.wTup, DL.wLst, DL.wLstM, DL.wNeg, DL.isT, String.reduceBEq, Bool.or_false, Bool.false_or, Bool.or_true, Bool.true_or, Bool.or_self, Bool.and_self, DL.wGt, DL.wGe, DL.dstart, List.map_cons, List.map_nil, List.length_cons, List.length_nil, List.cons_append, List.nil_append, List.getElem?_cons_zero, List.getElem?_cons_succ, Option.some.injEq, exists_eq_left', exists_eq_left, List.set_cons_zero, List.set_cons_succ, decide_true, decide_false, Bool.true_and, Bool.and_true, Bool.false_and, Bool.and_false, true_and, Bool.not_true, Bool.not_false, if_true, if_false, reduceIte, Bool.false_eq_true, bne_self_eq_false, DL.bne_f, DL.bne_t, List.getElem?_nil, Nat.reduceAdd, Nat.reduceSub, List.replicate_succ, List.replicate_zero, DL.q_onO, DL.q_onO0, DL.q_onB, DL.q_onI, DL.q_onS, DL.q_onL, DL.q_ty, DL.q_tyT, DL.q_ty0, DL.q_ty1, DL.q_ty2, DL.q_ty3, DL.q_ty4, DL.q_ty5, DL.q_ty6, DL.q_lenT, DL.q_lenL, DL.q_lenS, DL.q_ixT, DL.q_ixL, DL.q_ixA, DL.q_leI, DL.q_leS, DL.q_ltI, DL.q_ltS, DL.q_I0, DL.q_II, DL.q_sub, DL.q_addI, DL.q_addS, DL.q_addT, DL.q_addL, DL.q_mulI, DL.q_mulS, DL.q_none, DL.q_noneR, DL.q_is, DL.q_isB, DL.q_inT, DL.q_inL, DL.q_inS, DL.q_inM, DL.q_eq, DL.q_rd, DL.q_ord, DL.q_ix, DL.q_tup, DL.q_tup0, DL.q_tup1, DL.q_tup2, DL.q_tup3, DL.q_eqI, DL.q_eqS, DL.q_shI, DL.q_flI, DL.q_flS, DL.q_flN, DL.q_flB, DL.q_at0, DL.q_at1, DL.q_at2, DL.q_partsT, DL.iT, DL.iS, DL.iL, DL.wAsg, DL.q_star, DL.q_gN, DL.wInTab, DL.wTab, DL.q_onDs, DL.q_dats0, DL.q_datsc, DL.q_sz0, DL.q_sz1, DL.q_sz2, DL.q_sz3, DL.q_sz4, DL.q_sz5, DL.q_sz6, DL.q_sz7, DL.q_sz11, DL.q_sz12, DL.q_keyS, DL.q_getD, DL.q_dct, DL.wInD, DL.wIxD, DL.q_ixU, DL.q_onMU, DL.q_lenU, DL.q_um, DL.q_n30, DL.q_n31, DL.q_n32, DL.q_max, DL.gIx, DL.q_map, DL.q_all0, DL.q_allc])
section
variable {P : Program} {w : World} {K : PySem.W.Frag} {mg : Str → Option Value} {base : Heap} {k : Nat}
theorem name_lt {s : Str} (h : isName (.str s) = true) : Lt s ∧ s.length ≤ 8 := by
  simp only [isName, Bool.and_eq_true, decide_eq_true_eq, List.all_eq_true] at h
  refine ⟨fun c hc => ?_, by omega⟩
  have e := h.2.2 c hc
  unfold inStr at e
  rw [StrLaws.found_one, lettersL] at e
  have := of_decide_eq_true e
  obtain ⟨j, hj, rfl⟩ := List.mem_map.mp this
  have := List.mem_range.mp hj
  omega
theorem sign26 : ∀ c : Fin 26, okSign (97 + c.val) = true := by decide +kernel
theorem name_ok {s : Str} (h : isName (.str s) = true) : nz (.str s) = true ∧ PyData.strOk s = true := by
  obtain ⟨h1, h2⟩ := name_lt h
  have so : PyData.strOk s = true := by
    unfold PyData.strOk
    simp only [List.all_eq_true, Array.all_eq_true', Array.all_eq_true]
    intro x hx
    have := h1 x (Array.mem_toList_iff.mpr hx)
    exact decide_eq_true (by omega)
  have sg : s.cps.toList.all okSign = true := List.all_eq_true.mpr fun c hc => by
    obtain ⟨a, b⟩ := h1 c hc
    have e := sign26 ⟨c - 97, by omega⟩
    have e2 : 97 + (c - 97) = c := by omega
    simpa [e2] using e
  refine ⟨?_, so⟩
  simp only [nz]
  rw [so, sg, decide_eq_true (by omega : s.length ≤ 10000)]
  rfl
/-- a part of a rule -/
structure Pt (p : PyData) : Prop where
  lay : p.canLay0 = true
  sh : p.showable = true
  lv : p.leavesShort 13 = true
  dp : p.depth ≤ 23
  nz : nz p = true
  blk : p.bulk ≤ 40
theorem str_short {z : Str} (h : PyData.strOk z = true) : (PyData.str z).leavesShort 13 = true := by
  simp only [PyData.leavesShort, List.all_eq_true, decide_eq_true_eq]
  intro c hc
  unfold PyData.strOk at h
  rw [Array.all_eq_true'] at h
  have := of_decide_eq_true (h c (Array.mem_toList_iff.mp hc))
  have e : (16 : Nat) ^ 8 = 4294967296 := by decide
  omega
theorem pt_str {z : Str} (h : nz (.str z) = true) (h2 : z.length ≤ 40) : Pt (.str z) := by
  have so : PyData.strOk z = true := by
    simp only [nz, Bool.and_eq_true] at h
    exact h.2.1
  exact ⟨by simpa only [PyData.canLay0] using so, by simp only [PyData.showable], str_short so, by simp only [PyData.depth]; omega, h, by simp only [PyData.bulk]; exact h2⟩
theorem pt_name {s : Str} (h : isName (.str s) = true) : Pt (.str s) := pt_str (name_ok h).1 (by have := (name_lt h).2; omega)
theorem pt_int {i : Int} (h : (PyData.int i).showable = true) (h2 : (PyData.int i).leavesShort 13 = true) : Pt (.int i) := ⟨by simp only [PyData.canLay0], h, h2, by simp only [PyData.depth]; omega, by simp only [nz], by simp only [PyData.bulk]; omega⟩
theorem el_tup {wd : Str} {ps : List PyData} (hw : PyData.strOk wd = true) (hp : ∀ p ∈ ps, Pt p) (hl : ps.length ≤ 3) (hs : wd.length ≤ 10) : El 25 (.tuple (.str wd :: ps)) ∧ (PyData.tuple (.str wd :: ps)).bulk ≤ 200 := by
  have dp : PyData.depthAll ps ≤ 23 := depth_of_mem fun r hr => (hp r hr).dp
  have fz : ∀ p ∈ ps, fitW 4 p ∧ fitL 4 p := fun p h => by
    have q := hp p h
    have := q.dp
    exact ⟨nz_W 4 q.nz q.lay (by omega), nz_L 4 q.nz q.lay (by omega)⟩
  refine ⟨⟨?_, ?_, ?_, ?_, True.intro, fun e => (by cases e), ⟨by omega, hw, fun p h => (nz_T (hp p h).nz).1, fun _ p h => (fz p h).1⟩, ⟨by omega, hw, fun p h => (nz_T (hp p h).nz).1, fun _ p h => (fz p h).2⟩⟩, ?_⟩
  · simp only [PyData.canLay0, PyData.canLayAll0, hw, Bool.true_and]
    exact all_lay fun r hr => (hp r hr).lay
  · simp only [PyData.showable, PyData.showableAll, Bool.true_and]
    exact all_show fun r hr => (hp r hr).sh
  · have z := str_short hw
    simp only [PyData.leavesShort, PyData.leavesShortAll] at z ⊢
    rw [z, Bool.true_and]
    exact all_short fun r hr => (hp r hr).lv
  · simp only [PyData.depth, PyData.depthAll]
    omega
  · have e : PyData.bulkAll ps ≤ ps.length * 41 := by
      clear fz dp hl
      induction ps with
      | nil => simp [PyData.bulkAll]
      | cons p r ih =>
        have := (hp p List.mem_cons_self).blk
        have := ih fun x hx => hp x (List.mem_cons_of_mem p hx)
        simp only [PyData.bulkAll, List.length_cons]
        omega
    have e2 : wd.cps.size ≤ 10 := hs
    simp only [PyData.bulk, PyData.bulkAll]
    omega
theorem el_flat {d : PyData} (h : flatD d = true) (h1 : d.canLay0 = true) (h2 : d.showable = true) (h3 : d.leavesShort 13 = true) (h4 : fitT d) (h5 : d ≠ .str "give") : El 25 d := by
  refine ⟨h1, h2, h3, ?_, h4, h5, ?_, ?_⟩ <;> cases d <;> first | exact True.intro | (simp only [PyData.depth]; omega) | cases h

end
end K13
end
section
set_option Elab.async false
set_option linter.all false
set_option maxRecDepth 100000
set_option maxHeartbeats 400000
namespace K13
open PySem PySem.Spec L2 DL DX
open PyProof.Rows hiding St
local macro_rules | `(tactic| trivial) => `(tactic| simp only [DL.wSeq, DL.wNext, DL.wRet, DL.wDrop, DL.wIf, DL.wSet, DL.wC, DL.wVar, DL.wOp, DL.wAnd, DL.wOr, DL.wNot, DL.wB, DL.wAndV, DL.wOrV, DL.wNotV, DL.wIfE, DL.wChain, DL.wIsi, DL.wUn, DL.wLen, DL.wCall, DL.wNil, DL.wCons, DL.wTup, DL.wLst, DL.wLstM, DL.wNeg, DL.isT, String.reduceBEq, Bool.or_false, Bool.false_or, Bool.or_true, Bool.true_or, Bool.or_self, Bool.and_self, DL.wGt, DL.wGe, DL.dstart, List.map_cons, List.map_nil, List.length_cons, List.length_nil, List.cons_append, List.nil_append, List.getElem?_cons_zero, List.getElem?_cons_succ, Option.some.injEq, exists_eq_left', exists_eq_left, List.set_cons_zero, List.set_cons_succ, decide_true, decide_false, Bool.true_and, Bool.and_true, Bool.false_and, Bool.and_false, true_and, Bool.not_true, Bool.not_false, if_true, if_false, reduceIte, Bool.false_eq_true, bne_self_eq_false, DL.bne_f, DL.bne_t, List.getElem?_nil, Nat.reduceAdd, Nat.reduceSub, List.replicate_succ, List.replicate_zero, DL.q_onO, DL.q_onO0, DL.q_onB, DL.q_onI, DL.q_onS, DL.q_onL, DL.q_ty, DL.q_tyT, DL.q_ty0, DL.q_ty1, DL.q_ty2, DL.q_ty3, DL.q_ty4, DL.q_ty5, DL.q_ty6, DL.q_lenT, DL.q_lenL, DL.q_lenS, DL.q_ixT, DL.q_ixL, DL.q_ixA, DL.q_leI, DL.q_leS, DL.q_ltI, DL.q_ltS, DL.q_I0, DL.q_II, DL.q_sub, DL.q_addI, DL.q_addS, DL.q_addT, DL.q_addL, DL.q_mulI, DL.q_mulS, DL.q_none, DL.q_noneR, DL.q_is, DL.q_isB, DL.q_inT, DL.q_inL, DL.q_inS, DL.q_inM, DL.q_eq, DL.q_rd, DL.q_ord, DL.q_ix, DL.q_tup, DL.q_tup0, DL.q_tup1, DL.q_tup2, DL.q_tup3, DL.q_eqI, DL.q_eqS, DL.q_shI, DL.q_flI, DL.q_flS, DL.q_flN, DL.q_flB, DL.q_at0, DL.q_at1, DL.q_at2, DL.q_partsT, DL.iT, DL.iS, DL.iL, DL.wAsg, DL.q_star, DL.q_gN, DL.wInTab, DL.wTab, DL.q_onDs, DL.q_dats0, DL.q_datsc, DL.q_sz0, DL.q_sz1, DL.q_sz2, DL.q_sz3, DL.q_sz4, DL.q_sz5, DL.q_sz6, DL.q_sz7, DL.q_sz11, DL.q_sz12, DL.q_keyS, DL.q_getD, DL.q_dct, DL.wInD, DL.wIxD, DL.q_ixU, DL.q_onMU, DL.q_lenU, DL.q_um, DL.q_n30, DL.q_n31, DL.q_n32, DL.q_max, DL.gIx, DL.q_map, DL.q_all0, DL.q_allc])
section
variable {P : Program} {w : World} {K : PySem.W.Frag} {mg : Str → Option Value} {base : Heap} {k : Nat}
theorem made_el {r : PyData} (h : Made r) : El 25 r ∧ r.bulk ≤ 200 := by
  have wk : ∀ x ∈ worths, Pt x := by
    have n1 : nz (.str "a b") = true := by rw [nz]; decide +kernel
    have n2 : nz (.str "thing") = true := by rw [nz]; decide +kernel
    have n3 : nz (.str "row") = true := by rw [nz]; decide +kernel
    have p1 := pt_str n1 (by decide +kernel)
    have p2 := pt_str n2 (by decide +kernel)
    have p3 := pt_str n3 (by decide +kernel)
    have i5 : (PyData.int 5).leavesShort 13 = true := by decide +kernel
    have i7 : (PyData.int 7).leavesShort 13 = true := by decide +kernel
    have i9 : (PyData.int 999).leavesShort 13 = true := by decide +kernel
    have im : (PyData.int (-1000000000)).leavesShort 13 = true := by decide +kernel
    have b2 : (Str.ofString "thing").cps.size = 5 := by decide +kernel
    have b3 : (Str.ofString "row").cps.size = 3 := by decide +kernel
    intro x hx
    simp only [worths, List.mem_cons, List.not_mem_nil, or_false] at hx
    rcases hx with rfl | rfl | rfl | rfl | rfl | rfl
    · exact ⟨by simp only [PyData.canLay0], by simp only [PyData.showable], by simp only [PyData.leavesShort], by simp [PyData.depth], by simp only [nz], by simp [PyData.bulk]⟩
    · exact pt_int (by decide +kernel) i5
    · exact pt_int (by decide +kernel) im
    · exact p1
    · obtain ⟨a1, a2, a3, a4, a5, a6⟩ := p2
      exact ⟨by simp only [PyData.canLay0, PyData.canLayAll0] at a1 ⊢; rw [a1]; rfl, by decide +kernel, by simp only [PyData.leavesShort, PyData.leavesShortAll] at a3 i9 ⊢; rw [a3, i9]; rfl, by simp [PyData.depth, PyData.depthAll], by simp only [nz, flatD, Bool.true_and, Bool.and_true] at a5 ⊢; exact a5, by simp only [PyData.bulk, PyData.bulkAll]; omega⟩
    · obtain ⟨a1, a2, a3, a4, a5, a6⟩ := p3
      exact ⟨by simp only [PyData.canLay0, PyData.canLayAll0] at a1 ⊢; rw [a1]; rfl, by decide +kernel, by simp only [PyData.leavesShort, PyData.leavesShortAll] at a3 i7 ⊢; rw [a3, i7]; rfl, by simp [PyData.depth, PyData.depthAll], by simp only [nz, nzAll, flatD, Bool.true_and, Bool.and_true] at a5 ⊢; rw [a5]; decide, by simp only [PyData.bulk, PyData.bulkAll]; omega⟩
  obtain ⟨nm, hn, h⟩ := h
  rcases h with rfl | rfl | ⟨ot, ho, rfl⟩ | ⟨x, hx, rfl⟩ | rfl
  · exact el_tup (by decide +kernel) (fun p hp => by rw [List.mem_singleton.mp hp]; exact pt_name hn) (by simp) (by decide +kernel)
  · exact el_tup (by decide +kernel) (fun p hp => by rw [List.mem_singleton.mp hp]; exact pt_name hn) (by simp) (by decide +kernel)
  · refine el_tup (by decide +kernel) (fun p hp => ?_) (by simp) (by decide +kernel)
    simp only [List.mem_cons, List.not_mem_nil, or_false] at hp
    rcases hp with rfl | rfl
    · exact pt_name hn
    · exact pt_name ho
  · refine el_tup (by decide +kernel) (fun p hp => ?_) (by simp) (by decide +kernel)
    simp only [List.mem_cons, List.not_mem_nil, or_false] at hp
    rcases hp with rfl | rfl
    · exact pt_name hn
    · exact wk _ hx
  · exact el_tup (by decide +kernel) (fun p hp => by rw [List.mem_singleton.mp hp]; exact pt_name hn) (by simp) (by decide +kernel)
/-- what stays when fresh lists are made and draws are taken -/
def Grow (q : Addr) (n : Nat) (M0 M : Mp) : Prop := PurseB M q n ∧ ∀ x, x ≠ q → (M x = M0 x ∨ M0 x = none)
theorem Grow.new {q : Addr} {n : Nat} {M0 M : Mp} {D : Addr} {o : MO} (h : Grow q n M0 M) (hD : M D = none) : Grow q n M0 (um M D o) ∧ D ≠ q ∧ um M D o D = some o := by
  have hDq : D ≠ q := fun e => by
    obtain ⟨a, b, c, hq, _⟩ := h.1
    rw [e, hq] at hD
    cases hD
  refine ⟨⟨h.1.um (Ne.symm hDq), fun x hx => ?_⟩, hDq, um_same⟩
  by_cases e : x = D
  · subst e
    rcases h.2 x hx with y | y
    · exact .inr (y ▸ hD)
    · exact .inr y
  · rw [off_um x e]
    exact h.2 x hx
theorem Grow.draw {q : Addr} {n m : Nat} {M0 M M' : Mp} (h : Grow q n M0 M) (hp : PurseB M' q m) (o : Off q M M') : Grow q m M0 M' :=
  ⟨hp, fun x hx => by rw [o x hx]; exact h.2 x hx⟩
theorem Grow.at_ {q : Addr} {n : Nat} {M0 M : Mp} {p : Addr} {o : MO} (h : Grow q n M0 M) (hp : p ≠ q) (e : M0 p = some o) : M p = some o := by
  rcases h.2 p hp with y | y
  · rw [y, e]
  · rw [y] at e
    cases e
theorem Grow.put {q : Addr} {n : Nat} {M0 M : Mp} {p : Addr} {o : MO} (h : Grow q n M0 M) (hp : p ≠ q) (e : M0 p = none) : Grow q n M0 (um M p o) ∧ um M p o p = some o := by
  refine ⟨⟨h.1.um (Ne.symm hp), fun x hx => ?_⟩, um_same⟩
  by_cases e1 : x = p
  · exact .inr (e1 ▸ e)
  · rw [off_um x e1]
    exact h.2 x hx
theorem Rows.cut {k b n : Nat} {ds : List PyData} (h : Rows k b n ds) (lo hi : Option Int) : Rows k b n (cut ds.length lo hi ds) := by
  unfold DL.cut
  exact (h.drop _).take _
theorem wAddT {xs ys : List PyData} {M : Mp} {P : DK} (hl : xs.length + ys.length ≤ 10000) (h : P (.dat (.tuple (xs ++ ys))) M) : wAdd (.dat (.tuple xs)) (.dat (.tuple ys)) M P := ⟨Nat.le_trans hl (by decide), h⟩
abbrev deepD : PyData := PyData.tuple [PyData.str (Str.ofString "row"), PyData.tuple [PyData.tuple [PyData.str (Str.ofString "row"), PyData.tuple [PyData.tuple [PyData.str (Str.ofString "row"), PyData.tuple [PyData.tuple [PyData.str (Str.ofString "row"), PyData.tuple [PyData.tuple [PyData.str (Str.ofString "row"), PyData.tuple []]]]]]]]]]
theorem pt_deep : Pt deepD := by
  have n3 : nz (.str "row") = true := by rw [nz]; decide +kernel
  obtain ⟨a1, a2, a3, a4, a5, a6⟩ := pt_str n3 (by decide +kernel)
  have b3 : (Str.ofString "row").cps.size = 3 := by decide +kernel
  unfold deepD
  generalize Str.ofString "row" = z at *
  refine ⟨?_, ?_, ?_, ?_, ?_, ?_⟩
  · simp only [PyData.canLay0, PyData.canLayAll0] at a1 ⊢
    simp [a1]
  · simp [PyData.showable, PyData.showableAll]
  · simp only [PyData.leavesShort, PyData.leavesShortAll] at a3 ⊢
    rw [a3]
    rfl
  · simp [PyData.depth, PyData.depthAll]
  · simp only [nz, nzAll, flatD, Bool.true_and, Bool.and_true] at a5 ⊢
    rw [a5]
    simp
  · simp only [PyData.bulk, PyData.bulkAll]
    omega
theorem g_lcM {α : Type} {st : AV → DSt → Option DSt} {tt : DTT} {te : DTE} {δ : DSt} {M : Mp} {P : DK} {R : DXK} {i : Nat} {a : Addr} (f : α → DSt) (p : α → Bool) (g : α → PyData) (mk : α → AV) (l : List α) (hi : δ[i]? = some (some (.ref a))) (hM : M a = some (.lst (l.map mk))) (hl : l.length ≤ sizeLine)
    (hx : ∀ a ∈ l, st (mk a) δ = some (f a) ∧ EvT tt (f a) (p a) ∧ (p a = true → EvE te (f a) (.dat (g a)))) (h : P (.dat (.list ((l.filter p).map g))) M) : wLc (iM (wVar i)) st tt te δ M P R :=
  ⟨_, hi, onM_mk hM fun D hD => lcGo_of (G := fun M => M a = some (.lst (l.map mk))) (fun acc => (um_ne (fun e => by rw [e, hD] at hM; cases hM)).trans hM) f p (fun a => .dat (g a)) mk l [] (by simpa using hl) hx ⟨by simp [um_same], by
    have z := datsOf_dats ((l.filter p).map g)
    rw [List.map_map] at z
    show onDs ((l.filter p).map (AV.dat ∘ g)) _
    unfold onDs
    rw [z, dm_um hD]
    exact h⟩⟩
theorem rows_many {k : Nat} : ∀ {xs : List PyData}, (∀ x ∈ xs, El k x ∧ x.bulk ≤ 200) → Rows k (xs.length * 201) xs.length xs
  | [], _ => ⟨Nat.le_refl 0, by simp [PyData.bulkAll], fun r hr => by cases hr⟩
  | x :: xs, h => by
    have i := rows_many fun y hy => h y (List.mem_cons_of_mem x hy)
    have z := (Rows.one (h x List.mem_cons_self).1 (h x List.mem_cons_self).2).app i
    simp only [List.length_cons]
    exact z.mono (Nat.le_refl k) (by omega) (by omega)
/-- the odd ones -/
def oddL (nm : Str) (deep : PyData) : List PyData := [
  .tuple [.str "hide"], .tuple [.str "hide", .str nm, .str nm], .tuple [.str "as", .str nm], .tuple [.str "give", .str nm], .tuple [.str "count", .str nm, .int 1], .tuple [.str "turn", .str nm],
  .tuple [.str "bar", .int 5], .tuple [.str "as", .str nm, .none], .tuple [.str "give", .str nm, .int (10 ^ Int.toNat 9 + 1)], .tuple [.str "give", .str nm, .bool true],
  .tuple [.str "give", .str nm, .list [.int 1]], .tuple [], .none, .int 7, .tuple [.str "give", .str nm, .tuple [.str "row", .int 5]], .tuple [.str "give", .str nm, .tuple [.str "row", .tuple [.bool true]]],
  .tuple [.str "hide", .str "me"], .tuple [.str "as", .str nm, .str "none"], .tuple [.str "bar", .str "ninesigns"], .tuple [.str "count", .str "A"], .str "hide", .list [.str "hide", .str nm],
  .tuple [.str "give", .str nm, deep]]
theorem odd_ok {nm : Str} {deep : PyData} (hn : isName (.str nm) = true) (hd : Pt deep) : ∀ x ∈ oddL nm deep, El 25 x ∧ x.bulk ≤ 200 := by
  have pn := pt_name hn
  have lit : ∀ z : Str, nz (.str z) = true → z.length ≤ 40 → Pt (.str z) := fun z h h2 => pt_str h h2
  have w1 : nz (.str "me") = true := by rw [nz]; decide +kernel
  have w2 : nz (.str "none") = true := by rw [nz]; decide +kernel
  have w3 : nz (.str "ninesigns") = true := by rw [nz]; decide +kernel
  have w4 : nz (.str "A") = true := by rw [nz]; decide +kernel
  have w5 : nz (.str "row") = true := by rw [nz]; decide +kernel
  have w6 : nz (.str "hide") = true := by rw [nz]; decide +kernel
  have p5 := lit _ w5 (by decide +kernel)
  have p6 := lit _ w6 (by decide +kernel)
  have i1 : Pt (.int 1) := pt_int (by decide +kernel) (by decide +kernel)
  have i5 : Pt (.int 5) := pt_int (by decide +kernel) (by decide +kernel)
  have ib : Pt (.int (10 ^ Int.toNat 9 + 1)) := pt_int (by decide +kernel) (by decide +kernel)
  have pN : Pt .none := ⟨by simp only [PyData.canLay0], by simp only [PyData.showable], by simp only [PyData.leavesShort], by simp [PyData.depth], by simp only [nz], by simp [PyData.bulk]⟩
  have pB : Pt (.bool true) := ⟨by simp only [PyData.canLay0], by simp only [PyData.showable], by simp only [PyData.leavesShort], by simp [PyData.depth], by simp only [nz], by simp [PyData.bulk]⟩
  have pL : Pt (.list [.int 1]) := ⟨by decide +kernel, by decide +kernel, by have := i1.lv; simp only [PyData.leavesShort, PyData.leavesShortAll] at this ⊢; rw [this]; rfl, by simp [PyData.depth, PyData.depthAll], by simp only [nz], by simp [PyData.bulk, PyData.bulkAll]⟩
  have b3 : (Str.ofString "row").cps.size = 3 := by decide +kernel
  have b4 : (Str.ofString "hide").cps.size = 4 := by decide +kernel
  have pR : Pt (.tuple [.str "row", .int 5]) := by
    obtain ⟨a1, a2, a3, a4, a5, a6⟩ := p5
    have c3 := i5.lv
    exact ⟨by simp only [PyData.canLay0, PyData.canLayAll0] at a1 ⊢; rw [a1]; rfl, by decide +kernel, by simp only [PyData.leavesShort, PyData.leavesShortAll] at a3 c3 ⊢; rw [a3, c3]; rfl, by simp [PyData.depth, PyData.depthAll], by simp only [nz, flatD, Bool.true_and, Bool.and_true] at a5 ⊢; exact a5, by simp only [PyData.bulk, PyData.bulkAll]; omega⟩
  have pT : Pt (.tuple [.str "row", .tuple [.bool true]]) := by
    obtain ⟨a1, a2, a3, a4, a5, a6⟩ := p5
    exact ⟨by simp only [PyData.canLay0, PyData.canLayAll0] at a1 ⊢; rw [a1]; rfl, by decide +kernel, by simp only [PyData.leavesShort, PyData.leavesShortAll] at a3 ⊢; rw [a3]; rfl, by simp [PyData.depth, PyData.depthAll], by simp only [nz, nzAll, flatD, Bool.true_and, Bool.and_true] at a5 ⊢; rw [a5]; decide, by simp only [PyData.bulk, PyData.bulkAll]; omega⟩
  have one : ∀ {wd : Str} {p : PyData}, PyData.strOk wd = true → wd.length ≤ 10 → Pt p → El 25 (.tuple [.str wd, p]) ∧ (PyData.tuple [.str wd, p]).bulk ≤ 200 := fun h1 h2 h3 => el_tup h1 (fun x hx => by rw [List.mem_singleton.mp hx]; exact h3) (by simp) h2
  have two : ∀ {wd : Str} {p r : PyData}, PyData.strOk wd = true → wd.length ≤ 10 → Pt p → Pt r → El 25 (.tuple [.str wd, p, r]) ∧ (PyData.tuple [.str wd, p, r]).bulk ≤ 200 := fun h1 h2 h3 h4 => el_tup h1 (fun x hx => by
    simp only [List.mem_cons, List.not_mem_nil, or_false] at hx
    rcases hx with rfl | rfl
    · exact h3
    · exact h4) (by simp) h2
  intro x hx
  simp only [oddL, List.mem_cons, List.not_mem_nil, or_false] at hx
  rcases hx with rfl | rfl | rfl | rfl | rfl | rfl | rfl | rfl | rfl | rfl | rfl | rfl | rfl | rfl | rfl | rfl | rfl | rfl | rfl | rfl | rfl | rfl | rfl
  · exact el_tup (by decide +kernel) (fun x hx => by cases hx) (by simp) (by decide +kernel)
  · exact two (by decide +kernel) (by decide +kernel) pn pn
  · exact one (by decide +kernel) (by decide +kernel) pn
  · exact one (by decide +kernel) (by decide +kernel) pn
  · exact two (by decide +kernel) (by decide +kernel) pn i1
  · exact one (by decide +kernel) (by decide +kernel) pn
  · exact one (by decide +kernel) (by decide +kernel) i5
  · exact two (by decide +kernel) (by decide +kernel) pn pN
  · exact two (by decide +kernel) (by decide +kernel) pn ib
  · exact two (by decide +kernel) (by decide +kernel) pn pB
  · exact two (by decide +kernel) (by decide +kernel) pn pL
  · exact ⟨⟨rfl, rfl, rfl, by simp [PyData.depth, PyData.depthAll], True.intro, fun e => (by cases e), True.intro, True.intro⟩, by simp [PyData.bulk, PyData.bulkAll]⟩
  · exact ⟨⟨rfl, rfl, rfl, by simp [PyData.depth], True.intro, fun e => (by cases e), True.intro, True.intro⟩, by simp [PyData.bulk]⟩
  · exact ⟨⟨rfl, by decide +kernel, by decide +kernel, by simp [PyData.depth], True.intro, fun e => (by cases e), True.intro, True.intro⟩, by simp [PyData.bulk]⟩
  · exact two (by decide +kernel) (by decide +kernel) pn pR
  · exact two (by decide +kernel) (by decide +kernel) pn pT
  · exact one (by decide +kernel) (by decide +kernel) (lit _ w1 (by decide +kernel))
  · exact two (by decide +kernel) (by decide +kernel) pn (lit _ w2 (by decide +kernel))
  · exact one (by decide +kernel) (by decide +kernel) (lit _ w3 (by decide +kernel))
  · exact one (by decide +kernel) (by decide +kernel) (lit _ w4 (by decide +kernel))
  · exact ⟨⟨p6.lay, p6.sh, p6.lv, by have := p6.dp; omega, (nz_T p6.nz).1, fun e => absurd (PyData.str.inj e) (by decide +kernel), True.intro, True.intro⟩, by have := p6.blk; omega⟩
  · have z := (one (wd := "hide") (by decide +kernel) (by decide +kernel) pn)
    refine ⟨z.1.lst, ?_⟩
    have := z.2
    simpa only [PyData.bulk] using this
  · exact two (by decide +kernel) (by decide +kernel) pn hd
theorem odd_at {nm : Str} {deep : PyData} {M : Mp} {D : Addr} {i : Int} (hn : isName (.str nm) = true) (hd : Pt deep) (hM : M D = some (.lst ((oddL nm deep).map .dat))) (h0 : 0 ≤ i) (h1 : i < 23) : ∃ x, itemA M (.ref D) i = some (.dat x) ∧ El 25 x ∧ x.bulk ≤ 200 := by
  obtain ⟨x, hx, e⟩ := atI_mem (oddL nm deep) i h0 h1
  refine ⟨x, ?_, odd_ok hn hd x hx⟩
  unfold itemA
  simp only [hM]
  rw [atI_map, e]
  rfl
/-- the law's spoiling of rules -/
def spSpoilt : DSp := fun xs M P _ => ∃ (q p : Addr) (n : Nat) (names : List Str) (ds : List PyData) (k b m : Nat), xs = [.ref q, .dat (.tuple ds), .ref p] ∧ PurseB M q n ∧ n + 20 < 900000 ∧ p ≠ q ∧ M p = some (.lst (names.map fun s => .dat (.str s))) ∧ 0 < names.length ∧ names.length ≤ 60 ∧ (∀ s ∈ names, isName (.str s) = true) ∧
  Rows k b m ds ∧ 25 ≤ k ∧ k ≤ 50 ∧ m ≤ 1000 ∧ b ≤ 100000 ∧ ∀ (d : PyData) (M' : Mp), PurseB M' q (n + 20) → (∀ x, x ≠ q → (M' x = M x ∨ M x = none)) → Outp (k + 1) (3 * b + 20000) (2 * m + 100) d → P (.dat d) M'
theorem ok__law_spoilt (T : Facts K mg w) : GOk P w K mg base CX0 4 "_law_spoilt" ["purse", "rules", "pool"] spSpoilt := by
  have G__law_take := ok__law_take (P := P) (base := base) T
  obtain ⟨f, fd, D⟩ := T.d__law_spoilt
  refine gok_of D sc__law_spoilt ?_ fun cdv A out s H E hr hgd => ?_
  · rintro xs M P R ⟨d, n, c, ns, ds, k, b, m, rfl, h⟩
    rfl
  have hu := Room.units hr
  have hu66 : (A.deeper (envOfC "_law_spoilt" (defScope s__law_spoilt) s.heap.objs.size f cdv)).units + 66 < cLine := by
    have := hr.un
    omega
  refine ⟨_, (dss_cons (ds_setP (ps_set (i := 3) sc__law_spoilt.nd rfl (Or.inl rfl) (de_call G__law_take (hr.mono (by omega)) hgd (by rfl) pat0 (da_cons (de_var (pv 0)) (da_cons de_int da_nil)))))
    (dss_cons (ds_setP (ps_set (i := 4) sc__law_spoilt.nd rfl (Or.inl rfl) (de_call G__law_take (hr.mono (by omega)) hgd (by rfl) pat0 (da_cons (de_var (pv 0)) (da_cons (de_b2 (c_max2 rfl) (by rfl) T.m_max boot_max' de_int (de_len (by rfl) T.m_len (de_var (pv 1)))) da_nil)))))
    (dss_cons (ds_setP (ps_set (i := 5) sc__law_spoilt.nd rfl (Or.inl rfl) (de_ix (de_var (pv 2)) (de_call G__law_take (hr.mono (by omega)) hgd (by rfl) pat0 (da_cons (de_var (pv 0)) (da_cons (de_len (by rfl) T.m_len (de_var (pv 2))) da_nil))) (fun _ _ => rfl))))
    (dss_cons (ds_setP (ps_set (i := 6) sc__law_spoilt.nd rfl (Or.inl rfl) (de_lstM (da_cons (de_tup (da_cons de_str da_nil)) (da_cons (de_tup (da_cons de_str (da_cons (de_var (pv 5)) (da_cons (de_var (pv 5)) da_nil)))) (da_cons (de_tup (da_cons de_str (da_cons (de_var (pv 5)) da_nil))) (da_cons (de_tup (da_cons de_str (da_cons (de_var (pv 5)) da_nil))) (da_cons (de_tup (da_cons de_str (da_cons (de_var (pv 5)) (da_cons de_int da_nil)))) (da_cons (de_tup (da_cons de_str (da_cons (de_var (pv 5)) da_nil))) da_nil)))))))))
    (dss_cons (ds_setP (ps_set (i := 6) sc__law_spoilt.nd rfl (Or.inl rfl) (de_op do_add (de_var (pv 6)) (de_lstM (da_cons (de_tup (da_cons de_str (da_cons de_int da_nil))) (da_cons (de_tup (da_cons de_str (da_cons (de_var (pv 5)) (da_cons de_non da_nil)))) (da_cons (de_tup (da_cons de_str (da_cons (de_var (pv 5)) (da_cons (de_op do_add (de_op do_pow de_int de_int) de_int) da_nil)))) (da_cons (de_tup (da_cons de_str (da_cons (de_var (pv 5)) (da_cons de_bl da_nil)))) da_nil))))))))
    (dss_cons (ds_setP (ps_set (i := 7) sc__law_spoilt.nd rfl (Or.inl rfl) (de_tup (da_cons de_str (da_cons (de_tup (da_cons (de_tup (da_cons de_str (da_cons (de_tup (da_cons (de_tup (da_cons de_str (da_cons (de_tup (da_cons (de_tup (da_cons de_str (da_cons (de_tup (da_cons (de_tup (da_cons de_str (da_cons (de_tup da_nil) da_nil))) da_nil)) da_nil))) da_nil)) da_nil))) da_nil)) da_nil))) da_nil)) da_nil)))))
    (dss_cons (ds_setP (ps_set (i := 6) sc__law_spoilt.nd rfl (Or.inl rfl) (de_op do_add (de_var (pv 6)) (de_lstM (da_cons (de_tup (da_cons de_str (da_cons (de_var (pv 5)) (da_cons (de_lst (da_cons de_int da_nil)) da_nil)))) (da_cons (de_tup da_nil) (da_cons de_non (da_cons de_int (da_cons (de_tup (da_cons de_str (da_cons (de_var (pv 5)) (da_cons (de_tup (da_cons de_str (da_cons de_int da_nil))) da_nil)))) (da_cons (de_tup (da_cons de_str (da_cons (de_var (pv 5)) (da_cons (de_tup (da_cons de_str (da_cons (de_tup (da_cons de_bl da_nil)) da_nil))) da_nil)))) da_nil))))))))))
    (dss_cons (ds_setP (ps_set (i := 6) sc__law_spoilt.nd rfl (Or.inl rfl) (de_op do_add (de_var (pv 6)) (de_lstM (da_cons (de_tup (da_cons de_str (da_cons de_str da_nil))) (da_cons (de_tup (da_cons de_str (da_cons (de_var (pv 5)) (da_cons de_str da_nil)))) (da_cons (de_tup (da_cons de_str (da_cons de_str da_nil))) (da_cons (de_tup (da_cons de_str (da_cons de_str da_nil))) (da_cons de_str (da_cons (de_lst (da_cons de_str (da_cons (de_var (pv 5)) da_nil))) da_nil))))))))))
    (dss_cons (ds_expr (de_append (de_var (pv 6)) (de_tup (da_cons de_str (da_cons (de_var (pv 5)) (da_cons (de_var (pv 7)) da_nil))))))
    (dss_cons (ds_if (dt_cmp do_lt (de_var (pv 3)) de_int (by rfl))
      (dss_one (ds_ret (de_op do_add (de_op do_add (de_sl (de_var (pv 1)) do_none (do_some (de_var (pv 4)))) (de_tup (da_cons (de_ix (de_var (pv 6)) (de_call G__law_take (hr.mono (by omega)) hgd (by rfl) pat0 (da_cons (de_var (pv 0)) (da_cons de_int da_nil))) (fun _ _ => rfl)) da_nil))) (de_sl (de_var (pv 1)) (do_some (de_var (pv 4))) do_none))))
      dss_nil)
    (dss_cons (ds_if (dt_cmp (do_eqM hu) (de_var (pv 3)) de_int (by rfl))
      (dss_one (ds_ret (de_op do_add (de_var (pv 1)) (de_sl (de_var (pv 1)) (do_some (de_var (pv 4))) (do_some (de_op do_add (de_var (pv 4)) de_int))))))
      dss_nil)
    (dss_cons (ds_if (dt_cmp (do_eqM hu) (de_var (pv 3)) de_int (by rfl))
      (dss_cons (ds_setP (ps_set (i := 8) sc__law_spoilt.nd rfl (Or.inl rfl) (de_lst (da_cons (de_tup (da_cons de_str (da_cons (de_var (pv 5)) da_nil))) (da_cons (de_tup (da_cons de_str (da_cons (de_var (pv 5)) da_nil))) (da_cons (de_tup (da_cons de_str (da_cons (de_var (pv 5)) (da_cons (de_var (pv 5)) da_nil)))) (da_cons (de_tup (da_cons de_str (da_cons (de_var (pv 5)) (da_cons de_int da_nil)))) da_nil)))))))
    (dss_one (ds_ret (de_op do_add (de_var (pv 1)) (de_tup (da_cons (de_ix (de_var (pv 8)) (de_call G__law_take (hr.mono (by omega)) hgd (by rfl) pat0 (da_cons (de_var (pv 0)) (da_cons de_int da_nil))) (fun _ _ => rfl)) (da_cons (de_ix (de_var (pv 8)) (de_call G__law_take (hr.mono (by omega)) hgd (by rfl) pat0 (da_cons (de_var (pv 0)) (da_cons de_int da_nil))) (fun _ _ => rfl)) da_nil)))))))
      dss_nil)
    (dss_cons (ds_if (dt_cmp (do_eqM hu) (de_var (pv 3)) de_int (by rfl))
      (dss_one (ds_ret (de_op do_add (de_var (pv 1)) (de_t1 c_tupOf (by rfl) T.m_tuple boot_t_tuple (de_lc (own := [("one", 9)]) rfl sc__law_spoilt.nd (di_M (de_var (pv 2))) (blkOk_by (own := [("one", 9)]) (N := N__law_spoilt) (sc := defScope s__law_spoilt) (by decide +kernel)) (ct_name (i := 9)) (fun _ _ _ _ _ => pg_name (i := 9) sc__law_spoilt.nd rfl (Or.inl rfl)) (fun _ _ _ _ _ => dts_nil) (fun _ _ _ _ _ => (de_tup (da_cons de_str (da_cons (de_var (pv 9)) da_nil)))))))))
      dss_nil)
    (dss_cons (ds_if (dt_cmp (do_eqM hu) (de_var (pv 3)) de_int (by rfl))
      (dss_one (ds_ret (de_ix (de_lst (da_cons de_non (da_cons de_int (da_cons de_str (da_cons de_dct0 (da_cons (de_t1 c_lstOf (by rfl) T.m_list boot_t_list (de_var (pv 1))) (da_cons (de_tup (da_cons (de_var (pv 1)) da_nil)) (da_cons de_bl da_nil)))))))) (de_call G__law_take (hr.mono (by omega)) hgd (by rfl) pat0 (da_cons (de_var (pv 0)) (da_cons de_int da_nil))) (fun _ _ => rfl))))
      dss_nil)
    (dss_cons (ds_if (dt_bool (dw_and (dt_cmp (do_eqM hu) (de_var (pv 3)) de_int (by rfl)) (dw_and (dt_cmp (do_neM hu) (de_var (pv 1)) (de_tup da_nil) (by rfl)) (dw_and1 (dt_val (de_isi kit_tuple (by rfl) T.m_isinstance (by rfl) T.m_tuple boot_t_tuple (de_ix (de_var (pv 1)) (de_var (pv 4)) (fun _ _ => rfl))))))))
      (dss_one (ds_ret (de_op do_add (de_op do_add (de_sl (de_var (pv 1)) do_none (do_some (de_var (pv 4)))) (de_tup (da_cons (de_t1 c_lstOf (by rfl) T.m_list boot_t_list (de_ix (de_var (pv 1)) (de_var (pv 4)) (fun _ _ => rfl))) da_nil))) (de_sl (de_var (pv 1)) (do_some (de_op do_add (de_var (pv 4)) de_int)) do_none))))
      dss_nil)
    (dss_one (ds_ret (de_revT (de_var (pv 1)))))))))))))))))))), ?_⟩
  rintro xs M P R ⟨q, p, n, names, ds, k, b, m, rfl, hp, hn, hpq, hM, n0, n60, hnm, hrw, k0, k1, m1, b1', h⟩
  have hlen := hrw.len
  trivial
  refine g_take hp (by omega) (by decide) (by decide) fun way M1 w0 w1 hp1 o1 => ?_
  trivial
  refine g_take hp1 (by omega) ?_ ?_ fun at' M2 a0 a1 hp2 o2 => ?_
  · split <;> omega
  · split <;> omega
  trivial
  have mp2 : M2 p = some (.lst (names.map fun s => .dat (.str s))) := (o2 p hpq).trans ((o1 p hpq).trans hM)
  refine onO_mk (pool_len mp2) (g_take hp2 (by omega) (by omega) (by omega) fun u1 M3 u10 u11 hp3 o3 => ?_)
  have mp3 := (o3 p hpq).trans mp2
  obtain ⟨nm, hnm1, ei⟩ := pool_at mp3 u10 u11
  trivial
  refine onO_mk ei ?_
  trivial
  have G3 : Grow q (n + 3) M M3 := ⟨hp3, fun x hx => .inl ((o3 x hx).trans ((o2 x hx).trans (o1 x hx)))⟩
  clear mp2 o1 o2 o3 hp1 hp2 hp3
  intro b1 f1
  refine ⟨by unfold CPow; decide, fun b2 f2 => ?_⟩
  have y1 : b2 ≠ b1 := fun e => by
    rw [e, um_same] at f2
    cases f2
  obtain ⟨G4, _⟩ := G3.new (o := .lst _) f1
  obtain ⟨G5, _⟩ := G4.new (o := .lst _) f2
  refine ⟨_, _, (off_um b1 (Ne.symm y1)).trans um_same, um_same, Nat.le_of_ble_eq_true rfl, fun b3 f3 => ?_⟩
  obtain ⟨G6, _, m6⟩ := G5.new (o := .lst _) f3
  generalize um (um (um M3 b1 _) b2 _) b3 _ = M6 at G6 m6 ⊢
  clear G4 G5 f1 f2 f3
  intro b4 f4
  have y2 : b4 ≠ b3 := fun e => by
    rw [e, m6] at f4
    cases f4
  obtain ⟨G7, _⟩ := G6.new (o := .lst _) f4
  refine ⟨_, _, (off_um b3 (Ne.symm y2)).trans m6, um_same, Nat.le_of_ble_eq_true rfl, fun b5 f5 => ?_⟩
  obtain ⟨G8, _, m8⟩ := G7.new (o := .lst _) f5
  generalize um (um M6 b4 _) b5 _ = M8 at G8 m8 ⊢
  clear G6 G7 f4 f5 m6
  intro b6 f6
  have y3 : b6 ≠ b5 := fun e => by
    rw [e, m8] at f6
    cases f6
  obtain ⟨G9, _⟩ := G8.new (o := .lst _) f6
  refine ⟨_, _, (off_um b5 (Ne.symm y3)).trans m8, um_same, Nat.le_of_ble_eq_true rfl, fun b7 f7 => ?_⟩
  obtain ⟨G10, q7, m10⟩ := G9.new (o := .lst _) f7
  generalize um (um M8 b6 _) b7 _ = M10 at G10 m10 ⊢
  have nb : M b7 = none := by
    rcases G9.2 b7 (fun e => by
      obtain ⟨a, b, c, hq, _⟩ := G9.1
      rw [e, hq] at f7
      cases f7) with y | y
    · rw [← y]
      exact f7
    · exact y
  clear G8 G9 f6 f7 m8
  unfold wAppend
  trivial
  generalize hdp : PyData.tuple [PyData.str (Str.ofString "row"), PyData.tuple [PyData.tuple [PyData.str (Str.ofString "row"), PyData.tuple [PyData.tuple [PyData.str (Str.ofString "row"), PyData.tuple [PyData.tuple [PyData.str (Str.ofString "row"), PyData.tuple [PyData.tuple [PyData.str (Str.ofString "row"), PyData.tuple []]]]]]]]]] = deep
  have pdp : Pt deep := by
    rw [← hdp]
    exact pt_deep
  clear hdp
  refine onM_mk m10 (onM_mk m10 ⟨Nat.le_of_ble_eq_true rfl, ?_⟩)
  obtain ⟨G11, m11⟩ := G10.put (o := .lst _) q7 nb
  generalize um M10 b7 _ = M11 at G11 m11 ⊢
  have m12 : M11 b7 = some (.lst ((oddL nm deep).map .dat)) := m11
  clear m11 G10 m10
  have hnm0 := hnm nm hnm1
  have al : at' ≤ (ds.length : Nat) := by
    split at a1
    · omega
    · omega
  have pm11 : M11 p = some (.lst (names.map fun s => .dat (.str s))) := G11.at_ hpq hM
  have fin : ∀ (d : PyData) (M' : Mp) (j : Nat), Grow q j M M' → j ≤ n + 20 → Outp (k + 1) (3 * b + 20000) (2 * m + 100) d → P (.dat d) M' := fun d M' j hg hj ho => h d M' (hg.1.mono hj) hg.2 ho
  have hrw' := hrw.mono (Nat.le_succ k) (Nat.le_refl b) (Nat.le_refl m)
  refine ifB (fun e => ?_) fun e => ?_
  · unfold wSlice wPart wNoPart wSl
    trivial
    refine g_take G11.1 (by omega) (by decide) (by decide) fun i M12 i0 i1 hp12 o12 => ?_
    obtain ⟨x, ex, ex1, ex2⟩ := odd_at hnm0 pdp ((o12 b7 q7).trans m12) i0 i1
    trivial
    refine onO_mk ex ?_
    have r1 := hrw'.cut none (some at')
    have r2 := hrw'.cut (some at') none
    have r3 := (r1.app (Rows.one (ex1.mono (by omega)) ex2)).app r2
    have l1 := r1.len
    have l2 := r2.len
    rw [q_tup1]
    refine wAddT (by simp; omega) (wAddT (by simp; omega) ?_)
    exact fin _ _ _ (G11.draw hp12 o12) (by omega) (.inl ⟨_, rfl, r3.mono (by omega) (by omega) (by omega)⟩)
  refine ifB (fun e => ?_) fun e => ?_
  · unfold wSlice wPart wSl
    trivial
    have r1 := hrw'.cut (some at') (some (at' + 1))
    have l1 := r1.len
    refine wAddT (by omega) ?_
    exact fin _ _ _ G11 (by omega) (.inl ⟨_, rfl, (hrw'.app r1).mono (by omega) (by omega) (by omega)⟩)
  refine ifB (fun e => ?_) fun e => ?_
  · have both : ∀ i : Int, 0 ≤ i → i < 4 → ∃ x, atI [PyData.tuple [.str "hide", .str nm], PyData.tuple [.str "bar", .str nm], PyData.tuple [.str "as", .str nm, .str nm], PyData.tuple [.str "give", .str nm, .int 5]] i = some x ∧ El 25 x ∧ x.bulk ≤ 200 := fun i i0 i1 => by
      obtain ⟨x, hx, e⟩ := atI_mem [PyData.tuple [.str "hide", .str nm], PyData.tuple [.str "bar", .str nm], PyData.tuple [.str "as", .str nm, .str nm], PyData.tuple [.str "give", .str nm, .int 5]] i i0 i1
      refine ⟨x, e, made_el ?_⟩
      simp only [List.mem_cons, List.not_mem_nil, or_false] at hx
      rcases hx with rfl | rfl | rfl | rfl
      · exact ⟨nm, hnm0, .inl rfl⟩
      · exact ⟨nm, hnm0, .inr (.inl rfl)⟩
      · exact ⟨nm, hnm0, .inr (.inr (.inl ⟨nm, hnm0, rfl⟩))⟩
      · exact ⟨nm, hnm0, .inr (.inr (.inr (.inl ⟨_, by simp [worths], rfl⟩)))⟩
    refine g_take G11.1 (by omega) (by decide) (by decide) fun i M12 i0 i1 hp12 o12 => ?_
    obtain ⟨x, ex, ex1, ex2⟩ := both i i0 i1
    trivial
    rw [ex]
    refine onO_mk rfl ?_
    refine g_take hp12 (by omega) (by decide) (by decide) fun i' M13 i0' i1' hp13 o13 => ?_
    obtain ⟨y, ey, ey1, ey2⟩ := both i' i0' i1'
    trivial
    rw [ey]
    refine onO_mk rfl ?_
    rw [q_tup2]
    refine wAddT (by simp; omega) ?_
    have r3 := hrw'.app ((Rows.one (ex1.mono (by omega : 25 ≤ k + 1)) ex2).app (Rows.one (ey1.mono (by omega : 25 ≤ k + 1)) ey2))
    exact fin _ _ _ ((G11.draw hp12 o12).draw hp13 o13) (by omega) (.inl ⟨_, rfl, r3.mono (by omega) (by omega) (by omega)⟩)
  refine ifB (fun e => ?_) fun e => ?_
  · refine g_lcM (fun s => [some (AV.ref q), some (AV.dat (PyData.tuple ds)), some (AV.ref p), some (AV.dat (PyData.int way)), some (AV.dat (PyData.int at')), some (AV.dat (PyData.str nm)), some (AV.ref b7), some (AV.dat deep), none, some (.dat (.str s))]) (fun _ => true) (fun s => .tuple [.str "count", .str s]) (fun s => .dat (.str s)) names rfl pm11 (Nat.le_trans n60 (by decide)) (fun s hs => ⟨rfl, fun M P R q => q, fun _ M P R q => ?_⟩) ?_
    · trivial
      exact q
    · unfold wTupOf
      refine onO_mk rfl ?_
      rw [q_tup, filter_yes]
      have r3 := rows_many (k := 25) (xs := names.map fun s => PyData.tuple [.str "count", .str s]) fun x hx => by
        obtain ⟨s, hs, rfl⟩ := List.mem_map.mp hx
        exact made_el ⟨s, hnm s hs, .inr (.inr (.inr (.inr rfl)))⟩
      rw [List.length_map] at r3
      refine wAddT (by rw [List.length_map]; omega) ?_
      exact fin _ _ _ G11 (by omega) (.inl ⟨_, rfl, (hrw'.app (r3.mono (by omega) (Nat.le_refl _) (Nat.le_refl _))).mono (by omega) (by omega) (by omega)⟩)
  refine ifB (fun e => ?_) fun e => ?_
  · refine onO_mk rfl (onDs_mk (datsOf_dats ds) (onO_mk rfl ?_))
    refine g_take G11.1 (by omega) (by decide) (by decide) fun i M12 i0 i1 hp12 o12 => ?_
    trivial
    obtain ⟨x, hx, ex⟩ := atI_mem [PyData.none, .int 7, .str (Str.ofString ""), .dict [], .list ds, .tuple [.tuple ds], .bool true] i i0 i1
    refine onO_mk (x := .dat x) (by
      show Option.map AV.dat (atI [PyData.none, .int 7, .str (Str.ofString ""), .dict [], .list ds, .tuple [.tuple ds], .bool true] i) = _
      rw [ex]
      rfl) ?_
    refine fin _ _ _ (G11.draw hp12 o12) (by omega) ?_
    simp only [List.mem_cons, List.not_mem_nil, or_false] at hx
    rcases hx with rfl | rfl | rfl | rfl | rfl | rfl | rfl
    · exact .inr ⟨fun _ z => (by cases z), by unfold Shows; decide +kernel⟩
    · exact .inr ⟨fun _ z => (by cases z), by unfold Shows; decide +kernel⟩
    · exact .inr ⟨fun _ z => (by cases z), by unfold Shows; decide +kernel⟩
    · exact .inr ⟨fun _ z => (by cases z), by unfold Shows; decide +kernel⟩
    · exact .inr ⟨fun _ z => (by cases z), hrw.showsL (by omega) (by omega)⟩
    · refine .inl ⟨_, rfl, (Rows.one (hrw.wrap (by omega)) (b := b) ?_).mono (Nat.le_refl _) (by omega) (by omega)⟩
      have := hrw.blk
      simpa only [PyData.bulk] using this
    · exact .inr ⟨fun _ z => (by cases z), by unfold Shows; decide +kernel⟩
  have rev : wRevT (wVar 1) [some (AV.ref q), some (AV.dat (PyData.tuple ds)), some (AV.ref p), some (AV.dat (PyData.int way)), some (AV.dat (PyData.int at')), some (AV.dat (PyData.str nm)), some (AV.ref b7), some (AV.dat deep), none, none] M11 P fun c fs M1 => R c fs M1 := by
    unfold wRevT
    refine ⟨_, rfl, ?_⟩
    exact fin _ _ _ G11 (by omega) (.inl ⟨_, rfl, hrw'.rev.mono (by omega) (by omega) (by omega)⟩)
  refine ifB (fun e => ?_) fun e => rev
  refine ⟨hrw.shaped (by omega), by decide +kernel, ifB (fun e2 => ?_) fun e2 => rev⟩
  cases hds : ds with
  | nil =>
    subst hds
    cases e2
  | cons y ys =>
    rw [← hds]
    have dl : 1 ≤ ds.length := by
      rw [hds]
      simp
    have al2 : at' < (ds.length : Nat) := by
      split at a1
      · omega
      · omega
    obtain ⟨x, hx, ex⟩ := atI_mem ds at' a0 al2
    rw [ex]
    trivial
    refine ifB (fun e3 => ?_) fun e3 => rev
    cases x with
    | tuple ps =>
      unfold wSlice wPart wNoPart wSl
      trivial
      refine onO_mk rfl (onDs_mk (datsOf_dats ps) ?_)
      have ex1 := (hrw'.el _ hx).lst
      have ex2 : (PyData.list ps).bulk ≤ b := by
        have := bulk_mem hx
        have := hrw.blk
        simp only [PyData.bulk] at *
        omega
      have r1 := hrw'.cut none (some at')
      have r2 := hrw'.cut (some (at' + 1)) none
      have r3 := (r1.app (Rows.one ex1 ex2)).app r2
      have l1 := r1.len
      have l2 := r2.len
      dsimp only
      rw [q_tup1]
      refine wAddT (by simp; omega) (wAddT (by simp; omega) ?_)
      exact fin _ _ _ G11 (by omega) (.inl ⟨_, rfl, r3.mono (by omega) (by omega) (by omega)⟩)
    | _ => cases e3

end
end K13
end
section
set_option Elab.async false
set_option linter.all false
set_option maxRecDepth 100000
set_option maxHeartbeats 400000
namespace K13
open PySem PySem.Spec L2 DL DX
open PyProof.Rows hiding St
local macro_rules | `(tactic| trivial) => `(tactic| simp only [DL.wSeq, DL.wNext, DL.wRet, DL.wDrop, DL.wIf, DL.wSet, DL.wC, DL.wVar, DL.wOp, DL.wAnd, DL.wOr, DL.wNot, DL.wB, DL.wAndV, DL.wOrV, DL.wNotV, DL.wIfE, DL.wChain, DL.wIsi, DL.wUn, DL.wLen, DL.wCall, DL.wNil, DL.wCons, DL.wTup, DL.wLst, DL.wLstM, DL.wNeg, DL.isT, String.reduceBEq, Bool.or_false, Bool.false_or, Bool.or_true, Bool.true_or, Bool.or_self, Bool.and_self, DL.wGt, DL.wGe, DL.dstart, List.map_cons, List.map_nil, List.length_cons, List.length_nil, List.cons_append, List.nil_append, List.getElem?_cons_zero, List.getElem?_cons_succ, Option.some.injEq, exists_eq_left', exists_eq_left, List.set_cons_zero, List.set_cons_succ, decide_true, decide_false, Bool.true_and, Bool.and_true, Bool.false_and, Bool.and_false, true_and, Bool.not_true, Bool.not_false, if_true, if_false, reduceIte, Bool.false_eq_true, bne_self_eq_false, DL.bne_f, DL.bne_t, List.getElem?_nil, Nat.reduceAdd, Nat.reduceSub, List.replicate_succ, List.replicate_zero, DL.q_onO, DL.q_onO0, DL.q_onB, DL.q_onI, DL.q_onS, DL.q_onL, DL.q_ty, DL.q_tyT, DL.q_ty0, DL.q_ty1, DL.q_ty2, DL.q_ty3, DL.q_ty4, DL.q_ty5, DL.q_ty6, DL.q_lenT, DL.q_lenL, DL.q_lenS, DL.q_ixT, DL.q_ixL, DL.q_ixA, DL.q_leI, DL.q_leS, DL.q_ltI, DL.q_ltS, DL.q_I0, DL.q_II, DL.q_sub, DL.q_addI, DL.q_addS, DL.q_addT, DL.q_addL, DL.q_mulI, DL.q_mulS, DL.q_none, DL.q_noneR, DL.q_is, DL.q_isB, DL.q_inT, DL.q_inL, DL.q_inS, DL.q_inM, DL.q_eq, DL.q_rd, DL.q_ord, DL.q_ix, DL.q_tup, DL.q_tup0, DL.q_tup1, DL.q_tup2, DL.q_tup3, DL.q_eqI, DL.q_eqS, DL.q_shI, DL.q_flI, DL.q_flS, DL.q_flN, DL.q_flB, DL.q_at0, DL.q_at1, DL.q_at2, DL.q_partsT, DL.iT, DL.iS, DL.iL, DL.wAsg, DL.q_star, DL.q_gN, DL.wInTab, DL.wTab, DL.q_onDs, DL.q_dats0, DL.q_datsc, DL.q_sz0, DL.q_sz1, DL.q_sz2, DL.q_sz3, DL.q_sz4, DL.q_sz5, DL.q_sz6, DL.q_sz7, DL.q_sz11, DL.q_sz12, DL.q_keyS, DL.q_getD, DL.q_dct, DL.wInD, DL.wIxD, DL.q_ixU, DL.q_onMU, DL.q_lenU, DL.q_um, DL.q_n30, DL.q_n31, DL.q_n32, DL.q_max, DL.gIx, DL.q_map, DL.q_all0, DL.q_allc])
section
variable {P : Program} {w : World} {K : PySem.W.Frag} {mg : Str → Option Value} {base : Heap} {k : Nat}
def spLaw : DSp := fun xs M P _ => ∃ (ns : List Int), xs = [.dat (.list (ns.map .int))] ∧ ∀ M', P (.dat (.bool true)) M'
theorem ok__law_joined_one (T : Facts K mg w) : GOk P w K mg base CX0 14 "_law_joined_one" ["script"] spLaw := by
  have G__law_take := (ok__law_take (P := P) (base := base) T).mono (k := 13) (by omega)
  have G__law_purse := (ok__law_purse (P := P) (base := base) T).mono (k := 13) (by omega)
  have G__law_cell := (ok__law_cell (P := P) (base := base) T).mono (k := 13) (by omega)
  have G__law_pool := (ok__law_pool (P := P) (base := base) T).mono (k := 13) (by omega)
  have G__law_rules := (ok__law_rules (P := P) (base := base) T).mono (k := 13) (by omega)
  have G__law_good := (ok__law_good (P := P) (base := base) T).mono (k := 13) (by omega)
  have G_are_rules := (ok_are_rules (P := P) (base := base) T).mono (k := 13) (by omega)
  have G__law_spoilt := (ok__law_spoilt (P := P) (base := base) T).mono (k := 13) (by omega)
  obtain ⟨f, fd, D⟩ := T.d__law_joined_one
  refine gok_of D sc__law_joined_one ?_ fun cdv A out s H E hr hgd => ?_
  · rintro xs M P R ⟨d, rfl, h⟩
    rfl
  have hu := Room.units hr
  have hu66 : (A.deeper (envOfC "_law_joined_one" (defScope s__law_joined_one) s.heap.objs.size f cdv)).units + 66 < cLine := by
    have := hr.un
    omega
  refine ⟨_, (dss_cons (ds_for (passes_of rfl) rfl (di_R1 (by rfl) T.m_range (de_b2 (c_max2 rfl) (by rfl) T.m_max boot_max' de_int (de_b2 (c_min2 rfl) (by rfl) T.m_min boot_min' de_int (de_len (by rfl) T.m_len (de_var (pv 0)))))) (dg_name (pg_name (i := 1) sc__law_joined_one.nd rfl (Or.inl rfl)))
      (dss_cons (ds_setP (ps_set (i := 2) sc__law_joined_one.nd rfl (Or.inl rfl) (de_call G__law_purse (hr.mono (by omega)) hgd (by rfl) pat0 (da_cons (de_call G__law_cell (hr.mono (by omega)) hgd (by rfl) pat0 (da_cons (de_var (pv 0)) (da_cons (de_var (pv 1)) da_nil))) da_nil))))
    (dss_cons (ds_setP (ps_set (i := 3) sc__law_joined_one.nd rfl (Or.inl rfl) (de_call G__law_pool (hr.mono (by omega)) hgd (by rfl) pat0 (da_cons (de_var (pv 2)) (da_cons de_int da_nil)))))
    (dss_cons (ds_setP (ps_set (i := 4) sc__law_joined_one.nd rfl (Or.inl rfl) (de_call G__law_rules (hr.mono (by omega)) hgd (by rfl) pat0 (da_cons (de_var (pv 2)) (da_cons (de_var (pv 3)) da_nil)))))
    (dss_cons (ds_if (dt_bool (dw_or (dt_cmp do_isNot (de_call G_are_rules (hr.mono (by omega)) hgd (by rfl) pat0 (da_cons (de_var (pv 4)) da_nil)) de_bl (by rfl)) (dw_or1 (dt_not (dt_val (de_call G__law_good (hr.mono (by omega)) hgd (by rfl) pat0 (da_cons (de_var (pv 4)) da_nil)))))))
      (dss_one (ds_ret de_bl))
      dss_nil)
    (dss_one (ds_for (passes_of rfl) rfl (di_R1 (by rfl) T.m_range de_int) (dg_name (pg_name (i := 5) sc__law_joined_one.nd rfl (Or.inl rfl)))
      (dss_cons (ds_setP (ps_set (i := 6) sc__law_joined_one.nd rfl (Or.inl rfl) (de_var (pv 4))))
    (dss_cons (ds_for (passes_of rfl) rfl (di_R1 (by rfl) T.m_range (de_op do_add de_int (de_call G__law_take (hr.mono (by omega)) hgd (by rfl) pat0 (da_cons (de_var (pv 2)) (da_cons de_int da_nil))))) (dg_name (pg_name (i := 7) sc__law_joined_one.nd rfl (Or.inl rfl)))
      (dss_one (ds_if (dt_val (de_isi kit_tuple (by rfl) T.m_isinstance (by rfl) T.m_tuple boot_t_tuple (de_var (pv 6))))
      (dss_one (ds_setP (ps_set (i := 6) sc__law_joined_one.nd rfl (Or.inl rfl) (de_call G__law_spoilt (hr.mono (by omega)) hgd (by rfl) pat0 (da_cons (de_var (pv 2)) (da_cons (de_var (pv 6)) (da_cons (de_var (pv 3)) da_nil)))))))
      dss_nil)))
    (dss_cons (ds_par (ps_par (i := 8) (j := 9) rfl sc__law_joined_one.nd rfl rfl (by decide) rfl rfl (da_cons (de_b1 (c_repr T.sys hgd hu66) (by rfl) T.m_repr boot_repr' (de_call G__law_good (hr.mono (by omega)) hgd (by rfl) pat0 (da_cons (de_var (pv 6)) da_nil))) (da_cons (de_b1 (c_repr T.sys hgd hu66) (by rfl) T.m_repr boot_repr' (de_var (pv 6))) da_nil)) rfl))
    (dss_one (ds_if (dt_bool (dw_or (dt_cmp (do_neM hu) (de_b1 (c_repr T.sys hgd hu66) (by rfl) T.m_repr boot_repr' (de_call G_are_rules (hr.mono (by omega)) hgd (by rfl) pat0 (da_cons (de_var (pv 6)) da_nil))) (de_var (pv 8)) (by rfl)) (dw_or (dt_cmp (do_neM hu) (de_b1 (c_repr T.sys hgd hu66) (by rfl) T.m_repr boot_repr' (de_call G_are_rules (hr.mono (by omega)) hgd (by rfl) pat0 (da_cons (de_var (pv 6)) da_nil))) (de_var (pv 8)) (by rfl)) (dw_or1 (dt_cmp (do_neM hu) (de_b1 (c_repr T.sys hgd hu66) (by rfl) T.m_repr boot_repr' (de_var (pv 6))) (de_var (pv 9)) (by rfl))))))
      (dss_one (ds_ret de_bl))
      dss_nil))))))))))))
    (dss_one (ds_ret de_bl))), ?_⟩
  rintro xs M P R ⟨ns, rfl, h⟩
  unfold wFor iR1
  trivial
  unfold wMin2
  refine ⟨True.intro, ?_⟩
  trivial
  refine ⟨⟨by omega, by omega⟩, ?_⟩
  refine forGo_inv (fun k : Nat => .dat (.int (k : Nat))) (fun j δ M => ∃ o1 o2 o3 o4 o5 o6 o7 o8 o9, δ = [some (AV.dat (PyData.list (List.map PyData.int ns))), o1, o2, o3, o4, o5, o6, o7, o8, o9]) (List.range _) 0 _ _ ?_ ?_ ?_
  · exact ⟨none, none, none, none, none, none, none, none, none, rfl⟩
  · rintro k hk j δ M1 E' hjb ⟨o1, o2, o3, o4, o5, o6, o7, o8, o9, rfl⟩ e1 e2 e3 hnx
    have hk' : k < 10 := by
      have := List.mem_range.mp hk
      omega
    unfold gN
    trivial
    refine ⟨ns, k, rfl, by omega, fun c => ?_⟩
    refine ⟨c, rfl, fun q a b hq a0 b0 b1 => ?_⟩
    have hp : PurseB (um M1 q (.lst [.dat (.int a), .dat (.int b), .dat (.int 0)])) q 0 := ⟨a, b, 0, um_same, a0, b0, b1, by omega⟩
    generalize um M1 q _ = M2 at hp ⊢
    trivial
    refine ⟨q, 0, 9, rfl, hp, by omega, by omega, fun p names M3 hpq hp0 hp3 hpp _ hl hnm => ?_⟩
    refine ⟨q, p, _, names, rfl, hpp, by omega, hpq, hp3, by omega, by omega, hnm, fun ds M4 hp4 o4' hr4 hm4 => ?_⟩
    trivial
    have p4 : M4 p = some (.lst (names.map fun s => .dat (.str s))) := by
      rcases o4' p hpq with y | y
      · rw [y, hp3]
      · rw [y] at hp3
        cases hp3
    have dl : ds.length ≤ 8 := by
      have z : rulesB ds = true := hr4
      unfold rulesB at z
      simp only [Bool.and_eq_true, decide_eq_true_eq] at z
      omega
    have rw0 : Rows 25 2000 8 ds := (rows_many fun x hx => made_el (hm4 x hx)).mono (Nat.le_refl _) (by omega) dl
    refine ⟨_, rfl, rw0.fitS (by omega), ?_⟩
    trivial
    rw [hr4]
    refine ifF rfl ?_
    refine ⟨_, rfl, rw0.fitG (by omega) (by omega), ?_⟩
    trivial
    rw [hr4]
    refine ifF rfl ⟨⟨by omega, by omega⟩, ?_⟩
    refine forGo_inv (fun k : Nat => .dat (.int (k : Nat))) (fun j δ M => (∃ o5 o6 o7 o8 o9, δ = [some (AV.dat (PyData.list (List.map PyData.int ns))), some (AV.dat (PyData.int (k : Nat))), some (AV.ref q), some (AV.ref p), some (AV.dat (PyData.tuple ds)), o5, o6, o7, o8, o9]) ∧ PurseB M q (300 + 50 * j) ∧ M p = some (.lst (names.map fun s => .dat (.str s)))) (List.range _) 0 _ _ ?_ ?_ ?_
    · exact ⟨⟨_, _, _, _, _, rfl⟩, hp4.mono (by omega), p4⟩
    · rintro k2 hk2 j2 δ M5 E2 hjb2 ⟨⟨u5, u6, u7, u8, u9, rfl⟩, hp5, p5⟩ e21 e22 e23 hnx2
      have hj2 : j2 < 4 := by
        simp at hjb2
        omega
      trivial
      refine g_take hp5 (by omega) (by decide) (by decide) fun r M6 r0 r1 hp6 o6' => ?_
      trivial
      refine ⟨⟨by omega, by omega⟩, ?_⟩
      refine forGo_inv (fun k : Nat => .dat (.int (k : Nat))) (fun j δ M => (∃ d o7 o8 o9, δ = [some (AV.dat (PyData.list (List.map PyData.int ns))), some (AV.dat (PyData.int (k : Nat))), some (AV.ref q), some (AV.ref p), some (AV.dat (PyData.tuple ds)), some (AV.dat (.int (k2 : Nat))), some (.dat d), o7, o8, o9] ∧ (∃ b n, Outp (25 + j) b n d ∧ b ≤ [2000, 26000, 98000].getD j 0 ∧ n ≤ [8, 116, 332].getD j 0)) ∧ PurseB M q (301 + 50 * j2 + 20 * j) ∧ M p = some (.lst (names.map fun s => .dat (.str s)))) (List.range _) 0 _ _ ?_ ?_ ?_
      · exact ⟨⟨_, _, _, _, rfl, 2000, 8, .inl ⟨_, rfl, rw0⟩, Nat.le_refl _, Nat.le_refl _⟩, hp6.mono (by omega), (o6' p hpq).trans p5⟩
      · rintro k3 hk3 j3 δ M7 E3 hjb3 ⟨⟨d, u7, u8, u9, rfl, b3, n3, ou, hb3, hn3⟩, hp7, p7⟩ e31 e32 e33 hnx3
        have hj3 : j3 < 2 := by
          simp at hjb3
          omega
        trivial
        have done3 : ∀ (d : PyData) (M' : Mp), (∃ b n, Outp (25 + (j3 + 1)) b n d ∧ b ≤ [2000, 26000, 98000].getD (j3 + 1) 0 ∧ n ≤ [8, 116, 332].getD (j3 + 1) 0) → PurseB M' q (301 + 50 * j2 + 20 * (j3 + 1)) → M' p = some (.lst (names.map fun s => .dat (.str s))) → E3.nx [some (AV.dat (PyData.list (List.map PyData.int ns))), some (AV.dat (PyData.int (k : Nat))), some (AV.ref q), some (AV.ref p), some (AV.dat (PyData.tuple ds)), some (AV.dat (.int (k2 : Nat))), some (.dat d), some (.dat (.int (k3 : Nat))), u8, u9] M' := fun d M' h1 h2 h3 => (hnx3 _ _ ⟨⟨d, _, _, _, rfl, h1⟩, h2, h3⟩).1
        rcases ou with ⟨ds', rfl, hrw⟩ | ⟨hnt, sh⟩
        · refine ifT rfl ?_
          have bb : b3 ≤ 26000 ∧ n3 ≤ 116 ∧ 3 * b3 + 20000 ≤ [2000, 26000, 98000].getD (j3 + 1) 0 ∧ 2 * n3 + 100 ≤ [8, 116, 332].getD (j3 + 1) 0 := by
            clear hjb3
            rcases (by omega : j3 = 0 ∨ j3 = 1) with rfl | rfl
            · simp only [Nat.zero_add, Nat.reduceAdd, List.getD_cons_zero, List.getD_cons_succ] at hb3 hn3 ⊢
              omega
            · simp only [Nat.zero_add, Nat.reduceAdd, List.getD_cons_zero, List.getD_cons_succ] at hb3 hn3 ⊢
              omega
          refine ⟨q, p, _, names, ds', 25 + j3, b3, n3, rfl, hp7, by omega, hpq, p7, by omega, by omega, hnm, hrw, by omega, by omega, by omega, by omega, fun d' M8 hp8 o8' ho8 => ?_⟩
          refine done3 d' M8 ⟨_, _, ho8, bb.2.2.1, bb.2.2.2⟩ (hp8.mono (by omega)) ?_
          rcases o8' p hpq with y | y
          · rw [y, p7]
          · rw [y] at p7
            cases p7
        · refine ifF ?_ (done3 d M7 ⟨b3, n3, .inr ⟨hnt, sh⟩, ?_, ?_⟩ (hp7.mono (by omega)) p7)
          · cases d with
            | tuple ds => exact (hnt ds rfl).elim
            | _ => rfl
          · clear hjb3
            rcases (by omega : j3 = 0 ∨ j3 = 1) with rfl | rfl
            · simp only [Nat.zero_add, Nat.reduceAdd, List.getD_cons_zero, List.getD_cons_succ] at hb3 hn3 ⊢
              omega
            · simp only [Nat.zero_add, Nat.reduceAdd, List.getD_cons_zero, List.getD_cons_succ] at hb3 hn3 ⊢
              omega
          · clear hjb3
            rcases (by omega : j3 = 0 ∨ j3 = 1) with rfl | rfl
            · simp only [Nat.zero_add, Nat.reduceAdd, List.getD_cons_zero, List.getD_cons_succ] at hb3 hn3 ⊢
              omega
            · simp only [Nat.zero_add, Nat.reduceAdd, List.getD_cons_zero, List.getD_cons_succ] at hb3 hn3 ⊢
              omega
      · rintro δ M7 ⟨⟨d, u7, u8, u9, rfl, b3, n3, ou, hb3, hn3⟩, hp7, p7⟩
        unfold wPar
        trivial
        have lim : (List.range (1 + r).toNat).length ≤ 2 := by
          simp
          omega
        have bd : b3 ≤ 98000 ∧ n3 ≤ 332 := by
          have hz : 0 + (List.range (1 + r).toNat).length ≤ 2 := by omega
          clear ou hp7
          generalize 0 + (List.range (1 + r).toNat).length = z at hb3 hn3 hz
          rcases (by omega : z = 0 ∨ z = 1 ∨ z = 2) with rfl | rfl | rfl
          · simp only [List.getD_cons_zero, List.getD_cons_succ] at hb3 hn3
            omega
          · simp only [List.getD_cons_zero, List.getD_cons_succ] at hb3 hn3
            omega
          · simp only [List.getD_cons_zero, List.getD_cons_succ] at hb3 hn3
            omega
        obtain ⟨fs, fg, sh⟩ := ou.fit (by omega) (by omega) (by omega)
        have rb : ∀ (b : Bool) (M : Mp) (P : DK), P (.dat (.str (PyData.bool b).shown)) M → wRepr (.dat (.bool b)) M P := fun b M P h => ⟨_, .dat _, rfl, by cases b <;> decide +kernel, by simp [PyData.depth], h⟩
        have rd : ∀ (M : Mp) (P : DK), P (.dat (.str d.shown)) M → wRepr (.dat d) M P := fun M P h => ⟨_, .dat _, sh.1, sh.2.1, sh.2.2.1, h⟩
        have cb : ∀ b : Bool, SeqAt.shaped (.str (PyData.bool b).shown) = true := fun b => by cases b <;> decide +kernel
        have cd : SeqAt.shaped (.str d.shown) = true := shS sh.2.2.2
        have eq0 : ∀ z : Str, (!(PyData.str z).eqv (.str z)) = false := fun z => by
          rw [q_eqS, decide_eq_true rfl]
          rfl
        refine ⟨d, rfl, fg, rb _ _ _ (rd _ _ ⟨d, rfl, fs, rb _ _ _ (onO_mk rfl (onO_mk rfl ⟨cb _, cb _, ifF (eq0 _) ⟨d, rfl, fs, rb _ _ _ (onO_mk rfl (onO_mk rfl ⟨cb _, cb _, ifF (eq0 _) (rd _ _ (onO_mk rfl (onO_mk rfl ⟨cd, cd, ifF (eq0 _) ?_⟩)))⟩))⟩⟩))⟩)⟩
        exact (hnx2 _ _ ⟨⟨_, _, _, _, _, rfl⟩, hp7.mono (by omega), p7⟩).1
    · rintro δ M5 ⟨⟨u5, u6, u7, u8, u9, rfl⟩, hp5, p5⟩
      exact (hnx _ _ ⟨_, _, _, _, _, _, _, _, _, rfl⟩).1
  · rintro δ M1 ⟨o1, o2, o3, o4, o5, o6, o7, o8, o9, rfl⟩
    trivial
    exact h _

end
end K13
end
section
set_option Elab.async false
set_option linter.all false
set_option maxRecDepth 100000
set_option maxHeartbeats 400000
namespace K13
open PySem PySem.Spec L2 DL DX
open PyProof.Rows hiding St
local macro_rules | `(tactic| trivial) => `(tactic| simp only [DL.wSeq, DL.wNext, DL.wRet, DL.wDrop, DL.wIf, DL.wSet, DL.wC, DL.wVar, DL.wOp, DL.wAnd, DL.wOr, DL.wNot, DL.wB, DL.wAndV, DL.wOrV, DL.wNotV, DL.wIfE, DL.wChain, DL.wIsi, DL.wUn, DL.wLen, DL.wCall, DL.wNil, DL.wCons, DL.wTup, DL.wLst, DL.wLstM, DL.wNeg, DL.isT, String.reduceBEq, Bool.or_false, Bool.false_or, Bool.or_true, Bool.true_or, Bool.or_self, Bool.and_self, DL.wGt, DL.wGe, DL.dstart, List.map_cons, List.map_nil, List.length_cons, List.length_nil, List.cons_append, List.nil_append, List.getElem?_cons_zero, List.getElem?_cons_succ, Option.some.injEq, exists_eq_left', exists_eq_left, List.set_cons_zero, List.set_cons_succ, decide_true, decide_false, Bool.true_and, Bool.and_true, Bool.false_and, Bool.and_false, true_and, Bool.not_true, Bool.not_false, if_true, if_false, reduceIte, Bool.false_eq_true, bne_self_eq_false, DL.bne_f, DL.bne_t, List.getElem?_nil, Nat.reduceAdd, Nat.reduceSub, List.replicate_succ, List.replicate_zero, DL.q_onO, DL.q_onO0, DL.q_onB, DL.q_onI, DL.q_onS, DL.q_onL, DL.q_ty, DL.q_tyT, DL.q_ty0, DL.q_ty1, DL.q_ty2, DL.q_ty3, DL.q_ty4, DL.q_ty5, DL.q_ty6, DL.q_lenT, DL.q_lenL, DL.q_lenS, DL.q_ixT, DL.q_ixL, DL.q_ixA, DL.q_leI, DL.q_leS, DL.q_ltI, DL.q_ltS, DL.q_I0, DL.q_II, DL.q_sub, DL.q_addI, DL.q_addS, DL.q_addT, DL.q_addL, DL.q_mulI, DL.q_mulS, DL.q_none, DL.q_noneR, DL.q_is, DL.q_isB, DL.q_inT, DL.q_inL, DL.q_inS, DL.q_inM, DL.q_eq, DL.q_rd, DL.q_ord, DL.q_ix, DL.q_tup, DL.q_tup0, DL.q_tup1, DL.q_tup2, DL.q_tup3, DL.q_eqI, DL.q_eqS, DL.q_shI, DL.q_flI, DL.q_flS, DL.q_flN, DL.q_flB, DL.q_at0, DL.q_at1, DL.q_at2, DL.q_partsT, DL.iT, DL.iS, DL.iL, DL.wAsg, DL.q_star, DL.q_gN, DL.wInTab, DL.wTab, DL.q_onDs, DL.q_dats0, DL.q_datsc, DL.q_sz0, DL.q_sz1, DL.q_sz2, DL.q_sz3, DL.q_sz4, DL.q_sz5, DL.q_sz6, DL.q_sz7, DL.q_sz11, DL.q_sz12, DL.q_keyS, DL.q_getD, DL.q_dct, DL.wInD, DL.wIxD, DL.q_ixU, DL.q_onMU, DL.q_lenU, DL.q_um, DL.q_n30, DL.q_n31, DL.q_n32, DL.q_max, DL.gIx, DL.q_map, DL.q_all0, DL.q_allc])
section
variable {P : Program} {w : World} {K : PySem.W.Frag} {mg : Str → Option Value} {base : Heap} {k : Nat}
/-- small data -/
structure Sm (k b : Nat) (d : PyData) : Prop where
  sh : d.showable = true
  lv : d.leavesShort 40 = true
  ok : okD d
  dp : d.depth ≤ k
  blk : d.bulk ≤ b
theorem sm_all {k b : Nat} : ∀ {ds : List PyData}, (∀ d ∈ ds, Sm k b d) → PyData.showableAll ds = true ∧ PyData.leavesShortAll 40 ds = true ∧ okDs ds ∧ PyData.depthAll ds ≤ k ∧ PyData.bulkAll ds ≤ ds.length * (b + 1)
  | [], _ => ⟨rfl, rfl, by simp only [okDs], by simp [PyData.depthAll], by simp [PyData.bulkAll]⟩
  | d :: ds, h => by
    obtain ⟨a1, a2, a3, a4, a5⟩ := h d List.mem_cons_self
    obtain ⟨b1, b2, b3, b4, b5⟩ := sm_all fun x hx => h x (List.mem_cons_of_mem d hx)
    refine ⟨?_, ?_, ?_, ?_, ?_⟩
    · simp only [PyData.showableAll, a1, b1, Bool.and_self]
    · simp only [PyData.leavesShortAll, a2, b2, Bool.and_self]
    · simp only [okDs]
      exact ⟨a3, b3⟩
    · simp only [PyData.depthAll]
      omega
    · simp only [PyData.bulkAll, List.length_cons, Nat.add_mul]
      omega
theorem Sm.shows {k b : Nat} {d : PyData} (h : Sm k b d) (hk : k ≤ 60) (hb : b ≤ 100000) : Shows d := by
  refine ⟨h.sh, ?_, Nat.le_trans h.dp (by omega), okz_to (okz_shown d h.ok)⟩
  have e := PyData.shown_le_bulk 40 (by decide) d h.lv
  have := h.blk
  rw [sizeLine_eq]
  omega
theorem sm_list {k b n : Nat} {ds : List PyData} (h : ∀ d ∈ ds, Sm k b d) (hl : ds.length ≤ n) : Sm (k + 1) (n * (b + 1)) (.list ds) := by
  obtain ⟨a1, a2, a3, a4, a5⟩ := sm_all h
  have := Nat.mul_le_mul_right (b + 1) hl
  exact ⟨by simpa only [PyData.showable] using a1, by simpa only [PyData.leavesShort] using a2, by simpa only [okD] using a3, by simp only [PyData.depth]; omega, by simp only [PyData.bulk]; omega⟩
/-- what stood stays, but at these two -/
def Stay (a q : Addr) (M M' : Mp) : Prop := ∀ b, b ≠ a → b ≠ q → M b ≠ none → M' b = M b
theorem Stay.refl {a q : Addr} {M : Mp} : Stay a q M M := fun _ _ _ _ => rfl
theorem Stay.trans {a q : Addr} {M M' M2 : Mp} (h : Stay a q M M') (h2 : Stay a q M' M2) : Stay a q M M2 := fun b h1 h3 h4 => by
  have e := h b h1 h3 h4
  rw [h2 b h1 h3 (by rw [e]; exact h4), e]
def late : PyData := .str "late"
inductive One (q : Addr) (n : Nat) (M : Mp) : AV → Prop
  | dat {d : PyData} : Sm 5 40 d → tyD d ≠ "list" → tyD d ≠ "dict" → One q n M (.dat d)
  | lst {a : Addr} {ys : List AV} {ds : List PyData} : M a = some (.lst (ys ++ List.replicate n (.dat late))) → a ≠ q → (∀ M', Stay a q M M' → RdAs M' ys ds) → ds.length ≤ 3 → (∀ d ∈ ds, Sm 8 200 d) → One q n M (.ref a)
  | dct {a : Addr} {kvs : List (Key × AV)} : M a = some (.dct kvs) → a ≠ q → (kvs = [] ∨ kvs = [(.inr "late", .dat (.int 7))] ∨ kvs = [(.inr "a", .dat (.int 1))] ∨ kvs = [(.inr "a", .dat (.int 1)), (.inr "late", .dat (.int 7))]) → One q n M (.ref a)
theorem rdAs_app {M : Mp} : ∀ {xs ys : List AV} {ds es : List PyData}, RdAs M xs ds → RdAs M ys es → RdAs M (xs ++ ys) (ds ++ es)
  | _, _, _, _, .nil, h => h
  | _, _, _, _, .cons a t, h => .cons a (rdAs_app t h)
theorem rep_dat {n : Nat} : List.replicate n (AV.dat late) = (List.replicate n late).map .dat := by
  rw [List.map_replicate]
theorem sm_late : Sm 8 200 late := ⟨by decide +kernel, by decide +kernel, by simp only [late, okD]; exact okz_lit _, by decide +kernel, by decide +kernel⟩
theorem one_read {q : Addr} {n : Nat} {M : Mp} {x : AV} (h : One q n M x) (hn : n ≤ 100) : ∃ d, RdA M x d ∧ Shows d := by
  cases h with
  | dat h h1 h2 => exact ⟨_, .dat _, h.shows (by omega) (by omega)⟩
  | lst hM ha hr hl hs =>
    have r := hr M Stay.refl
    refine ⟨_, .lst hM (rdAs_app r (by rw [rep_dat]; exact rdAs_dats _)), Sm.shows (sm_list (k := 8) (b := 200) (n := 103) (fun d hd => ?_) ?_) (by omega) (by omega)⟩
    · rcases List.mem_append.mp hd with hd | hd
      · exact hs d hd
      · rw [List.eq_of_mem_replicate hd]
        exact sm_late
    · rw [List.length_append, List.length_replicate]
      omega
  | dct hM ha hk =>
    rcases hk with rfl | rfl | rfl | rfl
    · exact ⟨_, .dct hM .nil, by unfold Shows; decide +kernel⟩
    · exact ⟨_, .dct hM (.cons (.dat _) .nil), by unfold Shows; decide +kernel⟩
    · exact ⟨_, .dct hM (.cons (.dat _) .nil), by unfold Shows; decide +kernel⟩
    · exact ⟨_, .dct hM (.cons (.dat _) (.cons (.dat _) .nil)), by unfold Shows; decide +kernel⟩
theorem one_keep {q : Addr} {n : Nat} {M M' : Mp} {x : AV} (h : One q n M x) (k : ∀ b, b ≠ q → M b ≠ none → M' b = M b) : One q n M' x := by
  cases h with
  | dat h h1 h2 => exact .dat h h1 h2
  | lst hM ha hr hl hs => exact .lst ((k _ ha (by rw [hM]; exact fun z => nomatch z)).trans hM) ha (fun M2 s => hr M2 (Stay.trans (fun b h1 h2 h3 => k b h2 h3) s)) hl hs
  | dct hM ha hk => exact .dct ((k _ ha (by rw [hM]; exact fun z => nomatch z)).trans hM) ha hk
/-- what stood stays, but x itself -/
def KeptX (x : AV) (M M' : Mp) : Prop := ∀ b, x ≠ .ref b → M b ≠ none → M' b = M b
theorem wReprOf {d : PyData} {M : Mp} {P : DK} {x : AV} (r : RdA M x d) (s : Shows d) (h : P (.dat (.str d.shown)) M) : wRepr x M P := ⟨d, r, s.1, s.2.1, s.2.2.1, h⟩
theorem eqSelf (z : Str) : (PyData.str z).eqv (.str z) = true := by
  rw [q_eqS, decide_eq_true rfl]
def spSame : DSp := fun xs M P _ => ∃ (q : Addr) (n : Nat) (x : AV), xs = [x, x] ∧ One q n M x ∧ n ≤ 90 ∧ ∀ M', KeptX x M M' → One q (n + 1) M' x → P (.dat (.bool true)) M'
theorem ok__law_same (T : Facts K mg w) : GOk P w K mg base CX0 1 "_law_same" ["gained", "thing"] spSame := by
  obtain ⟨f, fd, D⟩ := T.d__law_same
  refine gok_of D sc__law_same ?_ fun cdv A out s H E hr hgd => ?_
  · rintro xs M P R ⟨q, n, x, rfl, h⟩
    rfl
  have hu := Room.units hr
  have hu66 : (A.deeper (envOfC "_law_same" (defScope s__law_same) s.heap.objs.size f cdv)).units + 66 < cLine := by
    have := hr.un
    omega
  refine ⟨_, (dss_cons (ds_if (dt_cmp (do_neM hu) (de_b1 (c_repr T.sys hgd hu66) (by rfl) T.m_repr boot_repr' (de_var (pv 0))) (de_b1 (c_repr T.sys hgd hu66) (by rfl) T.m_repr boot_repr' (de_var (pv 1))) (by rfl))
      (dss_one (ds_ret de_bl))
      dss_nil)
    (dss_cons (ds_if (dt_val (de_isi kit_list (by rfl) T.m_isinstance (by rfl) T.m_list boot_t_list (de_var (pv 1))))
      (dss_one (ds_expr (de_append (de_var (pv 1)) de_str)))
      dss_nil)
    (dss_cons (ds_if (dt_val (de_isi kit_dict (by rfl) T.m_isinstance (by rfl) T.m_dict boot_t_dict (de_var (pv 1))))
      (dss_one (ds_asg de_int (dg_ixD hu (de_var (pv 1)) de_str)))
      dss_nil)
    (dss_one (ds_ret (de_cmp (do_eqM hu) (de_b1 (c_repr T.sys hgd hu66) (by rfl) T.m_repr boot_repr' (de_var (pv 0))) (de_b1 (c_repr T.sys hgd hu66) (by rfl) T.m_repr boot_repr' (de_var (pv 1))) (by rfl))))))), ?_⟩
  rintro xs M P R ⟨q, n, x, rfl, ho, hn, h⟩
  trivial
  obtain ⟨d, rd, sh⟩ := one_read ho (by omega)
  refine wReprOf rd sh (wReprOf rd sh (onO_mk rfl (onO_mk rfl ⟨shS sh.2.2.2, shS sh.2.2.2, ifF (by rw [eqSelf]; rfl) ?_⟩)))
  have fin : ∀ M', KeptX x M M' → One q (n + 1) M' x → wRepr x M' fun x_1 M1 => wRepr x M1 fun y M2 => onO (rdF M2 x_1) fun d => onO (rdF M2 y) fun e => SeqAt.shaped d = true ∧ SeqAt.shaped e = true ∧ P (AV.dat (PyData.bool (d.eqv e))) M2 := fun M' k1 k2 => by
    obtain ⟨d', rd', sh'⟩ := one_read k2 (by omega)
    refine wReprOf rd' sh' (wReprOf rd' sh' (onO_mk rfl (onO_mk rfl ⟨shS sh'.2.2.2, shS sh'.2.2.2, ?_⟩)))
    rw [eqSelf]
    exact h M' k1 k2
  cases ho with
  | dat hs h1 h2 =>
    refine onO_mk rfl (ifF ?_ ?_)
    · simp [h1]
    refine onO_mk rfl (ifF ?_ ?_)
    · simp [h2]
    exact fin M (fun _ _ _ => rfl) (.dat hs h1 h2)
  | @lst a ys ds hM ha hr hl hs =>
    have t1 : tyA M (.ref a) = some "list" := by
      unfold tyA
      simp only [hM]
    have ly : ys.length = ds.length := (hr M Stay.refl).len
    refine onO_mk t1 (ifT rfl ?_)
    unfold wAppend
    trivial
    refine onM_mk hM (onM_mk hM ⟨?_, ?_⟩)
    · rw [List.length_append, List.length_replicate]
      have : 1000 ≤ sizeLine := by decide
      omega
    have t2 : tyA (um M a (.lst (ys ++ List.replicate n (.dat late) ++ [AV.dat late]))) (.ref a) = some "list" := by
      unfold tyA
      simp only [um_same]
    refine onO_mk t2 (ifF rfl (fin (um M a _) (fun b h1 _ => um_ne fun e => h1 (by rw [e])) (.lst (ys := ys) (ds := ds) ?_ ha (fun M' s => hr M' (Stay.trans (fun b h1 _ _ => um_ne h1) s)) hl hs)))
    rw [um_same, List.replicate_succ', List.append_assoc]
    rfl
  | @dct a kvs hM ha hk =>
    have t1 : tyA M (.ref a) = some "dict" := by
      unfold tyA
      simp only [hM]
    refine onO_mk t1 (ifF rfl (onO_mk t1 (ifT rfl ?_)))
    unfold gIxD
    trivial
    refine onO_mk rfl ?_
    simp only [onDM, hM]
    have kl : kvs.length ≤ 2 := by
      rcases hk with rfl | rfl | rfl | rfl <;> simp
    have : 1000 ≤ sizeLine := by decide
    refine ⟨by omega, fin (um M a _) (fun b h1 _ => um_ne fun e => h1 (by rw [e])) (.dct um_same ha ?_)⟩
    rcases hk with rfl | rfl | rfl | rfl
    · exact .inr (.inl rfl)
    · exact .inr (.inl rfl)
    · exact .inr (.inr (.inr rfl))
    · exact .inr (.inr (.inr rfl))

end
end K13
end
section
set_option Elab.async false
set_option linter.all false
set_option maxRecDepth 100000
set_option maxHeartbeats 400000
namespace K13
open PySem PySem.Spec L2 DL DX
open PyProof.Rows hiding St
local macro_rules | `(tactic| trivial) => `(tactic| simp only [DL.wSeq, DL.wNext, DL.wRet, DL.wDrop, DL.wIf, DL.wSet, DL.wC, DL.wVar, DL.wOp, DL.wAnd, DL.wOr, DL.wNot, DL.wB, DL.wAndV, DL.wOrV, DL.wNotV, DL.wIfE, DL.wChain, DL.wIsi, DL.wUn, DL.wLen, DL.wCall, DL.wNil, DL.wCons, DL.wTup, DL.wLst, DL.wLstM, DL.wNeg, DL.isT, String.reduceBEq, Bool.or_false, Bool.false_or, Bool.or_true, Bool.true_or, Bool.or_self, Bool.and_self, DL.wGt, DL.wGe, DL.dstart, List.map_cons, List.map_nil, List.length_cons, List.length_nil, List.cons_append, List.nil_append, List.getElem?_cons_zero, List.getElem?_cons_succ, Option.some.injEq, exists_eq_left', exists_eq_left, List.set_cons_zero, List.set_cons_succ, decide_true, decide_false, Bool.true_and, Bool.and_true, Bool.false_and, Bool.and_false, true_and, Bool.not_true, Bool.not_false, if_true, if_false, reduceIte, Bool.false_eq_true, bne_self_eq_false, DL.bne_f, DL.bne_t, List.getElem?_nil, Nat.reduceAdd, Nat.reduceSub, List.replicate_succ, List.replicate_zero, DL.q_onO, DL.q_onO0, DL.q_onB, DL.q_onI, DL.q_onS, DL.q_onL, DL.q_ty, DL.q_tyT, DL.q_ty0, DL.q_ty1, DL.q_ty2, DL.q_ty3, DL.q_ty4, DL.q_ty5, DL.q_ty6, DL.q_lenT, DL.q_lenL, DL.q_lenS, DL.q_ixT, DL.q_ixL, DL.q_ixA, DL.q_leI, DL.q_leS, DL.q_ltI, DL.q_ltS, DL.q_I0, DL.q_II, DL.q_sub, DL.q_addI, DL.q_addS, DL.q_addT, DL.q_addL, DL.q_mulI, DL.q_mulS, DL.q_none, DL.q_noneR, DL.q_is, DL.q_isB, DL.q_inT, DL.q_inL, DL.q_inS, DL.q_inM, DL.q_eq, DL.q_rd, DL.q_ord, DL.q_ix, DL.q_tup, DL.q_tup0, DL.q_tup1, DL.q_tup2, DL.q_tup3, DL.q_eqI, DL.q_eqS, DL.q_shI, DL.q_flI, DL.q_flS, DL.q_flN, DL.q_flB, DL.q_at0, DL.q_at1, DL.q_at2, DL.q_partsT, DL.iT, DL.iS, DL.iL, DL.wAsg, DL.q_star, DL.q_gN, DL.wInTab, DL.wTab, DL.q_onDs, DL.q_dats0, DL.q_datsc, DL.q_sz0, DL.q_sz1, DL.q_sz2, DL.q_sz3, DL.q_sz4, DL.q_sz5, DL.q_sz6, DL.q_sz7, DL.q_sz11, DL.q_sz12, DL.q_keyS, DL.q_getD, DL.q_dct, DL.wInD, DL.wIxD, DL.q_ixU, DL.q_onMU, DL.q_lenU, DL.q_um, DL.q_n30, DL.q_n31, DL.q_n32, DL.q_max, DL.gIx, DL.q_map, DL.q_all0, DL.q_allc])
section
variable {P : Program} {w : World} {K : PySem.W.Frag} {mg : Str → Option Value} {base : Heap} {k : Nat}
/-- nothing that stood changes, but at q -/
def KeptQ (q : Addr) (M M' : Mp) : Prop := ∀ b, b ≠ q → M b ≠ none → M' b = M b
theorem KeptQ.refl {q : Addr} {M : Mp} : KeptQ q M M := fun _ _ _ => rfl
theorem KeptQ.trans {q : Addr} {M M' M2 : Mp} (h : KeptQ q M M') (h2 : KeptQ q M' M2) : KeptQ q M M2 := fun b h1 h3 => by
  have e := h b h1 h3
  rw [h2 b h1 (by rw [e]; exact h3), e]
theorem KeptQ.new {q : Addr} {M M' : Mp} {D : Addr} {o : MO} (h : KeptQ q M M') (hD : M' D = none) : KeptQ q M (um M' D o) := KeptQ.trans h fun b h1 h3 => um_ne fun e => h3 (e ▸ hD)
theorem KeptQ.off {q : Addr} {M M' M2 : Mp} (h : KeptQ q M M') (o : Off q M' M2) : KeptQ q M M2 := KeptQ.trans h fun b h1 _ => o b h1
theorem g_take2 {q : Addr} {n : Nat} {m : Int} {M : Mp} {P : DK} {R : DXK} (h : PurseB M q n) (hn : n < 1000000) (h0 : 0 < m) (h1 : m ≤ 1000000000000000000000000000000)
    (k : ∀ (r : Int) (M' : Mp), 0 ≤ r → r < m → PurseB M' q (n + 1) → Off q M M' → P (.dat (.int r)) M') : spTake [.ref q, .dat (.int m)] M P R := g_take h hn h0 h1 k
/-- a drawn thing -/
inductive Any0 (M : Mp) : AV → Prop
  | dat {d : PyData} : Sm 5 40 d → tyD d ≠ "list" → tyD d ≠ "dict" → Any0 M (.dat d)
  | lst {a : Addr} {ds : List PyData} : M a = some (.lst (ds.map .dat)) → ds.length ≤ 3 → (∀ d ∈ ds, Sm 6 41 d) → Any0 M (.ref a)
  | dct {a : Addr} {kvs : List (Key × AV)} : M a = some (.dct kvs) → (kvs = [] ∨ kvs = [(.inr "a", .dat (.int 1))]) → Any0 M (.ref a)
theorem Any0.keep {M M' : Mp} {x : AV} (h : Any0 M x) (k : ∀ b, x = .ref b → M b ≠ none → M' b = M b) : Any0 M' x := by
  cases h with
  | dat h1 h2 h3 => exact .dat h1 h2 h3
  | lst hM hl hs => exact .lst ((k _ rfl (by rw [hM]; exact fun z => nomatch z)).trans hM) hl hs
  | dct hM hk => exact .dct ((k _ rfl (by rw [hM]; exact fun z => nomatch z)).trans hM) hk
theorem Any0.there {M : Mp} {b : Addr} (h : Any0 M (.ref b)) : M b ≠ none := by
  cases h with
  | lst hM hl hs => rw [hM]; exact fun z => nomatch z
  | dct hM hk => rw [hM]; exact fun z => nomatch z
theorem Sm.up {k b k' b' : Nat} {d : PyData} (h : Sm k b d) (h1 : k ≤ k') (h2 : b ≤ b') : Sm k' b' d := ⟨h.sh, h.lv, h.ok, Nat.le_trans h.dp h1, Nat.le_trans h.blk h2⟩
theorem Any0.one {q : Addr} {M : Mp} {x : AV} (h : Any0 M x) (hq : ∀ b, x = .ref b → b ≠ q) : One q 0 M x := by
  cases h with
  | dat h1 h2 h3 => exact .dat h1 h2 h3
  | @lst a ds hM hl hs => exact .lst (ys := ds.map .dat) (ds := ds) (by rw [hM]; simp) (hq _ rfl) (fun M' _ => rdAs_dats ds) hl fun d hd => (hs d hd).up (by omega) (by omega)
  | dct hM hk => exact .dct hM (hq _ rfl) (hk.elim .inl fun z => .inr (.inr (.inl z)))
theorem Any0.read {M : Mp} {x : AV} (h : Any0 M x) : ∃ d, Sm 8 200 d ∧ ∀ M', (∀ b, x = .ref b → M b ≠ none → M' b = M b) → RdA M' x d := by
  cases h with
  | dat h1 h2 h3 => exact ⟨_, h1.up (by omega) (by omega), fun M' _ => .dat _⟩
  | @lst a ds hM hl hs => exact ⟨_, (sm_list hs hl).up (by omega) (by omega), fun M' k => .lst ((k _ rfl (by rw [hM]; exact fun z => nomatch z)).trans hM) (rdAs_dats ds)⟩
  | @dct a kvs hM hk =>
    rcases hk with rfl | rfl
    · exact ⟨.dict [], ⟨by decide +kernel, by decide +kernel, by simp only [okD, okDk], by decide +kernel, by decide +kernel⟩, fun M' k => .dct ((k _ rfl (by rw [hM]; exact fun z => nomatch z)).trans hM) .nil⟩
    · exact ⟨.dict [(.str "a", .int 1)], ⟨by decide +kernel, by decide +kernel, by simp only [okD, okDk]; exact ⟨okz_lit _, trivial, trivial⟩, by decide +kernel, by decide +kernel⟩, fun M' k => .dct ((k _ rfl (by rw [hM]; exact fun z => nomatch z)).trans hM) (.cons (.dat _) .nil)⟩
structure Bag (q : Addr) (n : Nat) (M M' : Mp) (xs : List AV) : Prop where
  kept : KeptQ q M M'
  pur : PurseB M' q n
  one : ∀ x ∈ xs, Any0 M' x ∧ ∀ b, x = .ref b → M b = none ∧ b ≠ q
theorem Bag.new {q : Addr} {n : Nat} {M M' : Mp} {xs : List AV} {D : Addr} {o : MO} (h : Bag q n M M' xs) (hD : M' D = none) : Bag q n M (um M' D o) xs ∧ um M' D o D = some o ∧ M D = none ∧ D ≠ q := by
  have hDq : D ≠ q := fun e => by
    obtain ⟨a, b, c, hq, _⟩ := h.pur
    rw [e, hq] at hD
    cases hD
  refine ⟨⟨h.kept.new hD, h.pur.um (Ne.symm hDq), fun x hx => ⟨(h.one x hx).1.keep fun b _ h3 => um_ne fun e => h3 (e ▸ hD), (h.one x hx).2⟩⟩, um_same, ?_, hDq⟩
  cases e : M D with
  | none => rfl
  | some o' =>
    have := h.kept D hDq (by rw [e]; exact fun z => nomatch z)
    rw [hD, e] at this
    cases this
theorem Bag.add {q : Addr} {n : Nat} {M M' : Mp} {xs : List AV} {D : Addr} (h : Bag q n M M' xs) (o : Any0 M' (.ref D)) (hD : M D = none) (hq : D ≠ q) : Bag q n M M' (.ref D :: xs) := ⟨h.kept, h.pur, fun x hx => by
  rcases List.mem_cons.mp hx with rfl | hx
  · exact ⟨o, fun b e => by cases e; exact ⟨hD, hq⟩⟩
  · exact h.one x hx⟩
theorem sm_small {d : PyData} (h1 : d.showable = true) (h2 : d.leavesShort 40 = true) (h3 : d.canLay0 = true) (h4 : d.depth ≤ 5) (h5 : d.bulk ≤ 40) : Sm 5 40 d := ⟨h1, h2, okd_lay d h3, h4, h5⟩
def spAny : DSp := fun xs M P _ => ∃ (q : Addr) (n : Nat), xs = [.ref q] ∧ PurseB M q n ∧ n < 900000 ∧ ∀ (x : AV) (M' : Mp), PurseB M' q (n + 1) → KeptQ q M M' → Any0 M' x → (∀ b, x = .ref b → M b = none ∧ b ≠ q) → P x M'
theorem ok__law_any (T : Facts K mg w) : GOk P w K mg base CX0 2 "_law_any" ["box"] spAny := by
  have G__law_take_two := ok__law_take_two (P := P) (base := base) T
  obtain ⟨f, fd, D⟩ := T.d__law_any
  refine gok_of D sc__law_any ?_ fun cdv A out s H E hr hgd => ?_
  · rintro xs M P R ⟨d, n, rfl, h⟩
    rfl
  have hu := Room.units hr
  have hu66 : (A.deeper (envOfC "_law_any" (defScope s__law_any) s.heap.objs.size f cdv)).units + 66 < cLine := by
    have := hr.un
    omega
  refine ⟨_, (dss_cons (ds_setP (ps_set (i := 1) sc__law_any.nd rfl (Or.inl rfl) (de_lstM (da_cons de_non (da_cons de_bl (da_cons de_bl (da_cons (de_op do_sub de_int de_int) (da_cons (de_op do_pow de_int de_int) (da_cons de_str (da_cons de_str (da_cons de_str (da_cons (de_lstM da_nil) (da_cons (de_lstM (da_cons de_str da_nil)) (da_cons (de_tup (da_cons de_str da_nil)) (da_cons (de_tup da_nil) (da_cons de_dct0M (da_cons (de_dctM (dps_cons de_str de_int dps_nil)) (da_cons (de_lstM (da_cons (de_lst (da_cons de_int da_nil)) da_nil)) da_nil))))))))))))))))))
    (dss_one (ds_ret (de_ix (de_op do_add (de_var (pv 1)) (de_lstM (da_cons (de_tup (da_cons de_str (da_cons de_int da_nil))) da_nil))) (de_call G__law_take_two (hr.mono (by omega)) hgd (by rfl) pat0 (da_cons (de_var (pv 0)) (da_cons de_int da_nil))) (fun _ _ => rfl))))), ?_⟩
  rintro xs M P R ⟨q, n, rfl, hp, hn, h⟩
  trivial
  unfold wDctM
  trivial
  have B0 : Bag q n M M [] := ⟨KeptQ.refl, hp, fun x hx => by cases hx⟩
  have s1 : Sm 5 40 (.int 1) := sm_small (by decide +kernel) (by decide +kernel) (by decide +kernel) (by decide +kernel) (by decide +kernel)
  have sa : Sm 5 40 (.str (Str.ofString "a")) := sm_small (by decide +kernel) (by decide +kernel) (by decide +kernel) (by decide +kernel) (by decide +kernel)
  refine ⟨by unfold CPow; decide, fun a1 f1 => ?_⟩
  obtain ⟨B1, m1, n1, q1⟩ := B0.new (o := .lst []) f1
  have C1 := B1.add (.lst (ds := []) m1 (by simp) (by simp)) n1 q1
  generalize um M a1 _ = M1 at C1 ⊢
  clear B0 B1 m1
  intro a2 f2
  obtain ⟨B2, m2, n2, q2⟩ := C1.new (o := .lst [.dat (.str "a")]) f2
  have C2 := B2.add (.lst (ds := [.str "a"]) m2 (by simp) (fun d hd => by rw [List.mem_singleton.mp hd]; exact sa.up (by omega) (by omega))) n2 q2
  generalize um M1 a2 _ = M2 at C2 ⊢
  clear C1 B2 m2
  intro a3 f3
  obtain ⟨B3, m3, n3, q3⟩ := C2.new (o := .dct []) f3
  have C3 := B3.add (.dct m3 (.inl rfl)) n3 q3
  generalize um M2 a3 _ = M3 at C3 ⊢
  clear C2 B3 m3
  intro a4 f4
  obtain ⟨B4, m4, n4, q4⟩ := C3.new (o := .dct [(.inr "a", .dat (.int 1))]) f4
  have C4 := B4.add (.dct m4 (.inr rfl)) n4 q4
  unfold wPairs
  trivial
  unfold wPairs
  refine ⟨um_same, onO_mk rfl ⟨by decide, by simp, ?_⟩⟩
  rw [um_um]
  generalize um M3 a4 _ = M4 at C4 ⊢
  clear C3 B4 m4
  intro a5 f5
  obtain ⟨B5, m5, n5, q5⟩ := C4.new (o := .lst [.dat (.list [.int 1])]) f5
  have C5 := B5.add (.lst (ds := [.list [.int 1]]) m5 (by simp) (fun d hd => by
    rw [List.mem_singleton.mp hd]
    exact (sm_list (k := 5) (b := 40) (n := 1) (ds := [.int 1]) (fun d hd => by rw [List.mem_singleton.mp hd]; exact s1) (by simp)).up (by omega) (by omega))) n5 q5
  generalize um M4 a5 _ = M5 at C5 ⊢
  clear C4 B5 m5
  refine ⟨Nat.le_of_ble_eq_true rfl, ?_⟩
  intro a6 f6
  obtain ⟨B6, m6, n6, q6⟩ := C5.new (o := .lst _) f6
  generalize um M5 a6 _ = M6 at B6 m6 ⊢
  clear C5
  intro a7 f7
  obtain ⟨B7, m7, n7, q7⟩ := B6.new (o := .lst _) f7
  have e76 : a7 ≠ a6 := fun e => by
    rw [e, m6] at f7
    cases f7
  refine ⟨_, _, (um_ne (Ne.symm e76)).trans m6, um_same, Nat.le_of_ble_eq_true rfl, fun a8 f8 => ?_⟩
  obtain ⟨B8, m8, n8, q8⟩ := B7.new (o := .lst _) f8
  generalize um (um M6 a7 _) a8 _ = M8 at B8 m8 ⊢
  clear B6 B7 m6 m7 f7 f8 f6
  refine g_take B8.pur (by omega) (by decide) (by decide) fun r M9 r0 r1 hp9 o9 => ?_
  trivial
  have m9 := (o9 a8 q8).trans m8
  have ind : ∀ (l : List AV), M9 (a8) = some (.lst l) → r < (l.length : Nat) → (∀ x ∈ l, P x M9) → onO (itemA M9 (.ref a8) r) fun z => P z M9 := fun l hl h2 h3 => by
    obtain ⟨x, hx, e⟩ := atI_mem l r r0 h2
    refine onO_mk (x := x) ?_ (h3 x hx)
    unfold itemA
    simp only [hl]
    exact e
  refine ind _ m9 r1 fun x hx => ?_
  have k9 : KeptQ q M M9 := B8.kept.off o9
  have dat : ∀ d, Sm 5 40 d → tyD d ≠ "list" → tyD d ≠ "dict" → P (.dat d) M9 := fun d h1 h2 h3 => h _ _ hp9 k9 (.dat h1 h2 h3) fun b e => by cases e
  have rf : ∀ b, .ref b ∈ [AV.ref a5, .ref a4, .ref a3, .ref a2, .ref a1] → P (.ref b) M9 := fun b hb => by
    obtain ⟨z1, z2⟩ := B8.one _ hb
    exact h _ _ hp9 k9 (z1.keep fun b' e _ => o9 b' (z2 b' e).2) z2
  simp only [List.cons_append, List.nil_append, List.mem_cons, List.not_mem_nil, or_false] at hx
  rcases hx with rfl | rfl | rfl | rfl | rfl | rfl | rfl | rfl | rfl | rfl | rfl | rfl | rfl | rfl | rfl | rfl
  · exact dat _ (sm_small (by decide +kernel) (by decide +kernel) (by decide +kernel) (by decide +kernel) (by decide +kernel)) (by simp [tyD]) (by simp [tyD])
  · exact dat _ (sm_small (by decide +kernel) (by decide +kernel) (by decide +kernel) (by decide +kernel) (by decide +kernel)) (by simp [tyD]) (by simp [tyD])
  · exact dat _ (sm_small (by decide +kernel) (by decide +kernel) (by decide +kernel) (by decide +kernel) (by decide +kernel)) (by simp [tyD]) (by simp [tyD])
  · exact dat _ (sm_small (by decide +kernel) (by decide +kernel) (by decide +kernel) (by decide +kernel) (by decide +kernel)) (by simp [tyD]) (by simp [tyD])
  · exact dat _ (sm_small (by decide +kernel) (by decide +kernel) (by decide +kernel) (by decide +kernel) (by decide +kernel)) (by simp [tyD]) (by simp [tyD])
  · exact dat _ (sm_small (by decide +kernel) (by decide +kernel) (by decide +kernel) (by decide +kernel) (by decide +kernel)) (by simp [tyD]) (by simp [tyD])
  · exact dat _ (sm_small (by decide +kernel) (by decide +kernel) (by decide +kernel) (by decide +kernel) (by decide +kernel)) (by simp [tyD]) (by simp [tyD])
  · exact dat _ (sm_small (by decide +kernel) (by decide +kernel) (by decide +kernel) (by decide +kernel) (by decide +kernel)) (by simp [tyD]) (by simp [tyD])
  · exact rf _ (by simp)
  · exact rf _ (by simp)
  · exact dat _ (sm_small (by decide +kernel) (by decide +kernel) (by decide +kernel) (by decide +kernel) (by decide +kernel)) (by simp [tyD]) (by simp [tyD])
  · exact dat _ (sm_small (by decide +kernel) (by decide +kernel) (by decide +kernel) (by decide +kernel) (by decide +kernel)) (by simp [tyD]) (by simp [tyD])
  · exact rf _ (by simp)
  · exact rf _ (by simp)
  · exact rf _ (by simp)
  · exact dat _ (sm_small (by decide +kernel) (by decide +kernel) (by decide +kernel) (by decide +kernel) (by decide +kernel)) (by simp [tyD]) (by simp [tyD])

end
end K13
end
section
set_option Elab.async false
set_option linter.all false
set_option maxRecDepth 100000
set_option maxHeartbeats 400000
namespace K13
open PySem PySem.Spec L2 DL DX
open PyProof.Rows hiding St
local macro_rules | `(tactic| trivial) => `(tactic| simp only [DL.wSeq, DL.wNext, DL.wRet, DL.wDrop, DL.wIf, DL.wSet, DL.wC, DL.wVar, DL.wOp, DL.wAnd, DL.wOr, DL.wNot, DL.wB, DL.wAndV, DL.wOrV, DL.wNotV, DL.wIfE, DL.wChain, DL.wIsi, DL.wUn, DL.wLen, DL.wCall, DL.wNil, DL.wCons, DL.wTup, DL.wLst, DL.wLstM, DL.wNeg, DL.isT, String.reduceBEq, Bool.or_false, Bool.false_or, Bool.or_true, Bool.true_or, Bool.or_self, Bool.and_self, DL.wGt, DL.wGe, DL.dstart, List.map_cons, List.map_nil, List.length_cons, List.length_nil, List.cons_append, List.nil_append, List.getElem?_cons_zero, List.getElem?_cons_succ, Option.some.injEq, exists_eq_left', exists_eq_left, List.set_cons_zero, List.set_cons_succ, decide_true, decide_false, Bool.true_and, Bool.and_true, Bool.false_and, Bool.and_false, true_and, Bool.not_true, Bool.not_false, if_true, if_false, reduceIte, Bool.false_eq_true, bne_self_eq_false, DL.bne_f, DL.bne_t, List.getElem?_nil, Nat.reduceAdd, Nat.reduceSub, List.replicate_succ, List.replicate_zero, DL.q_onO, DL.q_onO0, DL.q_onB, DL.q_onI, DL.q_onS, DL.q_onL, DL.q_ty, DL.q_tyT, DL.q_ty0, DL.q_ty1, DL.q_ty2, DL.q_ty3, DL.q_ty4, DL.q_ty5, DL.q_ty6, DL.q_lenT, DL.q_lenL, DL.q_lenS, DL.q_ixT, DL.q_ixL, DL.q_ixA, DL.q_leI, DL.q_leS, DL.q_ltI, DL.q_ltS, DL.q_I0, DL.q_II, DL.q_sub, DL.q_addI, DL.q_addS, DL.q_addT, DL.q_addL, DL.q_mulI, DL.q_mulS, DL.q_none, DL.q_noneR, DL.q_is, DL.q_isB, DL.q_inT, DL.q_inL, DL.q_inS, DL.q_inM, DL.q_eq, DL.q_rd, DL.q_ord, DL.q_ix, DL.q_tup, DL.q_tup0, DL.q_tup1, DL.q_tup2, DL.q_tup3, DL.q_eqI, DL.q_eqS, DL.q_shI, DL.q_flI, DL.q_flS, DL.q_flN, DL.q_flB, DL.q_at0, DL.q_at1, DL.q_at2, DL.q_partsT, DL.iT, DL.iS, DL.iL, DL.wAsg, DL.q_star, DL.q_gN, DL.wInTab, DL.wTab, DL.q_onDs, DL.q_dats0, DL.q_datsc, DL.q_sz0, DL.q_sz1, DL.q_sz2, DL.q_sz3, DL.q_sz4, DL.q_sz5, DL.q_sz6, DL.q_sz7, DL.q_sz11, DL.q_sz12, DL.q_keyS, DL.q_getD, DL.q_dct, DL.wInD, DL.wIxD, DL.q_ixU, DL.q_onMU, DL.q_lenU, DL.q_um, DL.q_n30, DL.q_n31, DL.q_n32, DL.q_max, DL.gIx, DL.q_map, DL.q_all0, DL.q_allc])
section
variable {P : Program} {w : World} {K : PySem.W.Frag} {mg : Str → Option Value} {base : Heap} {k : Nat}
theorem exm_self {f : Fam} {C : Addr} (T : EC K f C) : PySem.W.exmOne K (.ref C) (.ref C) = some true := by
  refine PySem.W.exm_ref T.exC T.hd T.tyC ?_
  show PySem.W.mroIn K C (.ref C) = some true
  have h := T.ov
  unfold PySem.W.excOver at h
  unfold PySem.W.mroIn
  cases e : PySem.W.clsIn K C with
  | none =>
    rw [e] at h
    cases h
  | some cd =>
    rw [e] at h
    simp only [Option.any_some] at h
    split at h
    · rename_i C' bm em
      simp only [Bool.and_eq_true, beq_iff_eq] at h
      simp only [Option.bind_some, em, h.1]
      simp
    · cases h
theorem exm_not {f : Fam} {C D : Addr} (T : EC K f C) (h : PySem.W.kitOne K (.ref D) (.ref C) = some false) : PySem.W.exmOne K (.ref D) (.ref C) = some false := by
  unfold PySem.W.kitOne at h
  split at h
  · cases h
  · unfold PySem.W.exmOne
    rw [if_pos (by rw [T.exC]; rfl)]
    exact h
def clsN : List Str := ["InnerError", "Missing", "Barred", "NoNumber", "NoName", "NoWorth", "NoTree", "NoDeed", "NoParams", "NoText", "NoRow", "NoStore", "NoKind", "NoRows", "NoRules", "NoAsk", "NoWay", "NoLine", "NoPaper", "NoList", "NoTruth", "Unfit", "Doubled", "TooMany", "NoThing", "NotThere", "Fault", "Ended", "Over"]
def wb (j i : Nat) : Bool := ((wantTab.getD j []).getD i none).getD false
theorem want_some : ∀ j : Fin 29, ∀ i : Fin 32, (wantTab.getD j.val []).getD i.val none = some (wb j.val i.val) := by decide +kernel
theorem kit_at' (T : Facts K mg w) {j i : Nat} {c : Str} {v : Value} (hj : clsN[j]? = some c) (hi : (clsV K)[i]? = some v) : PySem.W.kitOne K (.ref (ca K c)) v = some (wb j i) := by
  have e : (clsN.map fun c => (clsV K).map fun v => PySem.W.kitOne K (.ref (ca K c)) v) = wantTab := T.isx
  have lj : j < 29 := by
    have := (List.getElem?_eq_some_iff.mp hj).1
    simpa [clsN] using this
  have li : i < 32 := by
    have := (List.getElem?_eq_some_iff.mp hi).1
    simpa [clsV] using this
  have z := want_some ⟨j, lj⟩ ⟨i, li⟩
  rw [← e] at z
  simp only [List.getD_eq_getElem?_getD, List.getElem?_map, hj, hi, Option.map_some, Option.getD_some] at z
  exact z
theorem ec_all (T : Facts K mg w) : ∀ c ∈ clsN, ∃ f, EC K f (ca K c) := by
  intro c hc
  simp only [clsN, List.mem_cons, List.not_mem_nil, or_false] at hc
  rcases hc with rfl | rfl | rfl | rfl | rfl | rfl | rfl | rfl | rfl | rfl | rfl | rfl | rfl | rfl | rfl | rfl | rfl | rfl | rfl | rfl | rfl | rfl | rfl | rfl | rfl | rfl | rfl | rfl | rfl
  · exact ⟨_, T.e_InnerError⟩
  · exact ⟨_, T.e_Missing⟩
  · exact ⟨_, T.e_Barred⟩
  · exact ⟨_, T.e_NoNumber⟩
  · exact ⟨_, T.e_NoName⟩
  · exact ⟨_, T.e_NoWorth⟩
  · exact ⟨_, T.e_NoTree⟩
  · exact ⟨_, T.e_NoDeed⟩
  · exact ⟨_, T.e_NoParams⟩
  · exact ⟨_, T.e_NoText⟩
  · exact ⟨_, T.e_NoRow⟩
  · exact ⟨_, T.e_NoStore⟩
  · exact ⟨_, T.e_NoKind⟩
  · exact ⟨_, T.e_NoRows⟩
  · exact ⟨_, T.e_NoRules⟩
  · exact ⟨_, T.e_NoAsk⟩
  · exact ⟨_, T.e_NoWay⟩
  · exact ⟨_, T.e_NoLine⟩
  · exact ⟨_, T.e_NoPaper⟩
  · exact ⟨_, T.e_NoList⟩
  · exact ⟨_, T.e_NoTruth⟩
  · exact ⟨_, T.e_Unfit⟩
  · exact ⟨_, T.e_Doubled⟩
  · exact ⟨_, T.e_TooMany⟩
  · exact ⟨_, T.e_NoThing⟩
  · exact ⟨_, T.e_NotThere⟩
  · exact ⟨_, T.e_Fault⟩
  · exact ⟨_, T.e_Ended⟩
  · exact ⟨_, T.e_Over⟩
/-- nothing that stood changes -/
def Kept (M M' : Mp) : Prop := ∀ b, M b ≠ none → M' b = M b
theorem Kept.refl {M : Mp} : Kept M M := fun _ _ => rfl
theorem Kept.trans {M M' M2 : Mp} (h : Kept M M') (h2 : Kept M' M2) : Kept M M2 := fun b h3 => by
  have e := h b h3
  rw [h2 b (by rw [e]; exact h3), e]
theorem Kept.new {M M' : Mp} {D : Addr} {o : MO} (h : Kept M M') (hD : M' D = none) : Kept M (um M' D o) ∧ um M' D o D = some o ∧ M D = none := by
  refine ⟨h.trans fun b h3 => um_ne fun e => h3 (e ▸ hD), um_same, ?_⟩
  cases e : M D with
  | none => rfl
  | some o' =>
    have := h D (by rw [e]; exact fun z => nomatch z)
    rw [hD, e] at this
    cases this
/-- an exception of class c with its fields stands at x -/
def ExAt (K : PySem.W.Frag) (M : Mp) (x : AV) (c : Str) (fs : List (Str × AV)) : Prop := ∃ a, x = .ref a ∧ ((M a = some (.raw (ca K c)) ∧ fs = []) ∨ ∃ dx, M a = some (.exc (ca K c) dx fs))
theorem ExAt.keep {M M' : Mp} {x : AV} {c : Str} {fs : List (Str × AV)} (h : ExAt K M x c fs) (k : ∀ b, x = .ref b → M b ≠ none → M' b = M b) : ExAt K M' x c fs := by
  obtain ⟨a, rfl, h⟩ := h
  refine ⟨a, rfl, ?_⟩
  rcases h with ⟨h, e⟩ | ⟨dx, h⟩
  · exact .inl ⟨(k a rfl (by rw [h]; exact fun z => nomatch z)).trans h, e⟩
  · exact .inr ⟨dx, (k a rfl (by rw [h]; exact fun z => nomatch z)).trans h⟩
theorem ExAt.kept {M M' : Mp} {x : AV} {c : Str} {fs : List (Str × AV)} (h : ExAt K M x c fs) (k : Kept M M') : ExAt K M' x c fs := h.keep fun b _ z => k b z
theorem ExAt.on {M : Mp} {x : AV} {c : Str} {fs : List (Str × AV)} (h : ExAt K M x c fs) {k : Addr → Addr → Option Addr → List (Str × AV) → Prop} (hk : ∀ a d, k a (ca K c) d fs) : onX M x k := by
  obtain ⟨a, rfl, h⟩ := h
  rcases h with ⟨h, rfl⟩ | ⟨dx, h⟩
  · simp only [onX, h]
    exact hk _ _
  · simp only [onX, h]
    exact hk _ _
theorem g_isx {M : Mp} {x : AV} {c : Str} {fs : List (Str × AV)} {cv : Value} {b : Bool} {i : Nat} {δ : DSt} {P : DK} {R : DXK} (h : ExAt K M x c fs) (T : ∃ f, EC K f (ca K c)) (hk : PySem.W.kitOne K (.ref (ca K c)) cv = some b) (hw : δ[i]? = some (some x)) (hP : P (.dat (.bool b)) M) : wIsX K cv (wVar i) δ M P R :=
  ⟨x, hw, h.on fun a d => ⟨T, onO_mk hk hP⟩⟩
def ixF : List Nat := [3, 4, 5, 6, 7, 8, 9, 11, 12, 13, 14, 15, 16, 17, 18]
def ixL : List Nat := [19, 20, 21, 22, 10, 23, 24, 25, 26, 27, 28]
def ixM : List Nat := [0, 1, 2, 29, 30, 31]
def spMarks (K : PySem.W.Frag) (ix : List Nat) : DSp := fun xs M P _ => ∃ (x : AV) (j : Nat) (c : Str) (fs : List (Str × AV)), xs = [x] ∧ clsN[j]? = some c ∧ ExAt K M x c fs ∧ ∀ (D : Addr) (M' : Mp), Kept M M' → M D = none → M' D = some (.lst (ix.map fun i => .dat (.bool (wb j i)))) → P (.ref D) M'
theorem ok__law_marks_first (T : Facts K mg w) : GOk P w K mg base CX0 1 "_law_marks_first" ["e"] (spMarks K ixF) := by
  obtain ⟨f, fd, D⟩ := T.d__law_marks_first
  refine gok_of D sc__law_marks_first ?_ fun cdv A out s H E hr hgd => ?_
  · rintro xs M P R ⟨q, n, c, fs, rfl, h⟩
    rfl
  have hu := Room.units hr
  have hu66 : (A.deeper (envOfC "_law_marks_first" (defScope s__law_marks_first) s.heap.objs.size f cdv)).units + 66 < cLine := by
    have := hr.un
    omega
  refine ⟨_, (dss_cons (ds_setP (ps_set (i := 1) sc__law_marks_first.nd rfl (Or.inl rfl) (de_lstM (da_cons (de_isXoK (K := K) (by rfl) T.m_isinstance (by rfl) T.g_NoNumber (de_var (pv 0))) (da_cons (de_isXoK (K := K) (by rfl) T.m_isinstance (by rfl) T.g_NoName (de_var (pv 0))) (da_cons (de_isXoK (K := K) (by rfl) T.m_isinstance (by rfl) T.g_NoWorth (de_var (pv 0))) (da_cons (de_isXoK (K := K) (by rfl) T.m_isinstance (by rfl) T.g_NoTree (de_var (pv 0))) da_nil)))))))
    (dss_cons (ds_setP (ps_set (i := 1) sc__law_marks_first.nd rfl (Or.inl rfl) (de_op do_add (de_var (pv 1)) (de_lstM (da_cons (de_isXoK (K := K) (by rfl) T.m_isinstance (by rfl) T.g_NoDeed (de_var (pv 0))) (da_cons (de_isXoK (K := K) (by rfl) T.m_isinstance (by rfl) T.g_NoParams (de_var (pv 0))) (da_cons (de_isXoK (K := K) (by rfl) T.m_isinstance (by rfl) T.g_NoText (de_var (pv 0))) (da_cons (de_isXoK (K := K) (by rfl) T.m_isinstance (by rfl) T.g_NoStore (de_var (pv 0))) da_nil))))))))
    (dss_cons (ds_setP (ps_set (i := 1) sc__law_marks_first.nd rfl (Or.inl rfl) (de_op do_add (de_var (pv 1)) (de_lstM (da_cons (de_isXoK (K := K) (by rfl) T.m_isinstance (by rfl) T.g_NoKind (de_var (pv 0))) (da_cons (de_isXoK (K := K) (by rfl) T.m_isinstance (by rfl) T.g_NoRows (de_var (pv 0))) (da_cons (de_isXoK (K := K) (by rfl) T.m_isinstance (by rfl) T.g_NoRules (de_var (pv 0))) (da_cons (de_isXoK (K := K) (by rfl) T.m_isinstance (by rfl) T.g_NoAsk (de_var (pv 0))) da_nil))))))))
    (dss_one (ds_ret (de_op do_add (de_var (pv 1)) (de_lstM (da_cons (de_isXoK (K := K) (by rfl) T.m_isinstance (by rfl) T.g_NoWay (de_var (pv 0))) (da_cons (de_isXoK (K := K) (by rfl) T.m_isinstance (by rfl) T.g_NoLine (de_var (pv 0))) (da_cons (de_isXoK (K := K) (by rfl) T.m_isinstance (by rfl) T.g_NoPaper (de_var (pv 0))) da_nil)))))))))), ?_⟩
  rintro xs M P R ⟨x, j, c, fs, rfl, hj, hx, h⟩
  have te := ec_all T c (List.mem_of_getElem? hj)
  trivial
  refine g_isx hx te (kit_at' T hj (i := 3) rfl) rfl (g_isx hx te (kit_at' T hj (i := 4) rfl) rfl (g_isx hx te (kit_at' T hj (i := 5) rfl) rfl (g_isx hx te (kit_at' T hj (i := 6) rfl) rfl (?_))))
  intro a0 f0
  obtain ⟨K0, m0, n0⟩ := (Kept.refl (M := M)).new (o := .lst _) f0
  generalize um M a0 _ = M0 at K0 m0 ⊢
  have hx0 := hx.kept K0
  refine g_isx hx0 te (kit_at' T hj (i := 7) rfl) rfl (g_isx hx0 te (kit_at' T hj (i := 8) rfl) rfl (g_isx hx0 te (kit_at' T hj (i := 9) rfl) rfl (g_isx hx0 te (kit_at' T hj (i := 11) rfl) rfl (?_))))
  intro b1 g1
  have y1 : b1 ≠ a0 := fun e => by
    rw [e, m0] at g1
    cases g1
  obtain ⟨L1, l1, _⟩ := K0.new (o := .lst _) g1
  refine ⟨_, _, (um_ne (Ne.symm y1)).trans m0, um_same, Nat.le_of_ble_eq_true rfl, fun a1 f1 => ?_⟩
  obtain ⟨K1, m1, n1⟩ := L1.new (o := .lst _) f1
  generalize um (um M0 b1 _) a1 _ = M1 at K1 m1 ⊢
  have hx1 := hx.kept K1
  refine g_isx hx1 te (kit_at' T hj (i := 12) rfl) rfl (g_isx hx1 te (kit_at' T hj (i := 13) rfl) rfl (g_isx hx1 te (kit_at' T hj (i := 14) rfl) rfl (g_isx hx1 te (kit_at' T hj (i := 15) rfl) rfl (?_))))
  intro b2 g2
  have y2 : b2 ≠ a1 := fun e => by
    rw [e, m1] at g2
    cases g2
  obtain ⟨L2, l2, _⟩ := K1.new (o := .lst _) g2
  refine ⟨_, _, (um_ne (Ne.symm y2)).trans m1, um_same, Nat.le_of_ble_eq_true rfl, fun a2 f2 => ?_⟩
  obtain ⟨K2, m2, n2⟩ := L2.new (o := .lst _) f2
  generalize um (um M1 b2 _) a2 _ = M2 at K2 m2 ⊢
  have hx2 := hx.kept K2
  refine g_isx hx2 te (kit_at' T hj (i := 16) rfl) rfl (g_isx hx2 te (kit_at' T hj (i := 17) rfl) rfl (g_isx hx2 te (kit_at' T hj (i := 18) rfl) rfl (?_)))
  intro b3 g3
  have y3 : b3 ≠ a2 := fun e => by
    rw [e, m2] at g3
    cases g3
  obtain ⟨L3, l3, _⟩ := K2.new (o := .lst _) g3
  refine ⟨_, _, (um_ne (Ne.symm y3)).trans m2, um_same, Nat.le_of_ble_eq_true rfl, fun a3 f3 => ?_⟩
  obtain ⟨K3, m3, n3⟩ := L3.new (o := .lst _) f3
  generalize um (um M2 b3 _) a3 _ = M3 at K3 m3 ⊢
  have hx3 := hx.kept K3
  exact h _ _ K3 n3 m3
theorem ok__law_marks_last (T : Facts K mg w) : GOk P w K mg base CX0 1 "_law_marks_last" ["e"] (spMarks K ixL) := by
  obtain ⟨f, fd, D⟩ := T.d__law_marks_last
  refine gok_of D sc__law_marks_last ?_ fun cdv A out s H E hr hgd => ?_
  · rintro xs M P R ⟨q, n, c, fs, rfl, h⟩
    rfl
  have hu := Room.units hr
  have hu66 : (A.deeper (envOfC "_law_marks_last" (defScope s__law_marks_last) s.heap.objs.size f cdv)).units + 66 < cLine := by
    have := hr.un
    omega
  refine ⟨_, (dss_cons (ds_setP (ps_set (i := 1) sc__law_marks_last.nd rfl (Or.inl rfl) (de_lstM (da_cons (de_isXoK (K := K) (by rfl) T.m_isinstance (by rfl) T.g_NoList (de_var (pv 0))) (da_cons (de_isXoK (K := K) (by rfl) T.m_isinstance (by rfl) T.g_NoTruth (de_var (pv 0))) (da_cons (de_isXoK (K := K) (by rfl) T.m_isinstance (by rfl) T.g_Unfit (de_var (pv 0))) (da_cons (de_isXoK (K := K) (by rfl) T.m_isinstance (by rfl) T.g_Doubled (de_var (pv 0))) da_nil)))))))
    (dss_cons (ds_setP (ps_set (i := 1) sc__law_marks_last.nd rfl (Or.inl rfl) (de_op do_add (de_var (pv 1)) (de_lstM (da_cons (de_isXoK (K := K) (by rfl) T.m_isinstance (by rfl) T.g_NoRow (de_var (pv 0))) (da_cons (de_isXoK (K := K) (by rfl) T.m_isinstance (by rfl) T.g_TooMany (de_var (pv 0))) (da_cons (de_isXoK (K := K) (by rfl) T.m_isinstance (by rfl) T.g_NoThing (de_var (pv 0))) (da_cons (de_isXoK (K := K) (by rfl) T.m_isinstance (by rfl) T.g_NotThere (de_var (pv 0))) da_nil))))))))
    (dss_one (ds_ret (de_op do_add (de_var (pv 1)) (de_lstM (da_cons (de_isXoK (K := K) (by rfl) T.m_isinstance (by rfl) T.g_Fault (de_var (pv 0))) (da_cons (de_isXoK (K := K) (by rfl) T.m_isinstance (by rfl) T.g_Ended (de_var (pv 0))) (da_cons (de_isXoK (K := K) (by rfl) T.m_isinstance (by rfl) T.g_Over (de_var (pv 0))) da_nil))))))))), ?_⟩
  rintro xs M P R ⟨x, j, c, fs, rfl, hj, hx, h⟩
  have te := ec_all T c (List.mem_of_getElem? hj)
  trivial
  refine g_isx hx te (kit_at' T hj (i := 19) rfl) rfl (g_isx hx te (kit_at' T hj (i := 20) rfl) rfl (g_isx hx te (kit_at' T hj (i := 21) rfl) rfl (g_isx hx te (kit_at' T hj (i := 22) rfl) rfl (?_))))
  intro a0 f0
  obtain ⟨K0, m0, n0⟩ := (Kept.refl (M := M)).new (o := .lst _) f0
  generalize um M a0 _ = M0 at K0 m0 ⊢
  have hx0 := hx.kept K0
  refine g_isx hx0 te (kit_at' T hj (i := 10) rfl) rfl (g_isx hx0 te (kit_at' T hj (i := 23) rfl) rfl (g_isx hx0 te (kit_at' T hj (i := 24) rfl) rfl (g_isx hx0 te (kit_at' T hj (i := 25) rfl) rfl (?_))))
  intro b1 g1
  have y1 : b1 ≠ a0 := fun e => by
    rw [e, m0] at g1
    cases g1
  obtain ⟨L1, l1, _⟩ := K0.new (o := .lst _) g1
  refine ⟨_, _, (um_ne (Ne.symm y1)).trans m0, um_same, Nat.le_of_ble_eq_true rfl, fun a1 f1 => ?_⟩
  obtain ⟨K1, m1, n1⟩ := L1.new (o := .lst _) f1
  generalize um (um M0 b1 _) a1 _ = M1 at K1 m1 ⊢
  have hx1 := hx.kept K1
  refine g_isx hx1 te (kit_at' T hj (i := 26) rfl) rfl (g_isx hx1 te (kit_at' T hj (i := 27) rfl) rfl (g_isx hx1 te (kit_at' T hj (i := 28) rfl) rfl (?_)))
  intro b2 g2
  have y2 : b2 ≠ a1 := fun e => by
    rw [e, m1] at g2
    cases g2
  obtain ⟨L2, l2, _⟩ := K1.new (o := .lst _) g2
  refine ⟨_, _, (um_ne (Ne.symm y2)).trans m1, um_same, Nat.le_of_ble_eq_true rfl, fun a2 f2 => ?_⟩
  obtain ⟨K2, m2, n2⟩ := L2.new (o := .lst _) f2
  generalize um (um M1 b2 _) a2 _ = M2 at K2 m2 ⊢
  have hx2 := hx.kept K2
  exact h _ _ K2 n2 m2
theorem ok__law_families (T : Facts K mg w) : GOk P w K mg base CX0 1 "_law_families" ["e"] (spMarks K ixM) := by
  obtain ⟨f, fd, D⟩ := T.d__law_families
  refine gok_of D sc__law_families ?_ fun cdv A out s H E hr hgd => ?_
  · rintro xs M P R ⟨q, n, c, fs, rfl, h⟩
    rfl
  have hu := Room.units hr
  have hu66 : (A.deeper (envOfC "_law_families" (defScope s__law_families) s.heap.objs.size f cdv)).units + 66 < cLine := by
    have := hr.un
    omega
  refine ⟨_, (dss_cons (ds_setP (ps_set (i := 1) sc__law_families.nd rfl (Or.inl rfl) (de_lstM (da_cons (de_isXoK (K := K) (by rfl) T.m_isinstance (by rfl) T.g_InnerError (de_var (pv 0))) (da_cons (de_isXoK (K := K) (by rfl) T.m_isinstance (by rfl) T.g_Missing (de_var (pv 0))) (da_cons (de_isXoK (K := K) (by rfl) T.m_isinstance (by rfl) T.g_Barred (de_var (pv 0))) da_nil))))))
    (dss_one (ds_ret (de_op do_add (de_var (pv 1)) (de_lstM (da_cons (de_isXb (by rfl) T.m_isinstance (by rfl) T.m_ValueError boot_t_ValueError (de_var (pv 0))) (da_cons (de_isXb (by rfl) T.m_isinstance (by rfl) T.m_KeyError boot_t_KeyError (de_var (pv 0))) (da_cons (de_isXb (by rfl) T.m_isinstance (by rfl) T.m_LookupError boot_t_LookupError (de_var (pv 0))) da_nil)))))))), ?_⟩
  rintro xs M P R ⟨x, j, c, fs, rfl, hj, hx, h⟩
  have te := ec_all T c (List.mem_of_getElem? hj)
  trivial
  refine g_isx hx te (kit_at' T hj (i := 0) rfl) rfl (g_isx hx te (kit_at' T hj (i := 1) rfl) rfl (g_isx hx te (kit_at' T hj (i := 2) rfl) rfl (?_)))
  intro a0 f0
  obtain ⟨K0, m0, n0⟩ := (Kept.refl (M := M)).new (o := .lst _) f0
  generalize um M a0 _ = M0 at K0 m0 ⊢
  have hx0 := hx.kept K0
  refine g_isx hx0 te (kit_at' T hj (i := 29) rfl) rfl (g_isx hx0 te (kit_at' T hj (i := 30) rfl) rfl (g_isx hx0 te (kit_at' T hj (i := 31) rfl) rfl (?_)))
  intro b1 g1
  have y1 : b1 ≠ a0 := fun e => by
    rw [e, m0] at g1
    cases g1
  obtain ⟨L1, l1, _⟩ := K0.new (o := .lst _) g1
  refine ⟨_, _, (um_ne (Ne.symm y1)).trans m0, um_same, Nat.le_of_ble_eq_true rfl, fun a1 f1 => ?_⟩
  obtain ⟨K1, m1, n1⟩ := L1.new (o := .lst _) f1
  generalize um (um M0 b1 _) a1 _ = M1 at K1 m1 ⊢
  have hx1 := hx.kept K1
  exact h _ _ K1 n1 m1

end
end K13
end
section
set_option Elab.async false
set_option linter.all false
set_option maxRecDepth 100000
set_option maxHeartbeats 400000
namespace K13
open PySem PySem.Spec L2 DL DX
open PyProof.Rows hiding St
local macro_rules | `(tactic| trivial) => `(tactic| simp only [DL.wSeq, DL.wNext, DL.wRet, DL.wDrop, DL.wIf, DL.wSet, DL.wC, DL.wVar, DL.wOp, DL.wAnd, DL.wOr, DL.wNot, DL.wB, DL.wAndV, DL.wOrV, DL.wNotV, DL.wIfE, DL.wChain, DL.wIsi, DL.wUn, DL.wLen, DL.wCall, DL.wNil, DL.wCons, DL.wTup, DL.wLst, DL.wLstM, DL.wNeg, DL.isT, String.reduceBEq, Bool.or_false, Bool.false_or, Bool.or_true, Bool.true_or, Bool.or_self, Bool.and_self, DL.wGt, DL.wGe, DL.dstart, List.map_cons, List.map_nil, List.length_cons, List.length_nil, List.cons_append, List.nil_append, List.getElem?_cons_zero, List.getElem?_cons_succ, Option.some.injEq, exists_eq_left', exists_eq_left, List.set_cons_zero, List.set_cons_succ, decide_true, decide_false, Bool.true_and, Bool.and_true, Bool.false_and, Bool.and_false, true_and, Bool.not_true, Bool.not_false, if_true, if_false, reduceIte, Bool.false_eq_true, bne_self_eq_false, DL.bne_f, DL.bne_t, List.getElem?_nil, Nat.reduceAdd, Nat.reduceSub, List.replicate_succ, List.replicate_zero, DL.q_onO, DL.q_onO0, DL.q_onB, DL.q_onI, DL.q_onS, DL.q_onL, DL.q_ty, DL.q_tyT, DL.q_ty0, DL.q_ty1, DL.q_ty2, DL.q_ty3, DL.q_ty4, DL.q_ty5, DL.q_ty6, DL.q_lenT, DL.q_lenL, DL.q_lenS, DL.q_ixT, DL.q_ixL, DL.q_ixA, DL.q_leI, DL.q_leS, DL.q_ltI, DL.q_ltS, DL.q_I0, DL.q_II, DL.q_sub, DL.q_addI, DL.q_addS, DL.q_addT, DL.q_addL, DL.q_mulI, DL.q_mulS, DL.q_none, DL.q_noneR, DL.q_is, DL.q_isB, DL.q_inT, DL.q_inL, DL.q_inS, DL.q_inM, DL.q_eq, DL.q_rd, DL.q_ord, DL.q_ix, DL.q_tup, DL.q_tup0, DL.q_tup1, DL.q_tup2, DL.q_tup3, DL.q_eqI, DL.q_eqS, DL.q_shI, DL.q_flI, DL.q_flS, DL.q_flN, DL.q_flB, DL.q_at0, DL.q_at1, DL.q_at2, DL.q_partsT, DL.iT, DL.iS, DL.iL, DL.wAsg, DL.q_star, DL.q_gN, DL.wInTab, DL.wTab, DL.q_onDs, DL.q_dats0, DL.q_datsc, DL.q_sz0, DL.q_sz1, DL.q_sz2, DL.q_sz3, DL.q_sz4, DL.q_sz5, DL.q_sz6, DL.q_sz7, DL.q_sz11, DL.q_sz12, DL.q_keyS, DL.q_getD, DL.q_dct, DL.wInD, DL.wIxD, DL.q_ixU, DL.q_onMU, DL.q_lenU, DL.q_um, DL.q_n30, DL.q_n31, DL.q_n32, DL.q_max, DL.gIx, DL.q_map, DL.q_all0, DL.q_allc])
section
variable {P : Program} {w : World} {K : PySem.W.Frag} {mg : Str → Option Value} {base : Heap} {k : Nat}
def famL (p : Int) : List PyData := if p < 21 then [.bool true, .bool false, .bool false, .bool true, .bool false, .bool false] else if p < 23 then [.bool false, .bool true, .bool false, .bool false, .bool true, .bool true] else [.bool false, .bool false, .bool true, .bool false, .bool false, .bool true]
def spFam : DSp := fun xs M P _ => ∃ p : Int, xs = [.dat (.int p)] ∧ P (.dat (.list (famL p))) M
theorem ok__law_family_of (T : Facts K mg w) : GOk P w K mg base CX0 1 "_law_family_of" ["place"] spFam := by
  obtain ⟨f, fd, D⟩ := T.d__law_family_of
  refine gok_of D sc__law_family_of ?_ fun cdv A out s H E hr hgd => ?_
  · rintro xs M P R ⟨q, rfl, h⟩
    rfl
  have hu := Room.units hr
  have hu66 : (A.deeper (envOfC "_law_family_of" (defScope s__law_family_of) s.heap.objs.size f cdv)).units + 66 < cLine := by
    have := hr.un
    omega
  refine ⟨_, (dss_cons (ds_if (dt_cmp do_lt (de_var (pv 0)) de_int (by rfl))
      (dss_one (ds_ret (de_lst (da_cons de_bl (da_cons de_bl (da_cons de_bl (da_cons de_bl (da_cons de_bl (da_cons de_bl da_nil)))))))))
      dss_nil)
    (dss_cons (ds_if (dt_cmp do_lt (de_var (pv 0)) de_int (by rfl))
      (dss_one (ds_ret (de_lst (da_cons de_bl (da_cons de_bl (da_cons de_bl (da_cons de_bl (da_cons de_bl (da_cons de_bl da_nil)))))))))
      dss_nil)
    (dss_one (ds_ret (de_lst (da_cons de_bl (da_cons de_bl (da_cons de_bl (da_cons de_bl (da_cons de_bl (da_cons de_bl da_nil))))))))))), ?_⟩
  rintro xs M P R ⟨p, rfl, h⟩
  unfold famL at h
  trivial
  refine ifB (fun e => ?_) fun e => ifB (fun e2 => ?_) fun e2 => ?_
  · rw [if_pos (of_decide_eq_true e)] at h
    exact h
  · rw [if_neg (of_decide_eq_false e), if_pos (of_decide_eq_true e2)] at h
    exact h
  · rw [if_neg (of_decide_eq_false e), if_neg (of_decide_eq_false e2)] at h
    exact h
abbrev MRow := Str × (AV → List (Str × AV))
inductive Exs (K : PySem.W.Frag) (M : Mp) (o : AV) : List AV → List MRow → Prop
  | nil : Exs K M o [] []
  | cons {x : AV} {xs : List AV} {r : MRow} {rs : List MRow} : ExAt K M x r.1 (r.2 o) → Exs K M o xs rs → Exs K M o (x :: xs) (r :: rs)
theorem Exs.keep {M M' : Mp} {o : AV} (k : ∀ x c fs, ExAt K M x c fs → ExAt K M' x c fs) : ∀ {xs : List AV} {rs : List MRow}, Exs K M o xs rs → Exs K M' o xs rs
  | _, _, .nil => .nil
  | _, _, .cons h t => .cons (k _ _ _ h) (Exs.keep k t)
theorem Exs.kept {M M' : Mp} {o : AV} {xs : List AV} {rs : List MRow} (h : Exs K M o xs rs) (k : Kept M M') : Exs K M' o xs rs := h.keep fun _ _ _ e => e.kept k
theorem Exs.app {M : Mp} {o : AV} : ∀ {xs ys : List AV} {rs ss : List MRow}, Exs K M o xs rs → Exs K M o ys ss → Exs K M o (xs ++ ys) (rs ++ ss)
  | _, _, _, _, .nil, h => h
  | _, _, _, _, .cons a t, h => .cons a (t.app h)
theorem g_mk0 {c : Str} {δ : DSt} {M : Mp} {P : DK} {R : DXK} (k : ∀ a M', Kept M M' → M a = none → ExAt K M' (.ref a) c [] → P (.ref a) M') : wMk (ca K c) (spX0 K c) 0 wNil δ M P R :=
  ⟨rfl, fun a ha => ⟨a, rfl, um_same, rfl, k a _ ((Kept.refl (M := M)).new ha).1 ha ⟨a, rfl, .inl ⟨um_same, rfl⟩⟩⟩⟩
theorem g_mk1 {c f : Str} {i : Nat} {o : AV} {δ : DSt} {M : Mp} {P : DK} {R : DXK} (hw : δ[i]? = some (some o)) (k : ∀ a M', Kept M M' → M a = none → ExAt K M' (.ref a) c [(f, o)] → P (.ref a) M') : wMk (ca K c) (spX1 K c f) 1 (wCons (wVar i) wNil) δ M P R :=
  ⟨o, hw, rfl, fun a ha => ⟨a, o, rfl, um_same, fun dx _ _ => ⟨rfl, by
    rw [um_um]
    exact k a _ ((Kept.refl (M := M)).new ha).1 ha ⟨a, rfl, .inr ⟨dx, um_same⟩⟩⟩⟩⟩
theorem g_mk2 {c f f2 : Str} {i : Nat} {d : PyData} {o : AV} {δ : DSt} {M : Mp} {P : DK} {R : DXK} (hw : δ[i]? = some (some o)) (k : ∀ a M', Kept M M' → M a = none → ExAt K M' (.ref a) c [(f2, o), (f, .dat d)] → P (.ref a) M') : wMk (ca K c) (spX2 K c f f2) 2 (wCons (wC d) (wCons (wVar i) wNil)) δ M P R :=
  ⟨o, hw, rfl, fun a ha => ⟨a, .dat d, o, rfl, um_same, fun dx _ _ => ⟨rfl, by
    rw [um_um]
    exact k a _ ((Kept.refl (M := M)).new ha).1 ha ⟨a, rfl, .inr ⟨dx, um_same⟩⟩⟩⟩⟩
def tabF : List MRow := [("NoNumber", fun o => [("found", o)]), ("NoName", fun o => [("found", o)]), ("NoWorth", fun o => [("found", o)]), ("NoTree", fun o => [("found", o)]), ("NoDeed", fun o => [("found", o)]), ("NoParams", fun o => [("found", o)]), ("NoText", fun o => [("found", o)]), ("NoStore", fun o => [("found", o)]), ("NoKind", fun o => [("found", o)]), ("NoRows", fun o => [("found", o)]), ("NoRules", fun o => [("found", o)]), ("NoAsk", fun o => [("found", o)]), ("NoWay", fun o => [("found", o)]), ("NoLine", fun o => [("found", o)]), ("NoPaper", fun o => [("found", o)])]
def tabL : List MRow := [("NoList", fun o => [("found", o)]), ("NoTruth", fun o => [("found", o)]), ("Unfit", fun o => [("found", o)]), ("Doubled", fun o => [("found", o)]), ("NoRow", fun o => [("at", o)]), ("TooMany", fun o => [("many", o)]), ("NoThing", fun o => [("found", o)]), ("NotThere", fun o => [("found", o)]), ("Fault", fun o => [("found", o), ("why", .dat (.str "wrong"))]), ("Ended", fun o => [("found", o)]), ("Over", fun o => [])]
def spMadeX (K : PySem.W.Frag) (tab : List MRow) : DSp := fun xs M P _ => ∃ o : AV, xs = [o] ∧ ∀ (D : Addr) (as : List AV) (M' : Mp), Kept M M' → M D = none → M' D = some (.lst as) → Exs K M' o as tab → P (.ref D) M'
theorem ok__law_made_first (T : Facts K mg w) : GOk P w K mg base CX0 3 "_law_made_first" ["one"] (spMadeX K tabF) := by
  obtain ⟨f, fd, D⟩ := T.d__law_made_first
  refine gok_of D sc__law_made_first ?_ fun cdv A out s H E hr hgd => ?_
  · rintro xs M P R ⟨o, rfl, h⟩
    rfl
  have hu := Room.units hr
  have hu66 : (A.deeper (envOfC "_law_made_first" (defScope s__law_made_first) s.heap.objs.size f cdv)).units + 66 < cLine := by
    have := hr.un
    omega
  refine ⟨_, (dss_cons (ds_setP (ps_set (i := 1) sc__law_made_first.nd rfl (Or.inl rfl) (de_lstM (da_cons (de_mk (X_NoNumber T) (hr.mono (by omega)) hgd pat0 (by rfl) T.g_NoNumber (da_cons (de_var (pv 0)) da_nil)) (da_cons (de_mk (X_NoName T) (hr.mono (by omega)) hgd pat0 (by rfl) T.g_NoName (da_cons (de_var (pv 0)) da_nil)) (da_cons (de_mk (X_NoWorth T) (hr.mono (by omega)) hgd pat0 (by rfl) T.g_NoWorth (da_cons (de_var (pv 0)) da_nil)) (da_cons (de_mk (X_NoTree T) (hr.mono (by omega)) hgd pat0 (by rfl) T.g_NoTree (da_cons (de_var (pv 0)) da_nil)) (da_cons (de_mk (X_NoDeed T) (hr.mono (by omega)) hgd pat0 (by rfl) T.g_NoDeed (da_cons (de_var (pv 0)) da_nil)) (da_cons (de_mk (X_NoParams T) (hr.mono (by omega)) hgd pat0 (by rfl) T.g_NoParams (da_cons (de_var (pv 0)) da_nil)) (da_cons (de_mk (X_NoText T) (hr.mono (by omega)) hgd pat0 (by rfl) T.g_NoText (da_cons (de_var (pv 0)) da_nil)) da_nil))))))))))
    (dss_cons (ds_setP (ps_set (i := 1) sc__law_made_first.nd rfl (Or.inl rfl) (de_op do_add (de_var (pv 1)) (de_lstM (da_cons (de_mk (X_NoStore T) (hr.mono (by omega)) hgd pat0 (by rfl) T.g_NoStore (da_cons (de_var (pv 0)) da_nil)) (da_cons (de_mk (X_NoKind T) (hr.mono (by omega)) hgd pat0 (by rfl) T.g_NoKind (da_cons (de_var (pv 0)) da_nil)) (da_cons (de_mk (X_NoRows T) (hr.mono (by omega)) hgd pat0 (by rfl) T.g_NoRows (da_cons (de_var (pv 0)) da_nil)) (da_cons (de_mk (X_NoRules T) (hr.mono (by omega)) hgd pat0 (by rfl) T.g_NoRules (da_cons (de_var (pv 0)) da_nil)) (da_cons (de_mk (X_NoAsk T) (hr.mono (by omega)) hgd pat0 (by rfl) T.g_NoAsk (da_cons (de_var (pv 0)) da_nil)) da_nil)))))))))
    (dss_one (ds_ret (de_op do_add (de_var (pv 1)) (de_lstM (da_cons (de_mk (X_NoWay T) (hr.mono (by omega)) hgd pat0 (by rfl) T.g_NoWay (da_cons (de_var (pv 0)) da_nil)) (da_cons (de_mk (X_NoLine T) (hr.mono (by omega)) hgd pat0 (by rfl) T.g_NoLine (da_cons (de_var (pv 0)) da_nil)) (da_cons (de_mk (X_NoPaper T) (hr.mono (by omega)) hgd pat0 (by rfl) T.g_NoPaper (da_cons (de_var (pv 0)) da_nil)) da_nil))))))))), ?_⟩
  rintro xs M P R ⟨o, rfl, h⟩
  trivial
  refine g_mk1 rfl fun a0_0 M0_0 k0_0 n0_0 e0_0 => g_mk1 rfl fun a0_1 M0_1 k0_1 n0_1 e0_1 => g_mk1 rfl fun a0_2 M0_2 k0_2 n0_2 e0_2 => g_mk1 rfl fun a0_3 M0_3 k0_3 n0_3 e0_3 => g_mk1 rfl fun a0_4 M0_4 k0_4 n0_4 e0_4 => g_mk1 rfl fun a0_5 M0_5 k0_5 n0_5 e0_5 => g_mk1 rfl fun a0_6 M0_6 k0_6 n0_6 e0_6 => ?_
  have G0 : Exs K M0_6 o [.ref a0_0, .ref a0_1, .ref a0_2, .ref a0_3, .ref a0_4, .ref a0_5, .ref a0_6] [("NoNumber", fun o => [("found", o)]), ("NoName", fun o => [("found", o)]), ("NoWorth", fun o => [("found", o)]), ("NoTree", fun o => [("found", o)]), ("NoDeed", fun o => [("found", o)]), ("NoParams", fun o => [("found", o)]), ("NoText", fun o => [("found", o)])] := (.cons ((((((e0_0.kept k0_1).kept k0_2).kept k0_3).kept k0_4).kept k0_5).kept k0_6) (.cons (((((e0_1.kept k0_2).kept k0_3).kept k0_4).kept k0_5).kept k0_6) (.cons ((((e0_2.kept k0_3).kept k0_4).kept k0_5).kept k0_6) (.cons (((e0_3.kept k0_4).kept k0_5).kept k0_6) (.cons ((e0_4.kept k0_5).kept k0_6) (.cons (e0_5.kept k0_6) (.cons e0_6 .nil)))))))
  have J0 : Kept M M0_6 := ((((((k0_0.trans k0_1).trans k0_2).trans k0_3).trans k0_4).trans k0_5).trans k0_6)
  intro b0 f0
  obtain ⟨K0, m0, n0⟩ := J0.new (o := .lst _) f0
  have G0' := G0.kept ((Kept.refl (M := M0_6)).new (o := .lst [AV.ref a0_0, AV.ref a0_1, AV.ref a0_2, AV.ref a0_3, AV.ref a0_4, AV.ref a0_5, AV.ref a0_6]) f0).1
  generalize um M0_6 b0 _ = N0 at K0 m0 G0' ⊢
  clear G0 J0 e0_0 e0_1 e0_2 e0_3 e0_4 e0_5 e0_6 k0_0 k0_1 k0_2 k0_3 k0_4 k0_5 k0_6 n0_0 n0_1 n0_2 n0_3 n0_4 n0_5 n0_6
  refine g_mk1 rfl fun a1_0 M1_0 k1_0 n1_0 e1_0 => g_mk1 rfl fun a1_1 M1_1 k1_1 n1_1 e1_1 => g_mk1 rfl fun a1_2 M1_2 k1_2 n1_2 e1_2 => g_mk1 rfl fun a1_3 M1_3 k1_3 n1_3 e1_3 => g_mk1 rfl fun a1_4 M1_4 k1_4 n1_4 e1_4 => ?_
  have G1 : Exs K M1_4 o [.ref a1_0, .ref a1_1, .ref a1_2, .ref a1_3, .ref a1_4] [("NoStore", fun o => [("found", o)]), ("NoKind", fun o => [("found", o)]), ("NoRows", fun o => [("found", o)]), ("NoRules", fun o => [("found", o)]), ("NoAsk", fun o => [("found", o)])] := (.cons ((((e1_0.kept k1_1).kept k1_2).kept k1_3).kept k1_4) (.cons (((e1_1.kept k1_2).kept k1_3).kept k1_4) (.cons ((e1_2.kept k1_3).kept k1_4) (.cons (e1_3.kept k1_4) (.cons e1_4 .nil)))))
  have J1 : Kept N0 M1_4 := ((((k1_0.trans k1_1).trans k1_2).trans k1_3).trans k1_4)
  have m0' := (J1 _ (by rw [m0]; exact fun z => nomatch z)).trans m0
  have G1x := (G0'.kept J1).app G1
  intro c1 g1
  have y1 : c1 ≠ b0 := fun e => by
    rw [e, m0'] at g1
    cases g1
  obtain ⟨L1, l1, _⟩ := (K0.trans J1).new (o := .lst [AV.ref a1_0, AV.ref a1_1, AV.ref a1_2, AV.ref a1_3, AV.ref a1_4]) g1
  have G1y := G1x.kept ((Kept.refl (M := M1_4)).new (o := .lst [AV.ref a1_0, AV.ref a1_1, AV.ref a1_2, AV.ref a1_3, AV.ref a1_4]) g1).1
  refine ⟨_, _, (um_ne (Ne.symm y1)).trans m0', um_same, Nat.le_of_ble_eq_true rfl, fun b1 f1 => ?_⟩
  obtain ⟨K1, m1, n1⟩ := L1.new (o := .lst ([AV.ref a0_0, AV.ref a0_1, AV.ref a0_2, AV.ref a0_3, AV.ref a0_4, AV.ref a0_5, AV.ref a0_6] ++ [AV.ref a1_0, AV.ref a1_1, AV.ref a1_2, AV.ref a1_3, AV.ref a1_4])) f1
  have G1' := G1y.kept ((Kept.refl (M := um M1_4 c1 (.lst [AV.ref a1_0, AV.ref a1_1, AV.ref a1_2, AV.ref a1_3, AV.ref a1_4]))).new (o := .lst ([AV.ref a0_0, AV.ref a0_1, AV.ref a0_2, AV.ref a0_3, AV.ref a0_4, AV.ref a0_5, AV.ref a0_6] ++ [AV.ref a1_0, AV.ref a1_1, AV.ref a1_2, AV.ref a1_3, AV.ref a1_4])) f1).1
  generalize um (um M1_4 c1 _) b1 _ = N1 at K1 m1 G1' ⊢
  clear G1 G1x G1y L1 G0' e1_0 e1_1 e1_2 e1_3 e1_4 k1_0 k1_1 k1_2 k1_3 k1_4 n1_0 n1_1 n1_2 n1_3 n1_4
  refine g_mk1 rfl fun a2_0 M2_0 k2_0 n2_0 e2_0 => g_mk1 rfl fun a2_1 M2_1 k2_1 n2_1 e2_1 => g_mk1 rfl fun a2_2 M2_2 k2_2 n2_2 e2_2 => ?_
  have G2 : Exs K M2_2 o [.ref a2_0, .ref a2_1, .ref a2_2] [("NoWay", fun o => [("found", o)]), ("NoLine", fun o => [("found", o)]), ("NoPaper", fun o => [("found", o)])] := (.cons ((e2_0.kept k2_1).kept k2_2) (.cons (e2_1.kept k2_2) (.cons e2_2 .nil)))
  have J2 : Kept N1 M2_2 := ((k2_0.trans k2_1).trans k2_2)
  have m1' := (J2 _ (by rw [m1]; exact fun z => nomatch z)).trans m1
  have G2x := (G1'.kept J2).app G2
  intro c2 g2
  have y2 : c2 ≠ b1 := fun e => by
    rw [e, m1'] at g2
    cases g2
  obtain ⟨L2, l2, _⟩ := (K1.trans J2).new (o := .lst [AV.ref a2_0, AV.ref a2_1, AV.ref a2_2]) g2
  have G2y := G2x.kept ((Kept.refl (M := M2_2)).new (o := .lst [AV.ref a2_0, AV.ref a2_1, AV.ref a2_2]) g2).1
  refine ⟨_, _, (um_ne (Ne.symm y2)).trans m1', um_same, Nat.le_of_ble_eq_true rfl, fun b2 f2 => ?_⟩
  obtain ⟨K2, m2, n2⟩ := L2.new (o := .lst (([AV.ref a0_0, AV.ref a0_1, AV.ref a0_2, AV.ref a0_3, AV.ref a0_4, AV.ref a0_5, AV.ref a0_6] ++ [AV.ref a1_0, AV.ref a1_1, AV.ref a1_2, AV.ref a1_3, AV.ref a1_4]) ++ [AV.ref a2_0, AV.ref a2_1, AV.ref a2_2])) f2
  have G2' := G2y.kept ((Kept.refl (M := um M2_2 c2 (.lst [AV.ref a2_0, AV.ref a2_1, AV.ref a2_2]))).new (o := .lst (([AV.ref a0_0, AV.ref a0_1, AV.ref a0_2, AV.ref a0_3, AV.ref a0_4, AV.ref a0_5, AV.ref a0_6] ++ [AV.ref a1_0, AV.ref a1_1, AV.ref a1_2, AV.ref a1_3, AV.ref a1_4]) ++ [AV.ref a2_0, AV.ref a2_1, AV.ref a2_2])) f2).1
  generalize um (um M2_2 c2 _) b2 _ = N2 at K2 m2 G2' ⊢
  clear G2 G2x G2y L2 G1' e2_0 e2_1 e2_2 k2_0 k2_1 k2_2 n2_0 n2_1 n2_2
  exact h _ _ _ K2 n2 m2 G2'
theorem ok__law_made_last (T : Facts K mg w) : GOk P w K mg base CX0 3 "_law_made_last" ["one"] (spMadeX K tabL) := by
  obtain ⟨f, fd, D⟩ := T.d__law_made_last
  refine gok_of D sc__law_made_last ?_ fun cdv A out s H E hr hgd => ?_
  · rintro xs M P R ⟨o, rfl, h⟩
    rfl
  have hu := Room.units hr
  have hu66 : (A.deeper (envOfC "_law_made_last" (defScope s__law_made_last) s.heap.objs.size f cdv)).units + 66 < cLine := by
    have := hr.un
    omega
  refine ⟨_, (dss_cons (ds_setP (ps_set (i := 1) sc__law_made_last.nd rfl (Or.inl rfl) (de_lstM (da_cons (de_mk (X_NoList T) (hr.mono (by omega)) hgd pat0 (by rfl) T.g_NoList (da_cons (de_var (pv 0)) da_nil)) (da_cons (de_mk (X_NoTruth T) (hr.mono (by omega)) hgd pat0 (by rfl) T.g_NoTruth (da_cons (de_var (pv 0)) da_nil)) (da_cons (de_mk (X_Unfit T) (hr.mono (by omega)) hgd pat0 (by rfl) T.g_Unfit (da_cons (de_var (pv 0)) da_nil)) (da_cons (de_mk (X_Doubled T) (hr.mono (by omega)) hgd pat0 (by rfl) T.g_Doubled (da_cons (de_var (pv 0)) da_nil)) (da_cons (de_mk (X_NoRow T) (hr.mono (by omega)) hgd pat0 (by rfl) T.g_NoRow (da_cons (de_var (pv 0)) da_nil)) (da_cons (de_mk (X_TooMany T) (hr.mono (by omega)) hgd pat0 (by rfl) T.g_TooMany (da_cons (de_var (pv 0)) da_nil)) (da_cons (de_mk (X_NoThing T) (hr.mono (by omega)) hgd pat0 (by rfl) T.g_NoThing (da_cons (de_var (pv 0)) da_nil)) da_nil))))))))))
    (dss_one (ds_ret (de_op do_add (de_var (pv 1)) (de_lstM (da_cons (de_mk (X_NotThere T) (hr.mono (by omega)) hgd pat0 (by rfl) T.g_NotThere (da_cons (de_var (pv 0)) da_nil)) (da_cons (de_mk (X_Fault T) (hr.mono (by omega)) hgd pat0 (by rfl) T.g_Fault (da_cons de_str (da_cons (de_var (pv 0)) da_nil))) (da_cons (de_mk (X_Ended T) (hr.mono (by omega)) hgd pat0 (by rfl) T.g_Ended (da_cons (de_var (pv 0)) da_nil)) (da_cons (de_mk_0 (X_Over T) (hr.mono (by omega)) hgd pat0 (by rfl) T.g_Over) da_nil))))))))), ?_⟩
  rintro xs M P R ⟨o, rfl, h⟩
  trivial
  refine g_mk1 rfl fun a0_0 M0_0 k0_0 n0_0 e0_0 => g_mk1 rfl fun a0_1 M0_1 k0_1 n0_1 e0_1 => g_mk1 rfl fun a0_2 M0_2 k0_2 n0_2 e0_2 => g_mk1 rfl fun a0_3 M0_3 k0_3 n0_3 e0_3 => g_mk1 rfl fun a0_4 M0_4 k0_4 n0_4 e0_4 => g_mk1 rfl fun a0_5 M0_5 k0_5 n0_5 e0_5 => g_mk1 rfl fun a0_6 M0_6 k0_6 n0_6 e0_6 => ?_
  have G0 : Exs K M0_6 o [.ref a0_0, .ref a0_1, .ref a0_2, .ref a0_3, .ref a0_4, .ref a0_5, .ref a0_6] [("NoList", fun o => [("found", o)]), ("NoTruth", fun o => [("found", o)]), ("Unfit", fun o => [("found", o)]), ("Doubled", fun o => [("found", o)]), ("NoRow", fun o => [("at", o)]), ("TooMany", fun o => [("many", o)]), ("NoThing", fun o => [("found", o)])] := (.cons ((((((e0_0.kept k0_1).kept k0_2).kept k0_3).kept k0_4).kept k0_5).kept k0_6) (.cons (((((e0_1.kept k0_2).kept k0_3).kept k0_4).kept k0_5).kept k0_6) (.cons ((((e0_2.kept k0_3).kept k0_4).kept k0_5).kept k0_6) (.cons (((e0_3.kept k0_4).kept k0_5).kept k0_6) (.cons ((e0_4.kept k0_5).kept k0_6) (.cons (e0_5.kept k0_6) (.cons e0_6 .nil)))))))
  have J0 : Kept M M0_6 := ((((((k0_0.trans k0_1).trans k0_2).trans k0_3).trans k0_4).trans k0_5).trans k0_6)
  intro b0 f0
  obtain ⟨K0, m0, n0⟩ := J0.new (o := .lst _) f0
  have G0' := G0.kept ((Kept.refl (M := M0_6)).new (o := .lst [AV.ref a0_0, AV.ref a0_1, AV.ref a0_2, AV.ref a0_3, AV.ref a0_4, AV.ref a0_5, AV.ref a0_6]) f0).1
  generalize um M0_6 b0 _ = N0 at K0 m0 G0' ⊢
  clear G0 J0 e0_0 e0_1 e0_2 e0_3 e0_4 e0_5 e0_6 k0_0 k0_1 k0_2 k0_3 k0_4 k0_5 k0_6 n0_0 n0_1 n0_2 n0_3 n0_4 n0_5 n0_6
  refine g_mk1 rfl fun a1_0 M1_0 k1_0 n1_0 e1_0 => g_mk2 rfl fun a1_1 M1_1 k1_1 n1_1 e1_1 => g_mk1 rfl fun a1_2 M1_2 k1_2 n1_2 e1_2 => g_mk0 fun a1_3 M1_3 k1_3 n1_3 e1_3 => ?_
  have G1 : Exs K M1_3 o [.ref a1_0, .ref a1_1, .ref a1_2, .ref a1_3] [("NotThere", fun o => [("found", o)]), ("Fault", fun o => [("found", o), ("why", .dat (.str "wrong"))]), ("Ended", fun o => [("found", o)]), ("Over", fun o => [])] := (.cons (((e1_0.kept k1_1).kept k1_2).kept k1_3) (.cons ((e1_1.kept k1_2).kept k1_3) (.cons (e1_2.kept k1_3) (.cons e1_3 .nil))))
  have J1 : Kept N0 M1_3 := (((k1_0.trans k1_1).trans k1_2).trans k1_3)
  have m0' := (J1 _ (by rw [m0]; exact fun z => nomatch z)).trans m0
  have G1x := (G0'.kept J1).app G1
  intro c1 g1
  have y1 : c1 ≠ b0 := fun e => by
    rw [e, m0'] at g1
    cases g1
  obtain ⟨L1, l1, _⟩ := (K0.trans J1).new (o := .lst [AV.ref a1_0, AV.ref a1_1, AV.ref a1_2, AV.ref a1_3]) g1
  have G1y := G1x.kept ((Kept.refl (M := M1_3)).new (o := .lst [AV.ref a1_0, AV.ref a1_1, AV.ref a1_2, AV.ref a1_3]) g1).1
  refine ⟨_, _, (um_ne (Ne.symm y1)).trans m0', um_same, Nat.le_of_ble_eq_true rfl, fun b1 f1 => ?_⟩
  obtain ⟨K1, m1, n1⟩ := L1.new (o := .lst ([AV.ref a0_0, AV.ref a0_1, AV.ref a0_2, AV.ref a0_3, AV.ref a0_4, AV.ref a0_5, AV.ref a0_6] ++ [AV.ref a1_0, AV.ref a1_1, AV.ref a1_2, AV.ref a1_3])) f1
  have G1' := G1y.kept ((Kept.refl (M := um M1_3 c1 (.lst [AV.ref a1_0, AV.ref a1_1, AV.ref a1_2, AV.ref a1_3]))).new (o := .lst ([AV.ref a0_0, AV.ref a0_1, AV.ref a0_2, AV.ref a0_3, AV.ref a0_4, AV.ref a0_5, AV.ref a0_6] ++ [AV.ref a1_0, AV.ref a1_1, AV.ref a1_2, AV.ref a1_3])) f1).1
  generalize um (um M1_3 c1 _) b1 _ = N1 at K1 m1 G1' ⊢
  clear G1 G1x G1y L1 G0' e1_0 e1_1 e1_2 e1_3 k1_0 k1_1 k1_2 k1_3 n1_0 n1_1 n1_2 n1_3
  exact h _ _ _ K1 n1 m1 G1'

end
end K13
end
section
set_option Elab.async false
set_option linter.all false
set_option maxRecDepth 100000
set_option maxHeartbeats 400000
namespace K13
open PySem PySem.Spec L2 DL DX
open PyProof.Rows hiding St
local macro_rules | `(tactic| trivial) => `(tactic| simp only [DL.wSeq, DL.wNext, DL.wRet, DL.wDrop, DL.wIf, DL.wSet, DL.wC, DL.wVar, DL.wOp, DL.wAnd, DL.wOr, DL.wNot, DL.wB, DL.wAndV, DL.wOrV, DL.wNotV, DL.wIfE, DL.wChain, DL.wIsi, DL.wUn, DL.wLen, DL.wCall, DL.wNil, DL.wCons, DL.wTup, DL.wLst, DL.wLstM, DL.wNeg, DL.isT, String.reduceBEq, Bool.or_false, Bool.false_or, Bool.or_true, Bool.true_or, Bool.or_self, Bool.and_self, DL.wGt, DL.wGe, DL.dstart, List.map_cons, List.map_nil, List.length_cons, List.length_nil, List.cons_append, List.nil_append, List.getElem?_cons_zero, List.getElem?_cons_succ, Option.some.injEq, exists_eq_left', exists_eq_left, List.set_cons_zero, List.set_cons_succ, decide_true, decide_false, Bool.true_and, Bool.and_true, Bool.false_and, Bool.and_false, true_and, Bool.not_true, Bool.not_false, if_true, if_false, reduceIte, Bool.false_eq_true, bne_self_eq_false, DL.bne_f, DL.bne_t, List.getElem?_nil, Nat.reduceAdd, Nat.reduceSub, List.replicate_succ, List.replicate_zero, DL.q_onO, DL.q_onO0, DL.q_onB, DL.q_onI, DL.q_onS, DL.q_onL, DL.q_ty, DL.q_tyT, DL.q_ty0, DL.q_ty1, DL.q_ty2, DL.q_ty3, DL.q_ty4, DL.q_ty5, DL.q_ty6, DL.q_lenT, DL.q_lenL, DL.q_lenS, DL.q_ixT, DL.q_ixL, DL.q_ixA, DL.q_leI, DL.q_leS, DL.q_ltI, DL.q_ltS, DL.q_I0, DL.q_II, DL.q_sub, DL.q_addI, DL.q_addS, DL.q_addT, DL.q_addL, DL.q_mulI, DL.q_mulS, DL.q_none, DL.q_noneR, DL.q_is, DL.q_isB, DL.q_inT, DL.q_inL, DL.q_inS, DL.q_inM, DL.q_eq, DL.q_rd, DL.q_ord, DL.q_ix, DL.q_tup, DL.q_tup0, DL.q_tup1, DL.q_tup2, DL.q_tup3, DL.q_eqI, DL.q_eqS, DL.q_shI, DL.q_flI, DL.q_flS, DL.q_flN, DL.q_flB, DL.q_at0, DL.q_at1, DL.q_at2, DL.q_partsT, DL.iT, DL.iS, DL.iL, DL.wAsg, DL.q_star, DL.q_gN, DL.wInTab, DL.wTab, DL.q_onDs, DL.q_dats0, DL.q_datsc, DL.q_sz0, DL.q_sz1, DL.q_sz2, DL.q_sz3, DL.q_sz4, DL.q_sz5, DL.q_sz6, DL.q_sz7, DL.q_sz11, DL.q_sz12, DL.q_keyS, DL.q_getD, DL.q_dct, DL.wInD, DL.wIxD, DL.q_ixU, DL.q_onMU, DL.q_lenU, DL.q_um, DL.q_n30, DL.q_n31, DL.q_n32, DL.q_max, DL.gIx, DL.q_map, DL.q_all0, DL.q_allc])
section
variable {P : Program} {w : World} {K : PySem.W.Frag} {mg : Str → Option Value} {base : Heap} {k : Nat}
def tabA : List MRow := tabF ++ tabL
/-- place in the row of made ones -> class -/
def clsA : List Nat := ixF ++ ixL
theorem cls_at : ∀ p : Fin 26, ∃ r j, tabA[p.val]? = some r ∧ clsA[p.val]? = some j ∧ clsN[j]? = some r.1 := by
  intro p
  match p with
  | ⟨0, _⟩ => exact ⟨_, _, rfl, rfl, rfl⟩
  | ⟨1, _⟩ => exact ⟨_, _, rfl, rfl, rfl⟩
  | ⟨2, _⟩ => exact ⟨_, _, rfl, rfl, rfl⟩
  | ⟨3, _⟩ => exact ⟨_, _, rfl, rfl, rfl⟩
  | ⟨4, _⟩ => exact ⟨_, _, rfl, rfl, rfl⟩
  | ⟨5, _⟩ => exact ⟨_, _, rfl, rfl, rfl⟩
  | ⟨6, _⟩ => exact ⟨_, _, rfl, rfl, rfl⟩
  | ⟨7, _⟩ => exact ⟨_, _, rfl, rfl, rfl⟩
  | ⟨8, _⟩ => exact ⟨_, _, rfl, rfl, rfl⟩
  | ⟨9, _⟩ => exact ⟨_, _, rfl, rfl, rfl⟩
  | ⟨10, _⟩ => exact ⟨_, _, rfl, rfl, rfl⟩
  | ⟨11, _⟩ => exact ⟨_, _, rfl, rfl, rfl⟩
  | ⟨12, _⟩ => exact ⟨_, _, rfl, rfl, rfl⟩
  | ⟨13, _⟩ => exact ⟨_, _, rfl, rfl, rfl⟩
  | ⟨14, _⟩ => exact ⟨_, _, rfl, rfl, rfl⟩
  | ⟨15, _⟩ => exact ⟨_, _, rfl, rfl, rfl⟩
  | ⟨16, _⟩ => exact ⟨_, _, rfl, rfl, rfl⟩
  | ⟨17, _⟩ => exact ⟨_, _, rfl, rfl, rfl⟩
  | ⟨18, _⟩ => exact ⟨_, _, rfl, rfl, rfl⟩
  | ⟨19, _⟩ => exact ⟨_, _, rfl, rfl, rfl⟩
  | ⟨20, _⟩ => exact ⟨_, _, rfl, rfl, rfl⟩
  | ⟨21, _⟩ => exact ⟨_, _, rfl, rfl, rfl⟩
  | ⟨22, _⟩ => exact ⟨_, _, rfl, rfl, rfl⟩
  | ⟨23, _⟩ => exact ⟨_, _, rfl, rfl, rfl⟩
  | ⟨24, _⟩ => exact ⟨_, _, rfl, rfl, rfl⟩
  | ⟨25, _⟩ => exact ⟨_, _, rfl, rfl, rfl⟩
  | ⟨n + 26, h⟩ => exact absurd h (by omega)
theorem fnd_at (T : Facts K mg w) (o : AV) : ∀ p : Nat, p < 26 → p ≠ 19 → p ≠ 20 → p ≠ 25 → ∃ r, tabA[p]? = some r ∧ XF K "found" (ca K r.1) ∧ (r.2 o).lookup ("found" : Str) = some o := by
  intro p hp h1 h2 h3
  match p, hp, h1, h2, h3 with
  | 0, _, _, _, _ => exact ⟨_, rfl, ⟨⟨_, T.e_NoNumber⟩, T.f_NoNumber_found⟩, rfl⟩
  | 1, _, _, _, _ => exact ⟨_, rfl, ⟨⟨_, T.e_NoName⟩, T.f_NoName_found⟩, rfl⟩
  | 2, _, _, _, _ => exact ⟨_, rfl, ⟨⟨_, T.e_NoWorth⟩, T.f_NoWorth_found⟩, rfl⟩
  | 3, _, _, _, _ => exact ⟨_, rfl, ⟨⟨_, T.e_NoTree⟩, T.f_NoTree_found⟩, rfl⟩
  | 4, _, _, _, _ => exact ⟨_, rfl, ⟨⟨_, T.e_NoDeed⟩, T.f_NoDeed_found⟩, rfl⟩
  | 5, _, _, _, _ => exact ⟨_, rfl, ⟨⟨_, T.e_NoParams⟩, T.f_NoParams_found⟩, rfl⟩
  | 6, _, _, _, _ => exact ⟨_, rfl, ⟨⟨_, T.e_NoText⟩, T.f_NoText_found⟩, rfl⟩
  | 7, _, _, _, _ => exact ⟨_, rfl, ⟨⟨_, T.e_NoStore⟩, T.f_NoStore_found⟩, rfl⟩
  | 8, _, _, _, _ => exact ⟨_, rfl, ⟨⟨_, T.e_NoKind⟩, T.f_NoKind_found⟩, rfl⟩
  | 9, _, _, _, _ => exact ⟨_, rfl, ⟨⟨_, T.e_NoRows⟩, T.f_NoRows_found⟩, rfl⟩
  | 10, _, _, _, _ => exact ⟨_, rfl, ⟨⟨_, T.e_NoRules⟩, T.f_NoRules_found⟩, rfl⟩
  | 11, _, _, _, _ => exact ⟨_, rfl, ⟨⟨_, T.e_NoAsk⟩, T.f_NoAsk_found⟩, rfl⟩
  | 12, _, _, _, _ => exact ⟨_, rfl, ⟨⟨_, T.e_NoWay⟩, T.f_NoWay_found⟩, rfl⟩
  | 13, _, _, _, _ => exact ⟨_, rfl, ⟨⟨_, T.e_NoLine⟩, T.f_NoLine_found⟩, rfl⟩
  | 14, _, _, _, _ => exact ⟨_, rfl, ⟨⟨_, T.e_NoPaper⟩, T.f_NoPaper_found⟩, rfl⟩
  | 15, _, _, _, _ => exact ⟨_, rfl, ⟨⟨_, T.e_NoList⟩, T.f_NoList_found⟩, rfl⟩
  | 16, _, _, _, _ => exact ⟨_, rfl, ⟨⟨_, T.e_NoTruth⟩, T.f_NoTruth_found⟩, rfl⟩
  | 17, _, _, _, _ => exact ⟨_, rfl, ⟨⟨_, T.e_Unfit⟩, T.f_Unfit_found⟩, rfl⟩
  | 18, _, _, _, _ => exact ⟨_, rfl, ⟨⟨_, T.e_Doubled⟩, T.f_Doubled_found⟩, rfl⟩
  | 19, _, h, _, _ => exact (h rfl).elim
  | 20, _, _, h, _ => exact (h rfl).elim
  | 21, _, _, _, _ => exact ⟨_, rfl, ⟨⟨_, T.e_NoThing⟩, T.f_NoThing_found⟩, rfl⟩
  | 22, _, _, _, _ => exact ⟨_, rfl, ⟨⟨_, T.e_NotThere⟩, T.f_NotThere_found⟩, rfl⟩
  | 23, _, _, _, _ => exact ⟨_, rfl, ⟨⟨_, T.e_Fault⟩, T.f_Fault_found⟩, rfl⟩
  | 24, _, _, _, _ => exact ⟨_, rfl, ⟨⟨_, T.e_Ended⟩, T.f_Ended_found⟩, rfl⟩
  | 25, _, _, _, h => exact (h rfl).elim
  | n + 26, h, _, _, _ => exact absurd h (by omega)
theorem g_fld {M : Mp} {x o : AV} {c n : Str} {fs : List (Str × AV)} {i : Nat} {δ : DSt} {P : DK} {R : DXK} (h : ExAt K M x c fs) (hx : XF K n (ca K c)) (hl : fs.lookup n = some o) (hw : δ[i]? = some (some x)) (hP : P o M) : wFld K n (wVar i) δ M P R :=
  ⟨x, hw, h.on fun a d => ⟨hx, onO_mk hl hP⟩⟩
def spFields (K : PySem.W.Frag) : DSp := fun xs M P _ => ∃ (q : Addr) (n p : Nat) (x o : AV) (z : Str) (r : MRow), xs = [.dat (.int (p : Nat)), x, o, .dat (.str z)] ∧ p < 26 ∧ tabA[p]? = some r ∧ ExAt K M x r.1 (r.2 o) ∧ One q n M o ∧ n ≤ 80 ∧ ∀ (M' : Mp) (m : Nat), m ≤ n + 1 → KeptX o M M' → One q m M' o → P (.dat (.bool true)) M'
theorem ok__law_fields_right (T : Facts K mg w) : GOk P w K mg base CX0 2 "_law_fields_right" ["place", "e", "one", "before"] (spFields K) := by
  have G__law_same := ok__law_same (P := P) (base := base) T
  obtain ⟨f, fd, D⟩ := T.d__law_fields_right
  refine gok_of D sc__law_fields_right ?_ fun cdv A out s H E hr hgd => ?_
  · rintro xs M P R ⟨q, n, p, x, o, z, r, rfl, h⟩
    rfl
  have hu := Room.units hr
  have hu66 : (A.deeper (envOfC "_law_fields_right" (defScope s__law_fields_right) s.heap.objs.size f cdv)).units + 66 < cLine := by
    have := hr.un
    omega
  refine ⟨_, (dss_cons (ds_if (dt_cmp (do_eqM hu) (de_var (pv 0)) de_int (by rfl))
      (dss_one (ds_ret (de_cmp do_in (de_b1 (c_repr T.sys hgd hu66) (by rfl) T.m_repr boot_repr' (de_fldK (K := K) (de_var (pv 1)))) (de_lst (da_cons (de_var (pv 3)) (da_cons (de_b1 (c_repr T.sys hgd hu66) (by rfl) T.m_repr boot_repr' (de_var (pv 2))) da_nil))) (by rfl))))
      dss_nil)
    (dss_cons (ds_if (dt_cmp (do_eqM hu) (de_var (pv 0)) de_int (by rfl))
      (dss_one (ds_ret (de_cmp do_in (de_b1 (c_repr T.sys hgd hu66) (by rfl) T.m_repr boot_repr' (de_fldK (K := K) (de_var (pv 1)))) (de_lst (da_cons (de_var (pv 3)) (da_cons (de_b1 (c_repr T.sys hgd hu66) (by rfl) T.m_repr boot_repr' (de_var (pv 2))) da_nil))) (by rfl))))
      dss_nil)
    (dss_cons (ds_if (dt_cmp (do_eqM hu) (de_var (pv 0)) de_int (by rfl))
      (dss_one (ds_ret de_bl))
      dss_nil)
    (dss_cons (ds_if (dt_bool (dw_and (dt_cmp (do_eqM hu) (de_var (pv 0)) de_int (by rfl)) (dw_and1 (dt_cmp (do_neM hu) (de_fldK (K := K) (de_var (pv 1))) de_str (by rfl)))))
      (dss_one (ds_ret de_bl))
      dss_nil)
    (dss_one (ds_ret (de_call G__law_same (hr.mono (by omega)) hgd (by rfl) pat0 (da_cons (de_fldK (K := K) (de_var (pv 1))) (da_cons (de_var (pv 2)) da_nil))))))))), ?_⟩
  rintro xs M P R ⟨q, n, p, x, o, z, r, rfl, hp, hr', hx, ho, hn, h⟩
  obtain ⟨d, rd, sh⟩ := one_read ho (by omega)
  have inn : anyIn (.str d.shown) [.str z, .str d.shown] = true := by
    unfold anyIn
    simp only [List.any_cons, List.any_nil, eqSelf, Bool.true_or, Bool.or_true]
  have kx0 : KeptX o M M := fun _ _ _ => rfl
  trivial
  have same : KeptX o M M → spSame [o, o] M P R := fun _ => ⟨q, n, o, rfl, ho, by omega, fun M' k1 k2 => h M' (n + 1) (by omega) k1 k2⟩
  refine ifB (fun e => ?_) fun e => ifB (fun e2 => ?_) fun e2 => ifB (fun e3 => ?_) fun e3 => ?_
  · have ep : p = 19 := by
      have := of_decide_eq_true e
      omega
    subst ep
    cases hr'
    refine g_fld hx ⟨⟨_, T.e_NoRow⟩, T.f_NoRow_at⟩ rfl rfl (wReprOf rd sh (wReprOf rd sh ?_))
    refine onO_mk rfl ⟨rfl, rfl, ?_⟩
    rw [inn]
    exact h M n (by omega) kx0 ho
  · have ep : p = 20 := by
      have := of_decide_eq_true e2
      omega
    subst ep
    cases hr'
    refine g_fld hx ⟨⟨_, T.e_TooMany⟩, T.f_TooMany_many⟩ rfl rfl (wReprOf rd sh (wReprOf rd sh ?_))
    refine onO_mk rfl ⟨rfl, rfl, ?_⟩
    rw [inn]
    exact h M n (by omega) kx0 ho
  · exact h M n (by omega) kx0 ho
  · have n1 := of_decide_eq_false e
    have n2 := of_decide_eq_false e2
    have n3 := of_decide_eq_false e3
    obtain ⟨r', hr2, xf, lk⟩ := fnd_at T o p hp (by omega) (by omega) (by omega)
    cases hr'.symm.trans hr2
    refine ifB (fun e4 => ?_) fun e4 => g_fld hx xf lk rfl (same kx0)
    have ep : p = 23 := by
      have := of_decide_eq_true e4
      omega
    subst ep
    cases hr'
    refine g_fld hx ⟨⟨_, T.e_Fault⟩, T.f_Fault_why⟩ rfl rfl (onO_mk rfl ⟨shS (by decide +kernel), shS (by decide +kernel), ifF (by rw [eqSelf]; rfl) ?_⟩)
    exact g_fld hx xf lk rfl (same kx0)
def spTaken (K : PySem.W.Frag) : DSp := fun xs M P _ => ∃ (p : Nat) (x : AV) (j : Nat) (c : Str) (fs : List (Str × AV)), xs = [x, .dat (.int (p : Nat))] ∧ clsN[j]? = some c ∧ ExAt K M x c fs ∧ wb j (if p < 21 then 0 else if p < 23 then 1 else 2) = true ∧ P (.dat (.bool true)) M
theorem ok__law_taken (T : Facts K mg w) : GOk P w K mg base CX0 1 "_law_taken" ["e", "place"] (spTaken K) := by
  obtain ⟨f, fd, D⟩ := T.d__law_taken
  refine gok_of D sc__law_taken ?_ fun cdv A out s H E hr hgd => ?_
  · rintro xs M P R ⟨p, x, j, c, fs, rfl, h⟩
    rfl
  have hu := Room.units hr
  have hu66 : (A.deeper (envOfC "_law_taken" (defScope s__law_taken) s.heap.objs.size f cdv)).units + 66 < cLine := by
    have := hr.un
    omega
  refine ⟨_, (dss_noX (dss_one (ds_try rfl rfl takes_none5 (fun W pn xe tk po => (dss_cons (ds_if (dt_cmp do_lt (de_var (pv 1)) de_int (by rfl))
      (dss_one (ds_raise0 rfl tk T.b_InnerError (by rfl) T.g_InnerError (da_cons de_str da_nil)))
      dss_nil)
    (dss_cons (ds_if (dt_cmp do_lt (de_var (pv 1)) de_int (by rfl))
      (dss_one (ds_raise0 rfl tk T.b_Missing (by rfl) T.g_Missing (da_cons de_str da_nil)))
      dss_nil)
    (dss_one (ds_raise0 rfl tk T.b_Barred (by rfl) T.g_Barred (da_cons de_str da_nil))))))
      (DHds.cons (nm_cls T.g_InnerError (by rfl)) (fun _ _ => (dss_one (ds_ret (de_isXoK (K := K) (by rfl) T.m_isinstance (by rfl) T.g_InnerError (de_var (pv 0))))))
      (DHds.cons (nm_cls T.g_Missing (by rfl)) (fun _ _ => (dss_one (ds_ret (de_isXoK (K := K) (by rfl) T.m_isinstance (by rfl) T.g_Missing (de_var (pv 0))))))
      (DHds.cons (nm_cls T.g_Barred (by rfl)) (fun _ _ => (dss_one (ds_ret (de_isXoK (K := K) (by rfl) T.m_isinstance (by rfl) T.g_Barred (de_var (pv 0))))))
      DHds.nil)))))), ?_⟩
  rintro xs M P R ⟨p, x, j, c, fs, rfl, hj, hx, hw, h⟩
  have te := ec_all T c (List.mem_of_getElem? hj)
  have k01 : PySem.W.exmOne K (.ref (ca K "Missing")) (.ref (ca K "InnerError")) = some false := exm_not T.e_InnerError ((kit_at' T (j := 1) (i := 0) rfl rfl).trans (by decide +kernel))
  have k02 : PySem.W.exmOne K (.ref (ca K "Barred")) (.ref (ca K "InnerError")) = some false := exm_not T.e_InnerError ((kit_at' T (j := 2) (i := 0) rfl rfl).trans (by decide +kernel))
  have k12 : PySem.W.exmOne K (.ref (ca K "Barred")) (.ref (ca K "Missing")) = some false := exm_not T.e_Missing ((kit_at' T (j := 2) (i := 1) rfl rfl).trans (by decide +kernel))
  unfold wNoX wTry wRaise0
  trivial
  refine ifB (fun e => ?_) fun e => ifB (fun e2 => ?_) fun e2 => ?_
  · have ep : p < 21 := by
      have := of_decide_eq_true e
      omega
    rw [if_pos ep] at hw
    refine ⟨by omega, onO_mk (exm_self T.e_InnerError) (ifT rfl ?_)⟩
    rw [← hw] at h
    exact g_isx hx te (kit_at' T hj (i := 0) rfl) rfl h
  · have ep : ¬ p < 21 := by
      have := of_decide_eq_false e
      omega
    have ep2 : p < 23 := by
      have := of_decide_eq_true e2
      omega
    rw [if_neg ep, if_pos ep2] at hw
    rw [← hw] at h
    exact ⟨by omega, onO_mk k01 (ifF rfl (onO_mk (exm_self T.e_Missing) (ifT rfl (g_isx hx te (kit_at' T hj (i := 1) rfl) rfl h))))⟩
  · have ep : ¬ p < 21 := by
      have := of_decide_eq_false e
      omega
    have ep2 : ¬ p < 23 := by
      have := of_decide_eq_false e2
      omega
    rw [if_neg ep, if_neg ep2] at hw
    rw [← hw] at h
    exact ⟨by omega, onO_mk k02 (ifF rfl (onO_mk k12 (ifF rfl (onO_mk (exm_self T.e_Barred) (ifT rfl (g_isx hx te (kit_at' T hj (i := 2) rfl) rfl h))))))⟩

end
end K13
end
section
set_option Elab.async false
set_option linter.all false
set_option maxRecDepth 100000
set_option maxHeartbeats 400000
namespace K13
open PySem PySem.Spec L2 DL DX
open PyProof.Rows hiding St
local macro_rules | `(tactic| trivial) => `(tactic| simp only [DL.wSeq, DL.wNext, DL.wRet, DL.wDrop, DL.wIf, DL.wSet, DL.wC, DL.wVar, DL.wOp, DL.wAnd, DL.wOr, DL.wNot, DL.wB, DL.wAndV, DL.wOrV, DL.wNotV, DL.wIfE, DL.wChain, DL.wIsi, DL.wUn, DL.wLen, DL.wCall, DL.wNil, DL.wCons, DL.wTup, DL.wLst, DL.wLstM, DL.wNeg, DL.isT, String.reduceBEq, Bool.or_false, Bool.false_or, Bool.or_true, Bool.true_or, Bool.or_self, Bool.and_self, DL.wGt, DL.wGe, DL.dstart, List.map_cons, List.map_nil, List.length_cons, List.length_nil, List.cons_append, List.nil_append, List.getElem?_cons_zero, List.getElem?_cons_succ, Option.some.injEq, exists_eq_left', exists_eq_left, List.set_cons_zero, List.set_cons_succ, decide_true, decide_false, Bool.true_and, Bool.and_true, Bool.false_and, Bool.and_false, true_and, Bool.not_true, Bool.not_false, if_true, if_false, reduceIte, Bool.false_eq_true, bne_self_eq_false, DL.bne_f, DL.bne_t, List.getElem?_nil, Nat.reduceAdd, Nat.reduceSub, List.replicate_succ, List.replicate_zero, DL.q_onO, DL.q_onO0, DL.q_onB, DL.q_onI, DL.q_onS, DL.q_onL, DL.q_ty, DL.q_tyT, DL.q_ty0, DL.q_ty1, DL.q_ty2, DL.q_ty3, DL.q_ty4, DL.q_ty5, DL.q_ty6, DL.q_lenT, DL.q_lenL, DL.q_lenS, DL.q_ixT, DL.q_ixL, DL.q_ixA, DL.q_leI, DL.q_leS, DL.q_ltI, DL.q_ltS, DL.q_I0, DL.q_II, DL.q_sub, DL.q_addI, DL.q_addS, DL.q_addT, DL.q_addL, DL.q_mulI, DL.q_mulS, DL.q_none, DL.q_noneR, DL.q_is, DL.q_isB, DL.q_inT, DL.q_inL, DL.q_inS, DL.q_inM, DL.q_eq, DL.q_rd, DL.q_ord, DL.q_ix, DL.q_tup, DL.q_tup0, DL.q_tup1, DL.q_tup2, DL.q_tup3, DL.q_eqI, DL.q_eqS, DL.q_shI, DL.q_flI, DL.q_flS, DL.q_flN, DL.q_flB, DL.q_at0, DL.q_at1, DL.q_at2, DL.q_partsT, DL.iT, DL.iS, DL.iL, DL.wAsg, DL.q_star, DL.q_gN, DL.wInTab, DL.wTab, DL.q_onDs, DL.q_dats0, DL.q_datsc, DL.q_sz0, DL.q_sz1, DL.q_sz2, DL.q_sz3, DL.q_sz4, DL.q_sz5, DL.q_sz6, DL.q_sz7, DL.q_sz11, DL.q_sz12, DL.q_keyS, DL.q_getD, DL.q_dct, DL.wInD, DL.wIxD, DL.q_ixU, DL.q_onMU, DL.q_lenU, DL.q_um, DL.q_n30, DL.q_n31, DL.q_n32, DL.q_max, DL.gIx, DL.q_map, DL.q_all0, DL.q_allc])
section
variable {P : Program} {w : World} {K : PySem.W.Frag} {mg : Str → Option Value} {base : Heap} {k : Nat}
theorem g_mkK1 {c f : Str} {i : Nat} {o : AV} {δ : DSt} {M : Mp} {P : DK} {R : DXK} (hw : δ[i]? = some (some o)) (k : ∀ a M', Kept M M' → M a = none → ExAt K M' (.ref a) c [(f, o)] → P (.ref a) M') : wMkK (ca K c) (spX1 K c f) [0] 1 (wCons (wVar i) wNil) δ M P R :=
  ⟨o, hw, rfl, fun a ha => ⟨a, o, rfl, um_same, fun dx _ _ => ⟨rfl, by
    rw [um_um]
    exact k a _ ((Kept.refl (M := M)).new ha).1 ha ⟨a, rfl, .inr ⟨dx, um_same⟩⟩⟩⟩⟩
theorem g_mkK2 {c f f2 : Str} {i j : Nat} {o u : AV} {δ : DSt} {M : Mp} {P : DK} {R : DXK} (hw : δ[i]? = some (some o)) (hu : δ[j]? = some (some u)) (k : ∀ a M', Kept M M' → M a = none → ExAt K M' (.ref a) c [(f2, o), (f, u)] → P (.ref a) M') : wMkK (ca K c) (spX2 K c f f2) [1, 0] 2 (wCons (wVar i) (wCons (wVar j) wNil)) δ M P R :=
  ⟨o, hw, u, hu, rfl, fun a ha => ⟨a, u, o, rfl, um_same, fun dx _ _ => ⟨rfl, by
    rw [um_um]
    exact k a _ ((Kept.refl (M := M)).new ha).1 ha ⟨a, rfl, .inr ⟨dx, um_same⟩⟩⟩⟩⟩
theorem g_fldK1 {c f : Str} {i : Nat} {o : AV} {δ : DSt} {M : Mp} {P : DK} {R : DXK} (hw : δ[i]? = some (some o)) (xf : XF K f (ca K c)) (k : ∀ M', Kept M M' → P o M') : wFld K f (wMkK (ca K c) (spX1 K c f) [0] 1 (wCons (wVar i) wNil)) δ M P R := by
  unfold wFld
  exact g_mkK1 hw fun a M' k1 _ e => e.on fun _ _ => ⟨xf, onO_mk (by simp [List.lookup]) (k M' k1)⟩
theorem ex_ne_one {q : Addr} {n : Nat} {M : Mp} {x o : AV} {c : Str} {fs : List (Str × AV)} (h : ExAt K M x c fs) (ho : One q n M o) : ∀ b, x = .ref b → o ≠ .ref b := fun b e e2 => by
  obtain ⟨a, e3, h⟩ := h
  rw [e] at e3
  cases e3
  subst e2
  cases ho with
  | lst hM _ _ _ _ => rcases h with ⟨h, _⟩ | ⟨dx, h⟩ <;> rw [hM] at h <;> cases h
  | dct hM _ _ => rcases h with ⟨h, _⟩ | ⟨dx, h⟩ <;> rw [hM] at h <;> cases h
theorem ExAt.keptX {q : Addr} {n : Nat} {M M' : Mp} {x o : AV} {c : Str} {fs : List (Str × AV)} (h : ExAt K M x c fs) (ho : One q n M o) (k : KeptX o M M') : ExAt K M' x c fs := h.keep fun b e z => k b (ex_ne_one h ho b e) z
theorem Kept.X {o : AV} {M M' : Mp} (h : Kept M M') : KeptX o M M' := fun b _ z => h b z
theorem KeptX.trans {o : AV} {M M' M2 : Mp} (h : KeptX o M M') (h2 : KeptX o M' M2) : KeptX o M M2 := fun b h1 h3 => by
  have e := h b h1 h3
  rw [h2 b h1 (by rw [e]; exact h3), e]
theorem one_kept {q : Addr} {n : Nat} {M M' : Mp} {x : AV} (h : One q n M x) (k : Kept M M') : One q n M' x := one_keep h fun b _ z => k b z
def spByN : DSp := fun xs M P _ => ∃ (q : Addr) (n : Nat) (o u : AV), xs = [o, u] ∧ One q n M o ∧ n ≤ 50 ∧ Any0 M u ∧ (∀ b, u = .ref b → o ≠ .ref b) ∧ ∀ M', P (.dat (.bool true)) M'
/-- tests of a comprehension that never hold -/
theorem lcGo_none {G : Mp → Prop} {st : AV → DSt → Option DSt} {tt : DTT} {te : DTE} {δ : DSt} {D : Addr} {fin : List AV → Mp → Prop} (I : Nat → Mp → Prop) (hG : ∀ n M, I n M → G M) (hD : ∀ n M, I n M → M D = some (.lst [])) :
    ∀ (l : List AV) (n : Nat) (M : Mp), I n M → (∀ a ∈ l, ∃ f, st a δ = some f ∧ ∀ (k : Nat) (M : Mp) (P : Bool → Mp → Prop), k < n + l.length → I k M → (∀ M', I (k + 1) M' → P false M') → tt f M P fun _ _ _ => False) → (∀ M', I (n + l.length) M' → fin [] M') → lcGo G st tt te δ D fin l [] M
  | [], n, M, h, _, hf => ⟨hG _ _ h, hf M h⟩
  | a :: l, n, M, h, hx, hf => by
    obtain ⟨f, e, ht⟩ := hx a List.mem_cons_self
    refine ⟨hG _ _ h, onO_mk e ?_⟩
    refine ht n M _ (by simp) h fun M' h' => ?_
    rw [if_neg Bool.false_ne_true]
    exact ⟨hD _ _ h', lcGo_none I hG hD l (n + 1) M' h' (fun b hb => by
      obtain ⟨f', e', ht'⟩ := hx b (List.mem_cons_of_mem a hb)
      exact ⟨f', e', fun k M P hk => ht' k M P (by rw [List.length_cons]; omega)⟩) fun M2 h2 => hf M2 (by rw [List.length_cons, show n + (l.length + 1) = n + 1 + l.length by omega]; exact h2)⟩
theorem one_there {q : Addr} {n : Nat} {M : Mp} {x : AV} (h : One q n M x) : ∀ b, x = .ref b → M b ≠ none := fun b e => by
  subst e
  cases h with
  | lst hM _ _ _ _ => rw [hM]; exact fun z => nomatch z
  | dct hM _ _ => rw [hM]; exact fun z => nomatch z
theorem ok__law_by_names_right (T : Facts K mg w) : GOk P w K mg base CX0 3 "_law_by_names_right" ["one", "other"] spByN := by
  have G__law_same := (ok__law_same (P := P) (base := base) T).mono (k := 2) (by omega)
  obtain ⟨f, fd, D⟩ := T.d__law_by_names_right
  refine gok_of D sc__law_by_names_right ?_ fun cdv A out s H E hr hgd => ?_
  · rintro xs M P R ⟨q, n, o, u, rfl, h⟩
    rfl
  have hu := Room.units hr
  have hu66 : (A.deeper (envOfC "_law_by_names_right" (defScope s__law_by_names_right) s.heap.objs.size f cdv)).units + 66 < cLine := by
    have := hr.un
    omega
  refine ⟨_, (dss_cons (ds_setP (ps_set (i := 2) sc__law_by_names_right.nd rfl (Or.inl rfl) (de_lstM (da_cons (de_mkK (ks := ["found"]) (ix := [0]) (X_NoName T) (hr.mono (by omega)) hgd pat0 (by rfl) T.g_NoName (by simp) (dk_cons (de_var (pv 0)) dk_nil)) (da_cons (de_mkK (ks := ["found"]) (ix := [0]) (X_NoWorth T) (hr.mono (by omega)) hgd pat0 (by rfl) T.g_NoWorth (by simp) (dk_cons (de_var (pv 0)) dk_nil)) (da_cons (de_mkK (ks := ["found"]) (ix := [0]) (X_NoThing T) (hr.mono (by omega)) hgd pat0 (by rfl) T.g_NoThing (by simp) (dk_cons (de_var (pv 0)) dk_nil)) (da_cons (de_mkK (ks := ["found"]) (ix := [0]) (X_Ended T) (hr.mono (by omega)) hgd pat0 (by rfl) T.g_Ended (by simp) (dk_cons (de_var (pv 0)) dk_nil)) (da_cons (de_mkK (ks := ["found"]) (ix := [0]) (X_NotThere T) (hr.mono (by omega)) hgd pat0 (by rfl) T.g_NotThere (by simp) (dk_cons (de_var (pv 0)) dk_nil)) da_nil))))))))
    (dss_cons (ds_if (dt_cmp (do_neM hu) (de_lcM (own := [("e", 4)]) rfl sc__law_by_names_right.nd (di_M (de_var (pv 2))) (blkOk_by (own := [("e", 4)]) (N := N__law_by_names_right) (sc := defScope s__law_by_names_right) (by decide +kernel)) (ct_name (i := 4)) (fun _ _ _ _ _ => pg_name (i := 4) sc__law_by_names_right.nd rfl (Or.inl rfl)) (fun _ _ _ _ _ => pts_one (dt_not (dt_val (de_call G__law_same (hr.mono (by omega)) hgd (by rfl) pat0 (da_cons (de_fldK (K := K) (de_var (pv 4))) (da_cons (de_var (pv 0)) da_nil)))))) (fun _ _ _ _ _ => de_int)) (de_lst da_nil) (by rfl))
      (dss_one (ds_ret de_bl))
      dss_nil)
    (dss_cons (ds_setP (ps_set (i := 3) sc__law_by_names_right.nd rfl (Or.inl rfl) (de_mkK (ks := ["found", "why"]) (ix := [1, 0]) (X_Fault T) (hr.mono (by omega)) hgd pat0 (by rfl) T.g_Fault (by simp) (dk_cons (de_var (pv 0)) (dk_cons (de_var (pv 1)) dk_nil)))))
    (dss_cons (ds_if (dt_bool (dw_or (dt_cmp (do_neM hu) (de_b1 (c_repr T.sys hgd hu66) (by rfl) T.m_repr boot_repr' (de_fldK (K := K) (de_var (pv 3)))) (de_b1 (c_repr T.sys hgd hu66) (by rfl) T.m_repr boot_repr' (de_var (pv 1))) (by rfl)) (dw_or1 (dt_not (dt_val (de_call G__law_same (hr.mono (by omega)) hgd (by rfl) pat0 (da_cons (de_fldK (K := K) (de_var (pv 3))) (da_cons (de_var (pv 0)) da_nil))))))))
      (dss_one (ds_ret de_bl))
      dss_nil)
    (dss_one (ds_ret (de_and (de_cmp (do_eqM hu) (de_b1 (c_repr T.sys hgd hu66) (by rfl) T.m_repr boot_repr' (de_fldK (K := K) (de_mkK (ks := ["many"]) (ix := [0]) (X_TooMany T) (hr.mono (by omega)) hgd pat0 (by rfl) T.g_TooMany (by simp) (dk_cons (de_var (pv 0)) dk_nil)))) (de_b1 (c_repr T.sys hgd hu66) (by rfl) T.m_repr boot_repr' (de_var (pv 0))) (by rfl)) (de_one (de_cmp (do_eqM hu) (de_b1 (c_repr T.sys hgd hu66) (by rfl) T.m_repr boot_repr' (de_fldK (K := K) (de_mkK (ks := ["at"]) (ix := [0]) (X_NoRow T) (hr.mono (by omega)) hgd pat0 (by rfl) T.g_NoRow (by simp) (dk_cons (de_var (pv 0)) dk_nil)))) (de_b1 (c_repr T.sys hgd hu66) (by rfl) T.m_repr boot_repr' (de_var (pv 0))) (by rfl)))))))))), ?_⟩
  rintro xs M P R ⟨q, n, o, u, rfl, ho, hn, hu0, hne, h⟩
  trivial
  refine g_mkK1 rfl fun a1 M1 k1 n1 e1 => g_mkK1 rfl fun a2 M2 k2 n2 e2 => g_mkK1 rfl fun a3 M3 k3 n3 e3 => g_mkK1 rfl fun a4 M4 k4 n4 e4 => g_mkK1 rfl fun a5 M5 k5 n5 e5 => ?_
  intro L fL
  have k5' := (((k1.trans k2).trans k3).trans k4).trans k5
  have oL : o ≠ .ref L := fun e => one_there (one_kept ho k5') L e fL
  have kL := ((Kept.refl (M := M5)).new (o := .lst [.ref a1, .ref a2, .ref a3, .ref a4, .ref a5]) fL)
  have E : ∀ x ∈ [AV.ref a1, .ref a2, .ref a3, .ref a4, .ref a5], ∃ c, ExAt K (um M5 L (.lst [.ref a1, .ref a2, .ref a3, .ref a4, .ref a5])) x c [("found", o)] ∧ XF K "found" (ca K c) := by
    intro x hx
    simp only [List.mem_cons, List.not_mem_nil, or_false] at hx
    rcases hx with rfl | rfl | rfl | rfl | rfl
    · exact ⟨_, ((((e1.kept k2).kept k3).kept k4).kept k5).kept kL.1, ⟨⟨_, T.e_NoName⟩, T.f_NoName_found⟩⟩
    · exact ⟨_, (((e2.kept k3).kept k4).kept k5).kept kL.1, ⟨⟨_, T.e_NoWorth⟩, T.f_NoWorth_found⟩⟩
    · exact ⟨_, ((e3.kept k4).kept k5).kept kL.1, ⟨⟨_, T.e_NoThing⟩, T.f_NoThing_found⟩⟩
    · exact ⟨_, (e4.kept k5).kept kL.1, ⟨⟨_, T.e_Ended⟩, T.f_Ended_found⟩⟩
    · exact ⟨_, e5.kept kL.1, ⟨⟨_, T.e_NotThere⟩, T.f_NotThere_found⟩⟩
  have kk := k5'.trans kL.1
  have mL := kL.2.1
  clear kL e1 e2 e3 e4 e5 k1 k2 k3 k4 k5 k5'
  generalize um M5 L _ = M6 at E kk mL ⊢
  have ho6 := one_kept ho kk
  have hu6 := hu0.keep fun b _ z => kk b z
  unfold wLcM iM
  refine ⟨_, rfl, onM_mk mL fun D hD => ?_⟩
  have oD : o ≠ .ref D := fun e => one_there ho6 D e hD
  have kD := ((Kept.refl (M := M6)).new (o := .lst []) hD)
  have LD : L ≠ D := fun e => by
    rw [e, hD] at mL
    cases mL
  refine lcGo_none (fun k M' => ∃ m, m ≤ n + k ∧ One q m M' o ∧ KeptX o M6 M' ∧ M' D = some (.lst [])) (fun k M' ⟨m, _, _, kx, _⟩ => (kx L oL (by rw [mL]; exact fun z => nomatch z)).trans mL) (fun k M' ⟨m, _, _, _, hd⟩ => hd) _ 0 _ ⟨n, by omega, one_kept ho6 kD.1, kD.1.X, um_same⟩ (fun x hx => ⟨_, rfl, fun k M' P' hk ⟨m, hm, om, kx, hd⟩ hP => ?_⟩) ?_
  · obtain ⟨c, ex, xf⟩ := E x hx
    have ex' := ex.keptX ho6 kx
    simp only [List.length_cons, List.length_nil] at hk
    trivial
    refine g_fld ex' xf rfl rfl ⟨q, m, o, rfl, om, by omega, fun M2 kx2 om2 => ?_⟩
    exact hP M2 ⟨m + 1, by omega, om2, kx.trans kx2, (kx2 D oD (by rw [hd]; exact fun z => nomatch z)).trans hd⟩
  · rintro M7 ⟨m, hm, om, kx, hd⟩
    simp only [List.length_cons, List.length_nil] at hm
    have hu7 := hu6.keep (M' := M7) fun b e z => kx b (hne b e) z
    obtain ⟨du, su, ru⟩ := hu7.read
    have shu := su.shows (by omega) (by omega)
    have rfD : rdF M7 (.ref D) = some (.list []) := by
      simp only [rdF, hd]
      rfl
    refine onO_mk rfD ⟨shL0, shL0, ifF rfl ?_⟩
    refine g_mkK2 rfl rfl fun a6 M8 k8 n8 e8 => ?_
    refine g_fld e8 ⟨⟨_, T.e_Fault⟩, T.f_Fault_why⟩ rfl rfl ?_
    have r8 := ru M8 fun b _ z => k8 b z
    refine wReprOf r8 shu (wReprOf r8 shu (onO_mk rfl (onO_mk rfl ⟨shS shu.2.2.2, shS shu.2.2.2, ifF (by rw [eqSelf]; rfl) ?_⟩)))
    refine g_fld e8 ⟨⟨_, T.e_Fault⟩, T.f_Fault_found⟩ rfl rfl ⟨q, m, o, rfl, one_kept om k8, by omega, fun M9 k9 o9 => ?_⟩
    obtain ⟨d9, r9, s9⟩ := one_read o9 (by omega)
    refine onB_mk (b := true) rfl ?_
    refine ifF rfl ?_
    refine g_fldK1 rfl ⟨⟨_, T.e_TooMany⟩, T.f_TooMany_many⟩ fun M10 k10 => ?_
    obtain ⟨d10, r10, s10⟩ := one_read (one_kept o9 k10) (by omega)
    refine wReprOf r10 s10 (wReprOf r10 s10 (onO_mk rfl (onO_mk rfl ⟨shS s10.2.2.2, shS s10.2.2.2, ifT (eqSelf _) (g_fldK1 rfl ⟨⟨_, T.e_NoRow⟩, T.f_NoRow_at⟩ fun M11 k11 => ?_)⟩)))
    obtain ⟨d11, r11, s11⟩ := one_read (one_kept (one_kept o9 k10) k11) (by omega)
    refine wReprOf r11 s11 (wReprOf r11 s11 (onO_mk rfl (onO_mk rfl ⟨shS s11.2.2.2, shS s11.2.2.2, ?_⟩)))
    rw [eqSelf]
    exact h M11

end
end K13
end
section
set_option Elab.async false
set_option linter.all false
set_option maxRecDepth 100000
set_option maxHeartbeats 400000
namespace K13
open PySem PySem.Spec L2 DL DX
open PyProof.Rows hiding St
local macro_rules | `(tactic| trivial) => `(tactic| simp only [DL.wSeq, DL.wNext, DL.wRet, DL.wDrop, DL.wIf, DL.wSet, DL.wC, DL.wVar, DL.wOp, DL.wAnd, DL.wOr, DL.wNot, DL.wB, DL.wAndV, DL.wOrV, DL.wNotV, DL.wIfE, DL.wChain, DL.wIsi, DL.wUn, DL.wLen, DL.wCall, DL.wNil, DL.wCons, DL.wTup, DL.wLst, DL.wLstM, DL.wNeg, DL.isT, String.reduceBEq, Bool.or_false, Bool.false_or, Bool.or_true, Bool.true_or, Bool.or_self, Bool.and_self, DL.wGt, DL.wGe, DL.dstart, List.map_cons, List.map_nil, List.length_cons, List.length_nil, List.cons_append, List.nil_append, List.getElem?_cons_zero, List.getElem?_cons_succ, Option.some.injEq, exists_eq_left', exists_eq_left, List.set_cons_zero, List.set_cons_succ, decide_true, decide_false, Bool.true_and, Bool.and_true, Bool.false_and, Bool.and_false, true_and, Bool.not_true, Bool.not_false, if_true, if_false, reduceIte, Bool.false_eq_true, bne_self_eq_false, DL.bne_f, DL.bne_t, List.getElem?_nil, Nat.reduceAdd, Nat.reduceSub, List.replicate_succ, List.replicate_zero, DL.q_onO, DL.q_onO0, DL.q_onB, DL.q_onI, DL.q_onS, DL.q_onL, DL.q_ty, DL.q_tyT, DL.q_ty0, DL.q_ty1, DL.q_ty2, DL.q_ty3, DL.q_ty4, DL.q_ty5, DL.q_ty6, DL.q_lenT, DL.q_lenL, DL.q_lenS, DL.q_ixT, DL.q_ixL, DL.q_ixA, DL.q_leI, DL.q_leS, DL.q_ltI, DL.q_ltS, DL.q_I0, DL.q_II, DL.q_sub, DL.q_addI, DL.q_addS, DL.q_addT, DL.q_addL, DL.q_mulI, DL.q_mulS, DL.q_none, DL.q_noneR, DL.q_is, DL.q_isB, DL.q_inT, DL.q_inL, DL.q_inS, DL.q_inM, DL.q_eq, DL.q_rd, DL.q_ord, DL.q_ix, DL.q_tup, DL.q_tup0, DL.q_tup1, DL.q_tup2, DL.q_tup3, DL.q_eqI, DL.q_eqS, DL.q_shI, DL.q_flI, DL.q_flS, DL.q_flN, DL.q_flB, DL.q_at0, DL.q_at1, DL.q_at2, DL.q_partsT, DL.iT, DL.iS, DL.iL, DL.wAsg, DL.q_star, DL.q_gN, DL.wInTab, DL.wTab, DL.q_onDs, DL.q_dats0, DL.q_datsc, DL.q_sz0, DL.q_sz1, DL.q_sz2, DL.q_sz3, DL.q_sz4, DL.q_sz5, DL.q_sz6, DL.q_sz7, DL.q_sz11, DL.q_sz12, DL.q_keyS, DL.q_getD, DL.q_dct, DL.wInD, DL.wIxD, DL.q_ixU, DL.q_onMU, DL.q_lenU, DL.q_um, DL.q_n30, DL.q_n31, DL.q_n32, DL.q_max, DL.gIx, DL.q_map, DL.q_all0, DL.q_allc])
section
variable {P : Program} {w : World} {K : PySem.W.Frag} {mg : Str → Option Value} {base : Heap} {k : Nat}
theorem any_one_int {q : Addr} {M : Mp} {r : Int} (h0 : 0 ≤ r) (h1 : r < 1000000000000000000000000000000) : One q 0 M (.dat (.int r)) := by
  have e : (PyData.shown (.int r)).length ≤ 31 := by
    show (Str.ofString (toString r)).length ≤ 31
    rw [PySem.ofString_length]
    exact int_text_length_le10 (k := 30) (by decide) (by have : (10 : Nat) ^ 30 = 1000000000000000000000000000000 := by decide
                                                         omega)
  refine .dat ⟨?_, ?_, by simp only [okD], by simp [PyData.depth], by simp [PyData.bulk]⟩ (by simp [tyD]) (by simp [tyD])
  · simp only [PyData.showable]
    refine decide_eq_true ?_
    by_cases hz : r.natAbs = 0
    · rw [hz]
      decide
    · have e2 : r.natAbs < 2 ^ 100 := by
        have : (2 : Nat) ^ 100 = 1267650600228229401496703205376 := by decide
        omega
      have := (Nat.log2_lt hz).mpr e2
      omega
  · simp only [PyData.leavesShort]
    exact decide_eq_true (by omega)
theorem one_nest {q D : Addr} {M : Mp} {x : AV} (hM : M D = some (.lst [x])) (hD : D ≠ q) (hx : Any0 M x) (h1 : ∀ b, x = .ref b → b ≠ q ∧ b ≠ D) : One q 0 M (.ref D) := by
  obtain ⟨d, sd, rd⟩ := hx.read
  exact .lst (ys := [x]) (ds := [d]) (by rw [hM]; rfl) hD (fun M' s => .cons (rd M' fun b e z => s b (h1 b e).2 (h1 b e).1 z) .nil) (by simp) fun d' hd => by
    rw [List.mem_singleton.mp hd]
    exact sd
theorem forGo_I {G : Mp → Prop} {g : DTG} {b : DTS} {E : DEnds} (I : Nat → DSt → Mp → Prop) (hG : ∀ j δ M, I j δ M → G M) :
    ∀ (l : List AV) (i : Nat) (δ : DSt) (M : Mp), I i δ M → (∀ j x, l[j]? = some x → ∀ (δ : DSt) (M : Mp) (E' : DEnds), I (i + j) δ M → E'.rt = E.rt → E'.xp = E.xp → (∀ δ' M', I (i + j + 1) δ' M' → E'.nx δ' M') → g x δ M (fun δ1 M1 => b E' δ1 M1) fun c fs M1 => E.xp c fs δ M1) →
      (∀ δ M, I (i + l.length) δ M → E.nx δ M) → forGo G g b E l δ M
  | [], i, δ, M, h, _, hn => ⟨hG _ _ _ h, hn δ M h⟩
  | a :: l, i, δ, M, h, hs, hn => by
    refine ⟨hG _ _ _ h, ?_⟩
    refine hs 0 a rfl δ M { nx := forGo G g b E l, rt := E.rt, bk := E.nx, ct := forGo G g b E l, xp := E.xp } h rfl rfl fun δ' M' h' => ?_
    exact forGo_I I hG l (i + 1) δ' M' h' (fun j x hj δ M E' hI => by
      have := hs (j + 1) x (by simpa using hj) δ M E' (by rw [show i + (j + 1) = i + 1 + j by omega]; exact hI)
      rw [show i + (j + 1) + 1 = i + 1 + j + 1 by omega] at this
      exact this) fun δ M h => hn δ M (by
      rw [List.length_cons, show i + (l.length + 1) = i + 1 + l.length by omega]
      exact h)
theorem Exs.len {M : Mp} {o : AV} : ∀ {xs : List AV} {rs : List MRow}, Exs K M o xs rs → xs.length = rs.length
  | _, _, .nil => rfl
  | _, _, .cons _ t => congrArg (· + 1) t.len
theorem Exs.at_ {M : Mp} {o : AV} : ∀ {xs : List AV} {rs : List MRow} {j : Nat} {x : AV}, Exs K M o xs rs → xs[j]? = some x → ∃ r, rs[j]? = some r ∧ ExAt K M x r.1 (r.2 o)
  | _, _, _, _, .nil, e => by simp at e
  | _, _, 0, _, .cons h _, e => by
    simp at e
    subst e
    exact ⟨_, rfl, h⟩
  | _, _, j + 1, _, .cons _ t, e => by
    obtain ⟨r, h1, h2⟩ := t.at_ (j := j) (by simpa using e)
    exact ⟨r, by simpa using h1, h2⟩
theorem eqBs (bs : List Bool) : PyData.eqv (.list (bs.map .bool)) (.list (bs.map .bool)) = true := by
  have : ∀ bs : List Bool, PyData.eqvAll (bs.map .bool) (bs.map .bool) = true := fun bs => by
    induction bs with
    | nil => rfl
    | cons b r ih => simp only [List.map_cons, PyData.eqvAll, ih, Bool.and_true]; cases b <;> rfl
  simpa only [PyData.eqv] using this bs
theorem shBs (bs : List Bool) : SeqAt.shaped (.list (bs.map .bool)) = true := shL fun p hp => by
  obtain ⟨b, _, rfl⟩ := List.mem_map.mp hp
  exact ⟨by simp only [PyData.canLay0], by simp [PyData.depth]⟩
theorem marks_ok : ∀ p : Fin 26, (ixF ++ ixL).map (wb (clsA.getD p.val 0)) = (List.range 26).map (fun (k : Nat) => decide ((k : Int) = (p.val : Int))) := by decide +kernel
theorem fam_ok : ∀ p : Fin 26, (ixM.map (wb (clsA.getD p.val 0))).map PyData.bool = famL (p.val : Int) := by
  intro p
  have h : ∀ p : Fin 26, ixM.map (wb (clsA.getD p.val 0)) = (if p.val < 21 then [true, false, false, true, false, false] else if p.val < 23 then [false, true, false, false, true, true] else [false, false, true, false, false, true]) := by decide +kernel
  rw [h p]
  unfold famL
  by_cases h1 : p.val < 21
  · rw [if_pos h1, if_pos (by omega : (p.val : Int) < 21)]
    rfl
  · rw [if_neg h1, if_neg (by omega : ¬ (p.val : Int) < 21)]
    by_cases h2 : p.val < 23
    · rw [if_pos h2, if_pos (by omega : (p.val : Int) < 23)]
      rfl
    · rw [if_neg h2, if_neg (by omega : ¬ (p.val : Int) < 23)]
      rfl
theorem take_ok : ∀ p : Fin 26, wb (clsA.getD p.val 0) (if p.val < 21 then 0 else if p.val < 23 then 1 else 2) = true := by decide +kernel
theorem rdF_dats {M : Mp} {D : Addr} {ds : List PyData} (h : M D = some (.lst (ds.map .dat))) : rdF M (.ref D) = some (.list ds) := by
  simp only [rdF, h, datsOf_dats]
  rfl
theorem one_q {q : Addr} {n : Nat} {M : Mp} {x : AV} (h : One q n M x) : x ≠ .ref q := fun e => by
  subst e
  cases h with
  | lst _ ha _ _ _ => exact ha rfl
  | dct _ ha _ => exact ha rfl
theorem PurseB.keptX {M M' : Mp} {q : Addr} {n : Nat} {x : AV} (h : PurseB M q n) (hx : x ≠ .ref q) (k : KeptX x M M') : PurseB M' q n := by
  obtain ⟨a, b, c, h1, h2⟩ := h
  exact ⟨a, b, c, (k q hx (by rw [h1]; exact fun z => nomatch z)).trans h1, h2⟩
theorem g_mkB {C : Addr} {d : PyData} {δ : DSt} {M : Mp} {P : DK} {R : DXK} (k : ∀ a M', Kept M M' → M a = none → M' a = some (.raw C) → P (.ref a) M') : wMk0 C (wCons (wC d) wNil) δ M P R :=
  ⟨by show 1 ≤ 1000; omega, fun a ha => k a _ ((Kept.refl (M := M)).new ha).1 ha um_same⟩
theorem base_marks : ∀ j : Fin 3, anyIn (.bool true) (((ixF ++ ixL).map (wb j.val)).map .bool) = false := by
  have h : ∀ j : Fin 3, (ixF ++ ixL).map (wb j.val) = List.replicate 26 false := by decide +kernel
  intro j
  rw [h j]
  rfl
theorem base_fams : ∀ j : Fin 3, (ixM.map (wb j.val)).map PyData.bool = famL (([0, 21, 23] : List Nat).getD j.val 0 : Nat) := by
  have h : ∀ j : Fin 3, ixM.map (wb j.val) = ([[true, false, false, true, false, false], [false, true, false, false, true, true], [false, false, true, false, false, true]] : List (List Bool)).getD j.val [] := by decide +kernel
  intro j
  rw [h j]
  match j with
  | ⟨0, _⟩ => rfl
  | ⟨1, _⟩ => rfl
  | ⟨2, _⟩ => rfl
theorem all_flat (bs : List Bool) : (bs.map PyData.bool).all flatD = true := by
  rw [List.all_map]
  exact List.all_eq_true.mpr fun _ _ => rfl
def spRight : DSp := fun xs M P _ => ∃ (q : Addr) (n : Nat), xs = [.ref q] ∧ PurseB M q n ∧ n + 10 < 900000 ∧ ∀ M', P (.dat (.bool true)) M'
theorem ok__law_right (T : Facts K mg w) : GOk P w K mg base CX0 5 "_law_right" ["box"] spRight := by
  have G__law_any := (ok__law_any (P := P) (base := base) T).mono (k := 4) (by omega)
  have G__law_take_two := (ok__law_take_two (P := P) (base := base) T).mono (k := 4) (by omega)
  have G__law_made_first := (ok__law_made_first (P := P) (base := base) T).mono (k := 4) (by omega)
  have G__law_made_last := (ok__law_made_last (P := P) (base := base) T).mono (k := 4) (by omega)
  have G__law_marks_first := (ok__law_marks_first (P := P) (base := base) T).mono (k := 4) (by omega)
  have G__law_marks_last := (ok__law_marks_last (P := P) (base := base) T).mono (k := 4) (by omega)
  have G__law_families := (ok__law_families (P := P) (base := base) T).mono (k := 4) (by omega)
  have G__law_family_of := (ok__law_family_of (P := P) (base := base) T).mono (k := 4) (by omega)
  have G__law_taken := (ok__law_taken (P := P) (base := base) T).mono (k := 4) (by omega)
  have G__law_fields_right := (ok__law_fields_right (P := P) (base := base) T).mono (k := 4) (by omega)
  have G__law_by_names_right := (ok__law_by_names_right (P := P) (base := base) T).mono (k := 4) (by omega)
  obtain ⟨f, fd, D⟩ := T.d__law_right
  refine gok_of D sc__law_right ?_ fun cdv A out s H E hr hgd => ?_
  · rintro xs M P R ⟨q, n, rfl, h⟩
    rfl
  have hu := Room.units hr
  have hu66 : (A.deeper (envOfC "_law_right" (defScope s__law_right) s.heap.objs.size f cdv)).units + 66 < cLine := by
    have := hr.un
    omega
  refine ⟨_, (dss_cons (ds_setP (ps_set (i := 1) sc__law_right.nd rfl (Or.inl rfl) (de_ix (de_lstM (da_cons (de_call G__law_any (hr.mono (by omega)) hgd (by rfl) pat0 (da_cons (de_var (pv 0)) da_nil)) (da_cons (de_call G__law_take_two (hr.mono (by omega)) hgd (by rfl) pat0 (da_cons (de_var (pv 0)) (da_cons (de_op do_pow de_int de_int) da_nil))) (da_cons (de_lstM (da_cons (de_call G__law_any (hr.mono (by omega)) hgd (by rfl) pat0 (da_cons (de_var (pv 0)) da_nil)) da_nil)) da_nil)))) (de_call G__law_take_two (hr.mono (by omega)) hgd (by rfl) pat0 (da_cons (de_var (pv 0)) (da_cons de_int da_nil))) (fun _ _ => rfl))))
    (dss_cons (ds_setP (ps_set (i := 2) sc__law_right.nd rfl (Or.inl rfl) (de_b1 (c_repr T.sys hgd hu66) (by rfl) T.m_repr boot_repr' (de_var (pv 1)))))
    (dss_cons (ds_setP (ps_set (i := 3) sc__law_right.nd rfl (Or.inl rfl) (de_op do_add (de_call G__law_made_first (hr.mono (by omega)) hgd (by rfl) pat0 (da_cons (de_var (pv 1)) da_nil)) (de_call G__law_made_last (hr.mono (by omega)) hgd (by rfl) pat0 (da_cons (de_var (pv 1)) da_nil)))))
    (dss_cons (ds_for (passes_of rfl) rfl (di_enumM (by rfl) T.m_enumerate (de_var (pv 3))) (dg_tup rfl (dgs_cons (pg_name (i := 4) sc__law_right.nd rfl (Or.inr rfl)) (dgs_cons (pg_name (i := 5) sc__law_right.nd rfl (Or.inl rfl)) dgs_nil)))
      (dss_cons (ds_setP (ps_set (i := 6) sc__law_right.nd rfl (Or.inl rfl) (de_op do_add (de_call G__law_marks_first (hr.mono (by omega)) hgd (by rfl) pat0 (da_cons (de_var (pv 5)) da_nil)) (de_call G__law_marks_last (hr.mono (by omega)) hgd (by rfl) pat0 (da_cons (de_var (pv 5)) da_nil)))))
    (dss_cons (ds_if (dt_bool (dw_or (dt_cmp (do_neM hu) (de_var (pv 6)) (de_lc (own := [("k", 7)]) rfl sc__law_right.nd (di_R1 (by rfl) T.m_range de_int) (blkOk_by (own := [("k", 7)]) (N := N__law_right) (sc := defScope s__law_right) (by decide +kernel)) (ct_name (i := 7)) (fun _ _ _ _ _ => pg_name (i := 7) sc__law_right.nd rfl (Or.inl rfl)) (fun _ _ _ _ _ => dts_nil) (fun _ _ _ _ _ => (de_cmp (do_eqM hu) (de_var (pv 7)) (de_var (pv 4)) (by rfl)))) (by rfl)) (dw_or1 (dt_cmp (do_neM hu) (de_call G__law_families (hr.mono (by omega)) hgd (by rfl) pat0 (da_cons (de_var (pv 5)) da_nil)) (de_call G__law_family_of (hr.mono (by omega)) hgd (by rfl) pat0 (da_cons (de_var (pv 4)) da_nil)) (by rfl)))))
      (dss_one (ds_ret de_bl))
      dss_nil)
    (dss_one (ds_if (dt_bool (dw_or (dt_not (dt_val (de_call G__law_fields_right (hr.mono (by omega)) hgd (by rfl) pat0 (da_cons (de_var (pv 4)) (da_cons (de_var (pv 5)) (da_cons (de_var (pv 1)) (da_cons (de_var (pv 2)) da_nil))))))) (dw_or1 (dt_not (dt_val (de_call G__law_taken (hr.mono (by omega)) hgd (by rfl) pat0 (da_cons (de_var (pv 5)) (da_cons (de_var (pv 4)) da_nil))))))))
      (dss_one (ds_ret de_bl))
      dss_nil)))))
    (dss_cons (ds_for (passes_of rfl) rfl (di_M (de_lstM (da_cons (de_tup (da_cons de_int (da_cons (de_mk0 T.b_InnerError (by rfl) T.g_InnerError (da_cons de_str da_nil)) da_nil))) (da_cons (de_tup (da_cons de_int (da_cons (de_mk0 T.b_Missing (by rfl) T.g_Missing (da_cons de_str da_nil)) da_nil))) (da_cons (de_tup (da_cons de_int (da_cons (de_mk0 T.b_Barred (by rfl) T.g_Barred (da_cons de_str da_nil)) da_nil))) da_nil))))) (dg_tup rfl (dgs_cons (pg_name (i := 4) sc__law_right.nd rfl (Or.inr rfl)) (dgs_cons (pg_name (i := 5) sc__law_right.nd rfl (Or.inl rfl)) dgs_nil)))
      (dss_one (ds_if (dt_bool (dw_or (dt_cmp do_in de_bl (de_op do_add (de_call G__law_marks_first (hr.mono (by omega)) hgd (by rfl) pat0 (da_cons (de_var (pv 5)) da_nil)) (de_call G__law_marks_last (hr.mono (by omega)) hgd (by rfl) pat0 (da_cons (de_var (pv 5)) da_nil))) (by rfl)) (dw_or1 (dt_cmp (do_neM hu) (de_call G__law_families (hr.mono (by omega)) hgd (by rfl) pat0 (da_cons (de_var (pv 5)) da_nil)) (de_call G__law_family_of (hr.mono (by omega)) hgd (by rfl) pat0 (da_cons (de_var (pv 4)) da_nil)) (by rfl)))))
      (dss_one (ds_ret de_bl))
      dss_nil)))
    (dss_one (ds_ret (de_call G__law_by_names_right (hr.mono (by omega)) hgd (by rfl) pat0 (da_cons (de_var (pv 1)) (da_cons (de_call G__law_any (hr.mono (by omega)) hgd (by rfl) pat0 (da_cons (de_var (pv 0)) da_nil)) da_nil)))))))))), ?_⟩
  rintro xs M P R ⟨q, n, rfl, hp, hn, h⟩
  trivial
  refine ⟨q, n, rfl, hp, by omega, fun x1 M1 hp1 k1 a1 f1 => ?_⟩
  trivial
  refine ⟨by unfold CPow; decide, ?_⟩
  have e30 : (10 : Int) ^ Int.toNat 30 = 1000000000000000000000000000000 := by decide
  rw [e30]
  refine g_take hp1 (by omega) (by decide) (by decide) fun r M2 r0 r1 hp2 o2 => ?_
  refine ⟨q, n + 2, rfl, hp2, by omega, fun x2 M3 hp3 k3 a2 f2 => ?_⟩
  trivial
  intro D1 hD1
  have B1 : Bag q (n + 3) M M3 [] := ⟨(k1.off o2).trans k3, hp3, fun x hx => by cases hx⟩
  obtain ⟨B2, mD1, nD1, qD1⟩ := B1.new (o := .lst [x2]) hD1
  have hD1' : ∀ b, x2 = .ref b → b ≠ D1 := fun b e e2 => by
    subst e
    exact a2.there (e2 ▸ hD1)
  have oN : One q 0 (um M3 D1 (.lst [x2])) (.ref D1) := one_nest mD1 qD1 (a2.keep fun b e _ => um_ne (hD1' b e)) fun b e => ⟨(f2 b e).2, hD1' b e⟩
  have oA : One q 0 (um M3 D1 (.lst [x2])) x1 := (a1.keep fun b e z => by
    have e1 := o2 b (f1 b e).2
    have e2 := k3 b (f1 b e).2 (by rw [e1]; exact z)
    rw [um_ne (fun e3 => by rw [← e3, e2, e1] at hD1; exact z hD1), e2, e1]).one fun b e => (f1 b e).2
  have oI : One q 0 (um M3 D1 (.lst [x2])) (.dat (.int r)) := any_one_int r0 r1
  intro L0 fL0
  obtain ⟨B3, mL0, nL0, qL0⟩ := B2.new (o := .lst [x1, .dat (.int r), .ref D1]) fL0
  have KL := (Kept.refl (M := um M3 D1 (.lst [x2]))).new (o := .lst [x1, .dat (.int r), .ref D1]) fL0
  have oN := one_kept oN KL.1
  have oA := one_kept oA KL.1
  have oI := one_kept oI KL.1
  generalize um (um M3 D1 _) L0 _ = M4 at B3 mL0 oN oA oI ⊢
  clear KL B1 B2 mD1 hD1 fL0 a1 a2 f1 f2 hD1' k1 k3 o2 hp hp1 hp2 hp3
  refine g_take B3.pur (by omega) (by decide) (by decide) fun i M5 i0 i1 hp5 o5 => ?_
  trivial
  obtain ⟨z, hz, ez⟩ : ∃ z, One q 0 M5 z ∧ itemA M5 (.ref L0) i = some z := by
    obtain ⟨z, hm, e⟩ := atI_mem [x1, .dat (.int r), .ref D1] i i0 i1
    refine ⟨z, ?_, ?_⟩
    · simp only [List.mem_cons, List.not_mem_nil, or_false] at hm
      refine one_keep (M := M4) ?_ fun b h1 _ => o5 b h1
      rcases hm with rfl | rfl | rfl
      · exact oA
      · exact oI
      · exact oN
    · unfold itemA
      simp only [(o5 L0 qL0).trans mL0]
      exact e
  clear oA oI oN mL0
  refine onO_mk ez ?_
  obtain ⟨dz, rz, sz⟩ := one_read hz (by omega)
  refine wReprOf rz sz ?_
  refine ⟨z, rfl, fun D2 as1 M6 K6 n6 m6 E6 => ?_⟩
  refine ⟨z, rfl, fun D3 as2 M7 K7 n7 m7 E7 => ?_⟩
  have d23 : D2 ≠ D3 := fun e => by
    rw [← e, m6] at n7
    cases n7
  have l1 := E6.len
  have l2 := E7.len
  refine ⟨as1, as2, (K7 D2 (by rw [m6]; exact fun z => nomatch z)).trans m6, m7, ?_, fun L hL => ?_⟩
  · rw [l1, l2]
    exact Nat.le_of_ble_eq_true rfl
  have EA : Exs K M7 z (as1 ++ as2) tabA := (E6.kept K7).app E7
  have K8 := (K6.trans K7).new (o := .lst (as1 ++ as2)) hL
  have EA8 := EA.kept ((Kept.refl (M := M7)).new (o := .lst (as1 ++ as2)) hL).1
  have hz8 := one_kept hz K8.1
  have p5n : PurseB (um M7 L (.lst (as1 ++ as2))) q (n + 4) := by
    obtain ⟨a, b, c, h1, h2⟩ := hp5
    exact ⟨a, b, c, (K8.1 q (by rw [h1]; exact fun z => nomatch z)).trans h1, h2⟩
  have zL : z ≠ .ref L := fun e => one_there (one_kept hz (K6.trans K7)) L e hL
  have mL := K8.2.1
  have la : (as1 ++ as2).length = 26 := by
    rw [List.length_append, l1, l2]
    rfl
  generalize um M7 L _ = M8 at EA8 hz8 p5n mL ⊢
  generalize as1 ++ as2 = as at EA8 mL la ⊢
  clear K8 EA E6 E7 K6 K7 hL m6 m7
  unfold wFor iEnumM
  refine ⟨_, rfl, onM_mk mL ?_⟩
  refine forGo_I (fun j δ M => (∃ o4 o5 o6 o7, δ = [some (.ref q), some z, some (.dat (.str dz.shown)), some (.ref L), o4, o5, o6, o7]) ∧ (∃ m, m ≤ j ∧ One q m M z) ∧ Exs K M z as tabA ∧ M L = some (.lst as) ∧ PurseB M q (n + 4)) (fun j δ M h => h.2.2.2.1) _ 0 _ _ ?_ ?_ ?_
  · exact ⟨⟨none, none, none, none, rfl⟩, ⟨0, Nat.le_refl _, hz8⟩, EA8, mL, p5n⟩
  · rintro j x hx δ M E' ⟨⟨o4, o5, o6, o7, rfl⟩, ⟨m, hm, om⟩, ex, mL', pp⟩ e1 e2 hnx
    have hj : j < 26 := by
      have := (List.getElem?_eq_some_iff.mp hx).1
      simpa [la] using this
    obtain ⟨e, he⟩ : ∃ e, as[j]? = some e := ⟨_, List.getElem?_eq_getElem (by omega)⟩
    have hx' : x = mkTup [.dat (.int (j : Nat)), e] := by
      simp only [List.getElem?_map, List.getElem?_zipIdx, he, Option.map_some, Option.some.injEq] at hx
      rw [← hx]
      simp
    obtain ⟨rr, hr', exj⟩ := ex.at_ he
    obtain ⟨r2, cj, hr2, hcj, hcn⟩ := cls_at ⟨j, hj⟩
    cases hr'.symm.trans hr2
    have cjE : clsA.getD j 0 = cj := by
      rw [List.getD_eq_getElem?_getD, hcj]
      rfl
    obtain ⟨ea, rfl, _⟩ := id exj
    subst hx'
    refine onO_mk rfl ⟨rfl, rfl, ?_⟩
    trivial
    refine ⟨.ref ea, cj, rr.1, rr.2 z, rfl, hcn, exj, fun Da Ma ka na ma => ?_⟩
    refine ⟨.ref ea, cj, rr.1, rr.2 z, rfl, hcn, exj.kept ka, fun Db Mb kb nb mb => ?_⟩
    refine ⟨_, _, (kb Da (by rw [ma]; exact fun z => nomatch z)).trans ma, mb, Nat.le_of_ble_eq_true rfl, fun Dc fc => ?_⟩
    obtain ⟨kc, mc, _⟩ := (ka.trans kb).new (o := .lst ((ixF.map fun i => AV.dat (.bool (wb cj i))) ++ ixL.map fun i => AV.dat (.bool (wb cj i)))) fc
    generalize um Mb Dc _ = Mc at kc mc ⊢
    clear fc ma mb na nb ka kb
    have mc' : Mc Dc = some (.lst ((((ixF ++ ixL).map (wb cj)).map PyData.bool).map .dat)) := by
      rw [mc, List.map_map, List.map_map, List.map_append]
      rfl
    have mko := marks_ok ⟨j, hj⟩
    have fmo := fam_ok ⟨j, hj⟩
    have tko := take_ok ⟨j, hj⟩
    simp only [cjE] at mko fmo tko
    refine g_lc (fun k : Nat => _) (fun _ => true) (fun k => .bool (decide ((k : Int) = (j : Int)))) (fun k => .dat (.int (k : Nat))) (List.range 26) (fun Pk q => ?_) (by decide) (fun k _ => ⟨rfl, fun M P R q => q, fun _ M P R q => ?_⟩) ?_
    · unfold iR1
      trivial
      exact ⟨⟨by omega, by omega⟩, q⟩
    · trivial
      exact q
    · rw [filter_yes]
      have mb : ((List.range 26).map fun (k : Nat) => PyData.bool (decide ((k : Int) = (j : Int)))) = ((ixF ++ ixL).map (wb cj)).map .bool := by
        rw [mko, List.map_map]
        rfl
      rw [mb]
      refine onO_mk (rdF_dats mc') (onO_mk rfl ⟨shBs _, shBs _, ifF (by rw [eqBs]; rfl) ?_⟩)
      refine ⟨.ref ea, cj, rr.1, rr.2 z, rfl, hcn, exj.kept kc, fun Dd Md kd nd md => ⟨j, rfl, ?_⟩⟩
      have md' : Md Dd = some (.lst (((ixM.map (wb cj)).map PyData.bool).map .dat)) := by
        rw [md, List.map_map, List.map_map]
        rfl
      rw [← fmo]
      refine onO_mk (rdF_dats md') (onO_mk rfl ⟨shBs _, shBs _, ifF (by rw [eqBs]; rfl) ?_⟩)
      have kM := kc.trans kd
      refine ⟨q, m, j, .ref ea, z, dz.shown, rr, rfl, hj, hr', exj.kept kM, one_kept om kM, by omega, fun M' m' hm' kx om' => ?_⟩
      refine onB_mk (b := true) rfl ?_
      refine ifF rfl ?_
      have kX := kM.X.trans kx
      refine ⟨j, .ref ea, cj, rr.1, rr.2 z, rfl, hcn, exj.keptX om kX, tko, ?_⟩
      refine onB_mk (b := true) rfl ?_
      refine ifF rfl ?_
      exact hnx _ _ ⟨⟨_, _, _, _, rfl⟩, ⟨m', by omega, om'⟩, ex.keep (fun x c fs e => e.keptX om kX), (kX L zL (by rw [mL']; exact fun z => nomatch z)).trans mL', pp.keptX (one_q om) kX⟩
  · rintro δ M ⟨⟨o4, o5, o6, o7, rfl⟩, ⟨m, hm, om⟩, ex, mL', pp⟩
    simp only [List.length_map, List.length_zipIdx, la] at hm
    trivial
    unfold iM
    trivial
    refine g_mkB fun b1 N1 h1 _ w1 => g_mkB fun b2 N2 h2 _ w2 => g_mkB fun b3 N3 h3 _ w3 => ?_
    intro L2 fL2
    have w1' : N3 b1 = some (.raw (ca K "InnerError")) := by
      have e := (h2 b1 (by rw [w1]; exact fun z => nomatch z)).trans w1
      exact (h3 b1 (by rw [e]; exact fun z => nomatch z)).trans e
    have w2' : N3 b2 = some (.raw (ca K "Missing")) := (h3 b2 (by rw [w2]; exact fun z => nomatch z)).trans w2
    have kN := ((h1.trans h2).trans h3).new (o := .lst [mkTup [.dat (.int 0), .ref b1], mkTup [.dat (.int 21), .ref b2], mkTup [.dat (.int 23), .ref b3]]) fL2
    have k3 := ((Kept.refl (M := N3)).new (o := .lst [mkTup [.dat (.int 0), .ref b1], mkTup [.dat (.int 21), .ref b2], mkTup [.dat (.int 23), .ref b3]]) fL2).1
    have items : ∀ (j : Nat) (x : AV), [mkTup [AV.dat (.int 0), .ref b1], mkTup [.dat (.int 21), .ref b2], mkTup [.dat (.int 23), .ref b3]][j]? = some x → ∃ (b : Addr) (c : Str), j < 3 ∧ x = .tup [.dat (.int (([0, 21, 23] : List Nat).getD j 0 : Nat)), .ref b] ∧ clsN[j]? = some c ∧ ExAt K N3 (.ref b) c [] := by
      intro j x hx
      match j, hx with
      | 0, hx =>
        cases hx
        exact ⟨b1, _, by omega, rfl, rfl, ⟨_, rfl, .inl ⟨w1', rfl⟩⟩⟩
      | 1, hx =>
        cases hx
        exact ⟨b2, _, by omega, rfl, rfl, ⟨_, rfl, .inl ⟨w2', rfl⟩⟩⟩
      | 2, hx =>
        cases hx
        exact ⟨b3, _, by omega, rfl, rfl, ⟨_, rfl, .inl ⟨w3, rfl⟩⟩⟩
      | j + 3, hx => simp at hx
    have mN := kN.2.1
    generalize um N3 L2 _ = N4 at kN mN k3 ⊢
    refine forGo_I (fun j δ M' => (∃ o4 o5 o6 o7, δ = [some (.ref q), some z, some (.dat (.str dz.shown)), some (.ref L), o4, o5, o6, o7]) ∧ Kept N4 M') (fun j δ M' h => (h.2 L2 (by rw [mN]; exact fun z => nomatch z)).trans mN) _ 0 _ _ ?_ ?_ ?_
    · exact ⟨⟨_, _, _, _, rfl⟩, Kept.refl⟩
    · rintro j x hx δ M' E' ⟨⟨u4, u5, u6, u7, rfl⟩, k4⟩ e1 e2 hnx
      obtain ⟨b, c, hj, rfl, hc, ex4⟩ := items j x hx
      have exj := ex4.kept (k3.trans k4)
      refine onO_mk rfl ⟨rfl, rfl, ?_⟩
      trivial
      refine ⟨.ref b, j, c, [], rfl, hc, exj, fun Da Ma ka na ma => ?_⟩
      refine ⟨.ref b, j, c, [], rfl, hc, exj.kept ka, fun Db Mb kb nb mb => ?_⟩
      refine ⟨_, _, (kb Da (by rw [ma]; exact fun z => nomatch z)).trans ma, mb, Nat.le_of_ble_eq_true rfl, fun Dc fc => ?_⟩
      obtain ⟨kc, mc, _⟩ := (ka.trans kb).new (o := .lst ((ixF.map fun i => AV.dat (.bool (wb j i))) ++ ixL.map fun i => AV.dat (.bool (wb j i)))) fc
      generalize um Mb Dc _ = Mc at kc mc ⊢
      have mc' : Mc Dc = some (.lst ((((ixF ++ ixL).map (wb j)).map PyData.bool).map .dat)) := by
        rw [mc, List.map_map, List.map_map, List.map_append]
        rfl
      have bm := base_marks ⟨j, hj⟩
      have bf := base_fams ⟨j, hj⟩
      refine ⟨_, mc', rfl, all_flat _, ?_⟩
      rw [bm]
      refine onB_mk (b := false) rfl ?_
      refine ifF rfl ?_
      refine ⟨.ref b, j, c, [], rfl, hc, exj.kept kc, fun Dd Md kd nd md => ⟨_, rfl, ?_⟩⟩
      have md' : Md Dd = some (.lst (((ixM.map (wb j)).map PyData.bool).map .dat)) := by
        rw [md, List.map_map, List.map_map]
        rfl
      rw [← bf]
      refine onO_mk (rdF_dats md') (onO_mk rfl ⟨shBs _, shBs _, ifF (by rw [eqBs]; rfl) ?_⟩)
      exact hnx _ _ ⟨⟨_, _, _, _, rfl⟩, k4.trans (kc.trans kd)⟩
    · rintro δ M' ⟨⟨u4, u5, u6, u7, rfl⟩, k4⟩
      have kM := kN.1.trans k4
      have om' := one_kept om kM
      trivial
      refine ⟨q, n + 4, rfl, pp.keptX (one_q om) kM.X, by omega, fun u M2 hp2 kq au fu => ?_⟩
      refine ⟨q, m, z, u, rfl, one_keep om' kq, by omega, au, fun b e e2 => one_there om' b e2 (fu b e).1, h⟩
theorem ok__law_joined_two (T : Facts K mg w) : GOk P w K mg base CX0 6 "_law_joined_two" ["script"] spLaw := by
  have G__law_right := ok__law_right (P := P) (base := base) T
  have G__law_box := (ok__law_box (P := P) (base := base) T).mono (k := 5) (by omega)
  have G__law_cell_two := (ok__law_cell_two (P := P) (base := base) T).mono (k := 5) (by omega)
  obtain ⟨f, fd, D⟩ := T.d__law_joined_two
  refine gok_of D sc__law_joined_two ?_ fun cdv A out s H E hr hgd => ?_
  · rintro xs M P R ⟨d, rfl, h⟩
    rfl
  have hu := Room.units hr
  have hu66 : (A.deeper (envOfC "_law_joined_two" (defScope s__law_joined_two) s.heap.objs.size f cdv)).units + 66 < cLine := by
    have := hr.un
    omega
  refine ⟨_, (dss_cons (ds_for (passes_of rfl) rfl (di_R1 (by rfl) T.m_range (de_b2 (c_max2 rfl) (by rfl) T.m_max boot_max' de_int (de_b2 (c_min2 rfl) (by rfl) T.m_min boot_min' de_int (de_len (by rfl) T.m_len (de_var (pv 0)))))) (dg_name (pg_name (i := 1) sc__law_joined_two.nd rfl (Or.inl rfl)))
      (dss_one (ds_if (dt_not (dt_val (de_call G__law_right (hr.mono (by omega)) hgd (by rfl) pat0 (da_cons (de_call G__law_box (hr.mono (by omega)) hgd (by rfl) pat0 (da_cons (de_call G__law_cell_two (hr.mono (by omega)) hgd (by rfl) pat0 (da_cons (de_var (pv 0)) (da_cons (de_var (pv 1)) da_nil))) da_nil)) da_nil))))
      (dss_one (ds_ret de_bl))
      dss_nil)))
    (dss_one (ds_ret de_bl))), ?_⟩
  rintro xs M P R ⟨ns, rfl, h⟩
  unfold wFor iR1
  trivial
  unfold wMin2
  refine ⟨True.intro, ?_⟩
  trivial
  refine ⟨⟨by omega, by omega⟩, ?_⟩
  refine forGo_inv (fun k : Nat => .dat (.int (k : Nat))) (fun j δ M => ∃ o1, δ = [some (AV.dat (PyData.list (List.map PyData.int ns))), o1]) (List.range _) 0 _ _ ?_ ?_ ?_
  · exact ⟨none, rfl⟩
  · rintro k hk j δ M1 E' hjb ⟨o1, rfl⟩ e1 e2 e3 hnx
    have hk' : k < 10 := by
      have := List.mem_range.mp hk
      omega
    unfold gN
    trivial
    refine ⟨ns, k, rfl, by omega, fun c => ?_⟩
    refine ⟨c, rfl, fun q a b hq a0 b0 b1 => ?_⟩
    have hp : PurseB (um M1 q (.lst [.dat (.int a), .dat (.int b), .dat (.int 0)])) q 0 := ⟨a, b, 0, um_same, a0, b0, b1, by omega⟩
    refine ⟨q, 0, rfl, hp, by omega, fun M' => ?_⟩
    refine onB_mk (b := true) rfl ?_
    refine ifF rfl ?_
    exact (hnx _ _ ⟨_, rfl⟩).1
  · rintro δ M1 ⟨o1, rfl⟩
    trivial
    exact h _
theorem ok_law (T : Facts K mg w) : GOk P w K mg base CX0 15 "law" ["script"] spLaw := by
  have G__law_joined_one := (ok__law_joined_one (P := P) (base := base) T).mono (k := 14) (by omega)
  have G__law_joined_two := (ok__law_joined_two (P := P) (base := base) T).mono (k := 14) (by omega)
  obtain ⟨f, fd, D⟩ := T.d_law
  refine gok_of D sc_law ?_ fun cdv A out s H E hr hgd => ?_
  · rintro xs M P R ⟨d, rfl, h⟩
    rfl
  have hu := Room.units hr
  have hu66 : (A.deeper (envOfC "law" (defScope s_law) s.heap.objs.size f cdv)).units + 66 < cLine := by
    have := hr.un
    omega
  refine ⟨_, (dss_one (ds_ret (de_and (de_call G__law_joined_one (hr.mono (by omega)) hgd (by rfl) pat0 (da_cons (de_var (pv 0)) da_nil)) (de_one (de_call G__law_joined_two (hr.mono (by omega)) hgd (by rfl) pat0 (da_cons (de_var (pv 0)) da_nil)))))), ?_⟩
  rintro xs M P R ⟨ns, rfl, h⟩
  trivial
  refine ⟨ns, rfl, fun M' => ?_⟩
  refine onB_mk (b := true) rfl ?_
  exact ⟨ns, rfl, h⟩

end
end K13
end
set_option Elab.async false
set_option linter.all false
set_option maxRecDepth 100000
set_option maxHeartbeats 4000000
namespace K13
open PySem PySem.Spec L2 DL DX
open PyProof.Rows hiding St
local macro_rules | `(tactic| trivial) => `(tactic| simp only [DL.wSeq, DL.wNext, DL.wRet, DL.wDrop, DL.wIf, DL.wSet, DL.wC, DL.wVar, DL.wOp, DL.wAnd, DL.wOr, DL.wNot, DL.wB, DL.wAndV, DL.wOrV, DL.wNotV, DL.wIfE, DL.wChain, DL.wIsi, DL.wUn, DL.wLen, DL.wCall, DL.wNil, DL.wCons, DL.wTup, DL.wLst, DL.wLstM, DL.wNeg, DL.isT, String.reduceBEq, Bool.or_false, Bool.false_or, Bool.or_true, Bool.true_or, Bool.or_self, Bool.and_self, DL.wGt, DL.wGe, DL.dstart, List.map_cons, List.map_nil, List.length_cons, List.length_nil, List.cons_append, List.nil_append, List.getElem?_cons_zero, List.getElem?_cons_succ, Option.some.injEq, exists_eq_left', exists_eq_left, List.set_cons_zero, List.set_cons_succ, decide_true, decide_false, Bool.true_and, Bool.and_true, Bool.false_and, Bool.and_false, true_and, Bool.not_true, Bool.not_false, if_true, if_false, reduceIte, Bool.false_eq_true, bne_self_eq_false, DL.bne_f, DL.bne_t, List.getElem?_nil, Nat.reduceAdd, Nat.reduceSub, List.replicate_succ, List.replicate_zero, DL.q_onO, DL.q_onO0, DL.q_onB, DL.q_onI, DL.q_onS, DL.q_onL, DL.q_ty, DL.q_tyT, DL.q_ty0, DL.q_ty1, DL.q_ty2, DL.q_ty3, DL.q_ty4, DL.q_ty5, DL.q_ty6, DL.q_lenT, DL.q_lenL, DL.q_lenS, DL.q_ixT, DL.q_ixL, DL.q_ixA, DL.q_leI, DL.q_leS, DL.q_ltI, DL.q_ltS, DL.q_I0, DL.q_II, DL.q_sub, DL.q_addI, DL.q_addS, DL.q_addT, DL.q_addL, DL.q_mulI, DL.q_mulS, DL.q_none, DL.q_noneR, DL.q_is, DL.q_isB, DL.q_inT, DL.q_inL, DL.q_inS, DL.q_inM, DL.q_eq, DL.q_rd, DL.q_ord, DL.q_ix, DL.q_tup, DL.q_tup0, DL.q_tup1, DL.q_tup2, DL.q_tup3, DL.q_eqI, DL.q_eqS, DL.q_shI, DL.q_flI, DL.q_flS, DL.q_flN, DL.q_flB, DL.q_at0, DL.q_at1, DL.q_at2, DL.q_partsT, DL.iT, DL.iS, DL.iL, DL.wAsg, DL.q_star, DL.q_gN, DL.wInTab, DL.wTab, DL.q_onDs, DL.q_dats0, DL.q_datsc, DL.q_sz0, DL.q_sz1, DL.q_sz2, DL.q_sz3, DL.q_sz4, DL.q_sz5, DL.q_sz6, DL.q_sz7, DL.q_sz11, DL.q_sz12, DL.q_keyS, DL.q_getD, DL.q_dct, DL.wInD, DL.wIxD, DL.q_ixU, DL.q_onMU, DL.q_lenU, DL.q_um, DL.q_n30, DL.q_n31, DL.q_n32, DL.q_max, DL.gIx, DL.q_map, DL.q_all0, DL.q_allc])
section
variable {P : Program} {w : World} {K : PySem.W.Frag} {mg : Str → Option Value} {base : Heap} {k : Nat}
theorem fng_of {CX : CXT} {x : Str} {st : Stmt} {f : Addr} {fd : FuncData} {N ps : List Str} {sp : DSp} (G : GDef K mg x st ps f fd) (S : FnScope N ps (defScope st))
    (many : ∀ xs M P R, sp xs M P R → xs.length = ps.length)
    (hb : ∀ (cdv : Value) (A : Around) (out : List Env) (s : Shared) (H : Hp) (E : XK), Room k (A.deeper (envOfC x (defScope st) s.heap.objs.size f cdv)) → A.guards = some [] →
      ∃ t : DTS, DSs (cxOf CX P w K mg base N x (defScope st) f cdv A out s H E) (fun c d _ H' => E c d H') (defBody st) t ∧
        ∀ (xs : List AV) (M : Mp) (P : DK) (R : DXK), sp xs M P R → t { nx := fun _ M' => P (.dat .none) M', rt := P, xp := fun c fs _ M' => R c fs M' } (dstart N xs) M) :
    FnG P w K mg base CX (k + 1) f fd ps (lSp K sp) :=
  fnG_of G.fn S (fun vs H Q E ⟨S, M, xs, P, R, r, rvs, p, _, _⟩ => rvs.length.trans (many _ _ _ _ p)) fun cdv A out s H vs Q E hr hgd ⟨S0, M, xs, P, R, r, rvs, p, k1, k2⟩ => by
    obtain ⟨t, ht, hq⟩ := hb cdv A out s H E hr hgd
    exact ⟨_, ht, S0, M, dstart N xs, _, r, RSl.start N rvs, hq xs M P R p, ⟨fun δ M' S' H' σ p1 e1 r1 _ => k1 _ M' S' H' .non p1 e1 r1 (.dat .non), k1, fun _ _ _ _ _ z => z.elim, fun _ _ _ _ _ z => z.elim, fun c fs δ M' S' H' σ d p1 e1 r1 _ x => k2 c fs M' S' H' d p1 e1 r1 x⟩⟩
theorem fn_law (T : Facts K mg w) {f : Addr} {fd : FuncData} (D : GDef K mg "law" s_law ["script"] f fd) : FnG P w K mg base CX0 15 f fd ["script"] (lSp K spLaw) := by
  have G__law_joined_one := (ok__law_joined_one (P := P) (base := base) T).mono (k := 14) (by omega)
  have G__law_joined_two := (ok__law_joined_two (P := P) (base := base) T).mono (k := 14) (by omega)
  refine fng_of D sc_law ?_ fun cdv A out s H E hr hgd => ?_
  · rintro xs M P R ⟨d, rfl, h⟩
    rfl
  have hu := Room.units hr
  have hu66 : (A.deeper (envOfC "law" (defScope s_law) s.heap.objs.size f cdv)).units + 66 < cLine := by
    have := hr.un
    omega
  refine ⟨_, (dss_one (ds_ret (de_and (de_call G__law_joined_one (hr.mono (by omega)) hgd (by rfl) pat0 (da_cons (de_var (pv 0)) da_nil)) (de_one (de_call G__law_joined_two (hr.mono (by omega)) hgd (by rfl) pat0 (da_cons (de_var (pv 0)) da_nil)))))), ?_⟩
  rintro xs M P R ⟨ns, rfl, h⟩
  trivial
  refine ⟨ns, rfl, fun M' => ?_⟩
  refine onB_mk (b := true) rfl ?_
  exact ⟨ns, rfl, h⟩
theorem dds_ints {S : Hp} : ∀ ns : List Int, DDs K S (ns.map V.int) (ns.map PyData.int)
  | [] => .nil
  | n :: r => .cons (.int n) (dds_ints r)
end
end K13
open PySem PySem.W PySem.Calls PyProof.Rows
set_option maxHeartbeats 0 in
theorem PySem.Challenge.cw_farlook_k13_rules_by_form_and_refusals_a_holds : PySem.Challenge.rw_farlook_k13_rules_by_form_and_refusals_a.Holds := by
  w_on; o_law
  refine HandSHeadRun.head_any (r := OpenLaw.row PySem.Challenge.rw_farlook_k13_rules_by_form_and_refusals_a) (q := view (OpenLaw.row PySem.Challenge.rw_farlook_k13_rules_by_form_and_refusals_a).prog [82]) (H := K13.hk) (ob := K13.ob) (M := 12000) (loose := K13.looseN) (d := HandSHeadRun.topDef (OpenLaw.row PySem.Challenge.rw_farlook_k13_rules_by_form_and_refusals_a).prog 82) (kwd := []) K13.ob_eq
    (by kernel_rfl) (fun s => by kernel_rfl) K13.run (by kernel_rfl) (by kernel_rfl) (by kernel_rfl) (by rfl) (by first | assumption | decide +kernel) (by decide +kernel) ⟨rfl, rfl, rfl, rfl, rfl, by decide +kernel⟩ ?hw ?hc
  case hw => w_witness2
  case hc =>
    refine DL.walk_goG (l := PySem.Challenge.rw_farlook_k13_rules_by_form_and_refusals_a) (n := 63) (k := 15) (x := "script") (CX := fun _ => L2.CX0) rfl (by decide) (by kernel_rfl) ⟨rfl, by decide, by decide⟩ ?F (fun _ _ _ _ _ z => z)
    intro w mg fa h Y G hmg0
    obtain ⟨K, KX, c⟩ := Y
    have hmg : mg ("law" : PySem.Str) = some (.ref fa) := by
      have e : (HandSHeadRun.topDef (OpenLaw.row PySem.Challenge.rw_farlook_k13_rules_by_form_and_refusals_a).prog 82).name = ("law" : PySem.Str) := by kernel_rfl
      rw [← e]
      exact hmg0
    have T : K13.Facts K mg w := K13.facts_of KX G (congrArg Prod.fst c) (congrArg Prod.snd c)
    obtain ⟨f, fd, D⟩ := T.d_law
    have e := hmg.symm.trans D.glo
    cases e
    refine ⟨K, fd, DL.lSp K K13.spLaw, KX, fun s u => ?_, fun H a ns hl _ hS => ⟨H, fun _ => none, [.dat (.list (ns.map .int))], fun x _ => x = .dat (.bool true), fun _ _ _ => False, ?_, ?_, ⟨ns, rfl, fun _ => rfl⟩, ?_, ?_⟩, fun base _ _ => K13.fn_law T D⟩
    · exact D.fn.bindsA (ps := ["script"]) (fun _ _ _ _ _ _ us hl => match us, hl with | [_], _ => rfl) s [u] rfl
    · exact ⟨L2.Same.refl H, fun a o z => (nomatch z), fun a b C C' dx fs fs' z => (nomatch z)⟩
    · exact .cons (.dat (.lst hS (K13.dds_ints ns))) .nil
    · intro x M' S' H' v hx _ _ rv
      subst hx
      exact DL.rv_bl rv
    · intro c fs M' S' H' d z
      exact z.elim
