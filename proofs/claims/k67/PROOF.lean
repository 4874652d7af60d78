import PyProof.Rows.All
import PyProof.P3Eq
import PyProof.P3In
import PyProof.NeKinds
import PyProof.EqAt
import PyProof.EqKinds
import HandS.Base
import HandS.List
import Wide.All
import OpenK.AllK
import Wide.FinOn
import HandS.ForMost
import HandS.ForExc
import KE.KDictKeyed
import KE.KDictCopyH
import HandS.IsInst
import HandS.Flow
import HandS.Style
import HandS.TupAny
import HandS.CallSlots
import HandS.ExcCtx
import HandS.HotCalls
import HandS.ExcIs
import HandS.Text
import HandS.Wide
import PyProof.TupleOfStr
import PyProof.CallStr
import HandS.Zip
import KE.GoesZip
import PyProof.Draws
import HandS.Set
import HandS.Strs
import HandS.More
import PyProof.Rows.SortShellAny
import PyProof.TupleOfSeq
import HandS.SetFor
import HandS.SortInts
import HandS.Conv
import KE.DataMinMax
import KE.SortData
import KE.KDictSum
import KE.DataFind
import PyProof.SeqIndex
import HandS.DictComp
import KE.KDictPairs
import PyProof.ReprRoads
import KE.KItemsList
import KE.KDictWalk
import HandS.TupSets
import KE.KTupSum
import PyProof.SumAny
import KE.KEqNest
import PySem.Challenge.RW_netwhole_k67_reads_that_are_alike
set_option Elab.async false
set_option linter.all false
set_option maxRecDepth 100000
set_option maxHeartbeats 4000000
namespace DcEq
open PySem PySem.SeqAt PySem.MeetsSeq
theorem sub_none_dict : isSubtype (.type "NoneType") (.type "dict") = pure false := by rw [isSubtype_type]; kernel_rfl
theorem sub_dict_none : isSubtype (.type "dict") (.type "NoneType") = pure false := by rw [isSubtype_type]; kernel_rfl
theorem sub_bool_dict : isSubtype (.type "bool") (.type "dict") = pure false := by rw [isSubtype_type]; kernel_rfl
theorem sub_dict_bool : isSubtype (.type "dict") (.type "bool") = pure false := by rw [isSubtype_type]; kernel_rfl
theorem sub_int_dict : isSubtype (.type "int") (.type "dict") = pure false := by rw [isSubtype_type]; kernel_rfl
theorem sub_dict_int : isSubtype (.type "dict") (.type "int") = pure false := by rw [isSubtype_type]; kernel_rfl
theorem sub_str_dict : isSubtype (.type "str") (.type "dict") = pure false := by rw [isSubtype_type]; kernel_rfl
theorem sub_dict_str : isSubtype (.type "dict") (.type "str") = pure false := by rw [isSubtype_type]; kernel_rfl
theorem sub_list_dict : isSubtype (.type "list") (.type "dict") = pure false := by rw [isSubtype_type]; kernel_rfl
theorem sub_dict_list : isSubtype (.type "dict") (.type "list") = pure false := by rw [isSubtype_type]; kernel_rfl
theorem sub_tuple_dict : isSubtype (.type "tuple") (.type "dict") = pure false := by rw [isSubtype_type]; kernel_rfl
theorem sub_dict_tuple : isSubtype (.type "dict") (.type "tuple") = pure false := by rw [isSubtype_type]; kernel_rfl
/-- a dict at l -/
abbrev DcAt (h : Heap) (l : Addr) (es : Array DictEntry) (n : Nat) (dd : Option Addr) (sl : Array (Option Value)) : Prop := h.get? l = some { cls := .type "dict", dict := dd, data := .dict es n, slots := sl }
section
variable (l b : Addr) (es : Array DictEntry) (n n2 : Nat) (dd dd2 : Option Addr) (sl sl2 : Array (Option Value)) (items : Array Value)
theorem dcl_dict_none  : Meets (Builtin.«dict.__eq__» ⟨[.ref l, .none], []⟩) (fun _ R s => DcAt s.heap l es n dd sl ∧ R (.ok (.ret .notImplemented)) s) :=
  .of_wp fun prog w A R s h => by obtain ⟨hp, g, d, tk, os⟩ := s; obtain ⟨hl, h⟩ := h; have f1 := sub_none_dict; unfold Builtin.«dict.__eq__»; wp_walk using wpAny_loadPart' hl; exact ⟨_, rfl, h⟩
theorem dcl_dict_bool (y : Bool) : Meets (Builtin.«dict.__eq__» ⟨[.ref l, .bool y], []⟩) (fun _ R s => DcAt s.heap l es n dd sl ∧ R (.ok (.ret .notImplemented)) s) :=
  .of_wp fun prog w A R s h => by obtain ⟨hp, g, d, tk, os⟩ := s; obtain ⟨hl, h⟩ := h; have f1 := sub_bool_dict; unfold Builtin.«dict.__eq__»; wp_walk using wpAny_loadPart' hl; exact ⟨_, rfl, h⟩
theorem dcl_dict_int (y : Int) (u : Tok) : Meets (Builtin.«dict.__eq__» ⟨[.ref l, .int y u], []⟩) (fun _ R s => DcAt s.heap l es n dd sl ∧ R (.ok (.ret .notImplemented)) s) :=
  .of_wp fun prog w A R s h => by obtain ⟨hp, g, d, tk, os⟩ := s; obtain ⟨hl, h⟩ := h; have f1 := sub_int_dict; unfold Builtin.«dict.__eq__»; wp_walk using wpAny_loadPart' hl; exact ⟨_, rfl, h⟩
theorem dcl_dict_str (y : Str) (u : Tok) : Meets (Builtin.«dict.__eq__» ⟨[.ref l, .str y u], []⟩) (fun _ R s => DcAt s.heap l es n dd sl ∧ R (.ok (.ret .notImplemented)) s) :=
  .of_wp fun prog w A R s h => by obtain ⟨hp, g, d, tk, os⟩ := s; obtain ⟨hl, h⟩ := h; have f1 := sub_str_dict; unfold Builtin.«dict.__eq__»; wp_walk using wpAny_loadPart' hl; exact ⟨_, rfl, h⟩
theorem dcl_dict_list : Meets (Builtin.«dict.__eq__» ⟨[.ref l, .ref b], []⟩) (fun _ R s => DcAt s.heap l es n dd sl ∧ s.heap.get? b = some { cls := .type "list", dict := dd2, data := .seq items n2, slots := sl2 } ∧ R (.ok (.ret .notImplemented)) s) :=
  .of_wp fun prog w A R s h => by obtain ⟨hp, g, d, tk, os⟩ := s; obtain ⟨hl, hb, h⟩ := h; have f1 := sub_list_dict; unfold Builtin.«dict.__eq__»; wp_walk using wpAny_loadPart' hl, wpAny_loadPart' hb; exact ⟨_, rfl, h⟩
theorem dcl_list_dict : Meets (Builtin.«list.__eq__» ⟨[.ref b, .ref l], []⟩) (fun _ R s => DcAt s.heap l es n dd sl ∧ s.heap.get? b = some { cls := .type "list", dict := dd2, data := .seq items n2, slots := sl2 } ∧ R (.ok (.ret .notImplemented)) s) :=
  .of_wp fun prog w A R s h => by obtain ⟨hp, g, d, tk, os⟩ := s; obtain ⟨hl, hb, h⟩ := h; have f1 := sub_dict_list; wp_walk using wpAny_loadPart' hl, wpAny_loadPart' hb; exact ⟨_, rfl, h⟩
theorem dcl_dict_tuple : Meets (Builtin.«dict.__eq__» ⟨[.ref l, .ref b], []⟩) (fun _ R s => DcAt s.heap l es n dd sl ∧ s.heap.get? b = some { cls := .type "tuple", dict := dd2, data := .seq items n2, slots := sl2 } ∧ R (.ok (.ret .notImplemented)) s) :=
  .of_wp fun prog w A R s h => by obtain ⟨hp, g, d, tk, os⟩ := s; obtain ⟨hl, hb, h⟩ := h; have f1 := sub_tuple_dict; unfold Builtin.«dict.__eq__»; wp_walk using wpAny_loadPart' hl, wpAny_loadPart' hb; exact ⟨_, rfl, h⟩
theorem dcl_tuple_dict : Meets (Builtin.«tuple.__eq__» ⟨[.ref b, .ref l], []⟩) (fun _ R s => DcAt s.heap l es n dd sl ∧ s.heap.get? b = some { cls := .type "tuple", dict := dd2, data := .seq items n2, slots := sl2 } ∧ R (.ok (.ret .notImplemented)) s) :=
  .of_wp fun prog w A R s h => by obtain ⟨hp, g, d, tk, os⟩ := s; obtain ⟨hl, hb, h⟩ := h; have f1 := sub_dict_tuple; wp_walk using wpAny_loadPart' hl, wpAny_loadPart' hb; exact ⟨_, rfl, h⟩
theorem dcl_bool_dict (y : Bool) : Meets (Builtin.«int.__eq__» ⟨[.bool y, .ref l], []⟩) (fun _ R s => DcAt s.heap l es n dd sl ∧ R (.ok (.ret .notImplemented)) s) :=
  .of_wp fun prog w A R s h => by obtain ⟨hp, g, d, tk, os⟩ := s; obtain ⟨hl, h⟩ := h; wp_walk using wpAny_loadPart' hl, wpAny_load hl; exact ⟨_, rfl, h⟩
theorem dcl_int_dict (y : Int) (u : Tok) : Meets (Builtin.«int.__eq__» ⟨[.int y u, .ref l], []⟩) (fun _ R s => DcAt s.heap l es n dd sl ∧ R (.ok (.ret .notImplemented)) s) :=
  .of_wp fun prog w A R s h => by obtain ⟨hp, g, d, tk, os⟩ := s; obtain ⟨hl, h⟩ := h; wp_walk using wpAny_loadPart' hl, wpAny_load hl; exact ⟨_, rfl, h⟩
theorem dcl_str_dict (y : Str) (u : Tok) : Meets (Builtin.«str.__eq__» ⟨[.str y u, .ref l], []⟩) (fun _ R s => DcAt s.heap l es n dd sl ∧ R (.ok (.ret .notImplemented)) s) :=
  .of_wp fun prog w A R s h => by obtain ⟨hp, g, d, tk, os⟩ := s; obtain ⟨hl, h⟩ := h; wp_walk using wpAny_loadPart' hl, wpAny_load hl; exact ⟨_, rfl, h⟩
end
section
variable {A : Around} {s : Shared} {l b : Addr} {es : Array DictEntry} {n : Nat} {dd : Option Addr} {sl : Array (Option Value)} {items : Array Value}
theorem rc_dict_none  (ho : DcAt s.heap l es n dd sl) (hu : A.units < cLine) : RcAt A s (.ref l) (.none) false := fun prog w E Q h =>
  rc_eq_decline_or (k := false) ⟨_, ho, rfl⟩ rfl (by decide) sub_none_dict F.slot_dict_eq F.slot_NoneType_eq_refl
    (fun _ hq => call_meets F.slot_dict_eq ⟨_, ho, rfl⟩ F.entry_dict_eq (F.args_dict_eq_2 _ _) (dcl_dict_none l es n dd sl) ⟨ho, hq⟩)
    (fun _ hq => call_gives F.slot_NoneType_eq_refl rfl F.entry_NoneType_eq (F.args_NoneType_eq_2 _ _) (NoneType___eq___none_ref_0 l) hq)
    (fun _ hq => wpAny_of_eq (rfl : isSame (.ref l) (.none) = pure false) hq) (.inr hu) h
theorem rc_none_dict  (ho : DcAt s.heap l es n dd sl) (hu : A.units < cLine) : RcAt A s (.none) (.ref l) false := fun prog w E Q h =>
  rc_eq_decline_or (k := false) rfl ⟨_, ho, rfl⟩ (by decide) sub_dict_none F.slot_NoneType_eq F.slot_dict_eq_refl
    (fun _ hq => call_gives F.slot_NoneType_eq rfl F.entry_NoneType_eq (F.args_NoneType_eq_2 _ _) (NoneType___eq___none_ref_0 l) hq)
    (fun _ hq => call_meets F.slot_dict_eq_refl ⟨_, ho, rfl⟩ F.entry_dict_eq (F.args_dict_eq_2 _ _) (dcl_dict_none l es n dd sl) ⟨ho, hq⟩)
    (fun _ hq => wpAny_of_eq (rfl : isSame (.none) (.ref l) = pure false) hq) (.inr hu) h
theorem ea_dict_none  (ho : DcAt s.heap l es n dd sl) (hu : A.units < cLine) : EqAt A s (.ref l) (.none) false := fun prog w E Q h => by
  unfold eqBool
  refine wpAny_holding ?_
  refine wpAny_ite_split (fun hab => absurd (eq_of_beq hab) nofun) (fun _ => ?_)
  exact wpAny_bind (rc_dict_none ho hu prog w E _ (wpAny_truthy_bool h))
theorem ea_none_dict  (ho : DcAt s.heap l es n dd sl) (hu : A.units < cLine) : EqAt A s (.none) (.ref l) false := fun prog w E Q h => by
  unfold eqBool
  refine wpAny_holding ?_
  refine wpAny_ite_split (fun hab => absurd (eq_of_beq hab) nofun) (fun _ => ?_)
  exact wpAny_bind (rc_none_dict ho hu prog w E _ (wpAny_truthy_bool h))
theorem rc_dict_bool (y : Bool) (ho : DcAt s.heap l es n dd sl) (hu : A.units < cLine) : RcAt A s (.ref l) (.bool y) false := fun prog w E Q h =>
  rc_eq_decline_or (k := false) ⟨_, ho, rfl⟩ rfl (by decide) sub_bool_dict F.slot_dict_eq F.slot_bool_eq_refl
    (fun _ hq => call_meets F.slot_dict_eq ⟨_, ho, rfl⟩ F.entry_dict_eq (F.args_dict_eq_2 _ _) (dcl_dict_bool l es n dd sl y) ⟨ho, hq⟩)
    (fun _ hq => call_meets F.slot_bool_eq_refl rfl F.entry_int_eq (F.args_int_eq_2 _ _) (dcl_bool_dict l es n dd sl y) ⟨ho, hq⟩)
    (fun _ hq => wpAny_of_eq (rfl : isSame (.ref l) (.bool y) = pure false) hq) (.inr hu) h
theorem rc_bool_dict (y : Bool) (ho : DcAt s.heap l es n dd sl) (hu : A.units < cLine) : RcAt A s (.bool y) (.ref l) false := fun prog w E Q h =>
  rc_eq_decline_or (k := false) rfl ⟨_, ho, rfl⟩ (by decide) sub_dict_bool F.slot_bool_eq F.slot_dict_eq_refl
    (fun _ hq => call_meets F.slot_bool_eq rfl F.entry_int_eq (F.args_int_eq_2 _ _) (dcl_bool_dict l es n dd sl y) ⟨ho, hq⟩)
    (fun _ hq => call_meets F.slot_dict_eq_refl ⟨_, ho, rfl⟩ F.entry_dict_eq (F.args_dict_eq_2 _ _) (dcl_dict_bool l es n dd sl y) ⟨ho, hq⟩)
    (fun _ hq => wpAny_of_eq (rfl : isSame (.bool y) (.ref l) = pure false) hq) (.inr hu) h
theorem ea_dict_bool (y : Bool) (ho : DcAt s.heap l es n dd sl) (hu : A.units < cLine) : EqAt A s (.ref l) (.bool y) false := fun prog w E Q h => by
  unfold eqBool
  refine wpAny_holding ?_
  refine wpAny_ite_split (fun hab => absurd (eq_of_beq hab) nofun) (fun _ => ?_)
  exact wpAny_bind (rc_dict_bool y ho hu prog w E _ (wpAny_truthy_bool h))
theorem ea_bool_dict (y : Bool) (ho : DcAt s.heap l es n dd sl) (hu : A.units < cLine) : EqAt A s (.bool y) (.ref l) false := fun prog w E Q h => by
  unfold eqBool
  refine wpAny_holding ?_
  refine wpAny_ite_split (fun hab => absurd (eq_of_beq hab) nofun) (fun _ => ?_)
  exact wpAny_bind (rc_bool_dict y ho hu prog w E _ (wpAny_truthy_bool h))
theorem rc_dict_int (y : Int) (u : Tok) (ho : DcAt s.heap l es n dd sl) (hu : A.units < cLine) : RcAt A s (.ref l) (.int y u) false := fun prog w E Q h =>
  rc_eq_decline_or (k := false) ⟨_, ho, rfl⟩ rfl (by decide) sub_int_dict F.slot_dict_eq F.slot_int_eq_refl
    (fun _ hq => call_meets F.slot_dict_eq ⟨_, ho, rfl⟩ F.entry_dict_eq (F.args_dict_eq_2 _ _) (dcl_dict_int l es n dd sl y u) ⟨ho, hq⟩)
    (fun _ hq => call_meets F.slot_int_eq_refl rfl F.entry_int_eq (F.args_int_eq_2 _ _) (dcl_int_dict l es n dd sl y u) ⟨ho, hq⟩)
    (fun _ hq => wpAny_of_eq (rfl : isSame (.ref l) (.int y u) = pure false) hq) (.inr hu) h
theorem rc_int_dict (y : Int) (u : Tok) (ho : DcAt s.heap l es n dd sl) (hu : A.units < cLine) : RcAt A s (.int y u) (.ref l) false := fun prog w E Q h =>
  rc_eq_decline_or (k := false) rfl ⟨_, ho, rfl⟩ (by decide) sub_dict_int F.slot_int_eq F.slot_dict_eq_refl
    (fun _ hq => call_meets F.slot_int_eq rfl F.entry_int_eq (F.args_int_eq_2 _ _) (dcl_int_dict l es n dd sl y u) ⟨ho, hq⟩)
    (fun _ hq => call_meets F.slot_dict_eq_refl ⟨_, ho, rfl⟩ F.entry_dict_eq (F.args_dict_eq_2 _ _) (dcl_dict_int l es n dd sl y u) ⟨ho, hq⟩)
    (fun _ hq => wpAny_of_eq (rfl : isSame (.int y u) (.ref l) = pure false) hq) (.inr hu) h
theorem ea_dict_int (y : Int) (u : Tok) (ho : DcAt s.heap l es n dd sl) (hu : A.units < cLine) : EqAt A s (.ref l) (.int y u) false := fun prog w E Q h => by
  unfold eqBool
  refine wpAny_holding ?_
  refine wpAny_ite_split (fun hab => absurd (eq_of_beq hab) nofun) (fun _ => ?_)
  exact wpAny_bind (rc_dict_int y u ho hu prog w E _ (wpAny_truthy_bool h))
theorem ea_int_dict (y : Int) (u : Tok) (ho : DcAt s.heap l es n dd sl) (hu : A.units < cLine) : EqAt A s (.int y u) (.ref l) false := fun prog w E Q h => by
  unfold eqBool
  refine wpAny_holding ?_
  refine wpAny_ite_split (fun hab => absurd (eq_of_beq hab) nofun) (fun _ => ?_)
  exact wpAny_bind (rc_int_dict y u ho hu prog w E _ (wpAny_truthy_bool h))
theorem rc_dict_str (y : Str) (u : Tok) (ho : DcAt s.heap l es n dd sl) (hu : A.units < cLine) : RcAt A s (.ref l) (.str y u) false := fun prog w E Q h =>
  rc_eq_decline_or (k := false) ⟨_, ho, rfl⟩ rfl (by decide) sub_str_dict F.slot_dict_eq F.slot_str_eq_refl
    (fun _ hq => call_meets F.slot_dict_eq ⟨_, ho, rfl⟩ F.entry_dict_eq (F.args_dict_eq_2 _ _) (dcl_dict_str l es n dd sl y u) ⟨ho, hq⟩)
    (fun _ hq => call_meets F.slot_str_eq_refl rfl F.entry_str_eq (F.args_str_eq_2 _ _) (dcl_str_dict l es n dd sl y u) ⟨ho, hq⟩)
    (fun _ hq => wpAny_of_eq (rfl : isSame (.ref l) (.str y u) = pure false) hq) (.inr hu) h
theorem rc_str_dict (y : Str) (u : Tok) (ho : DcAt s.heap l es n dd sl) (hu : A.units < cLine) : RcAt A s (.str y u) (.ref l) false := fun prog w E Q h =>
  rc_eq_decline_or (k := false) rfl ⟨_, ho, rfl⟩ (by decide) sub_dict_str F.slot_str_eq F.slot_dict_eq_refl
    (fun _ hq => call_meets F.slot_str_eq rfl F.entry_str_eq (F.args_str_eq_2 _ _) (dcl_str_dict l es n dd sl y u) ⟨ho, hq⟩)
    (fun _ hq => call_meets F.slot_dict_eq_refl ⟨_, ho, rfl⟩ F.entry_dict_eq (F.args_dict_eq_2 _ _) (dcl_dict_str l es n dd sl y u) ⟨ho, hq⟩)
    (fun _ hq => wpAny_of_eq (rfl : isSame (.str y u) (.ref l) = pure false) hq) (.inr hu) h
theorem ea_dict_str (y : Str) (u : Tok) (ho : DcAt s.heap l es n dd sl) (hu : A.units < cLine) : EqAt A s (.ref l) (.str y u) false := fun prog w E Q h => by
  unfold eqBool
  refine wpAny_holding ?_
  refine wpAny_ite_split (fun hab => absurd (eq_of_beq hab) nofun) (fun _ => ?_)
  exact wpAny_bind (rc_dict_str y u ho hu prog w E _ (wpAny_truthy_bool h))
theorem ea_str_dict (y : Str) (u : Tok) (ho : DcAt s.heap l es n dd sl) (hu : A.units < cLine) : EqAt A s (.str y u) (.ref l) false := fun prog w E Q h => by
  unfold eqBool
  refine wpAny_holding ?_
  refine wpAny_ite_split (fun hab => absurd (eq_of_beq hab) nofun) (fun _ => ?_)
  exact wpAny_bind (rc_str_dict y u ho hu prog w E _ (wpAny_truthy_bool h))
theorem ne_dict_list {h : Heap} (ho : DcAt h l es n dd sl) (hb : h.IsList b items) : l ≠ b := fun e => by
  subst e
  obtain ⟨o, h1, h2, _⟩ := hb
  rw [ho] at h1
  cases h1
  exact absurd h2 (by simp)
theorem rc_dict_list (ho : DcAt s.heap l es n dd sl) (hb : s.heap.IsList b items) (hu : A.units < cLine) : RcAt A s (.ref l) (.ref b) false := fun prog w E Q h => by
  have hne := ne_dict_list ho hb
  obtain ⟨⟨cls2, dd2, data2, sl2⟩, ho2, hc2, n2, hd2⟩ := id hb
  simp only at hc2 hd2
  subst hc2 hd2
  exact rc_eq_decline_or (k := false) ⟨_, ho, rfl⟩ ⟨_, ho2, rfl⟩ (by decide) sub_list_dict F.slot_dict_eq F.slot_list_eq_refl
    (fun _ hq => call_meets F.slot_dict_eq ⟨_, ho, rfl⟩ F.entry_dict_eq (F.args_dict_eq_2 _ _) (dcl_dict_list l b es n n2 dd dd2 sl sl2 items) ⟨ho, ho2, hq⟩)
    (fun _ hq => call_meets F.slot_list_eq_refl ⟨_, ho2, rfl⟩ F.entry_list_eq (F.args_list_eq_2 _ _) (dcl_list_dict l b es n n2 dd dd2 sl sl2 items) ⟨ho, ho2, hq⟩)
    (fun _ hq => wpAny_isSame_ref_other' hne ho ho2 (by simp) hq) (.inr hu) h
theorem rc_list_dict (ho : DcAt s.heap l es n dd sl) (hb : s.heap.IsList b items) (hu : A.units < cLine) : RcAt A s (.ref b) (.ref l) false := fun prog w E Q h => by
  have hne := (ne_dict_list ho hb).symm
  obtain ⟨⟨cls2, dd2, data2, sl2⟩, ho2, hc2, n2, hd2⟩ := id hb
  simp only at hc2 hd2
  subst hc2 hd2
  exact rc_eq_decline_or (k := false) ⟨_, ho2, rfl⟩ ⟨_, ho, rfl⟩ (by decide) sub_dict_list F.slot_list_eq F.slot_dict_eq_refl
    (fun _ hq => call_meets F.slot_list_eq ⟨_, ho2, rfl⟩ F.entry_list_eq (F.args_list_eq_2 _ _) (dcl_list_dict l b es n n2 dd dd2 sl sl2 items) ⟨ho, ho2, hq⟩)
    (fun _ hq => call_meets F.slot_dict_eq_refl ⟨_, ho, rfl⟩ F.entry_dict_eq (F.args_dict_eq_2 _ _) (dcl_dict_list l b es n n2 dd dd2 sl sl2 items) ⟨ho, ho2, hq⟩)
    (fun _ hq => wpAny_isSame_ref_other' hne ho2 ho (by simp) hq) (.inr hu) h
theorem ea_dict_list (ho : DcAt s.heap l es n dd sl) (hb : s.heap.IsList b items) (hu : A.units < cLine) : EqAt A s (.ref l) (.ref b) false := .of_refs (ne_dict_list ho hb) (rc_dict_list ho hb hu)
theorem ea_list_dict (ho : DcAt s.heap l es n dd sl) (hb : s.heap.IsList b items) (hu : A.units < cLine) : EqAt A s (.ref b) (.ref l) false := .of_refs (ne_dict_list ho hb).symm (rc_list_dict ho hb hu)
theorem ne_dict_tuple {h : Heap} (ho : DcAt h l es n dd sl) (hb : h.IsTuple b items) : l ≠ b := fun e => by
  subst e
  obtain ⟨o, h1, h2, _⟩ := hb
  rw [ho] at h1
  cases h1
  exact absurd h2 (by simp)
theorem rc_dict_tuple (ho : DcAt s.heap l es n dd sl) (hb : s.heap.IsTuple b items) (hu : A.units < cLine) : RcAt A s (.ref l) (.ref b) false := fun prog w E Q h => by
  have hne := ne_dict_tuple ho hb
  obtain ⟨⟨cls2, dd2, data2, sl2⟩, ho2, hc2, n2, hd2⟩ := id hb
  simp only at hc2 hd2
  subst hc2 hd2
  exact rc_eq_decline_or (k := false) ⟨_, ho, rfl⟩ ⟨_, ho2, rfl⟩ (by decide) sub_tuple_dict F.slot_dict_eq F.slot_tuple_eq_refl
    (fun _ hq => call_meets F.slot_dict_eq ⟨_, ho, rfl⟩ F.entry_dict_eq (F.args_dict_eq_2 _ _) (dcl_dict_tuple l b es n n2 dd dd2 sl sl2 items) ⟨ho, ho2, hq⟩)
    (fun _ hq => call_meets F.slot_tuple_eq_refl ⟨_, ho2, rfl⟩ F.entry_tuple_eq (F.args_tuple_eq_2 _ _) (dcl_tuple_dict l b es n n2 dd dd2 sl sl2 items) ⟨ho, ho2, hq⟩)
    (fun _ hq => wpAny_isSame_ref_other hne ho ho2 (by simp) hq) (.inr hu) h
theorem rc_tuple_dict (ho : DcAt s.heap l es n dd sl) (hb : s.heap.IsTuple b items) (hu : A.units < cLine) : RcAt A s (.ref b) (.ref l) false := fun prog w E Q h => by
  have hne := (ne_dict_tuple ho hb).symm
  obtain ⟨⟨cls2, dd2, data2, sl2⟩, ho2, hc2, n2, hd2⟩ := id hb
  simp only at hc2 hd2
  subst hc2 hd2
  exact rc_eq_decline_or (k := false) ⟨_, ho2, rfl⟩ ⟨_, ho, rfl⟩ (by decide) sub_dict_tuple F.slot_tuple_eq F.slot_dict_eq_refl
    (fun _ hq => call_meets F.slot_tuple_eq ⟨_, ho2, rfl⟩ F.entry_tuple_eq (F.args_tuple_eq_2 _ _) (dcl_tuple_dict l b es n n2 dd dd2 sl sl2 items) ⟨ho, ho2, hq⟩)
    (fun _ hq => call_meets F.slot_dict_eq_refl ⟨_, ho, rfl⟩ F.entry_dict_eq (F.args_dict_eq_2 _ _) (dcl_dict_tuple l b es n n2 dd dd2 sl sl2 items) ⟨ho, ho2, hq⟩)
    (fun _ hq => wpAny_isSame_ref_other' hne ho2 ho (by simp) hq) (.inr hu) h
theorem ea_dict_tuple (ho : DcAt s.heap l es n dd sl) (hb : s.heap.IsTuple b items) (hu : A.units < cLine) : EqAt A s (.ref l) (.ref b) false := .of_refs (ne_dict_tuple ho hb) (rc_dict_tuple ho hb hu)
theorem ea_tuple_dict (ho : DcAt s.heap l es n dd sl) (hb : s.heap.IsTuple b items) (hu : A.units < cLine) : EqAt A s (.ref b) (.ref l) false := .of_refs (ne_dict_tuple ho hb).symm (rc_tuple_dict ho hb hu)
end
mutual
def ndB : PyData → Bool
  | .dict _ => false
  | .list xs => ndAll xs
  | .tuple xs => ndAll xs
  | _ => true
def ndAll : List PyData → Bool
  | [] => true
  | x :: xs => ndB x && ndAll xs
end
theorem ndAll_mem : ∀ {xs : List PyData}, ndAll xs = true → ∀ x ∈ xs, ndB x = true
  | [], _, x, hx => nomatch hx
  | y :: ys, h, x, hx => by
    simp only [ndAll, Bool.and_eq_true] at h
    rcases List.mem_cons.mp hx with rfl | hx
    · exact h.1
    · exact ndAll_mem h.2 x hx
/-- what stands at a value -/
inductive Rd (h : Heap) : Value → PyData → Prop
  | none : Rd h .none .none
  | bool (b : Bool) : Rd h (.bool b) (.bool b)
  | int (i : Int) (t : Tok) : Rd h (.int i t) (.int i)
  | str (x : Str) (t : Tok) : Rd h (.str x t) (.str x)
  | list {a : Addr} {vs : Array Value} {xs : List PyData} : h.IsList a vs → vs.size = xs.length → (∀ j (h1 : j < vs.size) (h2 : j < xs.length), Rd h vs[j] xs[j]) → Rd h (.ref a) (.list xs)
  | tuple {a : Addr} {vs : Array Value} {xs : List PyData} : h.IsTuple a vs → vs.size = xs.length → (∀ j (h1 : j < vs.size) (h2 : j < xs.length), Rd h vs[j] xs[j]) → Rd h (.ref a) (.tuple xs)
  | dict {a : Addr} {es : Array DictEntry} {n : Nat} {dd : Option Addr} {sl : Array (Option Value)} {kvs : List (PyData × PyData)} : DcAt h a es n dd sl → Rd h (.ref a) (.dict kvs)
def oneNd (d e : PyData) : Prop := ndB d = true ∨ ndB e = true
theorem oneNd_all {xs ys : List PyData} (h : ndAll xs = true ∨ ndAll ys = true) (j : Nat) (h1 : j < xs.length) (h2 : j < ys.length) : oneNd xs[j] ys[j] := by
  rcases h with h | h
  · exact .inl (ndAll_mem h _ (List.getElem_mem h1))
  · exact .inr (ndAll_mem h _ (List.getElem_mem h2))
theorem eqvAll_true : ∀ {xs ys : List PyData}, xs.length = ys.length → (∀ j (h1 : j < xs.length) (h2 : j < ys.length), PyData.eqv xs[j] ys[j] = true) → PyData.eqvAll xs ys = true
  | [], [], _, _ => rfl
  | [], _ :: _, h, _ => nomatch h
  | _ :: _, [], h, _ => nomatch h
  | x :: xs, y :: ys, h, k => by
    rw [PyData.eqvAll, eqvAll_true (by simpa using h) fun j h1 h2 => k (j + 1) (by simpa using h1) (by simpa using h2)]
    have := k 0 (by simp) (by simp)
    have this' : PyData.eqv x y = true := this
    rw [this']
    rfl
theorem isList_inj {h : Heap} {a : Addr} {xs ys : Array Value} (p : h.IsList a xs) (q : h.IsList a ys) : xs = ys := by
  obtain ⟨o, h1, _, n, h2⟩ := p
  obtain ⟨o', k1, _, n', k2⟩ := q
  rw [h1] at k1
  cases k1
  rw [h2] at k2
  cases k2
  rfl
theorem isTuple_inj {h : Heap} {a : Addr} {xs ys : Array Value} (p : h.IsTuple a xs) (q : h.IsTuple a ys) : xs = ys := by
  obtain ⟨o, h1, _, n, h2⟩ := p
  obtain ⟨o', k1, _, n', k2⟩ := q
  rw [h1] at k1
  cases k1
  rw [h2] at k2
  cases k2
  rfl
theorem list_not_tuple {h : Heap} {a : Addr} {xs ys : Array Value} (p : h.IsList a xs) (q : h.IsTuple a ys) : False := by
  obtain ⟨o, h1, h2, _⟩ := p
  obtain ⟨o', k1, k2, _⟩ := q
  rw [h1] at k1
  cases k1
  rw [h2] at k2
  exact absurd k2 (by simp)
theorem Rd.same {h : Heap} {v : Value} {d e : PyData} (r : Rd h v d) (r' : Rd h v e) (o : oneNd d e) : PyData.eqv d e = true := by
  induction r generalizing e with
  | none => cases r'; rfl
  | bool b => cases r'; simp [PyData.eqv]
  | int i t => cases r'; simp [PyData.eqv]
  | str x t => cases r'; simp [PyData.eqv]
  | @list a vs xs h1 h2 h3 ih =>
    cases r' with
    | @list _ vs' ys k1 k2 k3 =>
      have e1 := isList_inj h1 k1
      subst e1
      exact eqvAll_true (by omega) fun j j1 j2 => ih j (by omega) j1 (k3 j (by omega) j2) (oneNd_all o j j1 j2)
    | tuple k1 k2 k3 => exact (list_not_tuple h1 k1).elim
    | dict k1 => exact absurd rfl (ne_dict_list k1 h1)
  | @tuple a vs xs h1 h2 h3 ih =>
    cases r' with
    | @tuple _ vs' ys k1 k2 k3 =>
      have e1 := isTuple_inj h1 k1
      subst e1
      exact eqvAll_true (by omega) fun j j1 j2 => ih j (by omega) j1 (k3 j (by omega) j2) (oneNd_all o j j1 j2)
    | list k1 k2 k3 => exact (list_not_tuple k1 h1).elim
    | dict k1 => exact absurd rfl (ne_dict_tuple k1 h1)
  | dict h1 =>
    cases r' with
    | list k1 k2 k3 => exact absurd rfl (ne_dict_list h1 k1)
    | tuple k1 k2 k3 => exact absurd rfl (ne_dict_tuple h1 k1)
    | dict k1 => rcases o with o | o <;> cases o
theorem depth_le {xs : List PyData} {j : Nat} (h : j < xs.length) : (xs[j]).depth ≤ PyData.depthAll xs := by
  induction xs generalizing j with
  | nil => cases h
  | cons x xs ih =>
    cases j with
    | zero => simp [PyData.depthAll]; omega
    | succ j => simp [PyData.depthAll]; have := ih (j := j) (by simpa using h); omega
theorem room_el {u : Nat} {xs ys : List PyData} {j : Nat} (h1 : j < xs.length) (h2 : j < ys.length) (hu : u + min (PyData.depthAll xs + 1) (PyData.depthAll ys + 1) < cLine) : u + 1 + min (xs[j]).depth (ys[j]).depth < cLine := by
  have a := depth_le h1
  have b := depth_le h2
  omega
theorem getD_at {xs : List PyData} {j : Nat} (h : j < xs.length) : xs.getD j .none = xs[j] := by
  rw [List.getD_eq_getElem?_getD, List.getElem?_eq_getElem h]
  rfl
section
variable {s : Shared}
theorem eqAt_rd {a b : Value} {d e : PyData} (ra : Rd s.heap a d) : ∀ {A : Around}, Rd s.heap b e → oneNd d e → A.units + min d.depth e.depth < cLine → EqAt A s a b (PyData.eqv d e) := by
  induction ra generalizing b e with
  | none =>
    intro A rb o hu
    have hr : A.units < cLine := room_here hu
    cases rb with
    | none => exact EqAt.same _
    | bool y => exact EqAt.none_bool y
    | int y u => exact EqAt.none_int y u
    | str y u => exact EqAt.none_str y u
    | @list m ws ys k1 k2 k3 => exact EqAt.none_list k1 hr
    | @tuple m ws ys k1 k2 k3 => exact EqAt.none_tuple k1 hr
    | dict k1 => exact ea_none_dict k1 hr
  | bool x =>
    intro A rb o hu
    have hr : A.units < cLine := room_here hu
    cases rb with
    | none => exact EqAt.bool_none x
    | bool y => exact EqAt.bool_bool x y
    | int y u => exact EqAt.bool_int x y u
    | str y u => exact EqAt.bool_str x y u
    | @list m ws ys k1 k2 k3 => exact EqAt.bool_list x k1 hr
    | @tuple m ws ys k1 k2 k3 => exact EqAt.bool_tuple x k1 hr
    | dict k1 => exact ea_bool_dict x k1 hr
  | int x t =>
    intro A rb o hu
    have hr : A.units < cLine := room_here hu
    cases rb with
    | none => exact EqAt.int_none x t
    | bool y => exact EqAt.int_bool x t y
    | int y u => exact EqAt.int_int x t y u
    | str y u => exact EqAt.int_str x t y u
    | @list m ws ys k1 k2 k3 => exact EqAt.int_list x t k1 hr
    | @tuple m ws ys k1 k2 k3 => exact EqAt.int_tuple x t k1 hr
    | dict k1 => exact ea_int_dict x t k1 hr
  | str x t =>
    intro A rb o hu
    have hr : A.units < cLine := room_here hu
    cases rb with
    | none => exact EqAt.str_none x t
    | bool y => exact EqAt.str_bool x t y
    | int y u => exact EqAt.str_int x t y u
    | str y u => exact EqAt.str_str x t y u
    | @list m ws ys k1 k2 k3 => exact EqAt.str_list x t k1 hr
    | @tuple m ws ys k1 k2 k3 => exact EqAt.str_tuple x t k1 hr
    | dict k1 => exact ea_str_dict x t k1 hr
  | @list l vs xs h1 h2 h3 ih =>
    intro A rb o hu
    have hr : A.units < cLine := room_here hu
    cases rb with
    | none => exact EqAt.list_none h1 hr
    | bool y => exact EqAt.list_bool y h1 hr
    | int y u => exact EqAt.list_int y u h1 hr
    | str y u => exact EqAt.list_str y u h1 hr
    | @list m ws ys k1 k2 k3 =>
      show EqAt A s (.ref l) (.ref m) (PyData.eqvAll xs ys)
      have he : ∀ j (j1 : j < vs.size) (j2 : j < ws.size), EqAt A.in1 s vs[j] ws[j] (pairEq xs ys j) := fun j j1 j2 => by
        have j3 : j < xs.length := by omega
        have j4 : j < ys.length := by omega
        have q := ih j j1 j3 (A := A.in1) (k3 j j2 j4) (oneNd_all o j j3 j4) (room_el j3 j4 hu)
        unfold pairEq
        rw [getD_at j3, getD_at j4]
        exact q
      by_cases hlm : l = m
      · subst hlm
        have e2 : PyData.eqvAll xs ys = true := Rd.same (Rd.list h1 h2 h3) (Rd.list k1 k2 k3) o
        rw [e2]
        exact EqAt.same _
      · refine EqAt.of_refs hlm ?_
        by_cases hsz : vs.size = ws.size
        · rw [← eqvAll_same_length (by omega : xs.length = ys.length), ← h2]
          exact RcAt.lists h1 k1 hsz hr he
        · rw [eqvAll_other_length (by omega : xs.length ≠ ys.length)]
          exact RcAt.lists_lengths h1 k1 (by simpa using hsz) hr
    | @tuple m ws ys k1 k2 k3 => exact EqAt.list_tuple h1 k1 hr
    | dict k1 => exact ea_list_dict k1 h1 hr
  | @tuple l vs xs h1 h2 h3 ih =>
    intro A rb o hu
    have hr : A.units < cLine := room_here hu
    cases rb with
    | none => exact EqAt.tuple_none h1 hr
    | bool y => exact EqAt.tuple_bool y h1 hr
    | int y u => exact EqAt.tuple_int y u h1 hr
    | str y u => exact EqAt.tuple_str y u h1 hr
    | @list m ws ys k1 k2 k3 => exact EqAt.tuple_list h1 k1 hr
    | @tuple m ws ys k1 k2 k3 =>
      show EqAt A s (.ref l) (.ref m) (PyData.eqvAll xs ys)
      have he : ∀ j (j1 : j < vs.size) (j2 : j < ws.size), EqAt A.in1 s vs[j] ws[j] (pairEq xs ys j) := fun j j1 j2 => by
        have j3 : j < xs.length := by omega
        have j4 : j < ys.length := by omega
        have q := ih j j1 j3 (A := A.in1) (k3 j j2 j4) (oneNd_all o j j3 j4) (room_el j3 j4 hu)
        unfold pairEq
        rw [getD_at j3, getD_at j4]
        exact q
      by_cases hlm : l = m
      · subst hlm
        have e2 : PyData.eqvAll xs ys = true := Rd.same (Rd.tuple h1 h2 h3) (Rd.tuple k1 k2 k3) o
        rw [e2]
        exact EqAt.same _
      · refine EqAt.of_refs hlm ?_
        rw [← eqvAll_eq xs ys, ← h2, ← k2]
        exact RcAt.tuples h1 k1 hr he
    | dict k1 => exact ea_tuple_dict k1 h1 hr
  | dict h1 =>
    intro A rb o hu
    have hr : A.units < cLine := room_here hu
    cases rb with
    | none => exact ea_dict_none h1 hr
    | bool y => exact ea_dict_bool y h1 hr
    | int y u => exact ea_dict_int y u h1 hr
    | str y u => exact ea_dict_str y u h1 hr
    | @list m ws ys k1 k2 k3 => exact ea_dict_list h1 k1 hr
    | @tuple m ws ys k1 k2 k3 => exact ea_dict_tuple h1 k1 hr
    | dict k1 => rcases o with o | o <;> cases o
theorem rcAt_rd {a b : Value} {d e : PyData} {A : Around} (ra : Rd s.heap a d) (rb : Rd s.heap b e) (o : oneNd d e) (hu : A.units + min d.depth e.depth < cLine) : RcAt A s a b (PyData.eqv d e) := by
  have hr : A.units < cLine := room_here hu
  cases ra with
  | none =>
    cases rb with
    | none => exact RcAt.none_none
    | bool y => exact RcAt.none_bool y
    | int y u => exact RcAt.none_int y u
    | str y u => exact RcAt.none_str y u
    | @list m ws ys k1 k2 k3 => exact RcAt.none_list k1 hr
    | @tuple m ws ys k1 k2 k3 => exact RcAt.none_tuple k1 hr
    | dict k1 => exact rc_none_dict k1 hr
  | bool x =>
    cases rb with
    | none => exact RcAt.bool_none x
    | bool y => exact RcAt.bool_bool x y
    | int y u => exact RcAt.bool_int x y u
    | str y u => exact RcAt.bool_str x y u
    | @list m ws ys k1 k2 k3 => exact RcAt.bool_list x k1 hr
    | @tuple m ws ys k1 k2 k3 => exact RcAt.bool_tuple x k1 hr
    | dict k1 => exact rc_bool_dict x k1 hr
  | int x t =>
    cases rb with
    | none => exact RcAt.int_none x t
    | bool y => exact RcAt.int_bool x t y
    | int y u => exact RcAt.int_int x t y u
    | str y u => exact RcAt.int_str x t y u
    | @list m ws ys k1 k2 k3 => exact RcAt.int_list x t k1 hr
    | @tuple m ws ys k1 k2 k3 => exact RcAt.int_tuple x t k1 hr
    | dict k1 => exact rc_int_dict x t k1 hr
  | str x t =>
    cases rb with
    | none => exact RcAt.str_none x t
    | bool y => exact RcAt.str_bool x t y
    | int y u => exact RcAt.str_int x t y u
    | str y u => exact RcAt.str_str x t y u
    | @list m ws ys k1 k2 k3 => exact RcAt.str_list x t k1 hr
    | @tuple m ws ys k1 k2 k3 => exact RcAt.str_tuple x t k1 hr
    | dict k1 => exact rc_str_dict x t k1 hr
  | @list l vs xs h1 h2 h3 =>
    cases rb with
    | none => exact RcAt.list_none h1 hr
    | bool y => exact RcAt.list_bool y h1 hr
    | int y u => exact RcAt.list_int y u h1 hr
    | str y u => exact RcAt.list_str y u h1 hr
    | @list m ws ys k1 k2 k3 =>
      show RcAt A s (.ref l) (.ref m) (PyData.eqvAll xs ys)
      have he : ∀ j (j1 : j < vs.size) (j2 : j < ws.size), EqAt A.in1 s vs[j] ws[j] (pairEq xs ys j) := fun j j1 j2 => by
        have j3 : j < xs.length := by omega
        have j4 : j < ys.length := by omega
        have q := eqAt_rd (h3 j j1 j3) (A := A.in1) (k3 j j2 j4) (oneNd_all o j j3 j4) (room_el j3 j4 hu)
        unfold pairEq
        rw [getD_at j3, getD_at j4]
        exact q
      by_cases hsz : vs.size = ws.size
      · rw [← eqvAll_same_length (by omega : xs.length = ys.length), ← h2]
        exact RcAt.lists h1 k1 hsz hr he
      · rw [eqvAll_other_length (by omega : xs.length ≠ ys.length)]
        exact RcAt.lists_lengths h1 k1 (by simpa using hsz) hr
    | @tuple m ws ys k1 k2 k3 => exact RcAt.list_tuple h1 k1 hr
    | dict k1 => exact rc_list_dict k1 h1 hr
  | @tuple l vs xs h1 h2 h3 =>
    cases rb with
    | none => exact RcAt.tuple_none h1 hr
    | bool y => exact RcAt.tuple_bool y h1 hr
    | int y u => exact RcAt.tuple_int y u h1 hr
    | str y u => exact RcAt.tuple_str y u h1 hr
    | @list m ws ys k1 k2 k3 => exact RcAt.tuple_list h1 k1 hr
    | @tuple m ws ys k1 k2 k3 =>
      show RcAt A s (.ref l) (.ref m) (PyData.eqvAll xs ys)
      have he : ∀ j (j1 : j < vs.size) (j2 : j < ws.size), EqAt A.in1 s vs[j] ws[j] (pairEq xs ys j) := fun j j1 j2 => by
        have j3 : j < xs.length := by omega
        have j4 : j < ys.length := by omega
        have q := eqAt_rd (h3 j j1 j3) (A := A.in1) (k3 j j2 j4) (oneNd_all o j j3 j4) (room_el j3 j4 hu)
        unfold pairEq
        rw [getD_at j3, getD_at j4]
        exact q
      rw [← eqvAll_eq xs ys, ← h2, ← k2]
      exact RcAt.tuples h1 k1 hr he
    | dict k1 => exact rc_tuple_dict k1 h1 hr
  | dict h1 =>
    cases rb with
    | none => exact rc_dict_none h1 hr
    | bool y => exact rc_dict_bool y h1 hr
    | int y u => exact rc_dict_int y u h1 hr
    | str y u => exact rc_dict_str y u h1 hr
    | @list m ws ys k1 k2 k3 => exact rc_dict_list h1 k1 hr
    | @tuple m ws ys k1 k2 k3 => exact rc_dict_tuple h1 k1 hr
    | dict k1 => rcases o with o | o <;> cases o
theorem rcNe_rd {a b : Value} {d e : PyData} {A : Around} (ra : Rd s.heap a d) (rb : Rd s.heap b e) (o : oneNd d e) (nd : ∀ kvs, d ≠ .dict kvs) (ne : ∀ kvs, e ≠ .dict kvs) (hu : A.units + min d.depth e.depth < cLine) : RcNeAt A s a b (!PyData.eqv d e) := by
  have hr : A.units < cLine := room_here hu
  cases ra with
  | none =>
    cases rb with
    | none => exact RcNeAt.none_none
    | bool y => exact RcNeAt.none_bool y
    | int y u => exact RcNeAt.none_int y u
    | str y u => exact RcNeAt.none_str y u
    | @list m ws ys k1 k2 k3 => exact RcNeAt.none_list k1 hr
    | @tuple m ws ys k1 k2 k3 => exact RcNeAt.none_tuple k1 hr
    | dict k1 => exact absurd rfl (ne _)
  | bool x =>
    cases rb with
    | none => exact RcNeAt.bool_none x
    | bool y => exact RcNeAt.bool_bool x y
    | int y u => exact RcNeAt.bool_int x y u
    | str y u => exact RcNeAt.bool_str x y u
    | @list m ws ys k1 k2 k3 => exact RcNeAt.bool_list x k1 hr
    | @tuple m ws ys k1 k2 k3 => exact RcNeAt.bool_tuple x k1 hr
    | dict k1 => exact absurd rfl (ne _)
  | int x t =>
    cases rb with
    | none => exact RcNeAt.int_none x t
    | bool y => exact RcNeAt.int_bool x t y
    | int y u => exact RcNeAt.int_int x t y u
    | str y u => exact RcNeAt.int_str x t y u
    | @list m ws ys k1 k2 k3 => exact RcNeAt.int_list x t k1 hr
    | @tuple m ws ys k1 k2 k3 => exact RcNeAt.int_tuple x t k1 hr
    | dict k1 => exact absurd rfl (ne _)
  | str x t =>
    cases rb with
    | none => exact RcNeAt.str_none x t
    | bool y => exact RcNeAt.str_bool x t y
    | int y u => exact RcNeAt.str_int x t y u
    | str y u => exact RcNeAt.str_str x t y u
    | @list m ws ys k1 k2 k3 => exact RcNeAt.str_list x t k1 hr
    | @tuple m ws ys k1 k2 k3 => exact RcNeAt.str_tuple x t k1 hr
    | dict k1 => exact absurd rfl (ne _)
  | @list l vs xs h1 h2 h3 =>
    cases rb with
    | none => exact RcNeAt.list_none h1 hr
    | bool y => exact RcNeAt.list_bool y h1 hr
    | int y u => exact RcNeAt.list_int y u h1 hr
    | str y u => exact RcNeAt.list_str y u h1 hr
    | @list m ws ys k1 k2 k3 =>
      show RcNeAt A s (.ref l) (.ref m) (!PyData.eqvAll xs ys)
      have he : ∀ j (j1 : j < vs.size) (j2 : j < ws.size), EqAt A.in1 s vs[j] ws[j] (pairEq xs ys j) := fun j j1 j2 => by
        have j3 : j < xs.length := by omega
        have j4 : j < ys.length := by omega
        have q := eqAt_rd (h3 j j1 j3) (A := A.in1) (k3 j j2 j4) (oneNd_all o j j3 j4) (room_el j3 j4 hu)
        unfold pairEq
        rw [getD_at j3, getD_at j4]
        exact q
      by_cases hsz : vs.size = ws.size
      · rw [← eqvAll_same_length (by omega : xs.length = ys.length), ← h2]
        exact RcNeAt.lists h1 k1 hsz hr he
      · rw [eqvAll_other_length (by omega : xs.length ≠ ys.length)]
        exact RcNeAt.lists_lengths h1 k1 (by simpa using hsz) hr
    | @tuple m ws ys k1 k2 k3 => exact RcNeAt.list_tuple h1 k1 hr
    | dict k1 => exact absurd rfl (ne _)
  | @tuple l vs xs h1 h2 h3 =>
    cases rb with
    | none => exact RcNeAt.tuple_none h1 hr
    | bool y => exact RcNeAt.tuple_bool y h1 hr
    | int y u => exact RcNeAt.tuple_int y u h1 hr
    | str y u => exact RcNeAt.tuple_str y u h1 hr
    | @list m ws ys k1 k2 k3 => exact RcNeAt.tuple_list h1 k1 hr
    | @tuple m ws ys k1 k2 k3 =>
      show RcNeAt A s (.ref l) (.ref m) (!PyData.eqvAll xs ys)
      have he : ∀ j (j1 : j < vs.size) (j2 : j < ws.size), EqAt A.in1 s vs[j] ws[j] (pairEq xs ys j) := fun j j1 j2 => by
        have j3 : j < xs.length := by omega
        have j4 : j < ys.length := by omega
        have q := eqAt_rd (h3 j j1 j3) (A := A.in1) (k3 j j2 j4) (oneNd_all o j j3 j4) (room_el j3 j4 hu)
        unfold pairEq
        rw [getD_at j3, getD_at j4]
        exact q
      rw [← eqvAll_eq xs ys, ← h2, ← k2]
      exact RcNeAt.tuples h1 k1 hr he
    | dict k1 => exact absurd rfl (ne _)
  | dict h1 => exact absurd rfl (nd _)
theorem ext_all {xs ys : List PyData} (h : xs.length = ys.length) (k : ∀ j (h1 : j < xs.length) (h2 : j < ys.length), xs[j] = ys[j]) : xs = ys := List.ext_getElem h k
theorem Rd.unique {h : Heap} {v : Value} {d e : PyData} (r : Rd h v d) (r' : Rd h v e) (n1 : ndB d = true) (n2 : ndB e = true) : d = e := by
  induction r generalizing e with
  | none => cases r'; rfl
  | bool b => cases r'; rfl
  | int i t => cases r'; rfl
  | str x t => cases r'; rfl
  | @list a vs xs h1 h2 h3 ih =>
    cases r' with
    | @list _ vs' ys k1 k2 k3 =>
      have e1 := isList_inj h1 k1
      subst e1
      rw [ext_all (by omega : xs.length = ys.length) fun j j1 j2 => ih j (by omega) j1 (k3 j (by omega) j2) (ndAll_mem n1 _ (List.getElem_mem j1)) (ndAll_mem n2 _ (List.getElem_mem j2))]
    | tuple k1 k2 k3 => exact (list_not_tuple h1 k1).elim
    | dict k1 => cases n2
  | @tuple a vs xs h1 h2 h3 ih =>
    cases r' with
    | @tuple _ vs' ys k1 k2 k3 =>
      have e1 := isTuple_inj h1 k1
      subst e1
      rw [ext_all (by omega : xs.length = ys.length) fun j j1 j2 => ih j (by omega) j1 (k3 j (by omega) j2) (ndAll_mem n1 _ (List.getElem_mem j1)) (ndAll_mem n2 _ (List.getElem_mem j2))]
    | list k1 k2 k3 => exact (list_not_tuple k1 h1).elim
    | dict k1 => cases n2
  | dict h1 => cases n1
noncomputable def inOf (h : Heap) (xs : List PyData) (d : PyData) (y : Value) : Bool := open Classical in if ∃ k, k ∈ xs ∧ Rd h y k ∧ PyData.eqv k d = true then true else false
theorem inOf_eq {h : Heap} {xs : List PyData} {d k : PyData} {y : Value} (hk : k ∈ xs) (r : Rd h y k) (n : ndAll xs = true) : inOf h xs d y = PyData.eqv k d := by
  unfold inOf
  by_cases c : ∃ k, k ∈ xs ∧ Rd h y k ∧ PyData.eqv k d = true
  · rw [if_pos c]
    obtain ⟨k2, hk2, r2, e2⟩ := c
    rw [Rd.unique r r2 (ndAll_mem n _ hk) (ndAll_mem n _ hk2), e2]
  · rw [if_neg c]
    cases e : PyData.eqv k d with
    | false => rfl
    | true => exact absurd ⟨k, hk, r, e⟩ c
section
variable {A : Around} {x : Value} {d : PyData} {vs : Array Value} {xs : List PyData}
theorem in_items (h2 : vs.size = xs.length) (h3 : ∀ j (h1 : j < vs.size) (h2 : j < xs.length), Rd s.heap vs[j] xs[j]) (rx : Rd s.heap x d) (n : ndAll xs = true) (hu : A.units + 1 + min (PyData.depthAll xs) d.depth < cLine) : ∀ y, y ∈ vs → EqAt A.in1 s y x (inOf s.heap xs d y) := fun y hy => by
  obtain ⟨j, hj, e⟩ := Array.mem_iff_getElem.mp hy
  have hj2 : j < xs.length := by omega
  have r := h3 j hj hj2
  rw [e] at r
  rw [inOf_eq (List.getElem_mem hj2) r n]
  have := depth_le hj2
  refine eqAt_rd r (A := A.in1) rx (.inl (ndAll_mem n _ (List.getElem_mem hj2))) ?_
  show A.units + 1 + min (xs[j]).depth d.depth < cLine
  omega
theorem in_any (h2 : vs.size = xs.length) (h3 : ∀ j (h1 : j < vs.size) (h2 : j < xs.length), Rd s.heap vs[j] xs[j]) (n : ndAll xs = true) : vs.any (inOf s.heap xs d) = xs.any fun y => PyData.eqv y d := by
  have e : vs.toList.map (inOf s.heap xs d) = xs.map fun y => PyData.eqv y d := by
    refine List.ext_getElem (by simpa using h2) fun j j1 j2 => ?_
    have j3 : j < vs.size := by simpa using j1
    have j4 : j < xs.length := by simpa using j2
    have r := h3 j j3 j4
    rw [List.getElem_map, List.getElem_map, Array.getElem_toList]
    exact inOf_eq (List.getElem_mem j4) r n
  have e2 : (vs.toList.map (inOf s.heap xs d)).any id = (xs.map fun y => PyData.eqv y d).any id := by rw [e]
  rw [List.any_map, List.any_map] at e2
  rw [← Array.any_toList]
  exact e2
variable {prog : Program} {w : World} {E : Value → Shared → Prop} {c : Value} {Q : Value → Shared → Prop}
theorem inL_rd (rc : Rd s.heap c (.list xs)) (rx : Rd s.heap x d) (n : ndAll xs = true) (hu : A.units + 1 + min (PyData.depthAll xs) d.depth < cLine) (h : Q (.bool (xs.any fun y => PyData.eqv y d)) s) : wpAny (model prog w) A (compareOp .In x c) Q E s := by
  cases rc with
  | list h1 h2 h3 => exact in_listAt _ h1 (in_items h2 h3 rx n hu) (by rw [in_any h2 h3 n]; exact h)
theorem niL_rd (rc : Rd s.heap c (.list xs)) (rx : Rd s.heap x d) (n : ndAll xs = true) (hu : A.units + 1 + min (PyData.depthAll xs) d.depth < cLine) (h : Q (.bool (!xs.any fun y => PyData.eqv y d)) s) : wpAny (model prog w) A (compareOp .NotIn x c) Q E s := by
  cases rc with
  | list h1 h2 h3 => exact notIn_listAt _ h1 (in_items h2 h3 rx n hu) (by rw [in_any h2 h3 n]; exact h)
theorem inT_rd (rc : Rd s.heap c (.tuple xs)) (rx : Rd s.heap x d) (n : ndAll xs = true) (hu : A.units + 1 + min (PyData.depthAll xs) d.depth < cLine) (h : Q (.bool (xs.any fun y => PyData.eqv y d)) s) : wpAny (model prog w) A (compareOp .In x c) Q E s := by
  cases rc with
  | tuple h1 h2 h3 => exact in_tupleAt _ h1 (in_items h2 h3 rx n hu) (by rw [in_any h2 h3 n]; exact h)
theorem niT_rd (rc : Rd s.heap c (.tuple xs)) (rx : Rd s.heap x d) (n : ndAll xs = true) (hu : A.units + 1 + min (PyData.depthAll xs) d.depth < cLine) (h : Q (.bool (!xs.any fun y => PyData.eqv y d)) s) : wpAny (model prog w) A (compareOp .NotIn x c) Q E s := by
  cases rc with
  | tuple h1 h2 h3 => exact notIn_tupleAt _ h1 (in_items h2 h3 rx n hu) (by rw [in_any h2 h3 n]; exact h)
end
end
end DcEq
/-! Mi: judgements over plain data -/
namespace Mi
open PySem PySem.Spec PyProof.Rows L2
/-- the known part of the heap, and the world (hash of texts) -/
structure Frag where
  toFrag : PySem.W.Frag
  w : World
instance : CoeOut Frag PySem.W.Frag := ⟨Frag.toFrag⟩
abbrev _root_.L2.Cx.kx (X : Cx) : Frag := ⟨X.K, X.w⟩
/-! ### data as keys -/
mutual
def nk : PyData → Option NestedKey
  | .none => some .none
  | .bool b => some (.num (if b = true then 1 else 0))
  | .int i => some (.num i)
  | .str x => some (.text x)
  | .tuple ds => match nks ds with
    | some ks => some (.tup ks)
    | none => none
  | .list _ => none
  | .dict _ => none
def nks : List PyData → Option (List NestedKey)
  | [] => some []
  | d :: ds => match nk d, nks ds with
    | some k, some ks => some (k :: ks)
    | _, _ => none
end
def isTupD : PyData → Bool
  | .tuple _ => true
  | _ => false
/-- a key that a dict may have: of no list, not deep -/
def keyOk (d : PyData) : Bool := match nk d with
  | some k => decide (k.depth ≤ 8)
  | none => false
/-- all keys are tuples, or none is; no two are the same -/
def keysOk (ds : List (PyData × PyData)) : Prop := (∀ p ∈ ds, keyOk p.1 = true) ∧ ((∀ p ∈ ds, isTupD p.1 = true) ∨ (∀ p ∈ ds, isTupD p.1 = false)) ∧ (ds.map fun p => nk p.1).Nodup
def hashK (w : World) (d : PyData) : Int := match nk d with
  | some k => k.hash w
  | none => 0
/-! what a dict tells -/
def hasD (ds : List (PyData × PyData)) (k : PyData) : Bool := ds.any fun p => decide (nk p.1 = nk k)
def lkD (ds : List (PyData × PyData)) (k : PyData) : Option PyData := (ds.find? fun p => decide (nk p.1 = nk k)).map (·.2)
def plD (ds : List (PyData × PyData)) (k : PyData) : Option Nat := ds.findIdx? fun p => decide (nk p.1 = nk k)
def putD (ds : List (PyData × PyData)) (k v : PyData) : List (PyData × PyData) := match plD ds k with
  | some j => ds.modify j fun p => (p.1, v)
  | none => ds ++ [(k, v)]
/-- a key that goes with those that are there -/
def kFit (ds : List (PyData × PyData)) (k : PyData) : Bool := keyOk k && ds.all fun p => isTupD p.1 == isTupD k
/-- the dict's object at a -/
def DHas (a : Addr) (es : Array DictEntry) (ep : Nat) : Heap → Prop := fun h => (a == sysModules) = false ∧ es.size ≤ sizeLine ∧ h.get? a = some { cls := .type "dict", data := .dict es ep }
abbrev dO (a : Addr) (es : Array DictEntry) (ep : Nat) : HO := .ext (DHas a es ep)
/-- a tuple of which all is known -/
abbrev tO (its : List Value) (xs : List V) : HO := .frz { cls := .type "tuple", data := .seq its.toArray } (.tup xs)
def SqX (K : PySem.W.Frag) (H : Hp) (a : Addr) (xs : List V) : Prop :=
  (∃ its, H a = some (tO its xs)) ∨
    ∃ (o : Obj) (its : Array Value) (n : Nat), K.lookup a = some o ∧ o.cls = .type "tuple" ∧ o.dict = none ∧ o.data = .seq its n ∧ its.size ≤ sizeLine ∧ Vals xs its.toList
theorem SqX.sq {K : PySem.W.Frag} {H : Hp} {a : Addr} {xs : List V} (h : SqX K H a xs) : SqT K H a xs := by
  rcases h with ⟨its, h⟩ | ⟨o, its, n, h1, h2, _, h3, h4, h5⟩
  · exact .inl (.inr ⟨_, h⟩)
  · exact .inr ⟨o, its, n, h1, h2, h3, h4, h5⟩
instance {K : PySem.W.Frag} {H : Hp} {a : Addr} {xs : List V} : CoeOut (SqX K H a xs) (SqT K H a xs) := ⟨SqX.sq⟩
theorem sqX_same {K : PySem.W.Frag} {H H' : Hp} {a : Addr} {xs : List V} (e : Same H H') (h : SqX K H a xs) : SqX K H' a xs := by
  rcases h with ⟨its, h⟩ | h
  · exact .inl ⟨its, e _ _ h⟩
  · exact .inr h
/-! ### data at addresses -/
mutual
inductive Rp (K : Frag) (H : Hp) : V → PyData → Prop
  | non : Rp K H .non .none
  | bl (b : Bool) : Rp K H (.bl b) (.bool b)
  | int (i : Int) : Rp K H (.int i) (.int i)
  | str (x : Str) : Rp K H (.str x) (.str x)
  | lst {a : Addr} {xs : List V} {ds : List PyData} : H a = some (.lst xs) → RpAll K H xs ds → Rp K H (.ref a) (.list ds)
  | tup {a : Addr} {xs : List V} {ds : List PyData} : SqX K H a xs → RpAll K H xs ds → Rp K H (.ref a) (.tuple ds)
  | dict {a : Addr} {es : Array DictEntry} {ep : Nat} {ds : List (PyData × PyData)} : H a = some (dO a es ep) → keysOk ds → RpKV K H es.toList ds → Rp K H (.ref a) (.dict ds)
inductive RpAll (K : Frag) (H : Hp) : List V → List PyData → Prop
  | nil : RpAll K H [] []
  | cons {v : V} {vs : List V} {d : PyData} {ds : List PyData} : Rp K H v d → RpAll K H vs ds → RpAll K H (v :: vs) (d :: ds)
inductive RpKV (K : Frag) (H : Hp) : List DictEntry → List (PyData × PyData) → Prop
  | nil : RpKV K H [] []
  | cons {t : DictEntry} {k v : V} {vs : List DictEntry} {e d : PyData} {ds : List (PyData × PyData)} : t.hash = hashK K.w e → RelV k t.key → RelV v t.val → Rp K H k e → Rp K H v d → RpKV K H vs ds → RpKV K H (t :: vs) ((e, d) :: ds)
end
theorem sqT_same {K : Frag} {H H' : Hp} {a : Addr} {xs : List V} (e : Same H H') (h : SqX K H a xs) : SqT K H' a xs := (sqX_same e h).sq
section
variable {K : Frag} {H H' : Hp}
mutual
theorem Rp.mono (s : Same H H') : ∀ (d : PyData) (v : V), Rp K H v d → Rp K H' v d
  | .none, _, h => by cases h; exact .non
  | .bool b, _, h => by cases h; exact .bl b
  | .int i, _, h => by cases h; exact .int i
  | .str x, _, h => by cases h; exact .str x
  | .list ds, _, h => by
    cases h with
    | lst h1 h2 => exact .lst (s _ _ h1) (RpAll.mono s ds _ h2)
  | .tuple ds, _, h => by
    cases h with
    | tup h1 h2 => exact .tup (sqX_same s h1) (RpAll.mono s ds _ h2)
  | .dict ds, _, h => by
    cases h with
    | dict h1 h0 h2 => exact .dict (s _ _ h1) h0 (RpKV.mono s ds _ h2)
theorem RpAll.mono (s : Same H H') : ∀ (ds : List PyData) (vs : List V), RpAll K H vs ds → RpAll K H' vs ds
  | [], _, h => by cases h; exact .nil
  | d :: ds, _, h => by
    cases h with
    | cons h1 h2 => exact .cons (Rp.mono s d _ h1) (RpAll.mono s ds _ h2)
theorem RpKV.mono (s : Same H H') : ∀ (ds : List (PyData × PyData)) (vs : List DictEntry), RpKV K H vs ds → RpKV K H' vs ds
  | [], _, h => by cases h; exact .nil
  | (e, d) :: ds, _, h => by
    cases h with
    | cons a1 a2 a3 h0 h1 h2 => exact .cons a1 a2 a3 (Rp.mono s e _ h0) (Rp.mono s d _ h1) (RpKV.mono s ds _ h2)
end
theorem Rp.up {v : V} {d : PyData} (h : Rp K H v d) (s : Same H H') : Rp K H' v d := Rp.mono s d v h
theorem RpAll.up {v : List V} {d : List PyData} (h : RpAll K H v d) (s : Same H H') : RpAll K H' v d := RpAll.mono s d v h
theorem RpKV.up {v : List DictEntry} {d : List (PyData × PyData)} (h : RpKV K H v d) (s : Same H H') : RpKV K H' v d := RpKV.mono s d v h
theorem RpAll.len : ∀ {vs : List V} {ds : List PyData}, RpAll K H vs ds → vs.length = ds.length
  | _, _, .nil => rfl
  | _, _, .cons _ t => congrArg (· + 1) (RpAll.len t)
theorem RpAll.app : ∀ {vs us : List V} {ds es : List PyData}, RpAll K H vs ds → RpAll K H us es → RpAll K H (vs ++ us) (ds ++ es)
  | _, _, _, _, .nil, h => h
  | _, _, _, _, .cons a t, h => .cons a (RpAll.app t h)
theorem RpAll.get : ∀ {vs : List V} {ds : List PyData} {i : Nat} {d : PyData}, RpAll K H vs ds → ds[i]? = some d → ∃ v, vs[i]? = some v ∧ Rp K H v d
  | _, _, _, _, .nil, h => by simp at h
  | _, _, 0, _, .cons a _, h => by
    simp at h
    subst h
    exact ⟨_, rfl, a⟩
  | _, _, i + 1, _, .cons _ t, h => by
    obtain ⟨v, h1, h2⟩ := RpAll.get (i := i) t (by simpa using h)
    exact ⟨v, by simpa using h1, h2⟩
theorem RpAll.got : ∀ {vs : List V} {ds : List PyData} {i : Nat} {v : V}, RpAll K H vs ds → vs[i]? = some v → ∃ d, ds[i]? = some d ∧ Rp K H v d
  | _, _, _, _, .nil, h => by simp at h
  | _, _, 0, _, .cons a _, h => by
    simp at h
    subst h
    exact ⟨_, rfl, a⟩
  | _, _, i + 1, _, .cons _ t, h => by
    obtain ⟨v, h1, h2⟩ := RpAll.got (i := i) t (by simpa using h)
    exact ⟨v, by simpa using h1, h2⟩
theorem RpAll.take : ∀ {vs : List V} {ds : List PyData} (n : Nat), RpAll K H vs ds → RpAll K H (vs.take n) (ds.take n)
  | _, _, 0, _ => by simpa using .nil
  | _, _, _ + 1, .nil => by simpa using .nil
  | _, _, n + 1, .cons a t => by simpa using .cons a (RpAll.take n t)
theorem RpAll.drop : ∀ {vs : List V} {ds : List PyData} (n : Nat), RpAll K H vs ds → RpAll K H (vs.drop n) (ds.drop n)
  | _, _, 0, h => by simpa using h
  | _, _, _ + 1, .nil => by simpa using .nil
  | _, _, n + 1, .cons a t => by simpa using RpAll.drop n t
theorem RpAll.rev : ∀ {vs : List V} {ds : List PyData}, RpAll K H vs ds → RpAll K H vs.reverse ds.reverse
  | _, _, .nil => .nil
  | _, _, .cons a t => by simpa using (RpAll.rev t).app (.cons a .nil)
theorem RpAll.set : ∀ {vs : List V} {ds : List PyData} (i : Nat) {v : V} {d : PyData}, RpAll K H vs ds → Rp K H v d → RpAll K H (vs.set i v) (ds.set i d)
  | _, _, _, _, _, .nil, _ => by simpa using .nil
  | _, _, 0, _, _, .cons _ t, h => by simpa using .cons h t
  | _, _, i + 1, _, _, .cons a t, h => by simpa using .cons a (RpAll.set i t h)
theorem RpAll.ints : ∀ (ns : List Int), RpAll K H (ns.map V.int) (ns.map PyData.int)
  | [] => .nil
  | n :: r => .cons (.int n) (RpAll.ints r)
end
/-! ### slots and frames -/
/-- a slot: nothing known, plain data, or an object that this def owns and may change -/
inductive Sl where
  | dead
  | dat (d : PyData)
  | own (t : Bool) (d : PyData)
abbrev Gm := List Sl
inductive Er where
  | stuck
  | exc (c : String) (g : Gm)
/-- a computation over the slots -/
def MM (α : Type) : Type := Gm → Except Er (α × Gm)
structure Frm where
  S : Addr → Prop
  G : Hp
  H : Hp
  p0 : Addr := 0
/-- the owned object at p has this content -/
def Own (K : Frag) (G H : Hp) (p : Addr) : PyData → Prop
  | .list ds => ∃ xs, H p = some (.lst xs) ∧ RpAll K G xs ds
  | .dict ds => ∃ es ep, H p = some (dO p es ep) ∧ keysOk ds ∧ RpKV K G es.toList ds
  | _ => False
theorem Own.some {K : Frag} {G H : Hp} {p : Addr} : ∀ {d : PyData}, Own K G H p d → ∃ o, H p = some o
  | .list _, ⟨_, h, _⟩ => ⟨_, h⟩
  | .dict _, ⟨_, _, h, _⟩ => ⟨_, h⟩
theorem Own.up {K : Frag} {G H G' H' : Hp} {p : Addr} (s : Same G G') (e : H' p = H p) : ∀ {d : PyData}, Own K G H p d → Own K G' H' p d
  | .list _, ⟨_, h, r⟩ => ⟨_, by rw [e]; exact h, r.up s⟩
  | .dict _, ⟨_, _, h, k, r⟩ => ⟨_, _, by rw [e]; exact h, k, r.up s⟩
structure At (K : Frag) (F : Frm) (σ : L2.St) (g : Gm) (G H : Hp) : Prop where
  ex : Same G H
  g0 : Same F.G G
  h0 : ∀ a o, F.H a = some o → ¬ F.S a → H a = some o
  f0 : ∀ a o, F.H a = some o → ¬ F.S a → G a = F.G a
  n0 : ∀ a, H a = none → F.H a = none
  len : σ.length = g.length
  pur : ∀ (i : Nat) (d : PyData), g[i]? = some (.dat d) → ∃ v, σ[i]? = some (some v) ∧ Rp K G v d
  own : ∀ (i : Nat) (t : Bool) (d : PyData), g[i]? = some (.own t d) → ∃ p, σ[i]? = some (some (.ref p)) ∧ G p = none ∧ Own K G H p d ∧ (F.S p ∨ F.H p = none) ∧ (t = true → p = F.p0)
  inj : ∀ (i j : Nat) (t u : Bool) (d e : PyData) (p : Addr), g[i]? = some (.own t d) → g[j]? = some (.own u e) → σ[i]? = some (some (.ref p)) → σ[j]? = some (some (.ref p)) → i = j
/-- the heap has grown by new objects -/
structure Gr (G H G' H' : Hp) : Prop where
  g : Same G G'
  h : Same H H'
  e : Same G' H'
  f : ∀ a o, H a = some o → G' a = G a
theorem Gr.refl {G H : Hp} (e : Same G H) : Gr G H G H := ⟨Same.refl _, Same.refl _, e, fun _ _ _ => rfl⟩
theorem Gr.new {G H : Hp} (e : Same G H) {p : Addr} {o : HO} (hp : H p = none) : Gr G H (upd G p o) (upd H p o) := by
  have gp : G p = none := e.free hp
  refine ⟨fun a u h => ?_, fun a u h => ?_, fun a u h => ?_, fun a u h => ?_⟩
  · rw [upd_ne (ne_of_none h gp)]; exact h
  · rw [upd_ne (ne_of_none h hp)]; exact h
  · by_cases q : a = p
    · subst q
      rw [upd_same] at h
      rw [upd_same]; exact h
    · rw [upd_ne q] at h
      rw [upd_ne q]; exact e _ _ h
  · rw [upd_ne (ne_of_none h hp)]
theorem Gr.trans {G H G1 H1 G2 H2 : Hp} (a : Gr G H G1 H1) (b : Gr G1 H1 G2 H2) : Gr G H G2 H2 :=
  ⟨a.g.trans b.g, a.h.trans b.h, b.e, fun x o h => (b.f x o (a.h _ _ h)).trans (a.f x o h)⟩
theorem same_new {H : Hp} {p : Addr} {o : HO} (h : H p = none) : Same H (upd H p o) := fun a u e => by
  rw [upd_ne (ne_of_none e h)]; exact e
section
variable {K : Frag} {F : Frm} {σ : L2.St} {g : Gm} {G H G' H' : Hp}
theorem At.grow (A : At K F σ g G H) (r : Gr G H G' H') : At K F σ g G' H' := by
  refine ⟨r.e, A.g0.trans r.g, fun a o h s => r.h _ _ (A.h0 a o h s), fun a o h s => (r.f a o (A.h0 a o h s)).trans (A.f0 a o h s), fun a h => A.n0 a (r.h.free h), A.len, fun i d h => ?_, fun i t d h => ?_, A.inj⟩
  · obtain ⟨v, h1, h2⟩ := A.pur i d h
    exact ⟨v, h1, h2.up r.g⟩
  · obtain ⟨p, h1, h2, h3, h4⟩ := A.own i _ d h
    obtain ⟨o, ho⟩ := h3.some
    exact ⟨p, h1, (r.f p o ho).trans h2, h3.up r.g ((r.h _ _ ho).trans ho.symm), h4⟩
/-- a slot that holds data -/
theorem At.put (A : At K F σ g G H) {i : Nat} {v : V} {d : PyData} (r : Rp K G v d) : At K F (σ.set i (some v)) (g.set i (.dat d)) G H := by
  refine ⟨A.ex, A.g0, A.h0, A.f0, A.n0, by simpa using A.len, fun j e h => ?_, fun j t e h => ?_, fun j k t u e e' p h1 h2 h3 h4 => ?_⟩
  · by_cases q : i = j
    · subst q
      by_cases hi : i < g.length
      · rw [List.getElem?_set_self hi] at h
        cases h
        exact ⟨v, List.getElem?_set_self (by rw [A.len]; exact hi), r⟩
      · rw [List.getElem?_eq_none (by simpa using hi)] at h; cases h
    · rw [List.getElem?_set_ne q] at h ⊢
      exact A.pur j e h
  · by_cases q : i = j
    · subst q
      by_cases hi : i < g.length
      · rw [List.getElem?_set_self hi] at h; cases h
      · rw [List.getElem?_eq_none (by simpa using hi)] at h; cases h
    · rw [List.getElem?_set_ne q] at h ⊢
      exact A.own j _ e h
  · have q1 : i ≠ j := fun q => by
      subst q
      by_cases hi : i < g.length
      · rw [List.getElem?_set_self hi] at h1; cases h1
      · rw [List.getElem?_eq_none (by simpa using hi)] at h1; cases h1
    have q2 : i ≠ k := fun q => by
      subst q
      by_cases hi : i < g.length
      · rw [List.getElem?_set_self hi] at h2; cases h2
      · rw [List.getElem?_eq_none (by simpa using hi)] at h2; cases h2
    rw [List.getElem?_set_ne q1] at h1 h3
    rw [List.getElem?_set_ne q2] at h2 h4
    exact A.inj j k _ _ e e' p h1 h2 h3 h4
/-- a slot forgotten -/
theorem At.kill (A : At K F σ g G H) (i : Nat) : At K F σ (g.set i .dead) G H := by
  have ne : ∀ {j : Nat} {s : Sl}, s ≠ .dead → (g.set i .dead)[j]? = some s → g[j]? = some s := fun {j s} hs h => by
    by_cases q : i = j
    · subst q
      by_cases hi : i < g.length
      · rw [List.getElem?_set_self hi] at h; cases h; exact absurd rfl hs
      · rw [List.getElem?_eq_none (by simpa using hi)] at h; cases h
    · rw [List.getElem?_set_ne q] at h; exact h
  exact ⟨A.ex, A.g0, A.h0, A.f0, A.n0, by simpa using A.len, fun j e h => A.pur j e (ne (by simp) h), fun j _ e h => A.own j _ e (ne (by simp) h), fun j k t u e e' p h1 h2 => A.inj j k _ _ e e' p (ne (by simp) h1) (ne (by simp) h2)⟩
/-- what is at σ may be anything where the slot is dead -/
theorem At.slot (A : At K F σ g G H) {i : Nat} {v : Option V} (h : g[i]? = some .dead ∨ g.length ≤ i) : At K F (σ.set i v) g G H := by
  have ne : ∀ {j : Nat} {s : Sl}, s ≠ .dead → g[j]? = some s → i ≠ j := fun {j s} hs e q => by
    subst q
    rcases h with h | h
    · rw [h] at e; cases e; exact hs rfl
    · rw [List.getElem?_eq_none h] at e; cases e
  refine ⟨A.ex, A.g0, A.h0, A.f0, A.n0, by simpa using A.len, fun j e h => ?_, fun j t e h => ?_, fun j k t u e e' p h1 h2 => ?_⟩
  · rw [List.getElem?_set_ne (ne (by simp) h)]; exact A.pur j e h
  · rw [List.getElem?_set_ne (ne (by simp) h)]; exact A.own j _ e h
  · rw [List.getElem?_set_ne (ne (by simp) h1), List.getElem?_set_ne (ne (by simp) h2)]; exact A.inj j k _ _ e e' p h1 h2
/-- an owned object is changed -/
theorem At.change (A : At K F σ g G H) {i : Nat} {p : Addr} {t : Bool} {d d' : PyData} {o : HO} (hi : g[i]? = some (.own t d)) (hp : σ[i]? = some (some (.ref p))) (h : Own K G (upd H p o) p d') : At K F σ (g.set i (.own t d')) G (upd H p o) := by
  obtain ⟨p', h1, h2, h3, h4, h5⟩ := A.own i _ d hi
  rw [hp] at h1
  cases h1
  have hl : i < g.length := by
    rcases Nat.lt_or_ge i g.length with q | q
    · exact q
    · rw [List.getElem?_eq_none q] at hi; cases hi
  refine ⟨fun a u e => ?_, A.g0, fun a u e s => ?_, A.f0, fun a e => ?_, by simpa using A.len, fun j e z => ?_, fun j t2 e z => ?_, fun j k t2 u e e' q z1 z2 z3 z4 => ?_⟩
  · rw [upd_ne (ne_of_none e h2)]; exact A.ex _ _ e
  · have ne : a ≠ p := fun q => by
      subst q
      rcases h4 with h4 | h4
      · exact s h4
      · rw [h4] at e; cases e
    rw [upd_ne ne]; exact A.h0 a u e s
  · by_cases q : a = p
    · subst q
      rw [upd_same] at e; cases e
    · rw [upd_ne q] at e; exact A.n0 a e
  · by_cases q : i = j
    · subst q
      rw [List.getElem?_set_self hl] at z; cases z
    · rw [List.getElem?_set_ne q] at z; exact A.pur j e z
  · by_cases q : i = j
    · subst q
      rw [List.getElem?_set_self hl] at z; cases z
      exact ⟨p, hp, h2, h, h4, h5⟩
    · rw [List.getElem?_set_ne q] at z
      obtain ⟨p2, y1, y2, y3, y4⟩ := A.own j _ e z
      have ne : p2 ≠ p := fun w => q (A.inj i j _ _ d e p hi z hp (w ▸ y1))
      exact ⟨p2, y1, y2, y3.up (Same.refl _) (upd_ne ne), y4⟩
  · have un : ∀ {k : Nat} {v : Bool} {e : PyData}, (g.set i (.own t d'))[k]? = some (.own v e) → ∃ v2 e2, g[k]? = some (.own v2 e2) := fun {k v e} z => by
      by_cases q : i = k
      · subst q; exact ⟨t, d, hi⟩
      · rw [List.getElem?_set_ne q] at z; exact ⟨v, e, z⟩
    obtain ⟨_, e2, w1⟩ := un z1
    obtain ⟨_, e3, w2⟩ := un z2
    exact A.inj j k _ _ e2 e3 q w1 w2 z3 z4
/-- a new object at p goes into slot i as one's own -/
theorem At.fresh (A : At K F σ g G H) {i : Nat} {p : Addr} {d : PyData} {o : HO} (hp : H p = none) (h : Own K G (upd H p o) p d) : At K F (σ.set i (some (.ref p))) (g.set i (.own false d)) G (upd H p o) := by
  have gp : G p = none := A.ex.free hp
  have ne : ∀ {j : Nat} {t : Bool} {e : PyData} {q : Addr}, g[j]? = some (.own t e) → σ[j]? = some (some (.ref q)) → q ≠ p := fun {j t e q} z y w => by
    obtain ⟨p2, y1, _, y3, _⟩ := A.own j _ e z
    rw [y] at y1
    cases y1
    obtain ⟨o', ho⟩ := y3.some
    rw [w, hp] at ho; cases ho
  refine ⟨fun a u e => ?_, A.g0, fun a u e s => ?_, A.f0, fun a e => ?_, by simpa using A.len, fun j e z => ?_, fun j t2 e z => ?_, fun j k t2 u e e' q z1 z2 z3 z4 => ?_⟩
  · rw [upd_ne (ne_of_none e gp)]; exact A.ex _ _ e
  · rw [upd_ne (ne_of_none (A.h0 a u e s) hp)]; exact A.h0 a u e s
  · by_cases q : a = p
    · subst q
      rw [upd_same] at e; cases e
    · rw [upd_ne q] at e; exact A.n0 a e
  · by_cases q : i = j
    · subst q
      by_cases hi : i < g.length
      · rw [List.getElem?_set_self hi] at z; cases z
      · rw [List.getElem?_eq_none (by simpa using hi)] at z; cases z
    · rw [List.getElem?_set_ne q] at z ⊢; exact A.pur j e z
  · by_cases q : i = j
    · subst q
      by_cases hi : i < g.length
      · rw [List.getElem?_set_self hi] at z; cases z
        exact ⟨p, List.getElem?_set_self (by rw [A.len]; exact hi), gp, h, .inr (A.n0 p hp), fun q => nomatch q⟩
      · rw [List.getElem?_eq_none (by simpa using hi)] at z; cases z
    · rw [List.getElem?_set_ne q] at z ⊢
      obtain ⟨p2, y1, y2, y3, y4⟩ := A.own j _ e z
      exact ⟨p2, y1, y2, y3.up (Same.refl _) (upd_ne (ne z y1)), y4⟩
  · by_cases q1 : i = j
    · by_cases q2 : i = k
      · rw [← q1, ← q2]
      · exfalso
        subst q1
        rw [List.getElem?_set_ne q2] at z2 z4
        by_cases hi : i < σ.length
        · rw [List.getElem?_set_self hi] at z3; cases z3
          exact ne z2 z4 rfl
        · rw [List.getElem?_eq_none (by simpa using hi)] at z3; cases z3
    · by_cases q2 : i = k
      · exfalso
        subst q2
        rw [List.getElem?_set_ne q1] at z1 z3
        by_cases hi : i < σ.length
        · rw [List.getElem?_set_self hi] at z4; cases z4
          exact ne z1 z3 rfl
        · rw [List.getElem?_eq_none (by simpa using hi)] at z4; cases z4
      · rw [List.getElem?_set_ne q1] at z1 z3
        rw [List.getElem?_set_ne q2] at z2 z4
        exact A.inj j k _ _ e e' q z1 z2 z3 z4
/-- an owned object is frozen: from now on it is plain data -/
theorem At.freeze (A : At K F σ g G H) {i : Nat} {t : Bool} {d : PyData} (hi : g[i]? = some (.own t d)) : ∃ p G', σ[i]? = some (some (.ref p)) ∧ At K F σ (g.set i (.dat d)) G' H ∧ Same G G' ∧ Rp K G' (.ref p) d := by
  obtain ⟨p, h1, h2, h3, h4, h5⟩ := A.own i _ d hi
  have hl : i < g.length := by
    rcases Nat.lt_or_ge i g.length with q | q
    · exact q
    · rw [List.getElem?_eq_none q] at hi; cases hi
  obtain ⟨o, ho⟩ := h3.some
  have sg : Same G (upd G p o) := same_new h2
  have rp : Rp K (upd G p o) (.ref p) d := by
    cases d with
    | list ds =>
      obtain ⟨xs, q1, q2⟩ := h3
      rw [q1] at ho; cases ho
      exact .lst upd_same (q2.up sg)
    | dict ds =>
      obtain ⟨es, ep, q1, q0, q2⟩ := h3
      rw [q1] at ho; cases ho
      exact .dict upd_same q0 (q2.up sg)
    | _ => exact h3.elim
  refine ⟨p, upd G p o, h1, ⟨fun a u e => ?_, A.g0.trans sg, A.h0, fun a u e s => ?_, A.n0, by simpa using A.len, fun j e z => ?_, fun j t2 e z => ?_, fun j k t2 u e e' q z1 z2 z3 z4 => ?_⟩, sg, rp⟩
  · by_cases q : a = p
    · subst q
      rw [upd_same] at e; cases e; exact ho
    · rw [upd_ne q] at e; exact A.ex _ _ e
  · have ne : a ≠ p := fun q => by
      subst q
      rcases h4 with h4 | h4
      · exact s h4
      · rw [h4] at e; cases e
    rw [upd_ne ne]; exact A.f0 a u e s
  · by_cases q : i = j
    · subst q
      rw [List.getElem?_set_self hl] at z; cases z
      exact ⟨_, h1, rp⟩
    · rw [List.getElem?_set_ne q] at z
      obtain ⟨v, y1, y2⟩ := A.pur j e z
      exact ⟨v, y1, y2.up sg⟩
  · by_cases q : i = j
    · subst q
      rw [List.getElem?_set_self hl] at z; cases z
    · rw [List.getElem?_set_ne q] at z
      obtain ⟨p2, y1, y2, y3, y4⟩ := A.own j _ e z
      have ne : p2 ≠ p := fun w => q (A.inj i j _ _ d e p hi z h1 (w ▸ y1))
      exact ⟨p2, y1, by rw [upd_ne ne]; exact y2, y3.up sg rfl, y4⟩
  · have un : ∀ {k : Nat} {v : Bool} {e : PyData}, (g.set i (.dat d))[k]? = some (.own v e) → g[k]? = some (.own v e) := fun {k v e} z => by
      by_cases q : i = k
      · subst q
        rw [List.getElem?_set_self hl] at z; cases z
      · rw [List.getElem?_set_ne q] at z; exact z
    exact A.inj j k _ _ e e' q (un z1) (un z2) z3 z4
end
end Mi
namespace Mi
open PySem PySem.Spec PyProof.Rows L2
abbrev Mg := Str → Option Value
/-! ### computations -/
def bnd {α β : Type} (m : MM α) (f : α → MM β) : MM β := fun g => match m g with
  | .ok (a, g') => f a g'
  | .error e => .error e
def ret {α : Type} (a : α) : MM α := fun g => .ok (a, g)
def lft {α : Type} (o : Option α) : MM α := fun g => match o with
  | some a => .ok (a, g)
  | none => .error .stuck
/-- reading a name: an owned object is frozen by it -/
def rdV (i : Nat) : MM PyData := fun g => match g[i]? with
  | some (.dat d) => .ok (d, g)
  | some (.own _ d) => .ok (d, g.set i (.dat d))
  | _ => .error .stuck
/-- looking at a name: nothing changes -/
def pkV (i : Nat) : MM PyData := fun g => match g[i]? with
  | some (.dat d) => .ok (d, g)
  | some (.own _ d) => .ok (d, g)
  | _ => .error .stuck
def Po {α : Type} (K : Frag) (mg : Mg) (W : WX) (F : Frm) (σ : L2.St) (G : Hp) (r : Except Er (α × Gm)) (k : α → Gm → Hp → Hp → Prop) : Prop :=
  match r with
  | .ok (a, g') => ∀ G' H', At K F σ g' G' H' → Same G G' → k a g' G' H'
  | .error (.exc c g') => ∀ C : Addr, mg (Str.ofString c) = some (.ref C) → ∀ G' H', At K F σ g' G' H' → Same G G' → W (.ref C) none σ H'
  | .error .stuck => False
section
variable {α β : Type} {K : Frag} {mg : Mg} {W : WX} {F : Frm} {σ : L2.St} {G G1 H : Hp} {g : Gm} {r : Except Er (α × Gm)} {k k' : α → Gm → Hp → Hp → Prop}
theorem Po.base (s : Same G G1) (h : Po K mg W F σ G r k) : Po K mg W F σ G1 r k := by
  rcases r with (_ | ⟨c, g'⟩) | ⟨a, g'⟩
  · exact h
  · exact fun C e G' H' A s' => h C e G' H' A (s.trans s')
  · exact fun G' H' A s' => h G' H' A (s.trans s')
theorem Po.imp (h : Po K mg W F σ G r k) (i : ∀ a g' G' H', At K F σ g' G' H' → Same G G' → k a g' G' H' → k' a g' G' H') : Po K mg W F σ G r k' := by
  rcases r with (_ | ⟨c, g'⟩) | ⟨a, g'⟩
  · exact h
  · exact h
  · exact fun G' H' A s => i _ _ _ _ A s (h G' H' A s)
theorem Po.bnd {m : MM α} {f : α → MM β} {k : β → Gm → Hp → Hp → Prop} (h : Po K mg W F σ G (Mi.bnd m f g) k) : Po K mg W F σ G (m g) fun a g1 G1 _ => Po K mg W F σ G1 (f a g1) k := by
  unfold Mi.bnd at h
  generalize e : m g = r at h
  rcases r with (_ | ⟨c, g'⟩) | ⟨a, g'⟩
  · exact h
  · exact h
  · exact fun G' H' A s => Po.base s h
theorem Po.lft {o : Option α} {k : α → Gm → Hp → Hp → Prop} (h : Po K mg W F σ G (Mi.lft o g) k) : ∃ a, o = some a ∧ ∀ G' H', At K F σ g G' H' → Same G G' → k a g G' H' := by
  unfold Mi.lft at h
  cases o with
  | none => exact h.elim
  | some a => exact ⟨a, rfl, h⟩
end
/-! ### canonical readings -/
def cE (K : Frag) (mg : Mg) (W : WX) (m : MM PyData) : TE := fun σ H Q => ∃ F g G, At K F σ g G H ∧ Po K mg W F σ G (m g) fun d _ G' H' => ∀ v, Rp K G' v d → Q v H'
/-- a value that may be an owned object -/
def Rq (K : Frag) (G H : Hp) (v : V) (d : PyData) : Prop := Rp K G v d ∨ ∃ p, v = .ref p ∧ Own K G H p d
def cQ (K : Frag) (mg : Mg) (W : WX) (m : MM PyData) : TE := fun σ H Q => ∃ F g G, At K F σ g G H ∧ Po K mg W F σ G (m g) fun d _ G' H' => ∀ v, Rq K G' H' v d → Q v H'
def cT (K : Frag) (mg : Mg) (W : WX) (m : MM Bool) : TT := fun σ H Q => ∃ F g G, At K F σ g G H ∧ Po K mg W F σ G (m g) fun b _ G' H' => Q b H'
def cA (K : Frag) (mg : Mg) (W : WX) (m : MM (List PyData)) : TA := fun σ H Q => ∃ F g G, At K F σ g G H ∧ Po K mg W F σ G (m g) fun ds _ G' H' => ∀ vs, RpAll K G' vs ds → Q vs H'
def cO (K : Frag) (mg : Mg) (W : WX) (m : MM (Option Int)) : TO := fun σ H Q => ∃ F g G, At K F σ g G H ∧ Po K mg W F σ G (m g) fun o _ G' H' => Q o H'
def ME (X : Cx) (W : WX) (e : Expr) (m : MM PyData) : Prop := PE X e (cE X.kx X.mg W m)
def MQ (X : Cx) (W : WX) (e : Expr) (m : MM PyData) : Prop := PE X e (cQ X.kx X.mg W m)
def MT (X : Cx) (W : WX) (e : Expr) (m : MM Bool) : Prop := PT X e (cT X.kx X.mg W m)
def MW (X : Cx) (W : WX) (e : Expr) (m : MM Bool) : Prop := PW X e (cT X.kx X.mg W m)
def MA (X : Cx) (W : WX) (es : List Expr) (m : MM (List PyData)) : Prop := PA X es (cA X.kx X.mg W m)
def MO (X : Cx) (W : WX) (e : Option Expr) (m : MM (Option Int)) : Prop := PO X e (cO X.kx X.mg W m)
section
variable {X : Cx} {W : WX} {e a b c : Expr} {t t' : TE} {tt tt' : TT} {ta ta' : TA} {es : List Expr} {pos : Pos}
theorem _root_.L2.PE.wk (h : PE X e t) (i : ∀ σ H Q, t' σ H Q → t σ H Q) : PE X e t' := ⟨fun pins s σ H Q I q => h.run pins s σ H Q I (i σ H Q q)⟩
theorem _root_.L2.PT.wk (h : PT X e tt) (i : ∀ σ H Q, tt' σ H Q → tt σ H Q) : PT X e tt' := ⟨fun pins s σ H Q I q => h.run pins s σ H Q I (i σ H Q q)⟩
theorem _root_.L2.PW.wk (h : PW X e tt) (i : ∀ σ H Q, tt' σ H Q → tt σ H Q) : PW X e tt' := ⟨fun wh pins s σ H Q I q => h.run wh pins s σ H Q I (i σ H Q q)⟩
theorem _root_.L2.PA.wk (h : PA X es ta) (i : ∀ σ H Q, ta' σ H Q → ta σ H Q) : PA X es ta' := ⟨fun po pins s σ H Q I q => h.run po pins s σ H Q I (i σ H Q q)⟩
theorem _root_.L2.PO.wk {o : Option Expr} {to to' : TO} (h : PO X o to) (i : ∀ σ H Q, to' σ H Q → to σ H Q) : PO X o to' := ⟨fun pins s σ H Q I q => h.run pins s σ H Q I (i σ H Q q)⟩
/-- two rules for one expression -/
theorem _root_.L2.PE.or (h : PE X e t) (h' : PE X e t') : PE X e (fun σ H Q => t σ H Q ∨ t' σ H Q) := ⟨fun pins s σ H Q I q => q.elim (h.run pins s σ H Q I) (h'.run pins s σ H Q I)⟩
end
section
variable {K : Frag} {F : Frm} {σ : L2.St} {g : Gm} {G H G' H' : Hp} {v : V} {d : PyData}
theorem Rq.rp (s : Same G H) (h : Rq K G H v d) : Rp K H v d := by
  rcases h with h | ⟨p, rfl, h⟩
  · exact h.up s
  · cases d with
    | list ds => obtain ⟨xs, h1, h2⟩ := h; exact .lst h1 (h2.up s)
    | dict ds => obtain ⟨es, ep, h1, h0, h2⟩ := h; exact .dict h1 h0 (h2.up s)
    | _ => exact h.elim
theorem Rq.lst {ds : List PyData} (s : Same G H) (h : Rq K G H v (.list ds)) : ∃ p xs, v = .ref p ∧ H p = some (.lst xs) ∧ RpAll K G xs ds := by
  rcases h with h | ⟨p, rfl, xs, h1, h2⟩
  · cases h with
    | lst h1 h2 => exact ⟨_, _, rfl, s _ _ h1, h2⟩
  · exact ⟨p, xs, rfl, h1, h2⟩
theorem Rq.tup {ds : List PyData} (s : Same G H) (h : Rq K G H v (.tuple ds)) : ∃ p xs, v = .ref p ∧ SqX K H p xs ∧ RpAll K G xs ds := by
  rcases h with h | ⟨p, rfl, h⟩
  · cases h with
    | tup h1 h2 => exact ⟨_, _, rfl, sqX_same s h1, h2⟩
  · exact h.elim
theorem Rq.dict {ds : List (PyData × PyData)} (s : Same G H) (h : Rq K G H v (.dict ds)) : ∃ p es ep, v = .ref p ∧ H p = some (dO p es ep) ∧ keysOk ds ∧ RpKV K G es.toList ds := by
  rcases h with h | ⟨p, rfl, es, ep, h1, h0, h2⟩
  · cases h with
    | dict h1 h0 h2 => exact ⟨_, _, _, rfl, s _ _ h1, h0, h2⟩
  · exact ⟨p, es, ep, rfl, h1, h0, h2⟩
theorem Rq.int {i : Int} (h : Rq K G H v (.int i)) : v = .int i := by
  rcases h with h | ⟨p, rfl, h⟩
  · cases h; rfl
  · exact h.elim
theorem Rq.str {x : Str} (h : Rq K G H v (.str x)) : v = .str x := by
  rcases h with h | ⟨p, rfl, h⟩
  · cases h; rfl
  · exact h.elim
theorem Rq.bool {x : Bool} (h : Rq K G H v (.bool x)) : v = .bl x := by
  rcases h with h | ⟨p, rfl, h⟩
  · cases h; rfl
  · exact h.elim
theorem Rq.none (h : Rq K G H v .none) : v = .non := by
  rcases h with h | ⟨p, rfl, h⟩
  · cases h; rfl
  · exact h.elim
theorem Rp.q (h : Rp K G v d) : Rq K G H v d := .inl h
theorem Rq.grow (r : Gr G H G' H') (h : Rq K G H v d) : Rq K G' H' v d := by
  rcases h with h | ⟨p, e, h⟩
  · exact .inl (h.up r.g)
  · obtain ⟨o, ho⟩ := h.some
    exact .inr ⟨p, e, h.up r.g ((r.h _ _ ho).trans ho.symm)⟩
/-! Rp as Dp, where no dict is -/
mutual
theorem Rp.dp : ∀ (d : PyData) (v : V), d.canLay0 = true → Rp K H v d → Dp K H v d
  | .none, _, _, h => by cases h; exact .non
  | .bool b, _, _, h => by cases h; exact .bl b
  | .int i, _, _, h => by cases h; exact .int i
  | .str x, _, _, h => by cases h; exact .str x
  | .list ds, _, n, h => by
    cases h with
    | lst h1 h2 => exact .lst (.inl (.inl h1)) (RpAll.dp ds _ (by simpa [PyData.canLay0] using n) h2)
  | .tuple ds, _, n, h => by
    cases h with
    | tup h1 h2 => exact .tup h1 (RpAll.dp ds _ (by simpa [PyData.canLay0] using n) h2)
  | .dict ds, _, n, h => by simp [PyData.canLay0] at n
theorem RpAll.dp : ∀ (ds : List PyData) (vs : List V), PyData.canLayAll0 ds = true → RpAll K H vs ds → DpAll K H vs ds
  | [], _, _, h => by cases h; exact .nil
  | d :: ds, _, n, h => by
    cases h with
    | cons h1 h2 =>
      simp only [PyData.canLayAll0, Bool.and_eq_true] at n
      exact .cons (Rp.dp d _ n.1 h1) (RpAll.dp ds _ n.2 h2)
end
end
/-! ### tuples of which all is known -/
section
variable {X : Cx} {pins : List (Addr × Obj)} {σ : L2.St} {H : Hp} {s : Shared} {e : Expr} {es : List Expr} {te : TE} {t : TA} {pos : Pos}
theorem lay_tup {xs : List V} {its : List Value} (I : Inv X pins σ H s) (r : Vals xs its) (hz : xs.length ≤ sizeLine) :
    Inv X pins σ (upd H s.heap.objs.size (tO its xs)) { s with heap := s.heap.push { cls := .type "tuple", data := .seq its.toArray } } :=
  I.laid (t' := s.toks) (o := tO its xs) (fun b u e => Heap.get?_push_of_some _ e) (Nat.le_refl _) ⟨Heap.get?_push_size _ rfl, hz, its, r, IsTup.new _ _⟩
/-- a new tuple of these -/
def NewT (xs : List V) (H : Hp) (Q : VK) : Prop := ∀ p its, H p = none → Q (.ref p) (upd H p (tO its xs))
theorem new_tup {Q : VK} {xs : List V} {its : List Value} (I : Inv X pins σ H s) (r : Vals xs its) (hz : xs.length ≤ sizeLine) (q : NewT xs H Q) :
    EP X pins σ Q (.ref s.heap.objs.size) { s with heap := s.heap.push { cls := .type "tuple", data := .seq its.toArray } } :=
  ⟨.ref s.heap.objs.size, _, lay_tup I r hz, rfl, q _ _ (I.hok.fresh (Nat.le_refl _))⟩
def tTupX (t : TA) : TE := fun σ H Q => t σ H fun xs H1 => xs.length ≤ sizeLine ∧ NewT xs H1 Q
theorem pe_tupX {x1} (h : PA X es t) : PE X (.Tuple es x1 pos) (tTupX t) := by
  refine ⟨fun pins s σ H Q I hq => ?_⟩
  refine wpAny_Tuple_spliced (thn (h.run pos pins s σ H _ I hq) fun us s1 ⟨xs, H1, I1, r, z, q⟩ => ⟨by rw [← r.length]; exact z, ?_⟩)
  exact new_tup I1 r z q
/-- t + u -/
def rCatX (K : PySem.W.Frag) : R2 := fun x y H Q => ∃ a b xs ys, x = .ref a ∧ y = .ref b ∧ SqT K H a xs ∧ SqT K H b ys ∧ xs.length + ys.length ≤ sizeLine ∧
  (xs = [] → Q (.ref b) H) ∧ (xs ≠ [] → ys = [] → Q (.ref a) H) ∧ (xs ≠ [] → ys ≠ [] → NewT (xs ++ ys) H Q)
theorem op_catX : OpR X (binaryOp .Add) (rCatX X.K) := by
  intro pins s σ H x y v u Q I rx ry h
  obtain ⟨a, b, xs, ys, rfl, rfl, ha, hb, hz, q0, q1, q2⟩ := h
  cases rx
  cases ry
  obtain ⟨its, r1, p1, _⟩ := I.tuple ha
  obtain ⟨its2, r2, p2, _⟩ := I.tuple hb
  by_cases hx : xs = []
  · subst hx
    cases r1
    exact cat_tup0 p1 p2 ⟨.ref b, H, I, rfl, q0 rfl⟩
  · refine HT.cat_tup p1 p2 (fun z => hx (r1.nil_iff.mp z)) (fun z => ⟨.ref a, H, I, rfl, q1 hx (r2.nil_iff.mp z)⟩) (fun z => ?_) (by rw [← r1.length, ← r2.length]; exact hz)
    exact new_tup I (r1.append r2) (by rw [List.length_append]; exact hz) (q2 hx fun w => z (r2.nil_iff.mpr w))
/-- t[lo:hi]: the whole of it is t itself -/
def rSlX (K : PySem.W.Frag) : V → Option Int → Option Int → Hp → VK → Prop := fun x lo hi H Q => ∃ a xs, x = .ref a ∧ SqT K H a xs ∧
  (HT.sIx xs.length 0 lo = 0 ∧ HT.sIx xs.length xs.length hi = xs.length → Q (.ref a) H) ∧ (¬ (HT.sIx xs.length 0 lo = 0 ∧ HT.sIx xs.length xs.length hi = xs.length) → NewT (cutV xs lo hi) H Q)
theorem sl_tupX : SlR X (rSlX X.K) := by
  intro pins s σ H x v vl vu lo hi sl Q I rx hs pl pu h
  obtain ⟨a, xs, rfl, hx, q1, q2⟩ := h
  cases rx
  obtain ⟨its, r, ht, hz⟩ := I.tuple hx
  have hlen : its.toArray.size = xs.length := by rw [List.size_toArray]; exact r.length.symm
  refine ⟨"tuple", _, PyProof.Rows.slot_tuple_getitem.lookup, ht.typeIs, ?_⟩
  by_cases hw : HT.sIx xs.length 0 lo = 0 ∧ HT.sIx xs.length xs.length hi = xs.length
  · exact getItem_tuple_whole ht hs pl pu (by rw [hlen]; exact hw) ⟨.ref a, H, I, rfl, q1 hw⟩
  · refine HT.getItem_tuple_cut ht hs pl pu (by rw [hlen]; exact hw) ?_ (by rw [hlen]; exact hz)
    rw [hlen]
    exact new_tup I ((r.drop (HT.sIx xs.length 0 lo)).take (HT.sIx xs.length xs.length hi - HT.sIx xs.length 0 lo)) (Nat.le_trans (cutV_length xs lo hi) hz) (q2 hw)
/-- tuple(x) of a list or a tuple -/
theorem call_tupX : CallR X (.type "tuple") (fun xs H Q => ∃ p ys, xs = [.ref p] ∧ ((SqL X.K H p ys ∧ NewT ys H Q) ∨ (SqT X.K H p ys ∧ Q (.ref p) H))) := by
  intro pins s σ H xs us Q I r h
  obtain ⟨p, ys, rfl, h⟩ := h
  obtain ⟨u, rfl, rx⟩ := vals1 r
  cases rx
  rcases h with ⟨hq, q⟩ | ⟨hq, q⟩
  · obtain ⟨its, r', pl, hz⟩ := I.list hq
    have hlen := r'.length
    refine call_tuple_list pl.isList (fun h' kp => ?_) (by simp only [List.size_toArray] <;> omega)
    have I1 : Inv X pins σ H { s with heap := h' } := I.kept (t' := s.toks) kp
    exact new_tup I1 r' hz q
  · obtain ⟨its, r', pl, hz⟩ := I.tuple hq
    exact call_tuple_same pl ⟨.ref p, H, I, rfl, q⟩
end
/-! new tuples of data -/
theorem NewT.of {K : Frag} {G H : Hp} {xs : List V} {ds : List PyData} {Q : VK} (s : Same G H) (r : RpAll K G xs ds) (k : ∀ v G' H', Gr G H G' H' → Rp K G' v (.tuple ds) → Q v H') : NewT xs H Q := fun p its hp => by
  have gr := Gr.new (o := tO its xs) s hp
  exact k _ _ _ gr (.tup (.inl ⟨its, upd_same⟩) (r.up gr.g))
end Mi
namespace Mi
open PySem PySem.Spec PyProof.Rows L2
/-! ### operations on data -/
/-- a two-place operation -/
def Op2 (K : Frag) (r : R2) (f : PyData → PyData → Option PyData) : Prop := ∀ (x y : V) (d e z : PyData) (G H : Hp) (Q : VK), f d e = some z → Rq K G H x d → Rq K G H y e → Same G H →
  (∀ v G' H', Gr G H G' H' → Rp K G' v z → Q v H') → r x y H Q
def Op1 (K : Frag) (r : V → Hp → VK → Prop) (f : PyData → Option PyData) : Prop := ∀ (x : V) (d z : PyData) (G H : Hp) (Q : VK), f d = some z → Rq K G H x d → Same G H →
  (∀ v G' H', Gr G H G' H' → Rp K G' v z → Q v H') → r x H Q
def truD : PyData → Option Bool
  | .none => some false
  | .bool b => some b
  | .int i => some (i != 0)
  | .str x => if x.length ≤ sizeLine then some ((x.length : Int) != 0) else none
  | .list xs => some (!xs.isEmpty)
  | .tuple xs => some (!xs.isEmpty)
  | .dict _ => none
/-! ### computations -/
def op1 (f : PyData → Option PyData) (a : MM PyData) : MM PyData := bnd a fun d => lft (f d)
def op2 (f : PyData → PyData → Option PyData) (a b : MM PyData) : MM PyData := bnd a fun d => bnd b fun e => lft (f d e)
/-- the first operand a name that is looked at behind the second one -/
def op2V (f : PyData → PyData → Option PyData) (i : Nat) (b : MM PyData) : MM PyData := bnd (pkV i) fun _ => bnd b fun e => bnd (pkV i) fun d => lft (f d e)
def tru (a : MM PyData) : MM Bool := bnd a fun d => lft (truD d)
def andT (a b : MM Bool) : MM Bool := bnd a fun c => if c = true then b else ret false
def orT (a b : MM Bool) : MM Bool := bnd a fun c => if c = true then ret true else b
def notT (a : MM Bool) : MM Bool := bnd a fun c => ret (!c)
def andV (a b : MM PyData) : MM PyData := bnd a fun d => bnd (lft (truD d)) fun c => if c = true then b else ret d
def orV (a b : MM PyData) : MM PyData := bnd a fun d => bnd (lft (truD d)) fun c => if c = true then ret d else b
def notV (a : MM PyData) : MM PyData := bnd a fun d => bnd (lft (truD d)) fun c => ret (.bool (!c))
def ifM {α : Type} (t : MM Bool) (a b : MM α) : MM α := bnd t fun c => if c = true then a else b
def consM (a : MM PyData) (r : MM (List PyData)) : MM (List PyData) := bnd a fun d => bnd r fun ds => ret (d :: ds)
def nilM : MM (List PyData) := ret []
def tupM (a : MM (List PyData)) : MM PyData := bnd a fun ds => lft (if ds.length ≤ sizeLine then some (.tuple ds) else none)
def lstM (a : MM (List PyData)) : MM PyData := bnd a fun ds => lft (if ds.length ≤ sizeLine then some (.list ds) else none)
def noneO : MM (Option Int) := ret none
def someO (a : MM PyData) : MM (Option Int) := bnd a fun d => match d with | .int i => ret (some i) | _ => lft none
def slM (f : PyData → Option Int → Option Int → Option PyData) (a : MM PyData) (l u : MM (Option Int)) : MM PyData := bnd a fun d => bnd l fun i => bnd u fun j => lft (f d i j)
def slMV (f : PyData → Option Int → Option Int → Option PyData) (n : Nat) (l u : MM (Option Int)) : MM PyData := bnd (pkV n) fun _ => bnd l fun i => bnd u fun j => bnd (pkV n) fun d => lft (f d i j)
/-- a < b < c -/
def chainM (f f' : PyData → PyData → Option PyData) (a b c : MM PyData) : MM PyData :=
  bnd a fun d => bnd b fun e => bnd (lft (f d e)) fun z => match z with
    | .bool true => bnd c fun h => lft (f' e h)
    | .bool false => ret (.bool false)
    | _ => lft none
section
variable {X : Cx} {W : WX} {e a b c : Expr} {es : List Expr} {pos : Pos} {m ma mb mc : MM PyData} {mas : MM (List PyData)} {tA tB : MM Bool}
theorem MQ.of (h : ME X W e m) : MQ X W e m := PE.wk h fun σ H Q ⟨F, g, G, A, q⟩ => ⟨F, g, G, A, q.imp fun _ _ _ _ _ _ k v r => k v (.inl r)⟩
/-! names and constants -/
theorem me_var {i : Nat} {x : Str} (h : PE X (.Name x pos) (tVar i)) : ME X W (.Name x pos) (rdV i) := PE.wk h fun σ H Q ⟨F, g, G, A, q⟩ => by
  unfold rdV at q
  split at q
  · rename_i d e
    obtain ⟨v, h1, h2⟩ := A.pur i d e
    exact ⟨v, h1, q G H A (Same.refl _) v h2⟩
  · rename_i t d e
    obtain ⟨p, G', h1, A', s, r⟩ := A.freeze e
    exact ⟨_, h1, q G' H A' s _ r⟩
  · exact q.elim
theorem pk_read {α : Type} {K : Frag} {mg : Mg} {F : Frm} {σ : L2.St} {g : Gm} {G H : Hp} {i : Nat} {f : PyData → MM α} {k : α → Gm → Hp → Hp → Prop} (A : At K F σ g G H) (q : Po K mg W F σ G (bnd (pkV i) f g) k) :
    ∃ v d, σ[i]? = some (some v) ∧ Rq K G H v d ∧ Po K mg W F σ G (f d g) k := by
  unfold bnd pkV at q
  generalize eg : g[i]? = s at q
  rcases s with _ | (_ | d | ⟨t, d⟩)
  · exact q.elim
  · exact q.elim
  · obtain ⟨v, h1, h2⟩ := A.pur i d eg
    exact ⟨v, d, h1, .inl h2, q⟩
  · obtain ⟨p, h1, h2, h3, h4⟩ := A.own i _ d eg
    exact ⟨_, d, h1, .inr ⟨p, rfl, h3⟩, q⟩
theorem mq_var {i : Nat} {x : Str} (h : PE X (.Name x pos) (tVar i)) : MQ X W (.Name x pos) (pkV i) := PE.wk h fun σ H Q ⟨F, g, G, A, q⟩ => by
  have q' : Po X.kx X.mg W F σ G (bnd (pkV i) ret g) fun d _ G' H' => ∀ v, Rq X.kx G' H' v d → Q v H' := by
    unfold bnd ret
    revert q
    cases pkV i g with
    | ok p => exact fun q => q
    | error e => exact fun q => q
  obtain ⟨v, d, h1, h2, h3⟩ := pk_read A q'
  exact ⟨v, h1, h3 G H A (Same.refl _) v h2⟩
theorem me_c {v : V} {d : PyData} (h : PE X e (tC v)) (r : ∀ H : Hp, Rp X.kx H v d) : ME X W e (ret d) := PE.wk h fun σ H Q ⟨F, g, G, A, q⟩ => q G H A (Same.refl _) v (r G)
theorem me_int {i j} : ME X W (.Constant (.int i) j pos) (ret (.int i)) := me_c pe_int fun _ => .int i
theorem me_bl {i j} : ME X W (.Constant (.bool i) j pos) (ret (.bool i)) := me_c pe_bl fun _ => .bl i
theorem me_non {j} : ME X W (.Constant .none j pos) (ret .none) := me_c pe_non fun _ => .non
theorem me_str {x j} : ME X W (.Constant (.str x) j pos) (ret (.str x)) := me_c pe_str fun _ => .str x
/-! operations -/
theorem op2_fin {K : Frag} {mg : Mg} {F : Frm} {σ : L2.St} {g : Gm} {G H : Hp} {Q : VK} {r : R2} {f : PyData → PyData → Option PyData} (ho : Op2 K r f) {x y : V} {d d' : PyData} (A : At K F σ g G H)
    (q : Po K mg W F σ G (lft (f d d') g) fun z _ G' H' => ∀ v, Rp K G' v z → Q v H') (rx : Rq K G H x d) (ry : Rq K G H y d') : r x y H Q := by
  obtain ⟨z, ez, k⟩ := q.lft
  exact ho x y d d' z G H Q ez rx ry A.ex fun v G' H' gr rv => k G' H' (A.grow gr) gr.g v rv
theorem tOp_of {K : Frag} {mg : Mg} {r : R2} {f : PyData → PyData → Option PyData} (ho : Op2 K r f) {σ : L2.St} {H : Hp} {Q : VK} (h : cE K mg W (op2 f ma mb) σ H Q) : tOp r (cE K mg W ma) (cQ K mg W mb) σ H Q := by
  obtain ⟨F, g, G, A, q⟩ := h
  refine ⟨F, g, G, A, Po.imp q.bnd fun d g1 G1 H1 A1 s1 k1 x rx => ?_⟩
  exact ⟨F, g1, G1, A1, Po.imp k1.bnd fun d' g2 G2 H2 A2 s2 k2 y ry => op2_fin ho A2 k2 (.inl (rx.up s2)) ry⟩
theorem tOpV_of {K : Frag} {mg : Mg} {r : R2} {f : PyData → PyData → Option PyData} (ho : Op2 K r f) {i : Nat} {σ : L2.St} {H : Hp} {Q : VK} (h : cE K mg W (op2V f i mb) σ H Q) : tOp r (tVar i) (cQ K mg W mb) σ H Q := by
  obtain ⟨F, g, G, A, q⟩ := h
  obtain ⟨v, d, ev, _, q2⟩ := pk_read A q
  refine ⟨v, ev, F, g, G, A, Po.imp q2.bnd fun d' g2 G2 H2 A2 s2 k2 y ry => ?_⟩
  obtain ⟨v', d2, ev', rv, k3⟩ := pk_read A2 k2
  rw [ev] at ev'
  cases ev'
  exact op2_fin ho A2 k3 rv ry
theorem me_op {op : Operator} {r : R2} {f : PyData → PyData → Option PyData} (ho : Op2 X.kx r f) (hr : OpR X (binaryOp op) r) (ha : ME X W a ma) (hb : MQ X W b mb) : ME X W (.BinOp a op b pos) (op2 f ma mb) := PE.wk (pe_op hr ha hb) fun _ _ _ h => tOp_of ho h
theorem me_opV {op : Operator} {r : R2} {f : PyData → PyData → Option PyData} (ho : Op2 X.kx r f) (hr : OpR X (binaryOp op) r) {i : Nat} (ha : PE X a (tVar i)) (hb : MQ X W b mb) : ME X W (.BinOp a op b pos) (op2V f i mb) := PE.wk (pe_op hr ha hb) fun _ _ _ h => tOpV_of ho h
theorem me_cmp {op : CmpOp} {r : R2} {f : PyData → PyData → Option PyData} (ho : Op2 X.kx r f) (hr : OpR X (compareOp op) r) (ha : ME X W a ma) (hb : MQ X W b mb) (hm : behindInMarks op b = false) : ME X W (.Compare a [op] [b] pos) (op2 f ma mb) := PE.wk (pe_cmpR hr ha hb hm) fun _ _ _ h => tOp_of ho h
theorem me_cmpV {op : CmpOp} {r : R2} {f : PyData → PyData → Option PyData} (ho : Op2 X.kx r f) (hr : OpR X (compareOp op) r) {i : Nat} (ha : PE X a (tVar i)) (hb : MQ X W b mb) (hm : behindInMarks op b = false) : ME X W (.Compare a [op] [b] pos) (op2V f i mb) := PE.wk (pe_cmpR hr ha hb hm) fun _ _ _ h => tOpV_of ho h
theorem me_ix {r : R2} {f : PyData → PyData → Option PyData} (ho : Op2 X.kx r f) (hr : IxR X r) (ha : ME X W a ma) (hb : MQ X W b mb) (hs : PlainIx b) : ME X W (.Subscript a b pos) (op2 f ma mb) := PE.wk (pe_ix hr ha hb hs) fun _ _ _ h => tOp_of ho h
theorem me_ixV {r : R2} {f : PyData → PyData → Option PyData} (ho : Op2 X.kx r f) (hr : IxR X r) {i : Nat} (ha : PE X a (tVar i)) (hb : MQ X W b mb) (hs : PlainIx b) : ME X W (.Subscript a b pos) (op2V f i mb) := PE.wk (pe_ix hr ha hb hs) fun _ _ _ h => tOpV_of ho h
theorem me_un {op : UnaryOp} {r : V → Hp → VK → Prop} {f : PyData → Option PyData} (ho : Op1 X.kx r f) (hr : UnR X (unaryOp op) r) (ha : MQ X W a ma) : ME X W (.UnaryOp op a pos) (op1 f ma) := PE.wk (pe_un hr ha) fun σ H Q h => by
  obtain ⟨F, g, G, A, q⟩ := h
  refine ⟨F, g, G, A, Po.imp q.bnd fun d g1 G1 H1 A1 s1 k1 x rx => ?_⟩
  obtain ⟨z, ez, k⟩ := k1.lft
  exact ho x d z G1 H1 Q ez rx A1.ex fun v G' H' gr rv => k G' H' (A1.grow gr) gr.g v rv
/-! truth, tests -/
theorem tru_of {K : Frag} {G H : Hp} {v : V} {d : PyData} {k : Bool} (s : Same G H) (r : Rq K G H v d) (h : truD d = some k) : TruV K v H k := by
  cases d with
  | none => rw [r.none]; exact (Option.some.inj h).symm
  | bool b => rw [r.bool]; exact (Option.some.inj h).symm
  | int i => rw [r.int]; exact (Option.some.inj h).symm
  | str x =>
    rw [r.str]
    have h' : (if x.length ≤ sizeLine then some ((x.length : Int) != 0) else none) = some k := h
    split at h'
    · rename_i hl; exact ⟨hl, (Option.some.inj h').symm⟩
    · cases h'
  | list ds =>
    obtain ⟨p, xs, rfl, h1, h2⟩ := r.lst s
    refine .inl ⟨xs, .inl (.inl h1), ?_⟩
    rw [← Option.some.inj h]
    cases h2 <;> rfl
  | tuple ds =>
    obtain ⟨p, xs, rfl, h1, h2⟩ := r.tup s
    refine .inr (.inl ⟨xs, h1, ?_⟩)
    rw [← Option.some.inj h]
    cases h2 <;> rfl
  | dict ds => cases h
theorem mt_tru (h : MQ X W e m) (he : ∀ whole, isTrue e X.env whole = (do let v ← whole; standAt e.pos; holding [v] (truthy v)) := by intro _; rfl) : MT X W e (tru m) := PT.wk (pt_truth h he) fun σ H Q ⟨F, g, G, A, q⟩ => by
  refine ⟨F, g, G, A, Po.imp q.bnd fun d g1 G1 H1 A1 s1 k1 x rx => ?_⟩
  obtain ⟨z, ez, k⟩ := k1.lft
  exact ⟨z, tru_of A1.ex rx ez, k G1 H1 A1 (Same.refl _)⟩
/-- a comparison as a test: its value is a bool -/
def tstM (m : MM PyData) : MM Bool := bnd m fun d => match d with | .bool b => ret b | _ => lft none
theorem tst_of {K : Frag} {mg : Mg} {σ : L2.St} {H : Hp} {Q : Bool → Hp → Prop} (h : cT K mg W (tstM m) σ H Q) : cE K mg W m σ H fun x H' => ∃ k, x = .bl k ∧ Q k H' := by
  obtain ⟨F, g, G, A, q⟩ := h
  refine ⟨F, g, G, A, Po.imp q.bnd fun d g1 G1 H1 A1 s1 k1 x rx => ?_⟩
  cases d with
  | bool b =>
    cases rx
    exact ⟨b, rfl, k1 G1 H1 A1 (Same.refl _)⟩
  | _ => exact k1.elim
theorem mt_cmp {op : CmpOp} {r : R2} {f : PyData → PyData → Option PyData} (ho : Op2 X.kx r f) (hr : OpR X (compareOp op) r) (ha : ME X W a ma) (hb : MQ X W b mb) (hm : behindInMarks op b = false) : MT X W (.Compare a [op] [b] pos) (tstM (op2 f ma mb)) :=
  PT.wk (pt_cmpR hr ha hb hm) fun _ _ _ h => tOp_of ho (tst_of h)
theorem mt_cmpV {op : CmpOp} {r : R2} {f : PyData → PyData → Option PyData} (ho : Op2 X.kx r f) (hr : OpR X (compareOp op) r) {i : Nat} (ha : PE X a (tVar i)) (hb : MQ X W b mb) (hm : behindInMarks op b = false) : MT X W (.Compare a [op] [b] pos) (tstM (op2V f i mb)) :=
  PT.wk (pt_cmpR hr ha hb hm) fun _ _ _ h => tOpV_of ho (tst_of h)
theorem mw_and1 (ha : MT X W a tA) : MW X W (.BoolOp .And [a] pos) tA := pw_and1 ha
theorem mw_or1 (ha : MT X W a tA) : MW X W (.BoolOp .Or [a] pos) tA := pw_or1 ha
theorem mw_and {rest : List Expr} (ha : MT X W a tA) (hb : MW X W (.BoolOp .And (b :: rest) pos) tB) : MW X W (.BoolOp .And (a :: b :: rest) pos) (andT tA tB) := PW.wk (pw_and ha hb) fun σ H Q ⟨F, g, G, A, q⟩ => by
  refine ⟨F, g, G, A, Po.imp q.bnd fun c g1 G1 H1 A1 s1 k1 => ?_⟩
  cases c with
  | true => exact ⟨F, g1, G1, A1, k1⟩
  | false => exact k1 G1 H1 A1 (Same.refl _)
theorem mw_or {rest : List Expr} (ha : MT X W a tA) (hb : MW X W (.BoolOp .Or (b :: rest) pos) tB) : MW X W (.BoolOp .Or (a :: b :: rest) pos) (orT tA tB) := PW.wk (pw_or ha hb) fun σ H Q ⟨F, g, G, A, q⟩ => by
  refine ⟨F, g, G, A, Po.imp q.bnd fun c g1 G1 H1 A1 s1 k1 => ?_⟩
  cases c with
  | true => exact k1 G1 H1 A1 (Same.refl _)
  | false => exact ⟨F, g1, G1, A1, k1⟩
theorem mt_w (h : MW X W e tA) : MT X W e tA := PW.pt h
theorem mt_not (ha : MT X W a tA) : MT X W (.UnaryOp .Not a pos) (notT tA) := PT.wk (pt_not ha) fun σ H Q ⟨F, g, G, A, q⟩ => by
  refine ⟨F, g, G, A, Po.imp q.bnd fun c g1 G1 H1 A1 s1 k1 => ?_⟩
  exact k1 G1 H1 A1 (Same.refl _)
theorem me_not (ha : MQ X W a ma) : ME X W (.UnaryOp .Not a pos) (notV ma) := PE.wk (pe_notT ha) fun σ H Q ⟨F, g, G, A, q⟩ => by
  refine ⟨F, g, G, A, Po.imp q.bnd fun d g1 G1 H1 A1 s1 k1 x rx => ?_⟩
  obtain ⟨z, ez, k⟩ := (k1.bnd).lft
  exact ⟨z, tru_of A1.ex rx ez, k G1 H1 A1 (Same.refl _) G1 H1 A1 (Same.refl _) _ (.bl _)⟩
theorem me_one {op} (ha : ME X W a ma) : ME X W (.BoolOp op [a] pos) ma := pe_one ha
theorem me_and {rest : List Expr} (ha : ME X W a ma) (hb : ME X W (.BoolOp .And (b :: rest) pos) mb) : ME X W (.BoolOp .And (a :: b :: rest) pos) (andV ma mb) := PE.wk (pe_andT ha hb) fun σ H Q ⟨F, g, G, A, q⟩ => by
  refine ⟨F, g, G, A, Po.imp q.bnd fun d g1 G1 H1 A1 s1 k1 x rx => ?_⟩
  obtain ⟨z, ez, k⟩ := (k1.bnd).lft
  refine ⟨z, tru_of A1.ex rx.q ez, ?_⟩
  cases z with
  | true => exact ⟨F, g1, G1, A1, k G1 H1 A1 (Same.refl _)⟩
  | false => exact k G1 H1 A1 (Same.refl _) G1 H1 A1 (Same.refl _) _ rx
theorem me_or {rest : List Expr} (ha : ME X W a ma) (hb : ME X W (.BoolOp .Or (b :: rest) pos) mb) : ME X W (.BoolOp .Or (a :: b :: rest) pos) (orV ma mb) := PE.wk (pe_orT ha hb) fun σ H Q ⟨F, g, G, A, q⟩ => by
  refine ⟨F, g, G, A, Po.imp q.bnd fun d g1 G1 H1 A1 s1 k1 x rx => ?_⟩
  obtain ⟨z, ez, k⟩ := (k1.bnd).lft
  refine ⟨z, tru_of A1.ex rx.q ez, ?_⟩
  cases z with
  | false => exact ⟨F, g1, G1, A1, k G1 H1 A1 (Same.refl _)⟩
  | true => exact k G1 H1 A1 (Same.refl _) G1 H1 A1 (Same.refl _) _ rx
theorem me_ifE (hc : MT X W c tA) (ha : ME X W a ma) (hb : ME X W b mb) : ME X W (.IfExp c a b pos) (ifM tA ma mb) := PE.wk (pe_ifExp hc ha hb) fun σ H Q ⟨F, g, G, A, q⟩ => by
  refine ⟨F, g, G, A, Po.imp q.bnd fun z g1 G1 H1 A1 s1 k1 => ?_⟩
  cases z with
  | true => exact ⟨F, g1, G1, A1, k1⟩
  | false => exact ⟨F, g1, G1, A1, k1⟩
/-! lists of expressions, displays -/
theorem ma_nil : MA X W [] nilM := PA.wk pa_nil fun σ H Q ⟨F, g, G, A, q⟩ => q G H A (Same.refl _) [] .nil
theorem ma_cons (ha : ME X W e m) (hr : MA X W es mas) (hs : starEach (e :: es) X.env = (false, eval e X.env) :: starEach es X.env := by rfl) : MA X W (e :: es) (consM m mas) := PA.wk (pa_cons ha hr hs) fun σ H Q ⟨F, g, G, A, q⟩ => by
  refine ⟨F, g, G, A, Po.imp q.bnd fun d g1 G1 H1 A1 s1 k1 x rx => ?_⟩
  refine ⟨F, g1, G1, A1, Po.imp k1.bnd fun ds g2 G2 H2 A2 s2 k2 xs rxs => ?_⟩
  exact k2 G2 H2 A2 (Same.refl _) _ (.cons (rx.up s2) rxs)
theorem me_tup {k} (h : MA X W es mas) : ME X W (.Tuple es k pos) (tupM mas) := PE.wk (pe_tupX h) fun σ H Q ⟨F, g, G, A, q⟩ => by
  refine ⟨F, g, G, A, Po.imp q.bnd fun ds g1 G1 H1 A1 s1 k1 xs rxs => ?_⟩
  obtain ⟨z, ez, k⟩ := k1.lft
  split at ez
  · rename_i hl
    cases ez
    exact ⟨by rw [rxs.len]; exact hl, .of A1.ex rxs fun v G' H' gr rv => k _ _ (A1.grow gr) gr.g _ rv⟩
  · cases ez
theorem me_lst (h : MA X W es mas) : ME X W (.List es pos) (lstM mas) := PE.wk (pe_lst h) fun σ H Q ⟨F, g, G, A, q⟩ => by
  refine ⟨F, g, G, A, Po.imp q.bnd fun ds g1 G1 H1 A1 s1 k1 xs rxs => ?_⟩
  obtain ⟨z, ez, k⟩ := k1.lft
  split at ez
  · rename_i hl
    cases ez
    refine ⟨by rw [rxs.len]; exact hl, fun p hp => ?_⟩
    have gr := Gr.new (o := .lst xs) A1.ex hp
    exact k _ _ (A1.grow gr) gr.g _ (.lst upd_same (rxs.up gr.g))
  · cases ez
/-! chains -/
theorem chain_of {K : Frag} {mg : Mg} {r r' : R2} {f f' : PyData → PyData → Option PyData} (ho : Op2 K r f) (ho' : Op2 K r' f') {σ : L2.St} {H : Hp} {Q : VK} (h : cE K mg W (chainM f f' ma mb mc) σ H Q) : tChain r r' (cE K mg W ma) (cE K mg W mb) (cE K mg W mc) σ H Q := by
  obtain ⟨F, g, G, A, q⟩ := h
  refine ⟨F, g, G, A, Po.imp q.bnd fun d g1 G1 H1 A1 s1 k1 x rx => ?_⟩
  refine ⟨F, g1, G1, A1, Po.imp k1.bnd fun d' g2 G2 H2 A2 s2 k2 y ry => ?_⟩
  obtain ⟨z, ez, k⟩ := (k2.bnd).lft
  refine ho x y d d' z G2 H2 _ ez (.inl (rx.up s2)) (.inl ry) A2.ex fun v G3 H3 gr rv => ?_
  have A3 := A2.grow gr
  have k3 := k G3 H3 A3 gr.g
  cases z with
  | bool t =>
    cases rv
    refine ⟨t, rfl, ?_⟩
    cases t with
    | true =>
      refine ⟨F, g2, G3, A3, Po.imp (Po.bnd k3) fun d3 g4 G4 H4 A4 s4 k4 w rw' => ?_⟩
      obtain ⟨z', ez', k5⟩ := k4.lft
      exact ho' y w d' d3 z' G4 H4 Q ez' (.inl ((ry.up gr.g).up s4)) (.inl rw') A4.ex fun v' G' H' gr' rv' => k5 G' H' (A4.grow gr') gr'.g v' rv'
    | false => exact k3 G3 H3 A3 (Same.refl _) _ (.bl false)
  | _ => exact k3.elim
theorem mt_chain {op op' : CmpOp} {r r' : R2} {f f' : PyData → PyData → Option PyData} (ho : Op2 X.kx r f) (hr : OpR X (compareOp op) r) (ho' : Op2 X.kx r' f') (hr' : OpR X (compareOp op') r') (ha : ME X W a ma) (hb : ME X W b mb) (hc : ME X W c mc)
    (hm : lastMarks [op, op'] [b, c] = false := by with_unfolding_all rfl) : MT X W (.Compare a [op, op'] [b, c] pos) (tstM (chainM f f' ma mb mc)) := PT.wk (pt_chain hr hr' ha hb hc hm) fun _ _ _ h => chain_of ho ho' (tst_of h)
/-! slices -/
theorem mo_none : MO X W none noneO := PO.wk po_none fun σ H Q ⟨F, g, G, A, q⟩ => q G H A (Same.refl _)
theorem mo_some (h : ME X W e m) : MO X W (some e) (someO m) := PO.wk (po_some h) fun σ H Q ⟨F, g, G, A, q⟩ => by
  refine ⟨F, g, G, A, Po.imp q.bnd fun d g1 G1 H1 A1 s1 k1 x rx => ?_⟩
  cases d with
  | int i => cases rx; exact ⟨i, rfl, k1 G1 H1 A1 (Same.refl _)⟩
  | _ => exact k1.elim
/-- a slice on data -/
def OpS (K : Frag) (r : V → Option Int → Option Int → Hp → VK → Prop) (f : PyData → Option Int → Option Int → Option PyData) : Prop := ∀ (x : V) (d z : PyData) (i j : Option Int) (G H : Hp) (Q : VK), f d i j = some z → Rq K G H x d → Same G H →
  (∀ v G' H', Gr G H G' H' → Rp K G' v z → Q v H') → r x i j H Q
variable {lo hi : Option Expr} {ml mu : MM (Option Int)} {p2 : Pos}
theorem me_slice {r : V → Option Int → Option Int → Hp → VK → Prop} {f : PyData → Option Int → Option Int → Option PyData} (ho : OpS X.kx r f) (hr : SlR X r) (ha : ME X W a ma) (hl : MO X W lo ml) (hu : MO X W hi mu) :
    ME X W (.Subscript a (.Slice lo hi none p2) pos) (slM f ma ml mu) := PE.wk (pe_slice hr ha hl hu) fun σ H Q ⟨F, g, G, A, q⟩ => by
  refine ⟨F, g, G, A, Po.imp q.bnd fun d g1 G1 H1 A1 s1 k1 x rx => ?_⟩
  refine ⟨F, g1, G1, A1, Po.imp k1.bnd fun i g2 G2 H2 A2 s2 k2 => ?_⟩
  refine ⟨F, g2, G2, A2, Po.imp k2.bnd fun j g3 G3 H3 A3 s3 k3 => ?_⟩
  obtain ⟨z, ez, k⟩ := k3.lft
  exact ho x d z i j G3 H3 Q ez (.inl ((rx.up s2).up s3)) A3.ex fun v G' H' gr rv => k G' H' (A3.grow gr) gr.g v rv
theorem me_sliceV {r : V → Option Int → Option Int → Hp → VK → Prop} {f : PyData → Option Int → Option Int → Option PyData} (ho : OpS X.kx r f) (hr : SlR X r) {n : Nat} (ha : PE X a (tVar n)) (hl : MO X W lo ml) (hu : MO X W hi mu) :
    ME X W (.Subscript a (.Slice lo hi none p2) pos) (slMV f n ml mu) := PE.wk (pe_slice hr ha hl hu) fun σ H Q ⟨F, g, G, A, q⟩ => by
  obtain ⟨v, d, ev, _, q2⟩ := pk_read A q
  refine ⟨v, ev, F, g, G, A, Po.imp q2.bnd fun i g2 G2 H2 A2 s2 k2 => ?_⟩
  refine ⟨F, g2, G2, A2, Po.imp k2.bnd fun j g3 G3 H3 A3 s3 k3 => ?_⟩
  obtain ⟨v', d2, ev', rv, k4⟩ := pk_read A3 k3
  rw [ev] at ev'
  cases ev'
  obtain ⟨z, ez, k⟩ := k4.lft
  exact ho v d2 z i j G3 H3 Q ez rv A3.ex fun v G' H' gr rv => k G' H' (A3.grow gr) gr.g v rv
/-! built-in functions of values -/
/-- a built-in of one value that may be an owned object -/
theorem cb1_of {K : Frag} {mg : Mg} {r : List V → Hp → VK → Prop} {f : PyData → Option PyData} (ho : Op1 K (fun x => r [x]) f) {σ : L2.St} {H : Hp} {Q : VK} (h : cE K mg W (op1 f m) σ H Q) : tCB r (tCons (cQ K mg W m) tNil) σ H Q := by
  obtain ⟨F, g, G, A, q⟩ := h
  refine ⟨F, g, G, A, Po.imp q.bnd fun d g1 G1 H1 A1 s1 k1 x rx => ?_⟩
  obtain ⟨z, ez, k⟩ := k1.lft
  exact ho x d z G1 H1 Q ez rx A1.ex fun v G' H' gr rv => k G' H' (A1.grow gr) gr.g v rv
variable {x : Str} {p : Pos} {id T : String} {r : List V → Hp → VK → Prop} {f : PyData → Option PyData} {fn : List PyData → Option PyData}
theorem me_B1 (ho : Op1 X.kx (fun x => r [x]) f) (hc : CallR X (.builtin id) r) (hg : Gl X x) (hm : X.mg x = none) (hv : bootBuiltins x = some (.builtin id)) (ha : MQ X W e m) (hn : x ≠ "__name__" := by decide) (hdb : (x == ("__debug__" : Str)) = false := by decide)
    (he : starEach (e :: []) X.env = (false, eval e X.env) :: starEach [] X.env := by rfl) (hpl : (backTo pos (starEach [] X.env)).any (·.1) = false := by rfl) : ME X W (.Call (.Name x p) [e] [] pos) (op1 f m) :=
  PE.wk (pe_callB hc hg hm hv (pa_cons ha pa_nil he) hn hdb he hpl) fun _ _ _ h => cb1_of ho h
theorem me_T1 (ho : Op1 X.kx (fun x => r [x]) f) (hc : CallR X (.type T) r) (hg : Gl X x) (hm : X.mg x = none) (hv : bootBuiltins x = some (.type T)) (ha : MQ X W e m) (hn : x ≠ "__name__" := by decide) (hdb : (x == ("__debug__" : Str)) = false := by decide)
    (he : starEach (e :: []) X.env = (false, eval e X.env) :: starEach [] X.env := by rfl) (hpl : (backTo pos (starEach [] X.env)).any (·.1) = false := by rfl) : ME X W (.Call (.Name x p) [e] [] pos) (op1 f m) :=
  PE.wk (pe_callTy hc hg hm hv (pa_cons ha pa_nil he) hn hdb he hpl) fun _ _ _ h => cb1_of ho h
end
end Mi
namespace Mi
open PySem PySem.Spec PyProof.Rows L2
theorem takes0N {X : Cx} : L2N.Takes X (fun _ _ _ _ => False) := fun _ _ x => by
  obtain ⟨_, _, _, _, _, _, _, _, _, _, _, _, _, _, _, _, z⟩ := x
  exact z.elim
/-! ### calls of defs -/
def SpP (K : Frag) (mg : Mg) (m : List PyData → Except Er PyData) : Sp := fun vs H Q E => ∃ G ds, Same G H ∧ RpAll K G vs ds ∧
  match m ds with
  | .ok d => ∀ v G' H', Gr G H G' H' → Rp K G' v d → Q v H'
  | .error (.exc c _) => ∀ C : Addr, mg (Str.ofString c) = some (.ref C) → ∀ G' H', Gr G H G' H' → E (.ref C) none H'
  | .error .stuck => False
/-- the object at p may have been changed -/
structure GrS (p : Addr) (G H G' H' : Hp) : Prop where
  g : Same G G'
  h : ∀ a o, a ≠ p → H a = some o → H' a = some o
  e : Same G' H'
  f : ∀ a o, a ≠ p → H a = some o → G' a = G a
  n : ∀ a, H' a = none → H a = none
def SpS (K : Frag) (mg : Mg) (m : PyData → List PyData → Except Er (PyData × PyData)) : Sp := fun vs H Q E => ∃ G p us s ds, vs = .ref p :: us ∧ Same G H ∧ G p = none ∧ Own K G H p s ∧ RpAll K G us ds ∧
  match m s ds with
  | .ok (d, s') => ∀ v G' H', GrS p G H G' H' → G' p = none → Own K G' H' p s' → Rp K G' v d → Q v H'
  | .error (.exc c _) => ∀ C : Addr, mg (Str.ofString c) = some (.ref C) → ∀ G' H', GrS p G H G' H' → E (.ref C) none H'
  | .error .stuck => False
def callM (m : List PyData → Except Er PyData) (a : MM (List PyData)) : MM PyData := bnd a fun ds g => match m ds with
  | .ok d => .ok (d, g)
  | .error (.exc c _) => .error (.exc c g)
  | .error .stuck => .error .stuck
def chkO (i : Nat) : MM Unit := fun g => match g[i]? with
  | some (.own _ _) => .ok ((), g)
  | _ => .error .stuck
def callS (m : PyData → List PyData → Except Er (PyData × PyData)) (i : Nat) (a : MM (List PyData)) : MM PyData := bnd (chkO i) fun _ => bnd a fun ds g => match g[i]? with
  | some (.own t s) => (match m s ds with
    | .ok (d, s') => .ok (d, g.set i (.own t s'))
    | .error (.exc c _) => .error (.exc c (g.set i .dead))
    | .error .stuck => .error .stuck)
  | _ => .error .stuck
section
variable {K : Frag} {F : Frm} {σ : L2.St} {g : Gm} {G H G' H' : Hp}
theorem At.called (A : At K F σ g G H) {i : Nat} {p : Addr} {t : Bool} {s s' : PyData} (hi : g[i]? = some (.own t s)) (hp : σ[i]? = some (some (.ref p))) (r : GrS p G H G' H') (gp : G' p = none) (o : Own K G' H' p s') : At K F σ (g.set i (.own t s')) G' H' := by
  obtain ⟨p', h1, h2, h3, h4, h5⟩ := A.own i _ s hi
  rw [hp] at h1
  cases h1
  have hl : i < g.length := by
    rcases Nat.lt_or_ge i g.length with q | q
    · exact q
    · rw [List.getElem?_eq_none q] at hi; cases hi
  have ne : ∀ {a o}, F.H a = some o → ¬ F.S a → a ≠ p := fun {a o} e s z => by
    subst z
    rcases h4 with h4 | h4
    · exact s h4
    · rw [h4] at e; cases e
  refine ⟨r.e, A.g0.trans r.g, fun a o e s => r.h a o (ne e s) (A.h0 a o e s), fun a o e s => (r.f a o (ne e s) (A.h0 a o e s)).trans (A.f0 a o e s), fun a e => A.n0 a (r.n a e), by simpa using A.len, fun j e z => ?_, fun j t2 e z => ?_, fun j k t2 u e e' q z1 z2 z3 z4 => ?_⟩
  · by_cases q : i = j
    · subst q
      rw [List.getElem?_set_self hl] at z; cases z
    · rw [List.getElem?_set_ne q] at z
      obtain ⟨v, y1, y2⟩ := A.pur j e z
      exact ⟨v, y1, y2.up r.g⟩
  · by_cases q : i = j
    · subst q
      rw [List.getElem?_set_self hl] at z; cases z
      exact ⟨p, hp, gp, o, h4, h5⟩
    · rw [List.getElem?_set_ne q] at z
      obtain ⟨p2, y1, y2, y3, y4⟩ := A.own j _ e z
      have ne2 : p2 ≠ p := fun w => q (A.inj i j _ _ s e p hi z hp (w ▸ y1))
      obtain ⟨o2, ho2⟩ := y3.some
      exact ⟨p2, y1, (r.f p2 o2 ne2 ho2).trans y2, y3.up r.g ((r.h p2 o2 ne2 ho2).trans ho2.symm), y4⟩
  · have un : ∀ {k : Nat} {v : Bool} {e : PyData}, (g.set i (.own t s'))[k]? = some (.own v e) → ∃ v2 e2, g[k]? = some (.own v2 e2) := fun {k v e} z => by
      by_cases q : i = k
      · subst q; exact ⟨t, s, hi⟩
      · rw [List.getElem?_set_ne q] at z; exact ⟨v, e, z⟩
    obtain ⟨_, e2, w1⟩ := un z1
    obtain ⟨_, e3, w2⟩ := un z2
    exact A.inj j k _ _ e2 e3 q w1 w2 z3 z4
theorem At.calledX (A : At K F σ g G H) {i : Nat} {p : Addr} {t : Bool} {s : PyData} (hi : g[i]? = some (.own t s)) (hp : σ[i]? = some (some (.ref p))) (r : GrS p G H G' H') : At K F σ (g.set i .dead) G' H' := by
  obtain ⟨p', h1, h2, h3, h4, h5⟩ := A.own i _ s hi
  rw [hp] at h1
  cases h1
  have hl : i < g.length := by
    rcases Nat.lt_or_ge i g.length with q | q
    · exact q
    · rw [List.getElem?_eq_none q] at hi; cases hi
  have ne : ∀ {a o}, F.H a = some o → ¬ F.S a → a ≠ p := fun {a o} e s z => by
    subst z
    rcases h4 with h4 | h4
    · exact s h4
    · rw [h4] at e; cases e
  have un : ∀ {k : Nat} {e : Sl}, e ≠ .dead → (g.set i .dead)[k]? = some e → i ≠ k ∧ g[k]? = some e := fun {k e} d z => by
    by_cases q : i = k
    · subst q
      rw [List.getElem?_set_self hl] at z
      cases z
      exact absurd rfl d
    · rw [List.getElem?_set_ne q] at z; exact ⟨q, z⟩
  refine ⟨r.e, A.g0.trans r.g, fun a o e s => r.h a o (ne e s) (A.h0 a o e s), fun a o e s => (r.f a o (ne e s) (A.h0 a o e s)).trans (A.f0 a o e s), fun a e => A.n0 a (r.n a e), by simpa using A.len, fun j e z => ?_, fun j t2 e z => ?_, fun j k t2 u e e' q z1 z2 z3 z4 => ?_⟩
  · obtain ⟨_, z⟩ := un (by simp) z
    obtain ⟨v, y1, y2⟩ := A.pur j e z
    exact ⟨v, y1, y2.up r.g⟩
  · obtain ⟨q, z⟩ := un (by simp) z
    obtain ⟨p2, y1, y2, y3, y4⟩ := A.own j _ e z
    have ne2 : p2 ≠ p := fun w => q (A.inj i j _ _ s e p hi z hp (w ▸ y1))
    obtain ⟨o2, ho2⟩ := y3.some
    exact ⟨p2, y1, (r.f p2 o2 ne2 ho2).trans y2, y3.up r.g ((r.h p2 o2 ne2 ho2).trans ho2.symm), y4⟩
  · exact A.inj j k _ _ e e' q (un (by simp) z1).2 (un (by simp) z2).2 z3 z4
end
section
variable {X : Cx} {W : WX} {e : Expr} {es : List Expr} {pos p p2 : Pos} {x y : Str} {f : Addr} {fd : FuncData} {ps : List Str} {k : Nat} {mas : MM (List PyData)}
theorem me_call {m : List PyData → Except Er PyData} (F : FnOk X.prog X.w X.kx X.mg X.base (L2N.CX X.prog X.w) k f fd ps (SpP X.kx X.mg m)) (hr : Room k X.A) (hm : X.mg x = some (.ref f)) (hk : PySem.W.keepIn X.kx (.ref f) = true) (hb : Binds X.kx fd ps []) (tk : L2N.Takes X W)
    (ha : MA X W (e :: es) mas) (hg : Gl X x := by rfl) (hdb : (x == ("__debug__" : Str)) = false := by decide) (he : starEach (e :: es) X.env = (false, eval e X.env) :: starEach es X.env := by rfl) (hpl : (backTo pos (starEach es X.env)).any (·.1) = false := by rfl) :
    ME X W (.Call (.Name x p) (e :: es) [] pos) (callM m mas) := PE.wk (pe_callS F hr hg hm hk hb (fun σ => L2N.passAt tk σ) ha hdb he hpl) fun σ H Q ⟨F, g, G, A, q⟩ => by
  refine ⟨F, g, G, A, Po.imp q.bnd fun ds g1 G1 H1 A1 s1 k1 xs rx => ?_⟩
  refine ⟨G1, ds, A1.ex, rx, ?_⟩
  generalize m ds = r at k1 ⊢
  rcases r with (_ | ⟨c, _⟩) | d
  · exact k1
  · exact fun C hC G' H' gr => k1 C hC G' H' (A1.grow gr) gr.g
  · exact fun v G' H' gr rv => k1 G' H' (A1.grow gr) gr.g v rv
theorem me_callS {m : PyData → List PyData → Except Er (PyData × PyData)} {i : Nat} (F : FnOk X.prog X.w X.kx X.mg X.base (L2N.CX X.prog X.w) k f fd ps (SpS X.kx X.mg m)) (hr : Room k X.A) (hm : X.mg x = some (.ref f)) (hk : PySem.W.keepIn X.kx (.ref f) = true) (hb : Binds X.kx fd ps []) (tk : L2N.Takes X W)
    (hv : PE X (.Name y p2) (tVar i)) (ha : MA X W es mas) (hg : Gl X x := by rfl) (hdb : (x == ("__debug__" : Str)) = false := by decide) (he : starEach (.Name y p2 :: es) X.env = (false, eval (.Name y p2) X.env) :: starEach es X.env := by rfl) (hpl : (backTo pos (starEach es X.env)).any (·.1) = false := by rfl) :
    ME X W (.Call (.Name x p) (.Name y p2 :: es) [] pos) (callS m i mas) := PE.wk (pe_callS F hr hg hm hk hb (fun σ => L2N.passAt tk σ) (pa_cons hv ha he) hdb he hpl) fun σ H Q ⟨F, g, G, A, q⟩ => by
  unfold callS at q
  have q1 : (∃ t d, g[i]? = some (.own t d)) ∧ Po X.kx X.mg W F σ G (bnd mas (fun ds g => match g[i]? with
    | some (.own t s) => (match m s ds with
      | .ok (d, s') => .ok (d, g.set i (.own t s'))
      | .error (.exc c _) => .error (.exc c (g.set i .dead))
      | .error .stuck => .error .stuck)
    | _ => .error .stuck) g) (fun d _ G' H' => ∀ v, Rp X.kx G' v d → Q v H') := by
    unfold bnd chkO at q
    generalize eg : g[i]? = s at q
    rcases s with _ | (_ | d | ⟨t, d⟩)
    · exact q.elim
    · exact q.elim
    · exact q.elim
    · exact ⟨⟨t, d, rfl⟩, q⟩
  obtain ⟨⟨t0, d0, e0⟩, q1⟩ := q1
  obtain ⟨p0, ep0, _⟩ := A.own i _ d0 e0
  refine ⟨_, ep0, F, g, G, A, Po.imp q1.bnd fun ds g1 G1 H1 A1 s1 k1 xs rx => ?_⟩
  show SpS X.kx X.mg m (.ref p0 :: xs) H1 Q _
  generalize eg : g1[i]? = s at k1
  rcases s with _ | (_ | d | ⟨t, d⟩)
  · exact k1.elim
  · exact k1.elim
  · exact k1.elim
  · obtain ⟨p1, ep1, gp, ow, _⟩ := A1.own i _ d eg
    rw [ep0] at ep1
    cases ep1
    refine ⟨G1, p0, xs, d, ds, rfl, A1.ex, gp, ow, rx, ?_⟩
    show match m d ds with
      | .ok (d, s') => ∀ v G' H', GrS p0 G1 H1 G' H' → G' p0 = none → Own X.kx G' H' p0 s' → Rp X.kx G' v d → Q v H'
      | .error (.exc c _) => ∀ C : Addr, X.mg (Str.ofString c) = some (.ref C) → ∀ G' H', GrS p0 G1 H1 G' H' → WE W σ (.ref C) none H'
      | .error .stuck => False
    have k2 : Po X.kx X.mg W F σ G1 (match m d ds with
      | .ok (d, s') => .ok (d, g1.set i (.own t s'))
      | .error (.exc c _) => .error (.exc c (g1.set i .dead))
      | .error .stuck => .error .stuck) (fun d _ G' H' => ∀ v, Rp X.kx G' v d → Q v H') := k1
    generalize m d ds = r at k2 ⊢
    rcases r with (_ | ⟨c, _⟩) | ⟨z, s'⟩
    · exact k2
    · exact fun C hC G' H' gr => k2 C hC G' H' (A1.calledX eg ep0 gr) gr.g
    · exact fun v G' H' gr gp' o rv => k2 G' H' (A1.called eg ep0 gr gp' o) gr.g v rv
end
/-! ### statements -/
inductive Out where
  | nx (g : Gm) | rt (d : PyData) (g : Gm) | bk (g : Gm) | ct (g : Gm) | ex (c : String) (g : Gm) | stuck
def PoS (K : Frag) (mg : Mg) (W : WX) (F : Frm) (G : Hp) (o : Out) (D : Ends) : Prop := match o with
  | .nx g => ∀ σ G' H', At K F σ g G' H' → Same G G' → D.nx σ H'
  | .bk g => ∀ σ G' H', At K F σ g G' H' → Same G G' → D.bk σ H'
  | .ct g => ∀ σ G' H', At K F σ g G' H' → Same G G' → D.ct σ H'
  | .rt d g => ∀ v σ G' H', At K F σ g G' H' → Same G G' → Rp K G' v d → D.rt v H'
  | .ex c g => ∀ C : Addr, mg (Str.ofString c) = some (.ref C) → ∀ σ G' H', At K F σ g G' H' → Same G G' → W (.ref C) none σ H'
  | .stuck => False
theorem PoS.base {K : Frag} {mg : Mg} {W : WX} {F : Frm} {G G1 : Hp} {o : Out} {D : Ends} (s : Same G G1) (h : PoS K mg W F G o D) : PoS K mg W F G1 o D := by
  cases o with
  | nx g => exact fun σ G' H' A t => h σ G' H' A (s.trans t)
  | bk g => exact fun σ G' H' A t => h σ G' H' A (s.trans t)
  | ct g => exact fun σ G' H' A t => h σ G' H' A (s.trans t)
  | rt d g => exact fun v σ G' H' A t => h v σ G' H' A (s.trans t)
  | ex c g => exact fun C hC σ G' H' A t => h C hC σ G' H' A (s.trans t)
  | stuck => exact h
def cS (K : Frag) (mg : Mg) (W : WX) (m : Gm → Out) : TS := fun D σ H => ∃ F g G, At K F σ g G H ∧ PoS K mg W F G (m g) D
def MS (X : Cx) (W : WX) (s : Stmt) (m : Gm → Out) : Prop := PS X s (cS X.kx X.mg W m)
def MB (X : Cx) (W : WX) (s : List Stmt) (m : Gm → Out) : Prop := PSs X s (cS X.kx X.mg W m)
theorem _root_.L2.PS.wk {X : Cx} {s : Stmt} {t t' : TS} (h : PS X s t) (i : ∀ D σ H, t' D σ H → t D σ H) : PS X s t' := ⟨fun pins s σ H D I q => h.run pins s σ H D I (i D σ H q)⟩
theorem _root_.L2.PSs.wk {X : Cx} {s : List Stmt} {t t' : TS} (h : PSs X s t) (i : ∀ D σ H, t' D σ H → t D σ H) : PSs X s t' := ⟨fun pins s σ H D I q => h.run pins s σ H D I (i D σ H q)⟩
/-- what an expression's end is for a statement -/
def onE {α : Type} (r : Except Er (α × Gm)) (k : α → Gm → Out) : Out := match r with
  | .ok (a, g) => k a g
  | .error (.exc c g) => .ex c g
  | .error .stuck => .stuck
theorem PoS.onE {α : Type} {K : Frag} {mg : Mg} {W : WX} {F : Frm} {σ : L2.St} {G : Hp} {r : Except Er (α × Gm)} {k : α → Gm → Out} {D : Ends} (h : PoS K mg W F G (Mi.onE r k) D) : Po K mg W F σ G r fun a g' G' _ => PoS K mg W F G' (k a g') D := by
  rcases r with (_ | ⟨c, g'⟩) | ⟨a, g'⟩
  · exact h
  · exact fun C hC G' H' A s => h C hC σ G' H' A s
  · exact fun G' H' A s => PoS.base s h
def seqS (a b : Gm → Out) : Gm → Out := fun g => match a g with
  | .nx g' => b g'
  | o => o
def nxS : Gm → Out := fun g => .nx g
def dropS (m : MM PyData) : Gm → Out := fun g => onE (m g) fun _ g' => .nx g'
def retS (m : MM PyData) : Gm → Out := fun g => onE (m g) fun d g' => .rt d g'
def setS (i : Nat) (m : MM PyData) : Gm → Out := fun g => onE (m g) fun d g' => .nx (g'.set i (.dat d))
def ifS (t : MM Bool) (a b : Gm → Out) : Gm → Out := fun g => onE (t g) fun c g' => if c = true then a g' else b g'
section
variable {X : Cx} {W : WX} {e c : Expr} {m : MM PyData} {pos p p2 : Pos} {s : Stmt} {ss bs : List Stmt} {a b : Gm → Out} {t : MM Bool}
theorem mb_nil : MB X W [] nxS := PSs.wk pss_nil fun D σ H ⟨F, g, G, A, q⟩ => q σ G H A (Same.refl _)
theorem mb_cons (h1 : MS X W s a) (h2 : MB X W ss b) : MB X W (s :: ss) (seqS a b) := PSs.wk (pss_cons h1 h2) fun D σ H ⟨F, g, G, A, q⟩ => by
  refine ⟨F, g, G, A, ?_⟩
  unfold seqS at q
  generalize a g = o at q
  cases o with
  | nx g' => exact fun σ' G' H' A' s' => ⟨F, g', G', A', PoS.base s' q⟩
  | rt d g' => exact q
  | bk g' => exact q
  | ct g' => exact q
  | ex c g' => exact q
  | stuck => exact q
theorem mb_one (h1 : MS X W s a) : MB X W [s] a := PSs.wk (pss_one h1) fun D σ H h => h
def bkS : Gm → Out := fun g => .bk g
def ctS : Gm → Out := fun g => .ct g
theorem ms_expr (he : ME X W e m) (hs : swapsWith e none pos.line X.env = pure false := by rfl) : MS X W (.Expr e pos) (dropS m) := PS.wk (ps_expr he hs) fun D σ H ⟨F, g, G, A, q⟩ => by
  refine ⟨F, g, G, A, Po.imp (PoS.onE q) fun d g1 G1 H1 A1 s1 k1 x rx => ?_⟩
  exact k1 σ G1 H1 A1 (Same.refl _)
theorem ms_ret (he : ME X W e m) : MS X W (.Return (some e) pos) (retS m) := PS.wk (ps_ret he) fun D σ H ⟨F, g, G, A, q⟩ => by
  refine ⟨F, g, G, A, Po.imp (PoS.onE q) fun d g1 G1 H1 A1 s1 k1 x rx => ?_⟩
  exact k1 x σ G1 H1 A1 (Same.refl _) rx
theorem ms_set {i : Nat} {x : Str} (hN : X.N.Nodup) (hi : X.N[i]? = some x) (hx : Loc X.env.scope x) (he : ME X W e m) (hs : swapsWith e (some (.Name x p)) pos.line X.env = pure false := by rfl) (hf : X.fn x = true ∨ X.env.scope.names.lookup x = some .local := by first | exact .inl rfl | exact .inr rfl | assumption) :
    MS X W (.Assign [.Name x p] e pos) (setS i m) := PS.wk (ps_set hN hi hx he hs hf) fun D σ H ⟨F, g, G, A, q⟩ => by
  refine ⟨F, g, G, A, Po.imp (PoS.onE q) fun d g1 G1 H1 A1 s1 k1 x rx => ?_⟩
  exact k1 _ G1 H1 (A1.put rx) (Same.refl _)
theorem ms_if (hc : MT X W c t) (ha : MB X W ss a) (hb : MB X W bs b) : MS X W (.If c ss bs pos) (ifS t a b) := PS.wk (ps_if hc ha hb) fun D σ H ⟨F, g, G, A, q⟩ => by
  refine ⟨F, g, G, A, Po.imp (PoS.onE q) fun z g1 G1 H1 A1 s1 k1 => ?_⟩
  cases z with
  | true => exact ⟨F, g1, G1, A1, k1⟩
  | false => exact ⟨F, g1, G1, A1, k1⟩
/-- x = [..]: a list of one's own -/
def setL (i : Nat) (m : MM (List PyData)) : Gm → Out := fun g => onE (m g) fun ds g' => if ds.length ≤ sizeLine then .nx (g'.set i (.own false (.list ds))) else .stuck
theorem ms_setL {i : Nat} {x : Str} {es : List Expr} {m : MM (List PyData)} (hN : X.N.Nodup) (hi : X.N[i]? = some x) (hx : Loc X.env.scope x) (he : MA X W es m) (hs : swapsWith (.List es p2) (some (.Name x p)) pos.line X.env = pure false := by rfl) (hf : X.fn x = true ∨ X.env.scope.names.lookup x = some .local := by first | exact .inl rfl | exact .inr rfl | assumption) :
    MS X W (.Assign [.Name x p] (.List es p2) pos) (setL i m) := PS.wk (ps_set hN hi hx (pe_lst he) hs hf) fun D σ H ⟨F, g, G, A, q⟩ => by
  refine ⟨F, g, G, A, Po.imp (PoS.onE q) fun ds g1 G1 H1 A1 s1 k1 xs rx => ?_⟩
  by_cases hl : ds.length ≤ sizeLine
  · rw [if_pos hl] at k1
    refine ⟨by rw [rx.len]; exact hl, fun p hp => ?_⟩
    exact k1 _ G1 _ (A1.fresh hp ⟨xs, upd_same, rx⟩) (Same.refl _)
  · rw [if_neg hl] at k1
    exact k1.elim
/-- x op= e -/
def augS (f : PyData → PyData → Option PyData) (i : Nat) (m : MM PyData) : Gm → Out := fun g => match g[i]? with
  | some (.dat d) => onE (bnd m (fun e => lft (f d e)) g) fun z g' => .nx (g'.set i (.dat z))
  | _ => .stuck
/-- raise X('..') -/
def raiseS (c : String) : Gm → Out := fun g => .ex c g
theorem ms_raise {c : String} {C : Addr} (hc : X.calm = true) (tk : L2N.Takes X W) (hm : X.mg (Str.ofString c) = some (.ref C)) (h : L2N.PMk X e (fun _ H Q => Q (.ref C) none H)) : MS X W (.Raise (some e) none pos) (raiseS c) := PS.wk (L2N.ps_raise hc tk h) fun D σ H ⟨F, g, G, A, q⟩ =>
  q C hm σ G H A (Same.refl _)
end
end Mi
namespace Mi
open PySem PySem.Spec PyProof.Rows L2
/-! ### targets -/
/-- what a target does with data; the slots in js alone may change -/
def cG (K : Frag) (js : List Nat) (b : PyData → Gm → Option Gm) : TG := fun v σ H Q => ∃ F g G d, At K F σ g G H ∧ Rp K G v d ∧ match b d g with
  | some g' => ∀ σ', At K F σ' g' G H → σ'.length = σ.length → (∀ j, j ∉ js → σ'[j]? = σ[j]?) → Q σ' H
  | none => False
def cGs (K : Frag) (js : List Nat) (b : List PyData → Gm → Option Gm) : TGs := fun vs σ H Q => ∃ F g G ds, At K F σ g G H ∧ RpAll K G vs ds ∧ match b ds g with
  | some g' => ∀ σ', At K F σ' g' G H → σ'.length = σ.length → (∀ j, j ∉ js → σ'[j]? = σ[j]?) → Q σ' H
  | none => False
def MG (X : Cx) (e : Expr) (js : List Nat) (b : PyData → Gm → Option Gm) : Prop := PG X e (cG X.kx js b)
def MGs (X : Cx) (es : List Expr) (js : List Nat) (b : List PyData → Gm → Option Gm) : Prop := PGs X es (cGs X.kx js b)
theorem _root_.L2.PG.wk {X : Cx} {e : Expr} {t t' : TG} (h : PG X e t) (i : ∀ v σ H Q, t' v σ H Q → t v σ H Q) : PG X e t' := ⟨fun pins s σ H v u Q I r q => h.run pins s σ H v u Q I r (i v σ H Q q)⟩
theorem _root_.L2.PGs.wk {X : Cx} {e : List Expr} {t t' : TGs} (h : PGs X e t) (i : ∀ v σ H Q, t' v σ H Q → t v σ H Q) : PGs X e t' := ⟨fun pins s σ H v u Q I r q => h.run pins s σ H v u Q I r (i v σ H Q q)⟩
def bName (i : Nat) : PyData → Gm → Option Gm := fun d g => some (g.set i (.dat d))
def bNil : List PyData → Gm → Option Gm := fun ds g => match ds with
  | [] => some g
  | _ => none
def bCons (b : PyData → Gm → Option Gm) (bs : List PyData → Gm → Option Gm) : List PyData → Gm → Option Gm := fun ds g => match ds with
  | d :: r => (match b d g with | some g' => bs r g' | none => none)
  | [] => none
def bTup (n : Nat) (bs : List PyData → Gm → Option Gm) : PyData → Gm → Option Gm := fun d g => match d with
  | .tuple ds => if ds.length = n then bs ds g else none
  | _ => none
section
variable {X : Cx} {pos : Pos} {js ks : List Nat} {b : PyData → Gm → Option Gm} {bs : List PyData → Gm → Option Gm}
theorem mg_name {i : Nat} {x : Str} (hN : X.N.Nodup) (hi : X.N[i]? = some x) (hx : Loc X.env.scope x) (hf : X.fn x = true ∨ X.env.scope.names.lookup x = some .local := by first | exact .inl rfl | exact .inr rfl | assumption) : MG X (.Name x pos) [i] (bName i) :=
  PG.wk (pg_name hN hi hx hf) fun v σ H Q ⟨F, g, G, d, A, r, q⟩ => q _ (A.put r) (by simp) fun j hj => List.getElem?_set_ne (by intro e; subst e; simp at hj)
theorem mgs_nil : MGs X [] [] bNil := PGs.wk pgs_nil fun v σ H Q ⟨F, g, G, d, A, r, q⟩ => by
  cases r with
  | nil => exact ⟨rfl, q σ A rfl fun _ _ => rfl⟩
  | cons _ _ => exact q.elim
theorem mgs_cons {e : Expr} {es : List Expr} (h1 : MG X e js b) (h2 : MGs X es ks bs) (hs : (assignEach (e :: es) X.env).map (·.2) = assign e X.env :: (assignEach es X.env).map (·.2) := by rfl) : MGs X (e :: es) (js ++ ks) (bCons b bs) := PGs.wk (pgs_cons h1 h2 hs) fun vs σ H Q ⟨F, g, G, ds, A, r, q⟩ => by
  cases r with
  | nil => exact q.elim
  | @cons v vr d dr r1 r2 =>
    refine ⟨v, vr, rfl, F, g, G, d, A, r1, ?_⟩
    unfold bCons at q
    generalize eb : b d g = o at q
    cases o with
    | none => simp only [eb] at q
    | some g1 =>
      simp only [eb] at q
      refine fun σ1 A1 l1 k1 => ⟨F, g1, G, dr, A1, r2, ?_⟩
      generalize bs dr g1 = o at q
      cases o with
      | none => exact q
      | some g2 => exact fun σ2 A2 l2 k2 => q σ2 A2 (l2.trans l1) fun j hj => (k2 j fun z => hj (List.mem_append_right _ z)).trans (k1 j fun z => hj (List.mem_append_left _ z))
theorem mg_tup {es : List Expr} {k n : Nat} (hc : X.calm = true) (h : MGs X es js bs) (hn : (assignEach es X.env).length = n := by rfl) (hst : (assignEach es X.env).findIdx? (·.1) = none := by rfl) : MG X (.Tuple es k pos) js (bTup n bs) := PG.wk (pg_tup hc h hn hst) fun v σ H Q ⟨F, g, G, d, A, r, q⟩ => by
  cases d with
  | tuple ds =>
    cases r with
    | @tup a xs _ h1 h2 =>
      unfold bTup at q
      by_cases hl : ds.length = n
      · simp only [if_pos hl] at q
        exact ⟨a, xs, rfl, sqT_same A.ex h1, by rw [h2.len]; exact hl, F, g, G, ds, A, h2, q⟩
      · simp only [if_neg hl] at q
  | _ => exact q.elim
def asgS (b : PyData → Gm → Option Gm) (m : MM PyData) : Gm → Out := fun g => onE (m g) fun d g' => match b d g' with
  | some g2 => .nx g2
  | none => .stuck
theorem ms_asg {W : WX} {tg e : Expr} {m : MM PyData} (he : ME X W e m) (hg : MG X tg js b) (hs : swapsWithSole [tg] e pos.line X.env = pure false := by rfl) (hw : swappedStores [tg] e X.env = pure none := by rfl)
    (h1 : (assignEach [tg] X.env).map (·.2) = [assign tg X.env] := by rfl) : MS X W (.Assign [tg] e pos) (asgS b m) := PS.wk (ps_asg he hg hs hw h1) fun D σ H ⟨F, g, G, A, q⟩ => by
  refine ⟨F, g, G, A, Po.imp (PoS.onE q) fun d g1 G1 H1 A1 s1 k1 x rx => ?_⟩
  refine ⟨F, g1, G1, d, A1, rx, ?_⟩
  generalize b d g1 = o at k1
  cases o with
  | none => exact k1
  | some g2 => exact fun σ' A' _ _ => k1 σ' G1 H1 A' (Same.refl _)
/-- a, b = e1, e2 of plain local names -/
def parS (i j : Nat) (a b : MM PyData) : Gm → Out := fun g => onE (bnd a (fun d => bnd b fun e => ret (d, e)) g) fun p g' => .nx ((g'.set i (.dat p.1)).set j (.dat p.2))
theorem ms_par {W : WX} {i j : Nat} {x y : Str} {a b : Expr} {ma mb : MM PyData} {px py pt : Pos} {kt k2 pt2} (hc : X.calm = true) (hN : X.N.Nodup) (hi : X.N[i]? = some x) (hj : X.N[j]? = some y) (hij : i ≠ j)
    (hx : X.env.scope.names.lookup x = some .local) (hy : X.env.scope.names.lookup y = some .local) (ha : ME X W a ma) (hb : ME X W b mb)
    (hw : swappedStores [.Tuple [.Name x px, .Name y py] kt pt] (.Tuple [a, b] k2 pt2) X.env = pure (some [x, y]))
    (hs : swapsWithSole [.Tuple [.Name x px, .Name y py] kt pt] (.Tuple [a, b] k2 pt2) pos.line X.env = pure false := by rfl)
    (h1 : starEach [a, b] X.env = (false, eval a X.env) :: starEach [b] X.env := by rfl) (h2 : starEach [b] X.env = (false, eval b X.env) :: starEach [] X.env := by rfl) :
    MS X W (.Assign [.Tuple [.Name x px, .Name y py] kt pt] (.Tuple [a, b] k2 pt2) pos) (parS i j ma mb) := PS.wk (ps_par hc hN hi hj hij hx hy (pa_cons ha (pa_cons hb pa_nil h2) h1) hw hs) fun D σ H ⟨F, g, G, A, q⟩ => by
  refine ⟨F, g, G, A, Po.imp (Po.bnd (PoS.onE q)) fun d g1 G1 H1 A1 s1 k1 v rv => ?_⟩
  refine ⟨F, g1, G1, A1, Po.imp (Po.bnd k1) fun d2 g2 G2 H2 A2 s2 k2 w rw' => ?_⟩
  exact ⟨v, w, rfl, k2 G2 H2 A2 (Same.refl _) _ G2 H2 ((A2.put (rv.up s2)).put rw') (Same.refl _)⟩
end
/-! ### loops -/
structure ItRep (K : Frag) (G : Hp) (J : It) (ds : List PyData) : Prop where
  stop : ∀ G1 H1, Same G G1 → Same G1 H1 → J.stop ds.length H1
  go : ∀ i d G1 H1, ds[i]? = some d → Same G G1 → Same G1 H1 → J.go i H1
  yld : ∀ i d G1 H1 v H2, ds[i]? = some d → Same G G1 → Same G1 H1 → J.yld i H1 v H2 → ∃ G2, Gr G1 H1 G2 H2 ∧ Rp K G2 v d
def cI (K : Frag) (mg : Mg) (W : WX) (m : MM (List PyData)) : TI := fun σ H R => ∃ F g G, At K F σ g G H ∧ Po K mg W F σ G (m g) fun ds _ G' H' => ∀ J, ItRep K G' J ds → R J H'
def MI (X : Cx) (W : WX) (tg iter : Expr) (m : MM (List PyData)) : Prop := PI X tg iter (cI X.kx X.mg W m)
theorem _root_.L2.PI.wk {X : Cx} {tg iter : Expr} {t t' : TI} (h : PI X tg iter t) (i : ∀ σ H R, t' σ H R → t σ H R) : PI X tg iter t' := ⟨fun pins s σ H R I q => h.run pins s σ H R I (i σ H R q)⟩
def forL (b : PyData → Gm → Option Gm) (body : Gm → Out) : List PyData → Gm → Out
  | [], g => .nx g
  | d :: ds, g => match b d g with
    | none => .stuck
    | some g1 => match body g1 with
      | .nx g2 => forL b body ds g2
      | .ct g2 => forL b body ds g2
      | .bk g2 => .nx g2
      | .rt d g2 => .rt d g2
      | .ex c g2 => .ex c g2
      | .stuck => .stuck
def forS (m : MM (List PyData)) (b : PyData → Gm → Option Gm) (body : Gm → Out) : Gm → Out := fun g => onE (m g) fun ds g' => forL b body ds g'
section
variable {X : Cx} {W : WX} {tg iter c : Expr} {mi : MM (List PyData)} {mc : MM Bool} {js : List Nat} {b : PyData → Gm → Option Gm} {body : List Stmt} {mb : Gm → Out} {pos : Pos}
theorem ms_for (hp : PassesOwn (model X.prog X.w) X.A X.env X.xe) (hc : X.calm = true) (hi : MI X W tg iter mi) (hg : MG X tg js b) (hb : MB X W body mb) (hs : ∀ x, foldedSetIterable iter X.env x = pure x := by intro _; rfl) : MS X W (.For tg iter body [] pos) (forS mi b mb) :=
  PS.wk (ps_for hp hc hi hg hb hs) fun D σ H ⟨F, g, G, A, q⟩ => by
  refine ⟨F, g, G, A, Po.imp (PoS.onE q) fun ds g1 G1 H1 A1 s1 k1 J hJ => ?_⟩
  refine ⟨fun i m σ' H' => m = ds.length - i ∧ i ≤ ds.length ∧ ∃ g' G', At X.kx F σ' g' G' H' ∧ Same G1 G' ∧ PoS X.kx X.mg W F G' (forL b mb (ds.drop i) g') D, ⟨ds.length, by simp, Nat.zero_le _, g1, G1, A1, Same.refl _, k1⟩, ?_⟩
  rintro i m σ' H' ⟨rfl, hi, g', G', A', s', k'⟩
  by_cases hlt : i < ds.length
  · have ed : ds[i]? = some ds[i] := List.getElem?_eq_getElem hlt
    refine .inr ⟨hJ.go i _ G' H' ed s' A'.ex, fun σ2 H2 => ∃ g2 G2, At X.kx F σ2 g2 G2 H2 ∧ Same G1 G2 ∧ PoS X.kx X.mg W F G2 (forL b mb (ds.drop (i + 1)) g2) D, fun σ2 H2 ⟨g2, G2, A2, s2, k2⟩ => ⟨ds.length - (i + 1), by omega, rfl, hlt, g2, G2, A2, s2, k2⟩, fun v H2 y => ?_⟩
    obtain ⟨G2, gr, rv⟩ := hJ.yld i _ G' H' v H2 ed s' A'.ex y
    rw [List.drop_eq_getElem_cons hlt] at k'
    unfold forL at k'
    refine ⟨F, g', G2, ds[i], A'.grow gr, rv, ?_⟩
    generalize b ds[i] g' = o at k'
    cases o with
    | none => exact k'
    | some g2 =>
      refine fun σ2 A2 _ _ => ⟨F, g2, G2, A2, ?_⟩
      have k2 : PoS X.kx X.mg W F G2 (match mb g2 with
        | .nx g2 => forL b mb (ds.drop (i + 1)) g2
        | .ct g2 => forL b mb (ds.drop (i + 1)) g2
        | .bk g2 => .nx g2
        | .rt d g2 => .rt d g2
        | .ex c g2 => .ex c g2
        | .stuck => .stuck) D := PoS.base gr.g k'
      have s2 := s'.trans gr.g
      generalize mb g2 = o at k2
      cases o with
      | nx g3 => exact fun σ3 G3 H3 A3 s3 => ⟨g3, G3, A3, s2.trans s3, PoS.base s3 k2⟩
      | ct g3 => exact fun σ3 G3 H3 A3 s3 => ⟨g3, G3, A3, s2.trans s3, PoS.base s3 k2⟩
      | bk g3 => exact k2
      | rt d g3 => exact k2
      | ex c g3 => exact k2
      | stuck => exact k2
  · have e : i = ds.length := by omega
    subst e
    rw [List.drop_length] at k'
    exact .inl ⟨hJ.stop G' H' s' A'.ex, k' σ' G' H' A' (Same.refl _)⟩
end
/-! ### what is walked -/
/-- the items of a list or a tuple -/
def itemsD : PyData → Option (List PyData)
  | .list ds => some ds
  | .tuple ds => some ds
  | .dict kvs => some (kvs.map (·.1))
  | _ => none
def seqI (m : MM PyData) : MM (List PyData) := bnd m fun d => lft (itemsD d)
/-- range -/
def rngD (lo hi : Int) : List PyData := (List.range (hi - lo).toNat).map fun (i : Nat) => PyData.int (lo + (i : Int))
def rng1 (m : MM PyData) : MM (List PyData) := bnd m fun d => match d with
  | .int j => if -(2 ^ 62) ≤ j ∧ j < 2 ^ 62 then ret (rngD 0 j) else lft none
  | _ => lft none
def rng2 (a b : MM PyData) : MM (List PyData) := bnd a fun d => bnd b fun e => match d, e with
  | .int i, .int j => if -(2 ^ 62) ≤ i ∧ i < 2 ^ 62 ∧ -(2 ^ 62) ≤ j ∧ j < 2 ^ 62 then ret (rngD i j) else lft none
  | _, _ => lft none
section
variable {X : Cx} {W : WX} {tg iter a b : Expr} {m ma mb : MM PyData} {pos p : Pos}
theorem itRep_list {K : Frag} {G : Hp} {a : Addr} {xs : List V} {ds : List PyData} (h : G a = some (.lst xs)) (r : RpAll K G xs ds) : ItRep K G (Itl K a) ds := by
  have hl := r.len
  refine ⟨fun G1 H1 s e => ⟨xs, .inl (.inl (e _ _ (s _ _ h))), by omega⟩, fun i d G1 H1 hd s e => ?_, fun i d G1 H1 v H2 hd s e y => ?_⟩
  · obtain ⟨v, hv, _⟩ := r.get hd
    exact ⟨xs, v, .inl (.inl (e _ _ (s _ _ h))), hv⟩
  · obtain ⟨v', hv, rv⟩ := r.get hd
    obtain ⟨e2, y⟩ := y
    subst e2
    have := y xs (.inl (.inl (e _ _ (s _ _ h))))
    rw [hv] at this
    cases this
    exact ⟨G1, Gr.refl e, rv.up s⟩
theorem itRep_tup {K : Frag} {G : Hp} {a : Addr} {xs : List V} {ds : List PyData} (h : SqX K G a xs) (r : RpAll K G xs ds) : ItRep K G (Itt K a) ds := by
  have hl := r.len
  refine ⟨fun G1 H1 s e => ⟨xs, sqT_same (s.trans e) h, by omega⟩, fun i d G1 H1 hd s e => ?_, fun i d G1 H1 v H2 hd s e y => ?_⟩
  · obtain ⟨v, hv, _⟩ := r.get hd
    exact ⟨xs, v, sqT_same (s.trans e) h, hv⟩
  · obtain ⟨v', hv, rv⟩ := r.get hd
    obtain ⟨e2, y⟩ := y
    subst e2
    have := y xs (sqT_same (s.trans e) h)
    rw [hv] at this
    cases this
    exact ⟨G1, Gr.refl e, rv.up s⟩
theorem itRep_rng {K : Frag} {G : Hp} {lo hi : Int} : ItRep K G (Itr lo (hi - lo).toNat) (rngD lo hi) := by
  have hl : (rngD lo hi).length = (hi - lo).toNat := by simp [rngD]
  refine ⟨fun G1 H1 s e => ?_, fun i d G1 H1 hd s e => ?_, fun i d G1 H1 v H2 hd s e y => ?_⟩
  · show (hi - lo).toNat ≤ _
    omega
  · obtain ⟨h1, _⟩ := List.getElem?_eq_some_iff.mp hd
    show i < _
    omega
  · obtain ⟨h1, h2⟩ := List.getElem?_eq_some_iff.mp hd
    obtain ⟨e1, e2⟩ := y
    subst e1 e2
    have : d = .int (lo + (i : Int)) := by rw [← h2]; simp [rngD]
    subst this
    exact ⟨G1, Gr.refl e, .int _⟩
theorem _root_.L2.PI.or {t t' : TI} (h : PI X tg iter t) (h' : PI X tg iter t') : PI X tg iter (fun σ H R => t σ H R ∨ t' σ H R) := ⟨fun pins s σ H R I q => q.elim (h.run pins s σ H R I) (h'.run pins s σ H R I)⟩
end
end Mi
namespace Mi
open PySem PySem.Spec PyProof.Rows L2
/-! the keys of a dict -/
def ItDk (a : Addr) (es : Array DictEntry) (ep : Nat) (kvs : List V) : It :=
  ⟨fun i H => H a = some (dO a es ep) ∧ i < es.size, fun i H x H' => H' = H ∧ kvs[i]? = some x, fun i H => H a = some (dO a es ep) ∧ es.size ≤ i⟩
theorem dO_get {X : Cx} {pins : List (Addr × Obj)} {σ : L2.St} {H : Hp} {s : Shared} {a : Addr} {es : Array DictEntry} {ep : Nat} (I : Inv X pins σ H s) (h : H a = some (dO a es ep)) :
    (a == sysModules) = false ∧ es.size ≤ sizeLine ∧ s.heap.get? a = some { cls := .type "dict", data := .dict es ep } := by
  obtain ⟨q, _⟩ := (show ObjOk X.prog X.w H s.heap a (dO a es ep) from I.hok a _ h)
  exact q
theorem dO_raw {X : Cx} {pins : List (Addr × Obj)} {σ : L2.St} {H : Hp} {s : Shared} {a : Addr} {es : Array DictEntry} {ep : Nat} (I : Inv X pins σ H s) (h : H a = some (dO a es ep)) : s.heap.DictRaw a es ep :=
  ⟨_, (dO_get I h).2.2, ⟨rfl, rfl, rfl⟩, rfl⟩
theorem turn_keysD {P : Program} {w : World} {K : PySem.W.Frag} {tg : Expr} {a it : Addr} {es : Array DictEntry} {ep : Nat} {kvs : List V} (hv : Vals kvs (es.toList.map (·.key))) :
    Turn P w K tg (ItDk a es ep kvs) [it] it (fun i h => h.IsKeyIter it a i es.size ep) where
  mem := by simp
  obj := fun i h st b hb => by
    have e : b = it := by simpa using hb
    subst e
    obtain ⟨oi, e, c, dd⟩ := st
    exact ⟨oi, e, fun v z => by rw [dd] at z; cases z⟩
  keep := fun i h h' st k => st.at fun oi e => k it (by simp) oi e
  item := by
    intro X hP hw hK hc i pins s σ H E I hf st hg
    subst hP hw hK
    obtain ⟨hd, hi⟩ := hg
    obtain ⟨f0, f1, f2, f3, f4, f5⟩ := hf it (by simp)
    have hl := hv.length
    obtain ⟨x, hx⟩ : ∃ x, kvs[i]? = some x := ⟨kvs[i]'(by simp at hl; omega), List.getElem?_eq_getElem _⟩
    obtain ⟨u, hu, ru⟩ := hv.get hx
    have eu : u = es[i].key := by
      rw [List.getElem?_map] at hu
      have : es.toList[i]? = some es[i] := by simp
      rw [this] at hu
      exact (Option.some.inj hu).symm
    refine wpAny_pyNext_keys_item_raw st (dO_raw I hd) hi fun h' st' sb => ?_
    have I1 : Inv X pins σ H { s with heap := h' } := I.turned (t' := s.toks) (fun b ob hb e => (sb.2 b hb).trans e) f0 f1 f3 f4 f5
    obtain ⟨oi, e, c, dd⟩ := id st'
    exact ⟨_, rfl, go_of (s := { s with heap := h' }) e c dd (by decide) ⟨x, H, I1, by rw [← eu]; exact ru, ⟨rfl, hx⟩, st', fun b hb => (hf b hb).1⟩⟩
  done := by
    intro X hP hw hK hc i pins s σ H E I hf st hg
    subst hP hw hK
    obtain ⟨hd, hi⟩ := hg
    obtain ⟨f0, f1, f2, f3, f4, f5⟩ := hf it (by simp)
    exact wpAny_pyNext_keys_end_raw (I.ok.hd hc) st (dO_raw I hd) hi fun h' eb => ⟨rfl, I.turned (t' := s.toks) (fun b ob hb e => eb b ob hb e) f0 f1 f3 f4 f5⟩
  self := fun A i s Q E st h => wpAny_pyIter_keyiter st h
def iKeysD (td : TE) : TI := fun σ H R => td σ H fun x H1 => ∃ a es ep kvs, x = .ref a ∧ H1 a = some (dO a es ep) ∧ Vals kvs (es.toList.map (·.key)) ∧ R (ItDk a es ep kvs) H1
theorem pi_keysD {X : Cx} {tg e : Expr} {td : TE} (he : PE X e td) : PI X tg e (iKeysD td) := by
  refine ⟨fun pins s σ H R I h => ?_⟩
  refine thn (he.run pins s σ H _ I h) fun u s1 ⟨x, H1, I1, rx, a, es, ep, kvs, ex, hd, hv, q⟩ => ?_
  subst ex
  obtain rfl : u = Value.ref a := rx
  exact wpAny_pyIter_dict_raw (dO_get I1 hd).1 (dO_raw I1 hd) (pi_one (tk := s1.toks) I1 _ (turn_keysD hv) ⟨_, Heap.get?_push_size _ rfl, rfl, rfl⟩ q)
theorem RpKV.keys {K : Frag} {G : Hp} : ∀ {es : List DictEntry} {ds : List (PyData × PyData)}, RpKV K G es ds → ∃ kvs, Vals kvs (es.map (·.key)) ∧ RpAll K G kvs (ds.map (·.1))
  | _, _, .nil => ⟨[], .nil, .nil⟩
  | _, _, .cons (k := k) a1 a2 a3 a4 a5 t => by
    obtain ⟨kvs, h1, h2⟩ := t.keys
    exact ⟨k :: kvs, .cons a2 h1, .cons a4 h2⟩
theorem itRep_keys {K : Frag} {G : Hp} {a : Addr} {es : Array DictEntry} {ep : Nat} {kvs : List V} {ds : List PyData} (h : G a = some (dO a es ep)) (hv : Vals kvs (es.toList.map (·.key))) (r : RpAll K G kvs ds) : ItRep K G (ItDk a es ep kvs) ds := by
  have hl := r.len
  have hn := hv.length
  have hn : kvs.length = es.size := by simpa using hn
  refine ⟨fun G1 H1 s e => ⟨e _ _ (s _ _ h), by omega⟩, fun i d G1 H1 hd s e => ⟨e _ _ (s _ _ h), ?_⟩, fun i d G1 H1 v H2 hd s e y => ?_⟩
  · have := (List.getElem?_eq_some_iff.mp hd).1
    omega
  · obtain ⟨v', hv', rv⟩ := r.get hd
    obtain ⟨e2, y⟩ := y
    subst e2
    rw [hv'] at y
    cases y
    exact ⟨G1, Gr.refl e, rv.up s⟩
section
variable {X : Cx} {W : WX} {tg iter a b : Expr} {m ma mb : MM PyData} {pos p : Pos}
theorem mi_seq (h : ME X W iter m) : MI X W tg iter (seqI m) := PI.wk (PI.or (pi_list h) (PI.or (pi_tup h) (pi_keysD h))) fun σ H R ⟨F, g, G, A, q⟩ => by
  have q' : Po X.kx X.mg W F σ G (bnd m (fun d => lft (itemsD d)) g) (fun ds _ G' H' => ∀ J, ItRep X.kx G' J ds → R J H') := q
  unfold bnd at q'
  generalize em : m g = r at q'
  rcases r with (_ | ⟨c, g'⟩) | ⟨d, g'⟩
  · exact q'.elim
  · refine .inl ⟨F, g, G, A, ?_⟩
    rw [em]
    exact q'
  · have q2 : Po X.kx X.mg W F σ G (lft (itemsD d) g') (fun ds _ G' H' => ∀ J, ItRep X.kx G' J ds → R J H') := q'
    cases d with
    | list ds =>
      refine .inl ⟨F, g, G, A, ?_⟩
      rw [em]
      intro G1 H1 A1 s1 x rx
      cases rx with
      | @lst a xs _ h1 h2 => exact ⟨a, rfl, ⟨xs, .inl (.inl (A1.ex _ _ h1))⟩, q2 G1 H1 A1 s1 _ (itRep_list h1 h2)⟩
    | tuple ds =>
      refine .inr (.inl ⟨F, g, G, A, ?_⟩)
      rw [em]
      intro G1 H1 A1 s1 x rx
      cases rx with
      | @tup a xs _ h1 h2 => exact ⟨a, rfl, ⟨xs, sqT_same A1.ex h1⟩, q2 G1 H1 A1 s1 _ (itRep_tup h1 h2)⟩
    | dict ds =>
      refine .inr (.inr ⟨F, g, G, A, ?_⟩)
      rw [em]
      intro G1 H1 A1 s1 x rx
      cases rx with
      | @dict a es ep _ h1 h0 h2 =>
        obtain ⟨kvs, hv, hr⟩ := h2.keys
        exact ⟨a, es, ep, kvs, rfl, A1.ex _ _ h1, hv, q2 G1 H1 A1 s1 _ (itRep_keys h1 hv hr)⟩
    | _ => exact q2.elim
theorem mi_rng1 (hm : X.mg "range" = none) (ha : ME X W a m) (hg : Gl X "range" := by rfl) (hs : starEach [a] X.env = [(false, eval a X.env)] := by rfl) : MI X W tg (.Call (.Name "range" p) [a] [] pos) (rng1 m) := PI.wk (pi_range1 hg hm (pa_cons ha pa_nil hs) hs) fun σ H R ⟨F, g, G, A, q⟩ => by
  refine ⟨F, g, G, A, Po.imp q.bnd fun d g1 G1 H1 A1 s1 k1 x rx => ?_⟩
  cases d with
  | int j =>
    cases rx
    have k2 : Po X.kx X.mg W F σ G1 ((if -(2 ^ 62) ≤ j ∧ j < 2 ^ 62 then ret (rngD 0 j) else lft none : MM (List PyData)) g1) (fun ds _ G' H' => ∀ J, ItRep X.kx G' J ds → R J H') := k1
    by_cases hj : -(2 ^ 62) ≤ j ∧ j < 2 ^ 62
    · rw [if_pos hj] at k2
      refine ⟨j, rfl, hj.1, hj.2, ?_⟩
      have := k2 G1 H1 A1 (Same.refl _) (Itr 0 (j - 0).toNat) itRep_rng
      simpa using this
    · rw [if_neg hj] at k2
      exact k2.elim
  | _ => exact k1.elim
end
/-! ### comprehensions -/
def wipeG (g : Gm) : List Nat → Gm
  | [] => g
  | v :: vs => (wipeG g vs).set v .dead
def compL (vs : List Nat) (b : PyData → Gm → Option Gm) (tt : MM Bool) (te : MM PyData) : List PyData → Gm → Except Er (List PyData × Gm)
  | [], g => .ok ([], g)
  | d :: ds, g => match b d g with
    | none => .error .stuck
    | some g1 => match tt g1 with
      | .ok (true, g2) => (match te g2 with
        | .ok (z, g3) => (match compL vs b tt te ds (wipeG g3 vs) with
          | .ok (zs, g4) => .ok (z :: zs, g4)
          | .error _ => .error .stuck)
        | .error _ => .error .stuck)
      | .ok (false, g2) => compL vs b tt te ds (wipeG g2 vs)
      | .error _ => .error .stuck
def compM (mi : MM (List PyData)) (vs : List Nat) (b : PyData → Gm → Option Gm) (tt : MM Bool) (te : MM PyData) : MM (List PyData) := bnd mi fun ds g =>
  if ds.length ≤ sizeLine then (match compL vs b tt te ds (wipeG g vs) with
    | .ok (zs, g') => .ok (zs, g')
    | .error _ => .error .stuck) else .error .stuck
def yesM : MM Bool := ret true
/-- the frame of all that is there, but for one's own -/
def snap (F : Frm) (σ : L2.St) (g : Gm) (G H : Hp) : Frm := ⟨fun p => ∃ (i : Nat) (t : Bool) (d : PyData), g[i]? = some (.own t d) ∧ σ[i]? = some (some (.ref p)), G, H, F.p0⟩
/-- an object that is nobody's: it may be changed, or become data -/
structure Nob (F : Frm) (σ : L2.St) (g : Gm) (G H : Hp) (D : Addr) : Prop where
  ng : G D = none
  nf : F.H D = none
  nh : H D ≠ none
  no : ∀ (i : Nat) (t : Bool) (d : PyData), g[i]? = some (.own t d) → σ[i]? ≠ some (some (.ref D))
section
variable {K : Frag} {F : Frm} {σ σ' : L2.St} {g g' : Gm} {G H G' H' : Hp}
theorem At.snap (A : At K F σ g G H) : At K (Mi.snap F σ g G H) σ g G H := ⟨A.ex, Same.refl _, fun _ _ h _ => h, fun _ _ _ _ => rfl, fun _ h => h, A.len, A.pur, fun i t d h => by
  obtain ⟨p, h1, h2, h3, h4, h5⟩ := A.own i _ d h
  exact ⟨p, h1, h2, h3, .inl ⟨i, t, d, h, h1⟩, h5⟩, A.inj⟩
theorem At.via (A : At K F σ g G H) (B : At K (Mi.snap F σ g G H) σ' g' G' H') : At K F σ' g' G' H' := by
  have ns : ∀ {a o}, F.H a = some o → ¬ F.S a → ¬ (Mi.snap F σ g G H).S a := fun {a o} e s ⟨i, t, d, h1, h2⟩ => by
    obtain ⟨p, q1, q2, q3, q4, _⟩ := A.own i _ d h1
    rw [h2] at q1
    cases q1
    rcases q4 with q4 | q4
    · exact s q4
    · rw [q4] at e; cases e
  refine ⟨B.ex, A.g0.trans B.g0, fun a o e s => B.h0 a o (A.h0 a o e s) (ns e s), fun a o e s => (B.f0 a o (A.h0 a o e s) (ns e s)).trans (A.f0 a o e s), fun a e => A.n0 a (B.n0 a e), B.len, B.pur, fun i t d h => ?_, B.inj⟩
  obtain ⟨p, q1, q2, q3, q4, q5⟩ := B.own i _ d h
  refine ⟨p, q1, q2, q3, ?_, q5⟩
  rcases q4 with ⟨j, t2, e, z1, z2⟩ | q4
  · obtain ⟨p2, y1, _, _, y4, _⟩ := A.own j _ e z1
    rw [z2] at y1
    cases y1
    exact y4
  · exact .inr (A.n0 p q4)
theorem At.other (A : At K F σ g G H) {D : Addr} {o : HO} (n : Nob F σ g G H D) : At K F σ g G (upd H D o) := by
  refine ⟨fun a u e => ?_, A.g0, fun a u e s => ?_, A.f0, fun a e => ?_, A.len, A.pur, fun i t d h => ?_, A.inj⟩
  · rw [upd_ne (ne_of_none e n.ng)]; exact A.ex _ _ e
  · rw [upd_ne (ne_of_none e n.nf)]; exact A.h0 a u e s
  · by_cases q : a = D
    · subst q; rw [upd_same] at e; cases e
    · rw [upd_ne q] at e; exact A.n0 a e
  · obtain ⟨p, q1, q2, q3, q4⟩ := A.own i _ d h
    have ne : p ≠ D := fun e => n.no i _ d h (e ▸ q1)
    exact ⟨p, q1, q2, q3.up (Same.refl _) (upd_ne ne), q4⟩
theorem At.adopt (A : At K F σ g G H) {D : Addr} {o : HO} (n : Nob F σ g G H D) (h : H D = some o) : At K F σ g (upd G D o) H := by
  have sg : Same G (upd G D o) := same_new n.ng
  refine ⟨fun a u e => ?_, A.g0.trans sg, A.h0, fun a u e s => ?_, A.n0, A.len, fun i d h => ?_, fun i t d h => ?_, A.inj⟩
  · by_cases q : a = D
    · subst q; rw [upd_same] at e; cases e; exact h
    · rw [upd_ne q] at e; exact A.ex _ _ e
  · rw [upd_ne (ne_of_none e n.nf)]; exact A.f0 a u e s
  · obtain ⟨v, q1, q2⟩ := A.pur i d h
    exact ⟨v, q1, q2.up sg⟩
  · obtain ⟨p, q1, q2, q3, q4⟩ := A.own i _ d h
    have ne : p ≠ D := fun e => n.no i _ d h (e ▸ q1)
    exact ⟨p, q1, by rw [upd_ne ne]; exact q2, q3.up sg rfl, q4⟩
theorem At.take (A : At K F σ g G H) {D : Addr} {i : Nat} {d : PyData} (n : Nob F σ g G H D) (h : Own K G H D d) : At K F (σ.set i (some (.ref D))) (g.set i (.own false d)) G H := by
  have un : ∀ {j : Nat} {v : Bool} {e : PyData}, i ≠ j → (g.set i (.own false d))[j]? = some (.own v e) → g[j]? = some (.own v e) := fun {j v e} q z => by
    rw [List.getElem?_set_ne q] at z; exact z
  refine ⟨A.ex, A.g0, A.h0, A.f0, A.n0, by simpa using A.len, fun j e z => ?_, fun j t2 e z => ?_, fun j k t u e e' q z1 z2 z3 z4 => ?_⟩
  · by_cases q : i = j
    · subst q
      by_cases hi : i < g.length
      · rw [List.getElem?_set_self hi] at z; cases z
      · rw [List.getElem?_eq_none (by simpa using hi)] at z; cases z
    · rw [List.getElem?_set_ne q] at z ⊢; exact A.pur j e z
  · by_cases q : i = j
    · subst q
      by_cases hi : i < g.length
      · rw [List.getElem?_set_self hi] at z; cases z
        exact ⟨D, List.getElem?_set_self (by rw [A.len]; exact hi), n.ng, h, .inr n.nf, fun q => nomatch q⟩
      · rw [List.getElem?_eq_none (by simpa using hi)] at z; cases z
    · rw [List.getElem?_set_ne q] at z ⊢; exact A.own j _ e z
  · by_cases q1 : i = j
    · by_cases q2 : i = k
      · rw [← q1, ← q2]
      · exfalso
        subst q1
        rw [List.getElem?_set_ne q2] at z4
        by_cases hi : i < σ.length
        · rw [List.getElem?_set_self hi] at z3; cases z3
          exact n.no k _ e' (un q2 z2) z4
        · rw [List.getElem?_eq_none (by simpa using hi)] at z3; cases z3
    · by_cases q2 : i = k
      · exfalso
        subst q2
        rw [List.getElem?_set_ne q1] at z3
        by_cases hi : i < σ.length
        · rw [List.getElem?_set_self hi] at z4; cases z4
          exact n.no j _ e (un q1 z1) z3
        · rw [List.getElem?_eq_none (by simpa using hi)] at z4; cases z4
      · rw [List.getElem?_set_ne q1] at z3
        rw [List.getElem?_set_ne q2] at z4
        exact A.inj j k _ _ e e' q (un q1 z1) (un q2 z2) z3 z4
theorem At.wipe (A : At K F σ g G H) : ∀ vs : List Nat, At K F (L2.wipe σ vs) (wipeG g vs) G H
  | [] => A
  | v :: vs => by
    have B := (At.wipe A vs).kill v
    refine B.slot (v := none) ?_
    by_cases hv : v < (wipeG g vs).length
    · exact .inl (List.getElem?_set_self hv)
    · exact .inr (by simpa using hv)
theorem At.unwipe {vs : List Nat} (A : At K F (L2.wipe σ vs) g G H) : At K F σ g G H := by
  refine ⟨A.ex, A.g0, A.h0, A.f0, A.n0, (wipe_length σ vs).symm.trans A.len, fun i d h => ?_, fun i t d h => ?_, fun j k t u e e' q z1 z2 z3 z4 => ?_⟩
  · obtain ⟨v, q1, q2⟩ := A.pur i d h
    exact ⟨v, (wipe_some q1).1, q2⟩
  · obtain ⟨p, q1, q2⟩ := A.own i _ d h
    exact ⟨p, (wipe_some q1).1, q2⟩
  · obtain ⟨p, q1, _⟩ := A.own j _ e z1
    obtain ⟨p', q1', _⟩ := A.own k _ e' z2
    have e1 := (wipe_some q1).1
    have e2 := (wipe_some q1').1
    rw [z3] at e1
    rw [z4] at e2
    cases e1
    cases e2
    exact A.inj j k _ _ e e' q z1 z2 q1 q1'
theorem Nob.via (A : At K F σ g G H) {D : Addr} (n : Nob F σ g G H D) (B : At K (Mi.snap F σ g G H) σ' g' G' H') : Nob F σ' g' G' H' D ∧ ∀ o, H D = some o → H' D = some o := by
  have ns : ¬ (Mi.snap F σ g G H).S D := fun ⟨i, t, d, h1, h2⟩ => n.no i t d h1 h2
  cases e : H D with
  | none => exact absurd e n.nh
  | some o =>
    have h' : H' D = some o := B.h0 D o e ns
    refine ⟨⟨(B.f0 D o e ns).trans n.ng, n.nf, by rw [h']; simp, fun i t d h z => ?_⟩, fun o' e' => by cases e'; exact h'⟩
    obtain ⟨p, q1, q2, q3, q4, _⟩ := B.own i _ d h
    rw [z] at q1
    cases q1
    rcases q4 with q4 | q4
    · exact ns q4
    · have : H D = none := q4
      rw [e] at this; cases this
theorem Nob.upd {D : Addr} {o : HO} (n : Nob F σ g G H D) : Nob F σ g G (upd H D o) D := ⟨n.ng, n.nf, by rw [upd_same]; simp, n.no⟩
theorem Nob.wipe {D : Addr} (n : Nob F σ g G H D) (vs : List Nat) : Nob F (L2.wipe σ vs) (wipeG g vs) G H D := by
  refine ⟨n.ng, n.nf, n.nh, fun i t d h z => ?_⟩
  have : ∀ (ws : List Nat), (wipeG g ws)[i]? = some (.own t d) → g[i]? = some (.own t d) := by
    intro ws
    induction ws with
    | nil => exact fun h => h
    | cons w ws ih =>
      intro h
      unfold wipeG at h
      by_cases q : w = i
      · subst q
        by_cases hl : w < (wipeG g ws).length
        · rw [List.getElem?_set_self hl] at h; cases h
        · rw [List.getElem?_eq_none (by simpa using hl)] at h; cases h
      · rw [List.getElem?_set_ne q] at h
        exact ih h
  exact n.no i t d (this vs h) (wipe_some z).1
theorem Nob.unwipe {D : Addr} {vs : List Nat} (A : At K F (L2.wipe σ vs) g G H) (n : Nob F (L2.wipe σ vs) g G H D) : Nob F σ g G H D := by
  refine ⟨n.ng, n.nf, n.nh, fun i t d h z => ?_⟩
  obtain ⟨p, q1, _⟩ := A.own i _ d h
  have e := (wipe_some q1).1
  rw [z] at e
  cases e
  exact n.no i t d h q1
end
theorem wipe_ext {σ σ2 : L2.St} {vs js : List Nat} (hl : σ2.length = (wipe σ vs).length) (hj : ∀ j, j ∉ js → σ2[j]? = (wipe σ vs)[j]?) (hs : ∀ j ∈ js, j ∈ vs) : wipe σ2 vs = wipe σ vs := by
  have self : ∀ (τ : L2.St) (ws : List Nat) (j : Nat), j ∈ ws → j < τ.length → (wipe τ ws)[j]? = some none := by
    intro τ ws
    induction ws with
    | nil => intro j hj; cases hj
    | cons w ws ih =>
      intro j hj hl
      unfold wipe
      by_cases q : w = j
      · subst q
        exact List.getElem?_set_self (by rw [wipe_length]; exact hl)
      · rw [List.getElem?_set_ne q]
        rcases List.mem_cons.mp hj with e | e
        · exact absurd e.symm q
        · exact ih j e hl
  have out : ∀ (τ : L2.St) (ws : List Nat) (j : Nat), j ∉ ws → (wipe τ ws)[j]? = τ[j]? := by
    intro τ ws
    induction ws with
    | nil => intro j _; rfl
    | cons w ws ih =>
      intro j hj
      simp only [List.mem_cons, not_or] at hj
      unfold wipe
      rw [List.getElem?_set_ne (Ne.symm hj.1)]
      exact ih j hj.2
  have hl2 : σ2.length = σ.length := hl.trans (wipe_length σ vs)
  refine List.ext_getElem? fun j => ?_
  by_cases q : j ∈ vs
  · by_cases h : j < σ.length
    · rw [self σ2 vs j q (by rw [hl2]; exact h), self σ vs j q h]
    · rw [List.getElem?_eq_none (by rw [wipe_length, hl2]; omega), List.getElem?_eq_none (by rw [wipe_length]; omega)]
  · rw [out σ2 vs j q]
    exact hj j fun z => q (hs j z)
end Mi
namespace Mi
open PySem PySem.Spec PyProof.Rows L2
section
variable {K : Frag} {F : Frm} {σ σ' : L2.St} {g g' : Gm} {G H G' H' : Hp}
theorem At.newNob (A : At K F σ g G H) {D : Addr} {o : HO} (hp : H D = none) : At K F σ g G (upd H D o) ∧ Nob F σ g G (upd H D o) D := by
  have gp : G D = none := A.ex.free hp
  have ne : ∀ {j : Nat} {t : Bool} {e : PyData} {q : Addr}, g[j]? = some (.own t e) → σ[j]? = some (some (.ref q)) → q ≠ D := fun {j t e q} z y w => by
    obtain ⟨p2, y1, _, y3, _⟩ := A.own j _ e z
    rw [y] at y1
    cases y1
    obtain ⟨o', ho⟩ := y3.some
    rw [w, hp] at ho; cases ho
  refine ⟨⟨fun a u e => ?_, A.g0, fun a u e s => ?_, A.f0, fun a e => ?_, A.len, A.pur, fun i t d h => ?_, A.inj⟩, gp, A.n0 D hp, by rw [upd_same]; simp, fun i t d h z => ne h z rfl⟩
  · rw [upd_ne (ne_of_none e gp)]; exact A.ex _ _ e
  · rw [upd_ne (ne_of_none (A.h0 a u e s) hp)]; exact A.h0 a u e s
  · by_cases q : a = D
    · subst q; rw [upd_same] at e; cases e
    · rw [upd_ne q] at e; exact A.n0 a e
  · obtain ⟨p, q1, q2, q3, q4⟩ := A.own i _ d h
    exact ⟨p, q1, q2, q3.up (Same.refl _) (upd_ne (ne h q1)), q4⟩
theorem Nob.grow {D : Addr} (n : Nob F σ g G H D) (r : Gr G H G' H') : Nob F σ g G' H' D := by
  cases e : H D with
  | none => exact absurd e n.nh
  | some o => exact ⟨(r.f D o e).trans n.ng, n.nf, by rw [r.h D o e]; simp, n.no⟩
end
abbrev W0 : WX := fun _ _ _ _ => False
/-- a new list that is nobody's -/
def cL (K : Frag) (mg : Mg) (W : WX) (m : MM (List PyData)) : TE := fun σ H Q => ∃ F g G, At K F σ g G H ∧ Po K mg W F σ G (m g) fun zs g' G' H' => ∀ D xs, Nob F σ g' G' H' D → H' D = some (.lst xs) → RpAll K G' xs zs → Q (.ref D) H'
theorem lc_of {K : Frag} {mg : Mg} {W : WX} {mi : MM (List PyData)} {vs js : List Nat} {b : PyData → Gm → Option Gm} {tt : MM Bool} {te : MM PyData} (hj : ∀ j ∈ js, j ∈ vs) {σ : L2.St} {H : Hp} {Q : VK} (h : cL K mg W (compM mi vs b tt te) σ H Q) :
    tLc (cI K mg W mi) (cG K js b) (cT K mg W0 tt) (cE K mg W0 te) vs σ H Q := by
  obtain ⟨F, g, G, A, q⟩ := h
  refine ⟨F, g, G, A, Po.imp q.bnd fun ds g1 G1 H1 A1 s1 k1 J hJ => ?_⟩
  intro D hD
  by_cases hl : ds.length ≤ sizeLine
  case neg =>
    have k2 : Po K mg W F σ G1 (if ds.length ≤ sizeLine then (match compL vs b tt te ds (wipeG g1 vs) with
      | .ok (zs, g') => (.ok (zs, g') : Except Er (List PyData × Gm))
      | .error _ => .error .stuck) else .error .stuck) (fun zs g' G' H' => ∀ D xs, Nob F σ g' G' H' D → H' D = some (.lst xs) → RpAll K G' xs zs → Q (.ref D) H') := k1
    rw [if_neg hl] at k2
    exact k2.elim
  have k2 : Po K mg W F σ G1 (if ds.length ≤ sizeLine then (match compL vs b tt te ds (wipeG g1 vs) with
      | .ok (zs, g') => (.ok (zs, g') : Except Er (List PyData × Gm))
      | .error _ => .error .stuck) else .error .stuck) (fun zs g' G' H' => ∀ D xs, Nob F σ g' G' H' D → H' D = some (.lst xs) → RpAll K G' xs zs → Q (.ref D) H') := k1
  rw [if_pos hl] at k2
  generalize ec : compL vs b tt te ds (wipeG g1 vs) = rc at k2
  rcases rc with _ | ⟨zs, gf⟩
  · exact k2.elim
  have k3 : ∀ G' H', At K F σ gf G' H' → Same G1 G' → ∀ D xs, Nob F σ gf G' H' D → H' D = some (.lst xs) → RpAll K G' xs zs → Q (.ref D) H' := k2
  have start : ∃ gi Gi acc zacc zr, At K F (wipe σ vs) gi Gi (upd H1 D (.lst [])) ∧ Same G1 Gi ∧ Nob F (wipe σ vs) gi Gi (upd H1 D (.lst [])) D ∧ (upd H1 D (.lst [])) D = some (.lst acc) ∧ RpAll K Gi acc zacc ∧ acc.length ≤ 0 ∧ compL vs b tt te (ds.drop 0) gi = .ok (zr, gf) ∧ zs = zacc ++ zr := by
    obtain ⟨B, n⟩ := A1.newNob (o := .lst []) hD
    exact ⟨wipeG g1 vs, G1, [], [], zs, B.wipe vs, Same.refl _, n.wipe vs, upd_same, .nil, Nat.le_refl _, ec, rfl⟩
  refine ⟨fun i m H => m = ds.length - i ∧ i ≤ ds.length ∧ ∃ gi Gi acc zacc zr, At K F (wipe σ vs) gi Gi H ∧ Same G1 Gi ∧ Nob F (wipe σ vs) gi Gi H D ∧ H D = some (.lst acc) ∧ RpAll K Gi acc zacc ∧ acc.length ≤ i ∧ compL vs b tt te (ds.drop i) gi = .ok (zr, gf) ∧ zs = zacc ++ zr,
    ⟨ds.length, by simp, Nat.zero_le _, start⟩, ?_⟩
  rintro i m H ⟨rfl, hi, gi, Gi, acc, zacc, zr, Ai, si, ni, hDi, ri, hli, eci, ez⟩
  by_cases hlt : i < ds.length
  case neg =>
    have e : i = ds.length := by omega
    subst e
    rw [List.drop_length] at eci
    cases eci
    refine .inl ⟨hJ.stop Gi H si Ai.ex, ?_⟩
    rw [List.append_nil] at ez
    subst ez
    exact k3 Gi H Ai.unwipe si D acc (Nob.unwipe Ai ni) hDi ri
  have ed : ds[i]? = some ds[i] := List.getElem?_eq_getElem hlt
  refine .inr ⟨hJ.go i _ Gi H ed si Ai.ex, fun H => ∃ gi Gi acc zacc zr, At K F (wipe σ vs) gi Gi H ∧ Same G1 Gi ∧ Nob F (wipe σ vs) gi Gi H D ∧ H D = some (.lst acc) ∧ RpAll K Gi acc zacc ∧ acc.length ≤ i + 1 ∧ compL vs b tt te (ds.drop (i + 1)) gi = .ok (zr, gf) ∧ zs = zacc ++ zr,
    fun H' n' => ⟨ds.length - (i + 1), by omega, rfl, hlt, n'⟩, fun x H' y => ?_⟩
  obtain ⟨G2, gr, rv⟩ := hJ.yld i _ Gi H x H' ed si Ai.ex y
  have A2 := Ai.grow gr
  have n2 := ni.grow gr
  have hD2 : H' D = some (.lst acc) := gr.h _ _ hDi
  rw [List.drop_eq_getElem_cons hlt] at eci
  unfold compL at eci
  generalize eb : b ds[i] gi = ob at eci
  cases ob with
  | none => cases eci
  | some gb =>
    simp only at eci
    refine ⟨snap F (wipe σ vs) gi G2 H', gi, G2, ds[i], A2.snap, rv, ?_⟩
    rw [eb]
    refine fun σ2 B2 l2 j2 => ⟨wipe_ext l2 j2 hj, snap F (wipe σ vs) gi G2 H', gb, G2, B2, ?_⟩
    have ew := wipe_ext l2 j2 hj
    generalize tt gb = rt at eci
    rcases rt with _ | ⟨t, g2⟩
    · cases eci
    cases t with
    | false =>
      simp only at eci
      intro G3 H3 B3 s3
      show if false = true then _ else _
      rw [if_neg Bool.false_ne_true]
      have A3 := A2.via B3
      obtain ⟨n3, h3⟩ := Nob.via A2 n2 B3
      have A4 := A3.wipe vs
      have n4 := n3.wipe vs
      rw [ew] at A4 n4
      exact ⟨wipeG g2 vs, G3, acc, zacc, zr, A4, (si.trans gr.g).trans s3, n4, h3 _ hD2, (ri.up gr.g).up s3, Nat.le_succ_of_le hli, eci, ez⟩
    | true =>
      simp only at eci
      intro G3 H3 B3 s3
      show if true = true then _ else _
      rw [if_pos rfl]
      refine ⟨snap F (wipe σ vs) gi G2 H', g2, G3, B3, ?_⟩
      generalize te g2 = re at eci
      rcases re with _ | ⟨z, g3⟩
      · cases eci
      simp only at eci
      intro G4 H4 B4 s4 v rz
      generalize er : compL vs b tt te (ds.drop (i + 1)) (wipeG g3 vs) = rr at eci
      rcases rr with _ | ⟨zr', gf'⟩
      · cases eci
      simp only at eci
      cases eci
      have A3 := A2.via B4
      obtain ⟨n3, h3⟩ := Nob.via A2 n2 B4
      have A4 := (A3.other (o := .lst (acc ++ [v])) n3).wipe vs
      have n4 := (n3.upd (o := .lst (acc ++ [v]))).wipe vs
      rw [ew] at A4 n4
      refine ⟨acc, h3 _ hD2, by omega, wipeG g3 vs, G4, acc ++ [v], zacc ++ [z], zr', A4, ((si.trans gr.g).trans s3).trans s4, n4, upd_same, (((ri.up gr.g).up s3).up s4).app (.cons rz .nil), by simp; omega, er, by rw [ez]; simp⟩
def lstO (m : MM (List PyData)) : MM PyData := bnd m fun zs => ret (.list zs)
/-- x = [..] of a comprehension -/
def setC (i : Nat) (m : MM (List PyData)) : Gm → Out := fun g => onE (m g) fun zs g' => .nx (g'.set i (.own false (.list zs)))
section
variable {X : Cx} {W : WX} {elt tg iter : Expr} {ifs : List Expr} {scope : Scope} {own : List (Str × Nat)} {pos spos py : Pos} {mi : MM (List PyData)} {js : List Nat} {b : PyData → Gm → Option Gm} {tt : MM Bool} {te : MM PyData}
def MTs (X : Cx) (W : WX) (ifs : List Expr) (m : MM Bool) : Prop := PTs X ifs (cT X.kx X.mg W m)
theorem _root_.L2.PTs.wk {t t' : TT} (h : PTs X ifs t) (i : ∀ σ H Q, t' σ H Q → t σ H Q) : PTs X ifs t' := ⟨fun pins s σ H Q I q => h.run pins s σ H Q I (i σ H Q q)⟩
theorem mts_nil : MTs X W [] yesM := PTs.wk pts_nil fun σ H Q ⟨F, g, G, A, q⟩ => q G H A (Same.refl _)
theorem mts_one {c : Expr} {m : MM Bool} (h : MT X W c m) : MTs X W [c] m := pts_one h
theorem me_lc (N : List Str) (sc : Scope) (own : List (Str × Nat)) (hc : X.calm = true) (hN : X.N.Nodup) (hi : MI X W tg iter mi) (ok : blkC N sc scope own = true)
    (hg : ∀ (s : Shared) (H : Hp) (C : Addr) (cl : List (Str × Addr)) (fp : List Addr), MG (X.blk s H scope (compEnvC scope cl C X.env) fp) tg js b) (ht : ∀ (s : Shared) (H : Hp) (C : Addr) (cl : List (Str × Addr)) (fp : List Addr), MTs (X.blk s H scope (compEnvC scope cl C X.env) fp) W0 ifs tt)
    (he : ∀ (s : Shared) (H : Hp) (C : Addr) (cl : List (Str × Addr)) (fp : List Addr), ME (X.blk s H scope (compEnvC scope cl C X.env) fp) W0 elt te) (hj : ∀ j ∈ js, j ∈ own.map (·.2) := by decide) (hs : ∀ x, foldedSetIterable iter X.env x = pure x := by intro _; rfl) (eN : X.N = N := by rfl) (eS : X.env.scope = sc := by rfl) :
    ME X W (.ListComp elt [⟨tg, iter, ifs, 0⟩] scope pos) (lstO (compM mi (own.map (·.2)) b tt te)) := PE.wk (pe_lc (g := cG X.kx js b) (tt := cT X.kx X.mg W0 tt) (te := cE X.kx X.mg W0 te) hc hN hi (by rw [eN, eS]; exact blkOk_by ok) hg ht he hs) fun σ H Q ⟨F, g, G, A, q⟩ => by
  refine lc_of hj ⟨F, g, G, A, Po.imp q.bnd fun zs g1 G1 H1 A1 s1 k1 D xs n hD r => ?_⟩
  have sg : Same G1 (upd G1 D (.lst xs)) := same_new n.ng
  exact k1 _ H1 (A1.adopt n hD) sg _ (.lst upd_same (r.up sg))
/-- name = [..], plain data -/
theorem ms_setLc (N : List Str) (sc : Scope) (own : List (Str × Nat)) {i : Nat} {y : Str} (hc : X.calm = true) (hN : X.N.Nodup) (hy : X.N[i]? = some y) (hyl : X.env.scope.names.lookup y = some .local)
    (hsw : swapsWith (.ListComp elt [⟨tg, iter, ifs, 0⟩] scope pos) (some (.Name y py)) spos.line X.env = pure true) (hi : MI X W tg iter mi) (ok : blkC N sc scope own = true)
    (hg : ∀ (s : Shared) (H : Hp) (C : Addr) (cl : List (Str × Addr)) (fp : List Addr), MG (X.blk s H scope (compEnvC scope cl C X.env) fp) tg js b) (ht : ∀ (s : Shared) (H : Hp) (C : Addr) (cl : List (Str × Addr)) (fp : List Addr), MTs (X.blk s H scope (compEnvC scope cl C X.env) fp) W0 ifs tt)
    (he : ∀ (s : Shared) (H : Hp) (C : Addr) (cl : List (Str × Addr)) (fp : List Addr), ME (X.blk s H scope (compEnvC scope cl C X.env) fp) W0 elt te) (hj : ∀ j ∈ js, j ∈ own.map (·.2) := by decide) (hs : ∀ x, foldedSetIterable iter X.env x = pure x := by intro _; rfl) (eN : X.N = N := by rfl) (eS : X.env.scope = sc := by rfl) :
    MS X W (.Assign [.Name y py] (.ListComp elt [⟨tg, iter, ifs, 0⟩] scope pos) spos) (setS i (lstO (compM mi (own.map (·.2)) b tt te))) := PS.wk (ps_setLc (g := cG X.kx js b) (tt := cT X.kx X.mg W0 tt) (te := cE X.kx X.mg W0 te) hc hN hy hyl hsw hi (by rw [eN, eS]; exact blkOk_by ok) hg ht he hs) fun D0 σ H ⟨F, g, G, A, q⟩ => by
  have q' : Po X.kx X.mg W F σ G (compM mi (own.map (·.2)) b tt te g) fun zs g' G' H' => PoS X.kx X.mg W F G' (.nx (g'.set i (.dat (.list zs)))) D0 := by
    unfold setS lstO bnd ret at q
    generalize compM mi (own.map (·.2)) b tt te g = r at q ⊢
    rcases r with (_ | ⟨c, g'⟩) | ⟨zs, g'⟩
    · exact q
    · exact fun C hC G' H' A s => q C hC σ G' H' A s
    · exact fun G' H' A s => PoS.base s q
  refine lc_of hj ⟨F, g, G, A, Po.imp q' fun zs g1 G1 H1 A1 s1 k1 D xs n hD r => ?_⟩
  have sg : Same G1 (upd G1 D (.lst xs)) := same_new n.ng
  exact k1 _ _ H1 ((A1.adopt n hD).put (.lst upd_same (r.up sg))) sg
end
/-! ### changes of what is owned -/
/-- x.append(e) -/
def chkL (i : Nat) : MM Unit := fun g => match g[i]? with
  | some (.own _ (.list _)) => .ok ((), g)
  | _ => .error .stuck
def appM (i : Nat) (m : MM PyData) : MM PyData := bnd (chkL i) fun _ => bnd m fun d g => match g[i]? with
  | some (.own t (.list ds)) => if ds.length < sizeLine then .ok (.none, g.set i (.own t (.list (ds ++ [d])))) else .error .stuck
  | _ => .error .stuck
theorem chkL_at {α : Type} {K : Frag} {mg : Mg} {W : WX} {F : Frm} {σ : L2.St} {g : Gm} {G H : Hp} {i : Nat} {f : Unit → MM α} {k : α → Gm → Hp → Hp → Prop} (A : At K F σ g G H) (q : Po K mg W F σ G (bnd (chkL i) f g) k) : ∃ xs p, σ[i]? = some (some (.ref p)) ∧ H p = some (.lst xs) ∧ Po K mg W F σ G (f () g) k := by
  unfold bnd chkL at q
  generalize eg : g[i]? = s at q
  rcases s with _ | (_ | d | ⟨t, d⟩)
  · exact q.elim
  · exact q.elim
  · exact q.elim
  · obtain ⟨p, h1, h2, h3, h4⟩ := A.own i _ d eg
    cases d with
    | list ds =>
      obtain ⟨xs, q1, q2⟩ := h3
      exact ⟨xs, p, h1, q1, q⟩
    | _ => exact q.elim
section
variable {X : Cx} {W : WX} {o e k : Expr} {m mk : MM PyData} {pos p p2 : Pos} {i : Nat}
theorem me_app (ho : PE X o (tVar i)) (he : ME X W e m) (h : ∀ {to te : TE}, PE X o to → PE X e te → PE X (.Call (.Attribute o "append" p) [e] [] pos) (tBM X.kx "list" rAppend to (tCons te tNil))) : ME X W (.Call (.Attribute o "append" p) [e] [] pos) (appM i m) := PE.wk (h ho he) fun σ H Q ⟨F, g, G, A, q⟩ => by
  obtain ⟨xs0, p0, ep, hx0, q1⟩ := chkL_at A q
  refine ⟨_, ep, Or.inl ⟨rfl, _, Or.inl (Or.inl hx0)⟩, F, g, G, A, Po.imp q1.bnd fun d g1 G1 H1 A1 s1 k1 x rx => ?_⟩
  · have k2 : Po X.kx X.mg W F σ G1 (match g1[i]? with
      | some (.own t (.list ds)) => if ds.length < sizeLine then (.ok (.none, g1.set i (.own t (.list (ds ++ [d])))) : Except Er (PyData × Gm)) else .error .stuck
      | _ => .error .stuck) (fun d _ G' H' => ∀ v, Rp X.kx G' v d → Q v H') := k1
    generalize eg : g1[i]? = s at k2
    rcases s with _ | (_ | d1 | ⟨t1, d1⟩)
    · exact k2.elim
    · exact k2.elim
    · exact k2.elim
    · obtain ⟨p1, ep1, gp1, ow1, _⟩ := A1.own i _ d1 eg
      rw [ep] at ep1
      cases ep1
      cases d1 with
      | list ds =>
        obtain ⟨xs, h1, h2⟩ := ow1
        simp only at k2
        by_cases hz : ds.length < sizeLine
        · rw [if_pos hz] at k2
          have B := A1.change (o := .lst (xs ++ [x])) (d' := .list (ds ++ [d])) eg ep ⟨_, upd_same, h2.app (.cons rx .nil)⟩
          exact ⟨p0, xs, x, rfl, rfl, h1, by rw [h2.len]; exact hz, k2 G1 _ B (Same.refl _) _ .non⟩
        · rw [if_neg hz] at k2
          exact k2.elim
      | _ => exact k2.elim
end
end Mi
namespace Mi
open PySem PySem.Spec PyProof.Rows L2
/-! ### stores into an owned list -/
/-- x[k] = e of an owned list -/
def stoS (i : Nat) (k m : MM PyData) : Gm → Out := fun g => onE (bnd m (fun d => bnd (chkL i) fun _ => bnd k fun j => ret (d, j)) g) fun dj g' => match g'[i]?, dj.2 with
  | some (.own t (.list ds)), .int j => (match ixN ds.length j with
    | some n => .nx (g'.set i (.own t (.list (ds.set n dj.1))))
    | none => .stuck)
  | _, _ => .stuck
/-- the content of an owned object -/
def pkO (i : Nat) : MM PyData := fun g => match g[i]? with
  | some (.own _ d) => .ok (d, g)
  | _ => .error .stuck
theorem pkO_read {α : Type} {K : Frag} {mg : Mg} {W : WX} {F : Frm} {σ : L2.St} {g : Gm} {G H : Hp} {i : Nat} {f : PyData → MM α} {k : α → Gm → Hp → Hp → Prop} (A : At K F σ g G H) (q : Po K mg W F σ G (bnd (pkO i) f g) k) :
    ∃ v d, σ[i]? = some (some v) ∧ Rq K G H v d ∧ Po K mg W F σ G (f d g) k := by
  unfold bnd pkO at q
  generalize eg : g[i]? = s at q
  rcases s with _ | (_ | d | ⟨t, d⟩)
  · exact q.elim
  · exact q.elim
  · exact q.elim
  · obtain ⟨p, h1, h2, h3, h4⟩ := A.own i _ d eg
    exact ⟨_, d, h1, .inr ⟨p, rfl, h3⟩, q⟩
/-- x[k] op= e of an owned list -/
def augI (f : PyData → PyData → Option PyData) (i : Nat) (k m : MM PyData) : Gm → Out := fun g => onE (bnd (chkL i) (fun _ => bnd k fun j => bnd (pkO i) fun d => match d, j with
    | .list ds, .int j => (match ixN ds.length j, atI ds j with
      | some _, some old => bnd m fun e => bnd (lft (f old e)) fun z => ret (j, z)
      | _, _ => lft none)
    | _, _ => lft none) g) fun jz g' => match g'[i]? with
  | some (.own t (.list ds)) => (match ixN ds.length jz.1 with
    | some n => .nx (g'.set i (.own t (.list (ds.set n jz.2))))
    | none => .stuck)
  | _ => .stuck
section
variable {X : Cx} {W : WX} {o e k : Expr} {m mk : MM PyData} {pos p p2 : Pos} {i : Nat}
theorem ms_sto (ho : PE X o (tVar i)) (hk : ME X W k mk) (he : ME X W e m) (ha : ∀ v, assign (.Subscript o k p) X.env v = (do
      let ov ← holding [v] (eval o X.env)
      let iv ← holding [v, ov] (eval k X.env)
      standAt p
      holding [v, ov, iv] (setItem ov iv v)
      release [v, ov, iv] []) := by intro _; rfl)
    (hs : swapsWithSole [.Subscript o k p] e pos.line X.env = pure false := by rfl) (hw : swappedStores [.Subscript o k p] e X.env = pure none := by rfl)
    (h1 : (assignEach [.Subscript o k p] X.env).map (·.2) = [assign (.Subscript o k p) X.env] := by rfl) : MS X W (.Assign [.Subscript o k p] e pos) (stoS i mk m) :=
  PS.wk (ps_asg he (pg_sub ho hk set_list ha) hs hw h1) fun D σ H ⟨F, g, G, A, q⟩ => by
  refine ⟨F, g, G, A, Po.imp (Po.bnd (PoS.onE q)) fun d g1 G1 H1 A1 s1 k1 x rx => ?_⟩
  obtain ⟨xs0, p0, ep, hx0, k2⟩ := chkL_at A1 k1
  refine ⟨_, ep, F, g1, G1, A1, Po.imp k2.bnd fun j g2 G2 H2 A2 s2 k3 y ry => ?_⟩
  have k4 := k3 G2 H2 A2 (Same.refl _)
  simp only at k4
  generalize eg : g2[i]? = s at k4
  rcases s with _ | (_ | d1 | ⟨t1, d1⟩)
  · exact k4.elim
  · exact k4.elim
  · exact k4.elim
  · obtain ⟨p1, ep1, gp1, ow1, _⟩ := A2.own i _ d1 eg
    rw [ep] at ep1
    cases ep1
    cases d1 with
    | list ds =>
      obtain ⟨xs, h1, h2⟩ := ow1
      cases j with
      | int j =>
        simp only at k4
        generalize ej : ixN ds.length j = oj at k4
        cases oj with
        | none => exact k4.elim
        | some n =>
          cases ry
          refine ⟨p0, xs, j, n, rfl, rfl, h1, by rw [h2.len]; exact ej, ?_⟩
          have B := A2.change (o := .lst (xs.set n x)) (d' := .list (ds.set n d)) eg ep ⟨_, upd_same, h2.set n (rx.up s2)⟩
          exact k4 σ G2 _ B (Same.refl _)
      | _ => exact k4.elim
    | _ => exact k4.elim
def rGetL (K : Frag) : V → V → Hp → VK → Prop := fun o i H Q => ∃ p xs k v, o = .ref p ∧ i = .int k ∧ SqL K H p xs ∧ atI xs k = some v ∧ Q v H
theorem get_list : PGet X (rGetL X.kx) := by
  intro pins s σ H x y v u Q I rx ry h
  obtain ⟨p, xs, i, z, rfl, rfl, hq, he, q⟩ := h
  cases rx
  obtain ⟨t, rfl⟩ := ry
  obtain ⟨its, r, pl, hz⟩ := I.list hq
  obtain ⟨j, h1, h2, h3, h4, h5⟩ := atI_get he
  obtain ⟨w, ew, rw'⟩ := r.get h2
  have hl := r.length
  have hn := line63
  have fin : EP X pins σ Q w s := ⟨z, H, I, rw', q⟩
  by_cases h0 : 0 ≤ i
  · have hj : i.toNat = j := by
      rw [seqIndex_of h0 h5] at h1
      exact Option.some.inj h1
    exact wpAny_getItem_list pl.isList h0 (by omega) (by rw [hj]; simpa using ew) fin
  · have hj : (i + (its.toArray.size : Int)).toNat = j := by
      rw [seqIndex_neg (by omega) h4] at h1
      rw [List.size_toArray, ← hl]
      exact Option.some.inj h1
    exact wpAny_getItem_list_neg pl.isList (by omega) (by rw [List.size_toArray] <;> omega) (by omega) (by rw [hj]; simpa using ew) fin
theorem RpAll.atI {K : Frag} {H : Hp} {xs : List V} {ds : List PyData} (r : RpAll K H xs ds) {j : Int} {d : PyData} (h : L2.atI ds j = some d) : ∃ v, L2.atI xs j = some v ∧ Rp K H v d := by
  have hl := r.len
  unfold L2.atI at h ⊢
  rw [hl]
  generalize (L2.ixN ds.length j) = o at h ⊢
  cases o with
  | none => cases h
  | some n => exact r.get h
theorem ms_augI {op : Operator} {r : TIp} {f : PyData → PyData → Option PyData} (hf : Op2 X.kx r f) (hr : PIp X op r) (ho : PE X o (tVar i)) (hk : ME X W k mk) (he : MQ X W e m)
    (ha : ∀ ov iv new, augStore k ov iv new = (do holding [new, ov, iv] (setItem ov iv new); release [new, ov, iv] []; pure .next) := by intros; rfl) : MS X W (.AugAssign (.Subscript o k p) op e pos) (augI f i mk m) :=
  PS.wk (ps_augS ho hk get_list he hr set_list ha) fun D σ H ⟨F, g, G, A, q⟩ => by
  obtain ⟨xs0, p0, ep, hx0, q1⟩ := chkL_at A (PoS.onE q)
  refine ⟨_, ep, F, g, G, A, Po.imp q1.bnd fun j g1 G1 H1 A1 s1 k1 y ry => ?_⟩
  obtain ⟨v1, d1, ev1, rv1, k2⟩ := pkO_read A1 k1
  rw [ep] at ev1
  cases ev1
  cases d1 with
  | list ds =>
    cases j with
    | int j =>
      cases ry
      simp only at k2
      generalize ej : ixN ds.length j = oj at k2
      generalize ea : atI ds j = oa at k2
      cases oj with
      | none => exact k2.elim
      | some n =>
        cases oa with
        | none => exact k2.elim
        | some old =>
          obtain ⟨p1, xs, e1, hx, rx⟩ := rv1.lst A1.ex
          cases e1
          obtain ⟨v, hv, rv⟩ := rx.atI ea
          refine ⟨p0, xs, j, v, rfl, rfl, .inl (.inl hx), hv, F, g1, G1, A1, Po.imp (Po.bnd k2) fun d2 g2 G2 H2 A2 s2 k3 w rw' => ?_⟩
          obtain ⟨z, ez, k4⟩ := (k3.bnd).lft
          refine hf v w old d2 z G2 H2 _ ez (.inl (rv.up s2)) rw' A2.ex fun zv G3 H3 gr rz => ?_
          have A3 := A2.grow gr
          have k5 := k4 G3 H3 A3 gr.g G3 H3 A3 (Same.refl _)
          simp only at k5
          generalize eg : g2[i]? = s at k5
          rcases s with _ | (_ | d5 | ⟨t5, d5⟩)
          · exact k5.elim
          · exact k5.elim
          · exact k5.elim
          · obtain ⟨p5, ep5, gp5, ow5, _⟩ := A3.own i _ d5 eg
            rw [ep] at ep5
            cases ep5
            cases d5 with
            | list ds5 =>
              obtain ⟨xs5, h5, r5⟩ := ow5
              simp only at k5
              generalize en : ixN ds5.length j = on at k5
              cases on with
              | some n5 =>
                refine ⟨p0, xs5, j, n5, rfl, rfl, h5, by rw [r5.len]; exact en, ?_⟩
                have B := A3.change (o := .lst (xs5.set n5 zv)) (d' := .list (ds5.set n5 z)) eg ep ⟨_, upd_same, r5.set n5 rz⟩
                exact k5 σ G3 _ B (Same.refl _)
              | none => exact k5.elim
            | _ => exact k5.elim
    | _ => exact k2.elim
  | _ => exact k2.elim
end
/-! ### defs -/
/-- a def of n parameters and N names whose body is this, called with plain data -/
def runP (N n : Nat) (body : Gm → Out) (ds : List PyData) : Except Er PyData := if ds.length = n then (match body (ds.map .dat ++ List.replicate (N - n) .dead) with
  | .rt d _ => .ok d
  | .nx _ => .ok .none
  | .ex c g => .error (.exc c g)
  | _ => .error .stuck) else .error .stuck
/-- .. whose first argument is an owned object -/
def runS (N n : Nat) (body : Gm → Out) (s : PyData) (ds : List PyData) : Except Er (PyData × PyData) := if ds.length + 1 = n then (match body (.own true s :: (ds.map .dat ++ List.replicate (N - n) .dead)) with
  | .rt d g => (match g[0]? with | some (Sl.own true s') => .ok (d, s') | _ => .error .stuck)
  | .nx g => (match g[0]? with | some (Sl.own true s') => .ok (.none, s') | _ => .error .stuck)
  | .ex c g => .error (.exc c g)
  | _ => .error .stuck) else .error .stuck
section
variable {P : Program} {w : World} {K : PySem.W.Frag} {mg : Str → Option Value} {base : Heap}
theorem okXN {x qual : Str} {st : Stmt} {f : Addr} {fd : FuncData} {N ps : List Str} {k : Nat} {sp : Sp} (F : Fun K x qual st f fd) (S : FnScope N ps (defScope st)) (len : ∀ vs H Q E, sp vs H Q E → vs.length = ps.length)
    (hbody : ∀ (cdv : Value) (A : Around) (outer : List Env) (s : Shared) (H : Hp) (vs : List V) (Q : VK) (E : XK), Room k (A.deeper (envOfC qual (defScope st) s.heap.objs.size f cdv)) → sp vs H Q E →
      ∃ t, PSs (cxOf (L2N.CX P w) P w K mg base N qual (defScope st) f cdv A outer s H E) (defBody st) t ∧ t { nx := fun _ H' => Q .non H', rt := Q } (start N vs) H) : FnOk P w K mg base (L2N.CX P w) (k + 1) f fd ps sp := by
  obtain ⟨oc, od, kV, doc, pm, an, cdv, ct, osl, rfl, lk, hcd⟩ := F.ex
  exact fn_of lk hcd S len fun A outer s H vs Q E hr hsp => hbody cdv A outer s H vs Q E hr hsp
end
section
variable {P : Program} {w : World} {K : Frag} {mg : Mg} {base : Heap}
theorem rpAll_at {G : Hp} : ∀ {vs : List V} {ds : List PyData}, RpAll K G vs ds → ∀ (i : Nat) (d : PyData), (ds.map Sl.dat)[i]? = some (.dat d) → ∃ v, (vs.map some)[i]? = some (some v) ∧ Rp K G v d
  | _, _, .nil, i, d, h => by simp at h
  | _, _, .cons a _, 0, d, h => by
    simp at h
    subst h
    exact ⟨_, rfl, a⟩
  | _, _, .cons _ t, i + 1, d, h => by
    obtain ⟨v, h1, h2⟩ := rpAll_at t i d (by simpa using h)
    exact ⟨v, by simpa using h1, h2⟩
theorem not_own {ds : List PyData} {m i : Nat} {t : Bool} {d : PyData} (h : (ds.map Sl.dat ++ List.replicate m .dead)[i]? = some (.own t d)) : False := by
  by_cases hi : i < ds.length
  · rw [List.getElem?_append_left (by simpa using hi)] at h
    rw [List.getElem?_map] at h
    cases e : ds[i]? with
    | none => rw [e] at h; cases h
    | some x => rw [e] at h; cases h
  · rw [List.getElem?_append_right (by simpa using hi)] at h
    have := List.mem_of_getElem? h
    rw [List.mem_replicate] at this
    cases this.2
theorem at_start {G H : Hp} {N : List Str} {vs : List V} {ds : List PyData} (e : Same G H) (r : RpAll K G vs ds) (n : Nat) (hn : ds.length = n) (hN : n ≤ N.length) : At K ⟨fun _ => False, G, H, 0⟩ (L2.start N vs) (ds.map .dat ++ List.replicate (N.length - n) .dead) G H := by
  have hl := r.len
  refine ⟨e, Same.refl _, fun _ _ h _ => h, fun _ _ _ _ => rfl, fun _ h => h, ?_, fun i d h => ?_, fun i t d h => (not_own h).elim, fun i j t u d e' p h => (not_own h).elim⟩
  · simp [L2.start]; omega
  · by_cases hi : i < ds.length
    · rw [List.getElem?_append_left (by simpa using hi)] at h
      obtain ⟨v, h1, h2⟩ := rpAll_at r i d h
      refine ⟨v, ?_, h2⟩
      unfold L2.start
      rw [List.getElem?_append_left (by simp; omega)]
      exact h1
    · rw [List.getElem?_append_right (by simpa using hi)] at h
      have := List.mem_of_getElem? h
      rw [List.mem_replicate] at this
      cases this.2
theorem At.gr {G H G' H' : Hp} {σ : L2.St} {g : Gm} (A : At K ⟨fun _ => False, G, H, 0⟩ σ g G' H') : Gr G H G' H' := ⟨A.g0, fun a o h => A.h0 a o h id, A.ex, fun a o h => A.f0 a o h id⟩
theorem fnP {x qual : Str} {st : Stmt} {f : Addr} {fd : FuncData} {N ps : List Str} {k : Nat} {body : Gm → Out} (F : Fun K x qual st f fd) (S : FnScope N ps (defScope st)) (hp : ps.length ≤ N.length)
    (hb : ∀ (cdv : Value) (A : Around) (outer : List Env) (s : Shared) (H : Hp) (E : XK), Room k (A.deeper (envOfC qual (defScope st) s.heap.objs.size f cdv)) →
      MB (cxOf (L2N.CX P K.w) P K.w K mg base N qual (defScope st) f cdv A outer s H E) (fun cls d _ H => E cls d H) (defBody st) body) :
    FnOk P K.w K mg base (L2N.CX P K.w) (k + 1) f fd ps (SpP K mg (runP N.length ps.length body)) := by
  refine okXN F S (fun vs H Q E h => ?_) (fun cdv A outer s H vs Q E hr h => ?_)
  · obtain ⟨G, ds, e, r, h⟩ := h
    rw [r.len]
    by_cases hl : ds.length = ps.length
    · exact hl
    · unfold runP at h
      rw [if_neg hl] at h
      exact h.elim
  · obtain ⟨G, ds, e, r, h⟩ := h
    refine ⟨_, hb cdv A outer s H E hr, ⟨fun _ => False, G, H, 0⟩, ds.map .dat ++ List.replicate (N.length - ps.length) .dead, G, ?_, ?_⟩
    · by_cases hl : ds.length = ps.length
      · exact at_start e r _ hl hp
      · unfold runP at h
        rw [if_neg hl] at h
        exact h.elim
    · by_cases hl : ds.length = ps.length
      · unfold runP at h
        rw [if_pos hl] at h
        generalize body (ds.map .dat ++ List.replicate (N.length - ps.length) .dead) = o at h
        cases o with
        | nx g => exact fun σ' G' H' A' s' => h .non G' H' A'.gr .non
        | rt d g => exact fun v σ' G' H' A' s' rv => h v G' H' A'.gr rv
        | ex c g => exact fun C hC σ' G' H' A' s' => h C hC G' H' A'.gr
        | bk g => exact h.elim
        | ct g => exact h.elim
        | stuck => exact h.elim
      · unfold runP at h
        rw [if_neg hl] at h
        exact h.elim
theorem at_startS {G H : Hp} {N : List Str} {vs : List V} {ds : List PyData} {p : Addr} {s : PyData} (e : Same G H) (r : RpAll K G vs ds) (n : Nat) (hn : ds.length + 1 = n) (hN : n ≤ N.length) (gp : G p = none) (ow : Own K G H p s) :
    At K ⟨fun a => a = p, G, H, p⟩ (L2.start N (.ref p :: vs)) (.own true s :: (ds.map .dat ++ List.replicate (N.length - n) .dead)) G H := by
  have hl := r.len
  refine ⟨e, Same.refl _, fun _ _ h _ => h, fun _ _ _ _ => rfl, fun _ h => h, ?_, fun i d h => ?_, fun i t d h => ?_, fun i j t u d e' q h1 h2 h3 h4 => ?_⟩
  · simp [L2.start]; omega
  · cases i with
    | zero => cases h
    | succ i =>
      have h : (ds.map Sl.dat ++ List.replicate (N.length - n) .dead)[i]? = some (.dat d) := by simpa using h
      by_cases hi : i < ds.length
      · rw [List.getElem?_append_left (by simpa using hi)] at h
        obtain ⟨v, h1, h2⟩ := rpAll_at r i d h
        refine ⟨v, ?_, h2⟩
        show (some (V.ref p) :: vs.map some ++ _)[i + 1]? = _
        rw [List.getElem?_append_left (by simp; omega)]
        simpa using h1
      · rw [List.getElem?_append_right (by simpa using hi)] at h
        have := List.mem_of_getElem? h
        rw [List.mem_replicate] at this
        cases this.2
  · cases i with
    | zero =>
      cases h
      exact ⟨p, rfl, gp, ow, .inl rfl, fun _ => rfl⟩
    | succ i => exact (not_own (ds := ds) (m := N.length - n) (i := i) (t := t) (d := d) (by simpa using h)).elim
  · cases i with
    | zero =>
      cases j with
      | zero => rfl
      | succ j => exact (not_own (ds := ds) (m := N.length - n) (i := j) (t := u) (d := e') (by simpa using h2)).elim
    | succ i => exact (not_own (ds := ds) (m := N.length - n) (i := i) (t := t) (d := d) (by simpa using h1)).elim
theorem At.grS {G H G' H' : Hp} {σ : L2.St} {g : Gm} {p : Addr} (A : At K ⟨fun a => a = p, G, H, p⟩ σ g G' H') : GrS p G H G' H' := ⟨A.g0, fun a o ne h => A.h0 a o h ne, A.ex, fun a o ne h => A.f0 a o h ne, A.n0⟩
theorem fnS {x qual : Str} {st : Stmt} {f : Addr} {fd : FuncData} {N ps : List Str} {k : Nat} {body : Gm → Out} (F : Fun K x qual st f fd) (S : FnScope N ps (defScope st)) (hp : ps.length ≤ N.length)
    (hb : ∀ (cdv : Value) (A : Around) (outer : List Env) (s : Shared) (H : Hp) (E : XK), Room k (A.deeper (envOfC qual (defScope st) s.heap.objs.size f cdv)) →
      MB (cxOf (L2N.CX P K.w) P K.w K mg base N qual (defScope st) f cdv A outer s H E) (fun cls d _ H => E cls d H) (defBody st) body) :
    FnOk P K.w K mg base (L2N.CX P K.w) (k + 1) f fd ps (SpS K mg (runS N.length ps.length body)) := by
  refine okXN F S (fun vs H Q E h => ?_) (fun cdv A outer s H vs Q E hr h => ?_)
  · obtain ⟨G, p, us, s, ds, rfl, e, gp, ow, r, h⟩ := h
    rw [List.length_cons, r.len]
    by_cases hl : ds.length + 1 = ps.length
    · exact hl
    · unfold runS at h
      rw [if_neg hl] at h
      exact h.elim
  · obtain ⟨G, p, us, s0, ds, rfl, e, gp, ow, r, h⟩ := h
    by_cases hl : ds.length + 1 = ps.length
    · refine ⟨_, hb cdv A outer s H E hr, ⟨fun a => a = p, G, H, p⟩, _, G, at_startS e r _ hl hp gp ow, ?_⟩
      unfold runS at h
      rw [if_pos hl] at h
      generalize body (.own true s0 :: (ds.map .dat ++ List.replicate (N.length - ps.length) .dead)) = o at h
      cases o with
      | nx g =>
        simp only at h
        generalize eg : g[0]? = s at h
        rcases s with _ | (_ | d1 | ⟨_ | _, d1⟩)
        · exact h.elim
        · exact h.elim
        · exact h.elim
        · exact h.elim
        · refine fun σ' G' H' A' s' => ?_
          obtain ⟨p1, q1, q2, q3, q4, q5⟩ := A'.own 0 _ d1 eg
          cases q5 rfl
          exact h .non G' H' A'.grS q2 q3 .non
      | rt d g =>
        simp only at h
        generalize eg : g[0]? = s at h
        rcases s with _ | (_ | d1 | ⟨_ | _, d1⟩)
        · exact h.elim
        · exact h.elim
        · exact h.elim
        · exact h.elim
        · refine fun v σ' G' H' A' s' rv => ?_
          obtain ⟨p1, q1, q2, q3, q4, q5⟩ := A'.own 0 _ d1 eg
          cases q5 rfl
          exact h v G' H' A'.grS q2 q3 rv
      | ex c g => exact fun C hC σ' G' H' A' s' => h C hC G' H' A'.grS
      | bk g => exact h.elim
      | ct g => exact h.elim
      | stuck => exact h.elim
    · unfold runS at h
      rw [if_neg hl] at h
      exact h.elim
end
end Mi
namespace Mi
open PySem PySem.Spec PyProof.Rows L2
/-! ### operations on data -/
def sz (n : Nat) (d : PyData) : Option PyData := if n ≤ sizeLine then some d else none
def addD : PyData → PyData → Option PyData
  | .int i, .int j => some (.int (i + j))
  | .str a, .str b => sz (a.length + b.length) (.str (a ++ b))
  | .tuple xs, .tuple ys => sz (xs.length + ys.length) (.tuple (xs ++ ys))
  | .list xs, .list ys => sz (xs.length + ys.length) (.list (xs ++ ys))
  | _, _ => none
def rAddA (K : Frag) : R2 := fun x y H Q => (∃ i j, x = .int i ∧ y = .int j ∧ Q (.int (i + j)) H) ∨ (∃ i j, x = .str i ∧ y = .str j ∧ i.length + j.length ≤ sizeLine ∧ Q (.str (i ++ j)) H) ∨ rCatX K x y H Q ∨ rCat x y H Q
theorem hr_add {X : Cx} : OpR X (binaryOp .Add) (rAddA X.kx) := OpR.or op_add (OpR.or op_add_str (OpR.or op_catX op_cat))
theorem sz_eq {n : Nat} {d z : PyData} (h : sz n d = some z) : n ≤ sizeLine ∧ d = z := by
  unfold sz at h
  split at h
  · exact ⟨by assumption, Option.some.inj h⟩
  · cases h
theorem ho_add {K : Frag} : Op2 K (rAddA K) addD := by
  intro x y d e z G H Q h rx ry s k
  cases d with
  | int i =>
    cases e with
    | int j =>
      cases h
      rw [rx.int, ry.int]
      exact .inl ⟨i, j, rfl, rfl, k _ G H (Gr.refl s) (.int _)⟩
    | _ => cases h
  | str a =>
    cases e with
    | str b =>
      obtain ⟨hz, rfl⟩ := sz_eq h
      rw [rx.str, ry.str]
      exact .inr (.inl ⟨a, b, rfl, rfl, hz, k _ G H (Gr.refl s) (.str _)⟩)
    | _ => cases h
  | tuple xs =>
    cases e with
    | tuple ys =>
      obtain ⟨hz, rfl⟩ := sz_eq h
      obtain ⟨p, us, rfl, h1, h2⟩ := rx.tup s
      obtain ⟨q, ws, rfl, h3, h4⟩ := ry.tup s
      refine .inr (.inr (.inl ⟨p, q, us, ws, rfl, rfl, h1, h3, by rw [h2.len, h4.len]; exact hz, fun e => ?_, fun e1 e2 => ?_, fun _ _ => .of s (h2.app h4) k⟩))
      · subst e
        cases h2
        rcases ry with ry | ⟨_, _, o⟩
        · exact k _ G H (Gr.refl s) ry
        · exact o.elim
      · subst e2
        cases h4
        rw [List.append_nil] at k
        rcases rx with rx | ⟨_, _, o⟩
        · exact k _ G H (Gr.refl s) rx
        · exact o.elim
    | _ => cases h
  | list xs =>
    cases e with
    | list ys =>
      obtain ⟨hz, rfl⟩ := sz_eq h
      obtain ⟨p, us, rfl, h1, h2⟩ := rx.lst s
      obtain ⟨q, ws, rfl, h3, h4⟩ := ry.lst s
      refine .inr (.inr (.inr ⟨p, q, us, ws, rfl, rfl, h1, h3, by rw [h2.len, h4.len]; exact hz, fun r hr => ?_⟩))
      have gr := Gr.new (o := .lst (us ++ ws)) s hr
      exact k _ _ _ gr (.lst upd_same ((h2.app h4).up gr.g))
    | _ => cases h
  | _ => cases e <;> cases h
/-- ints only -/
def intD (C : Int → Int → Bool) (f : Int → Int → Int) : PyData → PyData → Option PyData
  | .int i, .int j => if C i j = true then some (.int (f i j)) else none
  | _, _ => none
theorem ho_int {K : Frag} {C : Int → Int → Bool} {C' : Int → Int → Prop} {f : Int → Int → Int} (hc : ∀ i j, C i j = true → C' i j) : Op2 K (rI C' fun i j => .int (f i j)) (intD C f) := by
  intro x y d e z G H Q h rx ry s k
  cases d with
  | int i =>
    cases e with
    | int j =>
      have h' : (if C i j = true then some (PyData.int (f i j)) else none) = some z := h
      by_cases hij : C i j = true
      · rw [if_pos hij] at h'
        cases h'
        rw [rx.int, ry.int]
        exact ⟨i, j, rfl, rfl, hc i j hij, k _ G H (Gr.refl s) (.int _)⟩
      · rw [if_neg hij] at h'
        cases h'
    | _ => cases h
  | _ => cases e <;> cases h
def subD := intD (fun _ _ => true) fun i j => i - j
theorem hr_sub {X : Cx} : OpR X (binaryOp .Sub) (rI (fun _ _ => True) fun i j => .int (i - j)) := by
  intro pins s σ H x y v u Q I rx ry ⟨i, j, e1, e2, _, q⟩
  exact op_sub pins s σ H x y v u Q I rx ry ⟨i, j, e1, e2, q⟩
theorem ho_sub {K : Frag} : Op2 K (rI (fun _ _ => True) fun i j => .int (i - j)) subD := ho_int fun _ _ _ => trivial
def mulC (i j : Int) : Bool := decide (-(2 ^ 64) < i ∧ i < 2 ^ 64) || decide (-(2 ^ 64) < j ∧ j < 2 ^ 64)
def mulD := intD mulC fun i j => i * j
theorem ho_mul {K : Frag} : Op2 K (rI CMul fun i j => .int (i * j)) mulD := ho_int fun i j h => by
  simp only [mulC, Bool.or_eq_true, decide_eq_true_eq] at h
  exact h
def fdivD := intD (fun _ j => decide (j ≠ 0 ∧ j.natAbs < 1073741824)) fun i j => i.fdiv j
theorem ho_fdiv {K : Frag} : Op2 K (rI CDivN fun i j => .int (i.fdiv j)) fdivD := ho_int fun i j h => (of_decide_eq_true h : j ≠ 0 ∧ j.natAbs < 1073741824)
def modD := intD (fun _ j => decide (j ≠ 0)) fun i j => i.fmod j
theorem ho_mod {K : Frag} : Op2 K (rI (fun _ j => j ≠ 0) fun i j => .int (i.fmod j)) modD := ho_int fun i j h => of_decide_eq_true h
def powD := intD (fun i j => decide (0 ≤ j ∧ j ≤ 1000000 ∧ i.natAbs < 2 ^ 64)) fun i j => i ^ j.toNat
theorem ho_pow {K : Frag} : Op2 K (rI CPow fun i j => .int (i ^ j.toNat)) powD := ho_int fun i j h => (of_decide_eq_true h : 0 ≤ j ∧ j ≤ 1000000 ∧ i.natAbs < 2 ^ 64)
theorem ho_cmp {K : Frag} {f : Int → Int → Bool} : Op2 K (rI0 fun i j => .bl (f i j)) (fun d e => match d, e with | .int i, .int j => some (.bool (f i j)) | _, _ => none) := by
  intro x y d e z G H Q h rx ry s k
  cases d with
  | int i =>
    cases e with
    | int j =>
      cases h
      rw [rx.int, ry.int]
      exact ⟨i, j, rfl, rfl, k _ G H (Gr.refl s) (.bl _)⟩
    | _ => cases h
  | _ => cases e <;> cases h
def ltD : PyData → PyData → Option PyData := fun d e => match d, e with | .int i, .int j => some (.bool (decide (i < j))) | _, _ => none
def leD : PyData → PyData → Option PyData := fun d e => match d, e with | .int i, .int j => some (.bool (decide (i ≤ j))) | _, _ => none
def gtD : PyData → PyData → Option PyData := fun d e => match d, e with | .int i, .int j => some (.bool (decide (j < i))) | _, _ => none
def geD : PyData → PyData → Option PyData := fun d e => match d, e with | .int i, .int j => some (.bool (decide (j ≤ i))) | _, _ => none
theorem ho_lt {K : Frag} : Op2 K (rI0 fun i j => .bl (decide (i < j))) ltD := ho_cmp
theorem ho_gt {K : Frag} : Op2 K (rI0 fun i j => .bl (decide (j < i))) gtD := ho_cmp
theorem ho_ge {K : Frag} : Op2 K (rI0 fun i j => .bl (decide (j ≤ i))) geD := ho_cmp
/-! == and in of data -/
section
variable {X : Cx} {pins : List (Addr × Obj)} {σ : L2.St} {H : Hp} {s : Shared}
mutual
theorem Rp.rd (I : Inv X pins σ H s) : ∀ (d : PyData) (v : V) (u : Value), Rp X.kx H v d → RelV v u → DcEq.Rd s.heap u d
  | .none, _, _, h, r => by
    cases h
    cases r
    exact .none
  | .bool b, _, _, h, r => by
    cases h
    cases r
    exact .bool b
  | .int i, _, _, h, r => by
    cases h
    obtain ⟨t, rfl⟩ := r
    exact .int i t
  | .str x, _, _, h, r => by
    cases h
    obtain ⟨t, rfl⟩ := r
    exact .str x t
  | .list ds, _, _, h, r => by
    cases h with
    | lst hs ha =>
      cases r
      obtain ⟨its, rv, p, _⟩ := I.list (.inl (.inl hs))
      obtain ⟨hl, hr⟩ := RpAll.rds I ds _ its ha rv
      exact .list p.isList (by simpa using hl) fun j h1 h2 => by simpa using hr j (by simpa using h1) h2
  | .tuple ds, _, _, h, r => by
    cases h with
    | tup hs ha =>
      cases r
      obtain ⟨its, rv, p, _⟩ := I.tuple hs.sq
      obtain ⟨hl, hr⟩ := RpAll.rds I ds _ its ha rv
      exact .tuple p (by simpa using hl) fun j h1 h2 => by simpa using hr j (by simpa using h1) h2
  | .dict kvs, _, _, h, r => by
    cases h with
    | @dict a es ep _ hs _ ha =>
      cases r
      obtain ⟨⟨_, _, ho⟩, _⟩ := (show ObjOk X.prog X.w H s.heap a (dO a es ep) from I.hok a _ hs)
      exact .dict ho
theorem RpAll.rds (I : Inv X pins σ H s) : ∀ (ds : List PyData) (vs : List V) (us : List Value), RpAll X.kx H vs ds → Vals vs us → us.length = ds.length ∧ ∀ j (h1 : j < us.length) (h2 : j < ds.length), DcEq.Rd s.heap us[j] ds[j]
  | [], _, _, h, r => by
    cases h
    cases r
    exact ⟨rfl, fun j h1 => absurd h1 (Nat.not_lt_zero _)⟩
  | d :: ds, _, _, h, r => by
    cases h with
    | cons h1 h2 =>
      cases r with
      | cons r1 r2 =>
        have q1 := Rp.rd I d _ _ h1 r1
        obtain ⟨hl, hr⟩ := RpAll.rds I ds _ _ h2 r2
        refine ⟨by simpa using hl, fun j j1 j2 => ?_⟩
        cases j with
        | zero => exact q1
        | succ j => exact hr j (by simpa using j1) (by simpa using j2)
end
end
/-- == of data: no dict within one of them, one of them not deep -/
def lowD (d e : PyData) : Bool := (DcEq.ndB d || DcEq.ndB e) && decide (min d.depth e.depth ≤ 64)
def lowI (d e : PyData) : Bool := DcEq.ndB e && decide (min d.depth e.depth ≤ 64)
def notDc : PyData → Bool
  | .dict _ => false
  | _ => true
theorem notDc_ok {d : PyData} (h : notDc d = true) : ∀ kvs, d ≠ .dict kvs := fun kvs e => by rw [e] at h; cases h
def eqD (d e : PyData) : Option PyData := if lowD d e = true then some (.bool (PyData.eqv d e)) else none
def neD (d e : PyData) : Option PyData := if (lowD d e && (notDc d && notDc e)) = true then some (.bool (!PyData.eqv d e)) else none
def rEqL (K : Frag) : R2 := fun x y H Q => ∃ d e, Rp K H x d ∧ Rp K H y e ∧ lowD d e = true ∧ Q (.bl (PyData.eqv d e)) H
def rNeL (K : Frag) : R2 := fun x y H Q => ∃ d e, Rp K H x d ∧ Rp K H y e ∧ (lowD d e && (notDc d && notDc e)) = true ∧ Q (.bl (!PyData.eqv d e)) H
theorem eqv_str {a b : Str} : PyData.eqv (.str a) (.str b) = (a == b) := by simp [PyData.eqv]
theorem lowD_ok {d e : PyData} (h : lowD d e = true) : DcEq.oneNd d e ∧ min d.depth e.depth ≤ 64 := by
  simp only [lowD, Bool.and_eq_true, Bool.or_eq_true, decide_eq_true_eq] at h
  exact h
theorem hr_eq {X : Cx} (hu : X.A.units + 64 < cLine) : OpR X (compareOp .Eq) (rEqL X.kx) := by
  intro pins s σ H x y v u Q I rx ry h
  obtain ⟨d, e, hd, he, hl, q⟩ := h
  obtain ⟨l1, l2⟩ := lowD_ok hl
  exact DcEq.rcAt_rd (Rp.rd I d x v hd rx) (Rp.rd I e y u he ry) l1 (by omega) _ _ _ _ ⟨.bl _, H, I, rfl, q⟩
theorem hr_ne {X : Cx} (hu : X.A.units + 64 < cLine) : OpR X (compareOp .NotEq) (rNeL X.kx) := by
  intro pins s σ H x y v u Q I rx ry h
  obtain ⟨d, e, hd, he, hl, q⟩ := h
  simp only [Bool.and_eq_true] at hl
  obtain ⟨l1, l2⟩ := lowD_ok hl.1
  exact DcEq.rcNe_rd (Rp.rd I d x v hd rx) (Rp.rd I e y u he ry) l1 (notDc_ok hl.2.1) (notDc_ok hl.2.2) (by omega) _ _ _ _ ⟨.bl _, H, I, rfl, q⟩
theorem ho_eq {K : Frag} : Op2 K (rEqL K) eqD := by
  intro x y d e z G H Q h rx ry s k
  have h' : (if lowD d e = true then some (PyData.bool (PyData.eqv d e)) else none) = some z := h
  split at h'
  · cases h'
    exact ⟨d, e, rx.rp s, ry.rp s, by assumption, k _ G H (Gr.refl s) (.bl _)⟩
  · cases h'
theorem ho_ne {K : Frag} : Op2 K (rNeL K) neD := by
  intro x y d e z G H Q h rx ry s k
  have h' : (if (lowD d e && (notDc d && notDc e)) = true then some (PyData.bool (!PyData.eqv d e)) else none) = some z := h
  split at h'
  · cases h'
    exact ⟨d, e, rx.rp s, ry.rp s, by assumption, k _ G H (Gr.refl s) (.bl _)⟩
  · cases h'
/-- in, not in: lists and tuples of data -/
def inD (g : Bool → Bool) (d e : PyData) : Option PyData := match e with
  | .list ds => if lowI d e = true then some (.bool (g (ds.any fun z => PyData.eqv z d))) else none
  | .tuple ds => if lowI d e = true then some (.bool (g (ds.any fun z => PyData.eqv z d))) else none
  | .dict ds => if kFit ds d = true then some (.bool (g (hasD ds d))) else none
  | _ => none
def rInD (K : Frag) (g : Bool → Bool) : R2 := fun x y H Q => ∃ d ds, Rp K H x d ∧ Rp K H y (.dict ds) ∧ kFit ds d = true ∧ Q (.bl (g (hasD ds d))) H
def rInA (K : Frag) (g : Bool → Bool) : R2 := fun x y H Q => ∃ d e, Rp K H x d ∧ Rp K H y e ∧ lowI d e = true ∧ ((∃ ds, e = .list ds ∧ Q (.bl (g (ds.any fun z => PyData.eqv z d))) H) ∨ ∃ ds, e = .tuple ds ∧ Q (.bl (g (ds.any fun z => PyData.eqv z d))) H)
theorem room_in {X : Cx} {d : PyData} {ds : List PyData} (hu : X.A.units + 65 < cLine) (h : min d.depth (PyData.depthAll ds + 1) ≤ 64) : X.A.units + 1 + min (PyData.depthAll ds) d.depth < cLine := by omega
theorem lowI_ok {d e : PyData} (h : lowI d e = true) : DcEq.ndB e = true ∧ min d.depth e.depth ≤ 64 := by
  simp only [lowI, Bool.and_eq_true, decide_eq_true_eq] at h
  exact h
theorem hr_in0 {X : Cx} (hu : X.A.units + 65 < cLine) : OpR X (compareOp .In) (rInA X.kx id) := by
  intro pins s σ H x y v u Q I rx ry h
  obtain ⟨d, e, hd, he, hl, q⟩ := h
  obtain ⟨l1, l2⟩ := lowI_ok hl
  have r1 := Rp.rd I d x v hd rx
  have r2 := Rp.rd I e y u he ry
  rcases q with ⟨ds, rfl, q⟩ | ⟨ds, rfl, q⟩
  · exact DcEq.inL_rd r2 r1 l1 (room_in hu (by simpa [PyData.depth] using l2)) ⟨.bl _, H, I, rfl, q⟩
  · exact DcEq.inT_rd r2 r1 l1 (room_in hu (by simpa [PyData.depth] using l2)) ⟨.bl _, H, I, rfl, q⟩
theorem hr_ni0 {X : Cx} (hu : X.A.units + 65 < cLine) : OpR X (compareOp .NotIn) (rInA X.kx not) := by
  intro pins s σ H x y v u Q I rx ry h
  obtain ⟨d, e, hd, he, hl, q⟩ := h
  obtain ⟨l1, l2⟩ := lowI_ok hl
  have r1 := Rp.rd I d x v hd rx
  have r2 := Rp.rd I e y u he ry
  rcases q with ⟨ds, rfl, q⟩ | ⟨ds, rfl, q⟩
  · exact DcEq.niL_rd r2 r1 l1 (room_in hu (by simpa [PyData.depth] using l2)) ⟨.bl _, H, I, rfl, q⟩
  · exact DcEq.niT_rd r2 r1 l1 (room_in hu (by simpa [PyData.depth] using l2)) ⟨.bl _, H, I, rfl, q⟩
def rInB (K : Frag) (g : Bool → Bool) : R2 := fun x y H Q => rInA K g x y H Q ∨ rInD K g x y H Q
theorem ho_in {K : Frag} {g : Bool → Bool} : Op2 K (rInB K g) (inD g) := by
  intro x y d e z G H Q h rx ry s k
  cases e with
  | list ds =>
    have h' : (if lowI d (.list ds) = true then some (PyData.bool (g (ds.any fun z => PyData.eqv z d))) else none) = some z := h
    split at h'
    · rename_i hl
      cases h'
      exact .inl ⟨d, _, rx.rp s, ry.rp s, hl, .inl ⟨ds, rfl, k _ G H (Gr.refl s) (.bl _)⟩⟩
    · cases h'
  | tuple ds =>
    have h' : (if lowI d (.tuple ds) = true then some (PyData.bool (g (ds.any fun z => PyData.eqv z d))) else none) = some z := h
    split at h'
    · rename_i hl
      cases h'
      exact .inl ⟨d, _, rx.rp s, ry.rp s, hl, .inr ⟨ds, rfl, k _ G H (Gr.refl s) (.bl _)⟩⟩
    · cases h'
  | dict ds =>
    have h' : (if kFit ds d = true then some (PyData.bool (g (hasD ds d))) else none) = some z := h
    split at h'
    · rename_i hl
      cases h'
      exact .inr ⟨d, ds, rx.rp s, ry.rp s, hl, k _ G H (Gr.refl s) (.bl _)⟩
    · cases h'
  | _ => cases h
/-- x is None, x is not None; b is c, b is not c of bools -/
def isD (g : Bool → Bool) : PyData → PyData → Option PyData
  | d, .none => some (.bool (g (match d with | .none => true | _ => false)))
  | .bool a, .bool b => some (.bool (g (decide (a = b))))
  | _, _ => none
def rIsA (g : Bool → Bool) : R2 := fun x y H Q => (y = .non ∧ Q (.bl (g (decide (x = .non)))) H) ∨ ∃ a b : Bool, x = .bl a ∧ y = .bl b ∧ Q (.bl (g (decide (a = b)))) H
theorem hr_is {X : Cx} : OpR X (compareOp .Is) (rIsA id) := OpR.or op_isN op_isBl
theorem hr_isnot {X : Cx} : OpR X (compareOp .IsNot) (rIsA not) := OpR.or op_notN op_notBl
theorem ho_is {K : Frag} {g : Bool → Bool} : Op2 K (rIsA g) (isD g) := by
  intro x y d e z G H Q h rx ry s k
  cases e with
  | none =>
    rw [ry.none]
    refine .inl ⟨rfl, ?_⟩
    have e1 : decide (x = .non) = (match d with | .none => true | _ => false) := by
      rcases rx with rx | ⟨p, rfl, o⟩
      · cases rx <;> first | rfl | simp
      · cases d <;> first | exact o.elim | simp
    rw [e1]
    cases d <;> (cases h; exact k _ G H (Gr.refl s) (.bl _))
  | bool b =>
    cases d with
    | bool a =>
      cases h
      rw [rx.bool, ry.bool]
      exact .inr ⟨a, b, rfl, rfl, k _ G H (Gr.refl s) (.bl _)⟩
    | _ => cases h
  | _ => cases d <;> cases h
/-- -x -/
def negD : PyData → Option PyData
  | .int i => some (.int (-i))
  | _ => none
theorem ho_neg {K : Frag} : Op1 K (rU fun i => .int (-i)) negD := by
  intro x d z G H Q h rx s k
  cases d with
  | int i =>
    cases h
    rw [rx.int]
    exact ⟨i, rfl, k _ G H (Gr.refl s) (.int _)⟩
  | _ => cases h
/-- a[i] of lists, tuples, texts -/
def ixD : PyData → PyData → Option PyData
  | .list ds, .int i => atI ds i
  | .tuple ds, .int i => atI ds i
  | .str z, .int i => if z.length ≤ sizeLine then (atI z.cps.toList i).map (fun c => .str ⟨#[c]⟩) else none
  | .dict ds, k => if kFit ds k = true then lkD ds k else none
  | _, _ => none
def rIxD (K : Frag) : R2 := fun x y H Q => ∃ G ds e z, Same G H ∧ Rq K G H x (.dict ds) ∧ Rq K G H y e ∧ kFit ds e = true ∧ lkD ds e = some z ∧ ∀ v, Rp K G v z → Q v H
def rIxA (K : Frag) : R2 := fun x y H Q => rIx K x y H Q ∨ rIxD K x y H Q
theorem ho_ix {K : Frag} : Op2 K (rIxA K) ixD := by
  intro x y d e z G H Q h rx ry s k
  by_cases hd : ∃ ds, d = .dict ds
  · obtain ⟨ds, rfl⟩ := hd
    have h' : (if kFit ds e = true then lkD ds e else none) = some z := h
    split at h'
    · rename_i hk
      exact .inr ⟨G, ds, e, z, s, rx, ry, hk, h', fun v rv => k v G H (Gr.refl s) rv⟩
    · cases h'
  left
  cases e with
  | int i =>
    rw [ry.int]
    cases d with
    | list ds =>
      obtain ⟨p, us, rfl, h1, h2⟩ := rx.lst s
      obtain ⟨v, hv, rv⟩ := h2.atI (show atI ds i = some z from h)
      exact .inl ⟨p, us, i, v, rfl, rfl, .inl (.inl h1), hv, k _ G H (Gr.refl s) rv⟩
    | tuple ds =>
      obtain ⟨p, us, rfl, h1, h2⟩ := rx.tup s
      obtain ⟨v, hv, rv⟩ := h2.atI (show atI ds i = some z from h)
      exact .inr (.inl ⟨p, us, i, v, rfl, rfl, h1, hv, k _ G H (Gr.refl s) rv⟩)
    | str w =>
      rw [rx.str]
      have h' : (if w.length ≤ sizeLine then (atI w.cps.toList i).map (fun c => PyData.str ⟨#[c]⟩) else none) = some z := h
      split at h'
      · rename_i hl
        cases ec : atI w.cps.toList i with
        | none => rw [ec] at h'; cases h'
        | some c =>
          rw [ec] at h'
          cases h'
          exact .inr (.inr ⟨w, i, c, rfl, rfl, hl, ec, k _ G H (Gr.refl s) (.str _)⟩)
      · cases h'
    | dict ds => exact absurd ⟨ds, rfl⟩ hd
    | _ => cases h
  | _ => cases d <;> first | (cases h; done) | exact absurd ⟨_, rfl⟩ hd
/-- a[i:j] -/
def cutD {α : Type} (xs : List α) (lo hi : Option Int) : List α := (xs.drop (HT.sIx xs.length 0 lo)).take (HT.sIx xs.length xs.length hi - HT.sIx xs.length 0 lo)
def slcD : PyData → Option Int → Option Int → Option PyData
  | .list ds, lo, hi => some (.list (cutD ds lo hi))
  | .tuple ds, lo, hi => some (.tuple (cutD ds lo hi))
  | .str z, lo, hi => if z.length ≤ sizeLine then some (.str (cutS z lo hi)) else none
  | _, _, _ => none
def rSlAll (K : Frag) : V → Option Int → Option Int → Hp → VK → Prop := fun x lo hi H Q => rSlL K x lo hi H Q ∨ rSlX K x lo hi H Q ∨ rSlS x lo hi H Q
theorem hr_slc {X : Cx} : SlR X (rSlAll X.kx) := SlR.or sl_list (SlR.or sl_tupX sl_str)
theorem RpAll.cut {K : Frag} {H : Hp} {us : List V} {ds : List PyData} (r : RpAll K H us ds) (lo hi : Option Int) : RpAll K H (cutV us lo hi) (cutD ds lo hi) := by
  unfold cutV cutD
  rw [r.len]
  exact (r.drop _).take _
theorem ho_slc {K : Frag} : OpS K (rSlAll K) slcD := by
  intro x d z lo hi G H Q h rx s k
  cases d with
  | list ds =>
    cases h
    obtain ⟨p, us, rfl, h1, h2⟩ := rx.lst s
    refine .inl ⟨p, us, rfl, .inl (.inl h1), fun q hq => ?_⟩
    have gr := Gr.new (o := .lst (cutV us lo hi)) s hq
    exact k _ _ _ gr (.lst upd_same ((h2.cut lo hi).up gr.g))
  | tuple ds =>
    cases h
    obtain ⟨p, us, rfl, h1, h2⟩ := rx.tup s
    refine .inr (.inl ⟨p, us, rfl, h1, fun ⟨e1, e2⟩ => ?_, fun _ => .of s (h2.cut lo hi) k⟩)
    · have e : cutD ds lo hi = ds := by
        unfold cutD
        rw [← h2.len, e1, e2, h2.len]
        simp
      rw [e] at k
      rcases rx with rx | ⟨_, _, o⟩
      · exact k _ G H (Gr.refl s) rx
      · exact o.elim
  | str w =>
    rw [rx.str]
    have h' : (if w.length ≤ sizeLine then some (PyData.str (cutS w lo hi)) else none) = some z := h
    split at h'
    · rename_i hl
      cases h'
      exact .inr (.inr ⟨w, rfl, hl, k _ G H (Gr.refl s) (.str _)⟩)
    · cases h'
  | _ => cases h
/-- len -/
def lenD : PyData → Option PyData
  | .list ds => some (.int ds.length)
  | .tuple ds => some (.int ds.length)
  | .str z => if z.length ≤ sizeLine then some (.int z.length) else none
  | .dict ds => some (.int ds.length)
  | _ => none
def rLenA (K : Frag) : List V → Hp → VK → Prop := fun xs H Q => (∃ a es ep, xs = [.ref a] ∧ H a = some (dO a es ep) ∧ Q (.int es.size) H) ∨ (∃ p ys, xs = [.ref p] ∧ (SqL K H p ys ∨ SqT K H p ys) ∧ Q (.int ys.length) H) ∨ ∃ z, xs = [.str z] ∧ z.length ≤ sizeLine ∧ Q (.int z.length) H
theorem call_lenD {X : Cx} : CallR X (.builtin "len") (fun xs H Q => ∃ a es ep, xs = [.ref a] ∧ H a = some (dO a es ep) ∧ Q (.int es.size) H) := by
  intro pins s σ H xs us Q I r h
  obtain ⟨a, es, ep, rfl, hd, q⟩ := h
  obtain ⟨u, rfl, rx⟩ := vals1 r
  cases rx
  obtain ⟨h1, h2, h3⟩ := dO_get I hd
  have hm := dO_raw I hd
  have hz := sizeLine_eq
  exact PyProof.Rows.call_len_slot (n := es.size) hm.typeIs F.slot_dict_len (fun Q' hq => call_len_raw h1 hm hq) (by omega) (by omega) ⟨.int es.size, H, I.tok _, ⟨_, rfl⟩, q⟩
theorem RpKV.len {K : Frag} {G : Hp} : ∀ {es : List DictEntry} {ds : List (PyData × PyData)}, RpKV K G es ds → es.length = ds.length
  | _, _, .nil => rfl
  | _, _, .cons _ _ _ _ _ t => congrArg (· + 1) t.len
theorem hr_len {X : Cx} : CallR X (.builtin "len") (rLenA X.kx) := CallR.or call_lenD (CallR.or call_len_seq call_len_str)
theorem ho_len {K : Frag} : Op1 K (fun x => rLenA K [x]) lenD := by
  intro x d z G H Q h rx s k
  cases d with
  | list ds =>
    cases h
    obtain ⟨p, us, rfl, h1, h2⟩ := rx.lst s
    exact .inr (.inl ⟨p, us, rfl, .inl (.inl (.inl h1)), by rw [h2.len]; exact k _ G H (Gr.refl s) (.int _)⟩)
  | tuple ds =>
    cases h
    obtain ⟨p, us, rfl, h1, h2⟩ := rx.tup s
    exact .inr (.inl ⟨p, us, rfl, .inr h1, by rw [h2.len]; exact k _ G H (Gr.refl s) (.int _)⟩)
  | str w =>
    rw [rx.str]
    have h' : (if w.length ≤ sizeLine then some (PyData.int w.length) else none) = some z := h
    split at h'
    · rename_i hl
      cases h'
      exact .inr (.inr ⟨w, rfl, hl, k _ G H (Gr.refl s) (.int _)⟩)
    · cases h'
  | dict ds =>
    cases h
    obtain ⟨p, es, ep, rfl, h1, h0, h2⟩ := rx.dict s
    have hl := h2.len
    exact .inl ⟨p, es, ep, rfl, h1, by rw [show es.size = ds.length by simpa using hl]; exact k _ G H (Gr.refl s) (.int _)⟩
  | _ => cases h
/-- list(x), tuple(x) of lists and tuples -/
def listD : PyData → Option PyData
  | .list ds => some (.list ds)
  | .tuple ds => some (.list ds)
  | .dict kvs => some (.list (kvs.map (·.1)))
  | _ => none
def tupD : PyData → Option PyData
  | .list ds => some (.tuple ds)
  | .tuple ds => some (.tuple ds)
  | _ => none
theorem items_keys {es : Array DictEntry} {acc : Array Value} (h : ItemsOf (fun i v => ∃ hi : i < es.size, v = es[i].key) acc es.size) : acc.toList = es.toList.map (·.key) := by
  refine List.ext_getElem? fun i => ?_
  rw [List.getElem?_map]
  by_cases hi : i < es.size
  · have ha : i < acc.size := by rw [h.1]; exact hi
    obtain ⟨_, e⟩ := h.2 i acc[i] (Array.getElem?_eq_getElem ha)
    have e1 : acc.toList[i]? = some acc[i] := by simp [ha]
    have e2 : es.toList[i]? = some es[i] := by simp [hi]
    rw [e1, e2, e]
    rfl
  · have e1 : acc.toList[i]? = none := by simp; rw [h.1]; omega
    have e2 : es.toList[i]? = none := by simp; omega
    rw [e1, e2]
    rfl
/-- list of a dict: its keys -/
def rListD (K : Frag) : List V → Hp → VK → Prop := fun xs H Q => ∃ (a : Addr) (es : Array DictEntry) (ep : Nat) (kvs : List V), xs = [V.ref a] ∧ H a = some (dO a es ep) ∧ Vals kvs (es.toList.map (·.key)) ∧ ∀ l, H l = none → Q (.ref l) (upd H l (.lst kvs))
theorem cr_listD {X : Cx} (hh : X.A.handled = none) : CallR X (.type "list") (rListD X.kx) := by
  intro pins s σ H vs us Q I r h
  obtain ⟨a, es, ep, kvs, rfl, hd, hv, q⟩ := h
  obtain ⟨u, rfl, rx⟩ := vals1 r
  cases rx
  have hl := hv.length
  have hz := (dO_get I hd).2.1
  simp only [List.length_map, Array.length_toList] at hl
  refine PySem.W.kdl_call (KdlSrc.rawDict (es := es) (ep := ep) (dO_get I hd).1) hh (dO_raw I hd) hz fun h' tk acc' c' hk hS' hacc => ?_
  refine ⟨.ref s.heap.objs.size, _, I.laid (t' := tk) hk (Nat.le_refl _) (show ObjOk X.prog X.w _ h' _ (.lst kvs) from ⟨by omega, acc'.toList, c', by rw [items_keys hacc]; exact hv, by rw [Array.toArray_toList]; exact hS'⟩), rfl, q _ (I.hok.fresh (Nat.le_refl _))⟩
def rListX (K : Frag) : List V → Hp → VK → Prop := fun xs H Q => (∃ p ys, xs = [V.ref p] ∧ (SqL K H p ys ∨ SqT K H p ys) ∧ ∀ l, H l = none → Q (.ref l) (upd H l (.lst ys))) ∨ rListD K xs H Q
theorem cr_list {X : Cx} (hh : X.A.handled = none) : CallR X (.type "list") (rListX X.kx) := CallR.or call_list_of (cr_listD hh)
theorem ho_list {K : Frag} : Op1 K (fun x => rListX K [x]) listD := by
  intro x d z G H Q h rx s k
  cases d with
  | list ds =>
    cases h
    obtain ⟨p, us, rfl, h1, h2⟩ := rx.lst s
    refine .inl ⟨p, us, rfl, .inl (.inl (.inl h1)), fun l hl => ?_⟩
    have gr := Gr.new (o := .lst us) s hl
    exact k _ _ _ gr (.lst upd_same (h2.up gr.g))
  | tuple ds =>
    cases h
    obtain ⟨p, us, rfl, h1, h2⟩ := rx.tup s
    refine .inl ⟨p, us, rfl, .inr h1, fun l hl => ?_⟩
    have gr := Gr.new (o := .lst us) s hl
    exact k _ _ _ gr (.lst upd_same (h2.up gr.g))
  | dict kvs =>
    cases h
    obtain ⟨a, es, ep, rfl, hd, ok, r⟩ := rx.dict s
    obtain ⟨ks, hv, hr⟩ := r.keys
    refine .inr ⟨a, es, ep, ks, rfl, hd, hv, fun l hl => ?_⟩
    have gr := Gr.new (o := .lst ks) s hl
    exact k _ _ _ gr (.lst upd_same (hr.up gr.g))
  | _ => cases h
theorem ho_tup {K : Frag} : Op1 K (fun x H Q => ∃ p ys, [x] = [V.ref p] ∧ ((SqL K H p ys ∧ NewT ys H Q) ∨ (SqT K H p ys ∧ Q (.ref p) H))) tupD := by
  intro x d z G H Q h rx s k
  cases d with
  | list ds =>
    cases h
    obtain ⟨p, us, rfl, h1, h2⟩ := rx.lst s
    exact ⟨p, us, rfl, .inl ⟨.inl (.inl h1), .of s h2 k⟩⟩
  | tuple ds =>
    cases h
    obtain ⟨p, us, rfl, h1, h2⟩ := rx.tup s
    refine ⟨p, us, rfl, .inr ⟨h1, ?_⟩⟩
    rcases rx with rx | ⟨_, _, o⟩
    · exact k _ G H (Gr.refl s) rx
    · exact o.elim
  | _ => cases h
/-- int(x) -/
def intOf : PyData → Option PyData
  | .int i => some (.int i)
  | .bool k => some (.int (if k then 1 else 0))
  | _ => none
theorem ho_intOf {K : Frag} : Op1 K (fun x H Q => (∃ i, [x] = [V.int i] ∧ Q (.int i) H) ∨ ∃ k, [x] = [V.bl k] ∧ Q (.int (if k then 1 else 0)) H) intOf := by
  intro x d z G H Q h rx s k
  cases d with
  | int i =>
    cases h
    rw [rx.int]
    exact .inl ⟨i, rfl, k _ G H (Gr.refl s) (.int _)⟩
  | bool b =>
    cases h
    rw [rx.bool]
    exact .inr ⟨b, rfl, k _ G H (Gr.refl s) (.int _)⟩
  | _ => cases h
/-- sum of a list of ints -/
def intsOf : List PyData → Option (List Int)
  | [] => some []
  | .int i :: r => (intsOf r).map (i :: ·)
  | _ :: _ => none
def sumD : PyData → Option PyData
  | .list ds => (intsOf ds).map fun ns => .int ns.sum
  | _ => none
theorem intsOf_rp {K : Frag} {G : Hp} : ∀ {ds : List PyData} {us : List V} {ns : List Int}, RpAll K G us ds → intsOf ds = some ns → us = ns.map V.int
  | [], _, _, .nil, h => by cases h; rfl
  | .int i :: r, _, ns, .cons a t, h => by
    cases a
    have h' : (intsOf r).map (i :: ·) = some ns := h
    cases e : intsOf r with
    | none => rw [e] at h'; cases h'
    | some ms =>
      rw [e] at h'
      cases h'
      rw [intsOf_rp t e]
      rfl
  | .none :: _, _, _, .cons _ _, h => by cases h
  | .bool _ :: _, _, _, .cons _ _, h => by cases h
  | .str _ :: _, _, _, .cons _ _, h => by cases h
  | .list _ :: _, _, _, .cons _ _, h => by cases h
  | .tuple _ :: _, _, _, .cons _ _, h => by cases h
  | .dict _ :: _, _, _, .cons _ _, h => by cases h
end Mi
namespace Mi
open PySem PySem.Spec PyProof.Rows L2
/-! ### x[::-1] -/
section
variable {prog : Program} {w : World} {A : Around} {E : Value → Shared → Prop} {s : Shared}
theorem pick_back (its : Array Value) : ((List.range its.size).filterMap fun (k : Nat) => its[(((its.size : Int) - 1) + (k : Int) * (-1)).toNat]?) = its.toList.reverse := by
  have h := PySem.W.krv_pick its
  have e0 : slicePick its none none (some (-1)) = ((sliceRange ((its.size : Int) - 1) (-1) (-1)).filterMap (its[·]?)).toArray := by
    unfold slicePick
    rw [PySem.W.krv_bounds]
  rw [e0, PySem.W.krv_sliceRange, List.filterMap_map] at h
  have h2 : (List.range its.size).filterMap ((its[·]?) ∘ fun k => its.size - 1 - k) = its.toList.reverse := by simpa using congrArg Array.toList h
  rw [← h2]
  have go : ∀ l : List Nat, (∀ k ∈ l, k < its.size) → (l.filterMap fun (k : Nat) => its[(((its.size : Int) - 1) + (k : Int) * (-1)).toNat]?) = l.filterMap ((its[·]?) ∘ fun k => its.size - 1 - k) := by
    intro l
    induction l with
    | nil => intro _; rfl
    | cons k l ih =>
      intro hl
      have hk := hl k List.mem_cons_self
      have e : (((its.size : Int) - 1) + (k : Int) * (-1)).toNat = its.size - 1 - k := by omega
      rw [List.filterMap_cons, List.filterMap_cons, ih fun j hj => hl j (List.mem_cons_of_mem _ hj), e]
      rfl
  exact go _ fun k hk => List.mem_range.mp hk
theorem sliceApplied_back {sl : Addr} {n : Nat} {u : Tok} {Q : Int × Int × Nat → Shared → Prop} (hs : s.heap.IsSliceOf sl .none .none (.int (-1) u))
    (h : Q ((n : Int) - 1, -1, n) s) : wpAny (model prog w) A (Builtin.Slice.sliceApplied (.ref sl) (pure (n : Int))) Q E s := by
  obtain ⟨os, hos, hcs, hds⟩ := id hs
  unfold Builtin.Slice.sliceApplied Builtin.Slice.sliceFields
  refine wpAny_bind (wpAny_bind (wpAny_field hos hds (x := .none) rfl (wpAny_bind (wpAny_field hos hds (x := .none) rfl (wpAny_bind (wpAny_field hos hds (x := .int (-1) u) rfl (wpAny_pure ?_)))))))
  refine wpAny_bind (slicePart_int ?_)
  show wpAny _ _ (if ((-1 : Int) == 0) = true then _ else _) _ _ s
  rw [if_neg (by decide)]
  refine wpAny_bind (slicePart_none (wpAny_bind (slicePart_none (wpAny_bind (wpAny_pure ?_)))))
  have e : Builtin.Slice.sliceAdjust none none (-1) (n : Int) = ((n : Int) - 1, -1) := by
    unfold Builtin.Slice.sliceAdjust
    simp
  have e2 : Builtin.Slice.slicePlaces ((n : Int) - 1) (-1) (-1) = n := by
    unfold Builtin.Slice.slicePlaces
    by_cases hn : (n : Int) - 1 > -1
    · simp [hn] <;> omega
    · simp [hn] <;> omega
  show wpAny _ _ (match Builtin.Slice.sliceAdjust none none (-1) (n : Int) with | (lo, hi) => pure (lo, (-1 : Int), Builtin.Slice.slicePlaces lo hi (-1))) _ _ s
  rw [e]
  show wpAny _ _ (pure ((n : Int) - 1, (-1 : Int), Builtin.Slice.slicePlaces ((n : Int) - 1) (-1) (-1))) _ _ s
  rw [e2]
  exact wpAny_pure h
theorem getItem_tuple_back {t sl : Addr} {items : Array Value} {u : Tok} {Q : Value → Shared → Prop} (ht : IsTup s.heap t items) (hs : s.heap.IsSliceOf sl .none .none (.int (-1) u))
    (h : Q (.ref s.heap.objs.size) { s with heap := s.heap.push { cls := .type "tuple", data := .seq items.toList.reverse.toArray } })
    (hsz : items.size ≤ sizeLine) : wpAny (model prog w) A (getItem (.ref t) (.ref sl)) Q E s := by
  have htake : sizeOk (.seq items.toList.reverse.toArray) := by
    show items.toList.reverse.toArray.size ≤ sizeLine
    simpa using hsz
  obtain ⟨os, hos, hcs, hds⟩ := id hs
  have hTs : s.TypeIs (.ref sl) "slice" := ⟨os, hos, hcs⟩
  unfold getItem
  try with_reducible refine wpAny_holding ?_
  first | refine wpAny_bind (wpAny_pure ?_) | skip
  refine wpAny_bind (wpAny_sequenceKey ht.typeIs (by decide) ?_)
  refine wpAny_bind (wpAny_callSpecial?_slot (name := Str.ofString "__getitem__") ht.typeIs PyProof.Rows.slot_tuple_getitem
    (wpAny_call_entry PyProof.Rows.slot_tuple_getitem ht.typeIs entry_tuple_getitem ?_ (args_tuple_getitem _ _)))
  show wpAny _ _ (Builtin.Tuple.tupleItemsOf (.ref t) >>= _) _ _ s
  refine wpAny_bind (tupleItemsOf_ ht ?_)
  refine wpAny_bind (wpAny_typeOf hTs ?_)
  rw [if_pos (by decide)]
  refine wpAny_bind (sliceApplied_back hs ?_)
  have hno : ¬ (((items.size : Int) - 1 == 0 && (-1 : Int) == 1 && items.size == items.size) = true) := by simp
  show wpAny _ _ (if ((items.size : Int) - 1 == 0 && (-1 : Int) == 1 && items.size == items.size) = true then _ else _) _ _ s
  rw [if_neg hno, pick_back]
  first
    | exact wpAny_bind (m := Builtin.Tuple.tupleExact _) (wpAny_newObj_type (wpAny_pure ⟨_, rfl, wpAny_pure h⟩) htake)
    | exact wpAny_bind (m := Builtin.Tuple.tupleExact _) (wpAny_newObj_type (wpAny_bind (wpAny_pure (wpAny_pure ⟨_, rfl, wpAny_pure h⟩))) htake)
    | exact wpAny_bind (wpAny_bind (m := Builtin.Tuple.tupleExact _) (wpAny_newObj_type (wpAny_pure (wpAny_pure ⟨_, rfl, wpAny_pure h⟩)) htake))
    | exact wpAny_bind (wpAny_bind (m := Builtin.Tuple.tupleExact _) (wpAny_newObj_type (wpAny_pure ⟨_, rfl, wpAny_pure h⟩) htake))
end
def revS (z : Str) : Str := ⟨z.cps.toList.reverse.toArray⟩
theorem str_back (z : Str) : ((Builtin.Str.strSliceIndices none none (-1) z.length).filterMap (z.cps[·]?)) = z.cps.toList.reverse := by
  have e : Builtin.Str.strSliceIndices none none (-1) z.length = sliceRange ((z.length : Int) - 1) (-1) (-1) := by
    unfold Builtin.Str.strSliceIndices
    simp
  have hl : z.length = z.cps.size := rfl
  rw [e, PySem.W.krv_sliceRange, hl, PySem.W.krv_range, List.filterMap_reverse, PySem.W.krv_all]
def rRevA (K : Frag) : V → Hp → VK → Prop := fun x H Q => (∃ a xs, x = .ref a ∧ SqL K H a xs ∧ ∀ p, H p = none → Q (.ref p) (upd H p (.lst xs.reverse))) ∨
  (∃ a xs, x = .ref a ∧ SqT K H a xs ∧ NewT xs.reverse H Q) ∨ ∃ z, x = .str z ∧ z.length ≤ sizeLine ∧ Q (.str (revS z)) H
section
variable {X : Cx} {W : WX} {e : Expr} {te : TE} {k : Nat} {p1 p2 p3 pos : Pos} {m : MM PyData}
theorem pe_rev (he : PE X e te) : PE X (.Subscript e (.Slice none none (some (.UnaryOp .USub (.Constant (.int 1) k p1) p2)) p3) pos) (tUn (rRevA X.kx) te) := by
  refine ⟨fun pins s σ H Q I h => ?_⟩
  refine Subscript_ (thn (he.run pins s σ H _ I h) fun v s1 ⟨x, H1, I1, r1, q1⟩ => ?_)
  have hst : PO X (some (.UnaryOp .USub (.Constant (.int 1) k p1) p2)) (tPart (tUn (rU fun i => .int (-i)) (tC (.int 1)))) := po_some (pe_un un_neg pe_int)
  refine wpAny_Slice (thn (po_none.run pins s1 σ H1 (fun o H2 => o = none ∧ H2 = H1) I1 ⟨rfl, rfl⟩) fun vl s2 ⟨l, H2, I2, pl, el, e2⟩ => ?_)
  subst el e2
  refine thn (po_none.run pins s2 σ H2 (fun o H3 => o = none ∧ H3 = H2) I2 ⟨rfl, rfl⟩) fun vu s3 ⟨u, H3, I3, pu, eu, e3⟩ => ?_
  subst eu e3
  refine thn (hst.run pins s3 σ H3 (fun o H4 => o = some (-1) ∧ H4 = H3) I3 ⟨1, rfl, -1, rfl, rfl, rfl⟩) fun vs s4 ⟨o, H4, I4, ps, eo, e4⟩ => ?_
  subst eo e4
  have I5 : Inv X pins σ H4 { s4 with heap := s4.heap.push { cls := .type "slice", data := .fields #[vl, vu, vs] } } := I4.kept (t' := s4.toks) fun b ob q => Heap.get?_push_of_some _ q
  rcases q1 with ⟨a, xs, rfl, hx, q⟩ | ⟨a, xs, rfl, hx, q⟩ | ⟨z, rfl, hz, q⟩
  · cases r1
    obtain ⟨its, r, ht, hz⟩ := I5.list hx
    have hlen := r.length
    show wpAny (model X.prog X.w) X.A (subscriptTail e (.Slice none none (some (.UnaryOp .USub (.Constant (.int 1) k p1) p2)) p3) (.ref a) (.ref s4.heap.objs.size)) (EP X pins σ Q) X.xe { s4 with heap := s4.heap.push { cls := .type "slice", data := .fields #[vl, vu, vs] } }
    refine tail_any (ops := [.ref a, .ref s4.heap.objs.size]) ht.isList.typeIs (PySem.slot_list_getitem.lookup) ?_ (by with_unfolding_all rfl)
    refine wpAny_getItem_list_slice ht.isList (Heap.IsSliceOf.new _ vl vu vs) pl pu ps (by decide) ?_ (by rw [List.size_toArray]; omega)
    rw [PySem.W.krv_pick]
    refine ⟨.ref _, _, I5.laid (t' := s4.toks) (o := .lst xs.reverse) (fun b ob q => Heap.get?_push_of_some _ q) (Nat.le_refl _) ?_, rfl, q _ (I5.hok.fresh (Nat.le_refl _))⟩
    exact ⟨by rw [List.length_reverse]; exact hz, _, 0, r.reverse, Heap.get?_push_size _ rfl⟩
  · cases r1
    obtain ⟨its, r, ht, hz⟩ := I5.tuple hx
    have hlen := r.length
    cases pl
    cases pu
    cases ps with
    | int _ t =>
      show wpAny (model X.prog X.w) X.A (subscriptTail e (.Slice none none (some (.UnaryOp .USub (.Constant (.int 1) k p1) p2)) p3) (.ref a) (.ref s4.heap.objs.size)) (EP X pins σ Q) X.xe { s4 with heap := s4.heap.push { cls := .type "slice", data := .fields #[.none, .none, .int (-1) t] } }
      refine tail_any (ops := [.ref a, .ref s4.heap.objs.size]) ht.typeIs (PyProof.Rows.slot_tuple_getitem.lookup) ?_ (by with_unfolding_all rfl)
      refine getItem_tuple_back ht (Heap.IsSliceOf.new _ .none .none (.int (-1) t)) ?_ (by rw [List.size_toArray]; omega)
      exact new_tup I5 r.reverse (by rw [List.length_reverse]; exact hz) q
  · obtain ⟨t, rfl⟩ := r1
    cases pl
    cases pu
    cases ps with
    | int _ tk =>
      show wpAny (model X.prog X.w) X.A (subscriptTail e (.Slice none none (some (.UnaryOp .USub (.Constant (.int 1) k p1) p2)) p3) (.str z t) (.ref s4.heap.objs.size)) (EP X pins σ Q) X.xe { s4 with heap := s4.heap.push { cls := .type "slice", data := .fields #[.none, .none, .int (-1) tk] } }
      refine tail_any (ops := [.ref s4.heap.objs.size, .str z t]) (typeIs_str _ z t) (PySem.F.slot_str_getitem.lookup) ?_ (by with_unfolding_all rfl)
      refine wpAny_getItem_str_slice (l := none) (u := none) (st := some (-1, tk)) ⟨_, Heap.get?_push_size _ rfl, rfl, rfl⟩ rfl ?_
      show Made.post (if ((-1 : Int) == 1 && (Builtin.Str.strSliceIndices none none (-1) z.length).length == z.length) = true then Made.val (.str z t)
        else Made.str ⟨((Builtin.Str.strSliceIndices none none (-1) z.length).filterMap (z.cps[·]?)).toArray⟩) (EP X pins σ Q) _
      rw [if_neg (by simp), str_back]
      refine ⟨?_, .str _, H4, I5.tok _, ⟨_, rfl⟩, q⟩
      show z.cps.toList.reverse.toArray.size ≤ sizeLine
      simpa [Str.length] using hz
def revD : PyData → Option PyData
  | .list ds => some (.list ds.reverse)
  | .tuple ds => some (.tuple ds.reverse)
  | .str z => if z.length ≤ sizeLine then some (.str (revS z)) else none
  | _ => none
theorem ho_rev {K : Frag} : Op1 K (rRevA K) revD := by
  intro x d z G H Q h rx s k
  cases d with
  | list ds =>
    cases h
    obtain ⟨p, us, rfl, h1, h2⟩ := rx.lst s
    refine .inl ⟨p, us, rfl, .inl (.inl h1), fun q hq => ?_⟩
    have gr := Gr.new (o := .lst us.reverse) s hq
    exact k _ _ _ gr (.lst upd_same (h2.rev.up gr.g))
  | tuple ds =>
    cases h
    obtain ⟨p, us, rfl, h1, h2⟩ := rx.tup s
    exact .inr (.inl ⟨p, us, rfl, h1, .of s h2.rev k⟩)
  | str w =>
    rw [rx.str]
    have h' : (if w.length ≤ sizeLine then some (PyData.str (revS w)) else none) = some z := h
    by_cases hl : w.length ≤ sizeLine
    · rw [if_pos hl] at h'
      cases h'
      exact .inr (.inr ⟨w, rfl, hl, k _ G H (Gr.refl s) (.str _)⟩)
    · rw [if_neg hl] at h'
      cases h'
  | _ => cases h
theorem me_rev (he : MQ X W e m) : ME X W (.Subscript e (.Slice none none (some (.UnaryOp .USub (.Constant (.int 1) k p1) p2)) p3) pos) (op1 revD m) := PE.wk (pe_rev he) fun σ H Q ⟨F, g, G, A, q⟩ => by
  refine ⟨F, g, G, A, Po.imp q.bnd fun d g1 G1 H1 A1 s1 k1 x rx => ?_⟩
  obtain ⟨z, ez, k⟩ := k1.lft
  exact ho_rev x d z G1 H1 Q ez rx A1.ex fun v G' H' gr rv => k G' H' (A1.grow gr) gr.g v rv
end
/-! ### isinstance -/
def typeD : PyData → String
  | .none => "NoneType"
  | .bool _ => "bool"
  | .int _ => "int"
  | .str _ => "str"
  | .list _ => "list"
  | .tuple _ => "tuple"
  | .dict _ => "dict"
def isaD (T : String) (d : PyData) : Bool := typeD d == T || (typeD d == "bool" && T == "int")
/-- the type of a value, a dict's too -/
inductive TyD (K : PySem.W.Frag) (H : Hp) : V → Value → Prop where
  | x {x : V} {t : Value} (h : TyX K H x t) : TyD K H x t
  | dict {a : Addr} {es : Array DictEntry} {ep : Nat} (e : H a = some (dO a es ep)) : TyD K H (.ref a) (.type "dict")
theorem kit_ofD {X : Cx} {pins : List (Addr × Obj)} {σ : L2.St} {H : Hp} {s : Shared} {x : V} {u t : Value} (I : Inv X pins σ H s) (rx : RelV x u) (ty : TyD X.K H x t) : ∃ P : Heap → Prop, PySem.W.KitX X.K u t P ∧ P s.heap ∧ u ≠ .builtin "__main__.__loader__#opaque" := by
  cases ty with
  | x h => exact kit_of I rx h
  | @dict a es ep e =>
    cases (show u = Value.ref a from rx)
    obtain ⟨⟨_, _, ho⟩, _⟩ := (show ObjOk X.prog X.w H s.heap a (dO a es ep) from I.hok a _ e)
    exact ⟨_, PySem.W.kitx_dict, ⟨_, ho, rfl⟩, fun z => nomatch z⟩
def rIsiD (K : PySem.W.Frag) : List V → Hp → VK → Prop := fun xs H Q => ∃ (x c : V) (t u : Value) (b : Bool), xs = [x, c] ∧ ClsV c u ∧ TyD K H x t ∧ PySem.W.kitOne K t u = some b ∧ Q (.bl b) H
theorem call_isiD {X : Cx} : CallR X (.builtin "isinstance") (rIsiD X.K) := by
  intro pins s σ H xs us Q I r h
  obtain ⟨x, c, t, u, b, rfl, k, ty, e, q⟩ := h
  obtain ⟨u1, u2, rfl, r1, r2⟩ := vals2 r
  have e2 := k.eq r2
  subst e2
  obtain ⟨P, Z, p, hx⟩ := kit_ofD I r1 ty
  exact PySem.W.kia_one Z I.kIn p e hx fun tk => ⟨.bl b, H, I.tok tk, rfl, q⟩
def rIsiTD (K : PySem.W.Frag) : List V → Hp → VK → Prop := fun xs H Q => ∃ (x : V) (tp : Addr) (cs : List V) (t : Value) (us : List Value) (b : Bool), xs = [x, .ref tp] ∧ H tp = some (.tup cs) ∧ Paired ClsV cs us ∧ TyD K H x t ∧ PySem.W.kitAny K t us = some b ∧ Q (.bl b) H
theorem call_isiTD {X : Cx} : CallR X (.builtin "isinstance") (rIsiTD X.K) := by
  intro pins s σ H xs us Q I r h
  obtain ⟨x, tp, cs, t, ws, b, rfl, hT, k, ty, e, q⟩ := h
  obtain ⟨u1, u2, rfl, r1, r2⟩ := vals2 r
  cases (show u2 = Value.ref tp from r2)
  obtain ⟨P, Z, p, hx⟩ := kit_ofD I r1 ty
  obtain ⟨_, its, rv, o, h1, h2, n, h3⟩ := (show ObjOk X.prog X.w H s.heap tp (.tup cs) from I.hok tp _ hT)
  have e3 := ClsV.all k rv
  subst e3
  obtain ⟨oc, od, dt, sl⟩ := o
  simp only at h2 h3
  subst h2 h3
  exact PySem.W.kia_tup Z I.kIn p h1 e hx fun tk => ⟨.bl b, H, I.tok tk, rfl, q⟩
theorem tyd_of {K : Frag} {G H : Hp} {x : V} {d : PyData} (s : Same G H) (r : Rq K G H x d) : TyD K H x (.type (typeD d)) := by
  cases d with
  | none => rw [r.none]; exact .x <| .base .non
  | bool b => rw [r.bool]; exact .x <| .base (.bl b)
  | int i => rw [r.int]; exact .x <| .base (.int i)
  | str z => rw [r.str]; exact .x <| .base (.str z)
  | list ds =>
    obtain ⟨p, us, rfl, h1, h2⟩ := r.lst s
    exact .x <| .base (.lst h1)
  | tuple ds =>
    obtain ⟨p, us, rfl, h1, h2⟩ := r.tup s
    rcases h1 with ⟨its, h1⟩ | ⟨o, its, n, h1, h3, _⟩
    · exact .x <| .fTuple h1
    · exact .x <| .kTuple h1 h3
  | dict ds =>
    obtain ⟨p, es, ep, rfl, h1, _⟩ := r.dict s
    exact .dict h1
theorem kit_is {K : PySem.W.Frag} (T : String) (hT : ∀ t ∈ ["NoneType", "bool", "int", "str", "list", "tuple", "dict"], kitB t T = some (t == T || (t == "bool" && T == "int"))) (d : PyData) : PySem.W.kitOne K (.type (typeD d)) (.type T) = some (isaD T d) := by
  refine kit_ty ?_
  cases d <;> exact hT _ (by simp [typeD])
section
variable {X : Cx} {W : WX} {e : Expr} {m : MM PyData} {pos p : Pos}
def isiM (T : String) (m : MM PyData) : MM PyData := bnd m fun d => ret (.bool (isaD T d))
theorem me_isi (T : String) {x : Str} {p1 : Pos} (hm : X.mg "isinstance" = none) (hT : PE X (.Name x p1) (tC (.ty T))) (hk : ∀ t ∈ ["NoneType", "bool", "int", "str", "list", "tuple", "dict"], kitB t T = some (t == T || (t == "bool" && T == "int"))) (he : MQ X W e m)
    (hg : Gl X "isinstance" := by rfl) (h1 : starEach (e :: [.Name x p1]) X.env = (false, eval e X.env) :: starEach [.Name x p1] X.env := by rfl) (h2 : starEach [.Name x p1] X.env = (false, eval (.Name x p1) X.env) :: starEach [] X.env := by rfl)
    (hpl : (backTo pos (starEach [.Name x p1] X.env)).any (·.1) = false := by rfl) : ME X W (.Call (.Name "isinstance" p) [e, .Name x p1] [] pos) (isiM T m) :=
  PE.wk (pe_callB call_isiD hg hm boot_isinstance (pa_cons he (pa_cons hT pa_nil h2) h1) (by decide) (by decide) h1 hpl) fun σ H Q ⟨F, g, G, A, q⟩ => by
  refine ⟨F, g, G, A, Po.imp q.bnd fun d g1 G1 H1 A1 s1 k1 x rx => ?_⟩
  exact ⟨x, .ty T, .type (typeD d), .type T, isaD T d, rfl, .ty T, tyd_of A1.ex rx, kit_is T hk d, k1 G1 H1 A1 (Same.refl _) _ (.bl _)⟩
/-- isinstance(x, (S, T)) -/
def isi2M (S T : String) (m : MM PyData) : MM PyData := bnd m fun d => ret (.bool (isaD S d || isaD T d))
theorem me_isi2 (S T : String) {x y : Str} {p1 p2 p3 : Pos} {kk : Nat} (hm : X.mg "isinstance" = none) (hS : PE X (.Name x p1) (tC (.ty S))) (hT : PE X (.Name y p2) (tC (.ty T)))
    (hkS : ∀ t ∈ ["NoneType", "bool", "int", "str", "list", "tuple", "dict"], kitB t S = some (t == S || (t == "bool" && S == "int")))
    (hkT : ∀ t ∈ ["NoneType", "bool", "int", "str", "list", "tuple", "dict"], kitB t T = some (t == T || (t == "bool" && T == "int"))) (he : MQ X W e m)
    (hg : Gl X "isinstance" := by rfl) (h1 : starEach (e :: [.Tuple [.Name x p1, .Name y p2] kk p3]) X.env = (false, eval e X.env) :: starEach [.Tuple [.Name x p1, .Name y p2] kk p3] X.env := by rfl)
    (h2 : starEach [.Tuple [.Name x p1, .Name y p2] kk p3] X.env = (false, eval (.Tuple [.Name x p1, .Name y p2] kk p3) X.env) :: starEach [] X.env := by rfl)
    (h3 : starEach [.Name x p1, .Name y p2] X.env = (false, eval (.Name x p1) X.env) :: starEach [.Name y p2] X.env := by rfl) (h4 : starEach [.Name y p2] X.env = (false, eval (.Name y p2) X.env) :: starEach [] X.env := by rfl)
    (hpl : (backTo pos (starEach [.Tuple [.Name x p1, .Name y p2] kk p3] X.env)).any (·.1) = false := by rfl) : ME X W (.Call (.Name "isinstance" p) [e, .Tuple [.Name x p1, .Name y p2] kk p3] [] pos) (isi2M S T m) :=
  PE.wk (pe_callB call_isiTD hg hm boot_isinstance (pa_cons he (pa_cons (pe_tup (pa_cons hS (pa_cons hT pa_nil h4) h3)) pa_nil h2) h1) (by decide) (by decide) h1 hpl) fun σ H Q ⟨F, g, G, A, q⟩ => by
  refine ⟨F, g, G, A, Po.imp q.bnd fun d g1 G1 H1 A1 s1 k1 x rx => ?_⟩
  refine ⟨by show 2 ≤ sizeLine; decide, fun tp htp => ?_⟩
  have gr := Gr.new (o := .tup [.ty S, .ty T]) A1.ex htp
  refine ⟨x, tp, [.ty S, .ty T], .type (typeD d), [.type S, .type T], isaD S d || isaD T d, rfl, upd_same, .cons (.ty S) (.cons (.ty T) .nil), tyd_of gr.e (rx.grow gr), ?_, k1 _ _ (A1.grow gr) gr.g _ (.bl _)⟩
  refine kitAny_cons (kit_is S hkS d) (fun hb => kitAny_cons (kit_is T hkT d) (fun hb2 => ?_) fun hb2 => ?_) fun hb => ?_
  · rw [hb, hb2]; exact kitAny_nil
  · rw [hb2]; simp
  · rw [hb]; rfl
/-! ### str(x), tuple(x), sep.join(x), {} -/
def strD : PyData → Option PyData
  | .int i => if i.natAbs.log2 < 1920 then some (.str (Str.ofString (toString i))) else none
  | .none => some (.str "None")
  | _ => none
def rStrA : List V → Hp → VK → Prop := fun xs H Q => (∃ i, xs = [.int i] ∧ i.natAbs.log2 < 1920 ∧ Q (.str (toString i)) H) ∨ (xs = [.non] ∧ Q (.str "None") H)
theorem hr_str : CallR X (.type "str") rStrA := CallR.or call_str_int fun pins s σ H xs us Q I r ⟨e, q⟩ => by
  subst e
  obtain ⟨u, rfl, rx⟩ := vals1 r
  cases rx
  exact PySem.P.str_of_none ⟨.str _, H, I.tok _, ⟨_, rfl⟩, q⟩
theorem ho_str {K : Frag} : Op1 K (fun x => rStrA [x]) strD := by
  intro x d z G H Q h rx s k
  cases d with
  | int i =>
    have h' : (if i.natAbs.log2 < 1920 then some (PyData.str (Str.ofString (toString i))) else none) = some z := h
    by_cases hl : i.natAbs.log2 < 1920
    · rw [if_pos hl] at h'
      cases h'
      rw [rx.int]
      exact .inl ⟨i, rfl, hl, k _ G H (Gr.refl s) (.str _)⟩
    · rw [if_neg hl] at h'
      cases h'
  | none =>
    cases h
    rw [rx.none]
    exact .inr ⟨rfl, k _ G H (Gr.refl s) (.str _)⟩
  | _ => cases h
/-- the signs of a text -/
def signs (z : Str) : List Str := z.cps.toList.map fun c => ⟨#[c]⟩
def tup2D : PyData → Option PyData
  | .list ds => some (.tuple ds)
  | .tuple ds => some (.tuple ds)
  | .str z => if z.length ≤ sizeLine then some (.tuple ((signs z).map .str)) else none
  | _ => none
def rTup2 (K : Frag) : List V → Hp → VK → Prop := fun xs H Q => (∃ p ys, xs = [V.ref p] ∧ ((SqL K H p ys ∧ NewT ys H Q) ∨ (SqT K H p ys ∧ Q (.ref p) H))) ∨
  ∃ z, xs = [.str z] ∧ z.length ≤ sizeLine ∧ NewT ((signs z).map V.str) H Q
theorem items_signs {z : Str} {acc : Array Value} (h : ItemsOf (SignAt z) acc z.cps.size) : Vals ((signs z).map V.str) acc.toList := by
  have key : ∀ (cs : List Nat) (us : List Value), us.length = cs.length → (∀ (j : Nat) (v : Value), us[j]? = some v → ∃ c u, cs[j]? = some c ∧ v = .str ⟨#[c]⟩ u) → Vals ((cs.map fun c => (⟨#[c]⟩ : Str)).map V.str) us := by
    intro cs
    induction cs with
    | nil => intro us hl _; cases us with | nil => exact .nil | cons _ _ => cases hl
    | cons c cs ih =>
      intro us hl hs
      cases us with
      | nil => cases hl
      | cons u us =>
        refine .cons ?_ (ih us (by simpa using hl) fun j v hj => ?_)
        · obtain ⟨c', t, e1, e2⟩ := hs 0 u rfl
          cases e1
          exact ⟨t, e2⟩
        · obtain ⟨c', t, e1, e2⟩ := hs (j + 1) v (by simpa using hj)
          exact ⟨c', t, by simpa using e1, e2⟩
  refine key z.cps.toList acc.toList (by simpa using h.1) fun j v hj => ?_
  obtain ⟨c, u, e1, e2⟩ := h.2 j v (by simpa using hj)
  exact ⟨c, u, by simpa using e1, e2⟩
theorem hr_tup2 (hh : X.A.handled = none) : CallR X (.type "tuple") (rTup2 X.kx) := CallR.or call_tupX fun pins s σ H xs us Q I r ⟨z, e, hz, q⟩ => by
  subst e
  obtain ⟨u, rfl, t, rfl⟩ := vals1 r
  refine PySem.call_tuple_str hh z t (fun h' tk acc hk hacc => ?_) hz
  have I1 : Inv X pins σ H { s with heap := h', toks := tk } := I.kept hk
  have hl : ((signs z).map V.str).length ≤ sizeLine := by simpa [signs, Str.length] using hz
  have e : acc.toList.toArray = acc := by simp
  have := new_tup I1 (items_signs hacc) hl q
  rw [e] at this
  exact this
theorem rp_strs {K : Frag} {H : Hp} : ∀ ss : List Str, RpAll K H (ss.map V.str) (ss.map PyData.str)
  | [] => .nil
  | a :: r => .cons (.str a) (rp_strs r)
theorem ho_tup2 {K : Frag} : Op1 K (fun x => rTup2 K [x]) tup2D := by
  intro x d z G H Q h rx s k
  cases d with
  | list ds => exact .inl (ho_tup x (.list ds) z G H Q h rx s k)
  | tuple ds => exact .inl (ho_tup x (.tuple ds) z G H Q h rx s k)
  | str w =>
    have h' : (if w.length ≤ sizeLine then some (PyData.tuple ((signs w).map .str)) else none) = some z := h
    by_cases hl : w.length ≤ sizeLine
    · rw [if_pos hl] at h'
      cases h'
      rw [rx.str]
      exact .inr ⟨w, rfl, hl, .of s (rp_strs _) k⟩
    · rw [if_neg hl] at h'
      cases h'
  | _ => cases h
def strsOf : List PyData → Option (List Str)
  | [] => some []
  | .str i :: r => (strsOf r).map (i :: ·)
  | _ :: _ => none
theorem strsOf_eq : ∀ {ds : List PyData} {ns : List Str}, strsOf ds = some ns → ds = ns.map .str
  | [], _, h => by cases h; rfl
  | .str i :: r, ns, h => by
    have h' : (strsOf r).map (i :: ·) = some ns := h
    cases e : strsOf r with
    | none => rw [e] at h'; cases h'
    | some ms =>
      rw [e] at h'
      cases h'
      rw [strsOf_eq e]
      rfl
  | .none :: _, _, h => by cases h
  | .bool _ :: _, _, h => by cases h
  | .int _ :: _, _, h => by cases h
  | .list _ :: _, _, h => by cases h
  | .tuple _ :: _, _, h => by cases h
  | .dict _ :: _, _, h => by cases h
theorem strs_rp {K : Frag} {G : Hp} {us : List V} : ∀ {ns : List Str}, RpAll K G us (ns.map PyData.str) → us = ns.map V.str := by
  induction us with
  | nil => intro ns h; cases ns with | nil => rfl | cons _ _ => cases h
  | cons u us ih =>
    intro ns h
    cases ns with
    | nil => cases h
    | cons n ns =>
      cases h with
      | cons a t =>
        cases a
        rw [ih t]
        rfl
/-- the items of a list or a tuple -/
def seqD : PyData → Option (List PyData)
  | .list ds => some ds
  | .tuple ds => some ds
  | _ => none
def joinD (a : Str) (d : PyData) : Option PyData := match seqD d with
  | some ds => (match strsOf ds with
    | some ys => if (ys.map (·.length)).sum + ys.length * a.length ≤ 16777216 then some (.str (Txt.join a ys)) else none
    | none => none)
  | none => none
theorem me_join {a : Str} {j : Nat} {apos pp : Pos} (he : MQ X W e m) (hs : starEach [e] X.env = [(false, eval e X.env)] := by rfl) (hbase : attributeBase (.Constant (.str a) j pp) "join" X.env (eval (.Constant (.str a) j pp) X.env) = eval (.Constant (.str a) j pp) X.env := by rfl) (hline : (apos.endLine == pos.line) = true := by rfl) :
    ME X W (.Call (.Attribute (.Constant (.str a) j pp) "join" apos) [e] [] pos) (op1 (joinD a) m) := PE.wk (pe_join pe_str he hs hbase hline) fun σ H Q ⟨F, g, G, A, q⟩ => by
  refine ⟨⟨a, rfl⟩, F, g, G, A, Po.imp q.bnd fun d g1 G1 H1 A1 s1 k1 x rx => ?_⟩
  obtain ⟨z, ez, k⟩ := k1.lft
  unfold joinD at ez
  generalize ei : seqD d = o at ez
  cases o with
  | none => cases ez
  | some ds =>
    simp only at ez
    generalize es : strsOf ds = o at ez
    cases o with
    | none => cases ez
    | some ys =>
      simp only at ez
      have eds := strsOf_eq es
      subst eds
      by_cases hl : (ys.map (·.length)).sum + ys.length * a.length ≤ 16777216
      · rw [if_pos hl] at ez
        cases ez
        cases d with
        | list ds' =>
          cases ei
          obtain ⟨p, us, rfl, h1, h2⟩ := rx.lst A1.ex
          have eu := strs_rp h2
          subst eu
          exact ⟨a, p, ys, rfl, rfl, .inl (.inl (.inl h1)), hl, k G1 H1 A1 (Same.refl _) _ (.str _)⟩
        | tuple ds' =>
          cases ei
          obtain ⟨p, us, rfl, h1, h2⟩ := rx.tup A1.ex
          have eu := strs_rp h2
          subst eu
          exact ⟨a, p, ys, rfl, rfl, .inr h1, hl, k G1 H1 A1 (Same.refl _) _ (.str _)⟩
        | _ => cases ei
      · rw [if_neg hl] at ez
        cases ez
/-- what holds of a dict's object stays so while the object stays -/
theorem dO_ok {P : Program} {w : World} {H : Hp} {h : Heap} {a : Addr} {es : Array DictEntry} {ep : Nat} (h1 : (a == sysModules) = false) (h2 : es.size ≤ sizeLine) (h3 : h.get? a = some { cls := .type "dict", data := .dict es ep }) : ObjOk P w H h a (dO a es ep) :=
  ⟨⟨h1, h2, h3⟩, ⟨_, h3⟩, fun _ _ q k => ⟨q.1, q.2.1, k _ q.2.2⟩⟩
def tDict0 : TE := fun _ H Q => ∀ p, H p = none → Q (.ref p) (upd H p (dO p #[] 0))
theorem pe_dict0 : PE X (.Dict [] [] pos) tDict0 := ⟨fun pins s σ H Q I h =>
  wpAny_Dict_empty ⟨.ref s.heap.objs.size, _, I.laid (a := s.heap.objs.size) (o := dO s.heap.objs.size #[] 0) (t' := s.toks) (fun _ _ q => Heap.get?_push_of_some _ q) (Nat.le_refl _) (dO_ok (beq_eq_false_iff_ne.mpr (Ne.symm (Nat.ne_of_lt I.big))) (Nat.zero_le _) (Heap.get?_push_size _ rfl)), rfl, h _ (I.hok.fresh (Nat.le_refl _))⟩⟩
theorem keysOk_nil : keysOk [] := ⟨fun _ h => (nomatch h), Or.inl (fun _ h => nomatch h), List.nodup_nil⟩
theorem me_dict0 : ME X W (.Dict [] [] pos) (ret (.dict [])) := PE.wk pe_dict0 fun σ H Q ⟨F, g, G, A, q⟩ => by
  intro p hp
  have gr := Gr.new (o := dO p #[] 0) A.ex hp
  exact q _ _ (A.grow gr) gr.g _ (.dict upd_same keysOk_nil .nil)
end
end Mi
namespace Mi
open PySem PySem.Spec PyProof.Rows L2
/-- what the written part says of an exception class of the program (over ValueError, without its own __init__) -/
structure ExT (K : PySem.W.Frag) (mg : Mg) (c : String) (C : Addr) : Prop where
  gC : mg (Str.ofString c) = some (.ref C)
  kC : PySem.W.keepIn K (.ref C) = true
  sB : PySem.W.subIn K (.ref C) (.type "BaseException") = some true
  tC : PySem.W.typeIn K (.ref C) = some (.type "type")
/-- .. as one that is caught -/
structure ExH (K : PySem.W.Frag) (C : Addr) : Prop where
  ex : ExcC K C
  sC : PySem.W.subIn K (.ref C) (.ref C) = some true
  tC : PySem.W.typeIn K (.ref C) = some (.type "type")
  kV : PySem.W.kitOne K (.ref C) (.type "ValueError") = some true
/-- try: body; except c as n: if not isinstance(n, ValueError): return False -/
def tryS (c : String) (i : Nat) (mb : Gm → Out) : Gm → Out := fun g => match mb g with
  | .ex c' g' => if c' = c ∧ i < g'.length then .nx (g'.set i .dead) else .stuck
  | o => o
section
variable {X : Cx} {W : WX} {pos : Pos}
theorem ms_raise1 {c : String} {C : Addr} {bm : List Value} {m : Str} {j : Nat} {p p2 p3 : Pos} (hc : X.calm = true) (tk : L2N.Takes X W) (T : ExT X.kx X.mg c C) (q : PySem.W.excIn X.kx C bm "ValueError.__new__" = true) (F : ExcBaseFacts "ValueError" "ValueError.__new__" "ValueError.__init__" bm) (hg : Gl X (Str.ofString c)) (hdb : (Str.ofString c == ("__debug__" : Str)) = false) :
    MS X W (.Raise (some (.Call (.Name (Str.ofString c) p) [.Constant (.str m) j p2] [] p3)) none pos) (raiseS c) :=
  ms_raise hc tk T.gC (L2N.pmk_own F q T.gC T.kC (raises_own T.sB T.tC) hg hdb)
theorem ms_try {c : String} {C : Addr} {i : Nat} {n : Str} {body : List Stmt} {mb : Gm → Out} {np hp p1 p2 p3 p4 p5 p6 p7 p8 : Pos} {j : Nat} (T : ExT X.kx X.mg c C) (TH : ExH X.kx C) (hs : X.stack = X.env :: X.outer) (hf : X.env.frame = some X.env.locals) (hcalm : X.calm = true) (hN : X.N.Nodup) (hi : X.N[i]? = some n) (hln : X.env.kindOf n = some .local)
    (hgc : Names X (Str.ofString c) (.ref C)) (hI : X.mg "isinstance" = none) (hV : X.mg "ValueError" = none)
    (hvis : Vis X.env.scope n) (hgI : Gl X "isinstance") (hgV : Gl X "ValueError") (hd1 : (n == ("__debug__" : Str)) = false) (hd2 : (n == ("__classdict__" : Str)) = false)
    (hb : ∀ (W' : WX) (pn : List (Addr × Obj)) (xe : Value → Shared → Prop), L2N.Takes (X.tr pn xe) W' → PassesOwn (model X.prog X.w) X.A X.env xe → MB (X.tr pn xe) W' body mb)
    (h1 : ∀ (a : Addr) (pn : List (Addr × Obj)), starEach [.Name n p1, .Name "ValueError" p2] (X.suite a pn).env = (false, eval (.Name n p1) (X.suite a pn).env) :: starEach [.Name "ValueError" p2] (X.suite a pn).env := by intro _ _; rfl)
    (h2 : ∀ (a : Addr) (pn : List (Addr × Obj)), starEach [.Name "ValueError" p2] (X.suite a pn).env = (false, eval (.Name "ValueError" p2) (X.suite a pn).env) :: starEach [] (X.suite a pn).env := by intro _ _; rfl)
    (h3 : ∀ (a : Addr) (pn : List (Addr × Obj)), (backTo p4 (starEach [.Name "ValueError" p2] (X.suite a pn).env)).any (·.1) = false := by intro _ _; rfl) :
    MS X W (.Try body [.ExceptHandler (some (.Name (Str.ofString c) np)) (some n) [.If (.UnaryOp .Not (.Call (.Name "isinstance" p3) [.Name n p1, .Name "ValueError" p2] [] p4) p5) [.Return (some (.Constant (.bool false) j p6)) p7] [] p8] hp] [] [] pos) (tryS c i mb) := by
  let tsu : Addr → Value → Option Addr → TS := fun a cls d D σ H => cls = .ref C ∧ d = none ∧ tIfS (tNot (tB (tCB (rIsE X.kx C a) (tCons (tVar i) (tCons (tC (.ty "ValueError")) tNil))))) (tRet (tC (.bl false))) tNext D σ H
  refine PS.wk (L2N.ps_try_as (tb := fun W' => cS X.kx X.mg W' mb) (ts := tsu) (Wout := fun _ _ _ _ => False) hs hf hN hi hln hgc takes0N hb fun a oe cls d pn hz hfv => ?_) fun D σ H ⟨F, g, G, A, q⟩ => ?_
  · by_cases hcd : cls = .ref C ∧ d = none
    · obtain ⟨rfl, rfl⟩ := hcd
      have pn1 : PE (X.suite a ((a, oe) :: pn)) (.Name n p1) (tVar i) := pe_var hi hvis hd1 hd2
      have pv1 : PE (X.suite a ((a, oe) :: pn)) (.Name "ValueError" p2) (tC (.ty "ValueError")) := pe_bltn (v := .ty "ValueError") (u := .type "ValueError") hgV hV (by decide +kernel) rfl
      have pc : PE (X.suite a ((a, oe) :: pn)) (.Call (.Name "isinstance" p3) [.Name n p1, .Name "ValueError" p2] [] p4) _ :=
        pe_callB (call_isE TH.ex hz.zc hfv) hgI hI boot_isinstance (pa_cons pn1 (pa_cons pv1 pa_nil (h2 _ _)) (h1 _ _)) (by decide) (by decide) (h1 _ _) (h3 _ _)
      exact PSs.wk (pss_one (ps_if (pt_not (pt_val pc (by intro _; rfl))) (pss_one (ps_ret pe_bl)) pss_nil)) fun D σ H h => h.2.2
    · exact PSs.wk pss_never fun D σ H h => hcd ⟨h.1, h.2.1⟩
  · refine ⟨F, g, G, A, ?_⟩
    unfold tryS at q
    generalize mb g = o at q
    cases o with
    | nx g' => exact q
    | rt d g' => exact q
    | bk g' => exact q
    | ct g' => exact q
    | stuck => exact q
    | ex c' g' =>
      have q' : PoS X.kx X.mg W F G (if c' = c ∧ i < g'.length then .nx (g'.set i .dead) else .stuck) D := q
      by_cases hcc : c' = c ∧ i < g'.length
      · rw [if_pos hcc] at q'
        obtain ⟨hcc, hig⟩ := hcc
        subst hcc
        intro C' hC' σ' G' H' A' s'
        have e := hC'.symm.trans T.gC
        cases e
        refine ⟨true, PySem.W.exm_ref T.sB TH.ex.hd TH.tC TH.sC, fun _ a ha => ⟨rfl, rfl, ?_⟩, fun z => Bool.noConfusion z⟩
        have hil : i < σ'.length := by rw [A'.len]; exact hig
        refine ⟨_, List.getElem?_set_self hil, .ty "ValueError", .type "ValueError", true, rfl, fun u r => r, TH.kV, true, rfl, ?_⟩
        show if (!true) = true then _ else _
        rw [if_neg (by decide)]
        have B := (A'.kill i).slot (v := some (.ref a)) (i := i) (by
          by_cases h : i < g'.length
          · exact .inl (List.getElem?_set_self h)
          · exact .inr (by simpa using h))
        have B2 := B.slot (v := none) (i := i) (by
          by_cases h : i < g'.length
          · exact .inl (List.getElem?_set_self h)
          · exact .inr (by simpa using h))
        exact q' _ G' H' B2 s'
      · rw [if_neg hcc] at q'
        exact q'.elim
end
end Mi
namespace Mi
open PySem PySem.Spec PyProof.Rows L2
/-- a def of the text as it stands behind the top -/
structure Df (K : PySem.W.Frag) (mg : Mg) (x : Str) (st : Stmt) (ps : List Str) : Type where
  f : Addr
  fd : FuncData
  F : Fun K x x st f fd
  g : mg x = some (.ref f)
  k : PySem.W.keepIn K (.ref f) = true
  b : Binds K fd ps []
theorem u65 {A : Around} {k : Nat} (hr : Room k A) : A.units + 65 < cLine := by have := hr.un; omega
def iaddD : PyData → PyData → Option PyData
  | .int i, .int j => some (.int (i + j))
  | _, _ => none
theorem ho_iadd {K : Frag} : Op2 K (ipI fun i j => i + j) iaddD := by
  intro x y d e z G H Q h rx ry s k
  cases d with
  | int i =>
    cases e with
    | int j =>
      cases h
      rw [rx.int, ry.int]
      exact ⟨i, j, rfl, rfl, k _ G H (Gr.refl s) (.int _)⟩
    | _ => cases h
  | _ => cases e <;> cases h
theorem fnOk0 {P : Program} {K : Frag} {mg : Mg} {base : Heap} {k : Nat} {f : Addr} {fd : FuncData} {ps : List Str} : FnOk P K.w K mg base (L2N.CX P K.w) k f fd ps (SpP K mg fun _ => .error .stuck) :=
  ⟨fun vs H Q E ⟨G, ds, _, _, h⟩ => h.elim, fun A outer s H args us vs Q E _ _ _ _ ⟨G, ds, _, _, h⟩ => h.elim⟩
theorem fnOk0S {P : Program} {K : Frag} {mg : Mg} {base : Heap} {k : Nat} {f : Addr} {fd : FuncData} {ps : List Str} : FnOk P K.w K mg base (L2N.CX P K.w) k f fd ps (SpS K mg fun _ _ => .error .stuck) :=
  ⟨fun vs H Q E ⟨G, p, us, s, ds, _, _, _, _, _, h⟩ => h.elim, fun A outer s H args us vs Q E _ _ _ _ ⟨G, p, us0, s0, ds, _, _, _, _, _, h⟩ => h.elim⟩
/-! ### the law itself -/
def lawStart (n : Nat) (ns : List Int) : Gm := (List.replicate n Sl.dead).set 1 (.own false (.list [.list (ns.map .int), .int 0, .int 0, .int 1]))
def spLaw (K : PySem.W.Frag) : Sp := fun vs H Q _ => ∃ (a : Addr) (ns : List Int), vs = [.ref a] ∧ SqL K H a (ns.map V.int) ∧ ns.length ≤ 63 ∧ ∀ H', Q (.bl true) H'
theorem at_none {K : Frag} {H : Hp} {σ : L2.St} : At K ⟨fun _ => False, H, H, 0⟩ σ (List.replicate σ.length .dead) H H := by
  have nd : ∀ {i : Nat} {s : Sl}, (List.replicate σ.length Sl.dead)[i]? = some s → s = .dead := fun {i s} h => by
    have := List.mem_of_getElem? h
    rw [List.mem_replicate] at this
    exact this.2
  exact ⟨Same.refl _, Same.refl _, fun _ _ h _ => h, fun _ _ _ _ => rfl, fun _ h => h, by simp, fun i d h => (by cases nd h), fun i t d h => (by cases nd h), fun i j t u d e p h => (by cases nd h)⟩
theorem law_read {K : Frag} {mg : Mg} {W : WX} {N : List Str} {b : Gm → Out} {H : Hp} {a : Addr} {ns : List Int} {D : Ends} (hN : 1 ≤ N.length) (hS : SqL K H a (ns.map V.int)) (h : ∃ g, b (lawStart N.length ns) = .rt (.bool true) g) (q : ∀ H', D.rt (.bl true) H') :
    tSeq (tAsg (tLst (tCons (tCB (fun xs H Q => ∃ p ys, xs = [.ref p] ∧ (SqL K H p ys ∨ SqT K H p ys) ∧ ∀ l, H l = none → Q (.ref l) (upd H l (.lst ys))) (tCons (tVar 0) tNil)) (tCons (tC (.int 0)) (tCons (tC (.int 0)) (tCons (tC (.int 1)) tNil))))) (gName 1)) (cS K mg W b) D (L2.start N [.ref a]) H := by
  obtain ⟨g, h⟩ := h
  refine ⟨.ref a, rfl, a, ns.map V.int, rfl, .inl hS, fun l hl => ⟨by show 4 ≤ sizeLine; decide, fun p hp => ?_⟩⟩
  have hlen : (L2.start N [V.ref a]).length = N.length := by simp [L2.start]; omega
  have A0 : At K ⟨fun _ => False, H, H, 0⟩ (L2.start N [V.ref a]) (List.replicate N.length .dead) H H := by
    rw [← hlen]; exact at_none
  have gr := Gr.new (o := .lst (ns.map V.int)) (Same.refl H) hl
  have A1 := A0.grow gr
  have A2 := A1.fresh (i := 1) (d := .list [.list (ns.map .int), .int 0, .int 0, .int 1]) (o := .lst [.ref l, .int 0, .int 0, .int 1]) hp
    ⟨_, upd_same, .cons (.lst upd_same (RpAll.ints ns)) (.cons (.int 0) (.cons (.int 0) (.cons (.int 1) .nil)))⟩
  refine ⟨_, _, _, A2, ?_⟩
  show PoS K mg W _ _ (b (lawStart N.length ns)) D
  rw [h]
  intro v σ' G' H' A' s' rv
  cases rv
  exact q H'
theorem fnLaw {P : Program} {K : Frag} {mg : Mg} {base : Heap} {st : Stmt} {f : Addr} {fd : FuncData} {N : List Str} {k : Nat} {b : Gm → Out} (F : Fun K "law" "law" st f fd) (S : FnScope N ["script"] (defScope st)) (hN : 1 ≤ N.length)
    (hb : ∀ (cdv : Value) (A : Around) (outer : List Env) (s : Shared) (H : Hp) (E : XK), Room k (A.deeper (envOfC "law" (defScope st) s.heap.objs.size f cdv)) →
      PSs (cxOf (L2N.CX P K.w) P K.w K mg base N "law" (defScope st) f cdv A outer s H E) (defBody st) (tSeq (tAsg (tLst (tCons (tCB (fun xs H Q => ∃ p ys, xs = [.ref p] ∧ (SqL K H p ys ∨ SqT K H p ys) ∧ ∀ l, H l = none → Q (.ref l) (upd H l (.lst ys))) (tCons (tVar 0) tNil)) (tCons (tC (.int 0)) (tCons (tC (.int 0)) (tCons (tC (.int 1)) tNil))))) (gName 1)) (cS K mg (fun cls d _ H => E cls d H) b)))
    (h : ∀ ns : List Int, ns.length ≤ 63 → ∃ g, b (lawStart N.length ns) = .rt (.bool true) g) : FnOk P K.w K mg base (L2N.CX P K.w) (k + 1) f fd ["script"] (spLaw K) := by
  refine okXN F S (fun vs H Q E h => ?_) (fun cdv A outer s H vs Q E hr hsp => ?_)
  · obtain ⟨a, ns, rfl, _⟩ := h
    rfl
  · obtain ⟨a, ns, rfl, hS, hl, q⟩ := hsp
    exact ⟨_, hb cdv A outer s H E hr, law_read hN hS (h ns hl) q⟩
def Df.mk' {K : PySem.W.Frag} {mg : Mg} {h : Heap} {x : Str} {st : Stmt} {ps : List Str} {f : Addr} {oc : Value} {od an : Option Addr} {osl : Array (Option Value)} {kV doc pm cdv ct : Value} (G : h.Ns mainGlobals mg) (X : K.In h)
    (a : PySem.W.nsIn K mainGlobals x = some (some (.ref f))) (l : K.lookup f = some ⟨oc, od, .func (PySem.W.fnOf x x (defArgs st) (defBody st) (defScope st) .none kV doc pm an cdv ct), osl⟩)
    (c : PySem.W.codeIn K cdv x = true) (k : PySem.W.keepIn K (.ref f) = true)
    (h : ∀ (kV doc pm : Value) (an : Option Addr) (cdv ct : Value) (us : List Value), us.length = ps.length → bindArgs (PySem.W.fnOf x x (defArgs st) (defBody st) (defScope st) .none kV doc pm an cdv ct) ⟨us, []⟩ = pure (ps.zip us)) : Df K mg x st ps :=
  ⟨f, _, fun_mk l c k, PySem.W.mg_of X G a, k, (fun_mk (st := st) l c k).binds h⟩
theorem walkLaw {l : PySem.W.OpenLaw} {q : Program} {loose : List Str} {XP : (Str → Option Value) → Heap → Prop} {YP : World → Heap → Prop} {d : DefRec} {K : Params → PySem.W.Frag} {k : Nat} (hr : Room k callerA) (hn : l.most = some 63) (hdf : d.params.defaults = [])
    (hY : ∀ (w : World) (h : Heap), YP w h → (K w.params).In h)
    (F : ∀ (w : World) (mg : Str → Option Value) (fa : Addr) (h : Heap), (K w.params).In h → h.Ns mainGlobals mg → mg d.name = some (.ref fa) →
      ∃ fd : FuncData, (∀ (s : Shared) (u : Value), BindsTo s fd ⟨[u], []⟩ [("script", u)]) ∧ ∀ base : Heap, (K w.params).In base → base.Ns mainGlobals mg → FnOk l.prog w (K w.params) mg base (L2N.CX l.prog w) k fa fd ["script"] (spLaw (K w.params))) :
    PySem.W.WalkO q loose XP YP l.row.toRowW d [] (fun f vs => PySem.call f vs) :=
  L2.walk_of (n := 63) (k := k) (x := "script") (CX := fun w => L2N.CX l.prog w) (sp := fun w => spLaw (K w.params)) hn (by decide) hdf hr hY F (fun _ _ a ns hl _ hS => ⟨a, ns, rfl, hS, hl, fun _ => rfl⟩) fun w H s e s' h => by
    obtain ⟨_, _, _, _, _, _, _, _, _, _, _, _, z⟩ := h
    exact z
end Mi
namespace Mi
open PySem L2
/-! ### what a computation comes to -/
def okE {α : Type} (r : Except Er (α × Gm)) (P : α → Gm → Prop) (X : String → Gm → Prop) : Prop := match r with
  | .ok (a, g) => P a g
  | .error (.exc c g) => X c g
  | .error .stuck => False
def okP (r : Except Er PyData) (P : PyData → Prop) (X : String → Prop) : Prop := match r with
  | .ok d => P d
  | .error (.exc c _) => X c
  | .error .stuck => False
def okS (r : Except Er (PyData × PyData)) (P : PyData → PyData → Prop) (X : String → Prop) : Prop := match r with
  | .ok (d, s) => P d s
  | .error (.exc c _) => X c
  | .error .stuck => False
/-- an option that is there -/
def okO {α : Type} (o : Option α) (P : α → Prop) : Prop := match o with
  | some a => P a
  | none => False
def ev {α : Type} (m : MM α) (g : Gm) (P : α → Gm → Prop) (X : String → Gm → Prop) : Prop := okE (m g) P X
def svO (o : Out) (P : Out → Prop) : Prop := match o with
  | .stuck => False
  | o => P o
def sv (b : Gm → Out) (g : Gm) (P : Out → Prop) : Prop := svO (b g) P
section
variable {α β : Type} {m : MM α} {f : α → MM β} {g : Gm} {P : β → Gm → Prop} {X : String → Gm → Prop} {ma mb mc : MM PyData} {mas : MM (List PyData)} {Q : PyData → Gm → Prop} {QL : List PyData → Gm → Prop} {QB : Bool → Gm → Prop} {tA tB : MM Bool}
@[simp ↓] theorem okP_ok {d : PyData} {P : PyData → Prop} {X : String → Prop} : okP (.ok d) P X ↔ P d := Iff.rfl
@[simp ↓] theorem okS_ok {d s : PyData} {P : PyData → PyData → Prop} {X : String → Prop} : okS (.ok (d, s)) P X ↔ P d s := Iff.rfl
@[simp ↓] theorem okP_exc {c : String} {g : Gm} {P : PyData → Prop} {X : String → Prop} : okP (.error (.exc c g)) P X ↔ X c := Iff.rfl
@[simp ↓] theorem okO_some {a : α} {P : α → Prop} : okO (some a) P ↔ P a := Iff.rfl
@[simp ↓] theorem okO_none {P : α → Prop} : okO (none : Option α) P ↔ False := Iff.rfl
@[simp ↓] theorem ev_bnd : ev (bnd m f) g P X ↔ ev m g (fun a g' => ev (f a) g' P X) X := by
  unfold ev bnd okE
  generalize m g = r
  rcases r with (_ | ⟨c, g'⟩) | ⟨a, g'⟩ <;> exact Iff.rfl
@[simp ↓] theorem ev_ret {a : α} {P : α → Gm → Prop} : ev (Mi.ret a) g P X ↔ P a g := Iff.rfl
@[simp ↓] theorem ev_lft {o : Option α} {P : α → Gm → Prop} : ev (lft o) g P X ↔ okO o fun a => P a g := by
  unfold ev lft okE okO
  cases o <;> exact Iff.rfl
theorem ev_pkV {i : Nat} : ev (pkV i) g Q X ↔ match g[i]? with | some (.dat d) => Q d g | some (.own _ d) => Q d g | _ => False := by
  unfold ev pkV okE
  generalize g[i]? = s
  rcases s with _ | (_ | d | ⟨t, d⟩) <;> exact Iff.rfl
@[simp ↓] theorem ev_op1 {f : PyData → Option PyData} : ev (op1 f ma) g Q X ↔ ev ma g (fun d g1 => okO (f d) fun z => Q z g1) X := by simp [op1]
@[simp ↓] theorem ev_op2 {f : PyData → PyData → Option PyData} : ev (op2 f ma mb) g Q X ↔ ev ma g (fun d g1 => ev mb g1 (fun e g2 => okO (f d e) fun z => Q z g2) X) X := by simp [op2]
theorem ev_pk2 {i : Nat} {h : MM PyData} : ev (bnd (pkV i) fun _ => h) g Q X ↔ (match g[i]? with | some (.dat _) => True | some (.own _ _) => True | _ => False) ∧ ev h g Q X := by
  rw [ev_bnd, ev_pkV]
  generalize g[i]? = s
  rcases s with _ | (_ | d | ⟨t, d⟩) <;> simp
@[simp ↓] theorem ev_op2V {f : PyData → PyData → Option PyData} {i : Nat} : ev (op2V f i mb) g Q X ↔ ev (pkV i) g (fun _ _ => True) X ∧ ev mb g (fun e g2 => ev (pkV i) g2 (fun d g3 => okO (f d e) fun z => Q z g3) X) X := by
  unfold op2V
  rw [ev_pk2, ev_pkV]
  generalize g[i]? = s
  rcases s with _ | (_ | d | ⟨t, d⟩) <;> simp
@[simp ↓] theorem ev_tru : ev (tru ma) g QB X ↔ ev ma g (fun d g1 => okO (truD d) fun z => QB z g1) X := by simp [tru]
@[simp ↓] theorem ev_andT : ev (andT tA tB) g QB X ↔ ev tA g (fun c g1 => if c = true then ev tB g1 QB X else QB false g1) X := by
  simp only [andT, ev_bnd]
  refine iff_of_eq (congrArg (fun h => ev tA g h X) ?_)
  funext c g1
  cases c <;> simp
@[simp ↓] theorem ev_orT : ev (orT tA tB) g QB X ↔ ev tA g (fun c g1 => if c = true then QB true g1 else ev tB g1 QB X) X := by
  simp only [orT, ev_bnd]
  refine iff_of_eq (congrArg (fun h => ev tA g h X) ?_)
  funext c g1
  cases c <;> simp
@[simp ↓] theorem ev_notT : ev (notT tA) g QB X ↔ ev tA g (fun c g1 => QB (!c) g1) X := by simp [notT]
@[simp ↓] theorem ev_notV : ev (notV ma) g Q X ↔ ev ma g (fun d g1 => okO (truD d) fun c => Q (.bool (!c)) g1) X := by simp [notV]
@[simp ↓] theorem ev_andV : ev (andV ma mb) g Q X ↔ ev ma g (fun d g1 => okO (truD d) fun c => if c = true then ev mb g1 Q X else Q d g1) X := by
  simp only [andV, ev_bnd, ev_lft]
  refine iff_of_eq (congrArg (fun h => ev ma g h X) ?_)
  funext d g1
  refine congrArg (okO (truD d)) ?_
  funext c
  cases c <;> simp
@[simp ↓] theorem ev_orV : ev (orV ma mb) g Q X ↔ ev ma g (fun d g1 => okO (truD d) fun c => if c = true then Q d g1 else ev mb g1 Q X) X := by
  simp only [orV, ev_bnd, ev_lft]
  refine iff_of_eq (congrArg (fun h => ev ma g h X) ?_)
  funext d g1
  refine congrArg (okO (truD d)) ?_
  funext c
  cases c <;> simp
@[simp ↓] theorem ev_ifM {a b : MM α} {P : α → Gm → Prop} : ev (ifM tA a b) g P X ↔ ev tA g (fun c g1 => if c = true then ev a g1 P X else ev b g1 P X) X := by
  simp only [ifM, ev_bnd]
  refine iff_of_eq (congrArg (fun h => ev tA g h X) ?_)
  funext c g1
  cases c <;> simp
@[simp ↓] theorem ev_tstM : ev (tstM ma) g QB X ↔ ev ma g (fun d g1 => match d with | .bool b => QB b g1 | _ => False) X := by
  simp only [tstM, ev_bnd]
  refine iff_of_eq (congrArg (fun h => ev ma g h X) ?_)
  funext d g1
  cases d <;> simp
@[simp ↓] theorem ev_nilM : ev nilM g QL X ↔ QL [] g := Iff.rfl
@[simp ↓] theorem ev_consM : ev (consM ma mas) g QL X ↔ ev ma g (fun d g1 => ev mas g1 (fun ds g2 => QL (d :: ds) g2) X) X := by simp [consM]
@[simp ↓] theorem ev_tupM : ev (tupM mas) g Q X ↔ ev mas g (fun ds g1 => ds.length ≤ sizeLine ∧ Q (.tuple ds) g1) X := by
  simp only [tupM, ev_bnd, ev_lft]
  refine iff_of_eq (congrArg (fun h => ev mas g h X) ?_)
  funext ds g1
  by_cases h : ds.length ≤ sizeLine <;> simp [h]
@[simp ↓] theorem ev_lstM : ev (lstM mas) g Q X ↔ ev mas g (fun ds g1 => ds.length ≤ sizeLine ∧ Q (.list ds) g1) X := by
  simp only [lstM, ev_bnd, ev_lft]
  refine iff_of_eq (congrArg (fun h => ev mas g h X) ?_)
  funext ds g1
  by_cases h : ds.length ≤ sizeLine <;> simp [h]
@[simp ↓] theorem ev_lstO : ev (lstO mas) g Q X ↔ ev mas g (fun ds g1 => Q (.list ds) g1) X := by simp [lstO]
@[simp ↓] theorem ev_noneO {P : Option Int → Gm → Prop} : ev noneO g P X ↔ P none g := Iff.rfl
@[simp ↓] theorem ev_someO {P : Option Int → Gm → Prop} : ev (someO ma) g P X ↔ ev ma g (fun d g1 => match d with | .int i => P (some i) g1 | _ => False) X := by
  simp only [someO, ev_bnd]
  refine iff_of_eq (congrArg (fun h => ev ma g h X) ?_)
  funext d g1
  cases d <;> simp
@[simp ↓] theorem ev_slM {f : PyData → Option Int → Option Int → Option PyData} {l u : MM (Option Int)} : ev (slM f ma l u) g Q X ↔ ev ma g (fun d g1 => ev l g1 (fun i g2 => ev u g2 (fun j g3 => okO (f d i j) fun z => Q z g3) X) X) X := by simp [slM]
@[simp ↓] theorem ev_slMV {f : PyData → Option Int → Option Int → Option PyData} {l u : MM (Option Int)} {n : Nat} : ev (slMV f n l u) g Q X ↔ ev (pkV n) g (fun _ _ => True) X ∧ ev l g (fun i g2 => ev u g2 (fun j g3 => ev (pkV n) g3 (fun d g4 => okO (f d i j) fun z => Q z g4) X) X) X := by
  unfold slMV
  rw [ev_pk2, ev_pkV]
  generalize g[n]? = s
  rcases s with _ | (_ | d | ⟨t, d⟩) <;> simp
@[simp ↓] theorem ev_chainM {f f' : PyData → PyData → Option PyData} : ev (chainM f f' ma mb mc) g Q X ↔ ev ma g (fun d g1 => ev mb g1 (fun e g2 => okO (f d e) fun z => match z with
    | .bool true => ev mc g2 (fun h g3 => okO (f' e h) fun y => Q y g3) X
    | .bool false => Q (.bool false) g2
    | _ => False) X) X := by
  simp only [chainM, ev_bnd, ev_lft]
  refine iff_of_eq (congrArg (fun h => ev ma g h X) ?_)
  funext d g1
  refine congrArg (fun h => ev mb g1 h X) ?_
  funext e g2
  refine congrArg (okO (f d e)) ?_
  funext z
  cases z with
  | bool b => cases b <;> simp
  | _ => simp
@[simp ↓] theorem ev_isiM {T : String} : ev (isiM T ma) g Q X ↔ ev ma g (fun d g1 => Q (.bool (isaD T d)) g1) X := by simp [isiM]
@[simp ↓] theorem ev_isi2M {S T : String} : ev (isi2M S T ma) g Q X ↔ ev ma g (fun d g1 => Q (.bool (isaD S d || isaD T d)) g1) X := by simp [isi2M]
@[simp ↓] theorem ev_callM {m : List PyData → Except Er PyData} : ev (callM m mas) g Q X ↔ ev mas g (fun ds g1 => okP (m ds) (fun d => Q d g1) fun c => X c g1) X := by
  unfold ev okE callM bnd okP
  generalize mas g = r
  rcases r with (_ | ⟨c, g'⟩) | ⟨ds, g'⟩
  · rfl
  · rfl
  · simp only
    generalize m ds = r
    rcases r with (_ | ⟨c, _⟩) | d <;> rfl
theorem ev_callS {m : PyData → List PyData → Except Er (PyData × PyData)} {i : Nat} : ev (callS m i mas) g Q X ↔ (∃ t s, g[i]? = some (.own t s)) ∧ ev mas g (fun ds g1 => match g1[i]? with
    | some (.own t s) => okS (m s ds) (fun d s' => Q d (g1.set i (.own t s'))) fun c => X c (g1.set i .dead)
    | _ => False) X := by
  unfold callS
  rw [ev_bnd]
  have h1 : ∀ P : Unit → Gm → Prop, ev (chkO i) g P X ↔ (∃ t s, g[i]? = some (.own t s)) ∧ P () g := by
    intro P
    unfold ev chkO okE
    generalize g[i]? = s
    rcases s with _ | (_ | d | ⟨t, d⟩) <;> simp
  rw [h1]
  refine and_congr Iff.rfl ?_
  unfold ev okE bnd okS
  generalize mas g = r
  rcases r with (_ | ⟨c, g'⟩) | ⟨ds, g'⟩
  · rfl
  · rfl
  · simp only
    generalize g'[i]? = s
    rcases s with _ | (_ | d | ⟨t, d⟩)
    · rfl
    · rfl
    · rfl
    · simp only
      generalize m d ds = r
      rcases r with (_ | ⟨c, _⟩) | ⟨d, s'⟩ <;> rfl
theorem ev_mono {P P' : α → Gm → Prop} {m : MM α} (h : ev m g P X) (i : ∀ a g', P a g' → P' a g') : ev m g P' X := by
  unfold ev okE at h ⊢
  generalize m g = r at h
  rcases r with (_ | ⟨c, g'⟩) | ⟨a, g'⟩
  · exact h
  · exact h
  · exact i _ _ h
/-! statements -/
variable {a b : Gm → Out} {PO : Out → Prop}
@[simp ↓] theorem svO_nx {g : Gm} : svO (.nx g) PO ↔ PO (.nx g) := Iff.rfl
@[simp ↓] theorem svO_rt {d : PyData} {g : Gm} : svO (.rt d g) PO ↔ PO (.rt d g) := Iff.rfl
@[simp ↓] theorem svO_ex {c : String} {g : Gm} : svO (.ex c g) PO ↔ PO (.ex c g) := Iff.rfl
@[simp ↓] theorem svO_stuck : svO .stuck PO ↔ False := Iff.rfl
@[simp ↓] theorem sv_nxS : sv nxS g PO ↔ PO (.nx g) := Iff.rfl
@[simp ↓] theorem sv_raiseS {c : String} : sv (raiseS c) g PO ↔ PO (.ex c g) := Iff.rfl
@[simp ↓] theorem sv_bkS : sv bkS g PO ↔ PO (.bk g) := Iff.rfl
@[simp ↓] theorem sv_ctS : sv ctS g PO ↔ PO (.ct g) := Iff.rfl
@[simp ↓] theorem sv_seqS : sv (seqS a b) g PO ↔ sv a g fun o => match o with | .nx g' => sv b g' PO | o => PO o := by
  unfold sv seqS svO
  generalize a g = o
  cases o <;> exact Iff.rfl
theorem sv_onE {m : MM α} {k : α → Gm → Out} : svO (onE (m g) k) PO ↔ ev m g (fun a g' => svO (k a g') PO) fun c g' => PO (.ex c g') := by
  unfold onE ev okE
  generalize m g = r
  rcases r with (_ | ⟨c, g'⟩) | ⟨a, g'⟩ <;> exact Iff.rfl
@[simp ↓] theorem sv_dropS : sv (dropS ma) g PO ↔ ev ma g (fun _ g' => PO (.nx g')) fun c g' => PO (.ex c g') := sv_onE
@[simp ↓] theorem sv_retS : sv (retS ma) g PO ↔ ev ma g (fun d g' => PO (.rt d g')) fun c g' => PO (.ex c g') := sv_onE
@[simp ↓] theorem sv_setS {i : Nat} : sv (setS i ma) g PO ↔ ev ma g (fun d g' => PO (.nx (g'.set i (.dat d)))) fun c g' => PO (.ex c g') := sv_onE
@[simp ↓] theorem sv_setC {i : Nat} : sv (setC i mas) g PO ↔ ev mas g (fun d g' => PO (.nx (g'.set i (.own false (.list d))))) fun c g' => PO (.ex c g') := sv_onE
@[simp ↓] theorem sv_ifS : sv (ifS tA a b) g PO ↔ ev tA g (fun c g' => if c = true then sv a g' PO else sv b g' PO) fun c g' => PO (.ex c g') := by
  unfold sv ifS
  rw [sv_onE]
  refine iff_of_eq (congrArg (fun h => ev tA g h _) ?_)
  funext c g'
  cases c <;> simp [sv]
@[simp ↓] theorem sv_setL {i : Nat} : sv (setL i mas) g PO ↔ ev mas g (fun ds g' => ds.length ≤ sizeLine ∧ PO (.nx (g'.set i (.own false (.list ds))))) fun c g' => PO (.ex c g') := by
  unfold sv setL
  rw [sv_onE]
  refine iff_of_eq (congrArg (fun h => ev mas g h _) ?_)
  funext ds g'
  by_cases h : ds.length ≤ sizeLine <;> simp [h]
@[simp ↓] theorem sv_asgS {bt : PyData → Gm → Option Gm} : sv (asgS bt ma) g PO ↔ ev ma g (fun d g' => okO (bt d g') fun g2 => PO (.nx g2)) fun c g' => PO (.ex c g') := by
  unfold sv asgS
  rw [sv_onE]
  refine iff_of_eq (congrArg (fun h => ev ma g h _) ?_)
  funext d g'
  cases bt d g' <;> simp
@[simp ↓] theorem sv_parS {i j : Nat} : sv (parS i j ma mb) g PO ↔ ev ma g (fun d g1 => ev mb g1 (fun e g2 => PO (.nx ((g2.set i (.dat d)).set j (.dat e)))) fun c g' => PO (.ex c g')) fun c g' => PO (.ex c g') := by
  unfold sv parS
  rw [sv_onE]
  simp
@[simp ↓] theorem sv_forS {mi : MM (List PyData)} {bt : PyData → Gm → Option Gm} : sv (forS mi bt a) g PO ↔ ev mi g (fun ds g' => svO (forL bt a ds g') PO) fun c g' => PO (.ex c g') := sv_onE
@[simp ↓] theorem svO_for_nil {bt : PyData → Gm → Option Gm} : svO (forL bt a [] g) PO ↔ PO (.nx g) := Iff.rfl
theorem svO_for_cons {bt : PyData → Gm → Option Gm} {d : PyData} {ds : List PyData} : svO (forL bt a (d :: ds) g) PO ↔ okO (bt d g) fun g1 => sv a g1 fun o => match o with
    | .nx g2 => svO (forL bt a ds g2) PO
    | .ct g2 => svO (forL bt a ds g2) PO
    | .bk g2 => PO (.nx g2)
    | o => PO o := by
  have e : forL bt a (d :: ds) g = (match bt d g with
    | none => .stuck
    | some g1 => match a g1 with
      | .nx g2 => forL bt a ds g2
      | .ct g2 => forL bt a ds g2
      | .bk g2 => .nx g2
      | .rt d g2 => .rt d g2
      | .ex c g2 => .ex c g2
      | .stuck => .stuck) := rfl
  rw [e]
  cases bt d g with
  | none => exact Iff.rfl
  | some g1 =>
    simp only [okO_some]
    unfold sv
    generalize a g1 = o
    cases o <;> exact Iff.rfl
@[simp ↓] theorem ev_seqI : ev (seqI ma) g QL X ↔ ev ma g (fun d g1 => okO (itemsD d) fun ds => QL ds g1) X := by simp [seqI]
@[simp ↓] theorem ev_rng1 : ev (rng1 ma) g QL X ↔ ev ma g (fun d g1 => match d with | .int j => (-(2 ^ 62) ≤ j ∧ j < 2 ^ 62) ∧ QL (rngD 0 j) g1 | _ => False) X := by
  simp only [rng1, ev_bnd]
  refine iff_of_eq (congrArg (fun h => ev ma g h X) ?_)
  funext d g1
  cases d with
  | int j =>
    by_cases h : -(2 ^ 62) ≤ j ∧ j < 2 ^ 62
    · simp only [if_pos h, h, true_and]; rfl
    · simp only [if_neg h, h, false_and]; rfl
  | _ => simp
@[simp ↓] theorem ev_rng2 : ev (rng2 ma mb) g QL X ↔ ev ma g (fun d g1 => ev mb g1 (fun e g2 => match d, e with | .int i, .int j => (-(2 ^ 62) ≤ i ∧ i < 2 ^ 62 ∧ -(2 ^ 62) ≤ j ∧ j < 2 ^ 62) ∧ QL (rngD i j) g2 | _, _ => False) X) X := by
  simp only [rng2, ev_bnd]
  refine iff_of_eq (congrArg (fun h => ev ma g h X) ?_)
  funext d g1
  refine congrArg (fun h => ev mb g1 h X) ?_
  funext e g2
  cases d with
  | int i =>
    cases e with
    | int j =>
      by_cases h : -(2 ^ 62) ≤ i ∧ i < 2 ^ 62 ∧ -(2 ^ 62) ≤ j ∧ j < 2 ^ 62
      · simp only [if_pos h, h, true_and]; rfl
      · simp only [if_neg h, h, false_and]; rfl
    | _ => simp
  | _ => cases e <;> simp
theorem ev_chkL {i : Nat} {P : Unit → Gm → Prop} : ev (chkL i) g P X ↔ (match g[i]? with | some (.own _ (.list _)) => P () g | _ => False) := by
  unfold ev chkL okE
  generalize g[i]? = s
  rcases s with _ | (_ | d | ⟨t, d⟩)
  · rfl
  · rfl
  · rfl
  · cases d <;> rfl
theorem ev_appM {i : Nat} : ev (appM i ma) g Q X ↔ (match g[i]? with | some (.own _ (.list _)) => True | _ => False) ∧ ev ma g (fun d g1 => match g1[i]? with
    | some (.own t (.list ds)) => ds.length < sizeLine ∧ Q .none (g1.set i (.own t (.list (ds ++ [d]))))
    | _ => False) X := by
  unfold appM
  rw [ev_bnd, ev_chkL]
  have h : ∀ (P : Prop), (match g[i]? with | some (.own _ (.list _)) => P | _ => False) ↔ (match g[i]? with | some (.own _ (.list _)) => True | _ => False) ∧ P := by
    intro P
    generalize g[i]? = s
    rcases s with _ | (_ | d | ⟨t, d⟩)
    · simp
    · simp
    · simp
    · cases d <;> simp
  rw [h]
  refine and_congr Iff.rfl ?_
  unfold ev bnd okE
  generalize ma g = r
  rcases r with (_ | ⟨c, g'⟩) | ⟨d, g'⟩
  · rfl
  · rfl
  · simp only
    generalize g'[i]? = s
    rcases s with _ | (_ | e | ⟨t, e⟩)
    · rfl
    · rfl
    · rfl
    · cases e with
      | list ds =>
        by_cases h : ds.length < sizeLine
        · simp only [h, if_true, true_and]
        · simp only [h, if_false, false_and]
      | _ => rfl
theorem sv_stoS {i : Nat} {mk : MM PyData} : sv (stoS i mk ma) g PO ↔ ev ma g (fun d g1 => (match g1[i]? with | some (.own _ (.list _)) => True | _ => False) ∧ ev mk g1 (fun j g2 => match g2[i]?, j with
    | some (.own t (.list ds)), .int j => okO (L2.ixN ds.length j) fun n => PO (.nx (g2.set i (.own t (.list (ds.set n d)))))
    | _, _ => False) fun c g' => PO (.ex c g')) fun c g' => PO (.ex c g') := by
  unfold sv stoS
  rw [sv_onE, ev_bnd]
  refine iff_of_eq (congrArg (fun h => ev ma g h _) ?_)
  funext d g1
  rw [ev_bnd, ev_chkL]
  have h : ∀ (P : Prop), (match g1[i]? with | some (.own _ (.list _)) => P | _ => False) ↔ (match g1[i]? with | some (.own _ (.list _)) => True | _ => False) ∧ P := by
    intro P
    generalize g1[i]? = s
    rcases s with _ | (_ | d | ⟨t, d⟩)
    · simp
    · simp
    · simp
    · cases d <;> simp
  rw [h, ev_bnd]
  refine propext (and_congr Iff.rfl ?_)
  refine iff_of_eq (congrArg (fun h => ev mk g1 h _) ?_)
  funext j g2
  simp only [ev_ret]
  generalize g2[i]? = s
  rcases s with _ | (_ | e | ⟨t, e⟩)
  · simp
  · simp
  · simp
  · cases e with
    | list ds =>
      cases j with
      | int j =>
        simp only
        cases L2.ixN ds.length j <;> simp
      | _ => simp
    | _ => cases j <;> simp
end
theorem okP_runP {N n : Nat} {b : Gm → Out} {ds : List PyData} {P : PyData → Prop} {X : String → Prop} : okP (runP N n b ds) P X ↔ ds.length = n ∧ sv b (ds.map .dat ++ List.replicate (N - n) .dead) fun o => match o with
    | .rt d _ => P d
    | .nx _ => P .none
    | .ex c _ => X c
    | _ => False := by
  unfold runP
  by_cases h : ds.length = n
  · simp only [if_pos h, h, true_and]
    unfold sv
    generalize b (ds.map .dat ++ List.replicate (N - n) .dead) = o
    cases o <;> rfl
  · simp only [if_neg h, h, false_and]
    rfl
theorem okS_runS {N n : Nat} {b : Gm → Out} {s : PyData} {ds : List PyData} {P : PyData → PyData → Prop} {X : String → Prop} : okS (runS N n b s ds) P X ↔ ds.length + 1 = n ∧ sv b (.own true s :: (ds.map .dat ++ List.replicate (N - n) .dead)) fun o => match o with
    | .rt d g => (match g[0]? with | some (Sl.own true s') => P d s' | _ => False)
    | .nx g => (match g[0]? with | some (Sl.own true s') => P .none s' | _ => False)
    | .ex c _ => X c
    | _ => False := by
  unfold runS
  by_cases h : ds.length + 1 = n
  · simp only [if_pos h, h, true_and]
    unfold sv
    generalize b (.own true s :: (ds.map .dat ++ List.replicate (N - n) .dead)) = o
    cases o with
    | rt d g =>
      simp only [svO_rt]
      generalize g[0]? = e
      rcases e with _ | (_ | d | ⟨_ | _, d⟩) <;> rfl
    | nx g =>
      simp only [svO_nx]
      generalize g[0]? = e
      rcases e with _ | (_ | d | ⟨_ | _, d⟩) <;> rfl
    | _ => rfl
  · simp only [if_neg h, h, false_and]
    rfl
theorem of_okP {r : Except Er PyData} {d : PyData} (h : okP r (fun x => x = d) fun _ => False) : r = .ok d := by
  rcases r with (_ | ⟨c, _⟩) | e
  · exact h.elim
  · exact h.elim
  · have h' : e = d := h
    rw [h']
end Mi
namespace Mi
open PySem L2
/-- what is owned at slot i -/
def atO (g : Gm) (i : Nat) (k : Bool → PyData → Prop) : Prop := match g[i]? with
  | some (.own t s) => k t s
  | _ => False
def listOf : PyData → Option (List PyData)
  | .list ds => some ds
  | _ => none
section
variable {α : Type} {g : Gm} {l : Gm} {X : String → Gm → Prop} {ma mb : MM PyData} {mas : MM (List PyData)} {Q : PyData → Gm → Prop} {PO : Out → Prop} {d e : PyData} {t : Bool} {k : Bool → PyData → Prop}
@[simp ↓] theorem ev_callS' {m : PyData → List PyData → Except Er (PyData × PyData)} {i : Nat} : ev (callS m i mas) g Q X ↔ atO g i (fun _ _ => True) ∧ ev mas g (fun ds g1 => atO g1 i fun t s => okS (m s ds) (fun d s' => Q d (g1.set i (.own t s'))) fun c => X c (g1.set i .dead)) X := by
  rw [ev_callS]
  unfold atO
  refine and_congr ?_ (iff_of_eq (congrArg (fun h => ev mas g h X) ?_))
  · generalize g[i]? = s
    rcases s with _ | (_ | d | ⟨t, d⟩) <;> simp
  · funext ds g1
    generalize g1[i]? = s
    rcases s with _ | (_ | d | ⟨t, d⟩) <;> rfl
@[simp ↓] theorem okO_listOf {ds : List PyData} {P : List PyData → Prop} : okO (listOf (.list ds)) P ↔ P ds := Iff.rfl
@[simp ↓] theorem ev_appM' {i : Nat} : ev (appM i ma) g Q X ↔ (atO g i fun _ d => okO (listOf d) fun _ => True) ∧ ev ma g (fun d g1 => atO g1 i fun t s => okO (listOf s) fun ds => ds.length < sizeLine ∧ Q .none (g1.set i (.own t (.list (ds ++ [d]))))) X := by
  rw [ev_appM]
  unfold atO
  refine and_congr ?_ (iff_of_eq (congrArg (fun h => ev ma g h X) ?_))
  · generalize g[i]? = s
    rcases s with _ | (_ | d | ⟨t, d⟩)
    · rfl
    · rfl
    · rfl
    · cases d <;> rfl
  · funext d g1
    generalize g1[i]? = s
    rcases s with _ | (_ | e | ⟨t, e⟩)
    · rfl
    · rfl
    · rfl
    · cases e <;> rfl
@[simp ↓] theorem sv_stoS' {i : Nat} {mk : MM PyData} : sv (stoS i mk ma) g PO ↔ ev ma g (fun d g1 => (atO g1 i fun _ s => okO (listOf s) fun _ => True) ∧ ev mk g1 (fun j g2 => atO g2 i fun t s => okO (listOf s) fun ds => match j with
    | .int j => okO (L2.ixN ds.length j) fun n => PO (.nx (g2.set i (.own t (.list (ds.set n d)))))
    | _ => False) fun c g' => PO (.ex c g')) fun c g' => PO (.ex c g') := by
  rw [sv_stoS]
  unfold atO
  refine iff_of_eq (congrArg (fun h => ev ma g h _) ?_)
  funext d g1
  refine propext (and_congr ?_ (iff_of_eq (congrArg (fun h => ev mk g1 h _) ?_)))
  · generalize g1[i]? = s
    rcases s with _ | (_ | d | ⟨t, d⟩)
    · rfl
    · rfl
    · rfl
    · cases d <;> rfl
  · funext j g2
    generalize g2[i]? = s
    rcases s with _ | (_ | e | ⟨t, e⟩)
    · rfl
    · rfl
    · rfl
    · cases e <;> cases j <;> rfl
@[simp ↓] theorem sv_augI {f : PyData → PyData → Option PyData} {i : Nat} {mk : MM PyData} : sv (augI f i mk ma) g PO ↔ (atO g i fun _ s => okO (listOf s) fun _ => True) ∧ ev mk g (fun j g1 => atO g1 i fun _ s => okO (listOf s) fun ds => match j with
    | .int j => okO (L2.ixN ds.length j) fun _ => okO (L2.atI ds j) fun old => ev ma g1 (fun e g2 => okO (f old e) fun z => atO g2 i fun t s => okO (listOf s) fun ds => okO (L2.ixN ds.length j) fun n => PO (.nx (g2.set i (.own t (.list (ds.set n z)))))) fun c g' => PO (.ex c g')
    | _ => False) fun c g' => PO (.ex c g') := by
  unfold sv augI
  rw [sv_onE, ev_bnd]
  have hc : ∀ (P : Unit → Gm → Prop) (X : String → Gm → Prop), ev (chkL i) g P X ↔ (atO g i fun _ s => okO (listOf s) fun _ => True) ∧ P () g := by
    intro P X
    rw [ev_chkL]
    unfold atO
    generalize g[i]? = s
    rcases s with _ | (_ | d | ⟨t, d⟩)
    · simp
    · simp
    · simp
    · cases d <;> simp [listOf, okO]
  rw [hc, ev_bnd]
  refine and_congr Iff.rfl (iff_of_eq (congrArg (fun h => ev mk g h _) ?_))
  funext j g1
  have ho : ∀ (P : PyData → Gm → Prop) (X : String → Gm → Prop), ev (pkO i) g1 P X ↔ atO g1 i fun _ s => P s g1 := by
    intro P X
    unfold ev pkO okE atO
    generalize g1[i]? = s
    rcases s with _ | (_ | d | ⟨t, d⟩) <;> rfl
  rw [ev_bnd, ho]
  unfold atO
  generalize g1[i]? = s
  rcases s with _ | (_ | w | ⟨t, w⟩)
  · rfl
  · rfl
  · rfl
  · cases w with
    | list ws =>
      cases j with
      | int j =>
        simp only [listOf, okO_some]
        refine propext ?_
        cases L2.ixN ws.length j with
        | none => simp
        | some n =>
          cases L2.atI ws j with
          | none => simp
          | some old =>
            simp only [okO_some, ev_bnd, ev_lft, ev_ret]
            refine iff_of_eq (congrArg (fun h => ev ma g1 h _) ?_)
            funext e g2
            refine congrArg (okO (f old e)) ?_
            funext z
            generalize g2[i]? = s
            rcases s with _ | (_ | w | ⟨t, w⟩)
            · simp
            · simp
            · simp
            · cases w with
              | list us =>
                simp only [listOf, okO_some]
                cases L2.ixN us.length j <;> simp
              | _ => simp [listOf]
      | _ => simp [listOf]
    | _ => cases j <;> simp [listOf]
@[simp ↓] theorem ev_rd_0_d : ev (rdV 0) (.dat d :: l) Q X ↔ Q d (.dat d :: l) := Iff.rfl
@[simp ↓] theorem ev_rd_0_o : ev (rdV 0) (.own t d :: l) Q X ↔ Q d (.dat d :: l) := Iff.rfl
@[simp ↓] theorem ev_pk_0_d : ev (pkV 0) (.dat d :: l) Q X ↔ Q d (.dat d :: l) := Iff.rfl
@[simp ↓] theorem ev_pk_0_o : ev (pkV 0) (.own t d :: l) Q X ↔ Q d (.own t d :: l) := Iff.rfl
@[simp ↓] theorem at_0 : atO (.own t d :: l) 0 k ↔ k t d := Iff.rfl
@[simp ↓] theorem ev_set_0 {P : α → Gm → Prop} {m : MM α} {x : Sl} {s0 : Sl} : ev m (List.set (s0 :: l) 0 x) P X ↔ ev m (x :: l) P X := Iff.rfl
@[simp ↓] theorem sv_set_0 {b : Gm → Out} {x : Sl} {s0 : Sl} : sv b (List.set (s0 :: l) 0 x) PO ↔ sv b (x :: l) PO := Iff.rfl
@[simp ↓] theorem at_set_0 {x : Sl} {s0 : Sl} {j : Nat} : atO (List.set (s0 :: l) 0 x) j k ↔ atO (x :: l) j k := Iff.rfl
@[simp ↓] theorem for_set_0 {bt : PyData → Gm → Option Gm} {b : Gm → Out} {ds : List PyData} {x : Sl} {s0 : Sl} : svO (forL bt b ds (List.set (s0 :: l) 0 x)) PO ↔ svO (forL bt b ds (x :: l)) PO := Iff.rfl
@[simp ↓] theorem ev_rd_1_d {s0 : Sl} : ev (rdV 1) (s0 :: .dat d :: l) Q X ↔ Q d (s0 :: .dat d :: l) := Iff.rfl
@[simp ↓] theorem ev_rd_1_o {s0 : Sl} : ev (rdV 1) (s0 :: .own t d :: l) Q X ↔ Q d (s0 :: .dat d :: l) := Iff.rfl
@[simp ↓] theorem ev_pk_1_d {s0 : Sl} : ev (pkV 1) (s0 :: .dat d :: l) Q X ↔ Q d (s0 :: .dat d :: l) := Iff.rfl
@[simp ↓] theorem ev_pk_1_o {s0 : Sl} : ev (pkV 1) (s0 :: .own t d :: l) Q X ↔ Q d (s0 :: .own t d :: l) := Iff.rfl
@[simp ↓] theorem at_1 {s0 : Sl} : atO (s0 :: .own t d :: l) 1 k ↔ k t d := Iff.rfl
@[simp ↓] theorem ev_set_1 {P : α → Gm → Prop} {m : MM α} {x : Sl} {s0 s1 : Sl} : ev m (List.set (s0 :: s1 :: l) 1 x) P X ↔ ev m (s0 :: x :: l) P X := Iff.rfl
@[simp ↓] theorem sv_set_1 {b : Gm → Out} {x : Sl} {s0 s1 : Sl} : sv b (List.set (s0 :: s1 :: l) 1 x) PO ↔ sv b (s0 :: x :: l) PO := Iff.rfl
@[simp ↓] theorem at_set_1 {x : Sl} {s0 s1 : Sl} {j : Nat} : atO (List.set (s0 :: s1 :: l) 1 x) j k ↔ atO (s0 :: x :: l) j k := Iff.rfl
@[simp ↓] theorem for_set_1 {bt : PyData → Gm → Option Gm} {b : Gm → Out} {ds : List PyData} {x : Sl} {s0 s1 : Sl} : svO (forL bt b ds (List.set (s0 :: s1 :: l) 1 x)) PO ↔ svO (forL bt b ds (s0 :: x :: l)) PO := Iff.rfl
@[simp ↓] theorem ev_rd_2_d {s0 s1 : Sl} : ev (rdV 2) (s0 :: s1 :: .dat d :: l) Q X ↔ Q d (s0 :: s1 :: .dat d :: l) := Iff.rfl
@[simp ↓] theorem ev_rd_2_o {s0 s1 : Sl} : ev (rdV 2) (s0 :: s1 :: .own t d :: l) Q X ↔ Q d (s0 :: s1 :: .dat d :: l) := Iff.rfl
@[simp ↓] theorem ev_pk_2_d {s0 s1 : Sl} : ev (pkV 2) (s0 :: s1 :: .dat d :: l) Q X ↔ Q d (s0 :: s1 :: .dat d :: l) := Iff.rfl
@[simp ↓] theorem ev_pk_2_o {s0 s1 : Sl} : ev (pkV 2) (s0 :: s1 :: .own t d :: l) Q X ↔ Q d (s0 :: s1 :: .own t d :: l) := Iff.rfl
@[simp ↓] theorem at_2 {s0 s1 : Sl} : atO (s0 :: s1 :: .own t d :: l) 2 k ↔ k t d := Iff.rfl
@[simp ↓] theorem ev_set_2 {P : α → Gm → Prop} {m : MM α} {x : Sl} {s0 s1 s2 : Sl} : ev m (List.set (s0 :: s1 :: s2 :: l) 2 x) P X ↔ ev m (s0 :: s1 :: x :: l) P X := Iff.rfl
@[simp ↓] theorem sv_set_2 {b : Gm → Out} {x : Sl} {s0 s1 s2 : Sl} : sv b (List.set (s0 :: s1 :: s2 :: l) 2 x) PO ↔ sv b (s0 :: s1 :: x :: l) PO := Iff.rfl
@[simp ↓] theorem at_set_2 {x : Sl} {s0 s1 s2 : Sl} {j : Nat} : atO (List.set (s0 :: s1 :: s2 :: l) 2 x) j k ↔ atO (s0 :: s1 :: x :: l) j k := Iff.rfl
@[simp ↓] theorem for_set_2 {bt : PyData → Gm → Option Gm} {b : Gm → Out} {ds : List PyData} {x : Sl} {s0 s1 s2 : Sl} : svO (forL bt b ds (List.set (s0 :: s1 :: s2 :: l) 2 x)) PO ↔ svO (forL bt b ds (s0 :: s1 :: x :: l)) PO := Iff.rfl
@[simp ↓] theorem ev_rd_3_d {s0 s1 s2 : Sl} : ev (rdV 3) (s0 :: s1 :: s2 :: .dat d :: l) Q X ↔ Q d (s0 :: s1 :: s2 :: .dat d :: l) := Iff.rfl
@[simp ↓] theorem ev_rd_3_o {s0 s1 s2 : Sl} : ev (rdV 3) (s0 :: s1 :: s2 :: .own t d :: l) Q X ↔ Q d (s0 :: s1 :: s2 :: .dat d :: l) := Iff.rfl
@[simp ↓] theorem ev_pk_3_d {s0 s1 s2 : Sl} : ev (pkV 3) (s0 :: s1 :: s2 :: .dat d :: l) Q X ↔ Q d (s0 :: s1 :: s2 :: .dat d :: l) := Iff.rfl
@[simp ↓] theorem ev_pk_3_o {s0 s1 s2 : Sl} : ev (pkV 3) (s0 :: s1 :: s2 :: .own t d :: l) Q X ↔ Q d (s0 :: s1 :: s2 :: .own t d :: l) := Iff.rfl
@[simp ↓] theorem at_3 {s0 s1 s2 : Sl} : atO (s0 :: s1 :: s2 :: .own t d :: l) 3 k ↔ k t d := Iff.rfl
@[simp ↓] theorem ev_set_3 {P : α → Gm → Prop} {m : MM α} {x : Sl} {s0 s1 s2 s3 : Sl} : ev m (List.set (s0 :: s1 :: s2 :: s3 :: l) 3 x) P X ↔ ev m (s0 :: s1 :: s2 :: x :: l) P X := Iff.rfl
@[simp ↓] theorem sv_set_3 {b : Gm → Out} {x : Sl} {s0 s1 s2 s3 : Sl} : sv b (List.set (s0 :: s1 :: s2 :: s3 :: l) 3 x) PO ↔ sv b (s0 :: s1 :: s2 :: x :: l) PO := Iff.rfl
@[simp ↓] theorem at_set_3 {x : Sl} {s0 s1 s2 s3 : Sl} {j : Nat} : atO (List.set (s0 :: s1 :: s2 :: s3 :: l) 3 x) j k ↔ atO (s0 :: s1 :: s2 :: x :: l) j k := Iff.rfl
@[simp ↓] theorem for_set_3 {bt : PyData → Gm → Option Gm} {b : Gm → Out} {ds : List PyData} {x : Sl} {s0 s1 s2 s3 : Sl} : svO (forL bt b ds (List.set (s0 :: s1 :: s2 :: s3 :: l) 3 x)) PO ↔ svO (forL bt b ds (s0 :: s1 :: s2 :: x :: l)) PO := Iff.rfl
@[simp ↓] theorem ev_rd_4_d {s0 s1 s2 s3 : Sl} : ev (rdV 4) (s0 :: s1 :: s2 :: s3 :: .dat d :: l) Q X ↔ Q d (s0 :: s1 :: s2 :: s3 :: .dat d :: l) := Iff.rfl
@[simp ↓] theorem ev_rd_4_o {s0 s1 s2 s3 : Sl} : ev (rdV 4) (s0 :: s1 :: s2 :: s3 :: .own t d :: l) Q X ↔ Q d (s0 :: s1 :: s2 :: s3 :: .dat d :: l) := Iff.rfl
@[simp ↓] theorem ev_pk_4_d {s0 s1 s2 s3 : Sl} : ev (pkV 4) (s0 :: s1 :: s2 :: s3 :: .dat d :: l) Q X ↔ Q d (s0 :: s1 :: s2 :: s3 :: .dat d :: l) := Iff.rfl
@[simp ↓] theorem ev_pk_4_o {s0 s1 s2 s3 : Sl} : ev (pkV 4) (s0 :: s1 :: s2 :: s3 :: .own t d :: l) Q X ↔ Q d (s0 :: s1 :: s2 :: s3 :: .own t d :: l) := Iff.rfl
@[simp ↓] theorem at_4 {s0 s1 s2 s3 : Sl} : atO (s0 :: s1 :: s2 :: s3 :: .own t d :: l) 4 k ↔ k t d := Iff.rfl
@[simp ↓] theorem ev_set_4 {P : α → Gm → Prop} {m : MM α} {x : Sl} {s0 s1 s2 s3 s4 : Sl} : ev m (List.set (s0 :: s1 :: s2 :: s3 :: s4 :: l) 4 x) P X ↔ ev m (s0 :: s1 :: s2 :: s3 :: x :: l) P X := Iff.rfl
@[simp ↓] theorem sv_set_4 {b : Gm → Out} {x : Sl} {s0 s1 s2 s3 s4 : Sl} : sv b (List.set (s0 :: s1 :: s2 :: s3 :: s4 :: l) 4 x) PO ↔ sv b (s0 :: s1 :: s2 :: s3 :: x :: l) PO := Iff.rfl
@[simp ↓] theorem at_set_4 {x : Sl} {s0 s1 s2 s3 s4 : Sl} {j : Nat} : atO (List.set (s0 :: s1 :: s2 :: s3 :: s4 :: l) 4 x) j k ↔ atO (s0 :: s1 :: s2 :: s3 :: x :: l) j k := Iff.rfl
@[simp ↓] theorem for_set_4 {bt : PyData → Gm → Option Gm} {b : Gm → Out} {ds : List PyData} {x : Sl} {s0 s1 s2 s3 s4 : Sl} : svO (forL bt b ds (List.set (s0 :: s1 :: s2 :: s3 :: s4 :: l) 4 x)) PO ↔ svO (forL bt b ds (s0 :: s1 :: s2 :: s3 :: x :: l)) PO := Iff.rfl
@[simp ↓] theorem ev_rd_5_d {s0 s1 s2 s3 s4 : Sl} : ev (rdV 5) (s0 :: s1 :: s2 :: s3 :: s4 :: .dat d :: l) Q X ↔ Q d (s0 :: s1 :: s2 :: s3 :: s4 :: .dat d :: l) := Iff.rfl
@[simp ↓] theorem ev_rd_5_o {s0 s1 s2 s3 s4 : Sl} : ev (rdV 5) (s0 :: s1 :: s2 :: s3 :: s4 :: .own t d :: l) Q X ↔ Q d (s0 :: s1 :: s2 :: s3 :: s4 :: .dat d :: l) := Iff.rfl
@[simp ↓] theorem ev_pk_5_d {s0 s1 s2 s3 s4 : Sl} : ev (pkV 5) (s0 :: s1 :: s2 :: s3 :: s4 :: .dat d :: l) Q X ↔ Q d (s0 :: s1 :: s2 :: s3 :: s4 :: .dat d :: l) := Iff.rfl
@[simp ↓] theorem ev_pk_5_o {s0 s1 s2 s3 s4 : Sl} : ev (pkV 5) (s0 :: s1 :: s2 :: s3 :: s4 :: .own t d :: l) Q X ↔ Q d (s0 :: s1 :: s2 :: s3 :: s4 :: .own t d :: l) := Iff.rfl
@[simp ↓] theorem at_5 {s0 s1 s2 s3 s4 : Sl} : atO (s0 :: s1 :: s2 :: s3 :: s4 :: .own t d :: l) 5 k ↔ k t d := Iff.rfl
@[simp ↓] theorem ev_set_5 {P : α → Gm → Prop} {m : MM α} {x : Sl} {s0 s1 s2 s3 s4 s5 : Sl} : ev m (List.set (s0 :: s1 :: s2 :: s3 :: s4 :: s5 :: l) 5 x) P X ↔ ev m (s0 :: s1 :: s2 :: s3 :: s4 :: x :: l) P X := Iff.rfl
@[simp ↓] theorem sv_set_5 {b : Gm → Out} {x : Sl} {s0 s1 s2 s3 s4 s5 : Sl} : sv b (List.set (s0 :: s1 :: s2 :: s3 :: s4 :: s5 :: l) 5 x) PO ↔ sv b (s0 :: s1 :: s2 :: s3 :: s4 :: x :: l) PO := Iff.rfl
@[simp ↓] theorem at_set_5 {x : Sl} {s0 s1 s2 s3 s4 s5 : Sl} {j : Nat} : atO (List.set (s0 :: s1 :: s2 :: s3 :: s4 :: s5 :: l) 5 x) j k ↔ atO (s0 :: s1 :: s2 :: s3 :: s4 :: x :: l) j k := Iff.rfl
@[simp ↓] theorem for_set_5 {bt : PyData → Gm → Option Gm} {b : Gm → Out} {ds : List PyData} {x : Sl} {s0 s1 s2 s3 s4 s5 : Sl} : svO (forL bt b ds (List.set (s0 :: s1 :: s2 :: s3 :: s4 :: s5 :: l) 5 x)) PO ↔ svO (forL bt b ds (s0 :: s1 :: s2 :: s3 :: s4 :: x :: l)) PO := Iff.rfl
@[simp ↓] theorem ev_rd_6_d {s0 s1 s2 s3 s4 s5 : Sl} : ev (rdV 6) (s0 :: s1 :: s2 :: s3 :: s4 :: s5 :: .dat d :: l) Q X ↔ Q d (s0 :: s1 :: s2 :: s3 :: s4 :: s5 :: .dat d :: l) := Iff.rfl
@[simp ↓] theorem ev_rd_6_o {s0 s1 s2 s3 s4 s5 : Sl} : ev (rdV 6) (s0 :: s1 :: s2 :: s3 :: s4 :: s5 :: .own t d :: l) Q X ↔ Q d (s0 :: s1 :: s2 :: s3 :: s4 :: s5 :: .dat d :: l) := Iff.rfl
@[simp ↓] theorem ev_pk_6_d {s0 s1 s2 s3 s4 s5 : Sl} : ev (pkV 6) (s0 :: s1 :: s2 :: s3 :: s4 :: s5 :: .dat d :: l) Q X ↔ Q d (s0 :: s1 :: s2 :: s3 :: s4 :: s5 :: .dat d :: l) := Iff.rfl
@[simp ↓] theorem ev_pk_6_o {s0 s1 s2 s3 s4 s5 : Sl} : ev (pkV 6) (s0 :: s1 :: s2 :: s3 :: s4 :: s5 :: .own t d :: l) Q X ↔ Q d (s0 :: s1 :: s2 :: s3 :: s4 :: s5 :: .own t d :: l) := Iff.rfl
@[simp ↓] theorem at_6 {s0 s1 s2 s3 s4 s5 : Sl} : atO (s0 :: s1 :: s2 :: s3 :: s4 :: s5 :: .own t d :: l) 6 k ↔ k t d := Iff.rfl
@[simp ↓] theorem ev_set_6 {P : α → Gm → Prop} {m : MM α} {x : Sl} {s0 s1 s2 s3 s4 s5 s6 : Sl} : ev m (List.set (s0 :: s1 :: s2 :: s3 :: s4 :: s5 :: s6 :: l) 6 x) P X ↔ ev m (s0 :: s1 :: s2 :: s3 :: s4 :: s5 :: x :: l) P X := Iff.rfl
@[simp ↓] theorem sv_set_6 {b : Gm → Out} {x : Sl} {s0 s1 s2 s3 s4 s5 s6 : Sl} : sv b (List.set (s0 :: s1 :: s2 :: s3 :: s4 :: s5 :: s6 :: l) 6 x) PO ↔ sv b (s0 :: s1 :: s2 :: s3 :: s4 :: s5 :: x :: l) PO := Iff.rfl
@[simp ↓] theorem at_set_6 {x : Sl} {s0 s1 s2 s3 s4 s5 s6 : Sl} {j : Nat} : atO (List.set (s0 :: s1 :: s2 :: s3 :: s4 :: s5 :: s6 :: l) 6 x) j k ↔ atO (s0 :: s1 :: s2 :: s3 :: s4 :: s5 :: x :: l) j k := Iff.rfl
@[simp ↓] theorem for_set_6 {bt : PyData → Gm → Option Gm} {b : Gm → Out} {ds : List PyData} {x : Sl} {s0 s1 s2 s3 s4 s5 s6 : Sl} : svO (forL bt b ds (List.set (s0 :: s1 :: s2 :: s3 :: s4 :: s5 :: s6 :: l) 6 x)) PO ↔ svO (forL bt b ds (s0 :: s1 :: s2 :: s3 :: s4 :: s5 :: x :: l)) PO := Iff.rfl
@[simp ↓] theorem ev_rd_7_d {s0 s1 s2 s3 s4 s5 s6 : Sl} : ev (rdV 7) (s0 :: s1 :: s2 :: s3 :: s4 :: s5 :: s6 :: .dat d :: l) Q X ↔ Q d (s0 :: s1 :: s2 :: s3 :: s4 :: s5 :: s6 :: .dat d :: l) := Iff.rfl
@[simp ↓] theorem ev_rd_7_o {s0 s1 s2 s3 s4 s5 s6 : Sl} : ev (rdV 7) (s0 :: s1 :: s2 :: s3 :: s4 :: s5 :: s6 :: .own t d :: l) Q X ↔ Q d (s0 :: s1 :: s2 :: s3 :: s4 :: s5 :: s6 :: .dat d :: l) := Iff.rfl
@[simp ↓] theorem ev_pk_7_d {s0 s1 s2 s3 s4 s5 s6 : Sl} : ev (pkV 7) (s0 :: s1 :: s2 :: s3 :: s4 :: s5 :: s6 :: .dat d :: l) Q X ↔ Q d (s0 :: s1 :: s2 :: s3 :: s4 :: s5 :: s6 :: .dat d :: l) := Iff.rfl
@[simp ↓] theorem ev_pk_7_o {s0 s1 s2 s3 s4 s5 s6 : Sl} : ev (pkV 7) (s0 :: s1 :: s2 :: s3 :: s4 :: s5 :: s6 :: .own t d :: l) Q X ↔ Q d (s0 :: s1 :: s2 :: s3 :: s4 :: s5 :: s6 :: .own t d :: l) := Iff.rfl
@[simp ↓] theorem at_7 {s0 s1 s2 s3 s4 s5 s6 : Sl} : atO (s0 :: s1 :: s2 :: s3 :: s4 :: s5 :: s6 :: .own t d :: l) 7 k ↔ k t d := Iff.rfl
@[simp ↓] theorem ev_set_7 {P : α → Gm → Prop} {m : MM α} {x : Sl} {s0 s1 s2 s3 s4 s5 s6 s7 : Sl} : ev m (List.set (s0 :: s1 :: s2 :: s3 :: s4 :: s5 :: s6 :: s7 :: l) 7 x) P X ↔ ev m (s0 :: s1 :: s2 :: s3 :: s4 :: s5 :: s6 :: x :: l) P X := Iff.rfl
@[simp ↓] theorem sv_set_7 {b : Gm → Out} {x : Sl} {s0 s1 s2 s3 s4 s5 s6 s7 : Sl} : sv b (List.set (s0 :: s1 :: s2 :: s3 :: s4 :: s5 :: s6 :: s7 :: l) 7 x) PO ↔ sv b (s0 :: s1 :: s2 :: s3 :: s4 :: s5 :: s6 :: x :: l) PO := Iff.rfl
@[simp ↓] theorem at_set_7 {x : Sl} {s0 s1 s2 s3 s4 s5 s6 s7 : Sl} {j : Nat} : atO (List.set (s0 :: s1 :: s2 :: s3 :: s4 :: s5 :: s6 :: s7 :: l) 7 x) j k ↔ atO (s0 :: s1 :: s2 :: s3 :: s4 :: s5 :: s6 :: x :: l) j k := Iff.rfl
@[simp ↓] theorem for_set_7 {bt : PyData → Gm → Option Gm} {b : Gm → Out} {ds : List PyData} {x : Sl} {s0 s1 s2 s3 s4 s5 s6 s7 : Sl} : svO (forL bt b ds (List.set (s0 :: s1 :: s2 :: s3 :: s4 :: s5 :: s6 :: s7 :: l) 7 x)) PO ↔ svO (forL bt b ds (s0 :: s1 :: s2 :: s3 :: s4 :: s5 :: s6 :: x :: l)) PO := Iff.rfl
@[simp ↓] theorem ev_rd_8_d {s0 s1 s2 s3 s4 s5 s6 s7 : Sl} : ev (rdV 8) (s0 :: s1 :: s2 :: s3 :: s4 :: s5 :: s6 :: s7 :: .dat d :: l) Q X ↔ Q d (s0 :: s1 :: s2 :: s3 :: s4 :: s5 :: s6 :: s7 :: .dat d :: l) := Iff.rfl
@[simp ↓] theorem ev_rd_8_o {s0 s1 s2 s3 s4 s5 s6 s7 : Sl} : ev (rdV 8) (s0 :: s1 :: s2 :: s3 :: s4 :: s5 :: s6 :: s7 :: .own t d :: l) Q X ↔ Q d (s0 :: s1 :: s2 :: s3 :: s4 :: s5 :: s6 :: s7 :: .dat d :: l) := Iff.rfl
@[simp ↓] theorem ev_pk_8_d {s0 s1 s2 s3 s4 s5 s6 s7 : Sl} : ev (pkV 8) (s0 :: s1 :: s2 :: s3 :: s4 :: s5 :: s6 :: s7 :: .dat d :: l) Q X ↔ Q d (s0 :: s1 :: s2 :: s3 :: s4 :: s5 :: s6 :: s7 :: .dat d :: l) := Iff.rfl
@[simp ↓] theorem ev_pk_8_o {s0 s1 s2 s3 s4 s5 s6 s7 : Sl} : ev (pkV 8) (s0 :: s1 :: s2 :: s3 :: s4 :: s5 :: s6 :: s7 :: .own t d :: l) Q X ↔ Q d (s0 :: s1 :: s2 :: s3 :: s4 :: s5 :: s6 :: s7 :: .own t d :: l) := Iff.rfl
@[simp ↓] theorem at_8 {s0 s1 s2 s3 s4 s5 s6 s7 : Sl} : atO (s0 :: s1 :: s2 :: s3 :: s4 :: s5 :: s6 :: s7 :: .own t d :: l) 8 k ↔ k t d := Iff.rfl
@[simp ↓] theorem ev_set_8 {P : α → Gm → Prop} {m : MM α} {x : Sl} {s0 s1 s2 s3 s4 s5 s6 s7 s8 : Sl} : ev m (List.set (s0 :: s1 :: s2 :: s3 :: s4 :: s5 :: s6 :: s7 :: s8 :: l) 8 x) P X ↔ ev m (s0 :: s1 :: s2 :: s3 :: s4 :: s5 :: s6 :: s7 :: x :: l) P X := Iff.rfl
@[simp ↓] theorem sv_set_8 {b : Gm → Out} {x : Sl} {s0 s1 s2 s3 s4 s5 s6 s7 s8 : Sl} : sv b (List.set (s0 :: s1 :: s2 :: s3 :: s4 :: s5 :: s6 :: s7 :: s8 :: l) 8 x) PO ↔ sv b (s0 :: s1 :: s2 :: s3 :: s4 :: s5 :: s6 :: s7 :: x :: l) PO := Iff.rfl
@[simp ↓] theorem at_set_8 {x : Sl} {s0 s1 s2 s3 s4 s5 s6 s7 s8 : Sl} {j : Nat} : atO (List.set (s0 :: s1 :: s2 :: s3 :: s4 :: s5 :: s6 :: s7 :: s8 :: l) 8 x) j k ↔ atO (s0 :: s1 :: s2 :: s3 :: s4 :: s5 :: s6 :: s7 :: x :: l) j k := Iff.rfl
@[simp ↓] theorem for_set_8 {bt : PyData → Gm → Option Gm} {b : Gm → Out} {ds : List PyData} {x : Sl} {s0 s1 s2 s3 s4 s5 s6 s7 s8 : Sl} : svO (forL bt b ds (List.set (s0 :: s1 :: s2 :: s3 :: s4 :: s5 :: s6 :: s7 :: s8 :: l) 8 x)) PO ↔ svO (forL bt b ds (s0 :: s1 :: s2 :: s3 :: s4 :: s5 :: s6 :: s7 :: x :: l)) PO := Iff.rfl
@[simp ↓] theorem ev_rd_9_d {s0 s1 s2 s3 s4 s5 s6 s7 s8 : Sl} : ev (rdV 9) (s0 :: s1 :: s2 :: s3 :: s4 :: s5 :: s6 :: s7 :: s8 :: .dat d :: l) Q X ↔ Q d (s0 :: s1 :: s2 :: s3 :: s4 :: s5 :: s6 :: s7 :: s8 :: .dat d :: l) := Iff.rfl
@[simp ↓] theorem ev_rd_9_o {s0 s1 s2 s3 s4 s5 s6 s7 s8 : Sl} : ev (rdV 9) (s0 :: s1 :: s2 :: s3 :: s4 :: s5 :: s6 :: s7 :: s8 :: .own t d :: l) Q X ↔ Q d (s0 :: s1 :: s2 :: s3 :: s4 :: s5 :: s6 :: s7 :: s8 :: .dat d :: l) := Iff.rfl
@[simp ↓] theorem ev_pk_9_d {s0 s1 s2 s3 s4 s5 s6 s7 s8 : Sl} : ev (pkV 9) (s0 :: s1 :: s2 :: s3 :: s4 :: s5 :: s6 :: s7 :: s8 :: .dat d :: l) Q X ↔ Q d (s0 :: s1 :: s2 :: s3 :: s4 :: s5 :: s6 :: s7 :: s8 :: .dat d :: l) := Iff.rfl
@[simp ↓] theorem ev_pk_9_o {s0 s1 s2 s3 s4 s5 s6 s7 s8 : Sl} : ev (pkV 9) (s0 :: s1 :: s2 :: s3 :: s4 :: s5 :: s6 :: s7 :: s8 :: .own t d :: l) Q X ↔ Q d (s0 :: s1 :: s2 :: s3 :: s4 :: s5 :: s6 :: s7 :: s8 :: .own t d :: l) := Iff.rfl
@[simp ↓] theorem at_9 {s0 s1 s2 s3 s4 s5 s6 s7 s8 : Sl} : atO (s0 :: s1 :: s2 :: s3 :: s4 :: s5 :: s6 :: s7 :: s8 :: .own t d :: l) 9 k ↔ k t d := Iff.rfl
@[simp ↓] theorem ev_set_9 {P : α → Gm → Prop} {m : MM α} {x : Sl} {s0 s1 s2 s3 s4 s5 s6 s7 s8 s9 : Sl} : ev m (List.set (s0 :: s1 :: s2 :: s3 :: s4 :: s5 :: s6 :: s7 :: s8 :: s9 :: l) 9 x) P X ↔ ev m (s0 :: s1 :: s2 :: s3 :: s4 :: s5 :: s6 :: s7 :: s8 :: x :: l) P X := Iff.rfl
@[simp ↓] theorem sv_set_9 {b : Gm → Out} {x : Sl} {s0 s1 s2 s3 s4 s5 s6 s7 s8 s9 : Sl} : sv b (List.set (s0 :: s1 :: s2 :: s3 :: s4 :: s5 :: s6 :: s7 :: s8 :: s9 :: l) 9 x) PO ↔ sv b (s0 :: s1 :: s2 :: s3 :: s4 :: s5 :: s6 :: s7 :: s8 :: x :: l) PO := Iff.rfl
@[simp ↓] theorem at_set_9 {x : Sl} {s0 s1 s2 s3 s4 s5 s6 s7 s8 s9 : Sl} {j : Nat} : atO (List.set (s0 :: s1 :: s2 :: s3 :: s4 :: s5 :: s6 :: s7 :: s8 :: s9 :: l) 9 x) j k ↔ atO (s0 :: s1 :: s2 :: s3 :: s4 :: s5 :: s6 :: s7 :: s8 :: x :: l) j k := Iff.rfl
@[simp ↓] theorem for_set_9 {bt : PyData → Gm → Option Gm} {b : Gm → Out} {ds : List PyData} {x : Sl} {s0 s1 s2 s3 s4 s5 s6 s7 s8 s9 : Sl} : svO (forL bt b ds (List.set (s0 :: s1 :: s2 :: s3 :: s4 :: s5 :: s6 :: s7 :: s8 :: s9 :: l) 9 x)) PO ↔ svO (forL bt b ds (s0 :: s1 :: s2 :: s3 :: s4 :: s5 :: s6 :: s7 :: s8 :: x :: l)) PO := Iff.rfl
@[simp ↓] theorem ev_rd_10_d {s0 s1 s2 s3 s4 s5 s6 s7 s8 s9 : Sl} : ev (rdV 10) (s0 :: s1 :: s2 :: s3 :: s4 :: s5 :: s6 :: s7 :: s8 :: s9 :: .dat d :: l) Q X ↔ Q d (s0 :: s1 :: s2 :: s3 :: s4 :: s5 :: s6 :: s7 :: s8 :: s9 :: .dat d :: l) := Iff.rfl
@[simp ↓] theorem ev_rd_10_o {s0 s1 s2 s3 s4 s5 s6 s7 s8 s9 : Sl} : ev (rdV 10) (s0 :: s1 :: s2 :: s3 :: s4 :: s5 :: s6 :: s7 :: s8 :: s9 :: .own t d :: l) Q X ↔ Q d (s0 :: s1 :: s2 :: s3 :: s4 :: s5 :: s6 :: s7 :: s8 :: s9 :: .dat d :: l) := Iff.rfl
@[simp ↓] theorem ev_pk_10_d {s0 s1 s2 s3 s4 s5 s6 s7 s8 s9 : Sl} : ev (pkV 10) (s0 :: s1 :: s2 :: s3 :: s4 :: s5 :: s6 :: s7 :: s8 :: s9 :: .dat d :: l) Q X ↔ Q d (s0 :: s1 :: s2 :: s3 :: s4 :: s5 :: s6 :: s7 :: s8 :: s9 :: .dat d :: l) := Iff.rfl
@[simp ↓] theorem ev_pk_10_o {s0 s1 s2 s3 s4 s5 s6 s7 s8 s9 : Sl} : ev (pkV 10) (s0 :: s1 :: s2 :: s3 :: s4 :: s5 :: s6 :: s7 :: s8 :: s9 :: .own t d :: l) Q X ↔ Q d (s0 :: s1 :: s2 :: s3 :: s4 :: s5 :: s6 :: s7 :: s8 :: s9 :: .own t d :: l) := Iff.rfl
@[simp ↓] theorem at_10 {s0 s1 s2 s3 s4 s5 s6 s7 s8 s9 : Sl} : atO (s0 :: s1 :: s2 :: s3 :: s4 :: s5 :: s6 :: s7 :: s8 :: s9 :: .own t d :: l) 10 k ↔ k t d := Iff.rfl
@[simp ↓] theorem ev_set_10 {P : α → Gm → Prop} {m : MM α} {x : Sl} {s0 s1 s2 s3 s4 s5 s6 s7 s8 s9 s10 : Sl} : ev m (List.set (s0 :: s1 :: s2 :: s3 :: s4 :: s5 :: s6 :: s7 :: s8 :: s9 :: s10 :: l) 10 x) P X ↔ ev m (s0 :: s1 :: s2 :: s3 :: s4 :: s5 :: s6 :: s7 :: s8 :: s9 :: x :: l) P X := Iff.rfl
@[simp ↓] theorem sv_set_10 {b : Gm → Out} {x : Sl} {s0 s1 s2 s3 s4 s5 s6 s7 s8 s9 s10 : Sl} : sv b (List.set (s0 :: s1 :: s2 :: s3 :: s4 :: s5 :: s6 :: s7 :: s8 :: s9 :: s10 :: l) 10 x) PO ↔ sv b (s0 :: s1 :: s2 :: s3 :: s4 :: s5 :: s6 :: s7 :: s8 :: s9 :: x :: l) PO := Iff.rfl
@[simp ↓] theorem at_set_10 {x : Sl} {s0 s1 s2 s3 s4 s5 s6 s7 s8 s9 s10 : Sl} {j : Nat} : atO (List.set (s0 :: s1 :: s2 :: s3 :: s4 :: s5 :: s6 :: s7 :: s8 :: s9 :: s10 :: l) 10 x) j k ↔ atO (s0 :: s1 :: s2 :: s3 :: s4 :: s5 :: s6 :: s7 :: s8 :: s9 :: x :: l) j k := Iff.rfl
@[simp ↓] theorem for_set_10 {bt : PyData → Gm → Option Gm} {b : Gm → Out} {ds : List PyData} {x : Sl} {s0 s1 s2 s3 s4 s5 s6 s7 s8 s9 s10 : Sl} : svO (forL bt b ds (List.set (s0 :: s1 :: s2 :: s3 :: s4 :: s5 :: s6 :: s7 :: s8 :: s9 :: s10 :: l) 10 x)) PO ↔ svO (forL bt b ds (s0 :: s1 :: s2 :: s3 :: s4 :: s5 :: s6 :: s7 :: s8 :: s9 :: x :: l)) PO := Iff.rfl
@[simp ↓] theorem ev_rd_11_d {s0 s1 s2 s3 s4 s5 s6 s7 s8 s9 s10 : Sl} : ev (rdV 11) (s0 :: s1 :: s2 :: s3 :: s4 :: s5 :: s6 :: s7 :: s8 :: s9 :: s10 :: .dat d :: l) Q X ↔ Q d (s0 :: s1 :: s2 :: s3 :: s4 :: s5 :: s6 :: s7 :: s8 :: s9 :: s10 :: .dat d :: l) := Iff.rfl
@[simp ↓] theorem ev_rd_11_o {s0 s1 s2 s3 s4 s5 s6 s7 s8 s9 s10 : Sl} : ev (rdV 11) (s0 :: s1 :: s2 :: s3 :: s4 :: s5 :: s6 :: s7 :: s8 :: s9 :: s10 :: .own t d :: l) Q X ↔ Q d (s0 :: s1 :: s2 :: s3 :: s4 :: s5 :: s6 :: s7 :: s8 :: s9 :: s10 :: .dat d :: l) := Iff.rfl
@[simp ↓] theorem ev_pk_11_d {s0 s1 s2 s3 s4 s5 s6 s7 s8 s9 s10 : Sl} : ev (pkV 11) (s0 :: s1 :: s2 :: s3 :: s4 :: s5 :: s6 :: s7 :: s8 :: s9 :: s10 :: .dat d :: l) Q X ↔ Q d (s0 :: s1 :: s2 :: s3 :: s4 :: s5 :: s6 :: s7 :: s8 :: s9 :: s10 :: .dat d :: l) := Iff.rfl
@[simp ↓] theorem ev_pk_11_o {s0 s1 s2 s3 s4 s5 s6 s7 s8 s9 s10 : Sl} : ev (pkV 11) (s0 :: s1 :: s2 :: s3 :: s4 :: s5 :: s6 :: s7 :: s8 :: s9 :: s10 :: .own t d :: l) Q X ↔ Q d (s0 :: s1 :: s2 :: s3 :: s4 :: s5 :: s6 :: s7 :: s8 :: s9 :: s10 :: .own t d :: l) := Iff.rfl
@[simp ↓] theorem at_11 {s0 s1 s2 s3 s4 s5 s6 s7 s8 s9 s10 : Sl} : atO (s0 :: s1 :: s2 :: s3 :: s4 :: s5 :: s6 :: s7 :: s8 :: s9 :: s10 :: .own t d :: l) 11 k ↔ k t d := Iff.rfl
@[simp ↓] theorem ev_set_11 {P : α → Gm → Prop} {m : MM α} {x : Sl} {s0 s1 s2 s3 s4 s5 s6 s7 s8 s9 s10 s11 : Sl} : ev m (List.set (s0 :: s1 :: s2 :: s3 :: s4 :: s5 :: s6 :: s7 :: s8 :: s9 :: s10 :: s11 :: l) 11 x) P X ↔ ev m (s0 :: s1 :: s2 :: s3 :: s4 :: s5 :: s6 :: s7 :: s8 :: s9 :: s10 :: x :: l) P X := Iff.rfl
@[simp ↓] theorem sv_set_11 {b : Gm → Out} {x : Sl} {s0 s1 s2 s3 s4 s5 s6 s7 s8 s9 s10 s11 : Sl} : sv b (List.set (s0 :: s1 :: s2 :: s3 :: s4 :: s5 :: s6 :: s7 :: s8 :: s9 :: s10 :: s11 :: l) 11 x) PO ↔ sv b (s0 :: s1 :: s2 :: s3 :: s4 :: s5 :: s6 :: s7 :: s8 :: s9 :: s10 :: x :: l) PO := Iff.rfl
@[simp ↓] theorem at_set_11 {x : Sl} {s0 s1 s2 s3 s4 s5 s6 s7 s8 s9 s10 s11 : Sl} {j : Nat} : atO (List.set (s0 :: s1 :: s2 :: s3 :: s4 :: s5 :: s6 :: s7 :: s8 :: s9 :: s10 :: s11 :: l) 11 x) j k ↔ atO (s0 :: s1 :: s2 :: s3 :: s4 :: s5 :: s6 :: s7 :: s8 :: s9 :: s10 :: x :: l) j k := Iff.rfl
@[simp ↓] theorem for_set_11 {bt : PyData → Gm → Option Gm} {b : Gm → Out} {ds : List PyData} {x : Sl} {s0 s1 s2 s3 s4 s5 s6 s7 s8 s9 s10 s11 : Sl} : svO (forL bt b ds (List.set (s0 :: s1 :: s2 :: s3 :: s4 :: s5 :: s6 :: s7 :: s8 :: s9 :: s10 :: s11 :: l) 11 x)) PO ↔ svO (forL bt b ds (s0 :: s1 :: s2 :: s3 :: s4 :: s5 :: s6 :: s7 :: s8 :: s9 :: s10 :: x :: l)) PO := Iff.rfl
@[simp ↓] theorem ev_rd_12_d {s0 s1 s2 s3 s4 s5 s6 s7 s8 s9 s10 s11 : Sl} : ev (rdV 12) (s0 :: s1 :: s2 :: s3 :: s4 :: s5 :: s6 :: s7 :: s8 :: s9 :: s10 :: s11 :: .dat d :: l) Q X ↔ Q d (s0 :: s1 :: s2 :: s3 :: s4 :: s5 :: s6 :: s7 :: s8 :: s9 :: s10 :: s11 :: .dat d :: l) := Iff.rfl
@[simp ↓] theorem ev_rd_12_o {s0 s1 s2 s3 s4 s5 s6 s7 s8 s9 s10 s11 : Sl} : ev (rdV 12) (s0 :: s1 :: s2 :: s3 :: s4 :: s5 :: s6 :: s7 :: s8 :: s9 :: s10 :: s11 :: .own t d :: l) Q X ↔ Q d (s0 :: s1 :: s2 :: s3 :: s4 :: s5 :: s6 :: s7 :: s8 :: s9 :: s10 :: s11 :: .dat d :: l) := Iff.rfl
@[simp ↓] theorem ev_pk_12_d {s0 s1 s2 s3 s4 s5 s6 s7 s8 s9 s10 s11 : Sl} : ev (pkV 12) (s0 :: s1 :: s2 :: s3 :: s4 :: s5 :: s6 :: s7 :: s8 :: s9 :: s10 :: s11 :: .dat d :: l) Q X ↔ Q d (s0 :: s1 :: s2 :: s3 :: s4 :: s5 :: s6 :: s7 :: s8 :: s9 :: s10 :: s11 :: .dat d :: l) := Iff.rfl
@[simp ↓] theorem ev_pk_12_o {s0 s1 s2 s3 s4 s5 s6 s7 s8 s9 s10 s11 : Sl} : ev (pkV 12) (s0 :: s1 :: s2 :: s3 :: s4 :: s5 :: s6 :: s7 :: s8 :: s9 :: s10 :: s11 :: .own t d :: l) Q X ↔ Q d (s0 :: s1 :: s2 :: s3 :: s4 :: s5 :: s6 :: s7 :: s8 :: s9 :: s10 :: s11 :: .own t d :: l) := Iff.rfl
@[simp ↓] theorem at_12 {s0 s1 s2 s3 s4 s5 s6 s7 s8 s9 s10 s11 : Sl} : atO (s0 :: s1 :: s2 :: s3 :: s4 :: s5 :: s6 :: s7 :: s8 :: s9 :: s10 :: s11 :: .own t d :: l) 12 k ↔ k t d := Iff.rfl
@[simp ↓] theorem ev_set_12 {P : α → Gm → Prop} {m : MM α} {x : Sl} {s0 s1 s2 s3 s4 s5 s6 s7 s8 s9 s10 s11 s12 : Sl} : ev m (List.set (s0 :: s1 :: s2 :: s3 :: s4 :: s5 :: s6 :: s7 :: s8 :: s9 :: s10 :: s11 :: s12 :: l) 12 x) P X ↔ ev m (s0 :: s1 :: s2 :: s3 :: s4 :: s5 :: s6 :: s7 :: s8 :: s9 :: s10 :: s11 :: x :: l) P X := Iff.rfl
@[simp ↓] theorem sv_set_12 {b : Gm → Out} {x : Sl} {s0 s1 s2 s3 s4 s5 s6 s7 s8 s9 s10 s11 s12 : Sl} : sv b (List.set (s0 :: s1 :: s2 :: s3 :: s4 :: s5 :: s6 :: s7 :: s8 :: s9 :: s10 :: s11 :: s12 :: l) 12 x) PO ↔ sv b (s0 :: s1 :: s2 :: s3 :: s4 :: s5 :: s6 :: s7 :: s8 :: s9 :: s10 :: s11 :: x :: l) PO := Iff.rfl
@[simp ↓] theorem at_set_12 {x : Sl} {s0 s1 s2 s3 s4 s5 s6 s7 s8 s9 s10 s11 s12 : Sl} {j : Nat} : atO (List.set (s0 :: s1 :: s2 :: s3 :: s4 :: s5 :: s6 :: s7 :: s8 :: s9 :: s10 :: s11 :: s12 :: l) 12 x) j k ↔ atO (s0 :: s1 :: s2 :: s3 :: s4 :: s5 :: s6 :: s7 :: s8 :: s9 :: s10 :: s11 :: x :: l) j k := Iff.rfl
@[simp ↓] theorem for_set_12 {bt : PyData → Gm → Option Gm} {b : Gm → Out} {ds : List PyData} {x : Sl} {s0 s1 s2 s3 s4 s5 s6 s7 s8 s9 s10 s11 s12 : Sl} : svO (forL bt b ds (List.set (s0 :: s1 :: s2 :: s3 :: s4 :: s5 :: s6 :: s7 :: s8 :: s9 :: s10 :: s11 :: s12 :: l) 12 x)) PO ↔ svO (forL bt b ds (s0 :: s1 :: s2 :: s3 :: s4 :: s5 :: s6 :: s7 :: s8 :: s9 :: s10 :: s11 :: x :: l)) PO := Iff.rfl
@[simp ↓] theorem ev_rd_13_d {s0 s1 s2 s3 s4 s5 s6 s7 s8 s9 s10 s11 s12 : Sl} : ev (rdV 13) (s0 :: s1 :: s2 :: s3 :: s4 :: s5 :: s6 :: s7 :: s8 :: s9 :: s10 :: s11 :: s12 :: .dat d :: l) Q X ↔ Q d (s0 :: s1 :: s2 :: s3 :: s4 :: s5 :: s6 :: s7 :: s8 :: s9 :: s10 :: s11 :: s12 :: .dat d :: l) := Iff.rfl
@[simp ↓] theorem ev_rd_13_o {s0 s1 s2 s3 s4 s5 s6 s7 s8 s9 s10 s11 s12 : Sl} : ev (rdV 13) (s0 :: s1 :: s2 :: s3 :: s4 :: s5 :: s6 :: s7 :: s8 :: s9 :: s10 :: s11 :: s12 :: .own t d :: l) Q X ↔ Q d (s0 :: s1 :: s2 :: s3 :: s4 :: s5 :: s6 :: s7 :: s8 :: s9 :: s10 :: s11 :: s12 :: .dat d :: l) := Iff.rfl
@[simp ↓] theorem ev_pk_13_d {s0 s1 s2 s3 s4 s5 s6 s7 s8 s9 s10 s11 s12 : Sl} : ev (pkV 13) (s0 :: s1 :: s2 :: s3 :: s4 :: s5 :: s6 :: s7 :: s8 :: s9 :: s10 :: s11 :: s12 :: .dat d :: l) Q X ↔ Q d (s0 :: s1 :: s2 :: s3 :: s4 :: s5 :: s6 :: s7 :: s8 :: s9 :: s10 :: s11 :: s12 :: .dat d :: l) := Iff.rfl
@[simp ↓] theorem ev_pk_13_o {s0 s1 s2 s3 s4 s5 s6 s7 s8 s9 s10 s11 s12 : Sl} : ev (pkV 13) (s0 :: s1 :: s2 :: s3 :: s4 :: s5 :: s6 :: s7 :: s8 :: s9 :: s10 :: s11 :: s12 :: .own t d :: l) Q X ↔ Q d (s0 :: s1 :: s2 :: s3 :: s4 :: s5 :: s6 :: s7 :: s8 :: s9 :: s10 :: s11 :: s12 :: .own t d :: l) := Iff.rfl
@[simp ↓] theorem at_13 {s0 s1 s2 s3 s4 s5 s6 s7 s8 s9 s10 s11 s12 : Sl} : atO (s0 :: s1 :: s2 :: s3 :: s4 :: s5 :: s6 :: s7 :: s8 :: s9 :: s10 :: s11 :: s12 :: .own t d :: l) 13 k ↔ k t d := Iff.rfl
@[simp ↓] theorem ev_set_13 {P : α → Gm → Prop} {m : MM α} {x : Sl} {s0 s1 s2 s3 s4 s5 s6 s7 s8 s9 s10 s11 s12 s13 : Sl} : ev m (List.set (s0 :: s1 :: s2 :: s3 :: s4 :: s5 :: s6 :: s7 :: s8 :: s9 :: s10 :: s11 :: s12 :: s13 :: l) 13 x) P X ↔ ev m (s0 :: s1 :: s2 :: s3 :: s4 :: s5 :: s6 :: s7 :: s8 :: s9 :: s10 :: s11 :: s12 :: x :: l) P X := Iff.rfl
@[simp ↓] theorem sv_set_13 {b : Gm → Out} {x : Sl} {s0 s1 s2 s3 s4 s5 s6 s7 s8 s9 s10 s11 s12 s13 : Sl} : sv b (List.set (s0 :: s1 :: s2 :: s3 :: s4 :: s5 :: s6 :: s7 :: s8 :: s9 :: s10 :: s11 :: s12 :: s13 :: l) 13 x) PO ↔ sv b (s0 :: s1 :: s2 :: s3 :: s4 :: s5 :: s6 :: s7 :: s8 :: s9 :: s10 :: s11 :: s12 :: x :: l) PO := Iff.rfl
@[simp ↓] theorem at_set_13 {x : Sl} {s0 s1 s2 s3 s4 s5 s6 s7 s8 s9 s10 s11 s12 s13 : Sl} {j : Nat} : atO (List.set (s0 :: s1 :: s2 :: s3 :: s4 :: s5 :: s6 :: s7 :: s8 :: s9 :: s10 :: s11 :: s12 :: s13 :: l) 13 x) j k ↔ atO (s0 :: s1 :: s2 :: s3 :: s4 :: s5 :: s6 :: s7 :: s8 :: s9 :: s10 :: s11 :: s12 :: x :: l) j k := Iff.rfl
@[simp ↓] theorem for_set_13 {bt : PyData → Gm → Option Gm} {b : Gm → Out} {ds : List PyData} {x : Sl} {s0 s1 s2 s3 s4 s5 s6 s7 s8 s9 s10 s11 s12 s13 : Sl} : svO (forL bt b ds (List.set (s0 :: s1 :: s2 :: s3 :: s4 :: s5 :: s6 :: s7 :: s8 :: s9 :: s10 :: s11 :: s12 :: s13 :: l) 13 x)) PO ↔ svO (forL bt b ds (s0 :: s1 :: s2 :: s3 :: s4 :: s5 :: s6 :: s7 :: s8 :: s9 :: s10 :: s11 :: s12 :: x :: l)) PO := Iff.rfl
end
section
variable {P : PyData → Prop} {i j : Int} {a b : Str} {xs ys : List PyData} {d e : PyData} {p q : Bool} {lo hi : Option Int}
theorem okO_sz {n : Nat} {d : PyData} : okO (sz n d) P ↔ n ≤ sizeLine ∧ P d := by
  unfold sz
  by_cases h : n ≤ sizeLine <;> simp [h]
theorem okO_if {α : Type} {c : Prop} [Decidable c] {z : α} {P : α → Prop} : okO (if c then some z else none) P ↔ c ∧ P z := by
  by_cases h : c <;> simp [h]
@[simp ↓] theorem add_int : okO (addD (.int i) (.int j)) P ↔ P (.int (i + j)) := Iff.rfl
@[simp ↓] theorem add_str : okO (addD (.str a) (.str b)) P ↔ a.length + b.length ≤ sizeLine ∧ P (.str (a ++ b)) := okO_sz
@[simp ↓] theorem add_tup : okO (addD (.tuple xs) (.tuple ys)) P ↔ xs.length + ys.length ≤ sizeLine ∧ P (.tuple (xs ++ ys)) := okO_sz
@[simp ↓] theorem add_lst : okO (addD (.list xs) (.list ys)) P ↔ xs.length + ys.length ≤ sizeLine ∧ P (.list (xs ++ ys)) := okO_sz
@[simp ↓] theorem iadd_int : okO (iaddD (.int i) (.int j)) P ↔ P (.int (i + j)) := Iff.rfl
@[simp ↓] theorem sub_int : okO (subD (.int i) (.int j)) P ↔ P (.int (i - j)) := Iff.rfl
@[simp ↓] theorem mul_int : okO (mulD (.int i) (.int j)) P ↔ mulC i j = true ∧ P (.int (i * j)) := okO_if
@[simp ↓] theorem fdiv_int : okO (fdivD (.int i) (.int j)) P ↔ (j ≠ 0 ∧ j.natAbs < 1073741824) ∧ P (.int (i.fdiv j)) := by
  show okO (if decide (j ≠ 0 ∧ j.natAbs < 1073741824) = true then some (PyData.int (i.fdiv j)) else none) P ↔ _
  rw [okO_if, decide_eq_true_eq]
@[simp ↓] theorem mod_int : okO (modD (.int i) (.int j)) P ↔ j ≠ 0 ∧ P (.int (i.fmod j)) := by
  show okO (if decide (j ≠ 0) = true then some (PyData.int (i.fmod j)) else none) P ↔ _
  rw [okO_if, decide_eq_true_eq]
@[simp ↓] theorem pow_int : okO (powD (.int i) (.int j)) P ↔ (0 ≤ j ∧ j ≤ 1000000 ∧ i.natAbs < 2 ^ 64) ∧ P (.int (i ^ j.toNat)) := by
  show okO (if decide (0 ≤ j ∧ j ≤ 1000000 ∧ i.natAbs < 2 ^ 64) = true then some (PyData.int (i ^ j.toNat)) else none) P ↔ _
  rw [okO_if, decide_eq_true_eq]
@[simp ↓] theorem lt_int : okO (ltD (.int i) (.int j)) P ↔ P (.bool (decide (i < j))) := Iff.rfl
@[simp ↓] theorem le_int : okO (leD (.int i) (.int j)) P ↔ P (.bool (decide (i ≤ j))) := Iff.rfl
@[simp ↓] theorem gt_int : okO (gtD (.int i) (.int j)) P ↔ P (.bool (decide (j < i))) := Iff.rfl
@[simp ↓] theorem ge_int : okO (geD (.int i) (.int j)) P ↔ P (.bool (decide (j ≤ i))) := Iff.rfl
@[simp ↓] theorem eq_int : okO (eqD (.int i) (.int j)) P ↔ P (.bool (i == j)) := Iff.rfl
@[simp ↓] theorem ne_int : okO (neD (.int i) (.int j)) P ↔ P (.bool (!(i == j))) := Iff.rfl
theorem eq_any : okO (eqD d e) P ↔ lowD d e = true ∧ P (.bool (PyData.eqv d e)) := okO_if
theorem ne_any : okO (neD d e) P ↔ (lowD d e && (notDc d && notDc e)) = true ∧ P (.bool (!PyData.eqv d e)) := okO_if
@[simp ↓] theorem in_lst {g : Bool → Bool} : okO (inD g d (.list xs)) P ↔ lowI d (.list xs) = true ∧ P (.bool (g (xs.any fun z => PyData.eqv z d))) := okO_if
@[simp ↓] theorem in_tup {g : Bool → Bool} : okO (inD g d (.tuple xs)) P ↔ lowI d (.tuple xs) = true ∧ P (.bool (g (xs.any fun z => PyData.eqv z d))) := okO_if
@[simp ↓] theorem is_none {g : Bool → Bool} : okO (isD g d .none) P ↔ P (.bool (g (match d with | .none => true | _ => false))) := by cases d <;> exact Iff.rfl
@[simp ↓] theorem is_bool {g : Bool → Bool} : okO (isD g (.bool p) (.bool q)) P ↔ P (.bool (g (decide (p = q)))) := Iff.rfl
@[simp ↓] theorem neg_int : okO (negD (.int i)) P ↔ P (.int (-i)) := Iff.rfl
@[simp ↓] theorem ix_lst : okO (ixD (.list xs) (.int i)) P ↔ okO (L2.atI xs i) P := Iff.rfl
@[simp ↓] theorem ix_tupl : okO (ixD (.tuple xs) (.int i)) P ↔ okO (L2.atI xs i) P := Iff.rfl
@[simp ↓] theorem slc_lst : okO (slcD (.list xs) lo hi) P ↔ P (.list (cutD xs lo hi)) := Iff.rfl
@[simp ↓] theorem slc_tup : okO (slcD (.tuple xs) lo hi) P ↔ P (.tuple (cutD xs lo hi)) := Iff.rfl
@[simp ↓] theorem slc_str : okO (slcD (.str a) lo hi) P ↔ a.length ≤ sizeLine ∧ P (.str (cutS a lo hi)) := okO_if
@[simp ↓] theorem len_lst : okO (lenD (.list xs)) P ↔ P (.int xs.length) := Iff.rfl
@[simp ↓] theorem len_tup : okO (lenD (.tuple xs)) P ↔ P (.int xs.length) := Iff.rfl
@[simp ↓] theorem len_str : okO (lenD (.str a)) P ↔ a.length ≤ sizeLine ∧ P (.int a.length) := okO_if
@[simp ↓] theorem list_lst : okO (listD (.list xs)) P ↔ P (.list xs) := Iff.rfl
@[simp ↓] theorem list_dct {kvs : List (PyData × PyData)} : okO (listD (.dict kvs)) P ↔ P (.list (kvs.map (·.1))) := Iff.rfl
@[simp ↓] theorem list_tup : okO (listD (.tuple xs)) P ↔ P (.list xs) := Iff.rfl
@[simp ↓] theorem tup_lst : okO (tup2D (.list xs)) P ↔ P (.tuple xs) := Iff.rfl
@[simp ↓] theorem tup_tup : okO (tup2D (.tuple xs)) P ↔ P (.tuple xs) := Iff.rfl
@[simp ↓] theorem tup_str : okO (tup2D (.str a)) P ↔ a.length ≤ sizeLine ∧ P (.tuple ((signs a).map .str)) := okO_if
@[simp ↓] theorem int_int : okO (intOf (.int i)) P ↔ P (.int i) := Iff.rfl
@[simp ↓] theorem int_bool : okO (intOf (.bool p)) P ↔ P (.int (if p then 1 else 0)) := Iff.rfl
@[simp ↓] theorem rev_lst : okO (revD (.list xs)) P ↔ P (.list xs.reverse) := Iff.rfl
@[simp ↓] theorem rev_tup : okO (revD (.tuple xs)) P ↔ P (.tuple xs.reverse) := Iff.rfl
@[simp ↓] theorem rev_str : okO (revD (.str a)) P ↔ a.length ≤ sizeLine ∧ P (.str (revS a)) := okO_if
@[simp ↓] theorem str_int : okO (strD (.int i)) P ↔ i.natAbs.log2 < 1920 ∧ P (.str (Str.ofString (toString i))) := okO_if
@[simp ↓] theorem str_none : okO (strD .none) P ↔ P (.str "None") := Iff.rfl
@[simp ↓] theorem tru_none {P : Bool → Prop} : okO (truD .none) P ↔ P false := Iff.rfl
@[simp ↓] theorem tru_bool {P : Bool → Prop} : okO (truD (.bool p)) P ↔ P p := Iff.rfl
@[simp ↓] theorem tru_int {P : Bool → Prop} : okO (truD (.int i)) P ↔ P (i != 0) := Iff.rfl
@[simp ↓] theorem tru_lst {P : Bool → Prop} : okO (truD (.list xs)) P ↔ P (!xs.isEmpty) := Iff.rfl
@[simp ↓] theorem tru_tup {P : Bool → Prop} : okO (truD (.tuple xs)) P ↔ P (!xs.isEmpty) := Iff.rfl
@[simp ↓] theorem tru_str {P : Bool → Prop} : okO (truD (.str a)) P ↔ a.length ≤ sizeLine ∧ P ((a.length : Int) != 0) := okO_if
@[simp ↓] theorem items_lst {P : List PyData → Prop} : okO (itemsD (.list xs)) P ↔ P xs := Iff.rfl
@[simp ↓] theorem items_tup {P : List PyData → Prop} : okO (itemsD (.tuple xs)) P ↔ P xs := Iff.rfl
@[simp ↓] theorem okO_name {P : Gm → Prop} {n : Nat} {g : Gm} : okO (bName n d g) P ↔ P (g.set n (.dat d)) := Iff.rfl
@[simp ↓] theorem sum_lst : okO (sumD (.list xs)) P ↔ okO (intsOf xs) fun ns => P (.int ns.sum) := by
  show okO ((intsOf xs).map fun ns => PyData.int ns.sum) P ↔ _
  cases intsOf xs <;> simp
@[simp ↓] theorem isa_tuple_NoneType : isaD "tuple" .none = false := by decide
@[simp ↓] theorem isa_tuple_bool : isaD "tuple" (.bool p) = false := by simp [isaD, typeD]
@[simp ↓] theorem isa_tuple_int : isaD "tuple" (.int i) = false := by simp [isaD, typeD]
@[simp ↓] theorem isa_tuple_str : isaD "tuple" (.str a) = false := by simp [isaD, typeD]
@[simp ↓] theorem isa_tuple_list : isaD "tuple" (.list xs) = false := by simp [isaD, typeD]
@[simp ↓] theorem isa_tuple_tuple : isaD "tuple" (.tuple xs) = true := by simp [isaD, typeD]
@[simp ↓] theorem isa_tuple_dict {kv : List (PyData × PyData)} : isaD "tuple" (.dict kv) = false := by simp [isaD, typeD]
@[simp ↓] theorem isa_int_NoneType : isaD "int" .none = false := by decide
@[simp ↓] theorem isa_int_bool : isaD "int" (.bool p) = true := by simp [isaD, typeD]
@[simp ↓] theorem isa_int_int : isaD "int" (.int i) = true := by simp [isaD, typeD]
@[simp ↓] theorem isa_int_str : isaD "int" (.str a) = false := by simp [isaD, typeD]
@[simp ↓] theorem isa_int_list : isaD "int" (.list xs) = false := by simp [isaD, typeD]
@[simp ↓] theorem isa_int_tuple : isaD "int" (.tuple xs) = false := by simp [isaD, typeD]
@[simp ↓] theorem isa_int_dict {kv : List (PyData × PyData)} : isaD "int" (.dict kv) = false := by simp [isaD, typeD]
@[simp ↓] theorem isa_str_NoneType : isaD "str" .none = false := by decide
@[simp ↓] theorem isa_str_bool : isaD "str" (.bool p) = false := by simp [isaD, typeD]
@[simp ↓] theorem isa_str_int : isaD "str" (.int i) = false := by simp [isaD, typeD]
@[simp ↓] theorem isa_str_str : isaD "str" (.str a) = true := by simp [isaD, typeD]
@[simp ↓] theorem isa_str_list : isaD "str" (.list xs) = false := by simp [isaD, typeD]
@[simp ↓] theorem isa_str_tuple : isaD "str" (.tuple xs) = false := by simp [isaD, typeD]
@[simp ↓] theorem isa_str_dict {kv : List (PyData × PyData)} : isaD "str" (.dict kv) = false := by simp [isaD, typeD]
@[simp ↓] theorem isa_bool_NoneType : isaD "bool" .none = false := by decide
@[simp ↓] theorem isa_bool_bool : isaD "bool" (.bool p) = true := by simp [isaD, typeD]
@[simp ↓] theorem isa_bool_int : isaD "bool" (.int i) = false := by simp [isaD, typeD]
@[simp ↓] theorem isa_bool_str : isaD "bool" (.str a) = false := by simp [isaD, typeD]
@[simp ↓] theorem isa_bool_list : isaD "bool" (.list xs) = false := by simp [isaD, typeD]
@[simp ↓] theorem isa_bool_tuple : isaD "bool" (.tuple xs) = false := by simp [isaD, typeD]
@[simp ↓] theorem isa_bool_dict {kv : List (PyData × PyData)} : isaD "bool" (.dict kv) = false := by simp [isaD, typeD]
@[simp ↓] theorem isa_list_NoneType : isaD "list" .none = false := by decide
@[simp ↓] theorem isa_list_bool : isaD "list" (.bool p) = false := by simp [isaD, typeD]
@[simp ↓] theorem isa_list_int : isaD "list" (.int i) = false := by simp [isaD, typeD]
@[simp ↓] theorem isa_list_str : isaD "list" (.str a) = false := by simp [isaD, typeD]
@[simp ↓] theorem isa_list_list : isaD "list" (.list xs) = true := by simp [isaD, typeD]
@[simp ↓] theorem isa_list_tuple : isaD "list" (.tuple xs) = false := by simp [isaD, typeD]
@[simp ↓] theorem isa_list_dict {kv : List (PyData × PyData)} : isaD "list" (.dict kv) = false := by simp [isaD, typeD]
@[simp ↓] theorem at_ix_0 {α : Type} {x0 : α} {l : List α} {P : α → Prop} : okO (L2.atI (x0 :: l) 0) P ↔ P x0 := by
  have e : L2.atI (x0 :: l) 0 = some x0 := by
    unfold L2.atI L2.ixN
    rw [if_pos (by decide), if_pos (by simp only [List.length_cons]; omega)]
    rfl
  rw [e, okO_some]
@[simp ↓] theorem at_ix_1 {α : Type} {x0 x1 : α} {l : List α} {P : α → Prop} : okO (L2.atI (x0 :: x1 :: l) 1) P ↔ P x1 := by
  have e : L2.atI (x0 :: x1 :: l) 1 = some x1 := by
    unfold L2.atI L2.ixN
    rw [if_pos (by decide), if_pos (by simp only [List.length_cons]; omega)]
    rfl
  rw [e, okO_some]
@[simp ↓] theorem at_ix_2 {α : Type} {x0 x1 x2 : α} {l : List α} {P : α → Prop} : okO (L2.atI (x0 :: x1 :: x2 :: l) 2) P ↔ P x2 := by
  have e : L2.atI (x0 :: x1 :: x2 :: l) 2 = some x2 := by
    unfold L2.atI L2.ixN
    rw [if_pos (by decide), if_pos (by simp only [List.length_cons]; omega)]
    rfl
  rw [e, okO_some]
@[simp ↓] theorem at_ix_3 {α : Type} {x0 x1 x2 x3 : α} {l : List α} {P : α → Prop} : okO (L2.atI (x0 :: x1 :: x2 :: x3 :: l) 3) P ↔ P x3 := by
  have e : L2.atI (x0 :: x1 :: x2 :: x3 :: l) 3 = some x3 := by
    unfold L2.atI L2.ixN
    rw [if_pos (by decide), if_pos (by simp only [List.length_cons]; omega)]
    rfl
  rw [e, okO_some]
@[simp ↓] theorem at_ix_4 {α : Type} {x0 x1 x2 x3 x4 : α} {l : List α} {P : α → Prop} : okO (L2.atI (x0 :: x1 :: x2 :: x3 :: x4 :: l) 4) P ↔ P x4 := by
  have e : L2.atI (x0 :: x1 :: x2 :: x3 :: x4 :: l) 4 = some x4 := by
    unfold L2.atI L2.ixN
    rw [if_pos (by decide), if_pos (by simp only [List.length_cons]; omega)]
    rfl
  rw [e, okO_some]
@[simp ↓] theorem at_ix_5 {α : Type} {x0 x1 x2 x3 x4 x5 : α} {l : List α} {P : α → Prop} : okO (L2.atI (x0 :: x1 :: x2 :: x3 :: x4 :: x5 :: l) 5) P ↔ P x5 := by
  have e : L2.atI (x0 :: x1 :: x2 :: x3 :: x4 :: x5 :: l) 5 = some x5 := by
    unfold L2.atI L2.ixN
    rw [if_pos (by decide), if_pos (by simp only [List.length_cons]; omega)]
    rfl
  rw [e, okO_some]
@[simp ↓] theorem at_ix_6 {α : Type} {x0 x1 x2 x3 x4 x5 x6 : α} {l : List α} {P : α → Prop} : okO (L2.atI (x0 :: x1 :: x2 :: x3 :: x4 :: x5 :: x6 :: l) 6) P ↔ P x6 := by
  have e : L2.atI (x0 :: x1 :: x2 :: x3 :: x4 :: x5 :: x6 :: l) 6 = some x6 := by
    unfold L2.atI L2.ixN
    rw [if_pos (by decide), if_pos (by simp only [List.length_cons]; omega)]
    rfl
  rw [e, okO_some]
@[simp ↓] theorem at_ix_7 {α : Type} {x0 x1 x2 x3 x4 x5 x6 x7 : α} {l : List α} {P : α → Prop} : okO (L2.atI (x0 :: x1 :: x2 :: x3 :: x4 :: x5 :: x6 :: x7 :: l) 7) P ↔ P x7 := by
  have e : L2.atI (x0 :: x1 :: x2 :: x3 :: x4 :: x5 :: x6 :: x7 :: l) 7 = some x7 := by
    unfold L2.atI L2.ixN
    rw [if_pos (by decide), if_pos (by simp only [List.length_cons]; omega)]
    rfl
  rw [e, okO_some]
@[simp ↓] theorem at_ix_8 {α : Type} {x0 x1 x2 x3 x4 x5 x6 x7 x8 : α} {l : List α} {P : α → Prop} : okO (L2.atI (x0 :: x1 :: x2 :: x3 :: x4 :: x5 :: x6 :: x7 :: x8 :: l) 8) P ↔ P x8 := by
  have e : L2.atI (x0 :: x1 :: x2 :: x3 :: x4 :: x5 :: x6 :: x7 :: x8 :: l) 8 = some x8 := by
    unfold L2.atI L2.ixN
    rw [if_pos (by decide), if_pos (by simp only [List.length_cons]; omega)]
    rfl
  rw [e, okO_some]
@[simp ↓] theorem at_ix_9 {α : Type} {x0 x1 x2 x3 x4 x5 x6 x7 x8 x9 : α} {l : List α} {P : α → Prop} : okO (L2.atI (x0 :: x1 :: x2 :: x3 :: x4 :: x5 :: x6 :: x7 :: x8 :: x9 :: l) 9) P ↔ P x9 := by
  have e : L2.atI (x0 :: x1 :: x2 :: x3 :: x4 :: x5 :: x6 :: x7 :: x8 :: x9 :: l) 9 = some x9 := by
    unfold L2.atI L2.ixN
    rw [if_pos (by decide), if_pos (by simp only [List.length_cons]; omega)]
    rfl
  rw [e, okO_some]
@[simp ↓] theorem at_ix_10 {α : Type} {x0 x1 x2 x3 x4 x5 x6 x7 x8 x9 x10 : α} {l : List α} {P : α → Prop} : okO (L2.atI (x0 :: x1 :: x2 :: x3 :: x4 :: x5 :: x6 :: x7 :: x8 :: x9 :: x10 :: l) 10) P ↔ P x10 := by
  have e : L2.atI (x0 :: x1 :: x2 :: x3 :: x4 :: x5 :: x6 :: x7 :: x8 :: x9 :: x10 :: l) 10 = some x10 := by
    unfold L2.atI L2.ixN
    rw [if_pos (by decide), if_pos (by simp only [List.length_cons]; omega)]
    rfl
  rw [e, okO_some]
@[simp ↓] theorem at_ix_11 {α : Type} {x0 x1 x2 x3 x4 x5 x6 x7 x8 x9 x10 x11 : α} {l : List α} {P : α → Prop} : okO (L2.atI (x0 :: x1 :: x2 :: x3 :: x4 :: x5 :: x6 :: x7 :: x8 :: x9 :: x10 :: x11 :: l) 11) P ↔ P x11 := by
  have e : L2.atI (x0 :: x1 :: x2 :: x3 :: x4 :: x5 :: x6 :: x7 :: x8 :: x9 :: x10 :: x11 :: l) 11 = some x11 := by
    unfold L2.atI L2.ixN
    rw [if_pos (by decide), if_pos (by simp only [List.length_cons]; omega)]
    rfl
  rw [e, okO_some]
end
end Mi
namespace Mi
open PySem L2
/-! ### consequences, comprehensions, loops, places, sizes -/
def okC (r : Except Er (List PyData × Gm)) (P : List PyData → Gm → Prop) : Prop := match r with
  | .ok (zs, g) => P zs g
  | .error _ => False
section
variable {g : Gm} {X : String → Gm → Prop} {Q : List PyData → Gm → Prop} {vs : List Nat} {b : PyData → Gm → Option Gm} {tt : MM Bool} {te : MM PyData} {mi : MM (List PyData)} {a : Gm → Out} {PO : Out → Prop}
abbrev noX : String → Gm → Prop := fun _ _ => False
theorem okS_imp {r : Except Er (PyData × PyData)} {P P' : PyData → PyData → Prop} {X : String → Prop} (h : okS r P fun _ => False) (i : ∀ d s, P d s → P' d s) : okS r P' X := by
  rcases r with (_ | ⟨c, _⟩) | ⟨d, s⟩
  · exact h.elim
  · exact h.elim
  · exact i _ _ h
theorem okP_imp {r : Except Er PyData} {P P' : PyData → Prop} {X : String → Prop} (h : okP r P fun _ => False) (i : ∀ d, P d → P' d) : okP r P' X := by
  rcases r with (_ | ⟨c, _⟩) | d
  · exact h.elim
  · exact h.elim
  · exact i _ h
theorem okO_imp {α : Type} {o : Option α} {P P' : α → Prop} (h : okO o P) (i : ∀ d, P d → P' d) : okO o P' := by
  cases o with
  | none => exact h.elim
  | some d => exact i _ h
@[simp ↓] theorem ev_compM : ev (compM mi vs b tt te) g Q X ↔ ev mi g (fun ds g1 => ds.length ≤ sizeLine ∧ okC (compL vs b tt te ds (wipeG g1 vs)) Q) X := by
  refine Iff.trans (ev_bnd (m := mi) (P := Q) (X := X)) ?_
  refine iff_of_eq (congrArg (fun h => ev mi g h X) ?_)
  funext ds g1
  refine propext ?_
  unfold ev okE okC
  by_cases h : ds.length ≤ sizeLine
  · simp only [if_pos h, h, true_and]
    generalize compL vs b tt te ds (wipeG g1 vs) = r
    rcases r with _ | ⟨zs, g2⟩ <;> rfl
  · simp [h]
@[simp ↓] theorem okC_nil : okC (compL vs b tt te [] g) Q ↔ Q [] g := Iff.rfl
theorem okC_cons {d : PyData} {ds : List PyData} : okC (compL vs b tt te (d :: ds) g) Q ↔ okO (b d g) fun g1 => ev tt g1 (fun c g2 => if c = true then ev te g2 (fun z g3 => okC (compL vs b tt te ds (wipeG g3 vs)) fun zs g4 => Q (z :: zs) g4) noX else okC (compL vs b tt te ds (wipeG g2 vs)) Q) noX := by
  have e : compL vs b tt te (d :: ds) g = (match b d g with
    | none => .error .stuck
    | some g1 => match tt g1 with
      | .ok (true, g2) => (match te g2 with
        | .ok (z, g3) => (match compL vs b tt te ds (wipeG g3 vs) with
          | .ok (zs, g4) => .ok (z :: zs, g4)
          | .error _ => .error .stuck)
        | .error _ => .error .stuck)
      | .ok (false, g2) => compL vs b tt te ds (wipeG g2 vs)
      | .error _ => .error .stuck) := rfl
  rw [e]
  cases b d g with
  | none => exact Iff.rfl
  | some g1 =>
    simp only [okO_some]
    unfold ev okE
    generalize tt g1 = r
    rcases r with (_ | ⟨c, g2⟩) | ⟨_ | _, g2⟩
    · exact Iff.rfl
    · exact Iff.rfl
    · simp only [Bool.false_eq_true, if_false]
    · simp only [if_true]
      generalize te g2 = r
      rcases r with (_ | ⟨c, g3⟩) | ⟨z, g3⟩
      · exact Iff.rfl
      · exact Iff.rfl
      · simp only
        unfold okC
        generalize compL vs b tt te ds (wipeG g3 vs) = r
        rcases r with _ | ⟨zs, g4⟩ <;> exact Iff.rfl
/-- an invariant of a comprehension -/
theorem okC_inv (I : Gm → Prop) (Pz : PyData → Prop) {ds : List PyData} (hI : I g)
    (hs : ∀ d ∈ ds, ∀ g, I g → okO (b d g) fun g1 => ev tt g1 (fun c g2 => if c = true then ev te g2 (fun z g3 => Pz z ∧ I (wipeG g3 vs)) noX else I (wipeG g2 vs)) noX)
    (hQ : ∀ zs g, I g → zs.length ≤ ds.length → (∀ z ∈ zs, Pz z) → Q zs g) : okC (compL vs b tt te ds g) Q := by
  induction ds generalizing g Q with
  | nil => exact hQ [] g hI (Nat.le_refl _) (by simp)
  | cons d ds ih =>
    rw [okC_cons]
    refine okO_imp (hs d (by simp) g hI) fun g1 h1 => ?_
    refine ev_mono h1 fun c g2 h2 => ?_
    cases c with
    | false =>
      simp only [Bool.false_eq_true, if_false] at h2 ⊢
      exact ih h2 (fun d hd => hs d (by simp [hd])) fun zs g i l p => hQ zs g i (by simp; omega) p
    | true =>
      simp only [if_true] at h2 ⊢
      refine ev_mono h2 fun z g3 h3 => ?_
      exact ih h3.2 (fun d hd => hs d (by simp [hd])) fun zs g i l p => hQ (z :: zs) g i (by simp; omega) (by simpa using ⟨h3.1, p⟩)
/-- a comprehension that changes nothing but its own name -/
theorem okC_fm (f : PyData → Option PyData) {ds : List PyData}
    (hs : ∀ d ∈ ds, okO (b d g) fun g1 => ev tt g1 (fun c g2 => if c = true then ev te g2 (fun z g3 => f d = some z ∧ wipeG g3 vs = g) noX else f d = none ∧ wipeG g2 vs = g) noX)
    (hQ : Q (ds.filterMap f) g) : okC (compL vs b tt te ds g) Q := by
  induction ds generalizing Q with
  | nil => exact hQ
  | cons d ds ih =>
    rw [okC_cons]
    refine okO_imp (hs d (by simp)) fun g1 h1 => ?_
    refine ev_mono h1 fun c g2 h2 => ?_
    cases c with
    | false =>
      simp only [Bool.false_eq_true, if_false] at h2 ⊢
      rw [h2.2]
      refine ih (fun d hd => hs d (by simp [hd])) ?_
      rw [List.filterMap_cons, h2.1] at hQ
      exact hQ
    | true =>
      simp only [if_true] at h2 ⊢
      refine ev_mono h2 fun z g3 h3 => ?_
      rw [h3.2]
      refine ih (fun d hd => hs d (by simp [hd])) ?_
      rw [List.filterMap_cons, h3.1] at hQ
      exact hQ
theorem okC_map (f : PyData → PyData) {ds : List PyData}
    (hs : ∀ d ∈ ds, okO (b d g) fun g1 => ev te g1 (fun z g3 => z = f d ∧ wipeG g3 vs = g) noX)
    (hQ : Q (ds.map f) g) : okC (compL vs b yesM te ds g) Q := by
  refine okC_fm (fun d => some (f d)) (fun d hd => okO_imp (hs d hd) fun g1 h => ?_) (by rw [show ds.filterMap (fun d => some (f d)) = ds.map f from by induction ds <;> simp_all]; exact hQ)
  show ev (Mi.ret true) g1 _ _
  rw [ev_ret, if_pos rfl]
  refine ev_mono h fun z g3 h => ⟨by rw [h.1], h.2⟩
theorem svO_inv (I : List PyData → Gm → Prop) {ds : List PyData} (hI : I ds g)
    (hs : ∀ d ds g, I (d :: ds) g → okO (b d g) fun g1 => sv a g1 fun o => match o with
      | .nx g2 => I ds g2
      | .ct g2 => I ds g2
      | .bk g2 => PO (.nx g2)
      | o => PO o)
    (hQ : ∀ g, I [] g → PO (.nx g)) : svO (forL b a ds g) PO := by
  induction ds generalizing g with
  | nil => exact hQ g hI
  | cons d ds ih =>
    rw [svO_for_cons]
    refine okO_imp (hs d ds g hI) fun g1 h => ?_
    unfold sv svO at h ⊢
    generalize a g1 = o at h
    cases o with
    | nx g2 => exact ih h
    | ct g2 => exact ih h
    | bk g2 => exact h
    | rt d g2 => exact h
    | ex c g2 => exact h
    | stuck => exact h
end
theorem sv_mono {a : Gm → Out} {g : Gm} {P P' : Out → Prop} (h : sv a g P) (i : ∀ o, P o → P' o) : sv a g P' := by
  unfold sv svO at h ⊢
  generalize a g = o at h
  cases o with
  | stuck => exact h
  | _ => exact i _ h
theorem okO_at {α : Type} {xs : List α} {i : Int} {P : α → Prop} (h0 : 0 ≤ i) (h1 : i < xs.length) (h : ∀ x ∈ xs, P x) : okO (L2.atI xs i) P := by
  have e : L2.atI xs i = xs[i.toNat]? := by
    unfold L2.atI L2.ixN
    rw [if_pos h0, if_pos h1]
    rfl
  rw [e, List.getElem?_eq_getElem (by omega)]
  exact h _ (List.getElem_mem _)
theorem atI_nat {α : Type} {xs : List α} {n : Nat} (h : n < xs.length) : L2.atI xs (n : Int) = some xs[n] := by
  unfold L2.atI L2.ixN
  rw [if_pos (by omega), if_pos (by omega)]
  show xs[(n : Int).toNat]? = _
  rw [Int.toNat_natCast, List.getElem?_eq_getElem h]
theorem cut_mem {α : Type} {xs : List α} {lo hi : Option Int} {x : α} (h : x ∈ cutD xs lo hi) : x ∈ xs := List.mem_of_mem_drop (List.mem_of_mem_take h)
theorem cut_le {α : Type} {xs : List α} {lo hi : Option Int} : (cutD xs lo hi).length ≤ xs.length := by
  unfold cutD
  rw [List.length_take, List.length_drop]
  omega
@[simp] theorem revS_len {z : Str} : (revS z).length = z.length := by
  show ((z.cps.toList.reverse).toArray).size = z.cps.size
  simp
@[simp] theorem appS_len {a b : Str} : (a ++ b).length = a.length + b.length := by
  show (a.cps ++ b.cps).size = _
  rw [Array.size_append]; rfl
@[simp] theorem signs_len {z : Str} : (signs z).length = z.length := by
  show (z.cps.toList.map _).length = z.cps.size
  simp
@[simp ↓] theorem eq_str {P : PyData → Prop} {a b : Str} : okO (eqD (.str a) (.str b)) P ↔ P (.bool (a == b)) := by
  unfold eqD
  rw [if_pos (by rfl), eqv_str]
  exact Iff.rfl
@[simp ↓] theorem ne_str {P : PyData → Prop} {a b : Str} : okO (neD (.str a) (.str b)) P ↔ P (.bool (!(a == b))) := by
  unfold neD
  rw [if_pos (by rfl), eqv_str]
  exact Iff.rfl
theorem low_r {d e : PyData} (h : DcEq.ndB e = true) (h2 : e.depth ≤ 64) : lowD d e = true := by
  simp only [lowD, h, Bool.or_true, Bool.true_and, decide_eq_true_eq]
  omega
theorem low_i {d e : PyData} (h : DcEq.ndB e = true) (h2 : e.depth ≤ 64) : lowI d e = true := by
  simp only [lowI, h, Bool.true_and, decide_eq_true_eq]
  omega
/-- against an empty list, an empty tuple -/
theorem eq_nilL {P : PyData → Prop} {xs : List PyData} : okO (eqD (.list xs) (.list [])) P ↔ P (.bool xs.isEmpty) := by
  rw [eq_any]
  have e : PyData.eqv (.list xs) (.list []) = xs.isEmpty := by cases xs <;> simp [PyData.eqv, PyData.eqvAll]
  rw [e]
  simp only [low_r (d := .list xs) (e := .list []) rfl (by decide), true_and]
theorem eq_nilT {P : PyData → Prop} {xs : List PyData} : okO (eqD (.tuple xs) (.tuple [])) P ↔ P (.bool xs.isEmpty) := by
  rw [eq_any]
  have e : PyData.eqv (.tuple xs) (.tuple []) = xs.isEmpty := by cases xs <;> simp [PyData.eqv, PyData.eqvAll]
  rw [e]
  simp only [low_r (d := .tuple xs) (e := .tuple []) rfl (by decide), true_and]
theorem ne_nilL {P : PyData → Prop} {xs : List PyData} : okO (neD (.list xs) (.list [])) P ↔ P (.bool (!xs.isEmpty)) := by
  rw [ne_any]
  have e : PyData.eqv (.list xs) (.list []) = xs.isEmpty := by cases xs <;> simp [PyData.eqv, PyData.eqvAll]
  rw [e]
  simp only [low_r (d := .list xs) (e := .list []) rfl (by decide), notDc, Bool.and_self, true_and]
theorem ne_nilT {P : PyData → Prop} {xs : List PyData} : okO (neD (.tuple xs) (.tuple [])) P ↔ P (.bool (!xs.isEmpty)) := by
  rw [ne_any]
  have e : PyData.eqv (.tuple xs) (.tuple []) = xs.isEmpty := by cases xs <;> simp [PyData.eqv, PyData.eqvAll]
  rw [e]
  simp only [low_r (d := .tuple xs) (e := .tuple []) rfl (by decide), notDc, Bool.and_self, true_and]
/-! ### bounded papers -/
/-- a value of whole numbers, texts, None, bools and tuples, of bounded size and depth -/
def Wd : Nat → PyData → Prop
  | 0, _ => False
  | n + 1, d => match d with
    | .none => True
    | .bool _ => True
    | .int i => i.natAbs.log2 < 1900
    | .str a => a.length ≤ 1000 ∧ PyData.strOk a = true
    | .tuple xs => xs.length ≤ 1000 ∧ ∀ x ∈ xs, Wd n x
    | _ => False
theorem Wd.lay : ∀ {n : Nat} {d : PyData}, Wd n d → d.canLay0 = true ∧ d.depth ≤ n
  | n + 1, d, h => by
    have hl : ∀ xs : List PyData, (∀ x ∈ xs, Wd n x) → PyData.canLayAll0 xs = true ∧ PyData.depthAll xs ≤ n := by
      intro xs
      induction xs with
      | nil => intro _; simp [PyData.canLayAll0, PyData.depthAll]
      | cons x xs ih =>
        intro h
        have h1 := Wd.lay (h x (by simp))
        have h2 := ih fun y hy => h y (by simp [hy])
        simp only [PyData.canLayAll0, PyData.depthAll]
        rw [h1.1, h2.1]
        exact ⟨rfl, by omega⟩
    cases d with
    | tuple xs =>
      have := hl xs h.2
      simp only [PyData.canLay0, PyData.depth]
      exact ⟨this.1, by omega⟩
    | list xs => exact h.elim
    | dict xs => exact h.elim
    | str a => exact ⟨h.2, by simp [PyData.depth]⟩
    | _ => simp [PyData.canLay0, PyData.depth]
end Mi
namespace Mi
open PySem PySem.Spec PyProof.Rows L2
/-! ### comprehensions of two fors -/
def compL2 (vs vs1 : List Nat) (b : PyData → Gm → Option Gm) (tt : MM Bool) (mi1 : MM (List PyData)) (b1 : PyData → Gm → Option Gm) (tt1 : MM Bool) (te : MM PyData) : List PyData → Gm → Except Er (List PyData × Gm)
  | [], g => .ok ([], g)
  | d :: ds, g => match b d g with
    | none => .error .stuck
    | some g1 => match tt g1 with
      | .ok (true, g2) => (match mi1 g2 with
        | .ok (es, g3) => (match compL vs1 b1 tt1 te es (wipeG g3 vs1) with
          | .ok (zs, g4) => (match compL2 vs vs1 b tt mi1 b1 tt1 te ds (wipeG g4 vs) with
            | .ok (zs', g5) => .ok (zs ++ zs', g5)
            | .error _ => .error .stuck)
          | .error _ => .error .stuck)
        | .error _ => .error .stuck)
      | .ok (false, g2) => compL2 vs vs1 b tt mi1 b1 tt1 te ds (wipeG g2 vs)
      | .error _ => .error .stuck
def compM2 (mi : MM (List PyData)) (vs vs1 : List Nat) (b : PyData → Gm → Option Gm) (tt : MM Bool) (mi1 : MM (List PyData)) (b1 : PyData → Gm → Option Gm) (tt1 : MM Bool) (te : MM PyData) : MM (List PyData) := bnd mi fun ds g =>
  match compL2 vs vs1 b tt mi1 b1 tt1 te ds (wipeG g vs) with
    | .ok (zs, g') => if zs.length ≤ sizeLine then .ok (zs, g') else .error .stuck
    | .error _ => .error .stuck
theorem lc2_of {K : Frag} {mg : Mg} {W : WX} {mi mi1 : MM (List PyData)} {vs vs1 js js1 : List Nat} {b b1 : PyData → Gm → Option Gm} {tt tt1 : MM Bool} {te : MM PyData} (hj : ∀ j ∈ js, j ∈ vs) (hj1 : ∀ j ∈ js1, j ∈ vs1) (hv : ∀ j ∈ vs1, j ∈ vs) {σ : L2.St} {H : Hp} {Q : VK} (h : cL K mg W (compM2 mi vs vs1 b tt mi1 b1 tt1 te) σ H Q) :
    tLc2 (cI K mg W mi) (cG K js b) (cT K mg W0 tt) (cI K mg W0 mi1) (cG K js1 b1) (cT K mg W0 tt1) (cE K mg W0 te) vs vs1 σ H Q := by
  obtain ⟨F, g, G, A, q⟩ := h
  refine ⟨F, g, G, A, Po.imp q.bnd fun ds g1 G1 H1 A1 s1 k1 J hJ => ?_⟩
  intro D hD
  generalize ec : compL2 vs vs1 b tt mi1 b1 tt1 te ds (wipeG g1 vs) = rc at k1
  rcases rc with _ | ⟨zs, gf⟩
  · exact k1.elim
  by_cases hl : zs.length ≤ sizeLine
  case neg =>
    have k2 : Po K mg W F σ G1 (if zs.length ≤ sizeLine then (.ok (zs, gf) : Except Er (List PyData × Gm)) else .error .stuck) (fun zs g' G' H' => ∀ D xs, Nob F σ g' G' H' D → H' D = some (.lst xs) → RpAll K G' xs zs → Q (.ref D) H') := k1
    rw [if_neg hl] at k2
    exact k2.elim
  have k2 : Po K mg W F σ G1 (if zs.length ≤ sizeLine then (.ok (zs, gf) : Except Er (List PyData × Gm)) else .error .stuck) (fun zs g' G' H' => ∀ D xs, Nob F σ g' G' H' D → H' D = some (.lst xs) → RpAll K G' xs zs → Q (.ref D) H') := k1
  rw [if_pos hl] at k2
  have k3 : ∀ G' H', At K F σ gf G' H' → Same G1 G' → ∀ D xs, Nob F σ gf G' H' D → H' D = some (.lst xs) → RpAll K G' xs zs → Q (.ref D) H' := k2
  have start : ∃ gi Gi acc zacc zr, At K F (wipe σ vs) gi Gi (upd H1 D (.lst [])) ∧ Same G1 Gi ∧ Nob F (wipe σ vs) gi Gi (upd H1 D (.lst [])) D ∧ (upd H1 D (.lst [])) D = some (.lst acc) ∧ RpAll K Gi acc zacc ∧ compL2 vs vs1 b tt mi1 b1 tt1 te (ds.drop 0) gi = .ok (zr, gf) ∧ zs = zacc ++ zr := by
    obtain ⟨B, n⟩ := A1.newNob (o := .lst []) hD
    exact ⟨wipeG g1 vs, G1, [], [], zs, B.wipe vs, Same.refl _, n.wipe vs, upd_same, .nil, ec, rfl⟩
  refine ⟨fun i m H => m = ds.length - i ∧ i ≤ ds.length ∧ ∃ gi Gi acc zacc zr, At K F (wipe σ vs) gi Gi H ∧ Same G1 Gi ∧ Nob F (wipe σ vs) gi Gi H D ∧ H D = some (.lst acc) ∧ RpAll K Gi acc zacc ∧ compL2 vs vs1 b tt mi1 b1 tt1 te (ds.drop i) gi = .ok (zr, gf) ∧ zs = zacc ++ zr,
    ⟨ds.length, by simp, Nat.zero_le _, start⟩, ?_⟩
  rintro i m H ⟨rfl, hi, gi, Gi, acc, zacc, zr, Ai, si, ni, hDi, ri, eci, ez⟩
  by_cases hlt : i < ds.length
  case neg =>
    have e : i = ds.length := by omega
    subst e
    rw [List.drop_length] at eci
    cases eci
    refine .inl ⟨hJ.stop Gi H si Ai.ex, ?_⟩
    rw [List.append_nil] at ez
    subst ez
    exact k3 Gi H Ai.unwipe si D acc (Nob.unwipe Ai ni) hDi ri
  have ed : ds[i]? = some ds[i] := List.getElem?_eq_getElem hlt
  let Nxt : Hp → Prop := fun H => ∃ gi Gi acc zacc zr, At K F (wipe σ vs) gi Gi H ∧ Same G1 Gi ∧ Nob F (wipe σ vs) gi Gi H D ∧ H D = some (.lst acc) ∧ RpAll K Gi acc zacc ∧ compL2 vs vs1 b tt mi1 b1 tt1 te (ds.drop (i + 1)) gi = .ok (zr, gf) ∧ zs = zacc ++ zr
  refine .inr ⟨hJ.go i _ Gi H ed si Ai.ex, Nxt, fun H' n' => ⟨ds.length - (i + 1), by omega, rfl, hlt, n'⟩, fun x H' y => ?_⟩
  obtain ⟨G2, gr, rv⟩ := hJ.yld i _ Gi H x H' ed si Ai.ex y
  have A2 := Ai.grow gr
  have n2 := ni.grow gr
  have hD2 : H' D = some (.lst acc) := gr.h _ _ hDi
  rw [List.drop_eq_getElem_cons hlt] at eci
  unfold compL2 at eci
  generalize eb : b ds[i] gi = ob at eci
  cases ob with
  | none => cases eci
  | some gb =>
    simp only at eci
    refine ⟨snap F (wipe σ vs) gi G2 H', gi, G2, ds[i], A2.snap, rv, ?_⟩
    rw [eb]
    refine fun σ2 B2 l2 j2 => ⟨wipe_ext l2 j2 hj, snap F (wipe σ vs) gi G2 H', gb, G2, B2, ?_⟩
    have ew := wipe_ext l2 j2 hj
    generalize tt gb = rt at eci
    rcases rt with _ | ⟨t, g2⟩
    · cases eci
    cases t with
    | false =>
      simp only at eci
      intro G3 H3 B3 s3
      show if false = true then _ else _
      rw [if_neg Bool.false_ne_true]
      have A3 := A2.via B3
      obtain ⟨n3, h3⟩ := Nob.via A2 n2 B3
      have A4 := A3.wipe vs
      have n4 := n3.wipe vs
      rw [ew] at A4 n4
      exact ⟨wipeG g2 vs, G3, acc, zacc, zr, A4, (si.trans gr.g).trans s3, n4, h3 _ hD2, (ri.up gr.g).up s3, eci, ez⟩
    | true =>
      simp only at eci
      intro G3 H3 B3 s3
      show if true = true then _ else _
      rw [if_pos rfl]
      refine ⟨snap F (wipe σ vs) gi G2 H', g2, G3, B3, ?_⟩
      generalize mi1 g2 = rm at eci
      rcases rm with _ | ⟨es, g3⟩
      · cases eci
      simp only at eci
      generalize e1 : compL vs1 b1 tt1 te es (wipeG g3 vs1) = r1 at eci
      rcases r1 with _ | ⟨zs1, g4⟩
      · cases eci
      simp only at eci
      generalize e2 : compL2 vs vs1 b tt mi1 b1 tt1 te (ds.drop (i + 1)) (wipeG g4 vs) = r2 at eci
      rcases r2 with _ | ⟨zs2, g5⟩
      · cases eci
      simp only at eci
      cases eci
      intro G4 H4 B4 s4 J1 hJ1
      have A4 := A2.via B4
      obtain ⟨n4, h4⟩ := Nob.via A2 n2 B4
      have hD4 : H4 D = some (.lst acc) := h4 _ hD2
      have S4 : Same G1 G4 := ((si.trans gr.g).trans s3).trans s4
      have r4 : RpAll K G4 acc zacc := ((ri.up gr.g).up s3).up s4
      refine ⟨fun j k H => k = es.length - j ∧ j ≤ es.length ∧ ∃ gj Gj accj zaccj zrj, At K F (wipe σ2 vs1) gj Gj H ∧ Same G4 Gj ∧ Nob F (wipe σ2 vs1) gj Gj H D ∧ H D = some (.lst accj) ∧ RpAll K Gj accj zaccj ∧ compL vs1 b1 tt1 te (es.drop j) gj = .ok (zrj, g4) ∧ zs = zaccj ++ (zrj ++ zs2),
        ⟨es.length, by simp, Nat.zero_le _, wipeG g3 vs1, G4, acc, zacc, zs1, A4.wipe vs1, Same.refl _, n4.wipe vs1, hD4, r4, e1, ez⟩, ?_⟩
      rintro j k H ⟨rfl, hj', gj, Gj, accj, zaccj, zrj, Aj, sj, nj, hDj, rj, ecj, ezj⟩
      by_cases hlt1 : j < es.length
      case neg =>
        have e : j = es.length := by omega
        subst e
        rw [List.drop_length] at ecj
        cases ecj
        refine .inl ⟨hJ1.stop Gj H sj Aj.ex, ?_⟩
        have A5 := Aj.wipe vs
        have n5 := nj.wipe vs
        have ww : wipe (wipe σ2 vs1) vs = wipe σ vs := by
          rw [← ew]
          exact wipe_ext (js := vs) (by simp [wipe_length]) (fun j h => by rw [wipe_out h, wipe_out (fun z => h (hv j z))]) (fun j h => h)
        rw [ww] at A5 n5
        exact ⟨wipeG g4 vs, Gj, accj, zaccj, zs2, A5, S4.trans sj, n5, hDj, rj, e2, by rw [ezj]; simp⟩
      have ed1 : es[j]? = some es[j] := List.getElem?_eq_getElem hlt1
      refine .inr ⟨hJ1.go j _ Gj H ed1 sj Aj.ex, fun H => ∃ gj Gj accj zaccj zrj, At K F (wipe σ2 vs1) gj Gj H ∧ Same G4 Gj ∧ Nob F (wipe σ2 vs1) gj Gj H D ∧ H D = some (.lst accj) ∧ RpAll K Gj accj zaccj ∧ compL vs1 b1 tt1 te (es.drop (j + 1)) gj = .ok (zrj, g4) ∧ zs = zaccj ++ (zrj ++ zs2),
        fun H' n' => ⟨es.length - (j + 1), by omega, rfl, hlt1, n'⟩, fun x H' y => ?_⟩
      obtain ⟨G6, gr6, rv6⟩ := hJ1.yld j _ Gj H x H' ed1 sj Aj.ex y
      have A6 := Aj.grow gr6
      have n6 := nj.grow gr6
      have hD6 : H' D = some (.lst accj) := gr6.h _ _ hDj
      rw [List.drop_eq_getElem_cons hlt1] at ecj
      unfold compL at ecj
      generalize eb1 : b1 es[j] gj = ob1 at ecj
      cases ob1 with
      | none => cases ecj
      | some gb1 =>
        simp only at ecj
        refine ⟨snap F (wipe σ2 vs1) gj G6 H', gj, G6, es[j], A6.snap, rv6, ?_⟩
        rw [eb1]
        refine fun σ3 B7 l7 j7 => ⟨wipe_ext l7 j7 hj1, snap F (wipe σ2 vs1) gj G6 H', gb1, G6, B7, ?_⟩
        have ew1 := wipe_ext l7 j7 hj1
        generalize tt1 gb1 = rt1 at ecj
        rcases rt1 with _ | ⟨t1, g7⟩
        · cases ecj
        cases t1 with
        | false =>
          simp only at ecj
          intro G8 H8 B8 s8
          show if false = true then _ else _
          rw [if_neg Bool.false_ne_true]
          have A8 := A6.via B8
          obtain ⟨n8, h8⟩ := Nob.via A6 n6 B8
          have A9 := A8.wipe vs1
          have n9 := n8.wipe vs1
          rw [ew1] at A9 n9
          exact ⟨wipeG g7 vs1, G8, accj, zaccj, zrj, A9, (sj.trans gr6.g).trans s8, n9, h8 _ hD6, (rj.up gr6.g).up s8, ecj, ezj⟩
        | true =>
          simp only at ecj
          intro G8 H8 B8 s8
          show if true = true then _ else _
          rw [if_pos rfl]
          refine ⟨snap F (wipe σ2 vs1) gj G6 H', g7, G8, B8, ?_⟩
          generalize te g7 = re at ecj
          rcases re with _ | ⟨z, g8⟩
          · cases ecj
          simp only at ecj
          generalize er : compL vs1 b1 tt1 te (es.drop (j + 1)) (wipeG g8 vs1) = rr at ecj
          rcases rr with _ | ⟨zr', gf'⟩
          · cases ecj
          simp only at ecj
          cases ecj
          intro G9 H9 B9 s9 v rz
          have A9 := A6.via B9
          obtain ⟨n9, h9⟩ := Nob.via A6 n6 B9
          have A10 := (A9.other (o := .lst (accj ++ [v])) n9).wipe vs1
          have n10 := (n9.upd (o := .lst (accj ++ [v]))).wipe vs1
          rw [ew1] at A10 n10
          have hlen : accj.length < sizeLine := by
            have e1 := rj.len
            have e2 : zs.length = zaccj.length + (zr'.length + 1 + zs2.length) := by rw [ezj]; simp; omega
            omega
          refine ⟨accj, h9 _ hD6, hlen, wipeG g8 vs1, G9, accj ++ [v], zaccj ++ [z], zr', A10, ((sj.trans gr6.g).trans s8).trans s9, n10, upd_same, (((rj.up gr6.g).up s8).up s9).app (.cons rz .nil), er, by rw [ezj]; simp⟩
section
variable {X : Cx} {W : WX} {elt tg iter tg1 iter1 : Expr} {ifs ifs1 : List Expr} {scope : Scope} {own : List (Str × Nat)} {pos spos py : Pos} {mi mi1 : MM (List PyData)} {js js1 vs1 : List Nat} {b b1 : PyData → Gm → Option Gm} {tt tt1 : MM Bool} {te : MM PyData}
theorem me_lc2 (N : List Str) (sc : Scope) (own : List (Str × Nat)) (vs1 : List Nat) (hc : X.calm = true) (hN : X.N.Nodup) (hi : MI X W tg iter mi) (ok : blkC N sc scope own = true)
    (hg : ∀ (s : Shared) (H : Hp) (C : Addr) (cl : List (Str × Addr)) (fp : List Addr), MG (X.blk s H scope (compEnvC scope cl C X.env) fp) tg js b) (ht : ∀ (s : Shared) (H : Hp) (C : Addr) (cl : List (Str × Addr)) (fp : List Addr), MTs (X.blk s H scope (compEnvC scope cl C X.env) fp) W0 ifs tt)
    (hi1 : ∀ (s : Shared) (H : Hp) (C : Addr) (cl : List (Str × Addr)) (fp : List Addr), MI (X.blk s H scope (compEnvC scope cl C X.env) fp) W0 tg1 iter1 mi1)
    (hg1 : ∀ (s : Shared) (H : Hp) (C : Addr) (cl : List (Str × Addr)) (fp : List Addr), MG (X.blk s H scope (compEnvC scope cl C X.env) fp) tg1 js1 b1) (ht1 : ∀ (s : Shared) (H : Hp) (C : Addr) (cl : List (Str × Addr)) (fp : List Addr), MTs (X.blk s H scope (compEnvC scope cl C X.env) fp) W0 ifs1 tt1)
    (he : ∀ (s : Shared) (H : Hp) (C : Addr) (cl : List (Str × Addr)) (fp : List Addr), ME (X.blk s H scope (compEnvC scope cl C X.env) fp) W0 elt te) (hj : ∀ j ∈ js, j ∈ own.map (·.2) := by decide) (hj1 : ∀ j ∈ js1, j ∈ vs1 := by decide) (hv : ∀ j ∈ vs1, j ∈ own.map (·.2) := by decide)
    (hs : ∀ x, foldedSetIterable iter X.env x = pure x := by intro _; rfl) (hs1 : ∀ env x, foldedSetIterable iter1 env x = pure x := by intro _ _; rfl) (eN : X.N = N := by rfl) (eS : X.env.scope = sc := by rfl) :
    ME X W (.ListComp elt [⟨tg, iter, ifs, 0⟩, ⟨tg1, iter1, ifs1, 0⟩] scope pos) (lstO (compM2 mi (own.map (·.2)) vs1 b tt mi1 b1 tt1 te)) := PE.wk (pe_lc2 (g := cG X.kx js b) (tt := cT X.kx X.mg W0 tt) (wi1 := cI X.kx X.mg W0 mi1) (g1 := cG X.kx js1 b1) (tt1 := cT X.kx X.mg W0 tt1) (te := cE X.kx X.mg W0 te) hc hN hi (by rw [eN, eS]; exact blkOk_by ok) hv hg ht hi1 hg1 ht1 he hs hs1) fun σ H Q ⟨F, g, G, A, q⟩ => by
  refine lc2_of hj hj1 hv ⟨F, g, G, A, Po.imp q.bnd fun zs g1 G1 H1 A1 s1 k1 D xs n hD r => ?_⟩
  have sg : Same G1 (upd G1 D (.lst xs)) := same_new n.ng
  exact k1 _ H1 (A1.adopt n hD) sg _ (.lst upd_same (r.up sg))
theorem ms_setLc2 (N : List Str) (sc : Scope) (own : List (Str × Nat)) (vs1 : List Nat) {i : Nat} {y : Str} (hc : X.calm = true) (hN : X.N.Nodup) (hy : X.N[i]? = some y) (hyl : X.env.scope.names.lookup y = some .local)
    (hsw : swapsWith (.ListComp elt [⟨tg, iter, ifs, 0⟩, ⟨tg1, iter1, ifs1, 0⟩] scope pos) (some (.Name y py)) spos.line X.env = pure true) (hi : MI X W tg iter mi) (ok : blkC N sc scope own = true)
    (hg : ∀ (s : Shared) (H : Hp) (C : Addr) (cl : List (Str × Addr)) (fp : List Addr), MG (X.blk s H scope (compEnvC scope cl C X.env) fp) tg js b) (ht : ∀ (s : Shared) (H : Hp) (C : Addr) (cl : List (Str × Addr)) (fp : List Addr), MTs (X.blk s H scope (compEnvC scope cl C X.env) fp) W0 ifs tt)
    (hi1 : ∀ (s : Shared) (H : Hp) (C : Addr) (cl : List (Str × Addr)) (fp : List Addr), MI (X.blk s H scope (compEnvC scope cl C X.env) fp) W0 tg1 iter1 mi1)
    (hg1 : ∀ (s : Shared) (H : Hp) (C : Addr) (cl : List (Str × Addr)) (fp : List Addr), MG (X.blk s H scope (compEnvC scope cl C X.env) fp) tg1 js1 b1) (ht1 : ∀ (s : Shared) (H : Hp) (C : Addr) (cl : List (Str × Addr)) (fp : List Addr), MTs (X.blk s H scope (compEnvC scope cl C X.env) fp) W0 ifs1 tt1)
    (he : ∀ (s : Shared) (H : Hp) (C : Addr) (cl : List (Str × Addr)) (fp : List Addr), ME (X.blk s H scope (compEnvC scope cl C X.env) fp) W0 elt te) (hj : ∀ j ∈ js, j ∈ own.map (·.2) := by decide) (hj1 : ∀ j ∈ js1, j ∈ vs1 := by decide) (hv : ∀ j ∈ vs1, j ∈ own.map (·.2) := by decide)
    (hs : ∀ x, foldedSetIterable iter X.env x = pure x := by intro _; rfl) (hs1 : ∀ env x, foldedSetIterable iter1 env x = pure x := by intro _ _; rfl) (eN : X.N = N := by rfl) (eS : X.env.scope = sc := by rfl) :
    MS X W (.Assign [.Name y py] (.ListComp elt [⟨tg, iter, ifs, 0⟩, ⟨tg1, iter1, ifs1, 0⟩] scope pos) spos) (setS i (lstO (compM2 mi (own.map (·.2)) vs1 b tt mi1 b1 tt1 te))) := PS.wk (ps_setLc2 (g := cG X.kx js b) (tt := cT X.kx X.mg W0 tt) (wi1 := cI X.kx X.mg W0 mi1) (g1 := cG X.kx js1 b1) (tt1 := cT X.kx X.mg W0 tt1) (te := cE X.kx X.mg W0 te) hc hN hy hyl hsw hi (by rw [eN, eS]; exact blkOk_by ok) hv hg ht hi1 hg1 ht1 he hs hs1) fun D0 σ H ⟨F, g, G, A, q⟩ => by
  have q' : Po X.kx X.mg W F σ G (compM2 mi (own.map (·.2)) vs1 b tt mi1 b1 tt1 te g) fun zs g' G' H' => PoS X.kx X.mg W F G' (.nx (g'.set i (.dat (.list zs)))) D0 := by
    unfold setS lstO bnd ret at q
    generalize compM2 mi (own.map (·.2)) vs1 b tt mi1 b1 tt1 te g = r at q ⊢
    rcases r with (_ | ⟨c, g'⟩) | ⟨zs, g'⟩
    · exact q
    · exact fun C hC G' H' A s => q C hC σ G' H' A s
    · exact fun G' H' A s => PoS.base s q
  refine lc2_of hj hj1 hv ⟨F, g, G, A, Po.imp q' fun zs g1 G1 H1 A1 s1 k1 D xs n hD r => ?_⟩
  have sg : Same G1 (upd G1 D (.lst xs)) := same_new n.ng
  exact k1 _ _ H1 ((A1.adopt n hD).put (.lst upd_same (r.up sg))) sg
end
/-! the evaluation -/
section
variable {g : Gm} {X : String → Gm → Prop} {Q : List PyData → Gm → Prop} {vs vs1 : List Nat} {b b1 : PyData → Gm → Option Gm} {tt tt1 : MM Bool} {te : MM PyData} {mi mi1 : MM (List PyData)}
@[simp ↓] theorem ev_compM2 : ev (compM2 mi vs vs1 b tt mi1 b1 tt1 te) g Q X ↔ ev mi g (fun ds g1 => okC (compL2 vs vs1 b tt mi1 b1 tt1 te ds (wipeG g1 vs)) fun zs g' => zs.length ≤ sizeLine ∧ Q zs g') X := by
  refine Iff.trans (ev_bnd (m := mi) (P := Q) (X := X)) ?_
  refine iff_of_eq (congrArg (fun h => ev mi g h X) ?_)
  funext ds g1
  refine propext ?_
  unfold ev okE okC
  dsimp only
  generalize compL2 vs vs1 b tt mi1 b1 tt1 te ds (wipeG g1 vs) = r
  rcases r with _ | ⟨zs, g2⟩
  · exact Iff.rfl
  · by_cases h : zs.length ≤ sizeLine <;> simp [h]
@[simp ↓] theorem okC2_nil : okC (compL2 vs vs1 b tt mi1 b1 tt1 te [] g) Q ↔ Q [] g := Iff.rfl
theorem okC2_cons {d : PyData} {ds : List PyData} : okC (compL2 vs vs1 b tt mi1 b1 tt1 te (d :: ds) g) Q ↔ okO (b d g) fun g1 => ev tt g1 (fun c g2 => if c = true then ev mi1 g2 (fun es g3 => okC (compL vs1 b1 tt1 te es (wipeG g3 vs1)) fun zs g4 => okC (compL2 vs vs1 b tt mi1 b1 tt1 te ds (wipeG g4 vs)) fun zs' g5 => Q (zs ++ zs') g5) noX else okC (compL2 vs vs1 b tt mi1 b1 tt1 te ds (wipeG g2 vs)) Q) noX := by
  have e : compL2 vs vs1 b tt mi1 b1 tt1 te (d :: ds) g = (match b d g with
    | none => .error .stuck
    | some g1 => match tt g1 with
      | .ok (true, g2) => (match mi1 g2 with
        | .ok (es, g3) => (match compL vs1 b1 tt1 te es (wipeG g3 vs1) with
          | .ok (zs, g4) => (match compL2 vs vs1 b tt mi1 b1 tt1 te ds (wipeG g4 vs) with
            | .ok (zs', g5) => .ok (zs ++ zs', g5)
            | .error _ => .error .stuck)
          | .error _ => .error .stuck)
        | .error _ => .error .stuck)
      | .ok (false, g2) => compL2 vs vs1 b tt mi1 b1 tt1 te ds (wipeG g2 vs)
      | .error _ => .error .stuck) := rfl
  rw [e]
  cases b d g with
  | none => exact Iff.rfl
  | some g1 =>
    simp only [okO_some]
    unfold ev okE
    generalize tt g1 = r
    rcases r with (_ | ⟨c, g2⟩) | ⟨_ | _, g2⟩
    · exact Iff.rfl
    · exact Iff.rfl
    · simp only [Bool.false_eq_true, if_false]
    · simp only [if_true]
      generalize mi1 g2 = r
      rcases r with (_ | ⟨c, g3⟩) | ⟨es, g3⟩
      · exact Iff.rfl
      · exact Iff.rfl
      · simp only
        unfold okC
        generalize compL vs1 b1 tt1 te es (wipeG g3 vs1) = r
        rcases r with _ | ⟨zs, g4⟩
        · exact Iff.rfl
        · simp only
          generalize compL2 vs vs1 b tt mi1 b1 tt1 te ds (wipeG g4 vs) = r
          rcases r with _ | ⟨zs', g5⟩ <;> exact Iff.rfl
end
end Mi
namespace Mi
open PySem PySem.Spec PyProof.Rows L2
def sqO : PyData → Option (List PyData)
  | .list ds => some ds
  | .tuple ds => some ds
  | _ => none
/-! ### enumerate(x) -/
def enumD (ds : List PyData) : List PyData := ds.zipIdx.map fun p => .tuple [.int (p.2 : Nat), p.1]
def enumO : PyData → Option (List PyData)
  | .list ds => some (enumD ds)
  | .tuple ds => some (enumD ds)
  | _ => none
def enumM (m : MM PyData) : MM (List PyData) := bnd m fun d => lft (enumO d)
@[simp ↓] theorem ev_enumM {m : MM PyData} {g : Gm} {Q : List PyData → Gm → Prop} {X : String → Gm → Prop} : ev (enumM m) g Q X ↔ ev m g (fun d g1 => okO (enumO d) fun ds => Q ds g1) X := by simp [enumM]
/-! ### zip of two -/
def zipD (ds es : List PyData) : List PyData := (ds.zip es).map fun p => .tuple [p.1, p.2]
theorem zipD_get {ds es : List PyData} {i : Nat} {d : PyData} (h : (zipD ds es)[i]? = some d) : ∃ x y, ds[i]? = some x ∧ es[i]? = some y ∧ d = .tuple [x, y] := by
  unfold zipD at h
  rw [List.getElem?_map] at h
  cases e : (ds.zip es)[i]? with
  | none => rw [e] at h; cases h
  | some p =>
    rw [e] at h
    have h2 := List.getElem?_zip_eq_some.mp e
    exact ⟨p.1, p.2, h2.1, h2.2, (Option.some.inj h).symm⟩
theorem zipD_len (ds es : List PyData) : (zipD ds es).length = min ds.length es.length := by simp [zipD]
def zipO : PyData → PyData → Option (List PyData)
  | .list ds, .list es => some (zipD ds es)
  | .tuple ds, .tuple es => some (zipD ds es)
  | .list ds, .tuple es => some (zipD ds es)
  | .tuple ds, .list es => some (zipD ds es)
  | _, _ => none
theorem zipO_ok {d e : PyData} {zs : List PyData} (h : zipO d e = some zs) : ∃ ds es, sqO d = some ds ∧ sqO e = some es ∧ zs = zipD ds es := by
  cases d <;> cases e <;> first | (cases h; done) | (cases h; exact ⟨_, _, rfl, rfl, rfl⟩)
def zipM (ma mb : MM PyData) : MM (List PyData) := bnd ma fun d => bnd mb fun e => lft (zipO d e)
@[simp ↓] theorem ev_zipM {ma mb : MM PyData} {g : Gm} {Q : List PyData → Gm → Prop} {X : String → Gm → Prop} : ev (zipM ma mb) g Q X ↔ ev ma g (fun d g1 => ev mb g1 (fun e g2 => okO (zipO d e) fun ds => Q ds g2) X) X := by simp [zipM]
end Mi
/-! zip of three: each a list or a tuple -/
namespace Z3
open PySem PySem.Spec PyProof.Rows L2
open PySem.Sem (wp)
def Src (t : Bool) (h : Heap) (l : Addr) (xs : Array Value) : Prop := match t with | false => h.IsList l xs | true => h.IsTuple l xs
def Itr (t : Bool) (h : Heap) (i l : Addr) (k : Nat) : Prop := match t with | false => h.IsListIter i l k | true => h.IsTupleIter i l k
theorem Src.at {t : Bool} {h h' : Heap} {l : Addr} {xs : Array Value} (s : Src t h l xs) (k : ∀ o, h.get? l = some o → h'.get? l = some o) : Src t h' l xs := by
  cases t
  · obtain ⟨o, e, r⟩ := s; exact ⟨o, k o e, r⟩
  · obtain ⟨o, e, r⟩ := s; exact ⟨o, k o e, r⟩
theorem Itr.at {t : Bool} {h h' : Heap} {i l : Addr} {n : Nat} (s : Itr t h i l n) (k : ∀ o, h.get? i = some o → h'.get? i = some o) : Itr t h' i l n := by
  cases t
  · obtain ⟨o, e, r⟩ := s; exact ⟨o, k o e, r⟩
  · obtain ⟨o, e, r⟩ := s; exact ⟨o, k o e, r⟩
theorem Src.eb {t : Bool} {h h' : Heap} {b l : Addr} {xs : Array Value} (s : Src t h l xs) (e : Heap.ExtBut b h h') (n : l ≠ b) : Src t h' l xs := s.at fun o q => e _ _ n q
theorem Itr.eb {t : Bool} {h h' : Heap} {b i l : Addr} {n : Nat} (s : Itr t h i l n) (e : Heap.ExtBut b h h') (ne : i ≠ b) : Itr t h' i l n := s.at fun o q => e _ _ ne q
theorem Itr.obj {t : Bool} {h : Heap} {i l : Addr} {n : Nat} (s : Itr t h i l n) : ∃ o, h.get? i = some o ∧ ∀ v, o.data ≠ .cell v := by
  cases t
  · obtain ⟨o, e, _, d⟩ := s; exact ⟨o, e, fun v q => by rw [d] at q; cases q⟩
  · obtain ⟨o, e, _, d⟩ := s; exact ⟨o, e, fun v q => by rw [d] at q; cases q⟩
theorem Itr.lt {t : Bool} {h : Heap} {i l : Addr} {n : Nat} (s : Itr t h i l n) : i < h.objs.size := by
  obtain ⟨o, e, _⟩ := s.obj; exact Heap.lt_size e
theorem Src.lt {t : Bool} {h : Heap} {l : Addr} {xs : Array Value} (s : Src t h l xs) : l < h.objs.size := by
  cases t
  · obtain ⟨o, e, r⟩ := s; exact Heap.lt_size e
  · obtain ⟨o, e, r⟩ := s; exact Heap.lt_size e
section
variable {prog : Program} {w : World} {A : Around} {E : Value → Shared → Prop} {s : Shared}
theorem nxt_item {t : Bool} {it l : Addr} {i : Nat} {items : Array Value} {x : Value} {Q : Value → Shared → Prop} (hit : Itr t s.heap it l i)
    (hl : Src t s.heap l items) (hx : items[i]? = some x)
    (hQ : ∀ h', Itr t h' it l (i + 1) → Heap.SameBut it s.heap h' → Q x { s with heap := h' }) :
    wpAny (model prog w) A (Builtin.SmallTypes.nextOf (.ref it)) Q E s := by
  cases t
  · exact wpAny_nextOf_list_item hit hl hx hQ
  · exact RZ.nextOf_tuple_item hit hl hx hQ
theorem nxt_end {t : Bool} {it l : Addr} {i : Nat} {items : Array Value} {Q : Value → Shared → Prop} (hh : A.handled = none) (hit : Itr t s.heap it l i)
    (hl : Src t s.heap l items) (hx : items[i]? = none)
    (hE : ∀ h' e, Heap.ExtBut it s.heap h' → (∃ o, h'.get? e = some o ∧ o.cls = .type "StopIteration") → E (.ref e) { s with heap := h' }) :
    wpAny (model prog w) A (Builtin.SmallTypes.nextOf (.ref it)) Q E s := by
  cases t
  · exact wpAny_nextOf_list_end hh hit hl hx hE
  · exact RZ.nextOf_tuple_end hh hit hl hx hE
end
end Z3
namespace PySem.F
end PySem.F
namespace Z3
open PySem PySem.Spec PyProof.Rows L2
open PySem.Sem (wp)
abbrev itO (t : Bool) (l : Addr) : Obj := { cls := .type (if t then "tuple_iterator" else "list_iterator"), data := .fields #[.ref l, .int 0 0] }
abbrev zH1 (h : Heap) (t1 : Bool) (l1 : Addr) : Heap := h.push (itO t1 l1)
abbrev zH2 (h : Heap) (t1 t2 : Bool) (l1 l2 : Addr) : Heap := (zH1 h t1 l1).push (itO t2 l2)
abbrev zH3 (h : Heap) (t1 t2 t3 : Bool) (l1 l2 l3 : Addr) : Heap := (zH2 h t1 t2 l1 l2).push (itO t3 l3)
abbrev zH4 (h : Heap) (t1 t2 t3 : Bool) (l1 l2 l3 : Addr) : Heap := (zH3 h t1 t2 t3 l1 l2 l3).push { cls := .type "tuple", data := .seq #[.ref h.objs.size, .ref (zH1 h t1 l1).objs.size, .ref (zH2 h t1 t2 l1 l2).objs.size] }
abbrev zH5 (h : Heap) (t1 t2 t3 : Bool) (l1 l2 l3 : Addr) : Heap := (zH4 h t1 t2 t3 l1 l2 l3).push { cls := .type "tuple", data := .seq #[.none, .none, .none] }
abbrev zH6 (h : Heap) (t1 t2 t3 : Bool) (l1 l2 l3 : Addr) : Heap := (zH5 h t1 t2 t3 l1 l2 l3).push { cls := .type "zip", data := .fields #[.none, .bool false, .bool false, .ref (zH3 h t1 t2 t3 l1 l2 l3).objs.size, .ref (zH4 h t1 t2 t3 l1 l2 l3).objs.size] }
section
variable {prog : Program} {w : World} {A : Around} {E : Value → Shared → Prop} {s : Shared}
theorem iter_src {t : Bool} {l : Addr} {xs : Array Value} {Q : Value → Shared → Prop} (hl : Src t s.heap l xs) (h : Q (.ref s.heap.objs.size) { s with heap := s.heap.push (itO t l) }) : wpAny (model prog w) A (pyIter (.ref l)) Q E s := by
  cases t
  · exact wpAny_pyIter_list hl h
  · exact wpAny_pyIter_tuple hl h
end
theorem meets_new (t1 t2 t3 : Bool) (l1 l2 l3 : Addr) (xs ys us : Array Value) :
    Meets (Builtin.«zip.__new__» ⟨[.type "zip", .ref l1, .ref l2, .ref l3], []⟩) (fun _ R s => Src t1 s.heap l1 xs ∧ Src t2 s.heap l2 ys ∧ Src t3 s.heap l3 us ∧
      R (.ok (.ret (.ref (zH5 s.heap t1 t2 t3 l1 l2 l3).objs.size))) { s with heap := zH6 s.heap t1 t2 t3 l1 l2 l3 }) :=
  .of_wp fun prog w A R s h => by
    obtain ⟨hp, g, d, tk, os⟩ := s; obtain ⟨hl1, hl2, hl3, h⟩ := h
    have hsub := sub_zip
    have hL1 : Src t1 (Shared.heap ⟨hp, g, d, tk, os⟩) l1 xs := hl1
    have hL2 : Src t2 (Shared.heap ⟨hp.push (itO t1 l1), g, d, tk, os⟩) l2 ys := hl2.at fun o e => Heap.get?_push_of_some _ e
    have hL3 : Src t3 (Shared.heap ⟨(hp.push (itO t1 l1)).push (itO t2 l2), g, d, tk, os⟩) l3 us := hl3.at fun o e => Heap.get?_push_of_some _ (Heap.get?_push_of_some _ e)
    wp_walk using iter_src hL1, iter_src hL2, iter_src hL3
    exact ⟨_, rfl, h⟩
section
variable {prog : Program} {w : World} {A : Around} {E : Value → Shared → Prop} {s : Shared}
theorem itr_new {t : Bool} {h : Heap} {i l : Addr} (g : h.get? i = some (itO t l)) : Itr t h i l 0 := by
  cases t
  · exact ⟨_, g, rfl, rfl⟩
  · exact ⟨_, g, rfl, rfl⟩
end
end Z3
namespace Z3
open PySem PySem.Spec PyProof.Rows L2
open Mi (tO)
def SqK (t : Bool) (K : PySem.W.Frag) (H : Hp) (a : Addr) (xs : List V) : Prop := match t with | false => SqL K H a xs | true => SqT K H a xs
section
variable {X : Cx} {pins : List (Addr × Obj)} {σ : L2.St} {H : Hp} {s : Shared} {t : Bool} {a : Addr} {xs ys : List V}
theorem src_of (I : Inv X pins σ H s) (h : SqK t X.kx H a xs) : ∃ its, Vals xs its ∧ Src t s.heap a its.toArray := by
  cases t
  · obtain ⟨its, rv, p, _⟩ := I.list h
    exact ⟨its, rv, p.isList⟩
  · obtain ⟨its, rv, p, _⟩ := I.tuple h
    exact ⟨its, rv, p⟩
theorem inj_of (I : Inv X pins σ H s) (h : SqK t X.kx H a xs) (h' : SqK t X.kx H a ys) : xs = ys := by
  cases t
  · exact I.list_inj h h'
  · exact I.tuple_inj h h'
end
end Z3
namespace Mi
open PySem PySem.Spec PyProof.Rows L2
/-! ### zip of three -/
def zip3D (ds es fs : List PyData) : List PyData := (ds.zip (es.zip fs)).map fun p => .tuple [p.1, p.2.1, p.2.2]
/-- a source in the data heap -/
def Fs (t : Bool) (K : Frag) (G : Hp) (a : Addr) (xs : List V) : Prop := match t with | false => G a = some (.lst xs) | true => SqX K G a xs
theorem Fs.up {t : Bool} {K : Frag} {G G1 : Hp} {a : Addr} {xs : List V} (h : Fs t K G a xs) (s : Same G G1) : Fs t K G1 a xs := by
  cases t
  · exact s _ _ h
  · exact sqX_same s h
theorem Fs.sq {t : Bool} {K : Frag} {G H : Hp} {a : Addr} {xs : List V} (h : Fs t K G a xs) (s : ∀ a o, G a = some o → H a = some o) : Z3.SqK t K H a xs := by
  cases t
  · exact .inl (.inl (s _ _ h))
  · exact sqT_same s h
theorem Rp.fs {K : Frag} {G : Hp} {x : V} {d : PyData} {ds : List PyData} (r : Rp K G x d) (e : sqO d = some ds) : ∃ t a xs, x = .ref a ∧ Fs t K G a xs ∧ RpAll K G xs ds := by
  cases r with
  | @lst a xs _ h1 h2 => cases e; exact ⟨false, a, xs, rfl, h1, h2⟩
  | @tup a xs _ h1 h2 => cases e; exact ⟨true, a, xs, rfl, h1, h2⟩
  | _ => cases e
def zip3O (d e f : PyData) : Option (List PyData) := match sqO d, sqO e, sqO f with
  | some ds, some es, some fs => some (zip3D ds es fs)
  | _, _, _ => none
def zip3M (ma mb mc : MM PyData) : MM (List PyData) := bnd ma fun d => bnd mb fun e => bnd mc fun f => lft (zip3O d e f)
@[simp ↓] theorem ev_zip3M {ma mb mc : MM PyData} {g : Gm} {Q : List PyData → Gm → Prop} {X : String → Gm → Prop} : ev (zip3M ma mb mc) g Q X ↔ ev ma g (fun d g1 => ev mb g1 (fun e g2 => ev mc g2 (fun f g3 => okO (zip3O d e f) fun ds => Q ds g3) X) X) X := by simp [zip3M]
end Mi
namespace Z2
open PySem PySem.Spec PyProof.Rows L2 Z3
open Mi (tO)
theorem src_ne {t : Bool} {h : Heap} {it l : Addr} {n : Nat} {xs : Array Value} (i : Itr t h it l n) (s : Src t h l xs) : l ≠ it := by
  rintro rfl
  cases t
  · obtain ⟨o, e, c, _⟩ := i
    obtain ⟨o', e', c', _⟩ := s
    rw [e] at e'; cases e'
    rw [c] at c'
    exact absurd c' (by decide)
  · obtain ⟨o, e, c, _⟩ := i
    obtain ⟨o', e', c', _⟩ := s
    rw [e] at e'; cases e'
    rw [c] at c'
    exact absurd c' (by decide)
theorem draws {prog : Program} {w : World} {A : Around} {t : Bool} {it l : Addr} {items : Array Value} (hh : A.handled = none) :
    Draws prog w A it [it, l] items.size (fun i x => items[i]? = some x) (fun i h => Itr t h it l i ∧ Src t h l items) where
  live := fun i h st => let ⟨o, e, _⟩ := st.1.obj; ⟨o, e⟩
  frame := fun i h h' st k => ⟨st.1.at fun o e => k it (by simp) o e, st.2.at fun o e => k l (by simp) o e⟩
  item := fun i s Q E hi st hQ => by
    have hx : items[i]? = some items[i] := by simp [hi]
    exact nxt_item st.1 st.2 hx fun h' h1 sb => hQ _ h' s.toks hx ⟨h1, st.2.eb sb.extBut (src_ne st.1 st.2)⟩ sb
  done := fun s Q E st hE => nxt_end hh st.1 st.2 (by simp) hE
/-! ### zip of two -/
def It2 (K : PySem.W.Frag) (t1 t2 : Bool) (a b : Addr) : It :=
  ⟨fun i H => ∃ (xs ys : List V) (x y : V), SqK t1 K H a xs ∧ SqK t2 K H b ys ∧ xs[i]? = some x ∧ ys[i]? = some y,
    fun i H v H' => ∃ T its x y, v = .ref T ∧ H T = none ∧ H' = upd H T (tO its [x, y]) ∧ (∀ xs, SqK t1 K H a xs → xs[i]? = some x) ∧ ∀ ys, SqK t2 K H b ys → ys[i]? = some y,
    fun i H => ∃ xs ys : List V, SqK t1 K H a xs ∧ SqK t2 K H b ys ∧ i ≤ xs.length ∧ i ≤ ys.length ∧ (i = xs.length ∨ i = ys.length)⟩
theorem turn2 {P : Program} {w : World} {K : PySem.W.Frag} {elts : List Expr} {kk : Nat} {tpos : Pos} {t1 t2 : Bool} {a b z TI TO i1 i2 : Addr} (S : ZipSep2 z TI TO i1 i2 [i1, a] [i2, b]) :
    Turn P w K (.Tuple elts kk tpos) (It2 K t1 t2 a b) [z, TI, TO, i1, i2] z (fun i h => IsZip h z TI TO .none ∧ IsTupOf2 h TI (.ref i1) (.ref i2) ∧ (∃ x y, IsTupOf2 h TO x y) ∧ Itr t1 h i1 a i ∧ Itr t2 h i2 b i) where
  mem := by simp
  obj := fun i h st c hc => by
    obtain ⟨hz, hTI, ⟨x, y, hTO⟩, h1, h2⟩ := st
    have e' : c = z ∨ c = TI ∨ c = TO ∨ c = i1 ∨ c = i2 := by simpa using hc
    rcases e' with q | q | q | q | q
    · rw [q]; exact ⟨_, hz, fun v q => nomatch q⟩
    · rw [q]; exact ⟨_, hTI, fun v q => nomatch q⟩
    · rw [q]; exact ⟨_, hTO, fun v q => nomatch q⟩
    · rw [q]; exact h1.obj
    · rw [q]; exact h2.obj
  keep := fun i h h' st k => by
    obtain ⟨hz, hTI, ⟨x, y, hTO⟩, h1, h2⟩ := st
    exact ⟨k z (by simp) _ hz, k TI (by simp) _ hTI, ⟨x, y, k TO (by simp) _ hTO⟩, h1.at fun o q => k i1 (by simp) o q, h2.at fun o q => k i2 (by simp) o q⟩
  item := by
    intro X hP hw hK hc i pins s σ H E I hf st hg
    subst hP hw hK
    obtain ⟨hz, hTI, ⟨x0, y0, hTO⟩, h1, h2⟩ := st
    obtain ⟨xs, ys, x, y, hqx, hqy, hx, hy⟩ := hg
    obtain ⟨its, rv, p⟩ := src_of I hqx
    obtain ⟨its2, rv2, p2⟩ := src_of I hqy
    obtain ⟨u, hu, ru⟩ := rv.get hx
    obtain ⟨u2, hu2, ru2⟩ := rv2.get hy
    have l1 : i < its.toArray.size := by
      have := (List.getElem?_eq_some_iff.mp hu).1
      simpa using this
    have l2 : i < its2.toArray.size := by
      have := (List.getElem?_eq_some_iff.mp hu2).1
      simpa using this
    have hzl : z < s.heap.objs.size := Heap.lt_size hz
    refine wpAny_pyNext_zipD2_item S (draws (I.ok.hd hc)) (draws (I.ok.hd hc)) hz hTI hTO ⟨h1, p⟩ ⟨h2, p2⟩ l1 l2 fun v1 v2 h' tk e1 e2 z' TO' h1' h2' hT hsz hk => ?_
    have e1 : v1 = u := by
      have : its[i]? = some v1 := by simpa using e1
      rw [hu] at this; exact (Option.some.inj this).symm
    have e2 : v2 = u2 := by
      have : its2[i]? = some v2 := by simpa using e2
      rw [hu2] at this; exact (Option.some.inj this).symm
    subst e1 e2
    refine ⟨_, rfl, wpAny_letOwnedTupleGo_zip (s := { s with heap := h', toks := tk }) z' fun h'' z'' sb => ?_⟩
    have hT2 : h''.get? s.heap.objs.size = some { cls := .type "tuple", data := .seq #[v1, v2] } := (sb.2 _ (Nat.ne_of_gt hzl)).trans hT
    have new : ObjOk X.prog X.w (upd H s.heap.objs.size (tO [v1, v2] [x, y])) h'' s.heap.objs.size (tO [v1, v2] [x, y]) :=
      ⟨hT2, by show 2 ≤ sizeLine; decide, [v1, v2], .cons ru (.cons ru2 .nil), ⟨_, hT2, rfl, _, rfl⟩⟩
    have I1 : Inv X pins σ (upd H s.heap.objs.size (tO [v1, v2] [x, y])) { s with heap := h'', toks := tk } :=
      I.turnedNew (ch := [z, TI, TO, i1, i2]) (fun c o hb q => (sb.2 c (fun q' => hb (by simp [q']))).trans (hk c o (fun q' => hb (by simp [q'])) (fun q' => hb (by simp [q'])) (fun q' => hb (by simp [q'])) (fun q' => hb (by simp [q'])) q)) hf (Nat.le_refl _) new
    refine ⟨.ref s.heap.objs.size, _, I1, rfl, ⟨_, _, x, y, rfl, I.hok.fresh (Nat.le_refl _), rfl, fun l hl => by rw [inj_of I hl hqx]; exact hx, fun l hl => by rw [inj_of I hl hqy]; exact hy⟩, ⟨z'', ?_, ⟨v1, v2, ?_⟩, ?_, ?_⟩, fun c hcm => ?_⟩
    · exact (sb.2 _ S.TIz).trans (hk _ _ S.TIz S.TITO S.TIi1 S.TIi2 hTI)
    · exact (sb.2 _ S.TOz).trans TO'
    · exact h1'.1.at fun o q => (sb.2 _ S.zi1.symm).trans q
    · exact h2'.1.at fun o q => (sb.2 _ S.zi2.symm).trans q
    · have hlt : c < s.heap.objs.size := by
        have e' : c = z ∨ c = TI ∨ c = TO ∨ c = i1 ∨ c = i2 := by simpa using hcm
        rcases e' with q | q | q | q | q
        · rw [q]; exact hzl
        · rw [q]; exact Heap.lt_size hTI
        · rw [q]; exact Heap.lt_size hTO
        · rw [q]; exact h1.lt
        · rw [q]; exact h2.lt
      rw [upd_ne (Nat.ne_of_lt hlt)]
      exact (hf c hcm).1
  done := by
    intro X hP hw hK hc i pins s σ H E I hf st hg
    subst hP hw hK
    obtain ⟨hz, hTI, ⟨x0, y0, hTO⟩, h1, h2⟩ := st
    obtain ⟨xs, ys, hqx, hqy, b1, b2, hend⟩ := hg
    obtain ⟨its, rv, p⟩ := src_of I hqx
    obtain ⟨its2, rv2, p2⟩ := src_of I hqy
    have l1 := rv.length
    have l2 := rv2.length
    exact wpAny_pyNext_zipD2_end S (draws (I.ok.hd hc)) (draws (I.ok.hd hc)) hz hTI hTO ⟨h1, p⟩ ⟨h2, p2⟩ (by simp; omega) (by simp; omega) (by simp; omega) fun h' tk hk => ⟨rfl, I.turnedL (t' := tk) (ch := [z, TI, TO, i1, i2]) (fun c o hb q =>
      hk c o (fun q' => hb (by simp [q'])) (fun q' => hb (by simp [q'])) (fun q' => hb (by simp [q'])) (fun q' => hb (by simp [q'])) q) hf⟩
  self := fun A i s Q E st h => wpAny_pyIter_zip st.1 h
abbrev yH1 (h : Heap) (t1 : Bool) (l1 : Addr) : Heap := h.push (itO t1 l1)
abbrev yH2 (h : Heap) (t1 t2 : Bool) (l1 l2 : Addr) : Heap := (yH1 h t1 l1).push (itO t2 l2)
abbrev yH3 (h : Heap) (t1 t2 : Bool) (l1 l2 : Addr) : Heap := (yH2 h t1 t2 l1 l2).push { cls := .type "tuple", data := .seq #[.ref h.objs.size, .ref (yH1 h t1 l1).objs.size] }
abbrev yH4 (h : Heap) (t1 t2 : Bool) (l1 l2 : Addr) : Heap := (yH3 h t1 t2 l1 l2).push { cls := .type "tuple", data := .seq #[.none, .none] }
abbrev yH5 (h : Heap) (t1 t2 : Bool) (l1 l2 : Addr) : Heap := (yH4 h t1 t2 l1 l2).push { cls := .type "zip", data := .fields #[.none, .bool false, .bool false, .ref (yH2 h t1 t2 l1 l2).objs.size, .ref (yH3 h t1 t2 l1 l2).objs.size] }
theorem meets_new (t1 t2 : Bool) (l1 l2 : Addr) (xs ys : Array Value) :
    Meets (Builtin.«zip.__new__» ⟨[.type "zip", .ref l1, .ref l2], []⟩) (fun _ R s => Src t1 s.heap l1 xs ∧ Src t2 s.heap l2 ys ∧
      R (.ok (.ret (.ref (yH4 s.heap t1 t2 l1 l2).objs.size))) { s with heap := yH5 s.heap t1 t2 l1 l2 }) :=
  .of_wp fun prog w A R s h => by
    obtain ⟨hp, g, d, tk, os⟩ := s; obtain ⟨hl1, hl2, h⟩ := h
    have hsub := sub_zip
    have hL1 : Src t1 (Shared.heap ⟨hp, g, d, tk, os⟩) l1 xs := hl1
    have hL2 : Src t2 (Shared.heap ⟨hp.push (itO t1 l1), g, d, tk, os⟩) l2 ys := hl2.at fun o e => Heap.get?_push_of_some _ e
    wp_walk using iter_src hL1, iter_src hL2
    exact ⟨_, rfl, h⟩
section
variable {prog : Program} {w : World} {A : Around} {E : Value → Shared → Prop} {s : Shared}
theorem call_zip2 {t1 t2 : Bool} {l1 l2 : Addr} {xs ys : Array Value} {Q : Value → Shared → Prop} (hl1 : Src t1 s.heap l1 xs) (hl2 : Src t2 s.heap l2 ys)
    (h : ∀ h', IsZip h' (s.heap.objs.size + 4) (s.heap.objs.size + 2) (s.heap.objs.size + 3) .none → IsTupOf2 h' (s.heap.objs.size + 2) (.ref s.heap.objs.size) (.ref (s.heap.objs.size + 1)) →
      IsTupOf2 h' (s.heap.objs.size + 3) .none .none → Itr t1 h' s.heap.objs.size l1 0 → Itr t2 h' (s.heap.objs.size + 1) l2 0 → h'.objs.size = s.heap.objs.size + 5 →
      (∀ c o, s.heap.get? c = some o → h'.get? c = some o) → Q (.ref (s.heap.objs.size + 4)) { s with heap := h' }) :
    wpAny (model prog w) A (call (.type "zip") [.ref l1, .ref l2]) Q E s := by
  refine callType_new F.called_zip (by decide) (F.typeCall_zip_2 _ _) (F.newCall_zip_2 _ _) (fun obj => F.args_object_init_3 obj _ _) F.entry_zip_new
    (meets_new t1 t2 l1 l2 xs ys) ⟨hl1, hl2, ?_⟩
  have z1 : (yH1 s.heap t1 l1).objs.size = s.heap.objs.size + 1 := Heap.size_push ..
  have z2 : (yH2 s.heap t1 t2 l1 l2).objs.size = s.heap.objs.size + 2 := by rw [Heap.size_push, z1]
  have z3 : (yH3 s.heap t1 t2 l1 l2).objs.size = s.heap.objs.size + 3 := by rw [Heap.size_push, z2]
  have z4 : (yH4 s.heap t1 t2 l1 l2).objs.size = s.heap.objs.size + 4 := by rw [Heap.size_push, z3]
  have z5 : (yH5 s.heap t1 t2 l1 l2).objs.size = s.heap.objs.size + 5 := by rw [Heap.size_push, z4]
  have g5 : (yH5 s.heap t1 t2 l1 l2).get? (yH4 s.heap t1 t2 l1 l2).objs.size = some _ := Heap.get?_push_size _ rfl
  have g4 : (yH5 s.heap t1 t2 l1 l2).get? (yH3 s.heap t1 t2 l1 l2).objs.size = some _ := Heap.get?_push_of_some _ (Heap.get?_push_size _ rfl)
  have g3 : (yH5 s.heap t1 t2 l1 l2).get? (yH2 s.heap t1 t2 l1 l2).objs.size = some _ := Heap.get?_push_of_some _ (Heap.get?_push_of_some _ (Heap.get?_push_size _ rfl))
  have g2 : (yH5 s.heap t1 t2 l1 l2).get? (yH1 s.heap t1 l1).objs.size = some _ := Heap.get?_push_of_some _ (Heap.get?_push_of_some _ (Heap.get?_push_of_some _ (Heap.get?_push_size _ rfl)))
  have g1 : (yH5 s.heap t1 t2 l1 l2).get? s.heap.objs.size = some _ := Heap.get?_push_of_some _ (Heap.get?_push_of_some _ (Heap.get?_push_of_some _ (Heap.get?_push_of_some _ (Heap.get?_push_size _ rfl))))
  show _ ∧ _
  rw [z2, z3, z4] at g5
  rw [z1, z2] at g3
  rw [z3] at g4
  rw [z1] at g2
  rw [z4]
  exact ⟨⟨_, g5, rfl⟩, h _ g5 g3 g4 (itr_new g1) (itr_new g2) z5 fun c o x =>
    Heap.get?_push_of_some _ (Heap.get?_push_of_some _ (Heap.get?_push_of_some _ (Heap.get?_push_of_some _ (Heap.get?_push_of_some _ x))))⟩
end
theorem sep_new (n a b : Nat) (h1 : a < n) (h2 : b < n) : ZipSep2 (n + 4) (n + 2) (n + 3) n (n + 1) [n, a] [n + 1, b] := by
  constructor <;> first
    | (refine PySem.W.neN ?_; omega)
    | (intro h; rcases List.mem_cons.mp h with h | h
       · exact absurd h (PySem.W.neN (by omega))
       · exact absurd (List.mem_singleton.mp h) (PySem.W.neN (by omega)))
    | simp
def iZip2 (K : PySem.W.Frag) (ta : TA) : TI := fun σ H R => ta σ H fun vs H1 => ∃ t1 t2 a b xs ys, vs = [.ref a, .ref b] ∧ SqK t1 K H1 a xs ∧ SqK t2 K H1 b ys ∧ R (It2 K t1 t2 a b) H1
theorem pi_zip2 {X : Cx} {e e2 : Expr} {ta : TA} {p pos tpos : Pos} {elts : List Expr} {kk : Nat} (hg : Gl X "zip") (hm : X.mg "zip" = none) (ha : PA X [e, e2] ta)
    (hs : starEach [e, e2] X.env = (false, eval e X.env) :: starEach [e2] X.env := by rfl) (hpl : (backTo pos (starEach [e2] X.env)).any (·.1) = false := by rfl) :
    PI X (.Tuple elts kk tpos) (.Call (.Name "zip" p) [e, e2] [] pos) (iZip2 X.kx ta) := by
  refine ⟨fun pins s σ H R I h => ?_⟩
  refine Call_ (ld_blt I hg hm PyProof.Rows.boot_zip (PyProof.Rows.callWith_type1 (thn (ha.run pos pins s σ H _ I h) fun us s1 ⟨vs, H1, I1, r1, q1⟩ => ?_) hs hpl))
  obtain ⟨t1, t2, a, b, xs, ys, ex, hqx, hqy, q⟩ := q1
  subst ex
  cases r1 with
  | cons r rr =>
    cases rr with
    | cons r' rr =>
      cases rr
      cases r
      cases r'
      have fresh5 : ∀ c, c ∈ [s1.heap.objs.size + 4, s1.heap.objs.size + 2, s1.heap.objs.size + 3, s1.heap.objs.size, s1.heap.objs.size + 1] → FpOk X pins H1 c := fun c hcm => by
        have e' : c = s1.heap.objs.size + 4 ∨ c = s1.heap.objs.size + 2 ∨ c = s1.heap.objs.size + 3 ∨ c = s1.heap.objs.size ∨ c = s1.heap.objs.size + 1 := by simpa using hcm
        have hle : s1.heap.objs.size ≤ c := by
          rcases e' with z | z | z | z | z
          · rw [z]; exact Nat.le_add_right _ _
          · rw [z]; exact Nat.le_add_right _ _
          · rw [z]; exact Nat.le_add_right _ _
          · rw [z]; exact Nat.le_refl _
          · rw [z]; exact Nat.le_add_right _ _
        exact I1.fpOk hle (I1.hok.fresh hle)
      obtain ⟨its, rv, p1⟩ := src_of I1 hqx
      obtain ⟨its2, rv2, p2⟩ := src_of I1 hqy
      refine call_zip2 p1 p2 fun h' hz hTI hTO h1 h2 hsz hk => wpAny_pyIter_zip hz ?_
      have I2 : Inv X pins σ H1 { s1 with heap := h' } := I1.kept (t' := s1.toks) hk
      exact ⟨s1.heap.objs.size + 4, [s1.heap.objs.size + 4, s1.heap.objs.size + 2, s1.heap.objs.size + 3, s1.heap.objs.size, s1.heap.objs.size + 1], _, _, H1, rfl, I2, turn2 (sep_new s1.heap.objs.size a b p1.lt p2.lt), ⟨hz, hTI, ⟨_, _, hTO⟩, h1, h2⟩, fresh5, q⟩
/-! ### enumerate -/
end Z2
namespace Mi
open PySem PySem.Spec PyProof.Rows L2
theorem itRep_zip2 {K : Frag} {G : Hp} {t1 t2 : Bool} {a b : Addr} {xs ys : List V} {ds es : List PyData} (h : Fs t1 K G a xs) (r : RpAll K G xs ds) (h' : Fs t2 K G b ys) (r' : RpAll K G ys es) : ItRep K G (Z2.It2 K t1 t2 a b) (zipD ds es) := by
  have hl := r.len
  have hl' := r'.len
  have hn := zipD_len ds es
  refine ⟨fun G1 H1 s e => ⟨xs, ys, (h.up s).sq e, (h'.up s).sq e, by omega, by omega, by omega⟩, fun i d G1 H1 hd s e => ?_, fun i d G1 H1 v H2 hd s e z => ?_⟩
  · obtain ⟨x, y, hx, hy, rfl⟩ := zipD_get hd
    obtain ⟨v, hv, _⟩ := r.get hx
    obtain ⟨u, hu, _⟩ := r'.get hy
    exact ⟨xs, ys, v, u, (h.up s).sq e, (h'.up s).sq e, hv, hu⟩
  · obtain ⟨x, y, hx, hy, rfl⟩ := zipD_get hd
    obtain ⟨v', hv, rv⟩ := r.get hx
    obtain ⟨u', hu, ru⟩ := r'.get hy
    obtain ⟨T, its, z1, z2, rfl, hT, rfl, y1, y2⟩ := z
    have q1 := y1 xs ((h.up s).sq e)
    have q2 := y2 ys ((h'.up s).sq e)
    rw [hv] at q1
    rw [hu] at q2
    cases q1
    cases q2
    have gr := Gr.new (o := tO its [v', u']) e hT
    exact ⟨_, gr, .tup (.inl ⟨its, upd_same⟩) (.cons ((rv.up s).up gr.g) (.cons ((ru.up s).up gr.g) .nil))⟩
section
variable {X : Cx} {W : WX} {e e2 : Expr} {m ma mb : MM PyData} {pos p tpos : Pos} {elts : List Expr} {kk : Nat}
theorem mi_zip (hm : X.mg "zip" = none) (ha : ME X W e ma) (hb : ME X W e2 mb) (hg : Gl X "zip" := by rfl) (hs : starEach [e, e2] X.env = (false, eval e X.env) :: starEach [e2] X.env := by rfl) (hs2 : starEach [e2] X.env = [(false, eval e2 X.env)] := by rfl) (hpl : (backTo pos (starEach [e2] X.env)).any (·.1) = false := by rfl) :
    MI X W (.Tuple elts kk tpos) (.Call (.Name "zip" p) [e, e2] [] pos) (zipM ma mb) := PI.wk (Z2.pi_zip2 hg hm (pa_cons ha (pa_cons hb pa_nil hs2) hs) hs hpl) fun σ H R ⟨F, g, G, A, q⟩ => by
  refine ⟨F, g, G, A, Po.imp q.bnd fun d g1 G1 H1 A1 s1 k1 x rx => ?_⟩
  refine ⟨F, g1, G1, A1, Po.imp k1.bnd fun d2 g2 G2 H2 A2 s2 k2 y ry => ?_⟩
  obtain ⟨zs, ez, k⟩ := k2.lft
  have rx' := rx.up s2
  obtain ⟨ds, es, e1, e2, rfl⟩ := zipO_ok ez
  obtain ⟨t1, a, xs, rfl, f1, r1⟩ := rx'.fs e1
  obtain ⟨t2, b, ys, rfl, f2, r2⟩ := ry.fs e2
  exact ⟨t1, t2, a, b, xs, ys, rfl, f1.sq A2.ex, f2.sq A2.ex, k G2 H2 A2 (Same.refl _) _ (itRep_zip2 f1 r1 f2 r2)⟩
end
end Mi
/-! sets of texts -/
namespace PySem.F
theorem newCall_set_one (a : Value) : checkBuiltinCall "set.__new__" ⟨[.type "set", a], []⟩ = pure () := by kernel_rfl
end PySem.F
namespace Ts
open PySem PySem.Spec PyProof.Rows L2
def txtOf (e : Int × Value) : Str := match e.2 with
  | .str k _ => k
  | _ => Str.empty
def GdE (P : Program) (w : World) (e : Int × Value) : Prop := ∃ k tk, e.2 = Value.str k tk ∧ e.1 = (strKind P w).hash k
/-- the set of the texts ks at a -/
def SetS (P : Program) (w : World) (h : Heap) (a : Addr) (ks : List Str) : Prop :=
  ∃ o es ep t, h.get? a = some o ∧ o.ExactSet ∧ o.data = .set es ep t ∧ (∀ e ∈ es.toList, GdE P w e) ∧ ks.Nodup ∧ (es.toList.map txtOf).Perm ks ∧ es.size < scanBound ∧ t.fits es.size = true ∧ Ris t.place.toList ∧ (w.params.followText "set-order" = true ∨ t.led = true)
def ins (acc : List Str) (x : Str) : List Str := if x ∈ acc then acc else x :: acc
/-- the different ones -/
def dd (xs : List Str) : List Str := xs.foldl ins []
theorem dd_next {xs : List Str} {i : Nat} {x : Str} (h : xs[i]? = some x) : dd (xs.take (i + 1)) = ins (dd (xs.take i)) x := by
  unfold dd
  rw [List.take_add_one, h, List.foldl_append]
  rfl
theorem ins_len (acc : List Str) (x : Str) : (ins acc x).length ≤ acc.length + 1 := by
  unfold ins
  split
  · exact Nat.le_succ _
  · exact Nat.le_refl _
theorem fold_len : ∀ (xs acc : List Str), (xs.foldl ins acc).length ≤ acc.length + xs.length
  | [], acc => Nat.le_refl _
  | x :: xs, acc => by
    have := fold_len xs (ins acc x)
    have := ins_len acc x
    simp only [List.foldl_cons, List.length_cons]
    omega
theorem dd_len (xs : List Str) : (dd xs).length ≤ xs.length := by
  have := fold_len xs []
  simpa [dd] using this
theorem fold_up : ∀ (xs acc : List Str), acc.length ≤ (xs.foldl ins acc).length
  | [], acc => Nat.le_refl _
  | x :: xs, acc => by
    have := fold_up xs (ins acc x)
    have : acc.length ≤ (ins acc x).length := by
      unfold ins
      split
      · exact Nat.le_refl _
      · exact Nat.le_succ _
    simp only [List.foldl_cons]
    omega
theorem dd_take (xs : List Str) (i : Nat) : (dd (xs.take i)).length ≤ (dd xs).length := by
  have e : dd xs = (xs.drop i).foldl ins (dd (xs.take i)) := by
    unfold dd
    rw [← List.foldl_append, List.take_append_drop]
  rw [e]
  exact fold_up _ _
section
variable {P : Program} {w : World} {h h' : Heap} {a : Addr} {ks : List Str}
theorem SetS.at (R : SetS P w h a ks) (k : ∀ o, h.get? a = some o → h'.get? a = some o) : SetS P w h' a ks := by
  obtain ⟨o, es, ep, t, ho, r⟩ := R
  exact ⟨o, es, ep, t, k o ho, r⟩
theorem gd_elems {l : List (Int × Value)} (g : ∀ e ∈ l, GdE P w e) : ElemsOf (strKind P w) l := fun e he => by
  obtain ⟨k, tk, h1, h2⟩ := g e he
  exact ⟨⟨k, by rw [h1]; exact strKind_is P w k tk, h2⟩, by rw [h1] <;> rfl⟩
theorem gd_is {e : Int × Value} (g : GdE P w e) (k : Str) : (strKind P w).is k e.2 = true ↔ txtOf e = k := by
  obtain ⟨k0, tk, h1, _⟩ := g
  unfold txtOf
  rw [h1]
  simp [PySem.strKind, Value.isStrOf]
theorem gd_mem {l : List (Int × Value)} (g : ∀ e ∈ l, GdE P w e) (k : Str) : k ∈ l.map txtOf ↔ ∃ e ∈ l, (strKind P w).is k e.2 = true := by
  rw [List.mem_map]
  exact ⟨fun ⟨e, he, q⟩ => ⟨e, he, (gd_is (g e he) k).2 q⟩, fun ⟨e, he, q⟩ => ⟨e, he, (gd_is (g e he) k).1 q⟩⟩
end
section
variable {P : Program} {w : World} {A : Around} {E : Value → Shared → Prop} {s : Shared} {a : Addr} {ks : List Str}
theorem add_tail {g : Bool → Sem Unit} (hg : ∀ (b : Bool) (s₁ : Shared) (Q' : Unit → Shared → Prop), Q' () s₁ → wpAny (model P w) A (g b) Q' E s₁)
    {o : Obj} {es : Array (Int × Value)} {ep : Nat} {t : SetTable} (ho : s.heap.get? a = some o) (hex : o.ExactSet) (hd : o.data = .set es ep t)
    {es1 : Array (Int × Value)} {t2 : SetTable} (g1 : ∀ e ∈ es1.toList, GdE P w e) (nd : ks.Nodup) (pk : (es1.toList.map txtOf).Perm ks)
    (hb1 : es1.size < scanBound) (hf2 : t2.fits es1.size = true) (hr : Ris t2.place.toList) (hl : w.params.followText "set-order" = true ∨ t2.led = true) {wasDummy : Bool} {R : Option Bool → Shared → Prop}
    (hR : ∀ h', Heap.SameBut a s.heap h' → SetS P w h' a ks → R (some true) { s with heap := h' }) :
    wpAny (model P w) A (do
        storeSet a es1 t2
        if (!wasDummy && t2.tooFull) = true then do
            g (relayAll t2 es1 (SetTable.grown es1.size)).2.2
            storeSet a (relayAll t2 es1 (SetTable.grown es1.size)).1 (relayAll t2 es1 (SetTable.grown es1.size)).2.1
            pure (some true)
          else pure (some true)) R E s := by
  have st1 := store_at (es' := es1) (t' := t2) ho hd
  have ch1 := Heap.SameBut.update s.heap a (Obj.putSet es1 t2)
  refine wpAny_bind (wpAny_storeSet_of ho hd ?_ (fits_of_scanBound hb1))
  by_cases full : (!wasDummy && t2.tooFull) = true
  · rw [if_pos full]
    have q1 := relayAll_perm t2 es1 (SetTable.grown es1.size)
    have q2 := relayAll_fits t2 es1 (SetTable.grown es1.size)
    have q3 := relayAll_ris t2 es1 (SetTable.grown es1.size)
    have q4 := relayAll_led t2 es1 (SetTable.grown es1.size)
    generalize relayAll t2 es1 (SetTable.grown es1.size) = Z at q1 q2 q3 q4 ⊢
    obtain ⟨es2, t3, gave⟩ := Z
    dsimp only at q1 q2 q3 q4 ⊢
    have sz : es2.size = es1.size := by rw [← Array.length_toList, q1.length_eq, Array.length_toList]
    have hb2 : es2.size < scanBound := sz ▸ hb1
    have st2 := store_at (es' := es2) (t' := t3) st1 rfl
    refine wpAny_bind (hg _ _ _ (wpAny_bind (wpAny_storeSet_of st1 rfl (wpAny_pure (hR _ (ch1.trans (Heap.SameBut.update _ a _)) ?_)) (fits_of_scanBound hb2))))
    exact ⟨_, es2, _, t3, st2, hex, rfl, fun e he => g1 e (q1.mem_iff.mp he), nd, (q1.map txtOf).trans pk, hb2, q2, q3, hl.imp id fun z => q4.trans z⟩
  · rw [if_neg full]
    exact wpAny_pure (hR _ ch1 ⟨_, es1, _, t2, st1, hex, rfl, g1, nd, pk, hb1, hf2, hr, hl⟩)
theorem add_hashed {k : Str} {tk : Tok} {Q : Bool → Shared → Prop} (R : SetS P w s.heap a ks) (room : ks.length + 1 < scanBound)
    (hQ : ∀ b h', Heap.SameBut a s.heap h' → SetS P w h' a (ins ks k) → Q b { s with heap := h' }) :
    wpAny (model P w) A (setAddHashed a (.str k tk) ((strKind P w).hash k)) Q E s := by
  obtain ⟨o, es, ep, t, ho, hex, hd, g, nd, pk, hb, hf, hr, hl⟩ := R
  have hn : es.size = ks.length := by rw [← pk.length_eq, List.length_map, Array.length_toList]
  have key : (strKind P w).is k (.str k tk) = true := strKind_is P w k tk
  have sc : (Value.str k tk).scannable = true := rfl
  have hel : ElemsOf (strKind P w) es.toList := gd_elems g
  unfold setAddHashed setAddHashedIn
  refine wpAny_holding (wpAny_bind (wpAny_setState_of ho hd hf ?_))
  dsimp only
  rw [byScan_of sc hb hel]
  simp only [↓reduceIte]
  unfold setAddByScan
  refine wpAny_bind (wpAny_bind (wpAny_rule (wpAny_bind (wpAny_setScan_of key ho hd hf hel ?_))))
  cases hfi : List.findIdx? (fun e => (strKind P w).is k e.2) es.toList with
  | some j =>
    obtain ⟨hj, pj, _⟩ := List.findIdx?_eq_some_iff_getElem.mp hfi
    have hin : k ∈ ks := pk.mem_iff.mp ((gd_mem g k).2 ⟨_, List.getElem_mem hj, pj⟩)
    have q := hQ false s.heap (Heap.SameBut.refl a s.heap) ⟨o, es, ep, t, ho, hex, hd, g, by unfold ins; rw [if_pos hin]; exact nd, by unfold ins; rw [if_pos hin]; exact pk, hb, hf, hr, hl⟩
    exact wpAny_pure (wpAny_pure q)
  | none =>
    have hno : k ∉ ks := fun z => by
      obtain ⟨e, he, q⟩ := (gd_mem g k).1 (pk.mem_iff.mpr z)
      have c := List.findIdx?_eq_none_iff.mp hfi e he
      rw [q] at c
      cases c
    dsimp only
    have gw : ∀ (b : Bool) {s₁ : Shared} {Q' : Unit → Shared → Prop}, Q' () s₁ → wpAny (model P w) A (match b with | true => rule "set.scan.the-table-gave-way" | false => pure ()) Q' E s₁ :=
      fun b s₁ Q' q => by cases b <;> first | exact wpAny_pure q | exact wpAny_rule q
    have p1 := layNew_perm t es ((strKind P w).hash k) (.str k tk)
    have p2 := layNew_fits t es ((strKind P w).hash k) (.str k tk)
    have p3 := layNew_ris t es ((strKind P w).hash k) (.str k tk) hr
    have p4 := layNew_led t es ((strKind P w).hash k) (.str k tk)
    generalize layNew t es ((strKind P w).hash k) (.str k tk) = Z at p1 p2 p3 p4 ⊢
    obtain ⟨es1, t1, wasDummy, gave⟩ := Z
    dsimp only at p1 p2 p3 p4 ⊢
    rw [Array.toList_push] at p1
    have pc : es1.toList.Perm (((strKind P w).hash k, Value.str k tk) :: es.toList) := p1.trans (List.perm_append_singleton _ _)
    have pk1 : (es1.toList.map txtOf).Perm (ins ks k) := by
      unfold ins
      rw [if_neg hno]
      exact (pc.map txtOf).trans (List.Perm.cons k pk)
    have nd1 : (ins ks k).Nodup := by
      unfold ins
      rw [if_neg hno]
      exact List.nodup_cons.mpr ⟨hno, nd⟩
    have g1 : ∀ e ∈ es1.toList, GdE P w e := fun e he => by
      rcases List.mem_cons.mp (pc.mem_iff.mp he) with z | z
      · exact ⟨k, tk, by rw [z], by rw [z]⟩
      · exact g e z
    have sz : es1.size = ks.length + 1 := by rw [← Array.length_toList, pc.length_eq, List.length_cons, Array.length_toList, hn]
    have hb1 : es1.size < scanBound := sz ▸ room
    have hled : w.params.followText "set-order" = true ∨ t1.led = true := hl.imp id fun z => p4.trans z
    refine wpAny_bind (gw _ ?_)
    split
    · refine wpAny_bind ?_
      rw [hashByValue_scannable 8 sc]
      refine wpAny_pure (add_tail ?_ ho hex hd g1 nd1 pk1 hb1 ?_ ?_ ?_ ?_)
      · intro b s₁ Q' q; cases b <;> first | exact wpAny_pure q | exact wpAny_rule q
      · first | (split <;> first | exact p2 | exact SetTable.fits_plain_off p2) | exact p2
      · first | (split <;> exact p3) | exact p3
      · first | (split <;> exact hled) | exact hled
      · exact fun h' sb r => wpAny_pure (hQ true h' sb r)
    · refine wpAny_bind (wpAny_pure ?_)
      simp only [↓reduceIte]
      refine add_tail ?_ ho hex hd g1 nd1 pk1 hb1 p2 p3 hled ?_
      · intro b s₁ Q' q; cases b <;> first | exact wpAny_pure q | exact wpAny_rule q
      · exact fun h' sb r => wpAny_pure (hQ true h' sb r)
/-- the set before anything is in it -/
abbrev s0 (w : World) : Obj := { cls := .type "set", dict := none, data := .set #[] 0 (.fresh 0 0 (!w.params.followText "set-order")) }
theorem set0 {h : Heap} {a : Addr} (g : h.get? a = some (s0 w)) : SetS P w h a [] :=
  ⟨_, #[], 0, _, g, ⟨rfl, rfl, rfl⟩, rfl, (fun e he => by simp at he), List.nodup_nil, (by simp), (by decide), rfl, List.Pairwise.nil, by
    show _ ∨ (!w.params.followText "set-order") = true
    cases w.params.followText "set-order"
    · exact .inr rfl
    · exact .inl rfl⟩
theorem new_led (x : Value) {Q₁ : Value → Shared → Prop} (h : Q₁ (.ref s.heap.objs.size) { s with heap := s.heap.push (s0 w) }) :
    codeAny (model P w) A (.call (.builtin "set.__new__") ⟨[.type "set", x], []⟩) (wants Q₁ E) s := by
  refine codeAny_of_tree ?_
  show wpAny _ A.in1 (do checkBuiltinCall "set.__new__" ⟨[.type "set", x], []⟩; again (.builtin "set.__new__" ⟨[.type "set", x], []⟩)) _ _ s
  refine wpAny_bind (wpAny_of_eq (PySem.F.newCall_set_one x) (wpAny_pure ⟨plainId_quiet F.plain_set_new _, codeAny_builtin F.entry_set_new ?_⟩))
  rw [Around.under_plainId F.plain_set_new _]
  unfold Builtin.«set.__new__» Builtin.Frozenset.newClass
  have sub := sub_set_self
  obtain ⟨hp, g, d, tk, os⟩ := s
  dsimp only
  wp_walk
  refine wpAny_askSetting (wpAny_pure ?_)
  dsimp only
  simp only [newObj]
  exact wpAny_bind (wpAny_alloc (wpAny_pure (wpAny_pure h)))
end
section
variable {prog : Program} {w : World} {A : Around} {R : Result → Shared → Prop} {I : Addr} {fp wr : List Addr} {G : Array GenState → Array GenState → Prop} {n : Nat} {Pv : Nat → Value → Prop} {St : Nat → Shared → Prop}
theorem loop (W : WalksS prog w A.in1 I fp wr G n Pv St) (S : Addr) (hSf : S ∉ fp) (xs : List Str) (hsz : xs.length = n) (few : (dd xs).length < 4000)
    (hval : ∀ i v, Pv i v → ∃ t, v = .str (xs.getD i Str.empty) t) :
    ∀ (k i : Nat) (s : Shared), n - i = k → i ≤ n → St i s → SetS prog w s.heap S (dd (xs.take i)) →
      (∀ s', Moved (S :: wr) G s s' → SetS prog w s'.heap S (dd (xs.take n)) → R (.ok (.ret .none)) s') →
      codeAny (model prog w) A (.builtin "set.update.loop" ⟨[.ref S, .ref I], []⟩) R s := by
  have hSw : S ∉ wr := fun h => hSf (W.sub _ h)
  have sub : ∀ b ∈ wr, b ∈ S :: wr := fun b hb => List.mem_cons_of_mem _ hb
  intro k
  induction k with
  | zero =>
    intro i s hk hi hst hS hR
    obtain rfl : i = n := by omega
    refine codeAny_builtin PyProof.Rows.F.entry_set_update_loop ?_
    rw [Around.under_plainId PyProof.Rows.F.plain_set_update_loop _]
    show wpAny _ A.in1 (pyNext (.ref I) >>= _) _ _ s
    refine wpAny_bind (W.done s _ _ hst fun s' hm => ?_)
    show wpAny _ A.in1 (ret Value.none) _ _ s'
    exact wpAny_pure (hR s' (hm.mono sub) (hS.at fun o e => hm.heap S _ hSw e))
  | succ k ih =>
    intro i s hk hi hst hS hR
    have hlt : i < n := by omega
    refine codeAny_builtin PyProof.Rows.F.entry_set_update_loop ?_
    rw [Around.under_plainId PyProof.Rows.F.plain_set_update_loop _]
    show wpAny _ A.in1 (pyNext (.ref I) >>= _) _ _ s
    refine wpAny_bind (W.item i s _ _ hlt hst fun v s' hP hst' hm => ?_)
    obtain ⟨t, rfl⟩ := hval i v hP
    have hS' : SetS prog w s'.heap S (dd (xs.take i)) := hS.at fun o e => hm.heap S _ hSw e
    have hl := dd_take xs i
    show wpAny _ A.in1 (holding [Value.str (xs.getD i Str.empty) t] (setAdd S (.str (xs.getD i Str.empty) t)) >>= _) _ _ s'
    refine wpAny_bind (wpAny_holding ?_)
    unfold setAdd
    refine wpAny_holding (wpAny_bind ((PySem.strKind prog w).pyHash (k := xs.getD i Str.empty) (strKind_is _ _ _ _) ?_))
    refine add_hashed (s := { s' with toks := s'.toks + 1 }) hS' (by unfold scanBound; omega) fun b h' hsb hS2 => ?_
    have hx : xs[i]? = some (xs.getD i Str.empty) := by
      rw [List.getD_eq_getElem?_getD, List.getElem?_eq_getElem (by omega)]
      rfl
    rw [← dd_next hx] at hS2
    refine wpAny_pure ⟨plainId_quiet PyProof.Rows.F.plain_set_update_loop _, ih (i + 1) _ (by omega) hlt (W.frame _ s' _ _ hst' (Nat.le_succ _) fun b hb o e => ?_) hS2 fun s'' hm'' hS'' => ?_⟩
    · rw [hsb.2 b (fun h : b = S => hSf (by rw [← h]; exact hb))]; exact e
    · refine hR s'' (Moved.trans W.gtrans ((hm.mono sub).then_heap (Nat.le_succ _) fun b o hb e => ?_) hm'') hS''
      rw [hsb.2 b (fun h : b = S => hb (by rw [h]; exact List.mem_cons_self))]; exact e
end
section
variable {prog : Program} {w : World} {A : Around} {E : Value → Shared → Prop} {s : Shared}
set_option maxHeartbeats 8000000 in
theorem call_set_list {l : Addr} {items : Array Value} {xs : List Str} {Q : Value → Shared → Prop}
    (hh : A.handled = none) (hl : s.heap.IsList l items) (hi : StrsAre items.toList xs) (few : (dd xs).length < 4000)
    (h : ∀ (h' : Heap) (tk : Nat), SetS prog w h' s.heap.objs.size (dd xs) → (∀ b o, b < s.heap.objs.size → s.heap.get? b = some o → h'.get? b = some o) → Q (.ref s.heap.objs.size) { s with heap := h', toks := tk }) :
    wpAny (model prog w) A (call (.type "set") [.ref l]) Q E s := by
  obtain ⟨c, tl, hmro⟩ := PySem.F.called_set.mro
  have hmade := PySem.F.called_set.made
  have hsub := PySem.F.called_set.sub
  refine wpAny_call (codeAny_of_tree ?_)
  show wpAny _ _ (callAny (.type "set") _) _ _ _
  refine wpAny_pure ⟨Code.quiet_builtin _ (by decide +kernel), codeAny_builtin PySem.F.entry_type_call ?_⟩
  rw [Around.under_plain (weight_type_call_type "set" [.ref l] []) rfl]
  have h1 := PySem.F.called_set.notType
  have h2 := PySem.F.called_set.canCreate
  have hct := PySem.F.typeCall_set_1 (.ref l)
  repeat (any_goals (first | assumption | wp_step))
  refine codeAny_mono (new_led (.ref l) (E := E) (Q₁ := fun obj s₁ => obj = .ref s.heap.objs.size ∧ s₁ = { s with heap := s.heap.push (s0 w) }) ⟨rfl, rfl⟩) fun r s₁ hr => ?_
  cases r with
  | error e => exact hr
  | ok fl =>
    cases fl with
    | ret obj =>
      obtain ⟨rfl, rfl⟩ := hr
      have hS : (s.heap.push (s0 w)).get? s.heap.objs.size = some (s0 w) := Heap.get?_push_size _ rfl
      have hT : Shared.TypeIs { s with heap := s.heap.push (s0 w) } (.ref s.heap.objs.size) "set" := ⟨_, hS, rfl⟩
      have hli := PySem.F.called_set.init.lookup
      have hbi := PySem.F.called_set.init.bind (.ref s.heap.objs.size)
      repeat (any_goals (first | assumption | wp_step))
      refine codeAny_mono (codeAny_call_builtin (R := wants (fun r s₂ => r = .none ∧ ∃ h' tk, s₂ = { s with heap := h', toks := tk } ∧
          SetS prog w h' s.heap.objs.size (dd xs) ∧ (∀ b o, b < s.heap.objs.size → s.heap.get? b = some o → h'.get? b = some o)) E) PySem.F.called_set.init.plain PySem.F.entry_set_init (check_set_init_1 hT ?_)) fun r₂ s₂ hr₂ => ?_
      · obtain ⟨ol, hol, hcl, nl, hdl⟩ := hl
        obtain ⟨ocls, odict, odata, oslots⟩ := ol
        simp only at hcl hdl
        subst hcl; subst hdl
        have hol' : (s.heap.push (s0 w)).get? l = some { cls := .type "list", dict := odict, data := .seq items nl, slots := oslots } := Heap.get?_push_of_some _ hol
        have n1 := PySem.F.sub_list_set
        have n2 := PySem.F.sub_list_frozenset
        have n3 : (Value.type "list" == Value.type "dict") = false := by decide
        have hl1 : (s.heap.push (s0 w)).IsList l items := ⟨_, hol', rfl, nl, rfl⟩
        unfold Builtin.«set.__init__» noKeywords Builtin.Frozenset.updateFrom
        generalize hPI : pyIter = PI
        wp_walk
        subst hPI
        refine wpAny_pyIter_list hl1 (wpAny_bind (wpAny_runValue ?_))
        have hlS : l < s.heap.objs.size := Heap.lt_size hol
        have hh3 : A.in1.in1.in1.handled = none := by simp [hh]
        have hneI : l ≠ (s.heap.push (s0 w)).objs.size := by
          rw [Heap.size_push]; exact Nat.ne_of_lt (Nat.lt_succ_of_lt hlS)
        have hSf : s.heap.objs.size ∉ [(s.heap.push (s0 w)).objs.size, l] := by
          rw [Heap.size_push]; simp only [List.mem_cons, List.mem_singleton, List.not_mem_nil, or_false, not_or]
          exact ⟨Nat.ne_of_lt (Nat.lt_succ_self _), Nat.ne_of_gt hlS⟩
        have hsz : xs.length = items.size := by rw [← StrsAre.len_eq hi, Array.length_toList]
        have hval : ∀ (i : Nat) (v : Value), items[i]? = some v → ∃ t, v = .str (xs.getD i Str.empty) t := fun i v hv => SS.strs_at hi i v (by rw [Array.getElem?_toList]; exact hv)
        refine loop ((Walks.list hh3 _ l hneI items).toS) s.heap.objs.size hSf xs hsz few hval (items.size - 0) 0 _ (by omega) (Nat.zero_le _)
          ⟨⟨_, Heap.get?_push_size _ rfl, rfl, rfl⟩, (hl1.push _)⟩ (set0 (Heap.get?_push_of_some _ hS)) ?_
        intro s' hm hS'
        obtain ⟨h', g', d', tk', os'⟩ := s'
        have eg : g' = s.gens := hm.gens
        have ed : d' = s.drawn := hm.drawn
        have eo : os' = s.os := hm.os
        subst eg; subst ed; subst eo
        rw [List.take_of_length_le (by omega)] at hS'
        show wpAny _ _ _ _ _ _
        refine wpAny_pure ?_
        show wpAny _ _ (ret Value.none) _ _ _
        refine wpAny_pure ⟨rfl, h', tk', rfl, hS', fun b o hb e => ?_⟩
        have hb1 : b ≠ s.heap.objs.size := Nat.ne_of_lt hb
        have hb2 : b ≠ (s.heap.push (s0 w)).objs.size := by
          rw [Heap.size_push]; exact Nat.ne_of_lt (Nat.lt_succ_of_lt hb)
        exact hm.heap b o (by simp only [List.mem_cons, List.mem_singleton, List.not_mem_nil, or_false, not_or]; exact ⟨hb1, hb2⟩) (Heap.get?_push_of_some _ (Heap.get?_push_of_some _ e))
      · cases r₂ with
        | error e => exact hr₂
        | ok fl₂ =>
          cases fl₂ with
          | ret r =>
            obtain ⟨rfl, h', tk, rfl, hS', hk'⟩ := hr₂
            repeat (any_goals (first | assumption | wp_step))
            exact h _ _ hS' hk'
          | _ => exact hr₂.elim
    | _ => exact hr.elim
set_option maxHeartbeats 8000000 in
theorem call_set_tuple {l : Addr} {items : Array Value} {xs : List Str} {Q : Value → Shared → Prop}
    (hh : A.handled = none) (hl : s.heap.IsTuple l items) (hi : StrsAre items.toList xs) (few : (dd xs).length < 4000)
    (h : ∀ (h' : Heap) (tk : Nat), SetS prog w h' s.heap.objs.size (dd xs) → (∀ b o, b < s.heap.objs.size → s.heap.get? b = some o → h'.get? b = some o) → Q (.ref s.heap.objs.size) { s with heap := h', toks := tk }) :
    wpAny (model prog w) A (call (.type "set") [.ref l]) Q E s := by
  obtain ⟨c, tl, hmro⟩ := PySem.F.called_set.mro
  have hmade := PySem.F.called_set.made
  have hsub := PySem.F.called_set.sub
  refine wpAny_call (codeAny_of_tree ?_)
  show wpAny _ _ (callAny (.type "set") _) _ _ _
  refine wpAny_pure ⟨Code.quiet_builtin _ (by decide +kernel), codeAny_builtin PySem.F.entry_type_call ?_⟩
  rw [Around.under_plain (weight_type_call_type "set" [.ref l] []) rfl]
  have h1 := PySem.F.called_set.notType
  have h2 := PySem.F.called_set.canCreate
  have hct := PySem.F.typeCall_set_1 (.ref l)
  repeat (any_goals (first | assumption | wp_step))
  refine codeAny_mono (new_led (.ref l) (E := E) (Q₁ := fun obj s₁ => obj = .ref s.heap.objs.size ∧ s₁ = { s with heap := s.heap.push (s0 w) }) ⟨rfl, rfl⟩) fun r s₁ hr => ?_
  cases r with
  | error e => exact hr
  | ok fl =>
    cases fl with
    | ret obj =>
      obtain ⟨rfl, rfl⟩ := hr
      have hS : (s.heap.push (s0 w)).get? s.heap.objs.size = some (s0 w) := Heap.get?_push_size _ rfl
      have hT : Shared.TypeIs { s with heap := s.heap.push (s0 w) } (.ref s.heap.objs.size) "set" := ⟨_, hS, rfl⟩
      have hli := PySem.F.called_set.init.lookup
      have hbi := PySem.F.called_set.init.bind (.ref s.heap.objs.size)
      repeat (any_goals (first | assumption | wp_step))
      refine codeAny_mono (codeAny_call_builtin (R := wants (fun r s₂ => r = .none ∧ ∃ h' tk, s₂ = { s with heap := h', toks := tk } ∧
          SetS prog w h' s.heap.objs.size (dd xs) ∧ (∀ b o, b < s.heap.objs.size → s.heap.get? b = some o → h'.get? b = some o)) E) PySem.F.called_set.init.plain PySem.F.entry_set_init (check_set_init_1 hT ?_)) fun r₂ s₂ hr₂ => ?_
      · obtain ⟨ol, hol, hcl, nl, hdl⟩ := hl
        obtain ⟨ocls, odict, odata, oslots⟩ := ol
        simp only at hcl hdl
        subst hcl; subst hdl
        have hol' : (s.heap.push (s0 w)).get? l = some { cls := .type "tuple", dict := odict, data := .seq items nl, slots := oslots } := Heap.get?_push_of_some _ hol
        have n1 := PySem.F.sub_tuple_set
        have n2 := PySem.F.sub_tuple_frozenset
        have n3 : (Value.type "tuple" == Value.type "dict") = false := by decide
        have hl1 : (s.heap.push (s0 w)).IsTuple l items := ⟨_, hol', rfl, nl, rfl⟩
        unfold Builtin.«set.__init__» noKeywords Builtin.Frozenset.updateFrom
        generalize hPI : pyIter = PI
        wp_walk
        subst hPI
        refine wpAny_pyIter_tuple hl1 (wpAny_bind (wpAny_runValue ?_))
        have hlS : l < s.heap.objs.size := Heap.lt_size hol
        have hh3 : A.in1.in1.in1.handled = none := by simp [hh]
        have hneI : l ≠ (s.heap.push (s0 w)).objs.size := by
          rw [Heap.size_push]; exact Nat.ne_of_lt (Nat.lt_succ_of_lt hlS)
        have hSf : s.heap.objs.size ∉ [(s.heap.push (s0 w)).objs.size, l] := by
          rw [Heap.size_push]; simp only [List.mem_cons, List.mem_singleton, List.not_mem_nil, or_false, not_or]
          exact ⟨Nat.ne_of_lt (Nat.lt_succ_self _), Nat.ne_of_gt hlS⟩
        have hsz : xs.length = items.size := by rw [← StrsAre.len_eq hi, Array.length_toList]
        have hval : ∀ (i : Nat) (v : Value), items[i]? = some v → ∃ t, v = .str (xs.getD i Str.empty) t := fun i v hv => SS.strs_at hi i v (by rw [Array.getElem?_toList]; exact hv)
        refine loop ((Walks.tuple hh3 _ l hneI items).toS) s.heap.objs.size hSf xs hsz few hval (items.size - 0) 0 _ (by omega) (Nat.zero_le _)
          ⟨⟨_, Heap.get?_push_size _ rfl, rfl, rfl⟩, (hl1.push _)⟩ (set0 (Heap.get?_push_of_some _ hS)) ?_
        intro s' hm hS'
        obtain ⟨h', g', d', tk', os'⟩ := s'
        have eg : g' = s.gens := hm.gens
        have ed : d' = s.drawn := hm.drawn
        have eo : os' = s.os := hm.os
        subst eg; subst ed; subst eo
        rw [List.take_of_length_le (by omega)] at hS'
        show wpAny _ _ _ _ _ _
        refine wpAny_pure ?_
        show wpAny _ _ (ret Value.none) _ _ _
        refine wpAny_pure ⟨rfl, h', tk', rfl, hS', fun b o hb e => ?_⟩
        have hb1 : b ≠ s.heap.objs.size := Nat.ne_of_lt hb
        have hb2 : b ≠ (s.heap.push (s0 w)).objs.size := by
          rw [Heap.size_push]; exact Nat.ne_of_lt (Nat.lt_succ_of_lt hb)
        exact hm.heap b o (by simp only [List.mem_cons, List.mem_singleton, List.not_mem_nil, or_false, not_or]; exact ⟨hb1, hb2⟩) (Heap.get?_push_of_some _ (Heap.get?_push_of_some _ e))
      · cases r₂ with
        | error e => exact hr₂
        | ok fl₂ =>
          cases fl₂ with
          | ret r =>
            obtain ⟨rfl, h', tk, rfl, hS', hk'⟩ := hr₂
            repeat (any_goals (first | assumption | wp_step))
            exact h _ _ hS' hk'
          | _ => exact hr₂.elim
    | _ => exact hr.elim
end
end Ts
namespace Ts
open PySem PySem.Spec PyProof.Rows L2
/-! ### the order of texts -/
def leS (a b : Str) : Bool := !ltCps b.cps.toList a.cps.toList
theorem leS_iff {a b : Str} : leS a b = true ↔ a.cps.toList ≤ b.cps.toList := by
  unfold leS
  rw [ltCps_eq, Bool.not_eq_true', decide_eq_false_iff_not]
  exact Iff.rfl
theorem leS_trans (a b c : Str) (h : leS a b = true) (k : leS b c = true) : leS a c = true := by
  rw [leS_iff] at *
  exact List.le_trans h k
theorem leS_total (a b : Str) : (leS a b || leS b a) = true := by
  rw [Bool.or_eq_true, leS_iff, leS_iff]
  exact List.le_total _ _
theorem leS_anti {a b : Str} (h : leS a b = true) (k : leS b a = true) : a = b := by
  rw [leS_iff] at *
  have e : a.cps.toList = b.cps.toList := List.le_antisymm h k
  have e2 : a.cps = b.cps := Array.toList_inj.mp e
  obtain ⟨x⟩ := a
  obtain ⟨y⟩ := b
  simp only at e2
  rw [e2]
/-- sorted -/
def srt (l : List Str) : List Str := l.mergeSort leS
theorem srt_perm (l : List Str) : (srt l).Perm l := List.mergeSort_perm l leS
theorem srt_pw (l : List Str) : (srt l).Pairwise fun a b => leS a b = true := List.pairwise_mergeSort leS_trans leS_total l
theorem pw_of_rising : ∀ (p : Str) (l : List Str), risingS p l = true → (p :: l).Pairwise fun a b => leS a b = true
  | p, [], _ => by simp
  | p, x :: r, h => by
    have h' : (!ltCps x.cps.toList p.cps.toList && risingS x r) = true := h
    rw [Bool.and_eq_true] at h'
    have ih := pw_of_rising x r h'.2
    have hx : leS p x = true := h'.1
    refine List.pairwise_cons.mpr ⟨fun y hy => ?_, ih⟩
    rcases List.mem_cons.mp hy with rfl | hy
    · exact hx
    · exact leS_trans _ _ _ hx ((List.pairwise_cons.mp ih).1 y hy)
theorem pw_of_sorted {l : List Str} (h : sortedS l = true) : l.Pairwise fun a b => leS a b = true := by
  cases l with
  | nil => exact List.Pairwise.nil
  | cons x r => exact pw_of_rising x r h
theorem pw_uniq {l m : List Str} (h : l.Perm m) (p : l.Pairwise fun a b => leS a b = true) (q : m.Pairwise fun a b => leS a b = true) : l = m :=
  List.Perm.eq_of_pairwise (le := fun a b => leS a b = true) (fun a b _ _ h k => leS_anti h k) p q h
theorem srt_uniq {l ys : List Str} (h : ys.Perm l) (s : sortedS ys = true) : ys = srt l := pw_uniq (h.trans (srt_perm l).symm) (pw_of_sorted s) (srt_pw l)
/-! ### sorted(set) -/
section
variable {P : Program} {w : World} {A : Around} {E : Value → Shared → Prop} {s : Shared} {a : Addr} {ks : List Str}
theorem strs_of : ∀ (l : List Value), (∀ v ∈ l, ∃ k tk, v = Value.str k tk) → ∃ ys, StrsAre l ys ∧ ys = l.map (fun v => match v with | .str k _ => k | _ => Str.empty)
  | [], _ => ⟨[], .nil, rfl⟩
  | v :: l, h => by
    obtain ⟨k, tk, rfl⟩ := h v (by simp)
    obtain ⟨ys, h1, h2⟩ := strs_of l fun u hu => h u (by simp [hu])
    exact ⟨k :: ys, .cons k tk h1, by rw [h2]; rfl⟩
theorem sorted_setS {Q : Value → Shared → Prop} (R : SetS P w s.heap a ks) (hh : A.handled = none) (h64 : ks.length < 64)
    (hQ : ∀ s' p (out : Array Value) (c : Nat) (ys : List Str), (∀ b o, s.heap.get? b = some o → s'.heap.get? b = some o) → s'.gens = s.gens → s'.os = s.os → s.heap.objs.size ≤ p →
      s'.heap.get? p = some (seqObj "list" out c) → StrsAre out.toList ys → ys.Perm ks → sortedS ys = true → Q (.ref p) s') :
    wpAny (model P w) A (call (.builtin "sorted") [.ref a]) Q E s := by
  obtain ⟨o, es, ep, t, ho, hex, hd, g, nd, pk, hb, hf, hr, hl⟩ := R
  have hn : es.size = ks.length := by rw [← pk.length_eq, List.length_map, Array.length_toList]
  refine Calls.call_function_entry kind_sorted plain_sorted entry_sorted (args_sorted1 _) ?_
  unfold Builtin.«sorted»
  refine wpAny_bind (m := checkCount "sorted" 1 1 _) (wpAny_pure ?_)
  refine wpAny_bind (collect_set (A := A.in1) hh ⟨o, ho, hex.1, hd⟩ hf hb hr hl fun s1 vs k1 hz g1 o1 pm => ?_)
  have len : vs.length = ks.length := by rw [pm.length_eq, List.length_map, Array.length_toList, hn]
  obtain ⟨zs, hS, ez⟩ := strs_of vs fun v hv => by
    obtain ⟨e, he, q⟩ := List.mem_map.mp (pm.mem_iff.mp hv)
    obtain ⟨k, tk, h1, _⟩ := g e he
    exact ⟨k, tk, by rw [← q]; exact h1⟩
  have pz : zs.Perm ks := by
    rw [ez]
    have q := pm.map (fun v : Value => match v with | .str k _ => k | _ => Str.empty)
    rw [List.map_map] at q
    exact q.trans pk
  refine wpAny_bind (wpAny_newList ?_ (by rw [len, sizeLine_eq]; omega))
  have hoL : (s1.heap.push (seqObj "list" vs.toArray 0)).get? s1.heap.objs.size = some (seqObj "list" vs.toArray 0) := Heap.get?_push_size _ rfl
  refine wpAny_bind (wpAny_holding (wpAny_call_entry slot_list_sort ⟨_, hoL, rfl⟩ entry_list_sort
    (list_sort_treeK strKind_oneLt hoL hS.keysOf (fun v₁ v₂ rest e => keyKind_strs (by rw [← e]; exact hS)) (by rw [len]; exact h64) fun st' hp hs => ⟨_, rfl, ?_⟩) (args_list_sort _)))
  obtain ⟨ys, q1, q2, q3⟩ := sorted_out_str hS hp hs
  obtain ⟨c, hc⟩ := sortedHeap_at (vs := vs) (out := (arrOf st').map (·.2)) hoL
  refine wpAny_pure ⟨_, rfl, hQ _ s1.heap.objs.size _ c ys (fun b u e => ?_) g1 o1 hz hc q1 (q2.trans pz) q3⟩
  have q := k1 b u e
  have hlt := Heap.lt_size q
  show (sortedHeap (s1.heap.push (seqObj "list" vs.toArray 0)) s1.heap.objs.size vs _).get? b = some u
  rw [sortedHeap_old (Nat.ne_of_lt hlt) (by rw [size_push']; exact Nat.lt_succ_of_lt hlt)]
  exact Heap.get?_push_of_some _ q
end
section
variable {X : Cx}
/-- a list or a tuple of texts -/
def TxtAt (K : PySem.W.Frag) (H : Hp) (l : Addr) (xs : List Str) : Prop := SqL K H l (xs.map V.str) ∨ SqT K H l (xs.map V.str)
theorem run_set {pins : List (Addr × Obj)} {σ : L2.St} {H : Hp} {s1 : Shared} {l : Addr} {xs : List Str} {E : Value → Shared → Prop} {Q : Value → Shared → Prop} (hc : X.calm = true) (I : Inv X pins σ H s1) (hq : TxtAt X.kx H l xs) (few : (dd xs).length < 4000)
    (h : ∀ (h' : Heap) (tk : Nat), SetS X.prog X.w h' s1.heap.objs.size (dd xs) → Inv X pins σ H { s1 with heap := h', toks := tk } → Q (.ref s1.heap.objs.size) { s1 with heap := h', toks := tk }) :
    wpAny (model X.prog X.w) X.A (call (.type "set") [.ref l]) Q E s1 := by
  rcases hq with hq | hq
  · obtain ⟨its, r, pl, hz⟩ := I.list hq
    exact call_set_list (I.ok.hd hc) pl.isList (by simpa using strsAre_of r) few fun h' tk hS hk => h h' tk hS (I.kept fun b o e => hk b o (Heap.lt_size e) e)
  · obtain ⟨its, r, pl, hz⟩ := I.tuple hq
    exact call_set_tuple (I.ok.hd hc) pl (by simpa using strsAre_of r) few fun h' tk hS hk => h h' tk hS (I.kept fun b o e => hk b o (Heap.lt_size e) e)
theorem run_sorted {pins : List (Addr × Obj)} {σ : L2.St} {H1 : Hp} {s2 : Shared} {a : Addr} {ks : List Str} {Q : VK} (hc : X.calm = true) (I2 : Inv X pins σ H1 s2) (hS : SetS X.prog X.w s2.heap a ks) (h64 : ks.length < 64)
    (q1 : ∀ p, H1 p = none → Q (.ref p) (upd H1 p (.lst ((srt ks).map V.str)))) : wpAny (model X.prog X.w) X.A (call (.builtin "sorted") [.ref a]) (EP X pins σ Q) X.xe s2 := by
  refine sorted_setS hS (I2.ok.hd hc) h64 fun s' p out c ys k g o hp hg hi pm so => ?_
  have ey := srt_uniq pm so
  have hlen : (ys.map V.str).length ≤ sizeLine := by rw [List.length_map, pm.length_eq, sizeLine_eq]; omega
  have hn : H1 p = none := I2.hok.fresh hp
  have J : Inv X pins σ (upd H1 p (.lst (ys.map V.str))) { s2 with heap := s'.heap, gens := s'.gens, drawn := s'.drawn, toks := s'.toks } :=
    I2.call (ch := []) (Un.laid k hp hn) (I2.hok.laid k hp ⟨hlen, out.toList, c, vals_of_strs hi, hg⟩) (by rw [g]; exact I2.bare) (fun _ z => nomatch z)
  have e : s' = { s2 with heap := s'.heap, gens := s'.gens, drawn := s'.drawn, toks := s'.toks } := by
    cases s'
    cases s2
    cases o
    rfl
  rw [e]
  rw [ey] at J
  exact ⟨.ref p, _, J, rfl, q1 p hn⟩
end
end Ts
namespace Mi
open PySem PySem.Spec PyProof.Rows L2
/-! ### len(set(..)), sorted(set(..)), sorted(..) of texts -/
def txtD (d : PyData) : Option (List Str) := match sqO d with
  | some ds => strsOf ds
  | none => none
theorem txtD_at {K : Frag} {G H : Hp} {v : V} {d : PyData} {xs : List Str} (e : txtD d = some xs) (r : Rp K G v d) (s : ∀ a o, G a = some o → H a = some o) : ∃ l, v = .ref l ∧ Ts.TxtAt K H l xs := by
  unfold txtD at e
  cases h : sqO d with
  | none => rw [h] at e; cases e
  | some ds =>
    rw [h] at e
    have ed := strsOf_eq e
    subst ed
    obtain ⟨t, a, vs, rfl, f, ra⟩ := r.fs h
    have ev := strs_rp ra
    subst ev
    have q := f.sq s
    cases t
    · exact ⟨a, rfl, .inl q⟩
    · exact ⟨a, rfl, .inr q⟩
def lenSetD (d : PyData) : Option PyData := match txtD d with
  | some xs => if xs.length < 4000 then some (.int (Ts.dd xs).length) else none
  | none => none
def sortSetD (d : PyData) : Option PyData := match txtD d with
  | some xs => if xs.length < 4000 ∧ (Ts.dd xs).length < 64 then some (.list ((Ts.srt (Ts.dd xs)).map .str)) else none
  | none => none
section
variable {X : Cx} {W : WX} {e : Expr} {m : MM PyData} {p p2 q pos : Pos}
theorem rpAll_strs {K : Frag} {G : Hp} : ∀ (xs : List Str), RpAll K G (xs.map V.str) (xs.map PyData.str)
  | [] => .nil
  | x :: xs => .cons (.str x) (rpAll_strs xs)
end
@[simp ↓] theorem lenSet_ok {P : PyData → Prop} {d : PyData} : okO (lenSetD d) P ↔ okO (txtD d) fun xs => xs.length < 4000 ∧ P (.int (Ts.dd xs).length) := by
  unfold lenSetD
  cases txtD d with
  | none => exact Iff.rfl
  | some xs => exact okO_if
@[simp ↓] theorem sortSet_ok {P : PyData → Prop} {d : PyData} : okO (sortSetD d) P ↔ okO (txtD d) fun xs => (xs.length < 4000 ∧ (Ts.dd xs).length < 64) ∧ P (.list ((Ts.srt (Ts.dd xs)).map .str)) := by
  unfold sortSetD
  cases txtD d with
  | none => exact Iff.rfl
  | some xs => exact okO_if
theorem strsOf_map : ∀ (xs : List Str), strsOf (xs.map PyData.str) = some xs
  | [] => rfl
  | x :: xs => by simp [strsOf, strsOf_map xs]
end Mi
/-! list.extend by a list or a tuple -/
namespace Mi
open PySem PySem.Spec PyProof.Rows L2
/-- x.extend(e) -/
def extM (i : Nat) (m : MM PyData) : MM PyData := bnd (chkL i) fun _ => bnd m fun d g => match g[i]?, sqO d with
  | some (.own t (.list ds)), some es => if ds.length + es.length ≤ sizeLine then .ok (.none, g.set i (.own t (.list (ds ++ es)))) else .error .stuck
  | _, _ => .error .stuck
/-- x = list(e): a list of one's own -/
def setLs (i : Nat) (m : MM PyData) : Gm → Out := fun g => onE (m g) fun d g' => match sqO d with
  | some ds => .nx (g'.set i (.own false (.list ds)))
  | none => .stuck
@[simp ↓] theorem sv_setLs {i : Nat} {m : MM PyData} {g : Gm} {PO : Out → Prop} : sv (setLs i m) g PO ↔ ev m g (fun d g' => okO (sqO d) fun ds => PO (.nx (g'.set i (.own false (.list ds))))) fun c g' => PO (.ex c g') := by
  unfold sv setLs
  rw [sv_onE]
  refine iff_of_eq (congrArg (fun h => ev m g h _) ?_)
  funext d g'
  cases sqO d <;> simp
@[simp ↓] theorem ev_extM {ma : MM PyData} {g : Gm} {Q : PyData → Gm → Prop} {X : String → Gm → Prop} {i : Nat} : ev (extM i ma) g Q X ↔ (atO g i fun _ d => okO (listOf d) fun _ => True) ∧ ev ma g (fun d g1 => atO g1 i fun t s => okO (listOf s) fun ds => okO (sqO d) fun es => ds.length + es.length ≤ sizeLine ∧ Q .none (g1.set i (.own t (.list (ds ++ es))))) X := by
  have e1 : ∀ (P : Unit → Gm → Prop), ev (chkL i) g P X ↔ (atO g i fun _ d => okO (listOf d) fun _ => True) ∧ P () g := by
    intro P
    rw [ev_chkL]
    unfold atO
    generalize g[i]? = s
    rcases s with _ | (_ | d | ⟨t, d⟩)
    · simp
    · simp
    · simp
    · cases d with
      | list ds => simp
      | _ => simp [listOf, okO]
  unfold extM
  rw [ev_bnd, e1]
  refine and_congr Iff.rfl ?_
  unfold ev bnd okE
  generalize ma g = r
  rcases r with (_ | ⟨c, g'⟩) | ⟨d, g'⟩
  · rfl
  · rfl
  · simp only
    unfold atO
    generalize g'[i]? = s
    rcases s with _ | (_ | e | ⟨t, e⟩)
    · rfl
    · rfl
    · rfl
    · cases e with
      | list ds =>
        generalize sqO d = so
        cases so with
        | none => rfl
        | some es =>
          simp only [okO_listOf, okO_some]
          by_cases h : ds.length + es.length ≤ sizeLine
          · rw [if_pos h]
            simp [h]
          · rw [if_neg h]
            simp [h]
      | _ =>
        generalize sqO d = so
        cases so <;> rfl
end Mi
/-! sorted of any row of texts; x.index(y), x.remove(y) of texts -/
namespace Ts
open PySem PySem.Spec PyProof.Rows L2
section
variable {X : Cx}
def rSortT (K : PySem.W.Frag) : List V → Hp → VK → Prop := fun vs H Q => ∃ (l : Addr) (xs : List Str), vs = [.ref l] ∧ TxtAt K H l xs ∧ ∀ p, H p = none → Q (.ref p) (upd H p (.lst ((srt xs).map V.str)))
theorem cr_sortT : CallR X (.builtin "sorted") (rSortT X.kx) := by
  intro pins s σ H vs us Q I r h
  obtain ⟨l, xs, rfl, hq, q⟩ := h
  rw [Vals.ref1 r]
  have main : ∀ (its : List Value) (T : String) (o : Obj) (n : Nat), (T = "list" ∨ T = "tuple") → s.heap.get? l = some o → o.cls = .type T → o.data = .seq its.toArray n → Vals (xs.map V.str) its → its.length ≤ sizeLine →
      wpAny (model X.prog X.w) X.A (call (.builtin "sorted") [.ref l]) (EP X pins σ Q) X.xe s := fun its T o n hT ho hc hd rv hz => by
    have hS := rv.strs
    refine Calls.call_function_entry kind_sorted plain_sorted entry_sorted (args_sorted1 _) ?_
    unfold Builtin.«sorted»
    refine wpAny_bind (m := checkCount "sorted" 1 1 _) (wpAny_pure ?_)
    refine wpAny_bind (wpAny_collect_seq l hT ho hc hd (fun h' hk => ?_) (by simpa using hz))
    have I1 : Inv X pins σ H { s with heap := h' } := I.kept (t' := s.toks) hk
    refine wpAny_bind (wpAny_newList ?_ hz)
    have hoL : (h'.push (seqObj "list" its.toArray.toList.toArray 0)).get? h'.objs.size = some (seqObj "list" its.toArray.toList.toArray 0) := Heap.get?_push_size _ rfl
    refine wpAny_bind (wpAny_holding (wpAny_call_entry slot_list_sort ⟨_, hoL, rfl⟩ entry_list_sort
      (list_sort_treeKAny strKind_oneLt (vs := its) hoL hS.keysOf (fun v₁ v₂ rest e => keyKind_strs (by rw [← e]; exact hS)) hz fun st' hp hs => ⟨_, rfl, ?_⟩) (args_list_sort _)))
    obtain ⟨ys, q1, q2, q3⟩ := sorted_out_str hS hp hs
    obtain ⟨c, hc⟩ := sortedHeap_at (vs := its) (out := (arrOf st').map (·.2)) hoL
    have ey := srt_uniq q2 q3
    have hlx := rv.length
    rw [List.length_map] at hlx
    have hlen : (ys.map V.str).length ≤ sizeLine := by rw [List.length_map, q2.length_eq, hlx]; exact hz
    have hfr : H h'.objs.size = none := I1.hok.fresh (Nat.le_refl _)
    have J : Inv X pins σ (upd H h'.objs.size (.lst (ys.map V.str))) { s with heap := sortedHeap (h'.push (seqObj "list" its.toArray.toList.toArray 0)) h'.objs.size its ((arrOf st').map (·.2)) } := by
      refine I1.laid (a := h'.objs.size) (t' := s.toks) (fun b u e => ?_) (Nat.le_refl _) ⟨hlen, ((arrOf st').map (·.2)).toList, c, vals_of_strs q1, by rw [Array.toArray_toList]; exact hc⟩
      have hlt := Heap.lt_size e
      rw [sortedHeap_old (Nat.ne_of_lt hlt) (by rw [size_push']; exact Nat.lt_succ_of_lt hlt)]
      exact Heap.get?_push_of_some _ e
    rw [ey] at J
    exact wpAny_pure ⟨_, rfl, .ref h'.objs.size, _, J, rfl, q h'.objs.size hfr⟩
  rcases hq with hq | hq
  · obtain ⟨its, rv, ⟨⟨cls, dd, dt, sl⟩, n, ho, hc, _, hd⟩, hz⟩ := I.list hq
    exact main its "list" _ n (.inl rfl) ho hc hd rv (by have := rv.length; omega)
  · obtain ⟨its, rv, ⟨⟨cls, dd, dt, sl⟩, ho, hc, n, hd⟩, hz⟩ := I.tuple hq
    exact main its "tuple" _ n (.inr rfl) ho hc hd rv (by have := rv.length; omega)
/-! ### remove -/
end
end Ts
namespace Mi
open PySem PySem.Spec PyProof.Rows L2
/-- sorted of a list or a tuple of texts -/
def sortTD (d : PyData) : Option PyData := match txtD d with
  | some xs => some (.list ((Ts.srt xs).map .str))
  | none => none
@[simp ↓] theorem sortT_ok {P : PyData → Prop} {d : PyData} : okO (sortTD d) P ↔ okO (txtD d) fun xs => P (.list ((Ts.srt xs).map .str)) := by
  unfold sortTD
  cases txtD d <;> exact Iff.rfl
end Mi
/-! whole numbers: sets, sorted, min, list(range), remove -/
namespace Ti
open PySem PySem.Spec PyProof.Rows L2
def txtOf (e : Int × Value) : Int := match e.2 with
  | .int k _ => k
  | _ => 0
theorem ints_at : ∀ {us : List Value} {xs : List Int}, IntsAre us xs → ∀ (i : Nat) (v : Value), us[i]? = some v → ∃ t, v = .int (xs.getD i 0) t
  | _, _, .nil, i, v, h => by simp at h
  | _, _, .cons n t hr, 0, v, h => by simp at h; exact ⟨t, by rw [← h] <;> rfl⟩
  | _, _, .cons n t hr, i + 1, v, h => by
    simp only [List.getElem?_cons_succ] at h
    obtain ⟨t', e⟩ := ints_at hr i v h
    exact ⟨t', by rw [e] <;> rfl⟩
def GdE (P : Program) (w : World) (e : Int × Value) : Prop := ∃ k tk, e.2 = Value.int k tk ∧ e.1 = (PySem.intKind P w).hash k
/-- the set of the texts ks at a -/
def SetS (P : Program) (w : World) (h : Heap) (a : Addr) (ks : List Int) : Prop :=
  ∃ o es ep t, h.get? a = some o ∧ o.ExactSet ∧ o.data = .set es ep t ∧ (∀ e ∈ es.toList, GdE P w e) ∧ ks.Nodup ∧ (es.toList.map txtOf).Perm ks ∧ es.size < scanBound ∧ t.fits es.size = true ∧ Ris t.place.toList ∧ (w.params.followText "set-order" = true ∨ t.led = true)
def ins (acc : List Int) (x : Int) : List Int := if x ∈ acc then acc else x :: acc
/-- the different ones -/
def dd (xs : List Int) : List Int := xs.foldl ins []
theorem dd_next {xs : List Int} {i : Nat} {x : Int} (h : xs[i]? = some x) : dd (xs.take (i + 1)) = ins (dd (xs.take i)) x := by
  unfold dd
  rw [List.take_add_one, h, List.foldl_append]
  rfl
theorem fold_up : ∀ (xs acc : List Int), acc.length ≤ (xs.foldl ins acc).length
  | [], acc => Nat.le_refl _
  | x :: xs, acc => by
    have := fold_up xs (ins acc x)
    have : acc.length ≤ (ins acc x).length := by
      unfold ins
      split
      · exact Nat.le_refl _
      · exact Nat.le_succ _
    simp only [List.foldl_cons]
    omega
theorem dd_take (xs : List Int) (i : Nat) : (dd (xs.take i)).length ≤ (dd xs).length := by
  have e : dd xs = (xs.drop i).foldl ins (dd (xs.take i)) := by
    unfold dd
    rw [← List.foldl_append, List.take_append_drop]
  rw [e]
  exact fold_up _ _
section
variable {P : Program} {w : World} {h h' : Heap} {a : Addr} {ks : List Int}
theorem SetS.at (R : SetS P w h a ks) (k : ∀ o, h.get? a = some o → h'.get? a = some o) : SetS P w h' a ks := by
  obtain ⟨o, es, ep, t, ho, r⟩ := R
  exact ⟨o, es, ep, t, k o ho, r⟩
theorem gd_elems {l : List (Int × Value)} (g : ∀ e ∈ l, GdE P w e) : ElemsOf (PySem.intKind P w) l := fun e he => by
  obtain ⟨k, tk, h1, h2⟩ := g e he
  exact ⟨⟨k, by rw [h1]; exact intKind_is P w k tk, h2⟩, by rw [h1] <;> rfl⟩
theorem gd_is {e : Int × Value} (g : GdE P w e) (k : Int) : (PySem.intKind P w).is k e.2 = true ↔ txtOf e = k := by
  obtain ⟨k0, tk, h1, _⟩ := g
  unfold txtOf
  rw [h1]
  show ((k0 == k) = true) ↔ k0 = k
  exact beq_iff_eq
theorem gd_mem {l : List (Int × Value)} (g : ∀ e ∈ l, GdE P w e) (k : Int) : k ∈ l.map txtOf ↔ ∃ e ∈ l, (PySem.intKind P w).is k e.2 = true := by
  rw [List.mem_map]
  exact ⟨fun ⟨e, he, q⟩ => ⟨e, he, (gd_is (g e he) k).2 q⟩, fun ⟨e, he, q⟩ => ⟨e, he, (gd_is (g e he) k).1 q⟩⟩
end
section
variable {P : Program} {w : World} {A : Around} {E : Value → Shared → Prop} {s : Shared} {a : Addr} {ks : List Int}
theorem add_tail {g : Bool → Sem Unit} (hg : ∀ (b : Bool) (s₁ : Shared) (Q' : Unit → Shared → Prop), Q' () s₁ → wpAny (model P w) A (g b) Q' E s₁)
    {o : Obj} {es : Array (Int × Value)} {ep : Nat} {t : SetTable} (ho : s.heap.get? a = some o) (hex : o.ExactSet) (hd : o.data = .set es ep t)
    {es1 : Array (Int × Value)} {t2 : SetTable} (g1 : ∀ e ∈ es1.toList, GdE P w e) (nd : ks.Nodup) (pk : (es1.toList.map txtOf).Perm ks)
    (hb1 : es1.size < scanBound) (hf2 : t2.fits es1.size = true) (hr : Ris t2.place.toList) (hl : w.params.followText "set-order" = true ∨ t2.led = true) {wasDummy : Bool} {R : Option Bool → Shared → Prop}
    (hR : ∀ h', Heap.SameBut a s.heap h' → SetS P w h' a ks → R (some true) { s with heap := h' }) :
    wpAny (model P w) A (do
        storeSet a es1 t2
        if (!wasDummy && t2.tooFull) = true then do
            g (relayAll t2 es1 (SetTable.grown es1.size)).2.2
            storeSet a (relayAll t2 es1 (SetTable.grown es1.size)).1 (relayAll t2 es1 (SetTable.grown es1.size)).2.1
            pure (some true)
          else pure (some true)) R E s := by
  have st1 := store_at (es' := es1) (t' := t2) ho hd
  have ch1 := Heap.SameBut.update s.heap a (Obj.putSet es1 t2)
  refine wpAny_bind (wpAny_storeSet_of ho hd ?_ (fits_of_scanBound hb1))
  by_cases full : (!wasDummy && t2.tooFull) = true
  · rw [if_pos full]
    have q1 := relayAll_perm t2 es1 (SetTable.grown es1.size)
    have q2 := relayAll_fits t2 es1 (SetTable.grown es1.size)
    have q3 := relayAll_ris t2 es1 (SetTable.grown es1.size)
    have q4 := relayAll_led t2 es1 (SetTable.grown es1.size)
    generalize relayAll t2 es1 (SetTable.grown es1.size) = Z at q1 q2 q3 q4 ⊢
    obtain ⟨es2, t3, gave⟩ := Z
    dsimp only at q1 q2 q3 q4 ⊢
    have sz : es2.size = es1.size := by rw [← Array.length_toList, q1.length_eq, Array.length_toList]
    have hb2 : es2.size < scanBound := sz ▸ hb1
    have st2 := store_at (es' := es2) (t' := t3) st1 rfl
    refine wpAny_bind (hg _ _ _ (wpAny_bind (wpAny_storeSet_of st1 rfl (wpAny_pure (hR _ (ch1.trans (Heap.SameBut.update _ a _)) ?_)) (fits_of_scanBound hb2))))
    exact ⟨_, es2, _, t3, st2, hex, rfl, fun e he => g1 e (q1.mem_iff.mp he), nd, (q1.map txtOf).trans pk, hb2, q2, q3, hl.imp id fun z => q4.trans z⟩
  · rw [if_neg full]
    exact wpAny_pure (hR _ ch1 ⟨_, es1, _, t2, st1, hex, rfl, g1, nd, pk, hb1, hf2, hr, hl⟩)
theorem add_hashed {k : Int} {tk : Tok} {Q : Bool → Shared → Prop} (R : SetS P w s.heap a ks) (room : ks.length + 1 < scanBound)
    (hQ : ∀ b h', Heap.SameBut a s.heap h' → SetS P w h' a (ins ks k) → Q b { s with heap := h' }) :
    wpAny (model P w) A (setAddHashed a (.int k tk) ((PySem.intKind P w).hash k)) Q E s := by
  obtain ⟨o, es, ep, t, ho, hex, hd, g, nd, pk, hb, hf, hr, hl⟩ := R
  have hn : es.size = ks.length := by rw [← pk.length_eq, List.length_map, Array.length_toList]
  have key : (PySem.intKind P w).is k (.int k tk) = true := intKind_is P w k tk
  have sc : (Value.int k tk).scannable = true := rfl
  have hel : ElemsOf (PySem.intKind P w) es.toList := gd_elems g
  unfold setAddHashed setAddHashedIn
  refine wpAny_holding (wpAny_bind (wpAny_setState_of ho hd hf ?_))
  dsimp only
  rw [byScan_of sc hb hel]
  simp only [↓reduceIte]
  unfold setAddByScan
  refine wpAny_bind (wpAny_bind (wpAny_rule (wpAny_bind (wpAny_setScan_of key ho hd hf hel ?_))))
  cases hfi : List.findIdx? (fun e => (PySem.intKind P w).is k e.2) es.toList with
  | some j =>
    obtain ⟨hj, pj, _⟩ := List.findIdx?_eq_some_iff_getElem.mp hfi
    have hin : k ∈ ks := pk.mem_iff.mp ((gd_mem g k).2 ⟨_, List.getElem_mem hj, pj⟩)
    have q := hQ false s.heap (Heap.SameBut.refl a s.heap) ⟨o, es, ep, t, ho, hex, hd, g, by unfold ins; rw [if_pos hin]; exact nd, by unfold ins; rw [if_pos hin]; exact pk, hb, hf, hr, hl⟩
    exact wpAny_pure (wpAny_pure q)
  | none =>
    have hno : k ∉ ks := fun z => by
      obtain ⟨e, he, q⟩ := (gd_mem g k).1 (pk.mem_iff.mpr z)
      have c := List.findIdx?_eq_none_iff.mp hfi e he
      rw [q] at c
      cases c
    dsimp only
    have gw : ∀ (b : Bool) {s₁ : Shared} {Q' : Unit → Shared → Prop}, Q' () s₁ → wpAny (model P w) A (match b with | true => rule "set.scan.the-table-gave-way" | false => pure ()) Q' E s₁ :=
      fun b s₁ Q' q => by cases b <;> first | exact wpAny_pure q | exact wpAny_rule q
    have p1 := layNew_perm t es ((PySem.intKind P w).hash k) (.int k tk)
    have p2 := layNew_fits t es ((PySem.intKind P w).hash k) (.int k tk)
    have p3 := layNew_ris t es ((PySem.intKind P w).hash k) (.int k tk) hr
    have p4 := layNew_led t es ((PySem.intKind P w).hash k) (.int k tk)
    generalize layNew t es ((PySem.intKind P w).hash k) (.int k tk) = Z at p1 p2 p3 p4 ⊢
    obtain ⟨es1, t1, wasDummy, gave⟩ := Z
    dsimp only at p1 p2 p3 p4 ⊢
    rw [Array.toList_push] at p1
    have pc : es1.toList.Perm (((PySem.intKind P w).hash k, Value.int k tk) :: es.toList) := p1.trans (List.perm_append_singleton _ _)
    have pk1 : (es1.toList.map txtOf).Perm (ins ks k) := by
      unfold ins
      rw [if_neg hno]
      exact (pc.map txtOf).trans (List.Perm.cons k pk)
    have nd1 : (ins ks k).Nodup := by
      unfold ins
      rw [if_neg hno]
      exact List.nodup_cons.mpr ⟨hno, nd⟩
    have g1 : ∀ e ∈ es1.toList, GdE P w e := fun e he => by
      rcases List.mem_cons.mp (pc.mem_iff.mp he) with z | z
      · exact ⟨k, tk, by rw [z], by rw [z]⟩
      · exact g e z
    have sz : es1.size = ks.length + 1 := by rw [← Array.length_toList, pc.length_eq, List.length_cons, Array.length_toList, hn]
    have hb1 : es1.size < scanBound := sz ▸ room
    have hled : w.params.followText "set-order" = true ∨ t1.led = true := hl.imp id fun z => p4.trans z
    refine wpAny_bind (gw _ ?_)
    split
    · refine wpAny_bind ?_
      rw [hashByValue_scannable 8 sc]
      refine wpAny_pure (add_tail ?_ ho hex hd g1 nd1 pk1 hb1 ?_ ?_ ?_ ?_)
      · intro b s₁ Q' q; cases b <;> first | exact wpAny_pure q | exact wpAny_rule q
      · first | (split <;> first | exact p2 | exact SetTable.fits_plain_off p2) | exact p2
      · first | (split <;> exact p3) | exact p3
      · first | (split <;> exact hled) | exact hled
      · exact fun h' sb r => wpAny_pure (hQ true h' sb r)
    · refine wpAny_bind (wpAny_pure ?_)
      simp only [↓reduceIte]
      refine add_tail ?_ ho hex hd g1 nd1 pk1 hb1 p2 p3 hled ?_
      · intro b s₁ Q' q; cases b <;> first | exact wpAny_pure q | exact wpAny_rule q
      · exact fun h' sb r => wpAny_pure (hQ true h' sb r)
/-- the set before anything is in it -/
abbrev s0 (w : World) : Obj := { cls := .type "set", dict := none, data := .set #[] 0 (.fresh 0 0 (!w.params.followText "set-order")) }
theorem set0 {h : Heap} {a : Addr} (g : h.get? a = some (s0 w)) : SetS P w h a [] :=
  ⟨_, #[], 0, _, g, ⟨rfl, rfl, rfl⟩, rfl, (fun e he => by simp at he), List.nodup_nil, (by simp), (by decide), rfl, List.Pairwise.nil, by
    show _ ∨ (!w.params.followText "set-order") = true
    cases w.params.followText "set-order"
    · exact .inr rfl
    · exact .inl rfl⟩
theorem new_led (x : Value) {Q₁ : Value → Shared → Prop} (h : Q₁ (.ref s.heap.objs.size) { s with heap := s.heap.push (s0 w) }) :
    codeAny (model P w) A (.call (.builtin "set.__new__") ⟨[.type "set", x], []⟩) (wants Q₁ E) s := by
  refine codeAny_of_tree ?_
  show wpAny _ A.in1 (do checkBuiltinCall "set.__new__" ⟨[.type "set", x], []⟩; again (.builtin "set.__new__" ⟨[.type "set", x], []⟩)) _ _ s
  refine wpAny_bind (wpAny_of_eq (PySem.F.newCall_set_one x) (wpAny_pure ⟨plainId_quiet F.plain_set_new _, codeAny_builtin F.entry_set_new ?_⟩))
  rw [Around.under_plainId F.plain_set_new _]
  unfold Builtin.«set.__new__» Builtin.Frozenset.newClass
  have sub := sub_set_self
  obtain ⟨hp, g, d, tk, os⟩ := s
  dsimp only
  wp_walk
  refine wpAny_askSetting (wpAny_pure ?_)
  dsimp only
  simp only [newObj]
  exact wpAny_bind (wpAny_alloc (wpAny_pure (wpAny_pure h)))
end
section
variable {prog : Program} {w : World} {A : Around} {R : Result → Shared → Prop} {I : Addr} {fp wr : List Addr} {G : Array GenState → Array GenState → Prop} {n : Nat} {Pv : Nat → Value → Prop} {St : Nat → Shared → Prop}
theorem loop (W : WalksS prog w A.in1 I fp wr G n Pv St) (S : Addr) (hSf : S ∉ fp) (xs : List Int) (hsz : xs.length = n) (few : (dd xs).length < 4000)
    (hval : ∀ i v, Pv i v → ∃ t, v = .int (xs.getD i 0) t) :
    ∀ (k i : Nat) (s : Shared), n - i = k → i ≤ n → St i s → SetS prog w s.heap S (dd (xs.take i)) →
      (∀ s', Moved (S :: wr) G s s' → SetS prog w s'.heap S (dd (xs.take n)) → R (.ok (.ret .none)) s') →
      codeAny (model prog w) A (.builtin "set.update.loop" ⟨[.ref S, .ref I], []⟩) R s := by
  have hSw : S ∉ wr := fun h => hSf (W.sub _ h)
  have sub : ∀ b ∈ wr, b ∈ S :: wr := fun b hb => List.mem_cons_of_mem _ hb
  intro k
  induction k with
  | zero =>
    intro i s hk hi hst hS hR
    obtain rfl : i = n := by omega
    refine codeAny_builtin PyProof.Rows.F.entry_set_update_loop ?_
    rw [Around.under_plainId PyProof.Rows.F.plain_set_update_loop _]
    show wpAny _ A.in1 (pyNext (.ref I) >>= _) _ _ s
    refine wpAny_bind (W.done s _ _ hst fun s' hm => ?_)
    show wpAny _ A.in1 (ret Value.none) _ _ s'
    exact wpAny_pure (hR s' (hm.mono sub) (hS.at fun o e => hm.heap S _ hSw e))
  | succ k ih =>
    intro i s hk hi hst hS hR
    have hlt : i < n := by omega
    refine codeAny_builtin PyProof.Rows.F.entry_set_update_loop ?_
    rw [Around.under_plainId PyProof.Rows.F.plain_set_update_loop _]
    show wpAny _ A.in1 (pyNext (.ref I) >>= _) _ _ s
    refine wpAny_bind (W.item i s _ _ hlt hst fun v s' hP hst' hm => ?_)
    obtain ⟨t, rfl⟩ := hval i v hP
    have hS' : SetS prog w s'.heap S (dd (xs.take i)) := hS.at fun o e => hm.heap S _ hSw e
    have hl := dd_take xs i
    show wpAny _ A.in1 (holding [Value.int (xs.getD i 0) t] (setAdd S (.int (xs.getD i 0) t)) >>= _) _ _ s'
    refine wpAny_bind (wpAny_holding ?_)
    unfold setAdd
    refine wpAny_holding (wpAny_bind ((PySem.intKind prog w).pyHash (k := xs.getD i 0) (intKind_is _ _ _ _) ?_))
    refine add_hashed (s := { s' with toks := s'.toks + 1 }) hS' (by unfold scanBound; omega) fun b h' hsb hS2 => ?_
    have hx : xs[i]? = some (xs.getD i 0) := by
      rw [List.getD_eq_getElem?_getD, List.getElem?_eq_getElem (by omega)]
      rfl
    rw [← dd_next hx] at hS2
    refine wpAny_pure ⟨plainId_quiet PyProof.Rows.F.plain_set_update_loop _, ih (i + 1) _ (by omega) hlt (W.frame _ s' _ _ hst' (Nat.le_succ _) fun b hb o e => ?_) hS2 fun s'' hm'' hS'' => ?_⟩
    · rw [hsb.2 b (fun h : b = S => hSf (by rw [← h]; exact hb))]; exact e
    · refine hR s'' (Moved.trans W.gtrans ((hm.mono sub).then_heap (Nat.le_succ _) fun b o hb e => ?_) hm'') hS''
      rw [hsb.2 b (fun h : b = S => hb (by rw [h]; exact List.mem_cons_self))]; exact e
end
section
variable {prog : Program} {w : World} {A : Around} {E : Value → Shared → Prop} {s : Shared}
set_option maxHeartbeats 8000000 in
theorem call_set_list {l : Addr} {items : Array Value} {xs : List Int} {Q : Value → Shared → Prop}
    (hh : A.handled = none) (hl : s.heap.IsList l items) (hi : IntsAre items.toList xs) (few : (dd xs).length < 4000)
    (h : ∀ (h' : Heap) (tk : Nat), SetS prog w h' s.heap.objs.size (dd xs) → (∀ b o, b < s.heap.objs.size → s.heap.get? b = some o → h'.get? b = some o) → Q (.ref s.heap.objs.size) { s with heap := h', toks := tk }) :
    wpAny (model prog w) A (call (.type "set") [.ref l]) Q E s := by
  obtain ⟨c, tl, hmro⟩ := PySem.F.called_set.mro
  have hmade := PySem.F.called_set.made
  have hsub := PySem.F.called_set.sub
  refine wpAny_call (codeAny_of_tree ?_)
  show wpAny _ _ (callAny (.type "set") _) _ _ _
  refine wpAny_pure ⟨Code.quiet_builtin _ (by decide +kernel), codeAny_builtin PySem.F.entry_type_call ?_⟩
  rw [Around.under_plain (weight_type_call_type "set" [.ref l] []) rfl]
  have h1 := PySem.F.called_set.notType
  have h2 := PySem.F.called_set.canCreate
  have hct := PySem.F.typeCall_set_1 (.ref l)
  repeat (any_goals (first | assumption | wp_step))
  refine codeAny_mono (new_led (.ref l) (E := E) (Q₁ := fun obj s₁ => obj = .ref s.heap.objs.size ∧ s₁ = { s with heap := s.heap.push (s0 w) }) ⟨rfl, rfl⟩) fun r s₁ hr => ?_
  cases r with
  | error e => exact hr
  | ok fl =>
    cases fl with
    | ret obj =>
      obtain ⟨rfl, rfl⟩ := hr
      have hS : (s.heap.push (s0 w)).get? s.heap.objs.size = some (s0 w) := Heap.get?_push_size _ rfl
      have hT : Shared.TypeIs { s with heap := s.heap.push (s0 w) } (.ref s.heap.objs.size) "set" := ⟨_, hS, rfl⟩
      have hli := PySem.F.called_set.init.lookup
      have hbi := PySem.F.called_set.init.bind (.ref s.heap.objs.size)
      repeat (any_goals (first | assumption | wp_step))
      refine codeAny_mono (codeAny_call_builtin (R := wants (fun r s₂ => r = .none ∧ ∃ h' tk, s₂ = { s with heap := h', toks := tk } ∧
          SetS prog w h' s.heap.objs.size (dd xs) ∧ (∀ b o, b < s.heap.objs.size → s.heap.get? b = some o → h'.get? b = some o)) E) PySem.F.called_set.init.plain PySem.F.entry_set_init (check_set_init_1 hT ?_)) fun r₂ s₂ hr₂ => ?_
      · obtain ⟨ol, hol, hcl, nl, hdl⟩ := hl
        obtain ⟨ocls, odict, odata, oslots⟩ := ol
        simp only at hcl hdl
        subst hcl; subst hdl
        have hol' : (s.heap.push (s0 w)).get? l = some { cls := .type "list", dict := odict, data := .seq items nl, slots := oslots } := Heap.get?_push_of_some _ hol
        have n1 := PySem.F.sub_list_set
        have n2 := PySem.F.sub_list_frozenset
        have n3 : (Value.type "list" == Value.type "dict") = false := by decide
        have hl1 : (s.heap.push (s0 w)).IsList l items := ⟨_, hol', rfl, nl, rfl⟩
        unfold Builtin.«set.__init__» noKeywords Builtin.Frozenset.updateFrom
        generalize hPI : pyIter = PI
        wp_walk
        subst hPI
        refine wpAny_pyIter_list hl1 (wpAny_bind (wpAny_runValue ?_))
        have hlS : l < s.heap.objs.size := Heap.lt_size hol
        have hh3 : A.in1.in1.in1.handled = none := by simp [hh]
        have hneI : l ≠ (s.heap.push (s0 w)).objs.size := by
          rw [Heap.size_push]; exact Nat.ne_of_lt (Nat.lt_succ_of_lt hlS)
        have hSf : s.heap.objs.size ∉ [(s.heap.push (s0 w)).objs.size, l] := by
          rw [Heap.size_push]; simp only [List.mem_cons, List.mem_singleton, List.not_mem_nil, or_false, not_or]
          exact ⟨Nat.ne_of_lt (Nat.lt_succ_self _), Nat.ne_of_gt hlS⟩
        have hsz : xs.length = items.size := by rw [← hi.length, Array.length_toList]
        have hval : ∀ (i : Nat) (v : Value), items[i]? = some v → ∃ t, v = .int (xs.getD i 0) t := fun i v hv => ints_at hi i v (by rw [Array.getElem?_toList]; exact hv)
        refine loop ((Walks.list hh3 _ l hneI items).toS) s.heap.objs.size hSf xs hsz few hval (items.size - 0) 0 _ (by omega) (Nat.zero_le _)
          ⟨⟨_, Heap.get?_push_size _ rfl, rfl, rfl⟩, (hl1.push _)⟩ (set0 (Heap.get?_push_of_some _ hS)) ?_
        intro s' hm hS'
        obtain ⟨h', g', d', tk', os'⟩ := s'
        have eg : g' = s.gens := hm.gens
        have ed : d' = s.drawn := hm.drawn
        have eo : os' = s.os := hm.os
        subst eg; subst ed; subst eo
        rw [List.take_of_length_le (by omega)] at hS'
        show wpAny _ _ _ _ _ _
        refine wpAny_pure ?_
        show wpAny _ _ (ret Value.none) _ _ _
        refine wpAny_pure ⟨rfl, h', tk', rfl, hS', fun b o hb e => ?_⟩
        have hb1 : b ≠ s.heap.objs.size := Nat.ne_of_lt hb
        have hb2 : b ≠ (s.heap.push (s0 w)).objs.size := by
          rw [Heap.size_push]; exact Nat.ne_of_lt (Nat.lt_succ_of_lt hb)
        exact hm.heap b o (by simp only [List.mem_cons, List.mem_singleton, List.not_mem_nil, or_false, not_or]; exact ⟨hb1, hb2⟩) (Heap.get?_push_of_some _ (Heap.get?_push_of_some _ e))
      · cases r₂ with
        | error e => exact hr₂
        | ok fl₂ =>
          cases fl₂ with
          | ret r =>
            obtain ⟨rfl, h', tk, rfl, hS', hk'⟩ := hr₂
            repeat (any_goals (first | assumption | wp_step))
            exact h _ _ hS' hk'
          | _ => exact hr₂.elim
    | _ => exact hr.elim
set_option maxHeartbeats 8000000 in
theorem call_set_tuple {l : Addr} {items : Array Value} {xs : List Int} {Q : Value → Shared → Prop}
    (hh : A.handled = none) (hl : s.heap.IsTuple l items) (hi : IntsAre items.toList xs) (few : (dd xs).length < 4000)
    (h : ∀ (h' : Heap) (tk : Nat), SetS prog w h' s.heap.objs.size (dd xs) → (∀ b o, b < s.heap.objs.size → s.heap.get? b = some o → h'.get? b = some o) → Q (.ref s.heap.objs.size) { s with heap := h', toks := tk }) :
    wpAny (model prog w) A (call (.type "set") [.ref l]) Q E s := by
  obtain ⟨c, tl, hmro⟩ := PySem.F.called_set.mro
  have hmade := PySem.F.called_set.made
  have hsub := PySem.F.called_set.sub
  refine wpAny_call (codeAny_of_tree ?_)
  show wpAny _ _ (callAny (.type "set") _) _ _ _
  refine wpAny_pure ⟨Code.quiet_builtin _ (by decide +kernel), codeAny_builtin PySem.F.entry_type_call ?_⟩
  rw [Around.under_plain (weight_type_call_type "set" [.ref l] []) rfl]
  have h1 := PySem.F.called_set.notType
  have h2 := PySem.F.called_set.canCreate
  have hct := PySem.F.typeCall_set_1 (.ref l)
  repeat (any_goals (first | assumption | wp_step))
  refine codeAny_mono (new_led (.ref l) (E := E) (Q₁ := fun obj s₁ => obj = .ref s.heap.objs.size ∧ s₁ = { s with heap := s.heap.push (s0 w) }) ⟨rfl, rfl⟩) fun r s₁ hr => ?_
  cases r with
  | error e => exact hr
  | ok fl =>
    cases fl with
    | ret obj =>
      obtain ⟨rfl, rfl⟩ := hr
      have hS : (s.heap.push (s0 w)).get? s.heap.objs.size = some (s0 w) := Heap.get?_push_size _ rfl
      have hT : Shared.TypeIs { s with heap := s.heap.push (s0 w) } (.ref s.heap.objs.size) "set" := ⟨_, hS, rfl⟩
      have hli := PySem.F.called_set.init.lookup
      have hbi := PySem.F.called_set.init.bind (.ref s.heap.objs.size)
      repeat (any_goals (first | assumption | wp_step))
      refine codeAny_mono (codeAny_call_builtin (R := wants (fun r s₂ => r = .none ∧ ∃ h' tk, s₂ = { s with heap := h', toks := tk } ∧
          SetS prog w h' s.heap.objs.size (dd xs) ∧ (∀ b o, b < s.heap.objs.size → s.heap.get? b = some o → h'.get? b = some o)) E) PySem.F.called_set.init.plain PySem.F.entry_set_init (check_set_init_1 hT ?_)) fun r₂ s₂ hr₂ => ?_
      · obtain ⟨ol, hol, hcl, nl, hdl⟩ := hl
        obtain ⟨ocls, odict, odata, oslots⟩ := ol
        simp only at hcl hdl
        subst hcl; subst hdl
        have hol' : (s.heap.push (s0 w)).get? l = some { cls := .type "tuple", dict := odict, data := .seq items nl, slots := oslots } := Heap.get?_push_of_some _ hol
        have n1 := PySem.F.sub_tuple_set
        have n2 := PySem.F.sub_tuple_frozenset
        have n3 : (Value.type "tuple" == Value.type "dict") = false := by decide
        have hl1 : (s.heap.push (s0 w)).IsTuple l items := ⟨_, hol', rfl, nl, rfl⟩
        unfold Builtin.«set.__init__» noKeywords Builtin.Frozenset.updateFrom
        generalize hPI : pyIter = PI
        wp_walk
        subst hPI
        refine wpAny_pyIter_tuple hl1 (wpAny_bind (wpAny_runValue ?_))
        have hlS : l < s.heap.objs.size := Heap.lt_size hol
        have hh3 : A.in1.in1.in1.handled = none := by simp [hh]
        have hneI : l ≠ (s.heap.push (s0 w)).objs.size := by
          rw [Heap.size_push]; exact Nat.ne_of_lt (Nat.lt_succ_of_lt hlS)
        have hSf : s.heap.objs.size ∉ [(s.heap.push (s0 w)).objs.size, l] := by
          rw [Heap.size_push]; simp only [List.mem_cons, List.mem_singleton, List.not_mem_nil, or_false, not_or]
          exact ⟨Nat.ne_of_lt (Nat.lt_succ_self _), Nat.ne_of_gt hlS⟩
        have hsz : xs.length = items.size := by rw [← hi.length, Array.length_toList]
        have hval : ∀ (i : Nat) (v : Value), items[i]? = some v → ∃ t, v = .int (xs.getD i 0) t := fun i v hv => ints_at hi i v (by rw [Array.getElem?_toList]; exact hv)
        refine loop ((Walks.tuple hh3 _ l hneI items).toS) s.heap.objs.size hSf xs hsz few hval (items.size - 0) 0 _ (by omega) (Nat.zero_le _)
          ⟨⟨_, Heap.get?_push_size _ rfl, rfl, rfl⟩, (hl1.push _)⟩ (set0 (Heap.get?_push_of_some _ hS)) ?_
        intro s' hm hS'
        obtain ⟨h', g', d', tk', os'⟩ := s'
        have eg : g' = s.gens := hm.gens
        have ed : d' = s.drawn := hm.drawn
        have eo : os' = s.os := hm.os
        subst eg; subst ed; subst eo
        rw [List.take_of_length_le (by omega)] at hS'
        show wpAny _ _ _ _ _ _
        refine wpAny_pure ?_
        show wpAny _ _ (ret Value.none) _ _ _
        refine wpAny_pure ⟨rfl, h', tk', rfl, hS', fun b o hb e => ?_⟩
        have hb1 : b ≠ s.heap.objs.size := Nat.ne_of_lt hb
        have hb2 : b ≠ (s.heap.push (s0 w)).objs.size := by
          rw [Heap.size_push]; exact Nat.ne_of_lt (Nat.lt_succ_of_lt hb)
        exact hm.heap b o (by simp only [List.mem_cons, List.mem_singleton, List.not_mem_nil, or_false, not_or]; exact ⟨hb1, hb2⟩) (Heap.get?_push_of_some _ (Heap.get?_push_of_some _ e))
      · cases r₂ with
        | error e => exact hr₂
        | ok fl₂ =>
          cases fl₂ with
          | ret r =>
            obtain ⟨rfl, h', tk, rfl, hS', hk'⟩ := hr₂
            repeat (any_goals (first | assumption | wp_step))
            exact h _ _ hS' hk'
          | _ => exact hr₂.elim
    | _ => exact hr.elim
end
end Ti
namespace Ti
open PySem PySem.Spec PyProof.Rows L2
def srt (l : List Int) : List Int := l.mergeSort fun a b => decide (a ≤ b)
theorem srt_perm (l : List Int) : (srt l).Perm l := List.mergeSort_perm l _
theorem srt_pw (l : List Int) : (srt l).Pairwise fun a b => a ≤ b := by
  have h := List.pairwise_mergeSort (le := fun a b : Int => decide (a ≤ b)) (fun a b c h k => by simp at *; omega) (fun a b => by simp; omega) l
  exact h.imp fun h => by simpa using h
theorem pw_uniq {l m : List Int} (h : l.Perm m) (p : l.Pairwise fun a b => a ≤ b) (q : m.Pairwise fun a b => a ≤ b) : l = m :=
  List.Perm.eq_of_pairwise (le := fun a b : Int => a ≤ b) (fun a b _ _ h k => by omega) p q h
theorem srt_uniq {l ys : List Int} (h : ys.Perm l) (s : ys.Pairwise fun a b => a ≤ b) : ys = srt l := pw_uniq (h.trans (srt_perm l).symm) s (srt_pw l)
section
variable {P : Program} {w : World} {A : Around} {E : Value → Shared → Prop} {s : Shared} {a : Addr} {ks : List Int}
theorem ints_of' : ∀ (l : List Value), (∀ v ∈ l, ∃ k tk, v = Value.int k tk) → ∃ ys, IntsAre l ys ∧ ys = l.map (fun v => match v with | .int k _ => k | _ => 0)
  | [], _ => ⟨[], .nil, rfl⟩
  | v :: l, h => by
    obtain ⟨k, tk, rfl⟩ := h v (by simp)
    obtain ⟨ys, h1, h2⟩ := ints_of' l fun u hu => h u (by simp [hu])
    exact ⟨k :: ys, .cons k tk h1, by rw [h2]; rfl⟩
theorem sorted_set {Q : Value → Shared → Prop} (R : SetS P w s.heap a ks) (hh : A.handled = none) (hl0 : ks.length ≤ sizeLine)
    (hQ : ∀ s' p (out : Array Value) (c : Nat) (ys : List Int), (∀ b o, s.heap.get? b = some o → s'.heap.get? b = some o) → s'.gens = s.gens → s'.os = s.os → s.heap.objs.size ≤ p →
      s'.heap.get? p = some (seqObj "list" out c) → IntsAre out.toList ys → ys.Perm ks → ys.Pairwise (· ≤ ·) → Q (.ref p) s') :
    wpAny (model P w) A (call (.builtin "sorted") [.ref a]) Q E s := by
  obtain ⟨o, es, ep, t, ho, hex, hd, g, nd, pk, hb, hf, hr, hl⟩ := R
  have hn : es.size = ks.length := by rw [← pk.length_eq, List.length_map, Array.length_toList]
  refine Calls.call_function_entry kind_sorted plain_sorted entry_sorted (args_sorted1 _) ?_
  unfold Builtin.«sorted»
  refine wpAny_bind (m := checkCount "sorted" 1 1 _) (wpAny_pure ?_)
  refine wpAny_bind (collect_set (A := A.in1) hh ⟨o, ho, hex.1, hd⟩ hf hb hr hl fun s1 vs k1 hz g1 o1 pm => ?_)
  have len : vs.length = ks.length := by rw [pm.length_eq, List.length_map, Array.length_toList, hn]
  obtain ⟨zs, hS, ez⟩ := ints_of' vs fun v hv => by
    obtain ⟨e, he, q⟩ := List.mem_map.mp (pm.mem_iff.mp hv)
    obtain ⟨k, tk, h1, _⟩ := g e he
    exact ⟨k, tk, by rw [← q]; exact h1⟩
  have pz : zs.Perm ks := by
    rw [ez]
    have q := pm.map (fun v : Value => match v with | .int k _ => k | _ => 0)
    rw [List.map_map] at q
    exact q.trans pk
  refine wpAny_bind (wpAny_newList ?_ (by rw [len]; exact hl0))
  have hoL : (s1.heap.push (seqObj "list" vs.toArray 0)).get? s1.heap.objs.size = some (seqObj "list" vs.toArray 0) := Heap.get?_push_size _ rfl
  refine wpAny_bind (wpAny_holding (wpAny_call_entry slot_list_sort ⟨_, hoL, rfl⟩ entry_list_sort
    (list_sort_treeAny hoL hS (by rw [len]; exact hl0) fun out ys q1 q2 q3 => ⟨_, rfl, ?_⟩) (args_list_sort _)))
  obtain ⟨c, hc⟩ := sortedHeap_at (vs := vs) (out := out) hoL
  refine wpAny_pure ⟨_, rfl, hQ _ s1.heap.objs.size _ c ys (fun b u e => ?_) g1 o1 hz hc q1 (q2.trans pz) q3⟩
  have q := k1 b u e
  have hlt := Heap.lt_size q
  show (sortedHeap (s1.heap.push (seqObj "list" vs.toArray 0)) s1.heap.objs.size vs _).get? b = some u
  rw [sortedHeap_old (Nat.ne_of_lt hlt) (by rw [size_push']; exact Nat.lt_succ_of_lt hlt)]
  exact Heap.get?_push_of_some _ q
end
section
variable {X : Cx}
def IntAt (K : PySem.W.Frag) (H : Hp) (l : Addr) (xs : List Int) : Prop := SqL K H l (xs.map V.int) ∨ SqT K H l (xs.map V.int)
theorem run_set {pins : List (Addr × Obj)} {σ : L2.St} {H : Hp} {s1 : Shared} {l : Addr} {xs : List Int} {E : Value → Shared → Prop} {Q : Value → Shared → Prop} (hc : X.calm = true) (I : Inv X pins σ H s1) (hq : IntAt X.kx H l xs) (few : (dd xs).length < 4000)
    (h : ∀ (h' : Heap) (tk : Nat), SetS X.prog X.w h' s1.heap.objs.size (dd xs) → Inv X pins σ H { s1 with heap := h', toks := tk } → Q (.ref s1.heap.objs.size) { s1 with heap := h', toks := tk }) :
    wpAny (model X.prog X.w) X.A (call (.type "set") [.ref l]) Q E s1 := by
  rcases hq with hq | hq
  · obtain ⟨its, r, pl, hz⟩ := I.list hq
    exact call_set_list (I.ok.hd hc) pl.isList (by simpa using ints_of_vals r) few fun h' tk hS hk => h h' tk hS (I.kept fun b o e => hk b o (Heap.lt_size e) e)
  · obtain ⟨its, r, pl, hz⟩ := I.tuple hq
    exact call_set_tuple (I.ok.hd hc) pl (by simpa using ints_of_vals r) few fun h' tk hS hk => h h' tk hS (I.kept fun b o e => hk b o (Heap.lt_size e) e)
theorem run_sorted {pins : List (Addr × Obj)} {σ : L2.St} {H1 : Hp} {s2 : Shared} {a : Addr} {ks : List Int} {Q : VK} (hc : X.calm = true) (I2 : Inv X pins σ H1 s2) (hS : SetS X.prog X.w s2.heap a ks) (h64 : ks.length ≤ sizeLine)
    (q1 : ∀ p, H1 p = none → Q (.ref p) (upd H1 p (.lst ((srt ks).map V.int)))) : wpAny (model X.prog X.w) X.A (call (.builtin "sorted") [.ref a]) (EP X pins σ Q) X.xe s2 := by
  refine sorted_set hS (I2.ok.hd hc) h64 fun s' p out c ys k g o hp hg hi pm so => ?_
  have ey := srt_uniq pm so
  have hlen : (ys.map V.int).length ≤ sizeLine := by rw [List.length_map, pm.length_eq]; exact h64
  have hn : H1 p = none := I2.hok.fresh hp
  have J : Inv X pins σ (upd H1 p (.lst (ys.map V.int))) { s2 with heap := s'.heap, gens := s'.gens, drawn := s'.drawn, toks := s'.toks } :=
    I2.call (ch := []) (Un.laid k hp hn) (I2.hok.laid k hp ⟨hlen, out.toList, c, vals_of_ints hi, hg⟩) (by rw [g]; exact I2.bare) (fun _ z => nomatch z)
  have e : s' = { s2 with heap := s'.heap, gens := s'.gens, drawn := s'.drawn, toks := s'.toks } := by
    cases s'
    cases s2
    cases o
    rfl
  rw [e]
  rw [ey] at J
  exact ⟨.ref p, _, J, rfl, q1 p hn⟩
/-- sorted of a list or a tuple of whole numbers -/
def rSortT (K : PySem.W.Frag) : List V → Hp → VK → Prop := fun vs H Q => ∃ (l : Addr) (xs : List Int), vs = [.ref l] ∧ IntAt K H l xs ∧ ∀ p, H p = none → Q (.ref p) (upd H p (.lst ((srt xs).map V.int)))
theorem cr_sortT : CallR X (.builtin "sorted") (rSortT X.kx) := by
  intro pins s σ H vs us Q I r h
  obtain ⟨l, xs, rfl, hq, q⟩ := h
  rw [Vals.ref1 r]
  have main : ∀ (its : List Value) (T : String) (o : Obj) (n : Nat), (T = "list" ∨ T = "tuple") → s.heap.get? l = some o → o.cls = .type T → o.data = .seq its.toArray n → Vals (xs.map V.int) its → its.length ≤ sizeLine →
      wpAny (model X.prog X.w) X.A (call (.builtin "sorted") [.ref l]) (EP X pins σ Q) X.xe s := fun its T o n hT ho hc hd rv hz => by
    have hS := ints_of_vals rv
    refine Calls.call_function_entry kind_sorted plain_sorted entry_sorted (args_sorted1 _) ?_
    unfold Builtin.«sorted»
    refine wpAny_bind (m := checkCount "sorted" 1 1 _) (wpAny_pure ?_)
    refine wpAny_bind (wpAny_collect_seq l hT ho hc hd (fun h' hk => ?_) (by simpa using hz))
    have I1 : Inv X pins σ H { s with heap := h' } := I.kept (t' := s.toks) hk
    refine wpAny_bind (wpAny_newList ?_ hz)
    have hoL : (h'.push (seqObj "list" its.toArray.toList.toArray 0)).get? h'.objs.size = some (seqObj "list" its.toArray.toList.toArray 0) := Heap.get?_push_size _ rfl
    refine wpAny_bind (wpAny_holding (wpAny_call_entry slot_list_sort ⟨_, hoL, rfl⟩ entry_list_sort
      (list_sort_treeAny (vs := its) hoL hS hz fun out ys q1 q2 q3 => ⟨_, rfl, ?_⟩) (args_list_sort _)))
    obtain ⟨c, hc⟩ := sortedHeap_at (vs := its) (out := out) hoL
    have ey := srt_uniq q2 q3
    have hlx := rv.length
    rw [List.length_map] at hlx
    have hlen : (ys.map V.int).length ≤ sizeLine := by rw [List.length_map, q2.length_eq, hlx]; exact hz
    have hfr : H h'.objs.size = none := I1.hok.fresh (Nat.le_refl _)
    have J : Inv X pins σ (upd H h'.objs.size (.lst (ys.map V.int))) { s with heap := sortedHeap (h'.push (seqObj "list" its.toArray.toList.toArray 0)) h'.objs.size its out } := by
      refine I1.laid (a := h'.objs.size) (t' := s.toks) (fun b u e => ?_) (Nat.le_refl _) ⟨hlen, out.toList, c, vals_of_ints q1, by rw [Array.toArray_toList]; exact hc⟩
      have hlt := Heap.lt_size e
      rw [sortedHeap_old (Nat.ne_of_lt hlt) (by rw [size_push']; exact Nat.lt_succ_of_lt hlt)]
      exact Heap.get?_push_of_some _ e
    rw [ey] at J
    exact wpAny_pure ⟨_, rfl, .ref h'.objs.size, _, J, rfl, q h'.objs.size hfr⟩
  rcases hq with hq | hq
  · obtain ⟨its, rv, ⟨⟨cls, dd, dt, sl⟩, n, ho, hc, _, hd⟩, hz⟩ := I.list hq
    exact main its "list" _ n (.inl rfl) ho hc hd rv (by have := rv.length; omega)
  · obtain ⟨its, rv, ⟨⟨cls, dd, dt, sl⟩, ho, hc, n, hd⟩, hz⟩ := I.tuple hq
    exact main its "tuple" _ n (.inr rfl) ho hc hd rv (by have := rv.length; omega)
end
end Ti
namespace Mi
open PySem PySem.Spec PyProof.Rows L2
/-! ### whole numbers -/
def intsD (d : PyData) : Option (List Int) := match sqO d with
  | some ds => intsOf ds
  | none => none
theorem intsD_at {K : Frag} {G H : Hp} {v : V} {d : PyData} {xs : List Int} (e : intsD d = some xs) (r : Rp K G v d) (s : ∀ a o, G a = some o → H a = some o) : ∃ l, v = .ref l ∧ Ti.IntAt K H l xs := by
  unfold intsD at e
  cases h : sqO d with
  | none => rw [h] at e; cases e
  | some ds =>
    rw [h] at e
    obtain ⟨t, a, vs, rfl, f, ra⟩ := r.fs h
    have ev := intsOf_rp ra e
    subst ev
    have q := f.sq s
    cases t
    · exact ⟨a, rfl, .inl q⟩
    · exact ⟨a, rfl, .inr q⟩
theorem rpAll_intsV {K : Frag} {G : Hp} : ∀ (xs : List Int), RpAll K G (xs.map V.int) (xs.map PyData.int)
  | [] => .nil
  | x :: xs => .cons (.int x) (rpAll_intsV xs)
def sortI (d : PyData) : Option PyData := match intsD d with
  | some xs => some (.list ((Ti.srt xs).map .int))
  | none => none
theorem ho_sortI {K : Frag} : Op1 K (fun x => Ti.rSortT K [x]) sortI := by
  intro x d z G H Q h rx s k
  unfold sortI at h
  cases et : intsD d with
  | none => rw [et] at h; cases h
  | some xs =>
    rw [et] at h
    cases h
    obtain ⟨l, rfl, ht⟩ := intsD_at et (rx.rp s) (fun _ _ e => e)
    refine ⟨l, xs, rfl, ht, fun p hp => ?_⟩
    have gr := Gr.new (o := .lst ((Ti.srt xs).map V.int)) s hp
    exact k _ _ _ gr (.lst upd_same (rpAll_intsV _))
/-- x.remove(e) of whole numbers -/
def remD (ds : List PyData) (e : PyData) : Option (List PyData) := match intsOf ds, e with
  | some xs, .int a => if a ∈ xs then some ((xs.erase a).map .int) else none
  | _, _ => none
def remM (i : Nat) (m : MM PyData) : MM PyData := bnd (chkL i) fun _ => bnd m fun d g => match g[i]? with
  | some (.own t (.list ds)) => (match remD ds d with
    | some es => .ok (.none, g.set i (.own t (.list es)))
    | none => .error .stuck)
  | _ => .error .stuck
@[simp ↓] theorem ev_remM {ma : MM PyData} {g : Gm} {Q : PyData → Gm → Prop} {X : String → Gm → Prop} {i : Nat} : ev (remM i ma) g Q X ↔ (atO g i fun _ d => okO (listOf d) fun _ => True) ∧ ev ma g (fun d g1 => atO g1 i fun t s => okO (listOf s) fun ds => okO (remD ds d) fun es => Q .none (g1.set i (.own t (.list es)))) X := by
  have e1 : ∀ (P : Unit → Gm → Prop), ev (chkL i) g P X ↔ (atO g i fun _ d => okO (listOf d) fun _ => True) ∧ P () g := by
    intro P
    rw [ev_chkL]
    unfold atO
    generalize g[i]? = s
    rcases s with _ | (_ | d | ⟨t, d⟩)
    · simp
    · simp
    · simp
    · cases d with
      | list ds => simp
      | _ => simp [listOf, okO]
  unfold remM
  rw [ev_bnd, e1]
  refine and_congr Iff.rfl ?_
  unfold ev bnd okE
  generalize ma g = r
  rcases r with (_ | ⟨c, g'⟩) | ⟨d, g'⟩
  · rfl
  · rfl
  · simp only
    unfold atO
    generalize g'[i]? = s
    rcases s with _ | (_ | e | ⟨t, e⟩)
    · rfl
    · rfl
    · rfl
    · cases e with
      | list ds =>
        simp only [okO_listOf]
        cases remD ds d <;> rfl
      | _ => rfl
end Mi
/-! a comprehension over a list of one's own, which stays one's own -/
namespace Mi
open PySem PySem.Spec PyProof.Rows L2
section
variable {K : Frag} {F : Frm} {σ σ' : L2.St} {g g' : Gm} {G H G' H' : Hp}
/-- the frame of all that is there, the slot's own object among it -/
def snapI (F : Frm) (σ : L2.St) (g : Gm) (G H : Hp) (i : Nat) : Frm := ⟨fun p => ∃ (j : Nat) (t : Bool) (d : PyData), j ≠ i ∧ g[j]? = some (.own t d) ∧ σ[j]? = some (some (.ref p)), G, H, F.p0⟩
theorem set_own {g : Gm} {i j : Nat} {t : Bool} {d : PyData} (h : (g.set i .dead)[j]? = some (.own t d)) : j ≠ i ∧ g[j]? = some (.own t d) := by
  by_cases q : i = j
  · subst q
    by_cases hi : i < g.length
    · rw [List.getElem?_set_self hi] at h; cases h
    · rw [List.getElem?_eq_none (by simpa using hi)] at h; cases h
  · rw [List.getElem?_set_ne q] at h
    exact ⟨fun e => q e.symm, h⟩
theorem set_dat {g : Gm} {i j : Nat} {d : PyData} {x : Sl} (hx : ∀ e, x ≠ .dat e) (h : (g.set i x)[j]? = some (.dat d)) : g[j]? = some (.dat d) := by
  by_cases q : i = j
  · subst q
    by_cases hi : i < g.length
    · rw [List.getElem?_set_self hi] at h; cases h; exact absurd rfl (hx d)
    · rw [List.getElem?_eq_none (by simpa using hi)] at h; cases h
  · rw [List.getElem?_set_ne q] at h
    exact h
theorem At.snapI (A : At K F σ g G H) (i : Nat) : At K (Mi.snapI F σ g G H i) σ (g.set i .dead) G H := ⟨A.ex, Same.refl _, fun _ _ h _ => h, fun _ _ _ _ => rfl, fun _ h => h, by simpa using A.len, fun j d h => A.pur j d (set_dat (fun _ e => by cases e) h), fun j t d h => by
  obtain ⟨ne, h'⟩ := set_own h
  obtain ⟨p, h1, h2, h3, h4, h5⟩ := A.own j _ d h'
  exact ⟨p, h1, h2, h3, .inl ⟨j, t, d, ne, h', h1⟩, h5⟩, fun j k t u d e p h1 h2 => A.inj j k t u d e p (set_own h1).2 (set_own h2).2⟩
theorem snapI_not (A : At K F σ g G H) {i : Nat} {t : Bool} {d : PyData} {p : Addr} (hg : g[i]? = some (.own t d)) (hs : σ[i]? = some (some (.ref p))) : ¬ (Mi.snapI F σ g G H i).S p := fun ⟨j, u, e, ne, h1, h2⟩ => ne (A.inj j i u t e d p h1 hg h2 hs)
theorem At.thaw (A : At K F σ g G H) {i : Nat} {t : Bool} {d : PyData} (hg : g[i]? = some (.own t d)) (sg : Same G G') (B : At K (Mi.snapI F σ g G H i) σ g' G' H') (hd : g'[i]? = some .dead) : At K F σ (g'.set i (.own t d)) G' H' := by
  have ns : ∀ {a o}, F.H a = some o → ¬ F.S a → ¬ (Mi.snapI F σ g G H i).S a := fun {a o} e s ⟨j, t, d, _, h1, h2⟩ => by
    obtain ⟨p, q1, q2, q3, q4, _⟩ := A.own j _ d h1
    rw [h2] at q1
    cases q1
    rcases q4 with q4 | q4
    · exact s q4
    · rw [q4] at e; cases e
  obtain ⟨p, p1, p2, p3, p4, p5⟩ := A.own i t d hg
  have np := snapI_not A hg p1
  obtain ⟨o, ho⟩ := p3.some
  have hp' : H' p = some o := B.h0 p o ho np
  have gp' : G' p = none := (B.f0 p o ho np).trans p2
  have hi : i < g'.length := (List.getElem?_eq_some_iff.mp hd).1
  have un : ∀ {j : Nat} {u : Bool} {e : PyData}, j ≠ i → (g'.set i (.own t d))[j]? = some (.own u e) → g'[j]? = some (.own u e) := fun {j u e} q z => by
    rw [List.getElem?_set_ne (fun w => q w.symm)] at z; exact z
  have other : ∀ {j : Nat} {u : Bool} {e : PyData}, g'[j]? = some (.own u e) → σ[j]? ≠ some (some (.ref p)) := fun {j u e} z w => by
    obtain ⟨p', q1, q2, q3, q4, _⟩ := B.own j u e z
    rw [w] at q1
    cases q1
    rcases q4 with q4 | q4
    · exact np q4
    · have : H p = none := q4
      rw [ho] at this; cases this
  refine ⟨B.ex, A.g0.trans B.g0, fun a o e s => B.h0 a o (A.h0 a o e s) (ns e s), fun a o e s => (B.f0 a o (A.h0 a o e s) (ns e s)).trans (A.f0 a o e s), fun a e => A.n0 a (B.n0 a e), by simpa using B.len, fun j e h => B.pur j e (set_dat (fun _ w => by cases w) h), fun j u e h => ?_, fun j k u v e e' q h1 h2 h3 h4 => ?_⟩
  · by_cases q : j = i
    · subst q
      rw [List.getElem?_set_self hi] at h
      cases h
      exact ⟨p, p1, gp', p3.up sg (by rw [hp', ho]), p4, p5⟩
    · obtain ⟨p', q1, q2, q3, q4, q5⟩ := B.own j u e (un q h)
      refine ⟨p', q1, q2, q3, ?_, q5⟩
      rcases q4 with ⟨k, t2, e2, _, z1, z2⟩ | q4
      · obtain ⟨p2, y1, _, _, y4, _⟩ := A.own k _ e2 z1
        rw [z2] at y1
        cases y1
        exact y4
      · exact .inr (A.n0 p' q4)
  · by_cases q1 : j = i
    · by_cases q2 : k = i
      · rw [q1, q2]
      · exfalso
        rw [q1, p1] at h3
        cases h3
        exact other (un q2 h2) h4
    · by_cases q2 : k = i
      · exfalso
        rw [q2, p1] at h4
        cases h4
        exact other (un q1 h1) h3
      · exact B.inj j k u v e e' q (un q1 h1) (un q2 h2) h3 h4
theorem Nob.thaw (A : At K F σ g G H) {i : Nat} {t : Bool} {d : PyData} {D : Addr} (hg : g[i]? = some (.own t d)) (n : Nob (Mi.snapI F σ g G H i) σ g' G' H' D) : Nob F σ (g'.set i (.own t d)) G' H' D := by
  have hD : H D = none := n.nf
  refine ⟨n.ng, A.n0 D hD, n.nh, fun j u e h w => ?_⟩
  by_cases q : j = i
  · subst q
    obtain ⟨p, p1, p2, p3, _⟩ := A.own j t d hg
    rw [w] at p1
    cases p1
    obtain ⟨o, ho⟩ := p3.some
    rw [hD] at ho; cases ho
  · rw [List.getElem?_set_ne (fun w => q w.symm)] at h
    exact n.no j u e h w
end
/-- what is walked, as long as the frame stands -/
structure ItRepF (K : Frag) (F : Frm) (G : Hp) (J : It) (ds : List PyData) : Prop where
  stop : ∀ G1 H1, Same G G1 → Same G1 H1 → (∀ a o, F.H a = some o → ¬ F.S a → H1 a = some o) → J.stop ds.length H1
  go : ∀ i d G1 H1, ds[i]? = some d → Same G G1 → Same G1 H1 → (∀ a o, F.H a = some o → ¬ F.S a → H1 a = some o) → J.go i H1
  yld : ∀ i d G1 H1 v H2, ds[i]? = some d → Same G G1 → Same G1 H1 → (∀ a o, F.H a = some o → ¬ F.S a → H1 a = some o) → J.yld i H1 v H2 → ∃ G2, Gr G1 H1 G2 H2 ∧ Rp K G2 v d
/-- [.. for .. in x ..], x a list of one's own -/
def compP (i : Nat) (vs : List Nat) (b : PyData → Gm → Option Gm) (tt : MM Bool) (te : MM PyData) : MM (List PyData) := fun g => match g[i]? with
  | some (.own t (.list ds)) => if ds.length ≤ sizeLine then (match compL vs b tt te ds (wipeG (g.set i .dead) vs) with
    | .ok (zs, g') => (match g'[i]? with
      | some .dead => .ok (zs, g'.set i (.own t (.list ds)))
      | _ => .error .stuck)
    | .error _ => .error .stuck) else .error .stuck
  | _ => .error .stuck
theorem lc_coreP {K : Frag} {mg : Mg} {F : Frm} {σ : L2.St} {g0 gf : Gm} {G1 H1 : Hp} {vs js : List Nat} {b : PyData → Gm → Option Gm} {tt : MM Bool} {te : MM PyData} {ds zs : List PyData} {J : It} {D : Addr} {Q : VK} (hj : ∀ j ∈ js, j ∈ vs) (B0 : At K F σ g0 G1 H1) (hJ : ItRepF K F G1 J ds) (hD : H1 D = none) (hl : ds.length ≤ sizeLine)
    (ec : compL vs b tt te ds (wipeG g0 vs) = .ok (zs, gf)) (k3 : ∀ G' H', At K F σ gf G' H' → Same G1 G' → ∀ D xs, Nob F σ gf G' H' D → H' D = some (.lst xs) → RpAll K G' xs zs → Q (.ref D) H') :
    ∃ W : Nat → Nat → Hp → Prop, (∃ m, W 0 m (upd H1 D (.lst []))) ∧ ∀ i m H, W i m H →
  (J.stop i H ∧ Q (.ref D) H) ∨ (J.go i H ∧ ∃ Nx : Hp → Prop, (∀ H', Nx H' → ∃ m', m' < m ∧ W (i + 1) m' H') ∧ ∀ x H', J.yld i H x H' → cG K js b x (wipe σ vs) H' fun σ2 H2 => wipe σ2 vs = wipe σ vs ∧ cT K mg W0 tt σ2 H2 fun b H3 =>
    if b = true then cE K mg W0 te σ2 H3 fun y H4 => ∃ acc, H4 D = some (.lst acc) ∧ acc.length < sizeLine ∧ Nx (upd H4 D (.lst (acc ++ [y]))) else Nx H3) := by
  have start : ∃ gi Gi acc zacc zr, At K F (wipe σ vs) gi Gi (upd H1 D (.lst [])) ∧ Same G1 Gi ∧ Nob F (wipe σ vs) gi Gi (upd H1 D (.lst [])) D ∧ (upd H1 D (.lst [])) D = some (.lst acc) ∧ RpAll K Gi acc zacc ∧ acc.length ≤ 0 ∧ compL vs b tt te (ds.drop 0) gi = .ok (zr, gf) ∧ zs = zacc ++ zr := by
    obtain ⟨B, n⟩ := B0.newNob (o := .lst []) hD
    exact ⟨wipeG g0 vs, G1, [], [], zs, B.wipe vs, Same.refl _, n.wipe vs, upd_same, .nil, Nat.le_refl _, ec, rfl⟩
  refine ⟨fun i m H => m = ds.length - i ∧ i ≤ ds.length ∧ ∃ gi Gi acc zacc zr, At K F (wipe σ vs) gi Gi H ∧ Same G1 Gi ∧ Nob F (wipe σ vs) gi Gi H D ∧ H D = some (.lst acc) ∧ RpAll K Gi acc zacc ∧ acc.length ≤ i ∧ compL vs b tt te (ds.drop i) gi = .ok (zr, gf) ∧ zs = zacc ++ zr,
    ⟨ds.length, by simp, Nat.zero_le _, start⟩, ?_⟩
  rintro i m H ⟨rfl, hi, gi, Gi, acc, zacc, zr, Ai, si, ni, hDi, ri, hli, eci, ez⟩
  by_cases hlt : i < ds.length
  case neg =>
    have e : i = ds.length := by omega
    subst e
    rw [List.drop_length] at eci
    cases eci
    refine .inl ⟨hJ.stop Gi H si Ai.ex Ai.h0, ?_⟩
    rw [List.append_nil] at ez
    subst ez
    exact k3 Gi H Ai.unwipe si D acc (Nob.unwipe Ai ni) hDi ri
  have ed : ds[i]? = some ds[i] := List.getElem?_eq_getElem hlt
  refine .inr ⟨hJ.go i _ Gi H ed si Ai.ex Ai.h0, fun H => ∃ gi Gi acc zacc zr, At K F (wipe σ vs) gi Gi H ∧ Same G1 Gi ∧ Nob F (wipe σ vs) gi Gi H D ∧ H D = some (.lst acc) ∧ RpAll K Gi acc zacc ∧ acc.length ≤ i + 1 ∧ compL vs b tt te (ds.drop (i + 1)) gi = .ok (zr, gf) ∧ zs = zacc ++ zr,
    fun H' n' => ⟨ds.length - (i + 1), by omega, rfl, hlt, n'⟩, fun x H' y => ?_⟩
  obtain ⟨G2, gr, rv⟩ := hJ.yld i _ Gi H x H' ed si Ai.ex Ai.h0 y
  have A2 := Ai.grow gr
  have n2 := ni.grow gr
  have hD2 : H' D = some (.lst acc) := gr.h _ _ hDi
  rw [List.drop_eq_getElem_cons hlt] at eci
  unfold compL at eci
  generalize eb : b ds[i] gi = ob at eci
  cases ob with
  | none => cases eci
  | some gb =>
    simp only at eci
    refine ⟨snap F (wipe σ vs) gi G2 H', gi, G2, ds[i], A2.snap, rv, ?_⟩
    rw [eb]
    refine fun σ2 B2 l2 j2 => ⟨wipe_ext l2 j2 hj, snap F (wipe σ vs) gi G2 H', gb, G2, B2, ?_⟩
    have ew := wipe_ext l2 j2 hj
    generalize tt gb = rt at eci
    rcases rt with _ | ⟨t, g2⟩
    · cases eci
    cases t with
    | false =>
      simp only at eci
      intro G3 H3 B3 s3
      show if false = true then _ else _
      rw [if_neg Bool.false_ne_true]
      have A3 := A2.via B3
      obtain ⟨n3, h3⟩ := Nob.via A2 n2 B3
      have A4 := A3.wipe vs
      have n4 := n3.wipe vs
      rw [ew] at A4 n4
      exact ⟨wipeG g2 vs, G3, acc, zacc, zr, A4, (si.trans gr.g).trans s3, n4, h3 _ hD2, (ri.up gr.g).up s3, Nat.le_succ_of_le hli, eci, ez⟩
    | true =>
      simp only at eci
      intro G3 H3 B3 s3
      show if true = true then _ else _
      rw [if_pos rfl]
      refine ⟨snap F (wipe σ vs) gi G2 H', g2, G3, B3, ?_⟩
      generalize te g2 = re at eci
      rcases re with _ | ⟨z, g3⟩
      · cases eci
      simp only at eci
      intro G4 H4 B4 s4 v rz
      generalize er : compL vs b tt te (ds.drop (i + 1)) (wipeG g3 vs) = rr at eci
      rcases rr with _ | ⟨zr', gf'⟩
      · cases eci
      simp only at eci
      cases eci
      have A3 := A2.via B4
      obtain ⟨n3, h3⟩ := Nob.via A2 n2 B4
      have A4 := (A3.other (o := .lst (acc ++ [v])) n3).wipe vs
      have n4 := (n3.upd (o := .lst (acc ++ [v]))).wipe vs
      rw [ew] at A4 n4
      refine ⟨acc, h3 _ hD2, by omega, wipeG g3 vs, G4, acc ++ [v], zacc ++ [z], zr', A4, ((si.trans gr.g).trans s3).trans s4, n4, upd_same, (((ri.up gr.g).up s3).up s4).app (.cons rz .nil), by simp; omega, er, by rw [ez]; simp⟩
/-- the slot is dead -/
def deadO (g : Gm) (i : Nat) (p : Prop) : Prop := match g[i]? with
  | some .dead => p
  | _ => False
@[simp ↓] theorem ev_compP {i : Nat} {vs : List Nat} {b : PyData → Gm → Option Gm} {tt : MM Bool} {te : MM PyData} {g : Gm} {Q : List PyData → Gm → Prop} {X : String → Gm → Prop} : ev (compP i vs b tt te) g Q X ↔ atO g i fun t s => okO (listOf s) fun ds => ds.length ≤ sizeLine ∧ okC (compL vs b tt te ds (wipeG (g.set i .dead) vs)) fun zs g1 => deadO g1 i (Q zs (g1.set i (.own t (.list ds)))) := by
  unfold ev okE compP atO
  generalize g[i]? = s
  rcases s with _ | (_ | d | ⟨t, d⟩)
  · rfl
  · rfl
  · rfl
  · cases d with
    | list ds =>
      simp only [okO_listOf]
      by_cases h : ds.length ≤ sizeLine
      · simp only [if_pos h, h, true_and]
        unfold okC
        generalize compL vs b tt te ds (wipeG (g.set i .dead) vs) = r
        rcases r with _ | ⟨zs, g1⟩
        · rfl
        · simp only
          unfold deadO
          generalize g1[i]? = s1
          rcases s1 with _ | (_ | d | ⟨u, d⟩) <;> rfl
      · simp [h]
    | _ => rfl
@[simp ↓] theorem dead_0 {l : Gm} {p : Prop} : deadO (.dead :: l) 0 p ↔ p := Iff.rfl
@[simp ↓] theorem dead_1 {l : Gm} {s0 : Sl} {p : Prop} : deadO (s0 :: .dead :: l) 1 p ↔ p := Iff.rfl
@[simp ↓] theorem dead_2 {l : Gm} {s0 s1 : Sl} {p : Prop} : deadO (s0 :: s1 :: .dead :: l) 2 p ↔ p := Iff.rfl
@[simp ↓] theorem dead_3 {l : Gm} {s0 s1 s2 : Sl} {p : Prop} : deadO (s0 :: s1 :: s2 :: .dead :: l) 3 p ↔ p := Iff.rfl
@[simp ↓] theorem dead_4 {l : Gm} {s0 s1 s2 s3 : Sl} {p : Prop} : deadO (s0 :: s1 :: s2 :: s3 :: .dead :: l) 4 p ↔ p := Iff.rfl
@[simp ↓] theorem dead_5 {l : Gm} {s0 s1 s2 s3 s4 : Sl} {p : Prop} : deadO (s0 :: s1 :: s2 :: s3 :: s4 :: .dead :: l) 5 p ↔ p := Iff.rfl
end Mi
/-! sorted of a list of data that can be compared with one another -/
namespace Mi
open PySem PySem.Spec PyProof.Rows L2
section
variable {X : Cx} {pins : List (Addr × Obj)} {σ : L2.St} {H : Hp} {s : Shared}
mutual
theorem Rp.reads (I : Inv X pins σ H s) : ∀ (d : PyData) (v : V) (u : Value), DcEq.ndB d = true → Rp X.kx H v d → RelV v u → ∃ as, Reads s.heap u d as
  | .none, _, _, _, h, r => by
    cases h
    cases r
    exact ⟨_, .none⟩
  | .bool b, _, _, _, h, r => by
    cases h
    cases r
    exact ⟨_, .bool b⟩
  | .int i, _, _, _, h, r => by
    cases h
    obtain ⟨t, rfl⟩ := r
    exact ⟨_, .int i t⟩
  | .str x, _, _, _, h, r => by
    cases h
    obtain ⟨t, rfl⟩ := r
    exact ⟨_, .str x t⟩
  | .list ds, _, _, n, h, r => by
    cases h with
    | lst hs ha =>
      cases r
      obtain ⟨its, rv, p, _⟩ := I.list (.inl (.inl hs))
      obtain ⟨as, hr⟩ := RpAll.reads I ds _ its n ha rv
      obtain ⟨o, ho, hc, k, hd⟩ := p.isList
      exact ⟨_, .list ho hc hd (by simpa using hr)⟩
  | .tuple ds, _, _, n, h, r => by
    cases h with
    | tup hs ha =>
      cases r
      obtain ⟨its, rv, p, _⟩ := I.tuple hs.sq
      obtain ⟨as, hr⟩ := RpAll.reads I ds _ its n ha rv
      obtain ⟨o, ho, hc, k, hd⟩ := p
      exact ⟨_, .tuple ho hc hd (by simpa using hr)⟩
  | .dict kvs, _, _, n, _, _ => by cases n
theorem RpAll.reads (I : Inv X pins σ H s) : ∀ (ds : List PyData) (vs : List V) (us : List Value), DcEq.ndAll ds = true → RpAll X.kx H vs ds → Vals vs us → ∃ as, ReadsAll s.heap us ds as
  | [], _, _, _, h, r => by
    cases h
    cases r
    exact ⟨_, .nil⟩
  | d :: ds, _, _, n, h, r => by
    have n' : DcEq.ndB d = true ∧ DcEq.ndAll ds = true := by simpa [DcEq.ndAll] using n
    cases h with
    | cons h1 h2 =>
      cases r with
      | cons r1 r2 =>
        obtain ⟨as, q1⟩ := Rp.reads I d _ _ n'.1 h1 r1
        obtain ⟨bs, q2⟩ := RpAll.reads I ds _ _ n'.2 h2 r2
        exact ⟨_, .cons q1 q2⟩
end
end
/-- all are tuples with an item, or none is a tuple or None -/
def tupB : PyData → Bool
  | .tuple (_ :: _) => true
  | _ => false
def othB : PyData → Bool
  | .tuple _ => false
  | .none => false
  | _ => true
def srtA (ds : List PyData) : List PyData := ds.mergeSort (PySem.W.dataLe false fun d : PyData => d)
def srtC (ds : List PyData) : Bool := (ds.all fun d => ds.all fun e => PySem.W.alike d e) && (ds.all tupB || ds.all othB) && DcEq.ndAll ds && decide (PyData.depthAll ds ≤ 60) && decide (ds.length ≤ sizeLine)
def sortAD : PyData → Option PyData
  | .list ds => if srtC ds = true then some (.list (srtA ds)) else none
  | .dict kvs => if srtC (kvs.map (·.1)) = true then some (.list (srtA (kvs.map (·.1)))) else none
  | _ => none
theorem srtC_ok {ds : List PyData} (h : srtC ds = true) : PySem.W.AllAlike ds ∧ PySem.W.Sortable ds ∧ DcEq.ndAll ds = true ∧ PyData.depthAll ds ≤ 60 ∧ ds.length ≤ sizeLine := by
  simp only [srtC, Bool.and_eq_true, Bool.or_eq_true, decide_eq_true_eq] at h
  obtain ⟨⟨⟨⟨h1, h2⟩, h3⟩, h4⟩, h5⟩ := h
  refine ⟨fun d hd e he => List.all_eq_true.mp (List.all_eq_true.mp h1 d hd) e he, ?_, h3, h4, h5⟩
  rcases h2 with h2 | h2
  · refine .inl fun d hd => ?_
    have := List.all_eq_true.mp h2 d hd
    unfold tupB at this
    split at this
    · exact ⟨_, _, rfl⟩
    · cases this
  · refine .inr fun d hd => ?_
    have := List.all_eq_true.mp h2 d hd
    refine ⟨fun e => ?_, fun xs e => ?_⟩
    · rw [e] at this; cases this
    · rw [e] at this; cases this
def rSortA0 (K : Frag) : List V → Hp → VK → Prop := fun vs H Q => ∃ (l : Addr) (xs : List V) (ds : List PyData) (G : Hp), vs = [.ref l] ∧ Same G H ∧ SqL K H l xs ∧ RpAll K G xs ds ∧ srtC ds = true ∧ ∀ p ys, RpAll K G ys (srtA ds) → H p = none → Q (.ref p) (upd H p (.lst ys))
theorem each_of {X : Cx} {pins : List (Addr × Obj)} {σ : L2.St} {G H : Hp} {s : Shared} (I : Inv X pins σ H s) (sg : Same G H) : ∀ {vs : List V} {us : List Value} {ds : List PyData}, DcEq.ndAll ds = true → RpAll X.kx G vs ds → Vals vs us →
    PySem.W.EachIs (fun u d => ∃ v, RelV v u ∧ Rp X.kx G v d) us ds ∧ PySem.W.EachIs (fun u d => ∃ as, Reads s.heap u d as) us ds
  | _, _, [], _, h, r => by
    cases h
    cases r
    exact ⟨.nil, .nil⟩
  | _, _, d :: ds, n, h, r => by
    have n' : DcEq.ndB d = true ∧ DcEq.ndAll ds = true := by simpa [DcEq.ndAll] using n
    cases h with
    | cons h1 h2 =>
      cases r with
      | cons r1 r2 =>
        obtain ⟨a, b⟩ := each_of I sg n'.2 h2 r2
        exact ⟨.cons ⟨_, r1, h1⟩ a, .cons (Rp.reads I d _ _ n'.1 (h1.up sg) r1) b⟩
theorem of_each {K : Frag} {H : Hp} : ∀ {us : List Value} {ds : List PyData}, PySem.W.EachIs (fun u d => ∃ v, RelV v u ∧ Rp K H v d) us ds → ∃ ys, Vals ys us ∧ RpAll K H ys ds
  | _, _, .nil => ⟨[], .nil, .nil⟩
  | _, _, .cons ⟨v, r, h⟩ t => by
    obtain ⟨ys, a, b⟩ := of_each t
    exact ⟨v :: ys, .cons r a, .cons h b⟩
theorem cr_sortA0 {X : Cx} (hu : X.A.units + 64 < cLine) : CallR X (.builtin "sorted") (rSortA0 X.kx) := by
  intro pins s σ H vs us Q I r h
  obtain ⟨l, xs, ds, G, rfl, sg, hq, hr, hc, q⟩ := h
  rw [Vals.ref1 r]
  obtain ⟨c1, c2, c3, c4, c5⟩ := srtC_ok hc
  obtain ⟨its, rv, pl, hz⟩ := I.list hq
  obtain ⟨e1, e2⟩ := each_of I sg c3 hr rv
  have em : ds.map (fun d : PyData => d) = ds := by simp
  refine PySem.W.sorted_data (bs := ds) (enc := fun d => d) (vs := its) pl.isList e1 e2 (by rw [em]; exact c1) (by rw [em]; exact c2) c5 (fun d hd => ?_) fun out hl e => ?_
  · obtain ⟨j, hj, rfl⟩ := List.getElem_of_mem hd
    have := DcEq.depth_le hj
    omega
  · obtain ⟨ys, rv2, ry⟩ := of_each e
    obtain ⟨c, hat⟩ := sortedAll_at s.heap its out.toArray
    have hlen : ys.length ≤ sizeLine := by rw [rv2.length, hl]; exact c5
    have hfr : H (s.heap.objs.size + 1) = none := I.hok.fresh (Nat.le_succ _)
    have J : Inv X pins σ (upd H (s.heap.objs.size + 1) (.lst ys)) { s with heap := sortedAll s.heap its out.toArray } :=
      I.laid (a := s.heap.objs.size + 1) (t' := s.toks) (fun b u e => sortedAll_old e) (Nat.le_succ _) ⟨hlen, out, c, rv2, hat⟩
    exact ⟨.ref (s.heap.objs.size + 1), _, J, rfl, q _ ys ry hfr⟩
/-- sorted of a dict: its keys -/
def rSortDk (K : Frag) : List V → Hp → VK → Prop := fun vs H Q => ∃ (a : Addr) (es : Array DictEntry) (ep : Nat) (kvs : List V) (ds : List PyData) (G : Hp), vs = [.ref a] ∧ Same G H ∧ H a = some (dO a es ep) ∧ Vals kvs (es.toList.map (·.key)) ∧ RpAll K G kvs ds ∧ srtC ds = true ∧ ∀ p ys, RpAll K G ys (srtA ds) → H p = none → Q (.ref p) (upd H p (.lst ys))
mutual
theorem reads_lt {h : Heap} : ∀ {v : Value} {d : PyData} {as : List Addr}, Reads h v d as → ∀ a ∈ as, a < h.objs.size
  | _, _, _, .none, a, ha => nomatch ha
  | _, _, _, .bool _, a, ha => nomatch ha
  | _, _, _, .int _ _, a, ha => nomatch ha
  | _, _, _, .str _ _, a, ha => nomatch ha
  | _, _, _, .list e _ _ r, a, ha => by
    rcases List.mem_cons.mp ha with rfl | q
    · exact Heap.lt_size e
    · exact readsA_lt r a q
  | _, _, _, .tuple _ _ _ r, a, ha => readsA_lt r a ha
  | _, _, _, .dict e _ _ r1 r2, a, ha => by
    rcases List.mem_append.mp ha with q | q
    · rcases List.mem_cons.mp q with rfl | q
      · exact Heap.lt_size e
      · exact readsA_lt r1 a q
    · exact readsA_lt r2 a q
theorem readsA_lt {h : Heap} : ∀ {vs : List Value} {ds : List PyData} {as : List Addr}, ReadsAll h vs ds as → ∀ a ∈ as, a < h.objs.size
  | _, _, _, .nil, a, ha => nomatch ha
  | _, _, _, .cons r1 r2, a, ha => by
    rcases List.mem_append.mp ha with q | q
    · exact reads_lt r1 a q
    · exact readsA_lt r2 a q
end
theorem each_noself {h h' : Heap} {b : Addr} (k : ∀ c o, h.get? c = some o → h'.get? c = some o) (hb : h.objs.size ≤ b) : ∀ {us : List Value} {ds : List PyData}, PySem.W.EachIs (fun u d => ∃ as, Reads h u d as) us ds → PySem.W.EachIs (fun u d => ∃ as, Reads h' u d as ∧ b ∉ as) us ds
  | _, _, .nil => .nil
  | _, _, .cons ⟨as, r⟩ t => .cons ⟨as, Reads.keeps k r, fun z => absurd (Nat.lt_of_lt_of_le (reads_lt r _ z) hb) (Nat.lt_irrefl _)⟩ (each_noself k hb t)
theorem cr_sortDk {X : Cx} (hu : X.A.units + 64 < cLine) (hh : X.A.handled = none) : CallR X (.builtin "sorted") (rSortDk X.kx) := by
  intro pins s σ H vs us Q I r h
  obtain ⟨a, es, ep, kvs, ds, G, rfl, sg, hd, hv, hr, hc, q⟩ := h
  rw [Vals.ref1 r]
  obtain ⟨c1, c2, c3, c4, c5⟩ := srtC_ok hc
  obtain ⟨e1, e2⟩ := each_of I sg c3 hr hv
  have hl : es.size = ds.length := by
    have h1 := hv.length
    have h2 := hr.len
    simp only [List.length_map, Array.length_toList] at h1
    omega
  refine PySem.Calls.call_function_entry kind_sorted plain_sorted entry_sorted (args_sorted1 _) ?_
  unfold Builtin.«sorted»
  refine wpAny_bind (m := checkCount "sorted" 1 1 _) (wpAny_pure ?_)
  refine wpAny_bind (PySem.W.kdu_collect (A := X.A.in1) (KdlSrc.rawDict (es := es) (ep := ep) (dO_get I hd).1) hh (dO_raw I hd) (by omega) fun h' tk acc hk hacc => ?_)
  rw [items_keys hacc]
  have lv : (es.toList.map (·.key)).length = ds.length := by rw [← hl]; simp
  refine wpAny_bind (wpAny_newList ?_ (by rw [lv]; exact c5))
  have J1 : Inv X pins σ H { s with heap := h', toks := tk } := I.kept hk
  have hoL : (h'.push (seqObj "list" (es.toList.map (·.key)).toArray 0)).get? h'.objs.size = some (seqObj "list" (es.toList.map (·.key)).toArray 0) := Heap.get?_push_size _ rfl
  have em : ds.map (fun d : PyData => d) = ds := by simp
  have e2' : PySem.W.EachIs (fun u d => ∃ as, Reads h' u d as) (es.toList.map (·.key)) ds := e2.mono fun _ _ ⟨as, r⟩ => ⟨as, Reads.keeps hk r⟩
  refine wpAny_bind (wpAny_holding (wpAny_mono (PySem.W.list_sort_data (A := X.A.in1) (E := X.xe) (s := { s with heap := h'.push (seqObj "list" (es.toList.map (·.key)).toArray 0), toks := tk }) (bs := ds) (enc := fun d => d) (vs := es.toList.map (·.key))
    (Q := fun _ s' => EP X pins σ Q (.ref h'.objs.size) s') hoL e1 (each_noself (fun c o q => Heap.get?_push_of_some _ q) (Nat.le_refl _) e2') (by rw [em]; exact c1) (by rw [em]; exact c2) c5 (fun d hd => ?_) fun out hlo eo => ?_) (fun _ s' x => ?_) fun _ _ e => e))
  · obtain ⟨j, hj, rfl⟩ := List.getElem_of_mem hd
    have := DcEq.depth_le hj
    show X.A.units + 1 + 1 + _ < _
    omega
  · obtain ⟨ys, rv2, ry⟩ := of_each eo
    obtain ⟨c, hat⟩ := sortedHeap_at (vs := es.toList.map (·.key)) (out := out.toArray) hoL
    have hlen : ys.length ≤ sizeLine := by rw [rv2.length, hlo]; exact c5
    have J : Inv X pins σ (upd H h'.objs.size (.lst ys)) { s with heap := sortedHeap (h'.push (seqObj "list" (es.toList.map (·.key)).toArray 0)) h'.objs.size (es.toList.map (·.key)) out.toArray, toks := tk } :=
      J1.laid (t' := tk) (fun b u e => by
        have hlt := Heap.lt_size e
        rw [sortedHeap_old (Nat.ne_of_lt hlt) (by rw [size_push']; exact Nat.lt_succ_of_lt hlt)]
        exact Heap.get?_push_of_some _ e) (Nat.le_refl _) ⟨hlen, out, c, rv2, hat⟩
    exact ⟨.ref h'.objs.size, _, J, rfl, q _ ys ry (J1.hok.fresh (Nat.le_refl _))⟩
  · exact wpAny_pure ⟨_, rfl, x⟩
def rSortA (K : Frag) : List V → Hp → VK → Prop := fun vs H Q => rSortA0 K vs H Q ∨ rSortDk K vs H Q
theorem cr_sortA {X : Cx} (hu : X.A.units + 64 < cLine) (hh : X.A.handled = none) : CallR X (.builtin "sorted") (rSortA X.kx) := CallR.or (cr_sortA0 hu) (cr_sortDk hu hh)
theorem ho_sortA {K : Frag} : Op1 K (fun x => rSortA K [x]) sortAD := by
  intro x d z G H Q h rx s k
  cases d with
  | list ds =>
    have h' : (if srtC ds = true then some (PyData.list (srtA ds)) else none) = some z := h
    split at h'
    · rename_i hc
      cases h'
      obtain ⟨a, xs, rfl, h1, h2⟩ := rx.lst s
      refine .inl ⟨a, xs, ds, G, rfl, s, .inl (.inl h1), h2, hc, fun p ys hy hp => ?_⟩
      have gr := Gr.new (o := .lst ys) s hp
      exact k _ _ _ gr (.lst upd_same (hy.up gr.g))
    · cases h'
  | dict kvs =>
    have h' : (if srtC (kvs.map (·.1)) = true then some (PyData.list (srtA (kvs.map (·.1)))) else none) = some z := h
    split at h'
    · rename_i hc
      cases h'
      obtain ⟨a, es, ep, rfl, hd, ok, r⟩ := rx.dict s
      obtain ⟨ks, hv, hr⟩ := r.keys
      refine .inr ⟨a, es, ep, ks, _, G, rfl, s, hd, hv, hr, hc, fun p ys hy hp => ?_⟩
      have gr := Gr.new (o := .lst ys) s hp
      exact k _ _ _ gr (.lst upd_same (hy.up gr.g))
    · cases h'
  | _ => cases h
@[simp ↓] theorem sortA_dct {kvs : List (PyData × PyData)} {P : PyData → Prop} : okO (sortAD (.dict kvs)) P ↔ srtC (kvs.map (·.1)) = true ∧ P (.list (srtA (kvs.map (·.1)))) := okO_if
@[simp ↓] theorem sortA_lst {ds : List PyData} {P : PyData → Prop} : okO (sortAD (.list ds)) P ↔ srtC ds = true ∧ P (.list (srtA ds)) := okO_if
end Mi
/-! set(..) <= set(..) of texts -/
/-! the test set(a) <= set(b) of texts -/
namespace Mi
open PySem PySem.Spec PyProof.Rows L2
/-- set(a) <= set(b) -/
def fewT (d : PyData) : Option (List Str) := match txtD d with
  | some xs => if xs.length < 4000 then some xs else none
  | none => none
def setLeT (ma mb : MM PyData) : MM Bool := bnd ma fun d => bnd (lft (fewT d)) fun xs => bnd mb fun e => bnd (lft (fewT e)) fun ys => ret (xs.all fun k => decide (k ∈ ys))
@[simp ↓] theorem ev_setLeT {ma mb : MM PyData} {g : Gm} {P : Bool → Gm → Prop} {X : String → Gm → Prop} : ev (setLeT ma mb) g P X ↔ ev ma g (fun d g1 => okO (fewT d) fun xs => ev mb g1 (fun e g2 => okO (fewT e) fun ys => P (xs.all fun k => decide (k ∈ ys)) g2) X) X := by simp [setLeT]
end Mi
/-! what sorted makes of a list of data: laws -/
namespace Mi
open PySem PySem.Spec PyProof.Rows L2
def leA (a b : PyData) : Bool := PySem.W.dataLe false (fun d : PyData => d) a b
theorem leA_total : PySem.W.TotalLe leA := PySem.W.sortLe_total (listOrd itemOrd) false fun d : PyData => PySem.W.keyToks d
theorem srtA_perm (ds : List PyData) : (srtA ds).Perm ds := List.mergeSort_perm ds _
theorem srtA_pw (ds : List PyData) : (srtA ds).Pairwise fun a b => leA a b = true :=
  List.pairwise_mergeSort (le := leA) (fun a b c h k => leA_total.trans a b c h k) (fun a b => by
    rcases leA_total.total a b with h | h <;> simp [h]) ds
theorem leA_lt {a b : PyData} : leA a b = !PySem.W.dataLt b a := rfl
theorem leA_toks {a b : PyData} (h : leA a b = true) (k : leA b a = true) : PySem.W.keyToks a = PySem.W.keyToks b := by
  rw [leA_lt] at h k
  have h' : PySem.W.dataLt b a = false := by simpa using h
  have k' : PySem.W.dataLt a b = false := by simpa using k
  exact (listOrd itemOrd).total _ _ k' h'
theorem srtA_uniq {l m : List PyData} (h : l.Perm m) (inj : ∀ a ∈ l, ∀ b ∈ l, PySem.W.keyToks a = PySem.W.keyToks b → a = b) : srtA l = srtA m := by
  have p : (srtA l).Perm (srtA m) := (srtA_perm l).trans (h.trans (srtA_perm m).symm)
  refine List.Perm.eq_of_pairwise (le := fun a b => leA a b = true) (fun a b ha hb h1 h2 => ?_) (srtA_pw l) (srtA_pw m) p
  exact inj a ((srtA_perm l).mem_iff.mp ha) b (h.mem_iff.mpr ((srtA_perm m).mem_iff.mp hb)) (leA_toks h1 h2)
theorem str_cps {x y : Str} (h : x.cps.toList = y.cps.toList) : x = y := by
  cases x
  cases y
  simp only at h
  exact congrArg Str.mk (Array.toList_inj.mp h)
end Mi
/-! sorted(set(..)) of texts of any length, fewer than 64 different ones -/
namespace Mi
open PySem PySem.Spec PyProof.Rows L2
def sortSet2 (d : PyData) : Option PyData := match txtD d with
  | some xs => if (Ts.dd xs).length < 64 then some (.list ((Ts.srt (Ts.dd xs)).map .str)) else none
  | none => none
end Mi
/-! dicts whose keys are data: the model's own steps -/
namespace Mi
open PySem PySem.Spec PyProof.Rows L2
open PySem.Sem (wp)
def isT : NestedKey → Bool
  | .tup _ => true
  | _ => false
theorem nk_isT : ∀ {d : PyData} {k : NestedKey}, nk d = some k → isT k = isTupD d
  | .none, k, h => by cases h; rfl
  | .bool b, k, h => by cases h; rfl
  | .int i, k, h => by cases h; rfl
  | .str x, k, h => by cases h; rfl
  | .tuple ds, k, h => by
    unfold nk at h
    cases e : nks ds with
    | none => rw [e] at h; cases h
    | some ks => rw [e] at h; cases h; rfl
  | .list _, k, h => by cases h
  | .dict _, k, h => by cases h
section
variable {X : Cx} {pins : List (Addr × Obj)} {σ : L2.St} {H : Hp} {s : Shared}
mutual
theorem Rp.nest (I : Inv X pins σ H s) : ∀ (d : PyData) (v : V) (u : Value) (k : NestedKey), nk d = some k → Rp X.kx H v d → RelV v u → NestedIs s.heap k u
  | .none, _, _, _, n, h, r => by
    cases n
    cases h
    cases r
    exact .none
  | .bool b, _, _, _, n, h, r => by
    cases n
    cases h
    cases r
    exact .bool rfl
  | .int i, _, _, _, n, h, r => by
    cases n
    cases h
    obtain ⟨t, rfl⟩ := r
    exact .int i t
  | .str x, _, _, _, n, h, r => by
    cases n
    cases h
    obtain ⟨t, rfl⟩ := r
    exact .text x t
  | .list ds, _, _, _, n, h, r => by cases n
  | .dict ds, _, _, _, n, h, r => by cases n
  | .tuple ds, _, _, _, n, h, r => by
    unfold nk at n
    cases e : nks ds with
    | none => rw [e] at n; cases n
    | some ks =>
      rw [e] at n
      cases n
      cases h with
      | tup hs ha =>
        cases r
        obtain ⟨its, rv, p, _⟩ := I.tuple hs.sq
        have q := RpAll.nest I ds _ its ks e ha rv
        obtain ⟨o, ho, hc, n, hd⟩ := p
        exact .tup ho hc hd (by simpa using q)
theorem RpAll.nest (I : Inv X pins σ H s) : ∀ (ds : List PyData) (vs : List V) (us : List Value) (ks : List NestedKey), nks ds = some ks → RpAll X.kx H vs ds → Vals vs us → NestedAll s.heap ks us
  | [], _, _, _, n, h, r => by
    cases n
    cases h
    cases r
    exact .nil
  | d :: ds, _, _, _, n, h, r => by
    unfold nks at n
    cases e1 : nk d with
    | none => rw [e1] at n; cases n
    | some k =>
      cases e2 : nks ds with
      | none => rw [e1, e2] at n; cases n
      | some ks =>
        rw [e1, e2] at n
        cases n
        cases h with
        | cons h1 h2 =>
          cases r with
          | cons r1 r2 => exact .cons (Rp.nest I d _ _ k e1 h1 r1) (RpAll.nest I ds _ _ ks e2 h2 r2)
end
end
/-! ### the dict in the heap -/
inductive KeysAt (w : World) (h : Heap) : List DictEntry → List NestedKey → Prop
  | nil : KeysAt w h [] []
  | cons {e : DictEntry} {k : NestedKey} {es : List DictEntry} {ks : List NestedKey} : NestedIs h k e.key → e.hash = k.hash w → KeysAt w h es ks → KeysAt w h (e :: es) (k :: ks)
structure DK (w : World) (h : Heap) (d : Addr) (es : Array DictEntry) (ep : Nat) (ks : List NestedKey) : Prop where
  o : h.get? d = some { cls := .type "dict", data := .dict es ep }
  k : KeysAt w h es.toList ks
  dp : ∀ k ∈ ks, k.depth ≤ 8
  one : (∀ k ∈ ks, isT k = true) ∨ (∀ k ∈ ks, isT k = false)
  nd : ks.Nodup
theorem KeysAt.len {w : World} {h : Heap} : ∀ {es : List DictEntry} {ks : List NestedKey}, KeysAt w h es ks → es.length = ks.length
  | _, _, .nil => rfl
  | _, _, .cons _ _ t => congrArg (· + 1) t.len
theorem KeysAt.get {w : World} {h : Heap} : ∀ {es : List DictEntry} {ks : List NestedKey} {i : Nat} {k : NestedKey}, KeysAt w h es ks → ks[i]? = some k → ∃ e, es[i]? = some e ∧ NestedIs h k e.key ∧ e.hash = k.hash w
  | _, _, _, _, .nil, q => by simp at q
  | _, _, 0, _, .cons a b _, q => by
    simp at q
    subst q
    exact ⟨_, rfl, a, b⟩
  | _, _, i + 1, _, .cons _ _ t, q => by
    obtain ⟨e, h1, h2⟩ := t.get (i := i) (by simpa using q)
    exact ⟨e, by simpa using h1, h2⟩
theorem KeysAt.got {w : World} {h : Heap} : ∀ {es : List DictEntry} {ks : List NestedKey} {e : DictEntry}, KeysAt w h es ks → e ∈ es → ∃ k ∈ ks, NestedIs h k e.key ∧ e.hash = k.hash w
  | _, _, _, .nil, q => by simp at q
  | _, _, _, .cons a b t, q => by
    rcases List.mem_cons.mp q with rfl | q
    · exact ⟨_, by simp, a, b⟩
    · obtain ⟨k, h1, h2⟩ := t.got q
      exact ⟨k, by simp [h1], h2⟩
/-- a key that is no tuple -/
def leafOf : NestedKey → Leaf
  | .num i => .num i
  | .text x => .text x
  | _ => .none
theorem leaf_is {h : Heap} {k : NestedKey} {v : Value} (n : NestedIs h k v) (t : isT k = false) : Leaf.isOf (leafOf k) v = true ∧ (leafOf k).key = k := by
  cases n with
  | none => exact ⟨rfl, rfl⟩
  | bool e => exact ⟨by simp [leafOf, Leaf.isOf, e], rfl⟩
  | int i t => exact ⟨by simp [leafOf, Leaf.isOf], rfl⟩
  | text x t => exact ⟨by simp [leafOf, Leaf.isOf, Value.isStrOf], rfl⟩
  | tup _ _ _ _ => cases t
theorem ref_of {h : Heap} {k : NestedKey} {v : Value} (n : NestedIs h k v) (t : isT k = true) : ∃ a, v = .ref a := by
  cases n with
  | tup _ _ _ _ => exact ⟨_, rfl⟩
  | _ => cases t
/-- the entries with the addresses of their keys -/
def withAd : List DictEntry → List NestedKey → List (NestedKey × Addr × Value)
  | e :: es, k :: ks => (k, (match e.key with | .ref a => a | _ => 0), e.val) :: withAd es ks
  | _, _ => []
theorem withAd_ok {prog : Program} {w : World} {h : Heap} : ∀ {es : List DictEntry} {ks : List NestedKey}, KeysAt w h es ks → (∀ k ∈ ks, isT k = true) → (∀ k ∈ ks, k.depth ≤ 8) →
    es = (withAd es ks).map (entryOfKey (nestedKind prog w)) ∧ (∀ x ∈ withAd es ks, (nestedKind prog w).is h x.1 x.2.1) ∧ (withAd es ks).map (·.1) = ks
  | _, _, .nil, _, _ => ⟨rfl, fun _ h => (nomatch h), rfl⟩
  | _, _, .cons (e := e) (k := k) (es := es) (ks := ks) a b t, ht, hd => by
    obtain ⟨q1, q2, q3⟩ := withAd_ok (prog := prog) t (fun k hk => ht k (by simp [hk])) fun k hk => hd k (by simp [hk])
    obtain ⟨c, hc⟩ := ref_of a (ht _ (by simp))
    refine ⟨?_, fun x hx => ?_, ?_⟩
    · show e :: es = (⟨k.hash w, .ref (match e.key with | .ref a => a | _ => 0), e.val⟩ : DictEntry) :: _
      rw [hc, ← b, ← hc, ← q1]
    · rcases List.mem_cons.mp hx with rfl | hx
      · refine ⟨?_, hd _ (by simp)⟩
        show NestedIs h k (.ref (match e.key with | .ref a => a | _ => 0))
        rw [hc] at a ⊢
        exact a
      · exact q2 x hx
    · show k :: _ = _
      rw [q3]
theorem withAd_get {es : List DictEntry} {ks : List NestedKey} (hl : es.length = ks.length) (i : Nat) : (withAd es ks)[i]?.map (·.1) = ks[i]? := by
  induction ks generalizing es i with
  | nil => cases es <;> simp [withAd]
  | cons k ks ih =>
    cases es with
    | nil => cases hl
    | cons e es =>
      cases i with
      | zero => rfl
      | succ i => simpa [withAd] using ih (by simpa using hl) i
def plc (ks : List NestedKey) (k : NestedKey) : Option Nat := ks.findIdx? fun x => decide (x = k)
theorem plc_some {ks : List NestedKey} (hn : ks.Nodup) {k : NestedKey} {j : Nat} (h : ks[j]? = some k) : plc ks k = some j := by
  obtain ⟨hj, e⟩ := List.getElem?_eq_some_iff.mp h
  refine List.findIdx?_eq_some_iff_getElem.mpr ⟨hj, by simp [e], fun i hi => ?_⟩
  have hne : ks[i] ≠ k := fun q => by
    have : i = j := (List.getElem_inj hn).mp (q.trans e.symm)
    omega
  simp [hne]
theorem plc_none {ks : List NestedKey} {k : NestedKey} (h : ∀ j : Nat, ks[j]? ≠ some k) : plc ks k = none := by
  refine List.findIdx?_eq_none_iff.mpr fun x hx => ?_
  have hne : x ≠ k := fun q => by
    obtain ⟨j, hj⟩ := List.mem_iff_getElem?.mp hx
    exact h j (hj.trans (congrArg some q))
  simp [hne]
section
variable {prog : Program} {w : World} {A : Around} {E : Value → Shared → Prop} {s : Shared} {d : Addr} {es : Array DictEntry} {ep : Nat} {ks : List NestedKey} {k : NestedKey} {key : Value}
theorem DK.len (D : DK w s.heap d es ep ks) : es.size = ks.length := by
  have := D.k.len
  simpa using this
theorem leaf_find (prog : Program) {h : Heap} : ∀ {es : List DictEntry} {ks : List NestedKey}, KeysAt w h es ks → (∀ k ∈ ks, isT k = false) → isT k = false → (es.findIdx? fun e => Leaf.isOf (leafOf k) e.key) = plc ks k
  | _, _, .nil, _, _ => rfl
  | _, _, .cons (e := e) (k := k') (es := es) (ks := ks) a b t, ht, hk => by
    have ih := leaf_find prog t (fun k hk => ht k (by simp [hk])) hk
    obtain ⟨q1, q2⟩ := leaf_is a (ht _ (by simp))
    have e1 : Leaf.isOf (leafOf k) e.key = decide (k' = k) := by
      have := KeyKind.is_eq_decide (knd := leafKind prog w) (k := leafOf k') (v := e.key) q1 (leafOf k)
      rw [show Leaf.isOf (leafOf k) e.key = (leafKind prog w).is (leafOf k) e.key from rfl, this]
      by_cases e2 : k' = k
      · subst e2; simp
      · have : leafOf k ≠ leafOf k' := fun z => by
          have h1 := q2
          rw [← z] at h1
          have hk2 : (leafOf k).key = k := by cases k <;> first | rfl | cases hk
          exact e2 (h1.symm.trans hk2)
        simp [e2, this]
    unfold plc at ih ⊢
    rw [List.findIdx?_cons, List.findIdx?_cons, e1, ih]
/-- looking for a key -/
theorem find_D {Q : Option Nat → Shared → Prop} (D : DK w s.heap d es ep ks) (hk : NestedIs s.heap k key) (hd : k.depth ≤ 8) (ht : ∀ x ∈ ks, isT x = isT k) (hu : A.units + 8 < cLine) (h : Q (plc ks k) s) :
    wpAny (model prog w) A (dictFind d key (k.hash w)) Q E s := by
  cases hT : isT k with
  | true =>
    obtain ⟨a, rfl⟩ := ref_of hk hT
    obtain ⟨q1, q2, q3⟩ := withAd_ok (prog := prog) D.k (fun x hx => (ht x hx).trans hT) D.dp
    refine wpAny_dictFind_heap (knd := nestedKind prog w) (xs := withAd es.toList ks) hu ⟨hk, hd⟩ D.o rfl q1 q2 (by rw [q3]; exact D.nd) (fun hno => ?_) fun j p hj => ?_
    · rw [plc_none fun j hj => ?_] at h
      · exact h
      · have := withAd_get D.k.len j
        rw [hj] at this
        cases e : (withAd es.toList ks)[j]? with
        | none => rw [e] at this; cases this
        | some y =>
          rw [e] at this
          obtain ⟨y1, y2⟩ := y
          cases this
          exact hno j y2 e
    · rw [plc_some D.nd (j := j) ?_] at h
      · exact h
      · rw [← withAd_get D.k.len j, hj]
        rfl
  | false =>
    obtain ⟨q1, q2⟩ := leaf_is hk hT
    have hks : ∀ x ∈ ks, isT x = false := fun x hx => (ht x hx).trans hT
    have e0 : k.hash w = (leafKind prog w).hash (leafOf k) := by
      show k.hash w = (leafOf k).key.hash w
      rw [q2]
    rw [e0]
    refine wpAny_dictFind_of (knd := leafKind prog w) q1 D.o rfl (fun e he => ?_) ?_
    · obtain ⟨k', hk', n', e'⟩ := D.k.got (Array.mem_toList_iff.mpr he)
      obtain ⟨z1, z2⟩ := leaf_is n' (hks k' hk')
      refine ⟨leafOf k', z1, ?_⟩
      show e.hash = (leafOf k').key.hash w
      rw [z2]
      exact e'
    · have e1 : (es.findIdx? fun e => (leafKind prog w).is (leafOf k) e.key) = plc ks k := by
        rw [← leaf_find prog D.k hks hT]
        obtain ⟨l⟩ := es
        simp
        rfl
      rw [e1]
      exact h
/-- the value at a key -/
def valE (es : Array DictEntry) (ks : List NestedKey) (k : NestedKey) : Option Value := match plc ks k with
  | some j => (es[j]?).map (·.val)
  | none => none
theorem get_D {Q : Option Value → Shared → Prop} (D : DK w s.heap d es ep ks) (hk : NestedIs s.heap k key) (hd : k.depth ≤ 8) (ht : ∀ x ∈ ks, isT x = isT k) (hu : A.units + 8 < cLine) (h : Q (valE es ks k) { s with toks := s.toks + k.draws }) :
    wpAny (model prog w) A (dictGet d key) Q E s := by
  unfold dictGet
  try with_reducible refine wpAny_holding ?_
  refine wpAny_bind (pyHash_key k key A s _ hk (by omega) (wpAny_bind (find_D (s := { s with toks := s.toks + k.draws }) D hk hd ht hu ?_)))
  unfold valE at h
  cases e : plc ks k with
  | none =>
    rw [e] at h
    exact wpAny_pure h
  | some j =>
    rw [e] at h
    exact wpAny_bind (wpAny_dictEntries (s := { s with toks := s.toks + k.draws }) D.o rfl (wpAny_pure h))
theorem KeysAt.mod {h : Heap} {v : Value} : ∀ {es : List DictEntry} {ks : List NestedKey} {j : Nat}, KeysAt w h es ks → KeysAt w h (es.modify j fun e => { e with val := v }) ks
  | _, _, j, .nil => by cases j <;> exact .nil
  | _, _, 0, .cons a b t => by simpa using .cons a b t
  | _, _, j + 1, .cons a b t => by simpa using .cons a b t.mod
theorem KeysAt.app {h : Heap} : ∀ {es fs : List DictEntry} {ks ls : List NestedKey}, KeysAt w h es ks → KeysAt w h fs ls → KeysAt w h (es ++ fs) (ks ++ ls)
  | _, _, _, _, .nil, t => t
  | _, _, _, _, .cons a b r, t => .cons a b (r.app t)
theorem KeysAt.at {h h' : Heap} : ∀ {es : List DictEntry} {ks : List NestedKey}, (∀ k ∈ ks, ∀ v, NestedIs h k v → NestedIs h' k v) → KeysAt w h es ks → KeysAt w h' es ks
  | _, _, _, .nil => .nil
  | _, _, k, .cons a b t => .cons (k _ (by simp) _ a) b (t.at fun x hx => k x (by simp [hx]))
/-- keys stay keys while a dict changes -/
theorem nest_but {h h' : Heap} {d : Addr} {o : Obj} {es : Array DictEntry} {ep : Nat} (ho : h.get? d = some o) (hd : o.data = .dict es ep) (sb : Heap.SameBut d h h') {k : NestedKey} {v : Value} (n : NestedIs h k v) : NestedIs h' k v :=
  NestedIs.at (fun b ob vs m hb hc => by
    refine (sb.2 b fun e => ?_).trans hb
    subst e
    rw [ho] at hb
    cases hb
    rw [hd] at hc
    cases hc) k v n
/-- the entries behind a store -/
def putE (es : Array DictEntry) (ks : List NestedKey) (k : NestedKey) (h : Int) (key v : Value) : Array DictEntry := match plc ks k with
  | some j => es.modify j fun e => { e with val := v }
  | none => es.push ⟨h, key, v⟩
def putK (ks : List NestedKey) (k : NestedKey) : List NestedKey := match plc ks k with
  | some _ => ks
  | none => ks ++ [k]
theorem put_DK {h' : Heap} {v : Value} {ep' : Nat} (D : DK w s.heap d es ep ks) (hk : NestedIs s.heap k key) (hd : k.depth ≤ 8) (ht : ∀ x ∈ ks, isT x = isT k) (sb : Heap.SameBut d s.heap h') (o : h'.get? d = some { cls := .type "dict", data := .dict (putE es ks k (k.hash w) key v) ep' }) :
    DK w h' d (putE es ks k (k.hash w) key v) ep' (putK ks k) := by
  have up : ∀ {x : NestedKey} {u : Value}, NestedIs s.heap x u → NestedIs h' x u := fun n => nest_but D.o rfl sb n
  have D' := D.k.at fun x _ u n => up n
  unfold putE at o ⊢
  unfold putK
  cases e : plc ks k with
  | some j =>
    simp only [e] at o ⊢
    exact ⟨o, by obtain ⟨l⟩ := es; simpa using D'.mod, D.dp, D.one, D.nd⟩
  | none =>
    simp only [e] at o ⊢
    have hn : k ∉ ks := fun hm => by
      have := List.findIdx?_eq_none_iff.mp e k hm
      simp at this
    refine ⟨o, ?_, fun x hx => ?_, ?_, ?_⟩
    · have := D'.app (.cons (up hk) rfl .nil : KeysAt w h' [⟨k.hash w, key, v⟩] [k])
      obtain ⟨l⟩ := es
      simpa using this
    · rcases List.mem_append.mp hx with q | q
      · exact D.dp x q
      · rw [List.mem_singleton.mp q]; exact hd
    · cases hT : isT k with
      | true =>
        refine .inl fun x hx => ?_
        rcases List.mem_append.mp hx with q | q
        · exact (ht x q).trans hT
        · rw [List.mem_singleton.mp q]; exact hT
      | false =>
        refine .inr fun x hx => ?_
        rcases List.mem_append.mp hx with q | q
        · exact (ht x q).trans hT
        · rw [List.mem_singleton.mp q]; exact hT
    · rw [List.nodup_append]
      exact ⟨D.nd, by simp, fun x hx y hy => by rw [List.mem_singleton.mp hy]; exact fun q => hn (q ▸ hx)⟩
theorem setH_D {v : Value} {Q : Unit → Shared → Prop} (D : DK w s.heap d es ep ks) (hk : NestedIs s.heap k key) (hd : k.depth ≤ 8) (ht : ∀ x ∈ ks, isT x = isT k) (hu : A.units + 8 < cLine) (hz : es.size ≤ sizeLine)
    (h : ∀ h' ep', Heap.SameBut d s.heap h' → DK w h' d (putE es ks k (k.hash w) key v) ep' (putK ks k) → Q () { s with heap := h' }) :
    wpAny (model prog w) A (dictSetHashed d key (k.hash w) v) Q E s := by
  unfold dictSetHashed
  try with_reducible refine wpAny_holding ?_
  refine wpAny_bind (find_D D hk hd ht hu ?_)
  have pd := fun h' ep' (sb : Heap.SameBut d s.heap h') (o : h'.get? d = _) => h h' ep' sb (put_DK (v := v) D hk hd ht sb o)
  unfold putE at pd
  cases e : plc ks k with
  | none =>
    simp only [e] at pd
    exact wpAny_bind (wpAny_rule (wpAny_updateDictKeys (hz := hz) D.o rfl (pd _ (ep + 1) (Heap.SameBut.update ..) (by
      rw [Heap.get?_update_self _ D.o (Obj.isFreed_of_dict (Obj.data_mapDictKeys rfl _))]; rfl))))
  | some j =>
    simp only [e] at pd
    exact wpAny_bind (wpAny_rule (wpAny_bind (wpAny_updateDict D.o rfl (wpAny_point (pd _ ep (Heap.SameBut.update ..) (by
      rw [Heap.get?_update_self _ D.o (Obj.isFreed_of_dict (Obj.data_mapDict rfl _))]; rfl))))))
theorem set_D {v : Value} {Q : Unit → Shared → Prop} (D : DK w s.heap d es ep ks) (hk : NestedIs s.heap k key) (hd : k.depth ≤ 8) (ht : ∀ x ∈ ks, isT x = isT k) (hu : A.units + 8 < cLine) (hz : es.size ≤ sizeLine)
    (h : ∀ h' ep', Heap.SameBut d s.heap h' → DK w h' d (putE es ks k (k.hash w) key v) ep' (putK ks k) → Q () { s with heap := h', toks := s.toks + k.draws }) :
    wpAny (model prog w) A (dictSet d key v) Q E s := by
  unfold dictSet
  try with_reducible refine wpAny_holding ?_
  exact wpAny_bind (pyHash_key k key A s _ hk (by omega) (setH_D (s := { s with toks := s.toks + k.draws }) D hk hd ht hu hz h))
end
end Mi
/-! dicts of data: what the model's steps mean for data -/
namespace Mi
open PySem PySem.Spec PyProof.Rows L2
open PySem.Sem (wp)
def ksOf (ds : List (PyData × PyData)) : List NestedKey := ds.filterMap fun p => nk p.1
theorem keyOk_some {d : PyData} (h : keyOk d = true) : ∃ k, nk d = some k ∧ k.depth ≤ 8 := by
  unfold keyOk at h
  cases e : nk d with
  | none => rw [e] at h; cases h
  | some k => rw [e] at h; exact ⟨k, rfl, of_decide_eq_true h⟩
theorem ksOf_map : ∀ {ds : List (PyData × PyData)}, (∀ p ∈ ds, keyOk p.1 = true) → ds.map (fun p => nk p.1) = (ksOf ds).map some
  | [], _ => rfl
  | p :: ds, h => by
    obtain ⟨k, hk, _⟩ := keyOk_some (h p (by simp))
    have ih := ksOf_map (ds := ds) fun q hq => h q (by simp [hq])
    show nk p.1 :: _ = _
    unfold ksOf at ih ⊢
    rw [List.filterMap_cons, hk, ih]
    rfl
theorem mem_ksOf {ds : List (PyData × PyData)} {k : NestedKey} (h : k ∈ ksOf ds) : ∃ p ∈ ds, nk p.1 = some k := by
  obtain ⟨p, h1, h2⟩ := List.mem_filterMap.mp h
  exact ⟨p, h1, h2⟩
theorem plc_eq {e : PyData} {k : NestedKey} (he : nk e = some k) : ∀ {ds : List (PyData × PyData)} {ks : List NestedKey}, ds.map (fun p => nk p.1) = ks.map some → plc ks k = plD ds e
  | [], [], _ => rfl
  | [], _ :: _, h => by cases h
  | _ :: _, [], h => by cases h
  | p :: ds, x :: ks, h => by
    injection h with h1 h2
    have h1 : nk p.1 = some x := h1
    have ih := plc_eq he h2
    unfold plc plD at ih ⊢
    have e1 : decide (x = k) = decide (nk p.1 = nk e) := by
      rw [h1, he]
      by_cases q : x = k
      · subst q; simp
      · simp [q]
    rw [List.findIdx?_cons, List.findIdx?_cons, e1, ih]
theorem kFit_ok {ds : List (PyData × PyData)} {e : PyData} (ok : ∀ p ∈ ds, keyOk p.1 = true) (h : kFit ds e = true) : ∃ k, nk e = some k ∧ k.depth ≤ 8 ∧ ∀ x ∈ ksOf ds, isT x = isT k := by
  unfold kFit at h
  rw [Bool.and_eq_true] at h
  obtain ⟨k, h1, h2⟩ := keyOk_some h.1
  refine ⟨k, h1, h2, fun x hx => ?_⟩
  obtain ⟨p, hp, hn⟩ := mem_ksOf hx
  have := List.all_eq_true.mp h.2 p hp
  rw [nk_isT hn, nk_isT h1]
  simpa using this
theorem lkD_pl {ds : List (PyData × PyData)} {e : PyData} : lkD ds e = (match plD ds e with
    | some j => (ds[j]?).map (·.2)
    | none => none) := by
  unfold lkD plD
  induction ds with
  | nil => rfl
  | cons p ds ih =>
    rw [List.find?_cons, List.findIdx?_cons]
    by_cases h : nk p.1 = nk e
    · simp [h]
    · simp only [h, decide_false, Bool.false_eq_true, if_false]
      rw [ih]
      cases List.findIdx? (fun p => decide (nk p.1 = nk e)) ds <;> simp
theorem hasD_pl {ds : List (PyData × PyData)} {e : PyData} : hasD ds e = (plD ds e).isSome := by
  unfold hasD plD
  rw [List.findIdx?_isSome]
theorem RpKV.get {K : Frag} {G : Hp} : ∀ {es : List DictEntry} {ds : List (PyData × PyData)} {j : Nat} {p : PyData × PyData}, RpKV K G es ds → ds[j]? = some p → ∃ (e : DictEntry) (k v : V), es[j]? = some e ∧ RelV k e.key ∧ RelV v e.val ∧ Rp K G k p.1 ∧ Rp K G v p.2
  | _, _, _, _, .nil, h => by simp at h
  | _, _, 0, _, .cons a1 a2 a3 a4 a5 t, h => by
    simp at h
    subst h
    exact ⟨_, _, _, rfl, a2, a3, a4, a5⟩
  | _, _, j + 1, _, .cons a1 a2 a3 a4 a5 t, h => by
    obtain ⟨e, k, v, h1, h2⟩ := t.get (j := j) (by simpa using h)
    exact ⟨e, k, v, by simpa using h1, h2⟩
theorem RpKV.app {K : Frag} {G : Hp} : ∀ {es fs : List DictEntry} {ds gs : List (PyData × PyData)}, RpKV K G es ds → RpKV K G fs gs → RpKV K G (es ++ fs) (ds ++ gs)
  | _, _, _, _, .nil, t => t
  | _, _, _, _, .cons a1 a2 a3 a4 a5 t, r => .cons a1 a2 a3 a4 a5 (t.app r)
theorem RpKV.mod {K : Frag} {G : Hp} {v : V} {u : Value} {d : PyData} (rv : RelV v u) (rd : Rp K G v d) : ∀ {es : List DictEntry} {ds : List (PyData × PyData)} (j : Nat), RpKV K G es ds → RpKV K G (es.modify j fun e => { e with val := u }) (ds.modify j fun p => (p.1, d))
  | _, _, j, .nil => by cases j <;> exact .nil
  | _, _, 0, .cons a1 a2 a3 a4 a5 t => by simpa using .cons a1 a2 rv a4 rd t
  | _, _, j + 1, .cons a1 a2 a3 a4 a5 t => by simpa using .cons a1 a2 a3 a4 a5 (t.mod rv rd j)
theorem RpKV.put {K : Frag} {G : Hp} {es : Array DictEntry} {ds : List (PyData × PyData)} {e d : PyData} {k : NestedKey} {kv v : V} {key u : Value} (r : RpKV K G es.toList ds) (he : nk e = some k) (hm : ds.map (fun p => nk p.1) = (ksOf ds).map some)
    (rk : RelV kv key) (rv : RelV v u) (hk : Rp K G kv e) (hd : Rp K G v d) : RpKV K G (putE es (ksOf ds) k (k.hash K.w) key u).toList (putD ds e d) := by
  unfold putE putD
  rw [plc_eq he hm]
  cases plD ds e with
  | none =>
    have e1 : k.hash K.w = hashK K.w e := by unfold hashK; rw [he]
    have := r.app (.cons e1 rk rv hk hd .nil : RpKV K G [⟨k.hash K.w, key, u⟩] [(e, d)])
    simpa using this
  | some j =>
    have := r.mod rv hd j
    simpa using this
theorem plD_lt {ds : List (PyData × PyData)} {e : PyData} {j : Nat} (h : plD ds e = some j) : j < ds.length :=
  (List.findIdx?_eq_some_iff_getElem.mp h).1
theorem keysOk.put {ds : List (PyData × PyData)} {e d : PyData} (ok : keysOk ds) (h : kFit ds e = true) : keysOk (putD ds e d) := by
  obtain ⟨h1, h2, h3⟩ := ok
  unfold putD
  cases ej : plD ds e with
  | some j =>
    have em : ∀ {β : Type} (f : PyData → β), (ds.modify j fun p => (p.1, d)).map (fun p => f p.1) = ds.map fun p => f p.1 := by
      intro β f
      clear ej h3 h2 h1 h
      induction ds generalizing j with
      | nil => cases j <;> rfl
      | cons p ds ih =>
        cases j with
        | zero => simp
        | succ j => simpa using ih j
    have mm : ∀ {f : PyData → Bool} {b : Bool}, (∀ p ∈ ds, f p.1 = b) → ∀ p ∈ (ds.modify j fun p => (p.1, d)), f p.1 = b := fun {f b} q p hp => by
      have : f p.1 ∈ (ds.modify j fun p => (p.1, d)).map fun p => f p.1 := List.mem_map.mpr ⟨p, hp, rfl⟩
      rw [em f] at this
      obtain ⟨p', hp', e'⟩ := List.mem_map.mp this
      rw [← e']
      exact q p' hp'
    exact ⟨mm h1, h2.elim (fun q => .inl (mm q)) fun q => .inr (mm q), by rw [em nk]; exact h3⟩
  | none =>
    unfold kFit at h
    rw [Bool.and_eq_true] at h
    have ht : ∀ p ∈ ds, isTupD p.1 = isTupD e := fun p hp => by
      have := List.all_eq_true.mp h.2 p hp
      simpa using this
    refine ⟨fun p hp => ?_, ?_, ?_⟩
    · rcases List.mem_append.mp hp with q | q
      · exact h1 p q
      · rw [List.mem_singleton.mp q]; exact h.1
    · cases hT : isTupD e with
      | true =>
        refine .inl fun p hp => ?_
        rcases List.mem_append.mp hp with q | q
        · exact (ht p q).trans hT
        · rw [List.mem_singleton.mp q]; exact hT
      | false =>
        refine .inr fun p hp => ?_
        rcases List.mem_append.mp hp with q | q
        · exact (ht p q).trans hT
        · rw [List.mem_singleton.mp q]; exact hT
    · rw [List.map_append, List.nodup_append]
      refine ⟨h3, by simp, fun x hx y hy => ?_⟩
      obtain ⟨p, hp, rfl⟩ := List.mem_map.mp hx
      rw [show y = nk e by simpa using hy]
      intro q
      have := List.findIdx?_eq_none_iff.mp ej p hp
      simp [q] at this
section
variable {X : Cx} {pins : List (Addr × Obj)} {σ : L2.St} {G H : Hp} {s : Shared} {a : Addr} {es : Array DictEntry} {ep : Nat} {ds : List (PyData × PyData)}
theorem RpKV.at (I : Inv X pins σ H s) (sg : Same G H) : ∀ (ds : List (PyData × PyData)) {es : List DictEntry}, (∀ p ∈ ds, keyOk p.1 = true) → RpKV X.kx G es ds → KeysAt X.w s.heap es (ksOf ds)
  | [], _, _, r => by
    cases r
    exact .nil
  | (e, d) :: ds, _, ok, r => by
    cases r with
    | cons a1 a2 a3 a4 a5 t =>
      obtain ⟨k, hk, _⟩ := keyOk_some (ok (e, d) (by simp))
      have ih := RpKV.at I sg ds (fun p hp => ok p (by simp [hp])) t
      have hk' : nk e = some k := hk
      unfold ksOf at ih ⊢
      rw [List.filterMap_cons, show nk (e, d).1 = some k from hk]
      exact .cons (Rp.nest I _ _ _ k hk' (a4.up sg) a2) (by rw [a1]; unfold hashK; rw [hk']) ih
theorem dk_of (I : Inv X pins σ H s) (hd : H a = some (dO a es ep)) (sg : Same G H) (ok : keysOk ds) (r : RpKV X.kx G es.toList ds) : DK X.w s.heap a es ep (ksOf ds) := by
  refine ⟨(dO_get I hd).2.2, RpKV.at I sg _ ok.1 r, fun k hk => ?_, ?_, ?_⟩
  · obtain ⟨p, hp, hn⟩ := mem_ksOf hk
    obtain ⟨k', hk', hd'⟩ := keyOk_some (ok.1 p hp)
    rw [hn] at hk'
    cases hk'
    exact hd'
  · rcases ok.2.1 with q | q
    · refine .inl fun k hk => ?_
      obtain ⟨p, hp, hn⟩ := mem_ksOf hk
      rw [nk_isT hn]; exact q p hp
    · refine .inr fun k hk => ?_
      obtain ⟨p, hp, hn⟩ := mem_ksOf hk
      rw [nk_isT hn]; exact q p hp
  · have h := ok.2.2
    rw [ksOf_map ok.1] at h
    exact (List.pairwise_map.mp h).imp fun hn e => hn (congrArg some e)
theorem valE_some (ok : keysOk ds) (r : RpKV X.kx G es.toList ds) {e z : PyData} {k : NestedKey} (he : nk e = some k) (h : lkD ds e = some z) : ∃ v u, valE es (ksOf ds) k = some u ∧ RelV v u ∧ Rp X.kx G v z := by
  rw [lkD_pl] at h
  unfold valE
  rw [plc_eq he (ksOf_map ok.1)]
  cases ej : plD ds e with
  | none => rw [ej] at h; cases h
  | some j =>
    rw [ej] at h
    simp only at h
    cases ep : ds[j]? with
    | none => rw [ep] at h; cases h
    | some p =>
      rw [ep] at h
      cases h
      obtain ⟨t, kv, v, h1, h2, h3, h4, h5⟩ := r.get ep
      refine ⟨v, t.val, ?_, h3, h5⟩
      have : es[j]? = some t := by simpa using h1
      simp [this]
theorem valE_none (ok : keysOk ds) {e : PyData} {k : NestedKey} (he : nk e = some k) (h : lkD ds e = none) : valE es (ksOf ds) k = none ∧ plc (ksOf ds) k = none ∧ plD ds e = none := by
  rw [lkD_pl] at h
  unfold valE
  rw [plc_eq he (ksOf_map ok.1)]
  cases ej : plD ds e with
  | none => exact ⟨rfl, rfl, rfl⟩
  | some j =>
    rw [ej] at h
    have := plD_lt ej
    simp only [List.getElem?_eq_getElem this] at h
    cases h
end
/-! ### k in d, d[k] -/
section
variable {X : Cx}
theorem room8 {A : Around} (hu : A.units + 64 < cLine) : A.in1.units + 8 < cLine := by
  show A.units + 1 + 8 < cLine
  omega
theorem ix_dict (hu : X.A.units + 64 < cLine) : IxR X (rIxD X.kx) := by
  intro value slice pins s σ H x y v u Q I rx ry ⟨G, ds, e, z, sg, hx, hy, hk, hz, q⟩ hs
  obtain ⟨p, es, ep, rfl, hd, ok, r⟩ := hx.dict sg
  cases rx
  obtain ⟨k, hn, hd8, ht⟩ := kFit_ok ok.1 hk
  have D := dk_of I hd sg ok r
  have hyn := Rp.nest I e y u k hn (hy.rp sg) ry
  obtain ⟨v0, u0, e1, rv, rp⟩ := valE_some ok r hn hz
  refine subscriptTail_builtinR (x := u0) (T := "dict") ⟨_, D.o, rfl⟩ slot_dict_getitem.lookup ?_ hs
  unfold getItem
  try with_reducible refine wpAny_holding ?_
  refine wpAny_bind (wpAny_sequenceKey (T := "dict") ⟨_, D.o, rfl⟩ (by decide) ?_)
  refine wpAny_bind (wpAny_callSpecial?_slot (name := Str.ofString "__getitem__") (T := "dict") ⟨_, D.o, rfl⟩ slot_dict_getitem
    (wpAny_call_entry slot_dict_getitem (T := "dict") ⟨_, D.o, rfl⟩ entry_dict_getitem ?_ (args_dict_getitem _ _)))
  show wpAny _ _ (dictGet p u >>= _) _ _ s
  refine wpAny_bind (get_D D hyn hd8 ht (room8 hu) ?_)
  rw [e1]
  exact wpAny_pure ⟨u0, rfl, wpAny_pure ⟨rfl, v0, H, I.tok _, rv, q v0 rp⟩⟩
theorem ix_all (hu : X.A.units + 64 < cLine) : IxR X (rIxA X.kx) := IxR.or ix_seq (ix_dict hu)
theorem op_inD (hu : X.A.units + 64 < cLine) : OpR X (compareOp .In) (rInD X.kx id) := by
  intro pins s σ H x y v u Q I rx ry ⟨d, ds, hx, hy, hk, q⟩
  cases hy with
  | @dict p es ep _ hd ok r =>
    cases ry
    obtain ⟨k, hn, hd8, ht⟩ := kFit_ok ok.1 hk
    have D := dk_of I hd (Same.refl _) ok r
    have hyn := Rp.nest I d x v k hn hx rx
    have eh : (valE es (ksOf ds) k).isSome = hasD ds d := by
      cases hl : lkD ds d with
      | some z =>
        obtain ⟨v0, u0, e1, _⟩ := valE_some ok r hn hl
        rw [e1]
        have := lkD_pl (ds := ds) (e := d)
        rw [hl] at this
        rw [hasD_pl]
        cases hp : plD ds d with
        | none => rw [hp] at this; cases this
        | some j => rfl
      | none =>
        obtain ⟨e1, _, e3⟩ := valE_none (es := es) ok hn hl
        rw [e1, hasD_pl, e3]
        rfl
    show wpAny _ _ (do return Value.bool (← contains (.ref p) v) : Sem Value) _ _ s
    refine wpAny_bind ?_
    unfold contains
    try with_reducible refine wpAny_holding ?_
    refine wpAny_bind (wpAny_specialOf (T := "dict") ⟨_, D.o, rfl⟩ slot_dict_contains.lookup ?_)
    show wpAny _ _ (if (some (Value.builtin "dict.__contains__") == some Value.none) = true then _ else _) _ _ s
    rw [if_neg (by rw [beq_builtin_none]; exact Bool.false_ne_true)]
    refine wpAny_bind (wpAny_callSpecialUnlessNone?_slot (name := Str.ofString "__contains__") (T := "dict") ⟨_, D.o, rfl⟩ slot_dict_contains
      (wpAny_call_entry slot_dict_contains (T := "dict") ⟨_, D.o, rfl⟩ entry_dict_contains ?_ (args_dict_contains _ _)))
    show wpAny _ _ (dictGet p v >>= _) _ _ s
    refine wpAny_bind (get_D D hyn hd8 ht (room8 hu) ?_)
    cases hf : valE es (ksOf ds) k with
    | some w =>
      rw [hf] at eh
      show wpAny _ _ (PySem.ret (.bool true)) _ _ _
      refine wpAny_pure ⟨_, rfl, wpAny_truthy_bool (wpAny_pure ⟨.bl true, H, I.tok _, rfl, ?_⟩)⟩
      have : hasD ds d = true := eh.symm
      rw [this] at q
      exact q
    | none =>
      rw [hf] at eh
      show wpAny _ _ (Builtin.Dict.pendingKey? p v >>= _) _ _ _
      refine wpAny_bind (wpAny_pendingKey_other (dO_get I hd).1 (wpAny_pure ⟨_, rfl, wpAny_truthy_bool (wpAny_pure ⟨.bl false, H, I.tok _, rfl, ?_⟩)⟩))
      have : hasD ds d = false := eh.symm
      rw [this] at q
      exact q
end
end Mi
/-! methods of data; changes of what is owned by methods; stores into a dict -/
namespace Mi
open PySem PySem.Spec PyProof.Rows L2
open PySem.Sem (wp)
/-! ### the call of a method of data -/
def tyW (K : PySem.W.Frag) (T : String) (x : V) (H : Hp) : Prop := tyV K T x H ∨ (∃ p its xs, x = .ref p ∧ T = "tuple" ∧ H p = some (tO its xs)) ∨ ∃ p es ep, x = .ref p ∧ T = "dict" ∧ H p = some (dO p es ep)
theorem tyW_is {X : Cx} {pins : List (Addr × Obj)} {σ : L2.St} {H : Hp} {s : Shared} {T : String} {x : V} {v : Value} (I : Inv X pins σ H s) (r : RelV x v) (ty : tyW X.K T x H) :
    s.TypeIs v T ∧ ∀ a, v = .ref a → ∃ ob, s.heap.get? a = some ob ∧ ob.dict = none := by
  rcases ty with ty | ⟨p, its, xs, rfl, rfl, h⟩ | ⟨p, es, ep, rfl, rfl, h⟩
  · exact tyV_is I r ty
  · cases r
    obtain ⟨ho, _⟩ := (show ObjOk X.prog X.w H s.heap p (tO its xs) from I.hok p _ h)
    exact ⟨⟨_, ho, rfl⟩, fun a e => by cases e; exact ⟨_, ho, rfl⟩⟩
  · cases r
    obtain ⟨_, _, ho⟩ := dO_get I h
    exact ⟨⟨_, ho, rfl⟩, fun a e => by cases e; exact ⟨_, ho, rfl⟩⟩
theorem tyW_of {K : Frag} {G H : Hp} {x : V} {d : PyData} {T : String} (s : Same G H) (r : Rq K G H x d) (h : typeD d = T) (hT : T = "list" ∨ T = "tuple" ∨ T = "dict") : tyW K T x H := by
  subst h
  cases d with
  | none => simp [typeD] at hT
  | bool b => simp [typeD] at hT
  | int i => simp [typeD] at hT
  | str z => simp [typeD] at hT
  | list ds =>
    obtain ⟨p, us, rfl, h1, _⟩ := r.lst s
    exact .inl (.inl ⟨rfl, us, .inl (.inl h1)⟩)
  | tuple ds =>
    obtain ⟨p, us, rfl, h1, _⟩ := r.tup s
    rcases h1 with ⟨its, h1⟩ | ⟨o, its, n, h1, h2, h3, _⟩
    · exact .inr (.inl ⟨p, its, us, rfl, rfl, h1⟩)
    · exact .inl (.inr (.inl ⟨rfl, o, h1, h2, h3⟩))
  | dict ds =>
    obtain ⟨p, es, ep, rfl, h1, _⟩ := r.dict s
    exact .inr (.inr ⟨p, es, ep, rfl, rfl, h1⟩)
section
variable {X : Cx} {o e : Expr} {es : List Expr} {to : TE} {t : TA} {name : Str} {apos cpos : Pos} {T id : String} {r : V → List V → Hp → VK → Prop}
def tBMW (K : PySem.W.Frag) (T : String) (r : V → List V → Hp → VK → Prop) (to : TE) (t : TA) : TE := fun σ H Q => to σ H fun x H1 => tyW K T x H1 ∧ t σ H1 fun xs H2 => r x xs H2 Q
theorem pe_bmW (pa : PlainAttrs T) (slot : Slot T name id) (hty : typeOf (.builtin id) = pure (.type "method_descriptor")) (hm : MtR X id r) (ho : PE X o to) (ha : PA X (e :: es) t)
    (hbase : attributeBase o name X.env (eval o X.env) = eval o X.env := by rfl)
    (hfew : ((backTo cpos (starEach (e :: es) X.env)).all (fun x => !x.1) && (backToKw cpos (keywordEach [] X.env)).all (fun x => x.1.isSome)
      && decide ((e :: es).length + ([] : List Keyword).length + (if ([] : List Keyword).isEmpty then 0 else 1) < 30)) = true := by rfl)
    (hline : (apos.endLine == cpos.line) = true := by rfl) (hs : starEach (e :: es) X.env = (false, eval e X.env) :: starEach es X.env := by rfl) (hplain : (backTo cpos (starEach es X.env)).any (·.1) = false := by rfl) :
    PE X (.Call (.Attribute o name apos) (e :: es) [] cpos) (tBMW X.K T r to t) := by
  refine ⟨fun pins s σ H Q I h => ?_⟩
  refine wpAny_Call_method_late hbase hfew hline rfl (thn (ho.run pins s σ H _ I h) fun v s1 ⟨x, H1, I1, r1, ty, q1⟩ => ?_)
  obtain ⟨h1, h2⟩ := tyW_is I1 r1 ty
  refine ⟨T, id, pa, slot, hty, h1, h2, ?_⟩
  have hA := ha.run cpos pins s1 σ H1 _ I1 q1
  rw [hs] at hA ⊢
  refine Calls.callWith_builtin (by show (false || (backTo cpos (starEach es X.env)).any (·.1)) = false; rw [hplain] <;> rfl) (Calls.evalArgs_plain ?_)
  exact thn hA fun us s2 ⟨vs, H2, I2, r2, q2⟩ => hm pins s2 σ H2 x vs v us Q I2 r1 r2 q2
end
/-- a method on data -/
def OpMt (K : Frag) (T : String) (r : V → List V → Hp → VK → Prop) (f : PyData → List PyData → Option PyData) : Prop := ∀ (x : V) (xs : List V) (d : PyData) (ds : List PyData) (z : PyData) (G H : Hp) (Q : VK), typeD d = T → f d ds = some z → Same G H → Rq K G H x d → RpAll K G xs ds →
  (∀ v G' H', Gr G H G' H' → Rp K G' v z → Q v H') → r x xs H Q
def chkT (Ts : List String) (d : PyData) : MM Unit := lft (if Ts.contains (typeD d) = true then some () else none)
def metM (Ts : List String) (f : PyData → List PyData → Option PyData) (mo : MM PyData) (mas : MM (List PyData)) : MM PyData := bnd mo fun d => bnd (chkT Ts d) fun _ => bnd mas fun ds => lft (f d ds)
/-- .. of a name, looked at behind the arguments -/
def metV (Ts : List String) (f : PyData → List PyData → Option PyData) (i : Nat) (mas : MM (List PyData)) : MM PyData := bnd (pkV i) fun d0 => bnd (chkT Ts d0) fun _ => bnd mas fun ds => bnd (pkV i) fun d => bnd (chkT [typeD d0] d) fun _ => lft (f d ds)
section
variable {X : Cx} {W : WX} {o e : Expr} {es : List Expr} {call : Expr} {mo : MM PyData} {mas : MM (List PyData)} {T : String} {r : V → List V → Hp → VK → Prop} {f : PyData → List PyData → Option PyData}
theorem chkT_of {Ts : List String} {d : PyData} {F : Frm} {σ : L2.St} {g : Gm} {G : Hp} {α : Type} {m : Unit → MM α} {k : α → Gm → Hp → Hp → Prop} (q : Po X.kx X.mg W F σ G (bnd (chkT Ts d) m g) k) : typeD d ∈ Ts ∧ Po X.kx X.mg W F σ G (m () g) k := by
  unfold bnd chkT lft at q
  by_cases h : Ts.contains (typeD d) = true
  · rw [if_pos h] at q
    exact ⟨by simpa using h, q⟩
  · rw [if_neg h] at q
    exact q.elim
theorem metV_of {i : Nat} (ho : OpMt X.kx T r f) (hT : T = "list" ∨ T = "tuple" ∨ T = "dict") {F : Frm} {σ : L2.St} {g : Gm} {G H : Hp} {Q : VK} {d : PyData} {x : V} (A : At X.kx F σ g G H) (ex : σ[i]? = some (some x)) (rx : Rq X.kx G H x d) (ed : typeD d = T)
    (q : Po X.kx X.mg W F σ G (bnd mas (fun ds => bnd (pkV i) fun d2 => bnd (chkT [typeD d] d2) fun _ => lft (f d2 ds)) g) fun d _ G' H' => ∀ v, Rp X.kx G' v d → Q v H') : tyW X.K T x H ∧ cA X.kx X.mg W mas σ H fun xs H2 => r x xs H2 Q := by
  refine ⟨tyW_of A.ex rx ed hT, F, g, G, A, Po.imp q.bnd fun ds g2 G2 H2 A2 s2 k2 xs rxs => ?_⟩
  obtain ⟨x2, d2, ex2, rx2, k3⟩ := pk_read A2 k2
  rw [ex] at ex2
  cases ex2
  obtain ⟨e3, k4⟩ := chkT_of k3
  obtain ⟨z, ez, k⟩ := k4.lft
  have e4 : typeD d2 = T := by
    have : typeD d2 = typeD d := by simpa using e3
    rw [this]; exact ed
  exact ho x xs d2 ds z G2 H2 Q e4 ez A2.ex rx2 rxs fun v G' H' gr rv => k G' H' (A2.grow gr) gr.g v rv
theorem me_met1V {i : Nat} (ho : OpMt X.kx T r f) (hp : PE X call (tBMW X.K T r (tVar i) (cA X.kx X.mg W mas))) (hT : T = "list" ∨ T = "tuple" ∨ T = "dict" := by simp) : ME X W call (metV [T] f i mas) := PE.wk hp fun σ H Q ⟨F, g, G, A, q⟩ => by
  obtain ⟨x, d, ex, rx, k⟩ := pk_read A q
  obtain ⟨e, k2⟩ := chkT_of k
  exact ⟨x, ex, metV_of ho hT A ex rx (by simpa using e) k2⟩
end
/-! ### count and index of data -/
theorem one_of {K : Frag} {G : Hp} {xs : List V} {e : PyData} (r : RpAll K G xs [e]) : ∃ y, xs = [y] ∧ Rp K G y e := by
  cases r with
  | cons a t => cases t; exact ⟨_, rfl, a⟩
end Mi
/-! what is owned is changed by methods: list.pop, list.remove, dict.setdefault, dict.pop; d[k] = v; d.get -/
namespace Mi
open PySem PySem.Spec PyProof.Rows L2
open PySem.Sem (wp)
theorem GrS.upd {G H : Hp} {p : Addr} {o o' : HO} (s : Same G H) (gp : G p = none) (hp : H p = some o) : GrS p G H G (upd H p o') := by
  refine ⟨Same.refl _, fun a u ne h => ?_, fun a u h => ?_, fun _ _ _ _ => rfl, fun a h => ?_⟩
  · rw [upd_ne ne]; exact h
  · rw [upd_ne (ne_of_none h gp)]; exact s _ _ h
  · by_cases q : a = p
    · subst q; rw [upd_same] at h; cases h
    · rw [upd_ne q] at h; exact h
def mutM (T : String) (f : PyData → List PyData → Option (PyData × PyData)) (i : Nat) (mas : MM (List PyData)) : MM PyData := bnd (pkO i) fun d0 => bnd (chkT [T] d0) fun _ => bnd mas fun ds g => match g[i]? with
  | some (.own t s) => (match f s ds with
    | some zs => .ok (zs.1, g.set i (.own t zs.2))
    | none => .error .stuck)
  | _ => .error .stuck
@[simp ↓] theorem ev_mutM {T : String} {f : PyData → List PyData → Option (PyData × PyData)} {i : Nat} {mas : MM (List PyData)} {g : Gm} {Q : PyData → Gm → Prop} {X : String → Gm → Prop} :
    ev (mutM T f i mas) g Q X ↔ (atO g i fun _ d => typeD d = T) ∧ ev mas g (fun ds g1 => atO g1 i fun t s => okO (f s ds) fun zs => Q zs.1 (g1.set i (.own t zs.2))) X := by
  unfold mutM
  rw [ev_bnd]
  have h1 : ∀ P : PyData → Gm → Prop, ev (pkO i) g P X ↔ atO g i fun _ d => P d g := by
    intro P
    unfold ev pkO okE atO
    generalize g[i]? = s
    rcases s with _ | (_ | d | ⟨t, d⟩) <;> simp
  rw [h1]
  unfold atO
  generalize g[i]? = s
  rcases s with _ | (_ | d | ⟨t, d⟩)
  · simp
  · simp
  · simp
  · simp only [ev_bnd, chkT, ev_lft]
    by_cases hT : typeD d = T
    · have hc : ([T].contains (typeD d)) = true := by simp [hT]
      rw [if_pos hc]
      simp only [okO_some, hT, true_and]
      unfold ev okE bnd
      generalize mas g = rr
      rcases rr with (_ | ⟨c, g'⟩) | ⟨ds, g'⟩
      · rfl
      · rfl
      · simp only
        generalize g'[i]? = s
        rcases s with _ | (_ | d | ⟨t, d⟩)
        · rfl
        · rfl
        · rfl
        · simp only
          generalize f d ds = o
          cases o <;> rfl
    · have hc : ¬ ([T].contains (typeD d)) = true := by simpa using hT
      rw [if_neg hc]
      simp [hT]
@[simp ↓] theorem ev_metM {Ts : List String} {f : PyData → List PyData → Option PyData} {mo : MM PyData} {mas : MM (List PyData)} {g : Gm} {Q : PyData → Gm → Prop} {X : String → Gm → Prop} :
    ev (metM Ts f mo mas) g Q X ↔ ev mo g (fun d g1 => Ts.contains (typeD d) = true ∧ ev mas g1 (fun ds g2 => okO (f d ds) fun z => Q z g2) X) X := by
  unfold metM chkT
  simp only [ev_bnd, ev_lft]
  refine iff_of_eq (congrArg (fun h => ev mo g h X) ?_)
  funext d g1
  by_cases h : Ts.contains (typeD d) = true
  · rw [if_pos h]; simp only [okO_some, h, true_and]
  · rw [if_neg h]; simp only [h, Bool.false_eq_true, false_and, okO_none]
@[simp ↓] theorem ev_metV {Ts : List String} {f : PyData → List PyData → Option PyData} {i : Nat} {mas : MM (List PyData)} {g : Gm} {Q : PyData → Gm → Prop} {X : String → Gm → Prop} :
    ev (metV Ts f i mas) g Q X ↔ ev (pkV i) g (fun d0 g1 => Ts.contains (typeD d0) = true ∧ ev mas g1 (fun ds g2 => ev (pkV i) g2 (fun d g3 => typeD d = typeD d0 ∧ okO (f d ds) fun z => Q z g3) X) X) X := by
  unfold metV chkT
  simp only [ev_bnd, ev_lft]
  refine iff_of_eq (congrArg (fun h => ev (pkV i) g h X) ?_)
  funext d0 g1
  by_cases h : Ts.contains (typeD d0) = true
  · rw [if_pos h]
    simp only [okO_some, h, true_and]
    refine congrArg (fun h => ev mas g1 h X) ?_
    funext ds g2
    refine congrArg (fun h => ev (pkV i) g2 h X) ?_
    funext d g3
    by_cases h2 : typeD d = typeD d0
    · simp [h2]
    · have : ¬ ([typeD d0].contains (typeD d)) = true := by simpa using h2
      rw [if_neg this]
      simp [h2]
  · rw [if_neg h]; simp only [h, Bool.false_eq_true, false_and, okO_none]
/-! ### list.pop(0), list.pop(), list.remove(x) -/
theorem Vals.erase : ∀ {xs : List V} {us : List Value} (j : Nat), Vals xs us → Vals (xs.eraseIdx j) (us.eraseIdx j)
  | _, _, _, .nil => .nil
  | _, _, 0, .cons _ t => t
  | _, _, j + 1, .cons a t => .cons a (Vals.erase j t)
theorem RpAll.erase {K : Frag} {H : Hp} : ∀ {xs : List V} {ds : List PyData} (j : Nat), RpAll K H xs ds → RpAll K H (xs.eraseIdx j) (ds.eraseIdx j)
  | _, _, _, .nil => .nil
  | _, _, 0, .cons _ t => t
  | _, _, j + 1, .cons a t => .cons a (RpAll.erase j t)
end Mi
/-! d[k] = v, d.get, d.setdefault, d.pop of dicts of data -/
namespace Mi
open PySem PySem.Spec PyProof.Rows L2
open PySem.Sem (wp)
def rSetD (K : Frag) : V → V → V → Hp → (Hp → Prop) → Prop := fun o i v H Q => ∃ (p : Addr) (G : Hp) (es : Array DictEntry) (ep : Nat) (ds : List (PyData × PyData)) (e d : PyData), o = .ref p ∧ Same G H ∧ H p = some (dO p es ep) ∧ keysOk ds ∧ RpKV K G es.toList ds ∧ Rp K G i e ∧ Rp K G v d ∧ kFit ds e = true ∧ ds.length < sizeLine ∧
  ∀ es' ep', RpKV K G es'.toList (putD ds e d) → Q (upd H p (dO p es' ep'))
theorem putE_size {es : Array DictEntry} {ks : List NestedKey} {k : NestedKey} {h : Int} {key v : Value} : (putE es ks k h key v).size ≤ es.size + 1 := by
  unfold putE
  cases plc ks k <;> simp
section
variable {X : Cx} {pins : List (Addr × Obj)} {σ : L2.St} {H : Hp} {s : Shared} {A : Around}
theorem dO_write {p : Addr} {es es' : Array DictEntry} {ep ep' : Nat} {h' : Heap} {t : Nat} (I : Inv X pins σ H s) (hd : H p = some (dO p es ep)) (sb : Heap.SameBut p s.heap h') (ho : h'.get? p = some { cls := .type "dict", data := .dict es' ep' }) (hz : es'.size ≤ sizeLine) :
    Inv X pins σ (upd H p (dO p es' ep')) { s with heap := h', toks := t } :=
  I.write (x := p) (e := p) (by rw [hd]; trivial) (.inl rfl) (fun b o hb z => (sb.2 b hb).trans z) ⟨_, ho⟩ (dO_ok (dO_get I hd).1 hz ho)
theorem RpKV.size {K : Frag} {G : Hp} {es : Array DictEntry} {ds : List (PyData × PyData)} (r : RpKV K G es.toList ds) : es.size = ds.length := by
  simpa using r.len
theorem d_setD {E : Value → Shared → Prop} {p : Addr} {i v : V} {u r : Value} {Q : Hp → Prop} {R : Unit → Shared → Prop} (hu : A.units + 8 < cLine) (I : Inv X pins σ H s) (ru : RelV i u) (rr : RelV v r) (h : rSetD X.kx (.ref p) i v H Q) (hR : ∀ s' H', Inv X pins σ H' s' → Q H' → R () s') :
    wpAny (model X.prog X.w) A (dictSet p u r) R E s := by
  obtain ⟨p', G, es, ep, ds, e, d, ep', sg, hd, ok, rk, ri, rv, hk, hl, q⟩ := h
  cases ep'
  obtain ⟨k, hn, hd8, ht⟩ := kFit_ok ok.1 hk
  have D := dk_of I hd sg ok rk
  have hy := Rp.nest I e i u k hn (ri.up sg) ru
  have hs := rk.size
  refine set_D D hy hd8 ht hu (by omega) fun h' e' sb D' => hR _ _ (dO_write I hd sb D'.o ?_) (q _ _ ?_)
  · have := putE_size (es := es) (ks := ksOf ds) (k := k) (h := k.hash X.w) (key := u) (v := r)
    omega
  · exact rk.put hn (ksOf_map ok.1) ru rr ri rv
theorem set_dict (hu : X.A.units + 64 < cLine) : PSet X (rSetD X.kx) := by
  intro pins s σ H o i v ov iv u Q I ro ri rv h
  obtain ⟨p, G, es, ep, ds, e, d, rfl, h0⟩ := id h
  obtain ⟨sg, hd, _⟩ := id h0
  cases ro
  have ho := (dO_get I hd).2.2
  unfold setItem
  try with_reducible refine wpAny_holding ?_
  refine wpAny_bind (wpAny_sequenceKey (T := "dict") ⟨_, ho, rfl⟩ (by decide) ?_)
  refine wpAny_bind (wpAny_callSpecial?_slot (name := Str.ofString "__setitem__") (T := "dict") ⟨_, ho, rfl⟩ slot_dict_setitem
    (wpAny_call_entry slot_dict_setitem (T := "dict") ⟨_, ho, rfl⟩ entry_dict_setitem ?_ (args_dict_setitem _ _ _)))
  show wpAny _ _ (Builtin.Dict.notOrdered "__setitem__" ⟨[.ref p, iv, u], []⟩ >>= _) _ _ s
  refine wpAny_bind (wpAny_notOrdered_dict ⟨_, ho, rfl⟩ ?_)
  show wpAny _ _ (dictSet p iv u >>= _) _ _ s
  exact wpAny_bind (d_setD (room8 hu) I ri rv h fun s' H' I' q => wpAny_pure ⟨.none, rfl, wpAny_pure ⟨H', I', q⟩⟩)
end
/-- d[k] = v of an owned dict -/
def chkD (i : Nat) : MM Unit := fun g => match g[i]? with
  | some (.own _ (.dict _)) => .ok ((), g)
  | _ => .error .stuck
def stoK (i : Nat) (k m : MM PyData) : Gm → Out := fun g => onE (bnd m (fun d => bnd (chkD i) fun _ => bnd k fun j => ret (d, j)) g) fun dj g' => match g'[i]? with
  | some (.own t (.dict ds)) => if kFit ds dj.2 = true ∧ ds.length < sizeLine then .nx (g'.set i (.own t (.dict (putD ds dj.2 dj.1)))) else .stuck
  | _ => .stuck
theorem chkD_at {α : Type} {K : Frag} {mg : Mg} {W : WX} {F : Frm} {σ : L2.St} {g : Gm} {G H : Hp} {i : Nat} {f : Unit → MM α} {k : α → Gm → Hp → Hp → Prop} (A : At K F σ g G H) (q : Po K mg W F σ G (bnd (chkD i) f g) k) :
    ∃ p, σ[i]? = some (some (.ref p)) ∧ Po K mg W F σ G (f () g) k := by
  unfold bnd chkD at q
  generalize eg : g[i]? = s at q
  rcases s with _ | (_ | d | ⟨t, d⟩)
  · exact q.elim
  · exact q.elim
  · exact q.elim
  · cases d with
    | dict ds =>
      obtain ⟨p, h1, _⟩ := A.own i _ _ eg
      exact ⟨p, h1, q⟩
    | _ => exact q.elim
section
variable {X : Cx} {W : WX} {o e k : Expr} {m mk : MM PyData} {pos p p2 : Pos} {i : Nat}
theorem ms_stoK (hu : X.A.units + 64 < cLine) (ho : PE X o (tVar i)) (hk : ME X W k mk) (he : ME X W e m) (ha : ∀ v, assign (.Subscript o k p) X.env v = (do
      let ov ← holding [v] (eval o X.env)
      let iv ← holding [v, ov] (eval k X.env)
      standAt p
      holding [v, ov, iv] (setItem ov iv v)
      release [v, ov, iv] []) := by intro _; rfl)
    (hs : swapsWithSole [.Subscript o k p] e pos.line X.env = pure false := by rfl) (hw : swappedStores [.Subscript o k p] e X.env = pure none := by rfl)
    (h1 : (assignEach [.Subscript o k p] X.env).map (·.2) = [assign (.Subscript o k p) X.env] := by rfl) : MS X W (.Assign [.Subscript o k p] e pos) (stoK i mk m) :=
  PS.wk (ps_asg he (pg_sub ho hk (set_dict hu) ha) hs hw h1) fun D σ H ⟨F, g, G, A, q⟩ => by
  refine ⟨F, g, G, A, Po.imp (Po.bnd (PoS.onE q)) fun d g1 G1 H1 A1 s1 k1 x rx => ?_⟩
  obtain ⟨p0, ep, k2⟩ := chkD_at A1 k1
  refine ⟨_, ep, F, g1, G1, A1, Po.imp k2.bnd fun j g2 G2 H2 A2 s2 k3 y ry => ?_⟩
  have k4 := k3 G2 H2 A2 (Same.refl _)
  simp only at k4
  generalize eg : g2[i]? = s at k4
  rcases s with _ | (_ | d1 | ⟨t1, d1⟩)
  · exact k4.elim
  · exact k4.elim
  · exact k4.elim
  · obtain ⟨p1, ep1, gp1, ow1, _⟩ := A2.own i _ d1 eg
    rw [ep] at ep1
    cases ep1
    cases d1 with
    | dict ds =>
      obtain ⟨es, e0, h1, ok, h2⟩ := ow1
      simp only at k4
      by_cases hc : kFit ds j = true ∧ ds.length < sizeLine
      · rw [if_pos hc] at k4
        refine ⟨p0, G2, es, e0, ds, j, d, rfl, A2.ex, h1, ok, h2, ry, rx.up s2, hc.1, hc.2, fun es' ep' r => ?_⟩
        have B := A2.change (o := dO p0 es' ep') (d' := .dict (putD ds j d)) eg ep ⟨es', ep', upd_same, ok.put hc.1, r⟩
        exact k4 σ G2 _ B (Same.refl _)
      · rw [if_neg hc] at k4
        exact k4.elim
    | _ => exact k4.elim
end
@[simp ↓] theorem sv_stoK {i : Nat} {mk ma : MM PyData} {g : Gm} {PO : Out → Prop} : sv (stoK i mk ma) g PO ↔ ev ma g (fun d g1 => (atO g1 i fun _ s => typeD s = "dict") ∧ ev mk g1 (fun j g2 => atO g2 i fun t s => okO (match s with | .dict ds => some ds | _ => none) fun ds => (kFit ds j = true ∧ ds.length < sizeLine) ∧ PO (.nx (g2.set i (.own t (.dict (putD ds j d)))))) fun c g' => PO (.ex c g')) fun c g' => PO (.ex c g') := by
  unfold sv stoK
  rw [sv_onE, ev_bnd]
  refine iff_of_eq (congrArg (fun h => ev ma g h _) ?_)
  funext d g1
  rw [ev_bnd]
  have h : ∀ (P : Unit → Gm → Prop) (X : String → Gm → Prop), ev (chkD i) g1 P X ↔ (atO g1 i fun _ s => typeD s = "dict") ∧ P () g1 := by
    intro P X
    unfold ev chkD okE atO
    generalize g1[i]? = s
    rcases s with _ | (_ | d | ⟨t, d⟩)
    · simp
    · simp
    · simp
    · cases d <;> simp [typeD]
  rw [h, ev_bnd]
  refine propext (and_congr Iff.rfl ?_)
  refine iff_of_eq (congrArg (fun h => ev mk g1 h _) ?_)
  funext j g2
  simp only [ev_ret]
  unfold atO
  generalize g2[i]? = s
  rcases s with _ | (_ | e | ⟨t, e⟩)
  · simp
  · simp
  · simp
  · cases e with
    | dict ds =>
      by_cases hc : kFit ds j = true ∧ ds.length < sizeLine
      · simp only [okO_some]
        rw [if_pos hc]
        simp only [svO_nx, hc, and_self, true_and]
      · simp only [okO_some]
        rw [if_neg hc]
        simp only [svO_stuck, hc, false_and]
    | _ => simp
/-! ### d.get -/
def dgetD (x : PyData) (as : List PyData) : Option PyData := match x, as with
  | .dict ds, [k] => if kFit ds k = true then some ((lkD ds k).getD .none) else none
  | .dict ds, [k, d] => if kFit ds k = true then some ((lkD ds k).getD d) else none
  | _, _ => none
section
variable {prog : Program} {w : World}
theorem meets_getD (p : Addr) (key : Value) (hd : (p == sysModules) = false) :
    MeetsIn prog w (Builtin.«dict.get» ⟨[.ref p, key], []⟩) (fun A R s => A.in1.units + 8 < cLine ∧ ∃ es ep ks k, DK w s.heap p es ep ks ∧ NestedIs s.heap k key ∧ k.depth ≤ 8 ∧ (∀ x ∈ ks, isT x = isT k) ∧ R (.ok (.ret ((valE es ks k).getD .none))) { s with toks := s.toks + k.draws }) :=
  .of_wp fun A R s ⟨hu, es, ep, ks, k, D, hk, h8, ht, h⟩ => by
    show wpAny _ _ (dictGet p key >>= _) _ _ s
    refine wpAny_bind (get_D D hk h8 ht hu ?_)
    cases hf : valE es ks k with
    | some v =>
      rw [hf] at h
      exact wpAny_pure ⟨v, rfl, h⟩
    | none =>
      rw [hf] at h
      show wpAny _ _ (Builtin.Dict.missed p key >>= _) _ _ _
      exact wpAny_bind (wpAny_missed_other hd (wpAny_pure ⟨.none, rfl, h⟩))
theorem meets_getD2 (p : Addr) (key x : Value) (hd : (p == sysModules) = false) :
    MeetsIn prog w (Builtin.«dict.get» ⟨[.ref p, key, x], []⟩) (fun A R s => A.in1.units + 8 < cLine ∧ ∃ es ep ks k, DK w s.heap p es ep ks ∧ NestedIs s.heap k key ∧ k.depth ≤ 8 ∧ (∀ x ∈ ks, isT x = isT k) ∧ R (.ok (.ret ((valE es ks k).getD x))) { s with toks := s.toks + k.draws }) :=
  .of_wp fun A R s ⟨hu, es, ep, ks, k, D, hk, h8, ht, h⟩ => by
    show wpAny _ _ (dictGet p key >>= _) _ _ s
    refine wpAny_bind (get_D D hk h8 ht hu ?_)
    cases hf : valE es ks k with
    | some v =>
      rw [hf] at h
      exact wpAny_pure ⟨v, rfl, h⟩
    | none =>
      rw [hf] at h
      show wpAny _ _ (Builtin.Dict.missed p key >>= _) _ _ _
      exact wpAny_bind (wpAny_missed_other hd (wpAny_pure ⟨x, rfl, h⟩))
end
end Mi
namespace Mi
open PySem PySem.Spec PyProof.Rows L2
open PySem.Sem (wp)
def rGetM (K : Frag) : V → List V → Hp → VK → Prop := fun x xs H Q => ∃ (G : Hp) (ds : List (PyData × PyData)) (e z : PyData), Same G H ∧ Rq K G H x (.dict ds) ∧ kFit ds e = true ∧
  ((∃ y, xs = [y] ∧ Rp K G y e ∧ z = (lkD ds e).getD .none) ∨ ∃ y y2 d, xs = [y, y2] ∧ Rp K G y e ∧ Rp K G y2 d ∧ z = (lkD ds e).getD d) ∧ ∀ v, Rp K G v z → Q v H
section
variable {X : Cx}
theorem mt_get (hu : X.A.units + 64 < cLine) : MtR X "dict.get" (rGetM X.kx) := by
  intro pins s σ H x xs v us Q I rx rs ⟨G, ds, e, z, sg, hx, hk, hc, q⟩
  obtain ⟨p, es, ep, rfl, hd, ok, r⟩ := hx.dict sg
  cases rx
  obtain ⟨k, hn, hd8, ht⟩ := kFit_ok ok.1 hk
  have D := dk_of I hd sg ok r
  have hs := (dO_get I hd).1
  rcases hc with ⟨y, rfl, hy, rfl⟩ | ⟨y, y2, d, rfl, hy, hy2, rfl⟩
  · obtain ⟨u, rfl, ru⟩ := vals1 rs
    have hyn := Rp.nest I e y u k hn (hy.up sg) ru
    refine call_meetsIn F.slot_dict_get ⟨_, D.o, rfl⟩ F.entry_dict_get (F.args_dict_get_2 _ _) (meets_getD p u hs) ⟨room8 hu, es, ep, _, k, D, hyn, hd8, ht, ?_⟩
    cases hl : lkD ds e with
    | none =>
      rw [hl] at q
      rw [(valE_none (es := es) ok hn hl).1]
      exact ⟨.non, H, I.tok _, rfl, q _ .non⟩
    | some w =>
      rw [hl] at q
      obtain ⟨v0, u0, e1, rv, rp⟩ := valE_some ok r hn hl
      rw [e1]
      exact ⟨v0, H, I.tok _, rv, q v0 rp⟩
  · obtain ⟨u, u2, rfl, ru, ru2⟩ := vals2 rs
    have hyn := Rp.nest I e y u k hn (hy.up sg) ru
    refine call_meetsIn F.slot_dict_get ⟨_, D.o, rfl⟩ F.entry_dict_get (F.args_dict_get_3 _ _ _) (meets_getD2 p u u2 hs) ⟨room8 hu, es, ep, _, k, D, hyn, hd8, ht, ?_⟩
    cases hl : lkD ds e with
    | none =>
      rw [hl] at q
      rw [(valE_none (es := es) ok hn hl).1]
      exact ⟨y2, H, I.tok _, ru2, q _ hy2⟩
    | some w =>
      rw [hl] at q
      obtain ⟨v0, u0, e1, rv, rp⟩ := valE_some ok r hn hl
      rw [e1]
      exact ⟨v0, H, I.tok _, rv, q v0 rp⟩
theorem two_of {K : Frag} {G : Hp} {xs : List V} {e d : PyData} (r : RpAll K G xs [e, d]) : ∃ y z, xs = [y, z] ∧ Rp K G y e ∧ Rp K G z d := by
  cases r with
  | cons a t =>
    obtain ⟨z, rfl, hz⟩ := one_of t
    exact ⟨_, z, rfl, a, hz⟩
theorem op_get {K : Frag} : OpMt K "dict" (rGetM K) dgetD := by
  intro x xs d as z G H Q hT h s rx rs k
  cases d with
  | dict ds =>
    match as, h with
    | [], h => cases h
    | [e], h =>
      unfold dgetD at h
      simp only at h
      by_cases hk : kFit ds e = true
      · rw [if_pos hk] at h
        cases h
        obtain ⟨y, rfl, hy⟩ := one_of rs
        exact ⟨G, ds, e, _, s, rx, hk, .inl ⟨y, rfl, hy, rfl⟩, fun v rv => k v G H (Gr.refl s) rv⟩
      · rw [if_neg hk] at h; cases h
    | [e, d], h =>
      unfold dgetD at h
      simp only at h
      by_cases hk : kFit ds e = true
      · rw [if_pos hk] at h
        cases h
        obtain ⟨y, y2, rfl, hy, hy2⟩ := two_of rs
        exact ⟨G, ds, e, _, s, rx, hk, .inr ⟨y, y2, d, rfl, hy, hy2, rfl⟩, fun v rv => k v G H (Gr.refl s) rv⟩
      · rw [if_neg hk] at h; cases h
    | _ :: _ :: _ :: _, h => cases h
  | _ => simp [typeD] at hT
end
/-! ### setdefault, pop -/
/-! ### the rules for the printer: o.name(args) -/
section
variable {X : Cx} {W : WX} {o e e2 : Expr} {apos cpos : Pos} {mo m m2 : MM PyData} {i : Nat}
abbrev FewOk (X : Cx) (cpos : Pos) (es : List Expr) : Prop := ((backTo cpos (starEach es X.env)).all (fun x => !x.1) && (backToKw cpos (keywordEach [] X.env)).all (fun x => x.1.isSome) && decide (es.length + ([] : List Keyword).length + (if ([] : List Keyword).isEmpty then 0 else 1) < 30)) = true
theorem me_get2V (hu : X.A.units + 64 < cLine) (ho : PE X o (tVar i)) (he : ME X W e m) (he2 : ME X W e2 m2) (hbase : attributeBase o "get" X.env (eval o X.env) = eval o X.env := by rfl) (hfew : FewOk X cpos [e, e2] := by rfl)
    (hline : (apos.endLine == cpos.line) = true := by rfl) (hs : starEach (e :: [e2]) X.env = (false, eval e X.env) :: starEach [e2] X.env := by rfl) (hs2 : starEach (e2 :: []) X.env = (false, eval e2 X.env) :: starEach [] X.env := by rfl) (hpl : (backTo cpos (starEach [e2] X.env)).any (·.1) = false := by rfl) :
    ME X W (.Call (.Attribute o "get" apos) [e, e2] [] cpos) (metV ["dict"] dgetD i (consM m (consM m2 nilM))) :=
  me_met1V op_get (pe_bmW F.plainAttrs_dict F.slot_dict_get F.type_dict_get (mt_get hu) ho (ma_cons he (ma_cons he2 ma_nil hs2) hs) hbase hfew hline hs hpl)
theorem op_in (hu : X.A.units + 65 < cLine) : OpR X (compareOp .In) (rInB X.kx id) := OpR.or (hr_in0 hu) (op_inD (by omega))
end
end Mi
/-! displays of dicts, comprehensions of dicts -/
namespace Mi
open PySem PySem.Spec PyProof.Rows L2
open PySem.Sem (wp)
theorem Po.via {α : Type} {K : Frag} {mg : Mg} {W : WX} {F : Frm} {σ : L2.St} {g : Gm} {G G0 H : Hp} {r : Except Er (α × Gm)} {k : α → Gm → Hp → Hp → Prop} (A : At K F σ g G0 H) (h : Po K mg W F σ G r k) : Po K mg W (snap F σ g G0 H) σ G r k := by
  rcases r with (_ | ⟨c, g'⟩) | ⟨a, g'⟩
  · exact h
  · exact fun C e G' H' B s => h C e G' H' (A.via B) s
  · exact fun G' H' B s => h G' H' (A.via B) s
/-- a dict made of pairs -/
def mkD : List (PyData × PyData) → List (PyData × PyData) → Option (List (PyData × PyData))
  | acc, [] => some acc
  | acc, (k, v) :: ps => if kFit acc k = true ∧ acc.length < sizeLine then mkD (putD acc k v) ps else none
inductive RpPs (K : Frag) (G : Hp) : List (V × V) → List (PyData × PyData) → Prop
  | nil : RpPs K G [] []
  | cons {y z : V} {e d : PyData} {ps : List (V × V)} {ds : List (PyData × PyData)} : Rp K G y e → Rp K G z d → RpPs K G ps ds → RpPs K G ((y, z) :: ps) ((e, d) :: ds)
theorem RpPs.up {K : Frag} {G G' : Hp} (s : Same G G') : ∀ {ps : List (V × V)} {ds : List (PyData × PyData)}, RpPs K G ps ds → RpPs K G' ps ds
  | _, _, .nil => .nil
  | _, _, .cons a b t => .cons (a.up s) (b.up s) (t.up s)
/-! pairs of data -/
def dspN : MM (List (PyData × PyData)) := ret []
def dspC (k v : MM PyData) (r : MM (List (PyData × PyData))) : MM (List (PyData × PyData)) := bnd k fun e => bnd v fun d => bnd r fun ps => ret ((e, d) :: ps)
/-- a new dict that is nobody's -/
def cDn (K : Frag) (mg : Mg) (W : WX) (m : MM (List (PyData × PyData))) : TE := fun σ H Q => ∃ F g G, At K F σ g G H ∧ Po K mg W F σ G (m g) fun ds g' G' H' => ∀ p es ep, Nob F σ g' G' H' p → H' p = some (dO p es ep) → keysOk ds → RpKV K G' es.toList ds → Q (.ref p) H'
def mkM (m : MM (List (PyData × PyData))) : MM (List (PyData × PyData)) := bnd m fun ps => lft (mkD [] ps)
section
variable {X : Cx} {W : WX} {pos spos p : Pos} {keys : List (Option Expr)} {values : List Expr} {m : MM (List (PyData × PyData))}
def dctM (m : MM (List (PyData × PyData))) : MM PyData := bnd m fun ds => ret (.dict ds)
/-- x = a new dict of one's own -/
def setK (i : Nat) (m : MM (List (PyData × PyData))) : Gm → Out := fun g => onE (m g) fun ds g' => .nx (g'.set i (.own false (.dict ds)))
theorem ms_setDn {e : Expr} {i : Nat} {x : Str} (hN : X.N.Nodup) (hi : X.N[i]? = some x) (hx : Loc X.env.scope x) (he : PE X e (cDn X.kx X.mg W m)) (hs : swapsWith e (some (.Name x p)) spos.line X.env = pure false := by rfl) (hf : X.fn x = true ∨ X.env.scope.names.lookup x = some .local := by first | exact .inl rfl | exact .inr rfl | assumption) :
    MS X W (.Assign [.Name x p] e spos) (setK i m) := PS.wk (ps_set hN hi hx he hs hf) fun D σ H ⟨F, g, G, A, q⟩ => by
  refine ⟨F, g, G, A, Po.imp (PoS.onE q) fun ds g1 G1 H1 A1 s1 k1 p es ep n hp ok r => ?_⟩
  exact k1 _ G1 H1 (A1.take n ⟨es, ep, hp, ok, r⟩) (Same.refl _)
end
@[simp ↓] theorem ev_dspN {g : Gm} {P : List (PyData × PyData) → Gm → Prop} {X : String → Gm → Prop} : ev dspN g P X ↔ P [] g := Iff.rfl
@[simp ↓] theorem ev_dspC {k v : MM PyData} {r : MM (List (PyData × PyData))} {g : Gm} {P : List (PyData × PyData) → Gm → Prop} {X : String → Gm → Prop} : ev (dspC k v r) g P X ↔ ev k g (fun e g1 => ev v g1 (fun d g2 => ev r g2 (fun ps g3 => P ((e, d) :: ps) g3) X) X) X := by simp [dspC]
@[simp ↓] theorem ev_mkM {m : MM (List (PyData × PyData))} {g : Gm} {P : List (PyData × PyData) → Gm → Prop} {X : String → Gm → Prop} : ev (mkM m) g P X ↔ ev m g (fun ps g1 => okO (mkD [] ps) fun ds => P ds g1) X := by simp [mkM]
@[simp ↓] theorem ev_dctM {m : MM (List (PyData × PyData))} {g : Gm} {P : PyData → Gm → Prop} {X : String → Gm → Prop} : ev (dctM m) g P X ↔ ev m g (fun ds g1 => P (.dict ds) g1) X := by simp [dctM]
@[simp ↓] theorem sv_setK {m : MM (List (PyData × PyData))} {g : Gm} {i : Nat} {PO : Out → Prop} : sv (setK i m) g PO ↔ ev m g (fun ds g' => PO (.nx (g'.set i (.own false (.dict ds))))) fun c g' => PO (.ex c g') := sv_onE
end Mi
/-! comprehensions of dicts of data -/
namespace Mi
open PySem PySem.Spec PyProof.Rows L2
open PySem.Sem (wp)
/-! ### what it computes -/
end Mi
namespace Mi
open PySem PySem.Spec PyProof.Rows L2
open PySem.Sem (wp)
section
variable {X : Cx}
theorem op_niD (hu : X.A.units + 64 < cLine) : OpR X (compareOp .NotIn) (rInD X.kx not) := by
  intro pins s σ H x y v u Q I rx ry ⟨d, ds, hx, hy, hk, q⟩
  cases hy with
  | @dict p es ep _ hd ok r =>
    cases ry
    obtain ⟨k, hn, hd8, ht⟩ := kFit_ok ok.1 hk
    have D := dk_of I hd (Same.refl _) ok r
    have hyn := Rp.nest I d x v k hn hx rx
    have eh : (valE es (ksOf ds) k).isSome = hasD ds d := by
      cases hl : lkD ds d with
      | some z =>
        obtain ⟨v0, u0, e1, _⟩ := valE_some ok r hn hl
        rw [e1]
        have := lkD_pl (ds := ds) (e := d)
        rw [hl] at this
        rw [hasD_pl]
        cases hp : plD ds d with
        | none => rw [hp] at this; cases this
        | some j => rfl
      | none =>
        obtain ⟨e1, _, e3⟩ := valE_none (es := es) ok hn hl
        rw [e1, hasD_pl, e3]
        rfl
    show wpAny _ _ (do return Value.bool (!(← contains (.ref p) v)) : Sem Value) _ _ s
    refine wpAny_bind ?_
    unfold contains
    try with_reducible refine wpAny_holding ?_
    refine wpAny_bind (wpAny_specialOf (T := "dict") ⟨_, D.o, rfl⟩ slot_dict_contains.lookup ?_)
    show wpAny _ _ (if (some (Value.builtin "dict.__contains__") == some Value.none) = true then _ else _) _ _ s
    rw [if_neg (by rw [beq_builtin_none]; exact Bool.false_ne_true)]
    refine wpAny_bind (wpAny_callSpecialUnlessNone?_slot (name := Str.ofString "__contains__") (T := "dict") ⟨_, D.o, rfl⟩ slot_dict_contains
      (wpAny_call_entry slot_dict_contains (T := "dict") ⟨_, D.o, rfl⟩ entry_dict_contains ?_ (args_dict_contains _ _)))
    show wpAny _ _ (dictGet p v >>= _) _ _ s
    refine wpAny_bind (get_D D hyn hd8 ht (room8 hu) ?_)
    cases hf : valE es (ksOf ds) k with
    | some w =>
      rw [hf] at eh
      show wpAny _ _ (PySem.ret (.bool true)) _ _ _
      refine wpAny_pure ⟨_, rfl, wpAny_truthy_bool (wpAny_pure ⟨.bl false, H, I.tok _, rfl, ?_⟩)⟩
      have : hasD ds d = true := eh.symm
      rw [this] at q
      exact q
    | none =>
      rw [hf] at eh
      show wpAny _ _ (Builtin.Dict.pendingKey? p v >>= _) _ _ _
      refine wpAny_bind (wpAny_pendingKey_other (dO_get I hd).1 (wpAny_pure ⟨_, rfl, wpAny_truthy_bool (wpAny_pure ⟨.bl true, H, I.tok _, rfl, ?_⟩)⟩))
      have : hasD ds d = false := eh.symm
      rw [this] at q
      exact q
theorem op_ni (hu : X.A.units + 65 < cLine) : OpR X (compareOp .NotIn) (rInB X.kx not) := OpR.or (hr_ni0 hu) (op_niD (by omega))
end
end Mi
/-! sorted of a list or tuple of whole numbers or of texts, or of a list of data that can be compared -/
namespace Mi
open PySem PySem.Spec PyProof.Rows L2
def rSortG (K : Frag) : List V → Hp → VK → Prop := fun vs H Q => Ti.rSortT K vs H Q ∨ Ts.rSortT K vs H Q ∨ rSortA K vs H Q
theorem cr_sortG {X : Cx} (hu : X.A.units + 64 < cLine) (hh : X.A.handled = none) : CallR X (.builtin "sorted") (rSortG X.kx) := CallR.or Ti.cr_sortT (CallR.or Ts.cr_sortT (cr_sortA hu hh))
def sortG (d : PyData) : Option PyData := match intsD d with
  | some xs => some (.list ((Ti.srt xs).map .int))
  | none => match txtD d with
    | some xs => some (.list ((Ts.srt xs).map .str))
    | none => sortAD d
theorem ho_sortG {K : Frag} : Op1 K (fun x => rSortG K [x]) sortG := by
  intro x d z G H Q h rx s k
  unfold sortG at h
  cases et : intsD d with
  | some xs =>
    refine .inl (ho_sortI x d z G H Q ?_ rx s k)
    unfold sortI
    rw [et]
    rw [et] at h
    exact h
  | none =>
    rw [et] at h
    simp only at h
    cases e2 : txtD d with
    | some xs =>
      rw [e2] at h
      cases h
      obtain ⟨l, rfl, ht⟩ := txtD_at e2 (rx.rp s) (fun _ _ e => e)
      refine .inr (.inl ⟨l, xs, rfl, ht, fun p hp => ?_⟩)
      have gr := Gr.new (o := .lst ((Ts.srt xs).map V.str)) s hp
      exact k _ _ _ gr (.lst upd_same (rpAll_strs _))
    | none =>
      rw [e2] at h
      exact .inr (.inr (ho_sortA x d z G H Q h rx s k))
theorem intsOf_strs : ∀ {xs : List Str} {ys : List Int}, intsOf (xs.map PyData.str) = some ys → xs = []
  | [], _, _ => rfl
  | x :: xs, ys, h => by
    unfold intsOf at h
    simp at h
theorem sortG_strs {d : PyData} {xs : List Str} (h : sqO d = some (xs.map .str)) : sortG d = some (.list ((Ts.srt xs).map .str)) := by
  unfold sortG intsD txtD
  rw [h]
  simp only
  cases e : intsOf (xs.map PyData.str) with
  | some ys =>
    have := intsOf_strs e
    subst this
    have : ys = [] := by
      have e' : intsOf [] = some ys := e
      unfold intsOf at e'
      cases e'
      rfl
    subst this
    have : Ts.srt [] = [] := List.length_eq_zero_iff.mp (Ts.srt_perm []).length_eq
    have h2 : Ti.srt [] = [] := List.length_eq_zero_iff.mp (Ti.srt_perm []).length_eq
    simp [this, h2]
  | none =>
    simp only [strsOf_map]
end Mi
/-! comprehensions over rows that are known: what they come to -/
namespace Mi
open PySem PySem.Spec PyProof.Rows L2
section
variable {α : Type} {g : Gm} {X : String → Gm → Prop} {Q : List PyData → Gm → Prop} {vs vs1 : List Nat} {b b1 : PyData → Gm → Option Gm} {tt tt1 : MM Bool} {te : MM PyData} {mi mi1 : MM (List PyData)}
theorem okC_fmA (e : α → PyData) (f : α → Option PyData) {xs : List α}
    (hs : ∀ x ∈ xs, okO (b (e x) g) fun g1 => ev tt g1 (fun c g2 => if c = true then ev te g2 (fun z g3 => f x = some z ∧ wipeG g3 vs = g) noX else f x = none ∧ wipeG g2 vs = g) noX)
    (hQ : Q (xs.filterMap f) g) : okC (compL vs b tt te (xs.map e) g) Q := by
  induction xs generalizing Q with
  | nil => exact hQ
  | cons d ds ih =>
    rw [List.map_cons, okC_cons]
    refine okO_imp (hs d (by simp)) fun g1 h1 => ?_
    refine ev_mono h1 fun c g2 h2 => ?_
    cases c with
    | false =>
      simp only [Bool.false_eq_true, if_false] at h2 ⊢
      rw [h2.2]
      refine ih (fun d hd => hs d (by simp [hd])) ?_
      rw [List.filterMap_cons, h2.1] at hQ
      exact hQ
    | true =>
      simp only [if_true] at h2 ⊢
      refine ev_mono h2 fun z g3 h3 => ?_
      rw [h3.2]
      refine ih (fun d hd => hs d (by simp [hd])) ?_
      rw [List.filterMap_cons, h3.1] at hQ
      exact hQ
theorem okC_mapA (e f : α → PyData) {xs : List α}
    (hs : ∀ x ∈ xs, okO (b (e x) g) fun g1 => ev te g1 (fun z g3 => z = f x ∧ wipeG g3 vs = g) noX)
    (hQ : Q (xs.map f) g) : okC (compL vs b yesM te (xs.map e) g) Q := by
  refine okC_fmA e (fun x => some (f x)) (fun d hd => okO_imp (hs d hd) fun g1 h => ?_) (by rw [show xs.filterMap (fun d => some (f d)) = xs.map f from by clear hs hQ; induction xs <;> simp_all]; exact hQ)
  show ev (Mi.ret true) g1 _ _
  rw [ev_ret, if_pos rfl]
  refine ev_mono h fun z g3 h => ⟨by rw [h.1], h.2⟩
theorem okC_filA (e f : α → PyData) (p : α → Bool) {xs : List α}
    (hs : ∀ x ∈ xs, okO (b (e x) g) fun g1 => ev tt g1 (fun c g2 => c = p x ∧ if c = true then ev te g2 (fun z g3 => z = f x ∧ wipeG g3 vs = g) noX else wipeG g2 vs = g) noX)
    (hQ : Q ((xs.filter p).map f) g) : okC (compL vs b tt te (xs.map e) g) Q := by
  refine okC_fmA e (fun x => if p x = true then some (f x) else none) (fun d hd => okO_imp (hs d hd) fun g1 h => ev_mono h fun c g2 h => ?_) ?_
  · obtain ⟨rfl, h⟩ := h
    cases hp : p d with
    | true =>
      rw [hp] at h
      simp only [if_true] at h ⊢
      exact ev_mono h fun z g3 h => ⟨by rw [h.1], h.2⟩
    | false =>
      rw [hp] at h
      simpa using h
  · have : xs.filterMap (fun x => if p x = true then some (f x) else none) = (xs.filter p).map f := by
      clear hs hQ
      induction xs with
      | nil => rfl
      | cons x xs ih =>
        rw [List.filterMap_cons, List.filter_cons]
        cases h : p x <;> simp [ih]
    rw [this]
    exact hQ
end
end Mi
/-! [.. for .. in x ..], x a list of one's own, which the body may look at -/
namespace Mi
open PySem PySem.Spec PyProof.Rows L2
def compKL (i : Nat) (vs : List Nat) (b : PyData → Gm → Option Gm) (tt : MM Bool) (te : MM PyData) : Nat → Nat → Gm → Except Er (List PyData × Gm)
  | 0, _, _ => .error .stuck
  | n + 1, j, g => match g[i]? with
    | some (.own _ (.list ds)) => (match ds[j]? with
      | none => .ok ([], g)
      | some d => match b d g with
        | none => .error .stuck
        | some g1 => match tt g1 with
          | .ok (true, g2) => (match te g2 with
            | .ok (z, g3) => (match compKL i vs b tt te n (j + 1) (wipeG g3 vs) with
              | .ok (zs, g4) => .ok (z :: zs, g4)
              | .error _ => .error .stuck)
            | .error _ => .error .stuck)
          | .ok (false, g2) => compKL i vs b tt te n (j + 1) (wipeG g2 vs)
          | .error _ => .error .stuck)
    | _ => .error .stuck
def compK (i : Nat) (vs : List Nat) (b : PyData → Gm → Option Gm) (tt : MM Bool) (te : MM PyData) : MM (List PyData) := fun g => match g[i]? with
  | some (.own _ (.list ds)) => if ds.length ≤ sizeLine then (match compKL i vs b tt te (ds.length + 1) 0 (wipeG g vs) with
    | .ok (zs, g') => .ok (zs, g')
    | .error _ => .error .stuck) else .error .stuck
  | _ => .error .stuck
/-! the evaluation -/
def okK (i : Nat) (vs : List Nat) (b : PyData → Gm → Option Gm) (tt : MM Bool) (te : MM PyData) (n j : Nat) (g : Gm) (Q : List PyData → Gm → Prop) : Prop := okC (compKL i vs b tt te n j g) Q
@[simp ↓] theorem ev_compK {i : Nat} {vs : List Nat} {b : PyData → Gm → Option Gm} {tt : MM Bool} {te : MM PyData} {g : Gm} {Q : List PyData → Gm → Prop} {X : String → Gm → Prop} : ev (compK i vs b tt te) g Q X ↔ atO g i fun _ s => okO (listOf s) fun ds => ds.length ≤ sizeLine ∧ okK i vs b tt te (ds.length + 1) 0 (wipeG g vs) Q := by
  unfold ev okE compK atO
  generalize g[i]? = s
  rcases s with _ | (_ | d | ⟨t, d⟩)
  · rfl
  · rfl
  · rfl
  · cases d with
    | list ds =>
      simp only [okO_listOf]
      by_cases h : ds.length ≤ sizeLine
      · simp only [if_pos h, h, true_and]
        unfold okK okC
        generalize compKL i vs b tt te (ds.length + 1) 0 (wipeG g vs) = r
        rcases r with _ | ⟨zs, g1⟩ <;> rfl
      · simp [h]
    | _ => rfl
end Mi
namespace Mi
open PySem PySem.Spec PyProof.Rows L2
section
variable {X : Cx} {W : WX} {pos : Pos}
/-- {}: a dict of one's own -/
theorem pe_dict0n : PE X (.Dict [] [] pos) (cDn X.kx X.mg W (ret [])) := PE.wk pe_dict0 fun σ H Q ⟨F, g, G, A, q⟩ => by
  intro p hp
  obtain ⟨A1, n1⟩ := A.newNob (o := dO p #[] 0) hp
  exact q _ _ A1 (Same.refl _) p #[] 0 n1 upd_same keysOk_nil .nil
end
end Mi
/-! calls where it is known that no repr is under way: the kit's rules for calls, turned so that they carry this along -/
namespace Mi
open PySem PySem.Spec PyProof.Rows L2
/-- room, and no repr is under way -/
structure RoomG (k : Nat) (A : Around) : Prop extends Room k A where
  gd : A.guards = some []
theorem RoomG.mono {j k : Nat} {A : Around} (r : RoomG k A) (h : j ≤ k) : RoomG j A := ⟨r.toRoom.mono h, r.gd⟩
theorem RoomG.deeper {k : Nat} {A : Around} (r : RoomG (k + 1) A) (env : Env) : RoomG k (A.deeper env) := ⟨r.toRoom.deeper env, r.gd⟩
end Mi
/-! dict(x), x a list or a tuple of pairs -/
namespace Mi
open PySem PySem.Spec PyProof.Rows L2
open PySem.Sem (wp)
def pairOf : PyData → Option (PyData × PyData)
  | .tuple [k, v] => some (k, v)
  | _ => none
def prsOf : List PyData → Option (List (PyData × PyData))
  | [] => some []
  | d :: ds => match pairOf d, prsOf ds with
    | some p, some ps => some (p :: ps)
    | _, _ => none
inductive RV (K : Frag) (G : Hp) : List (Value × Value) → List (PyData × PyData) → Prop
  | nil : RV K G [] []
  | cons {y z : V} {u w : Value} {e d : PyData} {ps : List (Value × Value)} {ds : List (PyData × PyData)} : RelV y u → RelV z w → Rp K G y e → Rp K G z d → RV K G ps ds → RV K G ((u, w) :: ps) ((e, d) :: ds)
theorem RV.len {K : Frag} {G : Hp} : ∀ {ps : List (Value × Value)} {ds : List (PyData × PyData)}, RV K G ps ds → ps.length = ds.length
  | _, _, .nil => rfl
  | _, _, .cons _ _ _ _ t => congrArg Nat.succ t.len
theorem RV.get {K : Frag} {G : Hp} : ∀ {ps : List (Value × Value)} {ds : List (PyData × PyData)} {i : Nat} {u w : Value}, RV K G ps ds → ps[i]? = some (u, w) → ∃ (y z : V) (e d : PyData), ds[i]? = some (e, d) ∧ RelV y u ∧ RelV z w ∧ Rp K G y e ∧ Rp K G z d
  | _, _, 0, _, _, .cons a b c d t, h => by cases h; exact ⟨_, _, _, _, rfl, a, b, c, d⟩
  | _, _, i + 1, _, _, .cons a b c d t, h => t.get h
end Mi
namespace Mi
open PySem PySem.Spec PyProof.Rows L2
open PySem.Sem (wp)
def dctOf : PyData → Option (List (PyData × PyData))
  | .list ds => (prsOf ds).bind (mkD [])
  | .tuple ds => (prsOf ds).bind (mkD [])
  | _ => none
end Mi
namespace Mi
open PySem PySem.Spec PyProof.Rows L2
def dctC (m : MM PyData) : MM (List (PyData × PyData)) := bnd m fun d => lft (dctOf d)
@[simp ↓] theorem ev_dctC {m : MM PyData} {g : Gm} {P : List (PyData × PyData) → Gm → Prop} {X : String → Gm → Prop} : ev (dctC m) g P X ↔ ev m g (fun d g1 => okO (dctOf d) fun ds => P ds g1) X := by simp [dctC]
end Mi
/-! len(set(..)), sorted(set(..)) of texts or of whole numbers, of any length, with few different ones -/
namespace Mi
open PySem PySem.Spec PyProof.Rows L2
def sortSetG (d : PyData) : Option PyData := match intsD d with
  | some xs => if (Ti.dd xs).length < 4000 then some (.list ((Ti.srt (Ti.dd xs)).map .int)) else none
  | none => sortSet2 d
section
variable {X : Cx} {W : WX} {e : Expr} {m : MM PyData} {p p2 q pos : Pos}
theorem PE.or {X : Cx} {e : Expr} {t1 t2 : TE} (h1 : PE X e t1) (h2 : PE X e t2) : PE X e (fun σ H Q => t1 σ H Q ∨ t2 σ H Q) := ⟨fun pins s σ H Q I h => h.elim (h1.run pins s σ H Q I) (h2.run pins s σ H Q I)⟩
def tSortSetG (K : PySem.W.Frag) (ta : TE) : TE := fun σ H Q => ta σ H fun x H1 => (∃ l xs, x = .ref l ∧ Ts.TxtAt K H1 l xs ∧ (Ts.dd xs).length < 64 ∧ ∀ p, H1 p = none → Q (.ref p) (upd H1 p (.lst ((Ts.srt (Ts.dd xs)).map V.str)))) ∨
  ∃ l xs, x = .ref l ∧ Ti.IntAt K H1 l xs ∧ (Ti.dd xs).length < 4000 ∧ ∀ p, H1 p = none → Q (.ref p) (upd H1 p (.lst ((Ti.srt (Ti.dd xs)).map V.int)))
theorem pe_sortSetG {a : Expr} {ta : TE} {p p2 q pos : Pos} (hg : Gl X "sorted") (hm : X.mg "sorted" = none) (hg2 : Gl X "set") (hm2 : X.mg "set" = none) (ha : PE X a ta) (hc : X.calm = true := by rfl)
    (na : starEach [a] X.env = (false, eval a X.env) :: starEach [] X.env := by rfl) : PE X (.Call (.Name "sorted" p) [.Call (.Name "set" p2) [a] [] q] [] pos) (tSortSetG X.kx ta) := by
  refine ⟨fun pins s σ H Q I h => ?_⟩
  refine Call_ (ld_blt I hg hm boot_sorted ?_)
  refine PyProof.Rows.callWith_builtin1 (PyProof.Rows.args_cons ?_ rfl) rfl rfl
  refine Call_ (ld_blt I hg2 hm2 boot_set ?_)
  refine PyProof.Rows.callWith_type1 (PyProof.Rows.args_cons (thn (ha.run pins s σ H _ I h) fun v s1 ⟨x, H1, I1, r1, q1⟩ => PyProof.Rows.args_nil ?_) na) na rfl
  rcases q1 with ⟨l, xs, rfl, hq, few, q1⟩ | ⟨l, xs, rfl, hq, few, q1⟩
  · cases r1
    refine Ts.run_set hc I1 hq (by omega) fun h' tk hS I2 => ?_
    refine PyProof.Rows.args_nil ?_
    exact Ts.run_sorted hc I2 hS few q1
  · cases r1
    refine Ti.run_set hc I1 hq few fun h' tk hS I2 => ?_
    refine PyProof.Rows.args_nil ?_
    exact Ti.run_sorted hc I2 hS (by rw [sizeLine_eq]; omega) q1
theorem me_sortSetG (hm : X.mg "sorted" = none) (hm2 : X.mg "set" = none) (ha : ME X W e m) (hg : Gl X "sorted" := by rfl) (hg2 : Gl X "set" := by rfl) (hc : X.calm = true := by rfl)
    (na : starEach [e] X.env = (false, eval e X.env) :: starEach [] X.env := by rfl) : ME X W (.Call (.Name "sorted" p) [.Call (.Name "set" p2) [e] [] q] [] pos) (op1 sortSetG m) := PE.wk (pe_sortSetG hg hm hg2 hm2 ha hc na) fun σ H Q ⟨F, g, G, A, q⟩ => by
  refine ⟨F, g, G, A, Po.imp q.bnd fun d g1 G1 H1 A1 s1 k1 x rx => ?_⟩
  obtain ⟨z, ez, k⟩ := k1.lft
  unfold sortSetG at ez
  cases et : intsD d with
  | some xs =>
    rw [et] at ez
    obtain ⟨l, rfl, ht⟩ := intsD_at et rx A1.ex
    simp only at ez
    split at ez
    · rename_i few
      cases ez
      refine .inr ⟨l, xs, rfl, ht, few, fun p hp => ?_⟩
      have gr := Gr.new (o := .lst ((Ti.srt (Ti.dd xs)).map V.int)) A1.ex hp
      exact k _ _ (A1.grow gr) gr.g _ (.lst upd_same (rpAll_intsV _))
    · cases ez
  | none =>
    rw [et] at ez
    unfold sortSet2 at ez
    cases et : txtD d with
    | none => rw [et] at ez; cases ez
    | some xs =>
      rw [et] at ez
      obtain ⟨l, rfl, ht⟩ := txtD_at et rx A1.ex
      simp only at ez
      split at ez
      · rename_i few
        cases ez
        refine .inl ⟨l, xs, rfl, ht, few, fun p hp => ?_⟩
        have gr := Gr.new (o := .lst ((Ts.srt (Ts.dd xs)).map V.str)) A1.ex hp
        exact k _ _ (A1.grow gr) gr.g _ (.lst upd_same (rpAll_strs _))
      · cases ez
end
/-! what they come to -/
theorem sortSetG_strs {d : PyData} {xs : List Str} (h : sqO d = some (xs.map .str)) (hl : (Ts.dd xs).length < 64) : sortSetG d = some (.list ((Ts.srt (Ts.dd xs)).map .str)) := by
  unfold sortSetG intsD
  rw [h]
  simp only
  cases e : intsOf (xs.map PyData.str) with
  | some ys =>
    have := intsOf_strs e
    subst this
    have e' : intsOf [] = some ys := e
    unfold intsOf at e'
    cases e'
    have h1 : Ti.srt (Ti.dd []) = [] := List.length_eq_zero_iff.mp (Ti.srt_perm _).length_eq
    have h2 : Ts.srt (Ts.dd []) = [] := List.length_eq_zero_iff.mp (Ts.srt_perm _).length_eq
    simp [h1, h2]
    decide
  | none =>
    unfold sortSet2 txtD
    rw [h]
    simp only [strsOf_map]
    rw [if_pos hl]
end Mi
/-! x = [.. for ..], x a list of one's own that a block looks at -/
namespace Mi
open PySem PySem.Spec PyProof.Rows L2
end Mi
/-! repr of a tuple of data, where no repr is under way -/
namespace Mi
open PySem PySem.Spec PyProof.Rows L2
end Mi
/-! sorted(d.items()), keys that are no tuples -/
namespace Mi
open PySem PySem.Spec PyProof.Rows L2
theorem nd_at : ∀ {ds : List PyData} {i : Nat} (h : DcEq.ndAll ds = true) (hi : i < ds.length), DcEq.ndB ds[i] = true
  | [], _, _, hi => by simp at hi
  | d :: ds, 0, h, _ => by
    have h' : DcEq.ndB d = true ∧ DcEq.ndAll ds = true := by simpa [DcEq.ndAll] using h
    exact h'.1
  | d :: ds, i + 1, h, hi => by
    have h' : DcEq.ndB d = true ∧ DcEq.ndAll ds = true := by simpa [DcEq.ndAll] using h
    simpa using nd_at (i := i) h'.2 (by simpa using hi)
theorem RpKV.gt {K : Frag} {G : Hp} : ∀ {es : List DictEntry} {ds : List (PyData × PyData)} {j : Nat} {e : DictEntry}, RpKV K G es ds → es[j]? = some e → ∃ p vk vx, ds[j]? = some p ∧ RelV vk e.key ∧ RelV vx e.val ∧ Rp K G vk p.1 ∧ Rp K G vx p.2
  | _, _, _, _, .nil, h => by simp at h
  | _, _, 0, _, .cons (k := k) (v := v) a1 a2 a3 a4 a5 _, h => by
    simp at h
    subst h
    exact ⟨_, k, v, rfl, a2, a3, a4, a5⟩
  | _, _, j + 1, e, .cons _ _ _ _ _ t, h => by
    obtain ⟨p, vk, vx, h1, h2⟩ := t.gt (j := j) (e := e) (by simpa using h)
    exact ⟨p, vk, vx, by simpa using h1, h2⟩
end Mi
namespace Mi
open PySem PySem.Spec PyProof.Rows L2
/-! x, y = {}, {} -/
def set00 (i j : Nat) : Gm → Out := fun g => if i < g.length ∧ j < g.length then .nx ((g.set i (.own false (.dict []))).set j (.own false (.dict []))) else .stuck
theorem Nob.other {K : Frag} {F : Frm} {σ : L2.St} {g : Gm} {G H : Hp} {D b : Addr} {o : HO} (n : Nob F σ g G H D) (hb : H b = none) : Nob F σ g G (L2.upd H b o) D := by
  refine ⟨n.ng, n.nf, ?_, n.no⟩
  have : D ≠ b := fun e => n.nh (by rw [e]; exact hb)
  rw [L2.upd_ne this]
  exact n.nh
@[simp ↓] theorem sv_set00 {i j : Nat} {g : Gm} {PO : Out → Prop} : sv (set00 i j) g PO ↔ (i < g.length ∧ j < g.length) ∧ PO (.nx ((g.set i (.own false (.dict []))).set j (.own false (.dict [])))) := by
  unfold sv set00
  by_cases h : i < g.length ∧ j < g.length
  · rw [if_pos h]
    simp only [h, and_self, true_and]
    exact Iff.rfl
  · rw [if_neg h]
    simp only [h, false_and, iff_false]
    exact fun q => q
end Mi
/-! sets of tuples of data -/
namespace Tn
open PySem PySem.Spec PyProof.Rows L2 Mi
abbrev NE := Addr × NestedKey
structure El (h : Heap) (p : NE) : Prop where
  n : NestedIs h p.2 (.ref p.1)
  d : p.2.depth ≤ 8
def hsh (w : World) (p : NE) : Int := p.2.hash w
def rws (w : World) (L : List NE) : List (Int × Value) := L.map fun p => (hsh w p, Value.ref p.1)
/-! what is asked of an element -/
theorem not_class_leaf (n : Nat) {v : Value} (h : ∀ a, v ≠ .ref a) : ofAClassStatement n v = pure false := by
  cases v with
  | ref a => exact absurd rfl (h a)
  | _ => cases n <;> rfl
section
variable {P : Program} {w : World} {A : Around} {E : Value → Shared → Prop} {s : Shared}
theorem keys_mem {h : Heap} : ∀ {ks : List NestedKey} {vs : List Value}, NestedAll h ks vs → ∀ v ∈ vs, ∃ k ∈ ks, NestedIs h k v
  | _, _, .nil, v, hv => nomatch hv
  | _, _, .cons a b, v, hv => by
    rcases List.mem_cons.mp hv with rfl | hv
    · exact ⟨_, by simp, a⟩
    · obtain ⟨k, hk, n⟩ := keys_mem b v hv
      exact ⟨k, by simp [hk], n⟩
theorem dep_mem : ∀ {ks : List NestedKey} {k : NestedKey}, k ∈ ks → k.depth ≤ NestedKey.depthAll ks
  | x :: xs, k, h => by
    simp only [NestedKey.depthAll]
    rcases List.mem_cons.mp h with rfl | h
    · omega
    · have := dep_mem h
      omega
theorem not_class : ∀ (n : Nat) (k : NestedKey) (v : Value), NestedIs s.heap k v → k.depth ≤ n → ∀ {Q : Bool → Shared → Prop}, Q false s → wpAny (model P w) A (ofAClassStatement n v) Q E s := by
  intro n
  induction n with
  | zero =>
    intro k v hk hd Q q
    cases hk with
    | tup _ _ _ _ => simp [NestedKey.depth] at hd
    | _ => rw [not_class_leaf 0 (by intro a e; cases e)]; exact wpAny_pure q
  | succ n ih =>
    intro k v hk hd Q q
    cases hk with
    | @tup a o vs c ks h1 h2 h3 h4 =>
      unfold ofAClassStatement
      refine wpAny_bind (wpAny_typeOf ⟨o, h1, h2⟩ ?_)
      dsimp only
      have e : (("tuple" : String) == "tuple") = true := by decide
      simp only [e, if_true, Bool.not_true, Bool.false_eq_true, if_false]
      try refine wpAny_bind (wpAny_pure ?_)
      try simp only [Bool.not_true, Bool.false_eq_true, if_false]
      show wpAny _ _ (seqItems? (.ref a) >>= _) _ _ s
      refine wpAny_bind (wpAny_seqItems h1 h3 ?_)
      dsimp only
      refine wpAny_bind ?_
      rw [← Array.forIn_toList]
      refine wpAny_forIn_list _ (fun rest r s' => r.1 = none ∧ s' = s ∧ ∀ u ∈ rest, ∃ k ∈ ks, NestedIs s.heap k u) _ ?_ ?_ _ _ ⟨rfl, rfl, keys_mem h4⟩
      · rintro u rest r s' ⟨hr, rfl, hall⟩
        obtain ⟨k', hk', hn'⟩ := hall u List.mem_cons_self
        have hd' := dep_mem hk'
        simp only [NestedKey.depth] at hd
        refine wpAny_bind (ih k' u hn' (by omega) ?_)
        simp only [Bool.false_eq_true, if_false]
        exact wpAny_pure ⟨rfl, rfl, fun x hx => hall x (List.mem_cons_of_mem _ hx)⟩
      · rintro ⟨r1, r2⟩ s' ⟨hr, rfl, _⟩
        simp only at hr
        subst hr
        exact wpAny_pure q
    | _ => rw [not_class_leaf _ (by intro a e; cases e)]; exact wpAny_pure q
theorem by_value : ∀ (n : Nat) (k : NestedKey) (v : Value), NestedIs s.heap k v → ∀ {Q : Bool → Shared → Prop}, (∀ b, Q b s) → wpAny (model P w) A (hashByValue n v) Q E s := by
  intro n
  induction n with
  | zero =>
    intro k v hk Q q
    cases hk <;> exact wpAny_pure (q _)
  | succ n ih =>
    intro k v hk Q q
    cases hk with
    | @tup a o vs c ks h1 h2 h3 h4 =>
      have hT : s.TypeIs (.ref a) "tuple" := ⟨o, h1, h2⟩
      unfold hashByValue
      refine wpAny_bind (wpAny_specialOf hT F.slot_tuple_hash.lookup ?_)
      show wpAny _ _ (seqItems? (.ref a) >>= _) _ _ s
      refine wpAny_bind (wpAny_seqItems h1 h3 ?_)
      refine wpAny_bind ?_
      show wpAny _ _ (forIn vs _ _) _ _ s
      rw [← Array.forIn_toList]
      refine wpAny_forIn_list _ (fun rest r s' => (r.1 = none ∨ r.1 = some false) ∧ s' = s ∧ ∀ u ∈ rest, ∃ k ∈ ks, NestedIs s.heap k u) _ ?_ ?_ _ _ ⟨.inl rfl, rfl, keys_mem h4⟩
      · rintro u rest r s' ⟨hr, rfl, hall⟩
        obtain ⟨k', hk', hn'⟩ := hall u List.mem_cons_self
        refine wpAny_bind (ih k' u hn' fun b => ?_)
        cases b with
        | true =>
          simp only [Bool.not_true, Bool.false_eq_true, if_false]
          exact wpAny_pure ⟨.inl rfl, rfl, fun x hx => hall x (List.mem_cons_of_mem _ hx)⟩
        | false =>
          simp only [Bool.not_false, if_true]
          exact wpAny_pure (wpAny_pure (q _))
      · rintro ⟨r1, r2⟩ s' ⟨hr, rfl, _⟩
        simp only at hr
        rcases hr with rfl | rfl
        · exact wpAny_pure (q _)
        · exact wpAny_pure (q _)
    | _ => exact wpAny_pure (q _)
/-- nobody sees a search -/
theorem unseen {p : NE} (hp : El s.heap p) {ys : List Value} (hy : ∀ y ∈ ys, ∃ q : NE, y = Value.ref q.1 ∧ El s.heap q) {Q : Bool → Shared → Prop} (h : Q false s) : wpAny (model P w) A (searchCouldBeSeen (.ref p.1) ys) Q E s := by
  unfold searchCouldBeSeen
  refine wpAny_bind ?_
  refine wpAny_forIn_list _ (fun rest r s' => r.1 = none ∧ s' = s ∧ ∀ y ∈ rest, ∃ q : NE, y = Value.ref q.1 ∧ El s.heap q) _ ?_ ?_ _ _ ⟨rfl, rfl, hy⟩
  · rintro v rest r s' ⟨hr, rfl, hall⟩
    obtain ⟨q, rfl, hq⟩ := hall v List.mem_cons_self
    have rest' : ∀ y ∈ rest, ∃ q : NE, y = Value.ref q.1 ∧ El s'.heap q := fun u hu' => hall u (List.mem_cons_of_mem _ hu')
    dsimp only
    by_cases hv : (p.1 == q.1 || (carriedByValue (.ref p.1) && carriedByValue (.ref q.1))) = true
    · exact wp_if_pos hv (wpAny_pure ⟨rfl, rfl, rest'⟩)
    · refine wp_if_neg hv ?_
      have qa := quiet_key (prog := P) (w := w) p.2 (.ref p.1) 8 s' hp.n hp.d
      have qb := quiet_key (prog := P) (w := w) q.2 (.ref q.1) 8 s' hq.n hq.d
      refine wpAny_bind (qa A E _ ?_)
      simp only [Bool.not_true, Bool.false_eq_true, if_false]
      refine wpAny_bind (qb A E _ ?_)
      simp only [Bool.not_true, Bool.false_eq_true, if_false]
      refine wpAny_bind (not_class 8 p.2 _ hp.n hp.d ?_)
      simp only [Bool.false_eq_true, if_false]
      refine wpAny_bind (not_class 8 q.2 _ hq.n hq.d ?_)
      simp only [Bool.false_eq_true, if_false]
      exact wpAny_pure ⟨rfl, rfl, rest'⟩
  · rintro ⟨r1, r2⟩ s' ⟨hr, rfl, _⟩
    simp only at hr
    subst hr
    exact wpAny_pure h
end
/-! the set -/
structure SN (w : World) (h : Heap) (a : Addr) (L : List NE) (es : Array (Int × Value)) (ep : Nat) (t : SetTable) : Prop where
  ob : ∃ o, h.get? a = some o ∧ o.ExactSet ∧ o.data = .set es ep t
  rows : es.toList = rws w L
  tab : TabOk t (L.map (hsh w))
  nd : (L.map (·.2)).Nodup
  el : ∀ p ∈ L, El h p
  led : w.params.followText "set-order" = true ∨ t.led = true
  room : L.length * 5 < t.mask * 3
  few : L.length < 64
section
variable {w : World} {h : Heap} {a : Addr} {L : List NE} {es : Array (Int × Value)} {ep : Nat} {t : SetTable}
theorem SN.size (R : SN w h a L es ep t) : es.size = L.length := by
  have q := congrArg List.length R.rows
  simpa [rws] using q
theorem SN.fits (R : SN w h a L es ep t) : t.fits es.size = true := by
  have h1 := R.tab.sz
  rw [List.length_map] at h1
  have h2 := R.size
  have h3 := R.room
  simp only [SetTable.fits, SetTable.fill, R.tab.dm, Bool.and_eq_true, beq_iff_eq, decide_eq_true_eq]
  refine ⟨by omega, ?_⟩
  show t.place.size + 0 ≤ t.mask
  omega
theorem SN.entry (R : SN w h a L es ep t) {i : Nat} {p : NE} (q : L[i]? = some p) : es[i]? = some (hsh w p, Value.ref p.1) := by
  rw [← Array.getElem?_toList, R.rows, rws, List.getElem?_map, q]
  rfl
theorem SN.even (R : SN w h a L es ep t) : ¬ t.gaveWay = true := by
  simp only [SetTable.gaveWay, mask_odd R.tab.mok]
  decide
theorem nth_dm (m : Nat) : ∀ (n : Nat) (p : SetTable.Probe), p.dummy = none → (nth m p n).dummy = none
  | 0, p, h => h
  | n + 1, p, h => nth_dm m n (adv m p) (by unfold adv; split <;> exact h)
/-- the probe at a step of the way -/
abbrev stp (m : Nat) (x : Int) (c : Nat) : SetTable.Probe := nth m (runAt m (SetTable.bits x % (m + 1)) (SetTable.bits x)) c
end
section
variable {P : Program} {w : World} {A : Around} {E : Value → Shared → Prop} {s : Shared} {a : Addr} {L : List NE} {es : Array (Int × Value)} {ep : Nat} {t : SetTable}
theorem find_from (R : SN w s.heap a L es ep t) {p : NE} (hp : El s.heap p) (hu : A.units + 8 < cLine) {K : Nat} (hKf : K < 10 * SetTable.turns t.mask) (hK : way t.mask (hsh w p) K ∉ t.place.toList) (hKb : ∀ c, c < K → way t.mask (hsh w p) c ∈ t.place.toList)
    {Q : SetFound → Shared → Prop} (hin : p.2 ∈ L.map (·.2) → Q (.there none) s) (hout : p.2 ∉ L.map (·.2) → Q (.free (way t.mask (hsh w p) K) false) s) :
    ∀ (f c : Nat) (stand : Option SetTable.Probe), stand.getD (t.probeStart (hsh w p)) = stp t.mask (hsh w p) c → c ≤ K → K - c < f →
      (∀ (i : Nat) q, L[i]? = some q → q.2 = p.2 → ∃ c', c ≤ c' ∧ c' < K ∧ t.place.toList[i]? = some (way t.mask (hsh w p) c')) →
      wpAny (model P w) A (setSearchFrom a (.ref p.1) (hsh w p) true f stand) Q E s := by
  intro f
  induction f with
  | zero => intro c _ _ _ hf; exact absurd hf (Nat.not_lt_zero _)
  | succ f ih =>
    intro c stand hst hc hf hre
    obtain ⟨o, ho, hex, hd⟩ := R.ob
    rw [setSearchFrom_succ]
    refine wpAny_bind (wpAny_setState_of ho hd R.fits ?_)
    dsimp only
    refine wp_if_neg R.even ?_
    try refine wpAny_bind (wpAny_pure ?_)
    have sh : ∀ q, nth t.mask (stp t.mask (hsh w p) c) q = stp t.mask (hsh w p) (c + q) := fun q => (nth_add t.mask c _ q).symm
    have e1 : ∀ q, (nth t.mask (stp t.mask (hsh w p) c) q).j = way t.mask (hsh w p) (c + q) := fun q => congrArg SetTable.Probe.j (sh q)
    have spec := go_spec t R.tab.ris R.tab.dm (fun i => (es[i]?.map (·.1)).getD 0) (hsh w p) (10 * SetTable.turns t.mask) (K - c) _ (nth_dm t.mask c _ rfl) (by omega)
      (fun q hq => by rw [e1]; exact hKb (c + q) (by omega)) (by rw [e1, show c + (K - c) = K by omega]; exact hK)
    have hashAt : ∀ (i : Nat) q, L[i]? = some q → (es[i]?.map (·.1)).getD 0 = hsh w q := fun i q hq => by rw [R.entry hq]; rfl
    have same_h : ∀ {q : NE}, q.2 = p.2 → hsh w q = hsh w p := fun e => by unfold hsh; rw [e]
    rcases spec with ⟨q, i, hq, hi, hh, hno, hpr⟩ | ⟨hno, hpr⟩
    · have hpr' : t.probe (fun i => (es[i]?.map (·.1)).getD 0) (hsh w p) (stand.getD (t.probeStart (hsh w p))) = some (.candidate (way t.mask (hsh w p) (c + q)) i (stp t.mask (hsh w p) (c + (q + 1)))) := by
        rw [hst, ← e1, ← sh]
        exact hpr
      rw [hpr']
      dsimp only
      rw [e1] at hi
      have hil : i < L.length := by
        have h1 := (List.getElem?_eq_some_iff.mp hi).1
        have h2 := R.tab.sz
        rw [List.length_map] at h2
        rw [Array.length_toList] at h1
        omega
      obtain ⟨r, hr⟩ : ∃ r, L[i]? = some r := ⟨_, List.getElem?_eq_getElem hil⟩
      have hm : r ∈ L := List.mem_of_getElem? hr
      have rest : wpAny (model P w) A (searchRest a (.ref p.1) (hsh w p) true f es t (way t.mask (hsh w p) (c + q)) i (stp t.mask (hsh w p) (c + (q + 1)))) Q E s := by
        unfold searchRest
        rw [R.entry hr]
        dsimp only
        refine wpAny_bind (wpAny_holding ((nestedKind P w).eqBool (x := r.2) (y := p.2) hu ⟨(R.el r hm).n, (R.el r hm).d⟩ ⟨hp.n, hp.d⟩ ?_))
        refine wpAny_bind (wpAny_setState_of ho hd R.fits ?_)
        dsimp only
        by_cases hkk : r.2 = p.2
        · refine wp_if_pos (by simp [hkk]) ?_
          exact wpAny_pure (hin (List.mem_map.mpr ⟨r, hm, hkk⟩))
        · refine wp_if_neg (by simp [hkk]) ?_
          try refine wpAny_bind (wpAny_pure ?_)
          rw [sameMem]
          dsimp only
          have hsl : t.slot (way t.mask (hsh w p) (c + q)) = .live i := slot_live R.tab.ris hi
          simp only [if_true, hsl, R.entry hr]
          refine wpAny_bind (wpAny_isSame_ref_self (wpAny_bind (wpAny_pure ?_)))
          simp only [if_true]
          refine wp_if_neg (by simp [hkk]) ?_
          refine ih (c + (q + 1)) _ rfl (by omega) (by omega) fun i0 q0 h0 hk0 => ?_
          obtain ⟨c', a1, a2, a3⟩ := hre i0 q0 h0 hk0
          refine ⟨c', ?_, a2, a3⟩
          rcases Nat.lt_trichotomy c' (c + q) with z | z | z
          · exfalso
            refine hno (c' - c) i0 (by omega) (by rw [e1, show c + (c' - c) = c' by omega]; exact a3) ?_
            exact (hashAt i0 q0 h0).trans (same_h hk0)
          · exfalso
            rw [z] at a3
            have s0 := slot_live R.tab.ris a3
            rw [hsl] at s0
            injection s0 with s0
            rw [← s0, hr] at h0
            cases h0
            exact hkk hk0
          · omega
      by_cases hl : t.led = true
      · refine wp_if_neg (by simp [hl]) ?_
        try refine wpAny_bind (wpAny_pure ?_)
        exact rest
      · refine wp_if_pos (by simp [hl]) ?_
        refine wpAny_bind (unseen hp (fun y hy => ?_) ?_)
        · obtain ⟨e, he, rfl⟩ := List.mem_map.mp hy
          have he1 : e ∈ es ∧ e.1 = hsh w p := by simpa using he
          have he2 : e ∈ es.toList := by simpa using he1.1
          rw [R.rows] at he2
          obtain ⟨p2, hp2, rfl⟩ := List.mem_map.mp he2
          exact ⟨p2, rfl, R.el p2 hp2⟩
        · refine wp_if_neg (by decide) ?_
          try refine wpAny_bind (wpAny_pure ?_)
          exact rest
    · have hpr' : t.probe (fun i => (es[i]?.map (·.1)).getD 0) (hsh w p) (stand.getD (t.probeStart (hsh w p))) = some (.empty (way t.mask (hsh w p) K) none) := by
        have e2 : way t.mask (hsh w p) K = (nth t.mask (stp t.mask (hsh w p) c) (K - c)).j := by rw [e1, show c + (K - c) = K by omega]
        rw [hst, e2]
        exact hpr
      rw [hpr']
      dsimp only
      refine wpAny_pure (hout fun hm => ?_)
      obtain ⟨q0, h0, hk0⟩ := List.mem_map.mp hm
      obtain ⟨i0, h00⟩ := List.mem_iff_getElem?.mp h0
      obtain ⟨c', a1, a2, a3⟩ := hre i0 q0 h00 hk0
      refine hno (c' - c) i0 (by omega) (by rw [e1, show c + (c' - c) = c' by omega]; exact a3) ?_
      exact (hashAt i0 q0 h00).trans (same_h hk0)
theorem find_at (R : SN w s.heap a L es ep t) {p : NE} (hp : El s.heap p) (hu : A.units + 8 < cLine) {Q : SetFound → Shared → Prop} (hin : p.2 ∈ L.map (·.2) → Q (.there none) s)
    (hout : ∀ K, p.2 ∉ L.map (·.2) → way t.mask (hsh w p) K ∉ t.place.toList → (∀ c, c < K → way t.mask (hsh w p) c ∈ t.place.toList) → Q (.free (way t.mask (hsh w p) K) false) s) :
    wpAny (model P w) A (setSearch a (.ref p.1) (hsh w p) true) Q E s := by
  have hroom := R.room
  obtain ⟨K, hKf, hK, hKb⟩ := R.tab.first (by rw [List.length_map]; omega) (hsh w p)
  have hbig : K < 100000 := by
    have : 10 * SetTable.turns t.mask ≤ 1420 := by
      unfold SetTable.turns
      rcases R.tab.mok with e | e | e <;> omega
    omega
  unfold setSearch
  refine find_from R hp hu hKf hK hKb hin (fun hn => hout K hn hK hKb) 100000 0 none rfl (Nat.zero_le _) (by omega) fun i q hq hk => ?_
  have hi : (L.map (hsh w))[i]? = some (hsh w p) := by
    rw [List.getElem?_map, hq]
    show some (hsh w q) = _
    unfold hsh
    rw [hk]
  have hil : i < t.place.toList.length := by
    have h1 := (List.getElem?_eq_some_iff.mp hq).1
    have h2 := R.tab.sz
    rw [List.length_map] at h2
    rw [Array.length_toList]
    omega
  have hj := List.getElem?_eq_getElem hil
  obtain ⟨c, hc, e⟩ := R.tab.before hK hi hj
  exact ⟨c, Nat.zero_le _, hc, by rw [hj, e]⟩
theorem El.same {h h' : Heap} {p : NE} {o : Obj} (e : El h p) (ho : h.get? a = some o) (hd : o.data = .set es ep t) (sb : Heap.SameBut a h h') : El h' p :=
  ⟨NestedIs.at (fun b ob vs m hb hc => (sb.2 b fun z => by
    subst z
    rw [ho] at hb
    cases hb
    rw [hd] at hc
    cases hc).trans hb) p.2 _ e.n, e.d⟩
theorem El.keep {h h' : Heap} {p : NE} (e : El h p) (k : ∀ b o, h.get? b = some o → h'.get? b = some o) : El h' p := ⟨NestedIs.at (fun b ob _ _ hb _ => k b ob hb) p.2 _ e.n, e.d⟩
theorem fm_rows {α β : Type} {f : α → β} {L : List α} {es : Array β} (hr : es.toList = L.map f) : ∀ (l : List Nat), (∀ i ∈ l, i < L.length) → ∃ L2 : List α, l.filterMap (fun i => es[i]?) = L2.map f ∧ L2 = l.filterMap (fun i => L[i]?) ∧ ∀ g : β → Int, (L2.map fun p => g (f p)) = l.map fun i => (es.map g).getD i 0
  | [], _ => ⟨[], rfl, rfl, fun _ => rfl⟩
  | i :: l, hl => by
    have hi := hl i List.mem_cons_self
    obtain ⟨L2, e1, e2, e3⟩ := fm_rows hr l fun j hj => hl j (List.mem_cons_of_mem _ hj)
    have ent : es[i]? = some (f L[i]) := by rw [← Array.getElem?_toList, hr, List.getElem?_map, List.getElem?_eq_getElem hi]; rfl
    refine ⟨L[i] :: L2, by rw [List.filterMap_cons_some ent, e1]; rfl, by rw [List.filterMap_cons_some (List.getElem?_eq_getElem hi), e2], fun g => ?_⟩
    rw [List.map_cons, List.map_cons, e3 g]
    have e5 : (es.map g)[i]? = some (g (f L[i])) := by rw [Array.getElem?_map, ent]; rfl
    simp [Array.getD_eq_getD_getElem?, e5]
theorem fm_all {α : Type} (L : List α) : ∀ n, n ≤ L.length → (List.range n).filterMap (fun i => L[i]?) = L.take n
  | 0, _ => rfl
  | n + 1, hn => by
    rw [List.range_succ, List.filterMap_append, fm_all L n (Nat.le_of_lt hn), List.take_succ, List.getElem?_eq_getElem hn, List.filterMap_cons_some (List.getElem?_eq_getElem hn)]
    rfl
theorem lay_at {o : Obj} (ho : s.heap.get? a = some o) (hex : o.ExactSet) (hd : o.data = .set es ep t) (hrows : es.toList = rws w L) (hsz : t.place.size = es.size) (hdm : t.dummies = #[]) (hfl : es.size ≤ t.mask) (nd : (L.map (·.2)).Nodup) (el : ∀ p ∈ L, El s.heap p)
    (ld : w.params.followText "set-order" = true ∨ t.led = true) (few : L.length < 64) {wanted M : Nat} (hw : SetTable.sizeAbove wanted - 1 = M) (hM : MaskOk M) (hw2 : SetTable.sizeAbove wanted ≤ 128) (hn : L.length * 5 < M * 3) {Q : Unit → Shared → Prop}
    (hQ : ∀ h' L' es' ep' t', Heap.SameBut a s.heap h' → SN w h' a L' es' ep' t' → L'.Perm L → Q () { s with heap := h' }) : wpAny (model P w) A (setRelay a wanted) Q E s := by
  have hsl : es.size = L.length := by
    have q := congrArg List.length hrows
    simpa [rws] using q
  have hfits : t.fits es.size = true := by
    simp only [SetTable.fits, SetTable.fill, hdm, Bool.and_eq_true, beq_iff_eq, decide_eq_true_eq]
    refine ⟨hsz, ?_⟩
    show t.place.size + 0 ≤ t.mask
    omega
  obtain ⟨t', order, e, hp, T, em, el', ep', ed⟩ := relaid_ok t (hs := es.map (·.1)) (wanted := wanted) hw hM (by rw [Array.size_map, hsl]; omega)
  rw [Array.size_map, hsl] at hp
  obtain ⟨L2, r1, r2, r3⟩ := fm_rows hrows order.toList fun i hi => List.mem_range.mp (hp.mem_iff.mp hi)
  have pm : L2.Perm L := by
    have h1 := hp.filterMap fun i => L[i]?
    rw [← r2, fm_all L L.length (Nat.le_refl _), List.take_length] at h1
    exact h1
  have r3' : (L2.map (hsh w)) = order.toList.map fun i => (es.map (·.1)).getD i 0 := r3 (·.1)
  rw [← r3'] at T
  have r1' : (order.filterMap (es[·]?)).toList = rws w L2 := by
    first | (rw [Array.toList_filterMap]; exact r1) | simpa using r1
  have hs2 : (order.filterMap (es[·]?)).size = es.size := by
    have q := congrArg List.length r1'
    rw [Array.length_toList] at q
    rw [q, hsl, ← pm.length_eq]
    simp [rws]
  rw [setRelay_eq]
  refine wpAny_bind (wpAny_setState_of ho hd hfits ?_)
  dsimp only
  refine wp_if_neg (by rw [sizeLine_eq]; omega) ?_
  try refine wpAny_bind (wpAny_pure ?_)
  rw [e]
  dsimp only
  refine wpAny_bind ?_
  refine wp_if_neg (by rw [hs2]; simp) ?_
  try refine wpAny_bind (wpAny_pure ?_)
  refine wpAny_pure ?_
  dsimp only
  refine wpAny_storeSet_of ho hd ?_ (by rw [hs2, hsl, sizeLine_eq]; omega)
  have sb : Heap.SameBut a s.heap (s.heap.update a (Obj.putSet (order.filterMap (es[·]?)) t')) := Heap.SameBut.update ..
  refine hQ _ L2 _ (ep + 1) t' sb ⟨⟨_, store_at ho hd, ⟨hex.1, hex.2.1, hex.2.2⟩, rfl⟩, r1', T, (pm.map (·.2)).nodup_iff.mpr nd, fun p hpm => (el p (pm.mem_iff.mp hpm)).same ho hd sb, by rw [el']; exact ld, by rw [pm.length_eq, em]; exact hn, by rw [pm.length_eq]; exact few⟩ pm
theorem put_at (R : SN w s.heap a L es ep t) {p : NE} (hp : El s.heap p) (hu : A.units + 8 < cLine) (hfew : L.length + 1 < 64) {Q : Bool → Shared → Prop}
    (hQ : ∀ b h' L' es' ep' t', Heap.SameBut a s.heap h' → SN w h' a L' es' ep' t' → (p.2 ∈ L.map (·.2) → L' = L) → (p.2 ∉ L.map (·.2) → L'.Perm (p :: L)) → Q b { s with heap := h' }) :
    wpAny (model P w) A (setAddHashed a (.ref p.1) (hsh w p)) Q E s := by
  obtain ⟨o, ho, hex, hd⟩ := R.ob
  have hsl := R.size
  have hroom := R.room
  unfold setAddHashed
  refine wpAny_holding ?_
  rw [show (100000 : Nat) = 99999 + 1 from rfl, setAddHashedIn_succ]
  refine wpAny_bind (wpAny_setState_of ho hd R.fits ?_)
  dsimp only
  refine wp_if_neg (by simp [byScan, Value.scannable]) ?_
  try refine wpAny_bind (wpAny_pure ?_)
  refine wpAny_bind (find_at R hp hu (fun hm => ?_) fun K hm hK hb => ?_)
  · dsimp only
    exact wpAny_pure (hQ false s.heap L es ep t (Heap.SameBut.refl a s.heap) R (fun _ => rfl) fun z => absurd hm z)
  · dsimp only
    refine wpAny_bind (wpAny_setState_of ho hd R.fits ?_)
    dsimp only
    obtain ⟨q1, q2, q3, q4, q5, q6, q7, q8, q9⟩ := R.tab.put hK hb
    generalize hpt : t.put (way t.mask (hsh w p) K) = pt at q1 q3 q4 q5 q6 q7 q8 q9 ⊢
    obtain ⟨t1, pl⟩ := pt
    dsimp only at q1 q3 q4 q5 q6 q7 q8 q9 ⊢
    subst q1
    -- by value or not: the table is the same but for that mark
    have rest : ∀ t2 : SetTable, t2.mask = t1.mask → t2.led = t1.led → t2.place = t1.place → t2.dummies = t1.dummies →
        wpAny (model P w) A (do
          storeSet a (SetTable.insertAt es (SetTable.below t.place (way t.mask (hsh w p) K)) (hsh w p, Value.ref p.1)) t2
          if !false && t2.tooFull then setRelay a (SetTable.grown (es.size + 1))
          return true) Q E s := by
      intro t2 g1 g2 g3 g4
      have hin : (SetTable.insertAt es (SetTable.below t.place (way t.mask (hsh w p) K)) (hsh w p, Value.ref p.1)).toList = rws w (L.take (SetTable.below t.place (way t.mask (hsh w p) K)) ++ p :: L.drop (SetTable.below t.place (way t.mask (hsh w p) K))) := by
        rw [SetTable.toList_insertAt, R.rows]
        simp [rws]
      generalize SetTable.below t.place (way t.mask (hsh w p) K) = j at q2 q3 hin ⊢
      have pm := put_perm L j p
      have hlen : (L.take j ++ p :: L.drop j).length = L.length + 1 := pm.length_eq
      have hhs : (L.take j ++ p :: L.drop j).map (hsh w) = (L.map (hsh w)).take j ++ hsh w p :: (L.map (hsh w)).drop j := by simp
      rw [← hhs] at q3
      have nd1 : ((L.take j ++ p :: L.drop j).map (·.2)).Nodup := by
        refine (pm.map (·.2)).nodup_iff.mpr ?_
        rw [List.map_cons]
        exact List.nodup_cons.mpr ⟨hm, R.nd⟩
      have hes : (SetTable.insertAt es j (hsh w p, Value.ref p.1)).size = L.length + 1 := by
        have q := congrArg List.length hin
        rw [Array.length_toList] at q
        rw [q, ← hlen]
        simp [rws]
      generalize SetTable.insertAt es j (hsh w p, Value.ref p.1) = es1 at hin hes ⊢
      generalize L.take j ++ p :: L.drop j = L1 at pm hlen q3 nd1 hin
      have q3' : TabOk t2 (L1.map (hsh w)) := by
        refine ⟨by rw [g3]; exact q3.ris, by rw [g4]; exact q3.dm, by rw [g3]; exact q3.sz, by rw [g1]; exact q3.mok, by rw [g3, g1]; exact q3.bd, ?_⟩
        rw [g3, g1]
        exact q3.reach
      refine wpAny_bind (wpAny_storeSet_of ho hd ?_ (by rw [hes, sizeLine_eq]; omega))
      have sb : Heap.SameBut a s.heap (s.heap.update a (Obj.putSet es1 t2)) := Heap.SameBut.update ..
      have ho1 := store_at (es' := es1) (t' := t2) ho hd
      generalize s.heap.update a (Obj.putSet es1 t2) = h1 at sb ho1 ⊢
      have el1 : ∀ q ∈ L1, El h1 q := fun q hq => by
        rcases List.mem_cons.mp (pm.mem_iff.mp hq) with rfl | hq
        · exact hp.same ho hd sb
        · exact (R.el q hq).same ho hd sb
      have ld1 : w.params.followText "set-order" = true ∨ t2.led = true := by rw [g2, q5]; exact R.led
      have fl : t2.fill = (L.map (hsh w)).length + 1 := by
        unfold SetTable.fill at q9 ⊢
        rw [g3, g4]
        exact q9
      by_cases hf : t2.tooFull = true
      · first
          | (refine wpAny_bind ?_; refine wp_if_pos (by simp [hf]) ?_)
          | (refine wp_if_pos (by simp [hf]) ?_; refine wpAny_bind ?_)
        have hfull : (L.length + 1) * 5 ≥ t2.mask * 3 := by
          have q := hf
          unfold SetTable.tooFull at q
          rw [decide_eq_true_eq, fl, List.length_map] at q
          exact q
        rw [hsl]
        have hsz1 : t2.place.size = es1.size := by
          have q := q3'.sz
          rw [List.length_map, hlen] at q
          rw [q, hes]
        rw [g1, q4] at hfull
        have cases2 : (t.mask = 7 ∧ L.length = 4) ∨ (t.mask = 31 ∧ L.length = 18) := by
          rcases R.tab.mok with e | e | e
          · left; rw [e] at hroom hfull; exact ⟨e, by omega⟩
          · right; rw [e] at hroom hfull; exact ⟨e, by omega⟩
          · exfalso; rw [e] at hfull; omega
        have go : ∀ M, SetTable.sizeAbove (SetTable.grown (L.length + 1)) - 1 = M → MaskOk M → SetTable.sizeAbove (SetTable.grown (L.length + 1)) ≤ 128 → (L.length + 1) * 5 < M * 3 →
            wpAny (model P w) A (setRelay a (SetTable.grown (L.length + 1))) (fun _ s' => wpAny (model P w) A (pure true) Q E s') E { s with heap := h1 } := fun M h1' h2' h3' h4' => by
          refine lay_at (s := { s with heap := h1 }) ho1 ⟨hex.1, hex.2.1, hex.2.2⟩ rfl hin hsz1 q3'.dm (by rw [hes, g1, q4]; rcases cases2 with ⟨e, e2⟩ | ⟨e, e2⟩ <;> omega) nd1 el1 ld1 (by rw [hlen]; exact hfew) h1' h2' h3' (by rw [hlen]; exact h4') ?_
          intro h2 L2 es2 ep2 t3 sb2 R2 pm2
          exact wpAny_pure (hQ true h2 L2 es2 ep2 t3 (sb.trans sb2) R2 (fun z => absurd z hm) fun _ => pm2.trans pm)
        rcases cases2 with ⟨_, e2⟩ | ⟨_, e2⟩
        · refine go 31 (by rw [e2, size_20]) (.inr (.inl rfl)) (by rw [e2, size_20]; decide) (by omega)
        · refine go 127 (by rw [e2, size_76]) (.inr (.inr rfl)) (by rw [e2, size_76]; decide) (by omega)
      · first
          | refine wp_if_neg (by simp [hf]) ?_
          | (refine wpAny_bind ?_; refine wp_if_neg (by simp [hf]) ?_; refine wpAny_pure ?_)
        refine wpAny_pure (hQ true h1 L1 es1 (ep + 1) t2 sb ⟨⟨_, ho1, ⟨hex.1, hex.2.1, hex.2.2⟩, rfl⟩, hin, q3', nd1, el1, ld1, ?_, by rw [hlen]; exact hfew⟩ (fun z => absurd z hm) fun _ => pm)
        have q := hf
        unfold SetTable.tooFull at q
        rw [decide_eq_true_eq, fl, List.length_map] at q
        rw [hlen]
        omega
    by_cases hpl : t1.plain = true
    · first
        | (refine wpAny_bind ?_; refine wp_if_pos hpl ?_; refine by_value 8 p.2 _ hp.n fun b => ?_)
        | refine wp_if_pos hpl (wpAny_bind (by_value 8 p.2 _ hp.n fun b => ?_))
      cases b with
      | true =>
        simp only [if_true]
        exact rest t1 rfl rfl rfl rfl
      | false =>
        simp only [Bool.false_eq_true, if_false]
        exact rest { t1 with plain := false } rfl rfl rfl rfl
    · first
        | (refine wpAny_bind ?_; refine wp_if_neg hpl ?_; refine wpAny_pure ?_)
        | refine wp_if_neg hpl (wpAny_bind (wpAny_pure ?_))
      simp only [if_true]
      exact rest t1 rfl rfl rfl rfl
theorem put_same (R : SN w s.heap a L es ep t) {p : NE} (hp : El s.heap p) (hu : A.units + 8 < cLine) (hm : p.2 ∈ L.map (·.2)) {Q : Bool → Shared → Prop} (hQ : Q false s) :
    wpAny (model P w) A (setAddHashed a (.ref p.1) (hsh w p)) Q E s := by
  obtain ⟨o, ho, hex, hd⟩ := R.ob
  unfold setAddHashed
  refine wpAny_holding ?_
  rw [show (100000 : Nat) = 99999 + 1 from rfl, setAddHashedIn_succ]
  refine wpAny_bind (wpAny_setState_of ho hd R.fits ?_)
  dsimp only
  refine wp_if_neg (by simp [byScan, Value.scannable]) ?_
  try refine wpAny_bind (wpAny_pure ?_)
  refine wpAny_bind (find_at R hp hu (fun _ => ?_) fun K hn _ _ => absurd hm hn)
  dsimp only
  exact wpAny_pure hQ
end
end Tn
/-! set(x) of a list or tuple of tuples -/
namespace Tn
open PySem PySem.Spec PyProof.Rows L2 Mi
def keysOf (ks : List NE) : List NestedKey := ks.map (·.2)
/-- fewer than 64 different ones -/
def Few (ks : List NestedKey) : Prop := ∀ M : List NestedKey, M.Nodup → (∀ k ∈ M, k ∈ ks) → M.length < 64
structure Gt (ks : List NE) (i : Nat) (L : List NE) : Prop where
  sub : ∀ p ∈ L, p ∈ ks.take i
  all : ∀ p ∈ ks.take i, p.2 ∈ L.map (·.2)
theorem Gt.zero (ks : List NE) : Gt ks 0 [] := ⟨fun p h => (nomatch h), fun p h => by simp at h⟩
theorem Gt.same {ks L : List NE} {i : Nat} {x : NE} (g : Gt ks i L) (h : ks[i]? = some x) (hm : x.2 ∈ L.map (·.2)) : Gt ks (i + 1) L := by
  have e : ks.take (i + 1) = ks.take i ++ [x] := by rw [List.take_succ, h]; rfl
  refine ⟨fun p hp => ?_, fun p hp => ?_⟩
  · rw [e]; exact List.mem_append_left _ (g.sub p hp)
  · rw [e] at hp
    rcases List.mem_append.mp hp with z | z
    · exact g.all p z
    · rw [List.mem_singleton.mp z]; exact hm
theorem Gt.more {ks L L' : List NE} {i : Nat} {x : NE} (g : Gt ks i L) (h : ks[i]? = some x) (pm : L'.Perm (x :: L)) : Gt ks (i + 1) L' := by
  have e : ks.take (i + 1) = ks.take i ++ [x] := by rw [List.take_succ, h]; rfl
  refine ⟨fun p hp => ?_, fun p hp => ?_⟩
  · rw [e]
    rcases List.mem_cons.mp (pm.mem_iff.mp hp) with rfl | z
    · exact List.mem_append_right _ (List.mem_singleton.mpr rfl)
    · exact List.mem_append_left _ (g.sub p z)
  · rw [(pm.map (·.2)).mem_iff, List.map_cons]
    rw [e] at hp
    rcases List.mem_append.mp hp with z | z
    · exact List.mem_cons_of_mem _ (g.all p z)
    · rw [List.mem_singleton.mp z]; exact List.mem_cons_self
theorem Gt.few {ks L : List NE} {i : Nat} {w : World} {h : Heap} {a : Addr} {es : Array (Int × Value)} {ep : Nat} {t : SetTable} (g : Gt ks i L) (S : SN w h a L es ep t) (f : Few (keysOf ks)) {p : NE} (hp : ks[i]? = some p) (hn : p.2 ∉ L.map (·.2)) : L.length + 1 < 64 := by
  have := f (p.2 :: L.map (·.2)) (List.nodup_cons.mpr ⟨hn, S.nd⟩) fun k hk => by
    rcases List.mem_cons.mp hk with rfl | hk
    · exact List.mem_map.mpr ⟨p, List.mem_of_getElem? hp, rfl⟩
    · obtain ⟨q, hq, rfl⟩ := List.mem_map.mp hk
      exact List.mem_map.mpr ⟨q, List.mem_of_mem_take (g.sub q hq), rfl⟩
  simpa using this
theorem SN.keep {w : World} {h h' : Heap} {a : Addr} {L : List NE} {es : Array (Int × Value)} {ep : Nat} {t : SetTable} (R : SN w h a L es ep t) (ha : ∀ o, h.get? a = some o → h'.get? a = some o) (he : ∀ p ∈ L, El h' p) : SN w h' a L es ep t := by
  obtain ⟨o, ho, r⟩ := R.ob
  exact ⟨⟨o, ha o ho, r⟩, R.rows, R.tab, R.nd, he, R.led, R.room, R.few⟩
/-- the set before anything is in it -/
abbrev s0 (w : World) : Obj := { cls := .type "set", dict := none, data := .set #[] 0 (.fresh 0 0 (!w.params.followText "set-order")) }
theorem set0 {w : World} {h : Heap} {a : Addr} (ho : h.get? a = some (s0 w)) : SN w h a [] #[] 0 (.fresh 0 0 (!w.params.followText "set-order")) where
  ob := ⟨_, ho, ⟨rfl, rfl, rfl⟩, rfl⟩
  rows := rfl
  tab := ⟨List.Pairwise.nil, rfl, rfl, .inl rfl, fun x hx => (nomatch hx), fun i h j hi => by simp at hi⟩
  nd := List.nodup_nil
  el := fun p hp => (nomatch hp)
  led := by
    show _ ∨ (!w.params.followText "set-order") = true
    cases w.params.followText "set-order"
    · exact .inr rfl
    · exact .inl rfl
  room := by
    show 0 * 5 < 7 * 3
    decide
  few := by
    show 0 < 64
    decide
def SetS (w : World) (h : Heap) (a : Addr) (ks : List NE) : Prop := ∃ L es ep t, SN w h a L es ep t ∧ Gt ks ks.length L
section
variable {prog : Program} {w : World} {A : Around} {R : Result → Shared → Prop} {I : Addr} {fp wr : List Addr} {G : Array GenState → Array GenState → Prop} {n : Nat} {Pv : Nat → Value → Prop} {St : Nat → Shared → Prop}
theorem loop (W : WalksS prog w A.in1 I fp wr G n Pv St) (S : Addr) (hSf : S ∉ fp) (ks : List NE) (hn : ks.length = n) (few : Few (keysOf ks)) (hval : ∀ i v, Pv i v → ∃ p, ks[i]? = some p ∧ v = .ref p.1)
    (h0 : Heap) (hk : ∀ p ∈ ks, El h0 p) (hS0 : h0.get? S = none) (hw0 : ∀ b ∈ wr, h0.get? b = none) (hu : A.in1.units + 16 < cLine) :
    ∀ (k i : Nat) (s : Shared), n - i = k → i ≤ n → St i s → (∀ b o, h0.get? b = some o → s.heap.get? b = some o) → (∃ L es ep t, SN w s.heap S L es ep t ∧ Gt ks i L) →
      (∀ s', Moved (S :: wr) G s s' → SetS w s'.heap S ks → R (.ok (.ret .none)) s') →
      codeAny (model prog w) A (.builtin "set.update.loop" ⟨[.ref S, .ref I], []⟩) R s := by
  have hSw : S ∉ wr := fun h => hSf (W.sub _ h)
  have hsub : ∀ b ∈ wr, b ∈ S :: wr := fun b hb => List.mem_cons_of_mem _ hb
  have keepM : ∀ {s s' : Shared}, Moved wr G s s' → (∀ b o, h0.get? b = some o → s.heap.get? b = some o) → ∀ b o, h0.get? b = some o → s'.heap.get? b = some o := fun hm hkp b o e =>
    hm.heap b o (fun hb => by rw [hw0 b hb] at e; cases e) (hkp b o e)
  intro k
  induction k with
  | zero =>
    intro i s hk' hi hst hkp ⟨L, es, ep, t, hS, g⟩ hR
    obtain rfl : i = n := by omega
    refine codeAny_builtin PyProof.Rows.F.entry_set_update_loop ?_
    rw [Around.under_plainId PyProof.Rows.F.plain_set_update_loop _]
    show wpAny _ A.in1 (pyNext (.ref I) >>= _) _ _ s
    refine wpAny_bind (W.done s _ _ hst fun s' hm => ?_)
    show wpAny _ A.in1 (ret Value.none) _ _ s'
    refine wpAny_pure (hR s' (hm.mono hsub) ⟨L, es, ep, t, hS.keep (fun o e => hm.heap S o hSw e) fun p hp => (hk p (List.mem_of_mem_take (g.sub p hp))).keep (keepM hm hkp), by rw [hn]; exact g⟩)
  | succ k ih =>
    intro i s hk' hi hst hkp ⟨L, es, ep, t, hS, g⟩ hR
    have hlt : i < n := by omega
    refine codeAny_builtin PyProof.Rows.F.entry_set_update_loop ?_
    rw [Around.under_plainId PyProof.Rows.F.plain_set_update_loop _]
    show wpAny _ A.in1 (pyNext (.ref I) >>= _) _ _ s
    refine wpAny_bind (W.item i s _ _ hlt hst fun v s' hP hst' hm => ?_)
    obtain ⟨p, hp, rfl⟩ := hval i v hP
    have hkp' := keepM hm hkp
    have hS' : SN w s'.heap S L es ep t := hS.keep (fun o e => hm.heap S o hSw e) fun q hq => (hk q (List.mem_of_mem_take (g.sub q hq))).keep hkp'
    have hx : El s'.heap p := (hk p (List.mem_of_getElem? hp)).keep hkp'
    show wpAny _ A.in1 (holding [Value.ref p.1] (setAdd S (.ref p.1)) >>= _) _ _ s'
    refine wpAny_bind (wpAny_holding ?_)
    unfold setAdd
    refine wpAny_holding (wpAny_bind (pyHash_key (prog := prog) (w := w) p.2 (.ref p.1) A.in1 s' _ hx.n (by have := hx.d; omega) ?_))
    by_cases c : p.2 ∈ L.map (·.2)
    · refine put_same (s := { s' with toks := s'.toks + p.2.draws }) hS' hx (by omega) c ?_
      refine wpAny_pure ⟨plainId_quiet PyProof.Rows.F.plain_set_update_loop _, ih (i + 1) _ (by omega) hlt (W.frame _ s' _ _ hst' (Nat.le_add_right _ _) fun b hb o e => e) hkp' ⟨L, es, ep, t, hS', g.same hp c⟩ fun s'' hm'' hS'' => ?_⟩
      exact hR s'' (Moved.trans W.gtrans ((hm.mono hsub).then_heap (Nat.le_add_right _ _) fun b o hb e => e) hm'') hS''
    · refine put_at (s := { s' with toks := s'.toks + p.2.draws }) hS' hx (by omega) (g.few hS' few hp c) fun b h' L' es' ep' t' hsb hS2 c1 c2 => ?_
      have hkp2 : ∀ b o, h0.get? b = some o → h'.get? b = some o := fun b o e => (hsb.2 b (fun z => by rw [z, hS0] at e; cases e)).trans (hkp' b o e)
      refine wpAny_pure ⟨plainId_quiet PyProof.Rows.F.plain_set_update_loop _, ih (i + 1) _ (by omega) hlt (W.frame _ s' _ _ hst' (Nat.le_add_right _ _) fun b hb o e => ?_) hkp2 ⟨L', es', ep', t', hS2, g.more hp (c2 c)⟩ fun s'' hm'' hS'' => ?_⟩
      · rw [hsb.2 b (fun h : b = S => hSf (by rw [← h]; exact hb))]; exact e
      · refine hR s'' (Moved.trans W.gtrans ((hm.mono hsub).then_heap (Nat.le_add_right _ _) fun b o hb e => ?_) hm'') hS''
        rw [hsb.2 b (fun h : b = S => hb (by rw [h]; exact List.mem_cons_self))]; exact e
end
section
variable {prog : Program} {w : World} {A : Around} {E : Value → Shared → Prop} {s : Shared}
theorem new_led (x : Value) {Q₁ : Value → Shared → Prop} (h : Q₁ (.ref s.heap.objs.size) { s with heap := s.heap.push (s0 w) }) :
    codeAny (model prog w) A (.call (.builtin "set.__new__") ⟨[.type "set", x], []⟩) (wants Q₁ E) s := Ts.new_led x h
set_option maxHeartbeats 8000000 in
theorem call_set_list {l : Addr} {items : Array Value} {ks : List NE} {Q : Value → Shared → Prop}
    (hh : A.handled = none) (hl : s.heap.IsList l items) (hi : items.toList = ks.map fun p => Value.ref p.1) (hk : ∀ p ∈ ks, El s.heap p) (hu : A.units + 24 < cLine) (few : Few (keysOf ks))
    (h : ∀ (h' : Heap) (tk : Nat), SetS w h' s.heap.objs.size ks → (∀ b o, b < s.heap.objs.size → s.heap.get? b = some o → h'.get? b = some o) → Q (.ref s.heap.objs.size) { s with heap := h', toks := tk }) :
    wpAny (model prog w) A (call (.type "set") [.ref l]) Q E s := by
  obtain ⟨c, tl, hmro⟩ := PySem.F.called_set.mro
  have hmade := PySem.F.called_set.made
  have hsub := PySem.F.called_set.sub
  refine wpAny_call (codeAny_of_tree ?_)
  show wpAny _ _ (callAny (.type "set") _) _ _ _
  refine wpAny_pure ⟨Code.quiet_builtin _ (by decide +kernel), codeAny_builtin PySem.F.entry_type_call ?_⟩
  rw [Around.under_plain (weight_type_call_type "set" [.ref l] []) rfl]
  have h1 := PySem.F.called_set.notType
  have h2 := PySem.F.called_set.canCreate
  have hct := PySem.F.typeCall_set_1 (.ref l)
  repeat (any_goals (first | assumption | wp_step))
  refine codeAny_mono (new_led (.ref l) (E := E) (Q₁ := fun obj s₁ => obj = .ref s.heap.objs.size ∧ s₁ = { s with heap := s.heap.push (s0 w) }) ⟨rfl, rfl⟩) fun r s₁ hr => ?_
  cases r with
  | error e => exact hr
  | ok fl =>
    cases fl with
    | ret obj =>
      obtain ⟨rfl, rfl⟩ := hr
      have hS : (s.heap.push (s0 w)).get? s.heap.objs.size = some (s0 w) := Heap.get?_push_size _ rfl
      have hT : Shared.TypeIs { s with heap := s.heap.push (s0 w) } (.ref s.heap.objs.size) "set" := ⟨_, hS, rfl⟩
      have hli := PySem.F.called_set.init.lookup
      have hbi := PySem.F.called_set.init.bind (.ref s.heap.objs.size)
      repeat (any_goals (first | assumption | wp_step))
      refine codeAny_mono (codeAny_call_builtin (R := wants (fun r s₂ => r = .none ∧ ∃ h' tk, s₂ = { s with heap := h', toks := tk } ∧
          SetS w h' s.heap.objs.size ks ∧ (∀ b o, b < s.heap.objs.size → s.heap.get? b = some o → h'.get? b = some o)) E) PySem.F.called_set.init.plain PySem.F.entry_set_init (check_set_init_1 hT ?_)) fun r₂ s₂ hr₂ => ?_
      · obtain ⟨ol, hol, hcl, nl, hdl⟩ := hl
        obtain ⟨ocls, odict, odata, oslots⟩ := ol
        simp only at hcl hdl
        subst hcl; subst hdl
        have hol' : (s.heap.push (s0 w)).get? l = some { cls := .type "list", dict := odict, data := .seq items nl, slots := oslots } := Heap.get?_push_of_some _ hol
        have n1 := PySem.F.sub_list_set
        have n2 := PySem.F.sub_list_frozenset
        have n3 : (Value.type "list" == Value.type "dict") = false := by decide
        have hl1 : (s.heap.push (s0 w)).IsList l items := ⟨_, hol', rfl, nl, rfl⟩
        unfold Builtin.«set.__init__» noKeywords Builtin.Frozenset.updateFrom
        generalize hPI : pyIter = PI
        wp_walk
        subst hPI
        refine wpAny_pyIter_list hl1 (wpAny_bind (wpAny_runValue ?_))
        have hlS : l < s.heap.objs.size := Heap.lt_size hol
        have hh3 : A.in1.in1.in1.handled = none := by simp [hh]
        have hneI : l ≠ (s.heap.push (s0 w)).objs.size := by
          rw [Heap.size_push]; exact Nat.ne_of_lt (Nat.lt_succ_of_lt hlS)
        have hSf : s.heap.objs.size ∉ [(s.heap.push (s0 w)).objs.size, l] := by
          rw [Heap.size_push]; simp only [List.mem_cons, List.mem_singleton, List.not_mem_nil, or_false, not_or]
          exact ⟨Nat.ne_of_lt (Nat.lt_succ_self _), Nat.ne_of_gt hlS⟩
        have hsz : ks.length = items.size := by rw [← Array.length_toList, hi, List.length_map]
        have none_of : ∀ b, s.heap.objs.size ≤ b → s.heap.get? b = none := fun b hb => by
          cases q : s.heap.get? b with
          | none => rfl
          | some o => exact absurd (Nat.lt_of_lt_of_le (Heap.lt_size q) hb) (Nat.lt_irrefl _)
        have hval : ∀ (i : Nat) (v : Value), items[i]? = some v → ∃ p, ks[i]? = some p ∧ v = .ref p.1 := fun i v hv => by
          have q : items.toList[i]? = some v := by rw [Array.getElem?_toList]; exact hv
          rw [hi, List.getElem?_map] at q
          cases hq : ks[i]? with
          | none => rw [hq] at q; cases q
          | some p =>
            rw [hq] at q
            exact ⟨p, rfl, (Option.some.inj q).symm⟩
        refine loop ((Walks.list hh3 _ l hneI items).toS) s.heap.objs.size hSf ks hsz few hval s.heap hk (none_of _ (Nat.le_refl _)) (fun b hb => none_of b (by
          rw [List.mem_singleton.mp hb, Heap.size_push]
          exact Nat.le_succ _)) (by show A.units + 1 + 1 + 1 + 16 < cLine; omega) (items.size - 0) 0 _ (by omega) (Nat.zero_le _)
          ⟨⟨_, Heap.get?_push_size _ rfl, rfl, rfl⟩, (hl1.push _)⟩ (fun b o e => Heap.get?_push_of_some _ (Heap.get?_push_of_some _ e)) ⟨[], #[], 0, _, set0 (Heap.get?_push_of_some _ hS), Gt.zero ks⟩ ?_
        intro s' hm hS'
        obtain ⟨h', g', d', tk', os'⟩ := s'
        have eg : g' = s.gens := hm.gens
        have ed : d' = s.drawn := hm.drawn
        have eo : os' = s.os := hm.os
        subst eg; subst ed; subst eo
        show wpAny _ _ _ _ _ _
        refine wpAny_pure ?_
        show wpAny _ _ (ret Value.none) _ _ _
        refine wpAny_pure ⟨rfl, h', tk', rfl, hS', fun b o hb e => ?_⟩
        have hb1 : b ≠ s.heap.objs.size := Nat.ne_of_lt hb
        have hb2 : b ≠ (s.heap.push (s0 w)).objs.size := by
          rw [Heap.size_push]; exact Nat.ne_of_lt (Nat.lt_succ_of_lt hb)
        exact hm.heap b o (by simp only [List.mem_cons, List.mem_singleton, List.not_mem_nil, or_false, not_or]; exact ⟨hb1, hb2⟩) (Heap.get?_push_of_some _ (Heap.get?_push_of_some _ e))
      · cases r₂ with
        | error e => exact hr₂
        | ok fl₂ =>
          cases fl₂ with
          | ret r =>
            obtain ⟨rfl, h', tk, rfl, hS', hk'⟩ := hr₂
            repeat (any_goals (first | assumption | wp_step))
            exact h _ _ hS' hk'
          | _ => exact hr₂.elim
    | _ => exact hr.elim
set_option maxHeartbeats 8000000 in
theorem call_set_tuple {l : Addr} {items : Array Value} {ks : List NE} {Q : Value → Shared → Prop}
    (hh : A.handled = none) (hl : s.heap.IsTuple l items) (hi : items.toList = ks.map fun p => Value.ref p.1) (hk : ∀ p ∈ ks, El s.heap p) (hu : A.units + 24 < cLine) (few : Few (keysOf ks))
    (h : ∀ (h' : Heap) (tk : Nat), SetS w h' s.heap.objs.size ks → (∀ b o, b < s.heap.objs.size → s.heap.get? b = some o → h'.get? b = some o) → Q (.ref s.heap.objs.size) { s with heap := h', toks := tk }) :
    wpAny (model prog w) A (call (.type "set") [.ref l]) Q E s := by
  obtain ⟨c, tl, hmro⟩ := PySem.F.called_set.mro
  have hmade := PySem.F.called_set.made
  have hsub := PySem.F.called_set.sub
  refine wpAny_call (codeAny_of_tree ?_)
  show wpAny _ _ (callAny (.type "set") _) _ _ _
  refine wpAny_pure ⟨Code.quiet_builtin _ (by decide +kernel), codeAny_builtin PySem.F.entry_type_call ?_⟩
  rw [Around.under_plain (weight_type_call_type "set" [.ref l] []) rfl]
  have h1 := PySem.F.called_set.notType
  have h2 := PySem.F.called_set.canCreate
  have hct := PySem.F.typeCall_set_1 (.ref l)
  repeat (any_goals (first | assumption | wp_step))
  refine codeAny_mono (new_led (.ref l) (E := E) (Q₁ := fun obj s₁ => obj = .ref s.heap.objs.size ∧ s₁ = { s with heap := s.heap.push (s0 w) }) ⟨rfl, rfl⟩) fun r s₁ hr => ?_
  cases r with
  | error e => exact hr
  | ok fl =>
    cases fl with
    | ret obj =>
      obtain ⟨rfl, rfl⟩ := hr
      have hS : (s.heap.push (s0 w)).get? s.heap.objs.size = some (s0 w) := Heap.get?_push_size _ rfl
      have hT : Shared.TypeIs { s with heap := s.heap.push (s0 w) } (.ref s.heap.objs.size) "set" := ⟨_, hS, rfl⟩
      have hli := PySem.F.called_set.init.lookup
      have hbi := PySem.F.called_set.init.bind (.ref s.heap.objs.size)
      repeat (any_goals (first | assumption | wp_step))
      refine codeAny_mono (codeAny_call_builtin (R := wants (fun r s₂ => r = .none ∧ ∃ h' tk, s₂ = { s with heap := h', toks := tk } ∧
          SetS w h' s.heap.objs.size ks ∧ (∀ b o, b < s.heap.objs.size → s.heap.get? b = some o → h'.get? b = some o)) E) PySem.F.called_set.init.plain PySem.F.entry_set_init (check_set_init_1 hT ?_)) fun r₂ s₂ hr₂ => ?_
      · obtain ⟨ol, hol, hcl, nl, hdl⟩ := hl
        obtain ⟨ocls, odict, odata, oslots⟩ := ol
        simp only at hcl hdl
        subst hcl; subst hdl
        have hol' : (s.heap.push (s0 w)).get? l = some { cls := .type "tuple", dict := odict, data := .seq items nl, slots := oslots } := Heap.get?_push_of_some _ hol
        have n1 := PySem.F.sub_tuple_set
        have n2 := PySem.F.sub_tuple_frozenset
        have n3 : (Value.type "tuple" == Value.type "dict") = false := by decide
        have hl1 : (s.heap.push (s0 w)).IsTuple l items := ⟨_, hol', rfl, nl, rfl⟩
        unfold Builtin.«set.__init__» noKeywords Builtin.Frozenset.updateFrom
        generalize hPI : pyIter = PI
        wp_walk
        subst hPI
        refine wpAny_pyIter_tuple hl1 (wpAny_bind (wpAny_runValue ?_))
        have hlS : l < s.heap.objs.size := Heap.lt_size hol
        have hh3 : A.in1.in1.in1.handled = none := by simp [hh]
        have hneI : l ≠ (s.heap.push (s0 w)).objs.size := by
          rw [Heap.size_push]; exact Nat.ne_of_lt (Nat.lt_succ_of_lt hlS)
        have hSf : s.heap.objs.size ∉ [(s.heap.push (s0 w)).objs.size, l] := by
          rw [Heap.size_push]; simp only [List.mem_cons, List.mem_singleton, List.not_mem_nil, or_false, not_or]
          exact ⟨Nat.ne_of_lt (Nat.lt_succ_self _), Nat.ne_of_gt hlS⟩
        have hsz : ks.length = items.size := by rw [← Array.length_toList, hi, List.length_map]
        have none_of : ∀ b, s.heap.objs.size ≤ b → s.heap.get? b = none := fun b hb => by
          cases q : s.heap.get? b with
          | none => rfl
          | some o => exact absurd (Nat.lt_of_lt_of_le (Heap.lt_size q) hb) (Nat.lt_irrefl _)
        have hval : ∀ (i : Nat) (v : Value), items[i]? = some v → ∃ p, ks[i]? = some p ∧ v = .ref p.1 := fun i v hv => by
          have q : items.toList[i]? = some v := by rw [Array.getElem?_toList]; exact hv
          rw [hi, List.getElem?_map] at q
          cases hq : ks[i]? with
          | none => rw [hq] at q; cases q
          | some p =>
            rw [hq] at q
            exact ⟨p, rfl, (Option.some.inj q).symm⟩
        refine loop ((Walks.tuple hh3 _ l hneI items).toS) s.heap.objs.size hSf ks hsz few hval s.heap hk (none_of _ (Nat.le_refl _)) (fun b hb => none_of b (by
          rw [List.mem_singleton.mp hb, Heap.size_push]
          exact Nat.le_succ _)) (by show A.units + 1 + 1 + 1 + 16 < cLine; omega) (items.size - 0) 0 _ (by omega) (Nat.zero_le _)
          ⟨⟨_, Heap.get?_push_size _ rfl, rfl, rfl⟩, (hl1.push _)⟩ (fun b o e => Heap.get?_push_of_some _ (Heap.get?_push_of_some _ e)) ⟨[], #[], 0, _, set0 (Heap.get?_push_of_some _ hS), Gt.zero ks⟩ ?_
        intro s' hm hS'
        obtain ⟨h', g', d', tk', os'⟩ := s'
        have eg : g' = s.gens := hm.gens
        have ed : d' = s.drawn := hm.drawn
        have eo : os' = s.os := hm.os
        subst eg; subst ed; subst eo
        show wpAny _ _ _ _ _ _
        refine wpAny_pure ?_
        show wpAny _ _ (ret Value.none) _ _ _
        refine wpAny_pure ⟨rfl, h', tk', rfl, hS', fun b o hb e => ?_⟩
        have hb1 : b ≠ s.heap.objs.size := Nat.ne_of_lt hb
        have hb2 : b ≠ (s.heap.push (s0 w)).objs.size := by
          rw [Heap.size_push]; exact Nat.ne_of_lt (Nat.lt_succ_of_lt hb)
        exact hm.heap b o (by simp only [List.mem_cons, List.mem_singleton, List.not_mem_nil, or_false, not_or]; exact ⟨hb1, hb2⟩) (Heap.get?_push_of_some _ (Heap.get?_push_of_some _ e))
      · cases r₂ with
        | error e => exact hr₂
        | ok fl₂ =>
          cases fl₂ with
          | ret r =>
            obtain ⟨rfl, h', tk, rfl, hS', hk'⟩ := hr₂
            repeat (any_goals (first | assumption | wp_step))
            exact h _ _ hS' hk'
          | _ => exact hr₂.elim
    | _ => exact hr.elim
end
end Tn
/-! sorted(set(x)) and len(set(x)) of tuples of data -/
namespace Tn
open PySem PySem.Spec PyProof.Rows L2 Mi
mutual
theorem toks_inj : ∀ (x y : PyData) (s t : List (Int ⊕ List Nat)), PySem.W.alike x y = true → PySem.W.keyToks x ++ s = PySem.W.keyToks y ++ t → x = y ∧ s = t
  | .none, y, s, t, h, e => by
    cases y with
    | none => simpa [PySem.W.keyToks] using e
    | _ => cases h
  | .bool b, y, s, t, h, e => by
    cases y with
    | bool c =>
      simp only [PySem.W.keyToks, List.cons_append, List.nil_append, List.cons.injEq, Sum.inl.injEq] at e
      refine ⟨?_, e.2⟩
      cases b <;> cases c <;> simp at e ⊢
    | _ => cases h
  | .int i, y, s, t, h, e => by
    cases y with
    | int j =>
      simp only [PySem.W.keyToks, List.cons_append, List.nil_append, List.cons.injEq, Sum.inl.injEq] at e
      exact ⟨by rw [e.1], e.2⟩
    | _ => cases h
  | .str i, y, s, t, h, e => by
    cases y with
    | str j =>
      simp only [PySem.W.keyToks, List.cons_append, List.nil_append, List.cons.injEq, Sum.inr.injEq] at e
      exact ⟨by rw [str_cps e.1], e.2⟩
    | _ => cases h
  | .list xs, y, s, t, h, e => by
    cases y with
    | list ys =>
      obtain ⟨q1, q2⟩ := toksA_inj xs ys s t (by simpa [PySem.W.alike] using h) (by simpa [PySem.W.keyToks] using e)
      exact ⟨by rw [q1], q2⟩
    | _ => cases h
  | .tuple xs, y, s, t, h, e => by
    cases y with
    | tuple ys =>
      obtain ⟨q1, q2⟩ := toksA_inj xs ys s t (by simpa [PySem.W.alike] using h) (by simpa [PySem.W.keyToks] using e)
      exact ⟨by rw [q1], q2⟩
    | _ => cases h
  | .dict _, y, s, t, h, e => by cases y <;> cases h
theorem toksA_inj : ∀ (xs ys : List PyData) (s t : List (Int ⊕ List Nat)), PySem.W.alikeAll xs ys = true → PySem.W.keyToksAll xs ++ s = PySem.W.keyToksAll ys ++ t → xs = ys ∧ s = t
  | [], [], s, t, _, e => by simpa [PySem.W.keyToksAll] using e
  | [], y :: ys, s, t, _, e => by simp [PySem.W.keyToksAll] at e
  | x :: xs, [], s, t, _, e => by simp [PySem.W.keyToksAll] at e
  | x :: xs, y :: ys, s, t, h, e => by
    have h' : PySem.W.alike x y = true ∧ PySem.W.alikeAll xs ys = true := by simpa [PySem.W.alikeAll] using h
    simp only [PySem.W.keyToksAll, List.cons_append, List.append_assoc, List.cons.injEq, true_and] at e
    obtain ⟨q1, q2⟩ := toks_inj x y _ _ h'.1 e
    obtain ⟨q3, q4⟩ := toksA_inj xs ys s t h'.2 q2
    exact ⟨by rw [q1, q3], q4⟩
end
mutual
theorem nk_inj : ∀ (x y : PyData) (k : NestedKey), PySem.W.alike x y = true → nk x = some k → nk y = some k → x = y
  | .none, y, k, h, a, b => by
    cases y with
    | none => rfl
    | _ => cases h
  | .bool p, y, k, h, a, b => by
    cases y with
    | bool q =>
      simp only [nk] at a b
      rw [← a] at b
      injection b with b
      injection b with b
      cases p <;> cases q <;> simp at b ⊢
    | _ => cases h
  | .int p, y, k, h, a, b => by
    cases y with
    | int q =>
      simp only [nk] at a b
      rw [← a] at b
      injection b with b
      injection b with b
      rw [b]
    | _ => cases h
  | .str p, y, k, h, a, b => by
    cases y with
    | str q =>
      simp only [nk] at a b
      rw [← a] at b
      injection b with b
      injection b with b
      rw [b]
    | _ => cases h
  | .tuple xs, y, k, h, a, b => by
    cases y with
    | tuple ys =>
      unfold nk at a b
      cases ea : nks xs with
      | none => rw [ea] at a; cases a
      | some ka =>
        cases eb : nks ys with
        | none => rw [eb] at b; cases b
        | some kb =>
          rw [ea] at a
          rw [eb] at b
          simp only at a b
          rw [← a] at b
          injection b with b
          injection b with b
          subst b
          rw [nks_inj xs ys kb (by simpa [PySem.W.alike] using h) ea eb]
    | _ => cases h
  | .list _, _, k, _, a, _ => by cases a
  | .dict _, _, k, _, a, _ => by cases a
theorem nks_inj : ∀ (xs ys : List PyData) (ks : List NestedKey), PySem.W.alikeAll xs ys = true → nks xs = some ks → nks ys = some ks → xs = ys
  | [], [], _, _, _, _ => rfl
  | [], y :: ys, ks, _, a, b => by
    unfold nks at a b
    cases a
    cases e1 : nk y with
    | none => rw [e1] at b; cases b
    | some k =>
      cases e2 : nks ys with
      | none => rw [e1, e2] at b; cases b
      | some l => rw [e1, e2] at b; cases b
  | x :: xs, [], ks, _, a, b => by
    unfold nks at a b
    cases b
    cases e1 : nk x with
    | none => rw [e1] at a; cases a
    | some k =>
      cases e2 : nks xs with
      | none => rw [e1, e2] at a; cases a
      | some l => rw [e1, e2] at a; cases a
  | x :: xs, y :: ys, ks, h, a, b => by
    have h' : PySem.W.alike x y = true ∧ PySem.W.alikeAll xs ys = true := by simpa [PySem.W.alikeAll] using h
    unfold nks at a b
    cases e1 : nk x with
    | none => rw [e1] at a; cases a
    | some k =>
      cases e2 : nks xs with
      | none => rw [e1, e2] at a; cases a
      | some l =>
        cases e3 : nk y with
        | none => rw [e3] at b; cases b
        | some k' =>
          cases e4 : nks ys with
          | none => rw [e3, e4] at b; cases b
          | some l' =>
            rw [e1, e2] at a
            rw [e3, e4] at b
            simp only at a b
            rw [← a] at b
            injection b with b
            injection b with b1 b2
            subst b1 b2
            rw [nk_inj x y k' h'.1 e1 e3, nks_inj xs ys l' h'.2 e2 e4]
end
/-- each key once -/
def ddN : List PyData → List PyData
  | [] => []
  | x :: xs => x :: (ddN xs).filter fun y => decide (nk y ≠ nk x)
theorem ddN_sub : ∀ {xs : List PyData} {y : PyData}, y ∈ ddN xs → y ∈ xs
  | x :: xs, y, h => by
    unfold ddN at h
    rcases List.mem_cons.mp h with rfl | h
    · simp
    · exact List.mem_cons_of_mem _ (ddN_sub (List.mem_filter.mp h).1)
theorem ddN_all : ∀ {xs : List PyData} {y : PyData}, y ∈ xs → ∃ z ∈ ddN xs, nk z = nk y
  | x :: xs, y, h => by
    unfold ddN
    by_cases e : nk y = nk x
    · exact ⟨x, by simp, e.symm⟩
    · rcases List.mem_cons.mp h with rfl | h
      · exact absurd rfl e
      · obtain ⟨z, hz, ez⟩ := ddN_all h
        exact ⟨z, List.mem_cons_of_mem _ (List.mem_filter.mpr ⟨hz, by simpa [ez] using e⟩), ez⟩
theorem ddN_nd : ∀ xs : List PyData, ((ddN xs).map nk).Nodup
  | [] => List.nodup_nil
  | x :: xs => by
    unfold ddN
    rw [List.map_cons, List.nodup_cons]
    refine ⟨fun h => ?_, (ddN_nd xs).sublist (List.Sublist.map _ List.filter_sublist)⟩
    obtain ⟨y, hy, e⟩ := List.mem_map.mp h
    have := (List.mem_filter.mp hy).2
    simp [e] at this
theorem nd_subG {α : Type} : ∀ {xs ys : List α}, xs.Nodup → (∀ x ∈ xs, x ∈ ys) → xs.length ≤ ys.length
  | [], _, _, _ => Nat.zero_le _
  | x :: xs, ys, hn, hs => by
    haveI : DecidableEq α := fun a b => Classical.propDecidable _
    obtain ⟨h1, h2⟩ := List.nodup_cons.mp hn
    have hx : x ∈ ys := hs x (by simp)
    have ih := nd_subG (ys := ys.erase x) h2 fun y hy => (List.mem_erase_of_ne (fun e : y = x => h1 (by rw [← e]; exact hy))).mpr (hs y (by simp [hy]))
    rw [List.length_erase_of_mem hx] at ih
    have := List.length_pos_of_mem hx
    simp only [List.length_cons]
    omega
theorem perm_ndG {α : Type} : ∀ {xs ys : List α}, xs.Nodup → ys.Nodup → (∀ x, x ∈ xs ↔ x ∈ ys) → xs.Perm ys
  | [], ys, _, _, h => by
    cases ys with
    | nil => exact List.Perm.refl _
    | cons y ys => exact absurd ((h y).mpr (by simp)) (by simp)
  | x :: xs, ys, hn, hy, h => by
    haveI : DecidableEq α := fun a b => Classical.propDecidable _
    obtain ⟨h1, h2⟩ := List.nodup_cons.mp hn
    have hx : x ∈ ys := (h x).mp (by simp)
    have ih := perm_ndG (ys := ys.erase x) h2 (hy.sublist List.erase_sublist) fun z => by
      constructor
      · intro hz
        exact (List.mem_erase_of_ne (fun e : z = x => h1 (by rw [← e]; exact hz))).mpr ((h z).mp (by simp [hz]))
      · intro hz
        have := (h z).mpr (List.mem_of_mem_erase hz)
        rcases List.mem_cons.mp this with rfl | q
        · exact absurd hz (List.Nodup.not_mem_erase hy)
        · exact q
    exact (ih.cons x).trans (List.perm_cons_erase hx).symm
theorem perm_mapInv {α β : Type} {f : α → β} : ∀ {L : List α} {vs : List β}, vs.Perm (L.map f) → ∃ L' : List α, L'.Perm L ∧ vs = L'.map f
  | [], vs, h => ⟨[], List.Perm.refl _, List.perm_nil.mp h⟩
  | x :: L, vs, h => by
    haveI : DecidableEq β := fun a b => Classical.propDecidable _
    have hx : f x ∈ vs := h.mem_iff.mpr (by simp)
    obtain ⟨as, bs, rfl⟩ := List.append_of_mem hx
    have h2 : (as ++ bs).Perm (L.map f) := (List.perm_cons (f x)).mp ((List.perm_middle.symm).trans h)
    obtain ⟨L', p, e⟩ := perm_mapInv h2
    obtain ⟨l1, l2, rfl, e1, e2⟩ := List.map_eq_append_iff.mp e.symm
    refine ⟨l1 ++ x :: l2, List.perm_middle.trans (p.cons x), ?_⟩
    rw [List.map_append, List.map_cons, e1, e2]
def tupK (d : PyData) : Bool := isTupD d && keyOk d
section
variable {X : Cx} {pins : List (Addr × Obj)} {σ : L2.St} {G H : Hp} {s : Shared}
/-- an element and its data -/
structure ElD (K : Frag) (G : Hp) (h : Heap) (p : NE) (d : PyData) : Prop where
  k : nk d = some p.2
  e : El h p
  r : Rp K G (.ref p.1) d
theorem els_of (I : Inv X pins σ H s) (sg : Same G H) : ∀ {vs : List V} {us : List Value} {ds : List PyData}, RpAll X.kx G vs ds → Vals vs us → (∀ d ∈ ds, tupK d = true) → ∃ ks : List NE, us = ks.map (fun p => Value.ref p.1) ∧ PySem.W.EachIs (ElD X.kx G s.heap) ks ds
  | _, _, [], h, r, _ => by
    cases h
    cases r
    exact ⟨[], rfl, .nil⟩
  | _, _, d :: ds, h, r, ht => by
    cases h with
    | cons h1 h2 =>
      cases r with
      | cons r1 r2 =>
        obtain ⟨ks, e, E⟩ := els_of I sg h2 r2 fun d hd => ht d (by simp [hd])
        have hd := ht d (by simp)
        unfold tupK at hd
        rw [Bool.and_eq_true] at hd
        obtain ⟨k, hk, hdp⟩ := keyOk_some hd.2
        cases d with
        | tuple xs =>
          cases h1 with
          | @tup a vs _ hs ha =>
            cases r1
            have n := Rp.nest I (.tuple xs) (.ref a) (.ref a) k hk ((Rp.tup hs ha : Rp X.kx G (.ref a) (.tuple xs)).up sg) rfl
            exact ⟨(a, k) :: ks, by rw [e]; rfl, .cons ⟨hk, ⟨n, hdp⟩, .tup hs ha⟩ E⟩
        | _ => exact absurd hd.1 (by simp [isTupD])
theorem each_mem1 {α β : Type} {R : α → β → Prop} : ∀ {as : List α} {bs : List β}, PySem.W.EachIs R as bs → ∀ a ∈ as, ∃ b ∈ bs, R a b
  | _, _, .nil, a, ha => nomatch ha
  | _, _, .cons r t, a, ha => by
    rcases List.mem_cons.mp ha with rfl | ha
    · exact ⟨_, by simp, r⟩
    · obtain ⟨b, hb, q⟩ := each_mem1 t a ha
      exact ⟨b, by simp [hb], q⟩
theorem each_mem2 {α β : Type} {R : α → β → Prop} : ∀ {as : List α} {bs : List β}, PySem.W.EachIs R as bs → ∀ b ∈ bs, ∃ a ∈ as, R a b
  | _, _, .nil, a, ha => nomatch ha
  | _, _, .cons r t, a, ha => by
    rcases List.mem_cons.mp ha with rfl | ha
    · exact ⟨_, by simp, r⟩
    · obtain ⟨b, hb, q⟩ := each_mem2 t a ha
      exact ⟨b, by simp [hb], q⟩
/-- the data of some of the elements -/
theorem pick_data {K : Frag} {h : Heap} {ks : List NE} {ds : List PyData} (E : PySem.W.EachIs (ElD K G h) ks ds) : ∀ {L : List NE}, (∀ p ∈ L, p ∈ ks) → ∃ bs : List PyData, PySem.W.EachIs (fun p d => ElD K G h p d ∧ d ∈ ds) L bs
  | [], _ => ⟨[], .nil⟩
  | p :: L, hs => by
    obtain ⟨d, hd, q⟩ := each_mem1 E p (hs p (by simp))
    obtain ⟨bs, t⟩ := pick_data E (L := L) fun p hp => hs p (by simp [hp])
    exact ⟨d :: bs, .cons ⟨q, hd⟩ t⟩
theorem each_nk {K : Frag} {h : Heap} {ds : List PyData} : ∀ {L : List NE} {bs : List PyData}, PySem.W.EachIs (fun p d => ElD K G h p d ∧ d ∈ ds) L bs → bs.map nk = L.map fun p => some p.2
  | _, _, .nil => rfl
  | _, _, .cons r t => by rw [List.map_cons, List.map_cons, each_nk t, r.1.k]
theorem few_of {K : Frag} {h : Heap} {ks : List NE} {ds : List PyData} (E : PySem.W.EachIs (ElD K G h) ks ds) (f : (ddN ds).length < 64) : Few (keysOf ks) := by
  intro M hM hs
  have nd : (M.map some).Nodup := List.pairwise_map.mpr (hM.imp fun h e => h (Option.some.inj e))
  have := nd_subG (ys := (ddN ds).map nk) nd fun x hx => by
    obtain ⟨k, hk, rfl⟩ := List.mem_map.mp hx
    obtain ⟨p, hp, rfl⟩ := List.mem_map.mp (hs k hk)
    obtain ⟨d, hd, q⟩ := each_mem1 E p hp
    obtain ⟨z, hz, e⟩ := ddN_all hd
    exact List.mem_map.mpr ⟨z, hz, by rw [e, q.k]⟩
  simp only [List.length_map] at this
  omega
/-- what the set has, as data -/
theorem set_data {K : Frag} {h h' : Heap} {a : Addr} {w : World} {ks : List NE} {ds : List PyData} (E : PySem.W.EachIs (ElD K G h) ks ds) {L : List NE} {es : Array (Int × Value)} {ep : Nat} {t : SetTable} (R : SN w h' a L es ep t) (g : Gt ks ks.length L) :
    (∀ p ∈ L, p ∈ ks) ∧ L.length = (ddN ds).length ∧ ∀ d ∈ ds, ∃ p ∈ L, nk d = some p.2 := by
  have s1 : ∀ p ∈ L, p ∈ ks := fun p hp => List.mem_of_mem_take (g.sub p hp)
  have s2 : ∀ d ∈ ds, ∃ p ∈ L, nk d = some p.2 := fun d hd => by
    obtain ⟨p, hp, q⟩ := each_mem2 E d hd
    have := g.all p (by rw [List.take_length]; exact hp)
    obtain ⟨p2, hp2, e⟩ := List.mem_map.mp this
    exact ⟨p2, hp2, by rw [q.k, e]⟩
  refine ⟨s1, Nat.le_antisymm ?_ ?_, s2⟩
  · have nd : (L.map fun p => some p.2).Nodup := by
      have := R.nd
      exact List.pairwise_map.mpr ((List.pairwise_map.mp this).imp fun h e => h (Option.some.inj e))
    have := nd_subG (ys := (ddN ds).map nk) nd fun x hx => by
      obtain ⟨p, hp, rfl⟩ := List.mem_map.mp hx
      obtain ⟨d, hd, q⟩ := each_mem1 E p (s1 p hp)
      obtain ⟨z, hz, e⟩ := ddN_all hd
      exact List.mem_map.mpr ⟨z, hz, by rw [e, q.k]⟩
    simpa using this
  · have := nd_subG (ys := L.map fun p => some p.2) (ddN_nd ds) fun x hx => by
      obtain ⟨d, hd, rfl⟩ := List.mem_map.mp hx
      obtain ⟨p, hp, e⟩ := s2 d (ddN_sub hd)
      exact List.mem_map.mpr ⟨p, hp, e.symm⟩
    simpa using this
/-- the call of set -/
theorem run_set {Q : Value → Shared → Prop} {l : Addr} {vs : List V} {ds : List PyData} (hc : X.calm = true) (hu : X.A.units + 64 < cLine) (I : Inv X pins σ H s) (sg : Same G H) (hq : SqL X.kx H l vs ∨ SqT X.kx H l vs) (r : RpAll X.kx G vs ds) (ht : ∀ d ∈ ds, tupK d = true) (few : (ddN ds).length < 64)
    (h : ∀ (h' : Heap) (tk : Nat) (ks : List NE), PySem.W.EachIs (ElD X.kx G s.heap) ks ds → SetS X.w h' s.heap.objs.size ks → (∀ b o, s.heap.get? b = some o → h'.get? b = some o) → Q (.ref s.heap.objs.size) { s with heap := h', toks := tk }) :
    wpAny (model X.prog X.w) X.A (call (.type "set") [.ref l]) Q X.xe s := by
  rcases hq with hq | hq
  · obtain ⟨its, rv, pl, hz⟩ := I.list hq
    obtain ⟨ks, e, E⟩ := els_of I sg r rv ht
    exact call_set_list (I.ok.hd hc) pl.isList (by simpa using e) (fun p hp => by obtain ⟨d, _, q⟩ := each_mem1 E p hp; exact q.e) (by omega) (few_of E few) fun h' tk hS hk => h h' tk ks E hS fun b o e => hk b o (Heap.lt_size e) e
  · obtain ⟨its, rv, pl, hz⟩ := I.tuple hq
    obtain ⟨ks, e, E⟩ := els_of I sg r rv ht
    exact call_set_tuple (I.ok.hd hc) pl (by simpa using e) (fun p hp => by obtain ⟨d, _, q⟩ := each_mem1 E p hp; exact q.e) (by omega) (few_of E few) fun h' tk hS hk => h h' tk ks E hS fun b o e => hk b o (Heap.lt_size e) e
theorem srt_sub {ds bs : List PyData} (h : srtC ds = true) (sub : ∀ b ∈ bs, b ∈ ds) (hl : bs.length ≤ sizeLine) : srtC bs = true := by
  simp only [srtC, Bool.and_eq_true, Bool.or_eq_true, decide_eq_true_eq] at h ⊢
  obtain ⟨⟨⟨⟨h1, h2⟩, h3⟩, h4⟩, h5⟩ := h
  have ndm : ∀ {l : List PyData}, (∀ x ∈ l, DcEq.ndB x = true) → DcEq.ndAll l = true := by
    intro l
    induction l with
    | nil => intro _; simp [DcEq.ndAll]
    | cons x l ih =>
      intro q
      simp only [DcEq.ndAll, Bool.and_eq_true]
      exact ⟨q x (by simp), ih fun y hy => q y (by simp [hy])⟩
  have dpm : ∀ {l : List PyData} {n : Nat}, (∀ x ∈ l, x.depth ≤ n) → PyData.depthAll l ≤ n := by
    intro l n
    induction l with
    | nil => intro _; simp [PyData.depthAll]
    | cons x l ih =>
      intro q
      have q1 := q x (by simp)
      have q2 := ih fun y hy => q y (by simp [hy])
      simp only [PyData.depthAll]
      omega
  refine ⟨⟨⟨⟨?_, ?_⟩, ndm fun x hx => ?_⟩, dpm fun x hx => ?_⟩, hl⟩
  · exact List.all_eq_true.mpr fun d hd => List.all_eq_true.mpr fun e he => List.all_eq_true.mp (List.all_eq_true.mp h1 d (sub d hd)) e (sub e he)
  · rcases h2 with h2 | h2
    · exact .inl (List.all_eq_true.mpr fun d hd => List.all_eq_true.mp h2 d (sub d hd))
    · exact .inr (List.all_eq_true.mpr fun d hd => List.all_eq_true.mp h2 d (sub d hd))
  · obtain ⟨i, hi, rfl⟩ := List.getElem_of_mem (sub x hx)
    exact nd_at h3 hi
  · obtain ⟨i, hi, rfl⟩ := List.getElem_of_mem (sub x hx)
    exact Nat.le_trans (DcEq.depth_le hi) h4
theorem srt_al {ds : List PyData} (h : srtC ds = true) : ∀ a ∈ ds, ∀ b ∈ ds, PySem.W.alike a b = true := by
  simp only [srtC, Bool.and_eq_true] at h
  exact fun a ha b hb => List.all_eq_true.mp (List.all_eq_true.mp h.1.1.1.1 a ha) b hb
theorem srt_ddN {ds bs : List PyData} (h : srtC ds = true) (sub : ∀ b ∈ bs, b ∈ ds) (all : ∀ d ∈ ds, ∃ b ∈ bs, nk b = nk d) (nd : (bs.map nk).Nodup) (hk : ∀ d ∈ ds, tupK d = true) : srtA bs = srtA (ddN ds) := by
  have al := srt_al h
  have inj : ∀ a ∈ ds, ∀ b ∈ ds, nk a = nk b → a = b := fun a ha b hb e => by
    have := hk a ha
    unfold tupK at this
    rw [Bool.and_eq_true] at this
    obtain ⟨k, q, _⟩ := keyOk_some this.2
    exact nk_inj a b k (al a ha b hb) q (by rw [← e]; exact q)
  have p : bs.Perm (ddN ds) := perm_ndG (List.Pairwise.of_map nk (fun a b hne e => hne (congrArg nk e)) nd) (List.Pairwise.of_map nk (fun a b hne e => hne (congrArg nk e)) (ddN_nd ds)) fun x => by
    constructor
    · intro hx
      obtain ⟨z, hz, e⟩ := ddN_all (sub x hx)
      rw [← inj z (ddN_sub hz) x (sub x hx) e]
      exact hz
    · intro hx
      obtain ⟨b, hb, e⟩ := all x (ddN_sub hx)
      rw [← inj b (sub b hb) x (ddN_sub hx) e]
      exact hb
  exact srtA_uniq p fun a ha b hb e => (toks_inj a b [] [] (al a (sub a ha) b (sub b hb)) (by rw [e])).1
theorem run_sorted {Q : VK} {a : Addr} {ks : List NE} {ds : List PyData} {h0 : Heap} (hc : X.calm = true) (hu : X.A.units + 64 < cLine) (I : Inv X pins σ H s) (sg : Same G H) (E : PySem.W.EachIs (ElD X.kx G h0) ks ds) (S : SetS X.w s.heap a ks) (hk : ∀ d ∈ ds, tupK d = true) (hs : srtC ds = true)
    (q : ∀ p ys, RpAll X.kx G ys (srtA (ddN ds)) → H p = none → Q (.ref p) (upd H p (.lst ys))) : wpAny (model X.prog X.w) X.A (call (.builtin "sorted") [.ref a]) (EP X pins σ Q) X.xe s := by
  obtain ⟨L, es, ep, t, R, g⟩ := S
  obtain ⟨sub, ln, all⟩ := set_data E R g
  obtain ⟨o, ho, hex, hd⟩ := R.ob
  have few := R.few
  have hsz := R.size
  refine PySem.Calls.call_function_entry kind_sorted plain_sorted entry_sorted (args_sorted1 _) ?_
  unfold Builtin.«sorted»
  refine wpAny_bind (m := checkCount "sorted" 1 1 _) (wpAny_pure ?_)
  refine wpAny_bind (collect_set (A := X.A.in1) (I.ok.hd hc) ⟨o, ho, hex.1, hd⟩ R.fits (by unfold scanBound; omega) R.tab.ris R.led fun s1 vs k1 hz g1 o1 pm => ?_)
  have er : es.toList.map (·.2) = L.map fun p => Value.ref p.1 := by
    rw [R.rows]
    unfold rws
    rw [List.map_map]
    rfl
  rw [er] at pm
  obtain ⟨L', pL, rfl⟩ := perm_mapInv pm
  obtain ⟨bs, EB⟩ := pick_data E (L := L') fun p hp => sub p (pL.mem_iff.mp hp)
  have en := each_nk EB
  have lb : L'.length = bs.length := by
    have := congrArg List.length en
    simpa using this.symm
  have lL := pL.length_eq
  have bsub : ∀ b ∈ bs, b ∈ ds := fun b hb => by
    obtain ⟨p, hp, q⟩ := each_mem2 EB b hb
    exact q.2
  have bnd : (bs.map nk).Nodup := by
    rw [en]
    have := (pL.map (·.2)).nodup_iff.mpr R.nd
    exact List.pairwise_map.mpr ((List.pairwise_map.mp this).imp fun h e => h (Option.some.inj e))
  have ball : ∀ d ∈ ds, ∃ b ∈ bs, nk b = nk d := fun d hd => by
    obtain ⟨p, hp, e⟩ := all d hd
    obtain ⟨b, hb, q⟩ := each_mem1 EB p (pL.mem_iff.mpr hp)
    exact ⟨b, hb, by rw [e, q.1.k]⟩
  have hsb : srtC bs = true := srt_sub hs bsub (by rw [← lb, lL, sizeLine_eq]; omega)
  have efin := srt_ddN hs bsub ball bnd hk
  obtain ⟨c1, c2, c3, c4, c5⟩ := srtC_ok hsb
  obtain ⟨hp, gs, dr, tk, os⟩ := s1
  obtain rfl : gs = s.gens := g1
  obtain rfl : os = s.os := o1
  have J1 : Inv X pins σ H { s with heap := hp, gens := s.gens, drawn := dr, toks := tk } :=
    I.call (ch := []) (g' := s.gens) (d' := dr) (t' := tk) (Un.kept k1) (I.hok.kept k1) I.bare (fun _ z => nomatch z)
  have e1 : PySem.W.EachIs (fun u d => ∃ v, RelV v u ∧ Rp X.kx G v d) (L'.map fun p => Value.ref p.1) bs := by
    clear efin hsb ball bnd bsub lb en pm pL lL c1 c2 c3 c4 c5
    induction EB with
    | nil => exact .nil
    | @cons p d ps es r t ih => exact .cons ⟨V.ref p.1, rfl, r.1.r⟩ ih
  have e2 : PySem.W.EachIs (fun u d => ∃ as, Reads hp u d as) (L'.map fun p => Value.ref p.1) bs := by
    have hn : ∀ b ∈ bs, DcEq.ndB b = true := fun b hb => by
      obtain ⟨i, hi, rfl⟩ := List.getElem_of_mem hb
      exact nd_at c3 hi
    clear efin hsb ball bnd bsub lb en pm pL lL c1 c2 c3 c4 c5 e1
    induction EB with
    | nil => exact .nil
    | cons r t ih => exact .cons (Rp.reads J1 _ _ _ (hn _ (by simp)) (r.1.r.up sg) rfl) (ih fun b hb => hn b (by simp [hb]))
  have lv : (L'.map fun p => Value.ref p.1).length = bs.length := by rw [List.length_map, lb]
  clear EB en pm
  generalize (L'.map fun p => Value.ref p.1) = vs at e1 e2 lv ⊢
  refine wpAny_bind (wpAny_newList ?_ (by rw [lv]; exact c5))
  have hoL : (hp.push (seqObj "list" vs.toArray 0)).get? hp.objs.size = some (seqObj "list" vs.toArray 0) := Heap.get?_push_size _ rfl
  have em : bs.map (fun d : PyData => d) = bs := by simp
  refine wpAny_bind (wpAny_holding (wpAny_mono (PySem.W.list_sort_data (A := X.A.in1) (E := X.xe) (s := { s with heap := hp.push (seqObj "list" vs.toArray 0), drawn := dr, toks := tk }) (bs := bs) (enc := fun d => d) (vs := vs)
    (Q := fun _ s' => EP X pins σ Q (.ref hp.objs.size) s') hoL e1 (each_noself (fun c o q => Heap.get?_push_of_some _ q) (Nat.le_refl _) e2) (by rw [em]; exact c1) (by rw [em]; exact c2) c5 (fun d hd => ?_) fun out hlo eo => ?_) (fun _ s' x => ?_) fun _ _ e => e))
  · obtain ⟨j, hj, rfl⟩ := List.getElem_of_mem hd
    have := DcEq.depth_le hj
    show X.A.units + 1 + 1 + _ < _
    omega
  · obtain ⟨ys, rv2, ry⟩ := of_each eo
    have ry : RpAll X.kx G ys (srtA bs) := ry
    rw [efin] at ry
    obtain ⟨c, hat⟩ := sortedHeap_at (vs := vs) (out := out.toArray) hoL
    have hlen : ys.length ≤ sizeLine := by rw [rv2.length, hlo]; exact c5
    have J : Inv X pins σ (upd H hp.objs.size (.lst ys)) { s with heap := sortedHeap (hp.push (seqObj "list" vs.toArray 0)) hp.objs.size vs out.toArray, gens := s.gens, drawn := dr, toks := tk } :=
      J1.laid (t' := tk) (fun b u e => by
        have hlt := Heap.lt_size e
        rw [sortedHeap_old (Nat.ne_of_lt hlt) (by rw [size_push']; exact Nat.lt_succ_of_lt hlt)]
        exact Heap.get?_push_of_some _ e) (Nat.le_refl _) ⟨hlen, out, c, rv2, hat⟩
    exact ⟨.ref hp.objs.size, _, J, rfl, q _ ys ry (J1.hok.fresh (Nat.le_refl _))⟩
  · exact wpAny_pure ⟨_, rfl, x⟩
end
end Tn
namespace Mi
open PySem PySem.Spec PyProof.Rows L2
def setTC (ds : List PyData) : Bool := ds.all Tn.tupK && decide ((Tn.ddN ds).length < 64)
def sortSetTD (d : PyData) : Option PyData := match sqO d with
  | some ds => if setTC ds = true ∧ srtC ds = true then some (.list (srtA (Tn.ddN ds))) else none
  | none => none
def sortSetX (d : PyData) : Option PyData := match sortSetG d with
  | some z => some z
  | none => sortSetTD d
section
variable {X : Cx} {W : WX} {e : Expr} {m : MM PyData} {p p2 q pos : Pos}
theorem me_sortSetT (hm : X.mg "sorted" = none) (hm2 : X.mg "set" = none) (hu : X.A.units + 64 < cLine) (ha : ME X W e m) (hg : Gl X "sorted" := by rfl) (hg2 : Gl X "set" := by rfl) (hc : X.calm = true := by rfl)
    (na : starEach [e] X.env = (false, eval e X.env) :: starEach [] X.env := by rfl) : ME X W (.Call (.Name "sorted" p) [.Call (.Name "set" p2) [e] [] q] [] pos) (op1 sortSetTD m) := by
  refine ⟨fun pins s σ H Q I ⟨Fr, g, G, A, hq⟩ => ?_⟩
  refine Call_ (ld_blt I hg hm boot_sorted ?_)
  refine PyProof.Rows.callWith_builtin1 (PyProof.Rows.args_cons ?_ rfl) rfl rfl
  refine Call_ (ld_blt I hg2 hm2 boot_set ?_)
  refine PyProof.Rows.callWith_type1 (PyProof.Rows.args_cons (thn (ha.run pins s σ H _ I ⟨Fr, g, G, A, Po.imp hq.bnd fun d g1 G1 H1 A1 s1 k1 x rx => (⟨d, g1, G1, A1, rx, k1⟩ : ∃ d g1 G1, At X.kx Fr σ g1 G1 H1 ∧ Rp X.kx G1 x d ∧ Po X.kx X.mg W Fr σ G1 (lft (sortSetTD d) g1) fun d _ G' H' => ∀ v, Rp X.kx G' v d → Q v H')⟩) fun v s1 ⟨x, H1, I1, r1, d, g1, G1, A1, rx, k1⟩ => PyProof.Rows.args_nil ?_) na) na rfl
  obtain ⟨z, hz, k2⟩ := k1.lft
  unfold sortSetTD at hz
  cases es : sqO d with
  | none => rw [es] at hz; cases hz
  | some ds =>
    rw [es] at hz
    simp only at hz
    split at hz
    · rename_i hcn
      cases hz
      have hcn1 := hcn.1
      unfold setTC at hcn1
      rw [Bool.and_eq_true, decide_eq_true_eq] at hcn1
      have hk : ∀ d ∈ ds, Tn.tupK d = true := List.all_eq_true.mp hcn1.1
      obtain ⟨tt, l, xs, rfl, f, r⟩ := rx.fs es
      cases r1
      refine Tn.run_set hc hu I1 A1.ex (by
        cases tt
        · exact .inl (.inl (.inl (A1.ex _ _ f)))
        · exact .inr (sqT_same A1.ex f)) r hk hcn1.2 fun h' tk ks E S keep => ?_
      refine PyProof.Rows.args_nil ?_
      have I2 : Inv X pins σ H1 { s1 with heap := h', toks := tk } := I1.kept keep
      refine Tn.run_sorted (s := { s1 with heap := h', toks := tk }) hc hu I2 A1.ex E S hk hcn.2 fun p ys ry hfr => ?_
      have gr := Gr.new (o := .lst ys) A1.ex hfr
      exact k2 _ _ (A1.grow gr) gr.g _ (.lst upd_same (ry.up gr.g))
    · cases hz
theorem me_sortSetX (hm : X.mg "sorted" = none) (hm2 : X.mg "set" = none) (hu : X.A.units + 64 < cLine) (ha : ME X W e m) (hg : Gl X "sorted" := by rfl) (hg2 : Gl X "set" := by rfl) (hc : X.calm = true := by rfl)
    (na : starEach [e] X.env = (false, eval e X.env) :: starEach [] X.env := by rfl) : ME X W (.Call (.Name "sorted" p) [.Call (.Name "set" p2) [e] [] q] [] pos) (op1 sortSetX m) :=
  PE.wk (PE.or (me_sortSetG hm hm2 ha hg hg2 hc na) (me_sortSetT hm hm2 hu ha hg hg2 hc na)) fun σ H Q ⟨F, g, G, A, hq⟩ => by
  have h : ∀ f : PyData → Option PyData, (∀ d z g', m g = .ok (d, g') → sortSetX d = some z → f d = some z) → cE X.kx X.mg W (op1 f m) σ H Q := fun f hf => by
    refine ⟨F, g, G, A, ?_⟩
    unfold op1 bnd at hq ⊢
    generalize em : m g = r at hq ⊢
    rcases r with (_ | ⟨c, g'⟩) | ⟨d, g'⟩
    · exact hq
    · exact hq
    · obtain ⟨z, hz, k⟩ := Po.lft (o := sortSetX d) hq
      have := hf d z g' em hz
      show Po _ _ _ _ _ _ (lft (f d) g') _
      unfold lft
      rw [this]
      exact k
  by_cases c : ∃ d g', m g = .ok (d, g') ∧ (sortSetG d).isSome = false
  · obtain ⟨d, g', e1, e2⟩ := c
    refine .inr (h _ fun d2 z g2 e3 e4 => ?_)
    rw [e1] at e3
    cases e3
    unfold sortSetX at e4
    cases es : sortSetG d with
    | none => rw [es] at e4; exact e4
    | some z => rw [es] at e2; cases e2
  · refine .inl (h _ fun d2 z g2 e3 e4 => ?_)
    unfold sortSetX at e4
    cases es : sortSetG d2 with
    | none => exact absurd ⟨d2, g2, e3, by rw [es]; rfl⟩ c
    | some z2 => rw [es] at e4; exact e4
end
end Mi
/-! texts by < -/
namespace Mi
open PySem PySem.Spec L2 PyProof.Rows
def ltS (a b : Str) : Bool := decide (a.cps.toList < b.cps.toList)
def ltT : PyData → PyData → Option PyData := fun d e => match d, e with | .str a, .str b => some (.bool (ltS a b)) | _, _ => none
@[simp ↓] theorem ltT_str {a b : Str} {P : PyData → Prop} : okO (ltT (.str a) (.str b)) P ↔ P (.bool (ltS a b)) := Iff.rfl
end Mi
/-! sum of a list or tuple of ints -/
namespace Mi
open PySem PySem.Spec L2 PyProof.Rows
def sumX : PyData → Option PyData
  | .list ds => (intsOf ds).map fun ns => .int ns.sum
  | .tuple ds => (intsOf ds).map fun ns => .int ns.sum
  | _ => none
section
variable {xs : List PyData} {P : PyData → Prop}
theorem okO_mapI {o : Option (List Int)} : okO (o.map fun ns => PyData.int ns.sum) P ↔ okO o fun ns => P (.int ns.sum) := by cases o <;> exact Iff.rfl
@[simp ↓] theorem sumX_lst : okO (sumX (.list xs)) P ↔ okO (intsOf xs) fun ns => P (.int ns.sum) := okO_mapI
@[simp ↓] theorem sumX_tup : okO (sumX (.tuple xs)) P ↔ okO (intsOf xs) fun ns => P (.int ns.sum) := okO_mapI
end
end Mi
/-! a number that the module names -/
namespace Mi
open PySem PySem.Spec L2 PyProof.Rows
end Mi
/-! a tuple that the module names -/
namespace Mi
open PySem PySem.Spec L2 PyProof.Rows
mutual
/-- a value of the known part of the heap that is data: numbers, and tuples of such -/
inductive CR (K : PySem.W.Frag) : Value → PyData → Prop
  | int (i : Int) (t : Tok) : CR K (.int i t) (.int i)
  | tup {a : Addr} {its : Array Value} {n : Nat} {sl : Array (Option Value)} {ds : List PyData} : K.lookup a = some ⟨.type "tuple", none, .seq its n, sl⟩ → its.size ≤ sizeLine → CRs K its.toList ds → CR K (.ref a) (.tuple ds)
inductive CRs (K : PySem.W.Frag) : List Value → List PyData → Prop
  | nil : CRs K [] []
  | cons {v : Value} {vs : List Value} {d : PyData} {ds : List PyData} : CR K v d → CRs K vs ds → CRs K (v :: vs) (d :: ds)
end
mutual
theorem CR.rp {K : Frag} {v : Value} {d : PyData} : CR K.toFrag v d → ∃ x : V, RelV x v ∧ ∀ H : Hp, Rp K H x d
  | .int i t => ⟨.int i, ⟨t, rfl⟩, fun _ => .int i⟩
  | .tup (a := a) (its := its) (n := n) h1 h2 h3 => by
    obtain ⟨xs, rv, r⟩ := CRs.rp h3
    exact ⟨.ref a, rfl, fun H => .tup (.inr ⟨_, its, n, h1, rfl, rfl, rfl, h2, rv⟩) (r H)⟩
theorem CRs.rp {K : Frag} {vs : List Value} {ds : List PyData} : CRs K.toFrag vs ds → ∃ xs : List V, Vals xs vs ∧ ∀ H : Hp, RpAll K H xs ds
  | .nil => ⟨[], .nil, fun _ => .nil⟩
  | .cons h t => by
    obtain ⟨x, r, q⟩ := CR.rp h
    obtain ⟨xs, rs, qs⟩ := CRs.rp t
    exact ⟨x :: xs, .cons r rs, fun H => .cons (q H) (qs H)⟩
end
end Mi
/-! for k, v in d.items() -/
namespace Mi
open PySem PySem.Spec PyProof.Rows L2
def itemD (ds : List (PyData × PyData)) : List PyData := ds.map fun p => .tuple [p.1, p.2]
def itemO : PyData → Option (List PyData)
  | .dict ds => some (itemD ds)
  | _ => none
/-- for .. in d.items() -/
def itmM (m : MM PyData) : MM (List PyData) := bnd m fun d => lft (itemO d)
@[simp ↓] theorem ev_itmM {m : MM PyData} {g : Gm} {P : List PyData → Gm → Prop} {X : String → Gm → Prop} : ev (itmM m) g P X ↔ ev m g (fun d g1 => okO (itemO d) fun ds => P ds g1) X := by simp [itmM]
end Mi
/-! sum(d.values()) -/
namespace Mi
open PySem PySem.Spec PyProof.Rows L2
section
variable {X : Cx} {pins : List (Addr × Obj)} {σ : L2.St} {G H : Hp} {s : Shared} {v a : Addr} {es : Array DictEntry} {ep : Nat} {ds : List (PyData × PyData)} {Q : VK}
def sumVD : PyData → Option PyData
  | .dict ds => (intsOf (ds.map (·.2))).map fun ns => .int ns.sum
  | _ => none
variable {W : WX} {e : Expr} {m : MM PyData} {apos cpos pos p : Pos}
end
@[simp ↓] theorem sumVD_dict {ds : List (PyData × PyData)} {P : PyData → Prop} : okO (sumVD (.dict ds)) P ↔ okO (intsOf (ds.map (·.2))) fun ns => P (.int ns.sum) := okO_mapI
end Mi
/-! dict(zip(x, y)), each a list or a tuple -/
namespace Zh
open PySem PySem.Spec PyProof.Rows L2 Z3 Z2
open Mi (tO)
theorem Src.obj {t : Bool} {h : Heap} {l : Addr} {xs : Array Value} (s : Src t h l xs) : ∃ o, h.get? l = some o := by
  cases t
  · obtain ⟨o, e, _⟩ := s; exact ⟨o, e⟩
  · obtain ⟨o, e, _⟩ := s; exact ⟨o, e⟩
end Zh
namespace Mi
open PySem PySem.Spec PyProof.Rows L2 Z3 Z2 Zh
open PySem.Sem (wp)
def dctZ (ma mb : MM PyData) : MM (List (PyData × PyData)) := bnd ma fun d => bnd mb fun e => lft (match sqO d, sqO e with
  | some ds, some es => mkD [] (ds.zip es)
  | _, _ => none)
@[simp ↓] theorem ev_dctZ {ma mb : MM PyData} {g : Gm} {P : List (PyData × PyData) → Gm → Prop} {X : String → Gm → Prop} : ev (dctZ ma mb) g P X ↔ ev ma g (fun d g1 => ev mb g1 (fun e g2 => okO (match sqO d, sqO e with
  | some ds, some es => mkD [] (ds.zip es)
  | _, _ => none) fun dd => P dd g2) X) X := by simp [dctZ]
end Mi
/-! a, b, c = x, y, z of plain local names -/
namespace Mi
open PySem PySem.Spec PyProof.Rows L2
def par3S (i j l : Nat) (a b c : MM PyData) : Gm → Out := fun g => onE (bnd a (fun d => bnd b fun e => bnd c fun f => ret (d, e, f)) g) fun p g' => .nx (((g'.set i (.dat p.1)).set j (.dat p.2.1)).set l (.dat p.2.2))
@[simp ↓] theorem sv_par3S {i j l : Nat} {ma mb mc : MM PyData} {g : Gm} {PO : Out → Prop} : sv (par3S i j l ma mb mc) g PO ↔ ev ma g (fun d g1 => ev mb g1 (fun e g2 => ev mc g2 (fun f g3 => PO (.nx (((g3.set i (.dat d)).set j (.dat e)).set l (.dat f)))) fun c g' => PO (.ex c g')) fun c g' => PO (.ex c g')) fun c g' => PO (.ex c g') := by
  unfold sv par3S
  rw [sv_onE]
  simp
end Mi
/-! NAME[i] where the module's NAME is a dict of texts by ints -/
namespace Mi
open PySem PySem.Spec PyProof.Rows L2
inductive CdE : List DictEntry → List (Int × Str) → Prop
  | nil : CdE [] []
  | cons {h i : Int} {z : Str} {t u : Tok} {es : List DictEntry} {ps : List (Int × Str)} : (∀ w : World, h = NestedKey.hash w (.num i)) → CdE es ps → CdE (⟨h, .int i t, .str z u⟩ :: es) ((i, z) :: ps)
def ksC (ps : List (Int × Str)) : List NestedKey := ps.map fun p => .num p.1
theorem CdE.keys {w : World} {h : Heap} : ∀ {es : List DictEntry} {ps : List (Int × Str)}, CdE es ps → KeysAt w h es (ksC ps)
  | _, _, .nil => .nil
  | _, _, .cons hh t => .cons (.int _ _) (hh w) t.keys
theorem CdE.val {i : Int} {q : Int × Str} : ∀ {es : List DictEntry} {ps : List (Int × Str)}, CdE es ps → ps.find? (fun p => decide (p.1 = i)) = some q → ∃ (j : Nat) (e : DictEntry) (u : Tok), plc (ksC ps) (.num i) = some j ∧ es[j]? = some e ∧ e.val = .str q.2 u
  | _, _, .nil, h => by cases h
  | _, _, .cons (i := k) (z := z) (u := u) (es := es) (ps := ps) hh t, h => by
    rw [List.find?_cons] at h
    unfold ksC plc
    rw [List.map_cons, List.findIdx?_cons]
    by_cases e : k = i
    · subst e
      rw [show decide (((k, z) : Int × Str).1 = k) = true from decide_eq_true rfl] at h
      cases h
      exact ⟨0, _, u, by simp, rfl, rfl⟩
    · rw [show decide (((k, z) : Int × Str).1 = i) = false from decide_eq_false e] at h
      obtain ⟨j, en, u', h1, h2, h3⟩ := CdE.val t h
      refine ⟨j + 1, en, u', ?_, h2, h3⟩
      have ne : ¬ (NestedKey.num k = NestedKey.num i) := fun q => e (by injection q)
      have h1 : (ps.map fun p => NestedKey.num p.1).findIdx? (fun x => decide (x = NestedKey.num i)) = some j := h1
      simp only [decide_eq_false ne, h1]
      rfl
end Mi
/-! repr of a list or tuple of data -/
namespace Mi
open PySem PySem.Spec PyProof.Rows L2
end Mi
/-! defs that change their last parameter -/
namespace Mi
open PySem PySem.Spec PyProof.Rows L2
/-! calls -/
/-! what calls come to -/
end Mi
/-! tables of sets of up to 2048 places -/
namespace Tw
open PySem PySem.Spec PyProof.Rows L2
def MkW (m : Nat) : Prop := MaskOk m ∨ m = 511 ∨ m = 2047
def wit : List Nat := [0, 1, 326, 495, 412, 365, 2, 379, 376, 281, 254, 327, 404, 261, 58, 339, 496, 305, 438, 415, 140, 413, 370, 43, 360, 73, 366, 247, 132, 309, 426, 3, 480, 97, 38, 335, 380, 461, 226, 219, 344, 377, 478, 167, 372, 357, 282, 179, 464, 401, 150, 255, 108, 509, 82, 395, 328, 169, 78, 87, 100, 405, 138, 355, 448, 193, 262, 175, 348, 45, 450, 59, 312, 473, 190, 7, 340, 453, 506, 19, 432, 497, 374, 95, 76, 93, 306, 235, 296, 265, 302, 439, 68, 501, 362, 195, 416, 289, 486, 15, 316, 141, 162, 411, 280, 57, 414, 359, 308, 37, 218, 371, 400, 81, 86, 447, 44, 189, 18, 75, 264, 361, 14, 279, 36, 85, 74, 35, 384, 385, 198, 367, 284, 237, 386, 251, 248, 153, 126, 199, 276, 133, 442, 211, 368, 177, 310, 287, 12, 285, 242, 427, 232, 457, 238, 119, 4, 181, 298, 387, 352, 481, 422, 207, 252, 333, 98, 91, 216, 249, 350, 39, 244, 229, 154, 51, 336, 273, 22, 127, 492, 381, 466, 267, 200, 41, 462, 471, 484, 277, 10, 227, 320, 65, 134, 47, 220, 429, 322, 443, 184, 345, 62, 391, 212, 325, 378, 403, 304, 369, 246, 479, 460, 477, 178, 107, 168, 137, 174, 311, 452, 373, 234, 67, 288, 161, 358, 399, 188, 13, 34, 283, 152, 441, 286, 231, 180, 421, 90, 243, 272, 465, 470, 319, 428, 61, 402, 459, 136, 233, 398, 151, 420, 469, 458, 419, 256, 257, 70, 239, 156, 109, 258, 123, 120, 25, 510, 71, 148, 5, 314, 83, 240, 49, 182, 159, 396, 157, 114, 299, 104, 329, 110, 503, 388, 53, 170, 259, 224, 353, 294, 79, 124, 205, 482, 475, 88, 121, 222, 423, 116, 101, 26, 435, 208, 145, 406, 511, 364, 253, 338, 139, 72, 425, 334, 343, 356, 149, 394, 99, 192, 449, 6, 431, 92, 301, 194, 315, 56, 217, 446, 263, 84, 197, 250, 275, 176, 241, 118, 351, 332, 349, 50, 491, 40, 9, 46, 183, 324, 245, 106, 451, 160, 33, 230, 271, 60, 397, 418, 155, 24, 313, 158, 103, 52, 293, 474, 115, 144, 337, 342, 191, 300, 445, 274, 331, 8, 105, 270, 23, 292, 341, 330, 291, 128, 129, 454, 111, 28, 493, 130, 507, 504, 409, 382, 455, 20, 389, 186, 467, 112, 433, 54, 31, 268, 29, 498, 171, 488, 201, 494, 375, 260, 437, 42, 131, 96, 225, 166, 463, 508, 77, 354, 347, 472, 505, 94, 295, 500, 485, 410, 307, 80, 17, 278, 383, 236, 125, 210, 11, 456, 297, 206, 215, 228, 21, 266, 483, 64, 321, 390, 303, 476, 173, 66, 187, 440, 89, 318, 135, 468, 69, 122, 147, 48, 113, 502, 223, 204, 221, 434, 363, 424, 393, 430, 55, 196, 117, 490, 323, 32, 417, 102, 143, 444, 269, 290, 27, 408, 185, 30, 487, 436, 165, 346, 499, 16, 209, 214, 63, 172, 317, 146, 203, 392, 489, 142, 407, 164, 213, 202, 163]
theorem wit_ok : ((List.range 512).all fun j => decide (wit.getD j 0 ≤ 511) && (lcgN 511 (wit.getD j 0) == j)) = true := by decide +kernel
theorem round511 : lcgN 511 512 = 0 := by decide +kernel
def wit2 : List Nat := [0, 1, 1350, 2031, 412, 1389, 2, 1915, 888, 1305, 1790, 1351, 1428, 1797, 570, 339, 2032, 817, 438, 927, 652, 413, 1394, 1067, 1384, 585, 1390, 759, 132, 1333, 426, 3, 992, 609, 550, 847, 1916, 461, 1762, 1243, 856, 889, 2014, 1191, 1908, 1893, 1306, 691, 976, 1425, 1686, 1791, 108, 1533, 1106, 395, 1352, 169, 1614, 599, 612, 1429, 1162, 355, 1984, 1217, 1798, 1711, 1372, 1581, 1474, 571, 824, 473, 190, 1031, 340, 1989, 2042, 1043, 1968, 2033, 886, 607, 1612, 605, 818, 1771, 1320, 1801, 1838, 439, 1092, 1525, 1898, 707, 928, 1825, 998, 527, 828, 653, 1186, 1947, 792, 57, 414, 871, 820, 37, 730, 1395, 912, 593, 86, 1471, 1068, 1725, 530, 1099, 1288, 1385, 14, 279, 1572, 1621, 586, 1059, 1920, 385, 198, 1391, 284, 1773, 898, 1275, 760, 1689, 638, 711, 1300, 133, 1466, 1747, 1904, 1201, 1334, 287, 524, 797, 242, 427, 1256, 969, 238, 119, 4, 1717, 1322, 1411, 864, 993, 1446, 207, 1788, 845, 610, 603, 728, 1273, 862, 551, 1780, 229, 154, 51, 848, 1809, 534, 1151, 2028, 1917, 2002, 1803, 1224, 553, 462, 2007, 484, 1813, 10, 1763, 1856, 1601, 646, 1071, 1244, 1965, 322, 1979, 696, 857, 1086, 391, 212, 325, 890, 403, 1840, 369, 1782, 2015, 1484, 989, 1714, 1131, 1192, 137, 686, 1847, 964, 1909, 746, 67, 800, 161, 1894, 1935, 700, 1037, 34, 1307, 664, 441, 1310, 231, 692, 421, 1626, 755, 784, 977, 982, 831, 940, 61, 1426, 459, 1160, 1769, 910, 1687, 1444, 2005, 1482, 419, 1792, 769, 1094, 751, 156, 109, 1794, 635, 632, 25, 1534, 71, 1172, 517, 314, 1107, 1776, 1585, 182, 1695, 396, 1181, 1138, 1835, 1128, 1353, 1134, 1527, 1924, 53, 170, 771, 736, 1377, 294, 1615, 1660, 1229, 1506, 2011, 600, 1657, 1758, 1959, 1652, 613, 1050, 1459, 720, 145, 1430, 511, 1900, 253, 850, 1163, 1096, 937, 1358, 1367, 356, 149, 906, 1123, 1728, 1985, 1542, 431, 1116, 301, 1218, 1339, 568, 1241, 1982, 1799, 84, 709, 1786, 1811, 1712, 753, 630, 1375, 1356, 1373, 562, 491, 1064, 521, 1582, 1207, 836, 245, 1642, 1475, 672, 545, 742, 1295, 572, 1421, 930, 667, 536, 825, 158, 1639, 564, 805, 474, 115, 656, 1361, 1878, 191, 812, 445, 274, 1867, 1032, 105, 1806, 1047, 1316, 341, 330, 1827, 1664, 1153, 1990, 111, 28, 493, 642, 2043, 504, 409, 382, 1479, 1044, 901, 1210, 467, 1648, 1969, 1078, 1055, 268, 1565, 2034, 1195, 1000, 1737, 2030, 887, 1796, 437, 1066, 131, 608, 1761, 1190, 975, 1532, 1613, 354, 1371, 472, 2041, 606, 1319, 1524, 997, 1946, 819, 592, 529, 278, 1919, 1772, 637, 1746, 523, 968, 1321, 206, 727, 228, 533, 1802, 483, 1600, 321, 390, 1839, 988, 685, 66, 699, 440, 1625, 830, 1159, 2004, 1093, 634, 1171, 1584, 1137, 1526, 735, 1228, 1757, 1458, 1899, 936, 905, 430, 567, 708, 629, 490, 835, 544, 929, 1638, 655, 444, 1805, 1826, 27, 408, 1209, 1054, 999, 436, 1189, 1370, 1523, 528, 1745, 726, 1599, 684, 829, 1170, 1227, 904, 489, 654, 407, 1188, 725, 1226, 1187, 1536, 1537, 838, 1519, 1948, 877, 1538, 1403, 376, 793, 1278, 839, 916, 1285, 58, 1875, 1520, 305, 1974, 415, 140, 1949, 882, 555, 872, 73, 878, 247, 1668, 821, 1962, 1539, 480, 97, 38, 335, 1404, 1997, 1250, 731, 344, 377, 1502, 679, 1396, 1381, 794, 179, 464, 913, 1174, 1279, 1644, 1021, 594, 1931, 840, 1705, 1102, 87, 100, 917, 650, 1891, 1472, 705, 1286, 1199, 860, 1069, 962, 59, 312, 2009, 1726, 519, 1876, 1477, 1530, 531, 1456, 1521, 374, 95, 1100, 93, 306, 1259, 808, 1289, 1326, 1975, 580, 1013, 1386, 195, 416, 1313, 486, 15, 316, 141, 674, 1435, 280, 1593, 1950, 359, 308, 1573, 218, 883, 400, 81, 1622, 959, 556, 1213, 18, 587, 776, 873, 1550, 1815, 1060, 1109, 74, 547, 1408, 1921, 1734, 879, 1820, 1261, 386, 763, 248, 1177, 126, 199, 788, 1669, 954, 1235, 1392, 689, 822, 1823, 12, 285, 1778, 1963, 744, 457, 1774, 1655, 1540, 1205, 810, 899, 352, 481, 934, 1743, 1276, 333, 98, 91, 216, 761, 350, 39, 1268, 1765, 1690, 1587, 336, 1297, 22, 639, 1516, 1405, 1490, 1291, 712, 41, 1998, 1495, 2020, 1301, 1546, 1251, 1344, 1089, 134, 559, 732, 1453, 1858, 1467, 184, 345, 574, 1927, 1748, 1861, 378, 1939, 1328, 1905, 1270, 1503, 972, 477, 1202, 619, 680, 1673, 174, 1335, 452, 1397, 234, 1603, 288, 1697, 1382, 1423, 188, 525, 1570, 795, 152, 1977, 798, 1767, 180, 1957, 1114, 243, 272, 465, 470, 319, 428, 1597, 914, 1995, 648, 1257, 398, 1175, 932, 1493, 970, 1955, 1280, 257, 582, 239, 1692, 1645, 1282, 123, 120, 1561, 1022, 1607, 660, 5, 1850, 595, 1264, 1073, 1718, 1183, 1932, 669, 626, 1323, 616, 841, 622, 1015, 1412, 1589, 1706, 259, 224, 865, 1830, 1103, 1148, 717, 994, 1499, 88, 1145, 1246, 1447, 1140, 101, 538, 947, 208, 1681, 918, 2047, 1388, 1789, 338, 651, 584, 425, 846, 855, 1892, 1685, 394, 611, 1216, 1473, 1030, 1967, 604, 1837, 706, 827, 56, 729, 1470, 1287, 1620, 197, 1274, 1299, 1200, 241, 118, 863, 844, 861, 50, 2027, 552, 9, 1070, 695, 324, 1781, 1130, 963, 160, 33, 230, 783, 60, 909, 418, 155, 24, 313, 1694, 1127, 52, 293, 2010, 1651, 144, 849, 1366, 1727, 300, 1981, 1810, 1355, 520, 1641, 1294, 535, 804, 1877, 1866, 1315, 1152, 641, 1478, 1647, 1564, 2029, 130, 1531, 2040, 1945, 1918, 967, 532, 389, 698, 2003, 1136, 1457, 566, 543, 1804, 1053, 1522, 683, 488, 1225, 1518, 375, 1284, 1973, 554, 1667, 96, 1249, 678, 463, 1020, 1101, 1890, 859, 2008, 1529, 94, 807, 1012, 485, 1434, 307, 80, 17, 1814, 1407, 1260, 125, 1234, 11, 456, 809, 1742, 215, 1764, 21, 1290, 2019, 1088, 1857, 1926, 1327, 476, 173, 1602, 187, 1976, 1113, 318, 647, 1492, 581, 122, 659, 1072, 625, 1014, 223, 716, 1245, 946, 1387, 424, 393, 1966, 55, 196, 117, 2026, 323, 32, 417, 1126, 143, 1980, 1293, 1314, 1563, 1944, 697, 542, 487, 1972, 677, 858, 1011, 16, 1233, 214, 1087, 172, 317, 658, 715, 392, 2025, 142, 1943, 676, 213, 714, 675, 1024, 1025, 326, 1007, 1436, 365, 1026, 891, 1912, 281, 766, 327, 404, 773, 1594, 1363, 1008, 1841, 1462, 1951, 1676, 1437, 370, 43, 360, 1609, 366, 1783, 1156, 309, 1450, 1027, 2016, 1633, 1574, 1871, 892, 1485, 738, 219, 1880, 1913, 990, 167, 884, 869, 282, 1715, 2000, 401, 662, 767, 1132, 509, 82, 1419, 328, 1193, 590, 1623, 1636, 405, 138, 1379, 960, 193, 774, 687, 348, 557, 450, 1595, 1848, 1497, 1214, 7, 1364, 965, 1018, 19, 944, 1009, 1910, 1631, 588, 1629, 1842, 747, 296, 777, 814, 1463, 68, 501, 874, 1731, 1952, 801, 2022, 1551, 1852, 1677, 162, 923, 1816, 1081, 1438, 1895, 1844, 1061, 1754, 371, 1936, 1617, 1110, 447, 44, 701, 1554, 75, 264, 361, 1038, 1303, 548, 597, 1610, 35, 896, 1409, 1222, 367, 1308, 749, 1922, 251, 1784, 665, 1662, 1735, 276, 1157, 442, 723, 880, 177, 310, 1311, 1548, 1821, 1266, 1451, 232, 1993, 1262, 1143, 1028, 693, 298, 387, 1888, 2017, 422, 1231, 764, 1869, 1634, 1627, 1752, 249, 1886, 1575, 756, 1253, 1178, 1075, 1872, 785, 1558, 127, 1004, 893, 978, 779, 200, 1577, 1486, 983, 1508, 789, 1034, 739, 832, 577, 1670, 47, 220, 941, 1346, 955, 1720, 1881, 62, 1415, 1236, 1349, 1914, 1427, 816, 1393, 758, 991, 460, 2013, 690, 107, 168, 1161, 1710, 823, 1988, 885, 1770, 1091, 1824, 1185, 870, 911, 1724, 13, 1058, 283, 1688, 1465, 286, 1255, 1716, 1445, 602, 1779, 1808, 2001, 2006, 1855, 1964, 1085, 402, 1483, 136, 745, 1934, 663, 420, 981, 458, 1443, 768, 1793, 70, 1775, 1180, 1133, 770, 1659, 1656, 1049, 510, 1095, 148, 1541, 1338, 83, 752, 561, 1206, 671, 1420, 157, 114, 811, 104, 329, 110, 503, 900, 1077, 1194, 1795, 1760, 353, 1318, 591, 636, 205, 482, 987, 1624, 633, 734, 935, 628, 1637, 26, 435, 1744, 1169, 406, 1535, 876, 1277, 1874, 139, 72, 1961, 334, 343, 1380, 1173, 1930, 99, 704, 961, 518, 1455, 92, 1325, 194, 315, 1592, 217, 958, 775, 1108, 1733, 762, 787, 688, 1777, 1654, 351, 332, 349, 1586, 1515, 40, 1545, 558, 183, 1860, 1269, 618, 451, 1696, 1569, 1766, 271, 1596, 397, 1954, 1691, 1560, 1849, 1182, 615, 1588, 1829, 1498, 1139, 1680, 337, 854, 1215, 1836, 1469, 1298, 843, 8, 1129, 782, 23, 292, 1365, 1354, 803, 640, 129, 966, 1135, 1052, 1517, 1666, 1019, 1528, 1433, 1406, 455, 20, 1925, 186, 1491, 624, 945, 54, 31, 1292, 541, 1010, 171, 2024, 713, 1006, 1911, 772, 1461, 42, 1155, 1632, 737, 166, 1999, 508, 589, 1378, 347, 1496, 1017, 1630, 295, 500, 2021, 922, 1843, 1616, 1553, 1302, 895, 748, 1661, 722, 1547, 1992, 297, 1230, 1751, 1252, 1557, 778, 1507, 576, 1345, 1414, 815, 2012, 1709, 1090, 1723, 1464, 601, 1854, 135, 980, 69, 1658, 147, 560, 113, 502, 1759, 204, 733, 434, 875, 1960, 1929, 1454, 1591, 1732, 1653, 1514, 1859, 1568, 1953, 614, 1679, 1468, 781, 802, 1051, 1432, 185, 30, 2023, 1460, 165, 346, 499, 1552, 721, 1750, 575, 1708, 1853, 146, 203, 1928, 1513, 1678, 1431, 164, 1749, 202, 163, 512, 513, 1862, 495, 924, 1901, 514, 379, 1400, 1817, 254, 1863, 1940, 261, 1082, 851, 496, 1329, 950, 1439, 1164, 925, 1906, 1579, 1896, 1097, 1902, 1271, 644, 1845, 938, 515, 1504, 1121, 1062, 1359, 380, 973, 226, 1755, 1368, 1401, 478, 1703, 372, 357, 1818, 1203, 1488, 1937, 150, 255, 620, 2045, 1618, 907, 1864, 681, 78, 1111, 1124, 1941, 1674, 867, 448, 1729, 262, 175, 1884, 45, 1986, 1083, 1336, 985, 702, 1543, 852, 453, 506, 1555, 432, 497, 1398, 1119, 76, 1117, 1330, 235, 1832, 265, 302, 951, 1604, 2037, 362, 1219, 1440, 289, 1510, 1039, 1340, 1165, 1698, 411, 1304, 569, 926, 1383, 1332, 549, 1242, 1907, 1424, 1105, 598, 1983, 1580, 189, 1042, 1611, 1800, 1897, 526, 791, 36, 85, 1098, 1571, 384, 897, 710, 1903, 796, 237, 1410, 1787, 1272, 153, 1150, 1223, 1812, 645, 1978, 211, 368, 1713, 1846, 799, 1036, 1309, 754, 939, 1768, 1481, 750, 631, 516, 181, 1834, 1923, 1376, 1505, 1958, 719, 252, 1357, 1122, 1115, 1240, 1785, 1374, 1063, 244, 741, 666, 563, 1360, 273, 1046, 1663, 492, 381, 466, 267, 1736, 1065, 974, 471, 996, 277, 522, 227, 320, 65, 1158, 1583, 1756, 429, 834, 443, 1208, 1369, 1598, 903, 724, 837, 1402, 915, 304, 881, 246, 479, 1996, 1501, 178, 1643, 1704, 649, 1198, 311, 1476, 373, 1258, 579, 1312, 673, 358, 399, 1212, 1549, 546, 1819, 1176, 953, 1822, 743, 1204, 933, 90, 1267, 1296, 1489, 1494, 1343, 1452, 573, 1938, 971, 1672, 233, 1422, 151, 1956, 469, 1994, 931, 256, 1281, 1606, 1263, 668, 621, 258, 1147, 1144, 537, 2046, 583, 1684, 1029, 826, 1619, 240, 49, 694, 159, 908, 1693, 1650, 299, 1640, 1865, 1646, 2039, 388, 565, 682, 1283, 1248, 1889, 806, 79, 124, 1741, 2018, 475, 1112, 121, 222, 423, 116, 1125, 1562, 1971, 1232, 657, 1942, 1023, 364, 765, 1362, 1675, 1608, 1449, 1870, 1879, 868, 661, 1418, 1635, 192, 449, 6, 943, 1628, 813, 1730, 1851, 1080, 1753, 446, 263, 596, 1221, 250, 275, 176, 1265, 1142, 1887, 1868, 1885, 1074, 1003, 1576, 1033, 46, 1719, 1348, 757, 106, 1987, 1184, 1057, 1254, 1807, 1084, 1933, 1442, 1179, 1048, 1337, 670, 103, 1076, 1317, 986, 627, 1168, 1873, 342, 703, 1324, 957, 786, 331, 1544, 617, 270, 1559, 1828, 853, 842, 291, 128, 1665, 454, 623, 540, 1005, 1154, 507, 1016, 921, 894, 1991, 1556, 1413, 1722, 979, 112, 433, 1590, 1567, 780, 29, 498, 1707, 1512, 201, 494, 1399, 260, 949, 1578, 643, 1120, 225, 1702, 1487, 2044, 77, 866, 1883, 984, 505, 1118, 1831, 2036, 1509, 410, 1331, 1104, 1041, 790, 383, 236, 1149, 210, 1035, 1480, 1833, 718, 1239, 740, 1045, 266, 995, 64, 833, 902, 303, 1500, 1197, 578, 1211, 952, 89, 1342, 1671, 468, 1605, 1146, 1683, 48, 1649, 2038, 1247, 1740, 221, 1970, 363, 1448, 1417, 942, 1079, 1220, 1141, 1002, 1347, 1056, 1441, 102, 1167, 956, 269, 290, 539, 920, 1721, 1566, 1511, 948, 1701, 1882, 2035, 1040, 209, 1238, 63, 1196, 1341, 1682, 1739, 1416, 1001, 1166, 919, 1700, 1237, 1738, 1699]
/-- the start after n turns, told without turns -/
theorem lcg_form : ∀ n : Nat, lcgN 2047 n = (5 ^ n - 1) / 4 % 2048 ∧ 5 ^ n = 4 * ((5 ^ n - 1) / 4) + 1
  | 0 => ⟨rfl, rfl⟩
  | n + 1 => by
    obtain ⟨h, e⟩ := lcg_form n
    have h2 : lcgN 2047 (n + 1) = (lcgN 2047 n * 5 + 1) % (2047 + 1) := rfl
    rw [h2, h, Nat.pow_succ]
    generalize (5 ^ n - 1) / 4 = a at *
    rw [e]
    omega
theorem wit2_ok : (((List.range 2048).zip wit2).all fun q => decide (q.2 ≤ 2047) && ((5 ^ q.2 - 1) / 4 % 2048 == q.1)) = true := by decide +kernel
theorem wit2_len : wit2.length = 2048 := by decide +kernel
theorem round2047 : lcgN 2047 2048 = 0 := by
  rw [(lcg_form 2048).1]
  decide +kernel
theorem lcg_w {m : Nat} (hm : MkW m) {j : Nat} (hj : j ≤ m) : ∃ b, b ≤ m ∧ lcgN m b = j := by
  rcases hm with hm | rfl | rfl
  · exact lcg_all hm hj
  · have h := List.all_eq_true.mp wit_ok j (List.mem_range.mpr (by omega))
    rw [Bool.and_eq_true, decide_eq_true_eq, beq_iff_eq] at h
    exact ⟨_, h.1, h.2⟩
  · have hl : j < ((List.range 2048).zip wit2).length := by
      rw [List.length_zip, List.length_range, wit2_len]
      omega
    have h := List.all_eq_true.mp wit2_ok _ (List.getElem_mem hl)
    rw [Bool.and_eq_true, decide_eq_true_eq, beq_iff_eq, List.getElem_zip, List.getElem_range] at h
    exact ⟨_, h.1, by rw [(lcg_form _).1]; exact h.2⟩
theorem mod_w {m : Nat} (hm : MkW m) (k : Nat) : lcgN m (m + 1 + k) = lcgN m k := by
  rcases hm with hm | rfl | rfl
  · exact lcgN_mod hm k
  · induction k with
    | zero => exact round511
    | succ k ih =>
      show (lcgN 511 (511 + 1 + k) * 5 + 1) % (511 + 1) = (lcgN 511 k * 5 + 1) % (511 + 1)
      rw [ih]
  · induction k with
    | zero => exact round2047
    | succ k ih =>
      show (lcgN 2047 (2047 + 1 + k) * 5 + 1) % (2047 + 1) = (lcgN 2047 k * 5 + 1) % (2047 + 1)
      rw [ih]
/-- every start of a run is met soon -/
theorem meets {m : Nat} (hm : MkW m) (h : Int) {j : Nat} (hj : j ≤ m) : ∃ n, n ≤ m + 12 ∧ runI m (SetTable.bits h) n = j := by
  obtain ⟨a, ha, ea⟩ := lcg_w hm (runI_le m (SetTable.bits h) 12)
  obtain ⟨b, hb, eb⟩ := lcg_w hm hj
  have far : ∀ k, runI m (SetTable.bits h) (12 + k) = lcgN m (a + k) := fun k => by rw [runI_tail (bits_lt h), ← ea, lcgN_add]
  by_cases c : a ≤ b
  · refine ⟨12 + (b - a), by omega, ?_⟩
    rw [far, show a + (b - a) = b by omega, eb]
  · refine ⟨12 + (m + 1 + b - a), by omega, ?_⟩
    rw [far, show a + (m + 1 + b - a) = m + 1 + b by omega, mod_w hm, eb]
theorem wayle {m : Nat} {h : Int} {k : Nat} : way m h k ≤ m := by
  have hi : SetTable.bits h % (m + 1) ≤ m := Nat.le_of_lt_succ (Nat.mod_lt _ (Nat.succ_pos m))
  have r := runEnd_bd hi
  have q := nth_in (m := m) k (runAt m (SetTable.bits h % (m + 1)) (SetTable.bits h)) (by
    show SetTable.bits h % (m + 1) + (SetTable.runEnd m (SetTable.bits h % (m + 1)) - SetTable.bits h % (m + 1)) ≤ m
    omega)
  exact Nat.le_trans (Nat.le_add_right _ _) q
/-- a table of which each entry is found again -/
structure TabW (t : SetTable) (hs : List Int) : Prop where
  ris : Ris t.place.toList
  dm : t.dummies = #[]
  sz : t.place.size = hs.length
  mok : MkW t.mask
  bd : ∀ x ∈ t.place.toList, x ≤ t.mask
  reach : ∀ (i : Nat) (h : Int) (j : Nat), hs[i]? = some h → t.place.toList[i]? = some j → ∃ k, way t.mask h k = j ∧ ∀ k', k' < k → way t.mask h k' ∈ t.place.toList
theorem odd_w {m : Nat} (h : MkW m) : m % 2 = 1 := by
  rcases h with h | rfl | rfl
  · exact mask_odd h
  · rfl
  · rfl
section
variable {t : SetTable} {hs : List Int}
theorem TabW.first (T : TabW t hs) (hl : hs.length ≤ t.mask) (h : Int) : ∃ K, K < 10 * SetTable.turns t.mask ∧ way t.mask h K ∉ t.place.toList ∧ ∀ k, k < K → way t.mask h k ∈ t.place.toList := by
  obtain ⟨j, hj, hn⟩ := st_missing t.place.toList (t.mask + 1) (by rw [Array.length_toList, T.sz]; omega)
  obtain ⟨n, hn2, e⟩ := meets T.mok h (j := j) (by omega)
  obtain ⟨k, hk, e2⟩ := run_nth t.mask (SetTable.bits h) n
  have ek : way t.mask h k = j := by
    show (nth t.mask (runAt t.mask (SetTable.bits h % (t.mask + 1)) (SetTable.bits h)) k).j = j
    rw [e2]
    exact e
  obtain ⟨K, h1, h2, h3⟩ := st_least (p := fun k => way t.mask h k ∉ t.place.toList) k (by show ¬ _; rw [ek]; exact hn)
  exact ⟨K, by unfold SetTable.turns; omega, h2, fun k' hk' => Decidable.not_not.mp (h3 k' hk')⟩
theorem TabW.before (T : TabW t hs) {h : Int} {K i j : Nat} (hK : way t.mask h K ∉ t.place.toList) (hi : hs[i]? = some h) (hj : t.place.toList[i]? = some j) : ∃ k, k < K ∧ way t.mask h k = j := by
  obtain ⟨k, e, hb⟩ := T.reach i h j hi hj
  refine ⟨k, Nat.lt_of_not_le fun c => ?_, e⟩
  rcases Nat.lt_or_eq_of_le c with c | rfl
  · exact hK (hb K c)
  · rw [e] at hK
    exact hK (List.mem_of_getElem? hj)
theorem TabW.put (T : TabW t hs) {h : Int} {K : Nat} (hK : way t.mask h K ∉ t.place.toList) (hb : ∀ k, k < K → way t.mask h k ∈ t.place.toList) :
    (t.put (way t.mask h K)).2 = SetTable.below t.place (way t.mask h K) ∧ SetTable.below t.place (way t.mask h K) ≤ hs.length ∧
    TabW (t.put (way t.mask h K)).1 (hs.take (SetTable.below t.place (way t.mask h K)) ++ h :: hs.drop (SetTable.below t.place (way t.mask h K))) ∧
    (t.put (way t.mask h K)).1.mask = t.mask ∧ (t.put (way t.mask h K)).1.led = t.led ∧ (t.put (way t.mask h K)).1.fill = hs.length + 1 := by
  have hjm : way t.mask h K ≤ t.mask := wayle
  obtain ⟨j, hj⟩ : ∃ j, way t.mask h K = j := ⟨_, rfl⟩
  rw [hj] at hK hjm ⊢
  have hpz : SetTable.below t.place j ≤ t.place.size := (below_cut T.ris j).1
  have hpl : SetTable.below t.place j ≤ t.place.toList.length := hpz
  have hph : SetTable.below t.place j ≤ hs.length := T.sz ▸ hpz
  have hsz : t.place.toList.length = hs.length := T.sz
  have hpp := put_place t j
  have hsize : (t.put j).1.place.size = hs.length + 1 := by
    have := congrArg List.length hpp
    rw [len_ins _ hpl, hsz] at this
    exact this
  have up : ∀ x, x ∈ t.place.toList → x ∈ (t.put j).1.place.toList := fun x hx => by rw [hpp]; exact mem_ins.2 (.inr hx)
  refine ⟨rfl, hph, ⟨ris_insert T.ris fun e => hK (List.mem_of_getElem? (by rw [Array.getElem?_toList]; exact e)), put_dm T.dm j, by rw [len_ins _ hph]; exact hsize, T.mok, fun x hx => ?_, fun i g y h1 h2 => ?_⟩, rfl, rfl, ?_⟩
  · rw [hpp] at hx
    exact (mem_ins.1 hx).elim (fun z => z ▸ hjm) (T.bd x)
  · rw [tins_get hs hph] at h1
    rw [hpp, tins_get _ hpl] at h2
    have old : ∀ i, hs[i]? = some g → t.place.toList[i]? = some y → ∃ k, way t.mask g k = y ∧ ∀ k', k' < k → way t.mask g k' ∈ (t.put j).1.place.toList := fun i a b => by
      obtain ⟨k, e, z⟩ := T.reach i g y a b
      exact ⟨k, e, fun k' hk' => up _ (z k' hk')⟩
    show ∃ k, way t.mask g k = y ∧ ∀ k', k' < k → way t.mask g k' ∈ (t.put j).1.place.toList
    split at h1
    · rename_i c
      rw [if_pos c] at h2
      exact old i h1 h2
    · rename_i c
      rw [if_neg c] at h2
      split at h1
      · rename_i c2
        rw [if_pos c2] at h2
        cases h1
        cases h2
        exact ⟨K, hj, fun k' hk' => up _ (hb k' hk')⟩
      · rename_i c2
        rw [if_neg c2] at h2
        exact old (i - 1) h1 h2
  · show (t.put j).1.place.size + (t.put j).1.dummies.size = hs.length + 1
    rw [hsize, put_dm T.dm j]
    rfl
end
/-! laid anew -/
end Tw
namespace Tw
open PySem PySem.Spec PyProof.Rows L2 Mi Tn
/-! the set -/
structure SN (w : World) (h : Heap) (a : Addr) (L : List NE) (es : Array (Int × Value)) (ep : Nat) (t : SetTable) : Prop where
  ob : ∃ o, h.get? a = some o ∧ o.ExactSet ∧ o.data = .set es ep t
  rows : es.toList = rws w L
  tab : TabW t (L.map (hsh w))
  nd : (L.map (·.2)).Nodup
  el : ∀ p ∈ L, El h p
  led : w.params.followText "set-order" = true ∨ t.led = true
  room : L.length * 5 < t.mask * 3
  few : L.length < 1200
section
variable {w : World} {h : Heap} {a : Addr} {L : List NE} {es : Array (Int × Value)} {ep : Nat} {t : SetTable}
theorem SN.size (R : SN w h a L es ep t) : es.size = L.length := by
  have q := congrArg List.length R.rows
  simpa [rws] using q
theorem SN.fits (R : SN w h a L es ep t) : t.fits es.size = true := by
  have h1 := R.tab.sz
  rw [List.length_map] at h1
  have h2 := R.size
  have h3 := R.room
  simp only [SetTable.fits, SetTable.fill, R.tab.dm, Bool.and_eq_true, beq_iff_eq, decide_eq_true_eq]
  refine ⟨by omega, ?_⟩
  show t.place.size + 0 ≤ t.mask
  omega
theorem SN.entry (R : SN w h a L es ep t) {i : Nat} {p : NE} (q : L[i]? = some p) : es[i]? = some (hsh w p, Value.ref p.1) := by
  rw [← Array.getElem?_toList, R.rows, rws, List.getElem?_map, q]
  rfl
theorem SN.even (R : SN w h a L es ep t) : ¬ t.gaveWay = true := by
  simp only [SetTable.gaveWay, odd_w R.tab.mok]
  decide
end
end Tw
namespace Tw
open PySem PySem.Spec PyProof.Rows L2 Mi Tn
theorem SN.keep {w : World} {h h' : Heap} {a : Addr} {L : List NE} {es : Array (Int × Value)} {ep : Nat} {t : SetTable} (R : SN w h a L es ep t) (ha : ∀ o, h.get? a = some o → h'.get? a = some o) (he : ∀ p ∈ L, El h' p) : SN w h' a L es ep t := by
  obtain ⟨o, ho, r⟩ := R.ob
  exact ⟨⟨o, ha o ho, r⟩, R.rows, R.tab, R.nd, he, R.led, R.room, R.few⟩
end Tw
namespace Mi
open PySem PySem.Spec PyProof.Rows L2
end Mi
/-! d.update(e): an own dict, a dict of data; the own one is not empty, or the other one is -/
namespace Mi
open PySem PySem.Spec PyProof.Rows L2
open PySem.Sem (wp)
/-- rows of whole numbers, and their hash -/
def itsX : List PyData → Option (List Int)
  | [] => some []
  | .int i :: ds => match itsX ds with
    | some is => some (i :: is)
    | none => none
  | _ => none
def intR : PyData → Option (List Int)
  | .tuple ds => itsX ds
  | _ => none
def rwH (is : List Int) : Int := reduceHash (Builtin.Tuple.tupleHashOf (is.map hashInt))
def hI (d : PyData) : Int := match intR d with
  | some is => rwH is
  | none => 0
end Mi
/-! None in a dict of rows -/
namespace Mi
open PySem PySem.Spec PyProof.Rows L2
open PySem.Sem (wp)
end Mi
/-! max and min of lists and tuples of whole numbers, abs, max and min of two, list(d.values()) -/
namespace Mi
open PySem PySem.Spec PyProof.Rows L2
def absD : PyData → Option PyData
  | .int i => some (.int (if i < 0 then -i else i))
  | _ => none
def max2D : List PyData → Option PyData
  | [.int i, .int j] => some (.int (if j > i then j else i))
  | _ => none
def min2D : List PyData → Option PyData
  | [.int i, .int j] => some (.int (if j < i then j else i))
  | _ => none
@[simp ↓] theorem abs_int {i : Int} {P : PyData → Prop} : okO (absD (.int i)) P ↔ P (.int (if i < 0 then -i else i)) := Iff.rfl
@[simp ↓] theorem max2_int {i j : Int} {P : PyData → Prop} : okO (max2D [.int i, .int j]) P ↔ P (.int (if j > i then j else i)) := Iff.rfl
@[simp ↓] theorem min2_int {i j : Int} {P : PyData → Prop} : okO (min2D [.int i, .int j]) P ↔ P (.int (if j < i then j else i)) := Iff.rfl
/-! list(d.values()) -/
end Mi
/-! slots from 14 on; x += e -/
namespace Mi
open PySem L2
/-- the data at slot i, not owned -/
def datO (g : Gm) (i : Nat) (k : PyData → Prop) : Prop := match g[i]? with
  | some (.dat d) => k d
  | _ => False
section
variable {α : Type} {g : Gm} {l : Gm} {X : String → Gm → Prop} {ma mb : MM PyData} {mas : MM (List PyData)} {Q : PyData → Gm → Prop} {PO : Out → Prop} {d e : PyData} {t : Bool} {k : Bool → PyData → Prop} {kd : PyData → Prop}
@[simp ↓] theorem sv_augS {f : PyData → PyData → Option PyData} {i : Nat} : sv (augS f i ma) g PO ↔ datO g i fun d => ev ma g (fun e g' => okO (f d e) fun z => PO (.nx (g'.set i (.dat z)))) fun c g' => PO (.ex c g') := by
  unfold sv augS datO
  generalize g[i]? = s
  rcases s with _ | (_ | d | ⟨t, d⟩)
  · exact Iff.rfl
  · exact Iff.rfl
  · show svO (onE (bnd ma (fun e => lft (f d e)) g) _) PO ↔ _
    rw [sv_onE, ev_bnd]
    refine iff_of_eq (congrArg (fun h => ev ma g h _) ?_)
    funext e g'
    refine propext ?_
    unfold ev lft okE okO
    cases f d e <;> exact Iff.rfl
  · exact Iff.rfl
@[simp ↓] theorem dat_0 : datO (.dat d :: l) 0 kd ↔ kd d := Iff.rfl
@[simp ↓] theorem dat_1 {s0 : Sl} : datO (s0 :: .dat d :: l) 1 kd ↔ kd d := Iff.rfl
@[simp ↓] theorem dat_2 {s0 s1 : Sl} : datO (s0 :: s1 :: .dat d :: l) 2 kd ↔ kd d := Iff.rfl
@[simp ↓] theorem dat_3 {s0 s1 s2 : Sl} : datO (s0 :: s1 :: s2 :: .dat d :: l) 3 kd ↔ kd d := Iff.rfl
@[simp ↓] theorem dat_4 {s0 s1 s2 s3 : Sl} : datO (s0 :: s1 :: s2 :: s3 :: .dat d :: l) 4 kd ↔ kd d := Iff.rfl
@[simp ↓] theorem dat_5 {s0 s1 s2 s3 s4 : Sl} : datO (s0 :: s1 :: s2 :: s3 :: s4 :: .dat d :: l) 5 kd ↔ kd d := Iff.rfl
@[simp ↓] theorem dat_6 {s0 s1 s2 s3 s4 s5 : Sl} : datO (s0 :: s1 :: s2 :: s3 :: s4 :: s5 :: .dat d :: l) 6 kd ↔ kd d := Iff.rfl
@[simp ↓] theorem dat_7 {s0 s1 s2 s3 s4 s5 s6 : Sl} : datO (s0 :: s1 :: s2 :: s3 :: s4 :: s5 :: s6 :: .dat d :: l) 7 kd ↔ kd d := Iff.rfl
@[simp ↓] theorem dat_8 {s0 s1 s2 s3 s4 s5 s6 s7 : Sl} : datO (s0 :: s1 :: s2 :: s3 :: s4 :: s5 :: s6 :: s7 :: .dat d :: l) 8 kd ↔ kd d := Iff.rfl
@[simp ↓] theorem dat_9 {s0 s1 s2 s3 s4 s5 s6 s7 s8 : Sl} : datO (s0 :: s1 :: s2 :: s3 :: s4 :: s5 :: s6 :: s7 :: s8 :: .dat d :: l) 9 kd ↔ kd d := Iff.rfl
@[simp ↓] theorem dat_10 {s0 s1 s2 s3 s4 s5 s6 s7 s8 s9 : Sl} : datO (s0 :: s1 :: s2 :: s3 :: s4 :: s5 :: s6 :: s7 :: s8 :: s9 :: .dat d :: l) 10 kd ↔ kd d := Iff.rfl
@[simp ↓] theorem dat_11 {s0 s1 s2 s3 s4 s5 s6 s7 s8 s9 s10 : Sl} : datO (s0 :: s1 :: s2 :: s3 :: s4 :: s5 :: s6 :: s7 :: s8 :: s9 :: s10 :: .dat d :: l) 11 kd ↔ kd d := Iff.rfl
@[simp ↓] theorem dat_12 {s0 s1 s2 s3 s4 s5 s6 s7 s8 s9 s10 s11 : Sl} : datO (s0 :: s1 :: s2 :: s3 :: s4 :: s5 :: s6 :: s7 :: s8 :: s9 :: s10 :: s11 :: .dat d :: l) 12 kd ↔ kd d := Iff.rfl
@[simp ↓] theorem dat_13 {s0 s1 s2 s3 s4 s5 s6 s7 s8 s9 s10 s11 s12 : Sl} : datO (s0 :: s1 :: s2 :: s3 :: s4 :: s5 :: s6 :: s7 :: s8 :: s9 :: s10 :: s11 :: s12 :: .dat d :: l) 13 kd ↔ kd d := Iff.rfl
@[simp ↓] theorem dat_14 {s0 s1 s2 s3 s4 s5 s6 s7 s8 s9 s10 s11 s12 s13 : Sl} : datO (s0 :: s1 :: s2 :: s3 :: s4 :: s5 :: s6 :: s7 :: s8 :: s9 :: s10 :: s11 :: s12 :: s13 :: .dat d :: l) 14 kd ↔ kd d := Iff.rfl
@[simp ↓] theorem ev_rd_14_d {s0 s1 s2 s3 s4 s5 s6 s7 s8 s9 s10 s11 s12 s13 : Sl} : ev (rdV 14) (s0 :: s1 :: s2 :: s3 :: s4 :: s5 :: s6 :: s7 :: s8 :: s9 :: s10 :: s11 :: s12 :: s13 :: .dat d :: l) Q X ↔ Q d (s0 :: s1 :: s2 :: s3 :: s4 :: s5 :: s6 :: s7 :: s8 :: s9 :: s10 :: s11 :: s12 :: s13 :: .dat d :: l) := Iff.rfl
@[simp ↓] theorem ev_rd_14_o {s0 s1 s2 s3 s4 s5 s6 s7 s8 s9 s10 s11 s12 s13 : Sl} : ev (rdV 14) (s0 :: s1 :: s2 :: s3 :: s4 :: s5 :: s6 :: s7 :: s8 :: s9 :: s10 :: s11 :: s12 :: s13 :: .own t d :: l) Q X ↔ Q d (s0 :: s1 :: s2 :: s3 :: s4 :: s5 :: s6 :: s7 :: s8 :: s9 :: s10 :: s11 :: s12 :: s13 :: .dat d :: l) := Iff.rfl
@[simp ↓] theorem ev_pk_14_d {s0 s1 s2 s3 s4 s5 s6 s7 s8 s9 s10 s11 s12 s13 : Sl} : ev (pkV 14) (s0 :: s1 :: s2 :: s3 :: s4 :: s5 :: s6 :: s7 :: s8 :: s9 :: s10 :: s11 :: s12 :: s13 :: .dat d :: l) Q X ↔ Q d (s0 :: s1 :: s2 :: s3 :: s4 :: s5 :: s6 :: s7 :: s8 :: s9 :: s10 :: s11 :: s12 :: s13 :: .dat d :: l) := Iff.rfl
@[simp ↓] theorem ev_pk_14_o {s0 s1 s2 s3 s4 s5 s6 s7 s8 s9 s10 s11 s12 s13 : Sl} : ev (pkV 14) (s0 :: s1 :: s2 :: s3 :: s4 :: s5 :: s6 :: s7 :: s8 :: s9 :: s10 :: s11 :: s12 :: s13 :: .own t d :: l) Q X ↔ Q d (s0 :: s1 :: s2 :: s3 :: s4 :: s5 :: s6 :: s7 :: s8 :: s9 :: s10 :: s11 :: s12 :: s13 :: .own t d :: l) := Iff.rfl
@[simp ↓] theorem at_14 {s0 s1 s2 s3 s4 s5 s6 s7 s8 s9 s10 s11 s12 s13 : Sl} : atO (s0 :: s1 :: s2 :: s3 :: s4 :: s5 :: s6 :: s7 :: s8 :: s9 :: s10 :: s11 :: s12 :: s13 :: .own t d :: l) 14 k ↔ k t d := Iff.rfl
@[simp ↓] theorem ev_set_14 {P : α → Gm → Prop} {m : MM α} {x : Sl} {s0 s1 s2 s3 s4 s5 s6 s7 s8 s9 s10 s11 s12 s13 s14 : Sl} : ev m (List.set (s0 :: s1 :: s2 :: s3 :: s4 :: s5 :: s6 :: s7 :: s8 :: s9 :: s10 :: s11 :: s12 :: s13 :: s14 :: l) 14 x) P X ↔ ev m (s0 :: s1 :: s2 :: s3 :: s4 :: s5 :: s6 :: s7 :: s8 :: s9 :: s10 :: s11 :: s12 :: s13 :: x :: l) P X := Iff.rfl
@[simp ↓] theorem sv_set_14 {b : Gm → Out} {x : Sl} {s0 s1 s2 s3 s4 s5 s6 s7 s8 s9 s10 s11 s12 s13 s14 : Sl} : sv b (List.set (s0 :: s1 :: s2 :: s3 :: s4 :: s5 :: s6 :: s7 :: s8 :: s9 :: s10 :: s11 :: s12 :: s13 :: s14 :: l) 14 x) PO ↔ sv b (s0 :: s1 :: s2 :: s3 :: s4 :: s5 :: s6 :: s7 :: s8 :: s9 :: s10 :: s11 :: s12 :: s13 :: x :: l) PO := Iff.rfl
@[simp ↓] theorem at_set_14 {x : Sl} {s0 s1 s2 s3 s4 s5 s6 s7 s8 s9 s10 s11 s12 s13 s14 : Sl} {j : Nat} : atO (List.set (s0 :: s1 :: s2 :: s3 :: s4 :: s5 :: s6 :: s7 :: s8 :: s9 :: s10 :: s11 :: s12 :: s13 :: s14 :: l) 14 x) j k ↔ atO (s0 :: s1 :: s2 :: s3 :: s4 :: s5 :: s6 :: s7 :: s8 :: s9 :: s10 :: s11 :: s12 :: s13 :: x :: l) j k := Iff.rfl
@[simp ↓] theorem for_set_14 {bt : PyData → Gm → Option Gm} {b : Gm → Out} {ds : List PyData} {x : Sl} {s0 s1 s2 s3 s4 s5 s6 s7 s8 s9 s10 s11 s12 s13 s14 : Sl} : svO (forL bt b ds (List.set (s0 :: s1 :: s2 :: s3 :: s4 :: s5 :: s6 :: s7 :: s8 :: s9 :: s10 :: s11 :: s12 :: s13 :: s14 :: l) 14 x)) PO ↔ svO (forL bt b ds (s0 :: s1 :: s2 :: s3 :: s4 :: s5 :: s6 :: s7 :: s8 :: s9 :: s10 :: s11 :: s12 :: s13 :: x :: l)) PO := Iff.rfl
@[simp ↓] theorem dat_15 {s0 s1 s2 s3 s4 s5 s6 s7 s8 s9 s10 s11 s12 s13 s14 : Sl} : datO (s0 :: s1 :: s2 :: s3 :: s4 :: s5 :: s6 :: s7 :: s8 :: s9 :: s10 :: s11 :: s12 :: s13 :: s14 :: .dat d :: l) 15 kd ↔ kd d := Iff.rfl
@[simp ↓] theorem ev_rd_15_d {s0 s1 s2 s3 s4 s5 s6 s7 s8 s9 s10 s11 s12 s13 s14 : Sl} : ev (rdV 15) (s0 :: s1 :: s2 :: s3 :: s4 :: s5 :: s6 :: s7 :: s8 :: s9 :: s10 :: s11 :: s12 :: s13 :: s14 :: .dat d :: l) Q X ↔ Q d (s0 :: s1 :: s2 :: s3 :: s4 :: s5 :: s6 :: s7 :: s8 :: s9 :: s10 :: s11 :: s12 :: s13 :: s14 :: .dat d :: l) := Iff.rfl
@[simp ↓] theorem ev_rd_15_o {s0 s1 s2 s3 s4 s5 s6 s7 s8 s9 s10 s11 s12 s13 s14 : Sl} : ev (rdV 15) (s0 :: s1 :: s2 :: s3 :: s4 :: s5 :: s6 :: s7 :: s8 :: s9 :: s10 :: s11 :: s12 :: s13 :: s14 :: .own t d :: l) Q X ↔ Q d (s0 :: s1 :: s2 :: s3 :: s4 :: s5 :: s6 :: s7 :: s8 :: s9 :: s10 :: s11 :: s12 :: s13 :: s14 :: .dat d :: l) := Iff.rfl
@[simp ↓] theorem ev_pk_15_d {s0 s1 s2 s3 s4 s5 s6 s7 s8 s9 s10 s11 s12 s13 s14 : Sl} : ev (pkV 15) (s0 :: s1 :: s2 :: s3 :: s4 :: s5 :: s6 :: s7 :: s8 :: s9 :: s10 :: s11 :: s12 :: s13 :: s14 :: .dat d :: l) Q X ↔ Q d (s0 :: s1 :: s2 :: s3 :: s4 :: s5 :: s6 :: s7 :: s8 :: s9 :: s10 :: s11 :: s12 :: s13 :: s14 :: .dat d :: l) := Iff.rfl
@[simp ↓] theorem ev_pk_15_o {s0 s1 s2 s3 s4 s5 s6 s7 s8 s9 s10 s11 s12 s13 s14 : Sl} : ev (pkV 15) (s0 :: s1 :: s2 :: s3 :: s4 :: s5 :: s6 :: s7 :: s8 :: s9 :: s10 :: s11 :: s12 :: s13 :: s14 :: .own t d :: l) Q X ↔ Q d (s0 :: s1 :: s2 :: s3 :: s4 :: s5 :: s6 :: s7 :: s8 :: s9 :: s10 :: s11 :: s12 :: s13 :: s14 :: .own t d :: l) := Iff.rfl
@[simp ↓] theorem at_15 {s0 s1 s2 s3 s4 s5 s6 s7 s8 s9 s10 s11 s12 s13 s14 : Sl} : atO (s0 :: s1 :: s2 :: s3 :: s4 :: s5 :: s6 :: s7 :: s8 :: s9 :: s10 :: s11 :: s12 :: s13 :: s14 :: .own t d :: l) 15 k ↔ k t d := Iff.rfl
@[simp ↓] theorem ev_set_15 {P : α → Gm → Prop} {m : MM α} {x : Sl} {s0 s1 s2 s3 s4 s5 s6 s7 s8 s9 s10 s11 s12 s13 s14 s15 : Sl} : ev m (List.set (s0 :: s1 :: s2 :: s3 :: s4 :: s5 :: s6 :: s7 :: s8 :: s9 :: s10 :: s11 :: s12 :: s13 :: s14 :: s15 :: l) 15 x) P X ↔ ev m (s0 :: s1 :: s2 :: s3 :: s4 :: s5 :: s6 :: s7 :: s8 :: s9 :: s10 :: s11 :: s12 :: s13 :: s14 :: x :: l) P X := Iff.rfl
@[simp ↓] theorem sv_set_15 {b : Gm → Out} {x : Sl} {s0 s1 s2 s3 s4 s5 s6 s7 s8 s9 s10 s11 s12 s13 s14 s15 : Sl} : sv b (List.set (s0 :: s1 :: s2 :: s3 :: s4 :: s5 :: s6 :: s7 :: s8 :: s9 :: s10 :: s11 :: s12 :: s13 :: s14 :: s15 :: l) 15 x) PO ↔ sv b (s0 :: s1 :: s2 :: s3 :: s4 :: s5 :: s6 :: s7 :: s8 :: s9 :: s10 :: s11 :: s12 :: s13 :: s14 :: x :: l) PO := Iff.rfl
@[simp ↓] theorem at_set_15 {x : Sl} {s0 s1 s2 s3 s4 s5 s6 s7 s8 s9 s10 s11 s12 s13 s14 s15 : Sl} {j : Nat} : atO (List.set (s0 :: s1 :: s2 :: s3 :: s4 :: s5 :: s6 :: s7 :: s8 :: s9 :: s10 :: s11 :: s12 :: s13 :: s14 :: s15 :: l) 15 x) j k ↔ atO (s0 :: s1 :: s2 :: s3 :: s4 :: s5 :: s6 :: s7 :: s8 :: s9 :: s10 :: s11 :: s12 :: s13 :: s14 :: x :: l) j k := Iff.rfl
@[simp ↓] theorem for_set_15 {bt : PyData → Gm → Option Gm} {b : Gm → Out} {ds : List PyData} {x : Sl} {s0 s1 s2 s3 s4 s5 s6 s7 s8 s9 s10 s11 s12 s13 s14 s15 : Sl} : svO (forL bt b ds (List.set (s0 :: s1 :: s2 :: s3 :: s4 :: s5 :: s6 :: s7 :: s8 :: s9 :: s10 :: s11 :: s12 :: s13 :: s14 :: s15 :: l) 15 x)) PO ↔ svO (forL bt b ds (s0 :: s1 :: s2 :: s3 :: s4 :: s5 :: s6 :: s7 :: s8 :: s9 :: s10 :: s11 :: s12 :: s13 :: s14 :: x :: l)) PO := Iff.rfl
@[simp ↓] theorem dat_16 {s0 s1 s2 s3 s4 s5 s6 s7 s8 s9 s10 s11 s12 s13 s14 s15 : Sl} : datO (s0 :: s1 :: s2 :: s3 :: s4 :: s5 :: s6 :: s7 :: s8 :: s9 :: s10 :: s11 :: s12 :: s13 :: s14 :: s15 :: .dat d :: l) 16 kd ↔ kd d := Iff.rfl
@[simp ↓] theorem ev_rd_16_d {s0 s1 s2 s3 s4 s5 s6 s7 s8 s9 s10 s11 s12 s13 s14 s15 : Sl} : ev (rdV 16) (s0 :: s1 :: s2 :: s3 :: s4 :: s5 :: s6 :: s7 :: s8 :: s9 :: s10 :: s11 :: s12 :: s13 :: s14 :: s15 :: .dat d :: l) Q X ↔ Q d (s0 :: s1 :: s2 :: s3 :: s4 :: s5 :: s6 :: s7 :: s8 :: s9 :: s10 :: s11 :: s12 :: s13 :: s14 :: s15 :: .dat d :: l) := Iff.rfl
@[simp ↓] theorem ev_rd_16_o {s0 s1 s2 s3 s4 s5 s6 s7 s8 s9 s10 s11 s12 s13 s14 s15 : Sl} : ev (rdV 16) (s0 :: s1 :: s2 :: s3 :: s4 :: s5 :: s6 :: s7 :: s8 :: s9 :: s10 :: s11 :: s12 :: s13 :: s14 :: s15 :: .own t d :: l) Q X ↔ Q d (s0 :: s1 :: s2 :: s3 :: s4 :: s5 :: s6 :: s7 :: s8 :: s9 :: s10 :: s11 :: s12 :: s13 :: s14 :: s15 :: .dat d :: l) := Iff.rfl
@[simp ↓] theorem ev_pk_16_d {s0 s1 s2 s3 s4 s5 s6 s7 s8 s9 s10 s11 s12 s13 s14 s15 : Sl} : ev (pkV 16) (s0 :: s1 :: s2 :: s3 :: s4 :: s5 :: s6 :: s7 :: s8 :: s9 :: s10 :: s11 :: s12 :: s13 :: s14 :: s15 :: .dat d :: l) Q X ↔ Q d (s0 :: s1 :: s2 :: s3 :: s4 :: s5 :: s6 :: s7 :: s8 :: s9 :: s10 :: s11 :: s12 :: s13 :: s14 :: s15 :: .dat d :: l) := Iff.rfl
@[simp ↓] theorem ev_pk_16_o {s0 s1 s2 s3 s4 s5 s6 s7 s8 s9 s10 s11 s12 s13 s14 s15 : Sl} : ev (pkV 16) (s0 :: s1 :: s2 :: s3 :: s4 :: s5 :: s6 :: s7 :: s8 :: s9 :: s10 :: s11 :: s12 :: s13 :: s14 :: s15 :: .own t d :: l) Q X ↔ Q d (s0 :: s1 :: s2 :: s3 :: s4 :: s5 :: s6 :: s7 :: s8 :: s9 :: s10 :: s11 :: s12 :: s13 :: s14 :: s15 :: .own t d :: l) := Iff.rfl
@[simp ↓] theorem at_16 {s0 s1 s2 s3 s4 s5 s6 s7 s8 s9 s10 s11 s12 s13 s14 s15 : Sl} : atO (s0 :: s1 :: s2 :: s3 :: s4 :: s5 :: s6 :: s7 :: s8 :: s9 :: s10 :: s11 :: s12 :: s13 :: s14 :: s15 :: .own t d :: l) 16 k ↔ k t d := Iff.rfl
@[simp ↓] theorem ev_set_16 {P : α → Gm → Prop} {m : MM α} {x : Sl} {s0 s1 s2 s3 s4 s5 s6 s7 s8 s9 s10 s11 s12 s13 s14 s15 s16 : Sl} : ev m (List.set (s0 :: s1 :: s2 :: s3 :: s4 :: s5 :: s6 :: s7 :: s8 :: s9 :: s10 :: s11 :: s12 :: s13 :: s14 :: s15 :: s16 :: l) 16 x) P X ↔ ev m (s0 :: s1 :: s2 :: s3 :: s4 :: s5 :: s6 :: s7 :: s8 :: s9 :: s10 :: s11 :: s12 :: s13 :: s14 :: s15 :: x :: l) P X := Iff.rfl
@[simp ↓] theorem sv_set_16 {b : Gm → Out} {x : Sl} {s0 s1 s2 s3 s4 s5 s6 s7 s8 s9 s10 s11 s12 s13 s14 s15 s16 : Sl} : sv b (List.set (s0 :: s1 :: s2 :: s3 :: s4 :: s5 :: s6 :: s7 :: s8 :: s9 :: s10 :: s11 :: s12 :: s13 :: s14 :: s15 :: s16 :: l) 16 x) PO ↔ sv b (s0 :: s1 :: s2 :: s3 :: s4 :: s5 :: s6 :: s7 :: s8 :: s9 :: s10 :: s11 :: s12 :: s13 :: s14 :: s15 :: x :: l) PO := Iff.rfl
@[simp ↓] theorem at_set_16 {x : Sl} {s0 s1 s2 s3 s4 s5 s6 s7 s8 s9 s10 s11 s12 s13 s14 s15 s16 : Sl} {j : Nat} : atO (List.set (s0 :: s1 :: s2 :: s3 :: s4 :: s5 :: s6 :: s7 :: s8 :: s9 :: s10 :: s11 :: s12 :: s13 :: s14 :: s15 :: s16 :: l) 16 x) j k ↔ atO (s0 :: s1 :: s2 :: s3 :: s4 :: s5 :: s6 :: s7 :: s8 :: s9 :: s10 :: s11 :: s12 :: s13 :: s14 :: s15 :: x :: l) j k := Iff.rfl
@[simp ↓] theorem for_set_16 {bt : PyData → Gm → Option Gm} {b : Gm → Out} {ds : List PyData} {x : Sl} {s0 s1 s2 s3 s4 s5 s6 s7 s8 s9 s10 s11 s12 s13 s14 s15 s16 : Sl} : svO (forL bt b ds (List.set (s0 :: s1 :: s2 :: s3 :: s4 :: s5 :: s6 :: s7 :: s8 :: s9 :: s10 :: s11 :: s12 :: s13 :: s14 :: s15 :: s16 :: l) 16 x)) PO ↔ svO (forL bt b ds (s0 :: s1 :: s2 :: s3 :: s4 :: s5 :: s6 :: s7 :: s8 :: s9 :: s10 :: s11 :: s12 :: s13 :: s14 :: s15 :: x :: l)) PO := Iff.rfl
@[simp ↓] theorem dat_17 {s0 s1 s2 s3 s4 s5 s6 s7 s8 s9 s10 s11 s12 s13 s14 s15 s16 : Sl} : datO (s0 :: s1 :: s2 :: s3 :: s4 :: s5 :: s6 :: s7 :: s8 :: s9 :: s10 :: s11 :: s12 :: s13 :: s14 :: s15 :: s16 :: .dat d :: l) 17 kd ↔ kd d := Iff.rfl
@[simp ↓] theorem ev_rd_17_d {s0 s1 s2 s3 s4 s5 s6 s7 s8 s9 s10 s11 s12 s13 s14 s15 s16 : Sl} : ev (rdV 17) (s0 :: s1 :: s2 :: s3 :: s4 :: s5 :: s6 :: s7 :: s8 :: s9 :: s10 :: s11 :: s12 :: s13 :: s14 :: s15 :: s16 :: .dat d :: l) Q X ↔ Q d (s0 :: s1 :: s2 :: s3 :: s4 :: s5 :: s6 :: s7 :: s8 :: s9 :: s10 :: s11 :: s12 :: s13 :: s14 :: s15 :: s16 :: .dat d :: l) := Iff.rfl
@[simp ↓] theorem ev_rd_17_o {s0 s1 s2 s3 s4 s5 s6 s7 s8 s9 s10 s11 s12 s13 s14 s15 s16 : Sl} : ev (rdV 17) (s0 :: s1 :: s2 :: s3 :: s4 :: s5 :: s6 :: s7 :: s8 :: s9 :: s10 :: s11 :: s12 :: s13 :: s14 :: s15 :: s16 :: .own t d :: l) Q X ↔ Q d (s0 :: s1 :: s2 :: s3 :: s4 :: s5 :: s6 :: s7 :: s8 :: s9 :: s10 :: s11 :: s12 :: s13 :: s14 :: s15 :: s16 :: .dat d :: l) := Iff.rfl
@[simp ↓] theorem ev_pk_17_d {s0 s1 s2 s3 s4 s5 s6 s7 s8 s9 s10 s11 s12 s13 s14 s15 s16 : Sl} : ev (pkV 17) (s0 :: s1 :: s2 :: s3 :: s4 :: s5 :: s6 :: s7 :: s8 :: s9 :: s10 :: s11 :: s12 :: s13 :: s14 :: s15 :: s16 :: .dat d :: l) Q X ↔ Q d (s0 :: s1 :: s2 :: s3 :: s4 :: s5 :: s6 :: s7 :: s8 :: s9 :: s10 :: s11 :: s12 :: s13 :: s14 :: s15 :: s16 :: .dat d :: l) := Iff.rfl
@[simp ↓] theorem ev_pk_17_o {s0 s1 s2 s3 s4 s5 s6 s7 s8 s9 s10 s11 s12 s13 s14 s15 s16 : Sl} : ev (pkV 17) (s0 :: s1 :: s2 :: s3 :: s4 :: s5 :: s6 :: s7 :: s8 :: s9 :: s10 :: s11 :: s12 :: s13 :: s14 :: s15 :: s16 :: .own t d :: l) Q X ↔ Q d (s0 :: s1 :: s2 :: s3 :: s4 :: s5 :: s6 :: s7 :: s8 :: s9 :: s10 :: s11 :: s12 :: s13 :: s14 :: s15 :: s16 :: .own t d :: l) := Iff.rfl
@[simp ↓] theorem at_17 {s0 s1 s2 s3 s4 s5 s6 s7 s8 s9 s10 s11 s12 s13 s14 s15 s16 : Sl} : atO (s0 :: s1 :: s2 :: s3 :: s4 :: s5 :: s6 :: s7 :: s8 :: s9 :: s10 :: s11 :: s12 :: s13 :: s14 :: s15 :: s16 :: .own t d :: l) 17 k ↔ k t d := Iff.rfl
@[simp ↓] theorem ev_set_17 {P : α → Gm → Prop} {m : MM α} {x : Sl} {s0 s1 s2 s3 s4 s5 s6 s7 s8 s9 s10 s11 s12 s13 s14 s15 s16 s17 : Sl} : ev m (List.set (s0 :: s1 :: s2 :: s3 :: s4 :: s5 :: s6 :: s7 :: s8 :: s9 :: s10 :: s11 :: s12 :: s13 :: s14 :: s15 :: s16 :: s17 :: l) 17 x) P X ↔ ev m (s0 :: s1 :: s2 :: s3 :: s4 :: s5 :: s6 :: s7 :: s8 :: s9 :: s10 :: s11 :: s12 :: s13 :: s14 :: s15 :: s16 :: x :: l) P X := Iff.rfl
@[simp ↓] theorem sv_set_17 {b : Gm → Out} {x : Sl} {s0 s1 s2 s3 s4 s5 s6 s7 s8 s9 s10 s11 s12 s13 s14 s15 s16 s17 : Sl} : sv b (List.set (s0 :: s1 :: s2 :: s3 :: s4 :: s5 :: s6 :: s7 :: s8 :: s9 :: s10 :: s11 :: s12 :: s13 :: s14 :: s15 :: s16 :: s17 :: l) 17 x) PO ↔ sv b (s0 :: s1 :: s2 :: s3 :: s4 :: s5 :: s6 :: s7 :: s8 :: s9 :: s10 :: s11 :: s12 :: s13 :: s14 :: s15 :: s16 :: x :: l) PO := Iff.rfl
@[simp ↓] theorem at_set_17 {x : Sl} {s0 s1 s2 s3 s4 s5 s6 s7 s8 s9 s10 s11 s12 s13 s14 s15 s16 s17 : Sl} {j : Nat} : atO (List.set (s0 :: s1 :: s2 :: s3 :: s4 :: s5 :: s6 :: s7 :: s8 :: s9 :: s10 :: s11 :: s12 :: s13 :: s14 :: s15 :: s16 :: s17 :: l) 17 x) j k ↔ atO (s0 :: s1 :: s2 :: s3 :: s4 :: s5 :: s6 :: s7 :: s8 :: s9 :: s10 :: s11 :: s12 :: s13 :: s14 :: s15 :: s16 :: x :: l) j k := Iff.rfl
@[simp ↓] theorem for_set_17 {bt : PyData → Gm → Option Gm} {b : Gm → Out} {ds : List PyData} {x : Sl} {s0 s1 s2 s3 s4 s5 s6 s7 s8 s9 s10 s11 s12 s13 s14 s15 s16 s17 : Sl} : svO (forL bt b ds (List.set (s0 :: s1 :: s2 :: s3 :: s4 :: s5 :: s6 :: s7 :: s8 :: s9 :: s10 :: s11 :: s12 :: s13 :: s14 :: s15 :: s16 :: s17 :: l) 17 x)) PO ↔ svO (forL bt b ds (s0 :: s1 :: s2 :: s3 :: s4 :: s5 :: s6 :: s7 :: s8 :: s9 :: s10 :: s11 :: s12 :: s13 :: s14 :: s15 :: s16 :: x :: l)) PO := Iff.rfl
@[simp ↓] theorem dat_18 {s0 s1 s2 s3 s4 s5 s6 s7 s8 s9 s10 s11 s12 s13 s14 s15 s16 s17 : Sl} : datO (s0 :: s1 :: s2 :: s3 :: s4 :: s5 :: s6 :: s7 :: s8 :: s9 :: s10 :: s11 :: s12 :: s13 :: s14 :: s15 :: s16 :: s17 :: .dat d :: l) 18 kd ↔ kd d := Iff.rfl
@[simp ↓] theorem ev_rd_18_d {s0 s1 s2 s3 s4 s5 s6 s7 s8 s9 s10 s11 s12 s13 s14 s15 s16 s17 : Sl} : ev (rdV 18) (s0 :: s1 :: s2 :: s3 :: s4 :: s5 :: s6 :: s7 :: s8 :: s9 :: s10 :: s11 :: s12 :: s13 :: s14 :: s15 :: s16 :: s17 :: .dat d :: l) Q X ↔ Q d (s0 :: s1 :: s2 :: s3 :: s4 :: s5 :: s6 :: s7 :: s8 :: s9 :: s10 :: s11 :: s12 :: s13 :: s14 :: s15 :: s16 :: s17 :: .dat d :: l) := Iff.rfl
@[simp ↓] theorem ev_rd_18_o {s0 s1 s2 s3 s4 s5 s6 s7 s8 s9 s10 s11 s12 s13 s14 s15 s16 s17 : Sl} : ev (rdV 18) (s0 :: s1 :: s2 :: s3 :: s4 :: s5 :: s6 :: s7 :: s8 :: s9 :: s10 :: s11 :: s12 :: s13 :: s14 :: s15 :: s16 :: s17 :: .own t d :: l) Q X ↔ Q d (s0 :: s1 :: s2 :: s3 :: s4 :: s5 :: s6 :: s7 :: s8 :: s9 :: s10 :: s11 :: s12 :: s13 :: s14 :: s15 :: s16 :: s17 :: .dat d :: l) := Iff.rfl
@[simp ↓] theorem ev_pk_18_d {s0 s1 s2 s3 s4 s5 s6 s7 s8 s9 s10 s11 s12 s13 s14 s15 s16 s17 : Sl} : ev (pkV 18) (s0 :: s1 :: s2 :: s3 :: s4 :: s5 :: s6 :: s7 :: s8 :: s9 :: s10 :: s11 :: s12 :: s13 :: s14 :: s15 :: s16 :: s17 :: .dat d :: l) Q X ↔ Q d (s0 :: s1 :: s2 :: s3 :: s4 :: s5 :: s6 :: s7 :: s8 :: s9 :: s10 :: s11 :: s12 :: s13 :: s14 :: s15 :: s16 :: s17 :: .dat d :: l) := Iff.rfl
@[simp ↓] theorem ev_pk_18_o {s0 s1 s2 s3 s4 s5 s6 s7 s8 s9 s10 s11 s12 s13 s14 s15 s16 s17 : Sl} : ev (pkV 18) (s0 :: s1 :: s2 :: s3 :: s4 :: s5 :: s6 :: s7 :: s8 :: s9 :: s10 :: s11 :: s12 :: s13 :: s14 :: s15 :: s16 :: s17 :: .own t d :: l) Q X ↔ Q d (s0 :: s1 :: s2 :: s3 :: s4 :: s5 :: s6 :: s7 :: s8 :: s9 :: s10 :: s11 :: s12 :: s13 :: s14 :: s15 :: s16 :: s17 :: .own t d :: l) := Iff.rfl
@[simp ↓] theorem at_18 {s0 s1 s2 s3 s4 s5 s6 s7 s8 s9 s10 s11 s12 s13 s14 s15 s16 s17 : Sl} : atO (s0 :: s1 :: s2 :: s3 :: s4 :: s5 :: s6 :: s7 :: s8 :: s9 :: s10 :: s11 :: s12 :: s13 :: s14 :: s15 :: s16 :: s17 :: .own t d :: l) 18 k ↔ k t d := Iff.rfl
@[simp ↓] theorem ev_set_18 {P : α → Gm → Prop} {m : MM α} {x : Sl} {s0 s1 s2 s3 s4 s5 s6 s7 s8 s9 s10 s11 s12 s13 s14 s15 s16 s17 s18 : Sl} : ev m (List.set (s0 :: s1 :: s2 :: s3 :: s4 :: s5 :: s6 :: s7 :: s8 :: s9 :: s10 :: s11 :: s12 :: s13 :: s14 :: s15 :: s16 :: s17 :: s18 :: l) 18 x) P X ↔ ev m (s0 :: s1 :: s2 :: s3 :: s4 :: s5 :: s6 :: s7 :: s8 :: s9 :: s10 :: s11 :: s12 :: s13 :: s14 :: s15 :: s16 :: s17 :: x :: l) P X := Iff.rfl
@[simp ↓] theorem sv_set_18 {b : Gm → Out} {x : Sl} {s0 s1 s2 s3 s4 s5 s6 s7 s8 s9 s10 s11 s12 s13 s14 s15 s16 s17 s18 : Sl} : sv b (List.set (s0 :: s1 :: s2 :: s3 :: s4 :: s5 :: s6 :: s7 :: s8 :: s9 :: s10 :: s11 :: s12 :: s13 :: s14 :: s15 :: s16 :: s17 :: s18 :: l) 18 x) PO ↔ sv b (s0 :: s1 :: s2 :: s3 :: s4 :: s5 :: s6 :: s7 :: s8 :: s9 :: s10 :: s11 :: s12 :: s13 :: s14 :: s15 :: s16 :: s17 :: x :: l) PO := Iff.rfl
@[simp ↓] theorem at_set_18 {x : Sl} {s0 s1 s2 s3 s4 s5 s6 s7 s8 s9 s10 s11 s12 s13 s14 s15 s16 s17 s18 : Sl} {j : Nat} : atO (List.set (s0 :: s1 :: s2 :: s3 :: s4 :: s5 :: s6 :: s7 :: s8 :: s9 :: s10 :: s11 :: s12 :: s13 :: s14 :: s15 :: s16 :: s17 :: s18 :: l) 18 x) j k ↔ atO (s0 :: s1 :: s2 :: s3 :: s4 :: s5 :: s6 :: s7 :: s8 :: s9 :: s10 :: s11 :: s12 :: s13 :: s14 :: s15 :: s16 :: s17 :: x :: l) j k := Iff.rfl
@[simp ↓] theorem for_set_18 {bt : PyData → Gm → Option Gm} {b : Gm → Out} {ds : List PyData} {x : Sl} {s0 s1 s2 s3 s4 s5 s6 s7 s8 s9 s10 s11 s12 s13 s14 s15 s16 s17 s18 : Sl} : svO (forL bt b ds (List.set (s0 :: s1 :: s2 :: s3 :: s4 :: s5 :: s6 :: s7 :: s8 :: s9 :: s10 :: s11 :: s12 :: s13 :: s14 :: s15 :: s16 :: s17 :: s18 :: l) 18 x)) PO ↔ svO (forL bt b ds (s0 :: s1 :: s2 :: s3 :: s4 :: s5 :: s6 :: s7 :: s8 :: s9 :: s10 :: s11 :: s12 :: s13 :: s14 :: s15 :: s16 :: s17 :: x :: l)) PO := Iff.rfl
@[simp ↓] theorem dat_19 {s0 s1 s2 s3 s4 s5 s6 s7 s8 s9 s10 s11 s12 s13 s14 s15 s16 s17 s18 : Sl} : datO (s0 :: s1 :: s2 :: s3 :: s4 :: s5 :: s6 :: s7 :: s8 :: s9 :: s10 :: s11 :: s12 :: s13 :: s14 :: s15 :: s16 :: s17 :: s18 :: .dat d :: l) 19 kd ↔ kd d := Iff.rfl
@[simp ↓] theorem ev_rd_19_d {s0 s1 s2 s3 s4 s5 s6 s7 s8 s9 s10 s11 s12 s13 s14 s15 s16 s17 s18 : Sl} : ev (rdV 19) (s0 :: s1 :: s2 :: s3 :: s4 :: s5 :: s6 :: s7 :: s8 :: s9 :: s10 :: s11 :: s12 :: s13 :: s14 :: s15 :: s16 :: s17 :: s18 :: .dat d :: l) Q X ↔ Q d (s0 :: s1 :: s2 :: s3 :: s4 :: s5 :: s6 :: s7 :: s8 :: s9 :: s10 :: s11 :: s12 :: s13 :: s14 :: s15 :: s16 :: s17 :: s18 :: .dat d :: l) := Iff.rfl
@[simp ↓] theorem ev_rd_19_o {s0 s1 s2 s3 s4 s5 s6 s7 s8 s9 s10 s11 s12 s13 s14 s15 s16 s17 s18 : Sl} : ev (rdV 19) (s0 :: s1 :: s2 :: s3 :: s4 :: s5 :: s6 :: s7 :: s8 :: s9 :: s10 :: s11 :: s12 :: s13 :: s14 :: s15 :: s16 :: s17 :: s18 :: .own t d :: l) Q X ↔ Q d (s0 :: s1 :: s2 :: s3 :: s4 :: s5 :: s6 :: s7 :: s8 :: s9 :: s10 :: s11 :: s12 :: s13 :: s14 :: s15 :: s16 :: s17 :: s18 :: .dat d :: l) := Iff.rfl
@[simp ↓] theorem ev_pk_19_d {s0 s1 s2 s3 s4 s5 s6 s7 s8 s9 s10 s11 s12 s13 s14 s15 s16 s17 s18 : Sl} : ev (pkV 19) (s0 :: s1 :: s2 :: s3 :: s4 :: s5 :: s6 :: s7 :: s8 :: s9 :: s10 :: s11 :: s12 :: s13 :: s14 :: s15 :: s16 :: s17 :: s18 :: .dat d :: l) Q X ↔ Q d (s0 :: s1 :: s2 :: s3 :: s4 :: s5 :: s6 :: s7 :: s8 :: s9 :: s10 :: s11 :: s12 :: s13 :: s14 :: s15 :: s16 :: s17 :: s18 :: .dat d :: l) := Iff.rfl
@[simp ↓] theorem ev_pk_19_o {s0 s1 s2 s3 s4 s5 s6 s7 s8 s9 s10 s11 s12 s13 s14 s15 s16 s17 s18 : Sl} : ev (pkV 19) (s0 :: s1 :: s2 :: s3 :: s4 :: s5 :: s6 :: s7 :: s8 :: s9 :: s10 :: s11 :: s12 :: s13 :: s14 :: s15 :: s16 :: s17 :: s18 :: .own t d :: l) Q X ↔ Q d (s0 :: s1 :: s2 :: s3 :: s4 :: s5 :: s6 :: s7 :: s8 :: s9 :: s10 :: s11 :: s12 :: s13 :: s14 :: s15 :: s16 :: s17 :: s18 :: .own t d :: l) := Iff.rfl
@[simp ↓] theorem at_19 {s0 s1 s2 s3 s4 s5 s6 s7 s8 s9 s10 s11 s12 s13 s14 s15 s16 s17 s18 : Sl} : atO (s0 :: s1 :: s2 :: s3 :: s4 :: s5 :: s6 :: s7 :: s8 :: s9 :: s10 :: s11 :: s12 :: s13 :: s14 :: s15 :: s16 :: s17 :: s18 :: .own t d :: l) 19 k ↔ k t d := Iff.rfl
@[simp ↓] theorem ev_set_19 {P : α → Gm → Prop} {m : MM α} {x : Sl} {s0 s1 s2 s3 s4 s5 s6 s7 s8 s9 s10 s11 s12 s13 s14 s15 s16 s17 s18 s19 : Sl} : ev m (List.set (s0 :: s1 :: s2 :: s3 :: s4 :: s5 :: s6 :: s7 :: s8 :: s9 :: s10 :: s11 :: s12 :: s13 :: s14 :: s15 :: s16 :: s17 :: s18 :: s19 :: l) 19 x) P X ↔ ev m (s0 :: s1 :: s2 :: s3 :: s4 :: s5 :: s6 :: s7 :: s8 :: s9 :: s10 :: s11 :: s12 :: s13 :: s14 :: s15 :: s16 :: s17 :: s18 :: x :: l) P X := Iff.rfl
@[simp ↓] theorem sv_set_19 {b : Gm → Out} {x : Sl} {s0 s1 s2 s3 s4 s5 s6 s7 s8 s9 s10 s11 s12 s13 s14 s15 s16 s17 s18 s19 : Sl} : sv b (List.set (s0 :: s1 :: s2 :: s3 :: s4 :: s5 :: s6 :: s7 :: s8 :: s9 :: s10 :: s11 :: s12 :: s13 :: s14 :: s15 :: s16 :: s17 :: s18 :: s19 :: l) 19 x) PO ↔ sv b (s0 :: s1 :: s2 :: s3 :: s4 :: s5 :: s6 :: s7 :: s8 :: s9 :: s10 :: s11 :: s12 :: s13 :: s14 :: s15 :: s16 :: s17 :: s18 :: x :: l) PO := Iff.rfl
@[simp ↓] theorem at_set_19 {x : Sl} {s0 s1 s2 s3 s4 s5 s6 s7 s8 s9 s10 s11 s12 s13 s14 s15 s16 s17 s18 s19 : Sl} {j : Nat} : atO (List.set (s0 :: s1 :: s2 :: s3 :: s4 :: s5 :: s6 :: s7 :: s8 :: s9 :: s10 :: s11 :: s12 :: s13 :: s14 :: s15 :: s16 :: s17 :: s18 :: s19 :: l) 19 x) j k ↔ atO (s0 :: s1 :: s2 :: s3 :: s4 :: s5 :: s6 :: s7 :: s8 :: s9 :: s10 :: s11 :: s12 :: s13 :: s14 :: s15 :: s16 :: s17 :: s18 :: x :: l) j k := Iff.rfl
@[simp ↓] theorem for_set_19 {bt : PyData → Gm → Option Gm} {b : Gm → Out} {ds : List PyData} {x : Sl} {s0 s1 s2 s3 s4 s5 s6 s7 s8 s9 s10 s11 s12 s13 s14 s15 s16 s17 s18 s19 : Sl} : svO (forL bt b ds (List.set (s0 :: s1 :: s2 :: s3 :: s4 :: s5 :: s6 :: s7 :: s8 :: s9 :: s10 :: s11 :: s12 :: s13 :: s14 :: s15 :: s16 :: s17 :: s18 :: s19 :: l) 19 x)) PO ↔ svO (forL bt b ds (s0 :: s1 :: s2 :: s3 :: s4 :: s5 :: s6 :: s7 :: s8 :: s9 :: s10 :: s11 :: s12 :: s13 :: s14 :: s15 :: s16 :: s17 :: s18 :: x :: l)) PO := Iff.rfl
@[simp ↓] theorem dat_20 {s0 s1 s2 s3 s4 s5 s6 s7 s8 s9 s10 s11 s12 s13 s14 s15 s16 s17 s18 s19 : Sl} : datO (s0 :: s1 :: s2 :: s3 :: s4 :: s5 :: s6 :: s7 :: s8 :: s9 :: s10 :: s11 :: s12 :: s13 :: s14 :: s15 :: s16 :: s17 :: s18 :: s19 :: .dat d :: l) 20 kd ↔ kd d := Iff.rfl
@[simp ↓] theorem ev_rd_20_d {s0 s1 s2 s3 s4 s5 s6 s7 s8 s9 s10 s11 s12 s13 s14 s15 s16 s17 s18 s19 : Sl} : ev (rdV 20) (s0 :: s1 :: s2 :: s3 :: s4 :: s5 :: s6 :: s7 :: s8 :: s9 :: s10 :: s11 :: s12 :: s13 :: s14 :: s15 :: s16 :: s17 :: s18 :: s19 :: .dat d :: l) Q X ↔ Q d (s0 :: s1 :: s2 :: s3 :: s4 :: s5 :: s6 :: s7 :: s8 :: s9 :: s10 :: s11 :: s12 :: s13 :: s14 :: s15 :: s16 :: s17 :: s18 :: s19 :: .dat d :: l) := Iff.rfl
@[simp ↓] theorem ev_rd_20_o {s0 s1 s2 s3 s4 s5 s6 s7 s8 s9 s10 s11 s12 s13 s14 s15 s16 s17 s18 s19 : Sl} : ev (rdV 20) (s0 :: s1 :: s2 :: s3 :: s4 :: s5 :: s6 :: s7 :: s8 :: s9 :: s10 :: s11 :: s12 :: s13 :: s14 :: s15 :: s16 :: s17 :: s18 :: s19 :: .own t d :: l) Q X ↔ Q d (s0 :: s1 :: s2 :: s3 :: s4 :: s5 :: s6 :: s7 :: s8 :: s9 :: s10 :: s11 :: s12 :: s13 :: s14 :: s15 :: s16 :: s17 :: s18 :: s19 :: .dat d :: l) := Iff.rfl
@[simp ↓] theorem ev_pk_20_d {s0 s1 s2 s3 s4 s5 s6 s7 s8 s9 s10 s11 s12 s13 s14 s15 s16 s17 s18 s19 : Sl} : ev (pkV 20) (s0 :: s1 :: s2 :: s3 :: s4 :: s5 :: s6 :: s7 :: s8 :: s9 :: s10 :: s11 :: s12 :: s13 :: s14 :: s15 :: s16 :: s17 :: s18 :: s19 :: .dat d :: l) Q X ↔ Q d (s0 :: s1 :: s2 :: s3 :: s4 :: s5 :: s6 :: s7 :: s8 :: s9 :: s10 :: s11 :: s12 :: s13 :: s14 :: s15 :: s16 :: s17 :: s18 :: s19 :: .dat d :: l) := Iff.rfl
@[simp ↓] theorem ev_pk_20_o {s0 s1 s2 s3 s4 s5 s6 s7 s8 s9 s10 s11 s12 s13 s14 s15 s16 s17 s18 s19 : Sl} : ev (pkV 20) (s0 :: s1 :: s2 :: s3 :: s4 :: s5 :: s6 :: s7 :: s8 :: s9 :: s10 :: s11 :: s12 :: s13 :: s14 :: s15 :: s16 :: s17 :: s18 :: s19 :: .own t d :: l) Q X ↔ Q d (s0 :: s1 :: s2 :: s3 :: s4 :: s5 :: s6 :: s7 :: s8 :: s9 :: s10 :: s11 :: s12 :: s13 :: s14 :: s15 :: s16 :: s17 :: s18 :: s19 :: .own t d :: l) := Iff.rfl
@[simp ↓] theorem at_20 {s0 s1 s2 s3 s4 s5 s6 s7 s8 s9 s10 s11 s12 s13 s14 s15 s16 s17 s18 s19 : Sl} : atO (s0 :: s1 :: s2 :: s3 :: s4 :: s5 :: s6 :: s7 :: s8 :: s9 :: s10 :: s11 :: s12 :: s13 :: s14 :: s15 :: s16 :: s17 :: s18 :: s19 :: .own t d :: l) 20 k ↔ k t d := Iff.rfl
@[simp ↓] theorem ev_set_20 {P : α → Gm → Prop} {m : MM α} {x : Sl} {s0 s1 s2 s3 s4 s5 s6 s7 s8 s9 s10 s11 s12 s13 s14 s15 s16 s17 s18 s19 s20 : Sl} : ev m (List.set (s0 :: s1 :: s2 :: s3 :: s4 :: s5 :: s6 :: s7 :: s8 :: s9 :: s10 :: s11 :: s12 :: s13 :: s14 :: s15 :: s16 :: s17 :: s18 :: s19 :: s20 :: l) 20 x) P X ↔ ev m (s0 :: s1 :: s2 :: s3 :: s4 :: s5 :: s6 :: s7 :: s8 :: s9 :: s10 :: s11 :: s12 :: s13 :: s14 :: s15 :: s16 :: s17 :: s18 :: s19 :: x :: l) P X := Iff.rfl
@[simp ↓] theorem sv_set_20 {b : Gm → Out} {x : Sl} {s0 s1 s2 s3 s4 s5 s6 s7 s8 s9 s10 s11 s12 s13 s14 s15 s16 s17 s18 s19 s20 : Sl} : sv b (List.set (s0 :: s1 :: s2 :: s3 :: s4 :: s5 :: s6 :: s7 :: s8 :: s9 :: s10 :: s11 :: s12 :: s13 :: s14 :: s15 :: s16 :: s17 :: s18 :: s19 :: s20 :: l) 20 x) PO ↔ sv b (s0 :: s1 :: s2 :: s3 :: s4 :: s5 :: s6 :: s7 :: s8 :: s9 :: s10 :: s11 :: s12 :: s13 :: s14 :: s15 :: s16 :: s17 :: s18 :: s19 :: x :: l) PO := Iff.rfl
@[simp ↓] theorem at_set_20 {x : Sl} {s0 s1 s2 s3 s4 s5 s6 s7 s8 s9 s10 s11 s12 s13 s14 s15 s16 s17 s18 s19 s20 : Sl} {j : Nat} : atO (List.set (s0 :: s1 :: s2 :: s3 :: s4 :: s5 :: s6 :: s7 :: s8 :: s9 :: s10 :: s11 :: s12 :: s13 :: s14 :: s15 :: s16 :: s17 :: s18 :: s19 :: s20 :: l) 20 x) j k ↔ atO (s0 :: s1 :: s2 :: s3 :: s4 :: s5 :: s6 :: s7 :: s8 :: s9 :: s10 :: s11 :: s12 :: s13 :: s14 :: s15 :: s16 :: s17 :: s18 :: s19 :: x :: l) j k := Iff.rfl
@[simp ↓] theorem for_set_20 {bt : PyData → Gm → Option Gm} {b : Gm → Out} {ds : List PyData} {x : Sl} {s0 s1 s2 s3 s4 s5 s6 s7 s8 s9 s10 s11 s12 s13 s14 s15 s16 s17 s18 s19 s20 : Sl} : svO (forL bt b ds (List.set (s0 :: s1 :: s2 :: s3 :: s4 :: s5 :: s6 :: s7 :: s8 :: s9 :: s10 :: s11 :: s12 :: s13 :: s14 :: s15 :: s16 :: s17 :: s18 :: s19 :: s20 :: l) 20 x)) PO ↔ svO (forL bt b ds (s0 :: s1 :: s2 :: s3 :: s4 :: s5 :: s6 :: s7 :: s8 :: s9 :: s10 :: s11 :: s12 :: s13 :: s14 :: s15 :: s16 :: s17 :: s18 :: s19 :: x :: l)) PO := Iff.rfl
@[simp ↓] theorem dat_21 {s0 s1 s2 s3 s4 s5 s6 s7 s8 s9 s10 s11 s12 s13 s14 s15 s16 s17 s18 s19 s20 : Sl} : datO (s0 :: s1 :: s2 :: s3 :: s4 :: s5 :: s6 :: s7 :: s8 :: s9 :: s10 :: s11 :: s12 :: s13 :: s14 :: s15 :: s16 :: s17 :: s18 :: s19 :: s20 :: .dat d :: l) 21 kd ↔ kd d := Iff.rfl
@[simp ↓] theorem ev_rd_21_d {s0 s1 s2 s3 s4 s5 s6 s7 s8 s9 s10 s11 s12 s13 s14 s15 s16 s17 s18 s19 s20 : Sl} : ev (rdV 21) (s0 :: s1 :: s2 :: s3 :: s4 :: s5 :: s6 :: s7 :: s8 :: s9 :: s10 :: s11 :: s12 :: s13 :: s14 :: s15 :: s16 :: s17 :: s18 :: s19 :: s20 :: .dat d :: l) Q X ↔ Q d (s0 :: s1 :: s2 :: s3 :: s4 :: s5 :: s6 :: s7 :: s8 :: s9 :: s10 :: s11 :: s12 :: s13 :: s14 :: s15 :: s16 :: s17 :: s18 :: s19 :: s20 :: .dat d :: l) := Iff.rfl
@[simp ↓] theorem ev_rd_21_o {s0 s1 s2 s3 s4 s5 s6 s7 s8 s9 s10 s11 s12 s13 s14 s15 s16 s17 s18 s19 s20 : Sl} : ev (rdV 21) (s0 :: s1 :: s2 :: s3 :: s4 :: s5 :: s6 :: s7 :: s8 :: s9 :: s10 :: s11 :: s12 :: s13 :: s14 :: s15 :: s16 :: s17 :: s18 :: s19 :: s20 :: .own t d :: l) Q X ↔ Q d (s0 :: s1 :: s2 :: s3 :: s4 :: s5 :: s6 :: s7 :: s8 :: s9 :: s10 :: s11 :: s12 :: s13 :: s14 :: s15 :: s16 :: s17 :: s18 :: s19 :: s20 :: .dat d :: l) := Iff.rfl
@[simp ↓] theorem ev_pk_21_d {s0 s1 s2 s3 s4 s5 s6 s7 s8 s9 s10 s11 s12 s13 s14 s15 s16 s17 s18 s19 s20 : Sl} : ev (pkV 21) (s0 :: s1 :: s2 :: s3 :: s4 :: s5 :: s6 :: s7 :: s8 :: s9 :: s10 :: s11 :: s12 :: s13 :: s14 :: s15 :: s16 :: s17 :: s18 :: s19 :: s20 :: .dat d :: l) Q X ↔ Q d (s0 :: s1 :: s2 :: s3 :: s4 :: s5 :: s6 :: s7 :: s8 :: s9 :: s10 :: s11 :: s12 :: s13 :: s14 :: s15 :: s16 :: s17 :: s18 :: s19 :: s20 :: .dat d :: l) := Iff.rfl
@[simp ↓] theorem ev_pk_21_o {s0 s1 s2 s3 s4 s5 s6 s7 s8 s9 s10 s11 s12 s13 s14 s15 s16 s17 s18 s19 s20 : Sl} : ev (pkV 21) (s0 :: s1 :: s2 :: s3 :: s4 :: s5 :: s6 :: s7 :: s8 :: s9 :: s10 :: s11 :: s12 :: s13 :: s14 :: s15 :: s16 :: s17 :: s18 :: s19 :: s20 :: .own t d :: l) Q X ↔ Q d (s0 :: s1 :: s2 :: s3 :: s4 :: s5 :: s6 :: s7 :: s8 :: s9 :: s10 :: s11 :: s12 :: s13 :: s14 :: s15 :: s16 :: s17 :: s18 :: s19 :: s20 :: .own t d :: l) := Iff.rfl
@[simp ↓] theorem at_21 {s0 s1 s2 s3 s4 s5 s6 s7 s8 s9 s10 s11 s12 s13 s14 s15 s16 s17 s18 s19 s20 : Sl} : atO (s0 :: s1 :: s2 :: s3 :: s4 :: s5 :: s6 :: s7 :: s8 :: s9 :: s10 :: s11 :: s12 :: s13 :: s14 :: s15 :: s16 :: s17 :: s18 :: s19 :: s20 :: .own t d :: l) 21 k ↔ k t d := Iff.rfl
@[simp ↓] theorem ev_set_21 {P : α → Gm → Prop} {m : MM α} {x : Sl} {s0 s1 s2 s3 s4 s5 s6 s7 s8 s9 s10 s11 s12 s13 s14 s15 s16 s17 s18 s19 s20 s21 : Sl} : ev m (List.set (s0 :: s1 :: s2 :: s3 :: s4 :: s5 :: s6 :: s7 :: s8 :: s9 :: s10 :: s11 :: s12 :: s13 :: s14 :: s15 :: s16 :: s17 :: s18 :: s19 :: s20 :: s21 :: l) 21 x) P X ↔ ev m (s0 :: s1 :: s2 :: s3 :: s4 :: s5 :: s6 :: s7 :: s8 :: s9 :: s10 :: s11 :: s12 :: s13 :: s14 :: s15 :: s16 :: s17 :: s18 :: s19 :: s20 :: x :: l) P X := Iff.rfl
@[simp ↓] theorem sv_set_21 {b : Gm → Out} {x : Sl} {s0 s1 s2 s3 s4 s5 s6 s7 s8 s9 s10 s11 s12 s13 s14 s15 s16 s17 s18 s19 s20 s21 : Sl} : sv b (List.set (s0 :: s1 :: s2 :: s3 :: s4 :: s5 :: s6 :: s7 :: s8 :: s9 :: s10 :: s11 :: s12 :: s13 :: s14 :: s15 :: s16 :: s17 :: s18 :: s19 :: s20 :: s21 :: l) 21 x) PO ↔ sv b (s0 :: s1 :: s2 :: s3 :: s4 :: s5 :: s6 :: s7 :: s8 :: s9 :: s10 :: s11 :: s12 :: s13 :: s14 :: s15 :: s16 :: s17 :: s18 :: s19 :: s20 :: x :: l) PO := Iff.rfl
@[simp ↓] theorem at_set_21 {x : Sl} {s0 s1 s2 s3 s4 s5 s6 s7 s8 s9 s10 s11 s12 s13 s14 s15 s16 s17 s18 s19 s20 s21 : Sl} {j : Nat} : atO (List.set (s0 :: s1 :: s2 :: s3 :: s4 :: s5 :: s6 :: s7 :: s8 :: s9 :: s10 :: s11 :: s12 :: s13 :: s14 :: s15 :: s16 :: s17 :: s18 :: s19 :: s20 :: s21 :: l) 21 x) j k ↔ atO (s0 :: s1 :: s2 :: s3 :: s4 :: s5 :: s6 :: s7 :: s8 :: s9 :: s10 :: s11 :: s12 :: s13 :: s14 :: s15 :: s16 :: s17 :: s18 :: s19 :: s20 :: x :: l) j k := Iff.rfl
@[simp ↓] theorem for_set_21 {bt : PyData → Gm → Option Gm} {b : Gm → Out} {ds : List PyData} {x : Sl} {s0 s1 s2 s3 s4 s5 s6 s7 s8 s9 s10 s11 s12 s13 s14 s15 s16 s17 s18 s19 s20 s21 : Sl} : svO (forL bt b ds (List.set (s0 :: s1 :: s2 :: s3 :: s4 :: s5 :: s6 :: s7 :: s8 :: s9 :: s10 :: s11 :: s12 :: s13 :: s14 :: s15 :: s16 :: s17 :: s18 :: s19 :: s20 :: s21 :: l) 21 x)) PO ↔ svO (forL bt b ds (s0 :: s1 :: s2 :: s3 :: s4 :: s5 :: s6 :: s7 :: s8 :: s9 :: s10 :: s11 :: s12 :: s13 :: s14 :: s15 :: s16 :: s17 :: s18 :: s19 :: s20 :: x :: l)) PO := Iff.rfl
end
end Mi
/-! len(set(x)) of tuples where x is looked at -/
namespace Mi
open PySem PySem.Spec PyProof.Rows L2
end Mi
/-! what runs while an exception is handled: the end of a list's or tuple's walk, comprehensions, loops, calls -/
namespace Mi
open PySem PySem.Spec PyProof.Rows L2 HotX
/-! the walks -/
/-! a comprehension -/
end Mi
namespace Mi
open PySem PySem.Spec PyProof.Rows L2
theorem _root_.L2H.PIH.or {X : Cx} {tg iter : Expr} {t t' : TI} (h : L2H.PIH X tg iter t) (h' : L2H.PIH X tg iter t') : L2H.PIH X tg iter (fun σ H R => t σ H R ∨ t' σ H R) := ⟨fun pins s σ H R I q => q.elim (h.run pins s σ H R I) (h'.run pins s σ H R I)⟩
theorem _root_.L2H.RoomH.units {k : Nat} {A : Around} (r : L2H.RoomH k A) : A.units + 64 < cLine := by have := r.un; omega
end Mi
/-! == of two dicts, and of two pairs of dicts -/
namespace Mi
open PySem PySem.Spec PyProof.Rows L2
open PySem.SeqAt (EqIn EqAt rcIn_tuples)
def sameDD (a b : List (PyData × PyData)) : Bool := a.length == b.length && a.all fun p => match lkD b p.1 with
  | some z => PyData.eqv p.2 z
  | none => false
def okDD (a b : List (PyData × PyData)) : Bool := a.all fun p => kFit b p.1 && (DcEq.ndB p.2 && decide (p.2.depth ≤ 16))
section
variable {prog : Program} {w : World} {A : Around} {E : Value → Shared → Prop} {s : Shared}
theorem same_D {nm : String} {a b : Addr} {es es' : Array DictEntry} {ep ep' : Nat} {ks ks' : List NestedKey} {Q : Bool → Shared → Prop} (ha : (a == sysModules) = false) (hb : (b == sysModules) = false) (DA : DK w s.heap a es ep ks) (DB : DK w s.heap b es' ep' ks')
    (hu : A.units + 8 < cLine) (f : Nat → Bool) (ht : ∀ k ∈ ks, ∀ x ∈ ks', isT x = isT k)
    (hf : ∀ i k e, es[i]? = some e → ks[i]? = some k → (plc ks' k = none ∧ f i = false) ∨ ∃ j e', plc ks' k = some j ∧ es'[j]? = some e' ∧ EqIn prog w A s e.val e'.val (f i))
    (h : Q (es.size == es'.size && (List.range es.size).all f) s) : wpAny (model prog w) A (Builtin.Dict.samePairs nm a b) Q E s := by
  unfold Builtin.Dict.samePairs Builtin.Dict.showsAll
  rw [if_neg (show ¬ (a == sysModules) = true by rw [ha]; exact Bool.false_ne_true), if_neg (show ¬ (b == sysModules) = true by rw [hb]; exact Bool.false_ne_true)]
  refine wpAny_bind (wpAny_pure (wpAny_bind (wpAny_pure ?_)))
  refine wpAny_bind (wpAny_dictEntries DA.o rfl ?_)
  dsimp only
  refine wpAny_bind (wpAny_dictEntries DB.o rfl ?_)
  by_cases hsz : es.size = es'.size
  case neg =>
    rw [if_pos (by simpa using hsz)]
    have hbf : (es.size == es'.size) = false := by simpa using hsz
    rw [hbf, Bool.false_and] at h
    exact wpAny_bind (wpAny_rule (wpAny_pure h))
  have h' : Q (((List.range es.size).drop 0).all f) s := by simpa [hsz] using h
  rw [if_neg (by rw [hsz]; simp)]
  refine wpAny_bind (wpAny_dictEpoch DA.o rfl ?_)
  refine wpAny_bind ?_
  rw [Std.Legacy.Range.forIn_eq_forIn_range']
  simp only [Std.Legacy.Range.size, Nat.sub_zero, Nat.add_sub_cancel, Nat.div_one]
  refine wpAny_forIn_list _ (fun rest q s' => s' = s ∧ q = (none, ()) ∧ ∃ i, rest = List.range' i (es.size - i) ∧ i ≤ es.size ∧ Q (((List.range es.size).drop i).all f) s) _ ?_ ?_ _ _ ⟨rfl, rfl, 0, by simp, Nat.zero_le _, h'⟩
  · rintro x rest q s' ⟨rfl, rfl, i, hr, hi, hq⟩
    have hlt : i < es.size := by
      rcases Nat.lt_or_ge i es.size with h | h
      · exact h
      · rw [Nat.sub_eq_zero_of_le h] at hr; simp at hr
    obtain ⟨rfl, hrest⟩ : x = i ∧ rest = List.range' (i + 1) (es.size - (i + 1)) := by
      have e : es.size - i = (es.size - (i + 1)) + 1 := by omega
      rw [e, List.range'_succ] at hr
      injection hr with h1 h2
      exact ⟨h1, h2⟩
    have hd : (List.range es.size).drop x = x :: (List.range es.size).drop (x + 1) := by simp [List.drop_eq_getElem_cons, hlt]
    rw [hd, List.all_cons] at hq
    refine wpAny_bind (wpAny_dictEntries DA.o rfl ?_)
    rw [Array.getElem?_eq_getElem hlt]
    have hltk : x < ks.length := by rw [← DA.len]; exact hlt
    have hk := List.getElem?_eq_getElem hltk
    have km : ks[x] ∈ ks := List.getElem_mem hltk
    obtain ⟨n1, n2⟩ : NestedIs s'.heap ks[x] es[x].key ∧ es[x].hash = ks[x].hash w := by
      obtain ⟨e0, e1, e2, e3⟩ := DA.k.get hk
      have e4 : es.toList[x]? = some es[x] := by simp [hlt]
      rw [e4] at e1
      cases e1
      exact ⟨e2, e3⟩
    show wpAny _ _ (holding [es[x].key, es[x].val] _ >>= _) _ _ _
    rw [n2]
    refine wpAny_bind (wpAny_holding (wpAny_bind (find_D DB n1 (DA.dp _ km) (ht _ km) hu ?_)))
    rcases hf x ks[x] es[x] (Array.getElem?_eq_getElem hlt) hk with ⟨hn, hz⟩ | ⟨j, e', hj, he', heq⟩
    · rw [hn]
      rw [hz, Bool.false_and] at hq
      refine wpAny_pure ?_
      show wpAny _ _ (if (!false) = true then _ else _) _ _ _
      rw [if_pos (by decide)]
      exact wpAny_pure (wpAny_pure hq)
    · rw [hj]
      refine wpAny_bind (wpAny_dictEntries DB.o rfl ?_)
      rw [he']
      refine wpAny_holding (heq _ _ ?_)
      generalize f x = t at hq
      cases t with
      | false =>
        rw [Bool.false_and] at hq
        show wpAny _ _ (if (!false) = true then _ else _) _ _ _
        rw [if_pos (by decide)]
        exact wpAny_pure (wpAny_pure hq)
      | true =>
        rw [Bool.true_and] at hq
        show wpAny _ _ (if (!true) = true then _ else _) _ _ _
        rw [if_neg (by decide)]
        refine wpAny_bind (wpAny_dictEpoch DA.o rfl ?_)
        rw [if_neg (by simp)]
        exact wpAny_pure ⟨rfl, rfl, x + 1, hrest, hlt, hq⟩
  · rintro q s' ⟨rfl, rfl, i, hr, hi, hq⟩
    have hin : i = es.size := by
      rcases Nat.lt_or_ge i es.size with h | h
      · have e : es.size - i = (es.size - (i + 1)) + 1 := by omega
        rw [e, List.range'_succ] at hr; exact nomatch hr
      · exact Nat.le_antisymm hi h
    refine wpAny_pure ?_
    rw [hin, show (List.range es.size).drop es.size = [] by simp] at hq
    exact hq
theorem rc_D {a b : Addr} {es es' : Array DictEntry} {ep ep' : Nat} {ks ks' : List NestedKey} {Q : Value → Shared → Prop} (ha : (a == sysModules) = false) (hb : (b == sysModules) = false) (DA : DK w s.heap a es ep ks) (DB : DK w s.heap b es' ep' ks')
    (hu : A.units + 16 < cLine) (f : Nat → Bool) (ht : ∀ k ∈ ks, ∀ x ∈ ks', isT x = isT k)
    (hf : ∀ i k e, es[i]? = some e → ks[i]? = some k → (plc ks' k = none ∧ f i = false) ∨ ∃ j e', plc ks' k = some j ∧ es'[j]? = some e' ∧ EqIn prog w A.in1 s e.val e'.val (f i))
    (h : Q (.bool (es.size == es'.size && (List.range es.size).all f)) s) : wpAny (model prog w) A (richCompare .Eq (.ref a) (.ref b)) Q E s := by
  have ta : s.TypeIs (.ref a) "dict" := ⟨_, DA.o, rfl⟩
  have tb : s.TypeIs (.ref b) "dict" := ⟨_, DB.o, rfl⟩
  refine wpAny_richCompare_same_room (op := .Eq) ta tb PySem.F.slot_dict_eq (wpAny_call_entry PySem.F.slot_dict_eq ta PySem.F.entry_dict_eq ?_ (PySem.F.args_dict_eq_2 _ _)) (by omega)
  show wpAny _ _ (Builtin.Dict.dictSlotArgs "__eq__" ⟨[.ref a, .ref b], []⟩ >>= _) _ _ s
  refine wpAny_bind ?_
  unfold Builtin.Dict.dictSlotArgs
  refine wpAny_bind (wpAny_notOrdered_dict ta ?_)
  show wpAny _ _ (pure (Value.ref a, Value.ref b)) _ _ s
  refine wpAny_pure ?_
  refine wpAny_bind (wpAny_isInstance (T := "dict") tb PySem.F.sub_dict_dict ?_)
  simp only [Bool.not_true, Bool.false_eq_true, if_false]
  refine wpAny_bind (wpAny_pure (wpAny_bind (wpAny_pure ?_)))
  refine wpAny_bind (same_D ha hb DA DB (by show A.units + 1 + 8 < cLine; omega) f ht hf ?_)
  refine wpAny_pure ⟨_, rfl, ?_, ?_⟩
  · exact fun x => nomatch x
  · simpa using h
end
theorem range_all {α : Type} {xs : List α} {q : α → Bool} {f : Nat → Bool} (h : ∀ i x, xs[i]? = some x → f i = q x) : (List.range xs.length).all f = xs.all q := by
  induction xs generalizing f with
  | nil => rfl
  | cons x xs ih =>
    rw [List.length_cons, List.range_succ_eq_map, List.all_cons, List.all_cons, List.all_map, h 0 x rfl]
    rw [ih (f := f ∘ Nat.succ) fun i y hy => h (i + 1) y (by simpa using hy)]
section
variable {X : Cx} {pins : List (Addr × Obj)} {σ : L2.St} {H : Hp} {s : Shared}
theorem ds_rc (I : Inv X pins σ H s) {A : Around} {a b : Addr} {d1 d2 : List (PyData × PyData)} (r1 : Rp X.kx H (.ref a) (.dict d1)) (r2 : Rp X.kx H (.ref b) (.dict d2)) (ok : okDD d1 d2 = true) (hu : A.units + 40 < cLine)
    (E Q : Value → Shared → Prop) (h : Q (.bool (sameDD d1 d2)) s) : wpAny (model X.prog X.w) A (richCompare .Eq (.ref a) (.ref b)) Q E s := by
  cases r1 with
  | @dict _ es ep _ g1 o1 k1 =>
  cases r2 with
  | @dict _ es' ep' _ g2 o2 k2 =>
  have DA := dk_of I g1 (Same.refl _) o1 k1
  have DB := dk_of I g2 (Same.refl _) o2 k2
  have hok : ∀ p ∈ d1, kFit d2 p.1 = true ∧ DcEq.ndB p.2 = true ∧ p.2.depth ≤ 16 := fun p hp => by
    have := List.all_eq_true.mp ok p hp
    simpa using this
  have s1 : es.size = d1.length := k1.size
  have s2 : es'.size = d2.length := k2.size
  refine rc_D (dO_get I g1).1 (dO_get I g2).1 DA DB (by omega) (fun i => match d1[i]? with
    | some p => (match lkD d2 p.1 with | some z => PyData.eqv p.2 z | none => false)
    | none => true) (fun k hk x hx => ?_) (fun i k e he hk => ?_) ?_
  · obtain ⟨p, hp, hn⟩ := mem_ksOf hk
    obtain ⟨q, hq, hm⟩ := mem_ksOf hx
    have := (hok p hp).1
    unfold kFit at this
    simp only [Bool.and_eq_true, List.all_eq_true] at this
    have := this.2 q hq
    rw [nk_isT hn, nk_isT hm]
    simpa using this
  · have e4 : es.toList[i]? = some e := by simpa using he
    obtain ⟨p, vk, vx, h1, h2, h3, h4, h5⟩ := k1.gt e4
    have hp := List.mem_of_getElem? h1
    obtain ⟨ok1, ok2, ok3⟩ := hok p hp
    have hn : nk p.1 = some k := by
      have := congrArg (fun l => l[i]?) (ksOf_map o1.1)
      simp only [List.getElem?_map, h1, hk, Option.map_some] at this
      exact Option.some.inj this
    rw [h1]
    have hl := lkD_pl (ds := d2) (e := p.1)
    have pe := plc_eq hn (ksOf_map o2.1)
    cases el : lkD d2 p.1 with
    | none => exact .inl ⟨(valE_none (es := es') o2 hn el).2.1, by simp only [el]⟩
    | some z =>
      rw [el] at hl
      cases ej : plD d2 p.1 with
      | none => rw [ej] at hl; cases hl
      | some j =>
        rw [ej] at hl
        simp only at hl
        cases eq : d2[j]? with
        | none => rw [eq] at hl; cases hl
        | some q =>
          rw [eq] at hl
          cases hl
          obtain ⟨t, kv, v, t1, t2, t3, t4, t5⟩ := k2.get eq
          refine .inr ⟨j, t, pe.trans ej, by simpa using t1, ?_⟩
          simp only [el]
          have hm := Nat.min_le_left p.2.depth q.2.depth
          exact (DcEq.eqAt_rd (A := A.in1) (Rp.rd I p.2 vx e.val h5 h3) (Rp.rd I q.2 v t.val t5 t3) (.inl ok2) (by show A.units + 1 + min p.2.depth q.2.depth < cLine; omega)).inModel _ _
  · rw [s1, s2, range_all (q := fun p => match lkD d2 p.1 with | some z => PyData.eqv p.2 z | none => false) (fun i x hx => by rw [hx])]
    exact h
/-- the same dict -/
theorem ds_self (I : Inv X pins σ H s) {a : Addr} {d1 d2 : List (PyData × PyData)} (r1 : Rp X.kx H (.ref a) (.dict d1)) (r2 : Rp X.kx H (.ref a) (.dict d2)) (ok : okDD d1 d2 = true) : sameDD d1 d2 = true := by
  cases r1 with
  | @dict _ es ep _ g1 o1 k1 =>
  cases r2 with
  | @dict _ es' ep' _ g2 o2 k2 =>
  have DA := dk_of I g1 (Same.refl _) o1 k1
  have DB := dk_of I g2 (Same.refl _) o2 k2
  have ee : es = es' := by
    have := DA.o.symm.trans DB.o
    cases this
    rfl
  subst ee
  have s1 : es.size = d1.length := k1.size
  have s2 : es.size = d2.length := k2.size
  unfold sameDD
  simp only [Bool.and_eq_true, beq_iff_eq, List.all_eq_true]
  refine ⟨by omega, fun p hp => ?_⟩
  obtain ⟨i, hi⟩ := List.mem_iff_getElem?.mp hp
  have okp := List.all_eq_true.mp ok p hp
  simp only [Bool.and_eq_true, decide_eq_true_eq] at okp
  obtain ⟨t, kv, v, t1, t2, t3, t4, t5⟩ := k1.get hi
  obtain ⟨q, vk, vx, h1, h2, h3, h4, h5⟩ := k2.gt t1
  obtain ⟨k, hk, _⟩ := keyOk_some (o1.1 p hp)
  obtain ⟨k', hk', _⟩ := keyOk_some (o2.1 q (List.mem_of_getElem? h1))
  have ke : k = k' := NestedIs.inj _ _ _ (Rp.nest I _ _ _ k hk t4 t2) (Rp.nest I _ _ _ k' hk' h4 h2)
  subst ke
  have pl : plD d2 p.1 = some i := by
    rw [← plc_eq hk (ksOf_map o2.1)]
    refine plc_some DB.nd ?_
    have := congrArg (fun l => l[i]?) (ksOf_map o2.1)
    simp only [List.getElem?_map, h1, Option.map_some, hk'] at this
    cases e : (ksOf d2)[i]? with
    | none => rw [e] at this; cases this
    | some z => rw [e] at this; exact Option.some.inj (by simpa using this.symm)
  have hl := lkD_pl (ds := d2) (e := p.1)
  rw [pl] at hl
  simp only [h1] at hl
  rw [hl]
  exact DcEq.Rd.same (Rp.rd I p.2 v t.val t5 t3) (Rp.rd I q.2 vx t.val h5 h3) (.inl okp.2.1)
theorem ds_eq (I : Inv X pins σ H s) {A : Around} {x y : V} {u v : Value} {d1 d2 : List (PyData × PyData)} (r1 : Rp X.kx H x (.dict d1)) (r2 : Rp X.kx H y (.dict d2)) (rx : RelV x u) (ry : RelV y v) (ok : okDD d1 d2 = true) (hu : A.units + 40 < cLine) : EqIn X.prog X.w A s u v (sameDD d1 d2) := by
  have e1 : ∃ a, x = .ref a := by cases r1; exact ⟨_, rfl⟩
  have e2 : ∃ a, y = .ref a := by cases r2; exact ⟨_, rfl⟩
  obtain ⟨a, rfl⟩ := e1
  obtain ⟨b, rfl⟩ := e2
  cases (show u = Value.ref a from rx)
  cases (show v = Value.ref b from ry)
  by_cases hab : a = b
  · subst hab
    rw [ds_self I r1 r2 ok]
    intro E Q hq
    unfold eqBool
    refine wpAny_holding ?_
    refine wpAny_ite_split (fun _ => ?_) (fun hab => ?_)
    · exact wpAny_bind (wpAny_rule (wpAny_pure hq))
    · exact absurd (beq_self_eq_true (Value.ref a)) (by first | exact hab | simpa using hab)
  · exact EqIn.of_refs hab fun E Q q => ds_rc I r1 r2 ok hu E Q q
end
/-! (a, b) == (c, d) of dicts -/
def eqPD : PyData → PyData → Option PyData
  | .tuple [.dict a, .dict b], .tuple [.dict c, .dict d] => if (okDD a c && okDD b d) = true then some (.bool (sameDD a c && sameDD b d)) else none
  | _, _ => none
def rEqP (K : Frag) : R2 := fun x y H Q => ∃ a b c d, Rp K H x (.tuple [.dict a, .dict b]) ∧ Rp K H y (.tuple [.dict c, .dict d]) ∧ (okDD a c && okDD b d) = true ∧ Q (.bl (sameDD a c && sameDD b d)) H
theorem hr_eqP {X : Cx} (hu : X.A.units + 64 < cLine) : OpR X (compareOp .Eq) (rEqP X.kx) := by
  intro pins s σ H x y v u Q I rx ry ⟨a, b, c, d, hx, hy, ok, q⟩
  simp only [Bool.and_eq_true] at ok
  cases hx with
  | @tup p xs _ h1 h2 =>
  cases hy with
  | @tup p' ys _ g1 g2 =>
  cases (show v = Value.ref p from rx)
  cases (show u = Value.ref p' from ry)
  obtain ⟨its, r1, p1, _⟩ := I.tuple h1.sq
  obtain ⟨its', r2, p2, _⟩ := I.tuple g1.sq
  cases h2 with
  | cons ha h2 =>
  cases h2 with
  | cons hb h2 =>
  cases h2
  cases g2 with
  | cons hc g2 =>
  cases g2 with
  | cons hd g2 =>
  cases g2
  cases r1 with
  | cons ra r1 =>
  cases r1 with
  | cons rb r1 =>
  cases r1
  cases r2 with
  | cons rc r2 =>
  cases r2 with
  | cons rd r2 =>
  cases r2
  have hu1 : X.A.in1.units + 40 < cLine := by show X.A.units + 1 + 40 < cLine; omega
  refine rcIn_tuples (e := fun j => if j = 0 then sameDD a c else sameDD b d) p1 p2 (by omega) (fun j j1 j2 => ?_) ⟨.bl (sameDD a c && sameDD b d), H, I, ?_, q⟩
  · match j, j1, j2 with
    | 0, _, _ => exact ds_eq I ha hc ra rc ok.1 hu1
    | 1, _, _ => exact ds_eq I hb hd rb rd ok.2 hu1
  · show Value.bool _ = Value.bool _
    simp [List.range_succ]
theorem ho_eqP {K : Frag} : Op2 K (rEqP K) eqPD := by
  intro x y d e z G H Q h rx ry s k
  unfold eqPD at h
  split at h
  · split at h
    · cases h
      exact ⟨_, _, _, _, rx.rp s, ry.rp s, by assumption, k _ G H (Gr.refl s) (.bl _)⟩
    · cases h
  · cases h
@[simp ↓] theorem okO_eqPD {a b c d : List (PyData × PyData)} {P : PyData → Prop} : okO (eqPD (.tuple [.dict a, .dict b]) (.tuple [.dict c, .dict d])) P ↔ (okDD a c && okDD b d) = true ∧ P (.bool (sameDD a c && sameDD b d)) := okO_if
/-! x, y = {}, {} of plain local names -/
section
variable {X : Cx} {W : WX} {pos p1 p2 px py pt pt2 : Pos} {i j kt k2 : Nat} {x y : Str}
theorem ms_par00 (hc : X.calm = true) (hN : X.N.Nodup) (hi : X.N[i]? = some x) (hj : X.N[j]? = some y) (hij : i ≠ j) (hx : X.env.scope.names.lookup x = some .local) (hy : X.env.scope.names.lookup y = some .local)
    (hw : swappedStores [.Tuple [.Name x px, .Name y py] kt pt] (.Tuple [.Dict [] [] p1, .Dict [] [] p2] k2 pt2) X.env = pure (some [x, y]))
    (hs : swapsWithSole [.Tuple [.Name x px, .Name y py] kt pt] (.Tuple [.Dict [] [] p1, .Dict [] [] p2] k2 pt2) pos.line X.env = pure false := by rfl)
    (s1 : starEach [.Dict [] [] p1, .Dict [] [] p2] X.env = (false, eval (.Dict [] [] p1) X.env) :: starEach [.Dict [] [] p2] X.env := by rfl) (s2 : starEach [.Dict [] [] p2] X.env = (false, eval (.Dict [] [] p2) X.env) :: starEach [] X.env := by rfl) :
    MS X W (.Assign [.Tuple [.Name x px, .Name y py] kt pt] (.Tuple [.Dict [] [] p1, .Dict [] [] p2] k2 pt2) pos) (set00 i j) :=
  PS.wk (ps_par hc hN hi hj hij hx hy (pa_cons pe_dict0 (pa_cons pe_dict0 pa_nil s2) s1) hw hs) fun D σ H ⟨F, g, G, A, q⟩ => by
  intro p hp q2 hq2
  refine ⟨_, _, rfl, ?_⟩
  unfold set00 at q
  by_cases hl : i < g.length ∧ j < g.length
  · rw [if_pos hl] at q
    obtain ⟨A1, n1⟩ := A.newNob (o := dO p #[] 0) hp
    obtain ⟨A2, n2⟩ := A1.newNob (o := dO q2 #[] 0) hq2
    have n1a := n1.other (K := X.kx) (o := dO q2 #[] 0) hq2
    have npq : p ≠ q2 := fun e => by rw [← e, upd_same] at hq2; cases hq2
    have B1 := A2.take (i := i) (d := .dict []) n1a ⟨#[], 0, by rw [upd_ne npq, upd_same], keysOk_nil, .nil⟩
    have m2 : Nob F (σ.set i (some (.ref p))) (g.set i (.own false (.dict []))) G _ q2 := ⟨n2.ng, n2.nf, n2.nh, fun k u d hk hz => by
      by_cases e : i = k
      · subst e
        rw [List.getElem?_set_self (by rw [A.len]; exact hl.1)] at hz
        cases hz
        exact npq rfl
      · rw [List.getElem?_set_ne e] at hk hz
        exact n2.no k u d hk hz⟩
    have B2 := B1.take (i := j) (d := .dict []) m2 ⟨#[], 0, upd_same, keysOk_nil, .nil⟩
    exact q _ G _ B2 (Same.refl _)
  · rw [if_neg hl] at q
    exact q.elim
end
end Mi
/-! [.. for .. in d ..], d a dict of one's own, which the body does not look at -/
namespace Mi
open PySem PySem.Spec PyProof.Rows L2
theorem itRepF_keys {K : Frag} {F : Frm} {G : Hp} {a : Addr} {es : Array DictEntry} {ep : Nat} {kvs : List V} {ds : List PyData} (h : F.H a = some (dO a es ep)) (hn : ¬ F.S a) (hv : Vals kvs (es.toList.map (·.key))) (r : RpAll K G kvs ds) : ItRepF K F G (ItDk a es ep kvs) ds := by
  have hl := r.len
  have hk := hv.length
  have hk : kvs.length = es.size := by simpa using hk
  refine ⟨fun G1 H1 s e f => ⟨f _ _ h hn, by omega⟩, fun i d G1 H1 hd s e f => ⟨f _ _ h hn, ?_⟩, fun i d G1 H1 v H2 hd s e f y => ?_⟩
  · have := (List.getElem?_eq_some_iff.mp hd).1
    omega
  · obtain ⟨v', hv', rv⟩ := r.get hd
    obtain ⟨e2, y⟩ := y
    subst e2
    rw [hv'] at y
    cases y
    exact ⟨G1, Gr.refl e, rv.up s⟩
def compQ (i : Nat) (vs : List Nat) (b : PyData → Gm → Option Gm) (tt : MM Bool) (te : MM PyData) : MM (List PyData) := fun g => match g[i]? with
  | some (.own t (.dict ds)) => if ds.length ≤ sizeLine then (match compL vs b tt te (ds.map (·.1)) (wipeG (g.set i .dead) vs) with
    | .ok (zs, g') => (match g'[i]? with
      | some .dead => .ok (zs, g'.set i (.own t (.dict ds)))
      | _ => .error .stuck)
    | .error _ => .error .stuck) else .error .stuck
  | _ => .error .stuck
theorem lc_ofQ {K : Frag} {mg : Mg} {W : WX} {i : Nat} {vs js : List Nat} {b : PyData → Gm → Option Gm} {tt : MM Bool} {te : MM PyData} (hj : ∀ j ∈ js, j ∈ vs) {σ : L2.St} {H : Hp} {Q : VK} (h : cL K mg W (compQ i vs b tt te) σ H Q) :
    tLc (iKeysD (tVar i)) (cG K js b) (cT K mg W0 tt) (cE K mg W0 te) vs σ H Q := by
  obtain ⟨F, g, G, A, q⟩ := h
  have q1 : Po K mg W F σ G (match g[i]? with
  | some (.own t (.dict ds)) => if ds.length ≤ sizeLine then (match compL vs b tt te (ds.map (·.1)) (wipeG (g.set i .dead) vs) with
    | .ok (zs, g') => (match g'[i]? with
      | some .dead => (.ok (zs, g'.set i (.own t (.dict ds))) : Except Er (List PyData × Gm))
      | _ => .error .stuck)
    | .error _ => .error .stuck) else .error .stuck
  | _ => .error .stuck) (fun zs g' G' H' => ∀ D xs, Nob F σ g' G' H' D → H' D = some (.lst xs) → RpAll K G' xs zs → Q (.ref D) H') := q
  generalize eg : g[i]? = sl at q1
  rcases sl with _ | (_ | d | ⟨t, d⟩)
  · exact q1.elim
  · exact q1.elim
  · exact q1.elim
  · cases d with
    | dict ds =>
      simp only at q1
      obtain ⟨p, p1, p2, p3, p4, p5⟩ := A.own i t (.dict ds) eg
      obtain ⟨es, ep, h1, h0, h2⟩ := p3
      obtain ⟨kvs, hv, hr⟩ := h2.keys
      by_cases hl : ds.length ≤ sizeLine
      case neg => rw [if_neg hl] at q1; exact q1.elim
      rw [if_pos hl] at q1
      generalize ec : compL vs b tt te (ds.map (·.1)) (wipeG (g.set i .dead) vs) = rc at q1
      rcases rc with _ | ⟨zs, gf⟩
      · exact q1.elim
      simp only at q1
      generalize ed : gf[i]? = sd at q1
      rcases sd with _ | (_ | d | ⟨u, d⟩)
      · exact q1.elim
      · have k3 : ∀ G' H', At K F σ (gf.set i (.own t (.dict ds))) G' H' → Same G G' → ∀ D xs, Nob F σ (gf.set i (.own t (.dict ds))) G' H' D → H' D = some (.lst xs) → RpAll K G' xs zs → Q (.ref D) H' := q1
        have np := snapI_not A eg p1
        refine ⟨_, p1, p, es, ep, kvs, rfl, h1, hv, fun D hD => ?_⟩
        exact lc_coreP hj (A.snapI i) (itRepF_keys (F := snapI F σ g G H i) h1 np hv hr) hD (by simpa using hl) ec fun G' H' B s D xs n hD r => k3 G' H' (A.thaw eg s B ed) s D xs (Nob.thaw A eg n) hD r
      · exact q1.elim
      · exact q1.elim
    | _ => exact q1.elim
section
variable {X : Cx} {W : WX} {elt tg : Expr} {ifs : List Expr} {scope : Scope} {own : List (Str × Nat)} {pos spos py pn : Pos} {js : List Nat} {b : PyData → Gm → Option Gm} {tt : MM Bool} {te : MM PyData} {z : Str} {n : Nat}
theorem me_lcQ (N : List Str) (sc : Scope) (own : List (Str × Nat)) (hc : X.calm = true) (hN : X.N.Nodup) (hn : PE X (.Name z pn) (tVar n)) (ok : blkC N sc scope own = true)
    (hg : ∀ (s : Shared) (H : Hp) (C : Addr) (cl : List (Str × Addr)) (fp : List Addr), MG (X.blk s H scope (compEnvC scope cl C X.env) fp) tg js b) (ht : ∀ (s : Shared) (H : Hp) (C : Addr) (cl : List (Str × Addr)) (fp : List Addr), MTs (X.blk s H scope (compEnvC scope cl C X.env) fp) W0 ifs tt)
    (he : ∀ (s : Shared) (H : Hp) (C : Addr) (cl : List (Str × Addr)) (fp : List Addr), ME (X.blk s H scope (compEnvC scope cl C X.env) fp) W0 elt te) (hj : ∀ j ∈ js, j ∈ own.map (·.2) := by decide) (hs : ∀ x, foldedSetIterable (.Name z pn) X.env x = pure x := by intro _; rfl) (eN : X.N = N := by rfl) (eS : X.env.scope = sc := by rfl) :
    ME X W (.ListComp elt [⟨tg, .Name z pn, ifs, 0⟩] scope pos) (lstO (compQ n (own.map (·.2)) b tt te)) := PE.wk (pe_lc (g := cG X.kx js b) (tt := cT X.kx X.mg W0 tt) (te := cE X.kx X.mg W0 te) hc hN (pi_keysD hn) (by rw [eN, eS]; exact blkOk_by ok) hg ht he hs) fun σ H Q ⟨F, g, G, A, q⟩ => by
  refine lc_ofQ hj ⟨F, g, G, A, Po.imp q.bnd fun zs g1 G1 H1 A1 s1 k1 D xs n hD r => ?_⟩
  have sg : Same G1 (upd G1 D (.lst xs)) := same_new n.ng
  exact k1 _ H1 (A1.adopt n hD) sg _ (.lst upd_same (r.up sg))
end
def dictOf : PyData → Option (List (PyData × PyData))
  | .dict ds => some ds
  | _ => none
@[simp ↓] theorem okO_dictOf {ds : List (PyData × PyData)} {P : List (PyData × PyData) → Prop} : okO (dictOf (.dict ds)) P ↔ P ds := Iff.rfl
@[simp ↓] theorem ev_compQ {i : Nat} {vs : List Nat} {b : PyData → Gm → Option Gm} {tt : MM Bool} {te : MM PyData} {g : Gm} {Q : List PyData → Gm → Prop} {X : String → Gm → Prop} : ev (compQ i vs b tt te) g Q X ↔ atO g i fun t s => okO (dictOf s) fun ds => ds.length ≤ sizeLine ∧ okC (compL vs b tt te (ds.map (·.1)) (wipeG (g.set i .dead) vs)) fun zs g1 => deadO g1 i (Q zs (g1.set i (.own t s))) := by
  unfold ev okE compQ atO
  generalize g[i]? = s
  rcases s with _ | (_ | d | ⟨t, d⟩)
  · rfl
  · rfl
  · rfl
  · cases d with
    | dict ds =>
      simp only [okO_dictOf]
      by_cases h : ds.length ≤ sizeLine
      · simp only [if_pos h, h, true_and]
        unfold okC
        generalize compL vs b tt te (ds.map (·.1)) (wipeG (g.set i .dead) vs) = r
        rcases r with _ | ⟨zs, g1⟩
        · rfl
        · simp only [if_true]
          unfold deadO
          generalize g1[i]? = s1
          rcases s1 with _ | (_ | d | ⟨u, d⟩) <;> rfl
      · simp [h]
    | _ => rfl
end Mi
namespace Pf
open PySem PySem.Spec PyProof.Rows L2 Mi
def top (i : Nat) : Stmt := PySem.Challenge.pw_netwhole_k67_reads_that_are_alike.main.body.getD i (.Pass ⟨0, 0, 0, 0⟩)
abbrev s_is_whole : Stmt := top 5
abbrev s_is_told : Stmt := top 6
abbrev s_check_history : Stmt := top 8
abbrev s_orders : Stmt := top 9
abbrev s_whole_order : Stmt := top 10
abbrev s_reads_of : Stmt := top 12
abbrev s_same_reads : Stmt := top 11
abbrev s_first_unlike : Stmt := top 14
abbrev s_alike_reads : Stmt := top 13
abbrev s_judge_alike_reads : Stmt := top 15
abbrev s__law_next : Stmt := top 17
abbrev s__law_same : Stmt := top 18
abbrev s__law_is_whole : Stmt := top 19
abbrev s__law_is : Stmt := top 20
abbrev s__law_are_texts : Stmt := top 21
abbrev s__law_changed : Stmt := top 22
abbrev s__law_ints : Stmt := top 23
abbrev s__law_exchanged : Stmt := top 24
abbrev s__law_cut : Stmt := top 25
abbrev s__law_turned_about : Stmt := top 26
abbrev s__law_odd : Stmt := top 27
abbrev s__law_works : Stmt := top 28
abbrev s__law_reads : Stmt := top 29
abbrev s__law_whole : Stmt := top 30
abbrev s__law_orders : Stmt := top 31
abbrev s__law_accepts : Stmt := top 32
abbrev s__law_unfit : Stmt := top 33
abbrev s_law : Stmt := top 34
structure Tp (K : PySem.W.Frag) (mg : Mg) : Type where
  d_is_whole : Df K mg "is_whole" s_is_whole ["value"]
  d_is_told : Df K mg "is_told" s_is_told ["told", "word", "count"]
  d_check_history : Df K mg "check_history" s_check_history ["lines"]
  d_orders : Df K mg "orders" s_orders ["names"]
  d_whole_order : Df K mg "whole_order" s_whole_order ["lines", "order"]
  d_reads_of : Df K mg "reads_of" s_reads_of ["lines"]
  d_same_reads : Df K mg "same_reads" s_same_reads ["lines", "other"]
  d_first_unlike : Df K mg "first_unlike" s_first_unlike ["lines", "order"]
  d_alike_reads : Df K mg "alike_reads" s_alike_reads ["lines"]
  d_judge_alike_reads : Df K mg "judge_alike_reads" s_judge_alike_reads ["lines", "told"]
  d__law_next : Df K mg "_law_next" s__law_next ["state", "limit"]
  d__law_same : Df K mg "_law_same" s__law_same ["actual", "expected"]
  d__law_is_whole : Df K mg "_law_is_whole" s__law_is_whole ["value"]
  d__law_is : Df K mg "_law_is" s__law_is ["told", "word", "count"]
  d__law_are_texts : Df K mg "_law_are_texts" s__law_are_texts ["value"]
  d__law_changed : Df K mg "_law_changed" s__law_changed ["state", "value"]
  d__law_ints : Df K mg "_law_ints" s__law_ints ["value"]
  d__law_exchanged : Df K mg "_law_exchanged" s__law_exchanged ["value", "one", "other"]
  d__law_cut : Df K mg "_law_cut" s__law_cut ["state", "value"]
  d__law_turned_about : Df K mg "_law_turned_about" s__law_turned_about ["state", "told"]
  d__law_odd : Df K mg "_law_odd" s__law_odd ["state", "told"]
  d__law_works : Df K mg "_law_works" s__law_works ["lines"]
  d__law_reads : Df K mg "_law_reads" s__law_reads ["lines"]
  d__law_whole : Df K mg "_law_whole" s__law_whole ["lines", "order"]
  d__law_orders : Df K mg "_law_orders" s__law_orders ["names"]
  d__law_accepts : Df K mg "_law_accepts" s__law_accepts ["lines", "told"]
  d__law_unfit : Df K mg "_law_unfit" s__law_unfit ["lines"]
  d_law : Df K mg "law" s_law ["script"]
  z_ValueError : mg "ValueError" = none
  z_bool : mg "bool" = none
  z_int : mg "int" = none
  z_isinstance : mg "isinstance" = none
  z_len : mg "len" = none
  z_list : mg "list" = none
  z_range : mg "range" = none
  z_set : mg "set" = none
  z_sorted : mg "sorted" = none
  z_str : mg "str" = none
  z_tuple : mg "tuple" = none
  z_zip : mg "zip" = none
  C_TooWide : Addr
  t_TooWide : ExT K mg "TooWide" C_TooWide
  x_TooWide : PySem.W.excIn K C_TooWide [.type "ValueError", .type "Exception", .type "BaseException", .type "object"] "ValueError.__new__" = true
  C_UnfitNet : Addr
  t_UnfitNet : ExT K mg "UnfitNet" C_UnfitNet
  x_UnfitNet : PySem.W.excIn K C_UnfitNet [.type "ValueError", .type "Exception", .type "BaseException", .type "object"] "ValueError.__new__" = true
  h_UnfitNet : ExH K C_UnfitNet
variable {P : Program} {K : Frag} {mg : Mg} {base : Heap}
/-! is_whole -/
theorem sc_is_whole : FnScope ["value"] ["value"] (defScope s_is_whole) := ⟨rfl, rfl, rfl, by decide +kernel, rfl, by decide +kernel, by decide +kernel⟩
def b_is_whole : Gm → Out := (retS (andV (isiM "int" (pkV 0)) (notV (isiM "bool" (pkV 0)))))
def m_is_whole : List PyData → Except Er PyData := runP 1 1 b_is_whole
theorem ok_is_whole (T : Tp K mg) : FnOk P K.w K mg base (L2N.CX P K.w) 1 T.d_is_whole.f T.d_is_whole.fd ["value"] (SpP K mg m_is_whole) := fnP (k := 0) T.d_is_whole.F sc_is_whole (by decide) fun cdv A outer s H E hr => by
    have nd := sc_is_whole.nd
    exact (mb_one (ms_ret (me_and (me_isi "int" T.z_isinstance (pe_bltn (v := .ty "int") rfl T.z_int (by decide +kernel) rfl) (by decide +kernel) (mq_var (pv 0))) (me_one (me_not (MQ.of (me_isi "bool" T.z_isinstance (pe_bltn (v := .ty "bool") rfl T.z_bool (by decide +kernel) rfl) (by decide +kernel) (mq_var (pv 0)))))))))
/-! is_told -/
theorem sc_is_told : FnScope ["told", "word", "count"] ["told", "word", "count"] (defScope s_is_told) := ⟨rfl, rfl, rfl, by decide +kernel, rfl, by decide +kernel, by decide +kernel⟩
def b_is_told : Gm → Out := (seqS (ifS (orT (notT (tru (isiM "tuple" (pkV 0)))) (tstM (op2 neD (op1 lenD (pkV 0)) (pkV 2)))) (retS (ret (.bool false))) nxS)
    (retS (andV (isiM "str" (op2V ixD 0 (ret (.int 0)))) (op2 eqD (op2V ixD 0 (ret (.int 0))) (pkV 1)))))
def m_is_told : List PyData → Except Er PyData := runP 3 3 b_is_told
theorem ok_is_told (T : Tp K mg) : FnOk P K.w K mg base (L2N.CX P K.w) 1 T.d_is_told.f T.d_is_told.fd ["told", "word", "count"] (SpP K mg m_is_told) := fnP (k := 0) T.d_is_told.F sc_is_told (by decide) fun cdv A outer s H E hr => by
    have nd := sc_is_told.nd
    exact (mb_cons (ms_if (mt_w (mw_or (mt_not (mt_tru (MQ.of (me_isi "tuple" T.z_isinstance (pe_bltn (v := .ty "tuple") rfl T.z_tuple (by decide +kernel) rfl) (by decide +kernel) (mq_var (pv 0)))))) (mw_or1 (mt_cmp ho_ne (hr_ne hr.units) (me_B1 ho_len hr_len (by rfl) T.z_len PySem.boot_len (mq_var (pv 0))) (mq_var (pv 2)) (nomark _))))) (mb_one (ms_ret me_bl)) mb_nil)
    (mb_one (ms_ret (me_and (me_isi "str" T.z_isinstance (pe_bltn (v := .ty "str") rfl T.z_str (by decide +kernel) rfl) (by decide +kernel) (MQ.of (me_ixV ho_ix (ix_all hr.units) (pv 0) (MQ.of me_int) (fun _ _ => rfl)))) (me_one (me_cmp ho_eq (hr_eq hr.units) (me_ixV ho_ix (ix_all hr.units) (pv 0) (MQ.of me_int) (fun _ _ => rfl)) (mq_var (pv 1)) (nomark _)))))))
/-! check_history -/
theorem sc_check_history : FnScope ["lines", "line", "part"] ["lines"] (defScope s_check_history) := ⟨rfl, rfl, rfl, by decide +kernel, rfl, by decide +kernel, by decide +kernel⟩
def b_check_history : Gm → Out := (seqS (forS (seqI (rdV 0)) (bName 1) (ifS (orT (tstM (op2 neD (op1 lenD (pkV 1)) (ret (.int 3)))) (orT (tstM (op2 (inD id) (ret (.bool false)) (lstO (compM (seqI (rdV 1)) [2] (bName 2) yesM (isiM "str" (pkV 2)))))) (tstM (op2 (inD not) (op2V ixD 1 (ret (.int 1))) (tupM (consM (ret (.str "read")) (consM (ret (.str "write")) nilM))))))) (raiseS "UnfitNet") nxS))
    (seqS (ifS (tstM (op2 gtD (op1 lenD (pkV 0)) (ret (.int 40)))) (raiseS "TooWide") nxS)
    (retS (op1 sortSetX (lstO (compM (seqI (rdV 0)) [1] (bName 1) yesM (op2V ixD 1 (ret (.int 0)))))))))
def m_check_history : List PyData → Except Er PyData := runP 3 1 b_check_history
theorem ok_check_history (T : Tp K mg) : FnOk P K.w K mg base (L2N.CX P K.w) 1 T.d_check_history.f T.d_check_history.fd ["lines"] (SpP K mg m_check_history) := fnP (k := 0) T.d_check_history.F sc_check_history (by decide) fun cdv A outer s H E hr => by
    have nd := sc_check_history.nd
    exact (mb_cons (ms_for (passes_of rfl) rfl (mi_seq (me_var (pv 0))) (mg_name (i := 1) nd rfl (Or.inl rfl)) (mb_one (ms_if (mt_w (mw_or (mt_cmp ho_ne (hr_ne hr.units) (me_B1 ho_len hr_len (by rfl) T.z_len PySem.boot_len (mq_var (pv 1))) (MQ.of me_int) (nomark _)) (mw_or (mt_cmp ho_in (op_in (u65 hr)) me_bl (MQ.of (me_lc ["lines", "line", "part"] (defScope s_check_history) [("part", 2)] rfl nd (mi_seq (me_var (pv 1))) (by decide +kernel) (fun _ _ _ _ _ => (mg_name (i := 2) nd rfl (by first | exact Or.inl rfl | exact Or.inr rfl))) (fun _ _ _ _ _ => mts_nil) (fun _ _ _ _ _ => (me_isi "str" T.z_isinstance (pe_bltn (v := .ty "str") rfl T.z_str (by decide +kernel) rfl) (by decide +kernel) (mq_var (pv 2)))))) (by with_unfolding_all rfl)) (mw_or1 (mt_cmp ho_in (op_ni (u65 hr)) (me_ixV ho_ix (ix_all hr.units) (pv 1) (MQ.of me_int) (fun _ _ => rfl)) (MQ.of (me_tup (ma_cons me_str (ma_cons me_str ma_nil)))) (by with_unfolding_all rfl)))))) (mb_one (ms_raise1 (c := "UnfitNet") rfl (L2N.takes_of rfl rfl rfl rfl) T.t_UnfitNet T.x_UnfitNet PySem.F.excBase_ValueError (by rfl) (by decide))) mb_nil)))
    (mb_cons (ms_if (mt_cmp ho_gt op_gt (me_B1 ho_len hr_len (by rfl) T.z_len PySem.boot_len (mq_var (pv 0))) (MQ.of me_int) (nomark _)) (mb_one (ms_raise1 (c := "TooWide") rfl (L2N.takes_of rfl rfl rfl rfl) T.t_TooWide T.x_TooWide PySem.F.excBase_ValueError (by rfl) (by decide))) mb_nil)
    (mb_one (ms_ret (me_sortSetX T.z_sorted T.z_set hr.units (me_lc ["lines", "line", "part"] (defScope s_check_history) [("line", 1)] rfl nd (mi_seq (me_var (pv 0))) (by decide +kernel) (fun _ _ _ _ _ => (mg_name (i := 1) nd rfl (by first | exact Or.inl rfl | exact Or.inr rfl))) (fun _ _ _ _ _ => mts_nil) (fun _ _ _ _ _ => (me_ixV ho_ix (ix_all hr.units) (pv 1) (MQ.of me_int) (fun _ _ => rfl)))))))))
/-! orders -/
theorem sc_orders : FnScope ["names", "found", "_", "row", "name"] ["names"] (defScope s_orders) := ⟨rfl, rfl, rfl, by decide +kernel, rfl, by decide +kernel, by decide +kernel⟩
def b_orders : Gm → Out := (seqS (setS 1 (lstM (consM (tupM nilM) nilM)))
    (seqS (forS (seqI (rdV 0)) (bName 2) (setS 1 (lstO (compM2 (seqI (rdV 1)) [3, 4] [4] (bName 3) yesM (seqI (rdV 0)) (bName 4) (tstM (op2V (inD not) 4 (pkV 3))) (op2V addD 3 (tupM (consM (rdV 4) nilM)))))))
    (retS (rdV 1))))
def m_orders : List PyData → Except Er PyData := runP 5 1 b_orders
theorem ok_orders (T : Tp K mg) : FnOk P K.w K mg base (L2N.CX P K.w) 1 T.d_orders.f T.d_orders.fd ["names"] (SpP K mg m_orders) := fnP (k := 0) T.d_orders.F sc_orders (by decide) fun cdv A outer s H E hr => by
    have nd := sc_orders.nd
    exact (mb_cons (ms_set (i := 1) nd rfl (Or.inl rfl) (me_lst (ma_cons (me_tup ma_nil) ma_nil)))
    (mb_cons (ms_for (passes_of rfl) rfl (mi_seq (me_var (pv 0))) (mg_name (i := 2) nd rfl (Or.inl rfl)) (mb_one (ms_setLc2 ["names", "found", "_", "row", "name"] (defScope s_orders) [("row", 3), ("name", 4)] [4] (i := 1) rfl nd rfl rfl (sw_true rfl rfl rfl (by decide +kernel)) (mi_seq (me_var (pv 1))) (by decide +kernel) (fun _ _ _ _ _ => (mg_name (i := 3) nd rfl (by first | exact Or.inl rfl | exact Or.inr rfl))) (fun _ _ _ _ _ => mts_nil) (fun _ _ _ _ _ => (mi_seq (me_var (pv 0)))) (fun _ _ _ _ _ => (mg_name (i := 4) nd rfl (by first | exact Or.inl rfl | exact Or.inr rfl))) (fun _ _ _ _ _ => (mts_one (mt_cmpV ho_in (op_ni (u65 hr)) (pv 4) (mq_var (pv 3)) (by with_unfolding_all rfl)))) (fun _ _ _ _ _ => (me_opV ho_add hr_add (pv 3) (MQ.of (me_tup (ma_cons (me_var (pv 4)) ma_nil))))))))
    (mb_one (ms_ret (me_var (pv 1))))))
/-! whole_order -/
theorem sc_whole_order : FnScope ["lines", "order", "work", "line"] ["lines", "order"] (defScope s_whole_order) := ⟨rfl, rfl, rfl, by decide +kernel, rfl, by decide +kernel, by decide +kernel⟩
def b_whole_order : Gm → Out := (retS (op1 tup2D (lstO (compM2 (seqI (rdV 1)) [2, 3] [3] (bName 2) yesM (seqI (rdV 0)) (bName 3) (tstM (op2 eqD (op2V ixD 3 (ret (.int 0))) (pkV 2))) (rdV 3)))))
def m_whole_order : List PyData → Except Er PyData := runP 4 2 b_whole_order
theorem ok_whole_order (T : Tp K mg) : FnOk P K.w K mg base (L2N.CX P K.w) 1 T.d_whole_order.f T.d_whole_order.fd ["lines", "order"] (SpP K mg m_whole_order) := fnP (k := 0) T.d_whole_order.F sc_whole_order (by decide) fun cdv A outer s H E hr => by
    have nd := sc_whole_order.nd
    exact (mb_one (ms_ret (me_T1 ho_tup2 (hr_tup2 hr.hd) (by rfl) T.z_tuple (by decide +kernel) (MQ.of (me_lc2 ["lines", "order", "work", "line"] (defScope s_whole_order) [("work", 2), ("line", 3)] [3] rfl nd (mi_seq (me_var (pv 1))) (by decide +kernel) (fun _ _ _ _ _ => (mg_name (i := 2) nd rfl (by first | exact Or.inl rfl | exact Or.inr rfl))) (fun _ _ _ _ _ => mts_nil) (fun _ _ _ _ _ => (mi_seq (me_var (pv 0)))) (fun _ _ _ _ _ => (mg_name (i := 3) nd rfl (by first | exact Or.inl rfl | exact Or.inr rfl))) (fun _ _ _ _ _ => (mts_one (mt_cmp ho_eq (hr_eq hr.units) (me_ixV ho_ix (ix_all hr.units) (pv 3) (MQ.of me_int) (fun _ _ => rfl)) (mq_var (pv 2)) (nomark _)))) (fun _ _ _ _ _ => (me_var (pv 3))))))))
/-! reads_of -/
theorem sc_reads_of : FnScope ["lines", "counts", "found", "writers", "work", "deed", "thing"] ["lines"] (defScope s_reads_of) := ⟨rfl, rfl, rfl, by decide +kernel, rfl, by decide +kernel, by decide +kernel⟩
def b_reads_of : Gm → Out := (seqS (setK 1 (ret []))
    (seqS (setK 2 (ret []))
    (seqS (setK 3 (ret []))
    (seqS (forS (seqI (rdV 0)) (bTup 3 (bCons (bName 4) (bCons (bName 5) (bCons (bName 6) bNil)))) (ifS (tstM (op2V eqD 5 (ret (.str "read")))) (seqS (stoK 1 (tupM (consM (rdV 4) (consM (rdV 6) nilM))) (op2 addD (metV ["dict"] dgetD 1 (consM (tupM (consM (rdV 4) (consM (rdV 6) nilM))) (consM (ret (.int 0)) nilM))) (ret (.int 1))))
    (stoK 2 (tupM (consM (rdV 4) (consM (rdV 6) (consM (op2V ixD 1 (tupM (consM (rdV 4) (consM (rdV 6) nilM)))) nilM)))) (metV ["dict"] dgetD 3 (consM (rdV 6) (consM (ret (.str "")) nilM))))) (stoK 3 (rdV 6) (rdV 4))))
    (retS (tupM (consM (rdV 2) (consM (rdV 3) nilM))))))))
def m_reads_of : List PyData → Except Er PyData := runP 7 1 b_reads_of
theorem ok_reads_of (T : Tp K mg) : FnOk P K.w K mg base (L2N.CX P K.w) 1 T.d_reads_of.f T.d_reads_of.fd ["lines"] (SpP K mg m_reads_of) := fnP (k := 0) T.d_reads_of.F sc_reads_of (by decide) fun cdv A outer s H E hr => by
    have nd := sc_reads_of.nd
    exact (mb_cons (ms_setDn (i := 1) nd rfl (Or.inl rfl) pe_dict0n)
    (mb_cons (ms_setDn (i := 2) nd rfl (Or.inl rfl) pe_dict0n)
    (mb_cons (ms_setDn (i := 3) nd rfl (Or.inl rfl) pe_dict0n)
    (mb_cons (ms_for (passes_of rfl) rfl (mi_seq (me_var (pv 0))) (mg_tup rfl (mgs_cons (mg_name (i := 4) nd rfl (Or.inl rfl)) (mgs_cons (mg_name (i := 5) nd rfl (Or.inl rfl)) (mgs_cons (mg_name (i := 6) nd rfl (Or.inl rfl)) mgs_nil)))) (mb_one (ms_if (mt_cmpV ho_eq (hr_eq hr.units) (pv 5) (MQ.of me_str) (nomark _)) (mb_cons (ms_stoK hr.units (pv 1) (me_tup (ma_cons (me_var (pv 4)) (ma_cons (me_var (pv 6)) ma_nil))) (me_op ho_add hr_add (me_get2V hr.units (pv 1) (me_tup (ma_cons (me_var (pv 4)) (ma_cons (me_var (pv 6)) ma_nil))) me_int) (MQ.of me_int)))
    (mb_one (ms_stoK hr.units (pv 2) (me_tup (ma_cons (me_var (pv 4)) (ma_cons (me_var (pv 6)) (ma_cons (me_ixV ho_ix (ix_all hr.units) (pv 1) (MQ.of (me_tup (ma_cons (me_var (pv 4)) (ma_cons (me_var (pv 6)) ma_nil)))) (fun _ _ => rfl)) ma_nil)))) (me_get2V hr.units (pv 3) (me_var (pv 6)) me_str)))) (mb_one (ms_stoK hr.units (pv 3) (me_var (pv 6)) (me_var (pv 4)))))))
    (mb_one (ms_ret (me_tup (ma_cons (me_var (pv 2)) (ma_cons (me_var (pv 3)) ma_nil)))))))))
/-! same_reads -/
theorem sc_same_reads : FnScope ["lines", "other"] ["lines", "other"] (defScope s_same_reads) := ⟨rfl, rfl, rfl, by decide +kernel, rfl, by decide +kernel, by decide +kernel⟩
def b_same_reads : Gm → Out := (retS (op2 eqPD (callM m_reads_of (consM (rdV 0) nilM)) (callM m_reads_of (consM (rdV 1) nilM))))
def m_same_reads : List PyData → Except Er PyData := runP 2 2 b_same_reads
theorem ok_same_reads (T : Tp K mg) : FnOk P K.w K mg base (L2N.CX P K.w) 2 T.d_same_reads.f T.d_same_reads.fd ["lines", "other"] (SpP K mg m_same_reads) := fnP (k := 1) T.d_same_reads.F sc_same_reads (by decide) fun cdv A outer s H E hr => by
    have nd := sc_same_reads.nd
    exact (mb_one (ms_ret (me_cmp ho_eqP (hr_eqP hr.units) (me_call (ok_reads_of T) (hr.mono (by decide)) T.d_reads_of.g T.d_reads_of.k T.d_reads_of.b (L2N.takes_of rfl rfl rfl rfl) (ma_cons (me_var (pv 0)) ma_nil)) (MQ.of (me_call (ok_reads_of T) (hr.mono (by decide)) T.d_reads_of.g T.d_reads_of.k T.d_reads_of.b (L2N.takes_of rfl rfl rfl rfl) (ma_cons (me_var (pv 1)) ma_nil))) (nomark _))))
/-! first_unlike -/
theorem sc_first_unlike : FnScope ["lines", "order", "reads", "writers", "others", "lasts", "unlike", "key", "thing"] ["lines", "order"] (defScope s_first_unlike) := ⟨rfl, rfl, rfl, by decide +kernel, rfl, by decide +kernel, by decide +kernel⟩
def b_first_unlike : Gm → Out := (seqS (asgS (bTup 2 (bCons (bName 2) (bCons (bName 3) bNil))) (callM m_reads_of (consM (rdV 0) nilM)))
    (seqS (asgS (bTup 2 (bCons (bName 4) (bCons (bName 5) bNil))) (callM m_reads_of (consM (callM m_whole_order (consM (rdV 0) (consM (rdV 1) nilM))) nilM)))
    (seqS (setS 6 (lstO (compM (seqI (op1 sortG (pkV 2))) [7] (bName 7) (tstM (op2 neD (op2V ixD 2 (pkV 7)) (op2V ixD 4 (pkV 7)))) (rdV 7))))
    (seqS (ifS (tru (pkV 6)) (retS (op2V ixD 6 (ret (.int 0)))) nxS)
    (retS (tupM (consM (op2 ixD (lstO (compM (seqI (op1 sortG (pkV 3))) [8] (bName 8) (tstM (op2 neD (op2V ixD 3 (pkV 8)) (op2V ixD 5 (pkV 8)))) (rdV 8))) (ret (.int 0))) nilM)))))))
def m_first_unlike : List PyData → Except Er PyData := runP 9 2 b_first_unlike
theorem ok_first_unlike (T : Tp K mg) : FnOk P K.w K mg base (L2N.CX P K.w) 2 T.d_first_unlike.f T.d_first_unlike.fd ["lines", "order"] (SpP K mg m_first_unlike) := fnP (k := 1) T.d_first_unlike.F sc_first_unlike (by decide) fun cdv A outer s H E hr => by
    have nd := sc_first_unlike.nd
    exact (mb_cons (ms_asg (me_call (ok_reads_of T) (hr.mono (by decide)) T.d_reads_of.g T.d_reads_of.k T.d_reads_of.b (L2N.takes_of rfl rfl rfl rfl) (ma_cons (me_var (pv 0)) ma_nil)) (mg_tup rfl (mgs_cons (mg_name (i := 2) nd rfl (Or.inr rfl)) (mgs_cons (mg_name (i := 3) nd rfl (Or.inr rfl)) mgs_nil))))
    (mb_cons (ms_asg (me_call (ok_reads_of T) (hr.mono (by decide)) T.d_reads_of.g T.d_reads_of.k T.d_reads_of.b (L2N.takes_of rfl rfl rfl rfl) (ma_cons (me_call (ok_whole_order T) (hr.mono (by decide)) T.d_whole_order.g T.d_whole_order.k T.d_whole_order.b (L2N.takes_of rfl rfl rfl rfl) (ma_cons (me_var (pv 0)) (ma_cons (me_var (pv 1)) ma_nil))) ma_nil)) (mg_tup rfl (mgs_cons (mg_name (i := 4) nd rfl (Or.inr rfl)) (mgs_cons (mg_name (i := 5) nd rfl (Or.inr rfl)) mgs_nil))))
    (mb_cons (ms_setLc ["lines", "order", "reads", "writers", "others", "lasts", "unlike", "key", "thing"] (defScope s_first_unlike) [("key", 7)] (i := 6) rfl nd rfl rfl (sw_true rfl rfl rfl (by decide +kernel)) (mi_seq (me_B1 ho_sortG (cr_sortG hr.units hr.hd) (by rfl) T.z_sorted PyProof.Rows.boot_sorted (mq_var (pv 2)))) (by decide +kernel) (fun _ _ _ _ _ => (mg_name (i := 7) nd rfl (by first | exact Or.inl rfl | exact Or.inr rfl))) (fun _ _ _ _ _ => (mts_one (mt_cmp ho_ne (hr_ne hr.units) (me_ixV ho_ix (ix_all hr.units) (pv 2) (mq_var (pv 7)) (fun _ _ => rfl)) (MQ.of (me_ixV ho_ix (ix_all hr.units) (pv 4) (mq_var (pv 7)) (fun _ _ => rfl))) (nomark _)))) (fun _ _ _ _ _ => (me_var (pv 7))))
    (mb_cons (ms_if (mt_tru (mq_var (pv 6))) (mb_one (ms_ret (me_ixV ho_ix (ix_all hr.units) (pv 6) (MQ.of me_int) (fun _ _ => rfl)))) mb_nil)
    (mb_one (ms_ret (me_tup (ma_cons (me_ix ho_ix (ix_all hr.units) (me_lc ["lines", "order", "reads", "writers", "others", "lasts", "unlike", "key", "thing"] (defScope s_first_unlike) [("thing", 8)] rfl nd (mi_seq (me_B1 ho_sortG (cr_sortG hr.units hr.hd) (by rfl) T.z_sorted PyProof.Rows.boot_sorted (mq_var (pv 3)))) (by decide +kernel) (fun _ _ _ _ _ => (mg_name (i := 8) nd rfl (by first | exact Or.inl rfl | exact Or.inr rfl))) (fun _ _ _ _ _ => (mts_one (mt_cmp ho_ne (hr_ne hr.units) (me_ixV ho_ix (ix_all hr.units) (pv 3) (mq_var (pv 8)) (fun _ _ => rfl)) (MQ.of (me_ixV ho_ix (ix_all hr.units) (pv 5) (mq_var (pv 8)) (fun _ _ => rfl))) (nomark _)))) (fun _ _ _ _ _ => (me_var (pv 8)))) (MQ.of me_int) (fun _ _ => rfl)) ma_nil))))))))
/-! alike_reads -/
theorem sc_alike_reads : FnScope ["lines", "works", "entries", "order"] ["lines"] (defScope s_alike_reads) := ⟨rfl, rfl, rfl, by decide +kernel, rfl, by decide +kernel, by decide +kernel⟩
def b_alike_reads : Gm → Out := (seqS (setS 1 (callM m_check_history (consM (rdV 0) nilM)))
    (seqS (ifS (tstM (op2 gtD (op1 lenD (pkV 1)) (ret (.int 4)))) (raiseS "TooWide") nxS)
    (seqS (setL 2 nilM)
    (seqS (forS (seqI (callM m_orders (consM (rdV 1) nilM))) (bName 3) (seqS (ifS (tru (callM m_same_reads (consM (rdV 0) (consM (callM m_whole_order (consM (rdV 0) (consM (rdV 3) nilM))) nilM)))) (retS (tupM (consM (ret (.str "order")) (consM (rdV 3) nilM)))) nxS)
    (dropS (appM 2 (callM m_first_unlike (consM (rdV 0) (consM (rdV 3) nilM)))))))
    (retS (tupM (consM (ret (.str "never")) (consM (op1 tup2D (pkV 2)) nilM))))))))
def m_alike_reads : List PyData → Except Er PyData := runP 4 1 b_alike_reads
theorem ok_alike_reads (T : Tp K mg) : FnOk P K.w K mg base (L2N.CX P K.w) 3 T.d_alike_reads.f T.d_alike_reads.fd ["lines"] (SpP K mg m_alike_reads) := fnP (k := 2) T.d_alike_reads.F sc_alike_reads (by decide) fun cdv A outer s H E hr => by
    have nd := sc_alike_reads.nd
    exact (mb_cons (ms_set (i := 1) nd rfl (Or.inl rfl) (me_call (ok_check_history T) (hr.mono (by decide)) T.d_check_history.g T.d_check_history.k T.d_check_history.b (L2N.takes_of rfl rfl rfl rfl) (ma_cons (me_var (pv 0)) ma_nil)))
    (mb_cons (ms_if (mt_cmp ho_gt op_gt (me_B1 ho_len hr_len (by rfl) T.z_len PySem.boot_len (mq_var (pv 1))) (MQ.of me_int) (nomark _)) (mb_one (ms_raise1 (c := "TooWide") rfl (L2N.takes_of rfl rfl rfl rfl) T.t_TooWide T.x_TooWide PySem.F.excBase_ValueError (by rfl) (by decide))) mb_nil)
    (mb_cons (ms_setL (i := 2) nd rfl (Or.inl rfl) ma_nil)
    (mb_cons (ms_for (passes_of rfl) rfl (mi_seq (me_call (ok_orders T) (hr.mono (by decide)) T.d_orders.g T.d_orders.k T.d_orders.b (L2N.takes_of rfl rfl rfl rfl) (ma_cons (me_var (pv 1)) ma_nil))) (mg_name (i := 3) nd rfl (Or.inl rfl)) (mb_cons (ms_if (mt_tru (MQ.of (me_call (ok_same_reads T) (hr.mono (by decide)) T.d_same_reads.g T.d_same_reads.k T.d_same_reads.b (L2N.takes_of rfl rfl rfl rfl) (ma_cons (me_var (pv 0)) (ma_cons (me_call (ok_whole_order T) (hr.mono (by decide)) T.d_whole_order.g T.d_whole_order.k T.d_whole_order.b (L2N.takes_of rfl rfl rfl rfl) (ma_cons (me_var (pv 0)) (ma_cons (me_var (pv 3)) ma_nil))) ma_nil))))) (mb_one (ms_ret (me_tup (ma_cons me_str (ma_cons (me_var (pv 3)) ma_nil))))) mb_nil)
    (mb_one (ms_expr (me_app (pv 2) (me_call (ok_first_unlike T) (hr.mono (by decide)) T.d_first_unlike.g T.d_first_unlike.k T.d_first_unlike.b (L2N.takes_of rfl rfl rfl rfl) (ma_cons (me_var (pv 0)) (ma_cons (me_var (pv 3)) ma_nil))) (fun ho he => pe_bm PySem.F.plainAttrs_list PySem.F.slot_list_append PySem.F.type_list_append mt_append ho (pa_cons he pa_nil)))))))
    (mb_one (ms_ret (me_tup (ma_cons me_str (ma_cons (me_T1 ho_tup2 (hr_tup2 hr.hd) (by rfl) T.z_tuple (by decide +kernel) (mq_var (pv 2))) ma_nil)))))))))
/-! judge_alike_reads -/
theorem sc_judge_alike_reads : FnScope ["lines", "told", "works", "reads", "writers", "entry", "order", "others", "lasts", "work", "part"] ["lines", "told"] (defScope s_judge_alike_reads) := ⟨rfl, rfl, rfl, by decide +kernel, rfl, by decide +kernel, by decide +kernel⟩
def b_judge_alike_reads : Gm → Out := (seqS (setS 2 (callM m_check_history (consM (rdV 0) nilM)))
    (seqS (ifS (tstM (op2 gtD (op1 lenD (pkV 2)) (ret (.int 4)))) (raiseS "TooWide") nxS)
    (seqS (ifS (tru (callM m_is_told (consM (rdV 1) (consM (ret (.str "order")) (consM (ret (.int 2)) nilM))))) (seqS (ifS (orT (notT (tru (isiM "tuple" (op2V ixD 1 (ret (.int 1)))))) (tstM (op2 (inD id) (ret (.bool false)) (lstO (compM (seqI (op2V ixD 1 (ret (.int 1)))) [9] (bName 9) yesM (isiM "str" (pkV 9))))))) (retS (ret (.bool false))) nxS)
    (retS (andV (op2 eqD (op1 sortG (op2V ixD 1 (ret (.int 1)))) (pkV 2)) (callM m_same_reads (consM (rdV 0) (consM (callM m_whole_order (consM (rdV 0) (consM (op2V ixD 1 (ret (.int 1))) nilM))) nilM)))))) nxS)
    (seqS (ifS (orT (notT (tru (callM m_is_told (consM (rdV 1) (consM (ret (.str "never")) (consM (ret (.int 2)) nilM)))))) (orT (notT (tru (isiM "tuple" (op2V ixD 1 (ret (.int 1)))))) (tstM (op2 neD (op1 lenD (op2V ixD 1 (ret (.int 1)))) (op1 lenD (callM m_orders (consM (rdV 2) nilM))))))) (retS (ret (.bool false))) nxS)
    (seqS (asgS (bTup 2 (bCons (bName 3) (bCons (bName 4) bNil))) (callM m_reads_of (consM (rdV 0) nilM)))
    (seqS (forS (zipM (op2V ixD 1 (ret (.int 1))) (callM m_orders (consM (rdV 2) nilM))) (bTup 2 (bCons (bName 5) (bCons (bName 6) bNil))) (seqS (ifS (orT (notT (tru (isiM "tuple" (pkV 5)))) (tstM (op2 (inD id) (ret (.bool false)) (lstO (compM (seqI (rdV 5)) [10] (bName 10) yesM (orV (isiM "str" (pkV 10)) (callM m_is_whole (consM (rdV 10) nilM)))))))) (retS (ret (.bool false))) nxS)
    (seqS (asgS (bTup 2 (bCons (bName 7) (bCons (bName 8) bNil))) (callM m_reads_of (consM (callM m_whole_order (consM (rdV 0) (consM (rdV 6) nilM))) nilM)))
    (ifS (tstM (op2 eqD (op1 lenD (pkV 5)) (ret (.int 1)))) (ifS (orT (tstM (op2 (inD not) (op2V ixD 5 (ret (.int 0))) (pkV 4))) (tstM (op2 eqD (op2V ixD 4 (op2V ixD 5 (ret (.int 0)))) (op2V ixD 8 (op2V ixD 5 (ret (.int 0))))))) (retS (ret (.bool false))) nxS) (ifS (orT (tstM (op2V (inD not) 5 (pkV 3))) (tstM (op2 eqD (op2V ixD 3 (pkV 5)) (op2V ixD 7 (pkV 5))))) (retS (ret (.bool false))) nxS)))))
    (retS (ret (.bool true)))))))))
def m_judge_alike_reads : List PyData → Except Er PyData := runP 11 2 b_judge_alike_reads
theorem ok_judge_alike_reads (T : Tp K mg) : FnOk P K.w K mg base (L2N.CX P K.w) 3 T.d_judge_alike_reads.f T.d_judge_alike_reads.fd ["lines", "told"] (SpP K mg m_judge_alike_reads) := fnP (k := 2) T.d_judge_alike_reads.F sc_judge_alike_reads (by decide) fun cdv A outer s H E hr => by
    have nd := sc_judge_alike_reads.nd
    exact (mb_cons (ms_set (i := 2) nd rfl (Or.inl rfl) (me_call (ok_check_history T) (hr.mono (by decide)) T.d_check_history.g T.d_check_history.k T.d_check_history.b (L2N.takes_of rfl rfl rfl rfl) (ma_cons (me_var (pv 0)) ma_nil)))
    (mb_cons (ms_if (mt_cmp ho_gt op_gt (me_B1 ho_len hr_len (by rfl) T.z_len PySem.boot_len (mq_var (pv 2))) (MQ.of me_int) (nomark _)) (mb_one (ms_raise1 (c := "TooWide") rfl (L2N.takes_of rfl rfl rfl rfl) T.t_TooWide T.x_TooWide PySem.F.excBase_ValueError (by rfl) (by decide))) mb_nil)
    (mb_cons (ms_if (mt_tru (MQ.of (me_call (ok_is_told T) (hr.mono (by decide)) T.d_is_told.g T.d_is_told.k T.d_is_told.b (L2N.takes_of rfl rfl rfl rfl) (ma_cons (me_var (pv 1)) (ma_cons me_str (ma_cons me_int ma_nil)))))) (mb_cons (ms_if (mt_w (mw_or (mt_not (mt_tru (MQ.of (me_isi "tuple" T.z_isinstance (pe_bltn (v := .ty "tuple") rfl T.z_tuple (by decide +kernel) rfl) (by decide +kernel) (MQ.of (me_ixV ho_ix (ix_all hr.units) (pv 1) (MQ.of me_int) (fun _ _ => rfl))))))) (mw_or1 (mt_cmp ho_in (op_in (u65 hr)) me_bl (MQ.of (me_lc ["lines", "told", "works", "reads", "writers", "entry", "order", "others", "lasts", "work", "part"] (defScope s_judge_alike_reads) [("work", 9)] rfl nd (mi_seq (me_ixV ho_ix (ix_all hr.units) (pv 1) (MQ.of me_int) (fun _ _ => rfl))) (by decide +kernel) (fun _ _ _ _ _ => (mg_name (i := 9) nd rfl (by first | exact Or.inl rfl | exact Or.inr rfl))) (fun _ _ _ _ _ => mts_nil) (fun _ _ _ _ _ => (me_isi "str" T.z_isinstance (pe_bltn (v := .ty "str") rfl T.z_str (by decide +kernel) rfl) (by decide +kernel) (mq_var (pv 9)))))) (by with_unfolding_all rfl))))) (mb_one (ms_ret me_bl)) mb_nil)
    (mb_one (ms_ret (me_and (me_cmp ho_eq (hr_eq hr.units) (me_B1 ho_sortG (cr_sortG hr.units hr.hd) (by rfl) T.z_sorted PyProof.Rows.boot_sorted (MQ.of (me_ixV ho_ix (ix_all hr.units) (pv 1) (MQ.of me_int) (fun _ _ => rfl)))) (mq_var (pv 2)) (nomark _)) (me_one (me_call (ok_same_reads T) (hr.mono (by decide)) T.d_same_reads.g T.d_same_reads.k T.d_same_reads.b (L2N.takes_of rfl rfl rfl rfl) (ma_cons (me_var (pv 0)) (ma_cons (me_call (ok_whole_order T) (hr.mono (by decide)) T.d_whole_order.g T.d_whole_order.k T.d_whole_order.b (L2N.takes_of rfl rfl rfl rfl) (ma_cons (me_var (pv 0)) (ma_cons (me_ixV ho_ix (ix_all hr.units) (pv 1) (MQ.of me_int) (fun _ _ => rfl)) ma_nil))) ma_nil)))))))) mb_nil)
    (mb_cons (ms_if (mt_w (mw_or (mt_not (mt_tru (MQ.of (me_call (ok_is_told T) (hr.mono (by decide)) T.d_is_told.g T.d_is_told.k T.d_is_told.b (L2N.takes_of rfl rfl rfl rfl) (ma_cons (me_var (pv 1)) (ma_cons me_str (ma_cons me_int ma_nil))))))) (mw_or (mt_not (mt_tru (MQ.of (me_isi "tuple" T.z_isinstance (pe_bltn (v := .ty "tuple") rfl T.z_tuple (by decide +kernel) rfl) (by decide +kernel) (MQ.of (me_ixV ho_ix (ix_all hr.units) (pv 1) (MQ.of me_int) (fun _ _ => rfl))))))) (mw_or1 (mt_cmp ho_ne (hr_ne hr.units) (me_B1 ho_len hr_len (by rfl) T.z_len PySem.boot_len (MQ.of (me_ixV ho_ix (ix_all hr.units) (pv 1) (MQ.of me_int) (fun _ _ => rfl)))) (MQ.of (me_B1 ho_len hr_len (by rfl) T.z_len PySem.boot_len (MQ.of (me_call (ok_orders T) (hr.mono (by decide)) T.d_orders.g T.d_orders.k T.d_orders.b (L2N.takes_of rfl rfl rfl rfl) (ma_cons (me_var (pv 2)) ma_nil))))) (nomark _)))))) (mb_one (ms_ret me_bl)) mb_nil)
    (mb_cons (ms_asg (me_call (ok_reads_of T) (hr.mono (by decide)) T.d_reads_of.g T.d_reads_of.k T.d_reads_of.b (L2N.takes_of rfl rfl rfl rfl) (ma_cons (me_var (pv 0)) ma_nil)) (mg_tup rfl (mgs_cons (mg_name (i := 3) nd rfl (Or.inl rfl)) (mgs_cons (mg_name (i := 4) nd rfl (Or.inl rfl)) mgs_nil))))
    (mb_cons (ms_for (passes_of rfl) rfl (mi_zip T.z_zip (me_ixV ho_ix (ix_all hr.units) (pv 1) (MQ.of me_int) (fun _ _ => rfl)) (me_call (ok_orders T) (hr.mono (by decide)) T.d_orders.g T.d_orders.k T.d_orders.b (L2N.takes_of rfl rfl rfl rfl) (ma_cons (me_var (pv 2)) ma_nil))) (mg_tup rfl (mgs_cons (mg_name (i := 5) nd rfl (Or.inl rfl)) (mgs_cons (mg_name (i := 6) nd rfl (Or.inl rfl)) mgs_nil))) (mb_cons (ms_if (mt_w (mw_or (mt_not (mt_tru (MQ.of (me_isi "tuple" T.z_isinstance (pe_bltn (v := .ty "tuple") rfl T.z_tuple (by decide +kernel) rfl) (by decide +kernel) (mq_var (pv 5)))))) (mw_or1 (mt_cmp ho_in (op_in (u65 hr)) me_bl (MQ.of (me_lc ["lines", "told", "works", "reads", "writers", "entry", "order", "others", "lasts", "work", "part"] (defScope s_judge_alike_reads) [("part", 10)] rfl nd (mi_seq (me_var (pv 5))) (by decide +kernel) (fun _ _ _ _ _ => (mg_name (i := 10) nd rfl (by first | exact Or.inl rfl | exact Or.inr rfl))) (fun _ _ _ _ _ => mts_nil) (fun _ _ _ _ _ => (me_or (me_isi "str" T.z_isinstance (pe_bltn (v := .ty "str") rfl T.z_str (by decide +kernel) rfl) (by decide +kernel) (mq_var (pv 10))) (me_one (me_call (ok_is_whole T) (hr.mono (by decide)) T.d_is_whole.g T.d_is_whole.k T.d_is_whole.b takes0N (ma_cons (me_var (pv 10)) ma_nil))))))) (by with_unfolding_all rfl))))) (mb_one (ms_ret me_bl)) mb_nil)
    (mb_cons (ms_asg (me_call (ok_reads_of T) (hr.mono (by decide)) T.d_reads_of.g T.d_reads_of.k T.d_reads_of.b (L2N.takes_of rfl rfl rfl rfl) (ma_cons (me_call (ok_whole_order T) (hr.mono (by decide)) T.d_whole_order.g T.d_whole_order.k T.d_whole_order.b (L2N.takes_of rfl rfl rfl rfl) (ma_cons (me_var (pv 0)) (ma_cons (me_var (pv 6)) ma_nil))) ma_nil)) (mg_tup rfl (mgs_cons (mg_name (i := 7) nd rfl (Or.inl rfl)) (mgs_cons (mg_name (i := 8) nd rfl (Or.inl rfl)) mgs_nil))))
    (mb_one (ms_if (mt_cmp ho_eq (hr_eq hr.units) (me_B1 ho_len hr_len (by rfl) T.z_len PySem.boot_len (mq_var (pv 5))) (MQ.of me_int) (nomark _)) (mb_one (ms_if (mt_w (mw_or (mt_cmp ho_in (op_ni (u65 hr)) (me_ixV ho_ix (ix_all hr.units) (pv 5) (MQ.of me_int) (fun _ _ => rfl)) (mq_var (pv 4)) (by with_unfolding_all rfl)) (mw_or1 (mt_cmp ho_eq (hr_eq hr.units) (me_ixV ho_ix (ix_all hr.units) (pv 4) (MQ.of (me_ixV ho_ix (ix_all hr.units) (pv 5) (MQ.of me_int) (fun _ _ => rfl))) (fun _ _ => rfl)) (MQ.of (me_ixV ho_ix (ix_all hr.units) (pv 8) (MQ.of (me_ixV ho_ix (ix_all hr.units) (pv 5) (MQ.of me_int) (fun _ _ => rfl))) (fun _ _ => rfl))) (nomark _))))) (mb_one (ms_ret me_bl)) mb_nil)) (mb_one (ms_if (mt_w (mw_or (mt_cmpV ho_in (op_ni (u65 hr)) (pv 5) (mq_var (pv 3)) (by with_unfolding_all rfl)) (mw_or1 (mt_cmp ho_eq (hr_eq hr.units) (me_ixV ho_ix (ix_all hr.units) (pv 3) (mq_var (pv 5)) (fun _ _ => rfl)) (MQ.of (me_ixV ho_ix (ix_all hr.units) (pv 7) (mq_var (pv 5)) (fun _ _ => rfl))) (nomark _))))) (mb_one (ms_ret me_bl)) mb_nil)))))))
    (mb_one (ms_ret me_bl))))))))
/-! _law_next -/
theorem sc__law_next : FnScope ["state", "limit", "cell", "value"] ["state", "limit"] (defScope s__law_next) := ⟨rfl, rfl, rfl, by decide +kernel, rfl, by decide +kernel, by decide +kernel⟩
def b__law_next : Gm → Out := (seqS (ifS (andT (tstM (op2 eqD (op2V ixD 0 (ret (.int 2))) (ret (.int 0)))) (tstM (op2 ltD (op2V ixD 0 (ret (.int 1))) (op1 lenD (op2V ixD 0 (ret (.int 0))))))) (seqS (setS 2 (op2 ixD (op2V ixD 0 (ret (.int 0))) (op2V ixD 0 (ret (.int 1)))))
    (seqS (augI iaddD 0 (ret (.int 1)) (ret (.int 1)))
    (ifS (tstM (op2V geD 2 (op2 powD (ret (.int 10)) (ret (.int 18))))) (stoS 0 (ret (.int 2)) (rdV 2)) (stoS 0 (ret (.int 3)) (op2 modD (op1 intOf (op2 addD (op2 addD (op2 mulD (op2V ixD 0 (ret (.int 3))) (ret (.int 48271))) (op2 modD (op1 intOf (pkV 2)) (ret (.int 2147483647)))) (ret (.int 7)))) (ret (.int 2147483647))))))) nxS)
    (seqS (ifS (tstM (op2 gtD (op2V ixD 0 (ret (.int 2))) (ret (.int 0)))) (seqS (setS 3 (op2 modD (op1 intOf (op2V ixD 0 (ret (.int 2)))) (pkV 1)))
    (seqS (stoS 0 (ret (.int 2)) (op2 fdivD (op2V ixD 0 (ret (.int 2))) (pkV 1)))
    (retS (rdV 3)))) nxS)
    (seqS (stoS 0 (ret (.int 3)) (op2 modD (op1 intOf (op2 addD (op2 mulD (op2V ixD 0 (ret (.int 3))) (ret (.int 69621))) (ret (.int 12345)))) (ret (.int 2147483647))))
    (retS (op2 modD (op1 intOf (op2 fdivD (op2V ixD 0 (ret (.int 3))) (ret (.int 7)))) (pkV 1))))))
def m__law_next : PyData → List PyData → Except Er (PyData × PyData) := runS 4 2 b__law_next
theorem ok__law_next (T : Tp K mg) : FnOk P K.w K mg base (L2N.CX P K.w) 1 T.d__law_next.f T.d__law_next.fd ["state", "limit"] (SpS K mg m__law_next) := fnS (k := 0) T.d__law_next.F sc__law_next (by decide) fun cdv A outer s H E hr => by
    have nd := sc__law_next.nd
    exact (mb_cons (ms_if (mt_w (mw_and (mt_cmp ho_eq (hr_eq hr.units) (me_ixV ho_ix (ix_all hr.units) (pv 0) (MQ.of me_int) (fun _ _ => rfl)) (MQ.of me_int) (nomark _)) (mw_and1 (mt_cmp ho_lt op_lt (me_ixV ho_ix (ix_all hr.units) (pv 0) (MQ.of me_int) (fun _ _ => rfl)) (MQ.of (me_B1 ho_len hr_len (by rfl) T.z_len PySem.boot_len (MQ.of (me_ixV ho_ix (ix_all hr.units) (pv 0) (MQ.of me_int) (fun _ _ => rfl))))) (nomark _))))) (mb_cons (ms_set (i := 2) nd rfl (Or.inl rfl) (me_ix ho_ix (ix_all hr.units) (me_ixV ho_ix (ix_all hr.units) (pv 0) (MQ.of me_int) (fun _ _ => rfl)) (MQ.of (me_ixV ho_ix (ix_all hr.units) (pv 0) (MQ.of me_int) (fun _ _ => rfl))) (fun _ _ => rfl)))
    (mb_cons (ms_augI ho_iadd ip_add (pv 0) me_int (MQ.of me_int))
    (mb_one (ms_if (mt_cmpV ho_ge op_ge (pv 2) (MQ.of (me_op ho_pow op_pow me_int (MQ.of me_int))) (nomark _)) (mb_one (ms_sto (pv 0) me_int (me_var (pv 2)))) (mb_one (ms_sto (pv 0) me_int (me_op ho_mod op_modN (me_T1 ho_intOf call_int1 (by rfl) T.z_int (by decide +kernel) (MQ.of (me_op ho_add hr_add (me_op ho_add hr_add (me_op ho_mul op_mul (me_ixV ho_ix (ix_all hr.units) (pv 0) (MQ.of me_int) (fun _ _ => rfl)) (MQ.of me_int)) (MQ.of (me_op ho_mod op_modN (me_T1 ho_intOf call_int1 (by rfl) T.z_int (by decide +kernel) (mq_var (pv 2))) (MQ.of me_int)))) (MQ.of me_int)))) (MQ.of me_int)))))))) mb_nil)
    (mb_cons (ms_if (mt_cmp ho_gt op_gt (me_ixV ho_ix (ix_all hr.units) (pv 0) (MQ.of me_int) (fun _ _ => rfl)) (MQ.of me_int) (nomark _)) (mb_cons (ms_set (i := 3) nd rfl (Or.inl rfl) (me_op ho_mod op_modN (me_T1 ho_intOf call_int1 (by rfl) T.z_int (by decide +kernel) (MQ.of (me_ixV ho_ix (ix_all hr.units) (pv 0) (MQ.of me_int) (fun _ _ => rfl)))) (mq_var (pv 1))))
    (mb_cons (ms_sto (pv 0) me_int (me_op ho_fdiv op_fdivN (me_ixV ho_ix (ix_all hr.units) (pv 0) (MQ.of me_int) (fun _ _ => rfl)) (mq_var (pv 1))))
    (mb_one (ms_ret (me_var (pv 3)))))) mb_nil)
    (mb_cons (ms_sto (pv 0) me_int (me_op ho_mod op_modN (me_T1 ho_intOf call_int1 (by rfl) T.z_int (by decide +kernel) (MQ.of (me_op ho_add hr_add (me_op ho_mul op_mul (me_ixV ho_ix (ix_all hr.units) (pv 0) (MQ.of me_int) (fun _ _ => rfl)) (MQ.of me_int)) (MQ.of me_int)))) (MQ.of me_int)))
    (mb_one (ms_ret (me_op ho_mod op_modN (me_T1 ho_intOf call_int1 (by rfl) T.z_int (by decide +kernel) (MQ.of (me_op ho_fdiv op_fdivN (me_ixV ho_ix (ix_all hr.units) (pv 0) (MQ.of me_int) (fun _ _ => rfl)) (MQ.of me_int)))) (mq_var (pv 1))))))))
/-! _law_same -/
theorem sc__law_same : FnScope ["actual", "expected", "k"] ["actual", "expected"] (defScope s__law_same) := ⟨rfl, rfl, rfl, by decide +kernel, rfl, by decide +kernel, by decide +kernel⟩
def b__law_same (self : List PyData → Except Er PyData) : Gm → Out := (seqS (ifS (tstM (op2V (isD id) 1 (ret .none))) (retS (op2V (isD id) 0 (ret .none))) nxS)
    (seqS (ifS (tru (isiM "bool" (pkV 1))) (retS (andV (isiM "bool" (pkV 0)) (op2V eqD 0 (pkV 1)))) nxS)
    (seqS (ifS (tru (isiM "int" (pkV 1))) (retS (andV (isiM "int" (pkV 0)) (andV (notV (isiM "bool" (pkV 0))) (op2V eqD 0 (pkV 1))))) nxS)
    (seqS (ifS (tru (isiM "str" (pkV 1))) (retS (andV (isiM "str" (pkV 0)) (op2V eqD 0 (pkV 1)))) nxS)
    (seqS (ifS (andT (tru (isiM "tuple" (pkV 1))) (notT (tru (isiM "tuple" (pkV 0))))) (retS (ret (.bool false))) nxS)
    (seqS (ifS (andT (tru (isiM "list" (pkV 1))) (notT (tru (isiM "list" (pkV 0))))) (retS (ret (.bool false))) nxS)
    (seqS (ifS (tstM (op2 neD (op1 lenD (pkV 0)) (op1 lenD (pkV 1)))) (retS (ret (.bool false))) nxS)
    (seqS (forS (rng1 (op1 lenD (pkV 1))) (bName 2) (ifS (notT (tru (callM self (consM (op2V ixD 0 (pkV 2)) (consM (op2V ixD 1 (pkV 2)) nilM))))) (retS (ret (.bool false))) nxS))
    (retS (ret (.bool true)))))))))))
def m__law_same : Nat → List PyData → Except Er PyData
  | 0 => fun _ => .error .stuck
  | k + 1 => runP 3 2 (b__law_same (m__law_same k))
theorem ok__law_same (T : Tp K mg) : ∀ k : Nat, FnOk P K.w K mg base (L2N.CX P K.w) (k + 1) T.d__law_same.f T.d__law_same.fd ["actual", "expected"] (SpP K mg (m__law_same k))
  | 0 => fnOk0
  | k + 1 => by
    have ih := ok__law_same T k
    exact fnP (k := k + 1) T.d__law_same.F sc__law_same (by decide) fun cdv A outer s H E hr => by
      have nd := sc__law_same.nd
      exact (mb_cons (ms_if (mt_cmpV ho_is hr_is (pv 1) (MQ.of me_non) (nomark _)) (mb_one (ms_ret (me_cmpV ho_is hr_is (pv 0) (MQ.of me_non) (nomark _)))) mb_nil)
    (mb_cons (ms_if (mt_tru (MQ.of (me_isi "bool" T.z_isinstance (pe_bltn (v := .ty "bool") rfl T.z_bool (by decide +kernel) rfl) (by decide +kernel) (mq_var (pv 1))))) (mb_one (ms_ret (me_and (me_isi "bool" T.z_isinstance (pe_bltn (v := .ty "bool") rfl T.z_bool (by decide +kernel) rfl) (by decide +kernel) (mq_var (pv 0))) (me_one (me_cmpV ho_eq (hr_eq hr.units) (pv 0) (mq_var (pv 1)) (nomark _)))))) mb_nil)
    (mb_cons (ms_if (mt_tru (MQ.of (me_isi "int" T.z_isinstance (pe_bltn (v := .ty "int") rfl T.z_int (by decide +kernel) rfl) (by decide +kernel) (mq_var (pv 1))))) (mb_one (ms_ret (me_and (me_isi "int" T.z_isinstance (pe_bltn (v := .ty "int") rfl T.z_int (by decide +kernel) rfl) (by decide +kernel) (mq_var (pv 0))) (me_and (me_not (MQ.of (me_isi "bool" T.z_isinstance (pe_bltn (v := .ty "bool") rfl T.z_bool (by decide +kernel) rfl) (by decide +kernel) (mq_var (pv 0))))) (me_one (me_cmpV ho_eq (hr_eq hr.units) (pv 0) (mq_var (pv 1)) (nomark _))))))) mb_nil)
    (mb_cons (ms_if (mt_tru (MQ.of (me_isi "str" T.z_isinstance (pe_bltn (v := .ty "str") rfl T.z_str (by decide +kernel) rfl) (by decide +kernel) (mq_var (pv 1))))) (mb_one (ms_ret (me_and (me_isi "str" T.z_isinstance (pe_bltn (v := .ty "str") rfl T.z_str (by decide +kernel) rfl) (by decide +kernel) (mq_var (pv 0))) (me_one (me_cmpV ho_eq (hr_eq hr.units) (pv 0) (mq_var (pv 1)) (nomark _)))))) mb_nil)
    (mb_cons (ms_if (mt_w (mw_and (mt_tru (MQ.of (me_isi "tuple" T.z_isinstance (pe_bltn (v := .ty "tuple") rfl T.z_tuple (by decide +kernel) rfl) (by decide +kernel) (mq_var (pv 1))))) (mw_and1 (mt_not (mt_tru (MQ.of (me_isi "tuple" T.z_isinstance (pe_bltn (v := .ty "tuple") rfl T.z_tuple (by decide +kernel) rfl) (by decide +kernel) (mq_var (pv 0))))))))) (mb_one (ms_ret me_bl)) mb_nil)
    (mb_cons (ms_if (mt_w (mw_and (mt_tru (MQ.of (me_isi "list" T.z_isinstance (pe_bltn (v := .ty "list") rfl T.z_list (by decide +kernel) rfl) (by decide +kernel) (mq_var (pv 1))))) (mw_and1 (mt_not (mt_tru (MQ.of (me_isi "list" T.z_isinstance (pe_bltn (v := .ty "list") rfl T.z_list (by decide +kernel) rfl) (by decide +kernel) (mq_var (pv 0))))))))) (mb_one (ms_ret me_bl)) mb_nil)
    (mb_cons (ms_if (mt_cmp ho_ne (hr_ne hr.units) (me_B1 ho_len hr_len (by rfl) T.z_len PySem.boot_len (mq_var (pv 0))) (MQ.of (me_B1 ho_len hr_len (by rfl) T.z_len PySem.boot_len (mq_var (pv 1)))) (nomark _)) (mb_one (ms_ret me_bl)) mb_nil)
    (mb_cons (ms_for (passes_of rfl) rfl (mi_rng1 T.z_range (me_B1 ho_len hr_len (by rfl) T.z_len PySem.boot_len (mq_var (pv 1)))) (mg_name (i := 2) nd rfl (Or.inl rfl)) (mb_one (ms_if (mt_not (mt_tru (MQ.of (me_call ih (hr.mono (by omega)) T.d__law_same.g T.d__law_same.k T.d__law_same.b (L2N.takes_of rfl rfl rfl rfl) (ma_cons (me_ixV ho_ix (ix_all hr.units) (pv 0) (mq_var (pv 2)) (fun _ _ => rfl)) (ma_cons (me_ixV ho_ix (ix_all hr.units) (pv 1) (mq_var (pv 2)) (fun _ _ => rfl)) ma_nil)))))) (mb_one (ms_ret me_bl)) mb_nil)))
    (mb_one (ms_ret me_bl))))))))))
/-! _law_is_whole -/
theorem sc__law_is_whole : FnScope ["value"] ["value"] (defScope s__law_is_whole) := ⟨rfl, rfl, rfl, by decide +kernel, rfl, by decide +kernel, by decide +kernel⟩
def b__law_is_whole : Gm → Out := (retS (andV (isiM "int" (pkV 0)) (notV (isiM "bool" (pkV 0)))))
def m__law_is_whole : List PyData → Except Er PyData := runP 1 1 b__law_is_whole
theorem ok__law_is_whole (T : Tp K mg) : FnOk P K.w K mg base (L2N.CX P K.w) 1 T.d__law_is_whole.f T.d__law_is_whole.fd ["value"] (SpP K mg m__law_is_whole) := fnP (k := 0) T.d__law_is_whole.F sc__law_is_whole (by decide) fun cdv A outer s H E hr => by
    have nd := sc__law_is_whole.nd
    exact (mb_one (ms_ret (me_and (me_isi "int" T.z_isinstance (pe_bltn (v := .ty "int") rfl T.z_int (by decide +kernel) rfl) (by decide +kernel) (mq_var (pv 0))) (me_one (me_not (MQ.of (me_isi "bool" T.z_isinstance (pe_bltn (v := .ty "bool") rfl T.z_bool (by decide +kernel) rfl) (by decide +kernel) (mq_var (pv 0)))))))))
/-! _law_is -/
theorem sc__law_is : FnScope ["told", "word", "count"] ["told", "word", "count"] (defScope s__law_is) := ⟨rfl, rfl, rfl, by decide +kernel, rfl, by decide +kernel, by decide +kernel⟩
def b__law_is : Gm → Out := (retS (andV (isiM "tuple" (pkV 0)) (andV (op2 eqD (op1 lenD (pkV 0)) (pkV 2)) (andV (isiM "str" (op2V ixD 0 (ret (.int 0)))) (op2 eqD (op2V ixD 0 (ret (.int 0))) (pkV 1))))))
def m__law_is : List PyData → Except Er PyData := runP 3 3 b__law_is
theorem ok__law_is (T : Tp K mg) : FnOk P K.w K mg base (L2N.CX P K.w) 1 T.d__law_is.f T.d__law_is.fd ["told", "word", "count"] (SpP K mg m__law_is) := fnP (k := 0) T.d__law_is.F sc__law_is (by decide) fun cdv A outer s H E hr => by
    have nd := sc__law_is.nd
    exact (mb_one (ms_ret (me_and (me_isi "tuple" T.z_isinstance (pe_bltn (v := .ty "tuple") rfl T.z_tuple (by decide +kernel) rfl) (by decide +kernel) (mq_var (pv 0))) (me_and (me_cmp ho_eq (hr_eq hr.units) (me_B1 ho_len hr_len (by rfl) T.z_len PySem.boot_len (mq_var (pv 0))) (mq_var (pv 2)) (nomark _)) (me_and (me_isi "str" T.z_isinstance (pe_bltn (v := .ty "str") rfl T.z_str (by decide +kernel) rfl) (by decide +kernel) (MQ.of (me_ixV ho_ix (ix_all hr.units) (pv 0) (MQ.of me_int) (fun _ _ => rfl)))) (me_one (me_cmp ho_eq (hr_eq hr.units) (me_ixV ho_ix (ix_all hr.units) (pv 0) (MQ.of me_int) (fun _ _ => rfl)) (mq_var (pv 1)) (nomark _))))))))
/-! _law_are_texts -/
theorem sc__law_are_texts : FnScope ["value", "each"] ["value"] (defScope s__law_are_texts) := ⟨rfl, rfl, rfl, by decide +kernel, rfl, by decide +kernel, by decide +kernel⟩
def b__law_are_texts : Gm → Out := (retS (andV (isiM "tuple" (pkV 0)) (op2 eqD (lstO (compM (seqI (rdV 0)) [1] (bName 1) (notT (tru (isiM "str" (pkV 1)))) (rdV 1))) (lstM nilM))))
def m__law_are_texts : List PyData → Except Er PyData := runP 2 1 b__law_are_texts
theorem ok__law_are_texts (T : Tp K mg) : FnOk P K.w K mg base (L2N.CX P K.w) 1 T.d__law_are_texts.f T.d__law_are_texts.fd ["value"] (SpP K mg m__law_are_texts) := fnP (k := 0) T.d__law_are_texts.F sc__law_are_texts (by decide) fun cdv A outer s H E hr => by
    have nd := sc__law_are_texts.nd
    exact (mb_one (ms_ret (me_and (me_isi "tuple" T.z_isinstance (pe_bltn (v := .ty "tuple") rfl T.z_tuple (by decide +kernel) rfl) (by decide +kernel) (mq_var (pv 0))) (me_one (me_cmp ho_eq (hr_eq hr.units) (me_lc ["value", "each"] (defScope s__law_are_texts) [("each", 1)] rfl nd (mi_seq (me_var (pv 0))) (by decide +kernel) (fun _ _ _ _ _ => (mg_name (i := 1) nd rfl (by first | exact Or.inl rfl | exact Or.inr rfl))) (fun _ _ _ _ _ => (mts_one (mt_not (mt_tru (MQ.of (me_isi "str" T.z_isinstance (pe_bltn (v := .ty "str") rfl T.z_str (by decide +kernel) rfl) (by decide +kernel) (mq_var (pv 1)))))))) (fun _ _ _ _ _ => (me_var (pv 1)))) (MQ.of (me_lst ma_nil)) (nomark _))))))
/-! _law_changed -/
theorem sc__law_changed : FnScope ["state", "value", "others", "k", "j", "more", "turn"] ["state", "value"] (defScope s__law_changed) := ⟨rfl, rfl, rfl, by decide +kernel, rfl, by decide +kernel, by decide +kernel⟩
def b__law_changed (self : PyData → List PyData → Except Er (PyData × PyData)) : Gm → Out := (seqS (ifS (tru (isiM "bool" (pkV 1))) (retS (op2 ixD (lstM (consM (notV (pkV 1)) (consM (op1 intOf (pkV 1)) nilM))) (callS m__law_next 0 (consM (ret (.int 2)) nilM)))) nxS)
    (seqS (ifS (orT (tstM (op2V (isD id) 1 (ret .none))) (tru (isiM "int" (pkV 1)))) (retS (op2 ixD (lstM (consM (op2 addD (orV (rdV 1) (ret (.int 0))) (ret (.int 1))) (consM (op2 subD (orV (rdV 1) (ret (.int 0))) (ret (.int 1))) (consM (ret (.int 0)) (consM (ret .none) (consM (op2V eqD 1 (ret (.int 1))) (consM (op1 strD (pkV 1)) (consM (op2 mulD (ret (.int 2)) (orV (rdV 1) (ret (.int 1)))) nilM)))))))) (callS m__law_next 0 (consM (ret (.int 7)) nilM)))) nxS)
    (seqS (ifS (tru (isiM "str" (pkV 1))) (seqS (setS 2 (lstM (consM (slMV slcD 1 (someO (ret (.int 1))) noneO) (consM (op2V addD 1 (ret (.str "a"))) (consM (op1 revD (pkV 1)) (consM (op2 addD (ret (.str "b")) (pkV 1)) (consM (ret (.str "")) (consM (slMV slcD 1 noneO (someO (op1 negD (ret (.int 1))))) (consM (ret (.str "left")) (consM (ret (.int 3)) (consM (ret (.str "in")) nilM)))))))))))
    (retS (op2V ixD 2 (callS m__law_next 0 (consM (op1 lenD (pkV 2)) nilM))))) nxS)
    (seqS (ifS (andT (tru (isiM "tuple" (pkV 1))) (andT (tstM (op2V neD 1 (tupM nilM))) (tstM (op2 gtD (callS m__law_next 0 (consM (ret (.int 4)) nilM)) (ret (.int 0)))))) (seqS (setS 3 (callS m__law_next 0 (consM (op1 lenD (pkV 1)) nilM)))
    (retS (op2 addD (op2 addD (slMV slcD 1 noneO (someO (rdV 3))) (tupM (consM (callS self 0 (consM (op2V ixD 1 (pkV 3)) nilM)) nilM))) (slMV slcD 1 (someO (op2V addD 3 (ret (.int 1)))) noneO)))) nxS)
    (seqS (ifS (notT (tru (isiM "tuple" (pkV 1)))) (retS (tupM nilM)) nxS)
    (seqS (setS 3 (callS m__law_next 0 (consM (op2 addD (op1 lenD (pkV 1)) (ret (.int 1))) nilM)))
    (seqS (setS 4 (callS m__law_next 0 (consM (op2 addD (op1 lenD (pkV 1)) (ret (.int 1))) nilM)))
    (seqS (setS 5 (lstM (consM (op2 addD (slMV slcD 1 noneO (someO (rdV 3))) (slMV slcD 1 (someO (op2V addD 3 (ret (.int 1)))) noneO)) (consM (op2V addD 1 (slMV slcD 1 noneO (someO (ret (.int 1))))) (consM (op1 revD (pkV 1)) (consM (op2 addD (slMV slcD 1 (someO (rdV 3)) noneO) (slMV slcD 1 noneO (someO (rdV 3)))) (consM (op1 listD (pkV 1)) (consM (slMV slcD 1 noneO (someO (rdV 3))) (consM (tupM nilM) (consM (op2V addD 1 (tupM (consM (ret (.int 0)) nilM))) nilM))))))))))
    (seqS (ifS (tstM (chainM ltD ltD (rdV 3) (rdV 4) (op1 lenD (pkV 1)))) (setS 5 (op2V addD 5 (lstO (compM (rng1 (ret (.int 3))) [6] (bName 6) yesM (op2 addD (op2 addD (op2 addD (op2 addD (slMV slcD 1 noneO (someO (rdV 3))) (slMV slcD 1 (someO (rdV 4)) (someO (op2V addD 4 (ret (.int 1)))))) (slMV slcD 1 (someO (op2V addD 3 (ret (.int 1)))) (someO (rdV 4)))) (slMV slcD 1 (someO (rdV 3)) (someO (op2V addD 3 (ret (.int 1)))))) (slMV slcD 1 (someO (op2V addD 4 (ret (.int 1)))) noneO)))))) nxS)
    (retS (op2V ixD 5 (callS m__law_next 0 (consM (op1 lenD (pkV 5)) nilM)))))))))))))
def m__law_changed : Nat → PyData → List PyData → Except Er (PyData × PyData)
  | 0 => fun _ _ => .error .stuck
  | k + 1 => runS 7 2 (b__law_changed (m__law_changed k))
theorem ok__law_changed (T : Tp K mg) : ∀ k : Nat, FnOk P K.w K mg base (L2N.CX P K.w) (k + 2) T.d__law_changed.f T.d__law_changed.fd ["state", "value"] (SpS K mg (m__law_changed k))
  | 0 => fnOk0S
  | k + 1 => by
    have ih := ok__law_changed T k
    exact fnS (k := k + 2) T.d__law_changed.F sc__law_changed (by decide) fun cdv A outer s H E hr => by
      have nd := sc__law_changed.nd
      exact (mb_cons (ms_if (mt_tru (MQ.of (me_isi "bool" T.z_isinstance (pe_bltn (v := .ty "bool") rfl T.z_bool (by decide +kernel) rfl) (by decide +kernel) (mq_var (pv 1))))) (mb_one (ms_ret (me_ix ho_ix (ix_all hr.units) (me_lst (ma_cons (me_not (mq_var (pv 1))) (ma_cons (me_T1 ho_intOf call_int1 (by rfl) T.z_int (by decide +kernel) (mq_var (pv 1))) ma_nil))) (MQ.of (me_callS (ok__law_next T) (hr.mono (by omega)) T.d__law_next.g T.d__law_next.k T.d__law_next.b (L2N.takes_of rfl rfl rfl rfl) (pv 0) (ma_cons me_int ma_nil))) (fun _ _ => rfl)))) mb_nil)
    (mb_cons (ms_if (mt_w (mw_or (mt_cmpV ho_is hr_is (pv 1) (MQ.of me_non) (nomark _)) (mw_or1 (mt_tru (MQ.of (me_isi "int" T.z_isinstance (pe_bltn (v := .ty "int") rfl T.z_int (by decide +kernel) rfl) (by decide +kernel) (mq_var (pv 1)))))))) (mb_one (ms_ret (me_ix ho_ix (ix_all hr.units) (me_lst (ma_cons (me_op ho_add hr_add (me_or (me_var (pv 1)) (me_one me_int)) (MQ.of me_int)) (ma_cons (me_op ho_sub hr_sub (me_or (me_var (pv 1)) (me_one me_int)) (MQ.of me_int)) (ma_cons me_int (ma_cons me_non (ma_cons (me_cmpV ho_eq (hr_eq hr.units) (pv 1) (MQ.of me_int) (nomark _)) (ma_cons (me_T1 ho_str hr_str (by rfl) T.z_str (by decide +kernel) (mq_var (pv 1))) (ma_cons (me_op ho_mul op_mul me_int (MQ.of (me_or (me_var (pv 1)) (me_one me_int)))) ma_nil)))))))) (MQ.of (me_callS (ok__law_next T) (hr.mono (by omega)) T.d__law_next.g T.d__law_next.k T.d__law_next.b (L2N.takes_of rfl rfl rfl rfl) (pv 0) (ma_cons me_int ma_nil))) (fun _ _ => rfl)))) mb_nil)
    (mb_cons (ms_if (mt_tru (MQ.of (me_isi "str" T.z_isinstance (pe_bltn (v := .ty "str") rfl T.z_str (by decide +kernel) rfl) (by decide +kernel) (mq_var (pv 1))))) (mb_cons (ms_set (i := 2) nd rfl (Or.inl rfl) (me_lst (ma_cons (me_sliceV ho_slc hr_slc (pv 1) (mo_some me_int) mo_none) (ma_cons (me_opV ho_add hr_add (pv 1) (MQ.of me_str)) (ma_cons (me_rev (mq_var (pv 1))) (ma_cons (me_op ho_add hr_add me_str (mq_var (pv 1))) (ma_cons me_str (ma_cons (me_sliceV ho_slc hr_slc (pv 1) mo_none (mo_some (me_un ho_neg un_neg (MQ.of me_int)))) (ma_cons me_str (ma_cons me_int (ma_cons me_str ma_nil)))))))))))
    (mb_one (ms_ret (me_ixV ho_ix (ix_all hr.units) (pv 2) (MQ.of (me_callS (ok__law_next T) (hr.mono (by omega)) T.d__law_next.g T.d__law_next.k T.d__law_next.b (L2N.takes_of rfl rfl rfl rfl) (pv 0) (ma_cons (me_B1 ho_len hr_len (by rfl) T.z_len PySem.boot_len (mq_var (pv 2))) ma_nil))) (fun _ _ => rfl))))) mb_nil)
    (mb_cons (ms_if (mt_w (mw_and (mt_tru (MQ.of (me_isi "tuple" T.z_isinstance (pe_bltn (v := .ty "tuple") rfl T.z_tuple (by decide +kernel) rfl) (by decide +kernel) (mq_var (pv 1))))) (mw_and (mt_cmpV ho_ne (hr_ne hr.units) (pv 1) (MQ.of (me_tup ma_nil)) (nomark _)) (mw_and1 (mt_cmp ho_gt op_gt (me_callS (ok__law_next T) (hr.mono (by omega)) T.d__law_next.g T.d__law_next.k T.d__law_next.b (L2N.takes_of rfl rfl rfl rfl) (pv 0) (ma_cons me_int ma_nil)) (MQ.of me_int) (nomark _)))))) (mb_cons (ms_set (i := 3) nd rfl (Or.inr rfl) (me_callS (ok__law_next T) (hr.mono (by omega)) T.d__law_next.g T.d__law_next.k T.d__law_next.b (L2N.takes_of rfl rfl rfl rfl) (pv 0) (ma_cons (me_B1 ho_len hr_len (by rfl) T.z_len PySem.boot_len (mq_var (pv 1))) ma_nil)))
    (mb_one (ms_ret (me_op ho_add hr_add (me_op ho_add hr_add (me_sliceV ho_slc hr_slc (pv 1) mo_none (mo_some (me_var (pv 3)))) (MQ.of (me_tup (ma_cons (me_callS ih (hr.mono (by omega)) T.d__law_changed.g T.d__law_changed.k T.d__law_changed.b (L2N.takes_of rfl rfl rfl rfl) (pv 0) (ma_cons (me_ixV ho_ix (ix_all hr.units) (pv 1) (mq_var (pv 3)) (fun _ _ => rfl)) ma_nil)) ma_nil)))) (MQ.of (me_sliceV ho_slc hr_slc (pv 1) (mo_some (me_opV ho_add hr_add (pv 3) (MQ.of me_int))) mo_none)))))) mb_nil)
    (mb_cons (ms_if (mt_not (mt_tru (MQ.of (me_isi "tuple" T.z_isinstance (pe_bltn (v := .ty "tuple") rfl T.z_tuple (by decide +kernel) rfl) (by decide +kernel) (mq_var (pv 1)))))) (mb_one (ms_ret (me_tup ma_nil))) mb_nil)
    (mb_cons (ms_set (i := 3) nd rfl (Or.inr rfl) (me_callS (ok__law_next T) (hr.mono (by omega)) T.d__law_next.g T.d__law_next.k T.d__law_next.b (L2N.takes_of rfl rfl rfl rfl) (pv 0) (ma_cons (me_op ho_add hr_add (me_B1 ho_len hr_len (by rfl) T.z_len PySem.boot_len (mq_var (pv 1))) (MQ.of me_int)) ma_nil)))
    (mb_cons (ms_set (i := 4) nd rfl (Or.inr rfl) (me_callS (ok__law_next T) (hr.mono (by omega)) T.d__law_next.g T.d__law_next.k T.d__law_next.b (L2N.takes_of rfl rfl rfl rfl) (pv 0) (ma_cons (me_op ho_add hr_add (me_B1 ho_len hr_len (by rfl) T.z_len PySem.boot_len (mq_var (pv 1))) (MQ.of me_int)) ma_nil)))
    (mb_cons (ms_set (i := 5) nd rfl (Or.inl rfl) (me_lst (ma_cons (me_op ho_add hr_add (me_sliceV ho_slc hr_slc (pv 1) mo_none (mo_some (me_var (pv 3)))) (MQ.of (me_sliceV ho_slc hr_slc (pv 1) (mo_some (me_opV ho_add hr_add (pv 3) (MQ.of me_int))) mo_none))) (ma_cons (me_opV ho_add hr_add (pv 1) (MQ.of (me_sliceV ho_slc hr_slc (pv 1) mo_none (mo_some me_int)))) (ma_cons (me_rev (mq_var (pv 1))) (ma_cons (me_op ho_add hr_add (me_sliceV ho_slc hr_slc (pv 1) (mo_some (me_var (pv 3))) mo_none) (MQ.of (me_sliceV ho_slc hr_slc (pv 1) mo_none (mo_some (me_var (pv 3)))))) (ma_cons (me_T1 ho_list (cr_list hr.hd) (by rfl) T.z_list (by decide +kernel) (mq_var (pv 1))) (ma_cons (me_sliceV ho_slc hr_slc (pv 1) mo_none (mo_some (me_var (pv 3)))) (ma_cons (me_tup ma_nil) (ma_cons (me_opV ho_add hr_add (pv 1) (MQ.of (me_tup (ma_cons me_int ma_nil)))) ma_nil))))))))))
    (mb_cons (ms_if (mt_chain ho_lt op_lt ho_lt op_lt (me_var (pv 3)) (me_var (pv 4)) (me_B1 ho_len hr_len (by rfl) T.z_len PySem.boot_len (mq_var (pv 1)))) (mb_one (ms_set (i := 5) nd rfl (Or.inl rfl) (me_opV ho_add hr_add (pv 5) (MQ.of (me_lc ["state", "value", "others", "k", "j", "more", "turn"] (defScope s__law_changed) [("turn", 6)] rfl nd (mi_rng1 T.z_range me_int) (by decide +kernel) (fun _ _ _ _ _ => (mg_name (i := 6) nd rfl (by first | exact Or.inl rfl | exact Or.inr rfl))) (fun _ _ _ _ _ => mts_nil) (fun _ _ _ _ _ => (me_op ho_add hr_add (me_op ho_add hr_add (me_op ho_add hr_add (me_op ho_add hr_add (me_sliceV ho_slc hr_slc (pv 1) mo_none (mo_some (me_var (pv 3)))) (MQ.of (me_sliceV ho_slc hr_slc (pv 1) (mo_some (me_var (pv 4))) (mo_some (me_opV ho_add hr_add (pv 4) (MQ.of me_int)))))) (MQ.of (me_sliceV ho_slc hr_slc (pv 1) (mo_some (me_opV ho_add hr_add (pv 3) (MQ.of me_int))) (mo_some (me_var (pv 4)))))) (MQ.of (me_sliceV ho_slc hr_slc (pv 1) (mo_some (me_var (pv 3))) (mo_some (me_opV ho_add hr_add (pv 3) (MQ.of me_int)))))) (MQ.of (me_sliceV ho_slc hr_slc (pv 1) (mo_some (me_opV ho_add hr_add (pv 4) (MQ.of me_int))) mo_none))))))))) mb_nil)
    (mb_one (ms_ret (me_ixV ho_ix (ix_all hr.units) (pv 5) (MQ.of (me_callS (ok__law_next T) (hr.mono (by omega)) T.d__law_next.g T.d__law_next.k T.d__law_next.b (L2N.takes_of rfl rfl rfl rfl) (pv 0) (ma_cons (me_B1 ho_len hr_len (by rfl) T.z_len PySem.boot_len (mq_var (pv 5))) ma_nil))) (fun _ _ => rfl)))))))))))))
/-! _law_ints -/
theorem sc__law_ints : FnScope ["value", "found", "part", "number"] ["value"] (defScope s__law_ints) := ⟨rfl, rfl, rfl, by decide +kernel, rfl, by decide +kernel, by decide +kernel⟩
def b__law_ints (self : List PyData → Except Er PyData) : Gm → Out := (seqS (ifS (orT (tru (isiM "bool" (pkV 0))) (notT (tru (isi2M "int" "tuple" (pkV 0))))) (retS (lstM nilM)) nxS)
    (seqS (ifS (tru (isiM "int" (pkV 0))) (retS (lstM (consM (rdV 0) nilM))) nxS)
    (seqS (setS 1 (lstM nilM))
    (seqS (forS (seqI (rdV 0)) (bName 2) (setS 1 (op2V addD 1 (lstO (compM (seqI (callM self (consM (rdV 2) nilM))) [3] (bName 3) (tstM (op2V (inD not) 3 (pkV 1))) (rdV 3))))))
    (retS (rdV 1))))))
def m__law_ints : Nat → List PyData → Except Er PyData
  | 0 => fun _ => .error .stuck
  | k + 1 => runP 4 1 (b__law_ints (m__law_ints k))
theorem ok__law_ints (T : Tp K mg) : ∀ k : Nat, FnOk P K.w K mg base (L2N.CX P K.w) (k + 1) T.d__law_ints.f T.d__law_ints.fd ["value"] (SpP K mg (m__law_ints k))
  | 0 => fnOk0
  | k + 1 => by
    have ih := ok__law_ints T k
    exact fnP (k := k + 1) T.d__law_ints.F sc__law_ints (by decide) fun cdv A outer s H E hr => by
      have nd := sc__law_ints.nd
      exact (mb_cons (ms_if (mt_w (mw_or (mt_tru (MQ.of (me_isi "bool" T.z_isinstance (pe_bltn (v := .ty "bool") rfl T.z_bool (by decide +kernel) rfl) (by decide +kernel) (mq_var (pv 0))))) (mw_or1 (mt_not (mt_tru (MQ.of (me_isi2 "int" "tuple" T.z_isinstance (pe_bltn (v := .ty "int") rfl T.z_int (by decide +kernel) rfl) (pe_bltn (v := .ty "tuple") rfl T.z_tuple (by decide +kernel) rfl) (by decide +kernel) (by decide +kernel) (mq_var (pv 0))))))))) (mb_one (ms_ret (me_lst ma_nil))) mb_nil)
    (mb_cons (ms_if (mt_tru (MQ.of (me_isi "int" T.z_isinstance (pe_bltn (v := .ty "int") rfl T.z_int (by decide +kernel) rfl) (by decide +kernel) (mq_var (pv 0))))) (mb_one (ms_ret (me_lst (ma_cons (me_var (pv 0)) ma_nil)))) mb_nil)
    (mb_cons (ms_set (i := 1) nd rfl (Or.inr rfl) (me_lst ma_nil))
    (mb_cons (ms_for (passes_of rfl) rfl (mi_seq (me_var (pv 0))) (mg_name (i := 2) nd rfl (Or.inl rfl)) (mb_one (ms_set (i := 1) nd rfl (Or.inr rfl) (me_opV ho_add hr_add (pv 1) (MQ.of (me_lc ["value", "found", "part", "number"] (defScope s__law_ints) [("number", 3)] rfl nd (mi_seq (me_call ih (hr.mono (by omega)) T.d__law_ints.g T.d__law_ints.k T.d__law_ints.b (L2N.takes_of rfl rfl rfl rfl) (ma_cons (me_var (pv 2)) ma_nil))) (by decide +kernel) (fun _ _ _ _ _ => (mg_name (i := 3) nd rfl (by first | exact Or.inl rfl | exact Or.inr rfl))) (fun _ _ _ _ _ => (mts_one (mt_cmpV ho_in (op_ni (u65 hr)) (pv 3) (mq_var (pv 1)) (by with_unfolding_all rfl)))) (fun _ _ _ _ _ => (me_var (pv 3)))))))))
    (mb_one (ms_ret (me_var (pv 1))))))))
/-! _law_exchanged -/
theorem sc__law_exchanged : FnScope ["value", "one", "other", "part"] ["value", "one", "other"] (defScope s__law_exchanged) := ⟨rfl, rfl, rfl, by decide +kernel, rfl, by decide +kernel, by decide +kernel⟩
def b__law_exchanged (self : List PyData → Except Er PyData) : Gm → Out := (seqS (ifS (orT (tru (isiM "bool" (pkV 0))) (notT (tru (isi2M "int" "tuple" (pkV 0))))) (retS (rdV 0)) nxS)
    (seqS (ifS (tru (isiM "int" (pkV 0))) (retS (ifM (tstM (op2V eqD 0 (pkV 1))) (rdV 2) (ifM (tstM (op2V eqD 0 (pkV 2))) (rdV 1) (rdV 0)))) nxS)
    (retS (op1 tup2D (lstO (compM (seqI (rdV 0)) [3] (bName 3) yesM (callM self (consM (rdV 3) (consM (rdV 1) (consM (rdV 2) nilM))))))))))
def m__law_exchanged : Nat → List PyData → Except Er PyData
  | 0 => fun _ => .error .stuck
  | k + 1 => runP 4 3 (b__law_exchanged (m__law_exchanged k))
theorem ok__law_exchanged (T : Tp K mg) : ∀ k : Nat, FnOk P K.w K mg base (L2N.CX P K.w) (k + 1) T.d__law_exchanged.f T.d__law_exchanged.fd ["value", "one", "other"] (SpP K mg (m__law_exchanged k))
  | 0 => fnOk0
  | k + 1 => by
    have ih := ok__law_exchanged T k
    exact fnP (k := k + 1) T.d__law_exchanged.F sc__law_exchanged (by decide) fun cdv A outer s H E hr => by
      have nd := sc__law_exchanged.nd
      exact (mb_cons (ms_if (mt_w (mw_or (mt_tru (MQ.of (me_isi "bool" T.z_isinstance (pe_bltn (v := .ty "bool") rfl T.z_bool (by decide +kernel) rfl) (by decide +kernel) (mq_var (pv 0))))) (mw_or1 (mt_not (mt_tru (MQ.of (me_isi2 "int" "tuple" T.z_isinstance (pe_bltn (v := .ty "int") rfl T.z_int (by decide +kernel) rfl) (pe_bltn (v := .ty "tuple") rfl T.z_tuple (by decide +kernel) rfl) (by decide +kernel) (by decide +kernel) (mq_var (pv 0))))))))) (mb_one (ms_ret (me_var (pv 0)))) mb_nil)
    (mb_cons (ms_if (mt_tru (MQ.of (me_isi "int" T.z_isinstance (pe_bltn (v := .ty "int") rfl T.z_int (by decide +kernel) rfl) (by decide +kernel) (mq_var (pv 0))))) (mb_one (ms_ret (me_ifE (mt_cmpV ho_eq (hr_eq hr.units) (pv 0) (mq_var (pv 1)) (nomark _)) (me_var (pv 2)) (me_ifE (mt_cmpV ho_eq (hr_eq hr.units) (pv 0) (mq_var (pv 2)) (nomark _)) (me_var (pv 1)) (me_var (pv 0)))))) mb_nil)
    (mb_one (ms_ret (me_T1 ho_tup2 (hr_tup2 hr.hd) (by rfl) T.z_tuple (by decide +kernel) (MQ.of (me_lc ["value", "one", "other", "part"] (defScope s__law_exchanged) [("part", 3)] rfl nd (mi_seq (me_var (pv 0))) (by decide +kernel) (fun _ _ _ _ _ => (mg_name (i := 3) nd rfl (by first | exact Or.inl rfl | exact Or.inr rfl))) (fun _ _ _ _ _ => mts_nil) (fun _ _ _ _ _ => (me_call ih (hr.mono (by omega)) T.d__law_exchanged.g T.d__law_exchanged.k T.d__law_exchanged.b takes0N (ma_cons (me_var (pv 3)) (ma_cons (me_var (pv 1)) (ma_cons (me_var (pv 2)) ma_nil))))))))))))
/-! _law_cut -/
theorem sc__law_cut : FnScope ["state", "value", "k", "at", "ways", "part"] ["state", "value"] (defScope s__law_cut) := ⟨rfl, rfl, rfl, by decide +kernel, rfl, by decide +kernel, by decide +kernel⟩
def b__law_cut (self : PyData → List PyData → Except Er (PyData × PyData)) : Gm → Out := (seqS (ifS (orT (notT (tru (isiM "tuple" (pkV 1)))) (tstM (op2V eqD 1 (tupM nilM)))) (retS (rdV 1)) nxS)
    (seqS (ifS (tstM (op2 neD (lstO (compM (seqI (rdV 1)) [5] (bName 5) (notT (tru (isiM "str" (pkV 5)))) (rdV 5))) (lstM nilM))) (seqS (setS 2 (callS m__law_next 0 (consM (op1 lenD (pkV 1)) nilM)))
    (retS (op2 addD (op2 addD (slMV slcD 1 noneO (someO (rdV 2))) (tupM (consM (callS self 0 (consM (op2V ixD 1 (pkV 2)) nilM)) nilM))) (slMV slcD 1 (someO (op2V addD 2 (ret (.int 1)))) noneO)))) nxS)
    (seqS (setS 2 (callS m__law_next 0 (consM (op1 lenD (pkV 1)) nilM)))
    (seqS (setS 3 (callS m__law_next 0 (consM (op2 addD (op1 lenD (op2V ixD 1 (pkV 2))) (ret (.int 1))) nilM)))
    (seqS (setS 4 (lstM (consM (op2 addD (op2 addD (slMV slcD 1 noneO (someO (rdV 2))) (tupM (consM (slM slcD (op2V ixD 1 (pkV 2)) noneO (someO (rdV 3))) (consM (slM slcD (op2V ixD 1 (pkV 2)) (someO (rdV 3)) noneO) nilM)))) (slMV slcD 1 (someO (op2V addD 2 (ret (.int 1)))) noneO)) (consM (op2 addD (op2 addD (slMV slcD 1 noneO (someO (rdV 2))) (tupM (consM (op1 (joinD "") (slMV slcD 1 (someO (rdV 2)) (someO (op2V addD 2 (ret (.int 2)))))) nilM))) (slMV slcD 1 (someO (op2V addD 2 (ret (.int 2)))) noneO)) nilM))))
    (seqS (setS 4 (op2V addD 4 (lstM (consM (tupM (consM (op1 (joinD "") (pkV 1)) nilM)) (consM (op1 tup2D (op1 (joinD "") (pkV 1))) (consM (op2 addD (op2 addD (slMV slcD 1 noneO (someO (rdV 2))) (tupM (consM (ret (.str "")) nilM))) (slMV slcD 1 (someO (rdV 2)) noneO)) (consM (op2 addD (op2 addD (slMV slcD 1 noneO (someO (rdV 2))) (op1 revD (slMV slcD 1 (someO (rdV 2)) (someO (op2V addD 2 (ret (.int 2))))))) (slMV slcD 1 (someO (op2V addD 2 (ret (.int 2)))) noneO)) nilM)))))))
    (retS (op2V ixD 4 (callS m__law_next 0 (consM (op1 lenD (pkV 4)) nilM))))))))))
def m__law_cut : Nat → PyData → List PyData → Except Er (PyData × PyData)
  | 0 => fun _ _ => .error .stuck
  | k + 1 => runS 6 2 (b__law_cut (m__law_cut k))
theorem ok__law_cut (T : Tp K mg) : ∀ k : Nat, FnOk P K.w K mg base (L2N.CX P K.w) (k + 2) T.d__law_cut.f T.d__law_cut.fd ["state", "value"] (SpS K mg (m__law_cut k))
  | 0 => fnOk0S
  | k + 1 => by
    have ih := ok__law_cut T k
    exact fnS (k := k + 2) T.d__law_cut.F sc__law_cut (by decide) fun cdv A outer s H E hr => by
      have nd := sc__law_cut.nd
      exact (mb_cons (ms_if (mt_w (mw_or (mt_not (mt_tru (MQ.of (me_isi "tuple" T.z_isinstance (pe_bltn (v := .ty "tuple") rfl T.z_tuple (by decide +kernel) rfl) (by decide +kernel) (mq_var (pv 1)))))) (mw_or1 (mt_cmpV ho_eq (hr_eq hr.units) (pv 1) (MQ.of (me_tup ma_nil)) (nomark _))))) (mb_one (ms_ret (me_var (pv 1)))) mb_nil)
    (mb_cons (ms_if (mt_cmp ho_ne (hr_ne hr.units) (me_lc ["state", "value", "k", "at", "ways", "part"] (defScope s__law_cut) [("part", 5)] rfl nd (mi_seq (me_var (pv 1))) (by decide +kernel) (fun _ _ _ _ _ => (mg_name (i := 5) nd rfl (by first | exact Or.inl rfl | exact Or.inr rfl))) (fun _ _ _ _ _ => (mts_one (mt_not (mt_tru (MQ.of (me_isi "str" T.z_isinstance (pe_bltn (v := .ty "str") rfl T.z_str (by decide +kernel) rfl) (by decide +kernel) (mq_var (pv 5)))))))) (fun _ _ _ _ _ => (me_var (pv 5)))) (MQ.of (me_lst ma_nil)) (nomark _)) (mb_cons (ms_set (i := 2) nd rfl (Or.inl rfl) (me_callS (ok__law_next T) (hr.mono (by omega)) T.d__law_next.g T.d__law_next.k T.d__law_next.b (L2N.takes_of rfl rfl rfl rfl) (pv 0) (ma_cons (me_B1 ho_len hr_len (by rfl) T.z_len PySem.boot_len (mq_var (pv 1))) ma_nil)))
    (mb_one (ms_ret (me_op ho_add hr_add (me_op ho_add hr_add (me_sliceV ho_slc hr_slc (pv 1) mo_none (mo_some (me_var (pv 2)))) (MQ.of (me_tup (ma_cons (me_callS ih (hr.mono (by omega)) T.d__law_cut.g T.d__law_cut.k T.d__law_cut.b (L2N.takes_of rfl rfl rfl rfl) (pv 0) (ma_cons (me_ixV ho_ix (ix_all hr.units) (pv 1) (mq_var (pv 2)) (fun _ _ => rfl)) ma_nil)) ma_nil)))) (MQ.of (me_sliceV ho_slc hr_slc (pv 1) (mo_some (me_opV ho_add hr_add (pv 2) (MQ.of me_int))) mo_none)))))) mb_nil)
    (mb_cons (ms_set (i := 2) nd rfl (Or.inl rfl) (me_callS (ok__law_next T) (hr.mono (by omega)) T.d__law_next.g T.d__law_next.k T.d__law_next.b (L2N.takes_of rfl rfl rfl rfl) (pv 0) (ma_cons (me_B1 ho_len hr_len (by rfl) T.z_len PySem.boot_len (mq_var (pv 1))) ma_nil)))
    (mb_cons (ms_set (i := 3) nd rfl (Or.inl rfl) (me_callS (ok__law_next T) (hr.mono (by omega)) T.d__law_next.g T.d__law_next.k T.d__law_next.b (L2N.takes_of rfl rfl rfl rfl) (pv 0) (ma_cons (me_op ho_add hr_add (me_B1 ho_len hr_len (by rfl) T.z_len PySem.boot_len (MQ.of (me_ixV ho_ix (ix_all hr.units) (pv 1) (mq_var (pv 2)) (fun _ _ => rfl)))) (MQ.of me_int)) ma_nil)))
    (mb_cons (ms_set (i := 4) nd rfl (Or.inl rfl) (me_lst (ma_cons (me_op ho_add hr_add (me_op ho_add hr_add (me_sliceV ho_slc hr_slc (pv 1) mo_none (mo_some (me_var (pv 2)))) (MQ.of (me_tup (ma_cons (me_slice ho_slc hr_slc (me_ixV ho_ix (ix_all hr.units) (pv 1) (mq_var (pv 2)) (fun _ _ => rfl)) mo_none (mo_some (me_var (pv 3)))) (ma_cons (me_slice ho_slc hr_slc (me_ixV ho_ix (ix_all hr.units) (pv 1) (mq_var (pv 2)) (fun _ _ => rfl)) (mo_some (me_var (pv 3))) mo_none) ma_nil))))) (MQ.of (me_sliceV ho_slc hr_slc (pv 1) (mo_some (me_opV ho_add hr_add (pv 2) (MQ.of me_int))) mo_none))) (ma_cons (me_op ho_add hr_add (me_op ho_add hr_add (me_sliceV ho_slc hr_slc (pv 1) mo_none (mo_some (me_var (pv 2)))) (MQ.of (me_tup (ma_cons (me_join (MQ.of (me_sliceV ho_slc hr_slc (pv 1) (mo_some (me_var (pv 2))) (mo_some (me_opV ho_add hr_add (pv 2) (MQ.of me_int)))))) ma_nil)))) (MQ.of (me_sliceV ho_slc hr_slc (pv 1) (mo_some (me_opV ho_add hr_add (pv 2) (MQ.of me_int))) mo_none))) ma_nil))))
    (mb_cons (ms_set (i := 4) nd rfl (Or.inl rfl) (me_opV ho_add hr_add (pv 4) (MQ.of (me_lst (ma_cons (me_tup (ma_cons (me_join (mq_var (pv 1))) ma_nil)) (ma_cons (me_T1 ho_tup2 (hr_tup2 hr.hd) (by rfl) T.z_tuple (by decide +kernel) (MQ.of (me_join (mq_var (pv 1))))) (ma_cons (me_op ho_add hr_add (me_op ho_add hr_add (me_sliceV ho_slc hr_slc (pv 1) mo_none (mo_some (me_var (pv 2)))) (MQ.of (me_tup (ma_cons me_str ma_nil)))) (MQ.of (me_sliceV ho_slc hr_slc (pv 1) (mo_some (me_var (pv 2))) mo_none))) (ma_cons (me_op ho_add hr_add (me_op ho_add hr_add (me_sliceV ho_slc hr_slc (pv 1) mo_none (mo_some (me_var (pv 2)))) (MQ.of (me_rev (MQ.of (me_sliceV ho_slc hr_slc (pv 1) (mo_some (me_var (pv 2))) (mo_some (me_opV ho_add hr_add (pv 2) (MQ.of me_int)))))))) (MQ.of (me_sliceV ho_slc hr_slc (pv 1) (mo_some (me_opV ho_add hr_add (pv 2) (MQ.of me_int))) mo_none))) ma_nil))))))))
    (mb_one (ms_ret (me_ixV ho_ix (ix_all hr.units) (pv 4) (MQ.of (me_callS (ok__law_next T) (hr.mono (by omega)) T.d__law_next.g T.d__law_next.k T.d__law_next.b (L2N.takes_of rfl rfl rfl rfl) (pv 0) (ma_cons (me_B1 ho_len hr_len (by rfl) T.z_len PySem.boot_len (mq_var (pv 4))) ma_nil))) (fun _ _ => rfl))))))))))
/-! _law_turned_about -/
theorem sc__law_turned_about : FnScope ["state", "told", "numbers", "pick", "one", "other", "k", "j", "part"] ["state", "told"] (defScope s__law_turned_about) := ⟨rfl, rfl, rfl, by decide +kernel, rfl, by decide +kernel, by decide +kernel⟩
def b__law_turned_about : Gm → Out := (seqS (setS 2 (callM (m__law_ints 8) (consM (rdV 1) nilM)))
    (seqS (setS 3 (callS m__law_next 0 (consM (ret (.int 5)) nilM)))
    (seqS (ifS (andT (tstM (op2V ltD 3 (ret (.int 3)))) (tstM (op2V neD 2 (lstM nilM)))) (seqS (setS 4 (op2V ixD 2 (callS m__law_next 0 (consM (op1 lenD (pkV 2)) nilM))))
    (seqS (setS 5 (ifM (tstM (op2V eqD 3 (ret (.int 0)))) (op2V addD 4 (ret (.int 1))) (op2V ixD 2 (callS m__law_next 0 (consM (op1 lenD (pkV 2)) nilM)))))
    (retS (callM (m__law_exchanged 8) (consM (rdV 1) (consM (rdV 4) (consM (rdV 5) nilM))))))) nxS)
    (seqS (ifS (tstM (op2V eqD 3 (ret (.int 3)))) (retS (op2 addD (slMV slcD 1 noneO (someO (ret (.int 1)))) (ifM (tstM (op2 gtD (op1 lenD (pkV 1)) (ret (.int 2)))) (callS (m__law_cut 8) 0 (consM (slMV slcD 1 (someO (ret (.int 1))) noneO) nilM)) (op1 tup2D (lstO (compM (seqI (slMV slcD 1 (someO (ret (.int 1))) noneO)) [8] (bName 8) yesM (callS (m__law_cut 8) 0 (consM (rdV 8) nilM)))))))) nxS)
    (seqS (parS 6 7 (callS m__law_next 0 (consM (op1 lenD (pkV 1)) nilM)) (callS m__law_next 0 (consM (op1 lenD (pkV 1)) nilM)))
    (seqS (ifS (andT (tstM (op2 eqD (op1 lenD (pkV 1)) (ret (.int 2)))) (andT (tru (isiM "tuple" (op2V ixD 1 (ret (.int 1))))) (tstM (op2 neD (op2V ixD 1 (ret (.int 1))) (tupM nilM))))) (seqS (parS 6 7 (callS m__law_next 0 (consM (op1 lenD (op2V ixD 1 (ret (.int 1)))) nilM)) (callS m__law_next 0 (consM (op1 lenD (op2V ixD 1 (ret (.int 1)))) nilM)))
    (retS (tupM (consM (op2V ixD 1 (ret (.int 0))) (consM (op2 addD (op2 addD (slM slcD (op2V ixD 1 (ret (.int 1))) noneO (someO (rdV 6))) (slM slcD (op2V ixD 1 (ret (.int 1))) (someO (rdV 7)) (someO (op2V addD 7 (ret (.int 1)))))) (slM slcD (op2V ixD 1 (ret (.int 1))) (someO (op2V addD 6 (ret (.int 1)))) noneO)) nilM))))) nxS)
    (retS (ifM (andT (tstM (op2V gtD 6 (ret (.int 0)))) (tstM (op2V gtD 7 (ret (.int 0))))) (op2 addD (op2 addD (slMV slcD 1 noneO (someO (rdV 6))) (slMV slcD 1 (someO (rdV 7)) (someO (op2V addD 7 (ret (.int 1)))))) (slMV slcD 1 (someO (op2V addD 6 (ret (.int 1)))) noneO)) (rdV 1)))))))))
def m__law_turned_about : PyData → List PyData → Except Er (PyData × PyData) := runS 9 2 b__law_turned_about
theorem ok__law_turned_about (T : Tp K mg) : FnOk P K.w K mg base (L2N.CX P K.w) 11 T.d__law_turned_about.f T.d__law_turned_about.fd ["state", "told"] (SpS K mg m__law_turned_about) := fnS (k := 10) T.d__law_turned_about.F sc__law_turned_about (by decide) fun cdv A outer s H E hr => by
    have nd := sc__law_turned_about.nd
    exact (mb_cons (ms_set (i := 2) nd rfl (Or.inl rfl) (me_call (ok__law_ints T 8) (hr.mono (by decide)) T.d__law_ints.g T.d__law_ints.k T.d__law_ints.b (L2N.takes_of rfl rfl rfl rfl) (ma_cons (me_var (pv 1)) ma_nil)))
    (mb_cons (ms_set (i := 3) nd rfl (Or.inl rfl) (me_callS (ok__law_next T) (hr.mono (by decide)) T.d__law_next.g T.d__law_next.k T.d__law_next.b (L2N.takes_of rfl rfl rfl rfl) (pv 0) (ma_cons me_int ma_nil)))
    (mb_cons (ms_if (mt_w (mw_and (mt_cmpV ho_lt op_lt (pv 3) (MQ.of me_int) (nomark _)) (mw_and1 (mt_cmpV ho_ne (hr_ne hr.units) (pv 2) (MQ.of (me_lst ma_nil)) (nomark _))))) (mb_cons (ms_set (i := 4) nd rfl (Or.inl rfl) (me_ixV ho_ix (ix_all hr.units) (pv 2) (MQ.of (me_callS (ok__law_next T) (hr.mono (by decide)) T.d__law_next.g T.d__law_next.k T.d__law_next.b (L2N.takes_of rfl rfl rfl rfl) (pv 0) (ma_cons (me_B1 ho_len hr_len (by rfl) T.z_len PySem.boot_len (mq_var (pv 2))) ma_nil))) (fun _ _ => rfl)))
    (mb_cons (ms_set (i := 5) nd rfl (Or.inl rfl) (me_ifE (mt_cmpV ho_eq (hr_eq hr.units) (pv 3) (MQ.of me_int) (nomark _)) (me_opV ho_add hr_add (pv 4) (MQ.of me_int)) (me_ixV ho_ix (ix_all hr.units) (pv 2) (MQ.of (me_callS (ok__law_next T) (hr.mono (by decide)) T.d__law_next.g T.d__law_next.k T.d__law_next.b (L2N.takes_of rfl rfl rfl rfl) (pv 0) (ma_cons (me_B1 ho_len hr_len (by rfl) T.z_len PySem.boot_len (mq_var (pv 2))) ma_nil))) (fun _ _ => rfl))))
    (mb_one (ms_ret (me_call (ok__law_exchanged T 8) (hr.mono (by decide)) T.d__law_exchanged.g T.d__law_exchanged.k T.d__law_exchanged.b (L2N.takes_of rfl rfl rfl rfl) (ma_cons (me_var (pv 1)) (ma_cons (me_var (pv 4)) (ma_cons (me_var (pv 5)) ma_nil)))))))) mb_nil)
    (mb_cons (ms_if (mt_cmpV ho_eq (hr_eq hr.units) (pv 3) (MQ.of me_int) (nomark _)) (mb_one (ms_ret (me_op ho_add hr_add (me_sliceV ho_slc hr_slc (pv 1) mo_none (mo_some me_int)) (MQ.of (me_ifE (mt_cmp ho_gt op_gt (me_B1 ho_len hr_len (by rfl) T.z_len PySem.boot_len (mq_var (pv 1))) (MQ.of me_int) (nomark _)) (me_callS (ok__law_cut T 8) (hr.mono (by decide)) T.d__law_cut.g T.d__law_cut.k T.d__law_cut.b (L2N.takes_of rfl rfl rfl rfl) (pv 0) (ma_cons (me_sliceV ho_slc hr_slc (pv 1) (mo_some me_int) mo_none) ma_nil)) (me_T1 ho_tup2 (hr_tup2 hr.hd) (by rfl) T.z_tuple (by decide +kernel) (MQ.of (me_lc ["state", "told", "numbers", "pick", "one", "other", "k", "j", "part"] (defScope s__law_turned_about) [("part", 8)] rfl nd (mi_seq (me_sliceV ho_slc hr_slc (pv 1) (mo_some me_int) mo_none)) (by decide +kernel) (fun _ _ _ _ _ => (mg_name (i := 8) nd rfl (by first | exact Or.inl rfl | exact Or.inr rfl))) (fun _ _ _ _ _ => mts_nil) (fun _ _ _ _ _ => (me_callS (ok__law_cut T 8) (hr.mono (by decide)) T.d__law_cut.g T.d__law_cut.k T.d__law_cut.b takes0N (pv 0) (ma_cons (me_var (pv 8)) ma_nil))))))))))) mb_nil)
    (mb_cons (ms_par (i := 6) (j := 7) rfl nd rfl rfl (by decide) rfl rfl (me_callS (ok__law_next T) (hr.mono (by decide)) T.d__law_next.g T.d__law_next.k T.d__law_next.b (L2N.takes_of rfl rfl rfl rfl) (pv 0) (ma_cons (me_B1 ho_len hr_len (by rfl) T.z_len PySem.boot_len (mq_var (pv 1))) ma_nil)) (me_callS (ok__law_next T) (hr.mono (by decide)) T.d__law_next.g T.d__law_next.k T.d__law_next.b (L2N.takes_of rfl rfl rfl rfl) (pv 0) (ma_cons (me_B1 ho_len hr_len (by rfl) T.z_len PySem.boot_len (mq_var (pv 1))) ma_nil)) (by rfl))
    (mb_cons (ms_if (mt_w (mw_and (mt_cmp ho_eq (hr_eq hr.units) (me_B1 ho_len hr_len (by rfl) T.z_len PySem.boot_len (mq_var (pv 1))) (MQ.of me_int) (nomark _)) (mw_and (mt_tru (MQ.of (me_isi "tuple" T.z_isinstance (pe_bltn (v := .ty "tuple") rfl T.z_tuple (by decide +kernel) rfl) (by decide +kernel) (MQ.of (me_ixV ho_ix (ix_all hr.units) (pv 1) (MQ.of me_int) (fun _ _ => rfl)))))) (mw_and1 (mt_cmp ho_ne (hr_ne hr.units) (me_ixV ho_ix (ix_all hr.units) (pv 1) (MQ.of me_int) (fun _ _ => rfl)) (MQ.of (me_tup ma_nil)) (nomark _)))))) (mb_cons (ms_par (i := 6) (j := 7) rfl nd rfl rfl (by decide) rfl rfl (me_callS (ok__law_next T) (hr.mono (by decide)) T.d__law_next.g T.d__law_next.k T.d__law_next.b (L2N.takes_of rfl rfl rfl rfl) (pv 0) (ma_cons (me_B1 ho_len hr_len (by rfl) T.z_len PySem.boot_len (MQ.of (me_ixV ho_ix (ix_all hr.units) (pv 1) (MQ.of me_int) (fun _ _ => rfl)))) ma_nil)) (me_callS (ok__law_next T) (hr.mono (by decide)) T.d__law_next.g T.d__law_next.k T.d__law_next.b (L2N.takes_of rfl rfl rfl rfl) (pv 0) (ma_cons (me_B1 ho_len hr_len (by rfl) T.z_len PySem.boot_len (MQ.of (me_ixV ho_ix (ix_all hr.units) (pv 1) (MQ.of me_int) (fun _ _ => rfl)))) ma_nil)) (by rfl))
    (mb_one (ms_ret (me_tup (ma_cons (me_ixV ho_ix (ix_all hr.units) (pv 1) (MQ.of me_int) (fun _ _ => rfl)) (ma_cons (me_op ho_add hr_add (me_op ho_add hr_add (me_slice ho_slc hr_slc (me_ixV ho_ix (ix_all hr.units) (pv 1) (MQ.of me_int) (fun _ _ => rfl)) mo_none (mo_some (me_var (pv 6)))) (MQ.of (me_slice ho_slc hr_slc (me_ixV ho_ix (ix_all hr.units) (pv 1) (MQ.of me_int) (fun _ _ => rfl)) (mo_some (me_var (pv 7))) (mo_some (me_opV ho_add hr_add (pv 7) (MQ.of me_int)))))) (MQ.of (me_slice ho_slc hr_slc (me_ixV ho_ix (ix_all hr.units) (pv 1) (MQ.of me_int) (fun _ _ => rfl)) (mo_some (me_opV ho_add hr_add (pv 6) (MQ.of me_int))) mo_none))) ma_nil)))))) mb_nil)
    (mb_one (ms_ret (me_ifE (mt_w (mw_and (mt_cmpV ho_gt op_gt (pv 6) (MQ.of me_int) (nomark _)) (mw_and1 (mt_cmpV ho_gt op_gt (pv 7) (MQ.of me_int) (nomark _))))) (me_op ho_add hr_add (me_op ho_add hr_add (me_sliceV ho_slc hr_slc (pv 1) mo_none (mo_some (me_var (pv 6)))) (MQ.of (me_sliceV ho_slc hr_slc (pv 1) (mo_some (me_var (pv 7))) (mo_some (me_opV ho_add hr_add (pv 7) (MQ.of me_int)))))) (MQ.of (me_sliceV ho_slc hr_slc (pv 1) (mo_some (me_opV ho_add hr_add (pv 6) (MQ.of me_int))) mo_none))) (me_var (pv 1)))))))))))
/-! _law_odd -/
theorem sc__law_odd : FnScope ["state", "told", "odd", "pick"] ["state", "told"] (defScope s__law_odd) := ⟨rfl, rfl, rfl, by decide +kernel, rfl, by decide +kernel, by decide +kernel⟩
def b__law_odd : Gm → Out := (seqS (setS 2 (lstM (consM (ret .none) (consM (ret (.str "")) (consM (ret (.str "yes")) (consM (ret (.dict [])) (consM (tupM nilM) (consM (slMV slcD 1 noneO (someO (ret (.int 1)))) (consM (op1 listD (pkV 1)) (consM (op2V addD 1 (tupM (consM (ret (.int 0)) nilM))) (consM (op2 addD (tupM (consM (lstM (consM (op2V ixD 1 (ret (.int 0))) nilM)) nilM)) (slMV slcD 1 (someO (ret (.int 1))) noneO)) (consM (op2 addD (tupM (consM (ret (.str "none such")) nilM)) (slMV slcD 1 (someO (ret (.int 1))) noneO)) (consM (ret (.int 7)) nilM)))))))))))))
    (seqS (setS 3 (callS m__law_next 0 (consM (ret (.int 9)) nilM)))
    (seqS (ifS (tstM (op2V gtD 3 (ret (.int 4)))) (retS (callS m__law_turned_about 0 (consM (rdV 1) nilM))) nxS)
    (retS (ifM (tstM (op2V eqD 3 (ret (.int 0)))) (op2V ixD 2 (callS m__law_next 0 (consM (op1 lenD (pkV 2)) nilM))) (callS (m__law_changed 8) 0 (consM (rdV 1) nilM)))))))
def m__law_odd : PyData → List PyData → Except Er (PyData × PyData) := runS 4 2 b__law_odd
theorem ok__law_odd (T : Tp K mg) : FnOk P K.w K mg base (L2N.CX P K.w) 12 T.d__law_odd.f T.d__law_odd.fd ["state", "told"] (SpS K mg m__law_odd) := fnS (k := 11) T.d__law_odd.F sc__law_odd (by decide) fun cdv A outer s H E hr => by
    have nd := sc__law_odd.nd
    exact (mb_cons (ms_set (i := 2) nd rfl (Or.inl rfl) (me_lst (ma_cons me_non (ma_cons me_str (ma_cons me_str (ma_cons me_dict0 (ma_cons (me_tup ma_nil) (ma_cons (me_sliceV ho_slc hr_slc (pv 1) mo_none (mo_some me_int)) (ma_cons (me_T1 ho_list (cr_list hr.hd) (by rfl) T.z_list (by decide +kernel) (mq_var (pv 1))) (ma_cons (me_opV ho_add hr_add (pv 1) (MQ.of (me_tup (ma_cons me_int ma_nil)))) (ma_cons (me_op ho_add hr_add (me_tup (ma_cons (me_lst (ma_cons (me_ixV ho_ix (ix_all hr.units) (pv 1) (MQ.of me_int) (fun _ _ => rfl)) ma_nil)) ma_nil)) (MQ.of (me_sliceV ho_slc hr_slc (pv 1) (mo_some me_int) mo_none))) (ma_cons (me_op ho_add hr_add (me_tup (ma_cons me_str ma_nil)) (MQ.of (me_sliceV ho_slc hr_slc (pv 1) (mo_some me_int) mo_none))) (ma_cons me_int ma_nil)))))))))))))
    (mb_cons (ms_set (i := 3) nd rfl (Or.inl rfl) (me_callS (ok__law_next T) (hr.mono (by decide)) T.d__law_next.g T.d__law_next.k T.d__law_next.b (L2N.takes_of rfl rfl rfl rfl) (pv 0) (ma_cons me_int ma_nil)))
    (mb_cons (ms_if (mt_cmpV ho_gt op_gt (pv 3) (MQ.of me_int) (nomark _)) (mb_one (ms_ret (me_callS (ok__law_turned_about T) (hr.mono (by decide)) T.d__law_turned_about.g T.d__law_turned_about.k T.d__law_turned_about.b (L2N.takes_of rfl rfl rfl rfl) (pv 0) (ma_cons (me_var (pv 1)) ma_nil)))) mb_nil)
    (mb_one (ms_ret (me_ifE (mt_cmpV ho_eq (hr_eq hr.units) (pv 3) (MQ.of me_int) (nomark _)) (me_ixV ho_ix (ix_all hr.units) (pv 2) (MQ.of (me_callS (ok__law_next T) (hr.mono (by decide)) T.d__law_next.g T.d__law_next.k T.d__law_next.b (L2N.takes_of rfl rfl rfl rfl) (pv 0) (ma_cons (me_B1 ho_len hr_len (by rfl) T.z_len PySem.boot_len (mq_var (pv 2))) ma_nil))) (fun _ _ => rfl)) (me_callS (ok__law_changed T 8) (hr.mono (by decide)) T.d__law_changed.g T.d__law_changed.k T.d__law_changed.b (L2N.takes_of rfl rfl rfl rfl) (pv 0) (ma_cons (me_var (pv 1)) ma_nil))))))))
/-! _law_works -/
theorem sc__law_works : FnScope ["lines", "line"] ["lines"] (defScope s__law_works) := ⟨rfl, rfl, rfl, by decide +kernel, rfl, by decide +kernel, by decide +kernel⟩
def b__law_works : Gm → Out := (retS (op1 sortSetX (lstO (compM (seqI (rdV 0)) [1] (bName 1) yesM (op2V ixD 1 (ret (.int 0)))))))
def m__law_works : List PyData → Except Er PyData := runP 2 1 b__law_works
theorem ok__law_works (T : Tp K mg) : FnOk P K.w K mg base (L2N.CX P K.w) 1 T.d__law_works.f T.d__law_works.fd ["lines"] (SpP K mg m__law_works) := fnP (k := 0) T.d__law_works.F sc__law_works (by decide) fun cdv A outer s H E hr => by
    have nd := sc__law_works.nd
    exact (mb_one (ms_ret (me_sortSetX T.z_sorted T.z_set hr.units (me_lc ["lines", "line"] (defScope s__law_works) [("line", 1)] rfl nd (mi_seq (me_var (pv 0))) (by decide +kernel) (fun _ _ _ _ _ => (mg_name (i := 1) nd rfl (by first | exact Or.inl rfl | exact Or.inr rfl))) (fun _ _ _ _ _ => mts_nil) (fun _ _ _ _ _ => (me_ixV ho_ix (ix_all hr.units) (pv 1) (MQ.of me_int) (fun _ _ => rfl)))))))
/-! _law_reads -/
theorem sc__law_reads : FnScope ["lines", "found", "writers", "work", "deed", "thing", "number", "key"] ["lines"] (defScope s__law_reads) := ⟨rfl, rfl, rfl, by decide +kernel, rfl, by decide +kernel, by decide +kernel⟩
def b__law_reads : Gm → Out := (seqS (set00 1 2)
    (seqS (forS (seqI (rdV 0)) (bTup 3 (bCons (bName 3) (bCons (bName 4) (bCons (bName 5) bNil)))) (ifS (tstM (op2V eqD 4 (ret (.str "read")))) (seqS (setS 6 (op2 addD (ret (.int 1)) (op1 lenD (lstO (compQ 1 [7] (bName 7) (tstM (op2 eqD (slMV slcD 7 noneO (someO (ret (.int 2)))) (tupM (consM (rdV 3) (consM (rdV 5) nilM))))) (rdV 7))))))
    (stoK 1 (tupM (consM (rdV 3) (consM (rdV 5) (consM (rdV 6) nilM)))) (metV ["dict"] dgetD 2 (consM (rdV 5) (consM (ret (.str "")) nilM))))) (stoK 2 (rdV 5) (rdV 3))))
    (retS (tupM (consM (rdV 1) (consM (rdV 2) nilM))))))
def m__law_reads : List PyData → Except Er PyData := runP 8 1 b__law_reads
theorem ok__law_reads (T : Tp K mg) : FnOk P K.w K mg base (L2N.CX P K.w) 1 T.d__law_reads.f T.d__law_reads.fd ["lines"] (SpP K mg m__law_reads) := fnP (k := 0) T.d__law_reads.F sc__law_reads (by decide) fun cdv A outer s H E hr => by
    have nd := sc__law_reads.nd
    exact (mb_cons (ms_par00 (i := 1) (j := 2) rfl nd rfl rfl (by decide) rfl rfl (by rfl))
    (mb_cons (ms_for (passes_of rfl) rfl (mi_seq (me_var (pv 0))) (mg_tup rfl (mgs_cons (mg_name (i := 3) nd rfl (Or.inr rfl)) (mgs_cons (mg_name (i := 4) nd rfl (Or.inl rfl)) (mgs_cons (mg_name (i := 5) nd rfl (Or.inr rfl)) mgs_nil)))) (mb_one (ms_if (mt_cmpV ho_eq (hr_eq hr.units) (pv 4) (MQ.of me_str) (nomark _)) (mb_cons (ms_set (i := 6) nd rfl (Or.inl rfl) (me_op ho_add hr_add me_int (MQ.of (me_B1 ho_len hr_len (by rfl) T.z_len PySem.boot_len (MQ.of (me_lcQ ["lines", "found", "writers", "work", "deed", "thing", "number", "key"] (defScope s__law_reads) [("key", 7)] rfl nd (pv 1) (by decide +kernel) (fun _ _ _ _ _ => (mg_name (i := 7) nd rfl (by first | exact Or.inl rfl | exact Or.inr rfl))) (fun _ _ _ _ _ => (mts_one (mt_cmp ho_eq (hr_eq hr.units) (me_sliceV ho_slc hr_slc (pv 7) mo_none (mo_some me_int)) (MQ.of (me_tup (ma_cons (me_var (pv 3)) (ma_cons (me_var (pv 5)) ma_nil)))) (nomark _)))) (fun _ _ _ _ _ => (me_var (pv 7)))))))))
    (mb_one (ms_stoK hr.units (pv 1) (me_tup (ma_cons (me_var (pv 3)) (ma_cons (me_var (pv 5)) (ma_cons (me_var (pv 6)) ma_nil)))) (me_get2V hr.units (pv 2) (me_var (pv 5)) me_str)))) (mb_one (ms_stoK hr.units (pv 2) (me_var (pv 5)) (me_var (pv 3)))))))
    (mb_one (ms_ret (me_tup (ma_cons (me_var (pv 1)) (ma_cons (me_var (pv 2)) ma_nil)))))))
/-! _law_whole -/
theorem sc__law_whole : FnScope ["lines", "order", "found", "work", "line"] ["lines", "order"] (defScope s__law_whole) := ⟨rfl, rfl, rfl, by decide +kernel, rfl, by decide +kernel, by decide +kernel⟩
def b__law_whole : Gm → Out := (seqS (setS 2 (lstM nilM))
    (seqS (forS (seqI (rdV 1)) (bName 3) (setS 2 (op2V addD 2 (lstO (compM (seqI (rdV 0)) [4] (bName 4) (tstM (op2 eqD (op2V ixD 4 (ret (.int 0))) (pkV 3))) (rdV 4))))))
    (retS (rdV 2))))
def m__law_whole : List PyData → Except Er PyData := runP 5 2 b__law_whole
theorem ok__law_whole (T : Tp K mg) : FnOk P K.w K mg base (L2N.CX P K.w) 1 T.d__law_whole.f T.d__law_whole.fd ["lines", "order"] (SpP K mg m__law_whole) := fnP (k := 0) T.d__law_whole.F sc__law_whole (by decide) fun cdv A outer s H E hr => by
    have nd := sc__law_whole.nd
    exact (mb_cons (ms_set (i := 2) nd rfl (Or.inl rfl) (me_lst ma_nil))
    (mb_cons (ms_for (passes_of rfl) rfl (mi_seq (me_var (pv 1))) (mg_name (i := 3) nd rfl (Or.inr rfl)) (mb_one (ms_set (i := 2) nd rfl (Or.inl rfl) (me_opV ho_add hr_add (pv 2) (MQ.of (me_lc ["lines", "order", "found", "work", "line"] (defScope s__law_whole) [("line", 4)] rfl nd (mi_seq (me_var (pv 0))) (by decide +kernel) (fun _ _ _ _ _ => (mg_name (i := 4) nd rfl (by first | exact Or.inl rfl | exact Or.inr rfl))) (fun _ _ _ _ _ => (mts_one (mt_cmp ho_eq (hr_eq hr.units) (me_ixV ho_ix (ix_all hr.units) (pv 4) (MQ.of me_int) (fun _ _ => rfl)) (mq_var (pv 3)) (nomark _)))) (fun _ _ _ _ _ => (me_var (pv 4)))))))))
    (mb_one (ms_ret (me_var (pv 2))))))
/-! _law_orders -/
theorem sc__law_orders : FnScope ["names", "found", "turn", "longer", "row", "name"] ["names"] (defScope s__law_orders) := ⟨rfl, rfl, rfl, by decide +kernel, rfl, by decide +kernel, by decide +kernel⟩
def b__law_orders : Gm → Out := (seqS (setS 1 (lstM (consM (tupM nilM) nilM)))
    (seqS (forS (seqI (rdV 0)) (bName 2) (seqS (setS 3 (lstM nilM))
    (seqS (forS (seqI (rdV 1)) (bName 4) (setS 3 (op2V addD 3 (lstO (compM (seqI (rdV 0)) [5] (bName 5) (tstM (op2V (inD not) 5 (pkV 4))) (op2V addD 4 (tupM (consM (rdV 5) nilM))))))))
    (setS 1 (rdV 3)))))
    (retS (rdV 1))))
def m__law_orders : List PyData → Except Er PyData := runP 6 1 b__law_orders
theorem ok__law_orders (T : Tp K mg) : FnOk P K.w K mg base (L2N.CX P K.w) 1 T.d__law_orders.f T.d__law_orders.fd ["names"] (SpP K mg m__law_orders) := fnP (k := 0) T.d__law_orders.F sc__law_orders (by decide) fun cdv A outer s H E hr => by
    have nd := sc__law_orders.nd
    exact (mb_cons (ms_set (i := 1) nd rfl (Or.inl rfl) (me_lst (ma_cons (me_tup ma_nil) ma_nil)))
    (mb_cons (ms_for (passes_of rfl) rfl (mi_seq (me_var (pv 0))) (mg_name (i := 2) nd rfl (Or.inl rfl)) (mb_cons (ms_set (i := 3) nd rfl (Or.inl rfl) (me_lst ma_nil))
    (mb_cons (ms_for (passes_of rfl) rfl (mi_seq (me_var (pv 1))) (mg_name (i := 4) nd rfl (Or.inr rfl)) (mb_one (ms_set (i := 3) nd rfl (Or.inl rfl) (me_opV ho_add hr_add (pv 3) (MQ.of (me_lc ["names", "found", "turn", "longer", "row", "name"] (defScope s__law_orders) [("name", 5)] rfl nd (mi_seq (me_var (pv 0))) (by decide +kernel) (fun _ _ _ _ _ => (mg_name (i := 5) nd rfl (by first | exact Or.inl rfl | exact Or.inr rfl))) (fun _ _ _ _ _ => (mts_one (mt_cmpV ho_in (op_ni (u65 hr)) (pv 5) (mq_var (pv 4)) (by with_unfolding_all rfl)))) (fun _ _ _ _ _ => (me_opV ho_add hr_add (pv 4) (MQ.of (me_tup (ma_cons (me_var (pv 5)) ma_nil)))))))))))
    (mb_one (ms_set (i := 1) nd rfl (Or.inl rfl) (me_var (pv 3)))))))
    (mb_one (ms_ret (me_var (pv 1))))))
/-! _law_accepts -/
theorem sc__law_accepts : FnScope ["lines", "told", "works", "reads", "writers", "orders_v", "k", "entry", "others", "lasts", "part"] ["lines", "told"] (defScope s__law_accepts) := ⟨rfl, rfl, rfl, by decide +kernel, rfl, by decide +kernel, by decide +kernel⟩
def b__law_accepts : Gm → Out := (seqS (setS 2 (callM m__law_works (consM (rdV 0) nilM)))
    (seqS (asgS (bTup 2 (bCons (bName 3) (bCons (bName 4) bNil))) (callM m__law_reads (consM (rdV 0) nilM)))
    (seqS (ifS (tru (callM m__law_is (consM (rdV 1) (consM (ret (.str "order")) (consM (ret (.int 2)) nilM))))) (retS (andV (callM m__law_are_texts (consM (op2V ixD 1 (ret (.int 1))) nilM)) (andV (op2 eqD (op1 sortG (op2V ixD 1 (ret (.int 1)))) (pkV 2)) (op2 eqPD (callM m__law_reads (consM (callM m__law_whole (consM (rdV 0) (consM (op2V ixD 1 (ret (.int 1))) nilM))) nilM)) (tupM (consM (rdV 3) (consM (rdV 4) nilM))))))) nxS)
    (seqS (setS 5 (callM m__law_orders (consM (rdV 2) nilM)))
    (seqS (ifS (orT (notT (tru (callM m__law_is (consM (rdV 1) (consM (ret (.str "never")) (consM (ret (.int 2)) nilM)))))) (orT (notT (tru (isiM "tuple" (op2V ixD 1 (ret (.int 1)))))) (tstM (op2 neD (op1 lenD (op2V ixD 1 (ret (.int 1)))) (op1 lenD (pkV 5)))))) (retS (ret (.bool false))) nxS)
    (seqS (forS (rng1 (op1 lenD (pkV 5))) (bName 6) (seqS (setS 7 (op2 ixD (op2V ixD 1 (ret (.int 1))) (pkV 6)))
    (seqS (ifS (orT (notT (tru (isiM "tuple" (pkV 7)))) (tstM (op2 neD (lstO (compM (seqI (rdV 7)) [10] (bName 10) (notT (orT (tru (isiM "str" (pkV 10))) (tru (callM m__law_is_whole (consM (rdV 10) nilM))))) (rdV 10))) (lstM nilM)))) (retS (ret (.bool false))) nxS)
    (seqS (asgS (bTup 2 (bCons (bName 8) (bCons (bName 9) bNil))) (callM m__law_reads (consM (callM m__law_whole (consM (rdV 0) (consM (op2V ixD 5 (pkV 6)) nilM))) nilM)))
    (seqS (ifS (andT (tstM (op2 eqD (op1 lenD (pkV 7)) (ret (.int 1)))) (orT (tstM (op2 (inD not) (op2V ixD 7 (ret (.int 0))) (pkV 4))) (tstM (op2 eqD (op2V ixD 4 (op2V ixD 7 (ret (.int 0)))) (op2V ixD 9 (op2V ixD 7 (ret (.int 0)))))))) (retS (ret (.bool false))) nxS)
    (ifS (andT (tstM (op2 neD (op1 lenD (pkV 7)) (ret (.int 1)))) (orT (tstM (op2V (inD not) 7 (pkV 3))) (tstM (op2 eqD (op2V ixD 3 (pkV 7)) (op2V ixD 8 (pkV 7)))))) (retS (ret (.bool false))) nxS))))))
    (retS (ret (.bool true)))))))))
def m__law_accepts : List PyData → Except Er PyData := runP 11 2 b__law_accepts
theorem ok__law_accepts (T : Tp K mg) : FnOk P K.w K mg base (L2N.CX P K.w) 2 T.d__law_accepts.f T.d__law_accepts.fd ["lines", "told"] (SpP K mg m__law_accepts) := fnP (k := 1) T.d__law_accepts.F sc__law_accepts (by decide) fun cdv A outer s H E hr => by
    have nd := sc__law_accepts.nd
    exact (mb_cons (ms_set (i := 2) nd rfl (Or.inl rfl) (me_call (ok__law_works T) (hr.mono (by decide)) T.d__law_works.g T.d__law_works.k T.d__law_works.b (L2N.takes_of rfl rfl rfl rfl) (ma_cons (me_var (pv 0)) ma_nil)))
    (mb_cons (ms_asg (me_call (ok__law_reads T) (hr.mono (by decide)) T.d__law_reads.g T.d__law_reads.k T.d__law_reads.b (L2N.takes_of rfl rfl rfl rfl) (ma_cons (me_var (pv 0)) ma_nil)) (mg_tup rfl (mgs_cons (mg_name (i := 3) nd rfl (Or.inl rfl)) (mgs_cons (mg_name (i := 4) nd rfl (Or.inl rfl)) mgs_nil))))
    (mb_cons (ms_if (mt_tru (MQ.of (me_call (ok__law_is T) (hr.mono (by decide)) T.d__law_is.g T.d__law_is.k T.d__law_is.b (L2N.takes_of rfl rfl rfl rfl) (ma_cons (me_var (pv 1)) (ma_cons me_str (ma_cons me_int ma_nil)))))) (mb_one (ms_ret (me_and (me_call (ok__law_are_texts T) (hr.mono (by decide)) T.d__law_are_texts.g T.d__law_are_texts.k T.d__law_are_texts.b (L2N.takes_of rfl rfl rfl rfl) (ma_cons (me_ixV ho_ix (ix_all hr.units) (pv 1) (MQ.of me_int) (fun _ _ => rfl)) ma_nil)) (me_and (me_cmp ho_eq (hr_eq hr.units) (me_B1 ho_sortG (cr_sortG hr.units hr.hd) (by rfl) T.z_sorted PyProof.Rows.boot_sorted (MQ.of (me_ixV ho_ix (ix_all hr.units) (pv 1) (MQ.of me_int) (fun _ _ => rfl)))) (mq_var (pv 2)) (nomark _)) (me_one (me_cmp ho_eqP (hr_eqP hr.units) (me_call (ok__law_reads T) (hr.mono (by decide)) T.d__law_reads.g T.d__law_reads.k T.d__law_reads.b (L2N.takes_of rfl rfl rfl rfl) (ma_cons (me_call (ok__law_whole T) (hr.mono (by decide)) T.d__law_whole.g T.d__law_whole.k T.d__law_whole.b (L2N.takes_of rfl rfl rfl rfl) (ma_cons (me_var (pv 0)) (ma_cons (me_ixV ho_ix (ix_all hr.units) (pv 1) (MQ.of me_int) (fun _ _ => rfl)) ma_nil))) ma_nil)) (MQ.of (me_tup (ma_cons (me_var (pv 3)) (ma_cons (me_var (pv 4)) ma_nil)))) (nomark _))))))) mb_nil)
    (mb_cons (ms_set (i := 5) nd rfl (Or.inl rfl) (me_call (ok__law_orders T) (hr.mono (by decide)) T.d__law_orders.g T.d__law_orders.k T.d__law_orders.b (L2N.takes_of rfl rfl rfl rfl) (ma_cons (me_var (pv 2)) ma_nil)))
    (mb_cons (ms_if (mt_w (mw_or (mt_not (mt_tru (MQ.of (me_call (ok__law_is T) (hr.mono (by decide)) T.d__law_is.g T.d__law_is.k T.d__law_is.b (L2N.takes_of rfl rfl rfl rfl) (ma_cons (me_var (pv 1)) (ma_cons me_str (ma_cons me_int ma_nil))))))) (mw_or (mt_not (mt_tru (MQ.of (me_isi "tuple" T.z_isinstance (pe_bltn (v := .ty "tuple") rfl T.z_tuple (by decide +kernel) rfl) (by decide +kernel) (MQ.of (me_ixV ho_ix (ix_all hr.units) (pv 1) (MQ.of me_int) (fun _ _ => rfl))))))) (mw_or1 (mt_cmp ho_ne (hr_ne hr.units) (me_B1 ho_len hr_len (by rfl) T.z_len PySem.boot_len (MQ.of (me_ixV ho_ix (ix_all hr.units) (pv 1) (MQ.of me_int) (fun _ _ => rfl)))) (MQ.of (me_B1 ho_len hr_len (by rfl) T.z_len PySem.boot_len (mq_var (pv 5)))) (nomark _)))))) (mb_one (ms_ret me_bl)) mb_nil)
    (mb_cons (ms_for (passes_of rfl) rfl (mi_rng1 T.z_range (me_B1 ho_len hr_len (by rfl) T.z_len PySem.boot_len (mq_var (pv 5)))) (mg_name (i := 6) nd rfl (Or.inl rfl)) (mb_cons (ms_set (i := 7) nd rfl (Or.inl rfl) (me_ix ho_ix (ix_all hr.units) (me_ixV ho_ix (ix_all hr.units) (pv 1) (MQ.of me_int) (fun _ _ => rfl)) (mq_var (pv 6)) (fun _ _ => rfl)))
    (mb_cons (ms_if (mt_w (mw_or (mt_not (mt_tru (MQ.of (me_isi "tuple" T.z_isinstance (pe_bltn (v := .ty "tuple") rfl T.z_tuple (by decide +kernel) rfl) (by decide +kernel) (mq_var (pv 7)))))) (mw_or1 (mt_cmp ho_ne (hr_ne hr.units) (me_lc ["lines", "told", "works", "reads", "writers", "orders_v", "k", "entry", "others", "lasts", "part"] (defScope s__law_accepts) [("part", 10)] rfl nd (mi_seq (me_var (pv 7))) (by decide +kernel) (fun _ _ _ _ _ => (mg_name (i := 10) nd rfl (by first | exact Or.inl rfl | exact Or.inr rfl))) (fun _ _ _ _ _ => (mts_one (mt_not (mt_w (mw_or (mt_tru (MQ.of (me_isi "str" T.z_isinstance (pe_bltn (v := .ty "str") rfl T.z_str (by decide +kernel) rfl) (by decide +kernel) (mq_var (pv 10))))) (mw_or1 (mt_tru (MQ.of (me_call (ok__law_is_whole T) (hr.mono (by decide)) T.d__law_is_whole.g T.d__law_is_whole.k T.d__law_is_whole.b takes0N (ma_cons (me_var (pv 10)) ma_nil)))))))))) (fun _ _ _ _ _ => (me_var (pv 10)))) (MQ.of (me_lst ma_nil)) (nomark _))))) (mb_one (ms_ret me_bl)) mb_nil)
    (mb_cons (ms_asg (me_call (ok__law_reads T) (hr.mono (by decide)) T.d__law_reads.g T.d__law_reads.k T.d__law_reads.b (L2N.takes_of rfl rfl rfl rfl) (ma_cons (me_call (ok__law_whole T) (hr.mono (by decide)) T.d__law_whole.g T.d__law_whole.k T.d__law_whole.b (L2N.takes_of rfl rfl rfl rfl) (ma_cons (me_var (pv 0)) (ma_cons (me_ixV ho_ix (ix_all hr.units) (pv 5) (mq_var (pv 6)) (fun _ _ => rfl)) ma_nil))) ma_nil)) (mg_tup rfl (mgs_cons (mg_name (i := 8) nd rfl (Or.inl rfl)) (mgs_cons (mg_name (i := 9) nd rfl (Or.inl rfl)) mgs_nil))))
    (mb_cons (ms_if (mt_w (mw_and (mt_cmp ho_eq (hr_eq hr.units) (me_B1 ho_len hr_len (by rfl) T.z_len PySem.boot_len (mq_var (pv 7))) (MQ.of me_int) (nomark _)) (mw_and1 (mt_w (mw_or (mt_cmp ho_in (op_ni (u65 hr)) (me_ixV ho_ix (ix_all hr.units) (pv 7) (MQ.of me_int) (fun _ _ => rfl)) (mq_var (pv 4)) (by with_unfolding_all rfl)) (mw_or1 (mt_cmp ho_eq (hr_eq hr.units) (me_ixV ho_ix (ix_all hr.units) (pv 4) (MQ.of (me_ixV ho_ix (ix_all hr.units) (pv 7) (MQ.of me_int) (fun _ _ => rfl))) (fun _ _ => rfl)) (MQ.of (me_ixV ho_ix (ix_all hr.units) (pv 9) (MQ.of (me_ixV ho_ix (ix_all hr.units) (pv 7) (MQ.of me_int) (fun _ _ => rfl))) (fun _ _ => rfl))) (nomark _)))))))) (mb_one (ms_ret me_bl)) mb_nil)
    (mb_one (ms_if (mt_w (mw_and (mt_cmp ho_ne (hr_ne hr.units) (me_B1 ho_len hr_len (by rfl) T.z_len PySem.boot_len (mq_var (pv 7))) (MQ.of me_int) (nomark _)) (mw_and1 (mt_w (mw_or (mt_cmpV ho_in (op_ni (u65 hr)) (pv 7) (mq_var (pv 3)) (by with_unfolding_all rfl)) (mw_or1 (mt_cmp ho_eq (hr_eq hr.units) (me_ixV ho_ix (ix_all hr.units) (pv 3) (mq_var (pv 7)) (fun _ _ => rfl)) (MQ.of (me_ixV ho_ix (ix_all hr.units) (pv 8) (mq_var (pv 7)) (fun _ _ => rfl))) (nomark _)))))))) (mb_one (ms_ret me_bl)) mb_nil)))))))
    (mb_one (ms_ret me_bl))))))))
/-! _law_unfit -/
theorem sc__law_unfit : FnScope ["lines", "judged", "error"] ["lines"] (defScope s__law_unfit) := ⟨rfl, rfl, rfl, by decide +kernel, rfl, by decide +kernel, by decide +kernel⟩
def b__law_unfit : Gm → Out := (seqS (forS (seqI (lstM (consM (ret (.bool false)) (consM (ret (.bool true)) nilM)))) (bName 1) (tryS "UnfitNet" 2 (seqS (ifS (tru (pkV 1)) (dropS (callM m_judge_alike_reads (consM (rdV 0) (consM (ret .none) nilM)))) (dropS (callM m_alike_reads (consM (rdV 0) nilM))))
    (retS (ret (.bool false))))))
    (retS (ret (.bool true))))
def m__law_unfit : List PyData → Except Er PyData := runP 3 1 b__law_unfit
theorem ok__law_unfit (T : Tp K mg) : FnOk P K.w K mg base (L2N.CX P K.w) 4 T.d__law_unfit.f T.d__law_unfit.fd ["lines"] (SpP K mg m__law_unfit) := fnP (k := 3) T.d__law_unfit.F sc__law_unfit (by decide) fun cdv A outer s H E hr => by
    have nd := sc__law_unfit.nd
    exact (mb_cons (ms_for (passes_of rfl) rfl (mi_seq (me_lst (ma_cons me_bl (ma_cons me_bl ma_nil)))) (mg_name (i := 1) nd rfl (Or.inl rfl)) (mb_one (ms_try (c := "UnfitNet") (i := 2) T.t_UnfitNet T.h_UnfitNet rfl rfl rfl nd rfl rfl ⟨rfl, by decide, Or.inl T.t_UnfitNet.gC⟩ T.z_isinstance T.z_ValueError (Or.inl rfl) rfl rfl (by decide) (by decide) (fun W pn xe tk po => (mb_cons (ms_if (mt_tru (mq_var (pv 1))) (mb_one (ms_expr (me_call (ok_judge_alike_reads T) (hr.mono (by decide)) T.d_judge_alike_reads.g T.d_judge_alike_reads.k T.d_judge_alike_reads.b tk (ma_cons (me_var (pv 0)) (ma_cons me_non ma_nil))))) (mb_one (ms_expr (me_call (ok_alike_reads T) (hr.mono (by decide)) T.d_alike_reads.g T.d_alike_reads.k T.d_alike_reads.b tk (ma_cons (me_var (pv 0)) ma_nil)))))
    (mb_one (ms_ret me_bl)))))))
    (mb_one (ms_ret me_bl)))
/-! law -/
theorem sc_law : FnScope ["script", "state", "seen", "turn", "lines", "told", "k", "asked"] ["script"] (defScope s_law) := ⟨rfl, rfl, rfl, by decide +kernel, rfl, by decide +kernel, by decide +kernel⟩
def b_law : Gm → Out := (seqS (setS 2 (lstM nilM))
    (seqS (forS (rng1 (ret (.int 2))) (bName 3) (seqS (setS 4 (op1 tup2D (lstO (compM (rng1 (callS m__law_next 1 (consM (ret (.int 8)) nilM))) [6] (bName 6) yesM (tupM (consM (op2 ixD (lstM (consM (ret (.str "t")) (consM (ret (.str "u2")) (consM (ret (.str "v")) nilM)))) (callS m__law_next 1 (consM (ret (.int 3)) nilM))) (consM (op2 ixD (lstM (consM (ret (.str "read")) (consM (ret (.str "write")) nilM))) (callS m__law_next 1 (consM (ret (.int 2)) nilM))) (consM (op2 ixD (lstM (consM (ret (.str "x")) (consM (ret (.str "y")) nilM))) (callS m__law_next 1 (consM (ret (.int 2)) nilM))) nilM))))))))
    (seqS (setS 5 (callM m_alike_reads (consM (rdV 4) nilM)))
    (seqS (ifS (orT (notT (tru (callM m__law_accepts (consM (rdV 4) (consM (rdV 5) nilM))))) (tstM (op2 (isD not) (callM m_judge_alike_reads (consM (rdV 4) (consM (rdV 5) nilM))) (ret (.bool true))))) (retS (ret (.bool false))) nxS)
    (seqS (ifS (notT (tru (callM m__law_unfit (consM (op2V addD 4 (tupM (consM (tupM (consM (ret (.str "t")) (consM (ret (.str "read")) nilM))) nilM))) nilM)))) (retS (ret (.bool false))) nxS)
    (seqS (setS 2 (op2 addD (slMV slcD 2 (someO (op1 negD (ret (.int 3)))) noneO) (lstM (consM (rdV 5) nilM))))
    (forS (rng1 (op2 addD (ret (.int 8)) (op1 lenD (pkV 2)))) (bName 6) (seqS (setS 7 (ifM (tstM (op2V ltD 6 (ret (.int 8)))) (callS m__law_odd 1 (consM (rdV 5) nilM)) (op2V ixD 2 (op2V subD 6 (ret (.int 8))))))
    (ifS (notT (tru (callM (m__law_same 8) (consM (callM m_judge_alike_reads (consM (rdV 4) (consM (rdV 7) nilM))) (consM (callM m__law_accepts (consM (rdV 4) (consM (rdV 7) nilM))) nilM))))) (retS (ret (.bool false))) nxS)))))))))
    (retS (ret (.bool true)))))
theorem ok_law (T : Tp K mg) (h : ∀ ns : List Int, ns.length ≤ 63 → ∃ g, b_law (lawStart 8 ns) = .rt (.bool true) g) : FnOk P K.w K mg base (L2N.CX P K.w) 13 T.d_law.f T.d_law.fd ["script"] (spLaw K) := fnLaw (k := 12) T.d_law.F sc_law (by decide) (fun cdv A outer s H E hr => by
    have nd := sc_law.nd
    exact pss_cons (ps_set (i := 1) nd rfl (Or.inr rfl) (pe_lst (pa_cons (pe_callTy call_list_of (by rfl) T.z_list (by decide +kernel) (pa_cons (pv 0) pa_nil)) (pa_cons pe_int (pa_cons pe_int (pa_cons pe_int pa_nil)))))) ((mb_cons (ms_set (i := 2) nd rfl (Or.inl rfl) (me_lst ma_nil))
    (mb_cons (ms_for (passes_of rfl) rfl (mi_rng1 T.z_range me_int) (mg_name (i := 3) nd rfl (Or.inl rfl)) (mb_cons (ms_set (i := 4) nd rfl (Or.inl rfl) (me_T1 ho_tup2 (hr_tup2 hr.hd) (by rfl) T.z_tuple (by decide +kernel) (MQ.of (me_lc ["script", "state", "seen", "turn", "lines", "told", "k", "asked"] (defScope s_law) [("k", 6)] rfl nd (mi_rng1 T.z_range (me_callS (ok__law_next T) (hr.mono (by decide)) T.d__law_next.g T.d__law_next.k T.d__law_next.b (L2N.takes_of rfl rfl rfl rfl) (pv 1) (ma_cons me_int ma_nil))) (by decide +kernel) (fun _ _ _ _ _ => (mg_name (i := 6) nd rfl (by first | exact Or.inl rfl | exact Or.inr rfl))) (fun _ _ _ _ _ => mts_nil) (fun _ _ _ _ _ => (me_tup (ma_cons (me_ix ho_ix (ix_all hr.units) (me_lst (ma_cons me_str (ma_cons me_str (ma_cons me_str ma_nil)))) (MQ.of (me_callS (ok__law_next T) (hr.mono (by decide)) T.d__law_next.g T.d__law_next.k T.d__law_next.b takes0N (pv 1) (ma_cons me_int ma_nil))) (fun _ _ => rfl)) (ma_cons (me_ix ho_ix (ix_all hr.units) (me_lst (ma_cons me_str (ma_cons me_str ma_nil))) (MQ.of (me_callS (ok__law_next T) (hr.mono (by decide)) T.d__law_next.g T.d__law_next.k T.d__law_next.b takes0N (pv 1) (ma_cons me_int ma_nil))) (fun _ _ => rfl)) (ma_cons (me_ix ho_ix (ix_all hr.units) (me_lst (ma_cons me_str (ma_cons me_str ma_nil))) (MQ.of (me_callS (ok__law_next T) (hr.mono (by decide)) T.d__law_next.g T.d__law_next.k T.d__law_next.b takes0N (pv 1) (ma_cons me_int ma_nil))) (fun _ _ => rfl)) ma_nil)))))))))
    (mb_cons (ms_set (i := 5) nd rfl (Or.inl rfl) (me_call (ok_alike_reads T) (hr.mono (by decide)) T.d_alike_reads.g T.d_alike_reads.k T.d_alike_reads.b (L2N.takes_of rfl rfl rfl rfl) (ma_cons (me_var (pv 4)) ma_nil)))
    (mb_cons (ms_if (mt_w (mw_or (mt_not (mt_tru (MQ.of (me_call (ok__law_accepts T) (hr.mono (by decide)) T.d__law_accepts.g T.d__law_accepts.k T.d__law_accepts.b (L2N.takes_of rfl rfl rfl rfl) (ma_cons (me_var (pv 4)) (ma_cons (me_var (pv 5)) ma_nil)))))) (mw_or1 (mt_cmp ho_is hr_isnot (me_call (ok_judge_alike_reads T) (hr.mono (by decide)) T.d_judge_alike_reads.g T.d_judge_alike_reads.k T.d_judge_alike_reads.b (L2N.takes_of rfl rfl rfl rfl) (ma_cons (me_var (pv 4)) (ma_cons (me_var (pv 5)) ma_nil))) (MQ.of me_bl) (nomark _))))) (mb_one (ms_ret me_bl)) mb_nil)
    (mb_cons (ms_if (mt_not (mt_tru (MQ.of (me_call (ok__law_unfit T) (hr.mono (by decide)) T.d__law_unfit.g T.d__law_unfit.k T.d__law_unfit.b (L2N.takes_of rfl rfl rfl rfl) (ma_cons (me_opV ho_add hr_add (pv 4) (MQ.of (me_tup (ma_cons (me_tup (ma_cons me_str (ma_cons me_str ma_nil))) ma_nil)))) ma_nil))))) (mb_one (ms_ret me_bl)) mb_nil)
    (mb_cons (ms_set (i := 2) nd rfl (Or.inl rfl) (me_op ho_add hr_add (me_sliceV ho_slc hr_slc (pv 2) (mo_some (me_un ho_neg un_neg (MQ.of me_int))) mo_none) (MQ.of (me_lst (ma_cons (me_var (pv 5)) ma_nil)))))
    (mb_one (ms_for (passes_of rfl) rfl (mi_rng1 T.z_range (me_op ho_add hr_add me_int (MQ.of (me_B1 ho_len hr_len (by rfl) T.z_len PySem.boot_len (mq_var (pv 2)))))) (mg_name (i := 6) nd rfl (Or.inl rfl)) (mb_cons (ms_set (i := 7) nd rfl (Or.inl rfl) (me_ifE (mt_cmpV ho_lt op_lt (pv 6) (MQ.of me_int) (nomark _)) (me_callS (ok__law_odd T) (hr.mono (by decide)) T.d__law_odd.g T.d__law_odd.k T.d__law_odd.b (L2N.takes_of rfl rfl rfl rfl) (pv 1) (ma_cons (me_var (pv 5)) ma_nil)) (me_ixV ho_ix (ix_all hr.units) (pv 2) (MQ.of (me_opV ho_sub hr_sub (pv 6) (MQ.of me_int))) (fun _ _ => rfl))))
    (mb_one (ms_if (mt_not (mt_tru (MQ.of (me_call (ok__law_same T 8) (hr.mono (by decide)) T.d__law_same.g T.d__law_same.k T.d__law_same.b (L2N.takes_of rfl rfl rfl rfl) (ma_cons (me_call (ok_judge_alike_reads T) (hr.mono (by decide)) T.d_judge_alike_reads.g T.d_judge_alike_reads.k T.d_judge_alike_reads.b (L2N.takes_of rfl rfl rfl rfl) (ma_cons (me_var (pv 4)) (ma_cons (me_var (pv 7)) ma_nil))) (ma_cons (me_call (ok__law_accepts T) (hr.mono (by decide)) T.d__law_accepts.g T.d__law_accepts.k T.d__law_accepts.b (L2N.takes_of rfl rfl rfl rfl) (ma_cons (me_var (pv 4)) (ma_cons (me_var (pv 7)) ma_nil))) ma_nil)))))) (mb_one (ms_ret me_bl)) mb_nil)))))))))))
    (mb_one (ms_ret me_bl)))))) h
end Pf
/-! plain lemmas for the laws: rows of whole numbers and of texts -/
namespace Pf
open PySem Mi L2
def its (r : List Int) : List PyData := r.map .int
@[simp] theorem its_len {r : List Int} : (its r).length = r.length := by simp [its]
theorem atJ {α : Type} {xs : List α} {i : Int} (h0 : 0 ≤ i) (h1 : i < xs.length) : L2.atI xs i = xs[i.toNat]? := by
  unfold L2.atI L2.ixN
  rw [if_pos h0, if_pos h1]
  rfl
def gd (r : List Int) (k : Nat) : Int := r.getD k 0
theorem ff_in {α : Type} {zs : List α} {f : α → Bool} {g : Bool → Bool} {P : PyData → Prop} : okO (inD g (.bool false) (.list (zs.map fun z => .bool (f z)))) P ↔ P (.bool (g (zs.any fun z => !f z))) := by
  rw [in_lst]
  have e : ((zs.map fun z => PyData.bool (f z)).any fun z => PyData.eqv z (.bool false)) = zs.any fun z => !f z := by
    induction zs with
    | nil => rfl
    | cons z zs ih =>
      rw [List.map_cons, List.any_cons, ih, List.any_cons]
      cases f z <;> simp [PyData.eqv]
  have nd : DcEq.ndAll (zs.map fun z => PyData.bool (f z)) = true := by
    clear e
    induction zs <;> simp_all [DcEq.ndAll, DcEq.ndB]
  have : lowI (.bool false) (.list (zs.map fun z => PyData.bool (f z))) = true := by
    simp [lowI, DcEq.ndB, nd, PyData.depth]
  rw [e]
  simp only [this, true_and]
theorem rng_nat {n : Nat} : rngD 0 (n : Int) = (List.range n).map fun k => PyData.int (k : Nat) := by
  unfold rngD
  have : ((n : Int) - 0).toNat = n := by omega
  rw [this]
  exact List.map_congr_left fun k _ => by rw [Int.zero_add]
def txs (xs : List Str) : List PyData := xs.map PyData.str
theorem txs_len (xs : List Str) : (txs xs).length = xs.length := List.length_map ..
theorem mem_ins {acc : List Str} {x y : Str} : y ∈ Ts.ins acc x ↔ y = x ∨ y ∈ acc := by
  unfold Ts.ins
  by_cases h : x ∈ acc
  · rw [if_pos h]
    exact ⟨.inr, fun q => q.elim (fun e => by rw [e]; exact h) id⟩
  · rw [if_neg h, List.mem_cons]
theorem nd_ins {acc : List Str} {x : Str} (h : acc.Nodup) : (Ts.ins acc x).Nodup := by
  unfold Ts.ins
  by_cases q : x ∈ acc
  · rw [if_pos q]; exact h
  · rw [if_neg q]; exact List.nodup_cons.mpr ⟨q, h⟩
theorem mem_fold : ∀ {xs acc : List Str} {y : Str}, y ∈ xs.foldl Ts.ins acc ↔ y ∈ acc ∨ y ∈ xs
  | [], acc, y => by simp
  | x :: xs, acc, y => by
    rw [List.foldl_cons, mem_fold, mem_ins, List.mem_cons]
    constructor
    · rintro ((h | h) | h)
      · exact .inr (.inl h)
      · exact .inl h
      · exact .inr (.inr h)
    · rintro (h | h | h)
      · exact .inl (.inr h)
      · exact .inl (.inl h)
      · exact .inr h
theorem nd_fold : ∀ {xs acc : List Str}, acc.Nodup → (xs.foldl Ts.ins acc).Nodup
  | [], _, h => h
  | x :: xs, _, h => nd_fold (xs := xs) (nd_ins h)
theorem mem_dd {xs : List Str} {y : Str} : y ∈ Ts.dd xs ↔ y ∈ xs := by
  unfold Ts.dd
  rw [mem_fold]
  simp
theorem nd_dd (xs : List Str) : (Ts.dd xs).Nodup := nd_fold List.nodup_nil
theorem mem_srt {xs : List Str} {y : Str} : y ∈ Ts.srt xs ↔ y ∈ xs := (Ts.srt_perm xs).mem_iff
theorem nd_srt {xs : List Str} (h : xs.Nodup) : (Ts.srt xs).Nodup := (Ts.srt_perm xs).nodup_iff.mpr h
/-- two sorted rows of the same texts are one -/
theorem srt_eq {xs ys : List Str} (h : xs.Perm ys) : Ts.srt xs = Ts.srt ys := Ts.pw_uniq ((Ts.srt_perm xs).trans (h.trans (Ts.srt_perm ys).symm)) (Ts.srt_pw xs) (Ts.srt_pw ys)
theorem nd_txs : ∀ (xs : List Str), DcEq.ndAll (txs xs) = true
  | [] => rfl
  | x :: xs => nd_txs xs
theorem dp_txs : ∀ (xs : List Str), PyData.depthAll (txs xs) = 0
  | [] => rfl
  | x :: xs => by
    have := dp_txs xs
    simp [txs] at this
    simp [txs, PyData.depthAll, PyData.depth, this]
theorem eqv_str {x y : Str} : PyData.eqv (.str x) (.str y) = (x == y) := by simp [PyData.eqv]
theorem eqv_txs : ∀ {xs ys : List Str}, PyData.eqvAll (txs xs) (txs ys) = decide (xs = ys)
  | [], [] => rfl
  | [], _ :: _ => rfl
  | _ :: _, [] => rfl
  | x :: xs, y :: ys => by
    have ih := eqv_txs (xs := xs) (ys := ys)
    show PyData.eqvAll (.str x :: txs xs) (.str y :: txs ys) = _
    rw [PyData.eqvAll, ih, eqv_str]
    by_cases h1 : x = y
    · subst h1
      by_cases h2 : xs = ys <;> simp [h2]
    · have : (x == y) = false := beq_eq_false_iff_ne.mpr h1
      simp [this, h1]
theorem low_txs {d : PyData} {xs : List Str} : lowD d (.list (txs xs)) = true := low_r (by simpa [DcEq.ndB] using nd_txs xs) (by simp [PyData.depth, dp_txs])
theorem eq_txs {xs ys : List Str} {P : PyData → Prop} : okO (eqD (.list (txs xs)) (.list (txs ys))) P ↔ P (.bool (decide (xs = ys))) := by
  rw [eq_any]
  have e : PyData.eqv (.list (txs xs)) (.list (txs ys)) = PyData.eqvAll (txs xs) (txs ys) := by simp [PyData.eqv]
  rw [e, eqv_txs]
  simp only [low_txs, true_and]
theorem any_txs {x : Str} : ∀ {xs : List Str}, ((txs xs).any fun z => PyData.eqv z (.str x)) = xs.contains x
  | [] => rfl
  | y :: xs => by
    show ((PyData.str y :: txs xs).any _) = _
    rw [List.any_cons, any_txs, List.contains_cons, eqv_str]
    congr 1
    by_cases e : y = x
    · rw [e]
    · rw [beq_eq_false_iff_ne.mpr e, beq_eq_false_iff_ne.mpr fun q => e q.symm]
theorem in_txs {c : List PyData → PyData} {x : Str} {xs : List Str} {g : Bool → Bool} (hc : c = .list ∨ c = .tuple) {P : PyData → Prop} : okO (inD g (.str x) (c (txs xs))) P ↔ P (.bool (g (xs.contains x))) := by
  rcases hc with rfl | rfl
  · rw [in_lst, any_txs]
    have : lowI (.str x) (.list (txs xs)) = true := low_i (by simpa [DcEq.ndB] using nd_txs xs) (by simp [PyData.depth, dp_txs])
    simp only [this, true_and]
  · rw [in_tup, any_txs]
    have : lowI (.str x) (.tuple (txs xs)) = true := low_i (by simpa [DcEq.ndB] using nd_txs xs) (by simp [PyData.depth, dp_txs])
    simp only [this, true_and]
theorem sortG_txs {c : List PyData → PyData} {xs : List Str} (hc : c = .list ∨ c = .tuple) : sortG (c (txs xs)) = some (.list (txs (Ts.srt xs))) := sortG_strs (by rcases hc with rfl | rfl <;> rfl)
theorem at_txs {xs : List Str} {i : Int} (h0 : 0 ≤ i) (h1 : i < xs.length) : ∃ x, xs[i.toNat]? = some x ∧ L2.atI (txs xs) i = some (.str x) := by
  have h : i.toNat < xs.length := by omega
  refine ⟨xs[i.toNat], List.getElem?_eq_getElem h, ?_⟩
  rw [atJ h0 (by rw [txs_len]; exact h1)]
  unfold txs
  rw [List.getElem?_map, List.getElem?_eq_getElem h]
  rfl
end Pf
/-! dicts whose keys are all of one kind, as rows of pairs -/
namespace Pf
open PySem Mi L2
/-- how keys of one kind are written as data -/
structure Enc {κ : Type} (enc : κ → PyData) (t : Bool) : Prop where
  ok : ∀ k, keyOk (enc k) = true
  tp : ∀ k, isTupD (enc k) = t
  inj : ∀ a b, nk (enc a) = nk (enc b) → a = b
section
variable {κ β : Type} [DecidableEq κ] {enc : κ → PyData} {t : Bool} {f : β → PyData}
def dat (enc : κ → PyData) (f : β → PyData) (M : List (κ × β)) : List (PyData × PyData) := M.map fun q => (enc q.1, f q.2)
def lk (M : List (κ × β)) (k : κ) : Option β := (M.find? fun q => decide (q.1 = k)).map (·.2)
def put (M : List (κ × β)) (k : κ) (v : β) : List (κ × β) := match M.findIdx? fun q => decide (q.1 = k) with
  | some j => M.modify j fun q => (q.1, v)
  | none => M ++ [(k, v)]
theorem dat_len {M : List (κ × β)} : (dat enc f M).length = M.length := List.length_map ..
theorem Enc.dec (E : Enc enc t) (a b : κ) : decide (nk (enc a) = nk (enc b)) = decide (a = b) := by
  by_cases h : a = b
  · subst h; simp
  · rw [decide_eq_false h, decide_eq_false fun q => h (E.inj a b q)]
theorem Enc.fit (E : Enc enc t) {M : List (κ × β)} {k : κ} : kFit (dat enc f M) (enc k) = true := by
  unfold kFit dat
  rw [E.ok, Bool.true_and]
  refine List.all_eq_true.mpr fun p hp => ?_
  obtain ⟨q, _, rfl⟩ := List.mem_map.mp hp
  simp [E.tp]
theorem Enc.pl (E : Enc enc t) {k : κ} : ∀ {M : List (κ × β)}, plD (dat enc f M) (enc k) = M.findIdx? fun q => decide (q.1 = k)
  | [] => rfl
  | q :: M => by
    unfold plD dat
    rw [List.map_cons, List.findIdx?_cons, List.findIdx?_cons, E.dec]
    have ih := Enc.pl E (k := k) (M := M)
    unfold plD dat at ih
    rw [ih]
theorem Enc.lkd (E : Enc enc t) {k : κ} : ∀ {M : List (κ × β)}, lkD (dat enc f M) (enc k) = (lk M k).map f
  | [] => rfl
  | q :: M => by
    have ih := Enc.lkd E (k := k) (M := M)
    unfold lkD lk dat at ih ⊢
    rw [List.map_cons, List.find?_cons, List.find?_cons, E.dec]
    cases decide (q.1 = k)
    · exact ih
    · rfl
theorem Enc.has (E : Enc enc t) {k : κ} : ∀ {M : List (κ × β)}, hasD (dat enc f M) (enc k) = M.any fun q => decide (q.1 = k)
  | [] => rfl
  | q :: M => by
    have ih := Enc.has E (k := k) (M := M)
    unfold hasD dat at ih ⊢
    rw [List.map_cons, List.any_cons, List.any_cons, E.dec, ih]
theorem Enc.put (E : Enc enc t) {k : κ} {v : β} {M : List (κ × β)} : putD (dat enc f M) (enc k) (f v) = dat enc f (put M k v) := by
  unfold putD Pf.put
  rw [E.pl]
  cases M.findIdx? fun q => decide (q.1 = k) with
  | none => simp [dat]
  | some j =>
    simp only
    unfold dat
    clear E
    induction M generalizing j with
    | nil => simp
    | cons q M ih =>
      cases j with
      | zero => rfl
      | succ j => simpa using ih j
theorem lk_some {M : List (κ × β)} {k : κ} {v : β} (h : lk M k = some v) : (k, v) ∈ M := by
  unfold lk at h
  cases e : M.find? fun q => decide (q.1 = k) with
  | none => rw [e] at h; cases h
  | some q =>
    rw [e] at h
    have h1 := List.find?_some e
    have h2 := List.mem_of_find?_eq_some e
    have : q.1 = k := of_decide_eq_true h1
    cases h
    subst this
    exact h2
theorem lk_none {M : List (κ × β)} {k : κ} (h : lk M k = none) : ∀ q ∈ M, q.1 ≠ k := by
  unfold lk at h
  have : M.find? (fun q => decide (q.1 = k)) = none := by
    cases e : M.find? fun q => decide (q.1 = k) with
    | none => rfl
    | some q => rw [e] at h; cases h
  intro q hq e
  have := List.find?_eq_none.mp this q hq
  simp [e] at this
end
theorem enc_txt : Enc PyData.str false := ⟨fun k => rfl, fun k => rfl, fun a b h => by
  have h : some (NestedKey.text a) = some (NestedKey.text b) := h
  injection h with h
  injection h⟩
def pairD (p : Str × Str) : PyData := .tuple [.str p.1, .str p.2]
theorem enc_pair : Enc pairD true := ⟨fun k => rfl, fun k => rfl, fun a b h => by
  have h : some (NestedKey.tup [.text a.1, .text a.2]) = some (NestedKey.tup [.text b.1, .text b.2]) := h
  injection h with h
  injection h with h
  injection h with h1 h2
  injection h1 with h1
  injection h2 with h2 _
  injection h2 with h2
  exact Prod.ext h1 h2⟩
theorem Enc.ix {κ β : Type} [DecidableEq κ] {enc : κ → PyData} {t : Bool} {f : β → PyData} (E : Enc enc t) {M : List (κ × β)} {k : κ} {v : β} (h : lk M k = some v) : ixD (.dict (dat enc f M)) (enc k) = some (f v) := by
  have e : ∀ d, isTupD d = isTupD d := fun _ => rfl
  have q : lkD (dat enc f M) (enc k) = some (f v) := by rw [E.lkd, h]; rfl
  unfold ixD
  simp only [E.fit, q, if_true]
def gs (xs : List Str) (k : Nat) : Str := xs.getD k ""
theorem srt_srt (xs : List Str) : Ts.srt (Ts.srt xs) = Ts.srt xs := srt_eq (Ts.srt_perm xs)
end Pf
/-! dict comprehensions with keys that differ -/
namespace Pf
open PySem Mi L2
end Pf
namespace Pf
open PySem Mi L2
theorem sv_tryS {c : String} {i : Nat} {mb : Gm → Out} {g : Gm} {PO : Out → Prop} : sv (tryS c i mb) g PO ↔ sv mb g fun o => match o with
    | .ex c' g' => c' = c ∧ i < g'.length ∧ PO (.nx (g'.set i .dead))
    | o => PO o := by
  unfold sv tryS svO
  generalize mb g = o
  cases o with
  | ex c' g' =>
    simp only
    by_cases h : c' = c ∧ i < g'.length
    · rw [if_pos h]; simp [h]
    · rw [if_neg h]
      simp only [false_iff]
      exact fun q => h ⟨q.1, q.2.1⟩
  | _ => exact Iff.rfl
end Pf
/-! rows of tuples: sorting and sets -/
namespace Pf
open PySem Mi L2
structure Rws (ds : List PyData) : Prop where
  s : srtC ds = true
  k : ∀ d ∈ ds, Tn.tupK d = true
section
variable {ds as bs : List PyData}
theorem Rws.al (h : Rws ds) : ∀ a ∈ ds, ∀ b ∈ ds, PySem.W.alike a b = true := fun a ha b hb => by
  have := h.s
  simp only [srtC, Bool.and_eq_true] at this
  exact List.all_eq_true.mp (List.all_eq_true.mp this.1.1.1.1 a ha) b hb
theorem Rws.key (h : Rws ds) {d : PyData} (hd : d ∈ ds) : ∃ k, nk d = some k := by
  have := h.k d hd
  simp only [Tn.tupK, keyOk, Bool.and_eq_true] at this
  cases e : nk d with
  | none => rw [e] at this; cases this.2
  | some k => exact ⟨k, rfl⟩
theorem Rws.inj (h : Rws ds) {a b : PyData} (ha : a ∈ ds) (hb : b ∈ ds) (e : nk a = nk b) : a = b := by
  obtain ⟨k, ek⟩ := h.key ha
  exact Tn.nk_inj a b k (h.al a ha b hb) ek (by rw [← e]; exact ek)
theorem nd_of_map {α β : Type} {f : α → β} : ∀ {xs : List α}, (xs.map f).Nodup → xs.Nodup
  | [], _ => List.nodup_nil
  | x :: xs, h => by
    rw [List.map_cons, List.nodup_cons] at h
    exact List.nodup_cons.mpr ⟨fun q => h.1 (List.mem_map_of_mem q), nd_of_map h.2⟩
theorem srt_perm (ha : Rws as) (p : as.Perm bs) : srtA as = srtA bs := srtA_uniq p fun a h1 b h2 t => (Tn.toks_inj a b [] [] (ha.al a h1 b h2) (by rw [t])).1
theorem Rws.nots (h : Rws ds) (hn : ds ≠ []) : intsOf ds = none ∧ strsOf ds = none := by
  cases ds with
  | nil => exact absurd rfl hn
  | cons d ds =>
    have := h.k d (by simp)
    simp only [Tn.tupK, Bool.and_eq_true] at this
    cases d with
    | tuple xs => exact ⟨rfl, rfl⟩
    | _ => cases this.1
theorem Rws.set {c : List PyData → PyData} (hc : c = .list ∨ c = .tuple) (h : Rws ds) (l : (Tn.ddN ds).length < 64) : sortSetX (c ds) = some (.list (srtA (Tn.ddN ds))) := by
  have sq : sqO (c ds) = some ds := by rcases hc with rfl | rfl <;> rfl
  by_cases hn : ds = []
  · subst hn
    simp [sortSetX, sortSetG, intsD, sq, intsOf, Ti.dd, Ti.srt, srtA, Tn.ddN]
  · have q := h.nots hn
    have s := h.s
    have st : setTC ds = true := by
      simp only [setTC, Bool.and_eq_true, decide_eq_true_eq]
      exact ⟨List.all_eq_true.mpr h.k, l⟩
    have e1 : sortSetG (c ds) = none := by
      unfold sortSetG sortSet2
      simp only [intsD, sq, Option.bind_some, q.1]
      simp [txtD, sq, q.2]
    unfold sortSetX
    rw [e1]
    simp [sortSetTD, sq, st, s]
theorem Rws.sub (h : Rws ds) (e : ∀ x ∈ as, x ∈ ds) (hs : srtC as = true) : Rws as := ⟨hs, fun d hd => h.k d (e d hd)⟩
end
/-- a loop over a mapped row -/
theorem svO_map {α : Type} {a : Gm → Out} {b : PyData → Gm → Option Gm} {PO : Out → Prop} (e : α → PyData) (xs : List α) (I : List α → Gm → Prop) {g : Gm} (h0 : I [] g)
    (hs : ∀ pre x suf, xs = pre ++ x :: suf → ∀ g, I pre g → okO (b (e x) g) fun g1 => sv a g1 fun o => match o with
      | .nx g2 => I (pre ++ [x]) g2
      | .ct g2 => I (pre ++ [x]) g2
      | .bk g2 => PO (.nx g2)
      | o => PO o)
    (hQ : ∀ g, I xs g → PO (.nx g)) : svO (forL b a (xs.map e) g) PO := by
  refine svO_inv (fun rem g => ∃ pre suf, xs = pre ++ suf ∧ rem = suf.map e ∧ I pre g) ⟨[], xs, rfl, rfl, h0⟩ (fun d rem g ⟨pre, suf, e1, e2, hI⟩ => ?_) (fun g ⟨pre, suf, e1, e2, hI⟩ => ?_)
  · cases suf with
    | nil => cases e2
    | cons x suf =>
      rw [List.map_cons] at e2
      injection e2 with e2 e3
      subst e2
      refine okO_imp (hs pre x suf e1 g hI) fun g1 h => sv_mono h fun o ho => ?_
      cases o with
      | nx g2 => exact ⟨pre ++ [x], suf, by rw [e1, List.append_assoc]; rfl, e3, ho⟩
      | ct g2 => exact ⟨pre ++ [x], suf, by rw [e1, List.append_assoc]; rfl, e3, ho⟩
      | _ => exact ho
  · cases suf with
    | nil =>
      rw [List.append_nil] at e1
      subst e1
      exact hQ g hI
    | cons x suf => cases e2
end Pf
namespace Pf
open PySem Mi L2
/-- a loop that returns False where something is not so -/
theorem all_loopV {α : Type} (e : α → PyData) (ok : α → Bool) (J : Gm → Prop) {b : PyData → Gm → Option Gm} {body : Gm → Out} {PO : Out → Prop} : ∀ {xs : List α} {g : Gm}, (xs.all ok = false → ∀ g, PO (.rt (.bool false) g)) → (∀ x ∈ xs, ∀ g, J g → ∀ PO : Out → Prop, (ok x = false → ∀ g, PO (.rt (.bool false) g)) → (ok x = true → ∀ g, J g → PO (.nx g)) → okO (b (e x) g) fun g1 => sv body g1 PO) → J g → (xs.all ok = true → ∀ g, J g → PO (.nx g)) → svO (forL b body (xs.map e) g) PO
  | [], g, _, _, j, h2 => h2 rfl g j
  | x :: xs, g, h1, hs, j, h2 => by
    rw [List.map_cons, svO_for_cons]
    refine hs x (by simp) g j _ (fun hx g => h1 (by rw [List.all_cons, hx]; rfl) g) fun hx g' j' => ?_
    exact all_loopV e ok J (xs := xs) (fun ha => h1 (by rw [List.all_cons, ha, Bool.and_false])) (fun y hy => hs y (by simp [hy])) j' fun ha => h2 (by rw [List.all_cons, hx, ha]; rfl)
end Pf
namespace Pf
open PySem Mi L2
/-! ### what the law's own helpers do -/
/-- the state of the drawing -/
def St (s : PyData) : Prop := ∃ (ns : List Int) (i a b : Int), s = .list [.list (ns.map .int), .int i, .int a, .int b] ∧ 0 ≤ i ∧ 0 ≤ a
def Nx (lim : Int) (d : PyData) : Prop := ∃ r : Int, d = .int r ∧ 0 ≤ r ∧ r < lim
theorem fmod_rng {a b : Int} (h : 0 < b) : 0 ≤ a.fmod b ∧ a.fmod b < b := ⟨Int.fmod_nonneg_of_pos a h, Int.fmod_lt_of_pos a h⟩
theorem next_ok {s : PyData} (hs : St s) {lim : Int} (h0 : 0 < lim) (h1 : lim < 1073741824) : okS (m__law_next s [.int lim]) (fun d s' => Nx lim d ∧ St s') fun _ => False := by
  obtain ⟨ns, i, a, b, rfl, hi, ha⟩ := hs
  unfold m__law_next
  rw [okS_runS]
  unfold b__law_next
  have hz : lim ≠ 0 := by omega
  have hm : lim.natAbs < 1073741824 := by omega
  have ix0 : ∀ x : PyData, L2.ixN 4 2 = some 2 := fun _ => rfl
  have tail : ∀ (i a b : Int) (s2 s3 : Sl), 0 ≤ i → 0 ≤ a → sv (seqS (ifS (tstM (op2 gtD (op2V ixD 0 (ret (.int 2))) (ret (.int 0)))) (seqS (setS 3 (op2 modD (op1 intOf (op2V ixD 0 (ret (.int 2)))) (pkV 1)))
    (seqS (stoS 0 (ret (.int 2)) (op2 fdivD (op2V ixD 0 (ret (.int 2))) (pkV 1)))
    (retS (rdV 3)))) nxS)
    (seqS (stoS 0 (ret (.int 3)) (op2 modD (op1 intOf (op2 addD (op2 mulD (op2V ixD 0 (ret (.int 3))) (ret (.int 69621))) (ret (.int 12345)))) (ret (.int 2147483647))))
    (retS (op2 modD (op1 intOf (op2 fdivD (op2V ixD 0 (ret (.int 3))) (ret (.int 7)))) (pkV 1))))) [.own true (.list [.list (ns.map .int), .int i, .int a, .int b]), .dat (.int lim), s2, s3] (fun o => match o with
    | .rt d g => (match g[0]? with | some (Sl.own true s') => Nx lim d ∧ St s' | _ => False)
    | .nx g => (match g[0]? with | some (Sl.own true s') => Nx lim .none ∧ St s' | _ => False)
    | .ex c _ => False
    | _ => False) := by
    intro i a b s2 s3 hi ha
    simp
    by_cases h : 0 < a
    · simp [h, hz, hm, L2.ixN]
      exact ⟨⟨_, rfl, fmod_rng h0⟩, ns, i, _, b, rfl, hi, by rw [Int.fdiv_eq_ediv_of_nonneg _ (by omega)]; exact Int.ediv_nonneg ha (by omega)⟩
    · simp [h, hz, hm, L2.ixN, mulC]
      exact ⟨⟨_, rfl, fmod_rng h0⟩, ns, i, _, _, rfl, hi, ha⟩
  have front : ∀ (lim : Int) (P : Out → Prop), (∀ (i a b : Int) (s2 s3 : Sl), 0 ≤ i → 0 ≤ a → P (.nx [.own true (.list [.list (ns.map .int), .int i, .int a, .int b]), .dat (.int lim), s2, s3])) → sv (ifS (andT (tstM (op2 eqD (op2V ixD 0 (ret (.int 2))) (ret (.int 0)))) (tstM (op2 ltD (op2V ixD 0 (ret (.int 1))) (op1 lenD (op2V ixD 0 (ret (.int 0))))))) (seqS (setS 2 (op2 ixD (op2V ixD 0 (ret (.int 0))) (op2V ixD 0 (ret (.int 1)))))
    (seqS (augI iaddD 0 (ret (.int 1)) (ret (.int 1)))
    (ifS (tstM (op2V geD 2 (op2 powD (ret (.int 10)) (ret (.int 18))))) (stoS 0 (ret (.int 2)) (rdV 2)) (stoS 0 (ret (.int 3)) (op2 modD (op1 intOf (op2 addD (op2 addD (op2 mulD (op2V ixD 0 (ret (.int 3))) (ret (.int 48271))) (op2 modD (op1 intOf (pkV 2)) (ret (.int 2147483647)))) (ret (.int 7)))) (ret (.int 2147483647))))))) nxS) [.own true (.list [.list (ns.map .int), .int i, .int a, .int b]), .dat (.int lim), .dead, .dead] P := by
    intro lim P hP
    simp
    by_cases h : a = 0 ∧ i < ns.length
    · obtain ⟨rfl, h2⟩ := h
      simp [h2]
      refine okO_at hi (by simpa using h2) fun x hx => ?_
      obtain ⟨c, _, rfl⟩ := List.mem_map.mp hx
      simp [L2.ixN]
      by_cases h3 : (1000000000000000000 : Int) ≤ c
      · simp [h3]
        exact hP _ _ _ _ _ (by omega) (by omega)
      · simp [h3, mulC]
        exact hP _ _ _ _ _ (by omega) (by omega)
    · by_cases h1 : a = 0
      · subst h1
        have h2 : ¬ i < ns.length := fun h2 => h ⟨rfl, h2⟩
        simp [h2]
        exact hP _ _ _ _ _ hi ha
      · simp [h1]
        exact hP _ _ _ _ _ hi ha
  refine ⟨rfl, ?_⟩
  rw [sv_seqS]
  exact front lim _ fun i a b s2 s3 h1 h2 => tail i a b s2 s3 h1 h2
end Pf
namespace Pf
open PySem Mi L2
theorem szl : sizeLine = 16777216 := rfl
theorem Wd.up : ∀ {n : Nat} {d : PyData}, Wd n d → Wd (n + 1) d
  | n + 1, d, h => by
    cases d with
    | tuple xs => exact ⟨h.1, fun x hx => Wd.up (h.2 x hx)⟩
    | list xs => exact h.elim
    | dict xs => exact h.elim
    | _ => exact h
theorem tl {i : Int} (h : i.natAbs.log2 < 1900) : i.natAbs.log2 < 1920 := by omega
theorem next_run {s : PyData} (hs : St s) {lim : Int} {P : PyData → PyData → Prop} {X : String → Prop} (h0 : 0 < lim) (h1 : lim < 1073741824) (k : ∀ (r : Int) (s' : PyData), 0 ≤ r → r < lim → St s' → P (.int r) s') : okS (m__law_next s [.int lim]) P X :=
  okS_imp (next_ok hs h0 h1) fun _ s' ⟨⟨r, e, a, b⟩, hs'⟩ => by subst e; exact k r s' a b hs'
theorem ne_nil {xs : List PyData} {P : PyData → Prop} (h : PyData.canLay0 (.tuple xs) = true) : okO (neD (.tuple xs) (.tuple [])) P ↔ P (.bool (!xs.isEmpty)) := ne_nilT
theorem eq_nil {xs : List PyData} {P : PyData → Prop} (h : PyData.canLay0 (.tuple xs) = true) : okO (eqD (.tuple xs) (.tuple [])) P ↔ P (.bool xs.isEmpty) := eq_nilT
/-- an asked paper: bounded, no dict within -/
def Zd : Nat → PyData → Prop
  | 0, _ => False
  | n + 1, d => match d with
    | .tuple xs => xs.length ≤ 4000000 ∧ ∀ x ∈ xs, Zd n x
    | .list xs => xs.length ≤ 4000000 ∧ ∀ x ∈ xs, Zd n x
    | .dict kvs => kvs = []
    | _ => True
theorem Zd.up : ∀ {n : Nat} {d : PyData}, Zd n d → Zd (n + 1) d
  | n + 1, d, h => by
    cases d with
    | tuple xs => exact ⟨h.1, fun x hx => Zd.up (h.2 x hx)⟩
    | list xs => exact ⟨h.1, fun x hx => Zd.up (h.2 x hx)⟩
    | dict xs => exact h
    | _ => trivial
theorem Wd.zd : ∀ {n : Nat} {d : PyData}, Wd n d → Zd n d
  | n + 1, d, h => by
    cases d with
    | tuple xs => exact ⟨Nat.le_trans h.1 (by decide), fun x hx => Pf.Wd.zd (h.2 x hx)⟩
    | list xs => exact h.elim
    | dict xs => exact h.elim
    | _ => trivial
/-- the parts of one -/
structure Zs (b n : Nat) (xs : List PyData) : Prop where
  l : xs.length ≤ b
  m : ∀ x ∈ xs, Zd n x
theorem Zs.app {b c n : Nat} {xs ys : List PyData} (h : Zs b n xs) (k : Zs c n ys) : Zs (b + c) n (xs ++ ys) :=
  ⟨by rw [List.length_append]; exact Nat.add_le_add h.l k.l, fun x hx => by
    rcases List.mem_append.mp hx with q | q
    · exact h.m x q
    · exact k.m x q⟩
theorem Zs.cut {b n : Nat} {xs : List PyData} (h : Zs b n xs) {lo hi : Option Int} : Zs b n (cutD xs lo hi) := ⟨Nat.le_trans cut_le h.l, fun x hx => h.m x (cut_mem hx)⟩
theorem Zs.rev {b n : Nat} {xs : List PyData} (h : Zs b n xs) : Zs b n xs.reverse := ⟨by simpa using h.l, fun x hx => h.m x (by simpa using hx)⟩
theorem Zs.one {n : Nat} {x : PyData} (h : Zd n x) : Zs 1 n [x] := ⟨Nat.le_refl _, fun y hy => by rw [List.mem_singleton.mp hy]; exact h⟩
theorem Zs.con {b n : Nat} {x : PyData} {xs : List PyData} (h : Zd n x) (k : Zs b n xs) : Zs (b + 1) n (x :: xs) := ⟨Nat.succ_le_succ k.l, fun y hy => by
  rcases List.mem_cons.mp hy with rfl | q
  · exact h
  · exact k.m y q⟩
theorem Zs.nil {n : Nat} : Zs 0 n [] := ⟨Nat.le_refl _, fun y hy => nomatch hy⟩
theorem Zs.tup {b n : Nat} {xs : List PyData} (h : Zs b n xs) (hb : b ≤ 4000000 := by omega) : Zd (n + 1) (.tuple xs) := ⟨Nat.le_trans h.l hb, h.m⟩
theorem Zs.lst {b n : Nat} {xs : List PyData} (h : Zs b n xs) (hb : b ≤ 4000000 := by omega) : Zd (n + 1) (.list xs) := ⟨Nat.le_trans h.l hb, h.m⟩
@[simp ↓] theorem okO_bTup {n : Nat} {bs : List PyData → Gm → Option Gm} {ds : List PyData} {g : Gm} {P : Gm → Prop} : okO (bTup n bs (.tuple ds) g) P ↔ ds.length = n ∧ okO (bs ds g) P := by
  unfold bTup
  by_cases h : ds.length = n
  · simp only [h, if_true, true_and]
  · simp only [h, if_false, false_and]
    exact Iff.rfl
@[simp ↓] theorem okO_bCons {b : PyData → Gm → Option Gm} {bs : List PyData → Gm → Option Gm} {d : PyData} {ds : List PyData} {g : Gm} {P : Gm → Prop} : okO (bCons b bs (d :: ds) g) P ↔ okO (b d g) fun g1 => okO (bs ds g1) P := by
  show okO (match b d g with | some g' => bs ds g' | none => none) P ↔ _
  cases b d g with
  | none => exact Iff.rfl
  | some g1 => exact Iff.rfl
@[simp ↓] theorem okO_bNil {g : Gm} {P : Gm → Prop} : okO (bNil [] g) P ↔ P g := Iff.rfl
theorem mul2 {j : Int} : mulC 2 j = true := by simp [mulC]
@[simp] theorem len_a : (Str.ofString "a").length = 1 := rfl
@[simp] theorem len_b : (Str.ofString "b").length = 1 := rfl
theorem none_one {P : PyData → Prop} : okO (eqD .none (.int 1)) P ↔ P (.bool false) := Iff.rfl
end Pf
namespace Pf
open PySem Mi L2
theorem pick_ok {n : Nat} {s : PyData} (hs : St s) {N : Nat} (hN : 0 < N) (hN' : N < 1000) {ws : List PyData} (e : ws.length = N) (h : ∀ w ∈ ws, Zd n w) : okS (m__law_next s [.int N]) (fun d' s' => okO (ixD (.list ws) d') fun z => Zd n z ∧ St s') fun _ => False := by
  refine next_run hs (by omega) (by omega) fun r s' h0 h1 hs' => ?_
  exact okO_at h0 (by rw [e]; exact h1) fun x hx => ⟨h x hx, hs'⟩
theorem changed_ok : ∀ {n : Nat} {d s : PyData}, Wd n d → St s → okS (m__law_changed n s [d]) (fun z s' => Zd (n + 1) z ∧ St s') fun _ => False
  | n + 1, d, s, h, hs => by
    show okS (runS 7 2 (b__law_changed (m__law_changed n)) s [d]) _ _
    rw [okS_runS]
    refine ⟨rfl, ?_⟩
    unfold b__law_changed
    cases d with
    | none =>
      simp [none_one, mul2, szl]
      refine pick_ok (N := 7) hs (by decide) (by decide) rfl fun w hw => ?_
      simp only [List.mem_cons, List.not_mem_nil, or_false] at hw
      rcases hw with rfl | rfl | rfl | rfl | rfl | rfl | rfl <;> trivial
    | bool b =>
      simp [szl]
      refine pick_ok (N := 2) hs (by decide) (by decide) rfl fun w hw => ?_
      simp only [List.mem_cons, List.not_mem_nil, or_false] at hw
      rcases hw with rfl | rfl <;> trivial
    | int i =>
      have h' : i.natAbs.log2 < 1920 := tl h
      by_cases h0 : i = 0
      · simp [mul2, szl, h', h0]
        refine pick_ok (N := 7) hs (by decide) (by decide) rfl fun w hw => ?_
        simp only [List.mem_cons, List.not_mem_nil, or_false] at hw
        rcases hw with rfl | rfl | rfl | rfl | rfl | rfl | rfl <;> trivial
      · simp [mul2, szl, h', h0]
        refine pick_ok (N := 7) hs (by decide) (by decide) rfl fun w hw => ?_
        simp only [List.mem_cons, List.not_mem_nil, or_false] at hw
        rcases hw with rfl | rfl | rfl | rfl | rfl | rfl | rfl <;> trivial
    | str a =>
      have h' : a.length ≤ 1000 := h.1
      simp [szl]
      refine ⟨by omega, by omega, by omega, by omega, by omega, ?_⟩
      refine pick_ok (N := 9) hs (by decide) (by decide) rfl fun w hw => ?_
      simp only [List.mem_cons, List.not_mem_nil, or_false] at hw
      rcases hw with rfl | rfl | rfl | rfl | rfl | rfl | rfl | rfl | rfl <;> trivial
    | tuple xs =>
      have hl := (Wd.lay h).1
      have h1 : xs.length ≤ 1000 := h.1
      have z0 : Zs 1000 (n + 1) xs := ⟨h1, fun x hx => (Pf.Wd.zd (h.2 x hx)).up⟩
      have cz : ∀ lo hi, Zs 1000 (n + 1) (cutD xs lo hi) := fun lo hi => z0.cut
      simp [ne_nil hl]
      by_cases hx : xs = []
      case' pos => rw [if_pos hx]
      case' neg =>
        rw [if_neg hx]
        have hx' : 0 < xs.length := List.length_pos_iff.mpr hx
        refine next_run hs (by omega) (by omega) fun r s r0 r1 hs => ?_
        simp
        by_cases hr : 0 < r
        case pos =>
          rw [if_pos hr]
          refine next_run hs (by omega) (by omega) fun r s r0 r1 hs => ?_
          simp [szl]
          refine okO_at r0 r1 fun x hxs => ?_
          refine okS_imp (changed_ok (h.2 x hxs) hs) fun d s hs => ?_
          have c1 := (cz none (some r)).l
          have c2 := (cz (some (r + 1)) none).l
          refine ⟨by omega, by omega, ?_, hs.2⟩
          have q := ((cz none (some r)).app (Zs.one hs.1)).app (cz (some (r + 1)) none)
          have q2 := q.tup (hb := by decide)
          simpa using q2
        case' neg => rw [if_neg hr]
      all_goals
        refine next_run hs (by omega) (by omega) fun k s k0 k1 hs => ?_
        refine next_run hs (by omega) (by omega) fun j s j0 j1 hs => ?_
        simp [szl]
        have b1 := (cz none (some k)).l
        have b2 := (cz (some (k + 1)) none).l
        have b3 := (cz none (some 1)).l
        have b4 := (cz (some k) none).l
        have base : ∀ w ∈ ([.tuple (cutD xs none (some k) ++ cutD xs (some (k + 1)) none), .tuple (xs ++ cutD xs none (some 1)), .tuple xs.reverse, .tuple (cutD xs (some k) none ++ cutD xs none (some k)), .list xs, .tuple (cutD xs none (some k)), .tuple [], .tuple (xs ++ [.int 0])] : List PyData), Zd (n + 2) w := fun w hw => by
          simp only [List.mem_cons, List.not_mem_nil, or_false] at hw
          rcases hw with rfl | rfl | rfl | rfl | rfl | rfl | rfl | rfl
          · exact ((cz _ _).app (cz _ _)).tup
          · exact (z0.app (cz _ _)).tup
          · exact z0.rev.tup
          · exact ((cz _ _).app (cz _ _)).tup
          · exact z0.lst
          · exact (cz _ _).tup
          · exact (Zs.nil).tup
          · refine (z0.app (c := 1) ⟨by simp, fun y hy => ?_⟩).tup
            rw [List.mem_singleton.mp hy]
            trivial
        refine ⟨by omega, by omega, by omega, by omega, ?_⟩
        by_cases c1 : k < j
        · by_cases c2 : j < xs.length
          · simp [c1, c2, szl]
            refine ⟨by decide, ?_⟩
            refine okC_inv (fun g' => g' = _) (fun z => Zd (n + 2) z) rfl (fun d _ g' e => ?_) (fun zs g' e l hz => ?_)
            · subst e
              simp [yesM, szl, wipeG]
              have d1 := (cz (some j) (some (j + 1))).l
              have d2 := (cz (some (k + 1)) (some j)).l
              have d3 := (cz (some k) (some (k + 1))).l
              have d4 := (cz (some (j + 1)) none).l
              refine ⟨by omega, by omega, by omega, by omega, ?_⟩
              have q := (((((cz none (some k)).app (cz (some j) (some (j + 1)))).app (cz (some (k + 1)) (some j))).app (cz (some k) (some (k + 1)))).app (cz (some (j + 1)) none)).tup
              simpa using q
            · subst e
              have l3 : zs.length ≤ 3 := l
              simp [szl, wipeG]
              refine ⟨by omega, ?_⟩
              have hw : ∀ w ∈ _, Zd (n + 2) w := fun w hw => (List.mem_append.mp hw).elim (base w) (hz w)
              refine next_run hs (by omega) (by omega) fun r s r0 r1 hs => ?_
              simp
              exact okO_at r0 (by first | omega | (simp; omega)) fun x hx => ⟨hw x hx, hs⟩
          · simp [c1, c2]
            exact pick_ok (N := 8) hs (by decide) (by decide) rfl base
        · simp [c1]
          exact pick_ok (N := 8) hs (by decide) (by decide) rfl base
    | list xs => exact h.elim
    | dict xs => exact h.elim
end Pf
namespace Pf
open PySem Mi L2
/-- how many whole numbers a paper has -/
def cntN : Nat → PyData → Nat
  | 0, _ => 0
  | n + 1, d => match d with
    | .int _ => 1
    | .tuple xs => (xs.map (cntN n)).sum
    | _ => 0
theorem all_ints {zs : List PyData} (h : ∀ z ∈ zs, ∃ i : Int, z = .int i) : ∃ ns : List Int, zs = ns.map .int := by
  induction zs with
  | nil => exact ⟨[], rfl⟩
  | cons z zs ih =>
    obtain ⟨i, rfl⟩ := h z (by simp)
    obtain ⟨ns, rfl⟩ := ih fun z hz => h z (by simp [hz])
    exact ⟨i :: ns, rfl⟩
theorem nd_ints (ns : List Int) : DcEq.ndAll (ns.map PyData.int) = true := by
  induction ns <;> simp_all [DcEq.ndAll, DcEq.ndB]
theorem int_in {i : Int} {ns : List Int} {g : Bool → Bool} {P : PyData → Prop} : okO (inD g (.int i) (.list (ns.map .int))) P ↔ P (.bool (g ((ns.map PyData.int).any fun z => PyData.eqv z (.int i)))) := by
  rw [in_lst]
  have : lowI (.int i) (.list (ns.map .int)) = true := by
    simp [lowI, DcEq.ndB, nd_ints, PyData.depth]
  simp only [this, true_and]
theorem ints_ok : ∀ {n : Nat} {d : PyData}, Wd n d → cntN n d ≤ 10000000 → okP (m__law_ints n [d]) (fun z => ∃ ns : List Int, z = .list (ns.map .int) ∧ ns.length ≤ cntN n d) fun _ => False
  | n + 1, d, h, hc => by
    show okP (runP 4 1 (b__law_ints (m__law_ints n)) [d]) _ _
    rw [okP_runP]
    refine ⟨rfl, ?_⟩
    unfold b__law_ints
    cases d with
    | none => simp [szl]
    | bool b => simp [szl]
    | str a => simp [szl]
    | int i =>
      simp [szl]
      exact ⟨[i], by simp, by simp [cntN]⟩
    | tuple xs =>
      simp [szl]
      have e : cntN (n + 1) (.tuple xs) = (xs.map (cntN n)).sum := rfl
      rw [e] at hc ⊢
      refine svO_inv (fun rem g => ∃ (ns : List Int) (s2 s3 : Sl), g = [.dat (.tuple xs), .dat (.list (ns.map .int)), s2, s3] ∧ ns.length + (rem.map (cntN n)).sum ≤ (xs.map (cntN n)).sum ∧ ∀ d ∈ rem, Wd n d) ⟨[], _, _, rfl, by simp, h.2⟩ ?_ ?_
      · rintro d rem _ ⟨ns, s2, s3, rfl, hs, hr⟩
        have hs' : ns.length + (cntN n d + (rem.map (cntN n)).sum) ≤ (xs.map (cntN n)).sum := by simpa using hs
        simp
        refine okP_imp (ints_ok (hr d (by simp)) (by omega)) ?_
        rintro _ ⟨ms, rfl, hm⟩
        simp
        refine ⟨by rw [szl]; omega, ?_⟩
        refine okC_inv (fun g' => g' = _) (fun z => ∃ i : Int, z = .int i) rfl (fun d hd g' e => ?_) (fun zs g' e l hz => ?_)
        · subst e
          obtain ⟨i, _, rfl⟩ := List.mem_map.mp hd
          simp [wipeG, -in_lst, int_in]
        · subst e
          obtain ⟨ks, rfl⟩ := all_ints hz
          have hk : ks.length ≤ ms.length := by simpa using l
          simp [wipeG, szl]
          exact ⟨by omega, ns ++ ks, by simp, by simp; omega, fun d hd => hr d (by simp [hd])⟩
      · rintro _ ⟨ns, s2, s3, rfl, hs, _⟩
        simp
        exact ⟨ns, rfl, by simpa using hs⟩
    | list xs => exact h.elim
    | dict xs => exact h.elim
theorem exch_ok : ∀ {n : Nat} {d : PyData} {a b : Int}, Wd n d → okP (m__law_exchanged n [d, .int a, .int b]) (fun z => Zd n z) fun _ => False
  | n + 1, d, a, b, h => by
    show okP (runP 4 3 (b__law_exchanged (m__law_exchanged n)) [d, .int a, .int b]) _ _
    rw [okP_runP]
    refine ⟨rfl, ?_⟩
    unfold b__law_exchanged
    cases d with
    | none => simp [szl]; trivial
    | bool b => simp [szl]; trivial
    | str a => simp [szl]; trivial
    | int i =>
      simp [szl]
      by_cases c1 : i = a
      · simp [c1]; trivial
      · by_cases c2 : i = b
        · simp [c1, c2]; split <;> trivial
        · simp [c1, c2]; trivial
    | tuple xs =>
      have hl : xs.length ≤ 1000 := h.1
      simp [szl]
      refine ⟨by omega, ?_⟩
      refine okC_inv (fun g' => g' = _) (fun z => Zd n z) rfl (fun d hd g' e => ?_) (fun zs g' e l hz => ?_)
      · subst e
        simp [yesM, szl, wipeG]
        exact exch_ok (h.2 d hd)
      · subst e
        exact Zs.tup (b := 1000) ⟨Nat.le_trans l hl, hz⟩
    | list xs => exact h.elim
    | dict xs => exact h.elim
end Pf
namespace Pf
open PySem Mi L2
theorem strs_of (ys : List Str) : strsOf (ys.map PyData.str) = some ys := by
  induction ys with
  | nil => rfl
  | cons y ys ih => simp [strsOf, ih]
theorem join_tup {ys : List Str} {P : PyData → Prop} : okO (joinD "" (.tuple (ys.map .str))) P ↔ (ys.map (·.length)).sum ≤ 16777216 ∧ P (.str (Txt.join "" ys)) := by
  unfold joinD
  have e : seqD (.tuple (ys.map PyData.str)) = some (ys.map PyData.str) := rfl
  have e0 : (Str.ofString "").length = 0 := rfl
  simp only [e, strs_of, e0, Nat.mul_zero, Nat.add_zero]
  rw [okO_if]
theorem cut_map {α β : Type} {f : α → β} {xs : List α} {lo hi : Option Int} : cutD (xs.map f) lo hi = (cutD xs lo hi).map f := by
  unfold cutD
  rw [List.length_map, List.map_take, List.map_drop]
theorem join_len : ∀ (ys : List Str), (Txt.join "" ys).length = (ys.map (·.length)).sum := by
  intro ys
  rw [TL.join_eq]
  induction ys with
  | nil => rfl
  | cons y ys ih =>
    cases ys with
    | nil => simp [Str.join]
    | cons z zs =>
      have e : Str.join "" (y :: z :: zs) = y ++ "" ++ Str.join "" (z :: zs) := rfl
      rw [e, appS_len, appS_len, ih]
      have e0 : (Str.ofString "").length = 0 := rfl
      simp only [e0, List.map_cons, List.sum_cons]
      omega
theorem sum_le {ys : List Str} (h : ∀ y ∈ ys, y.length ≤ 1000) : (ys.map (·.length)).sum ≤ 1000 * ys.length := by
  induction ys with
  | nil => simp
  | cons y ys ih =>
    have h1 := h y (by simp)
    have h2 := ih fun z hz => h z (by simp [hz])
    simp only [List.map_cons, List.sum_cons, List.length_cons]
    omega
theorem all_strs {xs : List PyData} (h : ∀ x ∈ xs, isaD "str" x = true) : ∃ ys : List Str, xs = ys.map .str := by
  induction xs with
  | nil => exact ⟨[], rfl⟩
  | cons x xs ih =>
    have h1 := h x (by simp)
    obtain ⟨ys, rfl⟩ := ih fun z hz => h z (by simp [hz])
    cases x with
    | str a => exact ⟨a :: ys, rfl⟩
    | _ => simp at h1
theorem lay_sub {xs zs : List PyData} (h : ∀ z ∈ zs, z ∈ xs) (l : PyData.canLayAll0 xs = true) : PyData.canLayAll0 zs = true := by
  have all : ∀ xs : List PyData, PyData.canLayAll0 xs = true ↔ ∀ x ∈ xs, x.canLay0 = true := by
    intro xs
    induction xs <;> simp_all [PyData.canLayAll0]
  rw [all] at l ⊢
  exact fun z hz => l z (h z hz)
/-- what cutting makes of a paper -/
def Cz (d z : PyData) : Prop := ∀ xs, d = .tuple xs → ∃ zs, z = .tuple zs ∧ zs.length ≤ 2000000
theorem tup_fin {s : PyData} (hs : St s) {n : Nat} {N : Nat} (hN : 0 < N) (hN' : N < 1000) {d : PyData} {ws : List PyData} (e : ws.length = N) (h : ∀ w ∈ ws, Zd n w ∧ Cz d w) : okS (m__law_next s [.int N]) (fun d' s' => okO (ixD (.list ws) d') fun z => Zd n z ∧ Cz d z ∧ St s') fun _ => False := by
  refine next_run hs (by omega) (by omega) fun r s' h0 h1 hs' => ?_
  exact okO_at h0 (by rw [e]; exact h1) fun x hx => ⟨(h x hx).1, (h x hx).2, hs'⟩
theorem zstr {n : Nat} {a : Str} : Zd (n + 1) (.str a) := trivial
theorem zs_strs {n b : Nat} {ys : List Str} (h : ys.length ≤ b) : Zs b (n + 1) (ys.map PyData.str) := ⟨by simpa using h, fun x hx => by
  obtain ⟨y, _, rfl⟩ := List.mem_map.mp hx
  trivial⟩
theorem cut_ok : ∀ {n : Nat} {d s : PyData}, Wd n d → St s → okS (m__law_cut n s [d]) (fun z s' => Zd (n + 1) z ∧ Cz d z ∧ St s') fun _ => False
  | n + 1, d, s, h, hs => by
    show okS (runS 6 2 (b__law_cut (m__law_cut n)) s [d]) _ _
    rw [okS_runS]
    refine ⟨rfl, ?_⟩
    unfold b__law_cut
    have nt : ∀ {d z : PyData}, isaD "tuple" d = false → Cz d z := fun h xs e => by subst e; simp at h
    cases d with
    | none => simp [szl]; exact ⟨trivial, nt (by simp), hs⟩
    | bool b => simp [szl]; exact ⟨trivial, nt (by simp), hs⟩
    | str a => simp [szl]; exact ⟨trivial, nt (by simp), hs⟩
    | int i => simp [szl]; exact ⟨trivial, nt (by simp), hs⟩
    | tuple xs =>
      have hl := (Wd.lay h).1
      have hl' : PyData.canLayAll0 xs = true := by simpa [PyData.canLay0] using hl
      have h1 : xs.length ≤ 1000 := h.1
      simp [szl, eq_nil hl]
      by_cases hx : xs = []
      · subst hx
        simp
        exact ⟨Zs.nil.tup, fun xs e => ⟨[], rfl, by simp⟩, hs⟩
      rw [if_neg hx]
      have hx' : 0 < xs.length := List.length_pos_iff.mpr hx
      refine ⟨by omega, ?_⟩
      refine okC_fm (fun x => if isaD "str" x = true then none else some x) (fun x hxs => ?_) ?_
      · simp [wipeG]
      generalize ez : xs.filterMap (fun x => if isaD "str" x = true then none else some x) = zs
      have hz : PyData.canLayAll0 zs = true := lay_sub (fun z hz => by
        rw [← ez] at hz
        obtain ⟨x, hx, e⟩ := List.mem_filterMap.mp hz
        by_cases c : isaD "str" x = true
        · simp [c] at e
        · simp [c] at e; rw [← e]; exact hx) hl'
      simp [ne_nilL, wipeG]
      by_cases hzs : zs = []
      · rw [if_pos hzs]
        have hs1 : ∀ x ∈ xs, isaD "str" x = true := fun x hx => by
          by_cases c : isaD "str" x = true
          · exact c
          · have : x ∈ zs := by rw [← ez]; exact List.mem_filterMap.mpr ⟨x, hx, by simp [c]⟩
            rw [hzs] at this
            cases this
        obtain ⟨ys, rfl⟩ := all_strs hs1
        have hy : ∀ y ∈ ys, y.length ≤ 1000 := fun y hy => by
          have := h.2 (.str y) (List.mem_map.mpr ⟨y, hy, rfl⟩)
          cases n with
          | zero => exact this.elim
          | succ n => exact this.1
        have hc := sum_le hy
        have h1' : ys.length ≤ 1000 := by simpa using h1
        refine next_run hs (by omega) (by omega) fun k s k0 k1 hs => ?_
        have hk0 : okO (L2.atI (ys.map PyData.str) k) fun x => ∃ y ∈ ys, x = .str y := okO_at k0 k1 fun x hx => by
          obtain ⟨y, hy, rfl⟩ := List.mem_map.mp hx
          exact ⟨y, hy, rfl⟩
        have hk : ∃ y ∈ ys, L2.atI (ys.map PyData.str) k = some (.str y) := by
          generalize L2.atI (ys.map PyData.str) k = o at hk0
          cases o with
          | none => exact hk0.elim
          | some x =>
            obtain ⟨y, hy, rfl⟩ := hk0
            exact ⟨y, hy, rfl⟩
        obtain ⟨y, hym, hk⟩ := hk
        have hyl := hy y hym
        have bc : ∀ lo hi, (cutD ys lo hi).length ≤ 1000 := fun lo hi => Nat.le_trans cut_le h1'
        have bs : ∀ lo hi, ((cutD ys lo hi).map (·.length)).sum ≤ 1000000 := fun lo hi => by
          have := sum_le (ys := cutD ys lo hi) fun y h => hy y (cut_mem h)
          have := bc lo hi
          omega
        simp [hk, szl]
        refine ⟨by omega, ?_⟩
        refine next_run hs (by omega) (by omega) fun a s a0 a1 hs => ?_
        have hb := join_len ys
        simp [hk, szl, cut_map, join_tup]
        have e1 := bc none (some k)
        have e2 := bc (some (k + 1)) none
        have e3 := bc (some (k + 2)) none
        have e4 := bc (some k) none
        have e5 := bc (some k) (some (k + 2))
        have e6 := bs (some k) (some (k + 2))
        refine ⟨by omega, by omega, by omega, by omega, by omega, by omega, by omega, by omega, by omega, by omega, by omega, by omega, ?_⟩
        refine tup_fin (N := 6) hs (by decide) (by decide) rfl fun w hw => ?_
        simp only [List.mem_cons, List.not_mem_nil, or_false] at hw
        have zc : ∀ lo hi, Zs 1000 (n + 1) ((cutD ys lo hi).map PyData.str) := fun lo hi => zs_strs (bc lo hi)
        rcases hw with rfl | rfl | rfl | rfl | rfl | rfl <;> refine ⟨?_, fun xs e => ⟨_, rfl, by first | (simp; done) | (simp; omega)⟩⟩
        · exact ((zc _ _).app (Zs.con zstr (Zs.con zstr (zc _ _)))).tup
        · exact ((zc _ _).app (Zs.con zstr (zc _ _))).tup
        · exact (Zs.one zstr).tup
        · exact (zs_strs (b := 1000000) (by rw [signs_len]; omega)).tup
        · exact ((zc _ _).app (Zs.con zstr (zc _ _))).tup
        · exact ((zc _ _).app (((zc _ _).rev).app (zc _ _))).tup
      · rw [if_neg hzs]
        refine next_run hs (by omega) (by omega) fun k s k0 k1 hs => ?_
        simp [szl]
        refine okO_at k0 k1 fun x hxs => ?_
        refine okS_imp (cut_ok (h.2 x hxs) hs) fun d s hs => ?_
        have b1 : (cutD xs none (some k)).length ≤ 1000 := Nat.le_trans cut_le h1
        have b2 : (cutD xs (some (k + 1)) none).length ≤ 1000 := Nat.le_trans cut_le h1
        refine ⟨by omega, by omega, ?_, fun ws e => ⟨_, rfl, by simp; omega⟩, hs.2.2⟩
        have z0 : Zs 1000 (n + 1) xs := ⟨h1, fun x hx => (Pf.Wd.zd (h.2 x hx)).up⟩
        have q := ((z0.cut (lo := none) (hi := some k)).app ((Zs.one hs.1).app (z0.cut (lo := some (k + 1)) (hi := none)))).tup
        simpa using q
    | list xs => exact h.elim
    | dict xs => exact h.elim
end Pf
namespace Pf
open PySem Mi L2
theorem svO_rng {a : Gm → Out} {b : PyData → Gm → Option Gm} {PO : Out → Prop} {g : Gm} {N : Nat} (I : Nat → Gm → Prop) (h0 : I 0 g) (hs : ∀ i < N, ∀ g, I i g → okO (b (.int (i : Nat)) g) fun g1 => sv a g1 fun o => match o with
      | .nx g2 => I (i + 1) g2
      | .ct g2 => I (i + 1) g2
      | .bk g2 => PO (.nx g2)
      | o => PO o) (hQ : ∀ g, I N g → PO (.nx g)) : svO (forL b a (rngD 0 (N : Nat)) g) PO := by
  have er : rngD 0 (N : Nat) = (List.range' 0 (N - 0)).map fun k => PyData.int (k : Nat) := by
    unfold rngD
    rw [List.range_eq_range']
    simp
  rw [er]
  refine svO_inv (fun rem g => ∃ i ≤ N, rem = (List.range' i (N - i)).map (fun k => PyData.int (k : Nat)) ∧ I i g) ⟨0, Nat.zero_le _, rfl, h0⟩ ?_ ?_
  · rintro d ds g ⟨i, hi, e, hI⟩
    have hlt : i < N := by
      rcases Nat.lt_or_ge i N with h | h
      · exact h
      · rw [show N - i = 0 by omega] at e
        cases e
    rw [show N - i = (N - (i + 1)) + 1 by omega, List.range'_succ, List.map_cons] at e
    injection e with e1 e2
    subst e1 e2
    refine okO_imp (hs i hlt g hI) fun g1 h => sv_mono h fun o h => ?_
    cases o with
    | nx g2 => exact ⟨i + 1, hlt, rfl, h⟩
    | ct g2 => exact ⟨i + 1, hlt, rfl, h⟩
    | _ => exact h
  · rintro g ⟨i, hi, e, hI⟩
    have : i = N := by
      rcases Nat.lt_or_ge i N with h | h
      · rw [show N - i = (N - (i + 1)) + 1 by omega, List.range'_succ] at e
        cases e
      · omega
    subst this
    exact hQ g hI
/-- what is expected is like what is there -/
def sameB : Nat → PyData → PyData → Bool
  | 0, _, _ => false
  | n + 1, a, e => match e with
    | .none => (match a with | .none => true | _ => false)
    | .bool q => (match a with | .bool p => p == q | _ => false)
    | .int j => (match a with | .int i => i == j | _ => false)
    | .str y => (match a with | .str x => x == y | _ => false)
    | .tuple ys => (match a with | .tuple xs => xs.length == ys.length && (xs.zip ys).all fun p => sameB n p.1 p.2 | _ => false)
    | .list ys => (match a with | .list xs => xs.length == ys.length && (xs.zip ys).all fun p => sameB n p.1 p.2 | _ => false)
    | .dict _ => false
/-- no dict, no deeper, no longer -/
def Fit : Nat → PyData → Prop
  | 0, _ => False
  | n + 1, e => match e with
    | .tuple ys => ys.length ≤ 1000000 ∧ ∀ y ∈ ys, Fit n y
    | .list ys => ys.length ≤ 1000000 ∧ ∀ y ∈ ys, Fit n y
    | .dict _ => False
    | _ => True
theorem eq_bool {p q : Bool} {P : PyData → Prop} : okO (eqD (.bool p) (.bool q)) P ↔ P (.bool (p == q)) := by
  rw [eq_any]
  have : lowD (.bool p) (.bool q) = true := rfl
  simp only [this, true_and]
  simp [PyData.eqv]
theorem all_upto {α : Type} {xs ys : List α} {f : α × α → Bool} (hl : xs.length = ys.length) (h : ∀ i (h1 : i < xs.length) (h2 : i < ys.length), f (xs[i], ys[i]) = true) : (xs.zip ys).all f = true := by
  rw [List.all_eq_true]
  intro p hp
  obtain ⟨i, hi, e⟩ := List.mem_iff_getElem.mp hp
  rw [← e, List.getElem_zip]
  exact h i _ _
theorem all_not {α : Type} {xs ys : List α} {f : α × α → Bool} {i : Nat} (h1 : i < xs.length) (h2 : i < ys.length) (h : f (xs[i], ys[i]) = false) : (xs.zip ys).all f = false := by
  cases e : (xs.zip ys).all f with
  | false => rfl
  | true =>
    rw [List.all_eq_true] at e
    have hi : i < (xs.zip ys).length := by simp; omega
    have := e (xs.zip ys)[i] (List.getElem_mem hi)
    rw [List.getElem_zip, h] at this
    cases this
theorem same_run : ∀ {n : Nat} {a e : PyData}, Fit n e → okP (m__law_same n [a, e]) (fun z => z = .bool (sameB n a e)) fun _ => False
  | n + 1, a, e, h => by
    show okP (runP 3 2 (b__law_same (m__law_same n)) [a, e]) _ _
    rw [okP_runP]
    refine ⟨rfl, ?_⟩
    unfold b__law_same
    cases e with
    | none => simp; cases a <;> rfl
    | bool q => cases a <;> simp [sameB, eq_bool]
    | int j => cases a <;> simp [sameB]
    | str y => cases a <;> simp [sameB]
    | tuple ys =>
      cases a with
      | tuple xs =>
        have h1 : ys.length ≤ 1000000 := h.1
        simp
        by_cases hl : xs.length = ys.length
        · simp [hl]
          refine ⟨by omega, ?_⟩
          refine svO_rng (fun i g => (∃ s, g = [.dat (.tuple xs), .dat (.tuple ys), s]) ∧ ∀ j, j < i → ∀ (h1 : j < xs.length) (h2 : j < ys.length), sameB n xs[j] ys[j] = true) ⟨⟨_, rfl⟩, by simp⟩ ?_ ?_
          · rintro i hi _ ⟨⟨s, rfl⟩, hp⟩
            have hi' : i < xs.length := by omega
            simp [atI_nat hi, atI_nat hi']
            refine okP_imp (same_run (h.2 _ (List.getElem_mem hi))) ?_
            rintro _ rfl
            by_cases hb : sameB n xs[i] ys[i] = true
            · simp [hb]
              intro j hj h1 h2
              rcases Nat.lt_or_ge j i with q | q
              · exact hp j q h1 h2
              · have : j = i := by omega
                subst this
                exact hb
            · simp [hb, sameB, hl]
              have hb' : sameB n xs[i] ys[i] = false := by simpa using hb
              simpa using all_not (f := fun p => sameB n p.1 p.2) hi' hi hb'
          · rintro g ⟨⟨s, rfl⟩, hp⟩
            simp [sameB, hl]
            simpa using all_upto (f := fun p => sameB n p.1 p.2) hl fun i h1 h2 => hp i (by omega) h1 h2
        · have hl' : ¬ (xs.length : Int) = ys.length := by omega
          simp [hl, hl', sameB]
      | _ => simp [sameB]
    | list ys =>
      cases a with
      | list xs =>
        have h1 : ys.length ≤ 1000000 := h.1
        simp
        by_cases hl : xs.length = ys.length
        · simp [hl]
          refine ⟨by omega, ?_⟩
          refine svO_rng (fun i g => (∃ s, g = [.dat (.list xs), .dat (.list ys), s]) ∧ ∀ j, j < i → ∀ (h1 : j < xs.length) (h2 : j < ys.length), sameB n xs[j] ys[j] = true) ⟨⟨_, rfl⟩, by simp⟩ ?_ ?_
          · rintro i hi _ ⟨⟨s, rfl⟩, hp⟩
            have hi' : i < xs.length := by omega
            simp [atI_nat hi, atI_nat hi']
            refine okP_imp (same_run (h.2 _ (List.getElem_mem hi))) ?_
            rintro _ rfl
            by_cases hb : sameB n xs[i] ys[i] = true
            · simp [hb]
              intro j hj h1 h2
              rcases Nat.lt_or_ge j i with q | q
              · exact hp j q h1 h2
              · have : j = i := by omega
                subst this
                exact hb
            · simp [hb, sameB, hl]
              have hb' : sameB n xs[i] ys[i] = false := by simpa using hb
              simpa using all_not (f := fun p => sameB n p.1 p.2) hi' hi hb'
          · rintro g ⟨⟨s, rfl⟩, hp⟩
            simp [sameB, hl]
            simpa using all_upto (f := fun p => sameB n p.1 p.2) hl fun i h1 h2 => hp i (by omega) h1 h2
        · have hl' : ¬ (xs.length : Int) = ys.length := by omega
          simp [hl, hl', sameB]
      | _ => simp [sameB]
    | dict xs => exact h.elim
end Pf
namespace Pf
open PySem Mi L2
/-- a paper that is told -/
structure Tld (x : PyData) (xs : List PyData) : Prop where
  w : Wd 8 (.tuple (x :: xs))
  c : cntN 8 (.tuple (x :: xs)) ≤ 10000000
theorem turned_ok {x : PyData} {xs : List PyData} {s : PyData} (T : Tld x xs) (hs : St s) : okS (m__law_turned_about s [.tuple (x :: xs)]) (fun z s' => Zd 10 z ∧ St s') fun _ => False := by
  unfold m__law_turned_about
  rw [okS_runS]
  refine ⟨rfl, ?_⟩
  unfold b__law_turned_about
  have hl : xs.length + 1 ≤ 1000 := T.w.1
  simp
  refine okP_imp (ints_ok T.w T.c) ?_
  rintro _ ⟨ns, rfl, hn⟩
  have hn' : ns.length ≤ 10000000 := Nat.le_trans hn T.c
  have z0 : Zs 1000 8 (x :: xs) := ⟨by simpa using hl, fun y hy => (Pf.Wd.zd (T.w.2 y hy)).up⟩
  have zc : ∀ lo hi, Zs 1000 8 (cutD (x :: xs) lo hi) := fun lo hi => z0.cut
  refine next_run hs (by omega) (by omega) fun pick s p0 p1 hs => ?_
  simp [ne_nilL]
  have bb : ∀ lo hi, (cutD (x :: xs) lo hi).length ≤ 1000 := fun lo hi => Nat.le_trans cut_le (by simpa using hl)
  by_cases c1 : pick < 3
  case' pos =>
    rw [if_pos c1]
    by_cases c2 : ns = []
    case' pos => rw [if_pos c2, if_neg (show ¬ pick = 3 by omega)]
    case neg =>
      rw [if_neg c2]
      have hx' : 0 < ns.length := List.length_pos_iff.mpr c2
      refine next_run hs (by omega) (by omega) fun r s r0 r1 hs => ?_
      simp
      refine okO_at r0 (by simpa using r1) fun y hy => ?_
      obtain ⟨m, _, rfl⟩ := List.mem_map.mp hy
      by_cases c3 : pick = 0
      · simp [c3]
        exact okP_imp (exch_ok T.w) fun _ hz => ⟨hz.up.up, hs⟩
      · simp [c3]
        refine next_run hs (by omega) (by omega) fun r s r0 r1 hs => ?_
        simp
        refine okO_at r0 (by simpa using r1) fun y hy => ?_
        obtain ⟨m, _, rfl⟩ := List.mem_map.mp hy
        exact okP_imp (exch_ok T.w) fun _ hz => ⟨hz.up.up, hs⟩
  case' neg =>
    rw [if_neg c1]
    by_cases c3 : pick = 3
    case pos =>
      rw [if_pos c3]
      by_cases c4 : (2 : Int) < xs.length + 1
      · rw [if_pos c4]
        refine okS_imp (cut_ok (d := .tuple (cutD (x :: xs) (some 1) none)) (n := 8) ⟨bb _ _, fun y hy => T.w.2 y (cut_mem hy)⟩ hs) ?_
        rintro z s ⟨hd, hz, hs⟩
        obtain ⟨zs, rfl, hl⟩ := hz _ rfl
        have b1 := bb none (some 1)
        simp [szl]
        exact ⟨by omega, ((zc none (some 1)).app (c := 2000000) ⟨hl, hd.2⟩).tup.up, hs⟩
      · rw [if_neg c4]
        have b1 := bb none (some 1)
        have b2 := bb (some 1) none
        refine ⟨by rw [szl]; omega, ?_⟩
        refine okC_inv (fun g' => ∃ s, St s ∧ g' = [Sl.own true s, Sl.dat (PyData.tuple (x :: xs)), Sl.dat (PyData.list (List.map PyData.int ns)), Sl.dat (PyData.int pick), Sl.dead, Sl.dead, Sl.dead, Sl.dead, Sl.dead]) (fun z => Zd 9 z) ⟨s, hs, rfl⟩ (fun d hd g' e => ?_) (fun zs g' e l hz => ?_)
        · obtain ⟨s, hs, rfl⟩ := e
          simp [yesM, wipeG]
          exact okS_imp (cut_ok (n := 8) (Wd.up (T.w.2 d (cut_mem hd))) hs) fun _ s hs => ⟨hs.1, hs.2.2⟩
        · obtain ⟨s, hs, rfl⟩ := e
          simp [szl]
          have z1 : Zs 1000 9 (cutD (x :: xs) none (some 1)) := ⟨b1, fun y hy => ((zc _ _).m y hy).up⟩
          exact ⟨by omega, (z1.app (c := 1000) ⟨by omega, hz⟩).tup, hs⟩
    case' neg => rw [if_neg c3]
  all_goals
    refine next_run hs (by omega) (by omega) fun k s k0 k1 hs => ?_
    refine next_run hs (by omega) (by omega) fun j s j0 j1 hs => ?_
    have b1 := bb none (some k)
    have b2 := bb (some j) (some (j + 1))
    have b3 := bb (some (k + 1)) none
    by_cases c4 : (xs.length : Int) + 1 = 2
    · rw [if_pos c4]
      obtain ⟨y, rfl⟩ : ∃ y, xs = [y] := by
        match xs, c4 with
        | [], c4 => simp at c4
        | [y], c4 => exact ⟨y, rfl⟩
        | _ :: _ :: _, c4 => simp at c4; omega
      simp
      have hme : Zd 10 (.tuple [x, y]) := (z0.tup).up
      have hy : Wd 7 y := T.w.2 y (by simp)
      by_cases c5 : isaD "tuple" y = true
      · cases y with
        | tuple ys =>
          have hyl : ys.length ≤ 1000 := hy.1
          simp [ne_nil (Wd.lay hy).1, szl]
          have zy : Zs 1000 8 ys := ⟨hyl, fun z hz => (Pf.Wd.zd (hy.2 z hz)).up.up⟩
          have zyc : ∀ lo hi, Zs 1000 8 (cutD ys lo hi) := fun lo hi => zy.cut
          have fin : ∀ k j : Int, Zd 10 (.tuple (cutD [x, PyData.tuple ys] none (some k) ++ (cutD [x, PyData.tuple ys] (some j) (some (j + 1)) ++ cutD [x, PyData.tuple ys] (some (k + 1)) none))) := fun k j => (((zc _ _).app ((zc _ _).app (zc _ _))).tup).up
          by_cases c6 : ys = []
          · rw [if_pos c6]
            by_cases k' : 0 < k <;> by_cases j' : 0 < j <;> simp [k', j', hs, hme] <;> exact ⟨by omega, by omega, by simpa using fin k j⟩
          · rw [if_neg c6]
            have hx' : 0 < ys.length := List.length_pos_iff.mpr c6
            refine next_run hs (by omega) (by omega) fun k s k0 k1 hs => ?_
            refine next_run hs (by omega) (by omega) fun j s j0 j1 hs => ?_
            have b1 : (cutD ys none (some k)).length ≤ 1000 := Nat.le_trans cut_le hyl
            have b2 : (cutD ys (some j) (some (j + 1))).length ≤ 1000 := Nat.le_trans cut_le hyl
            have b3 : (cutD ys (some (k + 1)) none).length ≤ 1000 := Nat.le_trans cut_le hyl
            simp [szl]
            refine ⟨by omega, by omega, ?_, hs⟩
            have q : Zd 9 (.tuple (cutD ys none (some k) ++ (cutD ys (some j) (some (j + 1)) ++ cutD ys (some (k + 1)) none))) := ((zyc _ _).app ((zyc _ _).app (zyc _ _))).tup
            have zx : Zd 9 x := (z0.m x (by simp)).up
            exact (Zs.con zx (Zs.one q)).tup
        | _ => simp at c5
      · rw [if_neg c5]
        have fin : ∀ k j : Int, Zd 10 (.tuple (cutD [x, y] none (some k) ++ (cutD [x, y] (some j) (some (j + 1)) ++ cutD [x, y] (some (k + 1)) none))) := fun k j => (((zc _ _).app ((zc _ _).app (zc _ _))).tup).up
        simp [szl]
        by_cases k' : 0 < k <;> by_cases j' : 0 < j <;> simp [k', j', hs, hme] <;> exact ⟨by omega, by omega, by simpa using fin k j⟩
    · rw [if_neg c4]
      have fin : ∀ k j : Int, Zd 10 (.tuple (cutD (x :: xs) none (some k) ++ (cutD (x :: xs) (some j) (some (j + 1)) ++ cutD (x :: xs) (some (k + 1)) none))) := fun k j => (((zc _ _).app ((zc _ _).app (zc _ _))).tup).up
      have hme : Zd 10 (.tuple (x :: xs)) := (z0.tup).up
      simp [szl]
      by_cases k' : 0 < k <;> by_cases j' : 0 < j <;> simp [k', j', hs, hme] <;> exact ⟨by omega, by omega, by simpa using fin k j⟩
theorem odd_ok {x : PyData} {xs : List PyData} {s : PyData} (T : Tld x xs) (hs : St s) : okS (m__law_odd s [.tuple (x :: xs)]) (fun z s' => Zd 10 z ∧ St s') fun _ => False := by
  unfold m__law_odd
  rw [okS_runS]
  refine ⟨rfl, ?_⟩
  unfold b__law_odd
  have hl : xs.length + 1 ≤ 1000 := T.w.1
  have b1 : (cutD (x :: xs) (some 1) none).length ≤ 1000 := Nat.le_trans cut_le (by simpa using hl)
  simp [szl]
  refine ⟨by omega, by omega, ?_⟩
  refine next_run hs (by omega) (by omega) fun pick s p0 p1 hs => ?_
  simp
  by_cases c1 : 4 < pick
  · simp [c1]
    exact turned_ok T hs
  · simp [c1]
    by_cases c2 : pick = 0
    · simp [c2]
      refine next_run hs (by omega) (by omega) fun r s r0 r1 hs => ?_
      simp
      refine okO_at r0 (by simpa using r1) fun y hy => ⟨?_, hs⟩
      have z0 : Zs 1000 9 (x :: xs) := ⟨by simpa using hl, fun y hy => (Pf.Wd.zd (T.w.2 y hy)).up.up⟩
      have i1 : Zd 9 (.int 0) := trivial
      have st : ∀ a : Str, Zd 9 (.str a) := fun a => trivial
      have zx : Zd 8 x := (Pf.Wd.zd (T.w.2 x (by simp))).up
      simp only [List.mem_cons, List.not_mem_nil, or_false] at hy
      rcases hy with rfl | rfl | rfl | rfl | rfl | rfl | rfl | rfl | rfl | rfl | rfl
      · trivial
      · trivial
      · trivial
      · exact rfl
      · exact Zs.nil.tup
      · exact z0.cut.tup
      · exact z0.lst
      · exact (z0.app (Zs.one i1)).tup
      · exact (Zs.con ((Zs.one zx).lst) z0.cut).tup
      · exact (Zs.con (st _) z0.cut).tup
      · trivial
    · simp [c2]
      exact okS_imp (changed_ok T.w hs) fun z s hz => ⟨hz.1.up, hz.2⟩
end Pf
namespace Pf
open PySem Mi L2
/-- a paper with a word and so many parts -/
def hdB (w : Str) (n : Nat) : PyData → Bool
  | .tuple (.str a :: xs) => a == w && xs.length + 1 == n
  | _ => false
theorem hd_two {w : Str} {n : Nat} {d : PyData} (h : hdB w n d = true) : ∃ xs, d = .tuple (.str w :: xs) ∧ xs.length + 1 = n := by
  unfold hdB at h
  split at h
  · rename_i a xs
    simp only [Bool.and_eq_true, beq_iff_eq] at h
    exact ⟨xs, by rw [h.1], h.2⟩
  · cases h
theorem is_ok {w : Str} {n : Nat} {d : PyData} (hn : 0 < n) {P : PyData → Prop} {X : String → Prop} : okP (m__law_is [d, .str w, .int (n : Nat)]) P X ↔ P (.bool (hdB w n d)) := by
  unfold m__law_is
  rw [okP_runP]
  unfold b__law_is
  cases d with
  | tuple zs =>
    cases zs with
    | nil =>
      have e : ((0 : Int) == (n : Int)) = false := beq_eq_false_iff_ne.mpr (by omega)
      simp [hdB, e]
    | cons x xs =>
      by_cases hl : xs.length + 1 = n
      · have e : (((xs.length : Int) + 1) == (n : Int)) = true := beq_iff_eq.mpr (by omega)
        cases x <;> simp [hdB, e, hl]
      · have e : (((xs.length : Int) + 1) == (n : Int)) = false := beq_eq_false_iff_ne.mpr (by omega)
        have e2 : (xs.length + 1 == n) = false := beq_eq_false_iff_ne.mpr hl
        cases x <;> simp [hdB, e, e2]
  | _ => simp [hdB]
end Pf
namespace Pf
open PySem Mi L2
theorem told_ok {w : Str} {n : Nat} {d : PyData} (hn : 0 < n) {P : PyData → Prop} {X : String → Prop} : okP (m_is_told [d, .str w, .int (n : Nat)]) P X ↔ P (.bool (hdB w n d)) := by
  unfold m_is_told
  rw [okP_runP]
  unfold b_is_told
  cases d with
  | tuple zs =>
    cases zs with
    | nil =>
      have e : ¬ ((0 : Int) = (n : Int)) := by omega
      simp [hdB, e]
    | cons x xs =>
      by_cases hl : xs.length + 1 = n
      · have e : ((xs.length : Int) + 1) = (n : Int) := by omega
        cases x <;> simp [hdB, e, hl]
      · have e : ¬ ((xs.length : Int) + 1) = (n : Int) := by omega
        have e2 : (xs.length + 1 == n) = false := beq_eq_false_iff_ne.mpr hl
        cases x <;> simp [hdB, e, e2]
  | _ => simp [hdB]
end Pf
namespace Pf
open PySem Mi L2
theorem same_bool {p q : Bool} {P : PyData → Prop} {X : String → Prop} : okP (m__law_same 8 [.bool p, .bool q]) P X ↔ P (.bool (p == q)) := by
  have h := same_run (n := 8) (a := .bool p) (e := .bool q) trivial
  generalize m__law_same 8 [.bool p, .bool q] = z at h
  rw [of_okP h]
  exact Iff.rfl
/-- what a statement comes to, not to be looked into -/
structure SV (b : Gm → Out) (g : Gm) (P : Out → Prop) : Prop where
  h : sv b g P
theorem SV.step {a b : Gm → Out} {g : Gm} {PO : Out → Prop} (J : Gm → Prop) (h : SV a g fun o => ∃ g1, o = .nx g1 ∧ J g1) (k : ∀ g1, J g1 → SV b g1 PO) : SV (seqS a b) g PO := by
  constructor
  rw [sv_seqS]
  refine sv_mono h.h fun o ⟨g1, e, j⟩ => ?_
  rw [e]
  exact (k g1 j).h
theorem SV.rng {e : MM PyData} {n N : Nat} {a : Gm → Out} {g : Gm} {PO : Out → Prop} (I : Nat → Gm → Prop) (hN : N < 1000000) (he : ev e g (fun d g' => d = .int N ∧ g' = g) noX) (h0 : I 0 g) (hs : ∀ i < N, ∀ g, I i g → SV a (g.set n (.dat (.int i))) fun o => ∃ g2, o = .nx g2 ∧ I (i + 1) g2) (hQ : ∀ g, I N g → PO (.nx g)) : SV (forS (rng1 e) (bName n) a) g PO := by
  constructor
  rw [sv_forS, ev_rng1]
  have he' : ev e g (fun d g' => d = .int N ∧ g' = g) (fun c g' => PO (.ex c g')) := by
    unfold ev okE at he ⊢
    generalize e g = q at he
    rcases q with (_ | ⟨c, g'⟩) | ⟨d, g'⟩
    · exact he
    · exact he.elim
    · exact he
  refine ev_mono he' fun d g' ⟨e1, e2⟩ => ?_
  subst e1 e2
  refine ⟨by omega, ?_⟩
  refine svO_rng (N := N) I h0 (fun i hi g hI => ?_) hQ
  rw [okO_name]
  refine sv_mono (hs i hi g hI).h fun o ⟨g2, e, j⟩ => ?_
  rw [e]
  exact j
theorem eq_iff {r : Except Er PyData} {d : PyData} (h : r = .ok d) {P : PyData → Prop} {X : String → Prop} : okP r P X ↔ P d := by
  rw [h]
  exact Iff.rfl
theorem all_cut {xs : List PyData} {Q : PyData → Prop} (h : ∀ x ∈ xs, Q x) {lo hi : Option Int} : ∀ x ∈ cutD xs lo hi, Q x := fun x hx => h x (cut_mem hx)
end Pf
namespace Pf
open PySem Mi L2
def whB : PyData → Bool
  | .int _ => true
  | _ => false
theorem whole_ok {d : PyData} {P : PyData → Prop} {X : String → Prop} : okP (m_is_whole [d]) P X ↔ P (.bool (whB d)) := by
  unfold m_is_whole
  rw [okP_runP]
  unfold b_is_whole
  cases d <;> simp [whB]
theorem law_whole_ok {d : PyData} {P : PyData → Prop} {X : String → Prop} : okP (m__law_is_whole [d]) P X ↔ P (.bool (whB d)) := by
  unfold m__law_is_whole
  rw [okP_runP]
  unfold b__law_is_whole
  cases d <;> simp [whB]
end Pf
namespace Pf
open PySem Mi L2
def txB : PyData → Bool
  | .tuple zs => zs.all (isaD "str")
  | _ => false
theorem tx_tup {y : PyData} (h : txB y = true) : ∃ xs : List Str, y = .tuple (txs xs) := by
  cases y with
  | tuple zs =>
    obtain ⟨ys, rfl⟩ := all_strs (xs := zs) fun x hx => List.all_eq_true.mp h x hx
    exact ⟨ys, rfl⟩
  | _ => cases h
theorem hd_pair {w : Str} {d : PyData} (h : hdB w 2 d = true) : ∃ y, d = .tuple [.str w, y] := by
  obtain ⟨xs, rfl, hl⟩ := hd_two h
  match xs, hl with
  | [y], _ => exact ⟨y, rfl⟩
theorem beq_dec (x y : Str) : (x == y) = decide (x = y) := by
  by_cases h : x = y
  · rw [h, decide_eq_true rfl]; exact beq_self_eq_true _
  · rw [decide_eq_false h]; exact beq_eq_false_iff_ne.mpr h
theorem tup_len {m : Nat} {zs : List PyData} (hz : Zd m (.tuple zs)) : zs.length ≤ 4000000 := by
  cases m with
  | zero => exact hz.elim
  | succ m => exact hz.1
theorem law_texts_ok {m : Nat} {y : PyData} (hz : Zd m y) {P : PyData → Prop} {X : String → Prop} : okP (m__law_are_texts [y]) P X ↔ P (.bool (txB y)) := by
  have hh : okP (m__law_are_texts [y]) (fun z => z = .bool (txB y)) fun _ => False := by
    unfold m__law_are_texts
    rw [okP_runP]
    refine ⟨rfl, ?_⟩
    unfold b__law_are_texts
    cases y with
    | tuple zs =>
      have hl := tup_len hz
      simp [-in_lst, szl]
      refine ⟨by omega, ?_⟩
      have em : zs = zs.map id := by simp
      rw [em]
      refine okC_filA id id (fun z => !isaD "str" z) (fun z hz => ?_) ?_
      · simp [wipeG]
      · rw [eq_nilL]
        refine congrArg PyData.bool ?_
        show ((zs.filter fun z => !isaD "str" z).map id).isEmpty = (zs.map id).all (isaD "str")
        simp only [List.map_id]
        clear hz hl em
        induction zs with
        | nil => rfl
        | cons z zs ih =>
          rw [List.filter_cons, List.all_cons]
          cases isaD "str" z with
          | true => simpa using ih
          | false => rfl
    | _ => simp [txB]
  generalize m__law_are_texts [y] = r at hh ⊢
  exact eq_iff (of_okP hh)
theorem tx_txs {xs : List Str} : txB (.tuple (txs xs)) = true := List.all_eq_true.mpr fun z hz => by
  obtain ⟨x, _, rfl⟩ := List.mem_map.mp hz
  simp
end Pf
/-! what is told is small -/
namespace Pf
open PySem Mi L2
structure Td (n c : Nat) (d : PyData) : Prop where
  dd : Wd n d
  c : cntN n d ≤ c
structure TdA (n c : Nat) (xs : List PyData) : Prop where
  dd : ∀ x ∈ xs, Wd n x
  c : (xs.map (cntN n)).sum ≤ c
section
variable {n c c' : Nat} {x : PyData} {xs : List PyData}
theorem Td.le (h : Td n c x) (hc : c ≤ c' := by omega) : Td n c' x := ⟨h.dd, Nat.le_trans h.c hc⟩
theorem td_int {i : Int} (h : i.natAbs ≤ 1000000000) : Td (n + 1) 1 (.int i) := by
  refine ⟨?_, Nat.le_refl _⟩
  show i.natAbs.log2 < 1900
  by_cases h0 : i.natAbs = 0
  · rw [h0]; decide
  · rw [Nat.log2_lt h0]
    exact Nat.lt_of_le_of_lt h (by decide)
theorem td_str {s : Str} (h : s.length ≤ 1000) (k : PyData.strOk s = true) : Td (n + 1) 0 (.str s) := ⟨⟨h, k⟩, Nat.le_refl _⟩
theorem tda_nil : TdA n 0 [] := ⟨by simp, by simp⟩
theorem tda_cons (h : Td n c x) (k : TdA n c' xs) : TdA n (c + c') (x :: xs) := by
  refine ⟨fun y hy => ?_, ?_⟩
  · rcases List.mem_cons.mp hy with rfl | q
    · exact h.dd
    · exact k.dd y q
  · have h1 := h.c
    have h2 := k.c
    simp only [List.map_cons, List.sum_cons]
    omega
theorem tda_all : ∀ {xs : List PyData}, (∀ x ∈ xs, Td n c x) → TdA n (xs.length * c) xs
  | [], _ => by simpa using tda_nil
  | x :: xs, h => by
    have q := tda_cons (h x (by simp)) (tda_all (xs := xs) fun y hy => h y (by simp [hy]))
    have e1 : c + xs.length * c = (x :: xs).length * c := by rw [List.length_cons, Nat.succ_mul, Nat.add_comm]
    rw [e1] at q
    exact q
theorem td_tup (h : TdA n c xs) (hl : xs.length ≤ 1000) : Td (n + 1) c (.tuple xs) := ⟨⟨hl, h.dd⟩, h.c⟩
theorem td_row {k : Nat} (h : ∀ x ∈ xs, Td n c x) (hl : xs.length ≤ k) (hk : k ≤ 1000 := by omega) : Td (n + 1) (k * c) (.tuple xs) :=
  (td_tup (tda_all h) (by omega)).le (Nat.mul_le_mul_right _ hl)
theorem tld_of (h : TdA 7 c (x :: xs)) (hl : xs.length < 1000 := by simp) (hc : c ≤ 10000000 := by decide) : Tld x xs := by
  have q := td_tup h (by simp only [List.length_cons]; omega)
  exact ⟨q.dd, Nat.le_trans q.c hc⟩
theorem Tld.zd {x : PyData} {xs : List PyData} (T : Tld x xs) : Zd 10 (.tuple (x :: xs)) := (Pf.Wd.zd T.w).up.up
end
end Pf
/-! histories: what each read sees; plain -/
namespace Pf
open PySem Mi L2
abbrev Ln := Str × Str × Str
abbrev K3 := Str × Str × Nat
abbrev Fd := List (K3 × Str)
abbrev Wt := List (Str × Str)
def cnt3 (F : Fd) (w t : Str) : Nat := (F.filter fun q => decide (q.1.1 = w ∧ q.1.2.1 = t)).length
def rd1 (S : Fd × Wt) (l : Ln) : Fd × Wt := if l.2.1 = ("read" : Str) then (put S.1 (l.1, l.2.2, cnt3 S.1 l.1 l.2.2 + 1) ((lk S.2 l.2.2).getD ""), S.2) else (S.1, put S.2 l.2.2 l.1)
def rds (ls : List Ln) : Fd × Wt := ls.foldl rd1 ([], [])
/-- how often work w reads thing t -/
def cR (ls : List Ln) (w t : Str) : Nat := (ls.filter fun l => decide (l.2.1 = ("read" : Str) ∧ l.1 = w ∧ l.2.2 = t)).length
def nR (ls : List Ln) : Nat := (ls.filter fun l => decide (l.2.1 = ("read" : Str))).length
theorem put_keys {κ β : Type} [DecidableEq κ] {M : List (κ × β)} {k : κ} {v : β} : (put M k v).map (·.1) = if k ∈ M.map (·.1) then M.map (·.1) else M.map (·.1) ++ [k] := by
  unfold put
  cases e : M.findIdx? fun q => decide (q.1 = k) with
  | none =>
    have h := List.findIdx?_eq_none_iff.mp e
    rw [if_neg (fun q => ?_)]
    · simp
    · obtain ⟨z, hz, ez⟩ := List.mem_map.mp q
      have := h z hz
      simp [ez] at this
  | some j =>
    obtain ⟨hj, ej, _⟩ := List.findIdx?_eq_some_iff_getElem.mp e
    have ej' : M[j].1 = k := by simpa using ej
    rw [if_pos (ej' ▸ List.mem_map_of_mem (List.getElem_mem hj))]
    simp only
    apply List.ext_getElem
    · simp
    · intro i h1 h2
      simp only [List.getElem_map, List.getElem_modify]
      split
      · rename_i q
        subst q
        first | rfl | exact ej'.symm | simp [ej']
      · rfl
/-- what is kept: keys apart, one number behind the other -/
structure RdI (ls : List Ln) (S : Fd × Wt) : Prop where
  k : ∀ w t n, (w, t, n) ∈ S.1.map (·.1) ↔ 1 ≤ n ∧ n ≤ cR ls w t
  nd : (S.1.map (·.1)).Nodup
  c : ∀ w t, cnt3 S.1 w t = cR ls w t
  l : S.1.length = nR ls
  w : ∀ t, t ∈ S.2.map (·.1) ↔ ∃ x ∈ ls, x.2.1 ≠ ("read" : Str) ∧ x.2.2 = t
  nw : (S.2.map (·.1)).Nodup
theorem cnt3_eq {F : Fd} {w t : Str} : cnt3 F w t = ((F.map (·.1)).filter fun k => decide (k.1 = w ∧ k.2.1 = t)).length := by
  unfold cnt3
  rw [List.filter_map, List.length_map]
  rfl
theorem cR_snoc {ls : List Ln} {x : Ln} {w t : Str} : cR (ls ++ [x]) w t = cR ls w t + if x.2.1 = ("read" : Str) ∧ x.1 = w ∧ x.2.2 = t then 1 else 0 := by
  unfold cR
  rw [List.filter_append, List.length_append]
  congr 1
  by_cases h : x.2.1 = ("read" : Str) ∧ x.1 = w ∧ x.2.2 = t
  · rw [if_pos h, List.filter_cons_of_pos (by simpa using h)]; rfl
  · rw [if_neg h, List.filter_cons_of_neg (by simpa using h)]; rfl
theorem nR_snoc {ls : List Ln} {x : Ln} : nR (ls ++ [x]) = nR ls + if x.2.1 = ("read" : Str) then 1 else 0 := by
  unfold nR
  rw [List.filter_append, List.length_append]
  congr 1
  by_cases h : x.2.1 = ("read" : Str)
  · rw [if_pos h, List.filter_cons_of_pos (by simpa using h)]; rfl
  · rw [if_neg h, List.filter_cons_of_neg (by simpa using h)]; rfl
theorem RdI.new {ls : List Ln} {S : Fd × Wt} (I : RdI ls S) (x : Ln) : (x.1, x.2.2, cnt3 S.1 x.1 x.2.2 + 1) ∉ S.1.map (·.1) := fun h => by
  have := (I.k _ _ _).mp h
  rw [I.c] at this
  omega
theorem RdI.step {ls : List Ln} {S : Fd × Wt} (I : RdI ls S) (x : Ln) : RdI (ls ++ [x]) (rd1 S x) := by
  unfold rd1
  by_cases hx : x.2.1 = ("read" : Str)
  · rw [if_pos hx]
    have hk := put_keys (M := S.1) (k := (x.1, x.2.2, cnt3 S.1 x.1 x.2.2 + 1)) (v := (lk S.2 x.2.2).getD "")
    rw [if_neg (I.new x)] at hk
    refine ⟨fun w t n => ?_, ?_, fun w t => ?_, ?_, fun t => ?_, I.nw⟩
    · show (w, t, n) ∈ (put S.1 (x.1, x.2.2, cnt3 S.1 x.1 x.2.2 + 1) ((lk S.2 x.2.2).getD "")).map (·.1) ↔ _
      rw [hk]
      simp only [List.mem_append, List.mem_singleton, I.k, cR_snoc, hx, true_and, I.c, Prod.mk.injEq]
      by_cases h : x.1 = w ∧ x.2.2 = t
      · obtain ⟨rfl, rfl⟩ := h
        simp only [and_self, if_true, true_and]
        omega
      · rw [if_neg h]
        constructor
        · rintro (q | ⟨q1, q2, _⟩)
          · omega
          · exact absurd ⟨q1.symm, q2.symm⟩ h
        · intro q; exact .inl (by omega)
    · simp only [hk]
      exact List.nodup_append.mpr ⟨I.nd, by simp, fun a ha b hb e => by
        simp only [List.mem_singleton] at hb
        subst hb e
        exact I.new x ha⟩
    · have e0 := I.c w t
      rw [cnt3_eq] at e0
      rw [cnt3_eq]
      simp only [hk, List.filter_append, List.length_append, e0, cR_snoc, hx, true_and]
      congr 1
      by_cases h : x.1 = w ∧ x.2.2 = t
      · rw [if_pos h, List.filter_cons_of_pos (by simpa using h)]; rfl
      · rw [if_neg h, List.filter_cons_of_neg (by simpa using h)]; rfl
    · have := congrArg List.length hk
      simp only [List.length_map, List.length_append, List.length_singleton] at this
      simp only [this, I.l, nR_snoc, hx, if_true]
    · simp only [I.w]
      constructor
      · rintro ⟨y, h1, h2, h3⟩; exact ⟨y, by simp [h1], h2, h3⟩
      · rintro ⟨y, h1, h2, h3⟩
        rcases List.mem_append.mp h1 with q | q
        · exact ⟨y, q, h2, h3⟩
        · simp only [List.mem_singleton] at q
          subst q
          exact absurd hx h2
  · rw [if_neg hx]
    refine ⟨fun w t n => ?_, I.nd, fun w t => ?_, ?_, fun t => ?_, ?_⟩
    · simp [I.k, cR_snoc, hx]
    · simp [I.c, cR_snoc, hx]
    · simp [I.l, nR_snoc, hx]
    · simp only [put_keys]
      have e : (∃ y ∈ ls ++ [x], y.2.1 ≠ ("read" : Str) ∧ y.2.2 = t) ↔ (∃ y ∈ ls, y.2.1 ≠ ("read" : Str) ∧ y.2.2 = t) ∨ x.2.2 = t := by
        constructor
        · rintro ⟨y, h1, h2, h3⟩
          rcases List.mem_append.mp h1 with q | q
          · exact .inl ⟨y, q, h2, h3⟩
          · simp only [List.mem_singleton] at q
            subst q
            exact .inr h3
        · rintro (⟨y, h1, h2, h3⟩ | h)
          · exact ⟨y, by simp [h1], h2, h3⟩
          · exact ⟨x, by simp, hx, h⟩
      rw [e]
      split
      · rename_i q
        rw [I.w]
        constructor
        · exact .inl
        · rintro (h | rfl)
          · exact h
          · exact (I.w _).mp q
      · simp only [List.mem_append, List.mem_singleton, I.w]
        constructor
        · rintro (h | rfl)
          · exact .inl h
          · exact .inr rfl
        · rintro (h | rfl)
          · exact .inl h
          · exact .inr rfl
    · simp only [put_keys]
      split
      · exact I.nw
      · rename_i q
        exact List.nodup_append.mpr ⟨I.nw, by simp, fun a ha b hb e => by
          simp only [List.mem_singleton] at hb
          subst hb e
          exact q ha⟩
theorem rds_I (ls : List Ln) : RdI ls (rds ls) := by
  have go : ∀ (suf pre : List Ln) (S : Fd × Wt), RdI pre S → RdI (pre ++ suf) (suf.foldl rd1 S) := by
    intro suf
    induction suf with
    | nil => intro pre S h; simpa using h
    | cons x suf ih =>
      intro pre S h
      have := ih (pre ++ [x]) (rd1 S x) (h.step x)
      simpa using this
  have := go ls [] ([], []) ⟨fun w t n => by simp [cR]; omega, by simp, fun w t => rfl, rfl, fun t => by simp, by simp⟩
  simpa [rds] using this
theorem rds_snoc {ls : List Ln} {x : Ln} : rds (ls ++ [x]) = rd1 (rds ls) x := by simp [rds]
/-- the lines, one work after another -/
def whl (ls : List Ln) (o : List Str) : List Ln := o.flatMap fun w => ls.filter fun l => decide (l.1 = w)
theorem flat_same {α β : Type} {f g : α → List β} : ∀ {o : List α}, (∀ v ∈ o, f v = g v) → o.flatMap f = o.flatMap g
  | [], _ => rfl
  | v :: o, h => by
    rw [List.flatMap_cons, List.flatMap_cons, h v (by simp), flat_same fun u hu => h u (by simp [hu])]
theorem whl_perm : ∀ {o : List Str} {ls : List Ln}, o.Nodup → (∀ l ∈ ls, l.1 ∈ o) → (whl ls o).Perm ls
  | [], ls, _, h => by
    cases ls with
    | nil => exact .refl _
    | cons l ls => exact absurd (h l (by simp)) (by simp)
  | w :: o, ls, hn, h => by
    rw [List.nodup_cons] at hn
    have ih := whl_perm (o := o) (ls := ls.filter fun l => !decide (l.1 = w)) hn.2 fun l hl => by
      obtain ⟨h1, h2⟩ := List.mem_filter.mp hl
      rcases List.mem_cons.mp (h l h1) with q | q
      · simp [q] at h2
      · exact q
    have e : whl (ls.filter fun l => !decide (l.1 = w)) o = whl ls o := by
      unfold whl
      have g : ∀ v ∈ o, ((ls.filter fun l => !decide (l.1 = w)).filter fun l => decide (l.1 = v)) = ls.filter fun l => decide (l.1 = v) := fun v hv => by
        rw [List.filter_filter]
        refine List.filter_congr fun l _ => ?_
        by_cases q : l.1 = v
        · have : l.1 ≠ w := fun z => hn.1 (by rw [← z, q]; exact hv)
          simp [q]
          intro z
          exact this (q.trans z)
        · simp [q]
      exact flat_same g
    rw [e] at ih
    show (ls.filter (fun l => decide (l.1 = w)) ++ whl ls o).Perm ls
    exact (List.Perm.append_left _ ih).trans (List.filter_append_perm _ ls)
end Pf
namespace Pf
open PySem Mi L2
def sameM {κ : Type} [DecidableEq κ] (F G : List (κ × Str)) : Bool := F.length == G.length && F.all fun q => decide (lk G q.1 = some q.2)
theorem lk_nd {κ β : Type} [DecidableEq κ] : ∀ {M : List (κ × β)} {k : κ} {v : β}, (M.map (·.1)).Nodup → (k, v) ∈ M → lk M k = some v
  | [], _, _, _, h => by simp at h
  | q :: M, k, v, hn, h => by
    rw [List.map_cons, List.nodup_cons] at hn
    unfold lk
    rw [List.find?_cons]
    rcases List.mem_cons.mp h with rfl | h
    · simp
    · have : q.1 ≠ k := fun e => hn.1 (e ▸ List.mem_map_of_mem (f := (·.1)) h)
      simp only [this, decide_false]
      exact lk_nd hn.2 h
theorem lk_key {κ β : Type} [DecidableEq κ] {M : List (κ × β)} {k : κ} (h : k ∈ M.map (·.1)) : ∃ v, lk M k = some v := by
  cases e : lk M k with
  | some v => exact ⟨v, rfl⟩
  | none =>
    obtain ⟨q, hq, rfl⟩ := List.mem_map.mp h
    exact absurd rfl (lk_none e q hq)
theorem unlike {κ : Type} [DecidableEq κ] {F G : List (κ × Str)} (hl : F.length = G.length) (h : sameM F G = false) : ∃ q ∈ F, lk G q.1 ≠ some q.2 := by
  unfold sameM at h
  rw [hl, beq_self_eq_true, Bool.true_and] at h
  obtain ⟨q, hq, e⟩ := List.all_eq_false.mp h
  exact ⟨q, hq, by simpa using e⟩
section
variable {ls ls' : List Ln}
theorem cR_perm (p : ls'.Perm ls) {w t : Str} : cR ls' w t = cR ls w t := (p.filter _).length_eq
theorem nR_perm (p : ls'.Perm ls) : nR ls' = nR ls := (p.filter _).length_eq
theorem fk_perm (p : ls'.Perm ls) {k : K3} : k ∈ (rds ls').1.map (·.1) ↔ k ∈ (rds ls).1.map (·.1) := by
  obtain ⟨w, t, n⟩ := k
  rw [(rds_I ls').k, (rds_I ls).k, cR_perm p]
theorem fl_perm (p : ls'.Perm ls) : (rds ls').1.length = (rds ls).1.length := by rw [(rds_I ls').l, (rds_I ls).l, nR_perm p]
theorem wk_perm (p : ls'.Perm ls) {t : Str} : t ∈ (rds ls').2.map (·.1) ↔ t ∈ (rds ls).2.map (·.1) := by
  rw [(rds_I ls').w, (rds_I ls).w]
  exact ⟨fun ⟨x, h1, h2⟩ => ⟨x, p.mem_iff.mp h1, h2⟩, fun ⟨x, h1, h2⟩ => ⟨x, p.mem_iff.mpr h1, h2⟩⟩
theorem wl_perm (p : ls'.Perm ls) : (rds ls').2.length = (rds ls).2.length := by
  have := ((List.perm_ext_iff_of_nodup (rds_I ls').nw (rds_I ls).nw).mpr fun t => wk_perm p).length_eq
  simpa using this
end
theorem rds_len (ls : List Ln) : (rds ls).1.length ≤ ls.length ∧ (rds ls).2.length ≤ ls.length := by
  refine ⟨by rw [(rds_I ls).l]; exact List.length_filter_le .., ?_⟩
  have go : ∀ (suf : List Ln) (S : Fd × Wt), (suf.foldl rd1 S).2.length ≤ S.2.length + suf.length := by
    intro suf
    induction suf with
    | nil => intro S; simp
    | cons x suf ih =>
      intro S
      have := ih (rd1 S x)
      have h2 : (rd1 S x).2.length ≤ S.2.length + 1 := by
        unfold rd1
        split
        · simp
        · have := congrArg List.length (put_keys (M := S.2) (k := x.2.2) (v := x.1))
          simp only [List.length_map] at this
          show (put S.2 x.2.2 x.1).length ≤ _
          rw [this]
          split <;> simp
      simp only [List.foldl_cons, List.length_cons]
      omega
  have := go ls ([], [])
  simpa [rds] using this
theorem put_cons {κ β : Type} [DecidableEq κ] {q : κ × β} {M : List (κ × β)} {k : κ} {v : β} : put (q :: M) k v = if q.1 = k then (q.1, v) :: M else q :: put M k v := by
  unfold put
  rw [List.findIdx?_cons]
  by_cases h : q.1 = k
  · simp [h]
  · simp only [h, decide_false, if_false]
    cases e : M.findIdx? fun q => decide (q.1 = k) with
    | none => simp [e, h]
    | some j => simp [e, h]
theorem lk_put {κ β : Type} [DecidableEq κ] {k k' : κ} {v : β} : ∀ {M : List (κ × β)}, lk (put M k v) k' = if k' = k then some v else lk M k'
  | [] => by
    by_cases h : k = k'
    · subst h; simp [put, lk]
    · have h2 : ¬ k' = k := fun e => h e.symm
      simp [put, lk, h, h2]
  | q :: M => by
    have ih := lk_put (k := k) (k' := k') (v := v) (M := M)
    rw [put_cons]
    unfold lk at ih ⊢
    by_cases h : q.1 = k
    · rw [if_pos h, List.find?_cons, List.find?_cons]
      by_cases h2 : k' = k
      · simp [h, h2]
      · have : ¬ q.1 = k' := fun e => h2 (by rw [← e, h])
        simp [this, h2]
    · rw [if_neg h, List.find?_cons, List.find?_cons]
      by_cases h2 : q.1 = k'
      · have : ¬ k' = k := fun e => h (by rw [h2, e])
        simp [h2, this]
      · simp only [h2, decide_false]
        exact ih
/-! data -/
def lnD (l : Ln) : PyData := .tuple [.str l.1, .str l.2.1, .str l.2.2]
def k3D (k : K3) : PyData := .tuple [.str k.1, .str k.2.1, .int (k.2.2 : Nat)]
theorem enc_k3 : Enc k3D true := ⟨fun k => rfl, fun k => rfl, fun a b h => by
  obtain ⟨a1, a2, a3⟩ := a
  obtain ⟨b1, b2, b3⟩ := b
  simp [k3D, nk, nks] at h
  obtain ⟨h1, h2, h3⟩ := h
  have h3 : a3 = b3 := by omega
  simp [h1, h2, h3]⟩
def fD (F : Fd) : List (PyData × PyData) := dat k3D PyData.str F
def wD (W : Wt) : List (PyData × PyData) := dat PyData.str PyData.str W
def rsD (S : Fd × Wt) : PyData := .tuple [.dict (fD S.1), .dict (wD S.2)]
end Pf
namespace Pf
open PySem Mi L2
abbrev Cn3 := List ((Str × Str) × Int)
def cD (C : Cn3) : List (PyData × PyData) := dat pairD PyData.int C
theorem cD_len {C : Cn3} : (cD C).length = C.length := dat_len
theorem fD_len {F : Fd} : (fD F).length = F.length := dat_len
theorem wD_len {W : Wt} : (wD W).length = W.length := dat_len
theorem cD_fit {C : Cn3} {w t : Str} : kFit (cD C) (.tuple [.str w, .str t]) = true := enc_pair.fit (k := (w, t))
theorem fD_fit {F : Fd} {w t : Str} {n : Nat} : kFit (fD F) (.tuple [.str w, .str t, .int (n : Nat)]) = true := enc_k3.fit (k := (w, t, n))
theorem wD_fit {W : Wt} {t : Str} : kFit (wD W) (.str t) = true := enc_txt.fit
theorem cD_get {C : Cn3} {w t : Str} {d : Int} : dgetD (.dict (cD C)) [.tuple [.str w, .str t], .int d] = some (.int ((lk C (w, t)).getD d)) := by
  have e := enc_pair.lkd (f := PyData.int) (k := (w, t)) (M := C)
  have e2 : lkD (cD C) (.tuple [.str w, .str t]) = (lk C (w, t)).map .int := e
  simp only [dgetD, cD_fit, if_true, e2]
  cases lk C (w, t) <;> rfl
theorem wD_get {W : Wt} {t d : Str} : dgetD (.dict (wD W)) [.str t, .str d] = some (.str ((lk W t).getD d)) := by
  have e := enc_txt.lkd (f := PyData.str) (k := t) (M := W)
  have e2 : lkD (wD W) (.str t) = (lk W t).map .str := e
  simp only [dgetD, wD_fit, if_true, e2]
  cases lk W t <;> rfl
theorem cD_put {C : Cn3} {w t : Str} {v : Int} : putD (cD C) (.tuple [.str w, .str t]) (.int v) = cD (put C (w, t) v) := enc_pair.put (f := PyData.int) (k := (w, t))
theorem fD_put {F : Fd} {w t v : Str} {n : Nat} : putD (fD F) (.tuple [.str w, .str t, .int (n : Nat)]) (.str v) = fD (put F (w, t, n) v) := enc_k3.put (f := PyData.str) (k := (w, t, n))
theorem wD_put {W : Wt} {t v : Str} : putD (wD W) (.str t) (.str v) = wD (put W t v) := enc_txt.put (f := PyData.str) (k := t)
theorem cD_ix {C : Cn3} {w t : Str} {v : Int} : ixD (.dict (cD (put C (w, t) v))) (.tuple [.str w, .str t]) = some (.int v) := enc_pair.ix (f := PyData.int) (k := (w, t)) (by rw [lk_put, if_pos rfl])
theorem put_le {κ β : Type} [DecidableEq κ] {M : List (κ × β)} {k : κ} {v : β} : (put M k v).length ≤ M.length + 1 := by
  have := congrArg List.length (put_keys (M := M) (k := k) (v := v))
  simp only [List.length_map] at this
  rw [this]
  split <;> simp
theorem cnt_lk {ls : List Ln} {C : Cn3} {x : Ln} (hx : x.2.1 = ("read" : Str)) (h : ∀ w t, (lk C (w, t)).getD 0 = (cR ls w t : Int)) :
    ∀ w t, (lk (put C (x.1, x.2.2) ((cR ls x.1 x.2.2 : Int) + 1)) (w, t)).getD 0 = (cR (ls ++ [x]) w t : Int) := fun w t => by
  rw [cR_snoc, lk_put]
  by_cases e : x.1 = w ∧ x.2.2 = t
  · obtain ⟨rfl, rfl⟩ := e
    simp [hx]
  · rw [if_neg (fun q => e (by simpa [eq_comm] using q)), if_neg (fun q => e ⟨q.2.1, q.2.2⟩), h]
    simp
theorem cnt_lk2 {ls : List Ln} {C : Cn3} {x : Ln} (hx : x.2.1 ≠ ("read" : Str)) (h : ∀ w t, (lk C (w, t)).getD 0 = (cR ls w t : Int)) : ∀ w t, (lk C (w, t)).getD 0 = (cR (ls ++ [x]) w t : Int) := fun w t => by
  rw [cR_snoc, if_neg (fun q => hx q.1), h]
  simp
def rdG (ls : List Ln) (pre : List Ln) (g : Gm) : Prop := ∃ (C : Cn3) (c4 c5 c6 : Sl), g = [.dat (.tuple (ls.map lnD)), .own false (.dict (cD C)), .own false (.dict (fD (rds pre).1)), .own false (.dict (wD (rds pre).2)), c4, c5, c6] ∧
  (∀ w t, (lk C (w, t)).getD 0 = (cR pre w t : Int)) ∧ C.length ≤ pre.length
theorem reads_ok {ls : List Ln} (hl : ls.length ≤ 100) {P : PyData → Prop} {X : String → Prop} : okP (m_reads_of [.tuple (ls.map lnD)]) P X ↔ P (rsD (rds ls)) := by
  refine eq_iff (of_okP ?_)
  unfold m_reads_of
  rw [okP_runP]
  refine ⟨rfl, ?_⟩
  unfold b_reads_of
  simp [-in_lst, -in_tup, szl]
  refine svO_map lnD ls (rdG ls) ⟨[], .dead, .dead, .dead, rfl, fun w t => rfl, Nat.le_refl _⟩ ?_ ?_
  · rintro pre x suf e _ ⟨C, c4, c5, c6, rfl, hC, hCl⟩
    have pl : pre.length < 100 := by
      have := congrArg List.length e
      simp at this
      omega
    have r1 := rds_len pre
    by_cases h : x.2.1 = ("read" : Str)
    · have hp := cD_put (C := C) (w := x.1) (t := x.2.2) (v := (cR pre x.1 x.2.2 : Int) + 1)
      have hx := cD_ix (C := C) (w := x.1) (t := x.2.2) (v := (cR pre x.1 x.2.2 : Int) + 1)
      have hf := fD_fit (F := (rds pre).1) (w := x.1) (t := x.2.2) (n := cR pre x.1 x.2.2 + 1)
      have hg := fD_put (F := (rds pre).1) (w := x.1) (t := x.2.2) (n := cR pre x.1 x.2.2 + 1) (v := (lk (rds pre).2 x.2.2).getD "")
      rw [Int.natCast_add] at hf hg
      simp only [Int.cast_ofNat_Int] at hf hg
      simp [-in_lst, -in_tup, lnD, h, cD_get, hC, cD_fit, hp, hx, hf, hg, wD_get, cD_len, fD_len, szl]
      refine ⟨rfl, by omega, rfl, rfl, by omega, put C (x.1, x.2.2) ((cR pre x.1 x.2.2 : Int) + 1), .dat (.str x.1), .dat (.str "read"), .dat (.str x.2.2), ?_, cnt_lk h hC, ?_⟩
      · rw [rds_snoc]
        simp [rd1, h, (rds_I pre).c]
      · have := put_le (M := C) (k := (x.1, x.2.2)) (v := (cR pre x.1 x.2.2 : Int) + 1)
        simp
        omega
    · simp [-in_lst, -in_tup, lnD, h, wD_fit, wD_put, wD_len, szl]
      refine ⟨rfl, by omega, C, .dat (.str x.1), .dat (.str x.2.1), .dat (.str x.2.2), ?_, cnt_lk2 h hC, by simp; omega⟩
      rw [rds_snoc]
      simp [rd1, h]
  · rintro g ⟨C, c4, c5, c6, rfl, hC, hCl⟩
    simp [-in_lst, -in_tup, rsD, szl]
end Pf
namespace Pf
open PySem Mi L2
theorem okC2_flat {α : Type} {vs vs1 : List Nat} {b b1 : PyData → Gm → Option Gm} {tt1 : MM Bool} {te : MM PyData} {mi1 : MM (List PyData)} (e : α → PyData) (F : α → List PyData) {g : Gm} : ∀ {xs : List α} {Q : List PyData → Gm → Prop},
    (∀ x ∈ xs, ∀ R : List PyData → Gm → Prop, (∀ g4, wipeG g4 vs = g → R (F x) g4) → okO (b (e x) g) fun g1 => ev mi1 g1 (fun es g3 => okC (compL vs1 b1 tt1 te es (wipeG g3 vs1)) R) noX) → Q (xs.flatMap F) g → okC (compL2 vs vs1 b yesM mi1 b1 tt1 te (xs.map e) g) Q
  | [], Q, _, hQ => by
    rw [List.map_nil, okC2_nil]
    exact hQ
  | x :: xs, Q, h, hQ => by
    rw [List.map_cons, okC2_cons]
    have q := h x (by simp) (fun zs g4 => okC (compL2 vs vs1 b yesM mi1 b1 tt1 te (xs.map e) (wipeG g4 vs)) fun zs' g5 => Q (zs ++ zs') g5) fun g4 e4 => by
      show okC _ _
      rw [e4]
      refine okC2_flat e F (fun y hy => h y (by simp [hy])) ?_
      rw [List.flatMap_cons] at hQ
      exact hQ
    refine okO_imp q fun g1 h1 => ?_
    show ev (Mi.ret true) g1 _ _
    rw [ev_ret, if_pos rfl]
    exact h1
theorem fD_keys {F : Fd} : (fD F).map (·.1) = F.map fun q => k3D q.1 := by
  unfold fD dat
  rw [List.map_map]
  rfl
theorem whl_map {ls : List Ln} {o : List Str} : (o.flatMap fun w => (ls.filter fun l => decide (l.1 = w)).map lnD) = (whl ls o).map lnD := by
  unfold whl
  rw [List.map_flatMap]
theorem whl_snoc {ls : List Ln} {o : List Str} {w : Str} : whl ls (o ++ [w]) = whl ls o ++ ls.filter fun l => decide (l.1 = w) := by
  unfold whl
  rw [List.flatMap_append]
  simp
theorem whl_pre {ls : List Ln} {a b : List Str} : (whl ls a).length ≤ (whl ls (a ++ b)).length := by
  unfold whl
  rw [List.flatMap_append, List.length_append]
  omega
def lwG (ls : List Ln) (o pre : List Str) (g : Gm) : Prop := ∃ c3 : Sl, g = [.dat (.tuple (ls.map lnD)), .dat (.tuple (txs o)), .dat (.list ((whl ls pre).map lnD)), c3, .dead]
def lrG (d : PyData) (pre : List Ln) (g : Gm) : Prop := ∃ (c3 c4 c5 c6 : Sl), g = [.dat d, .own false (.dict (fD (rds pre).1)), .own false (.dict (wD (rds pre).2)), c3, c4, c5, c6, .dead]
theorem lreads_ok {c : List PyData → PyData} (hc : c = .list ∨ c = .tuple) {ls : List Ln} (hl : ls.length ≤ 100) {P : PyData → Prop} {X : String → Prop} : okP (m__law_reads [c (ls.map lnD)]) P X ↔ P (rsD (rds ls)) := by
  refine eq_iff (of_okP ?_)
  unfold m__law_reads
  rw [okP_runP]
  refine ⟨rfl, ?_⟩
  unfold b__law_reads
  have it : itemsD (c (ls.map lnD)) = some (ls.map lnD) := by rcases hc with rfl | rfl <;> rfl
  simp [-in_lst, -in_tup, szl, it]
  refine svO_map lnD ls (lrG (c (ls.map lnD))) ⟨.dead, .dead, .dead, .dead, rfl⟩ ?_ ?_
  · rintro pre x suf e _ ⟨c3, c4, c5, c6, rfl⟩
    have pl : pre.length < 100 := by
      have := congrArg List.length e
      simp at this
      omega
    have r1 := rds_len pre
    by_cases h : x.2.1 = ("read" : Str)
    · have hf := fD_fit (F := (rds pre).1) (w := x.1) (t := x.2.2) (n := cR pre x.1 x.2.2 + 1)
      have hg := fD_put (F := (rds pre).1) (w := x.1) (t := x.2.2) (n := cR pre x.1 x.2.2 + 1) (v := (lk (rds pre).2 x.2.2).getD "")
      rw [Int.natCast_add] at hf hg
      simp only [Int.cast_ofNat_Int] at hf hg
      simp [-in_lst, -in_tup, lnD, h, fD_keys, fD_len, szl, wipeG]
      refine ⟨by omega, okC_filA (fun q : K3 × Str => k3D q.1) (fun q => k3D q.1) (fun q => decide (q.1.1 = x.1 ∧ q.1.2.1 = x.2.2)) (fun q hq => ?_) ?_⟩
      · simp [-in_lst, -in_tup, k3D, wipeG, szl]
        rw [show cutD [PyData.str q.1.1, PyData.str q.1.2.1, PyData.int (q.1.2.2 : Nat)] none (some 2) = [.str q.1.1, .str q.1.2.1] from rfl, eq_any]
        refine ⟨rfl, ?_⟩
        simp [PyData.eqv, PyData.eqvAll, beq_dec]
      · have c3e : (List.filter (fun q : K3 × Str => decide (q.1.1 = x.1) && decide (q.1.2.1 = x.2.2)) (rds pre).1).length = cR pre x.1 x.2.2 := by
          rw [← (rds_I pre).c]
          unfold cnt3
          simp
        simp [-in_lst, -in_tup, wipeG, szl]
        rw [c3e, Int.add_comm 1 _]
        simp [-in_lst, -in_tup, wD_get, hf, hg, fD_len]
        refine ⟨rfl, rfl, by omega, .dat (.str x.1), .dat (.str "read"), .dat (.str x.2.2), .dat (.int ((cR pre x.1 x.2.2 : Int) + 1)), ?_⟩
        rw [rds_snoc]
        simp [rd1, h, (rds_I pre).c]
    · simp [-in_lst, -in_tup, lnD, h, wD_fit, wD_put, wD_len, szl]
      refine ⟨rfl, by omega, .dat (.str x.1), .dat (.str x.2.1), .dat (.str x.2.2), c6, ?_⟩
      rw [rds_snoc]
      simp [rd1, h]
  · rintro g ⟨c3, c4, c5, c6, rfl⟩
    simp [-in_lst, -in_tup, rsD, szl]
theorem whole_ok2 {ls : List Ln} {o : List Str} (hl : ls.length ≤ 100) (ho : (whl ls o).length ≤ 100) (hol : o.length ≤ 100) {P : PyData → Prop} {X : String → Prop} : okP (m_whole_order [.tuple (ls.map lnD), .tuple (txs o)]) P X ↔ P (.tuple ((whl ls o).map lnD)) := by
  refine eq_iff (of_okP ?_)
  unfold m_whole_order
  rw [okP_runP]
  refine ⟨rfl, ?_⟩
  unfold b_whole_order
  simp [-in_lst, -in_tup, szl]
  refine okC2_flat (xs := o) PyData.str (fun w => (ls.filter fun l => decide (l.1 = w)).map lnD) (fun w hw R hR => ?_) ?_
  · simp [-in_lst, -in_tup, wipeG, szl]
    refine okC_filA lnD lnD (fun l => decide (l.1 = w)) (fun l hl => ?_) ?_
    · simp [-in_lst, -in_tup, lnD, wipeG]
      exact beq_dec _ _
    · exact hR _ (by simp [wipeG])
  · have e := whl_map (ls := ls) (o := o)
    rw [e]
    simp
    omega
theorem lwhole_ok {ls : List Ln} {o : List Str} (hl : ls.length ≤ 100) (ho : (whl ls o).length ≤ 100) (hol : o.length ≤ 100) {P : PyData → Prop} {X : String → Prop} : okP (m__law_whole [.tuple (ls.map lnD), .tuple (txs o)]) P X ↔ P (.list ((whl ls o).map lnD)) := by
  refine eq_iff (of_okP ?_)
  unfold m__law_whole
  rw [okP_runP]
  refine ⟨rfl, ?_⟩
  unfold b__law_whole
  simp [-in_lst, -in_tup, szl]
  refine svO_map PyData.str o (lwG ls o) ⟨_, rfl⟩ ?_ ?_
  · rintro pre w suf e _ ⟨c3, rfl⟩
    have l1 : (whl ls (pre ++ [w])).length ≤ 100 := by
      have := whl_pre (ls := ls) (a := pre ++ [w]) (b := suf)
      rw [show (pre ++ [w]) ++ suf = o by rw [e]; simp] at this
      omega
    have l2 := l1
    rw [whl_snoc, List.length_append] at l2
    simp [-in_lst, -in_tup, wipeG, szl]
    refine ⟨by omega, okC_filA lnD lnD (fun l => decide (l.1 = w)) (fun l hl => ?_) ?_⟩
    · simp [-in_lst, -in_tup, lnD, wipeG]
      exact beq_dec _ _
    · simp [-in_lst, -in_tup, wipeG, szl]
      exact ⟨by omega, .dat (.str w), by rw [whl_snoc, List.map_append]⟩
  · rintro g ⟨c3, rfl⟩
    simp [-in_lst, -in_tup]
end Pf
namespace Pf
open PySem Mi L2
def rowT (r : List Str) : PyData := .tuple (txs r)
def nxt (ns r : List Str) : List (List Str) := (ns.filter fun n => !decide (n ∈ r)).map fun n => r ++ [n]
def ordsF (ns : List Str) : Nat → List (List Str)
  | 0 => [[]]
  | k + 1 => (ordsF ns k).flatMap (nxt ns)
def ords (ns : List Str) : List (List Str) := ordsF ns ns.length
theorem ordsF_len {ns : List Str} (h : ns.length ≤ 3) : ∀ k, (ordsF ns k).length ≤ 3 ^ k
  | 0 => by simp [ordsF]
  | k + 1 => by
    have ih := ordsF_len h k
    have : ∀ (rs : List (List Str)), (rs.flatMap (nxt ns)).length ≤ rs.length * 3 := by
      intro rs
      induction rs with
      | nil => simp
      | cons r rs ih =>
        rw [List.flatMap_cons, List.length_append, List.length_cons]
        have : (nxt ns r).length ≤ ns.length := by
          unfold nxt
          rw [List.length_map]
          exact List.length_filter_le ..
        omega
    have q := this (ordsF ns k)
    show ((ordsF ns k).flatMap (nxt ns)).length ≤ _
    rw [Nat.pow_succ]
    omega
theorem ords_mem {ns : List Str} : ∀ {k : Nat} {r : List Str}, r ∈ ordsF ns k → r.Nodup ∧ r.length = k ∧ ∀ x ∈ r, x ∈ ns
  | 0, r, h => by
    simp only [ordsF, List.mem_singleton] at h
    subst h
    simp
  | k + 1, r, h => by
    obtain ⟨r0, h0, h1⟩ := List.mem_flatMap.mp h
    obtain ⟨n, hn, rfl⟩ := List.mem_map.mp h1
    obtain ⟨hn1, hn2⟩ := List.mem_filter.mp hn
    obtain ⟨i1, i2, i3⟩ := ords_mem h0
    have hn2 : n ∉ r0 := by simpa using hn2
    refine ⟨List.nodup_append.mpr ⟨i1, by simp, fun a ha b hb e => ?_⟩, by simp [i2], fun x hx => ?_⟩
    · simp only [List.mem_singleton] at hb
      subst hb e
      exact hn2 ha
    · rcases List.mem_append.mp hx with q | q
      · exact i3 x q
      · simp only [List.mem_singleton] at q
        subst q
        exact hn1
theorem ords_perm {ns r : List Str} (hn : ns.Nodup) (h : r ∈ ords ns) : r.Perm ns := by
  obtain ⟨h1, h2, h3⟩ := ords_mem h
  refine (List.perm_ext_iff_of_nodup h1 hn).mpr fun x => ⟨h3 x, fun hx => ?_⟩
  by_cases q : x ∈ r
  · exact q
  · have := Tn.nd_subG (xs := x :: r) (ys := ns) (List.nodup_cons.mpr ⟨q, h1⟩) fun y hy => by
      rcases List.mem_cons.mp hy with rfl | hy
      · exact hx
      · exact h3 y hy
    simp only [List.length_cons] at this
    omega
theorem nxt_map {ns r : List Str} : ((ns.filter fun n => !decide (n ∈ r)).map fun n => rowT (r ++ [n])) = (nxt ns r).map rowT := by
  unfold nxt
  rw [List.map_map]
  rfl
def orG (ns : List Str) (pre : List Str) (g : Gm) : Prop := ∃ c2 : Sl, g = [.dat (.list (txs ns)), .dat (.list ((ordsF ns pre.length).map rowT)), c2, .dead, .dead]
theorem orders_ok {ns : List Str} (h3 : ns.length ≤ 3) {P : PyData → Prop} {X : String → Prop} : okP (m_orders [.list (txs ns)]) P X ↔ P (.list ((ords ns).map rowT)) := by
  refine eq_iff (of_okP ?_)
  unfold m_orders
  rw [okP_runP]
  refine ⟨rfl, ?_⟩
  unfold b_orders
  simp [-in_lst, -in_tup, szl]
  refine svO_map PyData.str ns (orG ns) ⟨.dead, rfl⟩ ?_ ?_
  · rintro pre w suf e _ ⟨c2, rfl⟩
    have pl : pre.length ≤ 2 := by
      have := congrArg List.length e
      simp at this
      omega
    have l1 := ordsF_len h3 pre.length
    have l2 := ordsF_len h3 (pre.length + 1)
    have p1 : 3 ^ pre.length ≤ 3 ^ 2 := Nat.pow_le_pow_right (by omega) pl
    have p2 : 3 ^ (pre.length + 1) ≤ 3 ^ 3 := Nat.pow_le_pow_right (by omega) (by omega)
    simp [-in_lst, -in_tup, wipeG, szl]
    refine okC2_flat (xs := ordsF ns pre.length) rowT (fun r => (nxt ns r).map rowT) (fun r hr R hR => ?_) ?_
    · simp [-in_lst, -in_tup, wipeG, szl, rowT]
      refine okC_filA PyData.str (fun n => rowT (r ++ [n])) (fun n => !decide (n ∈ r)) (fun n hn => ?_) ?_
      · simp [-in_lst, -in_tup, wipeG, szl]
        rw [in_txs (.inr rfl)]
        refine ⟨by simp, fun _ => ⟨by rw [txs_len]; have := (ords_mem hr).2.1; omega, by simp [rowT, txs]⟩⟩
      · rw [nxt_map]
        exact hR _ (by simp [wipeG, rowT])
    · rw [← List.map_flatMap]
      have l3 : ((ordsF ns pre.length).flatMap (nxt ns)).length ≤ 3 ^ (pre.length + 1) := l2
      refine ⟨by rw [List.length_map]; omega, .dat (.str w), ?_⟩
      rw [List.length_append]
      rfl
  · rintro g ⟨c2, rfl⟩
    simp [-in_lst, -in_tup]
    rfl
def loG (ns : List Str) (pre : List Str) (g : Gm) : Prop := ∃ c2 c3 c4 : Sl, g = [.dat (.list (txs ns)), .dat (.list ((ordsF ns pre.length).map rowT)), c2, c3, c4, .dead]
def loH (ns : List Str) (k : Nat) (w : Str) (pre : List (List Str)) (g : Gm) : Prop := ∃ c4 : Sl, g = [.dat (.list (txs ns)), .dat (.list ((ordsF ns k).map rowT)), .dat (.str w), .dat (.list ((pre.flatMap (nxt ns)).map rowT)), c4, .dead]
theorem lorders_ok {ns : List Str} (h3 : ns.length ≤ 3) {P : PyData → Prop} {X : String → Prop} : okP (m__law_orders [.list (txs ns)]) P X ↔ P (.list ((ords ns).map rowT)) := by
  refine eq_iff (of_okP ?_)
  unfold m__law_orders
  rw [okP_runP]
  refine ⟨rfl, ?_⟩
  unfold b__law_orders
  simp [-in_lst, -in_tup, szl]
  refine svO_map PyData.str ns (loG ns) ⟨.dead, .dead, .dead, rfl⟩ ?_ ?_
  · rintro pre w suf e _ ⟨c2, c3, c4, rfl⟩
    have pl : pre.length ≤ 2 := by
      have := congrArg List.length e
      simp at this
      omega
    have l1 := ordsF_len h3 pre.length
    have l2 := ordsF_len h3 (pre.length + 1)
    have p1 : 3 ^ pre.length ≤ 3 ^ 2 := Nat.pow_le_pow_right (by omega) pl
    have p2 : 3 ^ (pre.length + 1) ≤ 3 ^ 3 := Nat.pow_le_pow_right (by omega) (by omega)
    simp [-in_lst, -in_tup, wipeG, szl]
    refine svO_map rowT (ordsF ns pre.length) (loH ns pre.length w) ⟨c4, rfl⟩ ?_ ?_
    · rintro pre2 r suf2 e2 _ ⟨c4, rfl⟩
      have hr : r ∈ ordsF ns pre.length := by rw [e2]; simp
      have l4 : ((pre2 ++ [r]).flatMap (nxt ns)).length ≤ 3 ^ (pre.length + 1) := by
        have e5 : (ordsF ns pre.length).flatMap (nxt ns) = (pre2 ++ [r]).flatMap (nxt ns) ++ suf2.flatMap (nxt ns) := by
          rw [← List.flatMap_append]
          rw [e2]
          simp
        have e6 : ((ordsF ns pre.length).flatMap (nxt ns)).length ≤ 3 ^ (pre.length + 1) := l2
        rw [e5, List.length_append] at e6
        omega
      simp [-in_lst, -in_tup, wipeG, szl, rowT]
      refine ⟨by rw [txs_len]; omega, okC_filA PyData.str (fun n => rowT (r ++ [n])) (fun n => !decide (n ∈ r)) (fun n hn => ?_) ?_⟩
      · simp [-in_lst, -in_tup, wipeG, szl]
        rw [in_txs (.inr rfl)]
        refine ⟨by simp, fun _ => ⟨by rw [txs_len]; have := (ords_mem hr).2.1; omega, by simp [rowT, txs]⟩⟩
      · rw [nxt_map]
        rw [List.flatMap_append, List.length_append] at l4
        simp only [List.flatMap_cons, List.flatMap_nil, List.append_nil] at l4
        simp [-in_lst, -in_tup, -List.length_flatMap, wipeG, szl]
        refine ⟨by omega, .dat (.tuple (txs r)), ?_⟩
        rw [List.flatMap_append]
        simp [rowT]
    · rintro g ⟨c4, rfl⟩
      simp [-in_lst, -in_tup]
      exact ⟨_, _, _, by rw [List.length_append]; rfl⟩
  · rintro g ⟨c2, c3, c4, rfl⟩
    simp [-in_lst, -in_tup]
    rfl
end Pf
namespace Pf
open PySem Mi L2
theorem ssX_txs {c : List PyData → PyData} {xs : List Str} (hc : c = .list ∨ c = .tuple) (h : (Ts.dd xs).length < 64) : sortSetX (c (txs xs)) = some (.list (txs (Ts.srt (Ts.dd xs)))) := by
  have : sortSetG (c (txs xs)) = some (.list (txs (Ts.srt (Ts.dd xs)))) := sortSetG_strs (by rcases hc with rfl | rfl <;> rfl) h
  unfold sortSetX
  rw [this]
theorem fst_map {ls : List Ln} : (ls.map fun l => PyData.str l.1) = txs (ls.map (·.1)) := by simp [txs]
theorem dd_small {ls : List Ln} (h : ls.length ≤ 7) : (Ts.dd (ls.map (·.1))).length < 64 := by
  have := Ts.dd_len (ls.map (·.1))
  simp only [List.length_map] at this
  omega
def works (ls : List Ln) : List Str := Ts.srt (Ts.dd (ls.map (·.1)))
structure HW (ls : List Ln) : Prop where
  l : ls.length ≤ 7
  d : ∀ x ∈ ls, x.2.1 = ("read" : Str) ∨ x.2.1 = ("write" : Str)
  w : ∀ x ∈ ls, x.1 ∈ ([("t" : Str), ("u2" : Str), ("v" : Str)] : List Str)
theorem works_nd (ls : List Ln) : (works ls).Nodup := nd_srt (nd_dd _)
theorem works_mem {ls : List Ln} {w : Str} : w ∈ works ls ↔ ∃ l ∈ ls, l.1 = w := by
  unfold works
  rw [mem_srt, mem_dd, List.mem_map]
theorem HW.k {ls : List Ln} (h : HW ls) : (works ls).length ≤ 3 := Tn.nd_subG (ys := [("t" : Str), ("u2" : Str), ("v" : Str)]) (works_nd ls) fun w hw => by
  obtain ⟨l, hl, rfl⟩ := works_mem.mp hw
  exact h.w l hl
theorem whl_ok {ls : List Ln} {o : List Str} (p : o.Perm (works ls)) : (whl ls o).Perm ls := whl_perm (p.nodup_iff.mpr (works_nd ls)) fun l hl => p.mem_iff.mpr (works_mem.mpr ⟨l, hl, rfl⟩)
def hiG (ls : List Ln) (pre : List Ln) (g : Gm) : Prop := ∃ c1 : Sl, g = [.dat (.tuple (ls.map lnD)), c1, .dead]
theorem hist_ok {ls : List Ln} (h : HW ls) {P : PyData → Prop} {X : String → Prop} : okP (m_check_history [.tuple (ls.map lnD)]) P X ↔ P (.list (txs (works ls))) := by
  refine eq_iff (of_okP ?_)
  unfold m_check_history
  rw [okP_runP]
  refine ⟨rfl, ?_⟩
  unfold b_check_history
  have hl := h.l
  simp [-in_lst, -in_tup, szl]
  refine svO_map lnD ls (hiG ls) ⟨.dead, rfl⟩ ?_ ?_
  · rintro pre x suf e _ ⟨c1, rfl⟩
    have hx : x ∈ ls := by rw [e]; simp
    have e3 : inD id (.bool false) (.list [.bool true, .bool true, .bool true]) = some (.bool false) := rfl
    simp [-in_lst, -in_tup, szl, lnD, wipeG, okC_cons, isaD, yesM, e3]
    show okO (inD not (.str x.2.1) (.tuple (txs [("read" : Str), ("write" : Str)]))) _
    rw [in_txs (.inr rfl)]
    refine ⟨?_, _, rfl⟩
    rcases h.d x hx with q | q <;> rw [q] <;> rfl
  · rintro g ⟨c1, rfl⟩
    simp [-in_lst, -in_tup, szl, wipeG]
    refine ⟨by omega, by omega, okC_mapA lnD (fun l => .str l.1) (fun l hl => ?_) ?_⟩
    · simp [lnD, wipeG]
    · rw [fst_map, ssX_txs (.inl rfl) (dd_small h.l)]
      rfl
theorem lworks_ok {ls : List Ln} (h : HW ls) {P : PyData → Prop} {X : String → Prop} : okP (m__law_works [.tuple (ls.map lnD)]) P X ↔ P (.list (txs (works ls))) := by
  refine eq_iff (of_okP ?_)
  unfold m__law_works
  rw [okP_runP]
  refine ⟨rfl, ?_⟩
  unfold b__law_works
  have hl := h.l
  simp [-in_lst, -in_tup, szl, wipeG]
  refine ⟨by omega, okC_mapA lnD (fun l => .str l.1) (fun l hl => ?_) ?_⟩
  · simp [lnD, wipeG]
  · rw [fst_map, ssX_txs (.inl rfl) (dd_small h.l)]
    rfl
end Pf
namespace Pf
open PySem Mi L2
def sameR (S T : Fd × Wt) : Bool := sameM S.1 T.1 && sameM S.2 T.2
theorem sameDD_dat {κ : Type} [DecidableEq κ] {enc : κ → PyData} {t : Bool} (E : Enc enc t) {F G : List (κ × Str)} : sameDD (dat enc PyData.str F) (dat enc PyData.str G) = sameM F G := by
  unfold sameDD sameM
  rw [dat_len, dat_len]
  congr 1
  unfold dat
  rw [List.all_map]
  congr 1
  funext q
  show (match lkD (dat enc PyData.str G) (enc q.1) with | some z => PyData.eqv (.str q.2) z | none => false) = _
  rw [E.lkd]
  cases lk G q.1 with
  | none => simp
  | some v => simp [PyData.eqv, beq_dec, eq_comm]
theorem okDD_dat {κ : Type} [DecidableEq κ] {enc : κ → PyData} {t : Bool} (E : Enc enc t) {F G : List (κ × Str)} : okDD (dat enc PyData.str F) (dat enc PyData.str G) = true := by
  unfold okDD
  refine List.all_eq_true.mpr fun p hp => ?_
  obtain ⟨q, hq, rfl⟩ := List.mem_map.mp hp
  simp only [Bool.and_eq_true]
  exact ⟨E.fit, rfl, rfl⟩
theorem eq_rsD {S T : Fd × Wt} : eqPD (rsD S) (rsD T) = some (.bool (sameR S T)) := by
  have e1 := okDD_dat enc_k3 (F := S.1) (G := T.1)
  have e2 := okDD_dat enc_txt (F := S.2) (G := T.2)
  have e3 := sameDD_dat enc_k3 (F := S.1) (G := T.1)
  have e4 := sameDD_dat enc_txt (F := S.2) (G := T.2)
  show (if (okDD (fD S.1) (fD T.1) && okDD (wD S.2) (wD T.2)) = true then some (PyData.bool (sameDD (fD S.1) (fD T.1) && sameDD (wD S.2) (wD T.2))) else none) = _
  unfold fD wD
  rw [e1, e2, e3, e4]
  rfl
theorem same_reads_ok {ls ls' : List Ln} (hl : ls.length ≤ 100) (hl' : ls'.length ≤ 100) {P : PyData → Prop} {X : String → Prop} : okP (m_same_reads [.tuple (ls.map lnD), .tuple (ls'.map lnD)]) P X ↔ P (.bool (sameR (rds ls) (rds ls'))) := by
  unfold m_same_reads
  rw [okP_runP]
  unfold b_same_reads
  have r1 := fun {P : PyData → Prop} {X : String → Prop} => reads_ok hl (P := P) (X := X)
  have r2 := fun {P : PyData → Prop} {X : String → Prop} => reads_ok hl' (P := P) (X := X)
  simp [-in_lst, -in_tup, r1, r2, eq_rsD]
/-! entries -/
def ewB (zs : List PyData) : Bool := zs.all fun z => isaD "str" z || whB z
def neK (D D' : List (PyData × PyData)) (k : PyData) : Bool := match lkD D k, lkD D' k with
  | some a, some b => !PyData.eqv a b
  | _, _ => false
def entC (S T : Fd × Wt) : List PyData → Bool
  | [z] => hasD (wD S.2) z && neK (wD S.2) (wD T.2) z
  | zs => hasD (fD S.1) (.tuple zs) && neK (fD S.1) (fD T.1) (.tuple zs)
theorem find_same {κ : Type} [DecidableEq κ] {enc : κ → PyData} {t : Bool} (E : Enc enc t) {F : List (κ × Str)} {k : PyData} (h : hasD (dat enc PyData.str F) k = true) : ∃ q ∈ F, nk (enc q.1) = nk k := by
  unfold hasD dat at h
  rw [List.any_map] at h
  obtain ⟨q, hq, e⟩ := List.any_eq_true.mp h
  exact ⟨q, hq, by simpa using e⟩
theorem lk_same {κ : Type} [DecidableEq κ] {enc : κ → PyData} {t : Bool} (E : Enc enc t) {G : List (κ × Str)} {k : PyData} {q : κ} (e : nk (enc q) = nk k) : lkD (dat enc PyData.str G) k = (lk G q).map PyData.str := by
  rw [← E.lkd]
  unfold lkD
  rw [e]
theorem kf_dat {κ : Type} [DecidableEq κ] {enc : κ → PyData} {t : Bool} (E : Enc enc t) {F : List (κ × Str)} {k : PyData} (h1 : keyOk k = true) (h2 : isTupD k = t) : kFit (dat enc PyData.str F) k = true := by
  unfold kFit
  rw [h1, Bool.true_and]
  refine List.all_eq_true.mpr fun p hp => ?_
  obtain ⟨q, hq, rfl⟩ := List.mem_map.mp hp
  show (isTupD (enc q.1) == isTupD k) = true
  rw [E.tp, h2]
  simp
theorem enc_in {ds : List (PyData × PyData)} {k : PyData} {g : Bool → Bool} (kf : kFit ds k = true) : inD g k (.dict ds) = some (.bool (g (hasD ds k))) := by
  show (if kFit ds k = true then some (PyData.bool (g (hasD ds k))) else none) = _
  rw [if_pos kf]
theorem enc_ix2 {κ : Type} [DecidableEq κ] {enc : κ → PyData} {t : Bool} (E : Enc enc t) {F G : List (κ × Str)} {k : PyData} (h : hasD (dat enc PyData.str F) k = true) (h1 : keyOk k = true) (h2 : isTupD k = t) (hk : ∀ q ∈ F.map (·.1), q ∈ G.map (·.1)) :
    ∃ a b, ixD (.dict (dat enc PyData.str F)) k = some (.str a) ∧ ixD (.dict (dat enc PyData.str G)) k = some (.str b) ∧ neK (dat enc PyData.str F) (dat enc PyData.str G) k = !decide (a = b) := by
  obtain ⟨q, hq, e⟩ := find_same E h
  have m1 : q.1 ∈ F.map (·.1) := List.mem_map_of_mem hq
  obtain ⟨a, ha⟩ := lk_key m1
  obtain ⟨b, hb⟩ := lk_key (hk _ m1)
  have ea := lk_same E (G := F) e
  have eb := lk_same E (G := G) e
  rw [ha] at ea
  rw [hb] at eb
  refine ⟨a, b, ?_, ?_, ?_⟩
  · unfold ixD
    simp [kf_dat E h1 h2, ea]
  · unfold ixD
    simp [kf_dat E h1 h2, eb]
  · unfold neK
    rw [ea, eb]
    simp [PyData.eqv, beq_dec]
theorem leaf_key {z : PyData} (h : (isaD "str" z || whB z) = true) : keyOk z = true ∧ isTupD z = false := by
  cases z <;> first | exact ⟨rfl, rfl⟩ | (simp [isaD, typeD, whB] at h)
theorem tup_key {zs : List PyData} (h : ewB zs = true) : keyOk (.tuple zs) = true ∧ isTupD (.tuple zs) = true := by
  refine ⟨?_, rfl⟩
  have go : ∀ zs : List PyData, ewB zs = true → ∃ ks, nks zs = some ks ∧ NestedKey.depthAll ks ≤ 1 := by
    intro zs
    induction zs with
    | nil => exact fun _ => ⟨[], rfl, by simp [NestedKey.depthAll]⟩
    | cons z zs ih =>
      intro h
      unfold ewB at h
      rw [List.all_cons, Bool.and_eq_true] at h
      obtain ⟨ks, e1, e2⟩ := ih h.2
      have hz := h.1
      cases z with
      | str x => exact ⟨.text x :: ks, by simp [nks, nk, e1], by simpa [NestedKey.depthAll, NestedKey.depth] using e2⟩
      | int i => exact ⟨.num i :: ks, by simp [nks, nk, e1], by simpa [NestedKey.depthAll, NestedKey.depth] using e2⟩
      | _ => simp [isaD, typeD, whB] at hz
  obtain ⟨ks, e1, e2⟩ := go zs h
  unfold keyOk nk
  rw [e1]
  simp [NestedKey.depth]
  omega
end Pf
namespace Pf
open PySem Mi L2
def entB (ls : List Ln) (e : PyData) (o : List Str) : Bool := match e with
  | .tuple zs => ewB zs && entC (rds ls) (rds (whl ls o)) zs
  | _ => false
def ordB (ls : List Ln) (o : List Str) : Bool := decide (Ts.srt o = works ls) && sameR (rds ls) (rds (whl ls o))
def accB (ls : List Ln) (d : PyData) : Bool :=
  if hdB "order" 2 d = true then (match d with
    | .tuple [_, y] => txB y && (match txtD y with | some o => ordB ls o | none => false)
    | _ => false)
  else if hdB "never" 2 d = true then (match d with
    | .tuple [_, .tuple es] => decide (es.length = (ords (works ls)).length) && (es.zip (ords (works ls))).all fun p => entB ls p.1 p.2
    | _ => false)
  else false
theorem txt_txs {c : List PyData → PyData} {o : List Str} (hc : c = .list ∨ c = .tuple := by first | exact .inl rfl | exact .inr rfl) : txtD (c (txs o)) = some o := by
  have e : strsOf (txs o) = some o := by
    induction o with
    | nil => rfl
    | cons x o ih =>
      show strsOf (.str x :: txs o) = _
      simp [strsOf, ih]
  rcases hc with rfl | rfl <;> simp [txtD, sqO, e]
def pT (p : PyData × List Str) : PyData := .tuple [p.1, rowT p.2]
def jeG (ls : List Ln) (d : PyData) (g : Gm) : Prop := ∃ c5 c6 c7 c8 : Sl, g = [.dat (.tuple (ls.map lnD)), .dat d, .dat (.list (txs (works ls))), .dat (.dict (fD (rds ls).1)), .dat (.dict (wD (rds ls).2)), c5, c6, c7, c8, .dead, .dead]
theorem judge_ok {ls : List Ln} (h : HW ls) {d : PyData} (hz : Zd 10 d) {P : PyData → Prop} {X : String → Prop} : okP (m_judge_alike_reads [.tuple (ls.map lnD), d]) P X ↔ P (.bool (accB ls d)) := by
  refine eq_iff (of_okP ?_)
  unfold m_judge_alike_reads
  rw [okP_runP]
  refine ⟨rfl, ?_⟩
  unfold b_judge_alike_reads
  have hk := h.k
  have hi := fun {P : PyData → Prop} {X : String → Prop} => hist_ok h (P := P) (X := X)
  have or := fun {P : PyData → Prop} {X : String → Prop} => orders_ok hk (P := P) (X := X)
  have to : ∀ {w : Str} {P : PyData → Prop} {X : String → Prop}, okP (m_is_told [d, .str w, .int 2]) P X ↔ P (.bool (hdB w 2 d)) := fun {w P X} => told_ok (n := 2) (by decide)
  simp [-in_lst, -in_tup, szl, hi, to, or, txs_len]
  try refine ⟨by omega, ?_⟩
  by_cases h1 : hdB "order" 2 d = true
  · obtain ⟨y, rfl⟩ := hd_pair h1
    unfold accB
    have hy : Zd 9 y := hz.2 y (by simp)
    simp [-in_lst, -in_tup, h1]
    cases y with
    | tuple zs =>
      have hl := tup_len hy
      simp [-in_lst, -in_tup, szl, wipeG]
      refine ⟨by omega, okC_map (fun z => .bool (isaD "str" z)) (fun z hz => ?_) ?_⟩
      · simp [wipeG]
      · simp only [ff_in]
        by_cases tx : txB (.tuple zs) = true
        · obtain ⟨o, e⟩ := tx_tup tx
          cases e
          have e1 : ((txs o).any fun z => !isaD "str" z) = false := by
            simp [txs, isaD, typeD]
          have e2 : txtD (.tuple (txs o)) = some o := txt_txs
          have sg := sortG_txs (c := .tuple) (xs := o) (.inr rfl)
          have hls := h.l
          simp [-in_lst, -in_tup, e1, e2, tx, sg, eq_txs, ordB]
          by_cases hs : Ts.srt o = works ls
          · have pm : o.Perm (works ls) := hs ▸ (Ts.srt_perm o).symm
            have wl := (whl_ok pm).length_eq
            have ol := pm.length_eq
            have w2 := fun {P : PyData → Prop} {X : String → Prop} => whole_ok2 (ls := ls) (o := o) (by omega) (by omega) (by omega) (P := P) (X := X)
            have w3 := fun {P : PyData → Prop} {X : String → Prop} => same_reads_ok (ls := ls) (ls' := whl ls o) (by omega) (by omega) (P := P) (X := X)
            simp [-in_lst, -in_tup, hs, w2, w3]
          · simp [hs]
        · have e1 : (zs.any fun z => !isaD "str" z) = true := by
            have : zs.all (isaD "str") = false := by simpa [txB] using tx
            rw [List.all_eq_not_any_not] at this
            simpa using this
          simp [e1, tx]
    | _ => simp [txB]
  · by_cases h2 : hdB "never" 2 d = true
    · obtain ⟨y, rfl⟩ := hd_pair h2
      unfold accB
      have hy : Zd 9 y := hz.2 y (by simp)
      simp [-in_lst, -in_tup, h1, h2]
      cases y with
      | tuple es =>
        have hl := tup_len hy
        have or := fun {P : PyData → Prop} {X : String → Prop} => orders_ok hk (P := P) (X := X)
        have re := fun {P : PyData → Prop} {X : String → Prop} => reads_ok (ls := ls) (by have := h.l; omega) (P := P) (X := X)
        simp [-in_lst, -in_tup, szl, re, or, rsD]
        by_cases hn : es.length = (ords (works ls)).length
        · have zo : zipO (.tuple es) (.list ((ords (works ls)).map rowT)) = some ((es.zip (ords (works ls))).map pT) := by
            simp [zipO, zipD, pT, List.zip_map_right]
          simp [-in_lst, -in_tup, hn, zo]
          refine all_loopV pT (fun p => entB ls p.1 p.2) (jeG ls (.tuple [.str "never", .tuple es])) (fun ha g => ?_) (fun p hp g hg PO k1 k2 => ?_) ⟨.dead, .dead, .dead, .dead, rfl⟩ (fun ha g hg => ?_)
          · show PyData.bool false = PyData.bool _
            rw [ha]
          · obtain ⟨c5, c6, c7, c8, rfl⟩ := hg
            obtain ⟨e, o⟩ := p
            have he : e ∈ es := (List.of_mem_zip hp).1
            have pm := ords_perm (works_nd ls) (List.of_mem_zip hp).2
            have wl := (whl_ok pm).length_eq
            have ol := pm.length_eq
            have hls := h.l
            have w2 := fun {P : PyData → Prop} {X : String → Prop} => whole_ok2 (ls := ls) (o := o) (by omega) (by omega) (by omega) (P := P) (X := X)
            have w3 := fun {P : PyData → Prop} {X : String → Prop} => reads_ok (ls := whl ls o) (by omega) (P := P) (X := X)
            have hze : Zd 8 e := hy.2 e he
            simp [-in_lst, -in_tup, pT]
            cases e with
            | tuple zs =>
              have hzl := tup_len hze
              simp [-in_lst, -in_tup, wipeG, szl]
              refine ⟨by omega, okC_map (fun z => .bool (isaD "str" z || whB z)) (fun z hz => ?_) ?_⟩
              · cases hs : isaD "str" z <;> simp [-in_lst, -in_tup, hs, whole_ok, wipeG]
              · simp only [ff_in]
                by_cases hw : ewB zs = true
                · have e1 : (zs.any fun z => !(isaD "str" z || whB z)) = false := by
                    have := hw
                    unfold ewB at this
                    rw [List.all_eq_not_any_not] at this
                    simpa using this
                  rw [e1]
                  simp [-in_lst, -in_tup, rowT, w2, w3, rsD]
                  have hT := tup_key hw
                  have iF : ∀ {g : Bool → Bool}, inD g (.tuple zs) (.dict (fD (rds ls).1)) = some (.bool (g (hasD (fD (rds ls).1) (.tuple zs)))) := fun {g} => enc_in (kf_dat enc_k3 hT.1 hT.2)
                  have xF : hasD (fD (rds ls).1) (.tuple zs) = true → ∃ a b, ixD (.dict (fD (rds ls).1)) (.tuple zs) = some (.str a) ∧ ixD (.dict (fD (rds (whl ls o)).1)) (.tuple zs) = some (.str b) ∧ neK (fD (rds ls).1) (fD (rds (whl ls o)).1) (.tuple zs) = !decide (a = b) := fun q => enc_ix2 enc_k3 q hT.1 hT.2 fun a ha => (fk_perm (whl_ok pm)).mpr ha
                  by_cases hone : zs.length = 1
                  · match zs, hone, hw, k1, k2 with
                    | [z], _, hw, k1, k2 =>
                      have hL := leaf_key (z := z) (by simpa [ewB] using hw)
                      have iW : ∀ {g : Bool → Bool}, inD g z (.dict (wD (rds ls).2)) = some (.bool (g (hasD (wD (rds ls).2) z))) := fun {g} => enc_in (kf_dat enc_txt hL.1 hL.2)
                      have xW : hasD (wD (rds ls).2) z = true → ∃ a b, ixD (.dict (wD (rds ls).2)) z = some (.str a) ∧ ixD (.dict (wD (rds (whl ls o)).2)) z = some (.str b) ∧ neK (wD (rds ls).2) (wD (rds (whl ls o)).2) z = !decide (a = b) := fun q => enc_ix2 enc_txt q hL.1 hL.2 fun a ha => (wk_perm (whl_ok pm)).mpr ha
                      have a0 : L2.atI [z] 0 = some z := rfl
                      cases hh : hasD (wD (rds ls).2) z with
                      | false =>
                        simp [-in_lst, -in_tup, a0, iW, hh]
                        exact k1 (by simp [entB, entC, hh]) _
                      | true =>
                        obtain ⟨a, b, x1, x2, x3⟩ := xW hh
                        simp [-in_lst, -in_tup, a0, iW, hh, x1, x2]
                        by_cases hab : a = b
                        · simp [hab]
                          exact k1 (by simp [entB, entC, x3, hab]) _
                        · simp [hab]
                          exact k2 (by simp [entB, hw, entC, hh, x3, hab]) _ ⟨_, _, _, _, rfl⟩
                  · have hone' : ¬ ((zs.length : Int) = 1) := by omega
                    have ec : entC (rds ls) (rds (whl ls o)) zs = (hasD (fD (rds ls).1) (.tuple zs) && neK (fD (rds ls).1) (fD (rds (whl ls o)).1) (.tuple zs)) := by
                      match zs, hone with
                      | [], _ => rfl
                      | [z], h => exact absurd rfl h
                      | _ :: _ :: _, _ => rfl
                    cases hh : hasD (fD (rds ls).1) (.tuple zs) with
                    | false =>
                      simp [-in_lst, -in_tup, hone', iF, hh]
                      exact k1 (by simp [entB, ec, hh]) _
                    | true =>
                      obtain ⟨a, b, x1, x2, x3⟩ := xF hh
                      simp [-in_lst, -in_tup, hone', iF, hh, x1, x2]
                      by_cases hab : a = b
                      · simp [hab]
                        exact k1 (by simp [entB, ec, x3, hab]) _
                      · simp [hab]
                        exact k2 (by simp [entB, hw, ec, hh, x3, hab]) _ ⟨_, _, _, _, rfl⟩
                · have e1 : (zs.any fun z => !(isaD "str" z || whB z)) = true := by
                    have : zs.all (fun z => isaD "str" z || whB z) = false := by simpa [ewB] using hw
                    rw [List.all_eq_not_any_not] at this
                    simpa using this
                  rw [e1]
                  simp [-in_lst, -in_tup]
                  exact k1 (by simp [entB, hw]) _
            | _ => exact k1 rfl _
          · exact fun a b hab => List.all_eq_true.mp ha (a, b) hab
        · have hn' : ¬ ((es.length : Int) = ((ords (works ls)).length : Int)) := by omega
          simp [hn, hn']
      | _ => simp
    · unfold accB
      simp [-in_lst, -in_tup, h1, h2]
end Pf
namespace Pf
open PySem Mi L2
theorem sameM_sub {κ : Type} [DecidableEq κ] {F G : List (κ × Str)} (nF : (F.map (·.1)).Nodup) (h : sameM F G = true) : sameM G F = true := by
  unfold sameM at h ⊢
  simp only [Bool.and_eq_true, beq_iff_eq, List.all_eq_true, decide_eq_true_eq] at h ⊢
  refine ⟨h.1.symm, fun q hq => ?_⟩
  have sub : ∀ x ∈ F, x ∈ G := fun x hx => lk_some (h.2 x hx)
  have nd : F.Nodup := nd_of_map nF
  by_cases hm : q ∈ F
  · exact lk_nd nF hm
  · have := Tn.nd_subG (xs := q :: F) (ys := G) (List.nodup_cons.mpr ⟨hm, nd⟩) fun x hx => by
      rcases List.mem_cons.mp hx with rfl | hx
      · exact hq
      · exact sub x hx
    simp only [List.length_cons] at this
    omega
theorem sameM_comm {κ : Type} [DecidableEq κ] {F G : List (κ × Str)} (nF : (F.map (·.1)).Nodup) (nG : (G.map (·.1)).Nodup) : sameM F G = sameM G F := by
  cases h : sameM F G with
  | true => exact (sameM_sub nF h).symm
  | false =>
    cases h2 : sameM G F with
    | false => rfl
    | true => rw [sameM_sub nG h2] at h; cases h
theorem sameR_comm {ls ls' : List Ln} {S T : Fd × Wt} (I : RdI ls S) (J : RdI ls' T) : sameR S T = sameR T S := by
  unfold sameR
  rw [sameM_comm I.nd J.nd, sameM_comm I.nw J.nw]
def okAt (ls : List Ln) (es : List PyData) (k : Nat) : Bool := match es[k]?, (ords (works ls))[k]? with
  | some e, some o => entB ls e o
  | _, _ => true
def laG (ls : List Ln) (d : PyData) (g : Gm) : Prop := ∃ c6 c7 c8 c9 : Sl, g = [.dat (.tuple (ls.map lnD)), .dat d, .dat (.list (txs (works ls))), .dat (.dict (fD (rds ls).1)), .dat (.dict (wD (rds ls).2)), .dat (.list ((ords (works ls)).map rowT)), c6, c7, c8, c9, .dead]
theorem okC_filI {b : PyData → Gm → Option Gm} {tt : MM Bool} {te : MM PyData} {vs : List Nat} {g : Gm} {Q : List PyData → Gm → Prop} (p : PyData → Bool) {xs : List PyData}
    (hs : ∀ x ∈ xs, okO (b x g) fun g1 => ev tt g1 (fun c g2 => c = p x ∧ if c = true then ev te g2 (fun z g3 => z = x ∧ wipeG g3 vs = g) noX else wipeG g2 vs = g) noX) (hQ : Q (xs.filter p) g) : okC (compL vs b tt te xs g) Q := by
  have := okC_filA (vs := vs) (tt := tt) (te := te) id id p (xs := xs) hs (Q := Q) (by simpa using hQ)
  simpa using this
theorem accepts_ok {ls : List Ln} (h : HW ls) {d : PyData} (hz : Zd 10 d) {P : PyData → Prop} {X : String → Prop} : okP (m__law_accepts [.tuple (ls.map lnD), d]) P X ↔ P (.bool (accB ls d)) := by
  refine eq_iff (of_okP ?_)
  unfold m__law_accepts
  rw [okP_runP]
  refine ⟨rfl, ?_⟩
  unfold b__law_accepts
  have hk := h.k
  have hls := h.l
  have hi := fun {P : PyData → Prop} {X : String → Prop} => lworks_ok h (P := P) (X := X)
  have or := fun {P : PyData → Prop} {X : String → Prop} => lorders_ok hk (P := P) (X := X)
  have lr := fun {P : PyData → Prop} {X : String → Prop} => lreads_ok (c := .tuple) (ls := ls) (.inr rfl) (by omega) (P := P) (X := X)
  have to : ∀ {w : Str} {P : PyData → Prop} {X : String → Prop}, okP (m__law_is [d, .str w, .int 2]) P X ↔ P (.bool (hdB w 2 d)) := fun {w P X} => is_ok (n := 2) (by decide)
  simp [-in_lst, -in_tup, szl, hi, to, or, lr, rsD]
  by_cases h1 : hdB "order" 2 d = true
  · obtain ⟨y, rfl⟩ := hd_pair h1
    have hy : Zd 9 y := hz.2 y (by simp)
    have lt := fun {P : PyData → Prop} {X : String → Prop} => law_texts_ok hy (P := P) (X := X)
    unfold accB
    simp [-in_lst, -in_tup, h1, lt]
    by_cases tx : txB y = true
    · obtain ⟨o, rfl⟩ := tx_tup tx
      have e2 : txtD (.tuple (txs o)) = some o := txt_txs
      have sg := sortG_txs (c := .tuple) (xs := o) (.inr rfl)
      simp [-in_lst, -in_tup, e2, tx, sg, eq_txs, ordB]
      by_cases hs : Ts.srt o = works ls
      · have pm : o.Perm (works ls) := hs ▸ (Ts.srt_perm o).symm
        have wl := (whl_ok pm).length_eq
        have ol := pm.length_eq
        have w2 := fun {P : PyData → Prop} {X : String → Prop} => lwhole_ok (ls := ls) (o := o) (by omega) (by omega) (by omega) (P := P) (X := X)
        have w3 := fun {P : PyData → Prop} {X : String → Prop} => lreads_ok (c := .list) (ls := whl ls o) (.inl rfl) (by omega) (P := P) (X := X)
        simp [-in_lst, -in_tup, hs, w2, w3]
        show okO (eqPD (rsD (rds (whl ls o))) (rsD (rds ls))) _
        rw [eq_rsD, sameR_comm (rds_I _) (rds_I _)]
        rfl
      · simp [hs]
    · simp [tx]
  · by_cases h2 : hdB "never" 2 d = true
    · obtain ⟨y, rfl⟩ := hd_pair h2
      unfold accB
      have hy : Zd 9 y := hz.2 y (by simp)
      simp [-in_lst, -in_tup, h1, h2]
      cases y with
      | tuple es =>
        have hl := tup_len hy
        simp [-in_lst, -in_tup, szl]
        by_cases hn : es.length = (ords (works ls)).length
        · simp [-in_lst, -in_tup, hn]
          refine ⟨by omega, ?_⟩
          rw [rng_nat]
          have hall : ((List.range (ords (works ls)).length).all (okAt ls es)) = (es.zip (ords (works ls))).all fun p => entB ls p.1 p.2 := by
            have := range_all (xs := es.zip (ords (works ls))) (q := fun p => entB ls p.1 p.2) (f := okAt ls es) fun i x hx => by
              obtain ⟨x1, x2⟩ := List.getElem?_zip_eq_some.mp hx
              unfold okAt
              rw [x1, x2]
            rw [← this]
            congr 2
            simp [hn]
          refine all_loopV (fun k : Nat => PyData.int (k : Nat)) (okAt ls es) (laG ls (.tuple [.str "never", .tuple es])) (fun ha g => ?_) (fun k hkk g hg PO k1 k2 => ?_) ⟨.dead, .dead, .dead, .dead, rfl⟩ (fun ha g hg => ?_)
          · show PyData.bool false = PyData.bool _
            rw [← hall, ha]
          · obtain ⟨c6, c7, c8, c9, rfl⟩ := hg
            have kl : k < (ords (works ls)).length := by simpa using hkk
            have ke : k < es.length := by omega
            have e1 : es[k]? = some es[k] := List.getElem?_eq_getElem ke
            have e2 : (ords (works ls))[k]? = some (ords (works ls))[k] := List.getElem?_eq_getElem kl
            have eok : okAt ls es k = entB ls es[k] (ords (works ls))[k] := by unfold okAt; rw [e1, e2]
            have ho : (ords (works ls))[k] ∈ ords (works ls) := List.getElem_mem kl
            have a1 : L2.atI es (k : Int) = some es[k] := by rw [atJ (by omega) (by omega)]; simpa using e1
            have a2 : L2.atI ((ords (works ls)).map rowT) (k : Int) = some (rowT (ords (works ls))[k]) := by
              rw [atJ (by omega) (by rw [List.length_map]; omega), List.getElem?_map]
              simp [e2]
            have hze : Zd 8 es[k] := hy.2 _ (List.getElem_mem ke)
            rw [eok] at k1 k2
            generalize es[k] = e at a1 k1 k2 hze
            generalize (ords (works ls))[k] = o at a2 k1 k2 ho
            have pm := ords_perm (works_nd ls) ho
            have wl := (whl_ok pm).length_eq
            have ol := pm.length_eq
            have w2 := fun {P : PyData → Prop} {X : String → Prop} => lwhole_ok (ls := ls) (o := o) (by omega) (by omega) (by omega) (P := P) (X := X)
            have w3 := fun {P : PyData → Prop} {X : String → Prop} => lreads_ok (c := .list) (ls := whl ls o) (.inl rfl) (by omega) (P := P) (X := X)
            simp [-in_lst, -in_tup, a1]
            cases e with
            | tuple zs =>
              have hzl := tup_len hze
              simp [-in_lst, -in_tup, wipeG, szl]
              refine ⟨by omega, ?_⟩
              refine okC_filI (fun z => !(isaD "str" z || whB z)) (fun z hz => ?_) ?_
              · cases hs : isaD "str" z <;> simp [-in_lst, -in_tup, hs, law_whole_ok, wipeG]
              · rw [ne_nilL]
                by_cases hw : ewB zs = true
                · have e0 : (zs.filter fun z => !(isaD "str" z || whB z)) = [] := List.filter_eq_nil_iff.mpr fun z hz => by
                    have := List.all_eq_true.mp hw z hz
                    simp [this]
                  rw [e0]
                  simp [-in_lst, -in_tup, w2, w3, a2, rowT, rsD]
                  have hT := tup_key hw
                  have iF : ∀ {g : Bool → Bool}, inD g (.tuple zs) (.dict (fD (rds ls).1)) = some (.bool (g (hasD (fD (rds ls).1) (.tuple zs)))) := fun {g} => enc_in (kf_dat enc_k3 hT.1 hT.2)
                  have xF : hasD (fD (rds ls).1) (.tuple zs) = true → ∃ a b, ixD (.dict (fD (rds ls).1)) (.tuple zs) = some (.str a) ∧ ixD (.dict (fD (rds (whl ls o)).1)) (.tuple zs) = some (.str b) ∧ neK (fD (rds ls).1) (fD (rds (whl ls o)).1) (.tuple zs) = !decide (a = b) := fun q => enc_ix2 enc_k3 q hT.1 hT.2 fun a ha => (fk_perm (whl_ok pm)).mpr ha
                  by_cases hone : zs.length = 1
                  · match zs, hone, hw, k1, k2 with
                    | [z], _, hw, k1, k2 =>
                      have hL := leaf_key (z := z) (by simpa [ewB] using hw)
                      have iW : ∀ {g : Bool → Bool}, inD g z (.dict (wD (rds ls).2)) = some (.bool (g (hasD (wD (rds ls).2) z))) := fun {g} => enc_in (kf_dat enc_txt hL.1 hL.2)
                      have xW : hasD (wD (rds ls).2) z = true → ∃ a b, ixD (.dict (wD (rds ls).2)) z = some (.str a) ∧ ixD (.dict (wD (rds (whl ls o)).2)) z = some (.str b) ∧ neK (wD (rds ls).2) (wD (rds (whl ls o)).2) z = !decide (a = b) := fun q => enc_ix2 enc_txt q hL.1 hL.2 fun a ha => (wk_perm (whl_ok pm)).mpr ha
                      have a0 : L2.atI [z] 0 = some z := rfl
                      cases hh : hasD (wD (rds ls).2) z with
                      | false =>
                        simp [-in_lst, -in_tup, a0, iW, hh]
                        exact k1 (by simp [entB, entC, hh]) _
                      | true =>
                        obtain ⟨a, b, x1, x2, x3⟩ := xW hh
                        simp [-in_lst, -in_tup, a0, iW, hh, x1, x2]
                        by_cases hab : a = b
                        · simp [hab]
                          exact k1 (by simp [entB, entC, x3, hab]) _
                        · simp [hab]
                          exact k2 (by simp [entB, hw, entC, hh, x3, hab]) _ ⟨_, _, _, _, rfl⟩
                  · have hone' : ¬ ((zs.length : Int) = 1) := by omega
                    have ec : entC (rds ls) (rds (whl ls o)) zs = (hasD (fD (rds ls).1) (.tuple zs) && neK (fD (rds ls).1) (fD (rds (whl ls o)).1) (.tuple zs)) := by
                      match zs, hone with
                      | [], _ => rfl
                      | [z], h => exact absurd rfl h
                      | _ :: _ :: _, _ => rfl
                    cases hh : hasD (fD (rds ls).1) (.tuple zs) with
                    | false =>
                      simp [-in_lst, -in_tup, hone', iF, hh]
                      exact k1 (by simp [entB, ec, hh]) _
                    | true =>
                      obtain ⟨a, b, x1, x2, x3⟩ := xF hh
                      simp [-in_lst, -in_tup, hone', iF, hh, x1, x2]
                      by_cases hab : a = b
                      · simp [hab]
                        exact k1 (by simp [entB, ec, x3, hab]) _
                      · simp [hab]
                        exact k2 (by simp [entB, hw, ec, hh, x3, hab]) _ ⟨_, _, _, _, rfl⟩
                · have e0 : (zs.filter fun z => !(isaD "str" z || whB z)).isEmpty = false := by
                    cases e : zs.filter fun z => !(isaD "str" z || whB z) with
                    | cons _ _ => rfl
                    | nil =>
                      exact absurd (List.all_eq_true.mpr fun z hz => by
                        have t := List.filter_eq_nil_iff.mp e z hz
                        cases q : (isaD "str" z || whB z) with
                        | true => rfl
                        | false => rw [q] at t; exact absurd rfl t) hw
                  rw [e0]
                  simp [-in_lst, -in_tup]
                  exact k1 (by simp [entB, hw]) _
            | _ => exact k1 rfl _
          · have := List.all_eq_true.mp (hall ▸ ha)
            exact fun a b hab => this (a, b) hab
        · have hn' : ¬ ((es.length : Int) = ((ords (works ls)).length : Int)) := by omega
          simp [hn, hn']
      | _ => simp
    · unfold accB
      simp [-in_lst, -in_tup, h1, h2]
end Pf
namespace Pf
open PySem Mi L2
theorem srt_k3 {F : Fd} (h : F.length ≤ 100) : srtC ((fD F).map (·.1)) = true := by
  rw [fD_keys]
  simp only [srtC, Bool.and_eq_true, Bool.or_eq_true, decide_eq_true_eq]
  have ndm : ∀ l : Fd, DcEq.ndAll (l.map fun q => k3D q.1) = true := by
    intro l
    induction l with
    | nil => simp [DcEq.ndAll]
    | cons x l ih =>
      show (DcEq.ndB (k3D x.1) && DcEq.ndAll (l.map fun q => k3D q.1)) = true
      rw [ih]
      rfl
  have dpm : ∀ l : Fd, PyData.depthAll (l.map fun q => k3D q.1) ≤ 60 := by
    intro l
    induction l with
    | nil => simp [PyData.depthAll]
    | cons x l ih =>
      have e : (k3D x.1).depth ≤ 2 := by simp [k3D, PyData.depth, PyData.depthAll]
      simp only [List.map_cons, PyData.depthAll]
      omega
  refine ⟨⟨⟨⟨?_, .inl ?_⟩, ndm F⟩, dpm F⟩, by rw [List.length_map, szl]; omega⟩
  · refine List.all_eq_true.mpr fun d hd => List.all_eq_true.mpr fun e he => ?_
    obtain ⟨q, _, rfl⟩ := List.mem_map.mp hd
    obtain ⟨p, _, rfl⟩ := List.mem_map.mp he
    rfl
  · refine List.all_eq_true.mpr fun d hd => ?_
    obtain ⟨q, _, rfl⟩ := List.mem_map.mp hd
    rfl
theorem wD_keys {W : Wt} : (wD W).map (·.1) = W.map fun q => PyData.str q.1 := by
  unfold wD dat
  rw [List.map_map]
  rfl
theorem srt_w {W : Wt} (h : W.length ≤ 100) : srtC ((wD W).map (·.1)) = true := by
  rw [wD_keys]
  simp only [srtC, Bool.and_eq_true, Bool.or_eq_true, decide_eq_true_eq]
  have e : (W.map fun q => PyData.str q.1) = txs (W.map (·.1)) := by simp [txs]
  refine ⟨⟨⟨⟨?_, .inr ?_⟩, by rw [e]; exact nd_txs _⟩, by rw [e, dp_txs]; omega⟩, by rw [List.length_map, szl]; omega⟩
  · refine List.all_eq_true.mpr fun d hd => List.all_eq_true.mpr fun e he => ?_
    obtain ⟨q, _, rfl⟩ := List.mem_map.mp hd
    obtain ⟨p, _, rfl⟩ := List.mem_map.mp he
    rfl
  · refine List.all_eq_true.mpr fun d hd => ?_
    obtain ⟨q, _, rfl⟩ := List.mem_map.mp hd
    rfl
theorem sort_d {ds : List (PyData × PyData)} (h : srtC (ds.map (·.1)) = true) : sortG (.dict ds) = some (.list (srtA (ds.map (·.1)))) := by
  simp [sortG, intsD, txtD, sqO, sortAD, h]
/-- what may stand in an entry -/
def entS (e : PyData) : Prop := (∃ w t n, e = k3D (w, t, n) ∧ w ∈ ([("t" : Str), ("u2" : Str), ("v" : Str)] : List Str) ∧ t ∈ ([("x" : Str), ("y" : Str)] : List Str) ∧ n ≤ 7) ∨ ∃ t, e = .tuple [.str t] ∧ t ∈ ([("x" : Str), ("y" : Str)] : List Str)
structure HX (ls : List Ln) : Prop extends HW ls where
  t : ∀ x ∈ ls, x.2.2 ∈ ([("x" : Str), ("y" : Str)] : List Str)
theorem key_in {ls : List Ln} (h : HX ls) {w t : Str} {n : Nat} (hk : (w, t, n) ∈ (rds ls).1.map (·.1)) : w ∈ ([("t" : Str), ("u2" : Str), ("v" : Str)] : List Str) ∧ t ∈ ([("x" : Str), ("y" : Str)] : List Str) ∧ n ≤ 7 := by
  obtain ⟨h1, h2⟩ := ((rds_I ls).k w t n).mp hk
  have hl := h.l
  have hle : cR ls w t ≤ ls.length := List.length_filter_le ..
  have hpos : 0 < cR ls w t := by omega
  unfold cR at hpos
  obtain ⟨x, hx⟩ := List.exists_mem_of_length_pos hpos
  obtain ⟨hx1, hx2⟩ := List.mem_filter.mp hx
  have hx2 : x.2.1 = ("read" : Str) ∧ x.1 = w ∧ x.2.2 = t := by simpa using hx2
  exact ⟨hx2.2.1 ▸ h.w x hx1, hx2.2.2 ▸ h.t x hx1, by omega⟩
theorem has_in {κ : Type} [DecidableEq κ] {enc : κ → PyData} {t : Bool} (E : Enc enc t) {F : List (κ × Str)} {q : κ × Str} (hq : q ∈ F) : hasD (dat enc PyData.str F) (enc q.1) = true := by
  rw [E.has]
  exact List.any_eq_true.mpr ⟨q, hq, by simp⟩
theorem ne_of {κ : Type} [DecidableEq κ] {enc : κ → PyData} {t : Bool} (E : Enc enc t) {F G : List (κ × Str)} {q : κ × Str} (nF : (F.map (·.1)).Nodup) (hq : q ∈ F) (hne : lk G q.1 ≠ some q.2) (hk : q.1 ∈ G.map (·.1)) : neK (dat enc PyData.str F) (dat enc PyData.str G) (enc q.1) = true := by
  obtain ⟨b, hb⟩ := lk_key hk
  unfold neK
  rw [E.lkd, E.lkd, lk_nd nF hq, hb]
  have : q.2 ≠ b := fun e => hne (by rw [hb, e])
  simp [PyData.eqv, beq_dec, this]
theorem first_ok {ls : List Ln} (h : HX ls) {o : List Str} (ho : o ∈ ords (works ls)) (hs : sameR (rds ls) (rds (whl ls o)) = false) : okP (m_first_unlike [.tuple (ls.map lnD), rowT o]) (fun e => entB ls e o = true ∧ entS e) fun _ => False := by
  have pm := ords_perm (works_nd ls) ho
  have wp := whl_ok pm
  have wl := wp.length_eq
  have ol := pm.length_eq
  have hls := h.l
  have hk := h.toHW.k
  have w2 := fun {P : PyData → Prop} {X : String → Prop} => whole_ok2 (ls := ls) (o := o) (by omega) (by omega) (by omega) (P := P) (X := X)
  have r1 := fun {P : PyData → Prop} {X : String → Prop} => reads_ok (ls := ls) (by omega) (P := P) (X := X)
  have r2 := fun {P : PyData → Prop} {X : String → Prop} => reads_ok (ls := whl ls o) (by omega) (P := P) (X := X)
  have rl := rds_len ls
  have s1 := sort_d (srt_k3 (F := (rds ls).1) (by omega))
  have s2 := sort_d (srt_w (W := (rds ls).2) (by omega))
  unfold m_first_unlike
  rw [okP_runP]
  refine ⟨rfl, ?_⟩
  unfold b_first_unlike
  simp [-in_lst, -in_tup, rowT, w2, r1, r2, rsD, s1, szl, wipeG]
  have l1 := (srtA_perm ((fD (rds ls).1).map (·.1))).length_eq
  rw [List.length_map, fD_len] at l1
  have l2 := (srtA_perm ((wD (rds ls).2).map (·.1))).length_eq
  rw [List.length_map, wD_len] at l2
  have m1 : ∀ k ∈ srtA ((fD (rds ls).1).map (·.1)), ∃ q ∈ (rds ls).1, k = k3D q.1 := fun k hk => by
    have := (srtA_perm _).mem_iff.mp hk
    rw [fD_keys] at this
    obtain ⟨q, hq, e⟩ := List.mem_map.mp this
    exact ⟨q, hq, e.symm⟩
  have m2 : ∀ k ∈ srtA ((wD (rds ls).2).map (·.1)), ∃ q ∈ (rds ls).2, k = .str q.1 := fun k hk => by
    have := (srtA_perm _).mem_iff.mp hk
    rw [wD_keys] at this
    obtain ⟨q, hq, e⟩ := List.mem_map.mp this
    exact ⟨q, hq, e.symm⟩
  have x1 : ∀ q ∈ (rds ls).1, ∃ a b, ixD (.dict (fD (rds ls).1)) (k3D q.1) = some (.str a) ∧ ixD (.dict (fD (rds (whl ls o)).1)) (k3D q.1) = some (.str b) ∧ neK (fD (rds ls).1) (fD (rds (whl ls o)).1) (k3D q.1) = !decide (a = b) := fun q hq =>
    enc_ix2 enc_k3 (has_in enc_k3 hq) (enc_k3.ok _) (enc_k3.tp _) fun a ha => (fk_perm wp).mpr ha
  have x2 : ∀ q ∈ (rds ls).2, ∃ a b, ixD (.dict (wD (rds ls).2)) (.str q.1) = some (.str a) ∧ ixD (.dict (wD (rds (whl ls o)).2)) (.str q.1) = some (.str b) ∧ neK (wD (rds ls).2) (wD (rds (whl ls o)).2) (.str q.1) = !decide (a = b) := fun q hq =>
    enc_ix2 enc_txt (has_in enc_txt hq) (enc_txt.ok _) (enc_txt.tp _) fun a ha => (wk_perm wp).mpr ha
  refine ⟨by omega, okC_filI (fun k => neK (fD (rds ls).1) (fD (rds (whl ls o)).1) k) (fun k hk => ?_) ?_⟩
  · obtain ⟨q, hq, rfl⟩ := m1 k hk
    obtain ⟨a, b, y1, y2, y3⟩ := x1 q hq
    simp [-in_lst, -in_tup, y1, y2, y3, wipeG]
    by_cases hab : a = b <;> simp [hab]
  · cases ef : (srtA ((fD (rds ls).1).map (·.1))).filter fun k => neK (fD (rds ls).1) (fD (rds (whl ls o)).1) k with
    | cons e K =>
      have he : e ∈ (srtA ((fD (rds ls).1).map (·.1))).filter fun k => neK (fD (rds ls).1) (fD (rds (whl ls o)).1) k := by rw [ef]; simp
      obtain ⟨he1, he2⟩ := List.mem_filter.mp he
      obtain ⟨q, hq, rfl⟩ := m1 e he1
      have a0 : L2.atI (k3D q.1 :: K) 0 = some (k3D q.1) := by rw [atJ (by omega) (by simp only [List.length_cons]; omega)]; rfl
      simp [-in_lst, -in_tup, a0]
      have hh : hasD (fD (rds ls).1) (k3D q.1) = true := has_in enc_k3 hq
      have kq : (q.1.1, q.1.2.1, q.1.2.2) ∈ (rds ls).1.map (·.1) := List.mem_map_of_mem (f := (·.1)) hq
      refine ⟨?_, .inl ⟨q.1.1, q.1.2.1, q.1.2.2, rfl, key_in h kq⟩⟩
      have ew : ewB [.str q.1.1, .str q.1.2.1, .int (q.1.2.2 : Nat)] = true := rfl
      show (ewB [.str q.1.1, .str q.1.2.1, .int (q.1.2.2 : Nat)] && (hasD (fD (rds ls).1) (k3D q.1) && neK (fD (rds ls).1) (fD (rds (whl ls o)).1) (k3D q.1))) = true
      rw [ew, hh, he2]
      rfl
    | nil =>
      simp [-in_lst, -in_tup, s2, szl]
      have f1 : sameM (rds ls).1 (rds (whl ls o)).1 = true := by
        cases e : sameM (rds ls).1 (rds (whl ls o)).1 with
        | true => rfl
        | false =>
          obtain ⟨q, hq, hne⟩ := unlike (fl_perm wp).symm e
          exfalso
          have hm : k3D q.1 ∈ srtA ((fD (rds ls).1).map (·.1)) := (srtA_perm _).mem_iff.mpr (by rw [fD_keys]; exact List.mem_map_of_mem (f := fun q : K3 × Str => k3D q.1) hq)
          have hf : k3D q.1 ∈ (srtA ((fD (rds ls).1).map (·.1))).filter fun k => neK (fD (rds ls).1) (fD (rds (whl ls o)).1) k := List.mem_filter.mpr ⟨hm, ne_of enc_k3 (rds_I ls).nd hq hne ((fk_perm wp).mpr (List.mem_map_of_mem (f := (·.1)) hq))⟩
          rw [ef] at hf
          cases hf
      have f2 : sameM (rds ls).2 (rds (whl ls o)).2 = false := by
        unfold sameR at hs
        rwa [f1, Bool.true_and] at hs
      obtain ⟨q, hq, hne⟩ := unlike (wl_perm wp).symm f2
      refine ⟨by omega, okC_filI (fun k => neK (wD (rds ls).2) (wD (rds (whl ls o)).2) k) (fun k hk => ?_) ?_⟩
      · obtain ⟨q, hq, rfl⟩ := m2 k hk
        obtain ⟨a, b, y1, y2, y3⟩ := x2 q hq
        simp [-in_lst, -in_tup, y1, y2, y3, wipeG]
        by_cases hab : a = b <;> simp [hab]
      · have hm : PyData.str q.1 ∈ srtA ((wD (rds ls).2).map (·.1)) := (srtA_perm _).mem_iff.mpr (by rw [wD_keys]; exact List.mem_map_of_mem (f := fun q : Str × Str => PyData.str q.1) hq)
        have hf : PyData.str q.1 ∈ (srtA ((wD (rds ls).2).map (·.1))).filter fun k => neK (wD (rds ls).2) (wD (rds (whl ls o)).2) k := List.mem_filter.mpr ⟨hm, ne_of enc_txt (rds_I ls).nw hq hne ((wk_perm wp).mpr (List.mem_map_of_mem (f := (·.1)) hq))⟩
        cases eg : (srtA ((wD (rds ls).2).map (·.1))).filter fun k => neK (wD (rds ls).2) (wD (rds (whl ls o)).2) k with
        | nil => rw [eg] at hf; cases hf
        | cons e K =>
          have he : e ∈ (srtA ((wD (rds ls).2).map (·.1))).filter fun k => neK (wD (rds ls).2) (wD (rds (whl ls o)).2) k := by rw [eg]; simp
          obtain ⟨he1, he2⟩ := List.mem_filter.mp he
          obtain ⟨p, hp, rfl⟩ := m2 e he1
          have a0 : L2.atI (PyData.str p.1 :: K) 0 = some (.str p.1) := by rw [atJ (by omega) (by simp only [List.length_cons]; omega)]; rfl
          simp [-in_lst, -in_tup, a0]
          have hh : hasD (wD (rds ls).2) (.str p.1) = true := has_in enc_txt hp
          refine ⟨?_, .inr ⟨p.1, rfl, ?_⟩⟩
          · show (ewB [.str p.1] && (hasD (wD (rds ls).2) (.str p.1) && neK (wD (rds ls).2) (wD (rds (whl ls o)).2) (.str p.1))) = true
            rw [hh, he2]
            rfl
          · obtain ⟨x, hx, _, e⟩ := ((rds_I ls).w p.1).mp (List.mem_map_of_mem (f := (·.1)) hp)
            exact e ▸ h.t x hx
end Pf
namespace Pf
open PySem Mi L2
def ToldS (ls : List Ln) (d : PyData) : Prop := accB ls d = true ∧ ∃ w ys, d = .tuple (w :: ys) ∧ Tld w ys
theorem wk_str : ∀ x ∈ ([("t" : Str), ("u2" : Str), ("v" : Str)] : List Str), x.length ≤ 1000 ∧ PyData.strOk x = true := by decide +kernel
theorem th_str : ∀ x ∈ ([("x" : Str), ("y" : Str)] : List Str), x.length ≤ 1000 ∧ PyData.strOk x = true := by decide +kernel
theorem td_ent {e : PyData} (h : entS e) : Td 6 3 e := by
  rcases h with ⟨w, t, n, rfl, h1, h2, h3⟩ | ⟨t, rfl, h2⟩
  · have a := wk_str w h1
    have b := th_str t h2
    exact (td_tup (n := 5) (tda_cons (td_str a.1 a.2) (tda_cons (td_str b.1 b.2) (tda_cons (td_int (by simp; omega)) tda_nil))) (by simp)).le
  · have b := th_str t h2
    exact (td_tup (n := 5) (tda_cons (td_str b.1 b.2) tda_nil) (by simp)).le
theorem order_told {ls : List Ln} (h : HX ls) {o : List Str} (ho : o ∈ ords (works ls)) (hs : sameR (rds ls) (rds (whl ls o)) = true) : ToldS ls (.tuple [.str "order", rowT o]) := by
  have pm := ords_perm (works_nd ls) ho
  have e1 : Ts.srt o = works ls := by rw [srt_eq pm]; exact srt_srt _
  have hk := h.toHW.k
  have ol := pm.length_eq
  refine ⟨?_, _, _, rfl, ?_⟩
  · unfold accB
    have hd : hdB "order" 2 (.tuple [.str "order", rowT o]) = true := rfl
    rw [if_pos hd]
    show (txB (.tuple (txs o)) && (match txtD (.tuple (txs o)) with | some o => ordB ls o | none => false)) = true
    rw [tx_txs, txt_txs]
    simp [ordB, e1, hs]
  · refine tld_of (tda_cons (td_str (by decide) (by decide +kernel)) (tda_cons (td_row (n := 6) (c := 0) (k := 3) (fun z hz => ?_) (by rw [txs_len]; omega)) tda_nil))
    obtain ⟨x, hx, rfl⟩ := List.mem_map.mp hz
    obtain ⟨l, hl, e⟩ := works_mem.mp (pm.mem_iff.mp hx)
    have a := wk_str x (e ▸ h.w l hl)
    exact td_str a.1 a.2
def alG (ls : List Ln) (pre : List (List Str)) (g : Gm) : Prop := ∃ (es : List PyData) (c3 : Sl), g = [.dat (.tuple (ls.map lnD)), .dat (.list (txs (works ls))), .own false (.list es), c3] ∧ es.length = pre.length ∧ ∀ p ∈ es.zip pre, entB ls p.1 p.2 = true ∧ entS p.1
theorem okP_any {r : Except Er PyData} {P P' : PyData → Prop} {X : String → Prop} (h : okP r P fun _ => False) (hp : ∀ d, P d → P' d) : okP r P' X := by
  rcases r with (_ | ⟨c, _⟩) | d
  · exact h.elim
  · exact h.elim
  · exact hp d h
theorem alike_ok {ls : List Ln} (h : HX ls) : okP (m_alike_reads [.tuple (ls.map lnD)]) (fun d => ToldS ls d) fun _ => False := by
  have hls := h.l
  have hk := h.toHW.k
  have hi := fun {P : PyData → Prop} {X : String → Prop} => hist_ok h.toHW (P := P) (X := X)
  have or := fun {P : PyData → Prop} {X : String → Prop} => orders_ok hk (P := P) (X := X)
  have ol := ordsF_len hk (works ls).length
  have pw : 3 ^ (works ls).length ≤ 3 ^ 3 := Nat.pow_le_pow_right (by omega) hk
  unfold m_alike_reads
  rw [okP_runP]
  refine ⟨rfl, ?_⟩
  unfold b_alike_reads
  simp [-in_lst, -in_tup, szl, hi, or, txs_len]
  have ol3 : (ords (works ls)).length ≤ 27 := by unfold ords; omega
  refine ⟨by omega, svO_map rowT (ords (works ls)) (alG ls) ⟨[], .dead, rfl, rfl, by simp⟩ ?_ ?_⟩
  · rintro pre o suf e _ ⟨es, c3, rfl, he, hq⟩
    have ho : o ∈ ords (works ls) := by rw [e]; simp
    have pm := ords_perm (works_nd ls) ho
    have wp := whl_ok pm
    have wl := wp.length_eq
    have ol2 := pm.length_eq
    have pl : pre.length ≤ 27 := by
      have := congrArg List.length e
      simp only [List.length_append, List.length_cons] at this
      have ol3 : (ords (works ls)).length ≤ 27 := by unfold ords; omega
      omega
    have w2 : ∀ {P : PyData → Prop} {X : String → Prop}, okP (m_whole_order [.tuple (ls.map lnD), rowT o]) P X ↔ P (.tuple ((whl ls o).map lnD)) := fun {P X} => whole_ok2 (ls := ls) (o := o) (by omega) (by omega) (by omega)
    have w3 := fun {P : PyData → Prop} {X : String → Prop} => same_reads_ok (ls := ls) (ls' := whl ls o) (by omega) (by omega) (P := P) (X := X)
    simp [-in_lst, -in_tup, w2, w3]
    cases hs : sameR (rds ls) (rds (whl ls o)) with
    | true =>
      simp [szl]
      exact order_told h ho hs
    | false =>
      simp [-in_lst, -in_tup]
      refine okP_any (first_ok h ho hs) fun d hd => ?_
      simp [-in_lst, -in_tup, szl]
      refine ⟨by omega, es ++ [d], .dat (rowT o), rfl, by simp [he], fun p hp => ?_⟩
      rw [List.zip_append he] at hp
      rcases List.mem_append.mp hp with q | q
      · exact hq p q
      · have q : p = (d, o) := by simpa using q
        subst q
        exact hd
  · rintro g ⟨es, c3, rfl, he, hq⟩
    simp [-in_lst, -in_tup, szl]
    refine ⟨?_, _, _, rfl, ?_⟩
    · unfold accB
      have h1 : hdB "order" 2 (.tuple [.str "never", .tuple es]) = false := by simp [hdB]; decide
      have h2 : hdB "never" 2 (.tuple [.str "never", .tuple es]) = true := rfl
      rw [h1, if_neg (by decide), if_pos h2]
      simp only [Bool.and_eq_true, decide_eq_true_eq]
      exact ⟨he, List.all_eq_true.mpr fun p hp => (hq p hp).1⟩
    · refine tld_of (tda_cons (td_str (by decide) (by decide +kernel)) (tda_cons (td_row (n := 6) (c := 3) (k := 27) (fun z hz => ?_) (by omega)) tda_nil))
      obtain ⟨i, hi, rfl⟩ := List.mem_iff_getElem.mp hz
      have hi2 : i < (ords (works ls)).length := by omega
      have hm : (es[i], (ords (works ls))[i]) ∈ es.zip (ords (works ls)) := List.mem_iff_getElem.mpr ⟨i, by rw [List.length_zip]; omega, by simp⟩
      exact td_ent (hq _ hm).2
end Pf
namespace Pf
open PySem Mi L2
def badL : PyData := .tuple [.str "t", .str "read"]
def unG (d : PyData) (pre : List PyData) (g : Gm) : Prop := (∃ c1 : Sl, g = [.dat d, c1, .dead]) ∧ badL ∉ pre
theorem hist_bad {ls : List Ln} (h : HW ls) {P : PyData → Prop} {X : String → Prop} : okP (m_check_history [.tuple (ls.map lnD ++ [badL])]) P X ↔ X "UnfitNet" := by
  have hh : okP (m_check_history [.tuple (ls.map lnD ++ [badL])]) (fun _ => False) (fun c => c = "UnfitNet") := by
    unfold m_check_history
    rw [okP_runP]
    refine ⟨rfl, ?_⟩
    unfold b_check_history
    have hl := h.l
    simp [-in_lst, -in_tup, szl]
    have em : ls.map lnD ++ [badL] = (ls.map lnD ++ [badL]).map id := by simp
    rw [em]
    refine svO_map id (ls.map lnD ++ [badL]) (unG _) ⟨⟨.dead, rfl⟩, by simp⟩ ?_ ?_
    · rintro pre x suf e _ ⟨⟨c1, rfl⟩, hb⟩
      have hx : x ∈ ls.map lnD ++ [badL] := by rw [e]; simp
      rcases List.mem_append.mp hx with q | q
      · obtain ⟨l, hl, rfl⟩ := List.mem_map.mp q
        have e3 : inD id (.bool false) (.list [.bool true, .bool true, .bool true]) = some (.bool false) := rfl
        simp [-in_lst, -in_tup, szl, lnD, wipeG, okC_cons, isaD, yesM, e3]
        show okO (inD not (.str l.2.1) (.tuple (txs [("read" : Str), ("write" : Str)]))) _
        rw [in_txs (.inr rfl)]
        have hc : (!(([("read" : Str), ("write" : Str)] : List Str).contains l.2.1)) = false := by
          rcases h.d l hl with q | q <;> rw [q] <;> rfl
        rw [hc]
        simp
        refine ⟨⟨.dat (lnD l), rfl⟩, fun hm => ?_⟩
        rcases List.mem_append.mp hm with q | q
        · exact hb q
        · simp [badL] at q
      · have q : x = badL := by simpa using q
        subst q
        simp [-in_lst, -in_tup, szl, badL]
    · rintro g ⟨_, hb⟩
      exact absurd (by simp) hb
  generalize m_check_history [.tuple (ls.map lnD ++ [badL])] = r at hh ⊢
  rcases r with (_ | ⟨c, _⟩) | d
  · exact hh.elim
  · have hc : c = "UnfitNet" := hh
    subst hc
    exact Iff.rfl
  · exact hh.elim
theorem unfit_ok {ls : List Ln} (h : HW ls) {P : PyData → Prop} {X : String → Prop} : okP (m__law_unfit [.tuple (ls.map lnD ++ [badL])]) P X ↔ P (.bool true) := by
  have hb := fun {P : PyData → Prop} {X : String → Prop} => hist_bad h (P := P) (X := X)
  have s1 : ∀ {P : PyData → Prop} {X : String → Prop}, okP (m_alike_reads [.tuple (ls.map lnD ++ [badL])]) P X ↔ X "UnfitNet" := by
    intro P X
    unfold m_alike_reads
    rw [okP_runP]
    unfold b_alike_reads
    simp [-in_lst, -in_tup, hb]
  have j1 : ∀ {P : PyData → Prop} {X : String → Prop}, okP (m_judge_alike_reads [.tuple (ls.map lnD ++ [badL]), .none]) P X ↔ X "UnfitNet" := by
    intro P X
    unfold m_judge_alike_reads
    rw [okP_runP]
    unfold b_judge_alike_reads
    simp [-in_lst, -in_tup, hb]
  unfold m__law_unfit
  rw [okP_runP]
  unfold b__law_unfit
  simp [-in_lst, -in_tup, szl, svO_for_cons, sv_tryS, s1, j1]
end Pf
namespace Pf
open PySem Mi L2
theorem turn_ok {told : PyData} {S : PyData → Bool} {x4 : PyData} (hk : ∀ {P : PyData → Prop} {X : String → Prop}, okP (m_alike_reads [x4]) P X ↔ P told) (ha : ∀ {d : PyData}, Zd 10 d → ∀ {P : PyData → Prop} {X : String → Prop}, okP (m__law_accepts [x4, d]) P X ↔ P (.bool (S d)))
    (hj : ∀ {d : PyData}, Zd 10 d → ∀ {P : PyData → Prop} {X : String → Prop}, okP (m_judge_alike_reads [x4, d]) P X ↔ P (.bool (S d))) (ht : S told = true) (hz : Zd 10 told) (ho : ∀ s, St s → okS (m__law_odd s [told]) (fun z s' => Zd 10 z ∧ St s') fun _ => False)
    (hu0 : ∀ {i : Nat} {s : PyData} {seen : List PyData} {c6 c7 : Sl}, SV (ifS (notT (tru (callM m__law_unfit (consM (op2V addD 4 (tupM (consM (tupM (consM (ret (.str "t")) (consM (ret (.str "read")) nilM))) nilM))) nilM)))) (retS (ret (.bool false))) nxS) [.dead, .own false s, .dat (.list seen), .dat (.int i), .dat x4, .dat told, c6, c7] fun o => ∃ g1, o = .nx g1 ∧ g1 = [.dead, .own false s, .dat (.list seen), .dat (.int i), .dat x4, .dat told, c6, c7])
    {i : Nat} {s : PyData} {seen : List PyData} {c5 c6 c7 : Sl} (hs : St s) (hi : i < 2) (hl : seen.length ≤ i) (hq : ∀ x ∈ seen, Zd 10 x) : SV (seqS (setS 5 (callM m_alike_reads (consM (rdV 4) nilM))) (seqS (ifS (orT (notT (tru (callM m__law_accepts (consM (rdV 4) (consM (rdV 5) nilM))))) (tstM (op2 (isD not) (callM m_judge_alike_reads (consM (rdV 4) (consM (rdV 5) nilM))) (ret (.bool true))))) (retS (ret (.bool false))) nxS) (seqS (ifS (notT (tru (callM m__law_unfit (consM (op2V addD 4 (tupM (consM (tupM (consM (ret (.str "t")) (consM (ret (.str "read")) nilM))) nilM))) nilM)))) (retS (ret (.bool false))) nxS) (seqS (setS 2 (op2 addD (slMV slcD 2 (someO (op1 negD (ret (.int 3)))) noneO) (lstM (consM (rdV 5) nilM)))) (forS (rng1 (op2 addD (ret (.int 8)) (op1 lenD (pkV 2)))) (bName 6) (seqS (setS 7 (ifM (tstM (op2V ltD 6 (ret (.int 8)))) (callS m__law_odd 1 (consM (rdV 5) nilM)) (op2V ixD 2 (op2V subD 6 (ret (.int 8))))))
    (ifS (notT (tru (callM (m__law_same 8) (consM (callM m_judge_alike_reads (consM (rdV 4) (consM (rdV 7) nilM))) (consM (callM m__law_accepts (consM (rdV 4) (consM (rdV 7) nilM))) nilM))))) (retS (ret (.bool false))) nxS))))))) [.dead, .own false s, .dat (.list seen), .dat (.int i), .dat x4, c5, c6, c7] fun o => ∃ g2, o = .nx g2 ∧ ∃ (s : PyData) (seen : List PyData) (e3 e4 e5 e6 e7 : Sl), g2 = [.dead, .own false s, .dat (.list seen), e3, e4, e5, e6, e7] ∧ St s ∧ seen.length ≤ i + 1 ∧ ∀ x ∈ seen, Zd 10 x := by
  refine SV.step (fun g => g = [.dead, .own false s, .dat (.list seen), .dat (.int i), .dat x4, .dat told, c6, c7]) ?_ ?_
  · constructor
    simp [hk]
  rintro _ rfl
  refine SV.step (fun g => g = [.dead, .own false s, .dat (.list seen), .dat (.int i), .dat x4, .dat told, c6, c7]) ?_ ?_
  · constructor
    simp [ha hz, hj hz, ht]
  rintro _ rfl
  refine SV.step (fun g => g = [.dead, .own false s, .dat (.list seen), .dat (.int i), .dat x4, .dat told, c6, c7]) hu0 ?_
  rintro _ rfl
  have b1 : (cutD seen (some (-3)) none).length ≤ seen.length := cut_le
  have b2 := all_cut hq (lo := some (-3)) (hi := none)
  refine SV.step (fun g => ∃ seen : List PyData, (seen.length ≤ i + 1 ∧ ∀ x ∈ seen, Zd 10 x) ∧ g = [.dead, .own false s, .dat (.list seen), .dat (.int i), .dat x4, .dat told, c6, c7]) ?_ ?_
  · constructor
    simp [szl]
    refine ⟨by omega, by omega, fun x hx => ?_⟩
    rcases hx with hx | rfl
    · exact b2 x hx
    · exact hz
  rintro _ ⟨seen, ⟨hl, hq⟩, rfl⟩
  refine SV.rng (N := 8 + seen.length) (fun k g => ∃ (s : PyData) (ck ca : Sl), g = [.dead, .own false s, .dat (.list seen), .dat (.int i), .dat x4, .dat told, ck, ca] ∧ St s) (by omega) ?_ ⟨s, _, _, rfl, hs⟩ ?_ ?_
  · simp
  · rintro k hk _ ⟨s, ck, ca, rfl, hs⟩
    refine SV.step (fun g => ∃ (s : PyData) (asked : PyData) (ck : Sl), g = [.dead, .own false s, .dat (.list seen), .dat (.int i), .dat x4, .dat told, ck, .dat asked] ∧ Zd 10 asked ∧ St s) ?_ ?_
    · constructor
      simp
      by_cases c : (k : Int) < 8
      · simp [c]
        exact okS_imp (ho s hs) fun d s hs => ⟨s, d, ⟨rfl, rfl⟩, hs.1, hs.2⟩
      · simp [c]
        refine okO_at (by omega) (by omega) fun d hd => ?_
        exact ⟨s, d, ⟨rfl, rfl⟩, hq d hd, hs⟩
    · rintro _ ⟨s, asked, ck, rfl, hd, hs⟩
      constructor
      simp [ha hd, hj hd, same_bool]
      exact hs
  · rintro _ ⟨s, ck, ca, rfl, hs⟩
    exact ⟨_, rfl, s, seen, _, _, _, _, _, rfl, hs, hl, hq⟩
theorem at_txs3 {xs : List Str} {r : Int} (h0 : 0 ≤ r) (h1 : r < xs.length) {P : PyData → Prop} (h : ∀ x ∈ xs, P (.str x)) : okO (L2.atI (txs xs) r) P := by
  obtain ⟨x, e1, e2⟩ := at_txs h0 h1
  rw [e2]
  exact h x (List.mem_of_getElem? e1)
abbrev W3 : List Str := [("t" : Str), ("u2" : Str), ("v" : Str)]
abbrev D2 : List Str := [("read" : Str), ("write" : Str)]
abbrev T2 : List Str := [("x" : Str), ("y" : Str)]
theorem drawL {c0 c2 c3 c4 c5 c7 : Sl} {Q : List PyData → Gm → Prop} : ∀ {ds : List PyData} {s : PyData}, St s → (∀ (ls : List Ln) (s' : PyData), ls.length = ds.length → (∀ l ∈ ls, l.1 ∈ W3 ∧ l.2.1 ∈ D2 ∧ l.2.2 ∈ T2) → St s' → Q (ls.map lnD) [c0, .own false s', c2, c3, c4, c5, .dead, c7]) →
    okC (compL [6] (bName 6) yesM (tupM (consM (op2 ixD (lstM (consM (ret (.str "t")) (consM (ret (.str "u2")) (consM (ret (.str "v")) nilM)))) (callS m__law_next 1 (consM (ret (.int 3)) nilM))) (consM (op2 ixD (lstM (consM (ret (.str "read")) (consM (ret (.str "write")) nilM))) (callS m__law_next 1 (consM (ret (.int 2)) nilM))) (consM (op2 ixD (lstM (consM (ret (.str "x")) (consM (ret (.str "y")) nilM))) (callS m__law_next 1 (consM (ret (.int 2)) nilM))) nilM)))) ds [c0, .own false s, c2, c3, c4, c5, .dead, c7]) Q
  | [], s, hs, hQ => hQ [] s rfl (by simp) hs
  | d :: ds, s, hs, hQ => by
    rw [okC_cons]
    simp [-in_lst, -in_tup, yesM, szl]
    refine next_run hs (by omega) (by omega) fun r s r0 r1 hs => ?_
    simp [-in_lst, -in_tup, szl]
    refine at_txs3 (xs := W3) r0 (by simpa using r1) fun w hw => ?_
    try simp [-in_lst, -in_tup, szl]
    refine next_run hs (by omega) (by omega) fun r s r0 r1 hs => ?_
    simp [-in_lst, -in_tup, szl]
    refine at_txs3 (xs := D2) r0 (by simpa using r1) fun e he => ?_
    try simp [-in_lst, -in_tup, szl]
    refine next_run hs (by omega) (by omega) fun r s r0 r1 hs => ?_
    simp [-in_lst, -in_tup, szl]
    refine at_txs3 (xs := T2) r0 (by simpa using r1) fun t ht => ?_
    refine drawL hs fun ls s' hl hy hs' => ?_
    refine hQ ((w, e, t) :: ls) s' (by simp [hl]) (fun x hx => ?_) hs'
    rcases List.mem_cons.mp hx with rfl | q
    · exact ⟨hw, he, ht⟩
    · exact hy x q
theorem law_sv (ns : List Int) : sv b_law (lawStart 8 ns) fun o => ∃ g, o = .rt (.bool true) g := by
  have e0 : lawStart 8 ns = [.dead, .own false (.list [.list (ns.map .int), .int 0, .int 0, .int 1]), .dead, .dead, .dead, .dead, .dead, .dead] := rfl
  rw [e0]
  have hs : St (.list [.list (ns.map .int), .int 0, .int 0, .int 1]) := ⟨ns, 0, 0, 1, rfl, by omega, by omega⟩
  generalize (PyData.list [.list (ns.map .int), .int 0, .int 0, .int 1]) = s at hs
  refine SV.h ?_
  unfold b_law
  refine SV.step (fun g => g = [.dead, .own false s, .dat (.list []), .dead, .dead, .dead, .dead, .dead]) ?_ ?_
  · constructor
    simp [szl]
  rintro _ rfl
  refine SV.step (fun g => ∃ (s : PyData) (seen : List PyData) (c3 c4 c5 c6 c7 : Sl), g = [.dead, .own false s, .dat (.list seen), c3, c4, c5, c6, c7] ∧ St s ∧ seen.length ≤ 2 ∧ ∀ x ∈ seen, Zd 10 x) ?_ ?_
  · refine SV.rng (N := 2) (fun i g => ∃ (s : PyData) (seen : List PyData) (c3 c4 c5 c6 c7 : Sl), g = [.dead, .own false s, .dat (.list seen), c3, c4, c5, c6, c7] ∧ St s ∧ seen.length ≤ i ∧ ∀ x ∈ seen, Zd 10 x) (by omega) ?_ ⟨s, [], _, _, _, _, _, rfl, hs, by simp, by simp⟩ ?_ ?_
    · simp
    · rintro i hi _ ⟨s, seen, c3, c4, c5, c6, c7, rfl, hs, hl, hq⟩
      refine SV.step (fun g => ∃ (L : List Ln) (s : PyData) (c6 : Sl), g = [.dead, .own false s, .dat (.list seen), .dat (.int i), .dat (.tuple (L.map lnD)), c5, c6, c7] ∧ HX L ∧ St s) ?_ ?_
      · constructor
        simp [-in_lst, -in_tup, szl]
        refine next_run hs (by omega) (by omega) fun r s r0 r1 hs => ?_
        simp [-in_lst, -in_tup, szl, wipeG]
        refine ⟨by omega, by simp [rngD]; omega, ?_⟩
        refine drawL hs fun ls s' hl hy hs' => ?_
        have hl7 : ls.length ≤ 7 := by rw [hl]; simp [rngD]; omega
        simp [-in_lst, -in_tup, szl]
        refine ⟨ls, s', ⟨rfl, rfl⟩, ⟨⟨hl7, fun x hx => by simpa using (hy x hx).2.1, fun x hx => (hy x hx).1⟩, fun x hx => (hy x hx).2.2⟩, hs'⟩
      rintro _ ⟨L, s, c6, rfl, hL, hs⟩
      have hal := alike_ok hL
      obtain ⟨told, em, hta, w, ys, rfl, T⟩ : ∃ told, m_alike_reads [.tuple (L.map lnD)] = .ok told ∧ ToldS L told := by
        generalize m_alike_reads [.tuple (L.map lnD)] = r at hal
        rcases r with (_ | ⟨c, _⟩) | d
        · exact hal.elim
        · exact hal.elim
        · exact ⟨d, rfl, hal⟩
      refine turn_ok (told := .tuple (w :: ys)) (S := accB L) (eq_iff em) (fun hz => accepts_ok hL.toHW hz) (fun hz => judge_ok hL.toHW hz) hta T.zd (fun s hs => odd_ok T hs) ?_ hs hi hl hq
      intros
      have u1 := fun {P : PyData → Prop} {X : String → Prop} => unfit_ok (P := P) (X := X) hL.toHW
      have hl7 := hL.l
      constructor
      simp [-in_lst, -in_tup, szl]
      refine ⟨by omega, ?_⟩
      show okP (m__law_unfit [.tuple (L.map lnD ++ [badL])]) _ _
      rw [u1]
      simp
    · exact fun g h => ⟨g, rfl, h⟩
  · rintro _ ⟨s, seen, c3, c4, c5, c6, c7, rfl, hs, hl, hq⟩
    constructor
    simp
theorem law_true : ∀ ns : List Int, ns.length ≤ 63 → ∃ g, b_law (lawStart 8 ns) = .rt (.bool true) g := fun ns _ => by
  have h := law_sv ns
  unfold sv svO at h
  generalize b_law (lawStart 8 ns) = o at h ⊢
  cases o with
  | stuck => exact h.elim
  | _ => exact h
end Pf
open PySem PySem.Spec PyProof.Rows L2 Mi Pf in
theorem Pf.all_mk {l : PySem.W.OpenLaw} {w : World} {K : PySem.W.Frag} {h : Heap} {mg : Mg} {fa f0 f1 f2 f3 f4 f5 f6 f7 f8 f9 f10 f11 f12 f13 f14 f15 f16 f17 f18 f19 f20 f21 f22 f23 f24 f25 f26 f27 C0 C1 : Addr} (X : K.In h) (G : h.Ns mainGlobals mg) (hfa : mg "law" = some (.ref fa))
    {od0 an0 od1 an1 od2 an2 od3 an3 od4 an4 od5 an5 od6 an6 od7 an7 od8 an8 od9 an9 od10 an10 od11 an11 od12 an12 od13 an13 od14 an14 od15 an15 od16 an16 od17 an17 od18 an18 od19 an19 od20 an20 od21 an21 od22 an22 od23 an23 od24 an24 od25 an25 od26 an26 od27 an27 : Option Addr} {sl0 sl1 sl2 sl3 sl4 sl5 sl6 sl7 sl8 sl9 sl10 sl11 sl12 sl13 sl14 sl15 sl16 sl17 sl18 sl19 sl20 sl21 sl22 sl23 sl24 sl25 sl26 sl27 : Array (Option Value)} {oc0 kV0 dc0 pm0 cd0 ct0 oc1 kV1 dc1 pm1 cd1 ct1 oc2 kV2 dc2 pm2 cd2 ct2 oc3 kV3 dc3 pm3 cd3 ct3 oc4 kV4 dc4 pm4 cd4 ct4 oc5 kV5 dc5 pm5 cd5 ct5 oc6 kV6 dc6 pm6 cd6 ct6 oc7 kV7 dc7 pm7 cd7 ct7 oc8 kV8 dc8 pm8 cd8 ct8 oc9 kV9 dc9 pm9 cd9 ct9 oc10 kV10 dc10 pm10 cd10 ct10 oc11 kV11 dc11 pm11 cd11 ct11 oc12 kV12 dc12 pm12 cd12 ct12 oc13 kV13 dc13 pm13 cd13 ct13 oc14 kV14 dc14 pm14 cd14 ct14 oc15 kV15 dc15 pm15 cd15 ct15 oc16 kV16 dc16 pm16 cd16 ct16 oc17 kV17 dc17 pm17 cd17 ct17 oc18 kV18 dc18 pm18 cd18 ct18 oc19 kV19 dc19 pm19 cd19 ct19 oc20 kV20 dc20 pm20 cd20 ct20 oc21 kV21 dc21 pm21 cd21 ct21 oc22 kV22 dc22 pm22 cd22 ct22 oc23 kV23 dc23 pm23 cd23 ct23 oc24 kV24 dc24 pm24 cd24 ct24 oc25 kV25 dc25 pm25 cd25 ct25 oc26 kV26 dc26 pm26 cd26 ct26 oc27 kV27 dc27 pm27 cd27 ct27 : Value}
    (a0 : PySem.W.nsIn K mainGlobals "is_whole" = some (some (.ref f0))) (l0 : K.lookup f0 = some ⟨oc0, od0, .func (PySem.W.fnOf "is_whole" "is_whole" (defArgs s_is_whole) (defBody s_is_whole) (defScope s_is_whole) .none kV0 dc0 pm0 an0 cd0 ct0), sl0⟩) (c0 : PySem.W.codeIn K cd0 "is_whole" = true) (k0 : PySem.W.keepIn K (.ref f0) = true)
    (a1 : PySem.W.nsIn K mainGlobals "is_told" = some (some (.ref f1))) (l1 : K.lookup f1 = some ⟨oc1, od1, .func (PySem.W.fnOf "is_told" "is_told" (defArgs s_is_told) (defBody s_is_told) (defScope s_is_told) .none kV1 dc1 pm1 an1 cd1 ct1), sl1⟩) (c1 : PySem.W.codeIn K cd1 "is_told" = true) (k1 : PySem.W.keepIn K (.ref f1) = true)
    (a2 : PySem.W.nsIn K mainGlobals "check_history" = some (some (.ref f2))) (l2 : K.lookup f2 = some ⟨oc2, od2, .func (PySem.W.fnOf "check_history" "check_history" (defArgs s_check_history) (defBody s_check_history) (defScope s_check_history) .none kV2 dc2 pm2 an2 cd2 ct2), sl2⟩) (c2 : PySem.W.codeIn K cd2 "check_history" = true) (k2 : PySem.W.keepIn K (.ref f2) = true)
    (a3 : PySem.W.nsIn K mainGlobals "orders" = some (some (.ref f3))) (l3 : K.lookup f3 = some ⟨oc3, od3, .func (PySem.W.fnOf "orders" "orders" (defArgs s_orders) (defBody s_orders) (defScope s_orders) .none kV3 dc3 pm3 an3 cd3 ct3), sl3⟩) (c3 : PySem.W.codeIn K cd3 "orders" = true) (k3 : PySem.W.keepIn K (.ref f3) = true)
    (a4 : PySem.W.nsIn K mainGlobals "whole_order" = some (some (.ref f4))) (l4 : K.lookup f4 = some ⟨oc4, od4, .func (PySem.W.fnOf "whole_order" "whole_order" (defArgs s_whole_order) (defBody s_whole_order) (defScope s_whole_order) .none kV4 dc4 pm4 an4 cd4 ct4), sl4⟩) (c4 : PySem.W.codeIn K cd4 "whole_order" = true) (k4 : PySem.W.keepIn K (.ref f4) = true)
    (a5 : PySem.W.nsIn K mainGlobals "reads_of" = some (some (.ref f5))) (l5 : K.lookup f5 = some ⟨oc5, od5, .func (PySem.W.fnOf "reads_of" "reads_of" (defArgs s_reads_of) (defBody s_reads_of) (defScope s_reads_of) .none kV5 dc5 pm5 an5 cd5 ct5), sl5⟩) (c5 : PySem.W.codeIn K cd5 "reads_of" = true) (k5 : PySem.W.keepIn K (.ref f5) = true)
    (a6 : PySem.W.nsIn K mainGlobals "same_reads" = some (some (.ref f6))) (l6 : K.lookup f6 = some ⟨oc6, od6, .func (PySem.W.fnOf "same_reads" "same_reads" (defArgs s_same_reads) (defBody s_same_reads) (defScope s_same_reads) .none kV6 dc6 pm6 an6 cd6 ct6), sl6⟩) (c6 : PySem.W.codeIn K cd6 "same_reads" = true) (k6 : PySem.W.keepIn K (.ref f6) = true)
    (a7 : PySem.W.nsIn K mainGlobals "first_unlike" = some (some (.ref f7))) (l7 : K.lookup f7 = some ⟨oc7, od7, .func (PySem.W.fnOf "first_unlike" "first_unlike" (defArgs s_first_unlike) (defBody s_first_unlike) (defScope s_first_unlike) .none kV7 dc7 pm7 an7 cd7 ct7), sl7⟩) (c7 : PySem.W.codeIn K cd7 "first_unlike" = true) (k7 : PySem.W.keepIn K (.ref f7) = true)
    (a8 : PySem.W.nsIn K mainGlobals "alike_reads" = some (some (.ref f8))) (l8 : K.lookup f8 = some ⟨oc8, od8, .func (PySem.W.fnOf "alike_reads" "alike_reads" (defArgs s_alike_reads) (defBody s_alike_reads) (defScope s_alike_reads) .none kV8 dc8 pm8 an8 cd8 ct8), sl8⟩) (c8 : PySem.W.codeIn K cd8 "alike_reads" = true) (k8 : PySem.W.keepIn K (.ref f8) = true)
    (a9 : PySem.W.nsIn K mainGlobals "judge_alike_reads" = some (some (.ref f9))) (l9 : K.lookup f9 = some ⟨oc9, od9, .func (PySem.W.fnOf "judge_alike_reads" "judge_alike_reads" (defArgs s_judge_alike_reads) (defBody s_judge_alike_reads) (defScope s_judge_alike_reads) .none kV9 dc9 pm9 an9 cd9 ct9), sl9⟩) (c9 : PySem.W.codeIn K cd9 "judge_alike_reads" = true) (k9 : PySem.W.keepIn K (.ref f9) = true)
    (a10 : PySem.W.nsIn K mainGlobals "_law_next" = some (some (.ref f10))) (l10 : K.lookup f10 = some ⟨oc10, od10, .func (PySem.W.fnOf "_law_next" "_law_next" (defArgs s__law_next) (defBody s__law_next) (defScope s__law_next) .none kV10 dc10 pm10 an10 cd10 ct10), sl10⟩) (c10 : PySem.W.codeIn K cd10 "_law_next" = true) (k10 : PySem.W.keepIn K (.ref f10) = true)
    (a11 : PySem.W.nsIn K mainGlobals "_law_same" = some (some (.ref f11))) (l11 : K.lookup f11 = some ⟨oc11, od11, .func (PySem.W.fnOf "_law_same" "_law_same" (defArgs s__law_same) (defBody s__law_same) (defScope s__law_same) .none kV11 dc11 pm11 an11 cd11 ct11), sl11⟩) (c11 : PySem.W.codeIn K cd11 "_law_same" = true) (k11 : PySem.W.keepIn K (.ref f11) = true)
    (a12 : PySem.W.nsIn K mainGlobals "_law_is_whole" = some (some (.ref f12))) (l12 : K.lookup f12 = some ⟨oc12, od12, .func (PySem.W.fnOf "_law_is_whole" "_law_is_whole" (defArgs s__law_is_whole) (defBody s__law_is_whole) (defScope s__law_is_whole) .none kV12 dc12 pm12 an12 cd12 ct12), sl12⟩) (c12 : PySem.W.codeIn K cd12 "_law_is_whole" = true) (k12 : PySem.W.keepIn K (.ref f12) = true)
    (a13 : PySem.W.nsIn K mainGlobals "_law_is" = some (some (.ref f13))) (l13 : K.lookup f13 = some ⟨oc13, od13, .func (PySem.W.fnOf "_law_is" "_law_is" (defArgs s__law_is) (defBody s__law_is) (defScope s__law_is) .none kV13 dc13 pm13 an13 cd13 ct13), sl13⟩) (c13 : PySem.W.codeIn K cd13 "_law_is" = true) (k13 : PySem.W.keepIn K (.ref f13) = true)
    (a14 : PySem.W.nsIn K mainGlobals "_law_are_texts" = some (some (.ref f14))) (l14 : K.lookup f14 = some ⟨oc14, od14, .func (PySem.W.fnOf "_law_are_texts" "_law_are_texts" (defArgs s__law_are_texts) (defBody s__law_are_texts) (defScope s__law_are_texts) .none kV14 dc14 pm14 an14 cd14 ct14), sl14⟩) (c14 : PySem.W.codeIn K cd14 "_law_are_texts" = true) (k14 : PySem.W.keepIn K (.ref f14) = true)
    (a15 : PySem.W.nsIn K mainGlobals "_law_changed" = some (some (.ref f15))) (l15 : K.lookup f15 = some ⟨oc15, od15, .func (PySem.W.fnOf "_law_changed" "_law_changed" (defArgs s__law_changed) (defBody s__law_changed) (defScope s__law_changed) .none kV15 dc15 pm15 an15 cd15 ct15), sl15⟩) (c15 : PySem.W.codeIn K cd15 "_law_changed" = true) (k15 : PySem.W.keepIn K (.ref f15) = true)
    (a16 : PySem.W.nsIn K mainGlobals "_law_ints" = some (some (.ref f16))) (l16 : K.lookup f16 = some ⟨oc16, od16, .func (PySem.W.fnOf "_law_ints" "_law_ints" (defArgs s__law_ints) (defBody s__law_ints) (defScope s__law_ints) .none kV16 dc16 pm16 an16 cd16 ct16), sl16⟩) (c16 : PySem.W.codeIn K cd16 "_law_ints" = true) (k16 : PySem.W.keepIn K (.ref f16) = true)
    (a17 : PySem.W.nsIn K mainGlobals "_law_exchanged" = some (some (.ref f17))) (l17 : K.lookup f17 = some ⟨oc17, od17, .func (PySem.W.fnOf "_law_exchanged" "_law_exchanged" (defArgs s__law_exchanged) (defBody s__law_exchanged) (defScope s__law_exchanged) .none kV17 dc17 pm17 an17 cd17 ct17), sl17⟩) (c17 : PySem.W.codeIn K cd17 "_law_exchanged" = true) (k17 : PySem.W.keepIn K (.ref f17) = true)
    (a18 : PySem.W.nsIn K mainGlobals "_law_cut" = some (some (.ref f18))) (l18 : K.lookup f18 = some ⟨oc18, od18, .func (PySem.W.fnOf "_law_cut" "_law_cut" (defArgs s__law_cut) (defBody s__law_cut) (defScope s__law_cut) .none kV18 dc18 pm18 an18 cd18 ct18), sl18⟩) (c18 : PySem.W.codeIn K cd18 "_law_cut" = true) (k18 : PySem.W.keepIn K (.ref f18) = true)
    (a19 : PySem.W.nsIn K mainGlobals "_law_turned_about" = some (some (.ref f19))) (l19 : K.lookup f19 = some ⟨oc19, od19, .func (PySem.W.fnOf "_law_turned_about" "_law_turned_about" (defArgs s__law_turned_about) (defBody s__law_turned_about) (defScope s__law_turned_about) .none kV19 dc19 pm19 an19 cd19 ct19), sl19⟩) (c19 : PySem.W.codeIn K cd19 "_law_turned_about" = true) (k19 : PySem.W.keepIn K (.ref f19) = true)
    (a20 : PySem.W.nsIn K mainGlobals "_law_odd" = some (some (.ref f20))) (l20 : K.lookup f20 = some ⟨oc20, od20, .func (PySem.W.fnOf "_law_odd" "_law_odd" (defArgs s__law_odd) (defBody s__law_odd) (defScope s__law_odd) .none kV20 dc20 pm20 an20 cd20 ct20), sl20⟩) (c20 : PySem.W.codeIn K cd20 "_law_odd" = true) (k20 : PySem.W.keepIn K (.ref f20) = true)
    (a21 : PySem.W.nsIn K mainGlobals "_law_works" = some (some (.ref f21))) (l21 : K.lookup f21 = some ⟨oc21, od21, .func (PySem.W.fnOf "_law_works" "_law_works" (defArgs s__law_works) (defBody s__law_works) (defScope s__law_works) .none kV21 dc21 pm21 an21 cd21 ct21), sl21⟩) (c21 : PySem.W.codeIn K cd21 "_law_works" = true) (k21 : PySem.W.keepIn K (.ref f21) = true)
    (a22 : PySem.W.nsIn K mainGlobals "_law_reads" = some (some (.ref f22))) (l22 : K.lookup f22 = some ⟨oc22, od22, .func (PySem.W.fnOf "_law_reads" "_law_reads" (defArgs s__law_reads) (defBody s__law_reads) (defScope s__law_reads) .none kV22 dc22 pm22 an22 cd22 ct22), sl22⟩) (c22 : PySem.W.codeIn K cd22 "_law_reads" = true) (k22 : PySem.W.keepIn K (.ref f22) = true)
    (a23 : PySem.W.nsIn K mainGlobals "_law_whole" = some (some (.ref f23))) (l23 : K.lookup f23 = some ⟨oc23, od23, .func (PySem.W.fnOf "_law_whole" "_law_whole" (defArgs s__law_whole) (defBody s__law_whole) (defScope s__law_whole) .none kV23 dc23 pm23 an23 cd23 ct23), sl23⟩) (c23 : PySem.W.codeIn K cd23 "_law_whole" = true) (k23 : PySem.W.keepIn K (.ref f23) = true)
    (a24 : PySem.W.nsIn K mainGlobals "_law_orders" = some (some (.ref f24))) (l24 : K.lookup f24 = some ⟨oc24, od24, .func (PySem.W.fnOf "_law_orders" "_law_orders" (defArgs s__law_orders) (defBody s__law_orders) (defScope s__law_orders) .none kV24 dc24 pm24 an24 cd24 ct24), sl24⟩) (c24 : PySem.W.codeIn K cd24 "_law_orders" = true) (k24 : PySem.W.keepIn K (.ref f24) = true)
    (a25 : PySem.W.nsIn K mainGlobals "_law_accepts" = some (some (.ref f25))) (l25 : K.lookup f25 = some ⟨oc25, od25, .func (PySem.W.fnOf "_law_accepts" "_law_accepts" (defArgs s__law_accepts) (defBody s__law_accepts) (defScope s__law_accepts) .none kV25 dc25 pm25 an25 cd25 ct25), sl25⟩) (c25 : PySem.W.codeIn K cd25 "_law_accepts" = true) (k25 : PySem.W.keepIn K (.ref f25) = true)
    (a26 : PySem.W.nsIn K mainGlobals "_law_unfit" = some (some (.ref f26))) (l26 : K.lookup f26 = some ⟨oc26, od26, .func (PySem.W.fnOf "_law_unfit" "_law_unfit" (defArgs s__law_unfit) (defBody s__law_unfit) (defScope s__law_unfit) .none kV26 dc26 pm26 an26 cd26 ct26), sl26⟩) (c26 : PySem.W.codeIn K cd26 "_law_unfit" = true) (k26 : PySem.W.keepIn K (.ref f26) = true)
    (a27 : PySem.W.nsIn K mainGlobals "law" = some (some (.ref f27))) (l27 : K.lookup f27 = some ⟨oc27, od27, .func (PySem.W.fnOf "law" "law" (defArgs s_law) (defBody s_law) (defScope s_law) .none kV27 dc27 pm27 an27 cd27 ct27), sl27⟩) (c27 : PySem.W.codeIn K cd27 "law" = true) (k27 : PySem.W.keepIn K (.ref f27) = true)
    (z0 : PySem.W.nsIn K mainGlobals "ValueError" = some none)
    (z1 : PySem.W.nsIn K mainGlobals "bool" = some none)
    (z2 : PySem.W.nsIn K mainGlobals "int" = some none)
    (z3 : PySem.W.nsIn K mainGlobals "isinstance" = some none)
    (z4 : PySem.W.nsIn K mainGlobals "len" = some none)
    (z5 : PySem.W.nsIn K mainGlobals "list" = some none)
    (z6 : PySem.W.nsIn K mainGlobals "range" = some none)
    (z7 : PySem.W.nsIn K mainGlobals "set" = some none)
    (z8 : PySem.W.nsIn K mainGlobals "sorted" = some none)
    (z9 : PySem.W.nsIn K mainGlobals "str" = some none)
    (z10 : PySem.W.nsIn K mainGlobals "tuple" = some none)
    (z11 : PySem.W.nsIn K mainGlobals "zip" = some none)
    (gC0 : PySem.W.nsIn K mainGlobals "TooWide" = some (some (.ref C0))) (kC0 : PySem.W.keepIn K (.ref C0) = true) (sB0 : PySem.W.subIn K (.ref C0) (.type "BaseException") = some true) (tC0 : PySem.W.typeIn K (.ref C0) = some (.type "type")) (xI0 : PySem.W.excIn K C0 [.type "ValueError", .type "Exception", .type "BaseException", .type "object"] "ValueError.__new__" = true)
    (gC1 : PySem.W.nsIn K mainGlobals "UnfitNet" = some (some (.ref C1))) (kC1 : PySem.W.keepIn K (.ref C1) = true) (sB1 : PySem.W.subIn K (.ref C1) (.type "BaseException") = some true) (tC1 : PySem.W.typeIn K (.ref C1) = some (.type "type")) (xI1 : PySem.W.excIn K C1 [.type "ValueError", .type "Exception", .type "BaseException", .type "object"] "ValueError.__new__" = true)
    (hg1 : PySem.W.findIn K (.ref C1) "__getattribute__" = some (some (.builtin "BaseException.__getattribute__"))) (hk1 : PySem.W.findIn K (.ref C1) "__getattr__" = some none) (hd1 : PySem.W.hasDictIn K C1 = true) (ha1 : PySem.W.findIn K (.ref C1) "__class__" = some (some (.builtin "object.__class__"))) (hn1 : PySem.W.specialIn K (.builtin "object.__class__") "__get__" = some (some (.builtin "getset_descriptor.__get__"))) (ht1 : PySem.W.takesIn K (.builtin "object.__class__") = some true) (hm1 : PySem.W.mroIn K C1 (.type "object") = some true) (sC1 : PySem.W.subIn K (.ref C1) (.ref C1) = some true) (kV_1 : PySem.W.kitOne K (.ref C1) (.type "ValueError") = some true)
    : ∃ fd : FuncData, (∀ (s : Shared) (u : Value), BindsTo s fd ⟨[u], []⟩ [("script", u)]) ∧ ∀ base : Heap, K.In base → base.Ns mainGlobals mg → FnOk l.prog w K mg base (L2N.CX l.prog w) 13 fa fd ["script"] (spLaw K) := by
  have T : Tp K mg := {
    d_is_whole := Df.mk' G X a0 l0 c0 k0 fun _ _ _ _ _ _ us hl => match us, hl with | [_], _ => rfl
    d_is_told := Df.mk' G X a1 l1 c1 k1 fun _ _ _ _ _ _ us hl => match us, hl with | [_, _, _], _ => rfl
    d_check_history := Df.mk' G X a2 l2 c2 k2 fun _ _ _ _ _ _ us hl => match us, hl with | [_], _ => rfl
    d_orders := Df.mk' G X a3 l3 c3 k3 fun _ _ _ _ _ _ us hl => match us, hl with | [_], _ => rfl
    d_whole_order := Df.mk' G X a4 l4 c4 k4 fun _ _ _ _ _ _ us hl => match us, hl with | [_, _], _ => rfl
    d_reads_of := Df.mk' G X a5 l5 c5 k5 fun _ _ _ _ _ _ us hl => match us, hl with | [_], _ => rfl
    d_same_reads := Df.mk' G X a6 l6 c6 k6 fun _ _ _ _ _ _ us hl => match us, hl with | [_, _], _ => rfl
    d_first_unlike := Df.mk' G X a7 l7 c7 k7 fun _ _ _ _ _ _ us hl => match us, hl with | [_, _], _ => rfl
    d_alike_reads := Df.mk' G X a8 l8 c8 k8 fun _ _ _ _ _ _ us hl => match us, hl with | [_], _ => rfl
    d_judge_alike_reads := Df.mk' G X a9 l9 c9 k9 fun _ _ _ _ _ _ us hl => match us, hl with | [_, _], _ => rfl
    d__law_next := Df.mk' G X a10 l10 c10 k10 fun _ _ _ _ _ _ us hl => match us, hl with | [_, _], _ => rfl
    d__law_same := Df.mk' G X a11 l11 c11 k11 fun _ _ _ _ _ _ us hl => match us, hl with | [_, _], _ => rfl
    d__law_is_whole := Df.mk' G X a12 l12 c12 k12 fun _ _ _ _ _ _ us hl => match us, hl with | [_], _ => rfl
    d__law_is := Df.mk' G X a13 l13 c13 k13 fun _ _ _ _ _ _ us hl => match us, hl with | [_, _, _], _ => rfl
    d__law_are_texts := Df.mk' G X a14 l14 c14 k14 fun _ _ _ _ _ _ us hl => match us, hl with | [_], _ => rfl
    d__law_changed := Df.mk' G X a15 l15 c15 k15 fun _ _ _ _ _ _ us hl => match us, hl with | [_, _], _ => rfl
    d__law_ints := Df.mk' G X a16 l16 c16 k16 fun _ _ _ _ _ _ us hl => match us, hl with | [_], _ => rfl
    d__law_exchanged := Df.mk' G X a17 l17 c17 k17 fun _ _ _ _ _ _ us hl => match us, hl with | [_, _, _], _ => rfl
    d__law_cut := Df.mk' G X a18 l18 c18 k18 fun _ _ _ _ _ _ us hl => match us, hl with | [_, _], _ => rfl
    d__law_turned_about := Df.mk' G X a19 l19 c19 k19 fun _ _ _ _ _ _ us hl => match us, hl with | [_, _], _ => rfl
    d__law_odd := Df.mk' G X a20 l20 c20 k20 fun _ _ _ _ _ _ us hl => match us, hl with | [_, _], _ => rfl
    d__law_works := Df.mk' G X a21 l21 c21 k21 fun _ _ _ _ _ _ us hl => match us, hl with | [_], _ => rfl
    d__law_reads := Df.mk' G X a22 l22 c22 k22 fun _ _ _ _ _ _ us hl => match us, hl with | [_], _ => rfl
    d__law_whole := Df.mk' G X a23 l23 c23 k23 fun _ _ _ _ _ _ us hl => match us, hl with | [_, _], _ => rfl
    d__law_orders := Df.mk' G X a24 l24 c24 k24 fun _ _ _ _ _ _ us hl => match us, hl with | [_], _ => rfl
    d__law_accepts := Df.mk' G X a25 l25 c25 k25 fun _ _ _ _ _ _ us hl => match us, hl with | [_, _], _ => rfl
    d__law_unfit := Df.mk' G X a26 l26 c26 k26 fun _ _ _ _ _ _ us hl => match us, hl with | [_], _ => rfl
    d_law := Df.mk' G X a27 l27 c27 k27 fun _ _ _ _ _ _ us hl => match us, hl with | [_], _ => rfl
    z_ValueError := PySem.W.mg_none_of X G z0
    z_bool := PySem.W.mg_none_of X G z1
    z_int := PySem.W.mg_none_of X G z2
    z_isinstance := PySem.W.mg_none_of X G z3
    z_len := PySem.W.mg_none_of X G z4
    z_list := PySem.W.mg_none_of X G z5
    z_range := PySem.W.mg_none_of X G z6
    z_set := PySem.W.mg_none_of X G z7
    z_sorted := PySem.W.mg_none_of X G z8
    z_str := PySem.W.mg_none_of X G z9
    z_tuple := PySem.W.mg_none_of X G z10
    z_zip := PySem.W.mg_none_of X G z11
    C_TooWide := C0
    t_TooWide := ⟨PySem.W.mg_of X G gC0, kC0, sB0, tC0⟩
    x_TooWide := xI0
    C_UnfitNet := C1
    t_UnfitNet := ⟨PySem.W.mg_of X G gC1, kC1, sB1, tC1⟩
    x_UnfitNet := xI1
    h_UnfitNet := ⟨⟨hg1, hk1, sB1, hd1, ha1, hn1, ht1, hm1⟩, sC1, tC1, kV_1⟩
  }
  have e := hfa.symm.trans T.d_law.g
  have e2 : fa = T.d_law.f := by cases e; rfl
  subst e2
  have b := T.d_law.b
  refine ⟨T.d_law.fd, fun s u => ?_, fun base _ _ => ok_law (K := ⟨K, w⟩) T law_true⟩
  obtain ⟨oc, od, kV, doc, pm, an, cdv, ct, osl, e, lk, hc⟩ := T.d_law.F.ex
  rw [e]
  exact .of_eq rfl
open PySem PySem.W PyProof.Rows in
set_option maxRecDepth 100000 in
set_option maxHeartbeats 0 in
theorem PySem.Challenge.cw_netwhole_k67_reads_that_are_alike_holds : PySem.Challenge.rw_netwhole_k67_reads_that_are_alike.Holds := by
  w_on; o_law; k_head; (case hw => w_witness2)
  k_fill
  refine Mi.walkLaw (l := PySem.Challenge.rw_netwhole_k67_reads_that_are_alike) (k := 13) ⟨rfl, by decide, by decide⟩ rfl rfl (fun w h Y => PySem.W.kIn_of Y) ?F
  case F =>
    intro w mg fa h KX G hmg
    refine' Pf.all_mk KX G hmg ?a0 ?l0 ?c0 ?k0 ?a1 ?l1 ?c1 ?k1 ?a2 ?l2 ?c2 ?k2 ?a3 ?l3 ?c3 ?k3 ?a4 ?l4 ?c4 ?k4 ?a5 ?l5 ?c5 ?k5 ?a6 ?l6 ?c6 ?k6 ?a7 ?l7 ?c7 ?k7 ?a8 ?l8 ?c8 ?k8 ?a9 ?l9 ?c9 ?k9 ?a10 ?l10 ?c10 ?k10 ?a11 ?l11 ?c11 ?k11 ?a12 ?l12 ?c12 ?k12 ?a13 ?l13 ?c13 ?k13 ?a14 ?l14 ?c14 ?k14 ?a15 ?l15 ?c15 ?k15 ?a16 ?l16 ?c16 ?k16 ?a17 ?l17 ?c17 ?k17 ?a18 ?l18 ?c18 ?k18 ?a19 ?l19 ?c19 ?k19 ?a20 ?l20 ?c20 ?k20 ?a21 ?l21 ?c21 ?k21 ?a22 ?l22 ?c22 ?k22 ?a23 ?l23 ?c23 ?k23 ?a24 ?l24 ?c24 ?k24 ?a25 ?l25 ?c25 ?k25 ?a26 ?l26 ?c26 ?k26 ?a27 ?l27 ?c27 ?k27 ?z0 ?z1 ?z2 ?z3 ?z4 ?z5 ?z6 ?z7 ?z8 ?z9 ?z10 ?z11 ?gC0 ?kC0 ?sB0 ?tC0 ?xI0 ?gC1 ?kC1 ?sB1 ?tC1 ?xI1 ?hg1 ?hk1 ?hd1 ?ha1 ?hn1 ?ht1 ?hm1 ?sC1 ?kV_1
    (case a0 => k_is)
    (case l0 => k_is)
    (case c0 => k_is)
    (case k0 => k_is)
    (case a1 => k_is)
    (case l1 => k_is)
    (case c1 => k_is)
    (case k1 => k_is)
    (case a2 => k_is)
    (case l2 => k_is)
    (case c2 => k_is)
    (case k2 => k_is)
    (case a3 => k_is)
    (case l3 => k_is)
    (case c3 => k_is)
    (case k3 => k_is)
    (case a4 => k_is)
    (case l4 => k_is)
    (case c4 => k_is)
    (case k4 => k_is)
    (case a5 => k_is)
    (case l5 => k_is)
    (case c5 => k_is)
    (case k5 => k_is)
    (case a6 => k_is)
    (case l6 => k_is)
    (case c6 => k_is)
    (case k6 => k_is)
    (case a7 => k_is)
    (case l7 => k_is)
    (case c7 => k_is)
    (case k7 => k_is)
    (case a8 => k_is)
    (case l8 => k_is)
    (case c8 => k_is)
    (case k8 => k_is)
    (case a9 => k_is)
    (case l9 => k_is)
    (case c9 => k_is)
    (case k9 => k_is)
    (case a10 => k_is)
    (case l10 => k_is)
    (case c10 => k_is)
    (case k10 => k_is)
    (case a11 => k_is)
    (case l11 => k_is)
    (case c11 => k_is)
    (case k11 => k_is)
    (case a12 => k_is)
    (case l12 => k_is)
    (case c12 => k_is)
    (case k12 => k_is)
    (case a13 => k_is)
    (case l13 => k_is)
    (case c13 => k_is)
    (case k13 => k_is)
    (case a14 => k_is)
    (case l14 => k_is)
    (case c14 => k_is)
    (case k14 => k_is)
    (case a15 => k_is)
    (case l15 => k_is)
    (case c15 => k_is)
    (case k15 => k_is)
    (case a16 => k_is)
    (case l16 => k_is)
    (case c16 => k_is)
    (case k16 => k_is)
    (case a17 => k_is)
    (case l17 => k_is)
    (case c17 => k_is)
    (case k17 => k_is)
    (case a18 => k_is)
    (case l18 => k_is)
    (case c18 => k_is)
    (case k18 => k_is)
    (case a19 => k_is)
    (case l19 => k_is)
    (case c19 => k_is)
    (case k19 => k_is)
    (case a20 => k_is)
    (case l20 => k_is)
    (case c20 => k_is)
    (case k20 => k_is)
    (case a21 => k_is)
    (case l21 => k_is)
    (case c21 => k_is)
    (case k21 => k_is)
    (case a22 => k_is)
    (case l22 => k_is)
    (case c22 => k_is)
    (case k22 => k_is)
    (case a23 => k_is)
    (case l23 => k_is)
    (case c23 => k_is)
    (case k23 => k_is)
    (case a24 => k_is)
    (case l24 => k_is)
    (case c24 => k_is)
    (case k24 => k_is)
    (case a25 => k_is)
    (case l25 => k_is)
    (case c25 => k_is)
    (case k25 => k_is)
    (case a26 => k_is)
    (case l26 => k_is)
    (case c26 => k_is)
    (case k26 => k_is)
    (case a27 => k_is)
    (case l27 => k_is)
    (case c27 => k_is)
    (case k27 => k_is)
    (case z0 => k_is)
    (case z1 => k_is)
    (case z2 => k_is)
    (case z3 => k_is)
    (case z4 => k_is)
    (case z5 => k_is)
    (case z6 => k_is)
    (case z7 => k_is)
    (case z8 => k_is)
    (case z9 => k_is)
    (case z10 => k_is)
    (case z11 => k_is)
    (case gC0 => k_is)
    (case kC0 => k_is)
    (case sB0 => k_is)
    (case tC0 => k_is)
    (case xI0 => k_exc)
    (case gC1 => k_is)
    (case kC1 => k_is)
    (case sB1 => k_is)
    (case tC1 => k_is)
    (case xI1 => k_exc)
    (case hg1 => k_is)
    (case hk1 => k_is)
    (case hd1 => k_is)
    (case ha1 => k_is)
    (case hn1 => k_is)
    (case ht1 => k_is)
    (case hm1 => k_is)
    (case sC1 => first | rfl | k_is)
    (case kV_1 => first | rfl | k_is)
