import PyProof.Rows.All
import PyProof.P3Eq
import PyProof.P3In
import PyProof.NeKinds
import PyProof.EqAt
import PyProof.EqKinds
import HandS.Base
import HandS.List
import Wide.All
import OpenK.AllK
import Wide.FinOn
import HandS.ForMost
import HandS.ForExc
import KE.KDictKeyed
import KE.KDictCopyH
import HandS.IsInst
import HandS.Flow
import HandS.Style
import HandS.TupAny
import HandS.CallSlots
import HandS.ExcIs
import HandS.Text
import HandS.Wide
import PyProof.TupleOfStr
import PyProof.CallStr
import HandS.Zip
import KE.GoesZip
import PyProof.Draws
import HandS.Set
import HandS.Strs
import HandS.More
import PyProof.Rows.SortShellAny
import PyProof.TupleOfSeq
import HandS.SetFor
import HandS.SortInts
import HandS.Conv
import KE.DataMinMax
import KE.SortData
import KE.KDictSum
import KE.DataFind
import PyProof.SeqIndex
import HandS.DictComp
import KE.KDictPairs
import PyProof.ReprRoads
import KE.KItemsList
import KE.KDictWalk
import HandS.TupSets
import KE.KTupSum
import PyProof.SumAny
import PySem.Challenge.RW_netwhole_k45_siphons_with_marked_traps
set_option Elab.async false
set_option linter.all false
set_option maxRecDepth 100000
set_option maxHeartbeats 4000000
namespace DcEq
open PySem PySem.SeqAt PySem.MeetsSeq
theorem sub_none_dict : isSubtype (.type "NoneType") (.type "dict") = pure false := by rw [isSubtype_type]; kernel_rfl
theorem sub_dict_none : isSubtype (.type "dict") (.type "NoneType") = pure false := by rw [isSubtype_type]; kernel_rfl
theorem sub_bool_dict : isSubtype (.type "bool") (.type "dict") = pure false := by rw [isSubtype_type]; kernel_rfl
theorem sub_dict_bool : isSubtype (.type "dict") (.type "bool") = pure false := by rw [isSubtype_type]; kernel_rfl
theorem sub_int_dict : isSubtype (.type "int") (.type "dict") = pure false := by rw [isSubtype_type]; kernel_rfl
theorem sub_dict_int : isSubtype (.type "dict") (.type "int") = pure false := by rw [isSubtype_type]; kernel_rfl
theorem sub_str_dict : isSubtype (.type "str") (.type "dict") = pure false := by rw [isSubtype_type]; kernel_rfl
theorem sub_dict_str : isSubtype (.type "dict") (.type "str") = pure false := by rw [isSubtype_type]; kernel_rfl
theorem sub_list_dict : isSubtype (.type "list") (.type "dict") = pure false := by rw [isSubtype_type]; kernel_rfl
theorem sub_dict_list : isSubtype (.type "dict") (.type "list") = pure false := by rw [isSubtype_type]; kernel_rfl
theorem sub_tuple_dict : isSubtype (.type "tuple") (.type "dict") = pure false := by rw [isSubtype_type]; kernel_rfl
theorem sub_dict_tuple : isSubtype (.type "dict") (.type "tuple") = pure false := by rw [isSubtype_type]; kernel_rfl
/-- a dict at l -/
abbrev DcAt (h : Heap) (l : Addr) (es : Array DictEntry) (n : Nat) (dd : Option Addr) (sl : Array (Option Value)) : Prop := h.get? l = some { cls := .type "dict", dict := dd, data := .dict es n, slots := sl }
section
variable (l b : Addr) (es : Array DictEntry) (n n2 : Nat) (dd dd2 : Option Addr) (sl sl2 : Array (Option Value)) (items : Array Value)
theorem dcl_dict_none  : Meets (Builtin.«dict.__eq__» ⟨[.ref l, .none], []⟩) (fun _ R s => DcAt s.heap l es n dd sl ∧ R (.ok (.ret .notImplemented)) s) :=
  .of_wp fun prog w A R s h => by obtain ⟨hp, g, d, tk, os⟩ := s; obtain ⟨hl, h⟩ := h; have f1 := sub_none_dict; unfold Builtin.«dict.__eq__»; wp_walk using wpAny_loadPart' hl; exact ⟨_, rfl, h⟩
theorem dcl_dict_bool (y : Bool) : Meets (Builtin.«dict.__eq__» ⟨[.ref l, .bool y], []⟩) (fun _ R s => DcAt s.heap l es n dd sl ∧ R (.ok (.ret .notImplemented)) s) :=
  .of_wp fun prog w A R s h => by obtain ⟨hp, g, d, tk, os⟩ := s; obtain ⟨hl, h⟩ := h; have f1 := sub_bool_dict; unfold Builtin.«dict.__eq__»; wp_walk using wpAny_loadPart' hl; exact ⟨_, rfl, h⟩
theorem dcl_dict_int (y : Int) (u : Tok) : Meets (Builtin.«dict.__eq__» ⟨[.ref l, .int y u], []⟩) (fun _ R s => DcAt s.heap l es n dd sl ∧ R (.ok (.ret .notImplemented)) s) :=
  .of_wp fun prog w A R s h => by obtain ⟨hp, g, d, tk, os⟩ := s; obtain ⟨hl, h⟩ := h; have f1 := sub_int_dict; unfold Builtin.«dict.__eq__»; wp_walk using wpAny_loadPart' hl; exact ⟨_, rfl, h⟩
theorem dcl_dict_str (y : Str) (u : Tok) : Meets (Builtin.«dict.__eq__» ⟨[.ref l, .str y u], []⟩) (fun _ R s => DcAt s.heap l es n dd sl ∧ R (.ok (.ret .notImplemented)) s) :=
  .of_wp fun prog w A R s h => by obtain ⟨hp, g, d, tk, os⟩ := s; obtain ⟨hl, h⟩ := h; have f1 := sub_str_dict; unfold Builtin.«dict.__eq__»; wp_walk using wpAny_loadPart' hl; exact ⟨_, rfl, h⟩
theorem dcl_dict_list : Meets (Builtin.«dict.__eq__» ⟨[.ref l, .ref b], []⟩) (fun _ R s => DcAt s.heap l es n dd sl ∧ s.heap.get? b = some { cls := .type "list", dict := dd2, data := .seq items n2, slots := sl2 } ∧ R (.ok (.ret .notImplemented)) s) :=
  .of_wp fun prog w A R s h => by obtain ⟨hp, g, d, tk, os⟩ := s; obtain ⟨hl, hb, h⟩ := h; have f1 := sub_list_dict; unfold Builtin.«dict.__eq__»; wp_walk using wpAny_loadPart' hl, wpAny_loadPart' hb; exact ⟨_, rfl, h⟩
theorem dcl_list_dict : Meets (Builtin.«list.__eq__» ⟨[.ref b, .ref l], []⟩) (fun _ R s => DcAt s.heap l es n dd sl ∧ s.heap.get? b = some { cls := .type "list", dict := dd2, data := .seq items n2, slots := sl2 } ∧ R (.ok (.ret .notImplemented)) s) :=
  .of_wp fun prog w A R s h => by obtain ⟨hp, g, d, tk, os⟩ := s; obtain ⟨hl, hb, h⟩ := h; have f1 := sub_dict_list; wp_walk using wpAny_loadPart' hl, wpAny_loadPart' hb; exact ⟨_, rfl, h⟩
theorem dcl_dict_tuple : Meets (Builtin.«dict.__eq__» ⟨[.ref l, .ref b], []⟩) (fun _ R s => DcAt s.heap l es n dd sl ∧ s.heap.get? b = some { cls := .type "tuple", dict := dd2, data := .seq items n2, slots := sl2 } ∧ R (.ok (.ret .notImplemented)) s) :=
  .of_wp fun prog w A R s h => by obtain ⟨hp, g, d, tk, os⟩ := s; obtain ⟨hl, hb, h⟩ := h; have f1 := sub_tuple_dict; unfold Builtin.«dict.__eq__»; wp_walk using wpAny_loadPart' hl, wpAny_loadPart' hb; exact ⟨_, rfl, h⟩
theorem dcl_tuple_dict : Meets (Builtin.«tuple.__eq__» ⟨[.ref b, .ref l], []⟩) (fun _ R s => DcAt s.heap l es n dd sl ∧ s.heap.get? b = some { cls := .type "tuple", dict := dd2, data := .seq items n2, slots := sl2 } ∧ R (.ok (.ret .notImplemented)) s) :=
  .of_wp fun prog w A R s h => by obtain ⟨hp, g, d, tk, os⟩ := s; obtain ⟨hl, hb, h⟩ := h; have f1 := sub_dict_tuple; wp_walk using wpAny_loadPart' hl, wpAny_loadPart' hb; exact ⟨_, rfl, h⟩
theorem dcl_bool_dict (y : Bool) : Meets (Builtin.«int.__eq__» ⟨[.bool y, .ref l], []⟩) (fun _ R s => DcAt s.heap l es n dd sl ∧ R (.ok (.ret .notImplemented)) s) :=
  .of_wp fun prog w A R s h => by obtain ⟨hp, g, d, tk, os⟩ := s; obtain ⟨hl, h⟩ := h; wp_walk using wpAny_loadPart' hl, wpAny_load hl; exact ⟨_, rfl, h⟩
theorem dcl_int_dict (y : Int) (u : Tok) : Meets (Builtin.«int.__eq__» ⟨[.int y u, .ref l], []⟩) (fun _ R s => DcAt s.heap l es n dd sl ∧ R (.ok (.ret .notImplemented)) s) :=
  .of_wp fun prog w A R s h => by obtain ⟨hp, g, d, tk, os⟩ := s; obtain ⟨hl, h⟩ := h; wp_walk using wpAny_loadPart' hl, wpAny_load hl; exact ⟨_, rfl, h⟩
theorem dcl_str_dict (y : Str) (u : Tok) : Meets (Builtin.«str.__eq__» ⟨[.str y u, .ref l], []⟩) (fun _ R s => DcAt s.heap l es n dd sl ∧ R (.ok (.ret .notImplemented)) s) :=
  .of_wp fun prog w A R s h => by obtain ⟨hp, g, d, tk, os⟩ := s; obtain ⟨hl, h⟩ := h; wp_walk using wpAny_loadPart' hl, wpAny_load hl; exact ⟨_, rfl, h⟩
end
section
variable {A : Around} {s : Shared} {l b : Addr} {es : Array DictEntry} {n : Nat} {dd : Option Addr} {sl : Array (Option Value)} {items : Array Value}
theorem rc_dict_none  (ho : DcAt s.heap l es n dd sl) (hu : A.units < cLine) : RcAt A s (.ref l) (.none) false := fun prog w E Q h =>
  rc_eq_decline_or (k := false) ⟨_, ho, rfl⟩ rfl (by decide) sub_none_dict F.slot_dict_eq F.slot_NoneType_eq_refl
    (fun _ hq => call_meets F.slot_dict_eq ⟨_, ho, rfl⟩ F.entry_dict_eq (F.args_dict_eq_2 _ _) (dcl_dict_none l es n dd sl) ⟨ho, hq⟩)
    (fun _ hq => call_gives F.slot_NoneType_eq_refl rfl F.entry_NoneType_eq (F.args_NoneType_eq_2 _ _) (NoneType___eq___none_ref_0 l) hq)
    (fun _ hq => wpAny_of_eq (rfl : isSame (.ref l) (.none) = pure false) hq) (.inr hu) h
theorem rc_none_dict  (ho : DcAt s.heap l es n dd sl) (hu : A.units < cLine) : RcAt A s (.none) (.ref l) false := fun prog w E Q h =>
  rc_eq_decline_or (k := false) rfl ⟨_, ho, rfl⟩ (by decide) sub_dict_none F.slot_NoneType_eq F.slot_dict_eq_refl
    (fun _ hq => call_gives F.slot_NoneType_eq rfl F.entry_NoneType_eq (F.args_NoneType_eq_2 _ _) (NoneType___eq___none_ref_0 l) hq)
    (fun _ hq => call_meets F.slot_dict_eq_refl ⟨_, ho, rfl⟩ F.entry_dict_eq (F.args_dict_eq_2 _ _) (dcl_dict_none l es n dd sl) ⟨ho, hq⟩)
    (fun _ hq => wpAny_of_eq (rfl : isSame (.none) (.ref l) = pure false) hq) (.inr hu) h
theorem ea_dict_none  (ho : DcAt s.heap l es n dd sl) (hu : A.units < cLine) : EqAt A s (.ref l) (.none) false := fun prog w E Q h => by
  unfold eqBool
  refine wpAny_holding ?_
  refine wpAny_ite_split (fun hab => absurd (eq_of_beq hab) nofun) (fun _ => ?_)
  exact wpAny_bind (rc_dict_none ho hu prog w E _ (wpAny_truthy_bool h))
theorem ea_none_dict  (ho : DcAt s.heap l es n dd sl) (hu : A.units < cLine) : EqAt A s (.none) (.ref l) false := fun prog w E Q h => by
  unfold eqBool
  refine wpAny_holding ?_
  refine wpAny_ite_split (fun hab => absurd (eq_of_beq hab) nofun) (fun _ => ?_)
  exact wpAny_bind (rc_none_dict ho hu prog w E _ (wpAny_truthy_bool h))
theorem rc_dict_bool (y : Bool) (ho : DcAt s.heap l es n dd sl) (hu : A.units < cLine) : RcAt A s (.ref l) (.bool y) false := fun prog w E Q h =>
  rc_eq_decline_or (k := false) ⟨_, ho, rfl⟩ rfl (by decide) sub_bool_dict F.slot_dict_eq F.slot_bool_eq_refl
    (fun _ hq => call_meets F.slot_dict_eq ⟨_, ho, rfl⟩ F.entry_dict_eq (F.args_dict_eq_2 _ _) (dcl_dict_bool l es n dd sl y) ⟨ho, hq⟩)
    (fun _ hq => call_meets F.slot_bool_eq_refl rfl F.entry_int_eq (F.args_int_eq_2 _ _) (dcl_bool_dict l es n dd sl y) ⟨ho, hq⟩)
    (fun _ hq => wpAny_of_eq (rfl : isSame (.ref l) (.bool y) = pure false) hq) (.inr hu) h
theorem rc_bool_dict (y : Bool) (ho : DcAt s.heap l es n dd sl) (hu : A.units < cLine) : RcAt A s (.bool y) (.ref l) false := fun prog w E Q h =>
  rc_eq_decline_or (k := false) rfl ⟨_, ho, rfl⟩ (by decide) sub_dict_bool F.slot_bool_eq F.slot_dict_eq_refl
    (fun _ hq => call_meets F.slot_bool_eq rfl F.entry_int_eq (F.args_int_eq_2 _ _) (dcl_bool_dict l es n dd sl y) ⟨ho, hq⟩)
    (fun _ hq => call_meets F.slot_dict_eq_refl ⟨_, ho, rfl⟩ F.entry_dict_eq (F.args_dict_eq_2 _ _) (dcl_dict_bool l es n dd sl y) ⟨ho, hq⟩)
    (fun _ hq => wpAny_of_eq (rfl : isSame (.bool y) (.ref l) = pure false) hq) (.inr hu) h
theorem ea_dict_bool (y : Bool) (ho : DcAt s.heap l es n dd sl) (hu : A.units < cLine) : EqAt A s (.ref l) (.bool y) false := fun prog w E Q h => by
  unfold eqBool
  refine wpAny_holding ?_
  refine wpAny_ite_split (fun hab => absurd (eq_of_beq hab) nofun) (fun _ => ?_)
  exact wpAny_bind (rc_dict_bool y ho hu prog w E _ (wpAny_truthy_bool h))
theorem ea_bool_dict (y : Bool) (ho : DcAt s.heap l es n dd sl) (hu : A.units < cLine) : EqAt A s (.bool y) (.ref l) false := fun prog w E Q h => by
  unfold eqBool
  refine wpAny_holding ?_
  refine wpAny_ite_split (fun hab => absurd (eq_of_beq hab) nofun) (fun _ => ?_)
  exact wpAny_bind (rc_bool_dict y ho hu prog w E _ (wpAny_truthy_bool h))
theorem rc_dict_int (y : Int) (u : Tok) (ho : DcAt s.heap l es n dd sl) (hu : A.units < cLine) : RcAt A s (.ref l) (.int y u) false := fun prog w E Q h =>
  rc_eq_decline_or (k := false) ⟨_, ho, rfl⟩ rfl (by decide) sub_int_dict F.slot_dict_eq F.slot_int_eq_refl
    (fun _ hq => call_meets F.slot_dict_eq ⟨_, ho, rfl⟩ F.entry_dict_eq (F.args_dict_eq_2 _ _) (dcl_dict_int l es n dd sl y u) ⟨ho, hq⟩)
    (fun _ hq => call_meets F.slot_int_eq_refl rfl F.entry_int_eq (F.args_int_eq_2 _ _) (dcl_int_dict l es n dd sl y u) ⟨ho, hq⟩)
    (fun _ hq => wpAny_of_eq (rfl : isSame (.ref l) (.int y u) = pure false) hq) (.inr hu) h
theorem rc_int_dict (y : Int) (u : Tok) (ho : DcAt s.heap l es n dd sl) (hu : A.units < cLine) : RcAt A s (.int y u) (.ref l) false := fun prog w E Q h =>
  rc_eq_decline_or (k := false) rfl ⟨_, ho, rfl⟩ (by decide) sub_dict_int F.slot_int_eq F.slot_dict_eq_refl
    (fun _ hq => call_meets F.slot_int_eq rfl F.entry_int_eq (F.args_int_eq_2 _ _) (dcl_int_dict l es n dd sl y u) ⟨ho, hq⟩)
    (fun _ hq => call_meets F.slot_dict_eq_refl ⟨_, ho, rfl⟩ F.entry_dict_eq (F.args_dict_eq_2 _ _) (dcl_dict_int l es n dd sl y u) ⟨ho, hq⟩)
    (fun _ hq => wpAny_of_eq (rfl : isSame (.int y u) (.ref l) = pure false) hq) (.inr hu) h
theorem ea_dict_int (y : Int) (u : Tok) (ho : DcAt s.heap l es n dd sl) (hu : A.units < cLine) : EqAt A s (.ref l) (.int y u) false := fun prog w E Q h => by
  unfold eqBool
  refine wpAny_holding ?_
  refine wpAny_ite_split (fun hab => absurd (eq_of_beq hab) nofun) (fun _ => ?_)
  exact wpAny_bind (rc_dict_int y u ho hu prog w E _ (wpAny_truthy_bool h))
theorem ea_int_dict (y : Int) (u : Tok) (ho : DcAt s.heap l es n dd sl) (hu : A.units < cLine) : EqAt A s (.int y u) (.ref l) false := fun prog w E Q h => by
  unfold eqBool
  refine wpAny_holding ?_
  refine wpAny_ite_split (fun hab => absurd (eq_of_beq hab) nofun) (fun _ => ?_)
  exact wpAny_bind (rc_int_dict y u ho hu prog w E _ (wpAny_truthy_bool h))
theorem rc_dict_str (y : Str) (u : Tok) (ho : DcAt s.heap l es n dd sl) (hu : A.units < cLine) : RcAt A s (.ref l) (.str y u) false := fun prog w E Q h =>
  rc_eq_decline_or (k := false) ⟨_, ho, rfl⟩ rfl (by decide) sub_str_dict F.slot_dict_eq F.slot_str_eq_refl
    (fun _ hq => call_meets F.slot_dict_eq ⟨_, ho, rfl⟩ F.entry_dict_eq (F.args_dict_eq_2 _ _) (dcl_dict_str l es n dd sl y u) ⟨ho, hq⟩)
    (fun _ hq => call_meets F.slot_str_eq_refl rfl F.entry_str_eq (F.args_str_eq_2 _ _) (dcl_str_dict l es n dd sl y u) ⟨ho, hq⟩)
    (fun _ hq => wpAny_of_eq (rfl : isSame (.ref l) (.str y u) = pure false) hq) (.inr hu) h
theorem rc_str_dict (y : Str) (u : Tok) (ho : DcAt s.heap l es n dd sl) (hu : A.units < cLine) : RcAt A s (.str y u) (.ref l) false := fun prog w E Q h =>
  rc_eq_decline_or (k := false) rfl ⟨_, ho, rfl⟩ (by decide) sub_dict_str F.slot_str_eq F.slot_dict_eq_refl
    (fun _ hq => call_meets F.slot_str_eq rfl F.entry_str_eq (F.args_str_eq_2 _ _) (dcl_str_dict l es n dd sl y u) ⟨ho, hq⟩)
    (fun _ hq => call_meets F.slot_dict_eq_refl ⟨_, ho, rfl⟩ F.entry_dict_eq (F.args_dict_eq_2 _ _) (dcl_dict_str l es n dd sl y u) ⟨ho, hq⟩)
    (fun _ hq => wpAny_of_eq (rfl : isSame (.str y u) (.ref l) = pure false) hq) (.inr hu) h
theorem ea_dict_str (y : Str) (u : Tok) (ho : DcAt s.heap l es n dd sl) (hu : A.units < cLine) : EqAt A s (.ref l) (.str y u) false := fun prog w E Q h => by
  unfold eqBool
  refine wpAny_holding ?_
  refine wpAny_ite_split (fun hab => absurd (eq_of_beq hab) nofun) (fun _ => ?_)
  exact wpAny_bind (rc_dict_str y u ho hu prog w E _ (wpAny_truthy_bool h))
theorem ea_str_dict (y : Str) (u : Tok) (ho : DcAt s.heap l es n dd sl) (hu : A.units < cLine) : EqAt A s (.str y u) (.ref l) false := fun prog w E Q h => by
  unfold eqBool
  refine wpAny_holding ?_
  refine wpAny_ite_split (fun hab => absurd (eq_of_beq hab) nofun) (fun _ => ?_)
  exact wpAny_bind (rc_str_dict y u ho hu prog w E _ (wpAny_truthy_bool h))
theorem ne_dict_list {h : Heap} (ho : DcAt h l es n dd sl) (hb : h.IsList b items) : l ≠ b := fun e => by
  subst e
  obtain ⟨o, h1, h2, _⟩ := hb
  rw [ho] at h1
  cases h1
  exact absurd h2 (by simp)
theorem rc_dict_list (ho : DcAt s.heap l es n dd sl) (hb : s.heap.IsList b items) (hu : A.units < cLine) : RcAt A s (.ref l) (.ref b) false := fun prog w E Q h => by
  have hne := ne_dict_list ho hb
  obtain ⟨⟨cls2, dd2, data2, sl2⟩, ho2, hc2, n2, hd2⟩ := id hb
  simp only at hc2 hd2
  subst hc2 hd2
  exact rc_eq_decline_or (k := false) ⟨_, ho, rfl⟩ ⟨_, ho2, rfl⟩ (by decide) sub_list_dict F.slot_dict_eq F.slot_list_eq_refl
    (fun _ hq => call_meets F.slot_dict_eq ⟨_, ho, rfl⟩ F.entry_dict_eq (F.args_dict_eq_2 _ _) (dcl_dict_list l b es n n2 dd dd2 sl sl2 items) ⟨ho, ho2, hq⟩)
    (fun _ hq => call_meets F.slot_list_eq_refl ⟨_, ho2, rfl⟩ F.entry_list_eq (F.args_list_eq_2 _ _) (dcl_list_dict l b es n n2 dd dd2 sl sl2 items) ⟨ho, ho2, hq⟩)
    (fun _ hq => wpAny_isSame_ref_other' hne ho ho2 (by simp) hq) (.inr hu) h
theorem rc_list_dict (ho : DcAt s.heap l es n dd sl) (hb : s.heap.IsList b items) (hu : A.units < cLine) : RcAt A s (.ref b) (.ref l) false := fun prog w E Q h => by
  have hne := (ne_dict_list ho hb).symm
  obtain ⟨⟨cls2, dd2, data2, sl2⟩, ho2, hc2, n2, hd2⟩ := id hb
  simp only at hc2 hd2
  subst hc2 hd2
  exact rc_eq_decline_or (k := false) ⟨_, ho2, rfl⟩ ⟨_, ho, rfl⟩ (by decide) sub_dict_list F.slot_list_eq F.slot_dict_eq_refl
    (fun _ hq => call_meets F.slot_list_eq ⟨_, ho2, rfl⟩ F.entry_list_eq (F.args_list_eq_2 _ _) (dcl_list_dict l b es n n2 dd dd2 sl sl2 items) ⟨ho, ho2, hq⟩)
    (fun _ hq => call_meets F.slot_dict_eq_refl ⟨_, ho, rfl⟩ F.entry_dict_eq (F.args_dict_eq_2 _ _) (dcl_dict_list l b es n n2 dd dd2 sl sl2 items) ⟨ho, ho2, hq⟩)
    (fun _ hq => wpAny_isSame_ref_other' hne ho2 ho (by simp) hq) (.inr hu) h
theorem ea_dict_list (ho : DcAt s.heap l es n dd sl) (hb : s.heap.IsList b items) (hu : A.units < cLine) : EqAt A s (.ref l) (.ref b) false := .of_refs (ne_dict_list ho hb) (rc_dict_list ho hb hu)
theorem ea_list_dict (ho : DcAt s.heap l es n dd sl) (hb : s.heap.IsList b items) (hu : A.units < cLine) : EqAt A s (.ref b) (.ref l) false := .of_refs (ne_dict_list ho hb).symm (rc_list_dict ho hb hu)
theorem ne_dict_tuple {h : Heap} (ho : DcAt h l es n dd sl) (hb : h.IsTuple b items) : l ≠ b := fun e => by
  subst e
  obtain ⟨o, h1, h2, _⟩ := hb
  rw [ho] at h1
  cases h1
  exact absurd h2 (by simp)
theorem rc_dict_tuple (ho : DcAt s.heap l es n dd sl) (hb : s.heap.IsTuple b items) (hu : A.units < cLine) : RcAt A s (.ref l) (.ref b) false := fun prog w E Q h => by
  have hne := ne_dict_tuple ho hb
  obtain ⟨⟨cls2, dd2, data2, sl2⟩, ho2, hc2, n2, hd2⟩ := id hb
  simp only at hc2 hd2
  subst hc2 hd2
  exact rc_eq_decline_or (k := false) ⟨_, ho, rfl⟩ ⟨_, ho2, rfl⟩ (by decide) sub_tuple_dict F.slot_dict_eq F.slot_tuple_eq_refl
    (fun _ hq => call_meets F.slot_dict_eq ⟨_, ho, rfl⟩ F.entry_dict_eq (F.args_dict_eq_2 _ _) (dcl_dict_tuple l b es n n2 dd dd2 sl sl2 items) ⟨ho, ho2, hq⟩)
    (fun _ hq => call_meets F.slot_tuple_eq_refl ⟨_, ho2, rfl⟩ F.entry_tuple_eq (F.args_tuple_eq_2 _ _) (dcl_tuple_dict l b es n n2 dd dd2 sl sl2 items) ⟨ho, ho2, hq⟩)
    (fun _ hq => wpAny_isSame_ref_other hne ho ho2 (by simp) hq) (.inr hu) h
theorem rc_tuple_dict (ho : DcAt s.heap l es n dd sl) (hb : s.heap.IsTuple b items) (hu : A.units < cLine) : RcAt A s (.ref b) (.ref l) false := fun prog w E Q h => by
  have hne := (ne_dict_tuple ho hb).symm
  obtain ⟨⟨cls2, dd2, data2, sl2⟩, ho2, hc2, n2, hd2⟩ := id hb
  simp only at hc2 hd2
  subst hc2 hd2
  exact rc_eq_decline_or (k := false) ⟨_, ho2, rfl⟩ ⟨_, ho, rfl⟩ (by decide) sub_dict_tuple F.slot_tuple_eq F.slot_dict_eq_refl
    (fun _ hq => call_meets F.slot_tuple_eq ⟨_, ho2, rfl⟩ F.entry_tuple_eq (F.args_tuple_eq_2 _ _) (dcl_tuple_dict l b es n n2 dd dd2 sl sl2 items) ⟨ho, ho2, hq⟩)
    (fun _ hq => call_meets F.slot_dict_eq_refl ⟨_, ho, rfl⟩ F.entry_dict_eq (F.args_dict_eq_2 _ _) (dcl_dict_tuple l b es n n2 dd dd2 sl sl2 items) ⟨ho, ho2, hq⟩)
    (fun _ hq => wpAny_isSame_ref_other' hne ho2 ho (by simp) hq) (.inr hu) h
theorem ea_dict_tuple (ho : DcAt s.heap l es n dd sl) (hb : s.heap.IsTuple b items) (hu : A.units < cLine) : EqAt A s (.ref l) (.ref b) false := .of_refs (ne_dict_tuple ho hb) (rc_dict_tuple ho hb hu)
theorem ea_tuple_dict (ho : DcAt s.heap l es n dd sl) (hb : s.heap.IsTuple b items) (hu : A.units < cLine) : EqAt A s (.ref b) (.ref l) false := .of_refs (ne_dict_tuple ho hb).symm (rc_tuple_dict ho hb hu)
end
mutual
def ndB : PyData → Bool
  | .dict _ => false
  | .list xs => ndAll xs
  | .tuple xs => ndAll xs
  | _ => true
def ndAll : List PyData → Bool
  | [] => true
  | x :: xs => ndB x && ndAll xs
end
theorem ndAll_mem : ∀ {xs : List PyData}, ndAll xs = true → ∀ x ∈ xs, ndB x = true
  | [], _, x, hx => nomatch hx
  | y :: ys, h, x, hx => by
    simp only [ndAll, Bool.and_eq_true] at h
    rcases List.mem_cons.mp hx with rfl | hx
    · exact h.1
    · exact ndAll_mem h.2 x hx
/-- what stands at a value -/
inductive Rd (h : Heap) : Value → PyData → Prop
  | none : Rd h .none .none
  | bool (b : Bool) : Rd h (.bool b) (.bool b)
  | int (i : Int) (t : Tok) : Rd h (.int i t) (.int i)
  | str (x : Str) (t : Tok) : Rd h (.str x t) (.str x)
  | list {a : Addr} {vs : Array Value} {xs : List PyData} : h.IsList a vs → vs.size = xs.length → (∀ j (h1 : j < vs.size) (h2 : j < xs.length), Rd h vs[j] xs[j]) → Rd h (.ref a) (.list xs)
  | tuple {a : Addr} {vs : Array Value} {xs : List PyData} : h.IsTuple a vs → vs.size = xs.length → (∀ j (h1 : j < vs.size) (h2 : j < xs.length), Rd h vs[j] xs[j]) → Rd h (.ref a) (.tuple xs)
  | dict {a : Addr} {es : Array DictEntry} {n : Nat} {dd : Option Addr} {sl : Array (Option Value)} {kvs : List (PyData × PyData)} : DcAt h a es n dd sl → Rd h (.ref a) (.dict kvs)
def oneNd (d e : PyData) : Prop := ndB d = true ∨ ndB e = true
theorem oneNd_all {xs ys : List PyData} (h : ndAll xs = true ∨ ndAll ys = true) (j : Nat) (h1 : j < xs.length) (h2 : j < ys.length) : oneNd xs[j] ys[j] := by
  rcases h with h | h
  · exact .inl (ndAll_mem h _ (List.getElem_mem h1))
  · exact .inr (ndAll_mem h _ (List.getElem_mem h2))
theorem eqvAll_true : ∀ {xs ys : List PyData}, xs.length = ys.length → (∀ j (h1 : j < xs.length) (h2 : j < ys.length), PyData.eqv xs[j] ys[j] = true) → PyData.eqvAll xs ys = true
  | [], [], _, _ => rfl
  | [], _ :: _, h, _ => nomatch h
  | _ :: _, [], h, _ => nomatch h
  | x :: xs, y :: ys, h, k => by
    rw [PyData.eqvAll, eqvAll_true (by simpa using h) fun j h1 h2 => k (j + 1) (by simpa using h1) (by simpa using h2)]
    have := k 0 (by simp) (by simp)
    have this' : PyData.eqv x y = true := this
    rw [this']
    rfl
theorem isList_inj {h : Heap} {a : Addr} {xs ys : Array Value} (p : h.IsList a xs) (q : h.IsList a ys) : xs = ys := by
  obtain ⟨o, h1, _, n, h2⟩ := p
  obtain ⟨o', k1, _, n', k2⟩ := q
  rw [h1] at k1
  cases k1
  rw [h2] at k2
  cases k2
  rfl
theorem isTuple_inj {h : Heap} {a : Addr} {xs ys : Array Value} (p : h.IsTuple a xs) (q : h.IsTuple a ys) : xs = ys := by
  obtain ⟨o, h1, _, n, h2⟩ := p
  obtain ⟨o', k1, _, n', k2⟩ := q
  rw [h1] at k1
  cases k1
  rw [h2] at k2
  cases k2
  rfl
theorem list_not_tuple {h : Heap} {a : Addr} {xs ys : Array Value} (p : h.IsList a xs) (q : h.IsTuple a ys) : False := by
  obtain ⟨o, h1, h2, _⟩ := p
  obtain ⟨o', k1, k2, _⟩ := q
  rw [h1] at k1
  cases k1
  rw [h2] at k2
  exact absurd k2 (by simp)
theorem Rd.same {h : Heap} {v : Value} {d e : PyData} (r : Rd h v d) (r' : Rd h v e) (o : oneNd d e) : PyData.eqv d e = true := by
  induction r generalizing e with
  | none => cases r'; rfl
  | bool b => cases r'; simp [PyData.eqv]
  | int i t => cases r'; simp [PyData.eqv]
  | str x t => cases r'; simp [PyData.eqv]
  | @list a vs xs h1 h2 h3 ih =>
    cases r' with
    | @list _ vs' ys k1 k2 k3 =>
      have e1 := isList_inj h1 k1
      subst e1
      exact eqvAll_true (by omega) fun j j1 j2 => ih j (by omega) j1 (k3 j (by omega) j2) (oneNd_all o j j1 j2)
    | tuple k1 k2 k3 => exact (list_not_tuple h1 k1).elim
    | dict k1 => exact absurd rfl (ne_dict_list k1 h1)
  | @tuple a vs xs h1 h2 h3 ih =>
    cases r' with
    | @tuple _ vs' ys k1 k2 k3 =>
      have e1 := isTuple_inj h1 k1
      subst e1
      exact eqvAll_true (by omega) fun j j1 j2 => ih j (by omega) j1 (k3 j (by omega) j2) (oneNd_all o j j1 j2)
    | list k1 k2 k3 => exact (list_not_tuple k1 h1).elim
    | dict k1 => exact absurd rfl (ne_dict_tuple k1 h1)
  | dict h1 =>
    cases r' with
    | list k1 k2 k3 => exact absurd rfl (ne_dict_list h1 k1)
    | tuple k1 k2 k3 => exact absurd rfl (ne_dict_tuple h1 k1)
    | dict k1 => rcases o with o | o <;> cases o
theorem depth_le {xs : List PyData} {j : Nat} (h : j < xs.length) : (xs[j]).depth ≤ PyData.depthAll xs := by
  induction xs generalizing j with
  | nil => cases h
  | cons x xs ih =>
    cases j with
    | zero => simp [PyData.depthAll]; omega
    | succ j => simp [PyData.depthAll]; have := ih (j := j) (by simpa using h); omega
theorem room_el {u : Nat} {xs ys : List PyData} {j : Nat} (h1 : j < xs.length) (h2 : j < ys.length) (hu : u + min (PyData.depthAll xs + 1) (PyData.depthAll ys + 1) < cLine) : u + 1 + min (xs[j]).depth (ys[j]).depth < cLine := by
  have a := depth_le h1
  have b := depth_le h2
  omega
theorem getD_at {xs : List PyData} {j : Nat} (h : j < xs.length) : xs.getD j .none = xs[j] := by
  rw [List.getD_eq_getElem?_getD, List.getElem?_eq_getElem h]
  rfl
section
variable {s : Shared}
theorem eqAt_rd {a b : Value} {d e : PyData} (ra : Rd s.heap a d) : ∀ {A : Around}, Rd s.heap b e → oneNd d e → A.units + min d.depth e.depth < cLine → EqAt A s a b (PyData.eqv d e) := by
  induction ra generalizing b e with
  | none =>
    intro A rb o hu
    have hr : A.units < cLine := room_here hu
    cases rb with
    | none => exact EqAt.same _
    | bool y => exact EqAt.none_bool y
    | int y u => exact EqAt.none_int y u
    | str y u => exact EqAt.none_str y u
    | @list m ws ys k1 k2 k3 => exact EqAt.none_list k1 hr
    | @tuple m ws ys k1 k2 k3 => exact EqAt.none_tuple k1 hr
    | dict k1 => exact ea_none_dict k1 hr
  | bool x =>
    intro A rb o hu
    have hr : A.units < cLine := room_here hu
    cases rb with
    | none => exact EqAt.bool_none x
    | bool y => exact EqAt.bool_bool x y
    | int y u => exact EqAt.bool_int x y u
    | str y u => exact EqAt.bool_str x y u
    | @list m ws ys k1 k2 k3 => exact EqAt.bool_list x k1 hr
    | @tuple m ws ys k1 k2 k3 => exact EqAt.bool_tuple x k1 hr
    | dict k1 => exact ea_bool_dict x k1 hr
  | int x t =>
    intro A rb o hu
    have hr : A.units < cLine := room_here hu
    cases rb with
    | none => exact EqAt.int_none x t
    | bool y => exact EqAt.int_bool x t y
    | int y u => exact EqAt.int_int x t y u
    | str y u => exact EqAt.int_str x t y u
    | @list m ws ys k1 k2 k3 => exact EqAt.int_list x t k1 hr
    | @tuple m ws ys k1 k2 k3 => exact EqAt.int_tuple x t k1 hr
    | dict k1 => exact ea_int_dict x t k1 hr
  | str x t =>
    intro A rb o hu
    have hr : A.units < cLine := room_here hu
    cases rb with
    | none => exact EqAt.str_none x t
    | bool y => exact EqAt.str_bool x t y
    | int y u => exact EqAt.str_int x t y u
    | str y u => exact EqAt.str_str x t y u
    | @list m ws ys k1 k2 k3 => exact EqAt.str_list x t k1 hr
    | @tuple m ws ys k1 k2 k3 => exact EqAt.str_tuple x t k1 hr
    | dict k1 => exact ea_str_dict x t k1 hr
  | @list l vs xs h1 h2 h3 ih =>
    intro A rb o hu
    have hr : A.units < cLine := room_here hu
    cases rb with
    | none => exact EqAt.list_none h1 hr
    | bool y => exact EqAt.list_bool y h1 hr
    | int y u => exact EqAt.list_int y u h1 hr
    | str y u => exact EqAt.list_str y u h1 hr
    | @list m ws ys k1 k2 k3 =>
      show EqAt A s (.ref l) (.ref m) (PyData.eqvAll xs ys)
      have he : ∀ j (j1 : j < vs.size) (j2 : j < ws.size), EqAt A.in1 s vs[j] ws[j] (pairEq xs ys j) := fun j j1 j2 => by
        have j3 : j < xs.length := by omega
        have j4 : j < ys.length := by omega
        have q := ih j j1 j3 (A := A.in1) (k3 j j2 j4) (oneNd_all o j j3 j4) (room_el j3 j4 hu)
        unfold pairEq
        rw [getD_at j3, getD_at j4]
        exact q
      by_cases hlm : l = m
      · subst hlm
        have e2 : PyData.eqvAll xs ys = true := Rd.same (Rd.list h1 h2 h3) (Rd.list k1 k2 k3) o
        rw [e2]
        exact EqAt.same _
      · refine EqAt.of_refs hlm ?_
        by_cases hsz : vs.size = ws.size
        · rw [← eqvAll_same_length (by omega : xs.length = ys.length), ← h2]
          exact RcAt.lists h1 k1 hsz hr he
        · rw [eqvAll_other_length (by omega : xs.length ≠ ys.length)]
          exact RcAt.lists_lengths h1 k1 (by simpa using hsz) hr
    | @tuple m ws ys k1 k2 k3 => exact EqAt.list_tuple h1 k1 hr
    | dict k1 => exact ea_list_dict k1 h1 hr
  | @tuple l vs xs h1 h2 h3 ih =>
    intro A rb o hu
    have hr : A.units < cLine := room_here hu
    cases rb with
    | none => exact EqAt.tuple_none h1 hr
    | bool y => exact EqAt.tuple_bool y h1 hr
    | int y u => exact EqAt.tuple_int y u h1 hr
    | str y u => exact EqAt.tuple_str y u h1 hr
    | @list m ws ys k1 k2 k3 => exact EqAt.tuple_list h1 k1 hr
    | @tuple m ws ys k1 k2 k3 =>
      show EqAt A s (.ref l) (.ref m) (PyData.eqvAll xs ys)
      have he : ∀ j (j1 : j < vs.size) (j2 : j < ws.size), EqAt A.in1 s vs[j] ws[j] (pairEq xs ys j) := fun j j1 j2 => by
        have j3 : j < xs.length := by omega
        have j4 : j < ys.length := by omega
        have q := ih j j1 j3 (A := A.in1) (k3 j j2 j4) (oneNd_all o j j3 j4) (room_el j3 j4 hu)
        unfold pairEq
        rw [getD_at j3, getD_at j4]
        exact q
      by_cases hlm : l = m
      · subst hlm
        have e2 : PyData.eqvAll xs ys = true := Rd.same (Rd.tuple h1 h2 h3) (Rd.tuple k1 k2 k3) o
        rw [e2]
        exact EqAt.same _
      · refine EqAt.of_refs hlm ?_
        rw [← eqvAll_eq xs ys, ← h2, ← k2]
        exact RcAt.tuples h1 k1 hr he
    | dict k1 => exact ea_tuple_dict k1 h1 hr
  | dict h1 =>
    intro A rb o hu
    have hr : A.units < cLine := room_here hu
    cases rb with
    | none => exact ea_dict_none h1 hr
    | bool y => exact ea_dict_bool y h1 hr
    | int y u => exact ea_dict_int y u h1 hr
    | str y u => exact ea_dict_str y u h1 hr
    | @list m ws ys k1 k2 k3 => exact ea_dict_list h1 k1 hr
    | @tuple m ws ys k1 k2 k3 => exact ea_dict_tuple h1 k1 hr
    | dict k1 => rcases o with o | o <;> cases o
theorem rcAt_rd {a b : Value} {d e : PyData} {A : Around} (ra : Rd s.heap a d) (rb : Rd s.heap b e) (o : oneNd d e) (hu : A.units + min d.depth e.depth < cLine) : RcAt A s a b (PyData.eqv d e) := by
  have hr : A.units < cLine := room_here hu
  cases ra with
  | none =>
    cases rb with
    | none => exact RcAt.none_none
    | bool y => exact RcAt.none_bool y
    | int y u => exact RcAt.none_int y u
    | str y u => exact RcAt.none_str y u
    | @list m ws ys k1 k2 k3 => exact RcAt.none_list k1 hr
    | @tuple m ws ys k1 k2 k3 => exact RcAt.none_tuple k1 hr
    | dict k1 => exact rc_none_dict k1 hr
  | bool x =>
    cases rb with
    | none => exact RcAt.bool_none x
    | bool y => exact RcAt.bool_bool x y
    | int y u => exact RcAt.bool_int x y u
    | str y u => exact RcAt.bool_str x y u
    | @list m ws ys k1 k2 k3 => exact RcAt.bool_list x k1 hr
    | @tuple m ws ys k1 k2 k3 => exact RcAt.bool_tuple x k1 hr
    | dict k1 => exact rc_bool_dict x k1 hr
  | int x t =>
    cases rb with
    | none => exact RcAt.int_none x t
    | bool y => exact RcAt.int_bool x t y
    | int y u => exact RcAt.int_int x t y u
    | str y u => exact RcAt.int_str x t y u
    | @list m ws ys k1 k2 k3 => exact RcAt.int_list x t k1 hr
    | @tuple m ws ys k1 k2 k3 => exact RcAt.int_tuple x t k1 hr
    | dict k1 => exact rc_int_dict x t k1 hr
  | str x t =>
    cases rb with
    | none => exact RcAt.str_none x t
    | bool y => exact RcAt.str_bool x t y
    | int y u => exact RcAt.str_int x t y u
    | str y u => exact RcAt.str_str x t y u
    | @list m ws ys k1 k2 k3 => exact RcAt.str_list x t k1 hr
    | @tuple m ws ys k1 k2 k3 => exact RcAt.str_tuple x t k1 hr
    | dict k1 => exact rc_str_dict x t k1 hr
  | @list l vs xs h1 h2 h3 =>
    cases rb with
    | none => exact RcAt.list_none h1 hr
    | bool y => exact RcAt.list_bool y h1 hr
    | int y u => exact RcAt.list_int y u h1 hr
    | str y u => exact RcAt.list_str y u h1 hr
    | @list m ws ys k1 k2 k3 =>
      show RcAt A s (.ref l) (.ref m) (PyData.eqvAll xs ys)
      have he : ∀ j (j1 : j < vs.size) (j2 : j < ws.size), EqAt A.in1 s vs[j] ws[j] (pairEq xs ys j) := fun j j1 j2 => by
        have j3 : j < xs.length := by omega
        have j4 : j < ys.length := by omega
        have q := eqAt_rd (h3 j j1 j3) (A := A.in1) (k3 j j2 j4) (oneNd_all o j j3 j4) (room_el j3 j4 hu)
        unfold pairEq
        rw [getD_at j3, getD_at j4]
        exact q
      by_cases hsz : vs.size = ws.size
      · rw [← eqvAll_same_length (by omega : xs.length = ys.length), ← h2]
        exact RcAt.lists h1 k1 hsz hr he
      · rw [eqvAll_other_length (by omega : xs.length ≠ ys.length)]
        exact RcAt.lists_lengths h1 k1 (by simpa using hsz) hr
    | @tuple m ws ys k1 k2 k3 => exact RcAt.list_tuple h1 k1 hr
    | dict k1 => exact rc_list_dict k1 h1 hr
  | @tuple l vs xs h1 h2 h3 =>
    cases rb with
    | none => exact RcAt.tuple_none h1 hr
    | bool y => exact RcAt.tuple_bool y h1 hr
    | int y u => exact RcAt.tuple_int y u h1 hr
    | str y u => exact RcAt.tuple_str y u h1 hr
    | @list m ws ys k1 k2 k3 => exact RcAt.tuple_list h1 k1 hr
    | @tuple m ws ys k1 k2 k3 =>
      show RcAt A s (.ref l) (.ref m) (PyData.eqvAll xs ys)
      have he : ∀ j (j1 : j < vs.size) (j2 : j < ws.size), EqAt A.in1 s vs[j] ws[j] (pairEq xs ys j) := fun j j1 j2 => by
        have j3 : j < xs.length := by omega
        have j4 : j < ys.length := by omega
        have q := eqAt_rd (h3 j j1 j3) (A := A.in1) (k3 j j2 j4) (oneNd_all o j j3 j4) (room_el j3 j4 hu)
        unfold pairEq
        rw [getD_at j3, getD_at j4]
        exact q
      rw [← eqvAll_eq xs ys, ← h2, ← k2]
      exact RcAt.tuples h1 k1 hr he
    | dict k1 => exact rc_tuple_dict k1 h1 hr
  | dict h1 =>
    cases rb with
    | none => exact rc_dict_none h1 hr
    | bool y => exact rc_dict_bool y h1 hr
    | int y u => exact rc_dict_int y u h1 hr
    | str y u => exact rc_dict_str y u h1 hr
    | @list m ws ys k1 k2 k3 => exact rc_dict_list h1 k1 hr
    | @tuple m ws ys k1 k2 k3 => exact rc_dict_tuple h1 k1 hr
    | dict k1 => rcases o with o | o <;> cases o
theorem rcNe_rd {a b : Value} {d e : PyData} {A : Around} (ra : Rd s.heap a d) (rb : Rd s.heap b e) (o : oneNd d e) (nd : ∀ kvs, d ≠ .dict kvs) (ne : ∀ kvs, e ≠ .dict kvs) (hu : A.units + min d.depth e.depth < cLine) : RcNeAt A s a b (!PyData.eqv d e) := by
  have hr : A.units < cLine := room_here hu
  cases ra with
  | none =>
    cases rb with
    | none => exact RcNeAt.none_none
    | bool y => exact RcNeAt.none_bool y
    | int y u => exact RcNeAt.none_int y u
    | str y u => exact RcNeAt.none_str y u
    | @list m ws ys k1 k2 k3 => exact RcNeAt.none_list k1 hr
    | @tuple m ws ys k1 k2 k3 => exact RcNeAt.none_tuple k1 hr
    | dict k1 => exact absurd rfl (ne _)
  | bool x =>
    cases rb with
    | none => exact RcNeAt.bool_none x
    | bool y => exact RcNeAt.bool_bool x y
    | int y u => exact RcNeAt.bool_int x y u
    | str y u => exact RcNeAt.bool_str x y u
    | @list m ws ys k1 k2 k3 => exact RcNeAt.bool_list x k1 hr
    | @tuple m ws ys k1 k2 k3 => exact RcNeAt.bool_tuple x k1 hr
    | dict k1 => exact absurd rfl (ne _)
  | int x t =>
    cases rb with
    | none => exact RcNeAt.int_none x t
    | bool y => exact RcNeAt.int_bool x t y
    | int y u => exact RcNeAt.int_int x t y u
    | str y u => exact RcNeAt.int_str x t y u
    | @list m ws ys k1 k2 k3 => exact RcNeAt.int_list x t k1 hr
    | @tuple m ws ys k1 k2 k3 => exact RcNeAt.int_tuple x t k1 hr
    | dict k1 => exact absurd rfl (ne _)
  | str x t =>
    cases rb with
    | none => exact RcNeAt.str_none x t
    | bool y => exact RcNeAt.str_bool x t y
    | int y u => exact RcNeAt.str_int x t y u
    | str y u => exact RcNeAt.str_str x t y u
    | @list m ws ys k1 k2 k3 => exact RcNeAt.str_list x t k1 hr
    | @tuple m ws ys k1 k2 k3 => exact RcNeAt.str_tuple x t k1 hr
    | dict k1 => exact absurd rfl (ne _)
  | @list l vs xs h1 h2 h3 =>
    cases rb with
    | none => exact RcNeAt.list_none h1 hr
    | bool y => exact RcNeAt.list_bool y h1 hr
    | int y u => exact RcNeAt.list_int y u h1 hr
    | str y u => exact RcNeAt.list_str y u h1 hr
    | @list m ws ys k1 k2 k3 =>
      show RcNeAt A s (.ref l) (.ref m) (!PyData.eqvAll xs ys)
      have he : ∀ j (j1 : j < vs.size) (j2 : j < ws.size), EqAt A.in1 s vs[j] ws[j] (pairEq xs ys j) := fun j j1 j2 => by
        have j3 : j < xs.length := by omega
        have j4 : j < ys.length := by omega
        have q := eqAt_rd (h3 j j1 j3) (A := A.in1) (k3 j j2 j4) (oneNd_all o j j3 j4) (room_el j3 j4 hu)
        unfold pairEq
        rw [getD_at j3, getD_at j4]
        exact q
      by_cases hsz : vs.size = ws.size
      · rw [← eqvAll_same_length (by omega : xs.length = ys.length), ← h2]
        exact RcNeAt.lists h1 k1 hsz hr he
      · rw [eqvAll_other_length (by omega : xs.length ≠ ys.length)]
        exact RcNeAt.lists_lengths h1 k1 (by simpa using hsz) hr
    | @tuple m ws ys k1 k2 k3 => exact RcNeAt.list_tuple h1 k1 hr
    | dict k1 => exact absurd rfl (ne _)
  | @tuple l vs xs h1 h2 h3 =>
    cases rb with
    | none => exact RcNeAt.tuple_none h1 hr
    | bool y => exact RcNeAt.tuple_bool y h1 hr
    | int y u => exact RcNeAt.tuple_int y u h1 hr
    | str y u => exact RcNeAt.tuple_str y u h1 hr
    | @list m ws ys k1 k2 k3 => exact RcNeAt.tuple_list h1 k1 hr
    | @tuple m ws ys k1 k2 k3 =>
      show RcNeAt A s (.ref l) (.ref m) (!PyData.eqvAll xs ys)
      have he : ∀ j (j1 : j < vs.size) (j2 : j < ws.size), EqAt A.in1 s vs[j] ws[j] (pairEq xs ys j) := fun j j1 j2 => by
        have j3 : j < xs.length := by omega
        have j4 : j < ys.length := by omega
        have q := eqAt_rd (h3 j j1 j3) (A := A.in1) (k3 j j2 j4) (oneNd_all o j j3 j4) (room_el j3 j4 hu)
        unfold pairEq
        rw [getD_at j3, getD_at j4]
        exact q
      rw [← eqvAll_eq xs ys, ← h2, ← k2]
      exact RcNeAt.tuples h1 k1 hr he
    | dict k1 => exact absurd rfl (ne _)
  | dict h1 => exact absurd rfl (nd _)
theorem ext_all {xs ys : List PyData} (h : xs.length = ys.length) (k : ∀ j (h1 : j < xs.length) (h2 : j < ys.length), xs[j] = ys[j]) : xs = ys := List.ext_getElem h k
theorem Rd.unique {h : Heap} {v : Value} {d e : PyData} (r : Rd h v d) (r' : Rd h v e) (n1 : ndB d = true) (n2 : ndB e = true) : d = e := by
  induction r generalizing e with
  | none => cases r'; rfl
  | bool b => cases r'; rfl
  | int i t => cases r'; rfl
  | str x t => cases r'; rfl
  | @list a vs xs h1 h2 h3 ih =>
    cases r' with
    | @list _ vs' ys k1 k2 k3 =>
      have e1 := isList_inj h1 k1
      subst e1
      rw [ext_all (by omega : xs.length = ys.length) fun j j1 j2 => ih j (by omega) j1 (k3 j (by omega) j2) (ndAll_mem n1 _ (List.getElem_mem j1)) (ndAll_mem n2 _ (List.getElem_mem j2))]
    | tuple k1 k2 k3 => exact (list_not_tuple h1 k1).elim
    | dict k1 => cases n2
  | @tuple a vs xs h1 h2 h3 ih =>
    cases r' with
    | @tuple _ vs' ys k1 k2 k3 =>
      have e1 := isTuple_inj h1 k1
      subst e1
      rw [ext_all (by omega : xs.length = ys.length) fun j j1 j2 => ih j (by omega) j1 (k3 j (by omega) j2) (ndAll_mem n1 _ (List.getElem_mem j1)) (ndAll_mem n2 _ (List.getElem_mem j2))]
    | list k1 k2 k3 => exact (list_not_tuple k1 h1).elim
    | dict k1 => cases n2
  | dict h1 => cases n1
noncomputable def inOf (h : Heap) (xs : List PyData) (d : PyData) (y : Value) : Bool := open Classical in if ∃ k, k ∈ xs ∧ Rd h y k ∧ PyData.eqv k d = true then true else false
theorem inOf_eq {h : Heap} {xs : List PyData} {d k : PyData} {y : Value} (hk : k ∈ xs) (r : Rd h y k) (n : ndAll xs = true) : inOf h xs d y = PyData.eqv k d := by
  unfold inOf
  by_cases c : ∃ k, k ∈ xs ∧ Rd h y k ∧ PyData.eqv k d = true
  · rw [if_pos c]
    obtain ⟨k2, hk2, r2, e2⟩ := c
    rw [Rd.unique r r2 (ndAll_mem n _ hk) (ndAll_mem n _ hk2), e2]
  · rw [if_neg c]
    cases e : PyData.eqv k d with
    | false => rfl
    | true => exact absurd ⟨k, hk, r, e⟩ c
section
variable {A : Around} {x : Value} {d : PyData} {vs : Array Value} {xs : List PyData}
theorem in_items (h2 : vs.size = xs.length) (h3 : ∀ j (h1 : j < vs.size) (h2 : j < xs.length), Rd s.heap vs[j] xs[j]) (rx : Rd s.heap x d) (n : ndAll xs = true) (hu : A.units + 1 + min (PyData.depthAll xs) d.depth < cLine) : ∀ y, y ∈ vs → EqAt A.in1 s y x (inOf s.heap xs d y) := fun y hy => by
  obtain ⟨j, hj, e⟩ := Array.mem_iff_getElem.mp hy
  have hj2 : j < xs.length := by omega
  have r := h3 j hj hj2
  rw [e] at r
  rw [inOf_eq (List.getElem_mem hj2) r n]
  have := depth_le hj2
  refine eqAt_rd r (A := A.in1) rx (.inl (ndAll_mem n _ (List.getElem_mem hj2))) ?_
  show A.units + 1 + min (xs[j]).depth d.depth < cLine
  omega
theorem in_any (h2 : vs.size = xs.length) (h3 : ∀ j (h1 : j < vs.size) (h2 : j < xs.length), Rd s.heap vs[j] xs[j]) (n : ndAll xs = true) : vs.any (inOf s.heap xs d) = xs.any fun y => PyData.eqv y d := by
  have e : vs.toList.map (inOf s.heap xs d) = xs.map fun y => PyData.eqv y d := by
    refine List.ext_getElem (by simpa using h2) fun j j1 j2 => ?_
    have j3 : j < vs.size := by simpa using j1
    have j4 : j < xs.length := by simpa using j2
    have r := h3 j j3 j4
    rw [List.getElem_map, List.getElem_map, Array.getElem_toList]
    exact inOf_eq (List.getElem_mem j4) r n
  have e2 : (vs.toList.map (inOf s.heap xs d)).any id = (xs.map fun y => PyData.eqv y d).any id := by rw [e]
  rw [List.any_map, List.any_map] at e2
  rw [← Array.any_toList]
  exact e2
variable {prog : Program} {w : World} {E : Value → Shared → Prop} {c : Value} {Q : Value → Shared → Prop}
theorem inL_rd (rc : Rd s.heap c (.list xs)) (rx : Rd s.heap x d) (n : ndAll xs = true) (hu : A.units + 1 + min (PyData.depthAll xs) d.depth < cLine) (h : Q (.bool (xs.any fun y => PyData.eqv y d)) s) : wpAny (model prog w) A (compareOp .In x c) Q E s := by
  cases rc with
  | list h1 h2 h3 => exact in_listAt _ h1 (in_items h2 h3 rx n hu) (by rw [in_any h2 h3 n]; exact h)
theorem niL_rd (rc : Rd s.heap c (.list xs)) (rx : Rd s.heap x d) (n : ndAll xs = true) (hu : A.units + 1 + min (PyData.depthAll xs) d.depth < cLine) (h : Q (.bool (!xs.any fun y => PyData.eqv y d)) s) : wpAny (model prog w) A (compareOp .NotIn x c) Q E s := by
  cases rc with
  | list h1 h2 h3 => exact notIn_listAt _ h1 (in_items h2 h3 rx n hu) (by rw [in_any h2 h3 n]; exact h)
theorem inT_rd (rc : Rd s.heap c (.tuple xs)) (rx : Rd s.heap x d) (n : ndAll xs = true) (hu : A.units + 1 + min (PyData.depthAll xs) d.depth < cLine) (h : Q (.bool (xs.any fun y => PyData.eqv y d)) s) : wpAny (model prog w) A (compareOp .In x c) Q E s := by
  cases rc with
  | tuple h1 h2 h3 => exact in_tupleAt _ h1 (in_items h2 h3 rx n hu) (by rw [in_any h2 h3 n]; exact h)
theorem niT_rd (rc : Rd s.heap c (.tuple xs)) (rx : Rd s.heap x d) (n : ndAll xs = true) (hu : A.units + 1 + min (PyData.depthAll xs) d.depth < cLine) (h : Q (.bool (!xs.any fun y => PyData.eqv y d)) s) : wpAny (model prog w) A (compareOp .NotIn x c) Q E s := by
  cases rc with
  | tuple h1 h2 h3 => exact notIn_tupleAt _ h1 (in_items h2 h3 rx n hu) (by rw [in_any h2 h3 n]; exact h)
end
end
end DcEq
/-! Mi: judgements over plain data -/
namespace Mi
open PySem PySem.Spec PyProof.Rows L2
/-- the known part of the heap, and the world (hash of texts) -/
structure Frag where
  toFrag : PySem.W.Frag
  w : World
instance : CoeOut Frag PySem.W.Frag := ⟨Frag.toFrag⟩
abbrev _root_.L2.Cx.kx (X : Cx) : Frag := ⟨X.K, X.w⟩
/-! ### data as keys -/
mutual
def nk : PyData → Option NestedKey
  | .none => some .none
  | .bool b => some (.num (if b = true then 1 else 0))
  | .int i => some (.num i)
  | .str x => some (.text x)
  | .tuple ds => match nks ds with
    | some ks => some (.tup ks)
    | none => none
  | .list _ => none
  | .dict _ => none
def nks : List PyData → Option (List NestedKey)
  | [] => some []
  | d :: ds => match nk d, nks ds with
    | some k, some ks => some (k :: ks)
    | _, _ => none
end
def isTupD : PyData → Bool
  | .tuple _ => true
  | _ => false
/-- a key that a dict may have: of no list, not deep -/
def keyOk (d : PyData) : Bool := match nk d with
  | some k => decide (k.depth ≤ 8)
  | none => false
/-- all keys are tuples, or none is; no two are the same -/
def keysOk (ds : List (PyData × PyData)) : Prop := (∀ p ∈ ds, keyOk p.1 = true) ∧ ((∀ p ∈ ds, isTupD p.1 = true) ∨ (∀ p ∈ ds, isTupD p.1 = false)) ∧ (ds.map fun p => nk p.1).Nodup
def hashK (w : World) (d : PyData) : Int := match nk d with
  | some k => k.hash w
  | none => 0
/-! what a dict tells -/
def hasD (ds : List (PyData × PyData)) (k : PyData) : Bool := ds.any fun p => decide (nk p.1 = nk k)
def lkD (ds : List (PyData × PyData)) (k : PyData) : Option PyData := (ds.find? fun p => decide (nk p.1 = nk k)).map (·.2)
def plD (ds : List (PyData × PyData)) (k : PyData) : Option Nat := ds.findIdx? fun p => decide (nk p.1 = nk k)
def putD (ds : List (PyData × PyData)) (k v : PyData) : List (PyData × PyData) := match plD ds k with
  | some j => ds.modify j fun p => (p.1, v)
  | none => ds ++ [(k, v)]
/-- a key that goes with those that are there -/
def kFit (ds : List (PyData × PyData)) (k : PyData) : Bool := keyOk k && ds.all fun p => isTupD p.1 == isTupD k
/-- the dict's object at a -/
def DHas (a : Addr) (es : Array DictEntry) (ep : Nat) : Heap → Prop := fun h => (a == sysModules) = false ∧ es.size ≤ sizeLine ∧ h.get? a = some { cls := .type "dict", data := .dict es ep }
abbrev dO (a : Addr) (es : Array DictEntry) (ep : Nat) : HO := .ext (DHas a es ep)
/-- a tuple of which all is known -/
abbrev tO (its : List Value) (xs : List V) : HO := .frz { cls := .type "tuple", data := .seq its.toArray } (.tup xs)
def SqX (K : PySem.W.Frag) (H : Hp) (a : Addr) (xs : List V) : Prop :=
  (∃ its, H a = some (tO its xs)) ∨
    ∃ (o : Obj) (its : Array Value) (n : Nat), K.lookup a = some o ∧ o.cls = .type "tuple" ∧ o.dict = none ∧ o.data = .seq its n ∧ its.size ≤ sizeLine ∧ Vals xs its.toList
theorem SqX.sq {K : PySem.W.Frag} {H : Hp} {a : Addr} {xs : List V} (h : SqX K H a xs) : SqT K H a xs := by
  rcases h with ⟨its, h⟩ | ⟨o, its, n, h1, h2, _, h3, h4, h5⟩
  · exact .inl (.inr ⟨_, h⟩)
  · exact .inr ⟨o, its, n, h1, h2, h3, h4, h5⟩
instance {K : PySem.W.Frag} {H : Hp} {a : Addr} {xs : List V} : CoeOut (SqX K H a xs) (SqT K H a xs) := ⟨SqX.sq⟩
theorem sqX_same {K : PySem.W.Frag} {H H' : Hp} {a : Addr} {xs : List V} (e : Same H H') (h : SqX K H a xs) : SqX K H' a xs := by
  rcases h with ⟨its, h⟩ | h
  · exact .inl ⟨its, e _ _ h⟩
  · exact .inr h
/-! ### data at addresses -/
mutual
inductive Rp (K : Frag) (H : Hp) : V → PyData → Prop
  | non : Rp K H .non .none
  | bl (b : Bool) : Rp K H (.bl b) (.bool b)
  | int (i : Int) : Rp K H (.int i) (.int i)
  | str (x : Str) : Rp K H (.str x) (.str x)
  | lst {a : Addr} {xs : List V} {ds : List PyData} : H a = some (.lst xs) → RpAll K H xs ds → Rp K H (.ref a) (.list ds)
  | tup {a : Addr} {xs : List V} {ds : List PyData} : SqX K H a xs → RpAll K H xs ds → Rp K H (.ref a) (.tuple ds)
  | dict {a : Addr} {es : Array DictEntry} {ep : Nat} {ds : List (PyData × PyData)} : H a = some (dO a es ep) → keysOk ds → RpKV K H es.toList ds → Rp K H (.ref a) (.dict ds)
inductive RpAll (K : Frag) (H : Hp) : List V → List PyData → Prop
  | nil : RpAll K H [] []
  | cons {v : V} {vs : List V} {d : PyData} {ds : List PyData} : Rp K H v d → RpAll K H vs ds → RpAll K H (v :: vs) (d :: ds)
inductive RpKV (K : Frag) (H : Hp) : List DictEntry → List (PyData × PyData) → Prop
  | nil : RpKV K H [] []
  | cons {t : DictEntry} {k v : V} {vs : List DictEntry} {e d : PyData} {ds : List (PyData × PyData)} : t.hash = hashK K.w e → RelV k t.key → RelV v t.val → Rp K H k e → Rp K H v d → RpKV K H vs ds → RpKV K H (t :: vs) ((e, d) :: ds)
end
theorem sqT_same {K : Frag} {H H' : Hp} {a : Addr} {xs : List V} (e : Same H H') (h : SqX K H a xs) : SqT K H' a xs := (sqX_same e h).sq
section
variable {K : Frag} {H H' : Hp}
mutual
theorem Rp.mono (s : Same H H') : ∀ (d : PyData) (v : V), Rp K H v d → Rp K H' v d
  | .none, _, h => by cases h; exact .non
  | .bool b, _, h => by cases h; exact .bl b
  | .int i, _, h => by cases h; exact .int i
  | .str x, _, h => by cases h; exact .str x
  | .list ds, _, h => by
    cases h with
    | lst h1 h2 => exact .lst (s _ _ h1) (RpAll.mono s ds _ h2)
  | .tuple ds, _, h => by
    cases h with
    | tup h1 h2 => exact .tup (sqX_same s h1) (RpAll.mono s ds _ h2)
  | .dict ds, _, h => by
    cases h with
    | dict h1 h0 h2 => exact .dict (s _ _ h1) h0 (RpKV.mono s ds _ h2)
theorem RpAll.mono (s : Same H H') : ∀ (ds : List PyData) (vs : List V), RpAll K H vs ds → RpAll K H' vs ds
  | [], _, h => by cases h; exact .nil
  | d :: ds, _, h => by
    cases h with
    | cons h1 h2 => exact .cons (Rp.mono s d _ h1) (RpAll.mono s ds _ h2)
theorem RpKV.mono (s : Same H H') : ∀ (ds : List (PyData × PyData)) (vs : List DictEntry), RpKV K H vs ds → RpKV K H' vs ds
  | [], _, h => by cases h; exact .nil
  | (e, d) :: ds, _, h => by
    cases h with
    | cons a1 a2 a3 h0 h1 h2 => exact .cons a1 a2 a3 (Rp.mono s e _ h0) (Rp.mono s d _ h1) (RpKV.mono s ds _ h2)
end
theorem Rp.up {v : V} {d : PyData} (h : Rp K H v d) (s : Same H H') : Rp K H' v d := Rp.mono s d v h
theorem RpAll.up {v : List V} {d : List PyData} (h : RpAll K H v d) (s : Same H H') : RpAll K H' v d := RpAll.mono s d v h
theorem RpKV.up {v : List DictEntry} {d : List (PyData × PyData)} (h : RpKV K H v d) (s : Same H H') : RpKV K H' v d := RpKV.mono s d v h
theorem RpAll.len : ∀ {vs : List V} {ds : List PyData}, RpAll K H vs ds → vs.length = ds.length
  | _, _, .nil => rfl
  | _, _, .cons _ t => congrArg (· + 1) (RpAll.len t)
theorem RpAll.app : ∀ {vs us : List V} {ds es : List PyData}, RpAll K H vs ds → RpAll K H us es → RpAll K H (vs ++ us) (ds ++ es)
  | _, _, _, _, .nil, h => h
  | _, _, _, _, .cons a t, h => .cons a (RpAll.app t h)
theorem RpAll.get : ∀ {vs : List V} {ds : List PyData} {i : Nat} {d : PyData}, RpAll K H vs ds → ds[i]? = some d → ∃ v, vs[i]? = some v ∧ Rp K H v d
  | _, _, _, _, .nil, h => by simp at h
  | _, _, 0, _, .cons a _, h => by
    simp at h
    subst h
    exact ⟨_, rfl, a⟩
  | _, _, i + 1, _, .cons _ t, h => by
    obtain ⟨v, h1, h2⟩ := RpAll.get (i := i) t (by simpa using h)
    exact ⟨v, by simpa using h1, h2⟩
theorem RpAll.got : ∀ {vs : List V} {ds : List PyData} {i : Nat} {v : V}, RpAll K H vs ds → vs[i]? = some v → ∃ d, ds[i]? = some d ∧ Rp K H v d
  | _, _, _, _, .nil, h => by simp at h
  | _, _, 0, _, .cons a _, h => by
    simp at h
    subst h
    exact ⟨_, rfl, a⟩
  | _, _, i + 1, _, .cons _ t, h => by
    obtain ⟨v, h1, h2⟩ := RpAll.got (i := i) t (by simpa using h)
    exact ⟨v, by simpa using h1, h2⟩
theorem RpAll.take : ∀ {vs : List V} {ds : List PyData} (n : Nat), RpAll K H vs ds → RpAll K H (vs.take n) (ds.take n)
  | _, _, 0, _ => by simpa using .nil
  | _, _, _ + 1, .nil => by simpa using .nil
  | _, _, n + 1, .cons a t => by simpa using .cons a (RpAll.take n t)
theorem RpAll.drop : ∀ {vs : List V} {ds : List PyData} (n : Nat), RpAll K H vs ds → RpAll K H (vs.drop n) (ds.drop n)
  | _, _, 0, h => by simpa using h
  | _, _, _ + 1, .nil => by simpa using .nil
  | _, _, n + 1, .cons a t => by simpa using RpAll.drop n t
theorem RpAll.rev : ∀ {vs : List V} {ds : List PyData}, RpAll K H vs ds → RpAll K H vs.reverse ds.reverse
  | _, _, .nil => .nil
  | _, _, .cons a t => by simpa using (RpAll.rev t).app (.cons a .nil)
theorem RpAll.set : ∀ {vs : List V} {ds : List PyData} (i : Nat) {v : V} {d : PyData}, RpAll K H vs ds → Rp K H v d → RpAll K H (vs.set i v) (ds.set i d)
  | _, _, _, _, _, .nil, _ => by simpa using .nil
  | _, _, 0, _, _, .cons _ t, h => by simpa using .cons h t
  | _, _, i + 1, _, _, .cons a t, h => by simpa using .cons a (RpAll.set i t h)
theorem RpAll.ints : ∀ (ns : List Int), RpAll K H (ns.map V.int) (ns.map PyData.int)
  | [] => .nil
  | n :: r => .cons (.int n) (RpAll.ints r)
end
/-! ### slots and frames -/
/-- a slot: nothing known, plain data, or an object that this def owns and may change -/
inductive Sl where
  | dead
  | dat (d : PyData)
  | own (t : Bool) (d : PyData)
abbrev Gm := List Sl
inductive Er where
  | stuck
  | exc (c : String) (g : Gm)
/-- a computation over the slots -/
def MM (α : Type) : Type := Gm → Except Er (α × Gm)
structure Frm where
  S : Addr → Prop
  G : Hp
  H : Hp
  p0 : Addr := 0
/-- the owned object at p has this content -/
def Own (K : Frag) (G H : Hp) (p : Addr) : PyData → Prop
  | .list ds => ∃ xs, H p = some (.lst xs) ∧ RpAll K G xs ds
  | .dict ds => ∃ es ep, H p = some (dO p es ep) ∧ keysOk ds ∧ RpKV K G es.toList ds
  | _ => False
theorem Own.some {K : Frag} {G H : Hp} {p : Addr} : ∀ {d : PyData}, Own K G H p d → ∃ o, H p = some o
  | .list _, ⟨_, h, _⟩ => ⟨_, h⟩
  | .dict _, ⟨_, _, h, _⟩ => ⟨_, h⟩
theorem Own.up {K : Frag} {G H G' H' : Hp} {p : Addr} (s : Same G G') (e : H' p = H p) : ∀ {d : PyData}, Own K G H p d → Own K G' H' p d
  | .list _, ⟨_, h, r⟩ => ⟨_, by rw [e]; exact h, r.up s⟩
  | .dict _, ⟨_, _, h, k, r⟩ => ⟨_, _, by rw [e]; exact h, k, r.up s⟩
structure At (K : Frag) (F : Frm) (σ : L2.St) (g : Gm) (G H : Hp) : Prop where
  ex : Same G H
  g0 : Same F.G G
  h0 : ∀ a o, F.H a = some o → ¬ F.S a → H a = some o
  f0 : ∀ a o, F.H a = some o → ¬ F.S a → G a = F.G a
  n0 : ∀ a, H a = none → F.H a = none
  len : σ.length = g.length
  pur : ∀ (i : Nat) (d : PyData), g[i]? = some (.dat d) → ∃ v, σ[i]? = some (some v) ∧ Rp K G v d
  own : ∀ (i : Nat) (t : Bool) (d : PyData), g[i]? = some (.own t d) → ∃ p, σ[i]? = some (some (.ref p)) ∧ G p = none ∧ Own K G H p d ∧ (F.S p ∨ F.H p = none) ∧ (t = true → p = F.p0)
  inj : ∀ (i j : Nat) (t u : Bool) (d e : PyData) (p : Addr), g[i]? = some (.own t d) → g[j]? = some (.own u e) → σ[i]? = some (some (.ref p)) → σ[j]? = some (some (.ref p)) → i = j
/-- the heap has grown by new objects -/
structure Gr (G H G' H' : Hp) : Prop where
  g : Same G G'
  h : Same H H'
  e : Same G' H'
  f : ∀ a o, H a = some o → G' a = G a
theorem Gr.refl {G H : Hp} (e : Same G H) : Gr G H G H := ⟨Same.refl _, Same.refl _, e, fun _ _ _ => rfl⟩
theorem Gr.new {G H : Hp} (e : Same G H) {p : Addr} {o : HO} (hp : H p = none) : Gr G H (upd G p o) (upd H p o) := by
  have gp : G p = none := e.free hp
  refine ⟨fun a u h => ?_, fun a u h => ?_, fun a u h => ?_, fun a u h => ?_⟩
  · rw [upd_ne (ne_of_none h gp)]; exact h
  · rw [upd_ne (ne_of_none h hp)]; exact h
  · by_cases q : a = p
    · subst q
      rw [upd_same] at h
      rw [upd_same]; exact h
    · rw [upd_ne q] at h
      rw [upd_ne q]; exact e _ _ h
  · rw [upd_ne (ne_of_none h hp)]
theorem Gr.trans {G H G1 H1 G2 H2 : Hp} (a : Gr G H G1 H1) (b : Gr G1 H1 G2 H2) : Gr G H G2 H2 :=
  ⟨a.g.trans b.g, a.h.trans b.h, b.e, fun x o h => (b.f x o (a.h _ _ h)).trans (a.f x o h)⟩
theorem same_new {H : Hp} {p : Addr} {o : HO} (h : H p = none) : Same H (upd H p o) := fun a u e => by
  rw [upd_ne (ne_of_none e h)]; exact e
section
variable {K : Frag} {F : Frm} {σ : L2.St} {g : Gm} {G H G' H' : Hp}
theorem At.grow (A : At K F σ g G H) (r : Gr G H G' H') : At K F σ g G' H' := by
  refine ⟨r.e, A.g0.trans r.g, fun a o h s => r.h _ _ (A.h0 a o h s), fun a o h s => (r.f a o (A.h0 a o h s)).trans (A.f0 a o h s), fun a h => A.n0 a (r.h.free h), A.len, fun i d h => ?_, fun i t d h => ?_, A.inj⟩
  · obtain ⟨v, h1, h2⟩ := A.pur i d h
    exact ⟨v, h1, h2.up r.g⟩
  · obtain ⟨p, h1, h2, h3, h4⟩ := A.own i _ d h
    obtain ⟨o, ho⟩ := h3.some
    exact ⟨p, h1, (r.f p o ho).trans h2, h3.up r.g ((r.h _ _ ho).trans ho.symm), h4⟩
/-- a slot that holds data -/
theorem At.put (A : At K F σ g G H) {i : Nat} {v : V} {d : PyData} (r : Rp K G v d) : At K F (σ.set i (some v)) (g.set i (.dat d)) G H := by
  refine ⟨A.ex, A.g0, A.h0, A.f0, A.n0, by simpa using A.len, fun j e h => ?_, fun j t e h => ?_, fun j k t u e e' p h1 h2 h3 h4 => ?_⟩
  · by_cases q : i = j
    · subst q
      by_cases hi : i < g.length
      · rw [List.getElem?_set_self hi] at h
        cases h
        exact ⟨v, List.getElem?_set_self (by rw [A.len]; exact hi), r⟩
      · rw [List.getElem?_eq_none (by simpa using hi)] at h; cases h
    · rw [List.getElem?_set_ne q] at h ⊢
      exact A.pur j e h
  · by_cases q : i = j
    · subst q
      by_cases hi : i < g.length
      · rw [List.getElem?_set_self hi] at h; cases h
      · rw [List.getElem?_eq_none (by simpa using hi)] at h; cases h
    · rw [List.getElem?_set_ne q] at h ⊢
      exact A.own j _ e h
  · have q1 : i ≠ j := fun q => by
      subst q
      by_cases hi : i < g.length
      · rw [List.getElem?_set_self hi] at h1; cases h1
      · rw [List.getElem?_eq_none (by simpa using hi)] at h1; cases h1
    have q2 : i ≠ k := fun q => by
      subst q
      by_cases hi : i < g.length
      · rw [List.getElem?_set_self hi] at h2; cases h2
      · rw [List.getElem?_eq_none (by simpa using hi)] at h2; cases h2
    rw [List.getElem?_set_ne q1] at h1 h3
    rw [List.getElem?_set_ne q2] at h2 h4
    exact A.inj j k _ _ e e' p h1 h2 h3 h4
/-- a slot forgotten -/
theorem At.kill (A : At K F σ g G H) (i : Nat) : At K F σ (g.set i .dead) G H := by
  have ne : ∀ {j : Nat} {s : Sl}, s ≠ .dead → (g.set i .dead)[j]? = some s → g[j]? = some s := fun {j s} hs h => by
    by_cases q : i = j
    · subst q
      by_cases hi : i < g.length
      · rw [List.getElem?_set_self hi] at h; cases h; exact absurd rfl hs
      · rw [List.getElem?_eq_none (by simpa using hi)] at h; cases h
    · rw [List.getElem?_set_ne q] at h; exact h
  exact ⟨A.ex, A.g0, A.h0, A.f0, A.n0, by simpa using A.len, fun j e h => A.pur j e (ne (by simp) h), fun j _ e h => A.own j _ e (ne (by simp) h), fun j k t u e e' p h1 h2 => A.inj j k _ _ e e' p (ne (by simp) h1) (ne (by simp) h2)⟩
/-- what is at σ may be anything where the slot is dead -/
theorem At.slot (A : At K F σ g G H) {i : Nat} {v : Option V} (h : g[i]? = some .dead ∨ g.length ≤ i) : At K F (σ.set i v) g G H := by
  have ne : ∀ {j : Nat} {s : Sl}, s ≠ .dead → g[j]? = some s → i ≠ j := fun {j s} hs e q => by
    subst q
    rcases h with h | h
    · rw [h] at e; cases e; exact hs rfl
    · rw [List.getElem?_eq_none h] at e; cases e
  refine ⟨A.ex, A.g0, A.h0, A.f0, A.n0, by simpa using A.len, fun j e h => ?_, fun j t e h => ?_, fun j k t u e e' p h1 h2 => ?_⟩
  · rw [List.getElem?_set_ne (ne (by simp) h)]; exact A.pur j e h
  · rw [List.getElem?_set_ne (ne (by simp) h)]; exact A.own j _ e h
  · rw [List.getElem?_set_ne (ne (by simp) h1), List.getElem?_set_ne (ne (by simp) h2)]; exact A.inj j k _ _ e e' p h1 h2
/-- an owned object is changed -/
theorem At.change (A : At K F σ g G H) {i : Nat} {p : Addr} {t : Bool} {d d' : PyData} {o : HO} (hi : g[i]? = some (.own t d)) (hp : σ[i]? = some (some (.ref p))) (h : Own K G (upd H p o) p d') : At K F σ (g.set i (.own t d')) G (upd H p o) := by
  obtain ⟨p', h1, h2, h3, h4, h5⟩ := A.own i _ d hi
  rw [hp] at h1
  cases h1
  have hl : i < g.length := by
    rcases Nat.lt_or_ge i g.length with q | q
    · exact q
    · rw [List.getElem?_eq_none q] at hi; cases hi
  refine ⟨fun a u e => ?_, A.g0, fun a u e s => ?_, A.f0, fun a e => ?_, by simpa using A.len, fun j e z => ?_, fun j t2 e z => ?_, fun j k t2 u e e' q z1 z2 z3 z4 => ?_⟩
  · rw [upd_ne (ne_of_none e h2)]; exact A.ex _ _ e
  · have ne : a ≠ p := fun q => by
      subst q
      rcases h4 with h4 | h4
      · exact s h4
      · rw [h4] at e; cases e
    rw [upd_ne ne]; exact A.h0 a u e s
  · by_cases q : a = p
    · subst q
      rw [upd_same] at e; cases e
    · rw [upd_ne q] at e; exact A.n0 a e
  · by_cases q : i = j
    · subst q
      rw [List.getElem?_set_self hl] at z; cases z
    · rw [List.getElem?_set_ne q] at z; exact A.pur j e z
  · by_cases q : i = j
    · subst q
      rw [List.getElem?_set_self hl] at z; cases z
      exact ⟨p, hp, h2, h, h4, h5⟩
    · rw [List.getElem?_set_ne q] at z
      obtain ⟨p2, y1, y2, y3, y4⟩ := A.own j _ e z
      have ne : p2 ≠ p := fun w => q (A.inj i j _ _ d e p hi z hp (w ▸ y1))
      exact ⟨p2, y1, y2, y3.up (Same.refl _) (upd_ne ne), y4⟩
  · have un : ∀ {k : Nat} {v : Bool} {e : PyData}, (g.set i (.own t d'))[k]? = some (.own v e) → ∃ v2 e2, g[k]? = some (.own v2 e2) := fun {k v e} z => by
      by_cases q : i = k
      · subst q; exact ⟨t, d, hi⟩
      · rw [List.getElem?_set_ne q] at z; exact ⟨v, e, z⟩
    obtain ⟨_, e2, w1⟩ := un z1
    obtain ⟨_, e3, w2⟩ := un z2
    exact A.inj j k _ _ e2 e3 q w1 w2 z3 z4
/-- a new object at p goes into slot i as one's own -/
theorem At.fresh (A : At K F σ g G H) {i : Nat} {p : Addr} {d : PyData} {o : HO} (hp : H p = none) (h : Own K G (upd H p o) p d) : At K F (σ.set i (some (.ref p))) (g.set i (.own false d)) G (upd H p o) := by
  have gp : G p = none := A.ex.free hp
  have ne : ∀ {j : Nat} {t : Bool} {e : PyData} {q : Addr}, g[j]? = some (.own t e) → σ[j]? = some (some (.ref q)) → q ≠ p := fun {j t e q} z y w => by
    obtain ⟨p2, y1, _, y3, _⟩ := A.own j _ e z
    rw [y] at y1
    cases y1
    obtain ⟨o', ho⟩ := y3.some
    rw [w, hp] at ho; cases ho
  refine ⟨fun a u e => ?_, A.g0, fun a u e s => ?_, A.f0, fun a e => ?_, by simpa using A.len, fun j e z => ?_, fun j t2 e z => ?_, fun j k t2 u e e' q z1 z2 z3 z4 => ?_⟩
  · rw [upd_ne (ne_of_none e gp)]; exact A.ex _ _ e
  · rw [upd_ne (ne_of_none (A.h0 a u e s) hp)]; exact A.h0 a u e s
  · by_cases q : a = p
    · subst q
      rw [upd_same] at e; cases e
    · rw [upd_ne q] at e; exact A.n0 a e
  · by_cases q : i = j
    · subst q
      by_cases hi : i < g.length
      · rw [List.getElem?_set_self hi] at z; cases z
      · rw [List.getElem?_eq_none (by simpa using hi)] at z; cases z
    · rw [List.getElem?_set_ne q] at z ⊢; exact A.pur j e z
  · by_cases q : i = j
    · subst q
      by_cases hi : i < g.length
      · rw [List.getElem?_set_self hi] at z; cases z
        exact ⟨p, List.getElem?_set_self (by rw [A.len]; exact hi), gp, h, .inr (A.n0 p hp), fun q => nomatch q⟩
      · rw [List.getElem?_eq_none (by simpa using hi)] at z; cases z
    · rw [List.getElem?_set_ne q] at z ⊢
      obtain ⟨p2, y1, y2, y3, y4⟩ := A.own j _ e z
      exact ⟨p2, y1, y2, y3.up (Same.refl _) (upd_ne (ne z y1)), y4⟩
  · by_cases q1 : i = j
    · by_cases q2 : i = k
      · rw [← q1, ← q2]
      · exfalso
        subst q1
        rw [List.getElem?_set_ne q2] at z2 z4
        by_cases hi : i < σ.length
        · rw [List.getElem?_set_self hi] at z3; cases z3
          exact ne z2 z4 rfl
        · rw [List.getElem?_eq_none (by simpa using hi)] at z3; cases z3
    · by_cases q2 : i = k
      · exfalso
        subst q2
        rw [List.getElem?_set_ne q1] at z1 z3
        by_cases hi : i < σ.length
        · rw [List.getElem?_set_self hi] at z4; cases z4
          exact ne z1 z3 rfl
        · rw [List.getElem?_eq_none (by simpa using hi)] at z4; cases z4
      · rw [List.getElem?_set_ne q1] at z1 z3
        rw [List.getElem?_set_ne q2] at z2 z4
        exact A.inj j k _ _ e e' q z1 z2 z3 z4
/-- an owned object is frozen: from now on it is plain data -/
theorem At.freeze (A : At K F σ g G H) {i : Nat} {t : Bool} {d : PyData} (hi : g[i]? = some (.own t d)) : ∃ p G', σ[i]? = some (some (.ref p)) ∧ At K F σ (g.set i (.dat d)) G' H ∧ Same G G' ∧ Rp K G' (.ref p) d := by
  obtain ⟨p, h1, h2, h3, h4, h5⟩ := A.own i _ d hi
  have hl : i < g.length := by
    rcases Nat.lt_or_ge i g.length with q | q
    · exact q
    · rw [List.getElem?_eq_none q] at hi; cases hi
  obtain ⟨o, ho⟩ := h3.some
  have sg : Same G (upd G p o) := same_new h2
  have rp : Rp K (upd G p o) (.ref p) d := by
    cases d with
    | list ds =>
      obtain ⟨xs, q1, q2⟩ := h3
      rw [q1] at ho; cases ho
      exact .lst upd_same (q2.up sg)
    | dict ds =>
      obtain ⟨es, ep, q1, q0, q2⟩ := h3
      rw [q1] at ho; cases ho
      exact .dict upd_same q0 (q2.up sg)
    | _ => exact h3.elim
  refine ⟨p, upd G p o, h1, ⟨fun a u e => ?_, A.g0.trans sg, A.h0, fun a u e s => ?_, A.n0, by simpa using A.len, fun j e z => ?_, fun j t2 e z => ?_, fun j k t2 u e e' q z1 z2 z3 z4 => ?_⟩, sg, rp⟩
  · by_cases q : a = p
    · subst q
      rw [upd_same] at e; cases e; exact ho
    · rw [upd_ne q] at e; exact A.ex _ _ e
  · have ne : a ≠ p := fun q => by
      subst q
      rcases h4 with h4 | h4
      · exact s h4
      · rw [h4] at e; cases e
    rw [upd_ne ne]; exact A.f0 a u e s
  · by_cases q : i = j
    · subst q
      rw [List.getElem?_set_self hl] at z; cases z
      exact ⟨_, h1, rp⟩
    · rw [List.getElem?_set_ne q] at z
      obtain ⟨v, y1, y2⟩ := A.pur j e z
      exact ⟨v, y1, y2.up sg⟩
  · by_cases q : i = j
    · subst q
      rw [List.getElem?_set_self hl] at z; cases z
    · rw [List.getElem?_set_ne q] at z
      obtain ⟨p2, y1, y2, y3, y4⟩ := A.own j _ e z
      have ne : p2 ≠ p := fun w => q (A.inj i j _ _ d e p hi z h1 (w ▸ y1))
      exact ⟨p2, y1, by rw [upd_ne ne]; exact y2, y3.up sg rfl, y4⟩
  · have un : ∀ {k : Nat} {v : Bool} {e : PyData}, (g.set i (.dat d))[k]? = some (.own v e) → g[k]? = some (.own v e) := fun {k v e} z => by
      by_cases q : i = k
      · subst q
        rw [List.getElem?_set_self hl] at z; cases z
      · rw [List.getElem?_set_ne q] at z; exact z
    exact A.inj j k _ _ e e' q (un z1) (un z2) z3 z4
end
end Mi
namespace Mi
open PySem PySem.Spec PyProof.Rows L2
abbrev Mg := Str → Option Value
/-! ### computations -/
def bnd {α β : Type} (m : MM α) (f : α → MM β) : MM β := fun g => match m g with
  | .ok (a, g') => f a g'
  | .error e => .error e
def ret {α : Type} (a : α) : MM α := fun g => .ok (a, g)
def lft {α : Type} (o : Option α) : MM α := fun g => match o with
  | some a => .ok (a, g)
  | none => .error .stuck
/-- reading a name: an owned object is frozen by it -/
def rdV (i : Nat) : MM PyData := fun g => match g[i]? with
  | some (.dat d) => .ok (d, g)
  | some (.own _ d) => .ok (d, g.set i (.dat d))
  | _ => .error .stuck
/-- looking at a name: nothing changes -/
def pkV (i : Nat) : MM PyData := fun g => match g[i]? with
  | some (.dat d) => .ok (d, g)
  | some (.own _ d) => .ok (d, g)
  | _ => .error .stuck
def Po {α : Type} (K : Frag) (mg : Mg) (W : WX) (F : Frm) (σ : L2.St) (G : Hp) (r : Except Er (α × Gm)) (k : α → Gm → Hp → Hp → Prop) : Prop :=
  match r with
  | .ok (a, g') => ∀ G' H', At K F σ g' G' H' → Same G G' → k a g' G' H'
  | .error (.exc c g') => ∀ C : Addr, mg (Str.ofString c) = some (.ref C) → ∀ G' H', At K F σ g' G' H' → Same G G' → W (.ref C) none σ H'
  | .error .stuck => False
section
variable {α β : Type} {K : Frag} {mg : Mg} {W : WX} {F : Frm} {σ : L2.St} {G G1 H : Hp} {g : Gm} {r : Except Er (α × Gm)} {k k' : α → Gm → Hp → Hp → Prop}
theorem Po.base (s : Same G G1) (h : Po K mg W F σ G r k) : Po K mg W F σ G1 r k := by
  rcases r with (_ | ⟨c, g'⟩) | ⟨a, g'⟩
  · exact h
  · exact fun C e G' H' A s' => h C e G' H' A (s.trans s')
  · exact fun G' H' A s' => h G' H' A (s.trans s')
theorem Po.imp (h : Po K mg W F σ G r k) (i : ∀ a g' G' H', At K F σ g' G' H' → Same G G' → k a g' G' H' → k' a g' G' H') : Po K mg W F σ G r k' := by
  rcases r with (_ | ⟨c, g'⟩) | ⟨a, g'⟩
  · exact h
  · exact h
  · exact fun G' H' A s => i _ _ _ _ A s (h G' H' A s)
theorem Po.bnd {m : MM α} {f : α → MM β} {k : β → Gm → Hp → Hp → Prop} (h : Po K mg W F σ G (Mi.bnd m f g) k) : Po K mg W F σ G (m g) fun a g1 G1 _ => Po K mg W F σ G1 (f a g1) k := by
  unfold Mi.bnd at h
  generalize e : m g = r at h
  rcases r with (_ | ⟨c, g'⟩) | ⟨a, g'⟩
  · exact h
  · exact h
  · exact fun G' H' A s => Po.base s h
theorem Po.lft {o : Option α} {k : α → Gm → Hp → Hp → Prop} (h : Po K mg W F σ G (Mi.lft o g) k) : ∃ a, o = some a ∧ ∀ G' H', At K F σ g G' H' → Same G G' → k a g G' H' := by
  unfold Mi.lft at h
  cases o with
  | none => exact h.elim
  | some a => exact ⟨a, rfl, h⟩
end
/-! ### canonical readings -/
def cE (K : Frag) (mg : Mg) (W : WX) (m : MM PyData) : TE := fun σ H Q => ∃ F g G, At K F σ g G H ∧ Po K mg W F σ G (m g) fun d _ G' H' => ∀ v, Rp K G' v d → Q v H'
/-- a value that may be an owned object -/
def Rq (K : Frag) (G H : Hp) (v : V) (d : PyData) : Prop := Rp K G v d ∨ ∃ p, v = .ref p ∧ Own K G H p d
def cQ (K : Frag) (mg : Mg) (W : WX) (m : MM PyData) : TE := fun σ H Q => ∃ F g G, At K F σ g G H ∧ Po K mg W F σ G (m g) fun d _ G' H' => ∀ v, Rq K G' H' v d → Q v H'
def cT (K : Frag) (mg : Mg) (W : WX) (m : MM Bool) : TT := fun σ H Q => ∃ F g G, At K F σ g G H ∧ Po K mg W F σ G (m g) fun b _ G' H' => Q b H'
def cA (K : Frag) (mg : Mg) (W : WX) (m : MM (List PyData)) : TA := fun σ H Q => ∃ F g G, At K F σ g G H ∧ Po K mg W F σ G (m g) fun ds _ G' H' => ∀ vs, RpAll K G' vs ds → Q vs H'
def cO (K : Frag) (mg : Mg) (W : WX) (m : MM (Option Int)) : TO := fun σ H Q => ∃ F g G, At K F σ g G H ∧ Po K mg W F σ G (m g) fun o _ G' H' => Q o H'
def ME (X : Cx) (W : WX) (e : Expr) (m : MM PyData) : Prop := PE X e (cE X.kx X.mg W m)
def MQ (X : Cx) (W : WX) (e : Expr) (m : MM PyData) : Prop := PE X e (cQ X.kx X.mg W m)
def MT (X : Cx) (W : WX) (e : Expr) (m : MM Bool) : Prop := PT X e (cT X.kx X.mg W m)
def MW (X : Cx) (W : WX) (e : Expr) (m : MM Bool) : Prop := PW X e (cT X.kx X.mg W m)
def MA (X : Cx) (W : WX) (es : List Expr) (m : MM (List PyData)) : Prop := PA X es (cA X.kx X.mg W m)
def MO (X : Cx) (W : WX) (e : Option Expr) (m : MM (Option Int)) : Prop := PO X e (cO X.kx X.mg W m)
section
variable {X : Cx} {W : WX} {e a b c : Expr} {t t' : TE} {tt tt' : TT} {ta ta' : TA} {es : List Expr} {pos : Pos}
theorem _root_.L2.PE.wk (h : PE X e t) (i : ∀ σ H Q, t' σ H Q → t σ H Q) : PE X e t' := ⟨fun pins s σ H Q I q => h.run pins s σ H Q I (i σ H Q q)⟩
theorem _root_.L2.PT.wk (h : PT X e tt) (i : ∀ σ H Q, tt' σ H Q → tt σ H Q) : PT X e tt' := ⟨fun pins s σ H Q I q => h.run pins s σ H Q I (i σ H Q q)⟩
theorem _root_.L2.PW.wk (h : PW X e tt) (i : ∀ σ H Q, tt' σ H Q → tt σ H Q) : PW X e tt' := ⟨fun wh pins s σ H Q I q => h.run wh pins s σ H Q I (i σ H Q q)⟩
theorem _root_.L2.PA.wk (h : PA X es ta) (i : ∀ σ H Q, ta' σ H Q → ta σ H Q) : PA X es ta' := ⟨fun po pins s σ H Q I q => h.run po pins s σ H Q I (i σ H Q q)⟩
theorem _root_.L2.PO.wk {o : Option Expr} {to to' : TO} (h : PO X o to) (i : ∀ σ H Q, to' σ H Q → to σ H Q) : PO X o to' := ⟨fun pins s σ H Q I q => h.run pins s σ H Q I (i σ H Q q)⟩
/-- two rules for one expression -/
theorem _root_.L2.PE.or (h : PE X e t) (h' : PE X e t') : PE X e (fun σ H Q => t σ H Q ∨ t' σ H Q) := ⟨fun pins s σ H Q I q => q.elim (h.run pins s σ H Q I) (h'.run pins s σ H Q I)⟩
end
section
variable {K : Frag} {F : Frm} {σ : L2.St} {g : Gm} {G H G' H' : Hp} {v : V} {d : PyData}
theorem Rq.rp (s : Same G H) (h : Rq K G H v d) : Rp K H v d := by
  rcases h with h | ⟨p, rfl, h⟩
  · exact h.up s
  · cases d with
    | list ds => obtain ⟨xs, h1, h2⟩ := h; exact .lst h1 (h2.up s)
    | dict ds => obtain ⟨es, ep, h1, h0, h2⟩ := h; exact .dict h1 h0 (h2.up s)
    | _ => exact h.elim
theorem Rq.lst {ds : List PyData} (s : Same G H) (h : Rq K G H v (.list ds)) : ∃ p xs, v = .ref p ∧ H p = some (.lst xs) ∧ RpAll K G xs ds := by
  rcases h with h | ⟨p, rfl, xs, h1, h2⟩
  · cases h with
    | lst h1 h2 => exact ⟨_, _, rfl, s _ _ h1, h2⟩
  · exact ⟨p, xs, rfl, h1, h2⟩
theorem Rq.tup {ds : List PyData} (s : Same G H) (h : Rq K G H v (.tuple ds)) : ∃ p xs, v = .ref p ∧ SqX K H p xs ∧ RpAll K G xs ds := by
  rcases h with h | ⟨p, rfl, h⟩
  · cases h with
    | tup h1 h2 => exact ⟨_, _, rfl, sqX_same s h1, h2⟩
  · exact h.elim
theorem Rq.dict {ds : List (PyData × PyData)} (s : Same G H) (h : Rq K G H v (.dict ds)) : ∃ p es ep, v = .ref p ∧ H p = some (dO p es ep) ∧ keysOk ds ∧ RpKV K G es.toList ds := by
  rcases h with h | ⟨p, rfl, es, ep, h1, h0, h2⟩
  · cases h with
    | dict h1 h0 h2 => exact ⟨_, _, _, rfl, s _ _ h1, h0, h2⟩
  · exact ⟨p, es, ep, rfl, h1, h0, h2⟩
theorem Rq.int {i : Int} (h : Rq K G H v (.int i)) : v = .int i := by
  rcases h with h | ⟨p, rfl, h⟩
  · cases h; rfl
  · exact h.elim
theorem Rq.str {x : Str} (h : Rq K G H v (.str x)) : v = .str x := by
  rcases h with h | ⟨p, rfl, h⟩
  · cases h; rfl
  · exact h.elim
theorem Rq.bool {x : Bool} (h : Rq K G H v (.bool x)) : v = .bl x := by
  rcases h with h | ⟨p, rfl, h⟩
  · cases h; rfl
  · exact h.elim
theorem Rq.none (h : Rq K G H v .none) : v = .non := by
  rcases h with h | ⟨p, rfl, h⟩
  · cases h; rfl
  · exact h.elim
theorem Rp.q (h : Rp K G v d) : Rq K G H v d := .inl h
theorem Rq.grow (r : Gr G H G' H') (h : Rq K G H v d) : Rq K G' H' v d := by
  rcases h with h | ⟨p, e, h⟩
  · exact .inl (h.up r.g)
  · obtain ⟨o, ho⟩ := h.some
    exact .inr ⟨p, e, h.up r.g ((r.h _ _ ho).trans ho.symm)⟩
/-! Rp as Dp, where no dict is -/
mutual
theorem Rp.dp : ∀ (d : PyData) (v : V), d.canLay0 = true → Rp K H v d → Dp K H v d
  | .none, _, _, h => by cases h; exact .non
  | .bool b, _, _, h => by cases h; exact .bl b
  | .int i, _, _, h => by cases h; exact .int i
  | .str x, _, _, h => by cases h; exact .str x
  | .list ds, _, n, h => by
    cases h with
    | lst h1 h2 => exact .lst (.inl (.inl h1)) (RpAll.dp ds _ (by simpa [PyData.canLay0] using n) h2)
  | .tuple ds, _, n, h => by
    cases h with
    | tup h1 h2 => exact .tup h1 (RpAll.dp ds _ (by simpa [PyData.canLay0] using n) h2)
  | .dict ds, _, n, h => by simp [PyData.canLay0] at n
theorem RpAll.dp : ∀ (ds : List PyData) (vs : List V), PyData.canLayAll0 ds = true → RpAll K H vs ds → DpAll K H vs ds
  | [], _, _, h => by cases h; exact .nil
  | d :: ds, _, n, h => by
    cases h with
    | cons h1 h2 =>
      simp only [PyData.canLayAll0, Bool.and_eq_true] at n
      exact .cons (Rp.dp d _ n.1 h1) (RpAll.dp ds _ n.2 h2)
end
end
/-! ### tuples of which all is known -/
section
variable {X : Cx} {pins : List (Addr × Obj)} {σ : L2.St} {H : Hp} {s : Shared} {e : Expr} {es : List Expr} {te : TE} {t : TA} {pos : Pos}
theorem lay_tup {xs : List V} {its : List Value} (I : Inv X pins σ H s) (r : Vals xs its) (hz : xs.length ≤ sizeLine) :
    Inv X pins σ (upd H s.heap.objs.size (tO its xs)) { s with heap := s.heap.push { cls := .type "tuple", data := .seq its.toArray } } :=
  I.laid (t' := s.toks) (o := tO its xs) (fun b u e => Heap.get?_push_of_some _ e) (Nat.le_refl _) ⟨Heap.get?_push_size _ rfl, hz, its, r, IsTup.new _ _⟩
/-- a new tuple of these -/
def NewT (xs : List V) (H : Hp) (Q : VK) : Prop := ∀ p its, H p = none → Q (.ref p) (upd H p (tO its xs))
theorem new_tup {Q : VK} {xs : List V} {its : List Value} (I : Inv X pins σ H s) (r : Vals xs its) (hz : xs.length ≤ sizeLine) (q : NewT xs H Q) :
    EP X pins σ Q (.ref s.heap.objs.size) { s with heap := s.heap.push { cls := .type "tuple", data := .seq its.toArray } } :=
  ⟨.ref s.heap.objs.size, _, lay_tup I r hz, rfl, q _ _ (I.hok.fresh (Nat.le_refl _))⟩
def tTupX (t : TA) : TE := fun σ H Q => t σ H fun xs H1 => xs.length ≤ sizeLine ∧ NewT xs H1 Q
theorem pe_tupX {x1} (h : PA X es t) : PE X (.Tuple es x1 pos) (tTupX t) := by
  refine ⟨fun pins s σ H Q I hq => ?_⟩
  refine wpAny_Tuple_spliced (thn (h.run pos pins s σ H _ I hq) fun us s1 ⟨xs, H1, I1, r, z, q⟩ => ⟨by rw [← r.length]; exact z, ?_⟩)
  exact new_tup I1 r z q
/-- t + u -/
def rCatX (K : PySem.W.Frag) : R2 := fun x y H Q => ∃ a b xs ys, x = .ref a ∧ y = .ref b ∧ SqT K H a xs ∧ SqT K H b ys ∧ xs.length + ys.length ≤ sizeLine ∧
  (xs = [] → Q (.ref b) H) ∧ (xs ≠ [] → ys = [] → Q (.ref a) H) ∧ (xs ≠ [] → ys ≠ [] → NewT (xs ++ ys) H Q)
theorem op_catX : OpR X (binaryOp .Add) (rCatX X.K) := by
  intro pins s σ H x y v u Q I rx ry h
  obtain ⟨a, b, xs, ys, rfl, rfl, ha, hb, hz, q0, q1, q2⟩ := h
  cases rx
  cases ry
  obtain ⟨its, r1, p1, _⟩ := I.tuple ha
  obtain ⟨its2, r2, p2, _⟩ := I.tuple hb
  by_cases hx : xs = []
  · subst hx
    cases r1
    exact cat_tup0 p1 p2 ⟨.ref b, H, I, rfl, q0 rfl⟩
  · refine HT.cat_tup p1 p2 (fun z => hx (r1.nil_iff.mp z)) (fun z => ⟨.ref a, H, I, rfl, q1 hx (r2.nil_iff.mp z)⟩) (fun z => ?_) (by rw [← r1.length, ← r2.length]; exact hz)
    exact new_tup I (r1.append r2) (by rw [List.length_append]; exact hz) (q2 hx fun w => z (r2.nil_iff.mpr w))
/-- t[lo:hi]: the whole of it is t itself -/
def rSlX (K : PySem.W.Frag) : V → Option Int → Option Int → Hp → VK → Prop := fun x lo hi H Q => ∃ a xs, x = .ref a ∧ SqT K H a xs ∧
  (HT.sIx xs.length 0 lo = 0 ∧ HT.sIx xs.length xs.length hi = xs.length → Q (.ref a) H) ∧ (¬ (HT.sIx xs.length 0 lo = 0 ∧ HT.sIx xs.length xs.length hi = xs.length) → NewT (cutV xs lo hi) H Q)
theorem sl_tupX : SlR X (rSlX X.K) := by
  intro pins s σ H x v vl vu lo hi sl Q I rx hs pl pu h
  obtain ⟨a, xs, rfl, hx, q1, q2⟩ := h
  cases rx
  obtain ⟨its, r, ht, hz⟩ := I.tuple hx
  have hlen : its.toArray.size = xs.length := by rw [List.size_toArray]; exact r.length.symm
  refine ⟨"tuple", _, PyProof.Rows.slot_tuple_getitem.lookup, ht.typeIs, ?_⟩
  by_cases hw : HT.sIx xs.length 0 lo = 0 ∧ HT.sIx xs.length xs.length hi = xs.length
  · exact getItem_tuple_whole ht hs pl pu (by rw [hlen]; exact hw) ⟨.ref a, H, I, rfl, q1 hw⟩
  · refine HT.getItem_tuple_cut ht hs pl pu (by rw [hlen]; exact hw) ?_ (by rw [hlen]; exact hz)
    rw [hlen]
    exact new_tup I ((r.drop (HT.sIx xs.length 0 lo)).take (HT.sIx xs.length xs.length hi - HT.sIx xs.length 0 lo)) (Nat.le_trans (cutV_length xs lo hi) hz) (q2 hw)
/-- tuple(x) of a list or a tuple -/
theorem call_tupX : CallR X (.type "tuple") (fun xs H Q => ∃ p ys, xs = [.ref p] ∧ ((SqL X.K H p ys ∧ NewT ys H Q) ∨ (SqT X.K H p ys ∧ Q (.ref p) H))) := by
  intro pins s σ H xs us Q I r h
  obtain ⟨p, ys, rfl, h⟩ := h
  obtain ⟨u, rfl, rx⟩ := vals1 r
  cases rx
  rcases h with ⟨hq, q⟩ | ⟨hq, q⟩
  · obtain ⟨its, r', pl, hz⟩ := I.list hq
    have hlen := r'.length
    refine call_tuple_list pl.isList (fun h' kp => ?_) (by simp only [List.size_toArray] <;> omega)
    have I1 : Inv X pins σ H { s with heap := h' } := I.kept (t' := s.toks) kp
    exact new_tup I1 r' hz q
  · obtain ⟨its, r', pl, hz⟩ := I.tuple hq
    exact call_tuple_same pl ⟨.ref p, H, I, rfl, q⟩
end
/-! new tuples of data -/
theorem NewT.of {K : Frag} {G H : Hp} {xs : List V} {ds : List PyData} {Q : VK} (s : Same G H) (r : RpAll K G xs ds) (k : ∀ v G' H', Gr G H G' H' → Rp K G' v (.tuple ds) → Q v H') : NewT xs H Q := fun p its hp => by
  have gr := Gr.new (o := tO its xs) s hp
  exact k _ _ _ gr (.tup (.inl ⟨its, upd_same⟩) (r.up gr.g))
end Mi
namespace Mi
open PySem PySem.Spec PyProof.Rows L2
/-! ### operations on data -/
/-- a two-place operation -/
def Op2 (K : Frag) (r : R2) (f : PyData → PyData → Option PyData) : Prop := ∀ (x y : V) (d e z : PyData) (G H : Hp) (Q : VK), f d e = some z → Rq K G H x d → Rq K G H y e → Same G H →
  (∀ v G' H', Gr G H G' H' → Rp K G' v z → Q v H') → r x y H Q
def Op1 (K : Frag) (r : V → Hp → VK → Prop) (f : PyData → Option PyData) : Prop := ∀ (x : V) (d z : PyData) (G H : Hp) (Q : VK), f d = some z → Rq K G H x d → Same G H →
  (∀ v G' H', Gr G H G' H' → Rp K G' v z → Q v H') → r x H Q
def truD : PyData → Option Bool
  | .none => some false
  | .bool b => some b
  | .int i => some (i != 0)
  | .str x => if x.length ≤ sizeLine then some ((x.length : Int) != 0) else none
  | .list xs => some (!xs.isEmpty)
  | .tuple xs => some (!xs.isEmpty)
  | .dict _ => none
/-! ### computations -/
def op1 (f : PyData → Option PyData) (a : MM PyData) : MM PyData := bnd a fun d => lft (f d)
def op2 (f : PyData → PyData → Option PyData) (a b : MM PyData) : MM PyData := bnd a fun d => bnd b fun e => lft (f d e)
/-- the first operand a name that is looked at behind the second one -/
def op2V (f : PyData → PyData → Option PyData) (i : Nat) (b : MM PyData) : MM PyData := bnd (pkV i) fun _ => bnd b fun e => bnd (pkV i) fun d => lft (f d e)
def tru (a : MM PyData) : MM Bool := bnd a fun d => lft (truD d)
def andT (a b : MM Bool) : MM Bool := bnd a fun c => if c = true then b else ret false
def orT (a b : MM Bool) : MM Bool := bnd a fun c => if c = true then ret true else b
def notT (a : MM Bool) : MM Bool := bnd a fun c => ret (!c)
def andV (a b : MM PyData) : MM PyData := bnd a fun d => bnd (lft (truD d)) fun c => if c = true then b else ret d
def orV (a b : MM PyData) : MM PyData := bnd a fun d => bnd (lft (truD d)) fun c => if c = true then ret d else b
def notV (a : MM PyData) : MM PyData := bnd a fun d => bnd (lft (truD d)) fun c => ret (.bool (!c))
def ifM {α : Type} (t : MM Bool) (a b : MM α) : MM α := bnd t fun c => if c = true then a else b
def consM (a : MM PyData) (r : MM (List PyData)) : MM (List PyData) := bnd a fun d => bnd r fun ds => ret (d :: ds)
def nilM : MM (List PyData) := ret []
def tupM (a : MM (List PyData)) : MM PyData := bnd a fun ds => lft (if ds.length ≤ sizeLine then some (.tuple ds) else none)
def lstM (a : MM (List PyData)) : MM PyData := bnd a fun ds => lft (if ds.length ≤ sizeLine then some (.list ds) else none)
def noneO : MM (Option Int) := ret none
def someO (a : MM PyData) : MM (Option Int) := bnd a fun d => match d with | .int i => ret (some i) | _ => lft none
def slM (f : PyData → Option Int → Option Int → Option PyData) (a : MM PyData) (l u : MM (Option Int)) : MM PyData := bnd a fun d => bnd l fun i => bnd u fun j => lft (f d i j)
def slMV (f : PyData → Option Int → Option Int → Option PyData) (n : Nat) (l u : MM (Option Int)) : MM PyData := bnd (pkV n) fun _ => bnd l fun i => bnd u fun j => bnd (pkV n) fun d => lft (f d i j)
/-- a < b < c -/
def chainM (f f' : PyData → PyData → Option PyData) (a b c : MM PyData) : MM PyData :=
  bnd a fun d => bnd b fun e => bnd (lft (f d e)) fun z => match z with
    | .bool true => bnd c fun h => lft (f' e h)
    | .bool false => ret (.bool false)
    | _ => lft none
section
variable {X : Cx} {W : WX} {e a b c : Expr} {es : List Expr} {pos : Pos} {m ma mb mc : MM PyData} {mas : MM (List PyData)} {tA tB : MM Bool}
theorem MQ.of (h : ME X W e m) : MQ X W e m := PE.wk h fun σ H Q ⟨F, g, G, A, q⟩ => ⟨F, g, G, A, q.imp fun _ _ _ _ _ _ k v r => k v (.inl r)⟩
/-! names and constants -/
theorem me_var {i : Nat} {x : Str} (h : PE X (.Name x pos) (tVar i)) : ME X W (.Name x pos) (rdV i) := PE.wk h fun σ H Q ⟨F, g, G, A, q⟩ => by
  unfold rdV at q
  split at q
  · rename_i d e
    obtain ⟨v, h1, h2⟩ := A.pur i d e
    exact ⟨v, h1, q G H A (Same.refl _) v h2⟩
  · rename_i t d e
    obtain ⟨p, G', h1, A', s, r⟩ := A.freeze e
    exact ⟨_, h1, q G' H A' s _ r⟩
  · exact q.elim
theorem pk_read {α : Type} {K : Frag} {mg : Mg} {F : Frm} {σ : L2.St} {g : Gm} {G H : Hp} {i : Nat} {f : PyData → MM α} {k : α → Gm → Hp → Hp → Prop} (A : At K F σ g G H) (q : Po K mg W F σ G (bnd (pkV i) f g) k) :
    ∃ v d, σ[i]? = some (some v) ∧ Rq K G H v d ∧ Po K mg W F σ G (f d g) k := by
  unfold bnd pkV at q
  generalize eg : g[i]? = s at q
  rcases s with _ | (_ | d | ⟨t, d⟩)
  · exact q.elim
  · exact q.elim
  · obtain ⟨v, h1, h2⟩ := A.pur i d eg
    exact ⟨v, d, h1, .inl h2, q⟩
  · obtain ⟨p, h1, h2, h3, h4⟩ := A.own i _ d eg
    exact ⟨_, d, h1, .inr ⟨p, rfl, h3⟩, q⟩
theorem mq_var {i : Nat} {x : Str} (h : PE X (.Name x pos) (tVar i)) : MQ X W (.Name x pos) (pkV i) := PE.wk h fun σ H Q ⟨F, g, G, A, q⟩ => by
  have q' : Po X.kx X.mg W F σ G (bnd (pkV i) ret g) fun d _ G' H' => ∀ v, Rq X.kx G' H' v d → Q v H' := by
    unfold bnd ret
    revert q
    cases pkV i g with
    | ok p => exact fun q => q
    | error e => exact fun q => q
  obtain ⟨v, d, h1, h2, h3⟩ := pk_read A q'
  exact ⟨v, h1, h3 G H A (Same.refl _) v h2⟩
theorem me_c {v : V} {d : PyData} (h : PE X e (tC v)) (r : ∀ H : Hp, Rp X.kx H v d) : ME X W e (ret d) := PE.wk h fun σ H Q ⟨F, g, G, A, q⟩ => q G H A (Same.refl _) v (r G)
theorem me_int {i j} : ME X W (.Constant (.int i) j pos) (ret (.int i)) := me_c pe_int fun _ => .int i
theorem me_bl {i j} : ME X W (.Constant (.bool i) j pos) (ret (.bool i)) := me_c pe_bl fun _ => .bl i
theorem me_non {j} : ME X W (.Constant .none j pos) (ret .none) := me_c pe_non fun _ => .non
theorem me_str {x j} : ME X W (.Constant (.str x) j pos) (ret (.str x)) := me_c pe_str fun _ => .str x
/-! operations -/
theorem op2_fin {K : Frag} {mg : Mg} {F : Frm} {σ : L2.St} {g : Gm} {G H : Hp} {Q : VK} {r : R2} {f : PyData → PyData → Option PyData} (ho : Op2 K r f) {x y : V} {d d' : PyData} (A : At K F σ g G H)
    (q : Po K mg W F σ G (lft (f d d') g) fun z _ G' H' => ∀ v, Rp K G' v z → Q v H') (rx : Rq K G H x d) (ry : Rq K G H y d') : r x y H Q := by
  obtain ⟨z, ez, k⟩ := q.lft
  exact ho x y d d' z G H Q ez rx ry A.ex fun v G' H' gr rv => k G' H' (A.grow gr) gr.g v rv
theorem tOp_of {K : Frag} {mg : Mg} {r : R2} {f : PyData → PyData → Option PyData} (ho : Op2 K r f) {σ : L2.St} {H : Hp} {Q : VK} (h : cE K mg W (op2 f ma mb) σ H Q) : tOp r (cE K mg W ma) (cQ K mg W mb) σ H Q := by
  obtain ⟨F, g, G, A, q⟩ := h
  refine ⟨F, g, G, A, Po.imp q.bnd fun d g1 G1 H1 A1 s1 k1 x rx => ?_⟩
  exact ⟨F, g1, G1, A1, Po.imp k1.bnd fun d' g2 G2 H2 A2 s2 k2 y ry => op2_fin ho A2 k2 (.inl (rx.up s2)) ry⟩
theorem tOpV_of {K : Frag} {mg : Mg} {r : R2} {f : PyData → PyData → Option PyData} (ho : Op2 K r f) {i : Nat} {σ : L2.St} {H : Hp} {Q : VK} (h : cE K mg W (op2V f i mb) σ H Q) : tOp r (tVar i) (cQ K mg W mb) σ H Q := by
  obtain ⟨F, g, G, A, q⟩ := h
  obtain ⟨v, d, ev, _, q2⟩ := pk_read A q
  refine ⟨v, ev, F, g, G, A, Po.imp q2.bnd fun d' g2 G2 H2 A2 s2 k2 y ry => ?_⟩
  obtain ⟨v', d2, ev', rv, k3⟩ := pk_read A2 k2
  rw [ev] at ev'
  cases ev'
  exact op2_fin ho A2 k3 rv ry
theorem me_op {op : Operator} {r : R2} {f : PyData → PyData → Option PyData} (ho : Op2 X.kx r f) (hr : OpR X (binaryOp op) r) (ha : ME X W a ma) (hb : MQ X W b mb) : ME X W (.BinOp a op b pos) (op2 f ma mb) := PE.wk (pe_op hr ha hb) fun _ _ _ h => tOp_of ho h
theorem me_opV {op : Operator} {r : R2} {f : PyData → PyData → Option PyData} (ho : Op2 X.kx r f) (hr : OpR X (binaryOp op) r) {i : Nat} (ha : PE X a (tVar i)) (hb : MQ X W b mb) : ME X W (.BinOp a op b pos) (op2V f i mb) := PE.wk (pe_op hr ha hb) fun _ _ _ h => tOpV_of ho h
theorem me_cmp {op : CmpOp} {r : R2} {f : PyData → PyData → Option PyData} (ho : Op2 X.kx r f) (hr : OpR X (compareOp op) r) (ha : ME X W a ma) (hb : MQ X W b mb) (hm : behindInMarks op b = false) : ME X W (.Compare a [op] [b] pos) (op2 f ma mb) := PE.wk (pe_cmpR hr ha hb hm) fun _ _ _ h => tOp_of ho h
theorem me_cmpV {op : CmpOp} {r : R2} {f : PyData → PyData → Option PyData} (ho : Op2 X.kx r f) (hr : OpR X (compareOp op) r) {i : Nat} (ha : PE X a (tVar i)) (hb : MQ X W b mb) (hm : behindInMarks op b = false) : ME X W (.Compare a [op] [b] pos) (op2V f i mb) := PE.wk (pe_cmpR hr ha hb hm) fun _ _ _ h => tOpV_of ho h
theorem me_ix {r : R2} {f : PyData → PyData → Option PyData} (ho : Op2 X.kx r f) (hr : IxR X r) (ha : ME X W a ma) (hb : MQ X W b mb) (hs : PlainIx b) : ME X W (.Subscript a b pos) (op2 f ma mb) := PE.wk (pe_ix hr ha hb hs) fun _ _ _ h => tOp_of ho h
theorem me_ixV {r : R2} {f : PyData → PyData → Option PyData} (ho : Op2 X.kx r f) (hr : IxR X r) {i : Nat} (ha : PE X a (tVar i)) (hb : MQ X W b mb) (hs : PlainIx b) : ME X W (.Subscript a b pos) (op2V f i mb) := PE.wk (pe_ix hr ha hb hs) fun _ _ _ h => tOpV_of ho h
theorem me_un {op : UnaryOp} {r : V → Hp → VK → Prop} {f : PyData → Option PyData} (ho : Op1 X.kx r f) (hr : UnR X (unaryOp op) r) (ha : MQ X W a ma) : ME X W (.UnaryOp op a pos) (op1 f ma) := PE.wk (pe_un hr ha) fun σ H Q h => by
  obtain ⟨F, g, G, A, q⟩ := h
  refine ⟨F, g, G, A, Po.imp q.bnd fun d g1 G1 H1 A1 s1 k1 x rx => ?_⟩
  obtain ⟨z, ez, k⟩ := k1.lft
  exact ho x d z G1 H1 Q ez rx A1.ex fun v G' H' gr rv => k G' H' (A1.grow gr) gr.g v rv
/-! truth, tests -/
theorem tru_of {K : Frag} {G H : Hp} {v : V} {d : PyData} {k : Bool} (s : Same G H) (r : Rq K G H v d) (h : truD d = some k) : TruV K v H k := by
  cases d with
  | none => rw [r.none]; exact (Option.some.inj h).symm
  | bool b => rw [r.bool]; exact (Option.some.inj h).symm
  | int i => rw [r.int]; exact (Option.some.inj h).symm
  | str x =>
    rw [r.str]
    have h' : (if x.length ≤ sizeLine then some ((x.length : Int) != 0) else none) = some k := h
    split at h'
    · rename_i hl; exact ⟨hl, (Option.some.inj h').symm⟩
    · cases h'
  | list ds =>
    obtain ⟨p, xs, rfl, h1, h2⟩ := r.lst s
    refine .inl ⟨xs, .inl (.inl h1), ?_⟩
    rw [← Option.some.inj h]
    cases h2 <;> rfl
  | tuple ds =>
    obtain ⟨p, xs, rfl, h1, h2⟩ := r.tup s
    refine .inr (.inl ⟨xs, h1, ?_⟩)
    rw [← Option.some.inj h]
    cases h2 <;> rfl
  | dict ds => cases h
theorem mt_tru (h : MQ X W e m) (he : ∀ whole, isTrue e X.env whole = (do let v ← whole; standAt e.pos; holding [v] (truthy v)) := by intro _; rfl) : MT X W e (tru m) := PT.wk (pt_truth h he) fun σ H Q ⟨F, g, G, A, q⟩ => by
  refine ⟨F, g, G, A, Po.imp q.bnd fun d g1 G1 H1 A1 s1 k1 x rx => ?_⟩
  obtain ⟨z, ez, k⟩ := k1.lft
  exact ⟨z, tru_of A1.ex rx ez, k G1 H1 A1 (Same.refl _)⟩
/-- a comparison as a test: its value is a bool -/
def tstM (m : MM PyData) : MM Bool := bnd m fun d => match d with | .bool b => ret b | _ => lft none
theorem tst_of {K : Frag} {mg : Mg} {σ : L2.St} {H : Hp} {Q : Bool → Hp → Prop} (h : cT K mg W (tstM m) σ H Q) : cE K mg W m σ H fun x H' => ∃ k, x = .bl k ∧ Q k H' := by
  obtain ⟨F, g, G, A, q⟩ := h
  refine ⟨F, g, G, A, Po.imp q.bnd fun d g1 G1 H1 A1 s1 k1 x rx => ?_⟩
  cases d with
  | bool b =>
    cases rx
    exact ⟨b, rfl, k1 G1 H1 A1 (Same.refl _)⟩
  | _ => exact k1.elim
theorem mt_cmp {op : CmpOp} {r : R2} {f : PyData → PyData → Option PyData} (ho : Op2 X.kx r f) (hr : OpR X (compareOp op) r) (ha : ME X W a ma) (hb : MQ X W b mb) (hm : behindInMarks op b = false) : MT X W (.Compare a [op] [b] pos) (tstM (op2 f ma mb)) :=
  PT.wk (pt_cmpR hr ha hb hm) fun _ _ _ h => tOp_of ho (tst_of h)
theorem mt_cmpV {op : CmpOp} {r : R2} {f : PyData → PyData → Option PyData} (ho : Op2 X.kx r f) (hr : OpR X (compareOp op) r) {i : Nat} (ha : PE X a (tVar i)) (hb : MQ X W b mb) (hm : behindInMarks op b = false) : MT X W (.Compare a [op] [b] pos) (tstM (op2V f i mb)) :=
  PT.wk (pt_cmpR hr ha hb hm) fun _ _ _ h => tOpV_of ho (tst_of h)
theorem mw_and1 (ha : MT X W a tA) : MW X W (.BoolOp .And [a] pos) tA := pw_and1 ha
theorem mw_or1 (ha : MT X W a tA) : MW X W (.BoolOp .Or [a] pos) tA := pw_or1 ha
theorem mw_and {rest : List Expr} (ha : MT X W a tA) (hb : MW X W (.BoolOp .And (b :: rest) pos) tB) : MW X W (.BoolOp .And (a :: b :: rest) pos) (andT tA tB) := PW.wk (pw_and ha hb) fun σ H Q ⟨F, g, G, A, q⟩ => by
  refine ⟨F, g, G, A, Po.imp q.bnd fun c g1 G1 H1 A1 s1 k1 => ?_⟩
  cases c with
  | true => exact ⟨F, g1, G1, A1, k1⟩
  | false => exact k1 G1 H1 A1 (Same.refl _)
theorem mw_or {rest : List Expr} (ha : MT X W a tA) (hb : MW X W (.BoolOp .Or (b :: rest) pos) tB) : MW X W (.BoolOp .Or (a :: b :: rest) pos) (orT tA tB) := PW.wk (pw_or ha hb) fun σ H Q ⟨F, g, G, A, q⟩ => by
  refine ⟨F, g, G, A, Po.imp q.bnd fun c g1 G1 H1 A1 s1 k1 => ?_⟩
  cases c with
  | true => exact k1 G1 H1 A1 (Same.refl _)
  | false => exact ⟨F, g1, G1, A1, k1⟩
theorem mt_w (h : MW X W e tA) : MT X W e tA := PW.pt h
theorem mt_not (ha : MT X W a tA) : MT X W (.UnaryOp .Not a pos) (notT tA) := PT.wk (pt_not ha) fun σ H Q ⟨F, g, G, A, q⟩ => by
  refine ⟨F, g, G, A, Po.imp q.bnd fun c g1 G1 H1 A1 s1 k1 => ?_⟩
  exact k1 G1 H1 A1 (Same.refl _)
theorem me_not (ha : MQ X W a ma) : ME X W (.UnaryOp .Not a pos) (notV ma) := PE.wk (pe_notT ha) fun σ H Q ⟨F, g, G, A, q⟩ => by
  refine ⟨F, g, G, A, Po.imp q.bnd fun d g1 G1 H1 A1 s1 k1 x rx => ?_⟩
  obtain ⟨z, ez, k⟩ := (k1.bnd).lft
  exact ⟨z, tru_of A1.ex rx ez, k G1 H1 A1 (Same.refl _) G1 H1 A1 (Same.refl _) _ (.bl _)⟩
theorem me_one {op} (ha : ME X W a ma) : ME X W (.BoolOp op [a] pos) ma := pe_one ha
theorem me_and {rest : List Expr} (ha : ME X W a ma) (hb : ME X W (.BoolOp .And (b :: rest) pos) mb) : ME X W (.BoolOp .And (a :: b :: rest) pos) (andV ma mb) := PE.wk (pe_andT ha hb) fun σ H Q ⟨F, g, G, A, q⟩ => by
  refine ⟨F, g, G, A, Po.imp q.bnd fun d g1 G1 H1 A1 s1 k1 x rx => ?_⟩
  obtain ⟨z, ez, k⟩ := (k1.bnd).lft
  refine ⟨z, tru_of A1.ex rx.q ez, ?_⟩
  cases z with
  | true => exact ⟨F, g1, G1, A1, k G1 H1 A1 (Same.refl _)⟩
  | false => exact k G1 H1 A1 (Same.refl _) G1 H1 A1 (Same.refl _) _ rx
theorem me_or {rest : List Expr} (ha : ME X W a ma) (hb : ME X W (.BoolOp .Or (b :: rest) pos) mb) : ME X W (.BoolOp .Or (a :: b :: rest) pos) (orV ma mb) := PE.wk (pe_orT ha hb) fun σ H Q ⟨F, g, G, A, q⟩ => by
  refine ⟨F, g, G, A, Po.imp q.bnd fun d g1 G1 H1 A1 s1 k1 x rx => ?_⟩
  obtain ⟨z, ez, k⟩ := (k1.bnd).lft
  refine ⟨z, tru_of A1.ex rx.q ez, ?_⟩
  cases z with
  | false => exact ⟨F, g1, G1, A1, k G1 H1 A1 (Same.refl _)⟩
  | true => exact k G1 H1 A1 (Same.refl _) G1 H1 A1 (Same.refl _) _ rx
theorem me_ifE (hc : MT X W c tA) (ha : ME X W a ma) (hb : ME X W b mb) : ME X W (.IfExp c a b pos) (ifM tA ma mb) := PE.wk (pe_ifExp hc ha hb) fun σ H Q ⟨F, g, G, A, q⟩ => by
  refine ⟨F, g, G, A, Po.imp q.bnd fun z g1 G1 H1 A1 s1 k1 => ?_⟩
  cases z with
  | true => exact ⟨F, g1, G1, A1, k1⟩
  | false => exact ⟨F, g1, G1, A1, k1⟩
/-! lists of expressions, displays -/
theorem ma_nil : MA X W [] nilM := PA.wk pa_nil fun σ H Q ⟨F, g, G, A, q⟩ => q G H A (Same.refl _) [] .nil
theorem ma_cons (ha : ME X W e m) (hr : MA X W es mas) (hs : starEach (e :: es) X.env = (false, eval e X.env) :: starEach es X.env := by rfl) : MA X W (e :: es) (consM m mas) := PA.wk (pa_cons ha hr hs) fun σ H Q ⟨F, g, G, A, q⟩ => by
  refine ⟨F, g, G, A, Po.imp q.bnd fun d g1 G1 H1 A1 s1 k1 x rx => ?_⟩
  refine ⟨F, g1, G1, A1, Po.imp k1.bnd fun ds g2 G2 H2 A2 s2 k2 xs rxs => ?_⟩
  exact k2 G2 H2 A2 (Same.refl _) _ (.cons (rx.up s2) rxs)
theorem me_tup {k} (h : MA X W es mas) : ME X W (.Tuple es k pos) (tupM mas) := PE.wk (pe_tupX h) fun σ H Q ⟨F, g, G, A, q⟩ => by
  refine ⟨F, g, G, A, Po.imp q.bnd fun ds g1 G1 H1 A1 s1 k1 xs rxs => ?_⟩
  obtain ⟨z, ez, k⟩ := k1.lft
  split at ez
  · rename_i hl
    cases ez
    exact ⟨by rw [rxs.len]; exact hl, .of A1.ex rxs fun v G' H' gr rv => k _ _ (A1.grow gr) gr.g _ rv⟩
  · cases ez
theorem me_lst (h : MA X W es mas) : ME X W (.List es pos) (lstM mas) := PE.wk (pe_lst h) fun σ H Q ⟨F, g, G, A, q⟩ => by
  refine ⟨F, g, G, A, Po.imp q.bnd fun ds g1 G1 H1 A1 s1 k1 xs rxs => ?_⟩
  obtain ⟨z, ez, k⟩ := k1.lft
  split at ez
  · rename_i hl
    cases ez
    refine ⟨by rw [rxs.len]; exact hl, fun p hp => ?_⟩
    have gr := Gr.new (o := .lst xs) A1.ex hp
    exact k _ _ (A1.grow gr) gr.g _ (.lst upd_same (rxs.up gr.g))
  · cases ez
/-! chains -/
theorem chain_of {K : Frag} {mg : Mg} {r r' : R2} {f f' : PyData → PyData → Option PyData} (ho : Op2 K r f) (ho' : Op2 K r' f') {σ : L2.St} {H : Hp} {Q : VK} (h : cE K mg W (chainM f f' ma mb mc) σ H Q) : tChain r r' (cE K mg W ma) (cE K mg W mb) (cE K mg W mc) σ H Q := by
  obtain ⟨F, g, G, A, q⟩ := h
  refine ⟨F, g, G, A, Po.imp q.bnd fun d g1 G1 H1 A1 s1 k1 x rx => ?_⟩
  refine ⟨F, g1, G1, A1, Po.imp k1.bnd fun d' g2 G2 H2 A2 s2 k2 y ry => ?_⟩
  obtain ⟨z, ez, k⟩ := (k2.bnd).lft
  refine ho x y d d' z G2 H2 _ ez (.inl (rx.up s2)) (.inl ry) A2.ex fun v G3 H3 gr rv => ?_
  have A3 := A2.grow gr
  have k3 := k G3 H3 A3 gr.g
  cases z with
  | bool t =>
    cases rv
    refine ⟨t, rfl, ?_⟩
    cases t with
    | true =>
      refine ⟨F, g2, G3, A3, Po.imp (Po.bnd k3) fun d3 g4 G4 H4 A4 s4 k4 w rw' => ?_⟩
      obtain ⟨z', ez', k5⟩ := k4.lft
      exact ho' y w d' d3 z' G4 H4 Q ez' (.inl ((ry.up gr.g).up s4)) (.inl rw') A4.ex fun v' G' H' gr' rv' => k5 G' H' (A4.grow gr') gr'.g v' rv'
    | false => exact k3 G3 H3 A3 (Same.refl _) _ (.bl false)
  | _ => exact k3.elim
theorem mt_chain {op op' : CmpOp} {r r' : R2} {f f' : PyData → PyData → Option PyData} (ho : Op2 X.kx r f) (hr : OpR X (compareOp op) r) (ho' : Op2 X.kx r' f') (hr' : OpR X (compareOp op') r') (ha : ME X W a ma) (hb : ME X W b mb) (hc : ME X W c mc)
    (hm : lastMarks [op, op'] [b, c] = false := by with_unfolding_all rfl) : MT X W (.Compare a [op, op'] [b, c] pos) (tstM (chainM f f' ma mb mc)) := PT.wk (pt_chain hr hr' ha hb hc hm) fun _ _ _ h => chain_of ho ho' (tst_of h)
/-! slices -/
theorem mo_none : MO X W none noneO := PO.wk po_none fun σ H Q ⟨F, g, G, A, q⟩ => q G H A (Same.refl _)
theorem mo_some (h : ME X W e m) : MO X W (some e) (someO m) := PO.wk (po_some h) fun σ H Q ⟨F, g, G, A, q⟩ => by
  refine ⟨F, g, G, A, Po.imp q.bnd fun d g1 G1 H1 A1 s1 k1 x rx => ?_⟩
  cases d with
  | int i => cases rx; exact ⟨i, rfl, k1 G1 H1 A1 (Same.refl _)⟩
  | _ => exact k1.elim
/-- a slice on data -/
def OpS (K : Frag) (r : V → Option Int → Option Int → Hp → VK → Prop) (f : PyData → Option Int → Option Int → Option PyData) : Prop := ∀ (x : V) (d z : PyData) (i j : Option Int) (G H : Hp) (Q : VK), f d i j = some z → Rq K G H x d → Same G H →
  (∀ v G' H', Gr G H G' H' → Rp K G' v z → Q v H') → r x i j H Q
variable {lo hi : Option Expr} {ml mu : MM (Option Int)} {p2 : Pos}
theorem me_slice {r : V → Option Int → Option Int → Hp → VK → Prop} {f : PyData → Option Int → Option Int → Option PyData} (ho : OpS X.kx r f) (hr : SlR X r) (ha : ME X W a ma) (hl : MO X W lo ml) (hu : MO X W hi mu) :
    ME X W (.Subscript a (.Slice lo hi none p2) pos) (slM f ma ml mu) := PE.wk (pe_slice hr ha hl hu) fun σ H Q ⟨F, g, G, A, q⟩ => by
  refine ⟨F, g, G, A, Po.imp q.bnd fun d g1 G1 H1 A1 s1 k1 x rx => ?_⟩
  refine ⟨F, g1, G1, A1, Po.imp k1.bnd fun i g2 G2 H2 A2 s2 k2 => ?_⟩
  refine ⟨F, g2, G2, A2, Po.imp k2.bnd fun j g3 G3 H3 A3 s3 k3 => ?_⟩
  obtain ⟨z, ez, k⟩ := k3.lft
  exact ho x d z i j G3 H3 Q ez (.inl ((rx.up s2).up s3)) A3.ex fun v G' H' gr rv => k G' H' (A3.grow gr) gr.g v rv
theorem me_sliceV {r : V → Option Int → Option Int → Hp → VK → Prop} {f : PyData → Option Int → Option Int → Option PyData} (ho : OpS X.kx r f) (hr : SlR X r) {n : Nat} (ha : PE X a (tVar n)) (hl : MO X W lo ml) (hu : MO X W hi mu) :
    ME X W (.Subscript a (.Slice lo hi none p2) pos) (slMV f n ml mu) := PE.wk (pe_slice hr ha hl hu) fun σ H Q ⟨F, g, G, A, q⟩ => by
  obtain ⟨v, d, ev, _, q2⟩ := pk_read A q
  refine ⟨v, ev, F, g, G, A, Po.imp q2.bnd fun i g2 G2 H2 A2 s2 k2 => ?_⟩
  refine ⟨F, g2, G2, A2, Po.imp k2.bnd fun j g3 G3 H3 A3 s3 k3 => ?_⟩
  obtain ⟨v', d2, ev', rv, k4⟩ := pk_read A3 k3
  rw [ev] at ev'
  cases ev'
  obtain ⟨z, ez, k⟩ := k4.lft
  exact ho v d2 z i j G3 H3 Q ez rv A3.ex fun v G' H' gr rv => k G' H' (A3.grow gr) gr.g v rv
/-! built-in functions of values -/
/-- a built-in of one value that may be an owned object -/
theorem cb1_of {K : Frag} {mg : Mg} {r : List V → Hp → VK → Prop} {f : PyData → Option PyData} (ho : Op1 K (fun x => r [x]) f) {σ : L2.St} {H : Hp} {Q : VK} (h : cE K mg W (op1 f m) σ H Q) : tCB r (tCons (cQ K mg W m) tNil) σ H Q := by
  obtain ⟨F, g, G, A, q⟩ := h
  refine ⟨F, g, G, A, Po.imp q.bnd fun d g1 G1 H1 A1 s1 k1 x rx => ?_⟩
  obtain ⟨z, ez, k⟩ := k1.lft
  exact ho x d z G1 H1 Q ez rx A1.ex fun v G' H' gr rv => k G' H' (A1.grow gr) gr.g v rv
variable {x : Str} {p : Pos} {id T : String} {r : List V → Hp → VK → Prop} {f : PyData → Option PyData} {fn : List PyData → Option PyData}
theorem me_B1 (ho : Op1 X.kx (fun x => r [x]) f) (hc : CallR X (.builtin id) r) (hg : Gl X x) (hm : X.mg x = none) (hv : bootBuiltins x = some (.builtin id)) (ha : MQ X W e m) (hn : x ≠ "__name__" := by decide) (hdb : (x == ("__debug__" : Str)) = false := by decide)
    (he : starEach (e :: []) X.env = (false, eval e X.env) :: starEach [] X.env := by rfl) (hpl : (backTo pos (starEach [] X.env)).any (·.1) = false := by rfl) : ME X W (.Call (.Name x p) [e] [] pos) (op1 f m) :=
  PE.wk (pe_callB hc hg hm hv (pa_cons ha pa_nil he) hn hdb he hpl) fun _ _ _ h => cb1_of ho h
theorem me_T1 (ho : Op1 X.kx (fun x => r [x]) f) (hc : CallR X (.type T) r) (hg : Gl X x) (hm : X.mg x = none) (hv : bootBuiltins x = some (.type T)) (ha : MQ X W e m) (hn : x ≠ "__name__" := by decide) (hdb : (x == ("__debug__" : Str)) = false := by decide)
    (he : starEach (e :: []) X.env = (false, eval e X.env) :: starEach [] X.env := by rfl) (hpl : (backTo pos (starEach [] X.env)).any (·.1) = false := by rfl) : ME X W (.Call (.Name x p) [e] [] pos) (op1 f m) :=
  PE.wk (pe_callTy hc hg hm hv (pa_cons ha pa_nil he) hn hdb he hpl) fun _ _ _ h => cb1_of ho h
end
end Mi
namespace Mi
open PySem PySem.Spec PyProof.Rows L2
/-! ### calls of defs -/
def SpP (K : Frag) (mg : Mg) (m : List PyData → Except Er PyData) : Sp := fun vs H Q E => ∃ G ds, Same G H ∧ RpAll K G vs ds ∧
  match m ds with
  | .ok d => ∀ v G' H', Gr G H G' H' → Rp K G' v d → Q v H'
  | .error (.exc c _) => ∀ C : Addr, mg (Str.ofString c) = some (.ref C) → ∀ G' H', Gr G H G' H' → E (.ref C) none H'
  | .error .stuck => False
/-- the object at p may have been changed -/
structure GrS (p : Addr) (G H G' H' : Hp) : Prop where
  g : Same G G'
  h : ∀ a o, a ≠ p → H a = some o → H' a = some o
  e : Same G' H'
  f : ∀ a o, a ≠ p → H a = some o → G' a = G a
  n : ∀ a, H' a = none → H a = none
def SpS (K : Frag) (mg : Mg) (m : PyData → List PyData → Except Er (PyData × PyData)) : Sp := fun vs H Q E => ∃ G p us s ds, vs = .ref p :: us ∧ Same G H ∧ G p = none ∧ Own K G H p s ∧ RpAll K G us ds ∧
  match m s ds with
  | .ok (d, s') => ∀ v G' H', GrS p G H G' H' → G' p = none → Own K G' H' p s' → Rp K G' v d → Q v H'
  | .error (.exc c _) => ∀ C : Addr, mg (Str.ofString c) = some (.ref C) → ∀ G' H', GrS p G H G' H' → E (.ref C) none H'
  | .error .stuck => False
def callM (m : List PyData → Except Er PyData) (a : MM (List PyData)) : MM PyData := bnd a fun ds g => match m ds with
  | .ok d => .ok (d, g)
  | .error (.exc c _) => .error (.exc c g)
  | .error .stuck => .error .stuck
def chkO (i : Nat) : MM Unit := fun g => match g[i]? with
  | some (.own _ _) => .ok ((), g)
  | _ => .error .stuck
def callS (m : PyData → List PyData → Except Er (PyData × PyData)) (i : Nat) (a : MM (List PyData)) : MM PyData := bnd (chkO i) fun _ => bnd a fun ds g => match g[i]? with
  | some (.own t s) => (match m s ds with
    | .ok (d, s') => .ok (d, g.set i (.own t s'))
    | .error (.exc c _) => .error (.exc c (g.set i .dead))
    | .error .stuck => .error .stuck)
  | _ => .error .stuck
section
variable {K : Frag} {F : Frm} {σ : L2.St} {g : Gm} {G H G' H' : Hp}
theorem At.called (A : At K F σ g G H) {i : Nat} {p : Addr} {t : Bool} {s s' : PyData} (hi : g[i]? = some (.own t s)) (hp : σ[i]? = some (some (.ref p))) (r : GrS p G H G' H') (gp : G' p = none) (o : Own K G' H' p s') : At K F σ (g.set i (.own t s')) G' H' := by
  obtain ⟨p', h1, h2, h3, h4, h5⟩ := A.own i _ s hi
  rw [hp] at h1
  cases h1
  have hl : i < g.length := by
    rcases Nat.lt_or_ge i g.length with q | q
    · exact q
    · rw [List.getElem?_eq_none q] at hi; cases hi
  have ne : ∀ {a o}, F.H a = some o → ¬ F.S a → a ≠ p := fun {a o} e s z => by
    subst z
    rcases h4 with h4 | h4
    · exact s h4
    · rw [h4] at e; cases e
  refine ⟨r.e, A.g0.trans r.g, fun a o e s => r.h a o (ne e s) (A.h0 a o e s), fun a o e s => (r.f a o (ne e s) (A.h0 a o e s)).trans (A.f0 a o e s), fun a e => A.n0 a (r.n a e), by simpa using A.len, fun j e z => ?_, fun j t2 e z => ?_, fun j k t2 u e e' q z1 z2 z3 z4 => ?_⟩
  · by_cases q : i = j
    · subst q
      rw [List.getElem?_set_self hl] at z; cases z
    · rw [List.getElem?_set_ne q] at z
      obtain ⟨v, y1, y2⟩ := A.pur j e z
      exact ⟨v, y1, y2.up r.g⟩
  · by_cases q : i = j
    · subst q
      rw [List.getElem?_set_self hl] at z; cases z
      exact ⟨p, hp, gp, o, h4, h5⟩
    · rw [List.getElem?_set_ne q] at z
      obtain ⟨p2, y1, y2, y3, y4⟩ := A.own j _ e z
      have ne2 : p2 ≠ p := fun w => q (A.inj i j _ _ s e p hi z hp (w ▸ y1))
      obtain ⟨o2, ho2⟩ := y3.some
      exact ⟨p2, y1, (r.f p2 o2 ne2 ho2).trans y2, y3.up r.g ((r.h p2 o2 ne2 ho2).trans ho2.symm), y4⟩
  · have un : ∀ {k : Nat} {v : Bool} {e : PyData}, (g.set i (.own t s'))[k]? = some (.own v e) → ∃ v2 e2, g[k]? = some (.own v2 e2) := fun {k v e} z => by
      by_cases q : i = k
      · subst q; exact ⟨t, s, hi⟩
      · rw [List.getElem?_set_ne q] at z; exact ⟨v, e, z⟩
    obtain ⟨_, e2, w1⟩ := un z1
    obtain ⟨_, e3, w2⟩ := un z2
    exact A.inj j k _ _ e2 e3 q w1 w2 z3 z4
theorem At.calledX (A : At K F σ g G H) {i : Nat} {p : Addr} {t : Bool} {s : PyData} (hi : g[i]? = some (.own t s)) (hp : σ[i]? = some (some (.ref p))) (r : GrS p G H G' H') : At K F σ (g.set i .dead) G' H' := by
  obtain ⟨p', h1, h2, h3, h4, h5⟩ := A.own i _ s hi
  rw [hp] at h1
  cases h1
  have hl : i < g.length := by
    rcases Nat.lt_or_ge i g.length with q | q
    · exact q
    · rw [List.getElem?_eq_none q] at hi; cases hi
  have ne : ∀ {a o}, F.H a = some o → ¬ F.S a → a ≠ p := fun {a o} e s z => by
    subst z
    rcases h4 with h4 | h4
    · exact s h4
    · rw [h4] at e; cases e
  have un : ∀ {k : Nat} {e : Sl}, e ≠ .dead → (g.set i .dead)[k]? = some e → i ≠ k ∧ g[k]? = some e := fun {k e} d z => by
    by_cases q : i = k
    · subst q
      rw [List.getElem?_set_self hl] at z
      cases z
      exact absurd rfl d
    · rw [List.getElem?_set_ne q] at z; exact ⟨q, z⟩
  refine ⟨r.e, A.g0.trans r.g, fun a o e s => r.h a o (ne e s) (A.h0 a o e s), fun a o e s => (r.f a o (ne e s) (A.h0 a o e s)).trans (A.f0 a o e s), fun a e => A.n0 a (r.n a e), by simpa using A.len, fun j e z => ?_, fun j t2 e z => ?_, fun j k t2 u e e' q z1 z2 z3 z4 => ?_⟩
  · obtain ⟨_, z⟩ := un (by simp) z
    obtain ⟨v, y1, y2⟩ := A.pur j e z
    exact ⟨v, y1, y2.up r.g⟩
  · obtain ⟨q, z⟩ := un (by simp) z
    obtain ⟨p2, y1, y2, y3, y4⟩ := A.own j _ e z
    have ne2 : p2 ≠ p := fun w => q (A.inj i j _ _ s e p hi z hp (w ▸ y1))
    obtain ⟨o2, ho2⟩ := y3.some
    exact ⟨p2, y1, (r.f p2 o2 ne2 ho2).trans y2, y3.up r.g ((r.h p2 o2 ne2 ho2).trans ho2.symm), y4⟩
  · exact A.inj j k _ _ e e' q (un (by simp) z1).2 (un (by simp) z2).2 z3 z4
end
section
variable {X : Cx} {W : WX} {e : Expr} {es : List Expr} {pos p p2 : Pos} {x y : Str} {f : Addr} {fd : FuncData} {ps : List Str} {k : Nat} {mas : MM (List PyData)}
theorem me_call {m : List PyData → Except Er PyData} (F : FnOk X.prog X.w X.kx X.mg X.base (L2.CX X.prog X.w) k f fd ps (SpP X.kx X.mg m)) (hr : Room k X.A) (hm : X.mg x = some (.ref f)) (hk : PySem.W.keepIn X.kx (.ref f) = true) (hb : Binds X.kx fd ps []) (tk : Takes X W)
    (ha : MA X W (e :: es) mas) (hg : Gl X x := by rfl) (hdb : (x == ("__debug__" : Str)) = false := by decide) (he : starEach (e :: es) X.env = (false, eval e X.env) :: starEach es X.env := by rfl) (hpl : (backTo pos (starEach es X.env)).any (·.1) = false := by rfl) :
    ME X W (.Call (.Name x p) (e :: es) [] pos) (callM m mas) := PE.wk (pe_callS F hr hg hm hk hb (fun σ => passAt tk σ) ha hdb he hpl) fun σ H Q ⟨F, g, G, A, q⟩ => by
  refine ⟨F, g, G, A, Po.imp q.bnd fun ds g1 G1 H1 A1 s1 k1 xs rx => ?_⟩
  refine ⟨G1, ds, A1.ex, rx, ?_⟩
  generalize m ds = r at k1 ⊢
  rcases r with (_ | ⟨c, _⟩) | d
  · exact k1
  · exact fun C hC G' H' gr => k1 C hC G' H' (A1.grow gr) gr.g
  · exact fun v G' H' gr rv => k1 G' H' (A1.grow gr) gr.g v rv
theorem me_callS {m : PyData → List PyData → Except Er (PyData × PyData)} {i : Nat} (F : FnOk X.prog X.w X.kx X.mg X.base (L2.CX X.prog X.w) k f fd ps (SpS X.kx X.mg m)) (hr : Room k X.A) (hm : X.mg x = some (.ref f)) (hk : PySem.W.keepIn X.kx (.ref f) = true) (hb : Binds X.kx fd ps []) (tk : Takes X W)
    (hv : PE X (.Name y p2) (tVar i)) (ha : MA X W es mas) (hg : Gl X x := by rfl) (hdb : (x == ("__debug__" : Str)) = false := by decide) (he : starEach (.Name y p2 :: es) X.env = (false, eval (.Name y p2) X.env) :: starEach es X.env := by rfl) (hpl : (backTo pos (starEach es X.env)).any (·.1) = false := by rfl) :
    ME X W (.Call (.Name x p) (.Name y p2 :: es) [] pos) (callS m i mas) := PE.wk (pe_callS F hr hg hm hk hb (fun σ => passAt tk σ) (pa_cons hv ha he) hdb he hpl) fun σ H Q ⟨F, g, G, A, q⟩ => by
  unfold callS at q
  have q1 : (∃ t d, g[i]? = some (.own t d)) ∧ Po X.kx X.mg W F σ G (bnd mas (fun ds g => match g[i]? with
    | some (.own t s) => (match m s ds with
      | .ok (d, s') => .ok (d, g.set i (.own t s'))
      | .error (.exc c _) => .error (.exc c (g.set i .dead))
      | .error .stuck => .error .stuck)
    | _ => .error .stuck) g) (fun d _ G' H' => ∀ v, Rp X.kx G' v d → Q v H') := by
    unfold bnd chkO at q
    generalize eg : g[i]? = s at q
    rcases s with _ | (_ | d | ⟨t, d⟩)
    · exact q.elim
    · exact q.elim
    · exact q.elim
    · exact ⟨⟨t, d, rfl⟩, q⟩
  obtain ⟨⟨t0, d0, e0⟩, q1⟩ := q1
  obtain ⟨p0, ep0, _⟩ := A.own i _ d0 e0
  refine ⟨_, ep0, F, g, G, A, Po.imp q1.bnd fun ds g1 G1 H1 A1 s1 k1 xs rx => ?_⟩
  show SpS X.kx X.mg m (.ref p0 :: xs) H1 Q _
  generalize eg : g1[i]? = s at k1
  rcases s with _ | (_ | d | ⟨t, d⟩)
  · exact k1.elim
  · exact k1.elim
  · exact k1.elim
  · obtain ⟨p1, ep1, gp, ow, _⟩ := A1.own i _ d eg
    rw [ep0] at ep1
    cases ep1
    refine ⟨G1, p0, xs, d, ds, rfl, A1.ex, gp, ow, rx, ?_⟩
    show match m d ds with
      | .ok (d, s') => ∀ v G' H', GrS p0 G1 H1 G' H' → G' p0 = none → Own X.kx G' H' p0 s' → Rp X.kx G' v d → Q v H'
      | .error (.exc c _) => ∀ C : Addr, X.mg (Str.ofString c) = some (.ref C) → ∀ G' H', GrS p0 G1 H1 G' H' → WE W σ (.ref C) none H'
      | .error .stuck => False
    have k2 : Po X.kx X.mg W F σ G1 (match m d ds with
      | .ok (d, s') => .ok (d, g1.set i (.own t s'))
      | .error (.exc c _) => .error (.exc c (g1.set i .dead))
      | .error .stuck => .error .stuck) (fun d _ G' H' => ∀ v, Rp X.kx G' v d → Q v H') := k1
    generalize m d ds = r at k2 ⊢
    rcases r with (_ | ⟨c, _⟩) | ⟨z, s'⟩
    · exact k2
    · exact fun C hC G' H' gr => k2 C hC G' H' (A1.calledX eg ep0 gr) gr.g
    · exact fun v G' H' gr gp' o rv => k2 G' H' (A1.called eg ep0 gr gp' o) gr.g v rv
end
/-! ### statements -/
inductive Out where
  | nx (g : Gm) | rt (d : PyData) (g : Gm) | bk (g : Gm) | ct (g : Gm) | ex (c : String) (g : Gm) | stuck
def PoS (K : Frag) (mg : Mg) (W : WX) (F : Frm) (G : Hp) (o : Out) (D : Ends) : Prop := match o with
  | .nx g => ∀ σ G' H', At K F σ g G' H' → Same G G' → D.nx σ H'
  | .bk g => ∀ σ G' H', At K F σ g G' H' → Same G G' → D.bk σ H'
  | .ct g => ∀ σ G' H', At K F σ g G' H' → Same G G' → D.ct σ H'
  | .rt d g => ∀ v σ G' H', At K F σ g G' H' → Same G G' → Rp K G' v d → D.rt v H'
  | .ex c g => ∀ C : Addr, mg (Str.ofString c) = some (.ref C) → ∀ σ G' H', At K F σ g G' H' → Same G G' → W (.ref C) none σ H'
  | .stuck => False
theorem PoS.base {K : Frag} {mg : Mg} {W : WX} {F : Frm} {G G1 : Hp} {o : Out} {D : Ends} (s : Same G G1) (h : PoS K mg W F G o D) : PoS K mg W F G1 o D := by
  cases o with
  | nx g => exact fun σ G' H' A t => h σ G' H' A (s.trans t)
  | bk g => exact fun σ G' H' A t => h σ G' H' A (s.trans t)
  | ct g => exact fun σ G' H' A t => h σ G' H' A (s.trans t)
  | rt d g => exact fun v σ G' H' A t => h v σ G' H' A (s.trans t)
  | ex c g => exact fun C hC σ G' H' A t => h C hC σ G' H' A (s.trans t)
  | stuck => exact h
def cS (K : Frag) (mg : Mg) (W : WX) (m : Gm → Out) : TS := fun D σ H => ∃ F g G, At K F σ g G H ∧ PoS K mg W F G (m g) D
def MS (X : Cx) (W : WX) (s : Stmt) (m : Gm → Out) : Prop := PS X s (cS X.kx X.mg W m)
def MB (X : Cx) (W : WX) (s : List Stmt) (m : Gm → Out) : Prop := PSs X s (cS X.kx X.mg W m)
theorem _root_.L2.PS.wk {X : Cx} {s : Stmt} {t t' : TS} (h : PS X s t) (i : ∀ D σ H, t' D σ H → t D σ H) : PS X s t' := ⟨fun pins s σ H D I q => h.run pins s σ H D I (i D σ H q)⟩
theorem _root_.L2.PSs.wk {X : Cx} {s : List Stmt} {t t' : TS} (h : PSs X s t) (i : ∀ D σ H, t' D σ H → t D σ H) : PSs X s t' := ⟨fun pins s σ H D I q => h.run pins s σ H D I (i D σ H q)⟩
/-- what an expression's end is for a statement -/
def onE {α : Type} (r : Except Er (α × Gm)) (k : α → Gm → Out) : Out := match r with
  | .ok (a, g) => k a g
  | .error (.exc c g) => .ex c g
  | .error .stuck => .stuck
theorem PoS.onE {α : Type} {K : Frag} {mg : Mg} {W : WX} {F : Frm} {σ : L2.St} {G : Hp} {r : Except Er (α × Gm)} {k : α → Gm → Out} {D : Ends} (h : PoS K mg W F G (Mi.onE r k) D) : Po K mg W F σ G r fun a g' G' _ => PoS K mg W F G' (k a g') D := by
  rcases r with (_ | ⟨c, g'⟩) | ⟨a, g'⟩
  · exact h
  · exact fun C hC G' H' A s => h C hC σ G' H' A s
  · exact fun G' H' A s => PoS.base s h
def seqS (a b : Gm → Out) : Gm → Out := fun g => match a g with
  | .nx g' => b g'
  | o => o
def nxS : Gm → Out := fun g => .nx g
def dropS (m : MM PyData) : Gm → Out := fun g => onE (m g) fun _ g' => .nx g'
def retS (m : MM PyData) : Gm → Out := fun g => onE (m g) fun d g' => .rt d g'
def setS (i : Nat) (m : MM PyData) : Gm → Out := fun g => onE (m g) fun d g' => .nx (g'.set i (.dat d))
def ifS (t : MM Bool) (a b : Gm → Out) : Gm → Out := fun g => onE (t g) fun c g' => if c = true then a g' else b g'
section
variable {X : Cx} {W : WX} {e c : Expr} {m : MM PyData} {pos p p2 : Pos} {s : Stmt} {ss bs : List Stmt} {a b : Gm → Out} {t : MM Bool}
theorem mb_nil : MB X W [] nxS := PSs.wk pss_nil fun D σ H ⟨F, g, G, A, q⟩ => q σ G H A (Same.refl _)
theorem mb_cons (h1 : MS X W s a) (h2 : MB X W ss b) : MB X W (s :: ss) (seqS a b) := PSs.wk (pss_cons h1 h2) fun D σ H ⟨F, g, G, A, q⟩ => by
  refine ⟨F, g, G, A, ?_⟩
  unfold seqS at q
  generalize a g = o at q
  cases o with
  | nx g' => exact fun σ' G' H' A' s' => ⟨F, g', G', A', PoS.base s' q⟩
  | rt d g' => exact q
  | bk g' => exact q
  | ct g' => exact q
  | ex c g' => exact q
  | stuck => exact q
theorem mb_one (h1 : MS X W s a) : MB X W [s] a := PSs.wk (pss_one h1) fun D σ H h => h
def bkS : Gm → Out := fun g => .bk g
def ctS : Gm → Out := fun g => .ct g
theorem ms_expr (he : ME X W e m) (hs : swapsWith e none pos.line X.env = pure false := by rfl) : MS X W (.Expr e pos) (dropS m) := PS.wk (ps_expr he hs) fun D σ H ⟨F, g, G, A, q⟩ => by
  refine ⟨F, g, G, A, Po.imp (PoS.onE q) fun d g1 G1 H1 A1 s1 k1 x rx => ?_⟩
  exact k1 σ G1 H1 A1 (Same.refl _)
theorem ms_ret (he : ME X W e m) : MS X W (.Return (some e) pos) (retS m) := PS.wk (ps_ret he) fun D σ H ⟨F, g, G, A, q⟩ => by
  refine ⟨F, g, G, A, Po.imp (PoS.onE q) fun d g1 G1 H1 A1 s1 k1 x rx => ?_⟩
  exact k1 x σ G1 H1 A1 (Same.refl _) rx
theorem ms_set {i : Nat} {x : Str} (hN : X.N.Nodup) (hi : X.N[i]? = some x) (hx : Loc X.env.scope x) (he : ME X W e m) (hs : swapsWith e (some (.Name x p)) pos.line X.env = pure false := by rfl) (hf : X.fn x = true ∨ X.env.scope.names.lookup x = some .local := by first | exact .inl rfl | exact .inr rfl | assumption) :
    MS X W (.Assign [.Name x p] e pos) (setS i m) := PS.wk (ps_set hN hi hx he hs hf) fun D σ H ⟨F, g, G, A, q⟩ => by
  refine ⟨F, g, G, A, Po.imp (PoS.onE q) fun d g1 G1 H1 A1 s1 k1 x rx => ?_⟩
  exact k1 _ G1 H1 (A1.put rx) (Same.refl _)
theorem ms_if (hc : MT X W c t) (ha : MB X W ss a) (hb : MB X W bs b) : MS X W (.If c ss bs pos) (ifS t a b) := PS.wk (ps_if hc ha hb) fun D σ H ⟨F, g, G, A, q⟩ => by
  refine ⟨F, g, G, A, Po.imp (PoS.onE q) fun z g1 G1 H1 A1 s1 k1 => ?_⟩
  cases z with
  | true => exact ⟨F, g1, G1, A1, k1⟩
  | false => exact ⟨F, g1, G1, A1, k1⟩
/-- x = [..]: a list of one's own -/
def setL (i : Nat) (m : MM (List PyData)) : Gm → Out := fun g => onE (m g) fun ds g' => if ds.length ≤ sizeLine then .nx (g'.set i (.own false (.list ds))) else .stuck
theorem ms_setL {i : Nat} {x : Str} {es : List Expr} {m : MM (List PyData)} (hN : X.N.Nodup) (hi : X.N[i]? = some x) (hx : Loc X.env.scope x) (he : MA X W es m) (hs : swapsWith (.List es p2) (some (.Name x p)) pos.line X.env = pure false := by rfl) (hf : X.fn x = true ∨ X.env.scope.names.lookup x = some .local := by first | exact .inl rfl | exact .inr rfl | assumption) :
    MS X W (.Assign [.Name x p] (.List es p2) pos) (setL i m) := PS.wk (ps_set hN hi hx (pe_lst he) hs hf) fun D σ H ⟨F, g, G, A, q⟩ => by
  refine ⟨F, g, G, A, Po.imp (PoS.onE q) fun ds g1 G1 H1 A1 s1 k1 xs rx => ?_⟩
  by_cases hl : ds.length ≤ sizeLine
  · rw [if_pos hl] at k1
    refine ⟨by rw [rx.len]; exact hl, fun p hp => ?_⟩
    exact k1 _ G1 _ (A1.fresh hp ⟨xs, upd_same, rx⟩) (Same.refl _)
  · rw [if_neg hl] at k1
    exact k1.elim
/-- raise X('..') -/
def raiseS (c : String) : Gm → Out := fun g => .ex c g
theorem ms_raise {c : String} {C : Addr} (hc : X.calm = true) (tk : Takes X W) (hm : X.mg (Str.ofString c) = some (.ref C)) (h : PMk X e (fun _ H Q => Q (.ref C) none H)) : MS X W (.Raise (some e) none pos) (raiseS c) := PS.wk (ps_raise hc tk h) fun D σ H ⟨F, g, G, A, q⟩ =>
  q C hm σ G H A (Same.refl _)
end
end Mi
namespace Mi
open PySem PySem.Spec PyProof.Rows L2
/-! ### targets -/
/-- what a target does with data; the slots in js alone may change -/
def cG (K : Frag) (js : List Nat) (b : PyData → Gm → Option Gm) : TG := fun v σ H Q => ∃ F g G d, At K F σ g G H ∧ Rp K G v d ∧ match b d g with
  | some g' => ∀ σ', At K F σ' g' G H → σ'.length = σ.length → (∀ j, j ∉ js → σ'[j]? = σ[j]?) → Q σ' H
  | none => False
def cGs (K : Frag) (js : List Nat) (b : List PyData → Gm → Option Gm) : TGs := fun vs σ H Q => ∃ F g G ds, At K F σ g G H ∧ RpAll K G vs ds ∧ match b ds g with
  | some g' => ∀ σ', At K F σ' g' G H → σ'.length = σ.length → (∀ j, j ∉ js → σ'[j]? = σ[j]?) → Q σ' H
  | none => False
def MG (X : Cx) (e : Expr) (js : List Nat) (b : PyData → Gm → Option Gm) : Prop := PG X e (cG X.kx js b)
def MGs (X : Cx) (es : List Expr) (js : List Nat) (b : List PyData → Gm → Option Gm) : Prop := PGs X es (cGs X.kx js b)
theorem _root_.L2.PG.wk {X : Cx} {e : Expr} {t t' : TG} (h : PG X e t) (i : ∀ v σ H Q, t' v σ H Q → t v σ H Q) : PG X e t' := ⟨fun pins s σ H v u Q I r q => h.run pins s σ H v u Q I r (i v σ H Q q)⟩
theorem _root_.L2.PGs.wk {X : Cx} {e : List Expr} {t t' : TGs} (h : PGs X e t) (i : ∀ v σ H Q, t' v σ H Q → t v σ H Q) : PGs X e t' := ⟨fun pins s σ H v u Q I r q => h.run pins s σ H v u Q I r (i v σ H Q q)⟩
def bName (i : Nat) : PyData → Gm → Option Gm := fun d g => some (g.set i (.dat d))
def bNil : List PyData → Gm → Option Gm := fun ds g => match ds with
  | [] => some g
  | _ => none
def bCons (b : PyData → Gm → Option Gm) (bs : List PyData → Gm → Option Gm) : List PyData → Gm → Option Gm := fun ds g => match ds with
  | d :: r => (match b d g with | some g' => bs r g' | none => none)
  | [] => none
def bTup (n : Nat) (bs : List PyData → Gm → Option Gm) : PyData → Gm → Option Gm := fun d g => match d with
  | .tuple ds => if ds.length = n then bs ds g else none
  | _ => none
section
variable {X : Cx} {pos : Pos} {js ks : List Nat} {b : PyData → Gm → Option Gm} {bs : List PyData → Gm → Option Gm}
theorem mg_name {i : Nat} {x : Str} (hN : X.N.Nodup) (hi : X.N[i]? = some x) (hx : Loc X.env.scope x) (hf : X.fn x = true ∨ X.env.scope.names.lookup x = some .local := by first | exact .inl rfl | exact .inr rfl | assumption) : MG X (.Name x pos) [i] (bName i) :=
  PG.wk (pg_name hN hi hx hf) fun v σ H Q ⟨F, g, G, d, A, r, q⟩ => q _ (A.put r) (by simp) fun j hj => List.getElem?_set_ne (by intro e; subst e; simp at hj)
theorem mgs_nil : MGs X [] [] bNil := PGs.wk pgs_nil fun v σ H Q ⟨F, g, G, d, A, r, q⟩ => by
  cases r with
  | nil => exact ⟨rfl, q σ A rfl fun _ _ => rfl⟩
  | cons _ _ => exact q.elim
theorem mgs_cons {e : Expr} {es : List Expr} (h1 : MG X e js b) (h2 : MGs X es ks bs) (hs : (assignEach (e :: es) X.env).map (·.2) = assign e X.env :: (assignEach es X.env).map (·.2) := by rfl) : MGs X (e :: es) (js ++ ks) (bCons b bs) := PGs.wk (pgs_cons h1 h2 hs) fun vs σ H Q ⟨F, g, G, ds, A, r, q⟩ => by
  cases r with
  | nil => exact q.elim
  | @cons v vr d dr r1 r2 =>
    refine ⟨v, vr, rfl, F, g, G, d, A, r1, ?_⟩
    unfold bCons at q
    generalize eb : b d g = o at q
    cases o with
    | none => simp only [eb] at q
    | some g1 =>
      simp only [eb] at q
      refine fun σ1 A1 l1 k1 => ⟨F, g1, G, dr, A1, r2, ?_⟩
      generalize bs dr g1 = o at q
      cases o with
      | none => exact q
      | some g2 => exact fun σ2 A2 l2 k2 => q σ2 A2 (l2.trans l1) fun j hj => (k2 j fun z => hj (List.mem_append_right _ z)).trans (k1 j fun z => hj (List.mem_append_left _ z))
theorem mg_tup {es : List Expr} {k n : Nat} (hc : X.calm = true) (h : MGs X es js bs) (hn : (assignEach es X.env).length = n := by rfl) (hst : (assignEach es X.env).findIdx? (·.1) = none := by rfl) : MG X (.Tuple es k pos) js (bTup n bs) := PG.wk (pg_tup hc h hn hst) fun v σ H Q ⟨F, g, G, d, A, r, q⟩ => by
  cases d with
  | tuple ds =>
    cases r with
    | @tup a xs _ h1 h2 =>
      unfold bTup at q
      by_cases hl : ds.length = n
      · simp only [if_pos hl] at q
        exact ⟨a, xs, rfl, sqT_same A.ex h1, by rw [h2.len]; exact hl, F, g, G, ds, A, h2, q⟩
      · simp only [if_neg hl] at q
  | _ => exact q.elim
def asgS (b : PyData → Gm → Option Gm) (m : MM PyData) : Gm → Out := fun g => onE (m g) fun d g' => match b d g' with
  | some g2 => .nx g2
  | none => .stuck
/-- a, b = e1, e2 of plain local names -/
def parS (i j : Nat) (a b : MM PyData) : Gm → Out := fun g => onE (bnd a (fun d => bnd b fun e => ret (d, e)) g) fun p g' => .nx ((g'.set i (.dat p.1)).set j (.dat p.2))
theorem ms_par {W : WX} {i j : Nat} {x y : Str} {a b : Expr} {ma mb : MM PyData} {px py pt : Pos} {kt k2 pt2} (hc : X.calm = true) (hN : X.N.Nodup) (hi : X.N[i]? = some x) (hj : X.N[j]? = some y) (hij : i ≠ j)
    (hx : X.env.scope.names.lookup x = some .local) (hy : X.env.scope.names.lookup y = some .local) (ha : ME X W a ma) (hb : ME X W b mb)
    (hw : swappedStores [.Tuple [.Name x px, .Name y py] kt pt] (.Tuple [a, b] k2 pt2) X.env = pure (some [x, y]))
    (hs : swapsWithSole [.Tuple [.Name x px, .Name y py] kt pt] (.Tuple [a, b] k2 pt2) pos.line X.env = pure false := by rfl)
    (h1 : starEach [a, b] X.env = (false, eval a X.env) :: starEach [b] X.env := by rfl) (h2 : starEach [b] X.env = (false, eval b X.env) :: starEach [] X.env := by rfl) :
    MS X W (.Assign [.Tuple [.Name x px, .Name y py] kt pt] (.Tuple [a, b] k2 pt2) pos) (parS i j ma mb) := PS.wk (ps_par hc hN hi hj hij hx hy (pa_cons ha (pa_cons hb pa_nil h2) h1) hw hs) fun D σ H ⟨F, g, G, A, q⟩ => by
  refine ⟨F, g, G, A, Po.imp (Po.bnd (PoS.onE q)) fun d g1 G1 H1 A1 s1 k1 v rv => ?_⟩
  refine ⟨F, g1, G1, A1, Po.imp (Po.bnd k1) fun d2 g2 G2 H2 A2 s2 k2 w rw' => ?_⟩
  exact ⟨v, w, rfl, k2 G2 H2 A2 (Same.refl _) _ G2 H2 ((A2.put (rv.up s2)).put rw') (Same.refl _)⟩
end
/-! ### loops -/
structure ItRep (K : Frag) (G : Hp) (J : It) (ds : List PyData) : Prop where
  stop : ∀ G1 H1, Same G G1 → Same G1 H1 → J.stop ds.length H1
  go : ∀ i d G1 H1, ds[i]? = some d → Same G G1 → Same G1 H1 → J.go i H1
  yld : ∀ i d G1 H1 v H2, ds[i]? = some d → Same G G1 → Same G1 H1 → J.yld i H1 v H2 → ∃ G2, Gr G1 H1 G2 H2 ∧ Rp K G2 v d
def cI (K : Frag) (mg : Mg) (W : WX) (m : MM (List PyData)) : TI := fun σ H R => ∃ F g G, At K F σ g G H ∧ Po K mg W F σ G (m g) fun ds _ G' H' => ∀ J, ItRep K G' J ds → R J H'
def MI (X : Cx) (W : WX) (tg iter : Expr) (m : MM (List PyData)) : Prop := PI X tg iter (cI X.kx X.mg W m)
theorem _root_.L2.PI.wk {X : Cx} {tg iter : Expr} {t t' : TI} (h : PI X tg iter t) (i : ∀ σ H R, t' σ H R → t σ H R) : PI X tg iter t' := ⟨fun pins s σ H R I q => h.run pins s σ H R I (i σ H R q)⟩
def forL (b : PyData → Gm → Option Gm) (body : Gm → Out) : List PyData → Gm → Out
  | [], g => .nx g
  | d :: ds, g => match b d g with
    | none => .stuck
    | some g1 => match body g1 with
      | .nx g2 => forL b body ds g2
      | .ct g2 => forL b body ds g2
      | .bk g2 => .nx g2
      | .rt d g2 => .rt d g2
      | .ex c g2 => .ex c g2
      | .stuck => .stuck
def forS (m : MM (List PyData)) (b : PyData → Gm → Option Gm) (body : Gm → Out) : Gm → Out := fun g => onE (m g) fun ds g' => forL b body ds g'
def whileL (c : MM Bool) (body : Gm → Out) : Nat → Gm → Out
  | 0, _ => .stuck
  | n + 1, g => onE (c g) fun t g1 => if t = true then (match body g1 with
      | .nx g2 => whileL c body n g2
      | .ct g2 => whileL c body n g2
      | .bk g2 => .nx g2
      | .rt d g2 => .rt d g2
      | .ex c g2 => .ex c g2
      | .stuck => .stuck) else .nx g1
section
variable {X : Cx} {W : WX} {tg iter c : Expr} {mi : MM (List PyData)} {mc : MM Bool} {js : List Nat} {b : PyData → Gm → Option Gm} {body : List Stmt} {mb : Gm → Out} {pos : Pos}
theorem ms_for (hp : PassesOwn (model X.prog X.w) X.A X.env X.xe) (hc : X.calm = true) (hi : MI X W tg iter mi) (hg : MG X tg js b) (hb : MB X W body mb) (hs : ∀ x, foldedSetIterable iter X.env x = pure x := by intro _; rfl) : MS X W (.For tg iter body [] pos) (forS mi b mb) :=
  PS.wk (ps_for hp hc hi hg hb hs) fun D σ H ⟨F, g, G, A, q⟩ => by
  refine ⟨F, g, G, A, Po.imp (PoS.onE q) fun ds g1 G1 H1 A1 s1 k1 J hJ => ?_⟩
  refine ⟨fun i m σ' H' => m = ds.length - i ∧ i ≤ ds.length ∧ ∃ g' G', At X.kx F σ' g' G' H' ∧ Same G1 G' ∧ PoS X.kx X.mg W F G' (forL b mb (ds.drop i) g') D, ⟨ds.length, by simp, Nat.zero_le _, g1, G1, A1, Same.refl _, k1⟩, ?_⟩
  rintro i m σ' H' ⟨rfl, hi, g', G', A', s', k'⟩
  by_cases hlt : i < ds.length
  · have ed : ds[i]? = some ds[i] := List.getElem?_eq_getElem hlt
    refine .inr ⟨hJ.go i _ G' H' ed s' A'.ex, fun σ2 H2 => ∃ g2 G2, At X.kx F σ2 g2 G2 H2 ∧ Same G1 G2 ∧ PoS X.kx X.mg W F G2 (forL b mb (ds.drop (i + 1)) g2) D, fun σ2 H2 ⟨g2, G2, A2, s2, k2⟩ => ⟨ds.length - (i + 1), by omega, rfl, hlt, g2, G2, A2, s2, k2⟩, fun v H2 y => ?_⟩
    obtain ⟨G2, gr, rv⟩ := hJ.yld i _ G' H' v H2 ed s' A'.ex y
    rw [List.drop_eq_getElem_cons hlt] at k'
    unfold forL at k'
    refine ⟨F, g', G2, ds[i], A'.grow gr, rv, ?_⟩
    generalize b ds[i] g' = o at k'
    cases o with
    | none => exact k'
    | some g2 =>
      refine fun σ2 A2 _ _ => ⟨F, g2, G2, A2, ?_⟩
      have k2 : PoS X.kx X.mg W F G2 (match mb g2 with
        | .nx g2 => forL b mb (ds.drop (i + 1)) g2
        | .ct g2 => forL b mb (ds.drop (i + 1)) g2
        | .bk g2 => .nx g2
        | .rt d g2 => .rt d g2
        | .ex c g2 => .ex c g2
        | .stuck => .stuck) D := PoS.base gr.g k'
      have s2 := s'.trans gr.g
      generalize mb g2 = o at k2
      cases o with
      | nx g3 => exact fun σ3 G3 H3 A3 s3 => ⟨g3, G3, A3, s2.trans s3, PoS.base s3 k2⟩
      | ct g3 => exact fun σ3 G3 H3 A3 s3 => ⟨g3, G3, A3, s2.trans s3, PoS.base s3 k2⟩
      | bk g3 => exact k2
      | rt d g3 => exact k2
      | ex c g3 => exact k2
      | stuck => exact k2
  · have e : i = ds.length := by omega
    subst e
    rw [List.drop_length] at k'
    exact .inl ⟨hJ.stop G' H' s' A'.ex, k' σ' G' H' A' (Same.refl _)⟩
theorem ms_while (n : Nat) (hp : PassesOwn (model X.prog X.w) X.A X.env X.xe) (hc : MT X W c mc) (hb : MB X W body mb) : MS X W (.While c body [] pos) (whileL mc mb n) :=
  PS.wk (ps_while hp hc hb) fun D σ H ⟨F, g, G, A, q⟩ => by
  refine ⟨fun m σ' H' => ∃ g' G', At X.kx F σ' g' G' H' ∧ PoS X.kx X.mg W F G' (whileL mc mb m g') D, ⟨n, g, G, A, q⟩, ?_⟩
  rintro m σ' H' ⟨g', G', A', k'⟩
  cases m with
  | zero => exact k'.elim
  | succ m =>
    refine ⟨F, g', G', A', Po.imp (PoS.onE k') fun t g1 G1 H1 A1 s1 k1 => ?_⟩
    cases t with
    | false => exact k1 σ' G1 H1 A1 (Same.refl _)
    | true =>
      refine ⟨fun σ2 H2 => ∃ g2 G2, At X.kx F σ2 g2 G2 H2 ∧ PoS X.kx X.mg W F G2 (whileL mc mb m g2) D, fun σ2 H2 h => ⟨m, Nat.lt_succ_self _, h⟩, F, g1, G1, A1, ?_⟩
      have k2 : PoS X.kx X.mg W F G1 (match mb g1 with
        | .nx g2 => whileL mc mb m g2
        | .ct g2 => whileL mc mb m g2
        | .bk g2 => .nx g2
        | .rt d g2 => .rt d g2
        | .ex c g2 => .ex c g2
        | .stuck => .stuck) D := k1
      generalize mb g1 = o at k2
      cases o with
      | nx g3 => exact fun σ3 G3 H3 A3 s3 => ⟨g3, G3, A3, PoS.base s3 k2⟩
      | ct g3 => exact fun σ3 G3 H3 A3 s3 => ⟨g3, G3, A3, PoS.base s3 k2⟩
      | bk g3 => exact k2
      | rt d g3 => exact k2
      | ex c g3 => exact k2
      | stuck => exact k2
end
/-! ### what is walked -/
/-- the items of a list or a tuple -/
def itemsD : PyData → Option (List PyData)
  | .list ds => some ds
  | .tuple ds => some ds
  | .dict kvs => some (kvs.map (·.1))
  | _ => none
def seqI (m : MM PyData) : MM (List PyData) := bnd m fun d => lft (itemsD d)
/-- range -/
def rngD (lo hi : Int) : List PyData := (List.range (hi - lo).toNat).map fun (i : Nat) => PyData.int (lo + (i : Int))
def rng1 (m : MM PyData) : MM (List PyData) := bnd m fun d => match d with
  | .int j => if -(2 ^ 62) ≤ j ∧ j < 2 ^ 62 then ret (rngD 0 j) else lft none
  | _ => lft none
def rng2 (a b : MM PyData) : MM (List PyData) := bnd a fun d => bnd b fun e => match d, e with
  | .int i, .int j => if -(2 ^ 62) ≤ i ∧ i < 2 ^ 62 ∧ -(2 ^ 62) ≤ j ∧ j < 2 ^ 62 then ret (rngD i j) else lft none
  | _, _ => lft none
section
variable {X : Cx} {W : WX} {tg iter a b : Expr} {m ma mb : MM PyData} {pos p : Pos}
theorem itRep_list {K : Frag} {G : Hp} {a : Addr} {xs : List V} {ds : List PyData} (h : G a = some (.lst xs)) (r : RpAll K G xs ds) : ItRep K G (Itl K a) ds := by
  have hl := r.len
  refine ⟨fun G1 H1 s e => ⟨xs, .inl (.inl (e _ _ (s _ _ h))), by omega⟩, fun i d G1 H1 hd s e => ?_, fun i d G1 H1 v H2 hd s e y => ?_⟩
  · obtain ⟨v, hv, _⟩ := r.get hd
    exact ⟨xs, v, .inl (.inl (e _ _ (s _ _ h))), hv⟩
  · obtain ⟨v', hv, rv⟩ := r.get hd
    obtain ⟨e2, y⟩ := y
    subst e2
    have := y xs (.inl (.inl (e _ _ (s _ _ h))))
    rw [hv] at this
    cases this
    exact ⟨G1, Gr.refl e, rv.up s⟩
theorem itRep_tup {K : Frag} {G : Hp} {a : Addr} {xs : List V} {ds : List PyData} (h : SqX K G a xs) (r : RpAll K G xs ds) : ItRep K G (Itt K a) ds := by
  have hl := r.len
  refine ⟨fun G1 H1 s e => ⟨xs, sqT_same (s.trans e) h, by omega⟩, fun i d G1 H1 hd s e => ?_, fun i d G1 H1 v H2 hd s e y => ?_⟩
  · obtain ⟨v, hv, _⟩ := r.get hd
    exact ⟨xs, v, sqT_same (s.trans e) h, hv⟩
  · obtain ⟨v', hv, rv⟩ := r.get hd
    obtain ⟨e2, y⟩ := y
    subst e2
    have := y xs (sqT_same (s.trans e) h)
    rw [hv] at this
    cases this
    exact ⟨G1, Gr.refl e, rv.up s⟩
theorem itRep_rng {K : Frag} {G : Hp} {lo hi : Int} : ItRep K G (Itr lo (hi - lo).toNat) (rngD lo hi) := by
  have hl : (rngD lo hi).length = (hi - lo).toNat := by simp [rngD]
  refine ⟨fun G1 H1 s e => ?_, fun i d G1 H1 hd s e => ?_, fun i d G1 H1 v H2 hd s e y => ?_⟩
  · show (hi - lo).toNat ≤ _
    omega
  · obtain ⟨h1, _⟩ := List.getElem?_eq_some_iff.mp hd
    show i < _
    omega
  · obtain ⟨h1, h2⟩ := List.getElem?_eq_some_iff.mp hd
    obtain ⟨e1, e2⟩ := y
    subst e1 e2
    have : d = .int (lo + (i : Int)) := by rw [← h2]; simp [rngD]
    subst this
    exact ⟨G1, Gr.refl e, .int _⟩
theorem _root_.L2.PI.or {t t' : TI} (h : PI X tg iter t) (h' : PI X tg iter t') : PI X tg iter (fun σ H R => t σ H R ∨ t' σ H R) := ⟨fun pins s σ H R I q => q.elim (h.run pins s σ H R I) (h'.run pins s σ H R I)⟩
end
end Mi
namespace Mi
open PySem PySem.Spec PyProof.Rows L2
/-! the keys of a dict -/
def ItDk (a : Addr) (es : Array DictEntry) (ep : Nat) (kvs : List V) : It :=
  ⟨fun i H => H a = some (dO a es ep) ∧ i < es.size, fun i H x H' => H' = H ∧ kvs[i]? = some x, fun i H => H a = some (dO a es ep) ∧ es.size ≤ i⟩
theorem dO_get {X : Cx} {pins : List (Addr × Obj)} {σ : L2.St} {H : Hp} {s : Shared} {a : Addr} {es : Array DictEntry} {ep : Nat} (I : Inv X pins σ H s) (h : H a = some (dO a es ep)) :
    (a == sysModules) = false ∧ es.size ≤ sizeLine ∧ s.heap.get? a = some { cls := .type "dict", data := .dict es ep } := by
  obtain ⟨q, _⟩ := (show ObjOk X.prog X.w H s.heap a (dO a es ep) from I.hok a _ h)
  exact q
theorem dO_raw {X : Cx} {pins : List (Addr × Obj)} {σ : L2.St} {H : Hp} {s : Shared} {a : Addr} {es : Array DictEntry} {ep : Nat} (I : Inv X pins σ H s) (h : H a = some (dO a es ep)) : s.heap.DictRaw a es ep :=
  ⟨_, (dO_get I h).2.2, ⟨rfl, rfl, rfl⟩, rfl⟩
theorem turn_keysD {P : Program} {w : World} {K : PySem.W.Frag} {tg : Expr} {a it : Addr} {es : Array DictEntry} {ep : Nat} {kvs : List V} (hv : Vals kvs (es.toList.map (·.key))) :
    Turn P w K tg (ItDk a es ep kvs) [it] it (fun i h => h.IsKeyIter it a i es.size ep) where
  mem := by simp
  obj := fun i h st b hb => by
    have e : b = it := by simpa using hb
    subst e
    obtain ⟨oi, e, c, dd⟩ := st
    exact ⟨oi, e, fun v z => by rw [dd] at z; cases z⟩
  keep := fun i h h' st k => st.at fun oi e => k it (by simp) oi e
  item := by
    intro X hP hw hK hc i pins s σ H E I hf st hg
    subst hP hw hK
    obtain ⟨hd, hi⟩ := hg
    obtain ⟨f0, f1, f2, f3, f4, f5⟩ := hf it (by simp)
    have hl := hv.length
    obtain ⟨x, hx⟩ : ∃ x, kvs[i]? = some x := ⟨kvs[i]'(by simp at hl; omega), List.getElem?_eq_getElem _⟩
    obtain ⟨u, hu, ru⟩ := hv.get hx
    have eu : u = es[i].key := by
      rw [List.getElem?_map] at hu
      have : es.toList[i]? = some es[i] := by simp
      rw [this] at hu
      exact (Option.some.inj hu).symm
    refine wpAny_pyNext_keys_item_raw st (dO_raw I hd) hi fun h' st' sb => ?_
    have I1 : Inv X pins σ H { s with heap := h' } := I.turned (t' := s.toks) (fun b ob hb e => (sb.2 b hb).trans e) f0 f1 f3 f4 f5
    obtain ⟨oi, e, c, dd⟩ := id st'
    exact ⟨_, rfl, go_of (s := { s with heap := h' }) e c dd (by decide) ⟨x, H, I1, by rw [← eu]; exact ru, ⟨rfl, hx⟩, st', fun b hb => (hf b hb).1⟩⟩
  done := by
    intro X hP hw hK hc i pins s σ H E I hf st hg
    subst hP hw hK
    obtain ⟨hd, hi⟩ := hg
    obtain ⟨f0, f1, f2, f3, f4, f5⟩ := hf it (by simp)
    exact wpAny_pyNext_keys_end_raw (I.ok.hd hc) st (dO_raw I hd) hi fun h' eb => ⟨rfl, I.turned (t' := s.toks) (fun b ob hb e => eb b ob hb e) f0 f1 f3 f4 f5⟩
  self := fun A i s Q E st h => wpAny_pyIter_keyiter st h
def iKeysD (td : TE) : TI := fun σ H R => td σ H fun x H1 => ∃ a es ep kvs, x = .ref a ∧ H1 a = some (dO a es ep) ∧ Vals kvs (es.toList.map (·.key)) ∧ R (ItDk a es ep kvs) H1
theorem pi_keysD {X : Cx} {tg e : Expr} {td : TE} (he : PE X e td) : PI X tg e (iKeysD td) := by
  refine ⟨fun pins s σ H R I h => ?_⟩
  refine thn (he.run pins s σ H _ I h) fun u s1 ⟨x, H1, I1, rx, a, es, ep, kvs, ex, hd, hv, q⟩ => ?_
  subst ex
  obtain rfl : u = Value.ref a := rx
  exact wpAny_pyIter_dict_raw (dO_get I1 hd).1 (dO_raw I1 hd) (pi_one (tk := s1.toks) I1 _ (turn_keysD hv) ⟨_, Heap.get?_push_size _ rfl, rfl, rfl⟩ q)
theorem RpKV.keys {K : Frag} {G : Hp} : ∀ {es : List DictEntry} {ds : List (PyData × PyData)}, RpKV K G es ds → ∃ kvs, Vals kvs (es.map (·.key)) ∧ RpAll K G kvs (ds.map (·.1))
  | _, _, .nil => ⟨[], .nil, .nil⟩
  | _, _, .cons (k := k) a1 a2 a3 a4 a5 t => by
    obtain ⟨kvs, h1, h2⟩ := t.keys
    exact ⟨k :: kvs, .cons a2 h1, .cons a4 h2⟩
theorem itRep_keys {K : Frag} {G : Hp} {a : Addr} {es : Array DictEntry} {ep : Nat} {kvs : List V} {ds : List PyData} (h : G a = some (dO a es ep)) (hv : Vals kvs (es.toList.map (·.key))) (r : RpAll K G kvs ds) : ItRep K G (ItDk a es ep kvs) ds := by
  have hl := r.len
  have hn := hv.length
  have hn : kvs.length = es.size := by simpa using hn
  refine ⟨fun G1 H1 s e => ⟨e _ _ (s _ _ h), by omega⟩, fun i d G1 H1 hd s e => ⟨e _ _ (s _ _ h), ?_⟩, fun i d G1 H1 v H2 hd s e y => ?_⟩
  · have := (List.getElem?_eq_some_iff.mp hd).1
    omega
  · obtain ⟨v', hv', rv⟩ := r.get hd
    obtain ⟨e2, y⟩ := y
    subst e2
    rw [hv'] at y
    cases y
    exact ⟨G1, Gr.refl e, rv.up s⟩
section
variable {X : Cx} {W : WX} {tg iter a b : Expr} {m ma mb : MM PyData} {pos p : Pos}
theorem mi_seq (h : ME X W iter m) : MI X W tg iter (seqI m) := PI.wk (PI.or (pi_list h) (PI.or (pi_tup h) (pi_keysD h))) fun σ H R ⟨F, g, G, A, q⟩ => by
  have q' : Po X.kx X.mg W F σ G (bnd m (fun d => lft (itemsD d)) g) (fun ds _ G' H' => ∀ J, ItRep X.kx G' J ds → R J H') := q
  unfold bnd at q'
  generalize em : m g = r at q'
  rcases r with (_ | ⟨c, g'⟩) | ⟨d, g'⟩
  · exact q'.elim
  · refine .inl ⟨F, g, G, A, ?_⟩
    rw [em]
    exact q'
  · have q2 : Po X.kx X.mg W F σ G (lft (itemsD d) g') (fun ds _ G' H' => ∀ J, ItRep X.kx G' J ds → R J H') := q'
    cases d with
    | list ds =>
      refine .inl ⟨F, g, G, A, ?_⟩
      rw [em]
      intro G1 H1 A1 s1 x rx
      cases rx with
      | @lst a xs _ h1 h2 => exact ⟨a, rfl, ⟨xs, .inl (.inl (A1.ex _ _ h1))⟩, q2 G1 H1 A1 s1 _ (itRep_list h1 h2)⟩
    | tuple ds =>
      refine .inr (.inl ⟨F, g, G, A, ?_⟩)
      rw [em]
      intro G1 H1 A1 s1 x rx
      cases rx with
      | @tup a xs _ h1 h2 => exact ⟨a, rfl, ⟨xs, sqT_same A1.ex h1⟩, q2 G1 H1 A1 s1 _ (itRep_tup h1 h2)⟩
    | dict ds =>
      refine .inr (.inr ⟨F, g, G, A, ?_⟩)
      rw [em]
      intro G1 H1 A1 s1 x rx
      cases rx with
      | @dict a es ep _ h1 h0 h2 =>
        obtain ⟨kvs, hv, hr⟩ := h2.keys
        exact ⟨a, es, ep, kvs, rfl, A1.ex _ _ h1, hv, q2 G1 H1 A1 s1 _ (itRep_keys h1 hv hr)⟩
    | _ => exact q2.elim
theorem mi_rng1 (hm : X.mg "range" = none) (ha : ME X W a m) (hg : Gl X "range" := by rfl) (hs : starEach [a] X.env = [(false, eval a X.env)] := by rfl) : MI X W tg (.Call (.Name "range" p) [a] [] pos) (rng1 m) := PI.wk (pi_range1 hg hm (pa_cons ha pa_nil hs) hs) fun σ H R ⟨F, g, G, A, q⟩ => by
  refine ⟨F, g, G, A, Po.imp q.bnd fun d g1 G1 H1 A1 s1 k1 x rx => ?_⟩
  cases d with
  | int j =>
    cases rx
    have k2 : Po X.kx X.mg W F σ G1 ((if -(2 ^ 62) ≤ j ∧ j < 2 ^ 62 then ret (rngD 0 j) else lft none : MM (List PyData)) g1) (fun ds _ G' H' => ∀ J, ItRep X.kx G' J ds → R J H') := k1
    by_cases hj : -(2 ^ 62) ≤ j ∧ j < 2 ^ 62
    · rw [if_pos hj] at k2
      refine ⟨j, rfl, hj.1, hj.2, ?_⟩
      have := k2 G1 H1 A1 (Same.refl _) (Itr 0 (j - 0).toNat) itRep_rng
      simpa using this
    · rw [if_neg hj] at k2
      exact k2.elim
  | _ => exact k1.elim
end
/-! ### comprehensions -/
def wipeG (g : Gm) : List Nat → Gm
  | [] => g
  | v :: vs => (wipeG g vs).set v .dead
def compL (vs : List Nat) (b : PyData → Gm → Option Gm) (tt : MM Bool) (te : MM PyData) : List PyData → Gm → Except Er (List PyData × Gm)
  | [], g => .ok ([], g)
  | d :: ds, g => match b d g with
    | none => .error .stuck
    | some g1 => match tt g1 with
      | .ok (true, g2) => (match te g2 with
        | .ok (z, g3) => (match compL vs b tt te ds (wipeG g3 vs) with
          | .ok (zs, g4) => .ok (z :: zs, g4)
          | .error _ => .error .stuck)
        | .error _ => .error .stuck)
      | .ok (false, g2) => compL vs b tt te ds (wipeG g2 vs)
      | .error _ => .error .stuck
def compM (mi : MM (List PyData)) (vs : List Nat) (b : PyData → Gm → Option Gm) (tt : MM Bool) (te : MM PyData) : MM (List PyData) := bnd mi fun ds g =>
  if ds.length ≤ sizeLine then (match compL vs b tt te ds (wipeG g vs) with
    | .ok (zs, g') => .ok (zs, g')
    | .error _ => .error .stuck) else .error .stuck
def yesM : MM Bool := ret true
/-- the frame of all that is there, but for one's own -/
def snap (F : Frm) (σ : L2.St) (g : Gm) (G H : Hp) : Frm := ⟨fun p => ∃ (i : Nat) (t : Bool) (d : PyData), g[i]? = some (.own t d) ∧ σ[i]? = some (some (.ref p)), G, H, F.p0⟩
/-- an object that is nobody's: it may be changed, or become data -/
structure Nob (F : Frm) (σ : L2.St) (g : Gm) (G H : Hp) (D : Addr) : Prop where
  ng : G D = none
  nf : F.H D = none
  nh : H D ≠ none
  no : ∀ (i : Nat) (t : Bool) (d : PyData), g[i]? = some (.own t d) → σ[i]? ≠ some (some (.ref D))
section
variable {K : Frag} {F : Frm} {σ σ' : L2.St} {g g' : Gm} {G H G' H' : Hp}
theorem At.snap (A : At K F σ g G H) : At K (Mi.snap F σ g G H) σ g G H := ⟨A.ex, Same.refl _, fun _ _ h _ => h, fun _ _ _ _ => rfl, fun _ h => h, A.len, A.pur, fun i t d h => by
  obtain ⟨p, h1, h2, h3, h4, h5⟩ := A.own i _ d h
  exact ⟨p, h1, h2, h3, .inl ⟨i, t, d, h, h1⟩, h5⟩, A.inj⟩
theorem At.via (A : At K F σ g G H) (B : At K (Mi.snap F σ g G H) σ' g' G' H') : At K F σ' g' G' H' := by
  have ns : ∀ {a o}, F.H a = some o → ¬ F.S a → ¬ (Mi.snap F σ g G H).S a := fun {a o} e s ⟨i, t, d, h1, h2⟩ => by
    obtain ⟨p, q1, q2, q3, q4, _⟩ := A.own i _ d h1
    rw [h2] at q1
    cases q1
    rcases q4 with q4 | q4
    · exact s q4
    · rw [q4] at e; cases e
  refine ⟨B.ex, A.g0.trans B.g0, fun a o e s => B.h0 a o (A.h0 a o e s) (ns e s), fun a o e s => (B.f0 a o (A.h0 a o e s) (ns e s)).trans (A.f0 a o e s), fun a e => A.n0 a (B.n0 a e), B.len, B.pur, fun i t d h => ?_, B.inj⟩
  obtain ⟨p, q1, q2, q3, q4, q5⟩ := B.own i _ d h
  refine ⟨p, q1, q2, q3, ?_, q5⟩
  rcases q4 with ⟨j, t2, e, z1, z2⟩ | q4
  · obtain ⟨p2, y1, _, _, y4, _⟩ := A.own j _ e z1
    rw [z2] at y1
    cases y1
    exact y4
  · exact .inr (A.n0 p q4)
theorem At.other (A : At K F σ g G H) {D : Addr} {o : HO} (n : Nob F σ g G H D) : At K F σ g G (upd H D o) := by
  refine ⟨fun a u e => ?_, A.g0, fun a u e s => ?_, A.f0, fun a e => ?_, A.len, A.pur, fun i t d h => ?_, A.inj⟩
  · rw [upd_ne (ne_of_none e n.ng)]; exact A.ex _ _ e
  · rw [upd_ne (ne_of_none e n.nf)]; exact A.h0 a u e s
  · by_cases q : a = D
    · subst q; rw [upd_same] at e; cases e
    · rw [upd_ne q] at e; exact A.n0 a e
  · obtain ⟨p, q1, q2, q3, q4⟩ := A.own i _ d h
    have ne : p ≠ D := fun e => n.no i _ d h (e ▸ q1)
    exact ⟨p, q1, q2, q3.up (Same.refl _) (upd_ne ne), q4⟩
theorem At.adopt (A : At K F σ g G H) {D : Addr} {o : HO} (n : Nob F σ g G H D) (h : H D = some o) : At K F σ g (upd G D o) H := by
  have sg : Same G (upd G D o) := same_new n.ng
  refine ⟨fun a u e => ?_, A.g0.trans sg, A.h0, fun a u e s => ?_, A.n0, A.len, fun i d h => ?_, fun i t d h => ?_, A.inj⟩
  · by_cases q : a = D
    · subst q; rw [upd_same] at e; cases e; exact h
    · rw [upd_ne q] at e; exact A.ex _ _ e
  · rw [upd_ne (ne_of_none e n.nf)]; exact A.f0 a u e s
  · obtain ⟨v, q1, q2⟩ := A.pur i d h
    exact ⟨v, q1, q2.up sg⟩
  · obtain ⟨p, q1, q2, q3, q4⟩ := A.own i _ d h
    have ne : p ≠ D := fun e => n.no i _ d h (e ▸ q1)
    exact ⟨p, q1, by rw [upd_ne ne]; exact q2, q3.up sg rfl, q4⟩
theorem At.take (A : At K F σ g G H) {D : Addr} {i : Nat} {d : PyData} (n : Nob F σ g G H D) (h : Own K G H D d) : At K F (σ.set i (some (.ref D))) (g.set i (.own false d)) G H := by
  have un : ∀ {j : Nat} {v : Bool} {e : PyData}, i ≠ j → (g.set i (.own false d))[j]? = some (.own v e) → g[j]? = some (.own v e) := fun {j v e} q z => by
    rw [List.getElem?_set_ne q] at z; exact z
  refine ⟨A.ex, A.g0, A.h0, A.f0, A.n0, by simpa using A.len, fun j e z => ?_, fun j t2 e z => ?_, fun j k t u e e' q z1 z2 z3 z4 => ?_⟩
  · by_cases q : i = j
    · subst q
      by_cases hi : i < g.length
      · rw [List.getElem?_set_self hi] at z; cases z
      · rw [List.getElem?_eq_none (by simpa using hi)] at z; cases z
    · rw [List.getElem?_set_ne q] at z ⊢; exact A.pur j e z
  · by_cases q : i = j
    · subst q
      by_cases hi : i < g.length
      · rw [List.getElem?_set_self hi] at z; cases z
        exact ⟨D, List.getElem?_set_self (by rw [A.len]; exact hi), n.ng, h, .inr n.nf, fun q => nomatch q⟩
      · rw [List.getElem?_eq_none (by simpa using hi)] at z; cases z
    · rw [List.getElem?_set_ne q] at z ⊢; exact A.own j _ e z
  · by_cases q1 : i = j
    · by_cases q2 : i = k
      · rw [← q1, ← q2]
      · exfalso
        subst q1
        rw [List.getElem?_set_ne q2] at z4
        by_cases hi : i < σ.length
        · rw [List.getElem?_set_self hi] at z3; cases z3
          exact n.no k _ e' (un q2 z2) z4
        · rw [List.getElem?_eq_none (by simpa using hi)] at z3; cases z3
    · by_cases q2 : i = k
      · exfalso
        subst q2
        rw [List.getElem?_set_ne q1] at z3
        by_cases hi : i < σ.length
        · rw [List.getElem?_set_self hi] at z4; cases z4
          exact n.no j _ e (un q1 z1) z3
        · rw [List.getElem?_eq_none (by simpa using hi)] at z4; cases z4
      · rw [List.getElem?_set_ne q1] at z3
        rw [List.getElem?_set_ne q2] at z4
        exact A.inj j k _ _ e e' q (un q1 z1) (un q2 z2) z3 z4
theorem At.wipe (A : At K F σ g G H) : ∀ vs : List Nat, At K F (L2.wipe σ vs) (wipeG g vs) G H
  | [] => A
  | v :: vs => by
    have B := (At.wipe A vs).kill v
    refine B.slot (v := none) ?_
    by_cases hv : v < (wipeG g vs).length
    · exact .inl (List.getElem?_set_self hv)
    · exact .inr (by simpa using hv)
theorem At.unwipe {vs : List Nat} (A : At K F (L2.wipe σ vs) g G H) : At K F σ g G H := by
  refine ⟨A.ex, A.g0, A.h0, A.f0, A.n0, (wipe_length σ vs).symm.trans A.len, fun i d h => ?_, fun i t d h => ?_, fun j k t u e e' q z1 z2 z3 z4 => ?_⟩
  · obtain ⟨v, q1, q2⟩ := A.pur i d h
    exact ⟨v, (wipe_some q1).1, q2⟩
  · obtain ⟨p, q1, q2⟩ := A.own i _ d h
    exact ⟨p, (wipe_some q1).1, q2⟩
  · obtain ⟨p, q1, _⟩ := A.own j _ e z1
    obtain ⟨p', q1', _⟩ := A.own k _ e' z2
    have e1 := (wipe_some q1).1
    have e2 := (wipe_some q1').1
    rw [z3] at e1
    rw [z4] at e2
    cases e1
    cases e2
    exact A.inj j k _ _ e e' q z1 z2 q1 q1'
theorem Nob.via (A : At K F σ g G H) {D : Addr} (n : Nob F σ g G H D) (B : At K (Mi.snap F σ g G H) σ' g' G' H') : Nob F σ' g' G' H' D ∧ ∀ o, H D = some o → H' D = some o := by
  have ns : ¬ (Mi.snap F σ g G H).S D := fun ⟨i, t, d, h1, h2⟩ => n.no i t d h1 h2
  cases e : H D with
  | none => exact absurd e n.nh
  | some o =>
    have h' : H' D = some o := B.h0 D o e ns
    refine ⟨⟨(B.f0 D o e ns).trans n.ng, n.nf, by rw [h']; simp, fun i t d h z => ?_⟩, fun o' e' => by cases e'; exact h'⟩
    obtain ⟨p, q1, q2, q3, q4, _⟩ := B.own i _ d h
    rw [z] at q1
    cases q1
    rcases q4 with q4 | q4
    · exact ns q4
    · have : H D = none := q4
      rw [e] at this; cases this
theorem Nob.upd {D : Addr} {o : HO} (n : Nob F σ g G H D) : Nob F σ g G (upd H D o) D := ⟨n.ng, n.nf, by rw [upd_same]; simp, n.no⟩
theorem Nob.wipe {D : Addr} (n : Nob F σ g G H D) (vs : List Nat) : Nob F (L2.wipe σ vs) (wipeG g vs) G H D := by
  refine ⟨n.ng, n.nf, n.nh, fun i t d h z => ?_⟩
  have : ∀ (ws : List Nat), (wipeG g ws)[i]? = some (.own t d) → g[i]? = some (.own t d) := by
    intro ws
    induction ws with
    | nil => exact fun h => h
    | cons w ws ih =>
      intro h
      unfold wipeG at h
      by_cases q : w = i
      · subst q
        by_cases hl : w < (wipeG g ws).length
        · rw [List.getElem?_set_self hl] at h; cases h
        · rw [List.getElem?_eq_none (by simpa using hl)] at h; cases h
      · rw [List.getElem?_set_ne q] at h
        exact ih h
  exact n.no i t d (this vs h) (wipe_some z).1
theorem Nob.unwipe {D : Addr} {vs : List Nat} (A : At K F (L2.wipe σ vs) g G H) (n : Nob F (L2.wipe σ vs) g G H D) : Nob F σ g G H D := by
  refine ⟨n.ng, n.nf, n.nh, fun i t d h z => ?_⟩
  obtain ⟨p, q1, _⟩ := A.own i _ d h
  have e := (wipe_some q1).1
  rw [z] at e
  cases e
  exact n.no i t d h q1
end
theorem wipe_ext {σ σ2 : L2.St} {vs js : List Nat} (hl : σ2.length = (wipe σ vs).length) (hj : ∀ j, j ∉ js → σ2[j]? = (wipe σ vs)[j]?) (hs : ∀ j ∈ js, j ∈ vs) : wipe σ2 vs = wipe σ vs := by
  have self : ∀ (τ : L2.St) (ws : List Nat) (j : Nat), j ∈ ws → j < τ.length → (wipe τ ws)[j]? = some none := by
    intro τ ws
    induction ws with
    | nil => intro j hj; cases hj
    | cons w ws ih =>
      intro j hj hl
      unfold wipe
      by_cases q : w = j
      · subst q
        exact List.getElem?_set_self (by rw [wipe_length]; exact hl)
      · rw [List.getElem?_set_ne q]
        rcases List.mem_cons.mp hj with e | e
        · exact absurd e.symm q
        · exact ih j e hl
  have out : ∀ (τ : L2.St) (ws : List Nat) (j : Nat), j ∉ ws → (wipe τ ws)[j]? = τ[j]? := by
    intro τ ws
    induction ws with
    | nil => intro j _; rfl
    | cons w ws ih =>
      intro j hj
      simp only [List.mem_cons, not_or] at hj
      unfold wipe
      rw [List.getElem?_set_ne (Ne.symm hj.1)]
      exact ih j hj.2
  have hl2 : σ2.length = σ.length := hl.trans (wipe_length σ vs)
  refine List.ext_getElem? fun j => ?_
  by_cases q : j ∈ vs
  · by_cases h : j < σ.length
    · rw [self σ2 vs j q (by rw [hl2]; exact h), self σ vs j q h]
    · rw [List.getElem?_eq_none (by rw [wipe_length, hl2]; omega), List.getElem?_eq_none (by rw [wipe_length]; omega)]
  · rw [out σ2 vs j q]
    exact hj j fun z => q (hs j z)
end Mi
namespace Mi
open PySem PySem.Spec PyProof.Rows L2
section
variable {K : Frag} {F : Frm} {σ σ' : L2.St} {g g' : Gm} {G H G' H' : Hp}
theorem At.newNob (A : At K F σ g G H) {D : Addr} {o : HO} (hp : H D = none) : At K F σ g G (upd H D o) ∧ Nob F σ g G (upd H D o) D := by
  have gp : G D = none := A.ex.free hp
  have ne : ∀ {j : Nat} {t : Bool} {e : PyData} {q : Addr}, g[j]? = some (.own t e) → σ[j]? = some (some (.ref q)) → q ≠ D := fun {j t e q} z y w => by
    obtain ⟨p2, y1, _, y3, _⟩ := A.own j _ e z
    rw [y] at y1
    cases y1
    obtain ⟨o', ho⟩ := y3.some
    rw [w, hp] at ho; cases ho
  refine ⟨⟨fun a u e => ?_, A.g0, fun a u e s => ?_, A.f0, fun a e => ?_, A.len, A.pur, fun i t d h => ?_, A.inj⟩, gp, A.n0 D hp, by rw [upd_same]; simp, fun i t d h z => ne h z rfl⟩
  · rw [upd_ne (ne_of_none e gp)]; exact A.ex _ _ e
  · rw [upd_ne (ne_of_none (A.h0 a u e s) hp)]; exact A.h0 a u e s
  · by_cases q : a = D
    · subst q; rw [upd_same] at e; cases e
    · rw [upd_ne q] at e; exact A.n0 a e
  · obtain ⟨p, q1, q2, q3, q4⟩ := A.own i _ d h
    exact ⟨p, q1, q2, q3.up (Same.refl _) (upd_ne (ne h q1)), q4⟩
theorem Nob.grow {D : Addr} (n : Nob F σ g G H D) (r : Gr G H G' H') : Nob F σ g G' H' D := by
  cases e : H D with
  | none => exact absurd e n.nh
  | some o => exact ⟨(r.f D o e).trans n.ng, n.nf, by rw [r.h D o e]; simp, n.no⟩
end
abbrev W0 : WX := fun _ _ _ _ => False
/-- a new list that is nobody's -/
def cL (K : Frag) (mg : Mg) (W : WX) (m : MM (List PyData)) : TE := fun σ H Q => ∃ F g G, At K F σ g G H ∧ Po K mg W F σ G (m g) fun zs g' G' H' => ∀ D xs, Nob F σ g' G' H' D → H' D = some (.lst xs) → RpAll K G' xs zs → Q (.ref D) H'
theorem lc_of {K : Frag} {mg : Mg} {W : WX} {mi : MM (List PyData)} {vs js : List Nat} {b : PyData → Gm → Option Gm} {tt : MM Bool} {te : MM PyData} (hj : ∀ j ∈ js, j ∈ vs) {σ : L2.St} {H : Hp} {Q : VK} (h : cL K mg W (compM mi vs b tt te) σ H Q) :
    tLc (cI K mg W mi) (cG K js b) (cT K mg W0 tt) (cE K mg W0 te) vs σ H Q := by
  obtain ⟨F, g, G, A, q⟩ := h
  refine ⟨F, g, G, A, Po.imp q.bnd fun ds g1 G1 H1 A1 s1 k1 J hJ => ?_⟩
  intro D hD
  by_cases hl : ds.length ≤ sizeLine
  case neg =>
    have k2 : Po K mg W F σ G1 (if ds.length ≤ sizeLine then (match compL vs b tt te ds (wipeG g1 vs) with
      | .ok (zs, g') => (.ok (zs, g') : Except Er (List PyData × Gm))
      | .error _ => .error .stuck) else .error .stuck) (fun zs g' G' H' => ∀ D xs, Nob F σ g' G' H' D → H' D = some (.lst xs) → RpAll K G' xs zs → Q (.ref D) H') := k1
    rw [if_neg hl] at k2
    exact k2.elim
  have k2 : Po K mg W F σ G1 (if ds.length ≤ sizeLine then (match compL vs b tt te ds (wipeG g1 vs) with
      | .ok (zs, g') => (.ok (zs, g') : Except Er (List PyData × Gm))
      | .error _ => .error .stuck) else .error .stuck) (fun zs g' G' H' => ∀ D xs, Nob F σ g' G' H' D → H' D = some (.lst xs) → RpAll K G' xs zs → Q (.ref D) H') := k1
  rw [if_pos hl] at k2
  generalize ec : compL vs b tt te ds (wipeG g1 vs) = rc at k2
  rcases rc with _ | ⟨zs, gf⟩
  · exact k2.elim
  have k3 : ∀ G' H', At K F σ gf G' H' → Same G1 G' → ∀ D xs, Nob F σ gf G' H' D → H' D = some (.lst xs) → RpAll K G' xs zs → Q (.ref D) H' := k2
  have start : ∃ gi Gi acc zacc zr, At K F (wipe σ vs) gi Gi (upd H1 D (.lst [])) ∧ Same G1 Gi ∧ Nob F (wipe σ vs) gi Gi (upd H1 D (.lst [])) D ∧ (upd H1 D (.lst [])) D = some (.lst acc) ∧ RpAll K Gi acc zacc ∧ acc.length ≤ 0 ∧ compL vs b tt te (ds.drop 0) gi = .ok (zr, gf) ∧ zs = zacc ++ zr := by
    obtain ⟨B, n⟩ := A1.newNob (o := .lst []) hD
    exact ⟨wipeG g1 vs, G1, [], [], zs, B.wipe vs, Same.refl _, n.wipe vs, upd_same, .nil, Nat.le_refl _, ec, rfl⟩
  refine ⟨fun i m H => m = ds.length - i ∧ i ≤ ds.length ∧ ∃ gi Gi acc zacc zr, At K F (wipe σ vs) gi Gi H ∧ Same G1 Gi ∧ Nob F (wipe σ vs) gi Gi H D ∧ H D = some (.lst acc) ∧ RpAll K Gi acc zacc ∧ acc.length ≤ i ∧ compL vs b tt te (ds.drop i) gi = .ok (zr, gf) ∧ zs = zacc ++ zr,
    ⟨ds.length, by simp, Nat.zero_le _, start⟩, ?_⟩
  rintro i m H ⟨rfl, hi, gi, Gi, acc, zacc, zr, Ai, si, ni, hDi, ri, hli, eci, ez⟩
  by_cases hlt : i < ds.length
  case neg =>
    have e : i = ds.length := by omega
    subst e
    rw [List.drop_length] at eci
    cases eci
    refine .inl ⟨hJ.stop Gi H si Ai.ex, ?_⟩
    rw [List.append_nil] at ez
    subst ez
    exact k3 Gi H Ai.unwipe si D acc (Nob.unwipe Ai ni) hDi ri
  have ed : ds[i]? = some ds[i] := List.getElem?_eq_getElem hlt
  refine .inr ⟨hJ.go i _ Gi H ed si Ai.ex, fun H => ∃ gi Gi acc zacc zr, At K F (wipe σ vs) gi Gi H ∧ Same G1 Gi ∧ Nob F (wipe σ vs) gi Gi H D ∧ H D = some (.lst acc) ∧ RpAll K Gi acc zacc ∧ acc.length ≤ i + 1 ∧ compL vs b tt te (ds.drop (i + 1)) gi = .ok (zr, gf) ∧ zs = zacc ++ zr,
    fun H' n' => ⟨ds.length - (i + 1), by omega, rfl, hlt, n'⟩, fun x H' y => ?_⟩
  obtain ⟨G2, gr, rv⟩ := hJ.yld i _ Gi H x H' ed si Ai.ex y
  have A2 := Ai.grow gr
  have n2 := ni.grow gr
  have hD2 : H' D = some (.lst acc) := gr.h _ _ hDi
  rw [List.drop_eq_getElem_cons hlt] at eci
  unfold compL at eci
  generalize eb : b ds[i] gi = ob at eci
  cases ob with
  | none => cases eci
  | some gb =>
    simp only at eci
    refine ⟨snap F (wipe σ vs) gi G2 H', gi, G2, ds[i], A2.snap, rv, ?_⟩
    rw [eb]
    refine fun σ2 B2 l2 j2 => ⟨wipe_ext l2 j2 hj, snap F (wipe σ vs) gi G2 H', gb, G2, B2, ?_⟩
    have ew := wipe_ext l2 j2 hj
    generalize tt gb = rt at eci
    rcases rt with _ | ⟨t, g2⟩
    · cases eci
    cases t with
    | false =>
      simp only at eci
      intro G3 H3 B3 s3
      show if false = true then _ else _
      rw [if_neg Bool.false_ne_true]
      have A3 := A2.via B3
      obtain ⟨n3, h3⟩ := Nob.via A2 n2 B3
      have A4 := A3.wipe vs
      have n4 := n3.wipe vs
      rw [ew] at A4 n4
      exact ⟨wipeG g2 vs, G3, acc, zacc, zr, A4, (si.trans gr.g).trans s3, n4, h3 _ hD2, (ri.up gr.g).up s3, Nat.le_succ_of_le hli, eci, ez⟩
    | true =>
      simp only at eci
      intro G3 H3 B3 s3
      show if true = true then _ else _
      rw [if_pos rfl]
      refine ⟨snap F (wipe σ vs) gi G2 H', g2, G3, B3, ?_⟩
      generalize te g2 = re at eci
      rcases re with _ | ⟨z, g3⟩
      · cases eci
      simp only at eci
      intro G4 H4 B4 s4 v rz
      generalize er : compL vs b tt te (ds.drop (i + 1)) (wipeG g3 vs) = rr at eci
      rcases rr with _ | ⟨zr', gf'⟩
      · cases eci
      simp only at eci
      cases eci
      have A3 := A2.via B4
      obtain ⟨n3, h3⟩ := Nob.via A2 n2 B4
      have A4 := (A3.other (o := .lst (acc ++ [v])) n3).wipe vs
      have n4 := (n3.upd (o := .lst (acc ++ [v]))).wipe vs
      rw [ew] at A4 n4
      refine ⟨acc, h3 _ hD2, by omega, wipeG g3 vs, G4, acc ++ [v], zacc ++ [z], zr', A4, ((si.trans gr.g).trans s3).trans s4, n4, upd_same, (((ri.up gr.g).up s3).up s4).app (.cons rz .nil), by simp; omega, er, by rw [ez]; simp⟩
def lstO (m : MM (List PyData)) : MM PyData := bnd m fun zs => ret (.list zs)
/-- x = [..] of a comprehension -/
def setC (i : Nat) (m : MM (List PyData)) : Gm → Out := fun g => onE (m g) fun zs g' => .nx (g'.set i (.own false (.list zs)))
section
variable {X : Cx} {W : WX} {elt tg iter : Expr} {ifs : List Expr} {scope : Scope} {own : List (Str × Nat)} {pos spos py : Pos} {mi : MM (List PyData)} {js : List Nat} {b : PyData → Gm → Option Gm} {tt : MM Bool} {te : MM PyData}
def MTs (X : Cx) (W : WX) (ifs : List Expr) (m : MM Bool) : Prop := PTs X ifs (cT X.kx X.mg W m)
theorem _root_.L2.PTs.wk {t t' : TT} (h : PTs X ifs t) (i : ∀ σ H Q, t' σ H Q → t σ H Q) : PTs X ifs t' := ⟨fun pins s σ H Q I q => h.run pins s σ H Q I (i σ H Q q)⟩
theorem mts_nil : MTs X W [] yesM := PTs.wk pts_nil fun σ H Q ⟨F, g, G, A, q⟩ => q G H A (Same.refl _)
theorem mts_one {c : Expr} {m : MM Bool} (h : MT X W c m) : MTs X W [c] m := pts_one h
theorem me_lc (N : List Str) (sc : Scope) (own : List (Str × Nat)) (hc : X.calm = true) (hN : X.N.Nodup) (hi : MI X W tg iter mi) (ok : blkC N sc scope own = true)
    (hg : ∀ (s : Shared) (H : Hp) (C : Addr) (cl : List (Str × Addr)) (fp : List Addr), MG (X.blk s H scope (compEnvC scope cl C X.env) fp) tg js b) (ht : ∀ (s : Shared) (H : Hp) (C : Addr) (cl : List (Str × Addr)) (fp : List Addr), MTs (X.blk s H scope (compEnvC scope cl C X.env) fp) W0 ifs tt)
    (he : ∀ (s : Shared) (H : Hp) (C : Addr) (cl : List (Str × Addr)) (fp : List Addr), ME (X.blk s H scope (compEnvC scope cl C X.env) fp) W0 elt te) (hj : ∀ j ∈ js, j ∈ own.map (·.2) := by decide) (hs : ∀ x, foldedSetIterable iter X.env x = pure x := by intro _; rfl) (eN : X.N = N := by rfl) (eS : X.env.scope = sc := by rfl) :
    ME X W (.ListComp elt [⟨tg, iter, ifs, 0⟩] scope pos) (lstO (compM mi (own.map (·.2)) b tt te)) := PE.wk (pe_lc (g := cG X.kx js b) (tt := cT X.kx X.mg W0 tt) (te := cE X.kx X.mg W0 te) hc hN hi (by rw [eN, eS]; exact blkOk_by ok) hg ht he hs) fun σ H Q ⟨F, g, G, A, q⟩ => by
  refine lc_of hj ⟨F, g, G, A, Po.imp q.bnd fun zs g1 G1 H1 A1 s1 k1 D xs n hD r => ?_⟩
  have sg : Same G1 (upd G1 D (.lst xs)) := same_new n.ng
  exact k1 _ H1 (A1.adopt n hD) sg _ (.lst upd_same (r.up sg))
/-- name = [..], plain data -/
theorem ms_setLc (N : List Str) (sc : Scope) (own : List (Str × Nat)) {i : Nat} {y : Str} (hc : X.calm = true) (hN : X.N.Nodup) (hy : X.N[i]? = some y) (hyl : X.env.scope.names.lookup y = some .local)
    (hsw : swapsWith (.ListComp elt [⟨tg, iter, ifs, 0⟩] scope pos) (some (.Name y py)) spos.line X.env = pure true) (hi : MI X W tg iter mi) (ok : blkC N sc scope own = true)
    (hg : ∀ (s : Shared) (H : Hp) (C : Addr) (cl : List (Str × Addr)) (fp : List Addr), MG (X.blk s H scope (compEnvC scope cl C X.env) fp) tg js b) (ht : ∀ (s : Shared) (H : Hp) (C : Addr) (cl : List (Str × Addr)) (fp : List Addr), MTs (X.blk s H scope (compEnvC scope cl C X.env) fp) W0 ifs tt)
    (he : ∀ (s : Shared) (H : Hp) (C : Addr) (cl : List (Str × Addr)) (fp : List Addr), ME (X.blk s H scope (compEnvC scope cl C X.env) fp) W0 elt te) (hj : ∀ j ∈ js, j ∈ own.map (·.2) := by decide) (hs : ∀ x, foldedSetIterable iter X.env x = pure x := by intro _; rfl) (eN : X.N = N := by rfl) (eS : X.env.scope = sc := by rfl) :
    MS X W (.Assign [.Name y py] (.ListComp elt [⟨tg, iter, ifs, 0⟩] scope pos) spos) (setS i (lstO (compM mi (own.map (·.2)) b tt te))) := PS.wk (ps_setLc (g := cG X.kx js b) (tt := cT X.kx X.mg W0 tt) (te := cE X.kx X.mg W0 te) hc hN hy hyl hsw hi (by rw [eN, eS]; exact blkOk_by ok) hg ht he hs) fun D0 σ H ⟨F, g, G, A, q⟩ => by
  have q' : Po X.kx X.mg W F σ G (compM mi (own.map (·.2)) b tt te g) fun zs g' G' H' => PoS X.kx X.mg W F G' (.nx (g'.set i (.dat (.list zs)))) D0 := by
    unfold setS lstO bnd ret at q
    generalize compM mi (own.map (·.2)) b tt te g = r at q ⊢
    rcases r with (_ | ⟨c, g'⟩) | ⟨zs, g'⟩
    · exact q
    · exact fun C hC G' H' A s => q C hC σ G' H' A s
    · exact fun G' H' A s => PoS.base s q
  refine lc_of hj ⟨F, g, G, A, Po.imp q' fun zs g1 G1 H1 A1 s1 k1 D xs n hD r => ?_⟩
  have sg : Same G1 (upd G1 D (.lst xs)) := same_new n.ng
  exact k1 _ _ H1 ((A1.adopt n hD).put (.lst upd_same (r.up sg))) sg
end
/-! ### changes of what is owned -/
/-- x.append(e) -/
def chkL (i : Nat) : MM Unit := fun g => match g[i]? with
  | some (.own _ (.list _)) => .ok ((), g)
  | _ => .error .stuck
def appM (i : Nat) (m : MM PyData) : MM PyData := bnd (chkL i) fun _ => bnd m fun d g => match g[i]? with
  | some (.own t (.list ds)) => if ds.length < sizeLine then .ok (.none, g.set i (.own t (.list (ds ++ [d])))) else .error .stuck
  | _ => .error .stuck
theorem chkL_at {α : Type} {K : Frag} {mg : Mg} {W : WX} {F : Frm} {σ : L2.St} {g : Gm} {G H : Hp} {i : Nat} {f : Unit → MM α} {k : α → Gm → Hp → Hp → Prop} (A : At K F σ g G H) (q : Po K mg W F σ G (bnd (chkL i) f g) k) : ∃ xs p, σ[i]? = some (some (.ref p)) ∧ H p = some (.lst xs) ∧ Po K mg W F σ G (f () g) k := by
  unfold bnd chkL at q
  generalize eg : g[i]? = s at q
  rcases s with _ | (_ | d | ⟨t, d⟩)
  · exact q.elim
  · exact q.elim
  · exact q.elim
  · obtain ⟨p, h1, h2, h3, h4⟩ := A.own i _ d eg
    cases d with
    | list ds =>
      obtain ⟨xs, q1, q2⟩ := h3
      exact ⟨xs, p, h1, q1, q⟩
    | _ => exact q.elim
section
variable {X : Cx} {W : WX} {o e k : Expr} {m mk : MM PyData} {pos p p2 : Pos} {i : Nat}
theorem me_app (ho : PE X o (tVar i)) (he : ME X W e m) (h : ∀ {to te : TE}, PE X o to → PE X e te → PE X (.Call (.Attribute o "append" p) [e] [] pos) (tBM X.kx "list" rAppend to (tCons te tNil))) : ME X W (.Call (.Attribute o "append" p) [e] [] pos) (appM i m) := PE.wk (h ho he) fun σ H Q ⟨F, g, G, A, q⟩ => by
  obtain ⟨xs0, p0, ep, hx0, q1⟩ := chkL_at A q
  refine ⟨_, ep, Or.inl ⟨rfl, _, Or.inl (Or.inl hx0)⟩, F, g, G, A, Po.imp q1.bnd fun d g1 G1 H1 A1 s1 k1 x rx => ?_⟩
  · have k2 : Po X.kx X.mg W F σ G1 (match g1[i]? with
      | some (.own t (.list ds)) => if ds.length < sizeLine then (.ok (.none, g1.set i (.own t (.list (ds ++ [d])))) : Except Er (PyData × Gm)) else .error .stuck
      | _ => .error .stuck) (fun d _ G' H' => ∀ v, Rp X.kx G' v d → Q v H') := k1
    generalize eg : g1[i]? = s at k2
    rcases s with _ | (_ | d1 | ⟨t1, d1⟩)
    · exact k2.elim
    · exact k2.elim
    · exact k2.elim
    · obtain ⟨p1, ep1, gp1, ow1, _⟩ := A1.own i _ d1 eg
      rw [ep] at ep1
      cases ep1
      cases d1 with
      | list ds =>
        obtain ⟨xs, h1, h2⟩ := ow1
        simp only at k2
        by_cases hz : ds.length < sizeLine
        · rw [if_pos hz] at k2
          have B := A1.change (o := .lst (xs ++ [x])) (d' := .list (ds ++ [d])) eg ep ⟨_, upd_same, h2.app (.cons rx .nil)⟩
          exact ⟨p0, xs, x, rfl, rfl, h1, by rw [h2.len]; exact hz, k2 G1 _ B (Same.refl _) _ .non⟩
        · rw [if_neg hz] at k2
          exact k2.elim
      | _ => exact k2.elim
end
end Mi
namespace Mi
open PySem PySem.Spec PyProof.Rows L2
/-! ### stores into an owned list -/
/-- x[k] = e of an owned list -/
def stoS (i : Nat) (k m : MM PyData) : Gm → Out := fun g => onE (bnd m (fun d => bnd (chkL i) fun _ => bnd k fun j => ret (d, j)) g) fun dj g' => match g'[i]?, dj.2 with
  | some (.own t (.list ds)), .int j => (match ixN ds.length j with
    | some n => .nx (g'.set i (.own t (.list (ds.set n dj.1))))
    | none => .stuck)
  | _, _ => .stuck
/-- the content of an owned object -/
def pkO (i : Nat) : MM PyData := fun g => match g[i]? with
  | some (.own _ d) => .ok (d, g)
  | _ => .error .stuck
theorem pkO_read {α : Type} {K : Frag} {mg : Mg} {W : WX} {F : Frm} {σ : L2.St} {g : Gm} {G H : Hp} {i : Nat} {f : PyData → MM α} {k : α → Gm → Hp → Hp → Prop} (A : At K F σ g G H) (q : Po K mg W F σ G (bnd (pkO i) f g) k) :
    ∃ v d, σ[i]? = some (some v) ∧ Rq K G H v d ∧ Po K mg W F σ G (f d g) k := by
  unfold bnd pkO at q
  generalize eg : g[i]? = s at q
  rcases s with _ | (_ | d | ⟨t, d⟩)
  · exact q.elim
  · exact q.elim
  · exact q.elim
  · obtain ⟨p, h1, h2, h3, h4⟩ := A.own i _ d eg
    exact ⟨_, d, h1, .inr ⟨p, rfl, h3⟩, q⟩
/-- x[k] op= e of an owned list -/
def augI (f : PyData → PyData → Option PyData) (i : Nat) (k m : MM PyData) : Gm → Out := fun g => onE (bnd (chkL i) (fun _ => bnd k fun j => bnd (pkO i) fun d => match d, j with
    | .list ds, .int j => (match ixN ds.length j, atI ds j with
      | some _, some old => bnd m fun e => bnd (lft (f old e)) fun z => ret (j, z)
      | _, _ => lft none)
    | _, _ => lft none) g) fun jz g' => match g'[i]? with
  | some (.own t (.list ds)) => (match ixN ds.length jz.1 with
    | some n => .nx (g'.set i (.own t (.list (ds.set n jz.2))))
    | none => .stuck)
  | _ => .stuck
section
variable {X : Cx} {W : WX} {o e k : Expr} {m mk : MM PyData} {pos p p2 : Pos} {i : Nat}
theorem ms_sto (ho : PE X o (tVar i)) (hk : ME X W k mk) (he : ME X W e m) (ha : ∀ v, assign (.Subscript o k p) X.env v = (do
      let ov ← holding [v] (eval o X.env)
      let iv ← holding [v, ov] (eval k X.env)
      standAt p
      holding [v, ov, iv] (setItem ov iv v)
      release [v, ov, iv] []) := by intro _; rfl)
    (hs : swapsWithSole [.Subscript o k p] e pos.line X.env = pure false := by rfl) (hw : swappedStores [.Subscript o k p] e X.env = pure none := by rfl)
    (h1 : (assignEach [.Subscript o k p] X.env).map (·.2) = [assign (.Subscript o k p) X.env] := by rfl) : MS X W (.Assign [.Subscript o k p] e pos) (stoS i mk m) :=
  PS.wk (ps_asg he (pg_sub ho hk set_list ha) hs hw h1) fun D σ H ⟨F, g, G, A, q⟩ => by
  refine ⟨F, g, G, A, Po.imp (Po.bnd (PoS.onE q)) fun d g1 G1 H1 A1 s1 k1 x rx => ?_⟩
  obtain ⟨xs0, p0, ep, hx0, k2⟩ := chkL_at A1 k1
  refine ⟨_, ep, F, g1, G1, A1, Po.imp k2.bnd fun j g2 G2 H2 A2 s2 k3 y ry => ?_⟩
  have k4 := k3 G2 H2 A2 (Same.refl _)
  simp only at k4
  generalize eg : g2[i]? = s at k4
  rcases s with _ | (_ | d1 | ⟨t1, d1⟩)
  · exact k4.elim
  · exact k4.elim
  · exact k4.elim
  · obtain ⟨p1, ep1, gp1, ow1, _⟩ := A2.own i _ d1 eg
    rw [ep] at ep1
    cases ep1
    cases d1 with
    | list ds =>
      obtain ⟨xs, h1, h2⟩ := ow1
      cases j with
      | int j =>
        simp only at k4
        generalize ej : ixN ds.length j = oj at k4
        cases oj with
        | none => exact k4.elim
        | some n =>
          cases ry
          refine ⟨p0, xs, j, n, rfl, rfl, h1, by rw [h2.len]; exact ej, ?_⟩
          have B := A2.change (o := .lst (xs.set n x)) (d' := .list (ds.set n d)) eg ep ⟨_, upd_same, h2.set n (rx.up s2)⟩
          exact k4 σ G2 _ B (Same.refl _)
      | _ => exact k4.elim
    | _ => exact k4.elim
def rGetL (K : Frag) : V → V → Hp → VK → Prop := fun o i H Q => ∃ p xs k v, o = .ref p ∧ i = .int k ∧ SqL K H p xs ∧ atI xs k = some v ∧ Q v H
theorem get_list : PGet X (rGetL X.kx) := by
  intro pins s σ H x y v u Q I rx ry h
  obtain ⟨p, xs, i, z, rfl, rfl, hq, he, q⟩ := h
  cases rx
  obtain ⟨t, rfl⟩ := ry
  obtain ⟨its, r, pl, hz⟩ := I.list hq
  obtain ⟨j, h1, h2, h3, h4, h5⟩ := atI_get he
  obtain ⟨w, ew, rw'⟩ := r.get h2
  have hl := r.length
  have hn := line63
  have fin : EP X pins σ Q w s := ⟨z, H, I, rw', q⟩
  by_cases h0 : 0 ≤ i
  · have hj : i.toNat = j := by
      rw [seqIndex_of h0 h5] at h1
      exact Option.some.inj h1
    exact wpAny_getItem_list pl.isList h0 (by omega) (by rw [hj]; simpa using ew) fin
  · have hj : (i + (its.toArray.size : Int)).toNat = j := by
      rw [seqIndex_neg (by omega) h4] at h1
      rw [List.size_toArray, ← hl]
      exact Option.some.inj h1
    exact wpAny_getItem_list_neg pl.isList (by omega) (by rw [List.size_toArray] <;> omega) (by omega) (by rw [hj]; simpa using ew) fin
theorem RpAll.atI {K : Frag} {H : Hp} {xs : List V} {ds : List PyData} (r : RpAll K H xs ds) {j : Int} {d : PyData} (h : L2.atI ds j = some d) : ∃ v, L2.atI xs j = some v ∧ Rp K H v d := by
  have hl := r.len
  unfold L2.atI at h ⊢
  rw [hl]
  generalize (L2.ixN ds.length j) = o at h ⊢
  cases o with
  | none => cases h
  | some n => exact r.get h
theorem ms_augI {op : Operator} {r : TIp} {f : PyData → PyData → Option PyData} (hf : Op2 X.kx r f) (hr : PIp X op r) (ho : PE X o (tVar i)) (hk : ME X W k mk) (he : MQ X W e m)
    (ha : ∀ ov iv new, augStore k ov iv new = (do holding [new, ov, iv] (setItem ov iv new); release [new, ov, iv] []; pure .next) := by intros; rfl) : MS X W (.AugAssign (.Subscript o k p) op e pos) (augI f i mk m) :=
  PS.wk (ps_augS ho hk get_list he hr set_list ha) fun D σ H ⟨F, g, G, A, q⟩ => by
  obtain ⟨xs0, p0, ep, hx0, q1⟩ := chkL_at A (PoS.onE q)
  refine ⟨_, ep, F, g, G, A, Po.imp q1.bnd fun j g1 G1 H1 A1 s1 k1 y ry => ?_⟩
  obtain ⟨v1, d1, ev1, rv1, k2⟩ := pkO_read A1 k1
  rw [ep] at ev1
  cases ev1
  cases d1 with
  | list ds =>
    cases j with
    | int j =>
      cases ry
      simp only at k2
      generalize ej : ixN ds.length j = oj at k2
      generalize ea : atI ds j = oa at k2
      cases oj with
      | none => exact k2.elim
      | some n =>
        cases oa with
        | none => exact k2.elim
        | some old =>
          obtain ⟨p1, xs, e1, hx, rx⟩ := rv1.lst A1.ex
          cases e1
          obtain ⟨v, hv, rv⟩ := rx.atI ea
          refine ⟨p0, xs, j, v, rfl, rfl, .inl (.inl hx), hv, F, g1, G1, A1, Po.imp (Po.bnd k2) fun d2 g2 G2 H2 A2 s2 k3 w rw' => ?_⟩
          obtain ⟨z, ez, k4⟩ := (k3.bnd).lft
          refine hf v w old d2 z G2 H2 _ ez (.inl (rv.up s2)) rw' A2.ex fun zv G3 H3 gr rz => ?_
          have A3 := A2.grow gr
          have k5 := k4 G3 H3 A3 gr.g G3 H3 A3 (Same.refl _)
          simp only at k5
          generalize eg : g2[i]? = s at k5
          rcases s with _ | (_ | d5 | ⟨t5, d5⟩)
          · exact k5.elim
          · exact k5.elim
          · exact k5.elim
          · obtain ⟨p5, ep5, gp5, ow5, _⟩ := A3.own i _ d5 eg
            rw [ep] at ep5
            cases ep5
            cases d5 with
            | list ds5 =>
              obtain ⟨xs5, h5, r5⟩ := ow5
              simp only at k5
              generalize en : ixN ds5.length j = on at k5
              cases on with
              | some n5 =>
                refine ⟨p0, xs5, j, n5, rfl, rfl, h5, by rw [r5.len]; exact en, ?_⟩
                have B := A3.change (o := .lst (xs5.set n5 zv)) (d' := .list (ds5.set n5 z)) eg ep ⟨_, upd_same, r5.set n5 rz⟩
                exact k5 σ G3 _ B (Same.refl _)
              | none => exact k5.elim
            | _ => exact k5.elim
    | _ => exact k2.elim
  | _ => exact k2.elim
end
/-! ### defs -/
/-- a def of n parameters and N names whose body is this, called with plain data -/
def runP (N n : Nat) (body : Gm → Out) (ds : List PyData) : Except Er PyData := if ds.length = n then (match body (ds.map .dat ++ List.replicate (N - n) .dead) with
  | .rt d _ => .ok d
  | .nx _ => .ok .none
  | .ex c g => .error (.exc c g)
  | _ => .error .stuck) else .error .stuck
/-- .. whose first argument is an owned object -/
def runS (N n : Nat) (body : Gm → Out) (s : PyData) (ds : List PyData) : Except Er (PyData × PyData) := if ds.length + 1 = n then (match body (.own true s :: (ds.map .dat ++ List.replicate (N - n) .dead)) with
  | .rt d g => (match g[0]? with | some (Sl.own true s') => .ok (d, s') | _ => .error .stuck)
  | .nx g => (match g[0]? with | some (Sl.own true s') => .ok (.none, s') | _ => .error .stuck)
  | .ex c g => .error (.exc c g)
  | _ => .error .stuck) else .error .stuck
section
variable {P : Program} {w : World} {K : Frag} {mg : Mg} {base : Heap}
theorem rpAll_at {G : Hp} : ∀ {vs : List V} {ds : List PyData}, RpAll K G vs ds → ∀ (i : Nat) (d : PyData), (ds.map Sl.dat)[i]? = some (.dat d) → ∃ v, (vs.map some)[i]? = some (some v) ∧ Rp K G v d
  | _, _, .nil, i, d, h => by simp at h
  | _, _, .cons a _, 0, d, h => by
    simp at h
    subst h
    exact ⟨_, rfl, a⟩
  | _, _, .cons _ t, i + 1, d, h => by
    obtain ⟨v, h1, h2⟩ := rpAll_at t i d (by simpa using h)
    exact ⟨v, by simpa using h1, h2⟩
theorem not_own {ds : List PyData} {m i : Nat} {t : Bool} {d : PyData} (h : (ds.map Sl.dat ++ List.replicate m .dead)[i]? = some (.own t d)) : False := by
  by_cases hi : i < ds.length
  · rw [List.getElem?_append_left (by simpa using hi)] at h
    rw [List.getElem?_map] at h
    cases e : ds[i]? with
    | none => rw [e] at h; cases h
    | some x => rw [e] at h; cases h
  · rw [List.getElem?_append_right (by simpa using hi)] at h
    have := List.mem_of_getElem? h
    rw [List.mem_replicate] at this
    cases this.2
theorem at_start {G H : Hp} {N : List Str} {vs : List V} {ds : List PyData} (e : Same G H) (r : RpAll K G vs ds) (n : Nat) (hn : ds.length = n) (hN : n ≤ N.length) : At K ⟨fun _ => False, G, H, 0⟩ (L2.start N vs) (ds.map .dat ++ List.replicate (N.length - n) .dead) G H := by
  have hl := r.len
  refine ⟨e, Same.refl _, fun _ _ h _ => h, fun _ _ _ _ => rfl, fun _ h => h, ?_, fun i d h => ?_, fun i t d h => (not_own h).elim, fun i j t u d e' p h => (not_own h).elim⟩
  · simp [L2.start]; omega
  · by_cases hi : i < ds.length
    · rw [List.getElem?_append_left (by simpa using hi)] at h
      obtain ⟨v, h1, h2⟩ := rpAll_at r i d h
      refine ⟨v, ?_, h2⟩
      unfold L2.start
      rw [List.getElem?_append_left (by simp; omega)]
      exact h1
    · rw [List.getElem?_append_right (by simpa using hi)] at h
      have := List.mem_of_getElem? h
      rw [List.mem_replicate] at this
      cases this.2
theorem At.gr {G H G' H' : Hp} {σ : L2.St} {g : Gm} (A : At K ⟨fun _ => False, G, H, 0⟩ σ g G' H') : Gr G H G' H' := ⟨A.g0, fun a o h => A.h0 a o h id, A.ex, fun a o h => A.f0 a o h id⟩
theorem fnP {x qual : Str} {st : Stmt} {f : Addr} {fd : FuncData} {N ps : List Str} {k : Nat} {body : Gm → Out} (F : Fun K x qual st f fd) (S : FnScope N ps (defScope st)) (hp : ps.length ≤ N.length)
    (hb : ∀ (cdv : Value) (A : Around) (outer : List Env) (s : Shared) (H : Hp) (E : XK), Room k (A.deeper (envOfC qual (defScope st) s.heap.objs.size f cdv)) →
      MB (cxOf (L2.CX P K.w) P K.w K mg base N qual (defScope st) f cdv A outer s H E) (fun cls d _ H => E cls d H) (defBody st) body) :
    FnOk P K.w K mg base (L2.CX P K.w) (k + 1) f fd ps (SpP K mg (runP N.length ps.length body)) := by
  refine F.okX S (fun vs H Q E h => ?_) (fun cdv A outer s H vs Q E hr h => ?_)
  · obtain ⟨G, ds, e, r, h⟩ := h
    rw [r.len]
    by_cases hl : ds.length = ps.length
    · exact hl
    · unfold runP at h
      rw [if_neg hl] at h
      exact h.elim
  · obtain ⟨G, ds, e, r, h⟩ := h
    refine ⟨_, hb cdv A outer s H E hr, ⟨fun _ => False, G, H, 0⟩, ds.map .dat ++ List.replicate (N.length - ps.length) .dead, G, ?_, ?_⟩
    · by_cases hl : ds.length = ps.length
      · exact at_start e r _ hl hp
      · unfold runP at h
        rw [if_neg hl] at h
        exact h.elim
    · by_cases hl : ds.length = ps.length
      · unfold runP at h
        rw [if_pos hl] at h
        generalize body (ds.map .dat ++ List.replicate (N.length - ps.length) .dead) = o at h
        cases o with
        | nx g => exact fun σ' G' H' A' s' => h .non G' H' A'.gr .non
        | rt d g => exact fun v σ' G' H' A' s' rv => h v G' H' A'.gr rv
        | ex c g => exact fun C hC σ' G' H' A' s' => h C hC G' H' A'.gr
        | bk g => exact h.elim
        | ct g => exact h.elim
        | stuck => exact h.elim
      · unfold runP at h
        rw [if_neg hl] at h
        exact h.elim
theorem at_startS {G H : Hp} {N : List Str} {vs : List V} {ds : List PyData} {p : Addr} {s : PyData} (e : Same G H) (r : RpAll K G vs ds) (n : Nat) (hn : ds.length + 1 = n) (hN : n ≤ N.length) (gp : G p = none) (ow : Own K G H p s) :
    At K ⟨fun a => a = p, G, H, p⟩ (L2.start N (.ref p :: vs)) (.own true s :: (ds.map .dat ++ List.replicate (N.length - n) .dead)) G H := by
  have hl := r.len
  refine ⟨e, Same.refl _, fun _ _ h _ => h, fun _ _ _ _ => rfl, fun _ h => h, ?_, fun i d h => ?_, fun i t d h => ?_, fun i j t u d e' q h1 h2 h3 h4 => ?_⟩
  · simp [L2.start]; omega
  · cases i with
    | zero => cases h
    | succ i =>
      have h : (ds.map Sl.dat ++ List.replicate (N.length - n) .dead)[i]? = some (.dat d) := by simpa using h
      by_cases hi : i < ds.length
      · rw [List.getElem?_append_left (by simpa using hi)] at h
        obtain ⟨v, h1, h2⟩ := rpAll_at r i d h
        refine ⟨v, ?_, h2⟩
        show (some (V.ref p) :: vs.map some ++ _)[i + 1]? = _
        rw [List.getElem?_append_left (by simp; omega)]
        simpa using h1
      · rw [List.getElem?_append_right (by simpa using hi)] at h
        have := List.mem_of_getElem? h
        rw [List.mem_replicate] at this
        cases this.2
  · cases i with
    | zero =>
      cases h
      exact ⟨p, rfl, gp, ow, .inl rfl, fun _ => rfl⟩
    | succ i => exact (not_own (ds := ds) (m := N.length - n) (i := i) (t := t) (d := d) (by simpa using h)).elim
  · cases i with
    | zero =>
      cases j with
      | zero => rfl
      | succ j => exact (not_own (ds := ds) (m := N.length - n) (i := j) (t := u) (d := e') (by simpa using h2)).elim
    | succ i => exact (not_own (ds := ds) (m := N.length - n) (i := i) (t := t) (d := d) (by simpa using h1)).elim
theorem At.grS {G H G' H' : Hp} {σ : L2.St} {g : Gm} {p : Addr} (A : At K ⟨fun a => a = p, G, H, p⟩ σ g G' H') : GrS p G H G' H' := ⟨A.g0, fun a o ne h => A.h0 a o h ne, A.ex, fun a o ne h => A.f0 a o h ne, A.n0⟩
theorem fnS {x qual : Str} {st : Stmt} {f : Addr} {fd : FuncData} {N ps : List Str} {k : Nat} {body : Gm → Out} (F : Fun K x qual st f fd) (S : FnScope N ps (defScope st)) (hp : ps.length ≤ N.length)
    (hb : ∀ (cdv : Value) (A : Around) (outer : List Env) (s : Shared) (H : Hp) (E : XK), Room k (A.deeper (envOfC qual (defScope st) s.heap.objs.size f cdv)) →
      MB (cxOf (L2.CX P K.w) P K.w K mg base N qual (defScope st) f cdv A outer s H E) (fun cls d _ H => E cls d H) (defBody st) body) :
    FnOk P K.w K mg base (L2.CX P K.w) (k + 1) f fd ps (SpS K mg (runS N.length ps.length body)) := by
  refine F.okX S (fun vs H Q E h => ?_) (fun cdv A outer s H vs Q E hr h => ?_)
  · obtain ⟨G, p, us, s, ds, rfl, e, gp, ow, r, h⟩ := h
    rw [List.length_cons, r.len]
    by_cases hl : ds.length + 1 = ps.length
    · exact hl
    · unfold runS at h
      rw [if_neg hl] at h
      exact h.elim
  · obtain ⟨G, p, us, s0, ds, rfl, e, gp, ow, r, h⟩ := h
    by_cases hl : ds.length + 1 = ps.length
    · refine ⟨_, hb cdv A outer s H E hr, ⟨fun a => a = p, G, H, p⟩, _, G, at_startS e r _ hl hp gp ow, ?_⟩
      unfold runS at h
      rw [if_pos hl] at h
      generalize body (.own true s0 :: (ds.map .dat ++ List.replicate (N.length - ps.length) .dead)) = o at h
      cases o with
      | nx g =>
        simp only at h
        generalize eg : g[0]? = s at h
        rcases s with _ | (_ | d1 | ⟨_ | _, d1⟩)
        · exact h.elim
        · exact h.elim
        · exact h.elim
        · exact h.elim
        · refine fun σ' G' H' A' s' => ?_
          obtain ⟨p1, q1, q2, q3, q4, q5⟩ := A'.own 0 _ d1 eg
          cases q5 rfl
          exact h .non G' H' A'.grS q2 q3 .non
      | rt d g =>
        simp only at h
        generalize eg : g[0]? = s at h
        rcases s with _ | (_ | d1 | ⟨_ | _, d1⟩)
        · exact h.elim
        · exact h.elim
        · exact h.elim
        · exact h.elim
        · refine fun v σ' G' H' A' s' rv => ?_
          obtain ⟨p1, q1, q2, q3, q4, q5⟩ := A'.own 0 _ d1 eg
          cases q5 rfl
          exact h v G' H' A'.grS q2 q3 rv
      | ex c g => exact fun C hC σ' G' H' A' s' => h C hC G' H' A'.grS
      | bk g => exact h.elim
      | ct g => exact h.elim
      | stuck => exact h.elim
    · unfold runS at h
      rw [if_neg hl] at h
      exact h.elim
end
end Mi
namespace Mi
open PySem PySem.Spec PyProof.Rows L2
/-! ### operations on data -/
def sz (n : Nat) (d : PyData) : Option PyData := if n ≤ sizeLine then some d else none
def addD : PyData → PyData → Option PyData
  | .int i, .int j => some (.int (i + j))
  | .str a, .str b => sz (a.length + b.length) (.str (a ++ b))
  | .tuple xs, .tuple ys => sz (xs.length + ys.length) (.tuple (xs ++ ys))
  | .list xs, .list ys => sz (xs.length + ys.length) (.list (xs ++ ys))
  | _, _ => none
def rAddA (K : Frag) : R2 := fun x y H Q => (∃ i j, x = .int i ∧ y = .int j ∧ Q (.int (i + j)) H) ∨ (∃ i j, x = .str i ∧ y = .str j ∧ i.length + j.length ≤ sizeLine ∧ Q (.str (i ++ j)) H) ∨ rCatX K x y H Q ∨ rCat x y H Q
theorem hr_add {X : Cx} : OpR X (binaryOp .Add) (rAddA X.kx) := OpR.or op_add (OpR.or op_add_str (OpR.or op_catX op_cat))
theorem sz_eq {n : Nat} {d z : PyData} (h : sz n d = some z) : n ≤ sizeLine ∧ d = z := by
  unfold sz at h
  split at h
  · exact ⟨by assumption, Option.some.inj h⟩
  · cases h
theorem ho_add {K : Frag} : Op2 K (rAddA K) addD := by
  intro x y d e z G H Q h rx ry s k
  cases d with
  | int i =>
    cases e with
    | int j =>
      cases h
      rw [rx.int, ry.int]
      exact .inl ⟨i, j, rfl, rfl, k _ G H (Gr.refl s) (.int _)⟩
    | _ => cases h
  | str a =>
    cases e with
    | str b =>
      obtain ⟨hz, rfl⟩ := sz_eq h
      rw [rx.str, ry.str]
      exact .inr (.inl ⟨a, b, rfl, rfl, hz, k _ G H (Gr.refl s) (.str _)⟩)
    | _ => cases h
  | tuple xs =>
    cases e with
    | tuple ys =>
      obtain ⟨hz, rfl⟩ := sz_eq h
      obtain ⟨p, us, rfl, h1, h2⟩ := rx.tup s
      obtain ⟨q, ws, rfl, h3, h4⟩ := ry.tup s
      refine .inr (.inr (.inl ⟨p, q, us, ws, rfl, rfl, h1, h3, by rw [h2.len, h4.len]; exact hz, fun e => ?_, fun e1 e2 => ?_, fun _ _ => .of s (h2.app h4) k⟩))
      · subst e
        cases h2
        rcases ry with ry | ⟨_, _, o⟩
        · exact k _ G H (Gr.refl s) ry
        · exact o.elim
      · subst e2
        cases h4
        rw [List.append_nil] at k
        rcases rx with rx | ⟨_, _, o⟩
        · exact k _ G H (Gr.refl s) rx
        · exact o.elim
    | _ => cases h
  | list xs =>
    cases e with
    | list ys =>
      obtain ⟨hz, rfl⟩ := sz_eq h
      obtain ⟨p, us, rfl, h1, h2⟩ := rx.lst s
      obtain ⟨q, ws, rfl, h3, h4⟩ := ry.lst s
      refine .inr (.inr (.inr ⟨p, q, us, ws, rfl, rfl, h1, h3, by rw [h2.len, h4.len]; exact hz, fun r hr => ?_⟩))
      have gr := Gr.new (o := .lst (us ++ ws)) s hr
      exact k _ _ _ gr (.lst upd_same ((h2.app h4).up gr.g))
    | _ => cases h
  | _ => cases e <;> cases h
/-- ints only -/
def intD (C : Int → Int → Bool) (f : Int → Int → Int) : PyData → PyData → Option PyData
  | .int i, .int j => if C i j = true then some (.int (f i j)) else none
  | _, _ => none
theorem ho_int {K : Frag} {C : Int → Int → Bool} {C' : Int → Int → Prop} {f : Int → Int → Int} (hc : ∀ i j, C i j = true → C' i j) : Op2 K (rI C' fun i j => .int (f i j)) (intD C f) := by
  intro x y d e z G H Q h rx ry s k
  cases d with
  | int i =>
    cases e with
    | int j =>
      have h' : (if C i j = true then some (PyData.int (f i j)) else none) = some z := h
      by_cases hij : C i j = true
      · rw [if_pos hij] at h'
        cases h'
        rw [rx.int, ry.int]
        exact ⟨i, j, rfl, rfl, hc i j hij, k _ G H (Gr.refl s) (.int _)⟩
      · rw [if_neg hij] at h'
        cases h'
    | _ => cases h
  | _ => cases e <;> cases h
def subD := intD (fun _ _ => true) fun i j => i - j
theorem hr_sub {X : Cx} : OpR X (binaryOp .Sub) (rI (fun _ _ => True) fun i j => .int (i - j)) := by
  intro pins s σ H x y v u Q I rx ry ⟨i, j, e1, e2, _, q⟩
  exact op_sub pins s σ H x y v u Q I rx ry ⟨i, j, e1, e2, q⟩
theorem ho_sub {K : Frag} : Op2 K (rI (fun _ _ => True) fun i j => .int (i - j)) subD := ho_int fun _ _ _ => trivial
def mulC (i j : Int) : Bool := decide (-(2 ^ 64) < i ∧ i < 2 ^ 64) || decide (-(2 ^ 64) < j ∧ j < 2 ^ 64)
def mulD := intD mulC fun i j => i * j
theorem ho_mul {K : Frag} : Op2 K (rI CMul fun i j => .int (i * j)) mulD := ho_int fun i j h => by
  simp only [mulC, Bool.or_eq_true, decide_eq_true_eq] at h
  exact h
def fdivD := intD (fun _ j => decide (j ≠ 0 ∧ j.natAbs < 1073741824)) fun i j => i.fdiv j
theorem ho_fdiv {K : Frag} : Op2 K (rI CDivN fun i j => .int (i.fdiv j)) fdivD := ho_int fun i j h => (of_decide_eq_true h : j ≠ 0 ∧ j.natAbs < 1073741824)
def modD := intD (fun _ j => decide (j ≠ 0)) fun i j => i.fmod j
theorem ho_mod {K : Frag} : Op2 K (rI (fun _ j => j ≠ 0) fun i j => .int (i.fmod j)) modD := ho_int fun i j h => of_decide_eq_true h
def powD := intD (fun i j => decide (0 ≤ j ∧ j ≤ 1000000 ∧ i.natAbs < 2 ^ 64)) fun i j => i ^ j.toNat
theorem ho_pow {K : Frag} : Op2 K (rI CPow fun i j => .int (i ^ j.toNat)) powD := ho_int fun i j h => (of_decide_eq_true h : 0 ≤ j ∧ j ≤ 1000000 ∧ i.natAbs < 2 ^ 64)
theorem ho_cmp {K : Frag} {f : Int → Int → Bool} : Op2 K (rI0 fun i j => .bl (f i j)) (fun d e => match d, e with | .int i, .int j => some (.bool (f i j)) | _, _ => none) := by
  intro x y d e z G H Q h rx ry s k
  cases d with
  | int i =>
    cases e with
    | int j =>
      cases h
      rw [rx.int, ry.int]
      exact ⟨i, j, rfl, rfl, k _ G H (Gr.refl s) (.bl _)⟩
    | _ => cases h
  | _ => cases e <;> cases h
def ltD : PyData → PyData → Option PyData := fun d e => match d, e with | .int i, .int j => some (.bool (decide (i < j))) | _, _ => none
def leD : PyData → PyData → Option PyData := fun d e => match d, e with | .int i, .int j => some (.bool (decide (i ≤ j))) | _, _ => none
def gtD : PyData → PyData → Option PyData := fun d e => match d, e with | .int i, .int j => some (.bool (decide (j < i))) | _, _ => none
def geD : PyData → PyData → Option PyData := fun d e => match d, e with | .int i, .int j => some (.bool (decide (j ≤ i))) | _, _ => none
theorem ho_lt {K : Frag} : Op2 K (rI0 fun i j => .bl (decide (i < j))) ltD := ho_cmp
theorem ho_gt {K : Frag} : Op2 K (rI0 fun i j => .bl (decide (j < i))) gtD := ho_cmp
theorem ho_ge {K : Frag} : Op2 K (rI0 fun i j => .bl (decide (j ≤ i))) geD := ho_cmp
/-! == and in of data -/
section
variable {X : Cx} {pins : List (Addr × Obj)} {σ : L2.St} {H : Hp} {s : Shared}
mutual
theorem Rp.rd (I : Inv X pins σ H s) : ∀ (d : PyData) (v : V) (u : Value), Rp X.kx H v d → RelV v u → DcEq.Rd s.heap u d
  | .none, _, _, h, r => by
    cases h
    cases r
    exact .none
  | .bool b, _, _, h, r => by
    cases h
    cases r
    exact .bool b
  | .int i, _, _, h, r => by
    cases h
    obtain ⟨t, rfl⟩ := r
    exact .int i t
  | .str x, _, _, h, r => by
    cases h
    obtain ⟨t, rfl⟩ := r
    exact .str x t
  | .list ds, _, _, h, r => by
    cases h with
    | lst hs ha =>
      cases r
      obtain ⟨its, rv, p, _⟩ := I.list (.inl (.inl hs))
      obtain ⟨hl, hr⟩ := RpAll.rds I ds _ its ha rv
      exact .list p.isList (by simpa using hl) fun j h1 h2 => by simpa using hr j (by simpa using h1) h2
  | .tuple ds, _, _, h, r => by
    cases h with
    | tup hs ha =>
      cases r
      obtain ⟨its, rv, p, _⟩ := I.tuple hs.sq
      obtain ⟨hl, hr⟩ := RpAll.rds I ds _ its ha rv
      exact .tuple p (by simpa using hl) fun j h1 h2 => by simpa using hr j (by simpa using h1) h2
  | .dict kvs, _, _, h, r => by
    cases h with
    | @dict a es ep _ hs _ ha =>
      cases r
      obtain ⟨⟨_, _, ho⟩, _⟩ := (show ObjOk X.prog X.w H s.heap a (dO a es ep) from I.hok a _ hs)
      exact .dict ho
theorem RpAll.rds (I : Inv X pins σ H s) : ∀ (ds : List PyData) (vs : List V) (us : List Value), RpAll X.kx H vs ds → Vals vs us → us.length = ds.length ∧ ∀ j (h1 : j < us.length) (h2 : j < ds.length), DcEq.Rd s.heap us[j] ds[j]
  | [], _, _, h, r => by
    cases h
    cases r
    exact ⟨rfl, fun j h1 => absurd h1 (Nat.not_lt_zero _)⟩
  | d :: ds, _, _, h, r => by
    cases h with
    | cons h1 h2 =>
      cases r with
      | cons r1 r2 =>
        have q1 := Rp.rd I d _ _ h1 r1
        obtain ⟨hl, hr⟩ := RpAll.rds I ds _ _ h2 r2
        refine ⟨by simpa using hl, fun j j1 j2 => ?_⟩
        cases j with
        | zero => exact q1
        | succ j => exact hr j (by simpa using j1) (by simpa using j2)
end
end
/-- == of data: no dict within one of them, one of them not deep -/
def lowD (d e : PyData) : Bool := (DcEq.ndB d || DcEq.ndB e) && decide (min d.depth e.depth ≤ 64)
def lowI (d e : PyData) : Bool := DcEq.ndB e && decide (min d.depth e.depth ≤ 64)
def notDc : PyData → Bool
  | .dict _ => false
  | _ => true
theorem notDc_ok {d : PyData} (h : notDc d = true) : ∀ kvs, d ≠ .dict kvs := fun kvs e => by rw [e] at h; cases h
def eqD (d e : PyData) : Option PyData := if lowD d e = true then some (.bool (PyData.eqv d e)) else none
def neD (d e : PyData) : Option PyData := if (lowD d e && (notDc d && notDc e)) = true then some (.bool (!PyData.eqv d e)) else none
def rEqL (K : Frag) : R2 := fun x y H Q => ∃ d e, Rp K H x d ∧ Rp K H y e ∧ lowD d e = true ∧ Q (.bl (PyData.eqv d e)) H
def rNeL (K : Frag) : R2 := fun x y H Q => ∃ d e, Rp K H x d ∧ Rp K H y e ∧ (lowD d e && (notDc d && notDc e)) = true ∧ Q (.bl (!PyData.eqv d e)) H
theorem eqv_str {a b : Str} : PyData.eqv (.str a) (.str b) = (a == b) := by simp [PyData.eqv]
theorem lowD_ok {d e : PyData} (h : lowD d e = true) : DcEq.oneNd d e ∧ min d.depth e.depth ≤ 64 := by
  simp only [lowD, Bool.and_eq_true, Bool.or_eq_true, decide_eq_true_eq] at h
  exact h
theorem hr_eq {X : Cx} (hu : X.A.units + 64 < cLine) : OpR X (compareOp .Eq) (rEqL X.kx) := by
  intro pins s σ H x y v u Q I rx ry h
  obtain ⟨d, e, hd, he, hl, q⟩ := h
  obtain ⟨l1, l2⟩ := lowD_ok hl
  exact DcEq.rcAt_rd (Rp.rd I d x v hd rx) (Rp.rd I e y u he ry) l1 (by omega) _ _ _ _ ⟨.bl _, H, I, rfl, q⟩
theorem hr_ne {X : Cx} (hu : X.A.units + 64 < cLine) : OpR X (compareOp .NotEq) (rNeL X.kx) := by
  intro pins s σ H x y v u Q I rx ry h
  obtain ⟨d, e, hd, he, hl, q⟩ := h
  simp only [Bool.and_eq_true] at hl
  obtain ⟨l1, l2⟩ := lowD_ok hl.1
  exact DcEq.rcNe_rd (Rp.rd I d x v hd rx) (Rp.rd I e y u he ry) l1 (notDc_ok hl.2.1) (notDc_ok hl.2.2) (by omega) _ _ _ _ ⟨.bl _, H, I, rfl, q⟩
theorem ho_eq {K : Frag} : Op2 K (rEqL K) eqD := by
  intro x y d e z G H Q h rx ry s k
  have h' : (if lowD d e = true then some (PyData.bool (PyData.eqv d e)) else none) = some z := h
  split at h'
  · cases h'
    exact ⟨d, e, rx.rp s, ry.rp s, by assumption, k _ G H (Gr.refl s) (.bl _)⟩
  · cases h'
theorem ho_ne {K : Frag} : Op2 K (rNeL K) neD := by
  intro x y d e z G H Q h rx ry s k
  have h' : (if (lowD d e && (notDc d && notDc e)) = true then some (PyData.bool (!PyData.eqv d e)) else none) = some z := h
  split at h'
  · cases h'
    exact ⟨d, e, rx.rp s, ry.rp s, by assumption, k _ G H (Gr.refl s) (.bl _)⟩
  · cases h'
/-- in, not in: lists and tuples of data -/
def inD (g : Bool → Bool) (d e : PyData) : Option PyData := match e with
  | .list ds => if lowI d e = true then some (.bool (g (ds.any fun z => PyData.eqv z d))) else none
  | .tuple ds => if lowI d e = true then some (.bool (g (ds.any fun z => PyData.eqv z d))) else none
  | .dict ds => if kFit ds d = true then some (.bool (g (hasD ds d))) else none
  | _ => none
def rInD (K : Frag) (g : Bool → Bool) : R2 := fun x y H Q => ∃ d ds, Rp K H x d ∧ Rp K H y (.dict ds) ∧ kFit ds d = true ∧ Q (.bl (g (hasD ds d))) H
def rInA (K : Frag) (g : Bool → Bool) : R2 := fun x y H Q => ∃ d e, Rp K H x d ∧ Rp K H y e ∧ lowI d e = true ∧ ((∃ ds, e = .list ds ∧ Q (.bl (g (ds.any fun z => PyData.eqv z d))) H) ∨ ∃ ds, e = .tuple ds ∧ Q (.bl (g (ds.any fun z => PyData.eqv z d))) H)
theorem room_in {X : Cx} {d : PyData} {ds : List PyData} (hu : X.A.units + 65 < cLine) (h : min d.depth (PyData.depthAll ds + 1) ≤ 64) : X.A.units + 1 + min (PyData.depthAll ds) d.depth < cLine := by omega
theorem lowI_ok {d e : PyData} (h : lowI d e = true) : DcEq.ndB e = true ∧ min d.depth e.depth ≤ 64 := by
  simp only [lowI, Bool.and_eq_true, decide_eq_true_eq] at h
  exact h
theorem hr_in0 {X : Cx} (hu : X.A.units + 65 < cLine) : OpR X (compareOp .In) (rInA X.kx id) := by
  intro pins s σ H x y v u Q I rx ry h
  obtain ⟨d, e, hd, he, hl, q⟩ := h
  obtain ⟨l1, l2⟩ := lowI_ok hl
  have r1 := Rp.rd I d x v hd rx
  have r2 := Rp.rd I e y u he ry
  rcases q with ⟨ds, rfl, q⟩ | ⟨ds, rfl, q⟩
  · exact DcEq.inL_rd r2 r1 l1 (room_in hu (by simpa [PyData.depth] using l2)) ⟨.bl _, H, I, rfl, q⟩
  · exact DcEq.inT_rd r2 r1 l1 (room_in hu (by simpa [PyData.depth] using l2)) ⟨.bl _, H, I, rfl, q⟩
theorem hr_ni0 {X : Cx} (hu : X.A.units + 65 < cLine) : OpR X (compareOp .NotIn) (rInA X.kx not) := by
  intro pins s σ H x y v u Q I rx ry h
  obtain ⟨d, e, hd, he, hl, q⟩ := h
  obtain ⟨l1, l2⟩ := lowI_ok hl
  have r1 := Rp.rd I d x v hd rx
  have r2 := Rp.rd I e y u he ry
  rcases q with ⟨ds, rfl, q⟩ | ⟨ds, rfl, q⟩
  · exact DcEq.niL_rd r2 r1 l1 (room_in hu (by simpa [PyData.depth] using l2)) ⟨.bl _, H, I, rfl, q⟩
  · exact DcEq.niT_rd r2 r1 l1 (room_in hu (by simpa [PyData.depth] using l2)) ⟨.bl _, H, I, rfl, q⟩
def rInB (K : Frag) (g : Bool → Bool) : R2 := fun x y H Q => rInA K g x y H Q ∨ rInD K g x y H Q
theorem ho_in {K : Frag} {g : Bool → Bool} : Op2 K (rInB K g) (inD g) := by
  intro x y d e z G H Q h rx ry s k
  cases e with
  | list ds =>
    have h' : (if lowI d (.list ds) = true then some (PyData.bool (g (ds.any fun z => PyData.eqv z d))) else none) = some z := h
    split at h'
    · rename_i hl
      cases h'
      exact .inl ⟨d, _, rx.rp s, ry.rp s, hl, .inl ⟨ds, rfl, k _ G H (Gr.refl s) (.bl _)⟩⟩
    · cases h'
  | tuple ds =>
    have h' : (if lowI d (.tuple ds) = true then some (PyData.bool (g (ds.any fun z => PyData.eqv z d))) else none) = some z := h
    split at h'
    · rename_i hl
      cases h'
      exact .inl ⟨d, _, rx.rp s, ry.rp s, hl, .inr ⟨ds, rfl, k _ G H (Gr.refl s) (.bl _)⟩⟩
    · cases h'
  | dict ds =>
    have h' : (if kFit ds d = true then some (PyData.bool (g (hasD ds d))) else none) = some z := h
    split at h'
    · rename_i hl
      cases h'
      exact .inr ⟨d, ds, rx.rp s, ry.rp s, hl, k _ G H (Gr.refl s) (.bl _)⟩
    · cases h'
  | _ => cases h
/-- x is None, x is not None; b is c, b is not c of bools -/
def isD (g : Bool → Bool) : PyData → PyData → Option PyData
  | d, .none => some (.bool (g (match d with | .none => true | _ => false)))
  | .bool a, .bool b => some (.bool (g (decide (a = b))))
  | _, _ => none
def rIsA (g : Bool → Bool) : R2 := fun x y H Q => (y = .non ∧ Q (.bl (g (decide (x = .non)))) H) ∨ ∃ a b : Bool, x = .bl a ∧ y = .bl b ∧ Q (.bl (g (decide (a = b)))) H
theorem hr_is {X : Cx} : OpR X (compareOp .Is) (rIsA id) := OpR.or op_isN op_isBl
theorem hr_isnot {X : Cx} : OpR X (compareOp .IsNot) (rIsA not) := OpR.or op_notN op_notBl
theorem ho_is {K : Frag} {g : Bool → Bool} : Op2 K (rIsA g) (isD g) := by
  intro x y d e z G H Q h rx ry s k
  cases e with
  | none =>
    rw [ry.none]
    refine .inl ⟨rfl, ?_⟩
    have e1 : decide (x = .non) = (match d with | .none => true | _ => false) := by
      rcases rx with rx | ⟨p, rfl, o⟩
      · cases rx <;> first | rfl | simp
      · cases d <;> first | exact o.elim | simp
    rw [e1]
    cases d <;> (cases h; exact k _ G H (Gr.refl s) (.bl _))
  | bool b =>
    cases d with
    | bool a =>
      cases h
      rw [rx.bool, ry.bool]
      exact .inr ⟨a, b, rfl, rfl, k _ G H (Gr.refl s) (.bl _)⟩
    | _ => cases h
  | _ => cases d <;> cases h
/-- -x -/
def negD : PyData → Option PyData
  | .int i => some (.int (-i))
  | _ => none
theorem ho_neg {K : Frag} : Op1 K (rU fun i => .int (-i)) negD := by
  intro x d z G H Q h rx s k
  cases d with
  | int i =>
    cases h
    rw [rx.int]
    exact ⟨i, rfl, k _ G H (Gr.refl s) (.int _)⟩
  | _ => cases h
/-- a[i] of lists, tuples, texts -/
def ixD : PyData → PyData → Option PyData
  | .list ds, .int i => atI ds i
  | .tuple ds, .int i => atI ds i
  | .str z, .int i => if z.length ≤ sizeLine then (atI z.cps.toList i).map (fun c => .str ⟨#[c]⟩) else none
  | .dict ds, k => if kFit ds k = true then lkD ds k else none
  | _, _ => none
def rIxD (K : Frag) : R2 := fun x y H Q => ∃ G ds e z, Same G H ∧ Rq K G H x (.dict ds) ∧ Rq K G H y e ∧ kFit ds e = true ∧ lkD ds e = some z ∧ ∀ v, Rp K G v z → Q v H
def rIxA (K : Frag) : R2 := fun x y H Q => rIx K x y H Q ∨ rIxD K x y H Q
theorem ho_ix {K : Frag} : Op2 K (rIxA K) ixD := by
  intro x y d e z G H Q h rx ry s k
  by_cases hd : ∃ ds, d = .dict ds
  · obtain ⟨ds, rfl⟩ := hd
    have h' : (if kFit ds e = true then lkD ds e else none) = some z := h
    split at h'
    · rename_i hk
      exact .inr ⟨G, ds, e, z, s, rx, ry, hk, h', fun v rv => k v G H (Gr.refl s) rv⟩
    · cases h'
  left
  cases e with
  | int i =>
    rw [ry.int]
    cases d with
    | list ds =>
      obtain ⟨p, us, rfl, h1, h2⟩ := rx.lst s
      obtain ⟨v, hv, rv⟩ := h2.atI (show atI ds i = some z from h)
      exact .inl ⟨p, us, i, v, rfl, rfl, .inl (.inl h1), hv, k _ G H (Gr.refl s) rv⟩
    | tuple ds =>
      obtain ⟨p, us, rfl, h1, h2⟩ := rx.tup s
      obtain ⟨v, hv, rv⟩ := h2.atI (show atI ds i = some z from h)
      exact .inr (.inl ⟨p, us, i, v, rfl, rfl, h1, hv, k _ G H (Gr.refl s) rv⟩)
    | str w =>
      rw [rx.str]
      have h' : (if w.length ≤ sizeLine then (atI w.cps.toList i).map (fun c => PyData.str ⟨#[c]⟩) else none) = some z := h
      split at h'
      · rename_i hl
        cases ec : atI w.cps.toList i with
        | none => rw [ec] at h'; cases h'
        | some c =>
          rw [ec] at h'
          cases h'
          exact .inr (.inr ⟨w, i, c, rfl, rfl, hl, ec, k _ G H (Gr.refl s) (.str _)⟩)
      · cases h'
    | dict ds => exact absurd ⟨ds, rfl⟩ hd
    | _ => cases h
  | _ => cases d <;> first | (cases h; done) | exact absurd ⟨_, rfl⟩ hd
/-- a[i:j] -/
def cutD {α : Type} (xs : List α) (lo hi : Option Int) : List α := (xs.drop (HT.sIx xs.length 0 lo)).take (HT.sIx xs.length xs.length hi - HT.sIx xs.length 0 lo)
def slcD : PyData → Option Int → Option Int → Option PyData
  | .list ds, lo, hi => some (.list (cutD ds lo hi))
  | .tuple ds, lo, hi => some (.tuple (cutD ds lo hi))
  | .str z, lo, hi => if z.length ≤ sizeLine then some (.str (cutS z lo hi)) else none
  | _, _, _ => none
def rSlAll (K : Frag) : V → Option Int → Option Int → Hp → VK → Prop := fun x lo hi H Q => rSlL K x lo hi H Q ∨ rSlX K x lo hi H Q ∨ rSlS x lo hi H Q
theorem hr_slc {X : Cx} : SlR X (rSlAll X.kx) := SlR.or sl_list (SlR.or sl_tupX sl_str)
theorem RpAll.cut {K : Frag} {H : Hp} {us : List V} {ds : List PyData} (r : RpAll K H us ds) (lo hi : Option Int) : RpAll K H (cutV us lo hi) (cutD ds lo hi) := by
  unfold cutV cutD
  rw [r.len]
  exact (r.drop _).take _
theorem ho_slc {K : Frag} : OpS K (rSlAll K) slcD := by
  intro x d z lo hi G H Q h rx s k
  cases d with
  | list ds =>
    cases h
    obtain ⟨p, us, rfl, h1, h2⟩ := rx.lst s
    refine .inl ⟨p, us, rfl, .inl (.inl h1), fun q hq => ?_⟩
    have gr := Gr.new (o := .lst (cutV us lo hi)) s hq
    exact k _ _ _ gr (.lst upd_same ((h2.cut lo hi).up gr.g))
  | tuple ds =>
    cases h
    obtain ⟨p, us, rfl, h1, h2⟩ := rx.tup s
    refine .inr (.inl ⟨p, us, rfl, h1, fun ⟨e1, e2⟩ => ?_, fun _ => .of s (h2.cut lo hi) k⟩)
    · have e : cutD ds lo hi = ds := by
        unfold cutD
        rw [← h2.len, e1, e2, h2.len]
        simp
      rw [e] at k
      rcases rx with rx | ⟨_, _, o⟩
      · exact k _ G H (Gr.refl s) rx
      · exact o.elim
  | str w =>
    rw [rx.str]
    have h' : (if w.length ≤ sizeLine then some (PyData.str (cutS w lo hi)) else none) = some z := h
    split at h'
    · rename_i hl
      cases h'
      exact .inr (.inr ⟨w, rfl, hl, k _ G H (Gr.refl s) (.str _)⟩)
    · cases h'
  | _ => cases h
/-- len -/
def lenD : PyData → Option PyData
  | .list ds => some (.int ds.length)
  | .tuple ds => some (.int ds.length)
  | .str z => if z.length ≤ sizeLine then some (.int z.length) else none
  | .dict ds => some (.int ds.length)
  | _ => none
def rLenA (K : Frag) : List V → Hp → VK → Prop := fun xs H Q => (∃ a es ep, xs = [.ref a] ∧ H a = some (dO a es ep) ∧ Q (.int es.size) H) ∨ (∃ p ys, xs = [.ref p] ∧ (SqL K H p ys ∨ SqT K H p ys) ∧ Q (.int ys.length) H) ∨ ∃ z, xs = [.str z] ∧ z.length ≤ sizeLine ∧ Q (.int z.length) H
theorem call_lenD {X : Cx} : CallR X (.builtin "len") (fun xs H Q => ∃ a es ep, xs = [.ref a] ∧ H a = some (dO a es ep) ∧ Q (.int es.size) H) := by
  intro pins s σ H xs us Q I r h
  obtain ⟨a, es, ep, rfl, hd, q⟩ := h
  obtain ⟨u, rfl, rx⟩ := vals1 r
  cases rx
  obtain ⟨h1, h2, h3⟩ := dO_get I hd
  have hm := dO_raw I hd
  have hz := sizeLine_eq
  exact PyProof.Rows.call_len_slot (n := es.size) hm.typeIs F.slot_dict_len (fun Q' hq => call_len_raw h1 hm hq) (by omega) (by omega) ⟨.int es.size, H, I.tok _, ⟨_, rfl⟩, q⟩
theorem RpKV.len {K : Frag} {G : Hp} : ∀ {es : List DictEntry} {ds : List (PyData × PyData)}, RpKV K G es ds → es.length = ds.length
  | _, _, .nil => rfl
  | _, _, .cons _ _ _ _ _ t => congrArg (· + 1) t.len
theorem hr_len {X : Cx} : CallR X (.builtin "len") (rLenA X.kx) := CallR.or call_lenD (CallR.or call_len_seq call_len_str)
theorem ho_len {K : Frag} : Op1 K (fun x => rLenA K [x]) lenD := by
  intro x d z G H Q h rx s k
  cases d with
  | list ds =>
    cases h
    obtain ⟨p, us, rfl, h1, h2⟩ := rx.lst s
    exact .inr (.inl ⟨p, us, rfl, .inl (.inl (.inl h1)), by rw [h2.len]; exact k _ G H (Gr.refl s) (.int _)⟩)
  | tuple ds =>
    cases h
    obtain ⟨p, us, rfl, h1, h2⟩ := rx.tup s
    exact .inr (.inl ⟨p, us, rfl, .inr h1, by rw [h2.len]; exact k _ G H (Gr.refl s) (.int _)⟩)
  | str w =>
    rw [rx.str]
    have h' : (if w.length ≤ sizeLine then some (PyData.int w.length) else none) = some z := h
    split at h'
    · rename_i hl
      cases h'
      exact .inr (.inr ⟨w, rfl, hl, k _ G H (Gr.refl s) (.int _)⟩)
    · cases h'
  | dict ds =>
    cases h
    obtain ⟨p, es, ep, rfl, h1, h0, h2⟩ := rx.dict s
    have hl := h2.len
    exact .inl ⟨p, es, ep, rfl, h1, by rw [show es.size = ds.length by simpa using hl]; exact k _ G H (Gr.refl s) (.int _)⟩
  | _ => cases h
/-- list(x), tuple(x) of lists and tuples -/
def listD : PyData → Option PyData
  | .list ds => some (.list ds)
  | .tuple ds => some (.list ds)
  | .dict kvs => some (.list (kvs.map (·.1)))
  | _ => none
def tupD : PyData → Option PyData
  | .list ds => some (.tuple ds)
  | .tuple ds => some (.tuple ds)
  | _ => none
theorem items_keys {es : Array DictEntry} {acc : Array Value} (h : ItemsOf (fun i v => ∃ hi : i < es.size, v = es[i].key) acc es.size) : acc.toList = es.toList.map (·.key) := by
  refine List.ext_getElem? fun i => ?_
  rw [List.getElem?_map]
  by_cases hi : i < es.size
  · have ha : i < acc.size := by rw [h.1]; exact hi
    obtain ⟨_, e⟩ := h.2 i acc[i] (Array.getElem?_eq_getElem ha)
    have e1 : acc.toList[i]? = some acc[i] := by simp [ha]
    have e2 : es.toList[i]? = some es[i] := by simp [hi]
    rw [e1, e2, e]
    rfl
  · have e1 : acc.toList[i]? = none := by simp; rw [h.1]; omega
    have e2 : es.toList[i]? = none := by simp; omega
    rw [e1, e2]
    rfl
/-- list of a dict: its keys -/
def rListD (K : Frag) : List V → Hp → VK → Prop := fun xs H Q => ∃ (a : Addr) (es : Array DictEntry) (ep : Nat) (kvs : List V), xs = [V.ref a] ∧ H a = some (dO a es ep) ∧ Vals kvs (es.toList.map (·.key)) ∧ ∀ l, H l = none → Q (.ref l) (upd H l (.lst kvs))
theorem cr_listD {X : Cx} (hh : X.A.handled = none) : CallR X (.type "list") (rListD X.kx) := by
  intro pins s σ H vs us Q I r h
  obtain ⟨a, es, ep, kvs, rfl, hd, hv, q⟩ := h
  obtain ⟨u, rfl, rx⟩ := vals1 r
  cases rx
  have hl := hv.length
  have hz := (dO_get I hd).2.1
  simp only [List.length_map, Array.length_toList] at hl
  refine PySem.W.kdl_call (KdlSrc.rawDict (es := es) (ep := ep) (dO_get I hd).1) hh (dO_raw I hd) hz fun h' tk acc' c' hk hS' hacc => ?_
  refine ⟨.ref s.heap.objs.size, _, I.laid (t' := tk) hk (Nat.le_refl _) (show ObjOk X.prog X.w _ h' _ (.lst kvs) from ⟨by omega, acc'.toList, c', by rw [items_keys hacc]; exact hv, by rw [Array.toArray_toList]; exact hS'⟩), rfl, q _ (I.hok.fresh (Nat.le_refl _))⟩
def rListX (K : Frag) : List V → Hp → VK → Prop := fun xs H Q => (∃ p ys, xs = [V.ref p] ∧ (SqL K H p ys ∨ SqT K H p ys) ∧ ∀ l, H l = none → Q (.ref l) (upd H l (.lst ys))) ∨ rListD K xs H Q
theorem cr_list {X : Cx} (hh : X.A.handled = none) : CallR X (.type "list") (rListX X.kx) := CallR.or call_list_of (cr_listD hh)
theorem ho_list {K : Frag} : Op1 K (fun x => rListX K [x]) listD := by
  intro x d z G H Q h rx s k
  cases d with
  | list ds =>
    cases h
    obtain ⟨p, us, rfl, h1, h2⟩ := rx.lst s
    refine .inl ⟨p, us, rfl, .inl (.inl (.inl h1)), fun l hl => ?_⟩
    have gr := Gr.new (o := .lst us) s hl
    exact k _ _ _ gr (.lst upd_same (h2.up gr.g))
  | tuple ds =>
    cases h
    obtain ⟨p, us, rfl, h1, h2⟩ := rx.tup s
    refine .inl ⟨p, us, rfl, .inr h1, fun l hl => ?_⟩
    have gr := Gr.new (o := .lst us) s hl
    exact k _ _ _ gr (.lst upd_same (h2.up gr.g))
  | dict kvs =>
    cases h
    obtain ⟨a, es, ep, rfl, hd, ok, r⟩ := rx.dict s
    obtain ⟨ks, hv, hr⟩ := r.keys
    refine .inr ⟨a, es, ep, ks, rfl, hd, hv, fun l hl => ?_⟩
    have gr := Gr.new (o := .lst ks) s hl
    exact k _ _ _ gr (.lst upd_same (hr.up gr.g))
  | _ => cases h
theorem ho_tup {K : Frag} : Op1 K (fun x H Q => ∃ p ys, [x] = [V.ref p] ∧ ((SqL K H p ys ∧ NewT ys H Q) ∨ (SqT K H p ys ∧ Q (.ref p) H))) tupD := by
  intro x d z G H Q h rx s k
  cases d with
  | list ds =>
    cases h
    obtain ⟨p, us, rfl, h1, h2⟩ := rx.lst s
    exact ⟨p, us, rfl, .inl ⟨.inl (.inl h1), .of s h2 k⟩⟩
  | tuple ds =>
    cases h
    obtain ⟨p, us, rfl, h1, h2⟩ := rx.tup s
    refine ⟨p, us, rfl, .inr ⟨h1, ?_⟩⟩
    rcases rx with rx | ⟨_, _, o⟩
    · exact k _ G H (Gr.refl s) rx
    · exact o.elim
  | _ => cases h
/-- int(x) -/
def intOf : PyData → Option PyData
  | .int i => some (.int i)
  | .bool k => some (.int (if k then 1 else 0))
  | _ => none
theorem ho_intOf {K : Frag} : Op1 K (fun x H Q => (∃ i, [x] = [V.int i] ∧ Q (.int i) H) ∨ ∃ k, [x] = [V.bl k] ∧ Q (.int (if k then 1 else 0)) H) intOf := by
  intro x d z G H Q h rx s k
  cases d with
  | int i =>
    cases h
    rw [rx.int]
    exact .inl ⟨i, rfl, k _ G H (Gr.refl s) (.int _)⟩
  | bool b =>
    cases h
    rw [rx.bool]
    exact .inr ⟨b, rfl, k _ G H (Gr.refl s) (.int _)⟩
  | _ => cases h
/-- sum of a list of ints -/
def intsOf : List PyData → Option (List Int)
  | [] => some []
  | .int i :: r => (intsOf r).map (i :: ·)
  | _ :: _ => none
def sumD : PyData → Option PyData
  | .list ds => (intsOf ds).map fun ns => .int ns.sum
  | _ => none
theorem intsOf_rp {K : Frag} {G : Hp} : ∀ {ds : List PyData} {us : List V} {ns : List Int}, RpAll K G us ds → intsOf ds = some ns → us = ns.map V.int
  | [], _, _, .nil, h => by cases h; rfl
  | .int i :: r, _, ns, .cons a t, h => by
    cases a
    have h' : (intsOf r).map (i :: ·) = some ns := h
    cases e : intsOf r with
    | none => rw [e] at h'; cases h'
    | some ms =>
      rw [e] at h'
      cases h'
      rw [intsOf_rp t e]
      rfl
  | .none :: _, _, _, .cons _ _, h => by cases h
  | .bool _ :: _, _, _, .cons _ _, h => by cases h
  | .str _ :: _, _, _, .cons _ _, h => by cases h
  | .list _ :: _, _, _, .cons _ _, h => by cases h
  | .tuple _ :: _, _, _, .cons _ _, h => by cases h
  | .dict _ :: _, _, _, .cons _ _, h => by cases h
end Mi
namespace Mi
open PySem PySem.Spec PyProof.Rows L2
/-! ### x[::-1] -/
section
variable {prog : Program} {w : World} {A : Around} {E : Value → Shared → Prop} {s : Shared}
theorem pick_back (its : Array Value) : ((List.range its.size).filterMap fun (k : Nat) => its[(((its.size : Int) - 1) + (k : Int) * (-1)).toNat]?) = its.toList.reverse := by
  have h := PySem.W.krv_pick its
  have e0 : slicePick its none none (some (-1)) = ((sliceRange ((its.size : Int) - 1) (-1) (-1)).filterMap (its[·]?)).toArray := by
    unfold slicePick
    rw [PySem.W.krv_bounds]
  rw [e0, PySem.W.krv_sliceRange, List.filterMap_map] at h
  have h2 : (List.range its.size).filterMap ((its[·]?) ∘ fun k => its.size - 1 - k) = its.toList.reverse := by simpa using congrArg Array.toList h
  rw [← h2]
  have go : ∀ l : List Nat, (∀ k ∈ l, k < its.size) → (l.filterMap fun (k : Nat) => its[(((its.size : Int) - 1) + (k : Int) * (-1)).toNat]?) = l.filterMap ((its[·]?) ∘ fun k => its.size - 1 - k) := by
    intro l
    induction l with
    | nil => intro _; rfl
    | cons k l ih =>
      intro hl
      have hk := hl k List.mem_cons_self
      have e : (((its.size : Int) - 1) + (k : Int) * (-1)).toNat = its.size - 1 - k := by omega
      rw [List.filterMap_cons, List.filterMap_cons, ih fun j hj => hl j (List.mem_cons_of_mem _ hj), e]
      rfl
  exact go _ fun k hk => List.mem_range.mp hk
theorem sliceApplied_back {sl : Addr} {n : Nat} {u : Tok} {Q : Int × Int × Nat → Shared → Prop} (hs : s.heap.IsSliceOf sl .none .none (.int (-1) u))
    (h : Q ((n : Int) - 1, -1, n) s) : wpAny (model prog w) A (Builtin.Slice.sliceApplied (.ref sl) (pure (n : Int))) Q E s := by
  obtain ⟨os, hos, hcs, hds⟩ := id hs
  unfold Builtin.Slice.sliceApplied Builtin.Slice.sliceFields
  refine wpAny_bind (wpAny_bind (wpAny_field hos hds (x := .none) rfl (wpAny_bind (wpAny_field hos hds (x := .none) rfl (wpAny_bind (wpAny_field hos hds (x := .int (-1) u) rfl (wpAny_pure ?_)))))))
  refine wpAny_bind (slicePart_int ?_)
  show wpAny _ _ (if ((-1 : Int) == 0) = true then _ else _) _ _ s
  rw [if_neg (by decide)]
  refine wpAny_bind (slicePart_none (wpAny_bind (slicePart_none (wpAny_bind (wpAny_pure ?_)))))
  have e : Builtin.Slice.sliceAdjust none none (-1) (n : Int) = ((n : Int) - 1, -1) := by
    unfold Builtin.Slice.sliceAdjust
    simp
  have e2 : Builtin.Slice.slicePlaces ((n : Int) - 1) (-1) (-1) = n := by
    unfold Builtin.Slice.slicePlaces
    by_cases hn : (n : Int) - 1 > -1
    · simp [hn] <;> omega
    · simp [hn] <;> omega
  show wpAny _ _ (match Builtin.Slice.sliceAdjust none none (-1) (n : Int) with | (lo, hi) => pure (lo, (-1 : Int), Builtin.Slice.slicePlaces lo hi (-1))) _ _ s
  rw [e]
  show wpAny _ _ (pure ((n : Int) - 1, (-1 : Int), Builtin.Slice.slicePlaces ((n : Int) - 1) (-1) (-1))) _ _ s
  rw [e2]
  exact wpAny_pure h
theorem getItem_tuple_back {t sl : Addr} {items : Array Value} {u : Tok} {Q : Value → Shared → Prop} (ht : IsTup s.heap t items) (hs : s.heap.IsSliceOf sl .none .none (.int (-1) u))
    (h : Q (.ref s.heap.objs.size) { s with heap := s.heap.push { cls := .type "tuple", data := .seq items.toList.reverse.toArray } })
    (hsz : items.size ≤ sizeLine) : wpAny (model prog w) A (getItem (.ref t) (.ref sl)) Q E s := by
  have htake : sizeOk (.seq items.toList.reverse.toArray) := by
    show items.toList.reverse.toArray.size ≤ sizeLine
    simpa using hsz
  obtain ⟨os, hos, hcs, hds⟩ := id hs
  have hTs : s.TypeIs (.ref sl) "slice" := ⟨os, hos, hcs⟩
  unfold getItem
  try with_reducible refine wpAny_holding ?_
  first | refine wpAny_bind (wpAny_pure ?_) | skip
  refine wpAny_bind (wpAny_sequenceKey ht.typeIs (by decide) ?_)
  refine wpAny_bind (wpAny_callSpecial?_slot (name := Str.ofString "__getitem__") ht.typeIs PyProof.Rows.slot_tuple_getitem
    (wpAny_call_entry PyProof.Rows.slot_tuple_getitem ht.typeIs entry_tuple_getitem ?_ (args_tuple_getitem _ _)))
  show wpAny _ _ (Builtin.Tuple.tupleItemsOf (.ref t) >>= _) _ _ s
  refine wpAny_bind (tupleItemsOf_ ht ?_)
  refine wpAny_bind (wpAny_typeOf hTs ?_)
  rw [if_pos (by decide)]
  refine wpAny_bind (sliceApplied_back hs ?_)
  have hno : ¬ (((items.size : Int) - 1 == 0 && (-1 : Int) == 1 && items.size == items.size) = true) := by simp
  show wpAny _ _ (if ((items.size : Int) - 1 == 0 && (-1 : Int) == 1 && items.size == items.size) = true then _ else _) _ _ s
  rw [if_neg hno, pick_back]
  first
    | exact wpAny_bind (m := Builtin.Tuple.tupleExact _) (wpAny_newObj_type (wpAny_pure ⟨_, rfl, wpAny_pure h⟩) htake)
    | exact wpAny_bind (m := Builtin.Tuple.tupleExact _) (wpAny_newObj_type (wpAny_bind (wpAny_pure (wpAny_pure ⟨_, rfl, wpAny_pure h⟩))) htake)
    | exact wpAny_bind (wpAny_bind (m := Builtin.Tuple.tupleExact _) (wpAny_newObj_type (wpAny_pure (wpAny_pure ⟨_, rfl, wpAny_pure h⟩)) htake))
    | exact wpAny_bind (wpAny_bind (m := Builtin.Tuple.tupleExact _) (wpAny_newObj_type (wpAny_pure ⟨_, rfl, wpAny_pure h⟩) htake))
end
def revS (z : Str) : Str := ⟨z.cps.toList.reverse.toArray⟩
theorem str_back (z : Str) : ((Builtin.Str.strSliceIndices none none (-1) z.length).filterMap (z.cps[·]?)) = z.cps.toList.reverse := by
  have e : Builtin.Str.strSliceIndices none none (-1) z.length = sliceRange ((z.length : Int) - 1) (-1) (-1) := by
    unfold Builtin.Str.strSliceIndices
    simp
  have hl : z.length = z.cps.size := rfl
  rw [e, PySem.W.krv_sliceRange, hl, PySem.W.krv_range, List.filterMap_reverse, PySem.W.krv_all]
def rRevA (K : Frag) : V → Hp → VK → Prop := fun x H Q => (∃ a xs, x = .ref a ∧ SqL K H a xs ∧ ∀ p, H p = none → Q (.ref p) (upd H p (.lst xs.reverse))) ∨
  (∃ a xs, x = .ref a ∧ SqT K H a xs ∧ NewT xs.reverse H Q) ∨ ∃ z, x = .str z ∧ z.length ≤ sizeLine ∧ Q (.str (revS z)) H
section
variable {X : Cx} {W : WX} {e : Expr} {te : TE} {k : Nat} {p1 p2 p3 pos : Pos} {m : MM PyData}
theorem pe_rev (he : PE X e te) : PE X (.Subscript e (.Slice none none (some (.UnaryOp .USub (.Constant (.int 1) k p1) p2)) p3) pos) (tUn (rRevA X.kx) te) := by
  refine ⟨fun pins s σ H Q I h => ?_⟩
  refine Subscript_ (thn (he.run pins s σ H _ I h) fun v s1 ⟨x, H1, I1, r1, q1⟩ => ?_)
  have hst : PO X (some (.UnaryOp .USub (.Constant (.int 1) k p1) p2)) (tPart (tUn (rU fun i => .int (-i)) (tC (.int 1)))) := po_some (pe_un un_neg pe_int)
  refine wpAny_Slice (thn (po_none.run pins s1 σ H1 (fun o H2 => o = none ∧ H2 = H1) I1 ⟨rfl, rfl⟩) fun vl s2 ⟨l, H2, I2, pl, el, e2⟩ => ?_)
  subst el e2
  refine thn (po_none.run pins s2 σ H2 (fun o H3 => o = none ∧ H3 = H2) I2 ⟨rfl, rfl⟩) fun vu s3 ⟨u, H3, I3, pu, eu, e3⟩ => ?_
  subst eu e3
  refine thn (hst.run pins s3 σ H3 (fun o H4 => o = some (-1) ∧ H4 = H3) I3 ⟨1, rfl, -1, rfl, rfl, rfl⟩) fun vs s4 ⟨o, H4, I4, ps, eo, e4⟩ => ?_
  subst eo e4
  have I5 : Inv X pins σ H4 { s4 with heap := s4.heap.push { cls := .type "slice", data := .fields #[vl, vu, vs] } } := I4.kept (t' := s4.toks) fun b ob q => Heap.get?_push_of_some _ q
  rcases q1 with ⟨a, xs, rfl, hx, q⟩ | ⟨a, xs, rfl, hx, q⟩ | ⟨z, rfl, hz, q⟩
  · cases r1
    obtain ⟨its, r, ht, hz⟩ := I5.list hx
    have hlen := r.length
    show wpAny (model X.prog X.w) X.A (subscriptTail e (.Slice none none (some (.UnaryOp .USub (.Constant (.int 1) k p1) p2)) p3) (.ref a) (.ref s4.heap.objs.size)) (EP X pins σ Q) X.xe { s4 with heap := s4.heap.push { cls := .type "slice", data := .fields #[vl, vu, vs] } }
    refine tail_any (ops := [.ref a, .ref s4.heap.objs.size]) ht.isList.typeIs (PySem.slot_list_getitem.lookup) ?_ (by with_unfolding_all rfl)
    refine wpAny_getItem_list_slice ht.isList (Heap.IsSliceOf.new _ vl vu vs) pl pu ps (by decide) ?_ (by rw [List.size_toArray]; omega)
    rw [PySem.W.krv_pick]
    refine ⟨.ref _, _, I5.laid (t' := s4.toks) (o := .lst xs.reverse) (fun b ob q => Heap.get?_push_of_some _ q) (Nat.le_refl _) ?_, rfl, q _ (I5.hok.fresh (Nat.le_refl _))⟩
    exact ⟨by rw [List.length_reverse]; exact hz, _, 0, r.reverse, Heap.get?_push_size _ rfl⟩
  · cases r1
    obtain ⟨its, r, ht, hz⟩ := I5.tuple hx
    have hlen := r.length
    cases pl
    cases pu
    cases ps with
    | int _ t =>
      show wpAny (model X.prog X.w) X.A (subscriptTail e (.Slice none none (some (.UnaryOp .USub (.Constant (.int 1) k p1) p2)) p3) (.ref a) (.ref s4.heap.objs.size)) (EP X pins σ Q) X.xe { s4 with heap := s4.heap.push { cls := .type "slice", data := .fields #[.none, .none, .int (-1) t] } }
      refine tail_any (ops := [.ref a, .ref s4.heap.objs.size]) ht.typeIs (PyProof.Rows.slot_tuple_getitem.lookup) ?_ (by with_unfolding_all rfl)
      refine getItem_tuple_back ht (Heap.IsSliceOf.new _ .none .none (.int (-1) t)) ?_ (by rw [List.size_toArray]; omega)
      exact new_tup I5 r.reverse (by rw [List.length_reverse]; exact hz) q
  · obtain ⟨t, rfl⟩ := r1
    cases pl
    cases pu
    cases ps with
    | int _ tk =>
      show wpAny (model X.prog X.w) X.A (subscriptTail e (.Slice none none (some (.UnaryOp .USub (.Constant (.int 1) k p1) p2)) p3) (.str z t) (.ref s4.heap.objs.size)) (EP X pins σ Q) X.xe { s4 with heap := s4.heap.push { cls := .type "slice", data := .fields #[.none, .none, .int (-1) tk] } }
      refine tail_any (ops := [.ref s4.heap.objs.size, .str z t]) (typeIs_str _ z t) (PySem.F.slot_str_getitem.lookup) ?_ (by with_unfolding_all rfl)
      refine wpAny_getItem_str_slice (l := none) (u := none) (st := some (-1, tk)) ⟨_, Heap.get?_push_size _ rfl, rfl, rfl⟩ rfl ?_
      show Made.post (if ((-1 : Int) == 1 && (Builtin.Str.strSliceIndices none none (-1) z.length).length == z.length) = true then Made.val (.str z t)
        else Made.str ⟨((Builtin.Str.strSliceIndices none none (-1) z.length).filterMap (z.cps[·]?)).toArray⟩) (EP X pins σ Q) _
      rw [if_neg (by simp), str_back]
      refine ⟨?_, .str _, H4, I5.tok _, ⟨_, rfl⟩, q⟩
      show z.cps.toList.reverse.toArray.size ≤ sizeLine
      simpa [Str.length] using hz
def revD : PyData → Option PyData
  | .list ds => some (.list ds.reverse)
  | .tuple ds => some (.tuple ds.reverse)
  | .str z => if z.length ≤ sizeLine then some (.str (revS z)) else none
  | _ => none
theorem ho_rev {K : Frag} : Op1 K (rRevA K) revD := by
  intro x d z G H Q h rx s k
  cases d with
  | list ds =>
    cases h
    obtain ⟨p, us, rfl, h1, h2⟩ := rx.lst s
    refine .inl ⟨p, us, rfl, .inl (.inl h1), fun q hq => ?_⟩
    have gr := Gr.new (o := .lst us.reverse) s hq
    exact k _ _ _ gr (.lst upd_same (h2.rev.up gr.g))
  | tuple ds =>
    cases h
    obtain ⟨p, us, rfl, h1, h2⟩ := rx.tup s
    exact .inr (.inl ⟨p, us, rfl, h1, .of s h2.rev k⟩)
  | str w =>
    rw [rx.str]
    have h' : (if w.length ≤ sizeLine then some (PyData.str (revS w)) else none) = some z := h
    by_cases hl : w.length ≤ sizeLine
    · rw [if_pos hl] at h'
      cases h'
      exact .inr (.inr ⟨w, rfl, hl, k _ G H (Gr.refl s) (.str _)⟩)
    · rw [if_neg hl] at h'
      cases h'
  | _ => cases h
theorem me_rev (he : MQ X W e m) : ME X W (.Subscript e (.Slice none none (some (.UnaryOp .USub (.Constant (.int 1) k p1) p2)) p3) pos) (op1 revD m) := PE.wk (pe_rev he) fun σ H Q ⟨F, g, G, A, q⟩ => by
  refine ⟨F, g, G, A, Po.imp q.bnd fun d g1 G1 H1 A1 s1 k1 x rx => ?_⟩
  obtain ⟨z, ez, k⟩ := k1.lft
  exact ho_rev x d z G1 H1 Q ez rx A1.ex fun v G' H' gr rv => k G' H' (A1.grow gr) gr.g v rv
end
/-! ### isinstance -/
def typeD : PyData → String
  | .none => "NoneType"
  | .bool _ => "bool"
  | .int _ => "int"
  | .str _ => "str"
  | .list _ => "list"
  | .tuple _ => "tuple"
  | .dict _ => "dict"
def isaD (T : String) (d : PyData) : Bool := typeD d == T || (typeD d == "bool" && T == "int")
/-- the type of a value, a dict's too -/
inductive TyD (K : PySem.W.Frag) (H : Hp) : V → Value → Prop where
  | x {x : V} {t : Value} (h : TyX K H x t) : TyD K H x t
  | dict {a : Addr} {es : Array DictEntry} {ep : Nat} (e : H a = some (dO a es ep)) : TyD K H (.ref a) (.type "dict")
theorem kit_ofD {X : Cx} {pins : List (Addr × Obj)} {σ : L2.St} {H : Hp} {s : Shared} {x : V} {u t : Value} (I : Inv X pins σ H s) (rx : RelV x u) (ty : TyD X.K H x t) : ∃ P : Heap → Prop, PySem.W.KitX X.K u t P ∧ P s.heap ∧ u ≠ .builtin "__main__.__loader__#opaque" := by
  cases ty with
  | x h => exact kit_of I rx h
  | @dict a es ep e =>
    cases (show u = Value.ref a from rx)
    obtain ⟨⟨_, _, ho⟩, _⟩ := (show ObjOk X.prog X.w H s.heap a (dO a es ep) from I.hok a _ e)
    exact ⟨_, PySem.W.kitx_dict, ⟨_, ho, rfl⟩, fun z => nomatch z⟩
def rIsiD (K : PySem.W.Frag) : List V → Hp → VK → Prop := fun xs H Q => ∃ (x c : V) (t u : Value) (b : Bool), xs = [x, c] ∧ ClsV c u ∧ TyD K H x t ∧ PySem.W.kitOne K t u = some b ∧ Q (.bl b) H
theorem call_isiD {X : Cx} : CallR X (.builtin "isinstance") (rIsiD X.K) := by
  intro pins s σ H xs us Q I r h
  obtain ⟨x, c, t, u, b, rfl, k, ty, e, q⟩ := h
  obtain ⟨u1, u2, rfl, r1, r2⟩ := vals2 r
  have e2 := k.eq r2
  subst e2
  obtain ⟨P, Z, p, hx⟩ := kit_ofD I r1 ty
  exact PySem.W.kia_one Z I.kIn p e hx fun tk => ⟨.bl b, H, I.tok tk, rfl, q⟩
def rIsiTD (K : PySem.W.Frag) : List V → Hp → VK → Prop := fun xs H Q => ∃ (x : V) (tp : Addr) (cs : List V) (t : Value) (us : List Value) (b : Bool), xs = [x, .ref tp] ∧ H tp = some (.tup cs) ∧ Paired ClsV cs us ∧ TyD K H x t ∧ PySem.W.kitAny K t us = some b ∧ Q (.bl b) H
theorem call_isiTD {X : Cx} : CallR X (.builtin "isinstance") (rIsiTD X.K) := by
  intro pins s σ H xs us Q I r h
  obtain ⟨x, tp, cs, t, ws, b, rfl, hT, k, ty, e, q⟩ := h
  obtain ⟨u1, u2, rfl, r1, r2⟩ := vals2 r
  cases (show u2 = Value.ref tp from r2)
  obtain ⟨P, Z, p, hx⟩ := kit_ofD I r1 ty
  obtain ⟨_, its, rv, o, h1, h2, n, h3⟩ := (show ObjOk X.prog X.w H s.heap tp (.tup cs) from I.hok tp _ hT)
  have e3 := ClsV.all k rv
  subst e3
  obtain ⟨oc, od, dt, sl⟩ := o
  simp only at h2 h3
  subst h2 h3
  exact PySem.W.kia_tup Z I.kIn p h1 e hx fun tk => ⟨.bl b, H, I.tok tk, rfl, q⟩
theorem tyd_of {K : Frag} {G H : Hp} {x : V} {d : PyData} (s : Same G H) (r : Rq K G H x d) : TyD K H x (.type (typeD d)) := by
  cases d with
  | none => rw [r.none]; exact .x <| .base .non
  | bool b => rw [r.bool]; exact .x <| .base (.bl b)
  | int i => rw [r.int]; exact .x <| .base (.int i)
  | str z => rw [r.str]; exact .x <| .base (.str z)
  | list ds =>
    obtain ⟨p, us, rfl, h1, h2⟩ := r.lst s
    exact .x <| .base (.lst h1)
  | tuple ds =>
    obtain ⟨p, us, rfl, h1, h2⟩ := r.tup s
    rcases h1 with ⟨its, h1⟩ | ⟨o, its, n, h1, h3, _⟩
    · exact .x <| .fTuple h1
    · exact .x <| .kTuple h1 h3
  | dict ds =>
    obtain ⟨p, es, ep, rfl, h1, _⟩ := r.dict s
    exact .dict h1
theorem kit_is {K : PySem.W.Frag} (T : String) (hT : ∀ t ∈ ["NoneType", "bool", "int", "str", "list", "tuple", "dict"], kitB t T = some (t == T || (t == "bool" && T == "int"))) (d : PyData) : PySem.W.kitOne K (.type (typeD d)) (.type T) = some (isaD T d) := by
  refine kit_ty ?_
  cases d <;> exact hT _ (by simp [typeD])
section
variable {X : Cx} {W : WX} {e : Expr} {m : MM PyData} {pos p : Pos}
def isiM (T : String) (m : MM PyData) : MM PyData := bnd m fun d => ret (.bool (isaD T d))
theorem me_isi (T : String) {x : Str} {p1 : Pos} (hm : X.mg "isinstance" = none) (hT : PE X (.Name x p1) (tC (.ty T))) (hk : ∀ t ∈ ["NoneType", "bool", "int", "str", "list", "tuple", "dict"], kitB t T = some (t == T || (t == "bool" && T == "int"))) (he : MQ X W e m)
    (hg : Gl X "isinstance" := by rfl) (h1 : starEach (e :: [.Name x p1]) X.env = (false, eval e X.env) :: starEach [.Name x p1] X.env := by rfl) (h2 : starEach [.Name x p1] X.env = (false, eval (.Name x p1) X.env) :: starEach [] X.env := by rfl)
    (hpl : (backTo pos (starEach [.Name x p1] X.env)).any (·.1) = false := by rfl) : ME X W (.Call (.Name "isinstance" p) [e, .Name x p1] [] pos) (isiM T m) :=
  PE.wk (pe_callB call_isiD hg hm boot_isinstance (pa_cons he (pa_cons hT pa_nil h2) h1) (by decide) (by decide) h1 hpl) fun σ H Q ⟨F, g, G, A, q⟩ => by
  refine ⟨F, g, G, A, Po.imp q.bnd fun d g1 G1 H1 A1 s1 k1 x rx => ?_⟩
  exact ⟨x, .ty T, .type (typeD d), .type T, isaD T d, rfl, .ty T, tyd_of A1.ex rx, kit_is T hk d, k1 G1 H1 A1 (Same.refl _) _ (.bl _)⟩
/-- isinstance(x, (S, T)) -/
def isi2M (S T : String) (m : MM PyData) : MM PyData := bnd m fun d => ret (.bool (isaD S d || isaD T d))
theorem me_isi2 (S T : String) {x y : Str} {p1 p2 p3 : Pos} {kk : Nat} (hm : X.mg "isinstance" = none) (hS : PE X (.Name x p1) (tC (.ty S))) (hT : PE X (.Name y p2) (tC (.ty T)))
    (hkS : ∀ t ∈ ["NoneType", "bool", "int", "str", "list", "tuple", "dict"], kitB t S = some (t == S || (t == "bool" && S == "int")))
    (hkT : ∀ t ∈ ["NoneType", "bool", "int", "str", "list", "tuple", "dict"], kitB t T = some (t == T || (t == "bool" && T == "int"))) (he : MQ X W e m)
    (hg : Gl X "isinstance" := by rfl) (h1 : starEach (e :: [.Tuple [.Name x p1, .Name y p2] kk p3]) X.env = (false, eval e X.env) :: starEach [.Tuple [.Name x p1, .Name y p2] kk p3] X.env := by rfl)
    (h2 : starEach [.Tuple [.Name x p1, .Name y p2] kk p3] X.env = (false, eval (.Tuple [.Name x p1, .Name y p2] kk p3) X.env) :: starEach [] X.env := by rfl)
    (h3 : starEach [.Name x p1, .Name y p2] X.env = (false, eval (.Name x p1) X.env) :: starEach [.Name y p2] X.env := by rfl) (h4 : starEach [.Name y p2] X.env = (false, eval (.Name y p2) X.env) :: starEach [] X.env := by rfl)
    (hpl : (backTo pos (starEach [.Tuple [.Name x p1, .Name y p2] kk p3] X.env)).any (·.1) = false := by rfl) : ME X W (.Call (.Name "isinstance" p) [e, .Tuple [.Name x p1, .Name y p2] kk p3] [] pos) (isi2M S T m) :=
  PE.wk (pe_callB call_isiTD hg hm boot_isinstance (pa_cons he (pa_cons (pe_tup (pa_cons hS (pa_cons hT pa_nil h4) h3)) pa_nil h2) h1) (by decide) (by decide) h1 hpl) fun σ H Q ⟨F, g, G, A, q⟩ => by
  refine ⟨F, g, G, A, Po.imp q.bnd fun d g1 G1 H1 A1 s1 k1 x rx => ?_⟩
  refine ⟨by show 2 ≤ sizeLine; decide, fun tp htp => ?_⟩
  have gr := Gr.new (o := .tup [.ty S, .ty T]) A1.ex htp
  refine ⟨x, tp, [.ty S, .ty T], .type (typeD d), [.type S, .type T], isaD S d || isaD T d, rfl, upd_same, .cons (.ty S) (.cons (.ty T) .nil), tyd_of gr.e (rx.grow gr), ?_, k1 _ _ (A1.grow gr) gr.g _ (.bl _)⟩
  refine kitAny_cons (kit_is S hkS d) (fun hb => kitAny_cons (kit_is T hkT d) (fun hb2 => ?_) fun hb2 => ?_) fun hb => ?_
  · rw [hb, hb2]; exact kitAny_nil
  · rw [hb2]; simp
  · rw [hb]; rfl
/-! ### str(x), tuple(x), sep.join(x), {} -/
def strD : PyData → Option PyData
  | .int i => if i.natAbs.log2 < 1920 then some (.str (Str.ofString (toString i))) else none
  | .none => some (.str "None")
  | _ => none
def rStrA : List V → Hp → VK → Prop := fun xs H Q => (∃ i, xs = [.int i] ∧ i.natAbs.log2 < 1920 ∧ Q (.str (toString i)) H) ∨ (xs = [.non] ∧ Q (.str "None") H)
theorem hr_str : CallR X (.type "str") rStrA := CallR.or call_str_int fun pins s σ H xs us Q I r ⟨e, q⟩ => by
  subst e
  obtain ⟨u, rfl, rx⟩ := vals1 r
  cases rx
  exact PySem.P.str_of_none ⟨.str _, H, I.tok _, ⟨_, rfl⟩, q⟩
theorem ho_str {K : Frag} : Op1 K (fun x => rStrA [x]) strD := by
  intro x d z G H Q h rx s k
  cases d with
  | int i =>
    have h' : (if i.natAbs.log2 < 1920 then some (PyData.str (Str.ofString (toString i))) else none) = some z := h
    by_cases hl : i.natAbs.log2 < 1920
    · rw [if_pos hl] at h'
      cases h'
      rw [rx.int]
      exact .inl ⟨i, rfl, hl, k _ G H (Gr.refl s) (.str _)⟩
    · rw [if_neg hl] at h'
      cases h'
  | none =>
    cases h
    rw [rx.none]
    exact .inr ⟨rfl, k _ G H (Gr.refl s) (.str _)⟩
  | _ => cases h
/-- the signs of a text -/
def signs (z : Str) : List Str := z.cps.toList.map fun c => ⟨#[c]⟩
def tup2D : PyData → Option PyData
  | .list ds => some (.tuple ds)
  | .tuple ds => some (.tuple ds)
  | .str z => if z.length ≤ sizeLine then some (.tuple ((signs z).map .str)) else none
  | _ => none
def rTup2 (K : Frag) : List V → Hp → VK → Prop := fun xs H Q => (∃ p ys, xs = [V.ref p] ∧ ((SqL K H p ys ∧ NewT ys H Q) ∨ (SqT K H p ys ∧ Q (.ref p) H))) ∨
  ∃ z, xs = [.str z] ∧ z.length ≤ sizeLine ∧ NewT ((signs z).map V.str) H Q
theorem items_signs {z : Str} {acc : Array Value} (h : ItemsOf (SignAt z) acc z.cps.size) : Vals ((signs z).map V.str) acc.toList := by
  have key : ∀ (cs : List Nat) (us : List Value), us.length = cs.length → (∀ (j : Nat) (v : Value), us[j]? = some v → ∃ c u, cs[j]? = some c ∧ v = .str ⟨#[c]⟩ u) → Vals ((cs.map fun c => (⟨#[c]⟩ : Str)).map V.str) us := by
    intro cs
    induction cs with
    | nil => intro us hl _; cases us with | nil => exact .nil | cons _ _ => cases hl
    | cons c cs ih =>
      intro us hl hs
      cases us with
      | nil => cases hl
      | cons u us =>
        refine .cons ?_ (ih us (by simpa using hl) fun j v hj => ?_)
        · obtain ⟨c', t, e1, e2⟩ := hs 0 u rfl
          cases e1
          exact ⟨t, e2⟩
        · obtain ⟨c', t, e1, e2⟩ := hs (j + 1) v (by simpa using hj)
          exact ⟨c', t, by simpa using e1, e2⟩
  refine key z.cps.toList acc.toList (by simpa using h.1) fun j v hj => ?_
  obtain ⟨c, u, e1, e2⟩ := h.2 j v (by simpa using hj)
  exact ⟨c, u, by simpa using e1, e2⟩
theorem hr_tup2 (hh : X.A.handled = none) : CallR X (.type "tuple") (rTup2 X.kx) := CallR.or call_tupX fun pins s σ H xs us Q I r ⟨z, e, hz, q⟩ => by
  subst e
  obtain ⟨u, rfl, t, rfl⟩ := vals1 r
  refine PySem.call_tuple_str hh z t (fun h' tk acc hk hacc => ?_) hz
  have I1 : Inv X pins σ H { s with heap := h', toks := tk } := I.kept hk
  have hl : ((signs z).map V.str).length ≤ sizeLine := by simpa [signs, Str.length] using hz
  have e : acc.toList.toArray = acc := by simp
  have := new_tup I1 (items_signs hacc) hl q
  rw [e] at this
  exact this
theorem rp_strs {K : Frag} {H : Hp} : ∀ ss : List Str, RpAll K H (ss.map V.str) (ss.map PyData.str)
  | [] => .nil
  | a :: r => .cons (.str a) (rp_strs r)
theorem ho_tup2 {K : Frag} : Op1 K (fun x => rTup2 K [x]) tup2D := by
  intro x d z G H Q h rx s k
  cases d with
  | list ds => exact .inl (ho_tup x (.list ds) z G H Q h rx s k)
  | tuple ds => exact .inl (ho_tup x (.tuple ds) z G H Q h rx s k)
  | str w =>
    have h' : (if w.length ≤ sizeLine then some (PyData.tuple ((signs w).map .str)) else none) = some z := h
    by_cases hl : w.length ≤ sizeLine
    · rw [if_pos hl] at h'
      cases h'
      rw [rx.str]
      exact .inr ⟨w, rfl, hl, .of s (rp_strs _) k⟩
    · rw [if_neg hl] at h'
      cases h'
  | _ => cases h
def strsOf : List PyData → Option (List Str)
  | [] => some []
  | .str i :: r => (strsOf r).map (i :: ·)
  | _ :: _ => none
theorem strsOf_eq : ∀ {ds : List PyData} {ns : List Str}, strsOf ds = some ns → ds = ns.map .str
  | [], _, h => by cases h; rfl
  | .str i :: r, ns, h => by
    have h' : (strsOf r).map (i :: ·) = some ns := h
    cases e : strsOf r with
    | none => rw [e] at h'; cases h'
    | some ms =>
      rw [e] at h'
      cases h'
      rw [strsOf_eq e]
      rfl
  | .none :: _, _, h => by cases h
  | .bool _ :: _, _, h => by cases h
  | .int _ :: _, _, h => by cases h
  | .list _ :: _, _, h => by cases h
  | .tuple _ :: _, _, h => by cases h
  | .dict _ :: _, _, h => by cases h
theorem strs_rp {K : Frag} {G : Hp} {us : List V} : ∀ {ns : List Str}, RpAll K G us (ns.map PyData.str) → us = ns.map V.str := by
  induction us with
  | nil => intro ns h; cases ns with | nil => rfl | cons _ _ => cases h
  | cons u us ih =>
    intro ns h
    cases ns with
    | nil => cases h
    | cons n ns =>
      cases h with
      | cons a t =>
        cases a
        rw [ih t]
        rfl
/-- the items of a list or a tuple -/
def seqD : PyData → Option (List PyData)
  | .list ds => some ds
  | .tuple ds => some ds
  | _ => none
def joinD (a : Str) (d : PyData) : Option PyData := match seqD d with
  | some ds => (match strsOf ds with
    | some ys => if (ys.map (·.length)).sum + ys.length * a.length ≤ 16777216 then some (.str (Txt.join a ys)) else none
    | none => none)
  | none => none
theorem me_join {a : Str} {j : Nat} {apos pp : Pos} (he : MQ X W e m) (hs : starEach [e] X.env = [(false, eval e X.env)] := by rfl) (hbase : attributeBase (.Constant (.str a) j pp) "join" X.env (eval (.Constant (.str a) j pp) X.env) = eval (.Constant (.str a) j pp) X.env := by rfl) (hline : (apos.endLine == pos.line) = true := by rfl) :
    ME X W (.Call (.Attribute (.Constant (.str a) j pp) "join" apos) [e] [] pos) (op1 (joinD a) m) := PE.wk (pe_join pe_str he hs hbase hline) fun σ H Q ⟨F, g, G, A, q⟩ => by
  refine ⟨⟨a, rfl⟩, F, g, G, A, Po.imp q.bnd fun d g1 G1 H1 A1 s1 k1 x rx => ?_⟩
  obtain ⟨z, ez, k⟩ := k1.lft
  unfold joinD at ez
  generalize ei : seqD d = o at ez
  cases o with
  | none => cases ez
  | some ds =>
    simp only at ez
    generalize es : strsOf ds = o at ez
    cases o with
    | none => cases ez
    | some ys =>
      simp only at ez
      have eds := strsOf_eq es
      subst eds
      by_cases hl : (ys.map (·.length)).sum + ys.length * a.length ≤ 16777216
      · rw [if_pos hl] at ez
        cases ez
        cases d with
        | list ds' =>
          cases ei
          obtain ⟨p, us, rfl, h1, h2⟩ := rx.lst A1.ex
          have eu := strs_rp h2
          subst eu
          exact ⟨a, p, ys, rfl, rfl, .inl (.inl (.inl h1)), hl, k G1 H1 A1 (Same.refl _) _ (.str _)⟩
        | tuple ds' =>
          cases ei
          obtain ⟨p, us, rfl, h1, h2⟩ := rx.tup A1.ex
          have eu := strs_rp h2
          subst eu
          exact ⟨a, p, ys, rfl, rfl, .inr h1, hl, k G1 H1 A1 (Same.refl _) _ (.str _)⟩
        | _ => cases ei
      · rw [if_neg hl] at ez
        cases ez
/-- what holds of a dict's object stays so while the object stays -/
theorem dO_ok {P : Program} {w : World} {H : Hp} {h : Heap} {a : Addr} {es : Array DictEntry} {ep : Nat} (h1 : (a == sysModules) = false) (h2 : es.size ≤ sizeLine) (h3 : h.get? a = some { cls := .type "dict", data := .dict es ep }) : ObjOk P w H h a (dO a es ep) :=
  ⟨⟨h1, h2, h3⟩, ⟨_, h3⟩, fun _ _ q k => ⟨q.1, q.2.1, k _ q.2.2⟩⟩
def tDict0 : TE := fun _ H Q => ∀ p, H p = none → Q (.ref p) (upd H p (dO p #[] 0))
theorem pe_dict0 : PE X (.Dict [] [] pos) tDict0 := ⟨fun pins s σ H Q I h =>
  wpAny_Dict_empty ⟨.ref s.heap.objs.size, _, I.laid (a := s.heap.objs.size) (o := dO s.heap.objs.size #[] 0) (t' := s.toks) (fun _ _ q => Heap.get?_push_of_some _ q) (Nat.le_refl _) (dO_ok (beq_eq_false_iff_ne.mpr (Ne.symm (Nat.ne_of_lt I.big))) (Nat.zero_le _) (Heap.get?_push_size _ rfl)), rfl, h _ (I.hok.fresh (Nat.le_refl _))⟩⟩
theorem keysOk_nil : keysOk [] := ⟨fun _ h => (nomatch h), Or.inl (fun _ h => nomatch h), List.nodup_nil⟩
theorem me_dict0 : ME X W (.Dict [] [] pos) (ret (.dict [])) := PE.wk pe_dict0 fun σ H Q ⟨F, g, G, A, q⟩ => by
  intro p hp
  have gr := Gr.new (o := dO p #[] 0) A.ex hp
  exact q _ _ (A.grow gr) gr.g _ (.dict upd_same keysOk_nil .nil)
end
end Mi
namespace Mi
open PySem PySem.Spec PyProof.Rows L2
/-- what the written part says of an exception class of the program (over ValueError, without its own __init__) -/
structure ExT (K : PySem.W.Frag) (mg : Mg) (c : String) (C : Addr) : Prop where
  gC : mg (Str.ofString c) = some (.ref C)
  kC : PySem.W.keepIn K (.ref C) = true
  sB : PySem.W.subIn K (.ref C) (.type "BaseException") = some true
  tC : PySem.W.typeIn K (.ref C) = some (.type "type")
section
variable {X : Cx} {W : WX} {pos : Pos}
theorem ms_raise1 {c : String} {C : Addr} {bm : List Value} {m : Str} {j : Nat} {p p2 p3 : Pos} (hc : X.calm = true) (tk : Takes X W) (T : ExT X.kx X.mg c C) (q : PySem.W.excIn X.kx C bm "ValueError.__new__" = true) (F : ExcBaseFacts "ValueError" "ValueError.__new__" "ValueError.__init__" bm) (hg : Gl X (Str.ofString c)) (hdb : (Str.ofString c == ("__debug__" : Str)) = false) :
    MS X W (.Raise (some (.Call (.Name (Str.ofString c) p) [.Constant (.str m) j p2] [] p3)) none pos) (raiseS c) :=
  ms_raise hc tk T.gC (pmk_own F q T.gC T.kC (raises_own T.sB T.tC) hg hdb)
end
end Mi
namespace Mi
open PySem PySem.Spec PyProof.Rows L2
/-- a def of the text as it stands behind the top -/
structure Df (K : PySem.W.Frag) (mg : Mg) (x : Str) (st : Stmt) (ps : List Str) : Type where
  f : Addr
  fd : FuncData
  F : Fun K x x st f fd
  g : mg x = some (.ref f)
  k : PySem.W.keepIn K (.ref f) = true
  b : Binds K fd ps []
theorem u65 {A : Around} {k : Nat} (hr : Room k A) : A.units + 65 < cLine := by have := hr.un; omega
def iaddD : PyData → PyData → Option PyData
  | .int i, .int j => some (.int (i + j))
  | _, _ => none
theorem ho_iadd {K : Frag} : Op2 K (ipI fun i j => i + j) iaddD := by
  intro x y d e z G H Q h rx ry s k
  cases d with
  | int i =>
    cases e with
    | int j =>
      cases h
      rw [rx.int, ry.int]
      exact ⟨i, j, rfl, rfl, k _ G H (Gr.refl s) (.int _)⟩
    | _ => cases h
  | _ => cases e <;> cases h
theorem fnOk0 {P : Program} {K : Frag} {mg : Mg} {base : Heap} {k : Nat} {f : Addr} {fd : FuncData} {ps : List Str} : FnOk P K.w K mg base (L2.CX P K.w) k f fd ps (SpP K mg fun _ => .error .stuck) :=
  ⟨fun vs H Q E ⟨G, ds, _, _, h⟩ => h.elim, fun A outer s H args us vs Q E _ _ _ _ ⟨G, ds, _, _, h⟩ => h.elim⟩
theorem fnOk0S {P : Program} {K : Frag} {mg : Mg} {base : Heap} {k : Nat} {f : Addr} {fd : FuncData} {ps : List Str} : FnOk P K.w K mg base (L2.CX P K.w) k f fd ps (SpS K mg fun _ _ => .error .stuck) :=
  ⟨fun vs H Q E ⟨G, p, us, s, ds, _, _, _, _, _, h⟩ => h.elim, fun A outer s H args us vs Q E _ _ _ _ ⟨G, p, us0, s0, ds, _, _, _, _, _, h⟩ => h.elim⟩
/-! ### the law itself -/
def lawStart (n : Nat) (ns : List Int) : Gm := (List.replicate n Sl.dead).set 1 (.own false (.list [.list (ns.map .int), .int 0, .int 0, .int 1]))
def spLaw (K : PySem.W.Frag) : Sp := fun vs H Q _ => ∃ (a : Addr) (ns : List Int), vs = [.ref a] ∧ SqL K H a (ns.map V.int) ∧ ns.length ≤ 63 ∧ ∀ H', Q (.bl true) H'
theorem at_none {K : Frag} {H : Hp} {σ : L2.St} : At K ⟨fun _ => False, H, H, 0⟩ σ (List.replicate σ.length .dead) H H := by
  have nd : ∀ {i : Nat} {s : Sl}, (List.replicate σ.length Sl.dead)[i]? = some s → s = .dead := fun {i s} h => by
    have := List.mem_of_getElem? h
    rw [List.mem_replicate] at this
    exact this.2
  exact ⟨Same.refl _, Same.refl _, fun _ _ h _ => h, fun _ _ _ _ => rfl, fun _ h => h, by simp, fun i d h => (by cases nd h), fun i t d h => (by cases nd h), fun i j t u d e p h => (by cases nd h)⟩
theorem law_read {K : Frag} {mg : Mg} {W : WX} {N : List Str} {b : Gm → Out} {H : Hp} {a : Addr} {ns : List Int} {D : Ends} (hN : 1 ≤ N.length) (hS : SqL K H a (ns.map V.int)) (h : ∃ g, b (lawStart N.length ns) = .rt (.bool true) g) (q : ∀ H', D.rt (.bl true) H') :
    tSeq (tAsg (tLst (tCons (tCB (fun xs H Q => ∃ p ys, xs = [.ref p] ∧ (SqL K H p ys ∨ SqT K H p ys) ∧ ∀ l, H l = none → Q (.ref l) (upd H l (.lst ys))) (tCons (tVar 0) tNil)) (tCons (tC (.int 0)) (tCons (tC (.int 0)) (tCons (tC (.int 1)) tNil))))) (gName 1)) (cS K mg W b) D (L2.start N [.ref a]) H := by
  obtain ⟨g, h⟩ := h
  refine ⟨.ref a, rfl, a, ns.map V.int, rfl, .inl hS, fun l hl => ⟨by show 4 ≤ sizeLine; decide, fun p hp => ?_⟩⟩
  have hlen : (L2.start N [V.ref a]).length = N.length := by simp [L2.start]; omega
  have A0 : At K ⟨fun _ => False, H, H, 0⟩ (L2.start N [V.ref a]) (List.replicate N.length .dead) H H := by
    rw [← hlen]; exact at_none
  have gr := Gr.new (o := .lst (ns.map V.int)) (Same.refl H) hl
  have A1 := A0.grow gr
  have A2 := A1.fresh (i := 1) (d := .list [.list (ns.map .int), .int 0, .int 0, .int 1]) (o := .lst [.ref l, .int 0, .int 0, .int 1]) hp
    ⟨_, upd_same, .cons (.lst upd_same (RpAll.ints ns)) (.cons (.int 0) (.cons (.int 0) (.cons (.int 1) .nil)))⟩
  refine ⟨_, _, _, A2, ?_⟩
  show PoS K mg W _ _ (b (lawStart N.length ns)) D
  rw [h]
  intro v σ' G' H' A' s' rv
  cases rv
  exact q H'
theorem fnLaw {P : Program} {K : Frag} {mg : Mg} {base : Heap} {st : Stmt} {f : Addr} {fd : FuncData} {N : List Str} {k : Nat} {b : Gm → Out} (F : Fun K "law" "law" st f fd) (S : FnScope N ["script"] (defScope st)) (hN : 1 ≤ N.length)
    (hb : ∀ (cdv : Value) (A : Around) (outer : List Env) (s : Shared) (H : Hp) (E : XK), Room k (A.deeper (envOfC "law" (defScope st) s.heap.objs.size f cdv)) →
      PSs (cxOf (L2.CX P K.w) P K.w K mg base N "law" (defScope st) f cdv A outer s H E) (defBody st) (tSeq (tAsg (tLst (tCons (tCB (fun xs H Q => ∃ p ys, xs = [.ref p] ∧ (SqL K H p ys ∨ SqT K H p ys) ∧ ∀ l, H l = none → Q (.ref l) (upd H l (.lst ys))) (tCons (tVar 0) tNil)) (tCons (tC (.int 0)) (tCons (tC (.int 0)) (tCons (tC (.int 1)) tNil))))) (gName 1)) (cS K mg (fun cls d _ H => E cls d H) b)))
    (h : ∀ ns : List Int, ns.length ≤ 63 → ∃ g, b (lawStart N.length ns) = .rt (.bool true) g) : FnOk P K.w K mg base (L2.CX P K.w) (k + 1) f fd ["script"] (spLaw K) := by
  refine F.okX S (fun vs H Q E h => ?_) (fun cdv A outer s H vs Q E hr hsp => ?_)
  · obtain ⟨a, ns, rfl, _⟩ := h
    rfl
  · obtain ⟨a, ns, rfl, hS, hl, q⟩ := hsp
    exact ⟨_, hb cdv A outer s H E hr, law_read hN hS (h ns hl) q⟩
def Df.mk' {K : PySem.W.Frag} {mg : Mg} {h : Heap} {x : Str} {st : Stmt} {ps : List Str} {f : Addr} {oc : Value} {od an : Option Addr} {osl : Array (Option Value)} {kV doc pm cdv ct : Value} (G : h.Ns mainGlobals mg) (X : K.In h)
    (a : PySem.W.nsIn K mainGlobals x = some (some (.ref f))) (l : K.lookup f = some ⟨oc, od, .func (PySem.W.fnOf x x (defArgs st) (defBody st) (defScope st) .none kV doc pm an cdv ct), osl⟩)
    (c : PySem.W.codeIn K cdv x = true) (k : PySem.W.keepIn K (.ref f) = true)
    (h : ∀ (kV doc pm : Value) (an : Option Addr) (cdv ct : Value) (us : List Value), us.length = ps.length → bindArgs (PySem.W.fnOf x x (defArgs st) (defBody st) (defScope st) .none kV doc pm an cdv ct) ⟨us, []⟩ = pure (ps.zip us)) : Df K mg x st ps :=
  ⟨f, _, fun_mk l c k, PySem.W.mg_of X G a, k, (fun_mk (st := st) l c k).binds h⟩
theorem walkLaw {l : PySem.W.OpenLaw} {q : Program} {loose : List Str} {XP : (Str → Option Value) → Heap → Prop} {YP : World → Heap → Prop} {d : DefRec} {K : Params → PySem.W.Frag} {k : Nat} (hr : Room k callerA) (hn : l.most = some 63) (hdf : d.params.defaults = [])
    (hY : ∀ (w : World) (h : Heap), YP w h → (K w.params).In h)
    (F : ∀ (w : World) (mg : Str → Option Value) (fa : Addr) (h : Heap), (K w.params).In h → h.Ns mainGlobals mg → mg d.name = some (.ref fa) →
      ∃ fd : FuncData, (∀ (s : Shared) (u : Value), BindsTo s fd ⟨[u], []⟩ [("script", u)]) ∧ ∀ base : Heap, (K w.params).In base → base.Ns mainGlobals mg → FnOk l.prog w (K w.params) mg base (L2.CX l.prog w) k fa fd ["script"] (spLaw (K w.params))) :
    PySem.W.WalkO q loose XP YP l.row.toRowW d [] (fun f vs => PySem.call f vs) :=
  L2.walk_of (n := 63) (k := k) (x := "script") (CX := fun w => L2.CX l.prog w) (sp := fun w => spLaw (K w.params)) hn (by decide) hdf hr hY F (fun _ _ a ns hl _ hS => ⟨a, ns, rfl, hS, hl, fun _ => rfl⟩) fun w H s e s' h => by
    obtain ⟨_, _, _, _, _, _, _, _, _, _, _, _, z⟩ := h
    exact z
end Mi
namespace Mi
open PySem L2
/-! ### what a computation comes to -/
def okE {α : Type} (r : Except Er (α × Gm)) (P : α → Gm → Prop) (X : String → Gm → Prop) : Prop := match r with
  | .ok (a, g) => P a g
  | .error (.exc c g) => X c g
  | .error .stuck => False
def okP (r : Except Er PyData) (P : PyData → Prop) (X : String → Prop) : Prop := match r with
  | .ok d => P d
  | .error (.exc c _) => X c
  | .error .stuck => False
def okS (r : Except Er (PyData × PyData)) (P : PyData → PyData → Prop) (X : String → Prop) : Prop := match r with
  | .ok (d, s) => P d s
  | .error (.exc c _) => X c
  | .error .stuck => False
/-- an option that is there -/
def okO {α : Type} (o : Option α) (P : α → Prop) : Prop := match o with
  | some a => P a
  | none => False
def ev {α : Type} (m : MM α) (g : Gm) (P : α → Gm → Prop) (X : String → Gm → Prop) : Prop := okE (m g) P X
def svO (o : Out) (P : Out → Prop) : Prop := match o with
  | .stuck => False
  | o => P o
def sv (b : Gm → Out) (g : Gm) (P : Out → Prop) : Prop := svO (b g) P
section
variable {α β : Type} {m : MM α} {f : α → MM β} {g : Gm} {P : β → Gm → Prop} {X : String → Gm → Prop} {ma mb mc : MM PyData} {mas : MM (List PyData)} {Q : PyData → Gm → Prop} {QL : List PyData → Gm → Prop} {QB : Bool → Gm → Prop} {tA tB : MM Bool}
@[simp ↓] theorem okP_ok {d : PyData} {P : PyData → Prop} {X : String → Prop} : okP (.ok d) P X ↔ P d := Iff.rfl
@[simp ↓] theorem okS_ok {d s : PyData} {P : PyData → PyData → Prop} {X : String → Prop} : okS (.ok (d, s)) P X ↔ P d s := Iff.rfl
@[simp ↓] theorem okP_exc {c : String} {g : Gm} {P : PyData → Prop} {X : String → Prop} : okP (.error (.exc c g)) P X ↔ X c := Iff.rfl
@[simp ↓] theorem okO_some {a : α} {P : α → Prop} : okO (some a) P ↔ P a := Iff.rfl
@[simp ↓] theorem okO_none {P : α → Prop} : okO (none : Option α) P ↔ False := Iff.rfl
@[simp ↓] theorem ev_bnd : ev (bnd m f) g P X ↔ ev m g (fun a g' => ev (f a) g' P X) X := by
  unfold ev bnd okE
  generalize m g = r
  rcases r with (_ | ⟨c, g'⟩) | ⟨a, g'⟩ <;> exact Iff.rfl
@[simp ↓] theorem ev_ret {a : α} {P : α → Gm → Prop} : ev (Mi.ret a) g P X ↔ P a g := Iff.rfl
@[simp ↓] theorem ev_lft {o : Option α} {P : α → Gm → Prop} : ev (lft o) g P X ↔ okO o fun a => P a g := by
  unfold ev lft okE okO
  cases o <;> exact Iff.rfl
theorem ev_pkV {i : Nat} : ev (pkV i) g Q X ↔ match g[i]? with | some (.dat d) => Q d g | some (.own _ d) => Q d g | _ => False := by
  unfold ev pkV okE
  generalize g[i]? = s
  rcases s with _ | (_ | d | ⟨t, d⟩) <;> exact Iff.rfl
@[simp ↓] theorem ev_op1 {f : PyData → Option PyData} : ev (op1 f ma) g Q X ↔ ev ma g (fun d g1 => okO (f d) fun z => Q z g1) X := by simp [op1]
@[simp ↓] theorem ev_op2 {f : PyData → PyData → Option PyData} : ev (op2 f ma mb) g Q X ↔ ev ma g (fun d g1 => ev mb g1 (fun e g2 => okO (f d e) fun z => Q z g2) X) X := by simp [op2]
theorem ev_pk2 {i : Nat} {h : MM PyData} : ev (bnd (pkV i) fun _ => h) g Q X ↔ (match g[i]? with | some (.dat _) => True | some (.own _ _) => True | _ => False) ∧ ev h g Q X := by
  rw [ev_bnd, ev_pkV]
  generalize g[i]? = s
  rcases s with _ | (_ | d | ⟨t, d⟩) <;> simp
@[simp ↓] theorem ev_op2V {f : PyData → PyData → Option PyData} {i : Nat} : ev (op2V f i mb) g Q X ↔ ev (pkV i) g (fun _ _ => True) X ∧ ev mb g (fun e g2 => ev (pkV i) g2 (fun d g3 => okO (f d e) fun z => Q z g3) X) X := by
  unfold op2V
  rw [ev_pk2, ev_pkV]
  generalize g[i]? = s
  rcases s with _ | (_ | d | ⟨t, d⟩) <;> simp
@[simp ↓] theorem ev_tru : ev (tru ma) g QB X ↔ ev ma g (fun d g1 => okO (truD d) fun z => QB z g1) X := by simp [tru]
@[simp ↓] theorem ev_andT : ev (andT tA tB) g QB X ↔ ev tA g (fun c g1 => if c = true then ev tB g1 QB X else QB false g1) X := by
  simp only [andT, ev_bnd]
  refine iff_of_eq (congrArg (fun h => ev tA g h X) ?_)
  funext c g1
  cases c <;> simp
@[simp ↓] theorem ev_orT : ev (orT tA tB) g QB X ↔ ev tA g (fun c g1 => if c = true then QB true g1 else ev tB g1 QB X) X := by
  simp only [orT, ev_bnd]
  refine iff_of_eq (congrArg (fun h => ev tA g h X) ?_)
  funext c g1
  cases c <;> simp
@[simp ↓] theorem ev_notT : ev (notT tA) g QB X ↔ ev tA g (fun c g1 => QB (!c) g1) X := by simp [notT]
@[simp ↓] theorem ev_notV : ev (notV ma) g Q X ↔ ev ma g (fun d g1 => okO (truD d) fun c => Q (.bool (!c)) g1) X := by simp [notV]
@[simp ↓] theorem ev_andV : ev (andV ma mb) g Q X ↔ ev ma g (fun d g1 => okO (truD d) fun c => if c = true then ev mb g1 Q X else Q d g1) X := by
  simp only [andV, ev_bnd, ev_lft]
  refine iff_of_eq (congrArg (fun h => ev ma g h X) ?_)
  funext d g1
  refine congrArg (okO (truD d)) ?_
  funext c
  cases c <;> simp
@[simp ↓] theorem ev_orV : ev (orV ma mb) g Q X ↔ ev ma g (fun d g1 => okO (truD d) fun c => if c = true then Q d g1 else ev mb g1 Q X) X := by
  simp only [orV, ev_bnd, ev_lft]
  refine iff_of_eq (congrArg (fun h => ev ma g h X) ?_)
  funext d g1
  refine congrArg (okO (truD d)) ?_
  funext c
  cases c <;> simp
@[simp ↓] theorem ev_ifM {a b : MM α} {P : α → Gm → Prop} : ev (ifM tA a b) g P X ↔ ev tA g (fun c g1 => if c = true then ev a g1 P X else ev b g1 P X) X := by
  simp only [ifM, ev_bnd]
  refine iff_of_eq (congrArg (fun h => ev tA g h X) ?_)
  funext c g1
  cases c <;> simp
@[simp ↓] theorem ev_tstM : ev (tstM ma) g QB X ↔ ev ma g (fun d g1 => match d with | .bool b => QB b g1 | _ => False) X := by
  simp only [tstM, ev_bnd]
  refine iff_of_eq (congrArg (fun h => ev ma g h X) ?_)
  funext d g1
  cases d <;> simp
@[simp ↓] theorem ev_nilM : ev nilM g QL X ↔ QL [] g := Iff.rfl
@[simp ↓] theorem ev_consM : ev (consM ma mas) g QL X ↔ ev ma g (fun d g1 => ev mas g1 (fun ds g2 => QL (d :: ds) g2) X) X := by simp [consM]
@[simp ↓] theorem ev_tupM : ev (tupM mas) g Q X ↔ ev mas g (fun ds g1 => ds.length ≤ sizeLine ∧ Q (.tuple ds) g1) X := by
  simp only [tupM, ev_bnd, ev_lft]
  refine iff_of_eq (congrArg (fun h => ev mas g h X) ?_)
  funext ds g1
  by_cases h : ds.length ≤ sizeLine <;> simp [h]
@[simp ↓] theorem ev_lstM : ev (lstM mas) g Q X ↔ ev mas g (fun ds g1 => ds.length ≤ sizeLine ∧ Q (.list ds) g1) X := by
  simp only [lstM, ev_bnd, ev_lft]
  refine iff_of_eq (congrArg (fun h => ev mas g h X) ?_)
  funext ds g1
  by_cases h : ds.length ≤ sizeLine <;> simp [h]
@[simp ↓] theorem ev_lstO : ev (lstO mas) g Q X ↔ ev mas g (fun ds g1 => Q (.list ds) g1) X := by simp [lstO]
@[simp ↓] theorem ev_noneO {P : Option Int → Gm → Prop} : ev noneO g P X ↔ P none g := Iff.rfl
@[simp ↓] theorem ev_someO {P : Option Int → Gm → Prop} : ev (someO ma) g P X ↔ ev ma g (fun d g1 => match d with | .int i => P (some i) g1 | _ => False) X := by
  simp only [someO, ev_bnd]
  refine iff_of_eq (congrArg (fun h => ev ma g h X) ?_)
  funext d g1
  cases d <;> simp
@[simp ↓] theorem ev_slM {f : PyData → Option Int → Option Int → Option PyData} {l u : MM (Option Int)} : ev (slM f ma l u) g Q X ↔ ev ma g (fun d g1 => ev l g1 (fun i g2 => ev u g2 (fun j g3 => okO (f d i j) fun z => Q z g3) X) X) X := by simp [slM]
@[simp ↓] theorem ev_slMV {f : PyData → Option Int → Option Int → Option PyData} {l u : MM (Option Int)} {n : Nat} : ev (slMV f n l u) g Q X ↔ ev (pkV n) g (fun _ _ => True) X ∧ ev l g (fun i g2 => ev u g2 (fun j g3 => ev (pkV n) g3 (fun d g4 => okO (f d i j) fun z => Q z g4) X) X) X := by
  unfold slMV
  rw [ev_pk2, ev_pkV]
  generalize g[n]? = s
  rcases s with _ | (_ | d | ⟨t, d⟩) <;> simp
@[simp ↓] theorem ev_chainM {f f' : PyData → PyData → Option PyData} : ev (chainM f f' ma mb mc) g Q X ↔ ev ma g (fun d g1 => ev mb g1 (fun e g2 => okO (f d e) fun z => match z with
    | .bool true => ev mc g2 (fun h g3 => okO (f' e h) fun y => Q y g3) X
    | .bool false => Q (.bool false) g2
    | _ => False) X) X := by
  simp only [chainM, ev_bnd, ev_lft]
  refine iff_of_eq (congrArg (fun h => ev ma g h X) ?_)
  funext d g1
  refine congrArg (fun h => ev mb g1 h X) ?_
  funext e g2
  refine congrArg (okO (f d e)) ?_
  funext z
  cases z with
  | bool b => cases b <;> simp
  | _ => simp
@[simp ↓] theorem ev_isiM {T : String} : ev (isiM T ma) g Q X ↔ ev ma g (fun d g1 => Q (.bool (isaD T d)) g1) X := by simp [isiM]
@[simp ↓] theorem ev_isi2M {S T : String} : ev (isi2M S T ma) g Q X ↔ ev ma g (fun d g1 => Q (.bool (isaD S d || isaD T d)) g1) X := by simp [isi2M]
@[simp ↓] theorem ev_callM {m : List PyData → Except Er PyData} : ev (callM m mas) g Q X ↔ ev mas g (fun ds g1 => okP (m ds) (fun d => Q d g1) fun c => X c g1) X := by
  unfold ev okE callM bnd okP
  generalize mas g = r
  rcases r with (_ | ⟨c, g'⟩) | ⟨ds, g'⟩
  · rfl
  · rfl
  · simp only
    generalize m ds = r
    rcases r with (_ | ⟨c, _⟩) | d <;> rfl
theorem ev_callS {m : PyData → List PyData → Except Er (PyData × PyData)} {i : Nat} : ev (callS m i mas) g Q X ↔ (∃ t s, g[i]? = some (.own t s)) ∧ ev mas g (fun ds g1 => match g1[i]? with
    | some (.own t s) => okS (m s ds) (fun d s' => Q d (g1.set i (.own t s'))) fun c => X c (g1.set i .dead)
    | _ => False) X := by
  unfold callS
  rw [ev_bnd]
  have h1 : ∀ P : Unit → Gm → Prop, ev (chkO i) g P X ↔ (∃ t s, g[i]? = some (.own t s)) ∧ P () g := by
    intro P
    unfold ev chkO okE
    generalize g[i]? = s
    rcases s with _ | (_ | d | ⟨t, d⟩) <;> simp
  rw [h1]
  refine and_congr Iff.rfl ?_
  unfold ev okE bnd okS
  generalize mas g = r
  rcases r with (_ | ⟨c, g'⟩) | ⟨ds, g'⟩
  · rfl
  · rfl
  · simp only
    generalize g'[i]? = s
    rcases s with _ | (_ | d | ⟨t, d⟩)
    · rfl
    · rfl
    · rfl
    · simp only
      generalize m d ds = r
      rcases r with (_ | ⟨c, _⟩) | ⟨d, s'⟩ <;> rfl
theorem ev_mono {P P' : α → Gm → Prop} {m : MM α} (h : ev m g P X) (i : ∀ a g', P a g' → P' a g') : ev m g P' X := by
  unfold ev okE at h ⊢
  generalize m g = r at h
  rcases r with (_ | ⟨c, g'⟩) | ⟨a, g'⟩
  · exact h
  · exact h
  · exact i _ _ h
/-! statements -/
variable {a b : Gm → Out} {PO : Out → Prop}
@[simp ↓] theorem svO_nx {g : Gm} : svO (.nx g) PO ↔ PO (.nx g) := Iff.rfl
@[simp ↓] theorem svO_rt {d : PyData} {g : Gm} : svO (.rt d g) PO ↔ PO (.rt d g) := Iff.rfl
@[simp ↓] theorem svO_ex {c : String} {g : Gm} : svO (.ex c g) PO ↔ PO (.ex c g) := Iff.rfl
@[simp ↓] theorem svO_stuck : svO .stuck PO ↔ False := Iff.rfl
@[simp ↓] theorem sv_nxS : sv nxS g PO ↔ PO (.nx g) := Iff.rfl
@[simp ↓] theorem sv_raiseS {c : String} : sv (raiseS c) g PO ↔ PO (.ex c g) := Iff.rfl
@[simp ↓] theorem sv_bkS : sv bkS g PO ↔ PO (.bk g) := Iff.rfl
@[simp ↓] theorem sv_ctS : sv ctS g PO ↔ PO (.ct g) := Iff.rfl
@[simp ↓] theorem sv_seqS : sv (seqS a b) g PO ↔ sv a g fun o => match o with | .nx g' => sv b g' PO | o => PO o := by
  unfold sv seqS svO
  generalize a g = o
  cases o <;> exact Iff.rfl
theorem sv_onE {m : MM α} {k : α → Gm → Out} : svO (onE (m g) k) PO ↔ ev m g (fun a g' => svO (k a g') PO) fun c g' => PO (.ex c g') := by
  unfold onE ev okE
  generalize m g = r
  rcases r with (_ | ⟨c, g'⟩) | ⟨a, g'⟩ <;> exact Iff.rfl
@[simp ↓] theorem sv_dropS : sv (dropS ma) g PO ↔ ev ma g (fun _ g' => PO (.nx g')) fun c g' => PO (.ex c g') := sv_onE
@[simp ↓] theorem sv_retS : sv (retS ma) g PO ↔ ev ma g (fun d g' => PO (.rt d g')) fun c g' => PO (.ex c g') := sv_onE
@[simp ↓] theorem sv_setS {i : Nat} : sv (setS i ma) g PO ↔ ev ma g (fun d g' => PO (.nx (g'.set i (.dat d)))) fun c g' => PO (.ex c g') := sv_onE
@[simp ↓] theorem sv_setC {i : Nat} : sv (setC i mas) g PO ↔ ev mas g (fun d g' => PO (.nx (g'.set i (.own false (.list d))))) fun c g' => PO (.ex c g') := sv_onE
@[simp ↓] theorem sv_ifS : sv (ifS tA a b) g PO ↔ ev tA g (fun c g' => if c = true then sv a g' PO else sv b g' PO) fun c g' => PO (.ex c g') := by
  unfold sv ifS
  rw [sv_onE]
  refine iff_of_eq (congrArg (fun h => ev tA g h _) ?_)
  funext c g'
  cases c <;> simp [sv]
@[simp ↓] theorem sv_setL {i : Nat} : sv (setL i mas) g PO ↔ ev mas g (fun ds g' => ds.length ≤ sizeLine ∧ PO (.nx (g'.set i (.own false (.list ds))))) fun c g' => PO (.ex c g') := by
  unfold sv setL
  rw [sv_onE]
  refine iff_of_eq (congrArg (fun h => ev mas g h _) ?_)
  funext ds g'
  by_cases h : ds.length ≤ sizeLine <;> simp [h]
@[simp ↓] theorem sv_asgS {bt : PyData → Gm → Option Gm} : sv (asgS bt ma) g PO ↔ ev ma g (fun d g' => okO (bt d g') fun g2 => PO (.nx g2)) fun c g' => PO (.ex c g') := by
  unfold sv asgS
  rw [sv_onE]
  refine iff_of_eq (congrArg (fun h => ev ma g h _) ?_)
  funext d g'
  cases bt d g' <;> simp
@[simp ↓] theorem sv_parS {i j : Nat} : sv (parS i j ma mb) g PO ↔ ev ma g (fun d g1 => ev mb g1 (fun e g2 => PO (.nx ((g2.set i (.dat d)).set j (.dat e)))) fun c g' => PO (.ex c g')) fun c g' => PO (.ex c g') := by
  unfold sv parS
  rw [sv_onE]
  simp
@[simp ↓] theorem sv_forS {mi : MM (List PyData)} {bt : PyData → Gm → Option Gm} : sv (forS mi bt a) g PO ↔ ev mi g (fun ds g' => svO (forL bt a ds g') PO) fun c g' => PO (.ex c g') := sv_onE
@[simp ↓] theorem svO_for_nil {bt : PyData → Gm → Option Gm} : svO (forL bt a [] g) PO ↔ PO (.nx g) := Iff.rfl
theorem svO_for_cons {bt : PyData → Gm → Option Gm} {d : PyData} {ds : List PyData} : svO (forL bt a (d :: ds) g) PO ↔ okO (bt d g) fun g1 => sv a g1 fun o => match o with
    | .nx g2 => svO (forL bt a ds g2) PO
    | .ct g2 => svO (forL bt a ds g2) PO
    | .bk g2 => PO (.nx g2)
    | o => PO o := by
  have e : forL bt a (d :: ds) g = (match bt d g with
    | none => .stuck
    | some g1 => match a g1 with
      | .nx g2 => forL bt a ds g2
      | .ct g2 => forL bt a ds g2
      | .bk g2 => .nx g2
      | .rt d g2 => .rt d g2
      | .ex c g2 => .ex c g2
      | .stuck => .stuck) := rfl
  rw [e]
  cases bt d g with
  | none => exact Iff.rfl
  | some g1 =>
    simp only [okO_some]
    unfold sv
    generalize a g1 = o
    cases o <;> exact Iff.rfl
theorem sv_while {n : Nat} : sv (whileL tA a (n + 1)) g PO ↔ ev tA g (fun t g1 => if t = true then (sv a g1 fun o => match o with
    | .nx g2 => sv (whileL tA a n) g2 PO
    | .ct g2 => sv (whileL tA a n) g2 PO
    | .bk g2 => PO (.nx g2)
    | o => PO o) else PO (.nx g1)) fun c g' => PO (.ex c g') := by
  show svO (onE _ _) PO ↔ _
  rw [sv_onE]
  refine iff_of_eq (congrArg (fun h => ev tA g h _) ?_)
  funext t g1
  cases t with
  | false => simp
  | true =>
    simp only [if_true]
    unfold sv
    generalize a g1 = o
    cases o <;> rfl
@[simp ↓] theorem ev_seqI : ev (seqI ma) g QL X ↔ ev ma g (fun d g1 => okO (itemsD d) fun ds => QL ds g1) X := by simp [seqI]
@[simp ↓] theorem ev_rng1 : ev (rng1 ma) g QL X ↔ ev ma g (fun d g1 => match d with | .int j => (-(2 ^ 62) ≤ j ∧ j < 2 ^ 62) ∧ QL (rngD 0 j) g1 | _ => False) X := by
  simp only [rng1, ev_bnd]
  refine iff_of_eq (congrArg (fun h => ev ma g h X) ?_)
  funext d g1
  cases d with
  | int j =>
    by_cases h : -(2 ^ 62) ≤ j ∧ j < 2 ^ 62
    · simp only [if_pos h, h, true_and]; rfl
    · simp only [if_neg h, h, false_and]; rfl
  | _ => simp
@[simp ↓] theorem ev_rng2 : ev (rng2 ma mb) g QL X ↔ ev ma g (fun d g1 => ev mb g1 (fun e g2 => match d, e with | .int i, .int j => (-(2 ^ 62) ≤ i ∧ i < 2 ^ 62 ∧ -(2 ^ 62) ≤ j ∧ j < 2 ^ 62) ∧ QL (rngD i j) g2 | _, _ => False) X) X := by
  simp only [rng2, ev_bnd]
  refine iff_of_eq (congrArg (fun h => ev ma g h X) ?_)
  funext d g1
  refine congrArg (fun h => ev mb g1 h X) ?_
  funext e g2
  cases d with
  | int i =>
    cases e with
    | int j =>
      by_cases h : -(2 ^ 62) ≤ i ∧ i < 2 ^ 62 ∧ -(2 ^ 62) ≤ j ∧ j < 2 ^ 62
      · simp only [if_pos h, h, true_and]; rfl
      · simp only [if_neg h, h, false_and]; rfl
    | _ => simp
  | _ => cases e <;> simp
theorem ev_chkL {i : Nat} {P : Unit → Gm → Prop} : ev (chkL i) g P X ↔ (match g[i]? with | some (.own _ (.list _)) => P () g | _ => False) := by
  unfold ev chkL okE
  generalize g[i]? = s
  rcases s with _ | (_ | d | ⟨t, d⟩)
  · rfl
  · rfl
  · rfl
  · cases d <;> rfl
theorem ev_appM {i : Nat} : ev (appM i ma) g Q X ↔ (match g[i]? with | some (.own _ (.list _)) => True | _ => False) ∧ ev ma g (fun d g1 => match g1[i]? with
    | some (.own t (.list ds)) => ds.length < sizeLine ∧ Q .none (g1.set i (.own t (.list (ds ++ [d]))))
    | _ => False) X := by
  unfold appM
  rw [ev_bnd, ev_chkL]
  have h : ∀ (P : Prop), (match g[i]? with | some (.own _ (.list _)) => P | _ => False) ↔ (match g[i]? with | some (.own _ (.list _)) => True | _ => False) ∧ P := by
    intro P
    generalize g[i]? = s
    rcases s with _ | (_ | d | ⟨t, d⟩)
    · simp
    · simp
    · simp
    · cases d <;> simp
  rw [h]
  refine and_congr Iff.rfl ?_
  unfold ev bnd okE
  generalize ma g = r
  rcases r with (_ | ⟨c, g'⟩) | ⟨d, g'⟩
  · rfl
  · rfl
  · simp only
    generalize g'[i]? = s
    rcases s with _ | (_ | e | ⟨t, e⟩)
    · rfl
    · rfl
    · rfl
    · cases e with
      | list ds =>
        by_cases h : ds.length < sizeLine
        · simp only [h, if_true, true_and]
        · simp only [h, if_false, false_and]
      | _ => rfl
theorem sv_stoS {i : Nat} {mk : MM PyData} : sv (stoS i mk ma) g PO ↔ ev ma g (fun d g1 => (match g1[i]? with | some (.own _ (.list _)) => True | _ => False) ∧ ev mk g1 (fun j g2 => match g2[i]?, j with
    | some (.own t (.list ds)), .int j => okO (L2.ixN ds.length j) fun n => PO (.nx (g2.set i (.own t (.list (ds.set n d)))))
    | _, _ => False) fun c g' => PO (.ex c g')) fun c g' => PO (.ex c g') := by
  unfold sv stoS
  rw [sv_onE, ev_bnd]
  refine iff_of_eq (congrArg (fun h => ev ma g h _) ?_)
  funext d g1
  rw [ev_bnd, ev_chkL]
  have h : ∀ (P : Prop), (match g1[i]? with | some (.own _ (.list _)) => P | _ => False) ↔ (match g1[i]? with | some (.own _ (.list _)) => True | _ => False) ∧ P := by
    intro P
    generalize g1[i]? = s
    rcases s with _ | (_ | d | ⟨t, d⟩)
    · simp
    · simp
    · simp
    · cases d <;> simp
  rw [h, ev_bnd]
  refine propext (and_congr Iff.rfl ?_)
  refine iff_of_eq (congrArg (fun h => ev mk g1 h _) ?_)
  funext j g2
  simp only [ev_ret]
  generalize g2[i]? = s
  rcases s with _ | (_ | e | ⟨t, e⟩)
  · simp
  · simp
  · simp
  · cases e with
    | list ds =>
      cases j with
      | int j =>
        simp only
        cases L2.ixN ds.length j <;> simp
      | _ => simp
    | _ => cases j <;> simp
end
theorem okP_runP {N n : Nat} {b : Gm → Out} {ds : List PyData} {P : PyData → Prop} {X : String → Prop} : okP (runP N n b ds) P X ↔ ds.length = n ∧ sv b (ds.map .dat ++ List.replicate (N - n) .dead) fun o => match o with
    | .rt d _ => P d
    | .nx _ => P .none
    | .ex c _ => X c
    | _ => False := by
  unfold runP
  by_cases h : ds.length = n
  · simp only [if_pos h, h, true_and]
    unfold sv
    generalize b (ds.map .dat ++ List.replicate (N - n) .dead) = o
    cases o <;> rfl
  · simp only [if_neg h, h, false_and]
    rfl
theorem okS_runS {N n : Nat} {b : Gm → Out} {s : PyData} {ds : List PyData} {P : PyData → PyData → Prop} {X : String → Prop} : okS (runS N n b s ds) P X ↔ ds.length + 1 = n ∧ sv b (.own true s :: (ds.map .dat ++ List.replicate (N - n) .dead)) fun o => match o with
    | .rt d g => (match g[0]? with | some (Sl.own true s') => P d s' | _ => False)
    | .nx g => (match g[0]? with | some (Sl.own true s') => P .none s' | _ => False)
    | .ex c _ => X c
    | _ => False := by
  unfold runS
  by_cases h : ds.length + 1 = n
  · simp only [if_pos h, h, true_and]
    unfold sv
    generalize b (.own true s :: (ds.map .dat ++ List.replicate (N - n) .dead)) = o
    cases o with
    | rt d g =>
      simp only [svO_rt]
      generalize g[0]? = e
      rcases e with _ | (_ | d | ⟨_ | _, d⟩) <;> rfl
    | nx g =>
      simp only [svO_nx]
      generalize g[0]? = e
      rcases e with _ | (_ | d | ⟨_ | _, d⟩) <;> rfl
    | _ => rfl
  · simp only [if_neg h, h, false_and]
    rfl
theorem of_okP {r : Except Er PyData} {d : PyData} (h : okP r (fun x => x = d) fun _ => False) : r = .ok d := by
  rcases r with (_ | ⟨c, _⟩) | e
  · exact h.elim
  · exact h.elim
  · have h' : e = d := h
    rw [h']
end Mi
namespace Mi
open PySem L2
/-- what is owned at slot i -/
def atO (g : Gm) (i : Nat) (k : Bool → PyData → Prop) : Prop := match g[i]? with
  | some (.own t s) => k t s
  | _ => False
def listOf : PyData → Option (List PyData)
  | .list ds => some ds
  | _ => none
section
variable {α : Type} {g : Gm} {l : Gm} {X : String → Gm → Prop} {ma mb : MM PyData} {mas : MM (List PyData)} {Q : PyData → Gm → Prop} {PO : Out → Prop} {d e : PyData} {t : Bool} {k : Bool → PyData → Prop}
@[simp ↓] theorem ev_callS' {m : PyData → List PyData → Except Er (PyData × PyData)} {i : Nat} : ev (callS m i mas) g Q X ↔ atO g i (fun _ _ => True) ∧ ev mas g (fun ds g1 => atO g1 i fun t s => okS (m s ds) (fun d s' => Q d (g1.set i (.own t s'))) fun c => X c (g1.set i .dead)) X := by
  rw [ev_callS]
  unfold atO
  refine and_congr ?_ (iff_of_eq (congrArg (fun h => ev mas g h X) ?_))
  · generalize g[i]? = s
    rcases s with _ | (_ | d | ⟨t, d⟩) <;> simp
  · funext ds g1
    generalize g1[i]? = s
    rcases s with _ | (_ | d | ⟨t, d⟩) <;> rfl
@[simp ↓] theorem okO_listOf {ds : List PyData} {P : List PyData → Prop} : okO (listOf (.list ds)) P ↔ P ds := Iff.rfl
@[simp ↓] theorem ev_appM' {i : Nat} : ev (appM i ma) g Q X ↔ (atO g i fun _ d => okO (listOf d) fun _ => True) ∧ ev ma g (fun d g1 => atO g1 i fun t s => okO (listOf s) fun ds => ds.length < sizeLine ∧ Q .none (g1.set i (.own t (.list (ds ++ [d]))))) X := by
  rw [ev_appM]
  unfold atO
  refine and_congr ?_ (iff_of_eq (congrArg (fun h => ev ma g h X) ?_))
  · generalize g[i]? = s
    rcases s with _ | (_ | d | ⟨t, d⟩)
    · rfl
    · rfl
    · rfl
    · cases d <;> rfl
  · funext d g1
    generalize g1[i]? = s
    rcases s with _ | (_ | e | ⟨t, e⟩)
    · rfl
    · rfl
    · rfl
    · cases e <;> rfl
@[simp ↓] theorem sv_stoS' {i : Nat} {mk : MM PyData} : sv (stoS i mk ma) g PO ↔ ev ma g (fun d g1 => (atO g1 i fun _ s => okO (listOf s) fun _ => True) ∧ ev mk g1 (fun j g2 => atO g2 i fun t s => okO (listOf s) fun ds => match j with
    | .int j => okO (L2.ixN ds.length j) fun n => PO (.nx (g2.set i (.own t (.list (ds.set n d)))))
    | _ => False) fun c g' => PO (.ex c g')) fun c g' => PO (.ex c g') := by
  rw [sv_stoS]
  unfold atO
  refine iff_of_eq (congrArg (fun h => ev ma g h _) ?_)
  funext d g1
  refine propext (and_congr ?_ (iff_of_eq (congrArg (fun h => ev mk g1 h _) ?_)))
  · generalize g1[i]? = s
    rcases s with _ | (_ | d | ⟨t, d⟩)
    · rfl
    · rfl
    · rfl
    · cases d <;> rfl
  · funext j g2
    generalize g2[i]? = s
    rcases s with _ | (_ | e | ⟨t, e⟩)
    · rfl
    · rfl
    · rfl
    · cases e <;> cases j <;> rfl
@[simp ↓] theorem sv_augI {f : PyData → PyData → Option PyData} {i : Nat} {mk : MM PyData} : sv (augI f i mk ma) g PO ↔ (atO g i fun _ s => okO (listOf s) fun _ => True) ∧ ev mk g (fun j g1 => atO g1 i fun _ s => okO (listOf s) fun ds => match j with
    | .int j => okO (L2.ixN ds.length j) fun _ => okO (L2.atI ds j) fun old => ev ma g1 (fun e g2 => okO (f old e) fun z => atO g2 i fun t s => okO (listOf s) fun ds => okO (L2.ixN ds.length j) fun n => PO (.nx (g2.set i (.own t (.list (ds.set n z)))))) fun c g' => PO (.ex c g')
    | _ => False) fun c g' => PO (.ex c g') := by
  unfold sv augI
  rw [sv_onE, ev_bnd]
  have hc : ∀ (P : Unit → Gm → Prop) (X : String → Gm → Prop), ev (chkL i) g P X ↔ (atO g i fun _ s => okO (listOf s) fun _ => True) ∧ P () g := by
    intro P X
    rw [ev_chkL]
    unfold atO
    generalize g[i]? = s
    rcases s with _ | (_ | d | ⟨t, d⟩)
    · simp
    · simp
    · simp
    · cases d <;> simp [listOf, okO]
  rw [hc, ev_bnd]
  refine and_congr Iff.rfl (iff_of_eq (congrArg (fun h => ev mk g h _) ?_))
  funext j g1
  have ho : ∀ (P : PyData → Gm → Prop) (X : String → Gm → Prop), ev (pkO i) g1 P X ↔ atO g1 i fun _ s => P s g1 := by
    intro P X
    unfold ev pkO okE atO
    generalize g1[i]? = s
    rcases s with _ | (_ | d | ⟨t, d⟩) <;> rfl
  rw [ev_bnd, ho]
  unfold atO
  generalize g1[i]? = s
  rcases s with _ | (_ | w | ⟨t, w⟩)
  · rfl
  · rfl
  · rfl
  · cases w with
    | list ws =>
      cases j with
      | int j =>
        simp only [listOf, okO_some]
        refine propext ?_
        cases L2.ixN ws.length j with
        | none => simp
        | some n =>
          cases L2.atI ws j with
          | none => simp
          | some old =>
            simp only [okO_some, ev_bnd, ev_lft, ev_ret]
            refine iff_of_eq (congrArg (fun h => ev ma g1 h _) ?_)
            funext e g2
            refine congrArg (okO (f old e)) ?_
            funext z
            generalize g2[i]? = s
            rcases s with _ | (_ | w | ⟨t, w⟩)
            · simp
            · simp
            · simp
            · cases w with
              | list us =>
                simp only [listOf, okO_some]
                cases L2.ixN us.length j <;> simp
              | _ => simp [listOf]
      | _ => simp [listOf]
    | _ => cases j <;> simp [listOf]
@[simp ↓] theorem ev_rd_0_d : ev (rdV 0) (.dat d :: l) Q X ↔ Q d (.dat d :: l) := Iff.rfl
@[simp ↓] theorem ev_rd_0_o : ev (rdV 0) (.own t d :: l) Q X ↔ Q d (.dat d :: l) := Iff.rfl
@[simp ↓] theorem ev_pk_0_d : ev (pkV 0) (.dat d :: l) Q X ↔ Q d (.dat d :: l) := Iff.rfl
@[simp ↓] theorem ev_pk_0_o : ev (pkV 0) (.own t d :: l) Q X ↔ Q d (.own t d :: l) := Iff.rfl
@[simp ↓] theorem at_0 : atO (.own t d :: l) 0 k ↔ k t d := Iff.rfl
@[simp ↓] theorem ev_set_0 {P : α → Gm → Prop} {m : MM α} {x : Sl} {s0 : Sl} : ev m (List.set (s0 :: l) 0 x) P X ↔ ev m (x :: l) P X := Iff.rfl
@[simp ↓] theorem sv_set_0 {b : Gm → Out} {x : Sl} {s0 : Sl} : sv b (List.set (s0 :: l) 0 x) PO ↔ sv b (x :: l) PO := Iff.rfl
@[simp ↓] theorem at_set_0 {x : Sl} {s0 : Sl} {j : Nat} : atO (List.set (s0 :: l) 0 x) j k ↔ atO (x :: l) j k := Iff.rfl
@[simp ↓] theorem for_set_0 {bt : PyData → Gm → Option Gm} {b : Gm → Out} {ds : List PyData} {x : Sl} {s0 : Sl} : svO (forL bt b ds (List.set (s0 :: l) 0 x)) PO ↔ svO (forL bt b ds (x :: l)) PO := Iff.rfl
@[simp ↓] theorem ev_rd_1_d {s0 : Sl} : ev (rdV 1) (s0 :: .dat d :: l) Q X ↔ Q d (s0 :: .dat d :: l) := Iff.rfl
@[simp ↓] theorem ev_rd_1_o {s0 : Sl} : ev (rdV 1) (s0 :: .own t d :: l) Q X ↔ Q d (s0 :: .dat d :: l) := Iff.rfl
@[simp ↓] theorem ev_pk_1_d {s0 : Sl} : ev (pkV 1) (s0 :: .dat d :: l) Q X ↔ Q d (s0 :: .dat d :: l) := Iff.rfl
@[simp ↓] theorem ev_pk_1_o {s0 : Sl} : ev (pkV 1) (s0 :: .own t d :: l) Q X ↔ Q d (s0 :: .own t d :: l) := Iff.rfl
@[simp ↓] theorem at_1 {s0 : Sl} : atO (s0 :: .own t d :: l) 1 k ↔ k t d := Iff.rfl
@[simp ↓] theorem ev_set_1 {P : α → Gm → Prop} {m : MM α} {x : Sl} {s0 s1 : Sl} : ev m (List.set (s0 :: s1 :: l) 1 x) P X ↔ ev m (s0 :: x :: l) P X := Iff.rfl
@[simp ↓] theorem sv_set_1 {b : Gm → Out} {x : Sl} {s0 s1 : Sl} : sv b (List.set (s0 :: s1 :: l) 1 x) PO ↔ sv b (s0 :: x :: l) PO := Iff.rfl
@[simp ↓] theorem at_set_1 {x : Sl} {s0 s1 : Sl} {j : Nat} : atO (List.set (s0 :: s1 :: l) 1 x) j k ↔ atO (s0 :: x :: l) j k := Iff.rfl
@[simp ↓] theorem for_set_1 {bt : PyData → Gm → Option Gm} {b : Gm → Out} {ds : List PyData} {x : Sl} {s0 s1 : Sl} : svO (forL bt b ds (List.set (s0 :: s1 :: l) 1 x)) PO ↔ svO (forL bt b ds (s0 :: x :: l)) PO := Iff.rfl
@[simp ↓] theorem ev_rd_2_d {s0 s1 : Sl} : ev (rdV 2) (s0 :: s1 :: .dat d :: l) Q X ↔ Q d (s0 :: s1 :: .dat d :: l) := Iff.rfl
@[simp ↓] theorem ev_rd_2_o {s0 s1 : Sl} : ev (rdV 2) (s0 :: s1 :: .own t d :: l) Q X ↔ Q d (s0 :: s1 :: .dat d :: l) := Iff.rfl
@[simp ↓] theorem ev_pk_2_d {s0 s1 : Sl} : ev (pkV 2) (s0 :: s1 :: .dat d :: l) Q X ↔ Q d (s0 :: s1 :: .dat d :: l) := Iff.rfl
@[simp ↓] theorem ev_pk_2_o {s0 s1 : Sl} : ev (pkV 2) (s0 :: s1 :: .own t d :: l) Q X ↔ Q d (s0 :: s1 :: .own t d :: l) := Iff.rfl
@[simp ↓] theorem at_2 {s0 s1 : Sl} : atO (s0 :: s1 :: .own t d :: l) 2 k ↔ k t d := Iff.rfl
@[simp ↓] theorem ev_set_2 {P : α → Gm → Prop} {m : MM α} {x : Sl} {s0 s1 s2 : Sl} : ev m (List.set (s0 :: s1 :: s2 :: l) 2 x) P X ↔ ev m (s0 :: s1 :: x :: l) P X := Iff.rfl
@[simp ↓] theorem sv_set_2 {b : Gm → Out} {x : Sl} {s0 s1 s2 : Sl} : sv b (List.set (s0 :: s1 :: s2 :: l) 2 x) PO ↔ sv b (s0 :: s1 :: x :: l) PO := Iff.rfl
@[simp ↓] theorem at_set_2 {x : Sl} {s0 s1 s2 : Sl} {j : Nat} : atO (List.set (s0 :: s1 :: s2 :: l) 2 x) j k ↔ atO (s0 :: s1 :: x :: l) j k := Iff.rfl
@[simp ↓] theorem for_set_2 {bt : PyData → Gm → Option Gm} {b : Gm → Out} {ds : List PyData} {x : Sl} {s0 s1 s2 : Sl} : svO (forL bt b ds (List.set (s0 :: s1 :: s2 :: l) 2 x)) PO ↔ svO (forL bt b ds (s0 :: s1 :: x :: l)) PO := Iff.rfl
@[simp ↓] theorem ev_rd_3_d {s0 s1 s2 : Sl} : ev (rdV 3) (s0 :: s1 :: s2 :: .dat d :: l) Q X ↔ Q d (s0 :: s1 :: s2 :: .dat d :: l) := Iff.rfl
@[simp ↓] theorem ev_rd_3_o {s0 s1 s2 : Sl} : ev (rdV 3) (s0 :: s1 :: s2 :: .own t d :: l) Q X ↔ Q d (s0 :: s1 :: s2 :: .dat d :: l) := Iff.rfl
@[simp ↓] theorem ev_pk_3_d {s0 s1 s2 : Sl} : ev (pkV 3) (s0 :: s1 :: s2 :: .dat d :: l) Q X ↔ Q d (s0 :: s1 :: s2 :: .dat d :: l) := Iff.rfl
@[simp ↓] theorem ev_pk_3_o {s0 s1 s2 : Sl} : ev (pkV 3) (s0 :: s1 :: s2 :: .own t d :: l) Q X ↔ Q d (s0 :: s1 :: s2 :: .own t d :: l) := Iff.rfl
@[simp ↓] theorem at_3 {s0 s1 s2 : Sl} : atO (s0 :: s1 :: s2 :: .own t d :: l) 3 k ↔ k t d := Iff.rfl
@[simp ↓] theorem ev_set_3 {P : α → Gm → Prop} {m : MM α} {x : Sl} {s0 s1 s2 s3 : Sl} : ev m (List.set (s0 :: s1 :: s2 :: s3 :: l) 3 x) P X ↔ ev m (s0 :: s1 :: s2 :: x :: l) P X := Iff.rfl
@[simp ↓] theorem sv_set_3 {b : Gm → Out} {x : Sl} {s0 s1 s2 s3 : Sl} : sv b (List.set (s0 :: s1 :: s2 :: s3 :: l) 3 x) PO ↔ sv b (s0 :: s1 :: s2 :: x :: l) PO := Iff.rfl
@[simp ↓] theorem at_set_3 {x : Sl} {s0 s1 s2 s3 : Sl} {j : Nat} : atO (List.set (s0 :: s1 :: s2 :: s3 :: l) 3 x) j k ↔ atO (s0 :: s1 :: s2 :: x :: l) j k := Iff.rfl
@[simp ↓] theorem for_set_3 {bt : PyData → Gm → Option Gm} {b : Gm → Out} {ds : List PyData} {x : Sl} {s0 s1 s2 s3 : Sl} : svO (forL bt b ds (List.set (s0 :: s1 :: s2 :: s3 :: l) 3 x)) PO ↔ svO (forL bt b ds (s0 :: s1 :: s2 :: x :: l)) PO := Iff.rfl
@[simp ↓] theorem ev_rd_4_d {s0 s1 s2 s3 : Sl} : ev (rdV 4) (s0 :: s1 :: s2 :: s3 :: .dat d :: l) Q X ↔ Q d (s0 :: s1 :: s2 :: s3 :: .dat d :: l) := Iff.rfl
@[simp ↓] theorem ev_rd_4_o {s0 s1 s2 s3 : Sl} : ev (rdV 4) (s0 :: s1 :: s2 :: s3 :: .own t d :: l) Q X ↔ Q d (s0 :: s1 :: s2 :: s3 :: .dat d :: l) := Iff.rfl
@[simp ↓] theorem ev_pk_4_d {s0 s1 s2 s3 : Sl} : ev (pkV 4) (s0 :: s1 :: s2 :: s3 :: .dat d :: l) Q X ↔ Q d (s0 :: s1 :: s2 :: s3 :: .dat d :: l) := Iff.rfl
@[simp ↓] theorem ev_pk_4_o {s0 s1 s2 s3 : Sl} : ev (pkV 4) (s0 :: s1 :: s2 :: s3 :: .own t d :: l) Q X ↔ Q d (s0 :: s1 :: s2 :: s3 :: .own t d :: l) := Iff.rfl
@[simp ↓] theorem at_4 {s0 s1 s2 s3 : Sl} : atO (s0 :: s1 :: s2 :: s3 :: .own t d :: l) 4 k ↔ k t d := Iff.rfl
@[simp ↓] theorem ev_set_4 {P : α → Gm → Prop} {m : MM α} {x : Sl} {s0 s1 s2 s3 s4 : Sl} : ev m (List.set (s0 :: s1 :: s2 :: s3 :: s4 :: l) 4 x) P X ↔ ev m (s0 :: s1 :: s2 :: s3 :: x :: l) P X := Iff.rfl
@[simp ↓] theorem sv_set_4 {b : Gm → Out} {x : Sl} {s0 s1 s2 s3 s4 : Sl} : sv b (List.set (s0 :: s1 :: s2 :: s3 :: s4 :: l) 4 x) PO ↔ sv b (s0 :: s1 :: s2 :: s3 :: x :: l) PO := Iff.rfl
@[simp ↓] theorem at_set_4 {x : Sl} {s0 s1 s2 s3 s4 : Sl} {j : Nat} : atO (List.set (s0 :: s1 :: s2 :: s3 :: s4 :: l) 4 x) j k ↔ atO (s0 :: s1 :: s2 :: s3 :: x :: l) j k := Iff.rfl
@[simp ↓] theorem for_set_4 {bt : PyData → Gm → Option Gm} {b : Gm → Out} {ds : List PyData} {x : Sl} {s0 s1 s2 s3 s4 : Sl} : svO (forL bt b ds (List.set (s0 :: s1 :: s2 :: s3 :: s4 :: l) 4 x)) PO ↔ svO (forL bt b ds (s0 :: s1 :: s2 :: s3 :: x :: l)) PO := Iff.rfl
@[simp ↓] theorem ev_rd_5_d {s0 s1 s2 s3 s4 : Sl} : ev (rdV 5) (s0 :: s1 :: s2 :: s3 :: s4 :: .dat d :: l) Q X ↔ Q d (s0 :: s1 :: s2 :: s3 :: s4 :: .dat d :: l) := Iff.rfl
@[simp ↓] theorem ev_rd_5_o {s0 s1 s2 s3 s4 : Sl} : ev (rdV 5) (s0 :: s1 :: s2 :: s3 :: s4 :: .own t d :: l) Q X ↔ Q d (s0 :: s1 :: s2 :: s3 :: s4 :: .dat d :: l) := Iff.rfl
@[simp ↓] theorem ev_pk_5_d {s0 s1 s2 s3 s4 : Sl} : ev (pkV 5) (s0 :: s1 :: s2 :: s3 :: s4 :: .dat d :: l) Q X ↔ Q d (s0 :: s1 :: s2 :: s3 :: s4 :: .dat d :: l) := Iff.rfl
@[simp ↓] theorem ev_pk_5_o {s0 s1 s2 s3 s4 : Sl} : ev (pkV 5) (s0 :: s1 :: s2 :: s3 :: s4 :: .own t d :: l) Q X ↔ Q d (s0 :: s1 :: s2 :: s3 :: s4 :: .own t d :: l) := Iff.rfl
@[simp ↓] theorem at_5 {s0 s1 s2 s3 s4 : Sl} : atO (s0 :: s1 :: s2 :: s3 :: s4 :: .own t d :: l) 5 k ↔ k t d := Iff.rfl
@[simp ↓] theorem ev_set_5 {P : α → Gm → Prop} {m : MM α} {x : Sl} {s0 s1 s2 s3 s4 s5 : Sl} : ev m (List.set (s0 :: s1 :: s2 :: s3 :: s4 :: s5 :: l) 5 x) P X ↔ ev m (s0 :: s1 :: s2 :: s3 :: s4 :: x :: l) P X := Iff.rfl
@[simp ↓] theorem sv_set_5 {b : Gm → Out} {x : Sl} {s0 s1 s2 s3 s4 s5 : Sl} : sv b (List.set (s0 :: s1 :: s2 :: s3 :: s4 :: s5 :: l) 5 x) PO ↔ sv b (s0 :: s1 :: s2 :: s3 :: s4 :: x :: l) PO := Iff.rfl
@[simp ↓] theorem at_set_5 {x : Sl} {s0 s1 s2 s3 s4 s5 : Sl} {j : Nat} : atO (List.set (s0 :: s1 :: s2 :: s3 :: s4 :: s5 :: l) 5 x) j k ↔ atO (s0 :: s1 :: s2 :: s3 :: s4 :: x :: l) j k := Iff.rfl
@[simp ↓] theorem for_set_5 {bt : PyData → Gm → Option Gm} {b : Gm → Out} {ds : List PyData} {x : Sl} {s0 s1 s2 s3 s4 s5 : Sl} : svO (forL bt b ds (List.set (s0 :: s1 :: s2 :: s3 :: s4 :: s5 :: l) 5 x)) PO ↔ svO (forL bt b ds (s0 :: s1 :: s2 :: s3 :: s4 :: x :: l)) PO := Iff.rfl
@[simp ↓] theorem ev_rd_6_d {s0 s1 s2 s3 s4 s5 : Sl} : ev (rdV 6) (s0 :: s1 :: s2 :: s3 :: s4 :: s5 :: .dat d :: l) Q X ↔ Q d (s0 :: s1 :: s2 :: s3 :: s4 :: s5 :: .dat d :: l) := Iff.rfl
@[simp ↓] theorem ev_rd_6_o {s0 s1 s2 s3 s4 s5 : Sl} : ev (rdV 6) (s0 :: s1 :: s2 :: s3 :: s4 :: s5 :: .own t d :: l) Q X ↔ Q d (s0 :: s1 :: s2 :: s3 :: s4 :: s5 :: .dat d :: l) := Iff.rfl
@[simp ↓] theorem ev_pk_6_d {s0 s1 s2 s3 s4 s5 : Sl} : ev (pkV 6) (s0 :: s1 :: s2 :: s3 :: s4 :: s5 :: .dat d :: l) Q X ↔ Q d (s0 :: s1 :: s2 :: s3 :: s4 :: s5 :: .dat d :: l) := Iff.rfl
@[simp ↓] theorem ev_pk_6_o {s0 s1 s2 s3 s4 s5 : Sl} : ev (pkV 6) (s0 :: s1 :: s2 :: s3 :: s4 :: s5 :: .own t d :: l) Q X ↔ Q d (s0 :: s1 :: s2 :: s3 :: s4 :: s5 :: .own t d :: l) := Iff.rfl
@[simp ↓] theorem at_6 {s0 s1 s2 s3 s4 s5 : Sl} : atO (s0 :: s1 :: s2 :: s3 :: s4 :: s5 :: .own t d :: l) 6 k ↔ k t d := Iff.rfl
@[simp ↓] theorem ev_set_6 {P : α → Gm → Prop} {m : MM α} {x : Sl} {s0 s1 s2 s3 s4 s5 s6 : Sl} : ev m (List.set (s0 :: s1 :: s2 :: s3 :: s4 :: s5 :: s6 :: l) 6 x) P X ↔ ev m (s0 :: s1 :: s2 :: s3 :: s4 :: s5 :: x :: l) P X := Iff.rfl
@[simp ↓] theorem sv_set_6 {b : Gm → Out} {x : Sl} {s0 s1 s2 s3 s4 s5 s6 : Sl} : sv b (List.set (s0 :: s1 :: s2 :: s3 :: s4 :: s5 :: s6 :: l) 6 x) PO ↔ sv b (s0 :: s1 :: s2 :: s3 :: s4 :: s5 :: x :: l) PO := Iff.rfl
@[simp ↓] theorem at_set_6 {x : Sl} {s0 s1 s2 s3 s4 s5 s6 : Sl} {j : Nat} : atO (List.set (s0 :: s1 :: s2 :: s3 :: s4 :: s5 :: s6 :: l) 6 x) j k ↔ atO (s0 :: s1 :: s2 :: s3 :: s4 :: s5 :: x :: l) j k := Iff.rfl
@[simp ↓] theorem for_set_6 {bt : PyData → Gm → Option Gm} {b : Gm → Out} {ds : List PyData} {x : Sl} {s0 s1 s2 s3 s4 s5 s6 : Sl} : svO (forL bt b ds (List.set (s0 :: s1 :: s2 :: s3 :: s4 :: s5 :: s6 :: l) 6 x)) PO ↔ svO (forL bt b ds (s0 :: s1 :: s2 :: s3 :: s4 :: s5 :: x :: l)) PO := Iff.rfl
@[simp ↓] theorem ev_rd_7_d {s0 s1 s2 s3 s4 s5 s6 : Sl} : ev (rdV 7) (s0 :: s1 :: s2 :: s3 :: s4 :: s5 :: s6 :: .dat d :: l) Q X ↔ Q d (s0 :: s1 :: s2 :: s3 :: s4 :: s5 :: s6 :: .dat d :: l) := Iff.rfl
@[simp ↓] theorem ev_rd_7_o {s0 s1 s2 s3 s4 s5 s6 : Sl} : ev (rdV 7) (s0 :: s1 :: s2 :: s3 :: s4 :: s5 :: s6 :: .own t d :: l) Q X ↔ Q d (s0 :: s1 :: s2 :: s3 :: s4 :: s5 :: s6 :: .dat d :: l) := Iff.rfl
@[simp ↓] theorem ev_pk_7_d {s0 s1 s2 s3 s4 s5 s6 : Sl} : ev (pkV 7) (s0 :: s1 :: s2 :: s3 :: s4 :: s5 :: s6 :: .dat d :: l) Q X ↔ Q d (s0 :: s1 :: s2 :: s3 :: s4 :: s5 :: s6 :: .dat d :: l) := Iff.rfl
@[simp ↓] theorem ev_pk_7_o {s0 s1 s2 s3 s4 s5 s6 : Sl} : ev (pkV 7) (s0 :: s1 :: s2 :: s3 :: s4 :: s5 :: s6 :: .own t d :: l) Q X ↔ Q d (s0 :: s1 :: s2 :: s3 :: s4 :: s5 :: s6 :: .own t d :: l) := Iff.rfl
@[simp ↓] theorem at_7 {s0 s1 s2 s3 s4 s5 s6 : Sl} : atO (s0 :: s1 :: s2 :: s3 :: s4 :: s5 :: s6 :: .own t d :: l) 7 k ↔ k t d := Iff.rfl
@[simp ↓] theorem ev_set_7 {P : α → Gm → Prop} {m : MM α} {x : Sl} {s0 s1 s2 s3 s4 s5 s6 s7 : Sl} : ev m (List.set (s0 :: s1 :: s2 :: s3 :: s4 :: s5 :: s6 :: s7 :: l) 7 x) P X ↔ ev m (s0 :: s1 :: s2 :: s3 :: s4 :: s5 :: s6 :: x :: l) P X := Iff.rfl
@[simp ↓] theorem sv_set_7 {b : Gm → Out} {x : Sl} {s0 s1 s2 s3 s4 s5 s6 s7 : Sl} : sv b (List.set (s0 :: s1 :: s2 :: s3 :: s4 :: s5 :: s6 :: s7 :: l) 7 x) PO ↔ sv b (s0 :: s1 :: s2 :: s3 :: s4 :: s5 :: s6 :: x :: l) PO := Iff.rfl
@[simp ↓] theorem at_set_7 {x : Sl} {s0 s1 s2 s3 s4 s5 s6 s7 : Sl} {j : Nat} : atO (List.set (s0 :: s1 :: s2 :: s3 :: s4 :: s5 :: s6 :: s7 :: l) 7 x) j k ↔ atO (s0 :: s1 :: s2 :: s3 :: s4 :: s5 :: s6 :: x :: l) j k := Iff.rfl
@[simp ↓] theorem for_set_7 {bt : PyData → Gm → Option Gm} {b : Gm → Out} {ds : List PyData} {x : Sl} {s0 s1 s2 s3 s4 s5 s6 s7 : Sl} : svO (forL bt b ds (List.set (s0 :: s1 :: s2 :: s3 :: s4 :: s5 :: s6 :: s7 :: l) 7 x)) PO ↔ svO (forL bt b ds (s0 :: s1 :: s2 :: s3 :: s4 :: s5 :: s6 :: x :: l)) PO := Iff.rfl
@[simp ↓] theorem ev_rd_8_d {s0 s1 s2 s3 s4 s5 s6 s7 : Sl} : ev (rdV 8) (s0 :: s1 :: s2 :: s3 :: s4 :: s5 :: s6 :: s7 :: .dat d :: l) Q X ↔ Q d (s0 :: s1 :: s2 :: s3 :: s4 :: s5 :: s6 :: s7 :: .dat d :: l) := Iff.rfl
@[simp ↓] theorem ev_rd_8_o {s0 s1 s2 s3 s4 s5 s6 s7 : Sl} : ev (rdV 8) (s0 :: s1 :: s2 :: s3 :: s4 :: s5 :: s6 :: s7 :: .own t d :: l) Q X ↔ Q d (s0 :: s1 :: s2 :: s3 :: s4 :: s5 :: s6 :: s7 :: .dat d :: l) := Iff.rfl
@[simp ↓] theorem ev_pk_8_d {s0 s1 s2 s3 s4 s5 s6 s7 : Sl} : ev (pkV 8) (s0 :: s1 :: s2 :: s3 :: s4 :: s5 :: s6 :: s7 :: .dat d :: l) Q X ↔ Q d (s0 :: s1 :: s2 :: s3 :: s4 :: s5 :: s6 :: s7 :: .dat d :: l) := Iff.rfl
@[simp ↓] theorem ev_pk_8_o {s0 s1 s2 s3 s4 s5 s6 s7 : Sl} : ev (pkV 8) (s0 :: s1 :: s2 :: s3 :: s4 :: s5 :: s6 :: s7 :: .own t d :: l) Q X ↔ Q d (s0 :: s1 :: s2 :: s3 :: s4 :: s5 :: s6 :: s7 :: .own t d :: l) := Iff.rfl
@[simp ↓] theorem at_8 {s0 s1 s2 s3 s4 s5 s6 s7 : Sl} : atO (s0 :: s1 :: s2 :: s3 :: s4 :: s5 :: s6 :: s7 :: .own t d :: l) 8 k ↔ k t d := Iff.rfl
@[simp ↓] theorem ev_set_8 {P : α → Gm → Prop} {m : MM α} {x : Sl} {s0 s1 s2 s3 s4 s5 s6 s7 s8 : Sl} : ev m (List.set (s0 :: s1 :: s2 :: s3 :: s4 :: s5 :: s6 :: s7 :: s8 :: l) 8 x) P X ↔ ev m (s0 :: s1 :: s2 :: s3 :: s4 :: s5 :: s6 :: s7 :: x :: l) P X := Iff.rfl
@[simp ↓] theorem sv_set_8 {b : Gm → Out} {x : Sl} {s0 s1 s2 s3 s4 s5 s6 s7 s8 : Sl} : sv b (List.set (s0 :: s1 :: s2 :: s3 :: s4 :: s5 :: s6 :: s7 :: s8 :: l) 8 x) PO ↔ sv b (s0 :: s1 :: s2 :: s3 :: s4 :: s5 :: s6 :: s7 :: x :: l) PO := Iff.rfl
@[simp ↓] theorem at_set_8 {x : Sl} {s0 s1 s2 s3 s4 s5 s6 s7 s8 : Sl} {j : Nat} : atO (List.set (s0 :: s1 :: s2 :: s3 :: s4 :: s5 :: s6 :: s7 :: s8 :: l) 8 x) j k ↔ atO (s0 :: s1 :: s2 :: s3 :: s4 :: s5 :: s6 :: s7 :: x :: l) j k := Iff.rfl
@[simp ↓] theorem for_set_8 {bt : PyData → Gm → Option Gm} {b : Gm → Out} {ds : List PyData} {x : Sl} {s0 s1 s2 s3 s4 s5 s6 s7 s8 : Sl} : svO (forL bt b ds (List.set (s0 :: s1 :: s2 :: s3 :: s4 :: s5 :: s6 :: s7 :: s8 :: l) 8 x)) PO ↔ svO (forL bt b ds (s0 :: s1 :: s2 :: s3 :: s4 :: s5 :: s6 :: s7 :: x :: l)) PO := Iff.rfl
@[simp ↓] theorem ev_rd_9_d {s0 s1 s2 s3 s4 s5 s6 s7 s8 : Sl} : ev (rdV 9) (s0 :: s1 :: s2 :: s3 :: s4 :: s5 :: s6 :: s7 :: s8 :: .dat d :: l) Q X ↔ Q d (s0 :: s1 :: s2 :: s3 :: s4 :: s5 :: s6 :: s7 :: s8 :: .dat d :: l) := Iff.rfl
@[simp ↓] theorem ev_rd_9_o {s0 s1 s2 s3 s4 s5 s6 s7 s8 : Sl} : ev (rdV 9) (s0 :: s1 :: s2 :: s3 :: s4 :: s5 :: s6 :: s7 :: s8 :: .own t d :: l) Q X ↔ Q d (s0 :: s1 :: s2 :: s3 :: s4 :: s5 :: s6 :: s7 :: s8 :: .dat d :: l) := Iff.rfl
@[simp ↓] theorem ev_pk_9_d {s0 s1 s2 s3 s4 s5 s6 s7 s8 : Sl} : ev (pkV 9) (s0 :: s1 :: s2 :: s3 :: s4 :: s5 :: s6 :: s7 :: s8 :: .dat d :: l) Q X ↔ Q d (s0 :: s1 :: s2 :: s3 :: s4 :: s5 :: s6 :: s7 :: s8 :: .dat d :: l) := Iff.rfl
@[simp ↓] theorem ev_pk_9_o {s0 s1 s2 s3 s4 s5 s6 s7 s8 : Sl} : ev (pkV 9) (s0 :: s1 :: s2 :: s3 :: s4 :: s5 :: s6 :: s7 :: s8 :: .own t d :: l) Q X ↔ Q d (s0 :: s1 :: s2 :: s3 :: s4 :: s5 :: s6 :: s7 :: s8 :: .own t d :: l) := Iff.rfl
@[simp ↓] theorem at_9 {s0 s1 s2 s3 s4 s5 s6 s7 s8 : Sl} : atO (s0 :: s1 :: s2 :: s3 :: s4 :: s5 :: s6 :: s7 :: s8 :: .own t d :: l) 9 k ↔ k t d := Iff.rfl
@[simp ↓] theorem ev_set_9 {P : α → Gm → Prop} {m : MM α} {x : Sl} {s0 s1 s2 s3 s4 s5 s6 s7 s8 s9 : Sl} : ev m (List.set (s0 :: s1 :: s2 :: s3 :: s4 :: s5 :: s6 :: s7 :: s8 :: s9 :: l) 9 x) P X ↔ ev m (s0 :: s1 :: s2 :: s3 :: s4 :: s5 :: s6 :: s7 :: s8 :: x :: l) P X := Iff.rfl
@[simp ↓] theorem sv_set_9 {b : Gm → Out} {x : Sl} {s0 s1 s2 s3 s4 s5 s6 s7 s8 s9 : Sl} : sv b (List.set (s0 :: s1 :: s2 :: s3 :: s4 :: s5 :: s6 :: s7 :: s8 :: s9 :: l) 9 x) PO ↔ sv b (s0 :: s1 :: s2 :: s3 :: s4 :: s5 :: s6 :: s7 :: s8 :: x :: l) PO := Iff.rfl
@[simp ↓] theorem at_set_9 {x : Sl} {s0 s1 s2 s3 s4 s5 s6 s7 s8 s9 : Sl} {j : Nat} : atO (List.set (s0 :: s1 :: s2 :: s3 :: s4 :: s5 :: s6 :: s7 :: s8 :: s9 :: l) 9 x) j k ↔ atO (s0 :: s1 :: s2 :: s3 :: s4 :: s5 :: s6 :: s7 :: s8 :: x :: l) j k := Iff.rfl
@[simp ↓] theorem for_set_9 {bt : PyData → Gm → Option Gm} {b : Gm → Out} {ds : List PyData} {x : Sl} {s0 s1 s2 s3 s4 s5 s6 s7 s8 s9 : Sl} : svO (forL bt b ds (List.set (s0 :: s1 :: s2 :: s3 :: s4 :: s5 :: s6 :: s7 :: s8 :: s9 :: l) 9 x)) PO ↔ svO (forL bt b ds (s0 :: s1 :: s2 :: s3 :: s4 :: s5 :: s6 :: s7 :: s8 :: x :: l)) PO := Iff.rfl
@[simp ↓] theorem ev_rd_10_d {s0 s1 s2 s3 s4 s5 s6 s7 s8 s9 : Sl} : ev (rdV 10) (s0 :: s1 :: s2 :: s3 :: s4 :: s5 :: s6 :: s7 :: s8 :: s9 :: .dat d :: l) Q X ↔ Q d (s0 :: s1 :: s2 :: s3 :: s4 :: s5 :: s6 :: s7 :: s8 :: s9 :: .dat d :: l) := Iff.rfl
@[simp ↓] theorem ev_rd_10_o {s0 s1 s2 s3 s4 s5 s6 s7 s8 s9 : Sl} : ev (rdV 10) (s0 :: s1 :: s2 :: s3 :: s4 :: s5 :: s6 :: s7 :: s8 :: s9 :: .own t d :: l) Q X ↔ Q d (s0 :: s1 :: s2 :: s3 :: s4 :: s5 :: s6 :: s7 :: s8 :: s9 :: .dat d :: l) := Iff.rfl
@[simp ↓] theorem ev_pk_10_d {s0 s1 s2 s3 s4 s5 s6 s7 s8 s9 : Sl} : ev (pkV 10) (s0 :: s1 :: s2 :: s3 :: s4 :: s5 :: s6 :: s7 :: s8 :: s9 :: .dat d :: l) Q X ↔ Q d (s0 :: s1 :: s2 :: s3 :: s4 :: s5 :: s6 :: s7 :: s8 :: s9 :: .dat d :: l) := Iff.rfl
@[simp ↓] theorem ev_pk_10_o {s0 s1 s2 s3 s4 s5 s6 s7 s8 s9 : Sl} : ev (pkV 10) (s0 :: s1 :: s2 :: s3 :: s4 :: s5 :: s6 :: s7 :: s8 :: s9 :: .own t d :: l) Q X ↔ Q d (s0 :: s1 :: s2 :: s3 :: s4 :: s5 :: s6 :: s7 :: s8 :: s9 :: .own t d :: l) := Iff.rfl
@[simp ↓] theorem at_10 {s0 s1 s2 s3 s4 s5 s6 s7 s8 s9 : Sl} : atO (s0 :: s1 :: s2 :: s3 :: s4 :: s5 :: s6 :: s7 :: s8 :: s9 :: .own t d :: l) 10 k ↔ k t d := Iff.rfl
@[simp ↓] theorem ev_set_10 {P : α → Gm → Prop} {m : MM α} {x : Sl} {s0 s1 s2 s3 s4 s5 s6 s7 s8 s9 s10 : Sl} : ev m (List.set (s0 :: s1 :: s2 :: s3 :: s4 :: s5 :: s6 :: s7 :: s8 :: s9 :: s10 :: l) 10 x) P X ↔ ev m (s0 :: s1 :: s2 :: s3 :: s4 :: s5 :: s6 :: s7 :: s8 :: s9 :: x :: l) P X := Iff.rfl
@[simp ↓] theorem sv_set_10 {b : Gm → Out} {x : Sl} {s0 s1 s2 s3 s4 s5 s6 s7 s8 s9 s10 : Sl} : sv b (List.set (s0 :: s1 :: s2 :: s3 :: s4 :: s5 :: s6 :: s7 :: s8 :: s9 :: s10 :: l) 10 x) PO ↔ sv b (s0 :: s1 :: s2 :: s3 :: s4 :: s5 :: s6 :: s7 :: s8 :: s9 :: x :: l) PO := Iff.rfl
@[simp ↓] theorem at_set_10 {x : Sl} {s0 s1 s2 s3 s4 s5 s6 s7 s8 s9 s10 : Sl} {j : Nat} : atO (List.set (s0 :: s1 :: s2 :: s3 :: s4 :: s5 :: s6 :: s7 :: s8 :: s9 :: s10 :: l) 10 x) j k ↔ atO (s0 :: s1 :: s2 :: s3 :: s4 :: s5 :: s6 :: s7 :: s8 :: s9 :: x :: l) j k := Iff.rfl
@[simp ↓] theorem for_set_10 {bt : PyData → Gm → Option Gm} {b : Gm → Out} {ds : List PyData} {x : Sl} {s0 s1 s2 s3 s4 s5 s6 s7 s8 s9 s10 : Sl} : svO (forL bt b ds (List.set (s0 :: s1 :: s2 :: s3 :: s4 :: s5 :: s6 :: s7 :: s8 :: s9 :: s10 :: l) 10 x)) PO ↔ svO (forL bt b ds (s0 :: s1 :: s2 :: s3 :: s4 :: s5 :: s6 :: s7 :: s8 :: s9 :: x :: l)) PO := Iff.rfl
@[simp ↓] theorem ev_rd_11_d {s0 s1 s2 s3 s4 s5 s6 s7 s8 s9 s10 : Sl} : ev (rdV 11) (s0 :: s1 :: s2 :: s3 :: s4 :: s5 :: s6 :: s7 :: s8 :: s9 :: s10 :: .dat d :: l) Q X ↔ Q d (s0 :: s1 :: s2 :: s3 :: s4 :: s5 :: s6 :: s7 :: s8 :: s9 :: s10 :: .dat d :: l) := Iff.rfl
@[simp ↓] theorem ev_rd_11_o {s0 s1 s2 s3 s4 s5 s6 s7 s8 s9 s10 : Sl} : ev (rdV 11) (s0 :: s1 :: s2 :: s3 :: s4 :: s5 :: s6 :: s7 :: s8 :: s9 :: s10 :: .own t d :: l) Q X ↔ Q d (s0 :: s1 :: s2 :: s3 :: s4 :: s5 :: s6 :: s7 :: s8 :: s9 :: s10 :: .dat d :: l) := Iff.rfl
@[simp ↓] theorem ev_pk_11_d {s0 s1 s2 s3 s4 s5 s6 s7 s8 s9 s10 : Sl} : ev (pkV 11) (s0 :: s1 :: s2 :: s3 :: s4 :: s5 :: s6 :: s7 :: s8 :: s9 :: s10 :: .dat d :: l) Q X ↔ Q d (s0 :: s1 :: s2 :: s3 :: s4 :: s5 :: s6 :: s7 :: s8 :: s9 :: s10 :: .dat d :: l) := Iff.rfl
@[simp ↓] theorem ev_pk_11_o {s0 s1 s2 s3 s4 s5 s6 s7 s8 s9 s10 : Sl} : ev (pkV 11) (s0 :: s1 :: s2 :: s3 :: s4 :: s5 :: s6 :: s7 :: s8 :: s9 :: s10 :: .own t d :: l) Q X ↔ Q d (s0 :: s1 :: s2 :: s3 :: s4 :: s5 :: s6 :: s7 :: s8 :: s9 :: s10 :: .own t d :: l) := Iff.rfl
@[simp ↓] theorem at_11 {s0 s1 s2 s3 s4 s5 s6 s7 s8 s9 s10 : Sl} : atO (s0 :: s1 :: s2 :: s3 :: s4 :: s5 :: s6 :: s7 :: s8 :: s9 :: s10 :: .own t d :: l) 11 k ↔ k t d := Iff.rfl
@[simp ↓] theorem ev_set_11 {P : α → Gm → Prop} {m : MM α} {x : Sl} {s0 s1 s2 s3 s4 s5 s6 s7 s8 s9 s10 s11 : Sl} : ev m (List.set (s0 :: s1 :: s2 :: s3 :: s4 :: s5 :: s6 :: s7 :: s8 :: s9 :: s10 :: s11 :: l) 11 x) P X ↔ ev m (s0 :: s1 :: s2 :: s3 :: s4 :: s5 :: s6 :: s7 :: s8 :: s9 :: s10 :: x :: l) P X := Iff.rfl
@[simp ↓] theorem sv_set_11 {b : Gm → Out} {x : Sl} {s0 s1 s2 s3 s4 s5 s6 s7 s8 s9 s10 s11 : Sl} : sv b (List.set (s0 :: s1 :: s2 :: s3 :: s4 :: s5 :: s6 :: s7 :: s8 :: s9 :: s10 :: s11 :: l) 11 x) PO ↔ sv b (s0 :: s1 :: s2 :: s3 :: s4 :: s5 :: s6 :: s7 :: s8 :: s9 :: s10 :: x :: l) PO := Iff.rfl
@[simp ↓] theorem at_set_11 {x : Sl} {s0 s1 s2 s3 s4 s5 s6 s7 s8 s9 s10 s11 : Sl} {j : Nat} : atO (List.set (s0 :: s1 :: s2 :: s3 :: s4 :: s5 :: s6 :: s7 :: s8 :: s9 :: s10 :: s11 :: l) 11 x) j k ↔ atO (s0 :: s1 :: s2 :: s3 :: s4 :: s5 :: s6 :: s7 :: s8 :: s9 :: s10 :: x :: l) j k := Iff.rfl
@[simp ↓] theorem for_set_11 {bt : PyData → Gm → Option Gm} {b : Gm → Out} {ds : List PyData} {x : Sl} {s0 s1 s2 s3 s4 s5 s6 s7 s8 s9 s10 s11 : Sl} : svO (forL bt b ds (List.set (s0 :: s1 :: s2 :: s3 :: s4 :: s5 :: s6 :: s7 :: s8 :: s9 :: s10 :: s11 :: l) 11 x)) PO ↔ svO (forL bt b ds (s0 :: s1 :: s2 :: s3 :: s4 :: s5 :: s6 :: s7 :: s8 :: s9 :: s10 :: x :: l)) PO := Iff.rfl
@[simp ↓] theorem ev_rd_12_d {s0 s1 s2 s3 s4 s5 s6 s7 s8 s9 s10 s11 : Sl} : ev (rdV 12) (s0 :: s1 :: s2 :: s3 :: s4 :: s5 :: s6 :: s7 :: s8 :: s9 :: s10 :: s11 :: .dat d :: l) Q X ↔ Q d (s0 :: s1 :: s2 :: s3 :: s4 :: s5 :: s6 :: s7 :: s8 :: s9 :: s10 :: s11 :: .dat d :: l) := Iff.rfl
@[simp ↓] theorem ev_rd_12_o {s0 s1 s2 s3 s4 s5 s6 s7 s8 s9 s10 s11 : Sl} : ev (rdV 12) (s0 :: s1 :: s2 :: s3 :: s4 :: s5 :: s6 :: s7 :: s8 :: s9 :: s10 :: s11 :: .own t d :: l) Q X ↔ Q d (s0 :: s1 :: s2 :: s3 :: s4 :: s5 :: s6 :: s7 :: s8 :: s9 :: s10 :: s11 :: .dat d :: l) := Iff.rfl
@[simp ↓] theorem ev_pk_12_d {s0 s1 s2 s3 s4 s5 s6 s7 s8 s9 s10 s11 : Sl} : ev (pkV 12) (s0 :: s1 :: s2 :: s3 :: s4 :: s5 :: s6 :: s7 :: s8 :: s9 :: s10 :: s11 :: .dat d :: l) Q X ↔ Q d (s0 :: s1 :: s2 :: s3 :: s4 :: s5 :: s6 :: s7 :: s8 :: s9 :: s10 :: s11 :: .dat d :: l) := Iff.rfl
@[simp ↓] theorem ev_pk_12_o {s0 s1 s2 s3 s4 s5 s6 s7 s8 s9 s10 s11 : Sl} : ev (pkV 12) (s0 :: s1 :: s2 :: s3 :: s4 :: s5 :: s6 :: s7 :: s8 :: s9 :: s10 :: s11 :: .own t d :: l) Q X ↔ Q d (s0 :: s1 :: s2 :: s3 :: s4 :: s5 :: s6 :: s7 :: s8 :: s9 :: s10 :: s11 :: .own t d :: l) := Iff.rfl
@[simp ↓] theorem at_12 {s0 s1 s2 s3 s4 s5 s6 s7 s8 s9 s10 s11 : Sl} : atO (s0 :: s1 :: s2 :: s3 :: s4 :: s5 :: s6 :: s7 :: s8 :: s9 :: s10 :: s11 :: .own t d :: l) 12 k ↔ k t d := Iff.rfl
@[simp ↓] theorem ev_set_12 {P : α → Gm → Prop} {m : MM α} {x : Sl} {s0 s1 s2 s3 s4 s5 s6 s7 s8 s9 s10 s11 s12 : Sl} : ev m (List.set (s0 :: s1 :: s2 :: s3 :: s4 :: s5 :: s6 :: s7 :: s8 :: s9 :: s10 :: s11 :: s12 :: l) 12 x) P X ↔ ev m (s0 :: s1 :: s2 :: s3 :: s4 :: s5 :: s6 :: s7 :: s8 :: s9 :: s10 :: s11 :: x :: l) P X := Iff.rfl
@[simp ↓] theorem sv_set_12 {b : Gm → Out} {x : Sl} {s0 s1 s2 s3 s4 s5 s6 s7 s8 s9 s10 s11 s12 : Sl} : sv b (List.set (s0 :: s1 :: s2 :: s3 :: s4 :: s5 :: s6 :: s7 :: s8 :: s9 :: s10 :: s11 :: s12 :: l) 12 x) PO ↔ sv b (s0 :: s1 :: s2 :: s3 :: s4 :: s5 :: s6 :: s7 :: s8 :: s9 :: s10 :: s11 :: x :: l) PO := Iff.rfl
@[simp ↓] theorem at_set_12 {x : Sl} {s0 s1 s2 s3 s4 s5 s6 s7 s8 s9 s10 s11 s12 : Sl} {j : Nat} : atO (List.set (s0 :: s1 :: s2 :: s3 :: s4 :: s5 :: s6 :: s7 :: s8 :: s9 :: s10 :: s11 :: s12 :: l) 12 x) j k ↔ atO (s0 :: s1 :: s2 :: s3 :: s4 :: s5 :: s6 :: s7 :: s8 :: s9 :: s10 :: s11 :: x :: l) j k := Iff.rfl
@[simp ↓] theorem for_set_12 {bt : PyData → Gm → Option Gm} {b : Gm → Out} {ds : List PyData} {x : Sl} {s0 s1 s2 s3 s4 s5 s6 s7 s8 s9 s10 s11 s12 : Sl} : svO (forL bt b ds (List.set (s0 :: s1 :: s2 :: s3 :: s4 :: s5 :: s6 :: s7 :: s8 :: s9 :: s10 :: s11 :: s12 :: l) 12 x)) PO ↔ svO (forL bt b ds (s0 :: s1 :: s2 :: s3 :: s4 :: s5 :: s6 :: s7 :: s8 :: s9 :: s10 :: s11 :: x :: l)) PO := Iff.rfl
@[simp ↓] theorem ev_rd_13_d {s0 s1 s2 s3 s4 s5 s6 s7 s8 s9 s10 s11 s12 : Sl} : ev (rdV 13) (s0 :: s1 :: s2 :: s3 :: s4 :: s5 :: s6 :: s7 :: s8 :: s9 :: s10 :: s11 :: s12 :: .dat d :: l) Q X ↔ Q d (s0 :: s1 :: s2 :: s3 :: s4 :: s5 :: s6 :: s7 :: s8 :: s9 :: s10 :: s11 :: s12 :: .dat d :: l) := Iff.rfl
@[simp ↓] theorem ev_rd_13_o {s0 s1 s2 s3 s4 s5 s6 s7 s8 s9 s10 s11 s12 : Sl} : ev (rdV 13) (s0 :: s1 :: s2 :: s3 :: s4 :: s5 :: s6 :: s7 :: s8 :: s9 :: s10 :: s11 :: s12 :: .own t d :: l) Q X ↔ Q d (s0 :: s1 :: s2 :: s3 :: s4 :: s5 :: s6 :: s7 :: s8 :: s9 :: s10 :: s11 :: s12 :: .dat d :: l) := Iff.rfl
@[simp ↓] theorem ev_pk_13_d {s0 s1 s2 s3 s4 s5 s6 s7 s8 s9 s10 s11 s12 : Sl} : ev (pkV 13) (s0 :: s1 :: s2 :: s3 :: s4 :: s5 :: s6 :: s7 :: s8 :: s9 :: s10 :: s11 :: s12 :: .dat d :: l) Q X ↔ Q d (s0 :: s1 :: s2 :: s3 :: s4 :: s5 :: s6 :: s7 :: s8 :: s9 :: s10 :: s11 :: s12 :: .dat d :: l) := Iff.rfl
@[simp ↓] theorem ev_pk_13_o {s0 s1 s2 s3 s4 s5 s6 s7 s8 s9 s10 s11 s12 : Sl} : ev (pkV 13) (s0 :: s1 :: s2 :: s3 :: s4 :: s5 :: s6 :: s7 :: s8 :: s9 :: s10 :: s11 :: s12 :: .own t d :: l) Q X ↔ Q d (s0 :: s1 :: s2 :: s3 :: s4 :: s5 :: s6 :: s7 :: s8 :: s9 :: s10 :: s11 :: s12 :: .own t d :: l) := Iff.rfl
@[simp ↓] theorem at_13 {s0 s1 s2 s3 s4 s5 s6 s7 s8 s9 s10 s11 s12 : Sl} : atO (s0 :: s1 :: s2 :: s3 :: s4 :: s5 :: s6 :: s7 :: s8 :: s9 :: s10 :: s11 :: s12 :: .own t d :: l) 13 k ↔ k t d := Iff.rfl
@[simp ↓] theorem ev_set_13 {P : α → Gm → Prop} {m : MM α} {x : Sl} {s0 s1 s2 s3 s4 s5 s6 s7 s8 s9 s10 s11 s12 s13 : Sl} : ev m (List.set (s0 :: s1 :: s2 :: s3 :: s4 :: s5 :: s6 :: s7 :: s8 :: s9 :: s10 :: s11 :: s12 :: s13 :: l) 13 x) P X ↔ ev m (s0 :: s1 :: s2 :: s3 :: s4 :: s5 :: s6 :: s7 :: s8 :: s9 :: s10 :: s11 :: s12 :: x :: l) P X := Iff.rfl
@[simp ↓] theorem sv_set_13 {b : Gm → Out} {x : Sl} {s0 s1 s2 s3 s4 s5 s6 s7 s8 s9 s10 s11 s12 s13 : Sl} : sv b (List.set (s0 :: s1 :: s2 :: s3 :: s4 :: s5 :: s6 :: s7 :: s8 :: s9 :: s10 :: s11 :: s12 :: s13 :: l) 13 x) PO ↔ sv b (s0 :: s1 :: s2 :: s3 :: s4 :: s5 :: s6 :: s7 :: s8 :: s9 :: s10 :: s11 :: s12 :: x :: l) PO := Iff.rfl
@[simp ↓] theorem at_set_13 {x : Sl} {s0 s1 s2 s3 s4 s5 s6 s7 s8 s9 s10 s11 s12 s13 : Sl} {j : Nat} : atO (List.set (s0 :: s1 :: s2 :: s3 :: s4 :: s5 :: s6 :: s7 :: s8 :: s9 :: s10 :: s11 :: s12 :: s13 :: l) 13 x) j k ↔ atO (s0 :: s1 :: s2 :: s3 :: s4 :: s5 :: s6 :: s7 :: s8 :: s9 :: s10 :: s11 :: s12 :: x :: l) j k := Iff.rfl
@[simp ↓] theorem for_set_13 {bt : PyData → Gm → Option Gm} {b : Gm → Out} {ds : List PyData} {x : Sl} {s0 s1 s2 s3 s4 s5 s6 s7 s8 s9 s10 s11 s12 s13 : Sl} : svO (forL bt b ds (List.set (s0 :: s1 :: s2 :: s3 :: s4 :: s5 :: s6 :: s7 :: s8 :: s9 :: s10 :: s11 :: s12 :: s13 :: l) 13 x)) PO ↔ svO (forL bt b ds (s0 :: s1 :: s2 :: s3 :: s4 :: s5 :: s6 :: s7 :: s8 :: s9 :: s10 :: s11 :: s12 :: x :: l)) PO := Iff.rfl
end
section
variable {P : PyData → Prop} {i j : Int} {a b : Str} {xs ys : List PyData} {d e : PyData} {p q : Bool} {lo hi : Option Int}
theorem okO_sz {n : Nat} {d : PyData} : okO (sz n d) P ↔ n ≤ sizeLine ∧ P d := by
  unfold sz
  by_cases h : n ≤ sizeLine <;> simp [h]
theorem okO_if {α : Type} {c : Prop} [Decidable c] {z : α} {P : α → Prop} : okO (if c then some z else none) P ↔ c ∧ P z := by
  by_cases h : c <;> simp [h]
@[simp ↓] theorem add_int : okO (addD (.int i) (.int j)) P ↔ P (.int (i + j)) := Iff.rfl
@[simp ↓] theorem add_str : okO (addD (.str a) (.str b)) P ↔ a.length + b.length ≤ sizeLine ∧ P (.str (a ++ b)) := okO_sz
@[simp ↓] theorem add_tup : okO (addD (.tuple xs) (.tuple ys)) P ↔ xs.length + ys.length ≤ sizeLine ∧ P (.tuple (xs ++ ys)) := okO_sz
@[simp ↓] theorem add_lst : okO (addD (.list xs) (.list ys)) P ↔ xs.length + ys.length ≤ sizeLine ∧ P (.list (xs ++ ys)) := okO_sz
@[simp ↓] theorem iadd_int : okO (iaddD (.int i) (.int j)) P ↔ P (.int (i + j)) := Iff.rfl
@[simp ↓] theorem sub_int : okO (subD (.int i) (.int j)) P ↔ P (.int (i - j)) := Iff.rfl
@[simp ↓] theorem mul_int : okO (mulD (.int i) (.int j)) P ↔ mulC i j = true ∧ P (.int (i * j)) := okO_if
@[simp ↓] theorem fdiv_int : okO (fdivD (.int i) (.int j)) P ↔ (j ≠ 0 ∧ j.natAbs < 1073741824) ∧ P (.int (i.fdiv j)) := by
  show okO (if decide (j ≠ 0 ∧ j.natAbs < 1073741824) = true then some (PyData.int (i.fdiv j)) else none) P ↔ _
  rw [okO_if, decide_eq_true_eq]
@[simp ↓] theorem mod_int : okO (modD (.int i) (.int j)) P ↔ j ≠ 0 ∧ P (.int (i.fmod j)) := by
  show okO (if decide (j ≠ 0) = true then some (PyData.int (i.fmod j)) else none) P ↔ _
  rw [okO_if, decide_eq_true_eq]
@[simp ↓] theorem pow_int : okO (powD (.int i) (.int j)) P ↔ (0 ≤ j ∧ j ≤ 1000000 ∧ i.natAbs < 2 ^ 64) ∧ P (.int (i ^ j.toNat)) := by
  show okO (if decide (0 ≤ j ∧ j ≤ 1000000 ∧ i.natAbs < 2 ^ 64) = true then some (PyData.int (i ^ j.toNat)) else none) P ↔ _
  rw [okO_if, decide_eq_true_eq]
@[simp ↓] theorem lt_int : okO (ltD (.int i) (.int j)) P ↔ P (.bool (decide (i < j))) := Iff.rfl
@[simp ↓] theorem le_int : okO (leD (.int i) (.int j)) P ↔ P (.bool (decide (i ≤ j))) := Iff.rfl
@[simp ↓] theorem gt_int : okO (gtD (.int i) (.int j)) P ↔ P (.bool (decide (j < i))) := Iff.rfl
@[simp ↓] theorem ge_int : okO (geD (.int i) (.int j)) P ↔ P (.bool (decide (j ≤ i))) := Iff.rfl
@[simp ↓] theorem eq_int : okO (eqD (.int i) (.int j)) P ↔ P (.bool (i == j)) := Iff.rfl
@[simp ↓] theorem ne_int : okO (neD (.int i) (.int j)) P ↔ P (.bool (!(i == j))) := Iff.rfl
theorem eq_any : okO (eqD d e) P ↔ lowD d e = true ∧ P (.bool (PyData.eqv d e)) := okO_if
theorem ne_any : okO (neD d e) P ↔ (lowD d e && (notDc d && notDc e)) = true ∧ P (.bool (!PyData.eqv d e)) := okO_if
@[simp ↓] theorem in_lst {g : Bool → Bool} : okO (inD g d (.list xs)) P ↔ lowI d (.list xs) = true ∧ P (.bool (g (xs.any fun z => PyData.eqv z d))) := okO_if
@[simp ↓] theorem in_tup {g : Bool → Bool} : okO (inD g d (.tuple xs)) P ↔ lowI d (.tuple xs) = true ∧ P (.bool (g (xs.any fun z => PyData.eqv z d))) := okO_if
@[simp ↓] theorem is_none {g : Bool → Bool} : okO (isD g d .none) P ↔ P (.bool (g (match d with | .none => true | _ => false))) := by cases d <;> exact Iff.rfl
@[simp ↓] theorem is_bool {g : Bool → Bool} : okO (isD g (.bool p) (.bool q)) P ↔ P (.bool (g (decide (p = q)))) := Iff.rfl
@[simp ↓] theorem neg_int : okO (negD (.int i)) P ↔ P (.int (-i)) := Iff.rfl
@[simp ↓] theorem ix_lst : okO (ixD (.list xs) (.int i)) P ↔ okO (L2.atI xs i) P := Iff.rfl
@[simp ↓] theorem ix_tupl : okO (ixD (.tuple xs) (.int i)) P ↔ okO (L2.atI xs i) P := Iff.rfl
@[simp ↓] theorem slc_lst : okO (slcD (.list xs) lo hi) P ↔ P (.list (cutD xs lo hi)) := Iff.rfl
@[simp ↓] theorem slc_tup : okO (slcD (.tuple xs) lo hi) P ↔ P (.tuple (cutD xs lo hi)) := Iff.rfl
@[simp ↓] theorem slc_str : okO (slcD (.str a) lo hi) P ↔ a.length ≤ sizeLine ∧ P (.str (cutS a lo hi)) := okO_if
@[simp ↓] theorem len_lst : okO (lenD (.list xs)) P ↔ P (.int xs.length) := Iff.rfl
@[simp ↓] theorem len_tup : okO (lenD (.tuple xs)) P ↔ P (.int xs.length) := Iff.rfl
@[simp ↓] theorem len_str : okO (lenD (.str a)) P ↔ a.length ≤ sizeLine ∧ P (.int a.length) := okO_if
@[simp ↓] theorem list_lst : okO (listD (.list xs)) P ↔ P (.list xs) := Iff.rfl
@[simp ↓] theorem list_dct {kvs : List (PyData × PyData)} : okO (listD (.dict kvs)) P ↔ P (.list (kvs.map (·.1))) := Iff.rfl
@[simp ↓] theorem list_tup : okO (listD (.tuple xs)) P ↔ P (.list xs) := Iff.rfl
@[simp ↓] theorem tup_lst : okO (tup2D (.list xs)) P ↔ P (.tuple xs) := Iff.rfl
@[simp ↓] theorem tup_tup : okO (tup2D (.tuple xs)) P ↔ P (.tuple xs) := Iff.rfl
@[simp ↓] theorem tup_str : okO (tup2D (.str a)) P ↔ a.length ≤ sizeLine ∧ P (.tuple ((signs a).map .str)) := okO_if
@[simp ↓] theorem int_int : okO (intOf (.int i)) P ↔ P (.int i) := Iff.rfl
@[simp ↓] theorem int_bool : okO (intOf (.bool p)) P ↔ P (.int (if p then 1 else 0)) := Iff.rfl
@[simp ↓] theorem rev_lst : okO (revD (.list xs)) P ↔ P (.list xs.reverse) := Iff.rfl
@[simp ↓] theorem rev_tup : okO (revD (.tuple xs)) P ↔ P (.tuple xs.reverse) := Iff.rfl
@[simp ↓] theorem rev_str : okO (revD (.str a)) P ↔ a.length ≤ sizeLine ∧ P (.str (revS a)) := okO_if
@[simp ↓] theorem str_int : okO (strD (.int i)) P ↔ i.natAbs.log2 < 1920 ∧ P (.str (Str.ofString (toString i))) := okO_if
@[simp ↓] theorem str_none : okO (strD .none) P ↔ P (.str "None") := Iff.rfl
@[simp ↓] theorem tru_none {P : Bool → Prop} : okO (truD .none) P ↔ P false := Iff.rfl
@[simp ↓] theorem tru_bool {P : Bool → Prop} : okO (truD (.bool p)) P ↔ P p := Iff.rfl
@[simp ↓] theorem tru_int {P : Bool → Prop} : okO (truD (.int i)) P ↔ P (i != 0) := Iff.rfl
@[simp ↓] theorem tru_lst {P : Bool → Prop} : okO (truD (.list xs)) P ↔ P (!xs.isEmpty) := Iff.rfl
@[simp ↓] theorem tru_tup {P : Bool → Prop} : okO (truD (.tuple xs)) P ↔ P (!xs.isEmpty) := Iff.rfl
@[simp ↓] theorem tru_str {P : Bool → Prop} : okO (truD (.str a)) P ↔ a.length ≤ sizeLine ∧ P ((a.length : Int) != 0) := okO_if
@[simp ↓] theorem items_lst {P : List PyData → Prop} : okO (itemsD (.list xs)) P ↔ P xs := Iff.rfl
@[simp ↓] theorem items_tup {P : List PyData → Prop} : okO (itemsD (.tuple xs)) P ↔ P xs := Iff.rfl
@[simp ↓] theorem okO_name {P : Gm → Prop} {n : Nat} {g : Gm} : okO (bName n d g) P ↔ P (g.set n (.dat d)) := Iff.rfl
@[simp ↓] theorem sum_lst : okO (sumD (.list xs)) P ↔ okO (intsOf xs) fun ns => P (.int ns.sum) := by
  show okO ((intsOf xs).map fun ns => PyData.int ns.sum) P ↔ _
  cases intsOf xs <;> simp
@[simp ↓] theorem isa_tuple_NoneType : isaD "tuple" .none = false := by decide
@[simp ↓] theorem isa_tuple_bool : isaD "tuple" (.bool p) = false := by simp [isaD, typeD]
@[simp ↓] theorem isa_tuple_int : isaD "tuple" (.int i) = false := by simp [isaD, typeD]
@[simp ↓] theorem isa_tuple_str : isaD "tuple" (.str a) = false := by simp [isaD, typeD]
@[simp ↓] theorem isa_tuple_list : isaD "tuple" (.list xs) = false := by simp [isaD, typeD]
@[simp ↓] theorem isa_tuple_tuple : isaD "tuple" (.tuple xs) = true := by simp [isaD, typeD]
@[simp ↓] theorem isa_tuple_dict {kv : List (PyData × PyData)} : isaD "tuple" (.dict kv) = false := by simp [isaD, typeD]
@[simp ↓] theorem isa_int_NoneType : isaD "int" .none = false := by decide
@[simp ↓] theorem isa_int_bool : isaD "int" (.bool p) = true := by simp [isaD, typeD]
@[simp ↓] theorem isa_int_int : isaD "int" (.int i) = true := by simp [isaD, typeD]
@[simp ↓] theorem isa_int_str : isaD "int" (.str a) = false := by simp [isaD, typeD]
@[simp ↓] theorem isa_int_list : isaD "int" (.list xs) = false := by simp [isaD, typeD]
@[simp ↓] theorem isa_int_tuple : isaD "int" (.tuple xs) = false := by simp [isaD, typeD]
@[simp ↓] theorem isa_int_dict {kv : List (PyData × PyData)} : isaD "int" (.dict kv) = false := by simp [isaD, typeD]
@[simp ↓] theorem isa_str_NoneType : isaD "str" .none = false := by decide
@[simp ↓] theorem isa_str_bool : isaD "str" (.bool p) = false := by simp [isaD, typeD]
@[simp ↓] theorem isa_str_int : isaD "str" (.int i) = false := by simp [isaD, typeD]
@[simp ↓] theorem isa_str_str : isaD "str" (.str a) = true := by simp [isaD, typeD]
@[simp ↓] theorem isa_str_list : isaD "str" (.list xs) = false := by simp [isaD, typeD]
@[simp ↓] theorem isa_str_tuple : isaD "str" (.tuple xs) = false := by simp [isaD, typeD]
@[simp ↓] theorem isa_str_dict {kv : List (PyData × PyData)} : isaD "str" (.dict kv) = false := by simp [isaD, typeD]
@[simp ↓] theorem isa_bool_NoneType : isaD "bool" .none = false := by decide
@[simp ↓] theorem isa_bool_bool : isaD "bool" (.bool p) = true := by simp [isaD, typeD]
@[simp ↓] theorem isa_bool_int : isaD "bool" (.int i) = false := by simp [isaD, typeD]
@[simp ↓] theorem isa_bool_str : isaD "bool" (.str a) = false := by simp [isaD, typeD]
@[simp ↓] theorem isa_bool_list : isaD "bool" (.list xs) = false := by simp [isaD, typeD]
@[simp ↓] theorem isa_bool_tuple : isaD "bool" (.tuple xs) = false := by simp [isaD, typeD]
@[simp ↓] theorem isa_bool_dict {kv : List (PyData × PyData)} : isaD "bool" (.dict kv) = false := by simp [isaD, typeD]
@[simp ↓] theorem isa_list_NoneType : isaD "list" .none = false := by decide
@[simp ↓] theorem isa_list_bool : isaD "list" (.bool p) = false := by simp [isaD, typeD]
@[simp ↓] theorem isa_list_int : isaD "list" (.int i) = false := by simp [isaD, typeD]
@[simp ↓] theorem isa_list_str : isaD "list" (.str a) = false := by simp [isaD, typeD]
@[simp ↓] theorem isa_list_list : isaD "list" (.list xs) = true := by simp [isaD, typeD]
@[simp ↓] theorem isa_list_tuple : isaD "list" (.tuple xs) = false := by simp [isaD, typeD]
@[simp ↓] theorem isa_list_dict {kv : List (PyData × PyData)} : isaD "list" (.dict kv) = false := by simp [isaD, typeD]
@[simp ↓] theorem at_ix_0 {α : Type} {x0 : α} {l : List α} {P : α → Prop} : okO (L2.atI (x0 :: l) 0) P ↔ P x0 := by
  have e : L2.atI (x0 :: l) 0 = some x0 := by
    unfold L2.atI L2.ixN
    rw [if_pos (by decide), if_pos (by simp only [List.length_cons]; omega)]
    rfl
  rw [e, okO_some]
@[simp ↓] theorem at_ix_1 {α : Type} {x0 x1 : α} {l : List α} {P : α → Prop} : okO (L2.atI (x0 :: x1 :: l) 1) P ↔ P x1 := by
  have e : L2.atI (x0 :: x1 :: l) 1 = some x1 := by
    unfold L2.atI L2.ixN
    rw [if_pos (by decide), if_pos (by simp only [List.length_cons]; omega)]
    rfl
  rw [e, okO_some]
@[simp ↓] theorem at_ix_2 {α : Type} {x0 x1 x2 : α} {l : List α} {P : α → Prop} : okO (L2.atI (x0 :: x1 :: x2 :: l) 2) P ↔ P x2 := by
  have e : L2.atI (x0 :: x1 :: x2 :: l) 2 = some x2 := by
    unfold L2.atI L2.ixN
    rw [if_pos (by decide), if_pos (by simp only [List.length_cons]; omega)]
    rfl
  rw [e, okO_some]
@[simp ↓] theorem at_ix_3 {α : Type} {x0 x1 x2 x3 : α} {l : List α} {P : α → Prop} : okO (L2.atI (x0 :: x1 :: x2 :: x3 :: l) 3) P ↔ P x3 := by
  have e : L2.atI (x0 :: x1 :: x2 :: x3 :: l) 3 = some x3 := by
    unfold L2.atI L2.ixN
    rw [if_pos (by decide), if_pos (by simp only [List.length_cons]; omega)]
    rfl
  rw [e, okO_some]
@[simp ↓] theorem at_ix_4 {α : Type} {x0 x1 x2 x3 x4 : α} {l : List α} {P : α → Prop} : okO (L2.atI (x0 :: x1 :: x2 :: x3 :: x4 :: l) 4) P ↔ P x4 := by
  have e : L2.atI (x0 :: x1 :: x2 :: x3 :: x4 :: l) 4 = some x4 := by
    unfold L2.atI L2.ixN
    rw [if_pos (by decide), if_pos (by simp only [List.length_cons]; omega)]
    rfl
  rw [e, okO_some]
@[simp ↓] theorem at_ix_5 {α : Type} {x0 x1 x2 x3 x4 x5 : α} {l : List α} {P : α → Prop} : okO (L2.atI (x0 :: x1 :: x2 :: x3 :: x4 :: x5 :: l) 5) P ↔ P x5 := by
  have e : L2.atI (x0 :: x1 :: x2 :: x3 :: x4 :: x5 :: l) 5 = some x5 := by
    unfold L2.atI L2.ixN
    rw [if_pos (by decide), if_pos (by simp only [List.length_cons]; omega)]
    rfl
  rw [e, okO_some]
@[simp ↓] theorem at_ix_6 {α : Type} {x0 x1 x2 x3 x4 x5 x6 : α} {l : List α} {P : α → Prop} : okO (L2.atI (x0 :: x1 :: x2 :: x3 :: x4 :: x5 :: x6 :: l) 6) P ↔ P x6 := by
  have e : L2.atI (x0 :: x1 :: x2 :: x3 :: x4 :: x5 :: x6 :: l) 6 = some x6 := by
    unfold L2.atI L2.ixN
    rw [if_pos (by decide), if_pos (by simp only [List.length_cons]; omega)]
    rfl
  rw [e, okO_some]
@[simp ↓] theorem at_ix_7 {α : Type} {x0 x1 x2 x3 x4 x5 x6 x7 : α} {l : List α} {P : α → Prop} : okO (L2.atI (x0 :: x1 :: x2 :: x3 :: x4 :: x5 :: x6 :: x7 :: l) 7) P ↔ P x7 := by
  have e : L2.atI (x0 :: x1 :: x2 :: x3 :: x4 :: x5 :: x6 :: x7 :: l) 7 = some x7 := by
    unfold L2.atI L2.ixN
    rw [if_pos (by decide), if_pos (by simp only [List.length_cons]; omega)]
    rfl
  rw [e, okO_some]
@[simp ↓] theorem at_ix_8 {α : Type} {x0 x1 x2 x3 x4 x5 x6 x7 x8 : α} {l : List α} {P : α → Prop} : okO (L2.atI (x0 :: x1 :: x2 :: x3 :: x4 :: x5 :: x6 :: x7 :: x8 :: l) 8) P ↔ P x8 := by
  have e : L2.atI (x0 :: x1 :: x2 :: x3 :: x4 :: x5 :: x6 :: x7 :: x8 :: l) 8 = some x8 := by
    unfold L2.atI L2.ixN
    rw [if_pos (by decide), if_pos (by simp only [List.length_cons]; omega)]
    rfl
  rw [e, okO_some]
@[simp ↓] theorem at_ix_9 {α : Type} {x0 x1 x2 x3 x4 x5 x6 x7 x8 x9 : α} {l : List α} {P : α → Prop} : okO (L2.atI (x0 :: x1 :: x2 :: x3 :: x4 :: x5 :: x6 :: x7 :: x8 :: x9 :: l) 9) P ↔ P x9 := by
  have e : L2.atI (x0 :: x1 :: x2 :: x3 :: x4 :: x5 :: x6 :: x7 :: x8 :: x9 :: l) 9 = some x9 := by
    unfold L2.atI L2.ixN
    rw [if_pos (by decide), if_pos (by simp only [List.length_cons]; omega)]
    rfl
  rw [e, okO_some]
@[simp ↓] theorem at_ix_10 {α : Type} {x0 x1 x2 x3 x4 x5 x6 x7 x8 x9 x10 : α} {l : List α} {P : α → Prop} : okO (L2.atI (x0 :: x1 :: x2 :: x3 :: x4 :: x5 :: x6 :: x7 :: x8 :: x9 :: x10 :: l) 10) P ↔ P x10 := by
  have e : L2.atI (x0 :: x1 :: x2 :: x3 :: x4 :: x5 :: x6 :: x7 :: x8 :: x9 :: x10 :: l) 10 = some x10 := by
    unfold L2.atI L2.ixN
    rw [if_pos (by decide), if_pos (by simp only [List.length_cons]; omega)]
    rfl
  rw [e, okO_some]
@[simp ↓] theorem at_ix_11 {α : Type} {x0 x1 x2 x3 x4 x5 x6 x7 x8 x9 x10 x11 : α} {l : List α} {P : α → Prop} : okO (L2.atI (x0 :: x1 :: x2 :: x3 :: x4 :: x5 :: x6 :: x7 :: x8 :: x9 :: x10 :: x11 :: l) 11) P ↔ P x11 := by
  have e : L2.atI (x0 :: x1 :: x2 :: x3 :: x4 :: x5 :: x6 :: x7 :: x8 :: x9 :: x10 :: x11 :: l) 11 = some x11 := by
    unfold L2.atI L2.ixN
    rw [if_pos (by decide), if_pos (by simp only [List.length_cons]; omega)]
    rfl
  rw [e, okO_some]
end
end Mi
namespace Mi
open PySem L2
/-! ### consequences, comprehensions, loops, places, sizes -/
def okC (r : Except Er (List PyData × Gm)) (P : List PyData → Gm → Prop) : Prop := match r with
  | .ok (zs, g) => P zs g
  | .error _ => False
section
variable {g : Gm} {X : String → Gm → Prop} {Q : List PyData → Gm → Prop} {vs : List Nat} {b : PyData → Gm → Option Gm} {tt : MM Bool} {te : MM PyData} {mi : MM (List PyData)} {a : Gm → Out} {PO : Out → Prop}
abbrev noX : String → Gm → Prop := fun _ _ => False
theorem okS_imp {r : Except Er (PyData × PyData)} {P P' : PyData → PyData → Prop} {X : String → Prop} (h : okS r P fun _ => False) (i : ∀ d s, P d s → P' d s) : okS r P' X := by
  rcases r with (_ | ⟨c, _⟩) | ⟨d, s⟩
  · exact h.elim
  · exact h.elim
  · exact i _ _ h
theorem okP_imp {r : Except Er PyData} {P P' : PyData → Prop} {X : String → Prop} (h : okP r P fun _ => False) (i : ∀ d, P d → P' d) : okP r P' X := by
  rcases r with (_ | ⟨c, _⟩) | d
  · exact h.elim
  · exact h.elim
  · exact i _ h
theorem okO_imp {α : Type} {o : Option α} {P P' : α → Prop} (h : okO o P) (i : ∀ d, P d → P' d) : okO o P' := by
  cases o with
  | none => exact h.elim
  | some d => exact i _ h
@[simp ↓] theorem ev_compM : ev (compM mi vs b tt te) g Q X ↔ ev mi g (fun ds g1 => ds.length ≤ sizeLine ∧ okC (compL vs b tt te ds (wipeG g1 vs)) Q) X := by
  refine Iff.trans (ev_bnd (m := mi) (P := Q) (X := X)) ?_
  refine iff_of_eq (congrArg (fun h => ev mi g h X) ?_)
  funext ds g1
  refine propext ?_
  unfold ev okE okC
  by_cases h : ds.length ≤ sizeLine
  · simp only [if_pos h, h, true_and]
    generalize compL vs b tt te ds (wipeG g1 vs) = r
    rcases r with _ | ⟨zs, g2⟩ <;> rfl
  · simp [h]
@[simp ↓] theorem okC_nil : okC (compL vs b tt te [] g) Q ↔ Q [] g := Iff.rfl
theorem okC_cons {d : PyData} {ds : List PyData} : okC (compL vs b tt te (d :: ds) g) Q ↔ okO (b d g) fun g1 => ev tt g1 (fun c g2 => if c = true then ev te g2 (fun z g3 => okC (compL vs b tt te ds (wipeG g3 vs)) fun zs g4 => Q (z :: zs) g4) noX else okC (compL vs b tt te ds (wipeG g2 vs)) Q) noX := by
  have e : compL vs b tt te (d :: ds) g = (match b d g with
    | none => .error .stuck
    | some g1 => match tt g1 with
      | .ok (true, g2) => (match te g2 with
        | .ok (z, g3) => (match compL vs b tt te ds (wipeG g3 vs) with
          | .ok (zs, g4) => .ok (z :: zs, g4)
          | .error _ => .error .stuck)
        | .error _ => .error .stuck)
      | .ok (false, g2) => compL vs b tt te ds (wipeG g2 vs)
      | .error _ => .error .stuck) := rfl
  rw [e]
  cases b d g with
  | none => exact Iff.rfl
  | some g1 =>
    simp only [okO_some]
    unfold ev okE
    generalize tt g1 = r
    rcases r with (_ | ⟨c, g2⟩) | ⟨_ | _, g2⟩
    · exact Iff.rfl
    · exact Iff.rfl
    · simp only [Bool.false_eq_true, if_false]
    · simp only [if_true]
      generalize te g2 = r
      rcases r with (_ | ⟨c, g3⟩) | ⟨z, g3⟩
      · exact Iff.rfl
      · exact Iff.rfl
      · simp only
        unfold okC
        generalize compL vs b tt te ds (wipeG g3 vs) = r
        rcases r with _ | ⟨zs, g4⟩ <;> exact Iff.rfl
/-- an invariant of a comprehension -/
theorem okC_inv (I : Gm → Prop) (Pz : PyData → Prop) {ds : List PyData} (hI : I g)
    (hs : ∀ d ∈ ds, ∀ g, I g → okO (b d g) fun g1 => ev tt g1 (fun c g2 => if c = true then ev te g2 (fun z g3 => Pz z ∧ I (wipeG g3 vs)) noX else I (wipeG g2 vs)) noX)
    (hQ : ∀ zs g, I g → zs.length ≤ ds.length → (∀ z ∈ zs, Pz z) → Q zs g) : okC (compL vs b tt te ds g) Q := by
  induction ds generalizing g Q with
  | nil => exact hQ [] g hI (Nat.le_refl _) (by simp)
  | cons d ds ih =>
    rw [okC_cons]
    refine okO_imp (hs d (by simp) g hI) fun g1 h1 => ?_
    refine ev_mono h1 fun c g2 h2 => ?_
    cases c with
    | false =>
      simp only [Bool.false_eq_true, if_false] at h2 ⊢
      exact ih h2 (fun d hd => hs d (by simp [hd])) fun zs g i l p => hQ zs g i (by simp; omega) p
    | true =>
      simp only [if_true] at h2 ⊢
      refine ev_mono h2 fun z g3 h3 => ?_
      exact ih h3.2 (fun d hd => hs d (by simp [hd])) fun zs g i l p => hQ (z :: zs) g i (by simp; omega) (by simpa using ⟨h3.1, p⟩)
/-- a comprehension that changes nothing but its own name -/
theorem okC_fm (f : PyData → Option PyData) {ds : List PyData}
    (hs : ∀ d ∈ ds, okO (b d g) fun g1 => ev tt g1 (fun c g2 => if c = true then ev te g2 (fun z g3 => f d = some z ∧ wipeG g3 vs = g) noX else f d = none ∧ wipeG g2 vs = g) noX)
    (hQ : Q (ds.filterMap f) g) : okC (compL vs b tt te ds g) Q := by
  induction ds generalizing Q with
  | nil => exact hQ
  | cons d ds ih =>
    rw [okC_cons]
    refine okO_imp (hs d (by simp)) fun g1 h1 => ?_
    refine ev_mono h1 fun c g2 h2 => ?_
    cases c with
    | false =>
      simp only [Bool.false_eq_true, if_false] at h2 ⊢
      rw [h2.2]
      refine ih (fun d hd => hs d (by simp [hd])) ?_
      rw [List.filterMap_cons, h2.1] at hQ
      exact hQ
    | true =>
      simp only [if_true] at h2 ⊢
      refine ev_mono h2 fun z g3 h3 => ?_
      rw [h3.2]
      refine ih (fun d hd => hs d (by simp [hd])) ?_
      rw [List.filterMap_cons, h3.1] at hQ
      exact hQ
theorem okC_map (f : PyData → PyData) {ds : List PyData}
    (hs : ∀ d ∈ ds, okO (b d g) fun g1 => ev te g1 (fun z g3 => z = f d ∧ wipeG g3 vs = g) noX)
    (hQ : Q (ds.map f) g) : okC (compL vs b yesM te ds g) Q := by
  refine okC_fm (fun d => some (f d)) (fun d hd => okO_imp (hs d hd) fun g1 h => ?_) (by rw [show ds.filterMap (fun d => some (f d)) = ds.map f from by induction ds <;> simp_all]; exact hQ)
  show ev (Mi.ret true) g1 _ _
  rw [ev_ret, if_pos rfl]
  refine ev_mono h fun z g3 h => ⟨by rw [h.1], h.2⟩
theorem svO_inv (I : List PyData → Gm → Prop) {ds : List PyData} (hI : I ds g)
    (hs : ∀ d ds g, I (d :: ds) g → okO (b d g) fun g1 => sv a g1 fun o => match o with
      | .nx g2 => I ds g2
      | .ct g2 => I ds g2
      | .bk g2 => PO (.nx g2)
      | o => PO o)
    (hQ : ∀ g, I [] g → PO (.nx g)) : svO (forL b a ds g) PO := by
  induction ds generalizing g with
  | nil => exact hQ g hI
  | cons d ds ih =>
    rw [svO_for_cons]
    refine okO_imp (hs d ds g hI) fun g1 h => ?_
    unfold sv svO at h ⊢
    generalize a g1 = o at h
    cases o with
    | nx g2 => exact ih h
    | ct g2 => exact ih h
    | bk g2 => exact h
    | rt d g2 => exact h
    | ex c g2 => exact h
    | stuck => exact h
end
theorem sv_mono {a : Gm → Out} {g : Gm} {P P' : Out → Prop} (h : sv a g P) (i : ∀ o, P o → P' o) : sv a g P' := by
  unfold sv svO at h ⊢
  generalize a g = o at h
  cases o with
  | stuck => exact h
  | _ => exact i _ h
theorem okO_at {α : Type} {xs : List α} {i : Int} {P : α → Prop} (h0 : 0 ≤ i) (h1 : i < xs.length) (h : ∀ x ∈ xs, P x) : okO (L2.atI xs i) P := by
  have e : L2.atI xs i = xs[i.toNat]? := by
    unfold L2.atI L2.ixN
    rw [if_pos h0, if_pos h1]
    rfl
  rw [e, List.getElem?_eq_getElem (by omega)]
  exact h _ (List.getElem_mem _)
theorem atI_nat {α : Type} {xs : List α} {n : Nat} (h : n < xs.length) : L2.atI xs (n : Int) = some xs[n] := by
  unfold L2.atI L2.ixN
  rw [if_pos (by omega), if_pos (by omega)]
  show xs[(n : Int).toNat]? = _
  rw [Int.toNat_natCast, List.getElem?_eq_getElem h]
theorem cut_mem {α : Type} {xs : List α} {lo hi : Option Int} {x : α} (h : x ∈ cutD xs lo hi) : x ∈ xs := List.mem_of_mem_drop (List.mem_of_mem_take h)
theorem cut_le {α : Type} {xs : List α} {lo hi : Option Int} : (cutD xs lo hi).length ≤ xs.length := by
  unfold cutD
  rw [List.length_take, List.length_drop]
  omega
theorem cut_len {α : Type} {xs : List α} {lo hi : Option Int} : (cutD xs lo hi).length = min (HT.sIx xs.length xs.length hi - HT.sIx xs.length 0 lo) (xs.length - HT.sIx xs.length 0 lo) := by
  unfold cutD
  rw [List.length_take, List.length_drop]
theorem cutS_le {z : Str} {lo hi : Option Int} : (cutS z lo hi).length ≤ z.length := cutS_length z lo hi
@[simp] theorem revS_len {z : Str} : (revS z).length = z.length := by
  show ((z.cps.toList.reverse).toArray).size = z.cps.size
  simp
@[simp] theorem appS_len {a b : Str} : (a ++ b).length = a.length + b.length := by
  show (a.cps ++ b.cps).size = _
  rw [Array.size_append]; rfl
@[simp] theorem signs_len {z : Str} : (signs z).length = z.length := by
  show (z.cps.toList.map _).length = z.cps.size
  simp
@[simp ↓] theorem eq_str {P : PyData → Prop} {a b : Str} : okO (eqD (.str a) (.str b)) P ↔ P (.bool (a == b)) := by
  unfold eqD
  rw [if_pos (by rfl), eqv_str]
  exact Iff.rfl
@[simp ↓] theorem ne_str {P : PyData → Prop} {a b : Str} : okO (neD (.str a) (.str b)) P ↔ P (.bool (!(a == b))) := by
  unfold neD
  rw [if_pos (by rfl), eqv_str]
  exact Iff.rfl
theorem low_r {d e : PyData} (h : DcEq.ndB e = true) (h2 : e.depth ≤ 64) : lowD d e = true := by
  simp only [lowD, h, Bool.or_true, Bool.true_and, decide_eq_true_eq]
  omega
theorem low_i {d e : PyData} (h : DcEq.ndB e = true) (h2 : e.depth ≤ 64) : lowI d e = true := by
  simp only [lowI, h, Bool.true_and, decide_eq_true_eq]
  omega
/-- against an empty list, an empty tuple -/
theorem eq_nilL {P : PyData → Prop} {xs : List PyData} : okO (eqD (.list xs) (.list [])) P ↔ P (.bool xs.isEmpty) := by
  rw [eq_any]
  have e : PyData.eqv (.list xs) (.list []) = xs.isEmpty := by cases xs <;> simp [PyData.eqv, PyData.eqvAll]
  rw [e]
  simp only [low_r (d := .list xs) (e := .list []) rfl (by decide), true_and]
theorem eq_nilT {P : PyData → Prop} {xs : List PyData} : okO (eqD (.tuple xs) (.tuple [])) P ↔ P (.bool xs.isEmpty) := by
  rw [eq_any]
  have e : PyData.eqv (.tuple xs) (.tuple []) = xs.isEmpty := by cases xs <;> simp [PyData.eqv, PyData.eqvAll]
  rw [e]
  simp only [low_r (d := .tuple xs) (e := .tuple []) rfl (by decide), true_and]
theorem ne_nilL {P : PyData → Prop} {xs : List PyData} : okO (neD (.list xs) (.list [])) P ↔ P (.bool (!xs.isEmpty)) := by
  rw [ne_any]
  have e : PyData.eqv (.list xs) (.list []) = xs.isEmpty := by cases xs <;> simp [PyData.eqv, PyData.eqvAll]
  rw [e]
  simp only [low_r (d := .list xs) (e := .list []) rfl (by decide), notDc, Bool.and_self, true_and]
theorem ne_nilT {P : PyData → Prop} {xs : List PyData} : okO (neD (.tuple xs) (.tuple [])) P ↔ P (.bool (!xs.isEmpty)) := by
  rw [ne_any]
  have e : PyData.eqv (.tuple xs) (.tuple []) = xs.isEmpty := by cases xs <;> simp [PyData.eqv, PyData.eqvAll]
  rw [e]
  simp only [low_r (d := .tuple xs) (e := .tuple []) rfl (by decide), notDc, Bool.and_self, true_and]
/-! ### bounded papers -/
/-- a value of whole numbers, texts, None, bools and tuples, of bounded size and depth -/
def Wd : Nat → PyData → Prop
  | 0, _ => False
  | n + 1, d => match d with
    | .none => True
    | .bool _ => True
    | .int i => i.natAbs.log2 < 1900
    | .str a => a.length ≤ 1000 ∧ PyData.strOk a = true
    | .tuple xs => xs.length ≤ 1000 ∧ ∀ x ∈ xs, Wd n x
    | _ => False
theorem Wd.lay : ∀ {n : Nat} {d : PyData}, Wd n d → d.canLay0 = true ∧ d.depth ≤ n
  | n + 1, d, h => by
    have hl : ∀ xs : List PyData, (∀ x ∈ xs, Wd n x) → PyData.canLayAll0 xs = true ∧ PyData.depthAll xs ≤ n := by
      intro xs
      induction xs with
      | nil => intro _; simp [PyData.canLayAll0, PyData.depthAll]
      | cons x xs ih =>
        intro h
        have h1 := Wd.lay (h x (by simp))
        have h2 := ih fun y hy => h y (by simp [hy])
        simp only [PyData.canLayAll0, PyData.depthAll]
        rw [h1.1, h2.1]
        exact ⟨rfl, by omega⟩
    cases d with
    | tuple xs =>
      have := hl xs h.2
      simp only [PyData.canLay0, PyData.depth]
      exact ⟨this.1, by omega⟩
    | list xs => exact h.elim
    | dict xs => exact h.elim
    | str a => exact ⟨h.2, by simp [PyData.depth]⟩
    | _ => simp [PyData.canLay0, PyData.depth]
end Mi
namespace Mi
open PySem PySem.Spec PyProof.Rows L2
/-! ### comprehensions of two fors -/
def compL2 (vs vs1 : List Nat) (b : PyData → Gm → Option Gm) (tt : MM Bool) (mi1 : MM (List PyData)) (b1 : PyData → Gm → Option Gm) (tt1 : MM Bool) (te : MM PyData) : List PyData → Gm → Except Er (List PyData × Gm)
  | [], g => .ok ([], g)
  | d :: ds, g => match b d g with
    | none => .error .stuck
    | some g1 => match tt g1 with
      | .ok (true, g2) => (match mi1 g2 with
        | .ok (es, g3) => (match compL vs1 b1 tt1 te es (wipeG g3 vs1) with
          | .ok (zs, g4) => (match compL2 vs vs1 b tt mi1 b1 tt1 te ds (wipeG g4 vs) with
            | .ok (zs', g5) => .ok (zs ++ zs', g5)
            | .error _ => .error .stuck)
          | .error _ => .error .stuck)
        | .error _ => .error .stuck)
      | .ok (false, g2) => compL2 vs vs1 b tt mi1 b1 tt1 te ds (wipeG g2 vs)
      | .error _ => .error .stuck
def compM2 (mi : MM (List PyData)) (vs vs1 : List Nat) (b : PyData → Gm → Option Gm) (tt : MM Bool) (mi1 : MM (List PyData)) (b1 : PyData → Gm → Option Gm) (tt1 : MM Bool) (te : MM PyData) : MM (List PyData) := bnd mi fun ds g =>
  match compL2 vs vs1 b tt mi1 b1 tt1 te ds (wipeG g vs) with
    | .ok (zs, g') => if zs.length ≤ sizeLine then .ok (zs, g') else .error .stuck
    | .error _ => .error .stuck
/-! the evaluation -/
section
variable {g : Gm} {X : String → Gm → Prop} {Q : List PyData → Gm → Prop} {vs vs1 : List Nat} {b b1 : PyData → Gm → Option Gm} {tt tt1 : MM Bool} {te : MM PyData} {mi mi1 : MM (List PyData)}
@[simp ↓] theorem ev_compM2 : ev (compM2 mi vs vs1 b tt mi1 b1 tt1 te) g Q X ↔ ev mi g (fun ds g1 => okC (compL2 vs vs1 b tt mi1 b1 tt1 te ds (wipeG g1 vs)) fun zs g' => zs.length ≤ sizeLine ∧ Q zs g') X := by
  refine Iff.trans (ev_bnd (m := mi) (P := Q) (X := X)) ?_
  refine iff_of_eq (congrArg (fun h => ev mi g h X) ?_)
  funext ds g1
  refine propext ?_
  unfold ev okE okC
  dsimp only
  generalize compL2 vs vs1 b tt mi1 b1 tt1 te ds (wipeG g1 vs) = r
  rcases r with _ | ⟨zs, g2⟩
  · exact Iff.rfl
  · by_cases h : zs.length ≤ sizeLine <;> simp [h]
@[simp ↓] theorem okC2_nil : okC (compL2 vs vs1 b tt mi1 b1 tt1 te [] g) Q ↔ Q [] g := Iff.rfl
end
end Mi
namespace Mi
open PySem PySem.Spec PyProof.Rows L2
def sqO : PyData → Option (List PyData)
  | .list ds => some ds
  | .tuple ds => some ds
  | _ => none
/-! ### enumerate(x) -/
def enumD (ds : List PyData) : List PyData := ds.zipIdx.map fun p => .tuple [.int (p.2 : Nat), p.1]
def enumO : PyData → Option (List PyData)
  | .list ds => some (enumD ds)
  | .tuple ds => some (enumD ds)
  | _ => none
def enumM (m : MM PyData) : MM (List PyData) := bnd m fun d => lft (enumO d)
@[simp ↓] theorem ev_enumM {m : MM PyData} {g : Gm} {Q : List PyData → Gm → Prop} {X : String → Gm → Prop} : ev (enumM m) g Q X ↔ ev m g (fun d g1 => okO (enumO d) fun ds => Q ds g1) X := by simp [enumM]
/-! ### zip of two -/
def zipD (ds es : List PyData) : List PyData := (ds.zip es).map fun p => .tuple [p.1, p.2]
def zipO : PyData → PyData → Option (List PyData)
  | .list ds, .list es => some (zipD ds es)
  | .tuple ds, .tuple es => some (zipD ds es)
  | .list ds, .tuple es => some (zipD ds es)
  | .tuple ds, .list es => some (zipD ds es)
  | _, _ => none
def zipM (ma mb : MM PyData) : MM (List PyData) := bnd ma fun d => bnd mb fun e => lft (zipO d e)
@[simp ↓] theorem ev_zipM {ma mb : MM PyData} {g : Gm} {Q : List PyData → Gm → Prop} {X : String → Gm → Prop} : ev (zipM ma mb) g Q X ↔ ev ma g (fun d g1 => ev mb g1 (fun e g2 => okO (zipO d e) fun ds => Q ds g2) X) X := by simp [zipM]
end Mi
/-! zip of three: each a list or a tuple -/
namespace Z3
open PySem PySem.Spec PyProof.Rows L2
open PySem.Sem (wp)
def Src (t : Bool) (h : Heap) (l : Addr) (xs : Array Value) : Prop := match t with | false => h.IsList l xs | true => h.IsTuple l xs
def Itr (t : Bool) (h : Heap) (i l : Addr) (k : Nat) : Prop := match t with | false => h.IsListIter i l k | true => h.IsTupleIter i l k
theorem Src.at {t : Bool} {h h' : Heap} {l : Addr} {xs : Array Value} (s : Src t h l xs) (k : ∀ o, h.get? l = some o → h'.get? l = some o) : Src t h' l xs := by
  cases t
  · obtain ⟨o, e, r⟩ := s; exact ⟨o, k o e, r⟩
  · obtain ⟨o, e, r⟩ := s; exact ⟨o, k o e, r⟩
theorem Itr.at {t : Bool} {h h' : Heap} {i l : Addr} {n : Nat} (s : Itr t h i l n) (k : ∀ o, h.get? i = some o → h'.get? i = some o) : Itr t h' i l n := by
  cases t
  · obtain ⟨o, e, r⟩ := s; exact ⟨o, k o e, r⟩
  · obtain ⟨o, e, r⟩ := s; exact ⟨o, k o e, r⟩
theorem Src.eb {t : Bool} {h h' : Heap} {b l : Addr} {xs : Array Value} (s : Src t h l xs) (e : Heap.ExtBut b h h') (n : l ≠ b) : Src t h' l xs := s.at fun o q => e _ _ n q
theorem Itr.eb {t : Bool} {h h' : Heap} {b i l : Addr} {n : Nat} (s : Itr t h i l n) (e : Heap.ExtBut b h h') (ne : i ≠ b) : Itr t h' i l n := s.at fun o q => e _ _ ne q
theorem Itr.obj {t : Bool} {h : Heap} {i l : Addr} {n : Nat} (s : Itr t h i l n) : ∃ o, h.get? i = some o ∧ ∀ v, o.data ≠ .cell v := by
  cases t
  · obtain ⟨o, e, _, d⟩ := s; exact ⟨o, e, fun v q => by rw [d] at q; cases q⟩
  · obtain ⟨o, e, _, d⟩ := s; exact ⟨o, e, fun v q => by rw [d] at q; cases q⟩
section
variable {prog : Program} {w : World} {A : Around} {E : Value → Shared → Prop} {s : Shared}
theorem nxt_item {t : Bool} {it l : Addr} {i : Nat} {items : Array Value} {x : Value} {Q : Value → Shared → Prop} (hit : Itr t s.heap it l i)
    (hl : Src t s.heap l items) (hx : items[i]? = some x)
    (hQ : ∀ h', Itr t h' it l (i + 1) → Heap.SameBut it s.heap h' → Q x { s with heap := h' }) :
    wpAny (model prog w) A (Builtin.SmallTypes.nextOf (.ref it)) Q E s := by
  cases t
  · exact wpAny_nextOf_list_item hit hl hx hQ
  · exact RZ.nextOf_tuple_item hit hl hx hQ
theorem nxt_end {t : Bool} {it l : Addr} {i : Nat} {items : Array Value} {Q : Value → Shared → Prop} (hh : A.handled = none) (hit : Itr t s.heap it l i)
    (hl : Src t s.heap l items) (hx : items[i]? = none)
    (hE : ∀ h' e, Heap.ExtBut it s.heap h' → (∃ o, h'.get? e = some o ∧ o.cls = .type "StopIteration") → E (.ref e) { s with heap := h' }) :
    wpAny (model prog w) A (Builtin.SmallTypes.nextOf (.ref it)) Q E s := by
  cases t
  · exact wpAny_nextOf_list_end hh hit hl hx hE
  · exact RZ.nextOf_tuple_end hh hit hl hx hE
end
end Z3
namespace PySem.F
end PySem.F
namespace Z3
open PySem PySem.Spec PyProof.Rows L2
open PySem.Sem (wp)
end Z3
namespace Z3
open PySem PySem.Spec PyProof.Rows L2
open Mi (tO)
def SqK (t : Bool) (K : PySem.W.Frag) (H : Hp) (a : Addr) (xs : List V) : Prop := match t with | false => SqL K H a xs | true => SqT K H a xs
end Z3
namespace Mi
open PySem PySem.Spec PyProof.Rows L2
/-! ### zip of three -/
def zip3D (ds es fs : List PyData) : List PyData := (ds.zip (es.zip fs)).map fun p => .tuple [p.1, p.2.1, p.2.2]
/-- a source in the data heap -/
def Fs (t : Bool) (K : Frag) (G : Hp) (a : Addr) (xs : List V) : Prop := match t with | false => G a = some (.lst xs) | true => SqX K G a xs
theorem Fs.up {t : Bool} {K : Frag} {G G1 : Hp} {a : Addr} {xs : List V} (h : Fs t K G a xs) (s : Same G G1) : Fs t K G1 a xs := by
  cases t
  · exact s _ _ h
  · exact sqX_same s h
theorem Fs.sq {t : Bool} {K : Frag} {G H : Hp} {a : Addr} {xs : List V} (h : Fs t K G a xs) (s : ∀ a o, G a = some o → H a = some o) : Z3.SqK t K H a xs := by
  cases t
  · exact .inl (.inl (s _ _ h))
  · exact sqT_same s h
theorem Rp.fs {K : Frag} {G : Hp} {x : V} {d : PyData} {ds : List PyData} (r : Rp K G x d) (e : sqO d = some ds) : ∃ t a xs, x = .ref a ∧ Fs t K G a xs ∧ RpAll K G xs ds := by
  cases r with
  | @lst a xs _ h1 h2 => cases e; exact ⟨false, a, xs, rfl, h1, h2⟩
  | @tup a xs _ h1 h2 => cases e; exact ⟨true, a, xs, rfl, h1, h2⟩
  | _ => cases e
def zip3O (d e f : PyData) : Option (List PyData) := match sqO d, sqO e, sqO f with
  | some ds, some es, some fs => some (zip3D ds es fs)
  | _, _, _ => none
def zip3M (ma mb mc : MM PyData) : MM (List PyData) := bnd ma fun d => bnd mb fun e => bnd mc fun f => lft (zip3O d e f)
@[simp ↓] theorem ev_zip3M {ma mb mc : MM PyData} {g : Gm} {Q : List PyData → Gm → Prop} {X : String → Gm → Prop} : ev (zip3M ma mb mc) g Q X ↔ ev ma g (fun d g1 => ev mb g1 (fun e g2 => ev mc g2 (fun f g3 => okO (zip3O d e f) fun ds => Q ds g3) X) X) X := by simp [zip3M]
end Mi
namespace Z2
open PySem PySem.Spec PyProof.Rows L2 Z3
open Mi (tO)
theorem src_ne {t : Bool} {h : Heap} {it l : Addr} {n : Nat} {xs : Array Value} (i : Itr t h it l n) (s : Src t h l xs) : l ≠ it := by
  rintro rfl
  cases t
  · obtain ⟨o, e, c, _⟩ := i
    obtain ⟨o', e', c', _⟩ := s
    rw [e] at e'; cases e'
    rw [c] at c'
    exact absurd c' (by decide)
  · obtain ⟨o, e, c, _⟩ := i
    obtain ⟨o', e', c', _⟩ := s
    rw [e] at e'; cases e'
    rw [c] at c'
    exact absurd c' (by decide)
theorem draws {prog : Program} {w : World} {A : Around} {t : Bool} {it l : Addr} {items : Array Value} (hh : A.handled = none) :
    Draws prog w A it [it, l] items.size (fun i x => items[i]? = some x) (fun i h => Itr t h it l i ∧ Src t h l items) where
  live := fun i h st => let ⟨o, e, _⟩ := st.1.obj; ⟨o, e⟩
  frame := fun i h h' st k => ⟨st.1.at fun o e => k it (by simp) o e, st.2.at fun o e => k l (by simp) o e⟩
  item := fun i s Q E hi st hQ => by
    have hx : items[i]? = some items[i] := by simp [hi]
    exact nxt_item st.1 st.2 hx fun h' h1 sb => hQ _ h' s.toks hx ⟨h1, st.2.eb sb.extBut (src_ne st.1 st.2)⟩ sb
  done := fun s Q E st hE => nxt_end hh st.1 st.2 (by simp) hE
/-! ### zip of two -/
/-! ### enumerate -/
end Z2
namespace Mi
open PySem PySem.Spec PyProof.Rows L2
end Mi
/-! sets of texts -/
namespace PySem.F
theorem newCall_set_one (a : Value) : checkBuiltinCall "set.__new__" ⟨[.type "set", a], []⟩ = pure () := by kernel_rfl
end PySem.F
namespace Ts
open PySem PySem.Spec PyProof.Rows L2
def txtOf (e : Int × Value) : Str := match e.2 with
  | .str k _ => k
  | _ => Str.empty
def GdE (P : Program) (w : World) (e : Int × Value) : Prop := ∃ k tk, e.2 = Value.str k tk ∧ e.1 = (strKind P w).hash k
/-- the set of the texts ks at a -/
def SetS (P : Program) (w : World) (h : Heap) (a : Addr) (ks : List Str) : Prop :=
  ∃ o es ep t, h.get? a = some o ∧ o.ExactSet ∧ o.data = .set es ep t ∧ (∀ e ∈ es.toList, GdE P w e) ∧ ks.Nodup ∧ (es.toList.map txtOf).Perm ks ∧ es.size < scanBound ∧ t.fits es.size = true ∧ Ris t.place.toList ∧ (w.params.followText "set-order" = true ∨ t.led = true)
def ins (acc : List Str) (x : Str) : List Str := if x ∈ acc then acc else x :: acc
/-- the different ones -/
def dd (xs : List Str) : List Str := xs.foldl ins []
theorem dd_next {xs : List Str} {i : Nat} {x : Str} (h : xs[i]? = some x) : dd (xs.take (i + 1)) = ins (dd (xs.take i)) x := by
  unfold dd
  rw [List.take_add_one, h, List.foldl_append]
  rfl
theorem ins_len (acc : List Str) (x : Str) : (ins acc x).length ≤ acc.length + 1 := by
  unfold ins
  split
  · exact Nat.le_succ _
  · exact Nat.le_refl _
theorem fold_len : ∀ (xs acc : List Str), (xs.foldl ins acc).length ≤ acc.length + xs.length
  | [], acc => Nat.le_refl _
  | x :: xs, acc => by
    have := fold_len xs (ins acc x)
    have := ins_len acc x
    simp only [List.foldl_cons, List.length_cons]
    omega
theorem dd_len (xs : List Str) : (dd xs).length ≤ xs.length := by
  have := fold_len xs []
  simpa [dd] using this
theorem fold_up : ∀ (xs acc : List Str), acc.length ≤ (xs.foldl ins acc).length
  | [], acc => Nat.le_refl _
  | x :: xs, acc => by
    have := fold_up xs (ins acc x)
    have : acc.length ≤ (ins acc x).length := by
      unfold ins
      split
      · exact Nat.le_refl _
      · exact Nat.le_succ _
    simp only [List.foldl_cons]
    omega
theorem dd_take (xs : List Str) (i : Nat) : (dd (xs.take i)).length ≤ (dd xs).length := by
  have e : dd xs = (xs.drop i).foldl ins (dd (xs.take i)) := by
    unfold dd
    rw [← List.foldl_append, List.take_append_drop]
  rw [e]
  exact fold_up _ _
section
variable {P : Program} {w : World} {h h' : Heap} {a : Addr} {ks : List Str}
theorem SetS.at (R : SetS P w h a ks) (k : ∀ o, h.get? a = some o → h'.get? a = some o) : SetS P w h' a ks := by
  obtain ⟨o, es, ep, t, ho, r⟩ := R
  exact ⟨o, es, ep, t, k o ho, r⟩
theorem gd_elems {l : List (Int × Value)} (g : ∀ e ∈ l, GdE P w e) : ElemsOf (strKind P w) l := fun e he => by
  obtain ⟨k, tk, h1, h2⟩ := g e he
  exact ⟨⟨k, by rw [h1]; exact strKind_is P w k tk, h2⟩, by rw [h1] <;> rfl⟩
theorem gd_is {e : Int × Value} (g : GdE P w e) (k : Str) : (strKind P w).is k e.2 = true ↔ txtOf e = k := by
  obtain ⟨k0, tk, h1, _⟩ := g
  unfold txtOf
  rw [h1]
  simp [PySem.strKind, Value.isStrOf]
theorem gd_mem {l : List (Int × Value)} (g : ∀ e ∈ l, GdE P w e) (k : Str) : k ∈ l.map txtOf ↔ ∃ e ∈ l, (strKind P w).is k e.2 = true := by
  rw [List.mem_map]
  exact ⟨fun ⟨e, he, q⟩ => ⟨e, he, (gd_is (g e he) k).2 q⟩, fun ⟨e, he, q⟩ => ⟨e, he, (gd_is (g e he) k).1 q⟩⟩
end
section
variable {P : Program} {w : World} {A : Around} {E : Value → Shared → Prop} {s : Shared} {a : Addr} {ks : List Str}
theorem add_tail {g : Bool → Sem Unit} (hg : ∀ (b : Bool) (s₁ : Shared) (Q' : Unit → Shared → Prop), Q' () s₁ → wpAny (model P w) A (g b) Q' E s₁)
    {o : Obj} {es : Array (Int × Value)} {ep : Nat} {t : SetTable} (ho : s.heap.get? a = some o) (hex : o.ExactSet) (hd : o.data = .set es ep t)
    {es1 : Array (Int × Value)} {t2 : SetTable} (g1 : ∀ e ∈ es1.toList, GdE P w e) (nd : ks.Nodup) (pk : (es1.toList.map txtOf).Perm ks)
    (hb1 : es1.size < scanBound) (hf2 : t2.fits es1.size = true) (hr : Ris t2.place.toList) (hl : w.params.followText "set-order" = true ∨ t2.led = true) {wasDummy : Bool} {R : Option Bool → Shared → Prop}
    (hR : ∀ h', Heap.SameBut a s.heap h' → SetS P w h' a ks → R (some true) { s with heap := h' }) :
    wpAny (model P w) A (do
        storeSet a es1 t2
        if (!wasDummy && t2.tooFull) = true then do
            g (relayAll t2 es1 (SetTable.grown es1.size)).2.2
            storeSet a (relayAll t2 es1 (SetTable.grown es1.size)).1 (relayAll t2 es1 (SetTable.grown es1.size)).2.1
            pure (some true)
          else pure (some true)) R E s := by
  have st1 := store_at (es' := es1) (t' := t2) ho hd
  have ch1 := Heap.SameBut.update s.heap a (Obj.putSet es1 t2)
  refine wpAny_bind (wpAny_storeSet_of ho hd ?_ (fits_of_scanBound hb1))
  by_cases full : (!wasDummy && t2.tooFull) = true
  · rw [if_pos full]
    have q1 := relayAll_perm t2 es1 (SetTable.grown es1.size)
    have q2 := relayAll_fits t2 es1 (SetTable.grown es1.size)
    have q3 := relayAll_ris t2 es1 (SetTable.grown es1.size)
    have q4 := relayAll_led t2 es1 (SetTable.grown es1.size)
    generalize relayAll t2 es1 (SetTable.grown es1.size) = Z at q1 q2 q3 q4 ⊢
    obtain ⟨es2, t3, gave⟩ := Z
    dsimp only at q1 q2 q3 q4 ⊢
    have sz : es2.size = es1.size := by rw [← Array.length_toList, q1.length_eq, Array.length_toList]
    have hb2 : es2.size < scanBound := sz ▸ hb1
    have st2 := store_at (es' := es2) (t' := t3) st1 rfl
    refine wpAny_bind (hg _ _ _ (wpAny_bind (wpAny_storeSet_of st1 rfl (wpAny_pure (hR _ (ch1.trans (Heap.SameBut.update _ a _)) ?_)) (fits_of_scanBound hb2))))
    exact ⟨_, es2, _, t3, st2, hex, rfl, fun e he => g1 e (q1.mem_iff.mp he), nd, (q1.map txtOf).trans pk, hb2, q2, q3, hl.imp id fun z => q4.trans z⟩
  · rw [if_neg full]
    exact wpAny_pure (hR _ ch1 ⟨_, es1, _, t2, st1, hex, rfl, g1, nd, pk, hb1, hf2, hr, hl⟩)
theorem add_hashed {k : Str} {tk : Tok} {Q : Bool → Shared → Prop} (R : SetS P w s.heap a ks) (room : ks.length + 1 < scanBound)
    (hQ : ∀ b h', Heap.SameBut a s.heap h' → SetS P w h' a (ins ks k) → Q b { s with heap := h' }) :
    wpAny (model P w) A (setAddHashed a (.str k tk) ((strKind P w).hash k)) Q E s := by
  obtain ⟨o, es, ep, t, ho, hex, hd, g, nd, pk, hb, hf, hr, hl⟩ := R
  have hn : es.size = ks.length := by rw [← pk.length_eq, List.length_map, Array.length_toList]
  have key : (strKind P w).is k (.str k tk) = true := strKind_is P w k tk
  have sc : (Value.str k tk).scannable = true := rfl
  have hel : ElemsOf (strKind P w) es.toList := gd_elems g
  unfold setAddHashed setAddHashedIn
  refine wpAny_holding (wpAny_bind (wpAny_setState_of ho hd hf ?_))
  dsimp only
  rw [byScan_of sc hb hel]
  simp only [↓reduceIte]
  unfold setAddByScan
  refine wpAny_bind (wpAny_bind (wpAny_rule (wpAny_bind (wpAny_setScan_of key ho hd hf hel ?_))))
  cases hfi : List.findIdx? (fun e => (strKind P w).is k e.2) es.toList with
  | some j =>
    obtain ⟨hj, pj, _⟩ := List.findIdx?_eq_some_iff_getElem.mp hfi
    have hin : k ∈ ks := pk.mem_iff.mp ((gd_mem g k).2 ⟨_, List.getElem_mem hj, pj⟩)
    have q := hQ false s.heap (Heap.SameBut.refl a s.heap) ⟨o, es, ep, t, ho, hex, hd, g, by unfold ins; rw [if_pos hin]; exact nd, by unfold ins; rw [if_pos hin]; exact pk, hb, hf, hr, hl⟩
    exact wpAny_pure (wpAny_pure q)
  | none =>
    have hno : k ∉ ks := fun z => by
      obtain ⟨e, he, q⟩ := (gd_mem g k).1 (pk.mem_iff.mpr z)
      have c := List.findIdx?_eq_none_iff.mp hfi e he
      rw [q] at c
      cases c
    dsimp only
    have gw : ∀ (b : Bool) {s₁ : Shared} {Q' : Unit → Shared → Prop}, Q' () s₁ → wpAny (model P w) A (match b with | true => rule "set.scan.the-table-gave-way" | false => pure ()) Q' E s₁ :=
      fun b s₁ Q' q => by cases b <;> first | exact wpAny_pure q | exact wpAny_rule q
    have p1 := layNew_perm t es ((strKind P w).hash k) (.str k tk)
    have p2 := layNew_fits t es ((strKind P w).hash k) (.str k tk)
    have p3 := layNew_ris t es ((strKind P w).hash k) (.str k tk) hr
    have p4 := layNew_led t es ((strKind P w).hash k) (.str k tk)
    generalize layNew t es ((strKind P w).hash k) (.str k tk) = Z at p1 p2 p3 p4 ⊢
    obtain ⟨es1, t1, wasDummy, gave⟩ := Z
    dsimp only at p1 p2 p3 p4 ⊢
    rw [Array.toList_push] at p1
    have pc : es1.toList.Perm (((strKind P w).hash k, Value.str k tk) :: es.toList) := p1.trans (List.perm_append_singleton _ _)
    have pk1 : (es1.toList.map txtOf).Perm (ins ks k) := by
      unfold ins
      rw [if_neg hno]
      exact (pc.map txtOf).trans (List.Perm.cons k pk)
    have nd1 : (ins ks k).Nodup := by
      unfold ins
      rw [if_neg hno]
      exact List.nodup_cons.mpr ⟨hno, nd⟩
    have g1 : ∀ e ∈ es1.toList, GdE P w e := fun e he => by
      rcases List.mem_cons.mp (pc.mem_iff.mp he) with z | z
      · exact ⟨k, tk, by rw [z], by rw [z]⟩
      · exact g e z
    have sz : es1.size = ks.length + 1 := by rw [← Array.length_toList, pc.length_eq, List.length_cons, Array.length_toList, hn]
    have hb1 : es1.size < scanBound := sz ▸ room
    have hled : w.params.followText "set-order" = true ∨ t1.led = true := hl.imp id fun z => p4.trans z
    refine wpAny_bind (gw _ ?_)
    split
    · refine wpAny_bind ?_
      rw [hashByValue_scannable 8 sc]
      refine wpAny_pure (add_tail ?_ ho hex hd g1 nd1 pk1 hb1 ?_ ?_ ?_ ?_)
      · intro b s₁ Q' q; cases b <;> first | exact wpAny_pure q | exact wpAny_rule q
      · first | (split <;> first | exact p2 | exact SetTable.fits_plain_off p2) | exact p2
      · first | (split <;> exact p3) | exact p3
      · first | (split <;> exact hled) | exact hled
      · exact fun h' sb r => wpAny_pure (hQ true h' sb r)
    · refine wpAny_bind (wpAny_pure ?_)
      simp only [↓reduceIte]
      refine add_tail ?_ ho hex hd g1 nd1 pk1 hb1 p2 p3 hled ?_
      · intro b s₁ Q' q; cases b <;> first | exact wpAny_pure q | exact wpAny_rule q
      · exact fun h' sb r => wpAny_pure (hQ true h' sb r)
/-- the set before anything is in it -/
abbrev s0 (w : World) : Obj := { cls := .type "set", dict := none, data := .set #[] 0 (.fresh 0 0 (!w.params.followText "set-order")) }
theorem set0 {h : Heap} {a : Addr} (g : h.get? a = some (s0 w)) : SetS P w h a [] :=
  ⟨_, #[], 0, _, g, ⟨rfl, rfl, rfl⟩, rfl, (fun e he => by simp at he), List.nodup_nil, (by simp), (by decide), rfl, List.Pairwise.nil, by
    show _ ∨ (!w.params.followText "set-order") = true
    cases w.params.followText "set-order"
    · exact .inr rfl
    · exact .inl rfl⟩
theorem new_led (x : Value) {Q₁ : Value → Shared → Prop} (h : Q₁ (.ref s.heap.objs.size) { s with heap := s.heap.push (s0 w) }) :
    codeAny (model P w) A (.call (.builtin "set.__new__") ⟨[.type "set", x], []⟩) (wants Q₁ E) s := by
  refine codeAny_of_tree ?_
  show wpAny _ A.in1 (do checkBuiltinCall "set.__new__" ⟨[.type "set", x], []⟩; again (.builtin "set.__new__" ⟨[.type "set", x], []⟩)) _ _ s
  refine wpAny_bind (wpAny_of_eq (PySem.F.newCall_set_one x) (wpAny_pure ⟨plainId_quiet F.plain_set_new _, codeAny_builtin F.entry_set_new ?_⟩))
  rw [Around.under_plainId F.plain_set_new _]
  unfold Builtin.«set.__new__» Builtin.Frozenset.newClass
  have sub := sub_set_self
  obtain ⟨hp, g, d, tk, os⟩ := s
  dsimp only
  wp_walk
  refine wpAny_askSetting (wpAny_pure ?_)
  dsimp only
  simp only [newObj]
  exact wpAny_bind (wpAny_alloc (wpAny_pure (wpAny_pure h)))
end
section
variable {prog : Program} {w : World} {A : Around} {R : Result → Shared → Prop} {I : Addr} {fp wr : List Addr} {G : Array GenState → Array GenState → Prop} {n : Nat} {Pv : Nat → Value → Prop} {St : Nat → Shared → Prop}
theorem loop (W : WalksS prog w A.in1 I fp wr G n Pv St) (S : Addr) (hSf : S ∉ fp) (xs : List Str) (hsz : xs.length = n) (few : (dd xs).length < 4000)
    (hval : ∀ i v, Pv i v → ∃ t, v = .str (xs.getD i Str.empty) t) :
    ∀ (k i : Nat) (s : Shared), n - i = k → i ≤ n → St i s → SetS prog w s.heap S (dd (xs.take i)) →
      (∀ s', Moved (S :: wr) G s s' → SetS prog w s'.heap S (dd (xs.take n)) → R (.ok (.ret .none)) s') →
      codeAny (model prog w) A (.builtin "set.update.loop" ⟨[.ref S, .ref I], []⟩) R s := by
  have hSw : S ∉ wr := fun h => hSf (W.sub _ h)
  have sub : ∀ b ∈ wr, b ∈ S :: wr := fun b hb => List.mem_cons_of_mem _ hb
  intro k
  induction k with
  | zero =>
    intro i s hk hi hst hS hR
    obtain rfl : i = n := by omega
    refine codeAny_builtin PyProof.Rows.F.entry_set_update_loop ?_
    rw [Around.under_plainId PyProof.Rows.F.plain_set_update_loop _]
    show wpAny _ A.in1 (pyNext (.ref I) >>= _) _ _ s
    refine wpAny_bind (W.done s _ _ hst fun s' hm => ?_)
    show wpAny _ A.in1 (ret Value.none) _ _ s'
    exact wpAny_pure (hR s' (hm.mono sub) (hS.at fun o e => hm.heap S _ hSw e))
  | succ k ih =>
    intro i s hk hi hst hS hR
    have hlt : i < n := by omega
    refine codeAny_builtin PyProof.Rows.F.entry_set_update_loop ?_
    rw [Around.under_plainId PyProof.Rows.F.plain_set_update_loop _]
    show wpAny _ A.in1 (pyNext (.ref I) >>= _) _ _ s
    refine wpAny_bind (W.item i s _ _ hlt hst fun v s' hP hst' hm => ?_)
    obtain ⟨t, rfl⟩ := hval i v hP
    have hS' : SetS prog w s'.heap S (dd (xs.take i)) := hS.at fun o e => hm.heap S _ hSw e
    have hl := dd_take xs i
    show wpAny _ A.in1 (holding [Value.str (xs.getD i Str.empty) t] (setAdd S (.str (xs.getD i Str.empty) t)) >>= _) _ _ s'
    refine wpAny_bind (wpAny_holding ?_)
    unfold setAdd
    refine wpAny_holding (wpAny_bind ((PySem.strKind prog w).pyHash (k := xs.getD i Str.empty) (strKind_is _ _ _ _) ?_))
    refine add_hashed (s := { s' with toks := s'.toks + 1 }) hS' (by unfold scanBound; omega) fun b h' hsb hS2 => ?_
    have hx : xs[i]? = some (xs.getD i Str.empty) := by
      rw [List.getD_eq_getElem?_getD, List.getElem?_eq_getElem (by omega)]
      rfl
    rw [← dd_next hx] at hS2
    refine wpAny_pure ⟨plainId_quiet PyProof.Rows.F.plain_set_update_loop _, ih (i + 1) _ (by omega) hlt (W.frame _ s' _ _ hst' (Nat.le_succ _) fun b hb o e => ?_) hS2 fun s'' hm'' hS'' => ?_⟩
    · rw [hsb.2 b (fun h : b = S => hSf (by rw [← h]; exact hb))]; exact e
    · refine hR s'' (Moved.trans W.gtrans ((hm.mono sub).then_heap (Nat.le_succ _) fun b o hb e => ?_) hm'') hS''
      rw [hsb.2 b (fun h : b = S => hb (by rw [h]; exact List.mem_cons_self))]; exact e
end
section
variable {prog : Program} {w : World} {A : Around} {E : Value → Shared → Prop} {s : Shared}
set_option maxHeartbeats 8000000 in
theorem call_set_list {l : Addr} {items : Array Value} {xs : List Str} {Q : Value → Shared → Prop}
    (hh : A.handled = none) (hl : s.heap.IsList l items) (hi : StrsAre items.toList xs) (few : (dd xs).length < 4000)
    (h : ∀ (h' : Heap) (tk : Nat), SetS prog w h' s.heap.objs.size (dd xs) → (∀ b o, b < s.heap.objs.size → s.heap.get? b = some o → h'.get? b = some o) → Q (.ref s.heap.objs.size) { s with heap := h', toks := tk }) :
    wpAny (model prog w) A (call (.type "set") [.ref l]) Q E s := by
  obtain ⟨c, tl, hmro⟩ := PySem.F.called_set.mro
  have hmade := PySem.F.called_set.made
  have hsub := PySem.F.called_set.sub
  refine wpAny_call (codeAny_of_tree ?_)
  show wpAny _ _ (callAny (.type "set") _) _ _ _
  refine wpAny_pure ⟨Code.quiet_builtin _ (by decide +kernel), codeAny_builtin PySem.F.entry_type_call ?_⟩
  rw [Around.under_plain (weight_type_call_type "set" [.ref l] []) rfl]
  have h1 := PySem.F.called_set.notType
  have h2 := PySem.F.called_set.canCreate
  have hct := PySem.F.typeCall_set_1 (.ref l)
  repeat (any_goals (first | assumption | wp_step))
  refine codeAny_mono (new_led (.ref l) (E := E) (Q₁ := fun obj s₁ => obj = .ref s.heap.objs.size ∧ s₁ = { s with heap := s.heap.push (s0 w) }) ⟨rfl, rfl⟩) fun r s₁ hr => ?_
  cases r with
  | error e => exact hr
  | ok fl =>
    cases fl with
    | ret obj =>
      obtain ⟨rfl, rfl⟩ := hr
      have hS : (s.heap.push (s0 w)).get? s.heap.objs.size = some (s0 w) := Heap.get?_push_size _ rfl
      have hT : Shared.TypeIs { s with heap := s.heap.push (s0 w) } (.ref s.heap.objs.size) "set" := ⟨_, hS, rfl⟩
      have hli := PySem.F.called_set.init.lookup
      have hbi := PySem.F.called_set.init.bind (.ref s.heap.objs.size)
      repeat (any_goals (first | assumption | wp_step))
      refine codeAny_mono (codeAny_call_builtin (R := wants (fun r s₂ => r = .none ∧ ∃ h' tk, s₂ = { s with heap := h', toks := tk } ∧
          SetS prog w h' s.heap.objs.size (dd xs) ∧ (∀ b o, b < s.heap.objs.size → s.heap.get? b = some o → h'.get? b = some o)) E) PySem.F.called_set.init.plain PySem.F.entry_set_init (check_set_init_1 hT ?_)) fun r₂ s₂ hr₂ => ?_
      · obtain ⟨ol, hol, hcl, nl, hdl⟩ := hl
        obtain ⟨ocls, odict, odata, oslots⟩ := ol
        simp only at hcl hdl
        subst hcl; subst hdl
        have hol' : (s.heap.push (s0 w)).get? l = some { cls := .type "list", dict := odict, data := .seq items nl, slots := oslots } := Heap.get?_push_of_some _ hol
        have n1 := PySem.F.sub_list_set
        have n2 := PySem.F.sub_list_frozenset
        have n3 : (Value.type "list" == Value.type "dict") = false := by decide
        have hl1 : (s.heap.push (s0 w)).IsList l items := ⟨_, hol', rfl, nl, rfl⟩
        unfold Builtin.«set.__init__» noKeywords Builtin.Frozenset.updateFrom
        generalize hPI : pyIter = PI
        wp_walk
        subst hPI
        refine wpAny_pyIter_list hl1 (wpAny_bind (wpAny_runValue ?_))
        have hlS : l < s.heap.objs.size := Heap.lt_size hol
        have hh3 : A.in1.in1.in1.handled = none := by simp [hh]
        have hneI : l ≠ (s.heap.push (s0 w)).objs.size := by
          rw [Heap.size_push]; exact Nat.ne_of_lt (Nat.lt_succ_of_lt hlS)
        have hSf : s.heap.objs.size ∉ [(s.heap.push (s0 w)).objs.size, l] := by
          rw [Heap.size_push]; simp only [List.mem_cons, List.mem_singleton, List.not_mem_nil, or_false, not_or]
          exact ⟨Nat.ne_of_lt (Nat.lt_succ_self _), Nat.ne_of_gt hlS⟩
        have hsz : xs.length = items.size := by rw [← StrsAre.len_eq hi, Array.length_toList]
        have hval : ∀ (i : Nat) (v : Value), items[i]? = some v → ∃ t, v = .str (xs.getD i Str.empty) t := fun i v hv => SS.strs_at hi i v (by rw [Array.getElem?_toList]; exact hv)
        refine loop ((Walks.list hh3 _ l hneI items).toS) s.heap.objs.size hSf xs hsz few hval (items.size - 0) 0 _ (by omega) (Nat.zero_le _)
          ⟨⟨_, Heap.get?_push_size _ rfl, rfl, rfl⟩, (hl1.push _)⟩ (set0 (Heap.get?_push_of_some _ hS)) ?_
        intro s' hm hS'
        obtain ⟨h', g', d', tk', os'⟩ := s'
        have eg : g' = s.gens := hm.gens
        have ed : d' = s.drawn := hm.drawn
        have eo : os' = s.os := hm.os
        subst eg; subst ed; subst eo
        rw [List.take_of_length_le (by omega)] at hS'
        show wpAny _ _ _ _ _ _
        refine wpAny_pure ?_
        show wpAny _ _ (ret Value.none) _ _ _
        refine wpAny_pure ⟨rfl, h', tk', rfl, hS', fun b o hb e => ?_⟩
        have hb1 : b ≠ s.heap.objs.size := Nat.ne_of_lt hb
        have hb2 : b ≠ (s.heap.push (s0 w)).objs.size := by
          rw [Heap.size_push]; exact Nat.ne_of_lt (Nat.lt_succ_of_lt hb)
        exact hm.heap b o (by simp only [List.mem_cons, List.mem_singleton, List.not_mem_nil, or_false, not_or]; exact ⟨hb1, hb2⟩) (Heap.get?_push_of_some _ (Heap.get?_push_of_some _ e))
      · cases r₂ with
        | error e => exact hr₂
        | ok fl₂ =>
          cases fl₂ with
          | ret r =>
            obtain ⟨rfl, h', tk, rfl, hS', hk'⟩ := hr₂
            repeat (any_goals (first | assumption | wp_step))
            exact h _ _ hS' hk'
          | _ => exact hr₂.elim
    | _ => exact hr.elim
set_option maxHeartbeats 8000000 in
theorem call_set_tuple {l : Addr} {items : Array Value} {xs : List Str} {Q : Value → Shared → Prop}
    (hh : A.handled = none) (hl : s.heap.IsTuple l items) (hi : StrsAre items.toList xs) (few : (dd xs).length < 4000)
    (h : ∀ (h' : Heap) (tk : Nat), SetS prog w h' s.heap.objs.size (dd xs) → (∀ b o, b < s.heap.objs.size → s.heap.get? b = some o → h'.get? b = some o) → Q (.ref s.heap.objs.size) { s with heap := h', toks := tk }) :
    wpAny (model prog w) A (call (.type "set") [.ref l]) Q E s := by
  obtain ⟨c, tl, hmro⟩ := PySem.F.called_set.mro
  have hmade := PySem.F.called_set.made
  have hsub := PySem.F.called_set.sub
  refine wpAny_call (codeAny_of_tree ?_)
  show wpAny _ _ (callAny (.type "set") _) _ _ _
  refine wpAny_pure ⟨Code.quiet_builtin _ (by decide +kernel), codeAny_builtin PySem.F.entry_type_call ?_⟩
  rw [Around.under_plain (weight_type_call_type "set" [.ref l] []) rfl]
  have h1 := PySem.F.called_set.notType
  have h2 := PySem.F.called_set.canCreate
  have hct := PySem.F.typeCall_set_1 (.ref l)
  repeat (any_goals (first | assumption | wp_step))
  refine codeAny_mono (new_led (.ref l) (E := E) (Q₁ := fun obj s₁ => obj = .ref s.heap.objs.size ∧ s₁ = { s with heap := s.heap.push (s0 w) }) ⟨rfl, rfl⟩) fun r s₁ hr => ?_
  cases r with
  | error e => exact hr
  | ok fl =>
    cases fl with
    | ret obj =>
      obtain ⟨rfl, rfl⟩ := hr
      have hS : (s.heap.push (s0 w)).get? s.heap.objs.size = some (s0 w) := Heap.get?_push_size _ rfl
      have hT : Shared.TypeIs { s with heap := s.heap.push (s0 w) } (.ref s.heap.objs.size) "set" := ⟨_, hS, rfl⟩
      have hli := PySem.F.called_set.init.lookup
      have hbi := PySem.F.called_set.init.bind (.ref s.heap.objs.size)
      repeat (any_goals (first | assumption | wp_step))
      refine codeAny_mono (codeAny_call_builtin (R := wants (fun r s₂ => r = .none ∧ ∃ h' tk, s₂ = { s with heap := h', toks := tk } ∧
          SetS prog w h' s.heap.objs.size (dd xs) ∧ (∀ b o, b < s.heap.objs.size → s.heap.get? b = some o → h'.get? b = some o)) E) PySem.F.called_set.init.plain PySem.F.entry_set_init (check_set_init_1 hT ?_)) fun r₂ s₂ hr₂ => ?_
      · obtain ⟨ol, hol, hcl, nl, hdl⟩ := hl
        obtain ⟨ocls, odict, odata, oslots⟩ := ol
        simp only at hcl hdl
        subst hcl; subst hdl
        have hol' : (s.heap.push (s0 w)).get? l = some { cls := .type "tuple", dict := odict, data := .seq items nl, slots := oslots } := Heap.get?_push_of_some _ hol
        have n1 := PySem.F.sub_tuple_set
        have n2 := PySem.F.sub_tuple_frozenset
        have n3 : (Value.type "tuple" == Value.type "dict") = false := by decide
        have hl1 : (s.heap.push (s0 w)).IsTuple l items := ⟨_, hol', rfl, nl, rfl⟩
        unfold Builtin.«set.__init__» noKeywords Builtin.Frozenset.updateFrom
        generalize hPI : pyIter = PI
        wp_walk
        subst hPI
        refine wpAny_pyIter_tuple hl1 (wpAny_bind (wpAny_runValue ?_))
        have hlS : l < s.heap.objs.size := Heap.lt_size hol
        have hh3 : A.in1.in1.in1.handled = none := by simp [hh]
        have hneI : l ≠ (s.heap.push (s0 w)).objs.size := by
          rw [Heap.size_push]; exact Nat.ne_of_lt (Nat.lt_succ_of_lt hlS)
        have hSf : s.heap.objs.size ∉ [(s.heap.push (s0 w)).objs.size, l] := by
          rw [Heap.size_push]; simp only [List.mem_cons, List.mem_singleton, List.not_mem_nil, or_false, not_or]
          exact ⟨Nat.ne_of_lt (Nat.lt_succ_self _), Nat.ne_of_gt hlS⟩
        have hsz : xs.length = items.size := by rw [← StrsAre.len_eq hi, Array.length_toList]
        have hval : ∀ (i : Nat) (v : Value), items[i]? = some v → ∃ t, v = .str (xs.getD i Str.empty) t := fun i v hv => SS.strs_at hi i v (by rw [Array.getElem?_toList]; exact hv)
        refine loop ((Walks.tuple hh3 _ l hneI items).toS) s.heap.objs.size hSf xs hsz few hval (items.size - 0) 0 _ (by omega) (Nat.zero_le _)
          ⟨⟨_, Heap.get?_push_size _ rfl, rfl, rfl⟩, (hl1.push _)⟩ (set0 (Heap.get?_push_of_some _ hS)) ?_
        intro s' hm hS'
        obtain ⟨h', g', d', tk', os'⟩ := s'
        have eg : g' = s.gens := hm.gens
        have ed : d' = s.drawn := hm.drawn
        have eo : os' = s.os := hm.os
        subst eg; subst ed; subst eo
        rw [List.take_of_length_le (by omega)] at hS'
        show wpAny _ _ _ _ _ _
        refine wpAny_pure ?_
        show wpAny _ _ (ret Value.none) _ _ _
        refine wpAny_pure ⟨rfl, h', tk', rfl, hS', fun b o hb e => ?_⟩
        have hb1 : b ≠ s.heap.objs.size := Nat.ne_of_lt hb
        have hb2 : b ≠ (s.heap.push (s0 w)).objs.size := by
          rw [Heap.size_push]; exact Nat.ne_of_lt (Nat.lt_succ_of_lt hb)
        exact hm.heap b o (by simp only [List.mem_cons, List.mem_singleton, List.not_mem_nil, or_false, not_or]; exact ⟨hb1, hb2⟩) (Heap.get?_push_of_some _ (Heap.get?_push_of_some _ e))
      · cases r₂ with
        | error e => exact hr₂
        | ok fl₂ =>
          cases fl₂ with
          | ret r =>
            obtain ⟨rfl, h', tk, rfl, hS', hk'⟩ := hr₂
            repeat (any_goals (first | assumption | wp_step))
            exact h _ _ hS' hk'
          | _ => exact hr₂.elim
    | _ => exact hr.elim
end
end Ts
namespace Ts
open PySem PySem.Spec PyProof.Rows L2
/-! ### the order of texts -/
def leS (a b : Str) : Bool := !ltCps b.cps.toList a.cps.toList
theorem leS_iff {a b : Str} : leS a b = true ↔ a.cps.toList ≤ b.cps.toList := by
  unfold leS
  rw [ltCps_eq, Bool.not_eq_true', decide_eq_false_iff_not]
  exact Iff.rfl
theorem leS_trans (a b c : Str) (h : leS a b = true) (k : leS b c = true) : leS a c = true := by
  rw [leS_iff] at *
  exact List.le_trans h k
theorem leS_total (a b : Str) : (leS a b || leS b a) = true := by
  rw [Bool.or_eq_true, leS_iff, leS_iff]
  exact List.le_total _ _
theorem leS_anti {a b : Str} (h : leS a b = true) (k : leS b a = true) : a = b := by
  rw [leS_iff] at *
  have e : a.cps.toList = b.cps.toList := List.le_antisymm h k
  have e2 : a.cps = b.cps := Array.toList_inj.mp e
  obtain ⟨x⟩ := a
  obtain ⟨y⟩ := b
  simp only at e2
  rw [e2]
/-- sorted -/
def srt (l : List Str) : List Str := l.mergeSort leS
theorem srt_perm (l : List Str) : (srt l).Perm l := List.mergeSort_perm l leS
theorem srt_pw (l : List Str) : (srt l).Pairwise fun a b => leS a b = true := List.pairwise_mergeSort leS_trans leS_total l
theorem pw_of_rising : ∀ (p : Str) (l : List Str), risingS p l = true → (p :: l).Pairwise fun a b => leS a b = true
  | p, [], _ => by simp
  | p, x :: r, h => by
    have h' : (!ltCps x.cps.toList p.cps.toList && risingS x r) = true := h
    rw [Bool.and_eq_true] at h'
    have ih := pw_of_rising x r h'.2
    have hx : leS p x = true := h'.1
    refine List.pairwise_cons.mpr ⟨fun y hy => ?_, ih⟩
    rcases List.mem_cons.mp hy with rfl | hy
    · exact hx
    · exact leS_trans _ _ _ hx ((List.pairwise_cons.mp ih).1 y hy)
theorem pw_of_sorted {l : List Str} (h : sortedS l = true) : l.Pairwise fun a b => leS a b = true := by
  cases l with
  | nil => exact List.Pairwise.nil
  | cons x r => exact pw_of_rising x r h
theorem pw_uniq {l m : List Str} (h : l.Perm m) (p : l.Pairwise fun a b => leS a b = true) (q : m.Pairwise fun a b => leS a b = true) : l = m :=
  List.Perm.eq_of_pairwise (le := fun a b => leS a b = true) (fun a b _ _ h k => leS_anti h k) p q h
theorem srt_uniq {l ys : List Str} (h : ys.Perm l) (s : sortedS ys = true) : ys = srt l := pw_uniq (h.trans (srt_perm l).symm) (pw_of_sorted s) (srt_pw l)
/-! ### sorted(set) -/
section
variable {P : Program} {w : World} {A : Around} {E : Value → Shared → Prop} {s : Shared} {a : Addr} {ks : List Str}
theorem strs_of : ∀ (l : List Value), (∀ v ∈ l, ∃ k tk, v = Value.str k tk) → ∃ ys, StrsAre l ys ∧ ys = l.map (fun v => match v with | .str k _ => k | _ => Str.empty)
  | [], _ => ⟨[], .nil, rfl⟩
  | v :: l, h => by
    obtain ⟨k, tk, rfl⟩ := h v (by simp)
    obtain ⟨ys, h1, h2⟩ := strs_of l fun u hu => h u (by simp [hu])
    exact ⟨k :: ys, .cons k tk h1, by rw [h2]; rfl⟩
theorem sorted_setS {Q : Value → Shared → Prop} (R : SetS P w s.heap a ks) (hh : A.handled = none) (h64 : ks.length < 64)
    (hQ : ∀ s' p (out : Array Value) (c : Nat) (ys : List Str), (∀ b o, s.heap.get? b = some o → s'.heap.get? b = some o) → s'.gens = s.gens → s'.os = s.os → s.heap.objs.size ≤ p →
      s'.heap.get? p = some (seqObj "list" out c) → StrsAre out.toList ys → ys.Perm ks → sortedS ys = true → Q (.ref p) s') :
    wpAny (model P w) A (call (.builtin "sorted") [.ref a]) Q E s := by
  obtain ⟨o, es, ep, t, ho, hex, hd, g, nd, pk, hb, hf, hr, hl⟩ := R
  have hn : es.size = ks.length := by rw [← pk.length_eq, List.length_map, Array.length_toList]
  refine Calls.call_function_entry kind_sorted plain_sorted entry_sorted (args_sorted1 _) ?_
  unfold Builtin.«sorted»
  refine wpAny_bind (m := checkCount "sorted" 1 1 _) (wpAny_pure ?_)
  refine wpAny_bind (collect_set (A := A.in1) hh ⟨o, ho, hex.1, hd⟩ hf hb hr hl fun s1 vs k1 hz g1 o1 pm => ?_)
  have len : vs.length = ks.length := by rw [pm.length_eq, List.length_map, Array.length_toList, hn]
  obtain ⟨zs, hS, ez⟩ := strs_of vs fun v hv => by
    obtain ⟨e, he, q⟩ := List.mem_map.mp (pm.mem_iff.mp hv)
    obtain ⟨k, tk, h1, _⟩ := g e he
    exact ⟨k, tk, by rw [← q]; exact h1⟩
  have pz : zs.Perm ks := by
    rw [ez]
    have q := pm.map (fun v : Value => match v with | .str k _ => k | _ => Str.empty)
    rw [List.map_map] at q
    exact q.trans pk
  refine wpAny_bind (wpAny_newList ?_ (by rw [len, sizeLine_eq]; omega))
  have hoL : (s1.heap.push (seqObj "list" vs.toArray 0)).get? s1.heap.objs.size = some (seqObj "list" vs.toArray 0) := Heap.get?_push_size _ rfl
  refine wpAny_bind (wpAny_holding (wpAny_call_entry slot_list_sort ⟨_, hoL, rfl⟩ entry_list_sort
    (list_sort_treeK strKind_oneLt hoL hS.keysOf (fun v₁ v₂ rest e => keyKind_strs (by rw [← e]; exact hS)) (by rw [len]; exact h64) fun st' hp hs => ⟨_, rfl, ?_⟩) (args_list_sort _)))
  obtain ⟨ys, q1, q2, q3⟩ := sorted_out_str hS hp hs
  obtain ⟨c, hc⟩ := sortedHeap_at (vs := vs) (out := (arrOf st').map (·.2)) hoL
  refine wpAny_pure ⟨_, rfl, hQ _ s1.heap.objs.size _ c ys (fun b u e => ?_) g1 o1 hz hc q1 (q2.trans pz) q3⟩
  have q := k1 b u e
  have hlt := Heap.lt_size q
  show (sortedHeap (s1.heap.push (seqObj "list" vs.toArray 0)) s1.heap.objs.size vs _).get? b = some u
  rw [sortedHeap_old (Nat.ne_of_lt hlt) (by rw [size_push']; exact Nat.lt_succ_of_lt hlt)]
  exact Heap.get?_push_of_some _ q
end
section
variable {X : Cx}
/-- a list or a tuple of texts -/
def TxtAt (K : PySem.W.Frag) (H : Hp) (l : Addr) (xs : List Str) : Prop := SqL K H l (xs.map V.str) ∨ SqT K H l (xs.map V.str)
def tSetOf (K : PySem.W.Frag) (ta : TE) (k : Addr → List Str → Hp → Prop) : L2.St → Hp → Prop := fun σ H => ta σ H fun x H1 => ∃ l xs, x = .ref l ∧ TxtAt K H1 l xs ∧ xs.length < 4000 ∧ k l xs H1
theorem run_set {pins : List (Addr × Obj)} {σ : L2.St} {H : Hp} {s1 : Shared} {l : Addr} {xs : List Str} {E : Value → Shared → Prop} {Q : Value → Shared → Prop} (hc : X.calm = true) (I : Inv X pins σ H s1) (hq : TxtAt X.kx H l xs) (few : (dd xs).length < 4000)
    (h : ∀ (h' : Heap) (tk : Nat), SetS X.prog X.w h' s1.heap.objs.size (dd xs) → Inv X pins σ H { s1 with heap := h', toks := tk } → Q (.ref s1.heap.objs.size) { s1 with heap := h', toks := tk }) :
    wpAny (model X.prog X.w) X.A (call (.type "set") [.ref l]) Q E s1 := by
  rcases hq with hq | hq
  · obtain ⟨its, r, pl, hz⟩ := I.list hq
    exact call_set_list (I.ok.hd hc) pl.isList (by simpa using strsAre_of r) few fun h' tk hS hk => h h' tk hS (I.kept fun b o e => hk b o (Heap.lt_size e) e)
  · obtain ⟨its, r, pl, hz⟩ := I.tuple hq
    exact call_set_tuple (I.ok.hd hc) pl (by simpa using strsAre_of r) few fun h' tk hS hk => h h' tk hS (I.kept fun b o e => hk b o (Heap.lt_size e) e)
def tLenSet (K : PySem.W.Frag) (ta : TE) : TE := fun σ H Q => tSetOf K ta (fun _ xs H1 => Q (.int (dd xs).length) H1) σ H
theorem pe_lenSet {a : Expr} {ta : TE} {p p2 q pos : Pos} (hg : Gl X "len") (hm : X.mg "len" = none) (hg2 : Gl X "set") (hm2 : X.mg "set" = none) (ha : PE X a ta) (hc : X.calm = true := by rfl)
    (na : starEach [a] X.env = (false, eval a X.env) :: starEach [] X.env := by rfl) : PE X (.Call (.Name "len" p) [.Call (.Name "set" p2) [a] [] q] [] pos) (tLenSet X.kx ta) := by
  refine ⟨fun pins s σ H Q I h => ?_⟩
  refine Call_ (ld_blt I hg hm boot_len ?_)
  refine PyProof.Rows.callWith_builtin1 (PyProof.Rows.args_cons ?_ rfl) rfl rfl
  refine Call_ (ld_blt I hg2 hm2 boot_set ?_)
  refine PyProof.Rows.callWith_type1 (PyProof.Rows.args_cons (thn (ha.run pins s σ H _ I h) fun v s1 ⟨x, H1, I1, r1, q1⟩ => PyProof.Rows.args_nil ?_) na) na rfl
  obtain ⟨l, xs, rfl, hq, few, q1⟩ := q1
  cases r1
  refine run_set hc I1 hq (Nat.lt_of_le_of_lt (dd_len xs) few) fun h' tk hS I2 => ?_
  refine PyProof.Rows.args_nil ?_
  obtain ⟨o, es, ep, t, ho, hex, hd, _, _, pk, hb, hf, _⟩ := hS
  have hn : es.size = (dd xs).length := by rw [← pk.length_eq, List.length_map, Array.length_toList]
  exact call_len_set ho hex hd hf (by have := dd_len xs; unfold cLine at *; omega) ⟨.int (dd xs).length, H1, I2.tok _, ⟨_, by rw [hn]⟩, q1⟩
theorem run_sorted {pins : List (Addr × Obj)} {σ : L2.St} {H1 : Hp} {s2 : Shared} {a : Addr} {ks : List Str} {Q : VK} (hc : X.calm = true) (I2 : Inv X pins σ H1 s2) (hS : SetS X.prog X.w s2.heap a ks) (h64 : ks.length < 64)
    (q1 : ∀ p, H1 p = none → Q (.ref p) (upd H1 p (.lst ((srt ks).map V.str)))) : wpAny (model X.prog X.w) X.A (call (.builtin "sorted") [.ref a]) (EP X pins σ Q) X.xe s2 := by
  refine sorted_setS hS (I2.ok.hd hc) h64 fun s' p out c ys k g o hp hg hi pm so => ?_
  have ey := srt_uniq pm so
  have hlen : (ys.map V.str).length ≤ sizeLine := by rw [List.length_map, pm.length_eq, sizeLine_eq]; omega
  have hn : H1 p = none := I2.hok.fresh hp
  have J : Inv X pins σ (upd H1 p (.lst (ys.map V.str))) { s2 with heap := s'.heap, gens := s'.gens, drawn := s'.drawn, toks := s'.toks } :=
    I2.call (ch := []) (Un.laid k hp hn) (I2.hok.laid k hp ⟨hlen, out.toList, c, vals_of_strs hi, hg⟩) (by rw [g]; exact I2.bare) (fun _ z => nomatch z)
  have e : s' = { s2 with heap := s'.heap, gens := s'.gens, drawn := s'.drawn, toks := s'.toks } := by
    cases s'
    cases s2
    cases o
    rfl
  rw [e]
  rw [ey] at J
  exact ⟨.ref p, _, J, rfl, q1 p hn⟩
def tSortSet (K : PySem.W.Frag) (ta : TE) : TE := fun σ H Q => tSetOf K ta (fun _ xs H1 => (dd xs).length < 64 ∧ ∀ p, H1 p = none → Q (.ref p) (upd H1 p (.lst ((srt (dd xs)).map V.str)))) σ H
theorem pe_sortSet {a : Expr} {ta : TE} {p p2 q pos : Pos} (hg : Gl X "sorted") (hm : X.mg "sorted" = none) (hg2 : Gl X "set") (hm2 : X.mg "set" = none) (ha : PE X a ta) (hc : X.calm = true := by rfl)
    (na : starEach [a] X.env = (false, eval a X.env) :: starEach [] X.env := by rfl) : PE X (.Call (.Name "sorted" p) [.Call (.Name "set" p2) [a] [] q] [] pos) (tSortSet X.kx ta) := by
  refine ⟨fun pins s σ H Q I h => ?_⟩
  refine Call_ (ld_blt I hg hm boot_sorted ?_)
  refine PyProof.Rows.callWith_builtin1 (PyProof.Rows.args_cons ?_ rfl) rfl rfl
  refine Call_ (ld_blt I hg2 hm2 boot_set ?_)
  refine PyProof.Rows.callWith_type1 (PyProof.Rows.args_cons (thn (ha.run pins s σ H _ I h) fun v s1 ⟨x, H1, I1, r1, q1⟩ => PyProof.Rows.args_nil ?_) na) na rfl
  obtain ⟨l, xs, rfl, hq, few, h64, q1⟩ := q1
  cases r1
  refine run_set hc I1 hq (Nat.lt_of_le_of_lt (dd_len xs) few) fun h' tk hS I2 => ?_
  refine PyProof.Rows.args_nil ?_
  exact run_sorted hc I2 hS h64 q1
end
end Ts
namespace Mi
open PySem PySem.Spec PyProof.Rows L2
/-! ### len(set(..)), sorted(set(..)), sorted(..) of texts -/
def txtD (d : PyData) : Option (List Str) := match sqO d with
  | some ds => strsOf ds
  | none => none
theorem txtD_at {K : Frag} {G H : Hp} {v : V} {d : PyData} {xs : List Str} (e : txtD d = some xs) (r : Rp K G v d) (s : ∀ a o, G a = some o → H a = some o) : ∃ l, v = .ref l ∧ Ts.TxtAt K H l xs := by
  unfold txtD at e
  cases h : sqO d with
  | none => rw [h] at e; cases e
  | some ds =>
    rw [h] at e
    have ed := strsOf_eq e
    subst ed
    obtain ⟨t, a, vs, rfl, f, ra⟩ := r.fs h
    have ev := strs_rp ra
    subst ev
    have q := f.sq s
    cases t
    · exact ⟨a, rfl, .inl q⟩
    · exact ⟨a, rfl, .inr q⟩
def lenSetD (d : PyData) : Option PyData := match txtD d with
  | some xs => if xs.length < 4000 then some (.int (Ts.dd xs).length) else none
  | none => none
def sortSetD (d : PyData) : Option PyData := match txtD d with
  | some xs => if xs.length < 4000 ∧ (Ts.dd xs).length < 64 then some (.list ((Ts.srt (Ts.dd xs)).map .str)) else none
  | none => none
section
variable {X : Cx} {W : WX} {e : Expr} {m : MM PyData} {p p2 q pos : Pos}
theorem rpAll_strs {K : Frag} {G : Hp} : ∀ (xs : List Str), RpAll K G (xs.map V.str) (xs.map PyData.str)
  | [] => .nil
  | x :: xs => .cons (.str x) (rpAll_strs xs)
theorem me_lenSet (hm : X.mg "len" = none) (hm2 : X.mg "set" = none) (ha : ME X W e m) (hg : Gl X "len" := by rfl) (hg2 : Gl X "set" := by rfl) (hc : X.calm = true := by rfl)
    (na : starEach [e] X.env = (false, eval e X.env) :: starEach [] X.env := by rfl) : ME X W (.Call (.Name "len" p) [.Call (.Name "set" p2) [e] [] q] [] pos) (op1 lenSetD m) := PE.wk (Ts.pe_lenSet hg hm hg2 hm2 ha hc na) fun σ H Q ⟨F, g, G, A, q⟩ => by
  refine ⟨F, g, G, A, Po.imp q.bnd fun d g1 G1 H1 A1 s1 k1 x rx => ?_⟩
  obtain ⟨z, ez, k⟩ := k1.lft
  unfold lenSetD at ez
  cases et : txtD d with
  | none => rw [et] at ez; cases ez
  | some xs =>
    rw [et] at ez
    obtain ⟨l, rfl, ht⟩ := txtD_at et rx A1.ex
    simp only at ez
    split at ez
    · rename_i few
      cases ez
      exact ⟨l, xs, rfl, ht, few, k G1 H1 A1 (Same.refl _) _ (.int _)⟩
    · cases ez
theorem me_sortSet (hm : X.mg "sorted" = none) (hm2 : X.mg "set" = none) (ha : ME X W e m) (hg : Gl X "sorted" := by rfl) (hg2 : Gl X "set" := by rfl) (hc : X.calm = true := by rfl)
    (na : starEach [e] X.env = (false, eval e X.env) :: starEach [] X.env := by rfl) : ME X W (.Call (.Name "sorted" p) [.Call (.Name "set" p2) [e] [] q] [] pos) (op1 sortSetD m) := PE.wk (Ts.pe_sortSet hg hm hg2 hm2 ha hc na) fun σ H Q ⟨F, g, G, A, q⟩ => by
  refine ⟨F, g, G, A, Po.imp q.bnd fun d g1 G1 H1 A1 s1 k1 x rx => ?_⟩
  obtain ⟨z, ez, k⟩ := k1.lft
  unfold sortSetD at ez
  cases et : txtD d with
  | none => rw [et] at ez; cases ez
  | some xs =>
    rw [et] at ez
    obtain ⟨l, rfl, ht⟩ := txtD_at et rx A1.ex
    simp only at ez
    split at ez
    · rename_i few
      cases ez
      refine ⟨l, xs, rfl, ht, few.1, few.2, fun p hp => ?_⟩
      have gr := Gr.new (o := .lst ((Ts.srt (Ts.dd xs)).map V.str)) A1.ex hp
      exact k _ _ (A1.grow gr) gr.g _ (.lst upd_same (rpAll_strs _))
    · cases ez
end
@[simp ↓] theorem lenSet_ok {P : PyData → Prop} {d : PyData} : okO (lenSetD d) P ↔ okO (txtD d) fun xs => xs.length < 4000 ∧ P (.int (Ts.dd xs).length) := by
  unfold lenSetD
  cases txtD d with
  | none => exact Iff.rfl
  | some xs => exact okO_if
@[simp ↓] theorem sortSet_ok {P : PyData → Prop} {d : PyData} : okO (sortSetD d) P ↔ okO (txtD d) fun xs => (xs.length < 4000 ∧ (Ts.dd xs).length < 64) ∧ P (.list ((Ts.srt (Ts.dd xs)).map .str)) := by
  unfold sortSetD
  cases txtD d with
  | none => exact Iff.rfl
  | some xs => exact okO_if
theorem strsOf_map : ∀ (xs : List Str), strsOf (xs.map PyData.str) = some xs
  | [] => rfl
  | x :: xs => by simp [strsOf, strsOf_map xs]
theorem txt_lst {P : List Str → Prop} {xs : List Str} : okO (txtD (.list (xs.map .str))) P ↔ P xs := by
  have : txtD (.list (xs.map PyData.str)) = some xs := strsOf_map xs
  rw [this]
  exact Iff.rfl
end Mi
/-! list.extend by a list or a tuple -/
namespace Ext
open PySem PySem.Spec PyProof.Rows L2
open AutoSeq1
theorem by_tuple (l : Addr) (items : Array Value) (n : Nat) (b : Addr) (items2 : Array Value) (n2 : Nat) (dd2 : Option Addr) (sl2 : Array (Option Value)) (hs0 : ¬(!items.isEmpty && Builtin.List.listTooLong (items.size + items2.size)) = true) (hs1 : items.size ≤ sizeLine) (hs2 : items.size + items2.size ≤ sizeLine + 1) :
    Meets (Builtin.«list.extend» ⟨[.ref l, .ref b], []⟩) (fun _ R s => s.heap.get? l = some { cls := .type "list", dict := none, data := .seq items n, slots := #[] } ∧ s.heap.get? b = some { cls := .type "tuple", dict := dd2, data := .seq items2 n2, slots := sl2 } ∧ R (.ok (.ret Value.none)) { s with heap := s.heap.update l (Obj.mapSeq fun x => x ++ items2), toks := s.toks }) :=
  .of_wp fun prog w A R s h => by
    obtain ⟨hp, g, d, tk, os⟩ := s
    obtain ⟨hl, hb, h⟩ := h
    have f1 := AutoSeq1.idx_int
    have f2 := AutoSeq1.sub_tuple_tuple
    have f3 := AutoSeq1.sub_list_list
    have f4 := AutoSeq1.sub_tuple_list
    have f5 := AutoSeq1.sub_list_tuple
    have hz' : (items ++ items2).size ≤ sizeLine + 1 := by rw [Array.size_append]; exact hs2
    wp_walk using (wpAny_updateSeq hl rfl (hz := hs1) (_hz' := hz')), wpAny_loadPart' hl, wpAny_loadPart' hb
    exact ⟨_, rfl, h⟩
def rExt (K : PySem.W.Frag) : V → List V → Hp → VK → Prop := fun x vs H Q => ∃ l b xs zs, x = .ref l ∧ vs = [.ref b] ∧ H l = some (.lst xs) ∧ (H b = some (.lst zs) ∨ SqT K H b zs) ∧ xs.length + zs.length ≤ sizeLine ∧ Q .non (upd H l (.lst (xs ++ zs)))
section
variable {X : Cx}
theorem mt_ext : MtM X "list.extend" (rExt X.kx) := by
  intro pins s σ H x vs v us Q I rx rv h
  obtain ⟨l, b, xs, zs, rfl, rfl, hH, hB, hz, q⟩ := h
  rcases hB with hB | hB
  · exact mt_extend pins s σ H _ _ v us Q I rx rv ⟨l, b, xs, zs, rfl, rfl, hH, hB, hz, q⟩
  · cases rx
    obtain ⟨u, rfl, ru⟩ := rv.one
    cases ru
    obtain ⟨z, its, n, r, hl, e⟩ := I.lstM hH
    obtain ⟨its2, r2, ⟨⟨c2, d2, dt2, sl2⟩, ho2, hc2, n2, hd2⟩, _⟩ := I.tuple hB
    simp only at hc2 hd2
    subst hc2 hd2
    have hl2 := r2.length
    have hsz : its.toArray.size + its2.toArray.size ≤ sizeLine := by rw [List.size_toArray, List.size_toArray]; omega
    have hlong : ¬ (!its.toArray.isEmpty && Builtin.List.listTooLong (its.toArray.size + its2.toArray.size)) = true := by
      rw [notLongL hsz, Bool.and_false]
      exact Bool.false_ne_true
    refine call_meets F.slot_list_extend ⟨_, e, rfl⟩ F.entry_list_extend (F.args_list_extend_2 _ _)
      (by_tuple l its.toArray n b its2.toArray n2 d2 sl2 hlong (by rw [List.size_toArray]; omega) (by omega)) ⟨e, ho2, ?_⟩
    refine ⟨.non, _, I.lset (its' := its ++ its2) hH e (by simp) (r.append r2) ?_, rfl, q⟩
    rw [List.length_append]
    omega
end
end Ext
namespace Mi
open PySem PySem.Spec PyProof.Rows L2
/-- x.extend(e) -/
def extM (i : Nat) (m : MM PyData) : MM PyData := bnd (chkL i) fun _ => bnd m fun d g => match g[i]?, sqO d with
  | some (.own t (.list ds)), some es => if ds.length + es.length ≤ sizeLine then .ok (.none, g.set i (.own t (.list (ds ++ es)))) else .error .stuck
  | _, _ => .error .stuck
section
variable {X : Cx} {W : WX} {o e k : Expr} {m mk : MM PyData} {pos p p2 : Pos} {i : Nat}
theorem me_ext (ho : PE X o (tVar i)) (he : ME X W e m) (h : ∀ {to te : TE}, PE X o to → PE X e te → PE X (.Call (.Attribute o "extend" p) [e] [] pos) (tBM X.kx "list" (Ext.rExt X.kx) to (tCons te tNil))) : ME X W (.Call (.Attribute o "extend" p) [e] [] pos) (extM i m) := PE.wk (h ho he) fun σ H Q ⟨F, g, G, A, q⟩ => by
  obtain ⟨xs0, p0, ep, hx0, q1⟩ := chkL_at A q
  refine ⟨_, ep, Or.inl ⟨rfl, _, Or.inl (Or.inl hx0)⟩, F, g, G, A, Po.imp q1.bnd fun d g1 G1 H1 A1 s1 k1 x rx => ?_⟩
  have k2 : Po X.kx X.mg W F σ G1 (match g1[i]?, sqO d with
      | some (.own t (.list ds)), some es => if ds.length + es.length ≤ sizeLine then (.ok (.none, g1.set i (.own t (.list (ds ++ es)))) : Except Er (PyData × Gm)) else .error .stuck
      | _, _ => .error .stuck) (fun d _ G' H' => ∀ v, Rp X.kx G' v d → Q v H') := k1
  generalize eg : g1[i]? = s at k2
  generalize es : sqO d = so at k2
  rcases s with _ | (_ | d1 | ⟨t1, d1⟩)
  · exact k2.elim
  · exact k2.elim
  · exact k2.elim
  · obtain ⟨p1, ep1, gp1, ow1, _⟩ := A1.own i _ d1 eg
    rw [ep] at ep1
    cases ep1
    cases d1 with
    | list ds =>
      obtain ⟨xs, h1, h2⟩ := ow1
      cases so with
      | none => exact k2.elim
      | some es' =>
        simp only at k2
        obtain ⟨t, b, zs, rfl, f, r⟩ := rx.fs es
        by_cases hz : ds.length + es'.length ≤ sizeLine
        · rw [if_pos hz] at k2
          have B := A1.change (o := .lst (xs ++ zs)) (d' := .list (ds ++ es')) eg ep ⟨_, upd_same, h2.app r⟩
          refine ⟨p0, b, xs, zs, rfl, rfl, h1, ?_, by rw [h2.len, r.len]; exact hz, k2 G1 _ B (Same.refl _) _ .non⟩
          cases t
          · exact .inl (A1.ex _ _ f)
          · exact .inr (sqT_same A1.ex f)
        · rw [if_neg hz] at k2
          exact k2.elim
    | _ => exact k2.elim
end
/-- x = list(e): a list of one's own -/
def setLs (i : Nat) (m : MM PyData) : Gm → Out := fun g => onE (m g) fun d g' => match sqO d with
  | some ds => .nx (g'.set i (.own false (.list ds)))
  | none => .stuck
theorem ms_setLs {X : Cx} {W : WX} {e : Expr} {m : MM PyData} {pos p pf pc : Pos} {i : Nat} {x : Str} (hm : X.mg "list" = none) (hN : X.N.Nodup) (hi : X.N[i]? = some x) (hx : Loc X.env.scope x) (he : ME X W e m) (hg : Gl X "list" := by rfl) (hs : swapsWith (.Call (.Name "list" pf) [e] [] pc) (some (.Name x p)) pos.line X.env = pure false := by rfl) (hf : X.fn x = true ∨ X.env.scope.names.lookup x = some .local := by first | exact .inl rfl | exact .inr rfl | assumption)
    (hst : starEach [e] X.env = [(false, eval e X.env)] := by rfl) (hpl : (backTo pc (starEach [] X.env)).any (·.1) = false := by rfl) :
    MS X W (.Assign [.Name x p] (.Call (.Name "list" pf) [e] [] pc) pos) (setLs i m) := PS.wk (ps_set hN hi hx (pe_callTy call_list_of hg hm (by decide +kernel) (pa_cons he pa_nil hst) (by decide) (by decide) hst hpl) hs hf) fun D σ H ⟨F, g, G, A, q⟩ => by
  refine ⟨F, g, G, A, Po.imp (PoS.onE q) fun d g1 G1 H1 A1 s1 k1 v rx => ?_⟩
  cases ed : sqO d with
  | none =>
    rw [ed] at k1
    exact k1.elim
  | some ds =>
    rw [ed] at k1
    obtain ⟨t, a, xs, rfl, f, r⟩ := rx.fs ed
    refine ⟨a, xs, rfl, ?_, fun l hl => k1 _ G1 _ (A1.fresh hl ⟨xs, upd_same, r⟩) (Same.refl _)⟩
    cases t
    · exact .inl (.inl (.inl (A1.ex _ _ f)))
    · exact .inr (sqT_same A1.ex f)
@[simp ↓] theorem sv_setLs {i : Nat} {m : MM PyData} {g : Gm} {PO : Out → Prop} : sv (setLs i m) g PO ↔ ev m g (fun d g' => okO (sqO d) fun ds => PO (.nx (g'.set i (.own false (.list ds))))) fun c g' => PO (.ex c g') := by
  unfold sv setLs
  rw [sv_onE]
  refine iff_of_eq (congrArg (fun h => ev m g h _) ?_)
  funext d g'
  cases sqO d <;> simp
@[simp ↓] theorem ev_extM {ma : MM PyData} {g : Gm} {Q : PyData → Gm → Prop} {X : String → Gm → Prop} {i : Nat} : ev (extM i ma) g Q X ↔ (atO g i fun _ d => okO (listOf d) fun _ => True) ∧ ev ma g (fun d g1 => atO g1 i fun t s => okO (listOf s) fun ds => okO (sqO d) fun es => ds.length + es.length ≤ sizeLine ∧ Q .none (g1.set i (.own t (.list (ds ++ es))))) X := by
  have e1 : ∀ (P : Unit → Gm → Prop), ev (chkL i) g P X ↔ (atO g i fun _ d => okO (listOf d) fun _ => True) ∧ P () g := by
    intro P
    rw [ev_chkL]
    unfold atO
    generalize g[i]? = s
    rcases s with _ | (_ | d | ⟨t, d⟩)
    · simp
    · simp
    · simp
    · cases d with
      | list ds => simp
      | _ => simp [listOf, okO]
  unfold extM
  rw [ev_bnd, e1]
  refine and_congr Iff.rfl ?_
  unfold ev bnd okE
  generalize ma g = r
  rcases r with (_ | ⟨c, g'⟩) | ⟨d, g'⟩
  · rfl
  · rfl
  · simp only
    unfold atO
    generalize g'[i]? = s
    rcases s with _ | (_ | e | ⟨t, e⟩)
    · rfl
    · rfl
    · rfl
    · cases e with
      | list ds =>
        generalize sqO d = so
        cases so with
        | none => rfl
        | some es =>
          simp only [okO_listOf, okO_some]
          by_cases h : ds.length + es.length ≤ sizeLine
          · rw [if_pos h]
            simp [h]
          · rw [if_neg h]
            simp [h]
      | _ =>
        generalize sqO d = so
        cases so <;> rfl
end Mi
/-! sorted of any row of texts; x.index(y), x.remove(y) of texts -/
namespace Ts
open PySem PySem.Spec PyProof.Rows L2
section
variable {X : Cx}
def rSortT (K : PySem.W.Frag) : List V → Hp → VK → Prop := fun vs H Q => ∃ (l : Addr) (xs : List Str), vs = [.ref l] ∧ TxtAt K H l xs ∧ ∀ p, H p = none → Q (.ref p) (upd H p (.lst ((srt xs).map V.str)))
theorem cr_sortT : CallR X (.builtin "sorted") (rSortT X.kx) := by
  intro pins s σ H vs us Q I r h
  obtain ⟨l, xs, rfl, hq, q⟩ := h
  rw [Vals.ref1 r]
  have main : ∀ (its : List Value) (T : String) (o : Obj) (n : Nat), (T = "list" ∨ T = "tuple") → s.heap.get? l = some o → o.cls = .type T → o.data = .seq its.toArray n → Vals (xs.map V.str) its → its.length ≤ sizeLine →
      wpAny (model X.prog X.w) X.A (call (.builtin "sorted") [.ref l]) (EP X pins σ Q) X.xe s := fun its T o n hT ho hc hd rv hz => by
    have hS := rv.strs
    refine Calls.call_function_entry kind_sorted plain_sorted entry_sorted (args_sorted1 _) ?_
    unfold Builtin.«sorted»
    refine wpAny_bind (m := checkCount "sorted" 1 1 _) (wpAny_pure ?_)
    refine wpAny_bind (wpAny_collect_seq l hT ho hc hd (fun h' hk => ?_) (by simpa using hz))
    have I1 : Inv X pins σ H { s with heap := h' } := I.kept (t' := s.toks) hk
    refine wpAny_bind (wpAny_newList ?_ hz)
    have hoL : (h'.push (seqObj "list" its.toArray.toList.toArray 0)).get? h'.objs.size = some (seqObj "list" its.toArray.toList.toArray 0) := Heap.get?_push_size _ rfl
    refine wpAny_bind (wpAny_holding (wpAny_call_entry slot_list_sort ⟨_, hoL, rfl⟩ entry_list_sort
      (list_sort_treeKAny strKind_oneLt (vs := its) hoL hS.keysOf (fun v₁ v₂ rest e => keyKind_strs (by rw [← e]; exact hS)) hz fun st' hp hs => ⟨_, rfl, ?_⟩) (args_list_sort _)))
    obtain ⟨ys, q1, q2, q3⟩ := sorted_out_str hS hp hs
    obtain ⟨c, hc⟩ := sortedHeap_at (vs := its) (out := (arrOf st').map (·.2)) hoL
    have ey := srt_uniq q2 q3
    have hlx := rv.length
    rw [List.length_map] at hlx
    have hlen : (ys.map V.str).length ≤ sizeLine := by rw [List.length_map, q2.length_eq, hlx]; exact hz
    have hfr : H h'.objs.size = none := I1.hok.fresh (Nat.le_refl _)
    have J : Inv X pins σ (upd H h'.objs.size (.lst (ys.map V.str))) { s with heap := sortedHeap (h'.push (seqObj "list" its.toArray.toList.toArray 0)) h'.objs.size its ((arrOf st').map (·.2)) } := by
      refine I1.laid (a := h'.objs.size) (t' := s.toks) (fun b u e => ?_) (Nat.le_refl _) ⟨hlen, ((arrOf st').map (·.2)).toList, c, vals_of_strs q1, by rw [Array.toArray_toList]; exact hc⟩
      have hlt := Heap.lt_size e
      rw [sortedHeap_old (Nat.ne_of_lt hlt) (by rw [size_push']; exact Nat.lt_succ_of_lt hlt)]
      exact Heap.get?_push_of_some _ e
    rw [ey] at J
    exact wpAny_pure ⟨_, rfl, .ref h'.objs.size, _, J, rfl, q h'.objs.size hfr⟩
  rcases hq with hq | hq
  · obtain ⟨its, rv, ⟨⟨cls, dd, dt, sl⟩, n, ho, hc, _, hd⟩, hz⟩ := I.list hq
    exact main its "list" _ n (.inl rfl) ho hc hd rv (by have := rv.length; omega)
  · obtain ⟨its, rv, ⟨⟨cls, dd, dt, sl⟩, ho, hc, n, hd⟩, hz⟩ := I.tuple hq
    exact main its "tuple" _ n (.inr rfl) ho hc hd rv (by have := rv.length; omega)
/-! ### remove -/
end
end Ts
namespace Mi
open PySem PySem.Spec PyProof.Rows L2
/-- sorted of a list or a tuple of texts -/
def sortTD (d : PyData) : Option PyData := match txtD d with
  | some xs => some (.list ((Ts.srt xs).map .str))
  | none => none
@[simp ↓] theorem sortT_ok {P : PyData → Prop} {d : PyData} : okO (sortTD d) P ↔ okO (txtD d) fun xs => P (.list ((Ts.srt xs).map .str)) := by
  unfold sortTD
  cases txtD d <;> exact Iff.rfl
end Mi
/-! whole numbers: sets, sorted, min, list(range), remove -/
namespace Ti
open PySem PySem.Spec PyProof.Rows L2
def txtOf (e : Int × Value) : Int := match e.2 with
  | .int k _ => k
  | _ => 0
def GdE (P : Program) (w : World) (e : Int × Value) : Prop := ∃ k tk, e.2 = Value.int k tk ∧ e.1 = (PySem.intKind P w).hash k
/-- the set of the texts ks at a -/
def SetS (P : Program) (w : World) (h : Heap) (a : Addr) (ks : List Int) : Prop :=
  ∃ o es ep t, h.get? a = some o ∧ o.ExactSet ∧ o.data = .set es ep t ∧ (∀ e ∈ es.toList, GdE P w e) ∧ ks.Nodup ∧ (es.toList.map txtOf).Perm ks ∧ es.size < scanBound ∧ t.fits es.size = true ∧ Ris t.place.toList ∧ (w.params.followText "set-order" = true ∨ t.led = true)
def ins (acc : List Int) (x : Int) : List Int := if x ∈ acc then acc else x :: acc
/-- the different ones -/
def dd (xs : List Int) : List Int := xs.foldl ins []
section
variable {P : Program} {w : World} {h h' : Heap} {a : Addr} {ks : List Int}
theorem SetS.at (R : SetS P w h a ks) (k : ∀ o, h.get? a = some o → h'.get? a = some o) : SetS P w h' a ks := by
  obtain ⟨o, es, ep, t, ho, r⟩ := R
  exact ⟨o, es, ep, t, k o ho, r⟩
end
end Ti
namespace Ti
open PySem PySem.Spec PyProof.Rows L2
def srt (l : List Int) : List Int := l.mergeSort fun a b => decide (a ≤ b)
theorem srt_perm (l : List Int) : (srt l).Perm l := List.mergeSort_perm l _
theorem srt_pw (l : List Int) : (srt l).Pairwise fun a b => a ≤ b := by
  have h := List.pairwise_mergeSort (le := fun a b : Int => decide (a ≤ b)) (fun a b c h k => by simp at *; omega) (fun a b => by simp; omega) l
  exact h.imp fun h => by simpa using h
theorem pw_uniq {l m : List Int} (h : l.Perm m) (p : l.Pairwise fun a b => a ≤ b) (q : m.Pairwise fun a b => a ≤ b) : l = m :=
  List.Perm.eq_of_pairwise (le := fun a b : Int => a ≤ b) (fun a b _ _ h k => by omega) p q h
theorem srt_uniq {l ys : List Int} (h : ys.Perm l) (s : ys.Pairwise fun a b => a ≤ b) : ys = srt l := pw_uniq (h.trans (srt_perm l).symm) s (srt_pw l)
section
variable {X : Cx}
def IntAt (K : PySem.W.Frag) (H : Hp) (l : Addr) (xs : List Int) : Prop := SqL K H l (xs.map V.int) ∨ SqT K H l (xs.map V.int)
/-- sorted of a list or a tuple of whole numbers -/
def rSortT (K : PySem.W.Frag) : List V → Hp → VK → Prop := fun vs H Q => ∃ (l : Addr) (xs : List Int), vs = [.ref l] ∧ IntAt K H l xs ∧ ∀ p, H p = none → Q (.ref p) (upd H p (.lst ((srt xs).map V.int)))
theorem cr_sortT : CallR X (.builtin "sorted") (rSortT X.kx) := by
  intro pins s σ H vs us Q I r h
  obtain ⟨l, xs, rfl, hq, q⟩ := h
  rw [Vals.ref1 r]
  have main : ∀ (its : List Value) (T : String) (o : Obj) (n : Nat), (T = "list" ∨ T = "tuple") → s.heap.get? l = some o → o.cls = .type T → o.data = .seq its.toArray n → Vals (xs.map V.int) its → its.length ≤ sizeLine →
      wpAny (model X.prog X.w) X.A (call (.builtin "sorted") [.ref l]) (EP X pins σ Q) X.xe s := fun its T o n hT ho hc hd rv hz => by
    have hS := ints_of_vals rv
    refine Calls.call_function_entry kind_sorted plain_sorted entry_sorted (args_sorted1 _) ?_
    unfold Builtin.«sorted»
    refine wpAny_bind (m := checkCount "sorted" 1 1 _) (wpAny_pure ?_)
    refine wpAny_bind (wpAny_collect_seq l hT ho hc hd (fun h' hk => ?_) (by simpa using hz))
    have I1 : Inv X pins σ H { s with heap := h' } := I.kept (t' := s.toks) hk
    refine wpAny_bind (wpAny_newList ?_ hz)
    have hoL : (h'.push (seqObj "list" its.toArray.toList.toArray 0)).get? h'.objs.size = some (seqObj "list" its.toArray.toList.toArray 0) := Heap.get?_push_size _ rfl
    refine wpAny_bind (wpAny_holding (wpAny_call_entry slot_list_sort ⟨_, hoL, rfl⟩ entry_list_sort
      (list_sort_treeAny (vs := its) hoL hS hz fun out ys q1 q2 q3 => ⟨_, rfl, ?_⟩) (args_list_sort _)))
    obtain ⟨c, hc⟩ := sortedHeap_at (vs := its) (out := out) hoL
    have ey := srt_uniq q2 q3
    have hlx := rv.length
    rw [List.length_map] at hlx
    have hlen : (ys.map V.int).length ≤ sizeLine := by rw [List.length_map, q2.length_eq, hlx]; exact hz
    have hfr : H h'.objs.size = none := I1.hok.fresh (Nat.le_refl _)
    have J : Inv X pins σ (upd H h'.objs.size (.lst (ys.map V.int))) { s with heap := sortedHeap (h'.push (seqObj "list" its.toArray.toList.toArray 0)) h'.objs.size its out } := by
      refine I1.laid (a := h'.objs.size) (t' := s.toks) (fun b u e => ?_) (Nat.le_refl _) ⟨hlen, out.toList, c, vals_of_ints q1, by rw [Array.toArray_toList]; exact hc⟩
      have hlt := Heap.lt_size e
      rw [sortedHeap_old (Nat.ne_of_lt hlt) (by rw [size_push']; exact Nat.lt_succ_of_lt hlt)]
      exact Heap.get?_push_of_some _ e
    rw [ey] at J
    exact wpAny_pure ⟨_, rfl, .ref h'.objs.size, _, J, rfl, q h'.objs.size hfr⟩
  rcases hq with hq | hq
  · obtain ⟨its, rv, ⟨⟨cls, dd, dt, sl⟩, n, ho, hc, _, hd⟩, hz⟩ := I.list hq
    exact main its "list" _ n (.inl rfl) ho hc hd rv (by have := rv.length; omega)
  · obtain ⟨its, rv, ⟨⟨cls, dd, dt, sl⟩, ho, hc, n, hd⟩, hz⟩ := I.tuple hq
    exact main its "tuple" _ n (.inr rfl) ho hc hd rv (by have := rv.length; omega)
end
end Ti
namespace Mi
open PySem PySem.Spec PyProof.Rows L2
/-! ### whole numbers -/
def intsD (d : PyData) : Option (List Int) := match sqO d with
  | some ds => intsOf ds
  | none => none
theorem intsD_at {K : Frag} {G H : Hp} {v : V} {d : PyData} {xs : List Int} (e : intsD d = some xs) (r : Rp K G v d) (s : ∀ a o, G a = some o → H a = some o) : ∃ l, v = .ref l ∧ Ti.IntAt K H l xs := by
  unfold intsD at e
  cases h : sqO d with
  | none => rw [h] at e; cases e
  | some ds =>
    rw [h] at e
    obtain ⟨t, a, vs, rfl, f, ra⟩ := r.fs h
    have ev := intsOf_rp ra e
    subst ev
    have q := f.sq s
    cases t
    · exact ⟨a, rfl, .inl q⟩
    · exact ⟨a, rfl, .inr q⟩
theorem rpAll_intsV {K : Frag} {G : Hp} : ∀ (xs : List Int), RpAll K G (xs.map V.int) (xs.map PyData.int)
  | [] => .nil
  | x :: xs => .cons (.int x) (rpAll_intsV xs)
def sortI (d : PyData) : Option PyData := match intsD d with
  | some xs => some (.list ((Ti.srt xs).map .int))
  | none => none
theorem ho_sortI {K : Frag} : Op1 K (fun x => Ti.rSortT K [x]) sortI := by
  intro x d z G H Q h rx s k
  unfold sortI at h
  cases et : intsD d with
  | none => rw [et] at h; cases h
  | some xs =>
    rw [et] at h
    cases h
    obtain ⟨l, rfl, ht⟩ := intsD_at et (rx.rp s) (fun _ _ e => e)
    refine ⟨l, xs, rfl, ht, fun p hp => ?_⟩
    have gr := Gr.new (o := .lst ((Ti.srt xs).map V.int)) s hp
    exact k _ _ _ gr (.lst upd_same (rpAll_intsV _))
/-- x.remove(e) of whole numbers -/
def remD (ds : List PyData) (e : PyData) : Option (List PyData) := match intsOf ds, e with
  | some xs, .int a => if a ∈ xs then some ((xs.erase a).map .int) else none
  | _, _ => none
def remM (i : Nat) (m : MM PyData) : MM PyData := bnd (chkL i) fun _ => bnd m fun d g => match g[i]? with
  | some (.own t (.list ds)) => (match remD ds d with
    | some es => .ok (.none, g.set i (.own t (.list es)))
    | none => .error .stuck)
  | _ => .error .stuck
@[simp ↓] theorem ev_remM {ma : MM PyData} {g : Gm} {Q : PyData → Gm → Prop} {X : String → Gm → Prop} {i : Nat} : ev (remM i ma) g Q X ↔ (atO g i fun _ d => okO (listOf d) fun _ => True) ∧ ev ma g (fun d g1 => atO g1 i fun t s => okO (listOf s) fun ds => okO (remD ds d) fun es => Q .none (g1.set i (.own t (.list es)))) X := by
  have e1 : ∀ (P : Unit → Gm → Prop), ev (chkL i) g P X ↔ (atO g i fun _ d => okO (listOf d) fun _ => True) ∧ P () g := by
    intro P
    rw [ev_chkL]
    unfold atO
    generalize g[i]? = s
    rcases s with _ | (_ | d | ⟨t, d⟩)
    · simp
    · simp
    · simp
    · cases d with
      | list ds => simp
      | _ => simp [listOf, okO]
  unfold remM
  rw [ev_bnd, e1]
  refine and_congr Iff.rfl ?_
  unfold ev bnd okE
  generalize ma g = r
  rcases r with (_ | ⟨c, g'⟩) | ⟨d, g'⟩
  · rfl
  · rfl
  · simp only
    unfold atO
    generalize g'[i]? = s
    rcases s with _ | (_ | e | ⟨t, e⟩)
    · rfl
    · rfl
    · rfl
    · cases e with
      | list ds =>
        simp only [okO_listOf]
        cases remD ds d <;> rfl
      | _ => rfl
end Mi
/-! a comprehension over a list of one's own, which stays one's own -/
namespace Mi
open PySem PySem.Spec PyProof.Rows L2
section
variable {K : Frag} {F : Frm} {σ σ' : L2.St} {g g' : Gm} {G H G' H' : Hp}
/-- the frame of all that is there, the slot's own object among it -/
def snapI (F : Frm) (σ : L2.St) (g : Gm) (G H : Hp) (i : Nat) : Frm := ⟨fun p => ∃ (j : Nat) (t : Bool) (d : PyData), j ≠ i ∧ g[j]? = some (.own t d) ∧ σ[j]? = some (some (.ref p)), G, H, F.p0⟩
theorem set_own {g : Gm} {i j : Nat} {t : Bool} {d : PyData} (h : (g.set i .dead)[j]? = some (.own t d)) : j ≠ i ∧ g[j]? = some (.own t d) := by
  by_cases q : i = j
  · subst q
    by_cases hi : i < g.length
    · rw [List.getElem?_set_self hi] at h; cases h
    · rw [List.getElem?_eq_none (by simpa using hi)] at h; cases h
  · rw [List.getElem?_set_ne q] at h
    exact ⟨fun e => q e.symm, h⟩
theorem set_dat {g : Gm} {i j : Nat} {d : PyData} {x : Sl} (hx : ∀ e, x ≠ .dat e) (h : (g.set i x)[j]? = some (.dat d)) : g[j]? = some (.dat d) := by
  by_cases q : i = j
  · subst q
    by_cases hi : i < g.length
    · rw [List.getElem?_set_self hi] at h; cases h; exact absurd rfl (hx d)
    · rw [List.getElem?_eq_none (by simpa using hi)] at h; cases h
  · rw [List.getElem?_set_ne q] at h
    exact h
theorem At.snapI (A : At K F σ g G H) (i : Nat) : At K (Mi.snapI F σ g G H i) σ (g.set i .dead) G H := ⟨A.ex, Same.refl _, fun _ _ h _ => h, fun _ _ _ _ => rfl, fun _ h => h, by simpa using A.len, fun j d h => A.pur j d (set_dat (fun _ e => by cases e) h), fun j t d h => by
  obtain ⟨ne, h'⟩ := set_own h
  obtain ⟨p, h1, h2, h3, h4, h5⟩ := A.own j _ d h'
  exact ⟨p, h1, h2, h3, .inl ⟨j, t, d, ne, h', h1⟩, h5⟩, fun j k t u d e p h1 h2 => A.inj j k t u d e p (set_own h1).2 (set_own h2).2⟩
theorem snapI_not (A : At K F σ g G H) {i : Nat} {t : Bool} {d : PyData} {p : Addr} (hg : g[i]? = some (.own t d)) (hs : σ[i]? = some (some (.ref p))) : ¬ (Mi.snapI F σ g G H i).S p := fun ⟨j, u, e, ne, h1, h2⟩ => ne (A.inj j i u t e d p h1 hg h2 hs)
theorem At.thaw (A : At K F σ g G H) {i : Nat} {t : Bool} {d : PyData} (hg : g[i]? = some (.own t d)) (sg : Same G G') (B : At K (Mi.snapI F σ g G H i) σ g' G' H') (hd : g'[i]? = some .dead) : At K F σ (g'.set i (.own t d)) G' H' := by
  have ns : ∀ {a o}, F.H a = some o → ¬ F.S a → ¬ (Mi.snapI F σ g G H i).S a := fun {a o} e s ⟨j, t, d, _, h1, h2⟩ => by
    obtain ⟨p, q1, q2, q3, q4, _⟩ := A.own j _ d h1
    rw [h2] at q1
    cases q1
    rcases q4 with q4 | q4
    · exact s q4
    · rw [q4] at e; cases e
  obtain ⟨p, p1, p2, p3, p4, p5⟩ := A.own i t d hg
  have np := snapI_not A hg p1
  obtain ⟨o, ho⟩ := p3.some
  have hp' : H' p = some o := B.h0 p o ho np
  have gp' : G' p = none := (B.f0 p o ho np).trans p2
  have hi : i < g'.length := (List.getElem?_eq_some_iff.mp hd).1
  have un : ∀ {j : Nat} {u : Bool} {e : PyData}, j ≠ i → (g'.set i (.own t d))[j]? = some (.own u e) → g'[j]? = some (.own u e) := fun {j u e} q z => by
    rw [List.getElem?_set_ne (fun w => q w.symm)] at z; exact z
  have other : ∀ {j : Nat} {u : Bool} {e : PyData}, g'[j]? = some (.own u e) → σ[j]? ≠ some (some (.ref p)) := fun {j u e} z w => by
    obtain ⟨p', q1, q2, q3, q4, _⟩ := B.own j u e z
    rw [w] at q1
    cases q1
    rcases q4 with q4 | q4
    · exact np q4
    · have : H p = none := q4
      rw [ho] at this; cases this
  refine ⟨B.ex, A.g0.trans B.g0, fun a o e s => B.h0 a o (A.h0 a o e s) (ns e s), fun a o e s => (B.f0 a o (A.h0 a o e s) (ns e s)).trans (A.f0 a o e s), fun a e => A.n0 a (B.n0 a e), by simpa using B.len, fun j e h => B.pur j e (set_dat (fun _ w => by cases w) h), fun j u e h => ?_, fun j k u v e e' q h1 h2 h3 h4 => ?_⟩
  · by_cases q : j = i
    · subst q
      rw [List.getElem?_set_self hi] at h
      cases h
      exact ⟨p, p1, gp', p3.up sg (by rw [hp', ho]), p4, p5⟩
    · obtain ⟨p', q1, q2, q3, q4, q5⟩ := B.own j u e (un q h)
      refine ⟨p', q1, q2, q3, ?_, q5⟩
      rcases q4 with ⟨k, t2, e2, _, z1, z2⟩ | q4
      · obtain ⟨p2, y1, _, _, y4, _⟩ := A.own k _ e2 z1
        rw [z2] at y1
        cases y1
        exact y4
      · exact .inr (A.n0 p' q4)
  · by_cases q1 : j = i
    · by_cases q2 : k = i
      · rw [q1, q2]
      · exfalso
        rw [q1, p1] at h3
        cases h3
        exact other (un q2 h2) h4
    · by_cases q2 : k = i
      · exfalso
        rw [q2, p1] at h4
        cases h4
        exact other (un q1 h1) h3
      · exact B.inj j k u v e e' q (un q1 h1) (un q2 h2) h3 h4
theorem Nob.thaw (A : At K F σ g G H) {i : Nat} {t : Bool} {d : PyData} {D : Addr} (hg : g[i]? = some (.own t d)) (n : Nob (Mi.snapI F σ g G H i) σ g' G' H' D) : Nob F σ (g'.set i (.own t d)) G' H' D := by
  have hD : H D = none := n.nf
  refine ⟨n.ng, A.n0 D hD, n.nh, fun j u e h w => ?_⟩
  by_cases q : j = i
  · subst q
    obtain ⟨p, p1, p2, p3, _⟩ := A.own j t d hg
    rw [w] at p1
    cases p1
    obtain ⟨o, ho⟩ := p3.some
    rw [hD] at ho; cases ho
  · rw [List.getElem?_set_ne (fun w => q w.symm)] at h
    exact n.no j u e h w
end
/-- what is walked, as long as the frame stands -/
structure ItRepF (K : Frag) (F : Frm) (G : Hp) (J : It) (ds : List PyData) : Prop where
  stop : ∀ G1 H1, Same G G1 → Same G1 H1 → (∀ a o, F.H a = some o → ¬ F.S a → H1 a = some o) → J.stop ds.length H1
  go : ∀ i d G1 H1, ds[i]? = some d → Same G G1 → Same G1 H1 → (∀ a o, F.H a = some o → ¬ F.S a → H1 a = some o) → J.go i H1
  yld : ∀ i d G1 H1 v H2, ds[i]? = some d → Same G G1 → Same G1 H1 → (∀ a o, F.H a = some o → ¬ F.S a → H1 a = some o) → J.yld i H1 v H2 → ∃ G2, Gr G1 H1 G2 H2 ∧ Rp K G2 v d
theorem itRepF {K : Frag} {F : Frm} {G : Hp} {a : Addr} {xs : List V} {ds : List PyData} (h : F.H a = some (.lst xs)) (hn : ¬ F.S a) (r : RpAll K G xs ds) : ItRepF K F G (Itl K a) ds := by
  have hl := r.len
  refine ⟨fun G1 H1 s e f => ⟨xs, .inl (.inl (f _ _ h hn)), by omega⟩, fun i d G1 H1 hd s e f => ?_, fun i d G1 H1 v H2 hd s e f y => ?_⟩
  · obtain ⟨v, hv, _⟩ := r.get hd
    exact ⟨xs, v, .inl (.inl (f _ _ h hn)), hv⟩
  · obtain ⟨v', hv, rv⟩ := r.get hd
    obtain ⟨e2, y⟩ := y
    subst e2
    have := y xs (.inl (.inl (f _ _ h hn)))
    rw [hv] at this
    cases this
    exact ⟨G1, Gr.refl e, rv.up s⟩
/-- [.. for .. in x ..], x a list of one's own -/
def compP (i : Nat) (vs : List Nat) (b : PyData → Gm → Option Gm) (tt : MM Bool) (te : MM PyData) : MM (List PyData) := fun g => match g[i]? with
  | some (.own t (.list ds)) => if ds.length ≤ sizeLine then (match compL vs b tt te ds (wipeG (g.set i .dead) vs) with
    | .ok (zs, g') => (match g'[i]? with
      | some .dead => .ok (zs, g'.set i (.own t (.list ds)))
      | _ => .error .stuck)
    | .error _ => .error .stuck) else .error .stuck
  | _ => .error .stuck
theorem lc_coreP {K : Frag} {mg : Mg} {F : Frm} {σ : L2.St} {g0 gf : Gm} {G1 H1 : Hp} {vs js : List Nat} {b : PyData → Gm → Option Gm} {tt : MM Bool} {te : MM PyData} {ds zs : List PyData} {J : It} {D : Addr} {Q : VK} (hj : ∀ j ∈ js, j ∈ vs) (B0 : At K F σ g0 G1 H1) (hJ : ItRepF K F G1 J ds) (hD : H1 D = none) (hl : ds.length ≤ sizeLine)
    (ec : compL vs b tt te ds (wipeG g0 vs) = .ok (zs, gf)) (k3 : ∀ G' H', At K F σ gf G' H' → Same G1 G' → ∀ D xs, Nob F σ gf G' H' D → H' D = some (.lst xs) → RpAll K G' xs zs → Q (.ref D) H') :
    ∃ W : Nat → Nat → Hp → Prop, (∃ m, W 0 m (upd H1 D (.lst []))) ∧ ∀ i m H, W i m H →
  (J.stop i H ∧ Q (.ref D) H) ∨ (J.go i H ∧ ∃ Nx : Hp → Prop, (∀ H', Nx H' → ∃ m', m' < m ∧ W (i + 1) m' H') ∧ ∀ x H', J.yld i H x H' → cG K js b x (wipe σ vs) H' fun σ2 H2 => wipe σ2 vs = wipe σ vs ∧ cT K mg W0 tt σ2 H2 fun b H3 =>
    if b = true then cE K mg W0 te σ2 H3 fun y H4 => ∃ acc, H4 D = some (.lst acc) ∧ acc.length < sizeLine ∧ Nx (upd H4 D (.lst (acc ++ [y]))) else Nx H3) := by
  have start : ∃ gi Gi acc zacc zr, At K F (wipe σ vs) gi Gi (upd H1 D (.lst [])) ∧ Same G1 Gi ∧ Nob F (wipe σ vs) gi Gi (upd H1 D (.lst [])) D ∧ (upd H1 D (.lst [])) D = some (.lst acc) ∧ RpAll K Gi acc zacc ∧ acc.length ≤ 0 ∧ compL vs b tt te (ds.drop 0) gi = .ok (zr, gf) ∧ zs = zacc ++ zr := by
    obtain ⟨B, n⟩ := B0.newNob (o := .lst []) hD
    exact ⟨wipeG g0 vs, G1, [], [], zs, B.wipe vs, Same.refl _, n.wipe vs, upd_same, .nil, Nat.le_refl _, ec, rfl⟩
  refine ⟨fun i m H => m = ds.length - i ∧ i ≤ ds.length ∧ ∃ gi Gi acc zacc zr, At K F (wipe σ vs) gi Gi H ∧ Same G1 Gi ∧ Nob F (wipe σ vs) gi Gi H D ∧ H D = some (.lst acc) ∧ RpAll K Gi acc zacc ∧ acc.length ≤ i ∧ compL vs b tt te (ds.drop i) gi = .ok (zr, gf) ∧ zs = zacc ++ zr,
    ⟨ds.length, by simp, Nat.zero_le _, start⟩, ?_⟩
  rintro i m H ⟨rfl, hi, gi, Gi, acc, zacc, zr, Ai, si, ni, hDi, ri, hli, eci, ez⟩
  by_cases hlt : i < ds.length
  case neg =>
    have e : i = ds.length := by omega
    subst e
    rw [List.drop_length] at eci
    cases eci
    refine .inl ⟨hJ.stop Gi H si Ai.ex Ai.h0, ?_⟩
    rw [List.append_nil] at ez
    subst ez
    exact k3 Gi H Ai.unwipe si D acc (Nob.unwipe Ai ni) hDi ri
  have ed : ds[i]? = some ds[i] := List.getElem?_eq_getElem hlt
  refine .inr ⟨hJ.go i _ Gi H ed si Ai.ex Ai.h0, fun H => ∃ gi Gi acc zacc zr, At K F (wipe σ vs) gi Gi H ∧ Same G1 Gi ∧ Nob F (wipe σ vs) gi Gi H D ∧ H D = some (.lst acc) ∧ RpAll K Gi acc zacc ∧ acc.length ≤ i + 1 ∧ compL vs b tt te (ds.drop (i + 1)) gi = .ok (zr, gf) ∧ zs = zacc ++ zr,
    fun H' n' => ⟨ds.length - (i + 1), by omega, rfl, hlt, n'⟩, fun x H' y => ?_⟩
  obtain ⟨G2, gr, rv⟩ := hJ.yld i _ Gi H x H' ed si Ai.ex Ai.h0 y
  have A2 := Ai.grow gr
  have n2 := ni.grow gr
  have hD2 : H' D = some (.lst acc) := gr.h _ _ hDi
  rw [List.drop_eq_getElem_cons hlt] at eci
  unfold compL at eci
  generalize eb : b ds[i] gi = ob at eci
  cases ob with
  | none => cases eci
  | some gb =>
    simp only at eci
    refine ⟨snap F (wipe σ vs) gi G2 H', gi, G2, ds[i], A2.snap, rv, ?_⟩
    rw [eb]
    refine fun σ2 B2 l2 j2 => ⟨wipe_ext l2 j2 hj, snap F (wipe σ vs) gi G2 H', gb, G2, B2, ?_⟩
    have ew := wipe_ext l2 j2 hj
    generalize tt gb = rt at eci
    rcases rt with _ | ⟨t, g2⟩
    · cases eci
    cases t with
    | false =>
      simp only at eci
      intro G3 H3 B3 s3
      show if false = true then _ else _
      rw [if_neg Bool.false_ne_true]
      have A3 := A2.via B3
      obtain ⟨n3, h3⟩ := Nob.via A2 n2 B3
      have A4 := A3.wipe vs
      have n4 := n3.wipe vs
      rw [ew] at A4 n4
      exact ⟨wipeG g2 vs, G3, acc, zacc, zr, A4, (si.trans gr.g).trans s3, n4, h3 _ hD2, (ri.up gr.g).up s3, Nat.le_succ_of_le hli, eci, ez⟩
    | true =>
      simp only at eci
      intro G3 H3 B3 s3
      show if true = true then _ else _
      rw [if_pos rfl]
      refine ⟨snap F (wipe σ vs) gi G2 H', g2, G3, B3, ?_⟩
      generalize te g2 = re at eci
      rcases re with _ | ⟨z, g3⟩
      · cases eci
      simp only at eci
      intro G4 H4 B4 s4 v rz
      generalize er : compL vs b tt te (ds.drop (i + 1)) (wipeG g3 vs) = rr at eci
      rcases rr with _ | ⟨zr', gf'⟩
      · cases eci
      simp only at eci
      cases eci
      have A3 := A2.via B4
      obtain ⟨n3, h3⟩ := Nob.via A2 n2 B4
      have A4 := (A3.other (o := .lst (acc ++ [v])) n3).wipe vs
      have n4 := (n3.upd (o := .lst (acc ++ [v]))).wipe vs
      rw [ew] at A4 n4
      refine ⟨acc, h3 _ hD2, by omega, wipeG g3 vs, G4, acc ++ [v], zacc ++ [z], zr', A4, ((si.trans gr.g).trans s3).trans s4, n4, upd_same, (((ri.up gr.g).up s3).up s4).app (.cons rz .nil), by simp; omega, er, by rw [ez]; simp⟩
theorem lc_ofP {K : Frag} {mg : Mg} {W : WX} {i : Nat} {vs js : List Nat} {b : PyData → Gm → Option Gm} {tt : MM Bool} {te : MM PyData} (hj : ∀ j ∈ js, j ∈ vs) {σ : L2.St} {H : Hp} {Q : VK} (h : cL K mg W (compP i vs b tt te) σ H Q) :
    tLc (iList K (tVar i)) (cG K js b) (cT K mg W0 tt) (cE K mg W0 te) vs σ H Q := by
  obtain ⟨F, g, G, A, q⟩ := h
  have q1 : Po K mg W F σ G (match g[i]? with
  | some (.own t (.list ds)) => if ds.length ≤ sizeLine then (match compL vs b tt te ds (wipeG (g.set i .dead) vs) with
    | .ok (zs, g') => (match g'[i]? with
      | some .dead => (.ok (zs, g'.set i (.own t (.list ds))) : Except Er (List PyData × Gm))
      | _ => .error .stuck)
    | .error _ => .error .stuck) else .error .stuck
  | _ => .error .stuck) (fun zs g' G' H' => ∀ D xs, Nob F σ g' G' H' D → H' D = some (.lst xs) → RpAll K G' xs zs → Q (.ref D) H') := q
  generalize eg : g[i]? = sl at q1
  rcases sl with _ | (_ | d | ⟨t, d⟩)
  · exact q1.elim
  · exact q1.elim
  · exact q1.elim
  · cases d with
    | list ds =>
      simp only at q1
      obtain ⟨p, p1, p2, p3, p4, p5⟩ := A.own i t (.list ds) eg
      obtain ⟨xs, h1, h2⟩ := p3
      by_cases hl : ds.length ≤ sizeLine
      case neg => rw [if_neg hl] at q1; exact q1.elim
      rw [if_pos hl] at q1
      generalize ec : compL vs b tt te ds (wipeG (g.set i .dead) vs) = rc at q1
      rcases rc with _ | ⟨zs, gf⟩
      · exact q1.elim
      simp only at q1
      generalize ed : gf[i]? = sd at q1
      rcases sd with _ | (_ | d | ⟨u, d⟩)
      · exact q1.elim
      · have k3 : ∀ G' H', At K F σ (gf.set i (.own t (.list ds))) G' H' → Same G G' → ∀ D xs, Nob F σ (gf.set i (.own t (.list ds))) G' H' D → H' D = some (.lst xs) → RpAll K G' xs zs → Q (.ref D) H' := q1
        have np := snapI_not A eg p1
        refine ⟨_, p1, p, rfl, ⟨xs, .inl (.inl h1)⟩, fun D hD => ?_⟩
        exact lc_coreP hj (A.snapI i) (itRepF (F := snapI F σ g G H i) h1 np h2) hD hl ec fun G' H' B s D xs n hD r => k3 G' H' (A.thaw eg s B ed) s D xs (Nob.thaw A eg n) hD r
      · exact q1.elim
      · exact q1.elim
    | _ => exact q1.elim
section
variable {X : Cx} {W : WX} {elt tg : Expr} {ifs : List Expr} {scope : Scope} {own : List (Str × Nat)} {pos spos py pn : Pos} {js : List Nat} {b : PyData → Gm → Option Gm} {tt : MM Bool} {te : MM PyData} {z : Str} {n : Nat}
theorem me_lcP (N : List Str) (sc : Scope) (own : List (Str × Nat)) (hc : X.calm = true) (hN : X.N.Nodup) (hn : PE X (.Name z pn) (tVar n)) (ok : blkC N sc scope own = true)
    (hg : ∀ (s : Shared) (H : Hp) (C : Addr) (cl : List (Str × Addr)) (fp : List Addr), MG (X.blk s H scope (compEnvC scope cl C X.env) fp) tg js b) (ht : ∀ (s : Shared) (H : Hp) (C : Addr) (cl : List (Str × Addr)) (fp : List Addr), MTs (X.blk s H scope (compEnvC scope cl C X.env) fp) W0 ifs tt)
    (he : ∀ (s : Shared) (H : Hp) (C : Addr) (cl : List (Str × Addr)) (fp : List Addr), ME (X.blk s H scope (compEnvC scope cl C X.env) fp) W0 elt te) (hj : ∀ j ∈ js, j ∈ own.map (·.2) := by decide) (hs : ∀ x, foldedSetIterable (.Name z pn) X.env x = pure x := by intro _; rfl) (eN : X.N = N := by rfl) (eS : X.env.scope = sc := by rfl) :
    ME X W (.ListComp elt [⟨tg, .Name z pn, ifs, 0⟩] scope pos) (lstO (compP n (own.map (·.2)) b tt te)) := PE.wk (pe_lc (g := cG X.kx js b) (tt := cT X.kx X.mg W0 tt) (te := cE X.kx X.mg W0 te) hc hN (pi_list hn) (by rw [eN, eS]; exact blkOk_by ok) hg ht he hs) fun σ H Q ⟨F, g, G, A, q⟩ => by
  refine lc_ofP hj ⟨F, g, G, A, Po.imp q.bnd fun zs g1 G1 H1 A1 s1 k1 D xs n hD r => ?_⟩
  have sg : Same G1 (upd G1 D (.lst xs)) := same_new n.ng
  exact k1 _ H1 (A1.adopt n hD) sg _ (.lst upd_same (r.up sg))
end
/-- the slot is dead -/
def deadO (g : Gm) (i : Nat) (p : Prop) : Prop := match g[i]? with
  | some .dead => p
  | _ => False
@[simp ↓] theorem ev_compP {i : Nat} {vs : List Nat} {b : PyData → Gm → Option Gm} {tt : MM Bool} {te : MM PyData} {g : Gm} {Q : List PyData → Gm → Prop} {X : String → Gm → Prop} : ev (compP i vs b tt te) g Q X ↔ atO g i fun t s => okO (listOf s) fun ds => ds.length ≤ sizeLine ∧ okC (compL vs b tt te ds (wipeG (g.set i .dead) vs)) fun zs g1 => deadO g1 i (Q zs (g1.set i (.own t (.list ds)))) := by
  unfold ev okE compP atO
  generalize g[i]? = s
  rcases s with _ | (_ | d | ⟨t, d⟩)
  · rfl
  · rfl
  · rfl
  · cases d with
    | list ds =>
      simp only [okO_listOf]
      by_cases h : ds.length ≤ sizeLine
      · simp only [if_pos h, h, true_and]
        unfold okC
        generalize compL vs b tt te ds (wipeG (g.set i .dead) vs) = r
        rcases r with _ | ⟨zs, g1⟩
        · rfl
        · simp only
          unfold deadO
          generalize g1[i]? = s1
          rcases s1 with _ | (_ | d | ⟨u, d⟩) <;> rfl
      · simp [h]
    | _ => rfl
@[simp ↓] theorem dead_0 {l : Gm} {p : Prop} : deadO (.dead :: l) 0 p ↔ p := Iff.rfl
@[simp ↓] theorem dead_1 {l : Gm} {s0 : Sl} {p : Prop} : deadO (s0 :: .dead :: l) 1 p ↔ p := Iff.rfl
@[simp ↓] theorem dead_2 {l : Gm} {s0 s1 : Sl} {p : Prop} : deadO (s0 :: s1 :: .dead :: l) 2 p ↔ p := Iff.rfl
@[simp ↓] theorem dead_3 {l : Gm} {s0 s1 s2 : Sl} {p : Prop} : deadO (s0 :: s1 :: s2 :: .dead :: l) 3 p ↔ p := Iff.rfl
@[simp ↓] theorem dead_4 {l : Gm} {s0 s1 s2 s3 : Sl} {p : Prop} : deadO (s0 :: s1 :: s2 :: s3 :: .dead :: l) 4 p ↔ p := Iff.rfl
@[simp ↓] theorem dead_5 {l : Gm} {s0 s1 s2 s3 s4 : Sl} {p : Prop} : deadO (s0 :: s1 :: s2 :: s3 :: s4 :: .dead :: l) 5 p ↔ p := Iff.rfl
end Mi
/-! sorted of a list of data that can be compared with one another -/
namespace Mi
open PySem PySem.Spec PyProof.Rows L2
section
variable {X : Cx} {pins : List (Addr × Obj)} {σ : L2.St} {H : Hp} {s : Shared}
mutual
theorem Rp.reads (I : Inv X pins σ H s) : ∀ (d : PyData) (v : V) (u : Value), DcEq.ndB d = true → Rp X.kx H v d → RelV v u → ∃ as, Reads s.heap u d as
  | .none, _, _, _, h, r => by
    cases h
    cases r
    exact ⟨_, .none⟩
  | .bool b, _, _, _, h, r => by
    cases h
    cases r
    exact ⟨_, .bool b⟩
  | .int i, _, _, _, h, r => by
    cases h
    obtain ⟨t, rfl⟩ := r
    exact ⟨_, .int i t⟩
  | .str x, _, _, _, h, r => by
    cases h
    obtain ⟨t, rfl⟩ := r
    exact ⟨_, .str x t⟩
  | .list ds, _, _, n, h, r => by
    cases h with
    | lst hs ha =>
      cases r
      obtain ⟨its, rv, p, _⟩ := I.list (.inl (.inl hs))
      obtain ⟨as, hr⟩ := RpAll.reads I ds _ its n ha rv
      obtain ⟨o, ho, hc, k, hd⟩ := p.isList
      exact ⟨_, .list ho hc hd (by simpa using hr)⟩
  | .tuple ds, _, _, n, h, r => by
    cases h with
    | tup hs ha =>
      cases r
      obtain ⟨its, rv, p, _⟩ := I.tuple hs.sq
      obtain ⟨as, hr⟩ := RpAll.reads I ds _ its n ha rv
      obtain ⟨o, ho, hc, k, hd⟩ := p
      exact ⟨_, .tuple ho hc hd (by simpa using hr)⟩
  | .dict kvs, _, _, n, _, _ => by cases n
theorem RpAll.reads (I : Inv X pins σ H s) : ∀ (ds : List PyData) (vs : List V) (us : List Value), DcEq.ndAll ds = true → RpAll X.kx H vs ds → Vals vs us → ∃ as, ReadsAll s.heap us ds as
  | [], _, _, _, h, r => by
    cases h
    cases r
    exact ⟨_, .nil⟩
  | d :: ds, _, _, n, h, r => by
    have n' : DcEq.ndB d = true ∧ DcEq.ndAll ds = true := by simpa [DcEq.ndAll] using n
    cases h with
    | cons h1 h2 =>
      cases r with
      | cons r1 r2 =>
        obtain ⟨as, q1⟩ := Rp.reads I d _ _ n'.1 h1 r1
        obtain ⟨bs, q2⟩ := RpAll.reads I ds _ _ n'.2 h2 r2
        exact ⟨_, .cons q1 q2⟩
end
end
/-- all are tuples with an item, or none is a tuple or None -/
def tupB : PyData → Bool
  | .tuple (_ :: _) => true
  | _ => false
def othB : PyData → Bool
  | .tuple _ => false
  | .none => false
  | _ => true
def srtA (ds : List PyData) : List PyData := ds.mergeSort (PySem.W.dataLe false fun d : PyData => d)
def srtC (ds : List PyData) : Bool := (ds.all fun d => ds.all fun e => PySem.W.alike d e) && (ds.all tupB || ds.all othB) && DcEq.ndAll ds && decide (PyData.depthAll ds ≤ 60) && decide (ds.length ≤ sizeLine)
def sortAD : PyData → Option PyData
  | .list ds => if srtC ds = true then some (.list (srtA ds)) else none
  | .dict kvs => if srtC (kvs.map (·.1)) = true then some (.list (srtA (kvs.map (·.1)))) else none
  | _ => none
theorem srtC_ok {ds : List PyData} (h : srtC ds = true) : PySem.W.AllAlike ds ∧ PySem.W.Sortable ds ∧ DcEq.ndAll ds = true ∧ PyData.depthAll ds ≤ 60 ∧ ds.length ≤ sizeLine := by
  simp only [srtC, Bool.and_eq_true, Bool.or_eq_true, decide_eq_true_eq] at h
  obtain ⟨⟨⟨⟨h1, h2⟩, h3⟩, h4⟩, h5⟩ := h
  refine ⟨fun d hd e he => List.all_eq_true.mp (List.all_eq_true.mp h1 d hd) e he, ?_, h3, h4, h5⟩
  rcases h2 with h2 | h2
  · refine .inl fun d hd => ?_
    have := List.all_eq_true.mp h2 d hd
    unfold tupB at this
    split at this
    · exact ⟨_, _, rfl⟩
    · cases this
  · refine .inr fun d hd => ?_
    have := List.all_eq_true.mp h2 d hd
    refine ⟨fun e => ?_, fun xs e => ?_⟩
    · rw [e] at this; cases this
    · rw [e] at this; cases this
def rSortA0 (K : Frag) : List V → Hp → VK → Prop := fun vs H Q => ∃ (l : Addr) (xs : List V) (ds : List PyData) (G : Hp), vs = [.ref l] ∧ Same G H ∧ SqL K H l xs ∧ RpAll K G xs ds ∧ srtC ds = true ∧ ∀ p ys, RpAll K G ys (srtA ds) → H p = none → Q (.ref p) (upd H p (.lst ys))
theorem each_of {X : Cx} {pins : List (Addr × Obj)} {σ : L2.St} {G H : Hp} {s : Shared} (I : Inv X pins σ H s) (sg : Same G H) : ∀ {vs : List V} {us : List Value} {ds : List PyData}, DcEq.ndAll ds = true → RpAll X.kx G vs ds → Vals vs us →
    PySem.W.EachIs (fun u d => ∃ v, RelV v u ∧ Rp X.kx G v d) us ds ∧ PySem.W.EachIs (fun u d => ∃ as, Reads s.heap u d as) us ds
  | _, _, [], _, h, r => by
    cases h
    cases r
    exact ⟨.nil, .nil⟩
  | _, _, d :: ds, n, h, r => by
    have n' : DcEq.ndB d = true ∧ DcEq.ndAll ds = true := by simpa [DcEq.ndAll] using n
    cases h with
    | cons h1 h2 =>
      cases r with
      | cons r1 r2 =>
        obtain ⟨a, b⟩ := each_of I sg n'.2 h2 r2
        exact ⟨.cons ⟨_, r1, h1⟩ a, .cons (Rp.reads I d _ _ n'.1 (h1.up sg) r1) b⟩
theorem of_each {K : Frag} {H : Hp} : ∀ {us : List Value} {ds : List PyData}, PySem.W.EachIs (fun u d => ∃ v, RelV v u ∧ Rp K H v d) us ds → ∃ ys, Vals ys us ∧ RpAll K H ys ds
  | _, _, .nil => ⟨[], .nil, .nil⟩
  | _, _, .cons ⟨v, r, h⟩ t => by
    obtain ⟨ys, a, b⟩ := of_each t
    exact ⟨v :: ys, .cons r a, .cons h b⟩
theorem cr_sortA0 {X : Cx} (hu : X.A.units + 64 < cLine) : CallR X (.builtin "sorted") (rSortA0 X.kx) := by
  intro pins s σ H vs us Q I r h
  obtain ⟨l, xs, ds, G, rfl, sg, hq, hr, hc, q⟩ := h
  rw [Vals.ref1 r]
  obtain ⟨c1, c2, c3, c4, c5⟩ := srtC_ok hc
  obtain ⟨its, rv, pl, hz⟩ := I.list hq
  obtain ⟨e1, e2⟩ := each_of I sg c3 hr rv
  have em : ds.map (fun d : PyData => d) = ds := by simp
  refine PySem.W.sorted_data (bs := ds) (enc := fun d => d) (vs := its) pl.isList e1 e2 (by rw [em]; exact c1) (by rw [em]; exact c2) c5 (fun d hd => ?_) fun out hl e => ?_
  · obtain ⟨j, hj, rfl⟩ := List.getElem_of_mem hd
    have := DcEq.depth_le hj
    omega
  · obtain ⟨ys, rv2, ry⟩ := of_each e
    obtain ⟨c, hat⟩ := sortedAll_at s.heap its out.toArray
    have hlen : ys.length ≤ sizeLine := by rw [rv2.length, hl]; exact c5
    have hfr : H (s.heap.objs.size + 1) = none := I.hok.fresh (Nat.le_succ _)
    have J : Inv X pins σ (upd H (s.heap.objs.size + 1) (.lst ys)) { s with heap := sortedAll s.heap its out.toArray } :=
      I.laid (a := s.heap.objs.size + 1) (t' := s.toks) (fun b u e => sortedAll_old e) (Nat.le_succ _) ⟨hlen, out, c, rv2, hat⟩
    exact ⟨.ref (s.heap.objs.size + 1), _, J, rfl, q _ ys ry hfr⟩
/-- sorted of a dict: its keys -/
def rSortDk (K : Frag) : List V → Hp → VK → Prop := fun vs H Q => ∃ (a : Addr) (es : Array DictEntry) (ep : Nat) (kvs : List V) (ds : List PyData) (G : Hp), vs = [.ref a] ∧ Same G H ∧ H a = some (dO a es ep) ∧ Vals kvs (es.toList.map (·.key)) ∧ RpAll K G kvs ds ∧ srtC ds = true ∧ ∀ p ys, RpAll K G ys (srtA ds) → H p = none → Q (.ref p) (upd H p (.lst ys))
mutual
theorem reads_lt {h : Heap} : ∀ {v : Value} {d : PyData} {as : List Addr}, Reads h v d as → ∀ a ∈ as, a < h.objs.size
  | _, _, _, .none, a, ha => nomatch ha
  | _, _, _, .bool _, a, ha => nomatch ha
  | _, _, _, .int _ _, a, ha => nomatch ha
  | _, _, _, .str _ _, a, ha => nomatch ha
  | _, _, _, .list e _ _ r, a, ha => by
    rcases List.mem_cons.mp ha with rfl | q
    · exact Heap.lt_size e
    · exact readsA_lt r a q
  | _, _, _, .tuple _ _ _ r, a, ha => readsA_lt r a ha
  | _, _, _, .dict e _ _ r1 r2, a, ha => by
    rcases List.mem_append.mp ha with q | q
    · rcases List.mem_cons.mp q with rfl | q
      · exact Heap.lt_size e
      · exact readsA_lt r1 a q
    · exact readsA_lt r2 a q
theorem readsA_lt {h : Heap} : ∀ {vs : List Value} {ds : List PyData} {as : List Addr}, ReadsAll h vs ds as → ∀ a ∈ as, a < h.objs.size
  | _, _, _, .nil, a, ha => nomatch ha
  | _, _, _, .cons r1 r2, a, ha => by
    rcases List.mem_append.mp ha with q | q
    · exact reads_lt r1 a q
    · exact readsA_lt r2 a q
end
theorem each_noself {h h' : Heap} {b : Addr} (k : ∀ c o, h.get? c = some o → h'.get? c = some o) (hb : h.objs.size ≤ b) : ∀ {us : List Value} {ds : List PyData}, PySem.W.EachIs (fun u d => ∃ as, Reads h u d as) us ds → PySem.W.EachIs (fun u d => ∃ as, Reads h' u d as ∧ b ∉ as) us ds
  | _, _, .nil => .nil
  | _, _, .cons ⟨as, r⟩ t => .cons ⟨as, Reads.keeps k r, fun z => absurd (Nat.lt_of_lt_of_le (reads_lt r _ z) hb) (Nat.lt_irrefl _)⟩ (each_noself k hb t)
theorem cr_sortDk {X : Cx} (hu : X.A.units + 64 < cLine) (hh : X.A.handled = none) : CallR X (.builtin "sorted") (rSortDk X.kx) := by
  intro pins s σ H vs us Q I r h
  obtain ⟨a, es, ep, kvs, ds, G, rfl, sg, hd, hv, hr, hc, q⟩ := h
  rw [Vals.ref1 r]
  obtain ⟨c1, c2, c3, c4, c5⟩ := srtC_ok hc
  obtain ⟨e1, e2⟩ := each_of I sg c3 hr hv
  have hl : es.size = ds.length := by
    have h1 := hv.length
    have h2 := hr.len
    simp only [List.length_map, Array.length_toList] at h1
    omega
  refine PySem.Calls.call_function_entry kind_sorted plain_sorted entry_sorted (args_sorted1 _) ?_
  unfold Builtin.«sorted»
  refine wpAny_bind (m := checkCount "sorted" 1 1 _) (wpAny_pure ?_)
  refine wpAny_bind (PySem.W.kdu_collect (A := X.A.in1) (KdlSrc.rawDict (es := es) (ep := ep) (dO_get I hd).1) hh (dO_raw I hd) (by omega) fun h' tk acc hk hacc => ?_)
  rw [items_keys hacc]
  have lv : (es.toList.map (·.key)).length = ds.length := by rw [← hl]; simp
  refine wpAny_bind (wpAny_newList ?_ (by rw [lv]; exact c5))
  have J1 : Inv X pins σ H { s with heap := h', toks := tk } := I.kept hk
  have hoL : (h'.push (seqObj "list" (es.toList.map (·.key)).toArray 0)).get? h'.objs.size = some (seqObj "list" (es.toList.map (·.key)).toArray 0) := Heap.get?_push_size _ rfl
  have em : ds.map (fun d : PyData => d) = ds := by simp
  have e2' : PySem.W.EachIs (fun u d => ∃ as, Reads h' u d as) (es.toList.map (·.key)) ds := e2.mono fun _ _ ⟨as, r⟩ => ⟨as, Reads.keeps hk r⟩
  refine wpAny_bind (wpAny_holding (wpAny_mono (PySem.W.list_sort_data (A := X.A.in1) (E := X.xe) (s := { s with heap := h'.push (seqObj "list" (es.toList.map (·.key)).toArray 0), toks := tk }) (bs := ds) (enc := fun d => d) (vs := es.toList.map (·.key))
    (Q := fun _ s' => EP X pins σ Q (.ref h'.objs.size) s') hoL e1 (each_noself (fun c o q => Heap.get?_push_of_some _ q) (Nat.le_refl _) e2') (by rw [em]; exact c1) (by rw [em]; exact c2) c5 (fun d hd => ?_) fun out hlo eo => ?_) (fun _ s' x => ?_) fun _ _ e => e))
  · obtain ⟨j, hj, rfl⟩ := List.getElem_of_mem hd
    have := DcEq.depth_le hj
    show X.A.units + 1 + 1 + _ < _
    omega
  · obtain ⟨ys, rv2, ry⟩ := of_each eo
    obtain ⟨c, hat⟩ := sortedHeap_at (vs := es.toList.map (·.key)) (out := out.toArray) hoL
    have hlen : ys.length ≤ sizeLine := by rw [rv2.length, hlo]; exact c5
    have J : Inv X pins σ (upd H h'.objs.size (.lst ys)) { s with heap := sortedHeap (h'.push (seqObj "list" (es.toList.map (·.key)).toArray 0)) h'.objs.size (es.toList.map (·.key)) out.toArray, toks := tk } :=
      J1.laid (t' := tk) (fun b u e => by
        have hlt := Heap.lt_size e
        rw [sortedHeap_old (Nat.ne_of_lt hlt) (by rw [size_push']; exact Nat.lt_succ_of_lt hlt)]
        exact Heap.get?_push_of_some _ e) (Nat.le_refl _) ⟨hlen, out, c, rv2, hat⟩
    exact ⟨.ref h'.objs.size, _, J, rfl, q _ ys ry (J1.hok.fresh (Nat.le_refl _))⟩
  · exact wpAny_pure ⟨_, rfl, x⟩
def rSortA (K : Frag) : List V → Hp → VK → Prop := fun vs H Q => rSortA0 K vs H Q ∨ rSortDk K vs H Q
theorem cr_sortA {X : Cx} (hu : X.A.units + 64 < cLine) (hh : X.A.handled = none) : CallR X (.builtin "sorted") (rSortA X.kx) := CallR.or (cr_sortA0 hu) (cr_sortDk hu hh)
theorem ho_sortA {K : Frag} : Op1 K (fun x => rSortA K [x]) sortAD := by
  intro x d z G H Q h rx s k
  cases d with
  | list ds =>
    have h' : (if srtC ds = true then some (PyData.list (srtA ds)) else none) = some z := h
    split at h'
    · rename_i hc
      cases h'
      obtain ⟨a, xs, rfl, h1, h2⟩ := rx.lst s
      refine .inl ⟨a, xs, ds, G, rfl, s, .inl (.inl h1), h2, hc, fun p ys hy hp => ?_⟩
      have gr := Gr.new (o := .lst ys) s hp
      exact k _ _ _ gr (.lst upd_same (hy.up gr.g))
    · cases h'
  | dict kvs =>
    have h' : (if srtC (kvs.map (·.1)) = true then some (PyData.list (srtA (kvs.map (·.1)))) else none) = some z := h
    split at h'
    · rename_i hc
      cases h'
      obtain ⟨a, es, ep, rfl, hd, ok, r⟩ := rx.dict s
      obtain ⟨ks, hv, hr⟩ := r.keys
      refine .inr ⟨a, es, ep, ks, _, G, rfl, s, hd, hv, hr, hc, fun p ys hy hp => ?_⟩
      have gr := Gr.new (o := .lst ys) s hp
      exact k _ _ _ gr (.lst upd_same (hy.up gr.g))
    · cases h'
  | _ => cases h
@[simp ↓] theorem sortA_dct {kvs : List (PyData × PyData)} {P : PyData → Prop} : okO (sortAD (.dict kvs)) P ↔ srtC (kvs.map (·.1)) = true ∧ P (.list (srtA (kvs.map (·.1)))) := okO_if
@[simp ↓] theorem sortA_lst {ds : List PyData} {P : PyData → Prop} : okO (sortAD (.list ds)) P ↔ srtC ds = true ∧ P (.list (srtA ds)) := okO_if
end Mi
/-! set(..) <= set(..) of texts -/
namespace Ts
open PySem PySem.Spec PyProof.Rows L2
theorem entry_set_le : entryFor table "set.__le__" = some Builtin.«frozenset.__le__» :=
  entryFor_alias (id' := "frozenset.__le__") (by kernel_rfl) rfl (by decide +kernel) (by kernel_rfl)
section
variable {P : Program} {w : World} {A : Around} {E : Value → Shared → Prop} {s : Shared} {a b : Addr} {ks ms : List Str}
theorem isAnySet_set {v : Value} {Q : Bool → Shared → Prop} (h : s.TypeIs v "set") (q : Q true s) : wpAny (model P w) A (Builtin.Frozenset.isAnySet v) Q E s := by
  unfold Builtin.Frozenset.isAnySet orM
  refine wpAny_bind (wpAny_isInstance h PySem.F.sub_set_set ?_)
  exact wpAny_pure q
theorem subset_go {id : String} {Q : Bool → Shared → Prop} (R1 : SetS P w s.heap a ks) (R2 : SetS P w s.heap b ms) (h : Q (ks.all fun k => decide (k ∈ ms)) s) : wpAny (model P w) A (Builtin.Frozenset.subsetOf id a b) Q E s := by
  obtain ⟨o1, es1, ep1, t1, ho1, hex1, hd1, g1, nd1, pk1, hb1, hf1, hr1, hl1⟩ := R1
  obtain ⟨o2, es2, ep2, t2, ho2, hex2, hd2, g2, nd2, pk2, hb2, hf2, hr2, hl2⟩ := R2
  unfold Builtin.Frozenset.subsetOf Builtin.Frozenset.sizeOf setEntries setEpoch
  refine wpAny_bind (wpAny_bind (wpAny_bind (wpAny_setState_of ho1 hd1 hf1 (wpAny_pure (wpAny_pure ?_)))))
  refine wpAny_bind (wpAny_bind (wpAny_bind (wpAny_setState_of ho2 hd2 hf2 (wpAny_pure (wpAny_pure ?_)))))
  have l1 : es1.size = ks.length := by rw [← pk1.length_eq, List.length_map, Array.length_toList]
  have l2 : es2.size = ms.length := by rw [← pk2.length_eq, List.length_map, Array.length_toList]
  have txt : ∀ e ∈ es1.toList ++ es2.toList, ∃ k tk, e.2 = Value.str k tk := fun e he => by
    rcases List.mem_append.mp he with q | q
    · obtain ⟨k, tk, h, _⟩ := g1 e q
      exact ⟨k, tk, h⟩
    · obtain ⟨k, tk, h, _⟩ := g2 e q
      exact ⟨k, tk, h⟩
  by_cases hs : es1.size > es2.size
  · have hs' : ((es1, ep1, t1).fst.size > (es2, ep2, t2).fst.size) := hs
    rw [if_pos hs']
    have hf : (ks.all fun k => decide (k ∈ ms)) = false := by
      cases hh : ks.all fun k => decide (k ∈ ms) with
      | false => rfl
      | true =>
        exfalso
        have sub : ∀ x ∈ ks, x ∈ ms := fun x hx => of_decide_eq_true (List.all_eq_true.mp hh x hx)
        have := nd1.length_le_of_subset sub
        omega
    rw [hf] at h
    exact wpAny_pure h
  · have hs' : ¬ ((es1, ep1, t1).fst.size > (es2, ep2, t2).fst.size) := hs
    rw [if_neg hs']
    refine wpAny_bind (wpAny_bind (wpAny_setState_of ho1 hd1 hf1 (wpAny_pure ?_)))
    refine wpAny_bind (m := Builtin.Frozenset.walkUnseen a b) ?_
    unfold Builtin.Frozenset.walkUnseen setEntries
    refine wpAny_bind (wpAny_bind (wpAny_setState_of ho1 hd1 hf1 (wpAny_pure ?_)))
    refine wpAny_bind (wpAny_bind (wpAny_setState_of ho2 hd2 hf2 (wpAny_pure ?_)))
    refine wpAny_bind (wpAny_forIn_list _ (fun rest b s' => s = s' ∧ b = (none, ()) ∧ ∀ e ∈ rest, ∃ k tk, e.2 = Value.str k tk) _ ?_ ?_ _ _ ⟨rfl, rfl, txt⟩)
    · rintro ⟨hh, x⟩ rest b s' ⟨rfl, rfl, he⟩
      obtain ⟨k, tk, e⟩ := he _ (List.mem_cons_self)
      simp only at e
      subst e
      show wpAny _ _ (Builtin.Frozenset.quietEq (Value.str k tk) >>= _) _ _ _
      unfold Builtin.Frozenset.quietEq
      refine wpAny_bind (wpAny_pure ?_)
      exact wpAny_pure ⟨rfl, rfl, fun e he' => he e (List.mem_cons_of_mem _ he')⟩
    · rintro b1 s' ⟨rfl, rfl, _⟩
      refine wpAny_pure ?_
      have mem2 : ∀ k, decide (k ∈ ms) = true ↔ ∃ e ∈ es2.toList, (strKind P w).is k e.2 = true := fun k => by
        rw [decide_eq_true_eq, ← pk2.mem_iff]
        exact gd_mem g2 k
      have all1 : (ks.all fun k => decide (k ∈ ms)) = es1.toList.all fun e => decide (txtOf e ∈ ms) := by
        have : (es1.toList.map txtOf).all (fun k => decide (k ∈ ms)) = ks.all fun k => decide (k ∈ ms) := by
          cases h1 : ks.all fun k => decide (k ∈ ms) with
          | true => exact List.all_eq_true.mpr fun x hx => List.all_eq_true.mp h1 x (pk1.mem_iff.mp hx)
          | false =>
            obtain ⟨x, hx, hn⟩ := List.all_eq_false.mp h1
            exact List.all_eq_false.mpr ⟨x, pk1.mem_iff.mpr hx, hn⟩
        rw [← this, List.all_map]
        rfl
      rw [all1] at h
      refine wpAny_bind (wpAny_forIn_list _ (fun rest b1 s' => s = s' ∧ b1 = (none, ()) ∧ (∀ e ∈ rest, GdE P w e) ∧ (es1.toList.all fun e => decide (txtOf e ∈ ms)) = rest.all fun e => decide (txtOf e ∈ ms)) _ ?_ ?_ _ _ ⟨rfl, rfl, g1, rfl⟩)
      · rintro ⟨hh, x⟩ rest b1 s' ⟨rfl, rfl, he, ha⟩
        obtain ⟨k, tk, e, e2⟩ := he _ (List.mem_cons_self)
        simp only at e e2
        subst e e2
        show wpAny _ _ (holding [Value.str k tk] (setFind b (Value.str k tk) ((strKind P w).hash k)) >>= _) _ _ _
        refine wpAny_bind (wpAny_holding (PySem.W.setFind_any (knd := strKind P w) (S := fun k => decide (k ∈ ms)) (strKind_is P w k tk) rfl ho2 hd2 (gd_elems g2) mem2 hb2 hf2 fun r hr => ?_))
        have et : txtOf ((strKind P w).hash k, Value.str k tk) = k := rfl
        rw [List.all_cons, et] at ha
        cases r with
        | none =>
          have hk : decide (k ∈ ms) = false := hr.symm
          rw [hk, Bool.false_and] at ha
          rw [ha] at h
          exact wpAny_pure (wpAny_pure h)
        | some j =>
          have hk : decide (k ∈ ms) = true := hr.symm
          rw [hk, Bool.true_and] at ha
          show wpAny _ _ (Builtin.Frozenset.unchanged id a ep1 >>= _) _ _ _
          unfold Builtin.Frozenset.unchanged setEpoch
          refine wpAny_bind (wpAny_bind (wpAny_bind (wpAny_setState_of ho1 hd1 hf1 (wpAny_pure ?_))))
          show wpAny _ _ (if (ep1 != ep1) = true then _ else pure ()) _ _ _
          rw [if_neg (by simp)]
          exact wpAny_pure (wpAny_pure ⟨rfl, rfl, fun e he' => he e (List.mem_cons_of_mem _ he'), ha⟩)
      · rintro b1 s' ⟨rfl, rfl, _, ha⟩
        rw [ha] at h
        exact wpAny_pure h
theorem set_le {Q : Value → Shared → Prop} (R1 : SetS P w s.heap a ks) (R2 : SetS P w s.heap b ms) (hu : A.units < cLine) (h : Q (.bool (ks.all fun k => decide (k ∈ ms))) s) : wpAny (model P w) A (compareOp .LtE (.ref a) (.ref b)) Q E s := by
  have t1 : s.TypeIs (.ref a) "set" := by
    obtain ⟨o1, es1, ep1, t1, ho1, hex1, _⟩ := R1
    exact ⟨o1, ho1, hex1.1⟩
  have t2 : s.TypeIs (.ref b) "set" := by
    obtain ⟨o1, es1, ep1, t1, ho1, hex1, _⟩ := R2
    exact ⟨o1, ho1, hex1.1⟩
  show wpAny _ A (richCompare .LtE (.ref a) (.ref b)) Q E s
  refine wpAny_richCompare_same_room t1 t2 PySem.F.slot_set_le (wpAny_call_entry PySem.F.slot_set_le t1 entry_set_le ?_ (PySem.F.args_set_le_2 _ _)) hu
  obtain ⟨o1, es1, ep1, tb1, ho1, hex1, hd1, g1, nd1, pk1, hb1, hf1, hr1, hl1⟩ := id R1
  obtain ⟨o2, es2, ep2, tb2, ho2, hex2, hd2, g2, nd2, pk2, hb2, hf2, hr2, hl2⟩ := id R2
  unfold Builtin.«frozenset.__le__»
  refine wpAny_bind (m := Builtin.Frozenset.slot1 "__le__" _) (wpAny_pure ?_)
  refine wpAny_bind (m := Builtin.Frozenset.isAnySet _) (isAnySet_set t2 ?_)
  refine wpAny_bind (m := Builtin.Frozenset.addrOf _) (wpAny_pure ?_)
  refine wpAny_bind (m := Builtin.Frozenset.addrOf _) (wpAny_pure ?_)
  refine wpAny_bind (m := Builtin.Frozenset.sizeOf _) (wpAny_bind (wpAny_bind (wpAny_setState_of ho1 hd1 hf1 (wpAny_pure (wpAny_pure ?_)))))
  refine wpAny_bind (m := Builtin.Frozenset.sizeOf _) (wpAny_bind (wpAny_bind (wpAny_setState_of ho2 hd2 hf2 (wpAny_pure (wpAny_pure ?_)))))
  refine wpAny_bind (m := Builtin.Frozenset.subsetOf _ _ _) (subset_go R1 R2 ?_)
  exact wpAny_pure ⟨_, rfl, by simp, h⟩
end
end Ts
/-! the test set(a) <= set(b) of texts -/
namespace Ts
open PySem PySem.Spec PyProof.Rows L2
section
variable {X : Cx}
theorem dd_mem : ∀ (xs acc : List Str) (y : Str), y ∈ xs.foldl ins acc ↔ y ∈ xs ∨ y ∈ acc
  | [], acc, y => by simp
  | x :: xs, acc, y => by
    rw [List.foldl_cons, dd_mem xs]
    have : y ∈ ins acc x ↔ y = x ∨ y ∈ acc := by
      unfold ins
      by_cases h : x ∈ acc
      · rw [if_pos h]
        constructor
        · exact .inr
        · rintro (rfl | q)
          · exact h
          · exact q
      · rw [if_neg h, List.mem_cons]
    rw [this, List.mem_cons, or_left_comm, or_assoc]
theorem mem_dd' {xs : List Str} {y : Str} : y ∈ dd xs ↔ y ∈ xs := by
  unfold dd
  rw [dd_mem]
  simp
theorem sub_dd {xs ys : List Str} : ((dd xs).all fun k => decide (k ∈ dd ys)) = xs.all fun k => decide (k ∈ ys) := by
  cases h : xs.all fun k => decide (k ∈ ys) with
  | true => exact List.all_eq_true.mpr fun x hx => decide_eq_true (mem_dd'.mpr (of_decide_eq_true (List.all_eq_true.mp h x (mem_dd'.mp hx))))
  | false =>
    obtain ⟨x, hx, hn⟩ := List.all_eq_false.mp h
    refine List.all_eq_false.mpr ⟨x, mem_dd'.mpr hx, fun q => hn ?_⟩
    exact decide_eq_true (mem_dd'.mp (of_decide_eq_true q))
/-- set(a), its object pinned -/
theorem run_setP {a : Expr} {ta : TE} {p q : Pos} {pins : List (Addr × Obj)} {σ : L2.St} {H : Hp} {s : Shared} {R : List Str → Hp → Prop} (hg2 : Gl X "set") (hm2 : X.mg "set" = none) (ha : PE X a ta) (hc : X.calm = true) (na : starEach [a] X.env = (false, eval a X.env) :: starEach [] X.env)
    (I : Inv X pins σ H s) (h : ta σ H fun x H1 => ∃ l xs, x = .ref l ∧ TxtAt X.kx H1 l xs ∧ xs.length < 4000 ∧ R xs H1) :
    wpAny (model X.prog X.w) X.A (eval (.Call (.Name "set" p) [a] [] q) X.env) (fun v s1 => ∃ (b : Addr) (o : Obj) (xs : List Str) (H1 : Hp), v = .ref b ∧ Inv X ((b, o) :: pins) σ H1 s1 ∧ SetS X.prog X.w s1.heap b (dd xs) ∧ R xs H1) X.xe s := by
  refine Call_ (ld_blt I hg2 hm2 boot_set ?_)
  refine PyProof.Rows.callWith_type1 (PyProof.Rows.args_cons (thn (ha.run pins s σ H _ I h) fun v s1 ⟨x, H1, I1, r1, q1⟩ => PyProof.Rows.args_nil ?_) na) na rfl
  obtain ⟨l, xs, rfl, hq, few, q1⟩ := q1
  cases r1
  refine run_set hc I1 hq (Nat.lt_of_le_of_lt (dd_len xs) few) fun h' tk hS I2 => ?_
  obtain ⟨o, es, ep, t, ho, hex, hd, rest⟩ := id hS
  obtain ⟨f0, f1, f2, _⟩ := I1.fpOk (Nat.le_refl _) (I1.hok.fresh (Nat.le_refl _))
  refine ⟨_, o, xs, H1, rfl, I2.pins_of fun r hr => ?_, hS, q1⟩
  rcases List.mem_cons.mp hr with rfl | hr
  · exact ⟨ho, f0, f1, f2, fun v e => by rw [hd] at e; cases e⟩
  · exact I2.pin r (List.mem_append_right _ hr)
def tSetLe (K : PySem.W.Frag) (ta tb : TE) (k : Bool → Hp → Prop) (σ : L2.St) (H : Hp) : Prop := ta σ H fun x H1 => ∃ l xs, x = .ref l ∧ TxtAt K H1 l xs ∧ xs.length < 4000 ∧ tb σ H1 fun y H2 => ∃ l2 ys, y = .ref l2 ∧ TxtAt K H2 l2 ys ∧ ys.length < 4000 ∧ k (xs.all fun k => decide (k ∈ ys)) H2
theorem pt_setLe {a b : Expr} {ta tb : TE} {p p2 q q2 pos : Pos} (hu : X.A.units < cLine) (hg : Gl X "set") (hm : X.mg "set" = none) (ha : PE X a ta) (hb : PE X b tb) (hc : X.calm = true := by rfl)
    (na : starEach [a] X.env = (false, eval a X.env) :: starEach [] X.env := by rfl) (nb : starEach [b] X.env = (false, eval b X.env) :: starEach [] X.env := by rfl) :
    PT X (.Compare (.Call (.Name "set" p) [a] [] q) [.LtE] [.Call (.Name "set" p2) [b] [] q2] pos) (fun σ H Q => tSetLe X.kx ta tb Q σ H) := by
  refine ⟨fun pins s σ H Q I h => ?_⟩
  refine wpAny_isTrue_Compare1 (thn (run_setP hg hm ha hc na I h) fun v s1 ⟨b1, o1, xs, H1, e1, I1, S1, q1⟩ => thn (run_setP hg hm hb hc nb I1 q1) fun u s2 ⟨b2, o2, ys, H2, e2, I2, S2, q2⟩ => ?_) (nobehind _ (by decide) (by decide))
  subst e1 e2
  have p1 : s1.heap.get? b1 = some o1 := (I1.pin (b1, o1) (List.mem_append_right _ List.mem_cons_self)).1
  have p2' : s2.heap.get? b1 = some o1 := (I2.pin (b1, o1) (List.mem_append_right _ (List.mem_cons_of_mem _ List.mem_cons_self))).1
  have S1' : SetS X.prog X.w s2.heap b1 (dd xs) := S1.at fun o e => by
    rw [p1] at e
    cases e
    exact p2'
  have I3 : Inv X pins σ H2 s2 := I2.pins_of fun r hr => I2.pin r (List.mem_append_right _ (List.mem_cons_of_mem _ (List.mem_cons_of_mem _ hr)))
  refine set_le S1' S2 hu ?_
  rw [sub_dd]
  exact wpAny_truthy_bool ⟨H2, I3, q2⟩
end
end Ts
namespace Mi
open PySem PySem.Spec PyProof.Rows L2
/-- set(a) <= set(b) -/
def fewT (d : PyData) : Option (List Str) := match txtD d with
  | some xs => if xs.length < 4000 then some xs else none
  | none => none
theorem fewT_ok {d : PyData} {xs : List Str} (h : fewT d = some xs) : txtD d = some xs ∧ xs.length < 4000 := by
  unfold fewT at h
  cases e : txtD d with
  | none => rw [e] at h; cases h
  | some ys =>
    rw [e] at h
    simp only at h
    split at h
    · cases h
      exact ⟨rfl, by assumption⟩
    · cases h
def setLeT (ma mb : MM PyData) : MM Bool := bnd ma fun d => bnd (lft (fewT d)) fun xs => bnd mb fun e => bnd (lft (fewT e)) fun ys => ret (xs.all fun k => decide (k ∈ ys))
section
variable {X : Cx} {W : WX} {a b : Expr} {ma mb : MM PyData} {p p2 q q2 pos : Pos}
theorem mt_setLe (hu : X.A.units + 64 < cLine) (hm : X.mg "set" = none) (ha : ME X W a ma) (hb : ME X W b mb) (hg : Gl X "set" := by rfl) (hc : X.calm = true := by rfl)
    (na : starEach [a] X.env = (false, eval a X.env) :: starEach [] X.env := by rfl) (nb : starEach [b] X.env = (false, eval b X.env) :: starEach [] X.env := by rfl) :
    MT X W (.Compare (.Call (.Name "set" p) [a] [] q) [.LtE] [.Call (.Name "set" p2) [b] [] q2] pos) (setLeT ma mb) := PT.wk (Ts.pt_setLe (by omega) hg hm ha hb hc na nb) fun σ H Q ⟨F, g, G, A, q⟩ => by
  refine ⟨F, g, G, A, Po.imp q.bnd fun d g1 G1 H1 A1 s1 k1 x rx => ?_⟩
  obtain ⟨xs, e1, k2⟩ := k1.bnd.lft
  obtain ⟨t1, f1⟩ := fewT_ok e1
  obtain ⟨l, rfl, h1⟩ := txtD_at t1 rx A1.ex
  refine ⟨l, xs, rfl, h1, f1, F, g1, G1, A1, Po.imp (k2 G1 H1 A1 (Same.refl _)).bnd fun e g2 G2 H2 A2 s2 k3 y ry => ?_⟩
  obtain ⟨ys, e2, k4⟩ := k3.bnd.lft
  obtain ⟨t2, f2⟩ := fewT_ok e2
  obtain ⟨l2, rfl, h2⟩ := txtD_at t2 ry A2.ex
  exact ⟨l2, ys, rfl, h2, f2, k4 G2 H2 A2 (Same.refl _) G2 H2 A2 (Same.refl _)⟩
end
theorem fewT_map {c : List PyData → PyData} {xs : List Str} (hc : txtD (c (xs.map .str)) = some xs) (h : xs.length < 4000) : fewT (c (xs.map .str)) = some xs := by
  unfold fewT
  rw [hc]
  exact if_pos h
@[simp ↓] theorem ev_setLeT {ma mb : MM PyData} {g : Gm} {P : Bool → Gm → Prop} {X : String → Gm → Prop} : ev (setLeT ma mb) g P X ↔ ev ma g (fun d g1 => okO (fewT d) fun xs => ev mb g1 (fun e g2 => okO (fewT e) fun ys => P (xs.all fun k => decide (k ∈ ys)) g2) X) X := by simp [setLeT]
end Mi
/-! what sorted makes of a list of data: laws -/
namespace Mi
open PySem PySem.Spec PyProof.Rows L2
def leA (a b : PyData) : Bool := PySem.W.dataLe false (fun d : PyData => d) a b
theorem leA_total : PySem.W.TotalLe leA := PySem.W.sortLe_total (listOrd itemOrd) false fun d : PyData => PySem.W.keyToks d
theorem srtA_perm (ds : List PyData) : (srtA ds).Perm ds := List.mergeSort_perm ds _
theorem srtA_pw (ds : List PyData) : (srtA ds).Pairwise fun a b => leA a b = true :=
  List.pairwise_mergeSort (le := leA) (fun a b c h k => leA_total.trans a b c h k) (fun a b => by
    rcases leA_total.total a b with h | h <;> simp [h]) ds
theorem leA_lt {a b : PyData} : leA a b = !PySem.W.dataLt b a := rfl
theorem leA_toks {a b : PyData} (h : leA a b = true) (k : leA b a = true) : PySem.W.keyToks a = PySem.W.keyToks b := by
  rw [leA_lt] at h k
  have h' : PySem.W.dataLt b a = false := by simpa using h
  have k' : PySem.W.dataLt a b = false := by simpa using k
  exact (listOrd itemOrd).total _ _ k' h'
theorem srtA_uniq {l m : List PyData} (h : l.Perm m) (inj : ∀ a ∈ l, ∀ b ∈ l, PySem.W.keyToks a = PySem.W.keyToks b → a = b) : srtA l = srtA m := by
  have p : (srtA l).Perm (srtA m) := (srtA_perm l).trans (h.trans (srtA_perm m).symm)
  refine List.Perm.eq_of_pairwise (le := fun a b => leA a b = true) (fun a b ha hb h1 h2 => ?_) (srtA_pw l) (srtA_pw m) p
  exact inj a ((srtA_perm l).mem_iff.mp ha) b (h.mem_iff.mpr ((srtA_perm m).mem_iff.mp hb)) (leA_toks h1 h2)
theorem str_cps {x y : Str} (h : x.cps.toList = y.cps.toList) : x = y := by
  cases x
  cases y
  simp only at h
  exact congrArg Str.mk (Array.toList_inj.mp h)
theorem toks_rows : ∀ {R S : List Str}, PySem.W.keyToksAll (R.map PyData.str) = PySem.W.keyToksAll (S.map PyData.str) → R = S
  | [], [], _ => rfl
  | [], y :: S, h => by
    simp [PySem.W.keyToksAll] at h
  | x :: R, [], h => by
    simp [PySem.W.keyToksAll] at h
  | x :: R, y :: S, h => by
    simp only [List.map_cons, PySem.W.keyToksAll, PySem.W.keyToks, List.cons_append, List.nil_append, List.cons.injEq, Sum.inr.injEq, true_and] at h
    rw [str_cps h.1, toks_rows h.2]
theorem toks_row {R S : List Str} (h : PySem.W.keyToks (.tuple (R.map .str)) = PySem.W.keyToks (.tuple (S.map .str))) : R = S := by
  simp only [PySem.W.keyToks] at h
  exact toks_rows h
/-- pairs of a number and a row: the numbers rise -/
theorem pair_le {m n : Int} {x y : List PyData} (h : leA (.tuple [.int m, .tuple x]) (.tuple [.int n, .tuple y]) = true) : m ≤ n := by
  rw [leA_lt] at h
  have h' : PySem.W.dataLt (.tuple [.int n, .tuple y]) (.tuple [.int m, .tuple x]) = false := by simpa using h
  by_cases hmn : m ≤ n
  · exact hmn
  · exfalso
    have hne : PyData.eqv (.int n) (.int m) = false := by
      have : (n == m) = false := beq_eq_false_iff_ne.mpr (by omega)
      simp [PyData.eqv, this]
    rw [PySem.W.dataLt_tuple, PySem.W.dataLt_cons (by rfl), if_neg (by rw [hne]; decide), PySem.W.dataLt_int] at h'
    have : decide (n < m) = true := decide_eq_true (by omega)
    rw [this] at h'
    cases h'
end Mi
/-! sorted(set(..)) of texts of any length, fewer than 64 different ones -/
namespace Ts
open PySem PySem.Spec PyProof.Rows L2
section
variable {X : Cx}
def tSortSet2 (K : PySem.W.Frag) (ta : TE) : TE := fun σ H Q => ta σ H fun x H1 => ∃ l xs, x = .ref l ∧ TxtAt K H1 l xs ∧ (dd xs).length < 64 ∧ ∀ p, H1 p = none → Q (.ref p) (upd H1 p (.lst ((srt (dd xs)).map V.str)))
theorem pe_sortSet2 {a : Expr} {ta : TE} {p p2 q pos : Pos} (hg : Gl X "sorted") (hm : X.mg "sorted" = none) (hg2 : Gl X "set") (hm2 : X.mg "set" = none) (ha : PE X a ta) (hc : X.calm = true := by rfl)
    (na : starEach [a] X.env = (false, eval a X.env) :: starEach [] X.env := by rfl) : PE X (.Call (.Name "sorted" p) [.Call (.Name "set" p2) [a] [] q] [] pos) (tSortSet2 X.kx ta) := by
  refine ⟨fun pins s σ H Q I h => ?_⟩
  refine Call_ (ld_blt I hg hm boot_sorted ?_)
  refine PyProof.Rows.callWith_builtin1 (PyProof.Rows.args_cons ?_ rfl) rfl rfl
  refine Call_ (ld_blt I hg2 hm2 boot_set ?_)
  refine PyProof.Rows.callWith_type1 (PyProof.Rows.args_cons (thn (ha.run pins s σ H _ I h) fun v s1 ⟨x, H1, I1, r1, q1⟩ => PyProof.Rows.args_nil ?_) na) na rfl
  obtain ⟨l, xs, rfl, hq, h64, q1⟩ := q1
  cases r1
  refine run_set hc I1 hq (by omega) fun h' tk hS I2 => ?_
  refine PyProof.Rows.args_nil ?_
  exact run_sorted hc I2 hS h64 q1
end
end Ts
namespace Mi
open PySem PySem.Spec PyProof.Rows L2
def sortSet2 (d : PyData) : Option PyData := match txtD d with
  | some xs => if (Ts.dd xs).length < 64 then some (.list ((Ts.srt (Ts.dd xs)).map .str)) else none
  | none => none
section
variable {X : Cx} {W : WX} {e : Expr} {m : MM PyData} {p p2 q pos : Pos}
theorem me_sortSet2 (hm : X.mg "sorted" = none) (hm2 : X.mg "set" = none) (ha : ME X W e m) (hg : Gl X "sorted" := by rfl) (hg2 : Gl X "set" := by rfl) (hc : X.calm = true := by rfl)
    (na : starEach [e] X.env = (false, eval e X.env) :: starEach [] X.env := by rfl) : ME X W (.Call (.Name "sorted" p) [.Call (.Name "set" p2) [e] [] q] [] pos) (op1 sortSet2 m) := PE.wk (Ts.pe_sortSet2 hg hm hg2 hm2 ha hc na) fun σ H Q ⟨F, g, G, A, q⟩ => by
  refine ⟨F, g, G, A, Po.imp q.bnd fun d g1 G1 H1 A1 s1 k1 x rx => ?_⟩
  obtain ⟨z, ez, k⟩ := k1.lft
  unfold sortSet2 at ez
  cases et : txtD d with
  | none => rw [et] at ez; cases ez
  | some xs =>
    rw [et] at ez
    obtain ⟨l, rfl, ht⟩ := txtD_at et rx A1.ex
    simp only at ez
    split at ez
    · rename_i few
      cases ez
      refine ⟨l, xs, rfl, ht, few, fun p hp => ?_⟩
      have gr := Gr.new (o := .lst ((Ts.srt (Ts.dd xs)).map V.str)) A1.ex hp
      exact k _ _ (A1.grow gr) gr.g _ (.lst upd_same (rpAll_strs _))
    · cases ez
end
theorem sortSet2_ok {P : PyData → Prop} {d : PyData} : okO (sortSet2 d) P ↔ okO (txtD d) fun xs => (Ts.dd xs).length < 64 ∧ P (.list ((Ts.srt (Ts.dd xs)).map .str)) := by
  unfold sortSet2
  cases txtD d with
  | none => exact Iff.rfl
  | some xs => exact okO_if
end Mi
/-! dicts whose keys are data: the model's own steps -/
namespace Mi
open PySem PySem.Spec PyProof.Rows L2
open PySem.Sem (wp)
def isT : NestedKey → Bool
  | .tup _ => true
  | _ => false
theorem nk_isT : ∀ {d : PyData} {k : NestedKey}, nk d = some k → isT k = isTupD d
  | .none, k, h => by cases h; rfl
  | .bool b, k, h => by cases h; rfl
  | .int i, k, h => by cases h; rfl
  | .str x, k, h => by cases h; rfl
  | .tuple ds, k, h => by
    unfold nk at h
    cases e : nks ds with
    | none => rw [e] at h; cases h
    | some ks => rw [e] at h; cases h; rfl
  | .list _, k, h => by cases h
  | .dict _, k, h => by cases h
section
variable {X : Cx} {pins : List (Addr × Obj)} {σ : L2.St} {H : Hp} {s : Shared}
mutual
theorem Rp.nest (I : Inv X pins σ H s) : ∀ (d : PyData) (v : V) (u : Value) (k : NestedKey), nk d = some k → Rp X.kx H v d → RelV v u → NestedIs s.heap k u
  | .none, _, _, _, n, h, r => by
    cases n
    cases h
    cases r
    exact .none
  | .bool b, _, _, _, n, h, r => by
    cases n
    cases h
    cases r
    exact .bool rfl
  | .int i, _, _, _, n, h, r => by
    cases n
    cases h
    obtain ⟨t, rfl⟩ := r
    exact .int i t
  | .str x, _, _, _, n, h, r => by
    cases n
    cases h
    obtain ⟨t, rfl⟩ := r
    exact .text x t
  | .list ds, _, _, _, n, h, r => by cases n
  | .dict ds, _, _, _, n, h, r => by cases n
  | .tuple ds, _, _, _, n, h, r => by
    unfold nk at n
    cases e : nks ds with
    | none => rw [e] at n; cases n
    | some ks =>
      rw [e] at n
      cases n
      cases h with
      | tup hs ha =>
        cases r
        obtain ⟨its, rv, p, _⟩ := I.tuple hs.sq
        have q := RpAll.nest I ds _ its ks e ha rv
        obtain ⟨o, ho, hc, n, hd⟩ := p
        exact .tup ho hc hd (by simpa using q)
theorem RpAll.nest (I : Inv X pins σ H s) : ∀ (ds : List PyData) (vs : List V) (us : List Value) (ks : List NestedKey), nks ds = some ks → RpAll X.kx H vs ds → Vals vs us → NestedAll s.heap ks us
  | [], _, _, _, n, h, r => by
    cases n
    cases h
    cases r
    exact .nil
  | d :: ds, _, _, _, n, h, r => by
    unfold nks at n
    cases e1 : nk d with
    | none => rw [e1] at n; cases n
    | some k =>
      cases e2 : nks ds with
      | none => rw [e1, e2] at n; cases n
      | some ks =>
        rw [e1, e2] at n
        cases n
        cases h with
        | cons h1 h2 =>
          cases r with
          | cons r1 r2 => exact .cons (Rp.nest I d _ _ k e1 h1 r1) (RpAll.nest I ds _ _ ks e2 h2 r2)
end
end
/-! ### the dict in the heap -/
inductive KeysAt (w : World) (h : Heap) : List DictEntry → List NestedKey → Prop
  | nil : KeysAt w h [] []
  | cons {e : DictEntry} {k : NestedKey} {es : List DictEntry} {ks : List NestedKey} : NestedIs h k e.key → e.hash = k.hash w → KeysAt w h es ks → KeysAt w h (e :: es) (k :: ks)
structure DK (w : World) (h : Heap) (d : Addr) (es : Array DictEntry) (ep : Nat) (ks : List NestedKey) : Prop where
  o : h.get? d = some { cls := .type "dict", data := .dict es ep }
  k : KeysAt w h es.toList ks
  dp : ∀ k ∈ ks, k.depth ≤ 8
  one : (∀ k ∈ ks, isT k = true) ∨ (∀ k ∈ ks, isT k = false)
  nd : ks.Nodup
theorem KeysAt.len {w : World} {h : Heap} : ∀ {es : List DictEntry} {ks : List NestedKey}, KeysAt w h es ks → es.length = ks.length
  | _, _, .nil => rfl
  | _, _, .cons _ _ t => congrArg (· + 1) t.len
theorem KeysAt.get {w : World} {h : Heap} : ∀ {es : List DictEntry} {ks : List NestedKey} {i : Nat} {k : NestedKey}, KeysAt w h es ks → ks[i]? = some k → ∃ e, es[i]? = some e ∧ NestedIs h k e.key ∧ e.hash = k.hash w
  | _, _, _, _, .nil, q => by simp at q
  | _, _, 0, _, .cons a b _, q => by
    simp at q
    subst q
    exact ⟨_, rfl, a, b⟩
  | _, _, i + 1, _, .cons _ _ t, q => by
    obtain ⟨e, h1, h2⟩ := t.get (i := i) (by simpa using q)
    exact ⟨e, by simpa using h1, h2⟩
theorem KeysAt.got {w : World} {h : Heap} : ∀ {es : List DictEntry} {ks : List NestedKey} {e : DictEntry}, KeysAt w h es ks → e ∈ es → ∃ k ∈ ks, NestedIs h k e.key ∧ e.hash = k.hash w
  | _, _, _, .nil, q => by simp at q
  | _, _, _, .cons a b t, q => by
    rcases List.mem_cons.mp q with rfl | q
    · exact ⟨_, by simp, a, b⟩
    · obtain ⟨k, h1, h2⟩ := t.got q
      exact ⟨k, by simp [h1], h2⟩
/-- a key that is no tuple -/
def leafOf : NestedKey → Leaf
  | .num i => .num i
  | .text x => .text x
  | _ => .none
theorem leaf_is {h : Heap} {k : NestedKey} {v : Value} (n : NestedIs h k v) (t : isT k = false) : Leaf.isOf (leafOf k) v = true ∧ (leafOf k).key = k := by
  cases n with
  | none => exact ⟨rfl, rfl⟩
  | bool e => exact ⟨by simp [leafOf, Leaf.isOf, e], rfl⟩
  | int i t => exact ⟨by simp [leafOf, Leaf.isOf], rfl⟩
  | text x t => exact ⟨by simp [leafOf, Leaf.isOf, Value.isStrOf], rfl⟩
  | tup _ _ _ _ => cases t
theorem ref_of {h : Heap} {k : NestedKey} {v : Value} (n : NestedIs h k v) (t : isT k = true) : ∃ a, v = .ref a := by
  cases n with
  | tup _ _ _ _ => exact ⟨_, rfl⟩
  | _ => cases t
/-- the entries with the addresses of their keys -/
def withAd : List DictEntry → List NestedKey → List (NestedKey × Addr × Value)
  | e :: es, k :: ks => (k, (match e.key with | .ref a => a | _ => 0), e.val) :: withAd es ks
  | _, _ => []
theorem withAd_ok {prog : Program} {w : World} {h : Heap} : ∀ {es : List DictEntry} {ks : List NestedKey}, KeysAt w h es ks → (∀ k ∈ ks, isT k = true) → (∀ k ∈ ks, k.depth ≤ 8) →
    es = (withAd es ks).map (entryOfKey (nestedKind prog w)) ∧ (∀ x ∈ withAd es ks, (nestedKind prog w).is h x.1 x.2.1) ∧ (withAd es ks).map (·.1) = ks
  | _, _, .nil, _, _ => ⟨rfl, fun _ h => (nomatch h), rfl⟩
  | _, _, .cons (e := e) (k := k) (es := es) (ks := ks) a b t, ht, hd => by
    obtain ⟨q1, q2, q3⟩ := withAd_ok (prog := prog) t (fun k hk => ht k (by simp [hk])) fun k hk => hd k (by simp [hk])
    obtain ⟨c, hc⟩ := ref_of a (ht _ (by simp))
    refine ⟨?_, fun x hx => ?_, ?_⟩
    · show e :: es = (⟨k.hash w, .ref (match e.key with | .ref a => a | _ => 0), e.val⟩ : DictEntry) :: _
      rw [hc, ← b, ← hc, ← q1]
    · rcases List.mem_cons.mp hx with rfl | hx
      · refine ⟨?_, hd _ (by simp)⟩
        show NestedIs h k (.ref (match e.key with | .ref a => a | _ => 0))
        rw [hc] at a ⊢
        exact a
      · exact q2 x hx
    · show k :: _ = _
      rw [q3]
theorem withAd_get {es : List DictEntry} {ks : List NestedKey} (hl : es.length = ks.length) (i : Nat) : (withAd es ks)[i]?.map (·.1) = ks[i]? := by
  induction ks generalizing es i with
  | nil => cases es <;> simp [withAd]
  | cons k ks ih =>
    cases es with
    | nil => cases hl
    | cons e es =>
      cases i with
      | zero => rfl
      | succ i => simpa [withAd] using ih (by simpa using hl) i
def plc (ks : List NestedKey) (k : NestedKey) : Option Nat := ks.findIdx? fun x => decide (x = k)
theorem plc_some {ks : List NestedKey} (hn : ks.Nodup) {k : NestedKey} {j : Nat} (h : ks[j]? = some k) : plc ks k = some j := by
  obtain ⟨hj, e⟩ := List.getElem?_eq_some_iff.mp h
  refine List.findIdx?_eq_some_iff_getElem.mpr ⟨hj, by simp [e], fun i hi => ?_⟩
  have hne : ks[i] ≠ k := fun q => by
    have : i = j := (List.getElem_inj hn).mp (q.trans e.symm)
    omega
  simp [hne]
theorem plc_none {ks : List NestedKey} {k : NestedKey} (h : ∀ j : Nat, ks[j]? ≠ some k) : plc ks k = none := by
  refine List.findIdx?_eq_none_iff.mpr fun x hx => ?_
  have hne : x ≠ k := fun q => by
    obtain ⟨j, hj⟩ := List.mem_iff_getElem?.mp hx
    exact h j (hj.trans (congrArg some q))
  simp [hne]
section
variable {prog : Program} {w : World} {A : Around} {E : Value → Shared → Prop} {s : Shared} {d : Addr} {es : Array DictEntry} {ep : Nat} {ks : List NestedKey} {k : NestedKey} {key : Value}
theorem DK.len (D : DK w s.heap d es ep ks) : es.size = ks.length := by
  have := D.k.len
  simpa using this
theorem leaf_find (prog : Program) {h : Heap} : ∀ {es : List DictEntry} {ks : List NestedKey}, KeysAt w h es ks → (∀ k ∈ ks, isT k = false) → isT k = false → (es.findIdx? fun e => Leaf.isOf (leafOf k) e.key) = plc ks k
  | _, _, .nil, _, _ => rfl
  | _, _, .cons (e := e) (k := k') (es := es) (ks := ks) a b t, ht, hk => by
    have ih := leaf_find prog t (fun k hk => ht k (by simp [hk])) hk
    obtain ⟨q1, q2⟩ := leaf_is a (ht _ (by simp))
    have e1 : Leaf.isOf (leafOf k) e.key = decide (k' = k) := by
      have := KeyKind.is_eq_decide (knd := leafKind prog w) (k := leafOf k') (v := e.key) q1 (leafOf k)
      rw [show Leaf.isOf (leafOf k) e.key = (leafKind prog w).is (leafOf k) e.key from rfl, this]
      by_cases e2 : k' = k
      · subst e2; simp
      · have : leafOf k ≠ leafOf k' := fun z => by
          have h1 := q2
          rw [← z] at h1
          have hk2 : (leafOf k).key = k := by cases k <;> first | rfl | cases hk
          exact e2 (h1.symm.trans hk2)
        simp [e2, this]
    unfold plc at ih ⊢
    rw [List.findIdx?_cons, List.findIdx?_cons, e1, ih]
/-- looking for a key -/
theorem find_D {Q : Option Nat → Shared → Prop} (D : DK w s.heap d es ep ks) (hk : NestedIs s.heap k key) (hd : k.depth ≤ 8) (ht : ∀ x ∈ ks, isT x = isT k) (hu : A.units + 8 < cLine) (h : Q (plc ks k) s) :
    wpAny (model prog w) A (dictFind d key (k.hash w)) Q E s := by
  cases hT : isT k with
  | true =>
    obtain ⟨a, rfl⟩ := ref_of hk hT
    obtain ⟨q1, q2, q3⟩ := withAd_ok (prog := prog) D.k (fun x hx => (ht x hx).trans hT) D.dp
    refine wpAny_dictFind_heap (knd := nestedKind prog w) (xs := withAd es.toList ks) hu ⟨hk, hd⟩ D.o rfl q1 q2 (by rw [q3]; exact D.nd) (fun hno => ?_) fun j p hj => ?_
    · rw [plc_none fun j hj => ?_] at h
      · exact h
      · have := withAd_get D.k.len j
        rw [hj] at this
        cases e : (withAd es.toList ks)[j]? with
        | none => rw [e] at this; cases this
        | some y =>
          rw [e] at this
          obtain ⟨y1, y2⟩ := y
          cases this
          exact hno j y2 e
    · rw [plc_some D.nd (j := j) ?_] at h
      · exact h
      · rw [← withAd_get D.k.len j, hj]
        rfl
  | false =>
    obtain ⟨q1, q2⟩ := leaf_is hk hT
    have hks : ∀ x ∈ ks, isT x = false := fun x hx => (ht x hx).trans hT
    have e0 : k.hash w = (leafKind prog w).hash (leafOf k) := by
      show k.hash w = (leafOf k).key.hash w
      rw [q2]
    rw [e0]
    refine wpAny_dictFind_of (knd := leafKind prog w) q1 D.o rfl (fun e he => ?_) ?_
    · obtain ⟨k', hk', n', e'⟩ := D.k.got (Array.mem_toList_iff.mpr he)
      obtain ⟨z1, z2⟩ := leaf_is n' (hks k' hk')
      refine ⟨leafOf k', z1, ?_⟩
      show e.hash = (leafOf k').key.hash w
      rw [z2]
      exact e'
    · have e1 : (es.findIdx? fun e => (leafKind prog w).is (leafOf k) e.key) = plc ks k := by
        rw [← leaf_find prog D.k hks hT]
        obtain ⟨l⟩ := es
        simp
        rfl
      rw [e1]
      exact h
/-- the value at a key -/
def valE (es : Array DictEntry) (ks : List NestedKey) (k : NestedKey) : Option Value := match plc ks k with
  | some j => (es[j]?).map (·.val)
  | none => none
theorem get_D {Q : Option Value → Shared → Prop} (D : DK w s.heap d es ep ks) (hk : NestedIs s.heap k key) (hd : k.depth ≤ 8) (ht : ∀ x ∈ ks, isT x = isT k) (hu : A.units + 8 < cLine) (h : Q (valE es ks k) { s with toks := s.toks + k.draws }) :
    wpAny (model prog w) A (dictGet d key) Q E s := by
  unfold dictGet
  try with_reducible refine wpAny_holding ?_
  refine wpAny_bind (pyHash_key k key A s _ hk (by omega) (wpAny_bind (find_D (s := { s with toks := s.toks + k.draws }) D hk hd ht hu ?_)))
  unfold valE at h
  cases e : plc ks k with
  | none =>
    rw [e] at h
    exact wpAny_pure h
  | some j =>
    rw [e] at h
    exact wpAny_bind (wpAny_dictEntries (s := { s with toks := s.toks + k.draws }) D.o rfl (wpAny_pure h))
theorem KeysAt.mod {h : Heap} {v : Value} : ∀ {es : List DictEntry} {ks : List NestedKey} {j : Nat}, KeysAt w h es ks → KeysAt w h (es.modify j fun e => { e with val := v }) ks
  | _, _, j, .nil => by cases j <;> exact .nil
  | _, _, 0, .cons a b t => by simpa using .cons a b t
  | _, _, j + 1, .cons a b t => by simpa using .cons a b t.mod
theorem KeysAt.app {h : Heap} : ∀ {es fs : List DictEntry} {ks ls : List NestedKey}, KeysAt w h es ks → KeysAt w h fs ls → KeysAt w h (es ++ fs) (ks ++ ls)
  | _, _, _, _, .nil, t => t
  | _, _, _, _, .cons a b r, t => .cons a b (r.app t)
theorem KeysAt.at {h h' : Heap} : ∀ {es : List DictEntry} {ks : List NestedKey}, (∀ k ∈ ks, ∀ v, NestedIs h k v → NestedIs h' k v) → KeysAt w h es ks → KeysAt w h' es ks
  | _, _, _, .nil => .nil
  | _, _, k, .cons a b t => .cons (k _ (by simp) _ a) b (t.at fun x hx => k x (by simp [hx]))
/-- the entries behind a store -/
def putE (es : Array DictEntry) (ks : List NestedKey) (k : NestedKey) (h : Int) (key v : Value) : Array DictEntry := match plc ks k with
  | some j => es.modify j fun e => { e with val := v }
  | none => es.push ⟨h, key, v⟩
end
end Mi
/-! dicts of data: what the model's steps mean for data -/
namespace Mi
open PySem PySem.Spec PyProof.Rows L2
open PySem.Sem (wp)
def ksOf (ds : List (PyData × PyData)) : List NestedKey := ds.filterMap fun p => nk p.1
theorem keyOk_some {d : PyData} (h : keyOk d = true) : ∃ k, nk d = some k ∧ k.depth ≤ 8 := by
  unfold keyOk at h
  cases e : nk d with
  | none => rw [e] at h; cases h
  | some k => rw [e] at h; exact ⟨k, rfl, of_decide_eq_true h⟩
theorem ksOf_map : ∀ {ds : List (PyData × PyData)}, (∀ p ∈ ds, keyOk p.1 = true) → ds.map (fun p => nk p.1) = (ksOf ds).map some
  | [], _ => rfl
  | p :: ds, h => by
    obtain ⟨k, hk, _⟩ := keyOk_some (h p (by simp))
    have ih := ksOf_map (ds := ds) fun q hq => h q (by simp [hq])
    show nk p.1 :: _ = _
    unfold ksOf at ih ⊢
    rw [List.filterMap_cons, hk, ih]
    rfl
theorem mem_ksOf {ds : List (PyData × PyData)} {k : NestedKey} (h : k ∈ ksOf ds) : ∃ p ∈ ds, nk p.1 = some k := by
  obtain ⟨p, h1, h2⟩ := List.mem_filterMap.mp h
  exact ⟨p, h1, h2⟩
theorem plc_eq {e : PyData} {k : NestedKey} (he : nk e = some k) : ∀ {ds : List (PyData × PyData)} {ks : List NestedKey}, ds.map (fun p => nk p.1) = ks.map some → plc ks k = plD ds e
  | [], [], _ => rfl
  | [], _ :: _, h => by cases h
  | _ :: _, [], h => by cases h
  | p :: ds, x :: ks, h => by
    injection h with h1 h2
    have h1 : nk p.1 = some x := h1
    have ih := plc_eq he h2
    unfold plc plD at ih ⊢
    have e1 : decide (x = k) = decide (nk p.1 = nk e) := by
      rw [h1, he]
      by_cases q : x = k
      · subst q; simp
      · simp [q]
    rw [List.findIdx?_cons, List.findIdx?_cons, e1, ih]
theorem kFit_ok {ds : List (PyData × PyData)} {e : PyData} (ok : ∀ p ∈ ds, keyOk p.1 = true) (h : kFit ds e = true) : ∃ k, nk e = some k ∧ k.depth ≤ 8 ∧ ∀ x ∈ ksOf ds, isT x = isT k := by
  unfold kFit at h
  rw [Bool.and_eq_true] at h
  obtain ⟨k, h1, h2⟩ := keyOk_some h.1
  refine ⟨k, h1, h2, fun x hx => ?_⟩
  obtain ⟨p, hp, hn⟩ := mem_ksOf hx
  have := List.all_eq_true.mp h.2 p hp
  rw [nk_isT hn, nk_isT h1]
  simpa using this
theorem lkD_pl {ds : List (PyData × PyData)} {e : PyData} : lkD ds e = (match plD ds e with
    | some j => (ds[j]?).map (·.2)
    | none => none) := by
  unfold lkD plD
  induction ds with
  | nil => rfl
  | cons p ds ih =>
    rw [List.find?_cons, List.findIdx?_cons]
    by_cases h : nk p.1 = nk e
    · simp [h]
    · simp only [h, decide_false, Bool.false_eq_true, if_false]
      rw [ih]
      cases List.findIdx? (fun p => decide (nk p.1 = nk e)) ds <;> simp
theorem hasD_pl {ds : List (PyData × PyData)} {e : PyData} : hasD ds e = (plD ds e).isSome := by
  unfold hasD plD
  rw [List.findIdx?_isSome]
theorem RpKV.get {K : Frag} {G : Hp} : ∀ {es : List DictEntry} {ds : List (PyData × PyData)} {j : Nat} {p : PyData × PyData}, RpKV K G es ds → ds[j]? = some p → ∃ (e : DictEntry) (k v : V), es[j]? = some e ∧ RelV k e.key ∧ RelV v e.val ∧ Rp K G k p.1 ∧ Rp K G v p.2
  | _, _, _, _, .nil, h => by simp at h
  | _, _, 0, _, .cons a1 a2 a3 a4 a5 t, h => by
    simp at h
    subst h
    exact ⟨_, _, _, rfl, a2, a3, a4, a5⟩
  | _, _, j + 1, _, .cons a1 a2 a3 a4 a5 t, h => by
    obtain ⟨e, k, v, h1, h2⟩ := t.get (j := j) (by simpa using h)
    exact ⟨e, k, v, by simpa using h1, h2⟩
theorem RpKV.app {K : Frag} {G : Hp} : ∀ {es fs : List DictEntry} {ds gs : List (PyData × PyData)}, RpKV K G es ds → RpKV K G fs gs → RpKV K G (es ++ fs) (ds ++ gs)
  | _, _, _, _, .nil, t => t
  | _, _, _, _, .cons a1 a2 a3 a4 a5 t, r => .cons a1 a2 a3 a4 a5 (t.app r)
theorem RpKV.mod {K : Frag} {G : Hp} {v : V} {u : Value} {d : PyData} (rv : RelV v u) (rd : Rp K G v d) : ∀ {es : List DictEntry} {ds : List (PyData × PyData)} (j : Nat), RpKV K G es ds → RpKV K G (es.modify j fun e => { e with val := u }) (ds.modify j fun p => (p.1, d))
  | _, _, j, .nil => by cases j <;> exact .nil
  | _, _, 0, .cons a1 a2 a3 a4 a5 t => by simpa using .cons a1 a2 rv a4 rd t
  | _, _, j + 1, .cons a1 a2 a3 a4 a5 t => by simpa using .cons a1 a2 a3 a4 a5 (t.mod rv rd j)
theorem RpKV.put {K : Frag} {G : Hp} {es : Array DictEntry} {ds : List (PyData × PyData)} {e d : PyData} {k : NestedKey} {kv v : V} {key u : Value} (r : RpKV K G es.toList ds) (he : nk e = some k) (hm : ds.map (fun p => nk p.1) = (ksOf ds).map some)
    (rk : RelV kv key) (rv : RelV v u) (hk : Rp K G kv e) (hd : Rp K G v d) : RpKV K G (putE es (ksOf ds) k (k.hash K.w) key u).toList (putD ds e d) := by
  unfold putE putD
  rw [plc_eq he hm]
  cases plD ds e with
  | none =>
    have e1 : k.hash K.w = hashK K.w e := by unfold hashK; rw [he]
    have := r.app (.cons e1 rk rv hk hd .nil : RpKV K G [⟨k.hash K.w, key, u⟩] [(e, d)])
    simpa using this
  | some j =>
    have := r.mod rv hd j
    simpa using this
theorem plD_lt {ds : List (PyData × PyData)} {e : PyData} {j : Nat} (h : plD ds e = some j) : j < ds.length :=
  (List.findIdx?_eq_some_iff_getElem.mp h).1
theorem keysOk.put {ds : List (PyData × PyData)} {e d : PyData} (ok : keysOk ds) (h : kFit ds e = true) : keysOk (putD ds e d) := by
  obtain ⟨h1, h2, h3⟩ := ok
  unfold putD
  cases ej : plD ds e with
  | some j =>
    have em : ∀ {β : Type} (f : PyData → β), (ds.modify j fun p => (p.1, d)).map (fun p => f p.1) = ds.map fun p => f p.1 := by
      intro β f
      clear ej h3 h2 h1 h
      induction ds generalizing j with
      | nil => cases j <;> rfl
      | cons p ds ih =>
        cases j with
        | zero => simp
        | succ j => simpa using ih j
    have mm : ∀ {f : PyData → Bool} {b : Bool}, (∀ p ∈ ds, f p.1 = b) → ∀ p ∈ (ds.modify j fun p => (p.1, d)), f p.1 = b := fun {f b} q p hp => by
      have : f p.1 ∈ (ds.modify j fun p => (p.1, d)).map fun p => f p.1 := List.mem_map.mpr ⟨p, hp, rfl⟩
      rw [em f] at this
      obtain ⟨p', hp', e'⟩ := List.mem_map.mp this
      rw [← e']
      exact q p' hp'
    exact ⟨mm h1, h2.elim (fun q => .inl (mm q)) fun q => .inr (mm q), by rw [em nk]; exact h3⟩
  | none =>
    unfold kFit at h
    rw [Bool.and_eq_true] at h
    have ht : ∀ p ∈ ds, isTupD p.1 = isTupD e := fun p hp => by
      have := List.all_eq_true.mp h.2 p hp
      simpa using this
    refine ⟨fun p hp => ?_, ?_, ?_⟩
    · rcases List.mem_append.mp hp with q | q
      · exact h1 p q
      · rw [List.mem_singleton.mp q]; exact h.1
    · cases hT : isTupD e with
      | true =>
        refine .inl fun p hp => ?_
        rcases List.mem_append.mp hp with q | q
        · exact (ht p q).trans hT
        · rw [List.mem_singleton.mp q]; exact hT
      | false =>
        refine .inr fun p hp => ?_
        rcases List.mem_append.mp hp with q | q
        · exact (ht p q).trans hT
        · rw [List.mem_singleton.mp q]; exact hT
    · rw [List.map_append, List.nodup_append]
      refine ⟨h3, by simp, fun x hx y hy => ?_⟩
      obtain ⟨p, hp, rfl⟩ := List.mem_map.mp hx
      rw [show y = nk e by simpa using hy]
      intro q
      have := List.findIdx?_eq_none_iff.mp ej p hp
      simp [q] at this
section
variable {X : Cx} {pins : List (Addr × Obj)} {σ : L2.St} {G H : Hp} {s : Shared} {a : Addr} {es : Array DictEntry} {ep : Nat} {ds : List (PyData × PyData)}
theorem RpKV.at (I : Inv X pins σ H s) (sg : Same G H) : ∀ (ds : List (PyData × PyData)) {es : List DictEntry}, (∀ p ∈ ds, keyOk p.1 = true) → RpKV X.kx G es ds → KeysAt X.w s.heap es (ksOf ds)
  | [], _, _, r => by
    cases r
    exact .nil
  | (e, d) :: ds, _, ok, r => by
    cases r with
    | cons a1 a2 a3 a4 a5 t =>
      obtain ⟨k, hk, _⟩ := keyOk_some (ok (e, d) (by simp))
      have ih := RpKV.at I sg ds (fun p hp => ok p (by simp [hp])) t
      have hk' : nk e = some k := hk
      unfold ksOf at ih ⊢
      rw [List.filterMap_cons, show nk (e, d).1 = some k from hk]
      exact .cons (Rp.nest I _ _ _ k hk' (a4.up sg) a2) (by rw [a1]; unfold hashK; rw [hk']) ih
theorem dk_of (I : Inv X pins σ H s) (hd : H a = some (dO a es ep)) (sg : Same G H) (ok : keysOk ds) (r : RpKV X.kx G es.toList ds) : DK X.w s.heap a es ep (ksOf ds) := by
  refine ⟨(dO_get I hd).2.2, RpKV.at I sg _ ok.1 r, fun k hk => ?_, ?_, ?_⟩
  · obtain ⟨p, hp, hn⟩ := mem_ksOf hk
    obtain ⟨k', hk', hd'⟩ := keyOk_some (ok.1 p hp)
    rw [hn] at hk'
    cases hk'
    exact hd'
  · rcases ok.2.1 with q | q
    · refine .inl fun k hk => ?_
      obtain ⟨p, hp, hn⟩ := mem_ksOf hk
      rw [nk_isT hn]; exact q p hp
    · refine .inr fun k hk => ?_
      obtain ⟨p, hp, hn⟩ := mem_ksOf hk
      rw [nk_isT hn]; exact q p hp
  · have h := ok.2.2
    rw [ksOf_map ok.1] at h
    exact (List.pairwise_map.mp h).imp fun hn e => hn (congrArg some e)
theorem valE_some (ok : keysOk ds) (r : RpKV X.kx G es.toList ds) {e z : PyData} {k : NestedKey} (he : nk e = some k) (h : lkD ds e = some z) : ∃ v u, valE es (ksOf ds) k = some u ∧ RelV v u ∧ Rp X.kx G v z := by
  rw [lkD_pl] at h
  unfold valE
  rw [plc_eq he (ksOf_map ok.1)]
  cases ej : plD ds e with
  | none => rw [ej] at h; cases h
  | some j =>
    rw [ej] at h
    simp only at h
    cases ep : ds[j]? with
    | none => rw [ep] at h; cases h
    | some p =>
      rw [ep] at h
      cases h
      obtain ⟨t, kv, v, h1, h2, h3, h4, h5⟩ := r.get ep
      refine ⟨v, t.val, ?_, h3, h5⟩
      have : es[j]? = some t := by simpa using h1
      simp [this]
theorem valE_none (ok : keysOk ds) {e : PyData} {k : NestedKey} (he : nk e = some k) (h : lkD ds e = none) : valE es (ksOf ds) k = none ∧ plc (ksOf ds) k = none ∧ plD ds e = none := by
  rw [lkD_pl] at h
  unfold valE
  rw [plc_eq he (ksOf_map ok.1)]
  cases ej : plD ds e with
  | none => exact ⟨rfl, rfl, rfl⟩
  | some j =>
    rw [ej] at h
    have := plD_lt ej
    simp only [List.getElem?_eq_getElem this] at h
    cases h
end
/-! ### k in d, d[k] -/
section
variable {X : Cx}
theorem room8 {A : Around} (hu : A.units + 64 < cLine) : A.in1.units + 8 < cLine := by
  show A.units + 1 + 8 < cLine
  omega
theorem ix_dict (hu : X.A.units + 64 < cLine) : IxR X (rIxD X.kx) := by
  intro value slice pins s σ H x y v u Q I rx ry ⟨G, ds, e, z, sg, hx, hy, hk, hz, q⟩ hs
  obtain ⟨p, es, ep, rfl, hd, ok, r⟩ := hx.dict sg
  cases rx
  obtain ⟨k, hn, hd8, ht⟩ := kFit_ok ok.1 hk
  have D := dk_of I hd sg ok r
  have hyn := Rp.nest I e y u k hn (hy.rp sg) ry
  obtain ⟨v0, u0, e1, rv, rp⟩ := valE_some ok r hn hz
  refine subscriptTail_builtinR (x := u0) (T := "dict") ⟨_, D.o, rfl⟩ slot_dict_getitem.lookup ?_ hs
  unfold getItem
  try with_reducible refine wpAny_holding ?_
  refine wpAny_bind (wpAny_sequenceKey (T := "dict") ⟨_, D.o, rfl⟩ (by decide) ?_)
  refine wpAny_bind (wpAny_callSpecial?_slot (name := Str.ofString "__getitem__") (T := "dict") ⟨_, D.o, rfl⟩ slot_dict_getitem
    (wpAny_call_entry slot_dict_getitem (T := "dict") ⟨_, D.o, rfl⟩ entry_dict_getitem ?_ (args_dict_getitem _ _)))
  show wpAny _ _ (dictGet p u >>= _) _ _ s
  refine wpAny_bind (get_D D hyn hd8 ht (room8 hu) ?_)
  rw [e1]
  exact wpAny_pure ⟨u0, rfl, wpAny_pure ⟨rfl, v0, H, I.tok _, rv, q v0 rp⟩⟩
theorem ix_all (hu : X.A.units + 64 < cLine) : IxR X (rIxA X.kx) := IxR.or ix_seq (ix_dict hu)
theorem op_inD (hu : X.A.units + 64 < cLine) : OpR X (compareOp .In) (rInD X.kx id) := by
  intro pins s σ H x y v u Q I rx ry ⟨d, ds, hx, hy, hk, q⟩
  cases hy with
  | @dict p es ep _ hd ok r =>
    cases ry
    obtain ⟨k, hn, hd8, ht⟩ := kFit_ok ok.1 hk
    have D := dk_of I hd (Same.refl _) ok r
    have hyn := Rp.nest I d x v k hn hx rx
    have eh : (valE es (ksOf ds) k).isSome = hasD ds d := by
      cases hl : lkD ds d with
      | some z =>
        obtain ⟨v0, u0, e1, _⟩ := valE_some ok r hn hl
        rw [e1]
        have := lkD_pl (ds := ds) (e := d)
        rw [hl] at this
        rw [hasD_pl]
        cases hp : plD ds d with
        | none => rw [hp] at this; cases this
        | some j => rfl
      | none =>
        obtain ⟨e1, _, e3⟩ := valE_none (es := es) ok hn hl
        rw [e1, hasD_pl, e3]
        rfl
    show wpAny _ _ (do return Value.bool (← contains (.ref p) v) : Sem Value) _ _ s
    refine wpAny_bind ?_
    unfold contains
    try with_reducible refine wpAny_holding ?_
    refine wpAny_bind (wpAny_specialOf (T := "dict") ⟨_, D.o, rfl⟩ slot_dict_contains.lookup ?_)
    show wpAny _ _ (if (some (Value.builtin "dict.__contains__") == some Value.none) = true then _ else _) _ _ s
    rw [if_neg (by rw [beq_builtin_none]; exact Bool.false_ne_true)]
    refine wpAny_bind (wpAny_callSpecialUnlessNone?_slot (name := Str.ofString "__contains__") (T := "dict") ⟨_, D.o, rfl⟩ slot_dict_contains
      (wpAny_call_entry slot_dict_contains (T := "dict") ⟨_, D.o, rfl⟩ entry_dict_contains ?_ (args_dict_contains _ _)))
    show wpAny _ _ (dictGet p v >>= _) _ _ s
    refine wpAny_bind (get_D D hyn hd8 ht (room8 hu) ?_)
    cases hf : valE es (ksOf ds) k with
    | some w =>
      rw [hf] at eh
      show wpAny _ _ (PySem.ret (.bool true)) _ _ _
      refine wpAny_pure ⟨_, rfl, wpAny_truthy_bool (wpAny_pure ⟨.bl true, H, I.tok _, rfl, ?_⟩)⟩
      have : hasD ds d = true := eh.symm
      rw [this] at q
      exact q
    | none =>
      rw [hf] at eh
      show wpAny _ _ (Builtin.Dict.pendingKey? p v >>= _) _ _ _
      refine wpAny_bind (wpAny_pendingKey_other (dO_get I hd).1 (wpAny_pure ⟨_, rfl, wpAny_truthy_bool (wpAny_pure ⟨.bl false, H, I.tok _, rfl, ?_⟩)⟩))
      have : hasD ds d = false := eh.symm
      rw [this] at q
      exact q
end
end Mi
/-! methods of data; changes of what is owned by methods; stores into a dict -/
namespace Mi
open PySem PySem.Spec PyProof.Rows L2
open PySem.Sem (wp)
/-! ### the call of a method of data -/
def chkT (Ts : List String) (d : PyData) : MM Unit := lft (if Ts.contains (typeD d) = true then some () else none)
def metM (Ts : List String) (f : PyData → List PyData → Option PyData) (mo : MM PyData) (mas : MM (List PyData)) : MM PyData := bnd mo fun d => bnd (chkT Ts d) fun _ => bnd mas fun ds => lft (f d ds)
/-- .. of a name, looked at behind the arguments -/
def metV (Ts : List String) (f : PyData → List PyData → Option PyData) (i : Nat) (mas : MM (List PyData)) : MM PyData := bnd (pkV i) fun d0 => bnd (chkT Ts d0) fun _ => bnd mas fun ds => bnd (pkV i) fun d => bnd (chkT [typeD d0] d) fun _ => lft (f d ds)
/-! ### count and index of data -/
end Mi
/-! what is owned is changed by methods: list.pop, list.remove, dict.setdefault, dict.pop; d[k] = v; d.get -/
namespace Mi
open PySem PySem.Spec PyProof.Rows L2
open PySem.Sem (wp)
theorem GrS.upd {G H : Hp} {p : Addr} {o o' : HO} (s : Same G H) (gp : G p = none) (hp : H p = some o) : GrS p G H G (upd H p o') := by
  refine ⟨Same.refl _, fun a u ne h => ?_, fun a u h => ?_, fun _ _ _ _ => rfl, fun a h => ?_⟩
  · rw [upd_ne ne]; exact h
  · rw [upd_ne (ne_of_none h gp)]; exact s _ _ h
  · by_cases q : a = p
    · subst q; rw [upd_same] at h; cases h
    · rw [upd_ne q] at h; exact h
def mutM (T : String) (f : PyData → List PyData → Option (PyData × PyData)) (i : Nat) (mas : MM (List PyData)) : MM PyData := bnd (pkO i) fun d0 => bnd (chkT [T] d0) fun _ => bnd mas fun ds g => match g[i]? with
  | some (.own t s) => (match f s ds with
    | some zs => .ok (zs.1, g.set i (.own t zs.2))
    | none => .error .stuck)
  | _ => .error .stuck
@[simp ↓] theorem ev_mutM {T : String} {f : PyData → List PyData → Option (PyData × PyData)} {i : Nat} {mas : MM (List PyData)} {g : Gm} {Q : PyData → Gm → Prop} {X : String → Gm → Prop} :
    ev (mutM T f i mas) g Q X ↔ (atO g i fun _ d => typeD d = T) ∧ ev mas g (fun ds g1 => atO g1 i fun t s => okO (f s ds) fun zs => Q zs.1 (g1.set i (.own t zs.2))) X := by
  unfold mutM
  rw [ev_bnd]
  have h1 : ∀ P : PyData → Gm → Prop, ev (pkO i) g P X ↔ atO g i fun _ d => P d g := by
    intro P
    unfold ev pkO okE atO
    generalize g[i]? = s
    rcases s with _ | (_ | d | ⟨t, d⟩) <;> simp
  rw [h1]
  unfold atO
  generalize g[i]? = s
  rcases s with _ | (_ | d | ⟨t, d⟩)
  · simp
  · simp
  · simp
  · simp only [ev_bnd, chkT, ev_lft]
    by_cases hT : typeD d = T
    · have hc : ([T].contains (typeD d)) = true := by simp [hT]
      rw [if_pos hc]
      simp only [okO_some, hT, true_and]
      unfold ev okE bnd
      generalize mas g = rr
      rcases rr with (_ | ⟨c, g'⟩) | ⟨ds, g'⟩
      · rfl
      · rfl
      · simp only
        generalize g'[i]? = s
        rcases s with _ | (_ | d | ⟨t, d⟩)
        · rfl
        · rfl
        · rfl
        · simp only
          generalize f d ds = o
          cases o <;> rfl
    · have hc : ¬ ([T].contains (typeD d)) = true := by simpa using hT
      rw [if_neg hc]
      simp [hT]
@[simp ↓] theorem ev_metM {Ts : List String} {f : PyData → List PyData → Option PyData} {mo : MM PyData} {mas : MM (List PyData)} {g : Gm} {Q : PyData → Gm → Prop} {X : String → Gm → Prop} :
    ev (metM Ts f mo mas) g Q X ↔ ev mo g (fun d g1 => Ts.contains (typeD d) = true ∧ ev mas g1 (fun ds g2 => okO (f d ds) fun z => Q z g2) X) X := by
  unfold metM chkT
  simp only [ev_bnd, ev_lft]
  refine iff_of_eq (congrArg (fun h => ev mo g h X) ?_)
  funext d g1
  by_cases h : Ts.contains (typeD d) = true
  · rw [if_pos h]; simp only [okO_some, h, true_and]
  · rw [if_neg h]; simp only [h, Bool.false_eq_true, false_and, okO_none]
@[simp ↓] theorem ev_metV {Ts : List String} {f : PyData → List PyData → Option PyData} {i : Nat} {mas : MM (List PyData)} {g : Gm} {Q : PyData → Gm → Prop} {X : String → Gm → Prop} :
    ev (metV Ts f i mas) g Q X ↔ ev (pkV i) g (fun d0 g1 => Ts.contains (typeD d0) = true ∧ ev mas g1 (fun ds g2 => ev (pkV i) g2 (fun d g3 => typeD d = typeD d0 ∧ okO (f d ds) fun z => Q z g3) X) X) X := by
  unfold metV chkT
  simp only [ev_bnd, ev_lft]
  refine iff_of_eq (congrArg (fun h => ev (pkV i) g h X) ?_)
  funext d0 g1
  by_cases h : Ts.contains (typeD d0) = true
  · rw [if_pos h]
    simp only [okO_some, h, true_and]
    refine congrArg (fun h => ev mas g1 h X) ?_
    funext ds g2
    refine congrArg (fun h => ev (pkV i) g2 h X) ?_
    funext d g3
    by_cases h2 : typeD d = typeD d0
    · simp [h2]
    · have : ¬ ([typeD d0].contains (typeD d)) = true := by simpa using h2
      rw [if_neg this]
      simp [h2]
  · rw [if_neg h]; simp only [h, Bool.false_eq_true, false_and, okO_none]
/-! ### list.pop(0), list.pop(), list.remove(x) -/
theorem Vals.erase : ∀ {xs : List V} {us : List Value} (j : Nat), Vals xs us → Vals (xs.eraseIdx j) (us.eraseIdx j)
  | _, _, _, .nil => .nil
  | _, _, 0, .cons _ t => t
  | _, _, j + 1, .cons a t => .cons a (Vals.erase j t)
theorem RpAll.erase {K : Frag} {H : Hp} : ∀ {xs : List V} {ds : List PyData} (j : Nat), RpAll K H xs ds → RpAll K H (xs.eraseIdx j) (ds.eraseIdx j)
  | _, _, _, .nil => .nil
  | _, _, 0, .cons _ t => t
  | _, _, j + 1, .cons a t => .cons a (RpAll.erase j t)
end Mi
/-! d[k] = v, d.get, d.setdefault, d.pop of dicts of data -/
namespace Mi
open PySem PySem.Spec PyProof.Rows L2
open PySem.Sem (wp)
section
variable {X : Cx} {pins : List (Addr × Obj)} {σ : L2.St} {H : Hp} {s : Shared} {A : Around}
theorem RpKV.size {K : Frag} {G : Hp} {es : Array DictEntry} {ds : List (PyData × PyData)} (r : RpKV K G es.toList ds) : es.size = ds.length := by
  simpa using r.len
end
/-- d[k] = v of an owned dict -/
def chkD (i : Nat) : MM Unit := fun g => match g[i]? with
  | some (.own _ (.dict _)) => .ok ((), g)
  | _ => .error .stuck
def stoK (i : Nat) (k m : MM PyData) : Gm → Out := fun g => onE (bnd m (fun d => bnd (chkD i) fun _ => bnd k fun j => ret (d, j)) g) fun dj g' => match g'[i]? with
  | some (.own t (.dict ds)) => if kFit ds dj.2 = true ∧ ds.length < sizeLine then .nx (g'.set i (.own t (.dict (putD ds dj.2 dj.1)))) else .stuck
  | _ => .stuck
@[simp ↓] theorem sv_stoK {i : Nat} {mk ma : MM PyData} {g : Gm} {PO : Out → Prop} : sv (stoK i mk ma) g PO ↔ ev ma g (fun d g1 => (atO g1 i fun _ s => typeD s = "dict") ∧ ev mk g1 (fun j g2 => atO g2 i fun t s => okO (match s with | .dict ds => some ds | _ => none) fun ds => (kFit ds j = true ∧ ds.length < sizeLine) ∧ PO (.nx (g2.set i (.own t (.dict (putD ds j d)))))) fun c g' => PO (.ex c g')) fun c g' => PO (.ex c g') := by
  unfold sv stoK
  rw [sv_onE, ev_bnd]
  refine iff_of_eq (congrArg (fun h => ev ma g h _) ?_)
  funext d g1
  rw [ev_bnd]
  have h : ∀ (P : Unit → Gm → Prop) (X : String → Gm → Prop), ev (chkD i) g1 P X ↔ (atO g1 i fun _ s => typeD s = "dict") ∧ P () g1 := by
    intro P X
    unfold ev chkD okE atO
    generalize g1[i]? = s
    rcases s with _ | (_ | d | ⟨t, d⟩)
    · simp
    · simp
    · simp
    · cases d <;> simp [typeD]
  rw [h, ev_bnd]
  refine propext (and_congr Iff.rfl ?_)
  refine iff_of_eq (congrArg (fun h => ev mk g1 h _) ?_)
  funext j g2
  simp only [ev_ret]
  unfold atO
  generalize g2[i]? = s
  rcases s with _ | (_ | e | ⟨t, e⟩)
  · simp
  · simp
  · simp
  · cases e with
    | dict ds =>
      by_cases hc : kFit ds j = true ∧ ds.length < sizeLine
      · simp only [okO_some]
        rw [if_pos hc]
        simp only [svO_nx, hc, and_self, true_and]
      · simp only [okO_some]
        rw [if_neg hc]
        simp only [svO_stuck, hc, false_and]
    | _ => simp
/-! ### d.get -/
end Mi
namespace Mi
open PySem PySem.Spec PyProof.Rows L2
open PySem.Sem (wp)
/-! ### setdefault, pop -/
/-! ### the rules for the printer: o.name(args) -/
section
variable {X : Cx} {W : WX} {o e e2 : Expr} {apos cpos : Pos} {mo m m2 : MM PyData} {i : Nat}
theorem op_in (hu : X.A.units + 65 < cLine) : OpR X (compareOp .In) (rInB X.kx id) := OpR.or (hr_in0 hu) (op_inD (by omega))
end
end Mi
/-! displays of dicts, comprehensions of dicts -/
namespace Mi
open PySem PySem.Spec PyProof.Rows L2
open PySem.Sem (wp)
theorem Po.via {α : Type} {K : Frag} {mg : Mg} {W : WX} {F : Frm} {σ : L2.St} {g : Gm} {G G0 H : Hp} {r : Except Er (α × Gm)} {k : α → Gm → Hp → Hp → Prop} (A : At K F σ g G0 H) (h : Po K mg W F σ G r k) : Po K mg W (snap F σ g G0 H) σ G r k := by
  rcases r with (_ | ⟨c, g'⟩) | ⟨a, g'⟩
  · exact h
  · exact fun C e G' H' B s => h C e G' H' (A.via B) s
  · exact fun G' H' B s => h G' H' (A.via B) s
/-- a dict made of pairs -/
def mkD : List (PyData × PyData) → List (PyData × PyData) → Option (List (PyData × PyData))
  | acc, [] => some acc
  | acc, (k, v) :: ps => if kFit acc k = true ∧ acc.length < sizeLine then mkD (putD acc k v) ps else none
inductive RpPs (K : Frag) (G : Hp) : List (V × V) → List (PyData × PyData) → Prop
  | nil : RpPs K G [] []
  | cons {y z : V} {e d : PyData} {ps : List (V × V)} {ds : List (PyData × PyData)} : Rp K G y e → Rp K G z d → RpPs K G ps ds → RpPs K G ((y, z) :: ps) ((e, d) :: ds)
theorem RpPs.up {K : Frag} {G G' : Hp} (s : Same G G') : ∀ {ps : List (V × V)} {ds : List (PyData × PyData)}, RpPs K G ps ds → RpPs K G' ps ds
  | _, _, .nil => .nil
  | _, _, .cons a b t => .cons (a.up s) (b.up s) (t.up s)
/-! pairs of data -/
def dspN : MM (List (PyData × PyData)) := ret []
def dspC (k v : MM PyData) (r : MM (List (PyData × PyData))) : MM (List (PyData × PyData)) := bnd k fun e => bnd v fun d => bnd r fun ps => ret ((e, d) :: ps)
def mkM (m : MM (List (PyData × PyData))) : MM (List (PyData × PyData)) := bnd m fun ps => lft (mkD [] ps)
section
variable {X : Cx} {W : WX} {pos spos p : Pos} {keys : List (Option Expr)} {values : List Expr} {m : MM (List (PyData × PyData))}
def dctM (m : MM (List (PyData × PyData))) : MM PyData := bnd m fun ds => ret (.dict ds)
/-- x = a new dict of one's own -/
def setK (i : Nat) (m : MM (List (PyData × PyData))) : Gm → Out := fun g => onE (m g) fun ds g' => .nx (g'.set i (.own false (.dict ds)))
end
@[simp ↓] theorem ev_dspN {g : Gm} {P : List (PyData × PyData) → Gm → Prop} {X : String → Gm → Prop} : ev dspN g P X ↔ P [] g := Iff.rfl
@[simp ↓] theorem ev_dspC {k v : MM PyData} {r : MM (List (PyData × PyData))} {g : Gm} {P : List (PyData × PyData) → Gm → Prop} {X : String → Gm → Prop} : ev (dspC k v r) g P X ↔ ev k g (fun e g1 => ev v g1 (fun d g2 => ev r g2 (fun ps g3 => P ((e, d) :: ps) g3) X) X) X := by simp [dspC]
@[simp ↓] theorem ev_mkM {m : MM (List (PyData × PyData))} {g : Gm} {P : List (PyData × PyData) → Gm → Prop} {X : String → Gm → Prop} : ev (mkM m) g P X ↔ ev m g (fun ps g1 => okO (mkD [] ps) fun ds => P ds g1) X := by simp [mkM]
@[simp ↓] theorem ev_dctM {m : MM (List (PyData × PyData))} {g : Gm} {P : PyData → Gm → Prop} {X : String → Gm → Prop} : ev (dctM m) g P X ↔ ev m g (fun ds g1 => P (.dict ds) g1) X := by simp [dctM]
@[simp ↓] theorem sv_setK {m : MM (List (PyData × PyData))} {g : Gm} {i : Nat} {PO : Out → Prop} : sv (setK i m) g PO ↔ ev m g (fun ds g' => PO (.nx (g'.set i (.own false (.dict ds))))) fun c g' => PO (.ex c g') := sv_onE
end Mi
/-! comprehensions of dicts of data -/
namespace Mi
open PySem PySem.Spec PyProof.Rows L2
open PySem.Sem (wp)
/-! ### what it computes -/
end Mi
namespace Mi
open PySem PySem.Spec PyProof.Rows L2
open PySem.Sem (wp)
section
variable {X : Cx}
theorem op_niD (hu : X.A.units + 64 < cLine) : OpR X (compareOp .NotIn) (rInD X.kx not) := by
  intro pins s σ H x y v u Q I rx ry ⟨d, ds, hx, hy, hk, q⟩
  cases hy with
  | @dict p es ep _ hd ok r =>
    cases ry
    obtain ⟨k, hn, hd8, ht⟩ := kFit_ok ok.1 hk
    have D := dk_of I hd (Same.refl _) ok r
    have hyn := Rp.nest I d x v k hn hx rx
    have eh : (valE es (ksOf ds) k).isSome = hasD ds d := by
      cases hl : lkD ds d with
      | some z =>
        obtain ⟨v0, u0, e1, _⟩ := valE_some ok r hn hl
        rw [e1]
        have := lkD_pl (ds := ds) (e := d)
        rw [hl] at this
        rw [hasD_pl]
        cases hp : plD ds d with
        | none => rw [hp] at this; cases this
        | some j => rfl
      | none =>
        obtain ⟨e1, _, e3⟩ := valE_none (es := es) ok hn hl
        rw [e1, hasD_pl, e3]
        rfl
    show wpAny _ _ (do return Value.bool (!(← contains (.ref p) v)) : Sem Value) _ _ s
    refine wpAny_bind ?_
    unfold contains
    try with_reducible refine wpAny_holding ?_
    refine wpAny_bind (wpAny_specialOf (T := "dict") ⟨_, D.o, rfl⟩ slot_dict_contains.lookup ?_)
    show wpAny _ _ (if (some (Value.builtin "dict.__contains__") == some Value.none) = true then _ else _) _ _ s
    rw [if_neg (by rw [beq_builtin_none]; exact Bool.false_ne_true)]
    refine wpAny_bind (wpAny_callSpecialUnlessNone?_slot (name := Str.ofString "__contains__") (T := "dict") ⟨_, D.o, rfl⟩ slot_dict_contains
      (wpAny_call_entry slot_dict_contains (T := "dict") ⟨_, D.o, rfl⟩ entry_dict_contains ?_ (args_dict_contains _ _)))
    show wpAny _ _ (dictGet p v >>= _) _ _ s
    refine wpAny_bind (get_D D hyn hd8 ht (room8 hu) ?_)
    cases hf : valE es (ksOf ds) k with
    | some w =>
      rw [hf] at eh
      show wpAny _ _ (PySem.ret (.bool true)) _ _ _
      refine wpAny_pure ⟨_, rfl, wpAny_truthy_bool (wpAny_pure ⟨.bl false, H, I.tok _, rfl, ?_⟩)⟩
      have : hasD ds d = true := eh.symm
      rw [this] at q
      exact q
    | none =>
      rw [hf] at eh
      show wpAny _ _ (Builtin.Dict.pendingKey? p v >>= _) _ _ _
      refine wpAny_bind (wpAny_pendingKey_other (dO_get I hd).1 (wpAny_pure ⟨_, rfl, wpAny_truthy_bool (wpAny_pure ⟨.bl true, H, I.tok _, rfl, ?_⟩)⟩))
      have : hasD ds d = false := eh.symm
      rw [this] at q
      exact q
theorem op_ni (hu : X.A.units + 65 < cLine) : OpR X (compareOp .NotIn) (rInB X.kx not) := OpR.or (hr_ni0 hu) (op_niD (by omega))
end
end Mi
/-! sorted of a list or tuple of whole numbers or of texts, or of a list of data that can be compared -/
namespace Mi
open PySem PySem.Spec PyProof.Rows L2
def rSortG (K : Frag) : List V → Hp → VK → Prop := fun vs H Q => Ti.rSortT K vs H Q ∨ Ts.rSortT K vs H Q ∨ rSortA K vs H Q
theorem cr_sortG {X : Cx} (hu : X.A.units + 64 < cLine) (hh : X.A.handled = none) : CallR X (.builtin "sorted") (rSortG X.kx) := CallR.or Ti.cr_sortT (CallR.or Ts.cr_sortT (cr_sortA hu hh))
def sortG (d : PyData) : Option PyData := match intsD d with
  | some xs => some (.list ((Ti.srt xs).map .int))
  | none => match txtD d with
    | some xs => some (.list ((Ts.srt xs).map .str))
    | none => sortAD d
theorem ho_sortG {K : Frag} : Op1 K (fun x => rSortG K [x]) sortG := by
  intro x d z G H Q h rx s k
  unfold sortG at h
  cases et : intsD d with
  | some xs =>
    refine .inl (ho_sortI x d z G H Q ?_ rx s k)
    unfold sortI
    rw [et]
    rw [et] at h
    exact h
  | none =>
    rw [et] at h
    simp only at h
    cases e2 : txtD d with
    | some xs =>
      rw [e2] at h
      cases h
      obtain ⟨l, rfl, ht⟩ := txtD_at e2 (rx.rp s) (fun _ _ e => e)
      refine .inr (.inl ⟨l, xs, rfl, ht, fun p hp => ?_⟩)
      have gr := Gr.new (o := .lst ((Ts.srt xs).map V.str)) s hp
      exact k _ _ _ gr (.lst upd_same (rpAll_strs _))
    | none =>
      rw [e2] at h
      exact .inr (.inr (ho_sortA x d z G H Q h rx s k))
theorem intsOf_strs : ∀ {xs : List Str} {ys : List Int}, intsOf (xs.map PyData.str) = some ys → xs = []
  | [], _, _ => rfl
  | x :: xs, ys, h => by
    unfold intsOf at h
    simp at h
theorem sortG_strs {d : PyData} {xs : List Str} (h : sqO d = some (xs.map .str)) : sortG d = some (.list ((Ts.srt xs).map .str)) := by
  unfold sortG intsD txtD
  rw [h]
  simp only
  cases e : intsOf (xs.map PyData.str) with
  | some ys =>
    have := intsOf_strs e
    subst this
    have : ys = [] := by
      have e' : intsOf [] = some ys := e
      unfold intsOf at e'
      cases e'
      rfl
    subst this
    have : Ts.srt [] = [] := List.length_eq_zero_iff.mp (Ts.srt_perm []).length_eq
    have h2 : Ti.srt [] = [] := List.length_eq_zero_iff.mp (Ti.srt_perm []).length_eq
    simp [this, h2]
  | none =>
    simp only [strsOf_map]
end Mi
/-! comprehensions over rows that are known: what they come to -/
namespace Mi
open PySem PySem.Spec PyProof.Rows L2
end Mi
/-! [.. for .. in x ..], x a list of one's own, which the body may look at -/
namespace Mi
open PySem PySem.Spec PyProof.Rows L2
def compKL (i : Nat) (vs : List Nat) (b : PyData → Gm → Option Gm) (tt : MM Bool) (te : MM PyData) : Nat → Nat → Gm → Except Er (List PyData × Gm)
  | 0, _, _ => .error .stuck
  | n + 1, j, g => match g[i]? with
    | some (.own _ (.list ds)) => (match ds[j]? with
      | none => .ok ([], g)
      | some d => match b d g with
        | none => .error .stuck
        | some g1 => match tt g1 with
          | .ok (true, g2) => (match te g2 with
            | .ok (z, g3) => (match compKL i vs b tt te n (j + 1) (wipeG g3 vs) with
              | .ok (zs, g4) => .ok (z :: zs, g4)
              | .error _ => .error .stuck)
            | .error _ => .error .stuck)
          | .ok (false, g2) => compKL i vs b tt te n (j + 1) (wipeG g2 vs)
          | .error _ => .error .stuck)
    | _ => .error .stuck
def compK (i : Nat) (vs : List Nat) (b : PyData → Gm → Option Gm) (tt : MM Bool) (te : MM PyData) : MM (List PyData) := fun g => match g[i]? with
  | some (.own _ (.list ds)) => if ds.length ≤ sizeLine then (match compKL i vs b tt te (ds.length + 1) 0 (wipeG g vs) with
    | .ok (zs, g') => .ok (zs, g')
    | .error _ => .error .stuck) else .error .stuck
  | _ => .error .stuck
/-! the evaluation -/
def okK (i : Nat) (vs : List Nat) (b : PyData → Gm → Option Gm) (tt : MM Bool) (te : MM PyData) (n j : Nat) (g : Gm) (Q : List PyData → Gm → Prop) : Prop := okC (compKL i vs b tt te n j g) Q
@[simp ↓] theorem ev_compK {i : Nat} {vs : List Nat} {b : PyData → Gm → Option Gm} {tt : MM Bool} {te : MM PyData} {g : Gm} {Q : List PyData → Gm → Prop} {X : String → Gm → Prop} : ev (compK i vs b tt te) g Q X ↔ atO g i fun _ s => okO (listOf s) fun ds => ds.length ≤ sizeLine ∧ okK i vs b tt te (ds.length + 1) 0 (wipeG g vs) Q := by
  unfold ev okE compK atO
  generalize g[i]? = s
  rcases s with _ | (_ | d | ⟨t, d⟩)
  · rfl
  · rfl
  · rfl
  · cases d with
    | list ds =>
      simp only [okO_listOf]
      by_cases h : ds.length ≤ sizeLine
      · simp only [if_pos h, h, true_and]
        unfold okK okC
        generalize compKL i vs b tt te (ds.length + 1) 0 (wipeG g vs) = r
        rcases r with _ | ⟨zs, g1⟩ <;> rfl
      · simp [h]
    | _ => rfl
end Mi
namespace Mi
open PySem PySem.Spec PyProof.Rows L2
end Mi
/-! calls where it is known that no repr is under way: the kit's rules for calls, turned so that they carry this along -/
namespace Mi
open PySem PySem.Spec PyProof.Rows L2
/-- room, and no repr is under way -/
structure RoomG (k : Nat) (A : Around) : Prop extends Room k A where
  gd : A.guards = some []
theorem RoomG.mono {j k : Nat} {A : Around} (r : RoomG k A) (h : j ≤ k) : RoomG j A := ⟨r.toRoom.mono h, r.gd⟩
theorem RoomG.deeper {k : Nat} {A : Around} (r : RoomG (k + 1) A) (env : Env) : RoomG k (A.deeper env) := ⟨r.toRoom.deeper env, r.gd⟩
end Mi
/-! dict(x), x a list or a tuple of pairs -/
namespace Mi
open PySem PySem.Spec PyProof.Rows L2
open PySem.Sem (wp)
def pairOf : PyData → Option (PyData × PyData)
  | .tuple [k, v] => some (k, v)
  | _ => none
def prsOf : List PyData → Option (List (PyData × PyData))
  | [] => some []
  | d :: ds => match pairOf d, prsOf ds with
    | some p, some ps => some (p :: ps)
    | _, _ => none
inductive RV (K : Frag) (G : Hp) : List (Value × Value) → List (PyData × PyData) → Prop
  | nil : RV K G [] []
  | cons {y z : V} {u w : Value} {e d : PyData} {ps : List (Value × Value)} {ds : List (PyData × PyData)} : RelV y u → RelV z w → Rp K G y e → Rp K G z d → RV K G ps ds → RV K G ((u, w) :: ps) ((e, d) :: ds)
theorem RV.len {K : Frag} {G : Hp} : ∀ {ps : List (Value × Value)} {ds : List (PyData × PyData)}, RV K G ps ds → ps.length = ds.length
  | _, _, .nil => rfl
  | _, _, .cons _ _ _ _ t => congrArg Nat.succ t.len
theorem RV.get {K : Frag} {G : Hp} : ∀ {ps : List (Value × Value)} {ds : List (PyData × PyData)} {i : Nat} {u w : Value}, RV K G ps ds → ps[i]? = some (u, w) → ∃ (y z : V) (e d : PyData), ds[i]? = some (e, d) ∧ RelV y u ∧ RelV z w ∧ Rp K G y e ∧ Rp K G z d
  | _, _, 0, _, _, .cons a b c d t, h => by cases h; exact ⟨_, _, _, _, rfl, a, b, c, d⟩
  | _, _, i + 1, _, _, .cons a b c d t, h => t.get h
end Mi
namespace Mi
open PySem PySem.Spec PyProof.Rows L2
open PySem.Sem (wp)
def dctOf : PyData → Option (List (PyData × PyData))
  | .list ds => (prsOf ds).bind (mkD [])
  | .tuple ds => (prsOf ds).bind (mkD [])
  | _ => none
end Mi
namespace Mi
open PySem PySem.Spec PyProof.Rows L2
def dctC (m : MM PyData) : MM (List (PyData × PyData)) := bnd m fun d => lft (dctOf d)
@[simp ↓] theorem ev_dctC {m : MM PyData} {g : Gm} {P : List (PyData × PyData) → Gm → Prop} {X : String → Gm → Prop} : ev (dctC m) g P X ↔ ev m g (fun d g1 => okO (dctOf d) fun ds => P ds g1) X := by simp [dctC]
end Mi
/-! len(set(..)), sorted(set(..)) of texts or of whole numbers, of any length, with few different ones -/
namespace Mi
open PySem PySem.Spec PyProof.Rows L2
section
variable {X : Cx} {W : WX} {e : Expr} {m : MM PyData} {p p2 q pos : Pos}
theorem PE.or {X : Cx} {e : Expr} {t1 t2 : TE} (h1 : PE X e t1) (h2 : PE X e t2) : PE X e (fun σ H Q => t1 σ H Q ∨ t2 σ H Q) := ⟨fun pins s σ H Q I h => h.elim (h1.run pins s σ H Q I) (h2.run pins s σ H Q I)⟩
end
/-! what they come to -/
end Mi
/-! x = [.. for ..], x a list of one's own that a block looks at -/
namespace Mi
open PySem PySem.Spec PyProof.Rows L2
end Mi
/-! repr of a tuple of data, where no repr is under way -/
namespace Mi
open PySem PySem.Spec PyProof.Rows L2
end Mi
/-! sorted(d.items()), keys that are no tuples -/
namespace Mi
open PySem PySem.Spec PyProof.Rows L2
def strB (p : PyData × PyData) : Bool := match p.1 with
  | .str _ => true
  | _ => false
end Mi
namespace Mi
open PySem PySem.Spec PyProof.Rows L2
/-! x, y = {}, {} -/
def set00 (i j : Nat) : Gm → Out := fun g => if i < g.length ∧ j < g.length then .nx ((g.set i (.own false (.dict []))).set j (.own false (.dict []))) else .stuck
theorem Nob.other {K : Frag} {F : Frm} {σ : L2.St} {g : Gm} {G H : Hp} {D b : Addr} {o : HO} (n : Nob F σ g G H D) (hb : H b = none) : Nob F σ g G (L2.upd H b o) D := by
  refine ⟨n.ng, n.nf, ?_, n.no⟩
  have : D ≠ b := fun e => n.nh (by rw [e]; exact hb)
  rw [L2.upd_ne this]
  exact n.nh
@[simp ↓] theorem sv_set00 {i j : Nat} {g : Gm} {PO : Out → Prop} : sv (set00 i j) g PO ↔ (i < g.length ∧ j < g.length) ∧ PO (.nx ((g.set i (.own false (.dict []))).set j (.own false (.dict [])))) := by
  unfold sv set00
  by_cases h : i < g.length ∧ j < g.length
  · rw [if_pos h]
    simp only [h, and_self, true_and]
    exact Iff.rfl
  · rw [if_neg h]
    simp only [h, false_and, iff_false]
    exact fun q => q
end Mi
/-! sets of tuples of data -/
namespace Tn
open PySem PySem.Spec PyProof.Rows L2 Mi
abbrev NE := Addr × NestedKey
structure El (h : Heap) (p : NE) : Prop where
  n : NestedIs h p.2 (.ref p.1)
  d : p.2.depth ≤ 8
def hsh (w : World) (p : NE) : Int := p.2.hash w
def rws (w : World) (L : List NE) : List (Int × Value) := L.map fun p => (hsh w p, Value.ref p.1)
/-! what is asked of an element -/
/-! the set -/
structure SN (w : World) (h : Heap) (a : Addr) (L : List NE) (es : Array (Int × Value)) (ep : Nat) (t : SetTable) : Prop where
  ob : ∃ o, h.get? a = some o ∧ o.ExactSet ∧ o.data = .set es ep t
  rows : es.toList = rws w L
  tab : TabOk t (L.map (hsh w))
  nd : (L.map (·.2)).Nodup
  el : ∀ p ∈ L, El h p
  led : w.params.followText "set-order" = true ∨ t.led = true
  room : L.length * 5 < t.mask * 3
  few : L.length < 64
section
variable {w : World} {h : Heap} {a : Addr} {L : List NE} {es : Array (Int × Value)} {ep : Nat} {t : SetTable}
theorem SN.size (R : SN w h a L es ep t) : es.size = L.length := by
  have q := congrArg List.length R.rows
  simpa [rws] using q
theorem SN.fits (R : SN w h a L es ep t) : t.fits es.size = true := by
  have h1 := R.tab.sz
  rw [List.length_map] at h1
  have h2 := R.size
  have h3 := R.room
  simp only [SetTable.fits, SetTable.fill, R.tab.dm, Bool.and_eq_true, beq_iff_eq, decide_eq_true_eq]
  refine ⟨by omega, ?_⟩
  show t.place.size + 0 ≤ t.mask
  omega
end
section
variable {P : Program} {w : World} {A : Around} {E : Value → Shared → Prop} {s : Shared} {a : Addr} {L : List NE} {es : Array (Int × Value)} {ep : Nat} {t : SetTable}
theorem El.same {h h' : Heap} {p : NE} {o : Obj} (e : El h p) (ho : h.get? a = some o) (hd : o.data = .set es ep t) (sb : Heap.SameBut a h h') : El h' p :=
  ⟨NestedIs.at (fun b ob vs m hb hc => (sb.2 b fun z => by
    subst z
    rw [ho] at hb
    cases hb
    rw [hd] at hc
    cases hc).trans hb) p.2 _ e.n, e.d⟩
end
end Tn
/-! set(x) of a list or tuple of tuples -/
namespace Tn
open PySem PySem.Spec PyProof.Rows L2 Mi
def keysOf (ks : List NE) : List NestedKey := ks.map (·.2)
structure Gt (ks : List NE) (i : Nat) (L : List NE) : Prop where
  sub : ∀ p ∈ L, p ∈ ks.take i
  all : ∀ p ∈ ks.take i, p.2 ∈ L.map (·.2)
theorem Gt.same {ks L : List NE} {i : Nat} {x : NE} (g : Gt ks i L) (h : ks[i]? = some x) (hm : x.2 ∈ L.map (·.2)) : Gt ks (i + 1) L := by
  have e : ks.take (i + 1) = ks.take i ++ [x] := by rw [List.take_succ, h]; rfl
  refine ⟨fun p hp => ?_, fun p hp => ?_⟩
  · rw [e]; exact List.mem_append_left _ (g.sub p hp)
  · rw [e] at hp
    rcases List.mem_append.mp hp with z | z
    · exact g.all p z
    · rw [List.mem_singleton.mp z]; exact hm
end Tn
/-! sorted(set(x)) and len(set(x)) of tuples of data -/
namespace Mi
open PySem PySem.Spec PyProof.Rows L2
end Mi
/-! texts by < -/
namespace Mi
open PySem PySem.Spec L2 PyProof.Rows
def ltS (a b : Str) : Bool := decide (a.cps.toList < b.cps.toList)
def ltT : PyData → PyData → Option PyData := fun d e => match d, e with | .str a, .str b => some (.bool (ltS a b)) | _, _ => none
@[simp ↓] theorem ltT_str {a b : Str} {P : PyData → Prop} : okO (ltT (.str a) (.str b)) P ↔ P (.bool (ltS a b)) := Iff.rfl
end Mi
/-! sum of a list or tuple of ints -/
namespace Mi
open PySem PySem.Spec L2 PyProof.Rows
def sumX : PyData → Option PyData
  | .list ds => (intsOf ds).map fun ns => .int ns.sum
  | .tuple ds => (intsOf ds).map fun ns => .int ns.sum
  | _ => none
section
variable {xs : List PyData} {P : PyData → Prop}
theorem okO_mapI {o : Option (List Int)} : okO (o.map fun ns => PyData.int ns.sum) P ↔ okO o fun ns => P (.int ns.sum) := by cases o <;> exact Iff.rfl
@[simp ↓] theorem sumX_lst : okO (sumX (.list xs)) P ↔ okO (intsOf xs) fun ns => P (.int ns.sum) := okO_mapI
@[simp ↓] theorem sumX_tup : okO (sumX (.tuple xs)) P ↔ okO (intsOf xs) fun ns => P (.int ns.sum) := okO_mapI
end
end Mi
/-! a number that the module names -/
namespace Mi
open PySem PySem.Spec L2 PyProof.Rows
end Mi
/-! a tuple that the module names -/
namespace Mi
open PySem PySem.Spec L2 PyProof.Rows
mutual
/-- a value of the known part of the heap that is data: numbers, and tuples of such -/
inductive CR (K : PySem.W.Frag) : Value → PyData → Prop
  | int (i : Int) (t : Tok) : CR K (.int i t) (.int i)
  | tup {a : Addr} {its : Array Value} {n : Nat} {sl : Array (Option Value)} {ds : List PyData} : K.lookup a = some ⟨.type "tuple", none, .seq its n, sl⟩ → its.size ≤ sizeLine → CRs K its.toList ds → CR K (.ref a) (.tuple ds)
inductive CRs (K : PySem.W.Frag) : List Value → List PyData → Prop
  | nil : CRs K [] []
  | cons {v : Value} {vs : List Value} {d : PyData} {ds : List PyData} : CR K v d → CRs K vs ds → CRs K (v :: vs) (d :: ds)
end
mutual
theorem CR.rp {K : Frag} {v : Value} {d : PyData} : CR K.toFrag v d → ∃ x : V, RelV x v ∧ ∀ H : Hp, Rp K H x d
  | .int i t => ⟨.int i, ⟨t, rfl⟩, fun _ => .int i⟩
  | .tup (a := a) (its := its) (n := n) h1 h2 h3 => by
    obtain ⟨xs, rv, r⟩ := CRs.rp h3
    exact ⟨.ref a, rfl, fun H => .tup (.inr ⟨_, its, n, h1, rfl, rfl, rfl, h2, rv⟩) (r H)⟩
theorem CRs.rp {K : Frag} {vs : List Value} {ds : List PyData} : CRs K.toFrag vs ds → ∃ xs : List V, Vals xs vs ∧ ∀ H : Hp, RpAll K H xs ds
  | .nil => ⟨[], .nil, fun _ => .nil⟩
  | .cons h t => by
    obtain ⟨x, r, q⟩ := CR.rp h
    obtain ⟨xs, rs, qs⟩ := CRs.rp t
    exact ⟨x :: xs, .cons r rs, fun H => .cons (q H) (qs H)⟩
end
end Mi
/-! for k, v in d.items() -/
namespace Mi
open PySem PySem.Spec PyProof.Rows L2
def itemD (ds : List (PyData × PyData)) : List PyData := ds.map fun p => .tuple [p.1, p.2]
def itemO : PyData → Option (List PyData)
  | .dict ds => some (itemD ds)
  | _ => none
/-- for .. in d.items() -/
def itmM (m : MM PyData) : MM (List PyData) := bnd m fun d => lft (itemO d)
@[simp ↓] theorem ev_itmM {m : MM PyData} {g : Gm} {P : List PyData → Gm → Prop} {X : String → Gm → Prop} : ev (itmM m) g P X ↔ ev m g (fun d g1 => okO (itemO d) fun ds => P ds g1) X := by simp [itmM]
end Mi
/-! sum(d.values()) -/
namespace Mi
open PySem PySem.Spec PyProof.Rows L2
section
variable {X : Cx} {pins : List (Addr × Obj)} {σ : L2.St} {G H : Hp} {s : Shared} {v a : Addr} {es : Array DictEntry} {ep : Nat} {ds : List (PyData × PyData)} {Q : VK}
def sumVD : PyData → Option PyData
  | .dict ds => (intsOf (ds.map (·.2))).map fun ns => .int ns.sum
  | _ => none
variable {W : WX} {e : Expr} {m : MM PyData} {apos cpos pos p : Pos}
end
@[simp ↓] theorem sumVD_dict {ds : List (PyData × PyData)} {P : PyData → Prop} : okO (sumVD (.dict ds)) P ↔ okO (intsOf (ds.map (·.2))) fun ns => P (.int ns.sum) := okO_mapI
end Mi
/-! dict(zip(x, y)), each a list or a tuple -/
namespace Zh
open PySem PySem.Spec PyProof.Rows L2 Z3 Z2
open Mi (tO)
theorem Src.obj {t : Bool} {h : Heap} {l : Addr} {xs : Array Value} (s : Src t h l xs) : ∃ o, h.get? l = some o := by
  cases t
  · obtain ⟨o, e, _⟩ := s; exact ⟨o, e⟩
  · obtain ⟨o, e, _⟩ := s; exact ⟨o, e⟩
end Zh
namespace Mi
open PySem PySem.Spec PyProof.Rows L2 Z3 Z2 Zh
open PySem.Sem (wp)
def dctZ (ma mb : MM PyData) : MM (List (PyData × PyData)) := bnd ma fun d => bnd mb fun e => lft (match sqO d, sqO e with
  | some ds, some es => mkD [] (ds.zip es)
  | _, _ => none)
@[simp ↓] theorem ev_dctZ {ma mb : MM PyData} {g : Gm} {P : List (PyData × PyData) → Gm → Prop} {X : String → Gm → Prop} : ev (dctZ ma mb) g P X ↔ ev ma g (fun d g1 => ev mb g1 (fun e g2 => okO (match sqO d, sqO e with
  | some ds, some es => mkD [] (ds.zip es)
  | _, _ => none) fun dd => P dd g2) X) X := by simp [dctZ]
end Mi
/-! a, b, c = x, y, z of plain local names -/
namespace Mi
open PySem PySem.Spec PyProof.Rows L2
def par3S (i j l : Nat) (a b c : MM PyData) : Gm → Out := fun g => onE (bnd a (fun d => bnd b fun e => bnd c fun f => ret (d, e, f)) g) fun p g' => .nx (((g'.set i (.dat p.1)).set j (.dat p.2.1)).set l (.dat p.2.2))
@[simp ↓] theorem sv_par3S {i j l : Nat} {ma mb mc : MM PyData} {g : Gm} {PO : Out → Prop} : sv (par3S i j l ma mb mc) g PO ↔ ev ma g (fun d g1 => ev mb g1 (fun e g2 => ev mc g2 (fun f g3 => PO (.nx (((g3.set i (.dat d)).set j (.dat e)).set l (.dat f)))) fun c g' => PO (.ex c g')) fun c g' => PO (.ex c g')) fun c g' => PO (.ex c g') := by
  unfold sv par3S
  rw [sv_onE]
  simp
end Mi
/-! NAME[i] where the module's NAME is a dict of texts by ints -/
namespace Mi
open PySem PySem.Spec PyProof.Rows L2
inductive CdE : List DictEntry → List (Int × Str) → Prop
  | nil : CdE [] []
  | cons {h i : Int} {z : Str} {t u : Tok} {es : List DictEntry} {ps : List (Int × Str)} : (∀ w : World, h = NestedKey.hash w (.num i)) → CdE es ps → CdE (⟨h, .int i t, .str z u⟩ :: es) ((i, z) :: ps)
def ksC (ps : List (Int × Str)) : List NestedKey := ps.map fun p => .num p.1
theorem CdE.keys {w : World} {h : Heap} : ∀ {es : List DictEntry} {ps : List (Int × Str)}, CdE es ps → KeysAt w h es (ksC ps)
  | _, _, .nil => .nil
  | _, _, .cons hh t => .cons (.int _ _) (hh w) t.keys
theorem CdE.val {i : Int} {q : Int × Str} : ∀ {es : List DictEntry} {ps : List (Int × Str)}, CdE es ps → ps.find? (fun p => decide (p.1 = i)) = some q → ∃ (j : Nat) (e : DictEntry) (u : Tok), plc (ksC ps) (.num i) = some j ∧ es[j]? = some e ∧ e.val = .str q.2 u
  | _, _, .nil, h => by cases h
  | _, _, .cons (i := k) (z := z) (u := u) (es := es) (ps := ps) hh t, h => by
    rw [List.find?_cons] at h
    unfold ksC plc
    rw [List.map_cons, List.findIdx?_cons]
    by_cases e : k = i
    · subst e
      rw [show decide (((k, z) : Int × Str).1 = k) = true from decide_eq_true rfl] at h
      cases h
      exact ⟨0, _, u, by simp, rfl, rfl⟩
    · rw [show decide (((k, z) : Int × Str).1 = i) = false from decide_eq_false e] at h
      obtain ⟨j, en, u', h1, h2, h3⟩ := CdE.val t h
      refine ⟨j + 1, en, u', ?_, h2, h3⟩
      have ne : ¬ (NestedKey.num k = NestedKey.num i) := fun q => e (by injection q)
      have h1 : (ps.map fun p => NestedKey.num p.1).findIdx? (fun x => decide (x = NestedKey.num i)) = some j := h1
      simp only [decide_eq_false ne, h1]
      rfl
end Mi
/-! repr of a list or tuple of data -/
namespace Mi
open PySem PySem.Spec PyProof.Rows L2
end Mi
namespace Pf
open PySem PySem.Spec PyProof.Rows L2 Mi
def top (i : Nat) : Stmt := PySem.Challenge.pw_netwhole_k45_siphons_with_marked_traps.main.body.getD i (.Pass ⟨0, 0, 0, 0⟩)
abbrev s_is_told : Stmt := top 5
abbrev s_places_of : Stmt := top 7
abbrev s_check_net : Stmt := top 8
abbrev s_are_places_of : Stmt := top 10
abbrev s_fills : Stmt := top 11
abbrev s_drains : Stmt := top 12
abbrev s_largest : Stmt := top 13
abbrev s_is_among : Stmt := top 15
abbrev s_least_siphons : Stmt := top 14
abbrev s_check_few : Stmt := top 16
abbrev s_guarded : Stmt := top 17
abbrev s_judge_guarded : Stmt := top 18
abbrev s__law_next : Stmt := top 20
abbrev s__law_same : Stmt := top 21
abbrev s__law_is : Stmt := top 22
abbrev s__law_are_texts : Stmt := top 23
abbrev s__law_changed : Stmt := top 24
abbrev s__law_ints : Stmt := top 25
abbrev s__law_exchanged : Stmt := top 26
abbrev s__law_cut : Stmt := top 27
abbrev s__law_turned_about : Stmt := top 28
abbrev s__law_odd : Stmt := top 29
abbrev s__law_are_pairs_in : Stmt := top 30
abbrev s__law_net : Stmt := top 31
abbrev s__law_places : Stmt := top 33
abbrev s__law_tokens : Stmt := top 32
abbrev s__law_is_siphon : Stmt := top 34
abbrev s__law_turned_net : Stmt := top 35
abbrev s__law_parts_of : Stmt := top 36
abbrev s__law_largest : Stmt := top 37
abbrev s__law_least : Stmt := top 38
abbrev s__law_accepts : Stmt := top 39
abbrev s_law : Stmt := top 40
structure Tp (K : PySem.W.Frag) (mg : Mg) : Type where
  d_is_told : Df K mg "is_told" s_is_told ["told", "word", "count"]
  d_places_of : Df K mg "places_of" s_places_of ["net", "tokens"]
  d_check_net : Df K mg "check_net" s_check_net ["net", "tokens"]
  d_are_places_of : Df K mg "are_places_of" s_are_places_of ["places", "names"]
  d_fills : Df K mg "fills" s_fills ["net", "names"]
  d_drains : Df K mg "drains" s_drains ["net", "names"]
  d_largest : Df K mg "largest" s_largest ["net", "names", "is_trap"]
  d_is_among : Df K mg "is_among" s_is_among ["one", "other"]
  d_least_siphons : Df K mg "least_siphons" s_least_siphons ["net"]
  d_check_few : Df K mg "check_few" s_check_few ["net"]
  d_guarded : Df K mg "guarded" s_guarded ["net", "start"]
  d_judge_guarded : Df K mg "judge_guarded" s_judge_guarded ["net", "start", "told"]
  d__law_next : Df K mg "_law_next" s__law_next ["state", "limit"]
  d__law_same : Df K mg "_law_same" s__law_same ["actual", "expected"]
  d__law_is : Df K mg "_law_is" s__law_is ["told", "word", "count"]
  d__law_are_texts : Df K mg "_law_are_texts" s__law_are_texts ["value"]
  d__law_changed : Df K mg "_law_changed" s__law_changed ["state", "value"]
  d__law_ints : Df K mg "_law_ints" s__law_ints ["value"]
  d__law_exchanged : Df K mg "_law_exchanged" s__law_exchanged ["value", "one", "other"]
  d__law_cut : Df K mg "_law_cut" s__law_cut ["state", "value"]
  d__law_turned_about : Df K mg "_law_turned_about" s__law_turned_about ["state", "told"]
  d__law_odd : Df K mg "_law_odd" s__law_odd ["state", "told"]
  d__law_are_pairs_in : Df K mg "_law_are_pairs_in" s__law_are_pairs_in ["value", "count"]
  d__law_net : Df K mg "_law_net" s__law_net ["state", "is_kept"]
  d__law_places : Df K mg "_law_places" s__law_places ["net", "tokens"]
  d__law_tokens : Df K mg "_law_tokens" s__law_tokens ["state", "net", "most"]
  d__law_is_siphon : Df K mg "_law_is_siphon" s__law_is_siphon ["net", "names"]
  d__law_turned_net : Df K mg "_law_turned_net" s__law_turned_net ["net"]
  d__law_parts_of : Df K mg "_law_parts_of" s__law_parts_of ["names"]
  d__law_largest : Df K mg "_law_largest" s__law_largest ["net", "names"]
  d__law_least : Df K mg "_law_least" s__law_least ["net"]
  d__law_accepts : Df K mg "_law_accepts" s__law_accepts ["net", "start", "told"]
  d_law : Df K mg "law" s_law ["script"]
  z_bool : mg "bool" = none
  z_int : mg "int" = none
  z_isinstance : mg "isinstance" = none
  z_len : mg "len" = none
  z_list : mg "list" = none
  z_range : mg "range" = none
  z_set : mg "set" = none
  z_sorted : mg "sorted" = none
  z_str : mg "str" = none
  z_tuple : mg "tuple" = none
  C_TooWide : Addr
  t_TooWide : ExT K mg "TooWide" C_TooWide
  x_TooWide : PySem.W.excIn K C_TooWide [.type "ValueError", .type "Exception", .type "BaseException", .type "object"] "ValueError.__new__" = true
  C_UnfitNet : Addr
  t_UnfitNet : ExT K mg "UnfitNet" C_UnfitNet
  x_UnfitNet : PySem.W.excIn K C_UnfitNet [.type "ValueError", .type "Exception", .type "BaseException", .type "object"] "ValueError.__new__" = true
variable {P : Program} {K : Frag} {mg : Mg} {base : Heap}
/-! is_told -/
theorem sc_is_told : FnScope ["told", "word", "count"] ["told", "word", "count"] (defScope s_is_told) := ⟨rfl, rfl, rfl, by decide +kernel, rfl, by decide +kernel, by decide +kernel⟩
def b_is_told : Gm → Out := (seqS (ifS (orT (notT (tru (isiM "tuple" (pkV 0)))) (tstM (op2 neD (op1 lenD (pkV 0)) (pkV 2)))) (retS (ret (.bool false))) nxS)
    (retS (andV (isiM "str" (op2V ixD 0 (ret (.int 0)))) (op2 eqD (op2V ixD 0 (ret (.int 0))) (pkV 1)))))
def m_is_told : List PyData → Except Er PyData := runP 3 3 b_is_told
theorem ok_is_told (T : Tp K mg) : FnOk P K.w K mg base (L2.CX P K.w) 1 T.d_is_told.f T.d_is_told.fd ["told", "word", "count"] (SpP K mg m_is_told) := fnP (k := 0) T.d_is_told.F sc_is_told (by decide) fun cdv A outer s H E hr => by
    have nd := sc_is_told.nd
    exact (mb_cons (ms_if (mt_w (mw_or (mt_not (mt_tru (MQ.of (me_isi "tuple" T.z_isinstance (pe_bltn (v := .ty "tuple") rfl T.z_tuple (by decide +kernel) rfl) (by decide +kernel) (mq_var (pv 0)))))) (mw_or1 (mt_cmp ho_ne (hr_ne hr.units) (me_B1 ho_len hr_len (by rfl) T.z_len PySem.boot_len (mq_var (pv 0))) (mq_var (pv 2)) (nomark _))))) (mb_one (ms_ret me_bl)) mb_nil)
    (mb_one (ms_ret (me_and (me_isi "str" T.z_isinstance (pe_bltn (v := .ty "str") rfl T.z_str (by decide +kernel) rfl) (by decide +kernel) (MQ.of (me_ixV ho_ix (ix_all hr.units) (pv 0) (MQ.of me_int) (fun _ _ => rfl)))) (me_one (me_cmp ho_eq (hr_eq hr.units) (me_ixV ho_ix (ix_all hr.units) (pv 0) (MQ.of me_int) (fun _ _ => rfl)) (mq_var (pv 1)) (nomark _)))))))
/-! places_of -/
theorem sc_places_of : FnScope ["net", "tokens", "found", "_", "needs", "gives"] ["net", "tokens"] (defScope s_places_of) := ⟨rfl, rfl, rfl, by decide +kernel, rfl, by decide +kernel, by decide +kernel⟩
def b_places_of : Gm → Out := (seqS (setLs 2 (rdV 1))
    (seqS (forS (seqI (rdV 0)) (bTup 3 (bCons (bName 3) (bCons (bName 4) (bCons (bName 5) bNil)))) (dropS (extM 2 (op2V addD 4 (pkV 5)))))
    (retS (op1 sortSetD (rdV 2)))))
def m_places_of : List PyData → Except Er PyData := runP 6 2 b_places_of
theorem ok_places_of (T : Tp K mg) : FnOk P K.w K mg base (L2.CX P K.w) 1 T.d_places_of.f T.d_places_of.fd ["net", "tokens"] (SpP K mg m_places_of) := fnP (k := 0) T.d_places_of.F sc_places_of (by decide) fun cdv A outer s H E hr => by
    have nd := sc_places_of.nd
    exact (mb_cons (ms_setLs (i := 2) T.z_list nd rfl (Or.inl rfl) (me_var (pv 1)))
    (mb_cons (ms_for (passes_of rfl) rfl (mi_seq (me_var (pv 0))) (mg_tup rfl (mgs_cons (mg_name (i := 3) nd rfl (Or.inl rfl)) (mgs_cons (mg_name (i := 4) nd rfl (Or.inl rfl)) (mgs_cons (mg_name (i := 5) nd rfl (Or.inl rfl)) mgs_nil)))) (mb_one (ms_expr (me_ext (pv 2) (me_opV ho_add hr_add (pv 4) (mq_var (pv 5))) (fun ho he => pe_bm PySem.F.plainAttrs_list PySem.F.slot_list_extend PySem.F.type_list_extend Ext.mt_ext ho (pa_cons he pa_nil))))))
    (mb_one (ms_ret (me_sortSet T.z_sorted T.z_set (me_var (pv 2)))))))
/-! check_net -/
theorem sc_check_net : FnScope ["net", "tokens", "names", "places", "name", "_"] ["net", "tokens"] (defScope s_check_net) := ⟨rfl, rfl, rfl, by decide +kernel, rfl, by decide +kernel, by decide +kernel⟩
def b_check_net : Gm → Out := (seqS (setS 2 (lstO (compM (seqI (rdV 0)) [4, 5, 5] (bTup 3 (bCons (bName 4) (bCons (bName 5) (bCons (bName 5) bNil)))) yesM (rdV 4))))
    (seqS (ifS (tstM (op2 ltD (op1 lenSetD (rdV 2)) (op1 lenD (pkV 2)))) (raiseS "UnfitNet") nxS)
    (seqS (setS 3 (callM m_places_of (consM (rdV 0) (consM (rdV 1) nilM))))
    (seqS (ifS (orT (tstM (op2 gtD (op1 lenD (pkV 3)) (ret (.int 10)))) (orT (tstM (op2 gtD (op1 lenD (pkV 0)) (ret (.int 12)))) (tstM (op2 gtD (op1 lenD (pkV 1)) (ret (.int 40)))))) (raiseS "TooWide") nxS)
    (retS (rdV 3))))))
def m_check_net : List PyData → Except Er PyData := runP 6 2 b_check_net
theorem ok_check_net (T : Tp K mg) : FnOk P K.w K mg base (L2.CX P K.w) 2 T.d_check_net.f T.d_check_net.fd ["net", "tokens"] (SpP K mg m_check_net) := fnP (k := 1) T.d_check_net.F sc_check_net (by decide) fun cdv A outer s H E hr => by
    have nd := sc_check_net.nd
    exact (mb_cons (ms_setLc ["net", "tokens", "names", "places", "name", "_"] (defScope s_check_net) [("name", 4), ("_", 5), ("_", 5)] (i := 2) rfl nd rfl rfl (sw_true rfl rfl rfl (by decide +kernel)) (mi_seq (me_var (pv 0))) (by decide +kernel) (fun _ _ _ _ _ => (mg_tup rfl (mgs_cons (mg_name (i := 4) nd rfl (by first | exact Or.inl rfl | exact Or.inr rfl)) (mgs_cons (mg_name (i := 5) nd rfl (by first | exact Or.inl rfl | exact Or.inr rfl)) (mgs_cons (mg_name (i := 5) nd rfl (by first | exact Or.inl rfl | exact Or.inr rfl)) mgs_nil))))) (fun _ _ _ _ _ => mts_nil) (fun _ _ _ _ _ => (me_var (pv 4))))
    (mb_cons (ms_if (mt_cmp ho_lt op_lt (me_lenSet T.z_len T.z_set (me_var (pv 2))) (MQ.of (me_B1 ho_len hr_len (by rfl) T.z_len PySem.boot_len (mq_var (pv 2)))) (nomark _)) (mb_one (ms_raise1 (c := "UnfitNet") rfl (takes_of rfl rfl rfl rfl) T.t_UnfitNet T.x_UnfitNet PySem.F.excBase_ValueError (by rfl) (by decide))) mb_nil)
    (mb_cons (ms_set (i := 3) nd rfl (Or.inl rfl) (me_call (ok_places_of T) (hr.mono (by decide)) T.d_places_of.g T.d_places_of.k T.d_places_of.b (takes_of rfl rfl rfl rfl) (ma_cons (me_var (pv 0)) (ma_cons (me_var (pv 1)) ma_nil))))
    (mb_cons (ms_if (mt_w (mw_or (mt_cmp ho_gt op_gt (me_B1 ho_len hr_len (by rfl) T.z_len PySem.boot_len (mq_var (pv 3))) (MQ.of me_int) (nomark _)) (mw_or (mt_cmp ho_gt op_gt (me_B1 ho_len hr_len (by rfl) T.z_len PySem.boot_len (mq_var (pv 0))) (MQ.of me_int) (nomark _)) (mw_or1 (mt_cmp ho_gt op_gt (me_B1 ho_len hr_len (by rfl) T.z_len PySem.boot_len (mq_var (pv 1))) (MQ.of me_int) (nomark _)))))) (mb_one (ms_raise1 (c := "TooWide") rfl (takes_of rfl rfl rfl rfl) T.t_TooWide T.x_TooWide PySem.F.excBase_ValueError (by rfl) (by decide))) mb_nil)
    (mb_one (ms_ret (me_var (pv 3))))))))
/-! are_places_of -/
theorem sc_are_places_of : FnScope ["places", "names", "name"] ["places", "names"] (defScope s_are_places_of) := ⟨rfl, rfl, rfl, by decide +kernel, rfl, by decide +kernel, by decide +kernel⟩
def b_are_places_of : Gm → Out := (seqS (ifS (orT (notT (tru (isiM "tuple" (pkV 1)))) (tstM (op2 (inD id) (ret (.bool false)) (lstO (compM (seqI (rdV 1)) [2] (bName 2) yesM (andV (isiM "str" (pkV 2)) (op2V (inD id) 2 (pkV 0)))))))) (retS (ret (.bool false))) nxS)
    (retS (op2 eqD (op1 listD (pkV 1)) (op1 sortSet2 (rdV 1)))))
def m_are_places_of : List PyData → Except Er PyData := runP 3 2 b_are_places_of
theorem ok_are_places_of (T : Tp K mg) : FnOk P K.w K mg base (L2.CX P K.w) 1 T.d_are_places_of.f T.d_are_places_of.fd ["places", "names"] (SpP K mg m_are_places_of) := fnP (k := 0) T.d_are_places_of.F sc_are_places_of (by decide) fun cdv A outer s H E hr => by
    have nd := sc_are_places_of.nd
    exact (mb_cons (ms_if (mt_w (mw_or (mt_not (mt_tru (MQ.of (me_isi "tuple" T.z_isinstance (pe_bltn (v := .ty "tuple") rfl T.z_tuple (by decide +kernel) rfl) (by decide +kernel) (mq_var (pv 1)))))) (mw_or1 (mt_cmp ho_in (op_in (u65 hr)) me_bl (MQ.of (me_lc ["places", "names", "name"] (defScope s_are_places_of) [("name", 2)] rfl nd (mi_seq (me_var (pv 1))) (by decide +kernel) (fun _ _ _ _ _ => (mg_name (i := 2) nd rfl (by first | exact Or.inl rfl | exact Or.inr rfl))) (fun _ _ _ _ _ => mts_nil) (fun _ _ _ _ _ => (me_and (me_isi "str" T.z_isinstance (pe_bltn (v := .ty "str") rfl T.z_str (by decide +kernel) rfl) (by decide +kernel) (mq_var (pv 2))) (me_one (me_cmpV ho_in (op_in (u65 hr)) (pv 2) (mq_var (pv 0)) (by with_unfolding_all rfl))))))) (by with_unfolding_all rfl))))) (mb_one (ms_ret me_bl)) mb_nil)
    (mb_one (ms_ret (me_cmp ho_eq (hr_eq hr.units) (me_T1 ho_list (cr_list hr.hd) (by rfl) T.z_list (by decide +kernel) (mq_var (pv 1))) (MQ.of (me_sortSet2 T.z_sorted T.z_set (me_var (pv 1)))) (nomark _)))))
/-! fills -/
theorem sc_fills : FnScope ["net", "names", "found", "step", "needs", "gives", "name"] ["net", "names"] (defScope s_fills) := ⟨rfl, rfl, rfl, by decide +kernel, rfl, by decide +kernel, by decide +kernel⟩
def b_fills : Gm → Out := (seqS (setL 2 nilM)
    (seqS (forS (seqI (rdV 0)) (bTup 3 (bCons (bName 3) (bCons (bName 4) (bCons (bName 5) bNil)))) (ifS (andT (tstM (op2 (inD id) (ret (.bool true)) (lstO (compM (seqI (rdV 1)) [6] (bName 6) yesM (op2V (inD id) 6 (pkV 5)))))) (tstM (op2 (inD not) (ret (.bool true)) (lstO (compM (seqI (rdV 1)) [6] (bName 6) yesM (op2V (inD id) 6 (pkV 4))))))) (dropS (appM 2 (rdV 3))) nxS))
    (retS (rdV 2))))
def m_fills : List PyData → Except Er PyData := runP 7 2 b_fills
theorem ok_fills (T : Tp K mg) : FnOk P K.w K mg base (L2.CX P K.w) 1 T.d_fills.f T.d_fills.fd ["net", "names"] (SpP K mg m_fills) := fnP (k := 0) T.d_fills.F sc_fills (by decide) fun cdv A outer s H E hr => by
    have nd := sc_fills.nd
    exact (mb_cons (ms_setL (i := 2) nd rfl (Or.inl rfl) ma_nil)
    (mb_cons (ms_for (passes_of rfl) rfl (mi_seq (me_var (pv 0))) (mg_tup rfl (mgs_cons (mg_name (i := 3) nd rfl (Or.inl rfl)) (mgs_cons (mg_name (i := 4) nd rfl (Or.inr rfl)) (mgs_cons (mg_name (i := 5) nd rfl (Or.inr rfl)) mgs_nil)))) (mb_one (ms_if (mt_w (mw_and (mt_cmp ho_in (op_in (u65 hr)) me_bl (MQ.of (me_lc ["net", "names", "found", "step", "needs", "gives", "name"] (defScope s_fills) [("name", 6)] rfl nd (mi_seq (me_var (pv 1))) (by decide +kernel) (fun _ _ _ _ _ => (mg_name (i := 6) nd rfl (by first | exact Or.inl rfl | exact Or.inr rfl))) (fun _ _ _ _ _ => mts_nil) (fun _ _ _ _ _ => (me_cmpV ho_in (op_in (u65 hr)) (pv 6) (mq_var (pv 5)) (by with_unfolding_all rfl))))) (by with_unfolding_all rfl)) (mw_and1 (mt_cmp ho_in (op_ni (u65 hr)) me_bl (MQ.of (me_lc ["net", "names", "found", "step", "needs", "gives", "name"] (defScope s_fills) [("name", 6)] rfl nd (mi_seq (me_var (pv 1))) (by decide +kernel) (fun _ _ _ _ _ => (mg_name (i := 6) nd rfl (by first | exact Or.inl rfl | exact Or.inr rfl))) (fun _ _ _ _ _ => mts_nil) (fun _ _ _ _ _ => (me_cmpV ho_in (op_in (u65 hr)) (pv 6) (mq_var (pv 4)) (by with_unfolding_all rfl))))) (by with_unfolding_all rfl))))) (mb_one (ms_expr (me_app (pv 2) (me_var (pv 3)) (fun ho he => pe_bm PySem.F.plainAttrs_list PySem.F.slot_list_append PySem.F.type_list_append mt_append ho (pa_cons he pa_nil))))) mb_nil)))
    (mb_one (ms_ret (me_var (pv 2))))))
/-! drains -/
theorem sc_drains : FnScope ["net", "names", "step", "needs", "gives"] ["net", "names"] (defScope s_drains) := ⟨rfl, rfl, rfl, by decide +kernel, rfl, by decide +kernel, by decide +kernel⟩
def b_drains : Gm → Out := (retS (callM m_fills (consM (lstO (compM (seqI (rdV 0)) [2, 3, 4] (bTup 3 (bCons (bName 2) (bCons (bName 3) (bCons (bName 4) bNil)))) yesM (tupM (consM (rdV 2) (consM (rdV 4) (consM (rdV 3) nilM)))))) (consM (rdV 1) nilM))))
def m_drains : List PyData → Except Er PyData := runP 5 2 b_drains
theorem ok_drains (T : Tp K mg) : FnOk P K.w K mg base (L2.CX P K.w) 2 T.d_drains.f T.d_drains.fd ["net", "names"] (SpP K mg m_drains) := fnP (k := 1) T.d_drains.F sc_drains (by decide) fun cdv A outer s H E hr => by
    have nd := sc_drains.nd
    exact (mb_one (ms_ret (me_call (ok_fills T) (hr.mono (by decide)) T.d_fills.g T.d_fills.k T.d_fills.b (takes_of rfl rfl rfl rfl) (ma_cons (me_lc ["net", "names", "step", "needs", "gives"] (defScope s_drains) [("step", 2), ("needs", 3), ("gives", 4)] rfl nd (mi_seq (me_var (pv 0))) (by decide +kernel) (fun _ _ _ _ _ => (mg_tup rfl (mgs_cons (mg_name (i := 2) nd rfl (by first | exact Or.inl rfl | exact Or.inr rfl)) (mgs_cons (mg_name (i := 3) nd rfl (by first | exact Or.inl rfl | exact Or.inr rfl)) (mgs_cons (mg_name (i := 4) nd rfl (by first | exact Or.inl rfl | exact Or.inr rfl)) mgs_nil))))) (fun _ _ _ _ _ => mts_nil) (fun _ _ _ _ _ => (me_tup (ma_cons (me_var (pv 2)) (ma_cons (me_var (pv 4)) (ma_cons (me_var (pv 3)) ma_nil)))))) (ma_cons (me_var (pv 1)) ma_nil)))))
/-! largest -/
theorem sc_largest : FnScope ["net", "names", "is_trap", "turned", "left", "changed", "_", "needs", "gives", "kept", "step", "name"] ["net", "names", "is_trap"] (defScope s_largest) := ⟨rfl, rfl, rfl, by decide +kernel, rfl, by decide +kernel, by decide +kernel⟩
def b_largest : Gm → Out := (seqS (setS 3 (ifM (tru (pkV 2)) (lstO (compM (seqI (rdV 0)) [10, 7, 8] (bTup 3 (bCons (bName 10) (bCons (bName 7) (bCons (bName 8) bNil)))) yesM (tupM (consM (rdV 10) (consM (rdV 8) (consM (rdV 7) nilM)))))) (rdV 0)))
    (seqS (setS 4 (op1 sortSetD (rdV 1)))
    (seqS (setS 5 (ret (.bool true)))
    (seqS (whileL (tru (pkV 5)) (seqS (setS 5 (ret (.bool false)))
    (forS (seqI (rdV 3)) (bTup 3 (bCons (bName 6) (bCons (bName 7) (bCons (bName 8) bNil)))) (ifS (tstM (op2 (inD not) (ret (.bool true)) (lstO (compM (seqI (rdV 4)) [11] (bName 11) yesM (op2V (inD id) 11 (pkV 7)))))) (seqS (setS 9 (lstO (compM (seqI (rdV 4)) [11] (bName 11) (tstM (op2V (inD not) 11 (pkV 8))) (rdV 11))))
    (ifS (tstM (op2 ltD (op1 lenD (pkV 9)) (op1 lenD (pkV 4)))) (parS 4 5 (rdV 9) (ret (.bool true))) nxS)) nxS))) 1000)
    (retS (op1 tup2D (pkV 4)))))))
def m_largest : List PyData → Except Er PyData := runP 12 3 b_largest
theorem ok_largest (T : Tp K mg) : FnOk P K.w K mg base (L2.CX P K.w) 1 T.d_largest.f T.d_largest.fd ["net", "names", "is_trap"] (SpP K mg m_largest) := fnP (k := 0) T.d_largest.F sc_largest (by decide) fun cdv A outer s H E hr => by
    have nd := sc_largest.nd
    exact (mb_cons (ms_set (i := 3) nd rfl (Or.inl rfl) (me_ifE (mt_tru (mq_var (pv 2))) (me_lc ["net", "names", "is_trap", "turned", "left", "changed", "_", "needs", "gives", "kept", "step", "name"] (defScope s_largest) [("step", 10), ("needs", 7), ("gives", 8)] rfl nd (mi_seq (me_var (pv 0))) (by decide +kernel) (fun _ _ _ _ _ => (mg_tup rfl (mgs_cons (mg_name (i := 10) nd rfl (by first | exact Or.inl rfl | exact Or.inr rfl)) (mgs_cons (mg_name (i := 7) nd rfl (by first | exact Or.inl rfl | exact Or.inr rfl)) (mgs_cons (mg_name (i := 8) nd rfl (by first | exact Or.inl rfl | exact Or.inr rfl)) mgs_nil))))) (fun _ _ _ _ _ => mts_nil) (fun _ _ _ _ _ => (me_tup (ma_cons (me_var (pv 10)) (ma_cons (me_var (pv 8)) (ma_cons (me_var (pv 7)) ma_nil)))))) (me_var (pv 0))))
    (mb_cons (ms_set (i := 4) nd rfl (Or.inl rfl) (me_sortSet T.z_sorted T.z_set (me_var (pv 1))))
    (mb_cons (ms_set (i := 5) nd rfl (Or.inl rfl) me_bl)
    (mb_cons (ms_while 1000 (passes_of rfl) (mt_tru (mq_var (pv 5))) (mb_cons (ms_set (i := 5) nd rfl (Or.inl rfl) me_bl)
    (mb_one (ms_for (passes_of rfl) rfl (mi_seq (me_var (pv 3))) (mg_tup rfl (mgs_cons (mg_name (i := 6) nd rfl (Or.inl rfl)) (mgs_cons (mg_name (i := 7) nd rfl (Or.inr rfl)) (mgs_cons (mg_name (i := 8) nd rfl (Or.inr rfl)) mgs_nil)))) (mb_one (ms_if (mt_cmp ho_in (op_ni (u65 hr)) me_bl (MQ.of (me_lc ["net", "names", "is_trap", "turned", "left", "changed", "_", "needs", "gives", "kept", "step", "name"] (defScope s_largest) [("name", 11)] rfl nd (mi_seq (me_var (pv 4))) (by decide +kernel) (fun _ _ _ _ _ => (mg_name (i := 11) nd rfl (by first | exact Or.inl rfl | exact Or.inr rfl))) (fun _ _ _ _ _ => mts_nil) (fun _ _ _ _ _ => (me_cmpV ho_in (op_in (u65 hr)) (pv 11) (mq_var (pv 7)) (by with_unfolding_all rfl))))) (by with_unfolding_all rfl)) (mb_cons (ms_setLc ["net", "names", "is_trap", "turned", "left", "changed", "_", "needs", "gives", "kept", "step", "name"] (defScope s_largest) [("name", 11)] (i := 9) rfl nd rfl rfl (sw_true rfl rfl rfl (by decide +kernel)) (mi_seq (me_var (pv 4))) (by decide +kernel) (fun _ _ _ _ _ => (mg_name (i := 11) nd rfl (by first | exact Or.inl rfl | exact Or.inr rfl))) (fun _ _ _ _ _ => (mts_one (mt_cmpV ho_in (op_ni (u65 hr)) (pv 11) (mq_var (pv 8)) (by with_unfolding_all rfl)))) (fun _ _ _ _ _ => (me_var (pv 11))))
    (mb_one (ms_if (mt_cmp ho_lt op_lt (me_B1 ho_len hr_len (by rfl) T.z_len PySem.boot_len (mq_var (pv 9))) (MQ.of (me_B1 ho_len hr_len (by rfl) T.z_len PySem.boot_len (mq_var (pv 4)))) (nomark _)) (mb_one (ms_par (i := 4) (j := 5) rfl nd rfl rfl (by decide) rfl rfl (me_var (pv 9)) me_bl (by rfl))) mb_nil))) mb_nil))))))
    (mb_one (ms_ret (me_T1 ho_tup2 (hr_tup2 hr.hd) (by rfl) T.z_tuple (by decide +kernel) (mq_var (pv 4)))))))))
/-! is_among -/
theorem sc_is_among : FnScope ["one", "other", "name"] ["one", "other"] (defScope s_is_among) := ⟨rfl, rfl, rfl, by decide +kernel, rfl, by decide +kernel, by decide +kernel⟩
def b_is_among : Gm → Out := (retS (op2 (inD not) (ret (.bool false)) (lstO (compM (seqI (rdV 0)) [2] (bName 2) yesM (op2V (inD id) 2 (pkV 1))))))
def m_is_among : List PyData → Except Er PyData := runP 3 2 b_is_among
theorem ok_is_among (T : Tp K mg) : FnOk P K.w K mg base (L2.CX P K.w) 1 T.d_is_among.f T.d_is_among.fd ["one", "other"] (SpP K mg m_is_among) := fnP (k := 0) T.d_is_among.F sc_is_among (by decide) fun cdv A outer s H E hr => by
    have nd := sc_is_among.nd
    exact (mb_one (ms_ret (me_cmp ho_in (op_ni (u65 hr)) me_bl (MQ.of (me_lc ["one", "other", "name"] (defScope s_is_among) [("name", 2)] rfl nd (mi_seq (me_var (pv 0))) (by decide +kernel) (fun _ _ _ _ _ => (mg_name (i := 2) nd rfl (by first | exact Or.inl rfl | exact Or.inr rfl))) (fun _ _ _ _ _ => mts_nil) (fun _ _ _ _ _ => (me_cmpV ho_in (op_in (u65 hr)) (pv 2) (mq_var (pv 1)) (by with_unfolding_all rfl))))) (by with_unfolding_all rfl))))
/-! least_siphons -/
theorem sc_least_siphons : FnScope ["net", "places", "found", "rows", "place", "_", "row", "other"] ["net"] (defScope s_least_siphons) := ⟨rfl, rfl, rfl, by decide +kernel, rfl, by decide +kernel, by decide +kernel⟩
def b_least_siphons : Gm → Out := (seqS (setS 1 (callM m_places_of (consM (rdV 0) (consM (tupM nilM) nilM))))
    (seqS (setL 2 nilM)
    (seqS (setS 3 (lstM (consM (tupM nilM) nilM)))
    (seqS (forS (seqI (rdV 1)) (bName 4) (setS 3 (op2V addD 3 (lstO (compM (seqI (rdV 3)) [6] (bName 6) yesM (op2V addD 6 (tupM (consM (rdV 4) nilM))))))))
    (seqS (forS (seqI (op1 sortAD (lstO (compM (seqI (rdV 3)) [6] (bName 6) yesM (tupM (consM (op1 lenD (pkV 6)) (consM (rdV 6) nilM))))))) (bTup 2 (bCons (bName 5) (bCons (bName 6) bNil))) (ifS (andT (tru (pkV 6)) (andT (notT (tru (callM m_fills (consM (rdV 0) (consM (rdV 6) nilM))))) (tstM (op2 (inD not) (ret (.bool true)) (lstO (compP 2 [7] (bName 7) yesM (callM m_is_among (consM (rdV 7) (consM (rdV 6) nilM))))))))) (dropS (appM 2 (rdV 6))) nxS))
    (retS (op1 tup2D (op1 sortAD (pkV 2)))))))))
def m_least_siphons : List PyData → Except Er PyData := runP 8 1 b_least_siphons
theorem ok_least_siphons (T : Tp K mg) : FnOk P K.w K mg base (L2.CX P K.w) 2 T.d_least_siphons.f T.d_least_siphons.fd ["net"] (SpP K mg m_least_siphons) := fnP (k := 1) T.d_least_siphons.F sc_least_siphons (by decide) fun cdv A outer s H E hr => by
    have nd := sc_least_siphons.nd
    exact (mb_cons (ms_set (i := 1) nd rfl (Or.inl rfl) (me_call (ok_places_of T) (hr.mono (by decide)) T.d_places_of.g T.d_places_of.k T.d_places_of.b (takes_of rfl rfl rfl rfl) (ma_cons (me_var (pv 0)) (ma_cons (me_tup ma_nil) ma_nil))))
    (mb_cons (ms_setL (i := 2) nd rfl (Or.inl rfl) ma_nil)
    (mb_cons (ms_set (i := 3) nd rfl (Or.inl rfl) (me_lst (ma_cons (me_tup ma_nil) ma_nil)))
    (mb_cons (ms_for (passes_of rfl) rfl (mi_seq (me_var (pv 1))) (mg_name (i := 4) nd rfl (Or.inr rfl)) (mb_one (ms_set (i := 3) nd rfl (Or.inl rfl) (me_opV ho_add hr_add (pv 3) (MQ.of (me_lc ["net", "places", "found", "rows", "place", "_", "row", "other"] (defScope s_least_siphons) [("row", 6)] rfl nd (mi_seq (me_var (pv 3))) (by decide +kernel) (fun _ _ _ _ _ => (mg_name (i := 6) nd rfl (by first | exact Or.inl rfl | exact Or.inr rfl))) (fun _ _ _ _ _ => mts_nil) (fun _ _ _ _ _ => (me_opV ho_add hr_add (pv 6) (MQ.of (me_tup (ma_cons (me_var (pv 4)) ma_nil)))))))))))
    (mb_cons (ms_for (passes_of rfl) rfl (mi_seq (me_B1 ho_sortA (cr_sortA hr.units hr.hd) (by rfl) T.z_sorted PyProof.Rows.boot_sorted (MQ.of (me_lc ["net", "places", "found", "rows", "place", "_", "row", "other"] (defScope s_least_siphons) [("row", 6)] rfl nd (mi_seq (me_var (pv 3))) (by decide +kernel) (fun _ _ _ _ _ => (mg_name (i := 6) nd rfl (by first | exact Or.inl rfl | exact Or.inr rfl))) (fun _ _ _ _ _ => mts_nil) (fun _ _ _ _ _ => (me_tup (ma_cons (me_B1 ho_len hr_len (by rfl) T.z_len PySem.boot_len (mq_var (pv 6))) (ma_cons (me_var (pv 6)) ma_nil)))))))) (mg_tup rfl (mgs_cons (mg_name (i := 5) nd rfl (Or.inl rfl)) (mgs_cons (mg_name (i := 6) nd rfl (Or.inr rfl)) mgs_nil))) (mb_one (ms_if (mt_w (mw_and (mt_tru (mq_var (pv 6))) (mw_and (mt_not (mt_tru (MQ.of (me_call (ok_fills T) (hr.mono (by decide)) T.d_fills.g T.d_fills.k T.d_fills.b (takes_of rfl rfl rfl rfl) (ma_cons (me_var (pv 0)) (ma_cons (me_var (pv 6)) ma_nil)))))) (mw_and1 (mt_cmp ho_in (op_ni (u65 hr)) me_bl (MQ.of (me_lcP ["net", "places", "found", "rows", "place", "_", "row", "other"] (defScope s_least_siphons) [("other", 7)] rfl nd (pv 2) (by decide +kernel) (fun _ _ _ _ _ => (mg_name (i := 7) nd rfl (by first | exact Or.inl rfl | exact Or.inr rfl))) (fun _ _ _ _ _ => mts_nil) (fun _ _ _ _ _ => (me_call (ok_is_among T) (hr.mono (by decide)) T.d_is_among.g T.d_is_among.k T.d_is_among.b takes0 (ma_cons (me_var (pv 7)) (ma_cons (me_var (pv 6)) ma_nil)))))) (by with_unfolding_all rfl)))))) (mb_one (ms_expr (me_app (pv 2) (me_var (pv 6)) (fun ho he => pe_bm PySem.F.plainAttrs_list PySem.F.slot_list_append PySem.F.type_list_append mt_append ho (pa_cons he pa_nil))))) mb_nil)))
    (mb_one (ms_ret (me_T1 ho_tup2 (hr_tup2 hr.hd) (by rfl) T.z_tuple (by decide +kernel) (MQ.of (me_B1 ho_sortA (cr_sortA hr.units hr.hd) (by rfl) T.z_sorted PyProof.Rows.boot_sorted (mq_var (pv 2))))))))))))
/-! check_few -/
theorem sc_check_few : FnScope ["net"] ["net"] (defScope s_check_few) := ⟨rfl, rfl, rfl, by decide +kernel, rfl, by decide +kernel, by decide +kernel⟩
def b_check_few : Gm → Out := (seqS (dropS (callM m_check_net (consM (rdV 0) (consM (tupM nilM) nilM))))
    (ifS (tstM (op2 gtD (op1 lenD (callM m_places_of (consM (rdV 0) (consM (tupM nilM) nilM)))) (ret (.int 8)))) (raiseS "TooWide") nxS))
def m_check_few : List PyData → Except Er PyData := runP 1 1 b_check_few
theorem ok_check_few (T : Tp K mg) : FnOk P K.w K mg base (L2.CX P K.w) 3 T.d_check_few.f T.d_check_few.fd ["net"] (SpP K mg m_check_few) := fnP (k := 2) T.d_check_few.F sc_check_few (by decide) fun cdv A outer s H E hr => by
    have nd := sc_check_few.nd
    exact (mb_cons (ms_expr (me_call (ok_check_net T) (hr.mono (by decide)) T.d_check_net.g T.d_check_net.k T.d_check_net.b (takes_of rfl rfl rfl rfl) (ma_cons (me_var (pv 0)) (ma_cons (me_tup ma_nil) ma_nil))))
    (mb_one (ms_if (mt_cmp ho_gt op_gt (me_B1 ho_len hr_len (by rfl) T.z_len PySem.boot_len (MQ.of (me_call (ok_places_of T) (hr.mono (by decide)) T.d_places_of.g T.d_places_of.k T.d_places_of.b (takes_of rfl rfl rfl rfl) (ma_cons (me_var (pv 0)) (ma_cons (me_tup ma_nil) ma_nil))))) (MQ.of me_int) (nomark _)) (mb_one (ms_raise1 (c := "TooWide") rfl (takes_of rfl rfl rfl rfl) T.t_TooWide T.x_TooWide PySem.F.excBase_ValueError (by rfl) (by decide))) mb_nil)))
/-! guarded -/
theorem sc_guarded : FnScope ["net", "start", "entries", "row", "inner", "name"] ["net", "start"] (defScope s_guarded) := ⟨rfl, rfl, rfl, by decide +kernel, rfl, by decide +kernel, by decide +kernel⟩
def b_guarded : Gm → Out := (seqS (dropS (callM m_check_few (consM (rdV 0) nilM)))
    (seqS (setL 2 nilM)
    (seqS (forS (seqI (callM m_least_siphons (consM (rdV 0) nilM))) (bName 3) (seqS (setS 4 (callM m_largest (consM (rdV 0) (consM (rdV 3) (consM (ret (.bool true)) nilM)))))
    (seqS (ifS (tstM (op2 (inD not) (ret (.bool true)) (lstO (compM (seqI (rdV 1)) [5] (bName 5) yesM (op2V (inD id) 5 (pkV 4)))))) (retS (tupM (consM (ret (.str "fails")) (consM (rdV 3) nilM)))) nxS)
    (dropS (appM 2 (tupM (consM (rdV 3) (consM (rdV 4) nilM))))))))
    (retS (tupM (consM (ret (.str "holds")) (consM (op1 tup2D (pkV 2)) nilM)))))))
def m_guarded : List PyData → Except Er PyData := runP 6 2 b_guarded
theorem ok_guarded (T : Tp K mg) : FnOk P K.w K mg base (L2.CX P K.w) 4 T.d_guarded.f T.d_guarded.fd ["net", "start"] (SpP K mg m_guarded) := fnP (k := 3) T.d_guarded.F sc_guarded (by decide) fun cdv A outer s H E hr => by
    have nd := sc_guarded.nd
    exact (mb_cons (ms_expr (me_call (ok_check_few T) (hr.mono (by decide)) T.d_check_few.g T.d_check_few.k T.d_check_few.b (takes_of rfl rfl rfl rfl) (ma_cons (me_var (pv 0)) ma_nil)))
    (mb_cons (ms_setL (i := 2) nd rfl (Or.inl rfl) ma_nil)
    (mb_cons (ms_for (passes_of rfl) rfl (mi_seq (me_call (ok_least_siphons T) (hr.mono (by decide)) T.d_least_siphons.g T.d_least_siphons.k T.d_least_siphons.b (takes_of rfl rfl rfl rfl) (ma_cons (me_var (pv 0)) ma_nil))) (mg_name (i := 3) nd rfl (Or.inl rfl)) (mb_cons (ms_set (i := 4) nd rfl (Or.inr rfl) (me_call (ok_largest T) (hr.mono (by decide)) T.d_largest.g T.d_largest.k T.d_largest.b (takes_of rfl rfl rfl rfl) (ma_cons (me_var (pv 0)) (ma_cons (me_var (pv 3)) (ma_cons me_bl ma_nil)))))
    (mb_cons (ms_if (mt_cmp ho_in (op_ni (u65 hr)) me_bl (MQ.of (me_lc ["net", "start", "entries", "row", "inner", "name"] (defScope s_guarded) [("name", 5)] rfl nd (mi_seq (me_var (pv 1))) (by decide +kernel) (fun _ _ _ _ _ => (mg_name (i := 5) nd rfl (by first | exact Or.inl rfl | exact Or.inr rfl))) (fun _ _ _ _ _ => mts_nil) (fun _ _ _ _ _ => (me_cmpV ho_in (op_in (u65 hr)) (pv 5) (mq_var (pv 4)) (by with_unfolding_all rfl))))) (by with_unfolding_all rfl)) (mb_one (ms_ret (me_tup (ma_cons me_str (ma_cons (me_var (pv 3)) ma_nil))))) mb_nil)
    (mb_one (ms_expr (me_app (pv 2) (me_tup (ma_cons (me_var (pv 3)) (ma_cons (me_var (pv 4)) ma_nil))) (fun ho he => pe_bm PySem.F.plainAttrs_list PySem.F.slot_list_append PySem.F.type_list_append mt_append ho (pa_cons he pa_nil))))))))
    (mb_one (ms_ret (me_tup (ma_cons me_str (ma_cons (me_T1 ho_tup2 (hr_tup2 hr.hd) (by rfl) T.z_tuple (by decide +kernel) (mq_var (pv 2))) ma_nil))))))))
/-! judge_guarded -/
theorem sc_judge_guarded : FnScope ["net", "start", "told", "places", "row", "inner", "name", "entry"] ["net", "start", "told"] (defScope s_judge_guarded) := ⟨rfl, rfl, rfl, by decide +kernel, rfl, by decide +kernel, by decide +kernel⟩
def b_judge_guarded : Gm → Out := (seqS (dropS (callM m_check_few (consM (rdV 0) nilM)))
    (seqS (setS 3 (callM m_places_of (consM (rdV 0) (consM (tupM nilM) nilM))))
    (seqS (ifS (tru (callM m_is_told (consM (rdV 2) (consM (ret (.str "fails")) (consM (ret (.int 2)) nilM))))) (seqS (ifS (orT (notT (tru (callM m_are_places_of (consM (rdV 3) (consM (op2V ixD 2 (ret (.int 1))) nilM))))) (tstM (op2 (inD not) (op2V ixD 2 (ret (.int 1))) (callM m_least_siphons (consM (rdV 0) nilM))))) (retS (ret (.bool false))) nxS)
    (retS (op2 (inD not) (ret (.bool true)) (lstO (compM (seqI (rdV 1)) [6] (bName 6) yesM (op2V (inD id) 6 (callM m_largest (consM (rdV 0) (consM (op2V ixD 2 (ret (.int 1))) (consM (ret (.bool true)) nilM)))))))))) nxS)
    (seqS (ifS (orT (notT (tru (callM m_is_told (consM (rdV 2) (consM (ret (.str "holds")) (consM (ret (.int 2)) nilM)))))) (notT (tru (isiM "tuple" (op2V ixD 2 (ret (.int 1))))))) (retS (ret (.bool false))) nxS)
    (seqS (ifS (tstM (op2 (inD id) (ret (.bool false)) (lstO (compM (seqI (op2V ixD 2 (ret (.int 1)))) [7] (bName 7) yesM (andV (isiM "tuple" (pkV 7)) (op2 eqD (op1 lenD (pkV 7)) (ret (.int 2)))))))) (retS (ret (.bool false))) nxS)
    (seqS (ifS (tstM (op2 neD (lstO (compM (seqI (op2V ixD 2 (ret (.int 1)))) [7] (bName 7) yesM (op2V ixD 7 (ret (.int 0))))) (op1 listD (callM m_least_siphons (consM (rdV 0) nilM))))) (retS (ret (.bool false))) nxS)
    (seqS (forS (seqI (op2V ixD 2 (ret (.int 1)))) (bTup 2 (bCons (bName 4) (bCons (bName 5) bNil))) (seqS (ifS (orT (notT (tru (callM m_are_places_of (consM (rdV 3) (consM (rdV 5) nilM))))) (orT (notT (tru (callM m_is_among (consM (rdV 5) (consM (rdV 4) nilM))))) (tru (callM m_drains (consM (rdV 0) (consM (rdV 5) nilM)))))) (retS (ret (.bool false))) nxS)
    (ifS (tstM (op2 (inD not) (ret (.bool true)) (lstO (compM (seqI (rdV 1)) [6] (bName 6) yesM (op2V (inD id) 6 (pkV 5)))))) (retS (ret (.bool false))) nxS)))
    (retS (ret (.bool true))))))))))
def m_judge_guarded : List PyData → Except Er PyData := runP 8 3 b_judge_guarded
theorem ok_judge_guarded (T : Tp K mg) : FnOk P K.w K mg base (L2.CX P K.w) 4 T.d_judge_guarded.f T.d_judge_guarded.fd ["net", "start", "told"] (SpP K mg m_judge_guarded) := fnP (k := 3) T.d_judge_guarded.F sc_judge_guarded (by decide) fun cdv A outer s H E hr => by
    have nd := sc_judge_guarded.nd
    exact (mb_cons (ms_expr (me_call (ok_check_few T) (hr.mono (by decide)) T.d_check_few.g T.d_check_few.k T.d_check_few.b (takes_of rfl rfl rfl rfl) (ma_cons (me_var (pv 0)) ma_nil)))
    (mb_cons (ms_set (i := 3) nd rfl (Or.inl rfl) (me_call (ok_places_of T) (hr.mono (by decide)) T.d_places_of.g T.d_places_of.k T.d_places_of.b (takes_of rfl rfl rfl rfl) (ma_cons (me_var (pv 0)) (ma_cons (me_tup ma_nil) ma_nil))))
    (mb_cons (ms_if (mt_tru (MQ.of (me_call (ok_is_told T) (hr.mono (by decide)) T.d_is_told.g T.d_is_told.k T.d_is_told.b (takes_of rfl rfl rfl rfl) (ma_cons (me_var (pv 2)) (ma_cons me_str (ma_cons me_int ma_nil)))))) (mb_cons (ms_if (mt_w (mw_or (mt_not (mt_tru (MQ.of (me_call (ok_are_places_of T) (hr.mono (by decide)) T.d_are_places_of.g T.d_are_places_of.k T.d_are_places_of.b (takes_of rfl rfl rfl rfl) (ma_cons (me_var (pv 3)) (ma_cons (me_ixV ho_ix (ix_all hr.units) (pv 2) (MQ.of me_int) (fun _ _ => rfl)) ma_nil)))))) (mw_or1 (mt_cmp ho_in (op_ni (u65 hr)) (me_ixV ho_ix (ix_all hr.units) (pv 2) (MQ.of me_int) (fun _ _ => rfl)) (MQ.of (me_call (ok_least_siphons T) (hr.mono (by decide)) T.d_least_siphons.g T.d_least_siphons.k T.d_least_siphons.b (takes_of rfl rfl rfl rfl) (ma_cons (me_var (pv 0)) ma_nil))) (by with_unfolding_all rfl))))) (mb_one (ms_ret me_bl)) mb_nil)
    (mb_one (ms_ret (me_cmp ho_in (op_ni (u65 hr)) me_bl (MQ.of (me_lc ["net", "start", "told", "places", "row", "inner", "name", "entry"] (defScope s_judge_guarded) [("name", 6)] rfl nd (mi_seq (me_var (pv 1))) (by decide +kernel) (fun _ _ _ _ _ => (mg_name (i := 6) nd rfl (by first | exact Or.inl rfl | exact Or.inr rfl))) (fun _ _ _ _ _ => mts_nil) (fun _ _ _ _ _ => (me_cmpV ho_in (op_in (u65 hr)) (pv 6) (MQ.of (me_call (ok_largest T) (hr.mono (by decide)) T.d_largest.g T.d_largest.k T.d_largest.b takes0 (ma_cons (me_var (pv 0)) (ma_cons (me_ixV ho_ix (ix_all hr.units) (pv 2) (MQ.of me_int) (fun _ _ => rfl)) (ma_cons me_bl ma_nil))))) (by with_unfolding_all rfl))))) (by with_unfolding_all rfl))))) mb_nil)
    (mb_cons (ms_if (mt_w (mw_or (mt_not (mt_tru (MQ.of (me_call (ok_is_told T) (hr.mono (by decide)) T.d_is_told.g T.d_is_told.k T.d_is_told.b (takes_of rfl rfl rfl rfl) (ma_cons (me_var (pv 2)) (ma_cons me_str (ma_cons me_int ma_nil))))))) (mw_or1 (mt_not (mt_tru (MQ.of (me_isi "tuple" T.z_isinstance (pe_bltn (v := .ty "tuple") rfl T.z_tuple (by decide +kernel) rfl) (by decide +kernel) (MQ.of (me_ixV ho_ix (ix_all hr.units) (pv 2) (MQ.of me_int) (fun _ _ => rfl)))))))))) (mb_one (ms_ret me_bl)) mb_nil)
    (mb_cons (ms_if (mt_cmp ho_in (op_in (u65 hr)) me_bl (MQ.of (me_lc ["net", "start", "told", "places", "row", "inner", "name", "entry"] (defScope s_judge_guarded) [("entry", 7)] rfl nd (mi_seq (me_ixV ho_ix (ix_all hr.units) (pv 2) (MQ.of me_int) (fun _ _ => rfl))) (by decide +kernel) (fun _ _ _ _ _ => (mg_name (i := 7) nd rfl (by first | exact Or.inl rfl | exact Or.inr rfl))) (fun _ _ _ _ _ => mts_nil) (fun _ _ _ _ _ => (me_and (me_isi "tuple" T.z_isinstance (pe_bltn (v := .ty "tuple") rfl T.z_tuple (by decide +kernel) rfl) (by decide +kernel) (mq_var (pv 7))) (me_one (me_cmp ho_eq (hr_eq hr.units) (me_B1 ho_len hr_len (by rfl) T.z_len PySem.boot_len (mq_var (pv 7))) (MQ.of me_int) (nomark _))))))) (by with_unfolding_all rfl)) (mb_one (ms_ret me_bl)) mb_nil)
    (mb_cons (ms_if (mt_cmp ho_ne (hr_ne hr.units) (me_lc ["net", "start", "told", "places", "row", "inner", "name", "entry"] (defScope s_judge_guarded) [("entry", 7)] rfl nd (mi_seq (me_ixV ho_ix (ix_all hr.units) (pv 2) (MQ.of me_int) (fun _ _ => rfl))) (by decide +kernel) (fun _ _ _ _ _ => (mg_name (i := 7) nd rfl (by first | exact Or.inl rfl | exact Or.inr rfl))) (fun _ _ _ _ _ => mts_nil) (fun _ _ _ _ _ => (me_ixV ho_ix (ix_all hr.units) (pv 7) (MQ.of me_int) (fun _ _ => rfl)))) (MQ.of (me_T1 ho_list (cr_list hr.hd) (by rfl) T.z_list (by decide +kernel) (MQ.of (me_call (ok_least_siphons T) (hr.mono (by decide)) T.d_least_siphons.g T.d_least_siphons.k T.d_least_siphons.b (takes_of rfl rfl rfl rfl) (ma_cons (me_var (pv 0)) ma_nil))))) (nomark _)) (mb_one (ms_ret me_bl)) mb_nil)
    (mb_cons (ms_for (passes_of rfl) rfl (mi_seq (me_ixV ho_ix (ix_all hr.units) (pv 2) (MQ.of me_int) (fun _ _ => rfl))) (mg_tup rfl (mgs_cons (mg_name (i := 4) nd rfl (Or.inl rfl)) (mgs_cons (mg_name (i := 5) nd rfl (Or.inr rfl)) mgs_nil))) (mb_cons (ms_if (mt_w (mw_or (mt_not (mt_tru (MQ.of (me_call (ok_are_places_of T) (hr.mono (by decide)) T.d_are_places_of.g T.d_are_places_of.k T.d_are_places_of.b (takes_of rfl rfl rfl rfl) (ma_cons (me_var (pv 3)) (ma_cons (me_var (pv 5)) ma_nil)))))) (mw_or (mt_not (mt_tru (MQ.of (me_call (ok_is_among T) (hr.mono (by decide)) T.d_is_among.g T.d_is_among.k T.d_is_among.b (takes_of rfl rfl rfl rfl) (ma_cons (me_var (pv 5)) (ma_cons (me_var (pv 4)) ma_nil)))))) (mw_or1 (mt_tru (MQ.of (me_call (ok_drains T) (hr.mono (by decide)) T.d_drains.g T.d_drains.k T.d_drains.b (takes_of rfl rfl rfl rfl) (ma_cons (me_var (pv 0)) (ma_cons (me_var (pv 5)) ma_nil))))))))) (mb_one (ms_ret me_bl)) mb_nil)
    (mb_one (ms_if (mt_cmp ho_in (op_ni (u65 hr)) me_bl (MQ.of (me_lc ["net", "start", "told", "places", "row", "inner", "name", "entry"] (defScope s_judge_guarded) [("name", 6)] rfl nd (mi_seq (me_var (pv 1))) (by decide +kernel) (fun _ _ _ _ _ => (mg_name (i := 6) nd rfl (by first | exact Or.inl rfl | exact Or.inr rfl))) (fun _ _ _ _ _ => mts_nil) (fun _ _ _ _ _ => (me_cmpV ho_in (op_in (u65 hr)) (pv 6) (mq_var (pv 5)) (by with_unfolding_all rfl))))) (by with_unfolding_all rfl)) (mb_one (ms_ret me_bl)) mb_nil))))
    (mb_one (ms_ret me_bl)))))))))
/-! _law_next -/
theorem sc__law_next : FnScope ["state", "limit", "cell", "value"] ["state", "limit"] (defScope s__law_next) := ⟨rfl, rfl, rfl, by decide +kernel, rfl, by decide +kernel, by decide +kernel⟩
def b__law_next : Gm → Out := (seqS (ifS (andT (tstM (op2 eqD (op2V ixD 0 (ret (.int 2))) (ret (.int 0)))) (tstM (op2 ltD (op2V ixD 0 (ret (.int 1))) (op1 lenD (op2V ixD 0 (ret (.int 0))))))) (seqS (setS 2 (op2 ixD (op2V ixD 0 (ret (.int 0))) (op2V ixD 0 (ret (.int 1)))))
    (seqS (augI iaddD 0 (ret (.int 1)) (ret (.int 1)))
    (ifS (tstM (op2V geD 2 (op2 powD (ret (.int 10)) (ret (.int 18))))) (stoS 0 (ret (.int 2)) (rdV 2)) (stoS 0 (ret (.int 3)) (op2 modD (op1 intOf (op2 addD (op2 addD (op2 mulD (op2V ixD 0 (ret (.int 3))) (ret (.int 48271))) (op2 modD (op1 intOf (pkV 2)) (ret (.int 2147483647)))) (ret (.int 7)))) (ret (.int 2147483647))))))) nxS)
    (seqS (ifS (tstM (op2 gtD (op2V ixD 0 (ret (.int 2))) (ret (.int 0)))) (seqS (setS 3 (op2 modD (op1 intOf (op2V ixD 0 (ret (.int 2)))) (pkV 1)))
    (seqS (stoS 0 (ret (.int 2)) (op2 fdivD (op2V ixD 0 (ret (.int 2))) (pkV 1)))
    (retS (rdV 3)))) nxS)
    (seqS (stoS 0 (ret (.int 3)) (op2 modD (op1 intOf (op2 addD (op2 mulD (op2V ixD 0 (ret (.int 3))) (ret (.int 69621))) (ret (.int 12345)))) (ret (.int 2147483647))))
    (retS (op2 modD (op1 intOf (op2 fdivD (op2V ixD 0 (ret (.int 3))) (ret (.int 7)))) (pkV 1))))))
def m__law_next : PyData → List PyData → Except Er (PyData × PyData) := runS 4 2 b__law_next
theorem ok__law_next (T : Tp K mg) : FnOk P K.w K mg base (L2.CX P K.w) 1 T.d__law_next.f T.d__law_next.fd ["state", "limit"] (SpS K mg m__law_next) := fnS (k := 0) T.d__law_next.F sc__law_next (by decide) fun cdv A outer s H E hr => by
    have nd := sc__law_next.nd
    exact (mb_cons (ms_if (mt_w (mw_and (mt_cmp ho_eq (hr_eq hr.units) (me_ixV ho_ix (ix_all hr.units) (pv 0) (MQ.of me_int) (fun _ _ => rfl)) (MQ.of me_int) (nomark _)) (mw_and1 (mt_cmp ho_lt op_lt (me_ixV ho_ix (ix_all hr.units) (pv 0) (MQ.of me_int) (fun _ _ => rfl)) (MQ.of (me_B1 ho_len hr_len (by rfl) T.z_len PySem.boot_len (MQ.of (me_ixV ho_ix (ix_all hr.units) (pv 0) (MQ.of me_int) (fun _ _ => rfl))))) (nomark _))))) (mb_cons (ms_set (i := 2) nd rfl (Or.inl rfl) (me_ix ho_ix (ix_all hr.units) (me_ixV ho_ix (ix_all hr.units) (pv 0) (MQ.of me_int) (fun _ _ => rfl)) (MQ.of (me_ixV ho_ix (ix_all hr.units) (pv 0) (MQ.of me_int) (fun _ _ => rfl))) (fun _ _ => rfl)))
    (mb_cons (ms_augI ho_iadd ip_add (pv 0) me_int (MQ.of me_int))
    (mb_one (ms_if (mt_cmpV ho_ge op_ge (pv 2) (MQ.of (me_op ho_pow op_pow me_int (MQ.of me_int))) (nomark _)) (mb_one (ms_sto (pv 0) me_int (me_var (pv 2)))) (mb_one (ms_sto (pv 0) me_int (me_op ho_mod op_modN (me_T1 ho_intOf call_int1 (by rfl) T.z_int (by decide +kernel) (MQ.of (me_op ho_add hr_add (me_op ho_add hr_add (me_op ho_mul op_mul (me_ixV ho_ix (ix_all hr.units) (pv 0) (MQ.of me_int) (fun _ _ => rfl)) (MQ.of me_int)) (MQ.of (me_op ho_mod op_modN (me_T1 ho_intOf call_int1 (by rfl) T.z_int (by decide +kernel) (mq_var (pv 2))) (MQ.of me_int)))) (MQ.of me_int)))) (MQ.of me_int)))))))) mb_nil)
    (mb_cons (ms_if (mt_cmp ho_gt op_gt (me_ixV ho_ix (ix_all hr.units) (pv 0) (MQ.of me_int) (fun _ _ => rfl)) (MQ.of me_int) (nomark _)) (mb_cons (ms_set (i := 3) nd rfl (Or.inl rfl) (me_op ho_mod op_modN (me_T1 ho_intOf call_int1 (by rfl) T.z_int (by decide +kernel) (MQ.of (me_ixV ho_ix (ix_all hr.units) (pv 0) (MQ.of me_int) (fun _ _ => rfl)))) (mq_var (pv 1))))
    (mb_cons (ms_sto (pv 0) me_int (me_op ho_fdiv op_fdivN (me_ixV ho_ix (ix_all hr.units) (pv 0) (MQ.of me_int) (fun _ _ => rfl)) (mq_var (pv 1))))
    (mb_one (ms_ret (me_var (pv 3)))))) mb_nil)
    (mb_cons (ms_sto (pv 0) me_int (me_op ho_mod op_modN (me_T1 ho_intOf call_int1 (by rfl) T.z_int (by decide +kernel) (MQ.of (me_op ho_add hr_add (me_op ho_mul op_mul (me_ixV ho_ix (ix_all hr.units) (pv 0) (MQ.of me_int) (fun _ _ => rfl)) (MQ.of me_int)) (MQ.of me_int)))) (MQ.of me_int)))
    (mb_one (ms_ret (me_op ho_mod op_modN (me_T1 ho_intOf call_int1 (by rfl) T.z_int (by decide +kernel) (MQ.of (me_op ho_fdiv op_fdivN (me_ixV ho_ix (ix_all hr.units) (pv 0) (MQ.of me_int) (fun _ _ => rfl)) (MQ.of me_int)))) (mq_var (pv 1))))))))
/-! _law_same -/
theorem sc__law_same : FnScope ["actual", "expected", "k"] ["actual", "expected"] (defScope s__law_same) := ⟨rfl, rfl, rfl, by decide +kernel, rfl, by decide +kernel, by decide +kernel⟩
def b__law_same (self : List PyData → Except Er PyData) : Gm → Out := (seqS (ifS (tstM (op2V (isD id) 1 (ret .none))) (retS (op2V (isD id) 0 (ret .none))) nxS)
    (seqS (ifS (tru (isiM "bool" (pkV 1))) (retS (andV (isiM "bool" (pkV 0)) (op2V eqD 0 (pkV 1)))) nxS)
    (seqS (ifS (tru (isiM "int" (pkV 1))) (retS (andV (isiM "int" (pkV 0)) (andV (notV (isiM "bool" (pkV 0))) (op2V eqD 0 (pkV 1))))) nxS)
    (seqS (ifS (tru (isiM "str" (pkV 1))) (retS (andV (isiM "str" (pkV 0)) (op2V eqD 0 (pkV 1)))) nxS)
    (seqS (ifS (andT (tru (isiM "tuple" (pkV 1))) (notT (tru (isiM "tuple" (pkV 0))))) (retS (ret (.bool false))) nxS)
    (seqS (ifS (andT (tru (isiM "list" (pkV 1))) (notT (tru (isiM "list" (pkV 0))))) (retS (ret (.bool false))) nxS)
    (seqS (ifS (tstM (op2 neD (op1 lenD (pkV 0)) (op1 lenD (pkV 1)))) (retS (ret (.bool false))) nxS)
    (seqS (forS (rng1 (op1 lenD (pkV 1))) (bName 2) (ifS (notT (tru (callM self (consM (op2V ixD 0 (pkV 2)) (consM (op2V ixD 1 (pkV 2)) nilM))))) (retS (ret (.bool false))) nxS))
    (retS (ret (.bool true)))))))))))
def m__law_same : Nat → List PyData → Except Er PyData
  | 0 => fun _ => .error .stuck
  | k + 1 => runP 3 2 (b__law_same (m__law_same k))
theorem ok__law_same (T : Tp K mg) : ∀ k : Nat, FnOk P K.w K mg base (L2.CX P K.w) (k + 1) T.d__law_same.f T.d__law_same.fd ["actual", "expected"] (SpP K mg (m__law_same k))
  | 0 => fnOk0
  | k + 1 => by
    have ih := ok__law_same T k
    exact fnP (k := k + 1) T.d__law_same.F sc__law_same (by decide) fun cdv A outer s H E hr => by
      have nd := sc__law_same.nd
      exact (mb_cons (ms_if (mt_cmpV ho_is hr_is (pv 1) (MQ.of me_non) (nomark _)) (mb_one (ms_ret (me_cmpV ho_is hr_is (pv 0) (MQ.of me_non) (nomark _)))) mb_nil)
    (mb_cons (ms_if (mt_tru (MQ.of (me_isi "bool" T.z_isinstance (pe_bltn (v := .ty "bool") rfl T.z_bool (by decide +kernel) rfl) (by decide +kernel) (mq_var (pv 1))))) (mb_one (ms_ret (me_and (me_isi "bool" T.z_isinstance (pe_bltn (v := .ty "bool") rfl T.z_bool (by decide +kernel) rfl) (by decide +kernel) (mq_var (pv 0))) (me_one (me_cmpV ho_eq (hr_eq hr.units) (pv 0) (mq_var (pv 1)) (nomark _)))))) mb_nil)
    (mb_cons (ms_if (mt_tru (MQ.of (me_isi "int" T.z_isinstance (pe_bltn (v := .ty "int") rfl T.z_int (by decide +kernel) rfl) (by decide +kernel) (mq_var (pv 1))))) (mb_one (ms_ret (me_and (me_isi "int" T.z_isinstance (pe_bltn (v := .ty "int") rfl T.z_int (by decide +kernel) rfl) (by decide +kernel) (mq_var (pv 0))) (me_and (me_not (MQ.of (me_isi "bool" T.z_isinstance (pe_bltn (v := .ty "bool") rfl T.z_bool (by decide +kernel) rfl) (by decide +kernel) (mq_var (pv 0))))) (me_one (me_cmpV ho_eq (hr_eq hr.units) (pv 0) (mq_var (pv 1)) (nomark _))))))) mb_nil)
    (mb_cons (ms_if (mt_tru (MQ.of (me_isi "str" T.z_isinstance (pe_bltn (v := .ty "str") rfl T.z_str (by decide +kernel) rfl) (by decide +kernel) (mq_var (pv 1))))) (mb_one (ms_ret (me_and (me_isi "str" T.z_isinstance (pe_bltn (v := .ty "str") rfl T.z_str (by decide +kernel) rfl) (by decide +kernel) (mq_var (pv 0))) (me_one (me_cmpV ho_eq (hr_eq hr.units) (pv 0) (mq_var (pv 1)) (nomark _)))))) mb_nil)
    (mb_cons (ms_if (mt_w (mw_and (mt_tru (MQ.of (me_isi "tuple" T.z_isinstance (pe_bltn (v := .ty "tuple") rfl T.z_tuple (by decide +kernel) rfl) (by decide +kernel) (mq_var (pv 1))))) (mw_and1 (mt_not (mt_tru (MQ.of (me_isi "tuple" T.z_isinstance (pe_bltn (v := .ty "tuple") rfl T.z_tuple (by decide +kernel) rfl) (by decide +kernel) (mq_var (pv 0))))))))) (mb_one (ms_ret me_bl)) mb_nil)
    (mb_cons (ms_if (mt_w (mw_and (mt_tru (MQ.of (me_isi "list" T.z_isinstance (pe_bltn (v := .ty "list") rfl T.z_list (by decide +kernel) rfl) (by decide +kernel) (mq_var (pv 1))))) (mw_and1 (mt_not (mt_tru (MQ.of (me_isi "list" T.z_isinstance (pe_bltn (v := .ty "list") rfl T.z_list (by decide +kernel) rfl) (by decide +kernel) (mq_var (pv 0))))))))) (mb_one (ms_ret me_bl)) mb_nil)
    (mb_cons (ms_if (mt_cmp ho_ne (hr_ne hr.units) (me_B1 ho_len hr_len (by rfl) T.z_len PySem.boot_len (mq_var (pv 0))) (MQ.of (me_B1 ho_len hr_len (by rfl) T.z_len PySem.boot_len (mq_var (pv 1)))) (nomark _)) (mb_one (ms_ret me_bl)) mb_nil)
    (mb_cons (ms_for (passes_of rfl) rfl (mi_rng1 T.z_range (me_B1 ho_len hr_len (by rfl) T.z_len PySem.boot_len (mq_var (pv 1)))) (mg_name (i := 2) nd rfl (Or.inl rfl)) (mb_one (ms_if (mt_not (mt_tru (MQ.of (me_call ih (hr.mono (by omega)) T.d__law_same.g T.d__law_same.k T.d__law_same.b (takes_of rfl rfl rfl rfl) (ma_cons (me_ixV ho_ix (ix_all hr.units) (pv 0) (mq_var (pv 2)) (fun _ _ => rfl)) (ma_cons (me_ixV ho_ix (ix_all hr.units) (pv 1) (mq_var (pv 2)) (fun _ _ => rfl)) ma_nil)))))) (mb_one (ms_ret me_bl)) mb_nil)))
    (mb_one (ms_ret me_bl))))))))))
/-! _law_is -/
theorem sc__law_is : FnScope ["told", "word", "count"] ["told", "word", "count"] (defScope s__law_is) := ⟨rfl, rfl, rfl, by decide +kernel, rfl, by decide +kernel, by decide +kernel⟩
def b__law_is : Gm → Out := (retS (andV (isiM "tuple" (pkV 0)) (andV (op2 eqD (op1 lenD (pkV 0)) (pkV 2)) (andV (isiM "str" (op2V ixD 0 (ret (.int 0)))) (op2 eqD (op2V ixD 0 (ret (.int 0))) (pkV 1))))))
def m__law_is : List PyData → Except Er PyData := runP 3 3 b__law_is
theorem ok__law_is (T : Tp K mg) : FnOk P K.w K mg base (L2.CX P K.w) 1 T.d__law_is.f T.d__law_is.fd ["told", "word", "count"] (SpP K mg m__law_is) := fnP (k := 0) T.d__law_is.F sc__law_is (by decide) fun cdv A outer s H E hr => by
    have nd := sc__law_is.nd
    exact (mb_one (ms_ret (me_and (me_isi "tuple" T.z_isinstance (pe_bltn (v := .ty "tuple") rfl T.z_tuple (by decide +kernel) rfl) (by decide +kernel) (mq_var (pv 0))) (me_and (me_cmp ho_eq (hr_eq hr.units) (me_B1 ho_len hr_len (by rfl) T.z_len PySem.boot_len (mq_var (pv 0))) (mq_var (pv 2)) (nomark _)) (me_and (me_isi "str" T.z_isinstance (pe_bltn (v := .ty "str") rfl T.z_str (by decide +kernel) rfl) (by decide +kernel) (MQ.of (me_ixV ho_ix (ix_all hr.units) (pv 0) (MQ.of me_int) (fun _ _ => rfl)))) (me_one (me_cmp ho_eq (hr_eq hr.units) (me_ixV ho_ix (ix_all hr.units) (pv 0) (MQ.of me_int) (fun _ _ => rfl)) (mq_var (pv 1)) (nomark _))))))))
/-! _law_are_texts -/
theorem sc__law_are_texts : FnScope ["value", "each"] ["value"] (defScope s__law_are_texts) := ⟨rfl, rfl, rfl, by decide +kernel, rfl, by decide +kernel, by decide +kernel⟩
def b__law_are_texts : Gm → Out := (retS (andV (isiM "tuple" (pkV 0)) (op2 eqD (lstO (compM (seqI (rdV 0)) [1] (bName 1) (notT (tru (isiM "str" (pkV 1)))) (rdV 1))) (lstM nilM))))
def m__law_are_texts : List PyData → Except Er PyData := runP 2 1 b__law_are_texts
theorem ok__law_are_texts (T : Tp K mg) : FnOk P K.w K mg base (L2.CX P K.w) 1 T.d__law_are_texts.f T.d__law_are_texts.fd ["value"] (SpP K mg m__law_are_texts) := fnP (k := 0) T.d__law_are_texts.F sc__law_are_texts (by decide) fun cdv A outer s H E hr => by
    have nd := sc__law_are_texts.nd
    exact (mb_one (ms_ret (me_and (me_isi "tuple" T.z_isinstance (pe_bltn (v := .ty "tuple") rfl T.z_tuple (by decide +kernel) rfl) (by decide +kernel) (mq_var (pv 0))) (me_one (me_cmp ho_eq (hr_eq hr.units) (me_lc ["value", "each"] (defScope s__law_are_texts) [("each", 1)] rfl nd (mi_seq (me_var (pv 0))) (by decide +kernel) (fun _ _ _ _ _ => (mg_name (i := 1) nd rfl (by first | exact Or.inl rfl | exact Or.inr rfl))) (fun _ _ _ _ _ => (mts_one (mt_not (mt_tru (MQ.of (me_isi "str" T.z_isinstance (pe_bltn (v := .ty "str") rfl T.z_str (by decide +kernel) rfl) (by decide +kernel) (mq_var (pv 1)))))))) (fun _ _ _ _ _ => (me_var (pv 1)))) (MQ.of (me_lst ma_nil)) (nomark _))))))
/-! _law_changed -/
theorem sc__law_changed : FnScope ["state", "value", "others", "k", "j", "more", "turn"] ["state", "value"] (defScope s__law_changed) := ⟨rfl, rfl, rfl, by decide +kernel, rfl, by decide +kernel, by decide +kernel⟩
def b__law_changed (self : PyData → List PyData → Except Er (PyData × PyData)) : Gm → Out := (seqS (ifS (tru (isiM "bool" (pkV 1))) (retS (op2 ixD (lstM (consM (notV (pkV 1)) (consM (op1 intOf (pkV 1)) nilM))) (callS m__law_next 0 (consM (ret (.int 2)) nilM)))) nxS)
    (seqS (ifS (orT (tstM (op2V (isD id) 1 (ret .none))) (tru (isiM "int" (pkV 1)))) (retS (op2 ixD (lstM (consM (op2 addD (orV (rdV 1) (ret (.int 0))) (ret (.int 1))) (consM (op2 subD (orV (rdV 1) (ret (.int 0))) (ret (.int 1))) (consM (ret (.int 0)) (consM (ret .none) (consM (op2V eqD 1 (ret (.int 1))) (consM (op1 strD (pkV 1)) (consM (op2 mulD (ret (.int 2)) (orV (rdV 1) (ret (.int 1)))) nilM)))))))) (callS m__law_next 0 (consM (ret (.int 7)) nilM)))) nxS)
    (seqS (ifS (tru (isiM "str" (pkV 1))) (seqS (setS 2 (lstM (consM (slMV slcD 1 (someO (ret (.int 1))) noneO) (consM (op2V addD 1 (ret (.str "a"))) (consM (op1 revD (pkV 1)) (consM (op2 addD (ret (.str "b")) (pkV 1)) (consM (ret (.str "")) (consM (slMV slcD 1 noneO (someO (op1 negD (ret (.int 1))))) (consM (ret (.str "left")) (consM (ret (.int 3)) (consM (ret (.str "in")) nilM)))))))))))
    (retS (op2V ixD 2 (callS m__law_next 0 (consM (op1 lenD (pkV 2)) nilM))))) nxS)
    (seqS (ifS (andT (tru (isiM "tuple" (pkV 1))) (andT (tstM (op2V neD 1 (tupM nilM))) (tstM (op2 gtD (callS m__law_next 0 (consM (ret (.int 4)) nilM)) (ret (.int 0)))))) (seqS (setS 3 (callS m__law_next 0 (consM (op1 lenD (pkV 1)) nilM)))
    (retS (op2 addD (op2 addD (slMV slcD 1 noneO (someO (rdV 3))) (tupM (consM (callS self 0 (consM (op2V ixD 1 (pkV 3)) nilM)) nilM))) (slMV slcD 1 (someO (op2V addD 3 (ret (.int 1)))) noneO)))) nxS)
    (seqS (ifS (notT (tru (isiM "tuple" (pkV 1)))) (retS (tupM nilM)) nxS)
    (seqS (setS 3 (callS m__law_next 0 (consM (op2 addD (op1 lenD (pkV 1)) (ret (.int 1))) nilM)))
    (seqS (setS 4 (callS m__law_next 0 (consM (op2 addD (op1 lenD (pkV 1)) (ret (.int 1))) nilM)))
    (seqS (setS 5 (lstM (consM (op2 addD (slMV slcD 1 noneO (someO (rdV 3))) (slMV slcD 1 (someO (op2V addD 3 (ret (.int 1)))) noneO)) (consM (op2V addD 1 (slMV slcD 1 noneO (someO (ret (.int 1))))) (consM (op1 revD (pkV 1)) (consM (op2 addD (slMV slcD 1 (someO (rdV 3)) noneO) (slMV slcD 1 noneO (someO (rdV 3)))) (consM (op1 listD (pkV 1)) (consM (slMV slcD 1 noneO (someO (rdV 3))) (consM (tupM nilM) (consM (op2V addD 1 (tupM (consM (ret (.int 0)) nilM))) nilM))))))))))
    (seqS (ifS (tstM (chainM ltD ltD (rdV 3) (rdV 4) (op1 lenD (pkV 1)))) (setS 5 (op2V addD 5 (lstO (compM (rng1 (ret (.int 3))) [6] (bName 6) yesM (op2 addD (op2 addD (op2 addD (op2 addD (slMV slcD 1 noneO (someO (rdV 3))) (slMV slcD 1 (someO (rdV 4)) (someO (op2V addD 4 (ret (.int 1)))))) (slMV slcD 1 (someO (op2V addD 3 (ret (.int 1)))) (someO (rdV 4)))) (slMV slcD 1 (someO (rdV 3)) (someO (op2V addD 3 (ret (.int 1)))))) (slMV slcD 1 (someO (op2V addD 4 (ret (.int 1)))) noneO)))))) nxS)
    (retS (op2V ixD 5 (callS m__law_next 0 (consM (op1 lenD (pkV 5)) nilM)))))))))))))
def m__law_changed : Nat → PyData → List PyData → Except Er (PyData × PyData)
  | 0 => fun _ _ => .error .stuck
  | k + 1 => runS 7 2 (b__law_changed (m__law_changed k))
theorem ok__law_changed (T : Tp K mg) : ∀ k : Nat, FnOk P K.w K mg base (L2.CX P K.w) (k + 2) T.d__law_changed.f T.d__law_changed.fd ["state", "value"] (SpS K mg (m__law_changed k))
  | 0 => fnOk0S
  | k + 1 => by
    have ih := ok__law_changed T k
    exact fnS (k := k + 2) T.d__law_changed.F sc__law_changed (by decide) fun cdv A outer s H E hr => by
      have nd := sc__law_changed.nd
      exact (mb_cons (ms_if (mt_tru (MQ.of (me_isi "bool" T.z_isinstance (pe_bltn (v := .ty "bool") rfl T.z_bool (by decide +kernel) rfl) (by decide +kernel) (mq_var (pv 1))))) (mb_one (ms_ret (me_ix ho_ix (ix_all hr.units) (me_lst (ma_cons (me_not (mq_var (pv 1))) (ma_cons (me_T1 ho_intOf call_int1 (by rfl) T.z_int (by decide +kernel) (mq_var (pv 1))) ma_nil))) (MQ.of (me_callS (ok__law_next T) (hr.mono (by omega)) T.d__law_next.g T.d__law_next.k T.d__law_next.b (takes_of rfl rfl rfl rfl) (pv 0) (ma_cons me_int ma_nil))) (fun _ _ => rfl)))) mb_nil)
    (mb_cons (ms_if (mt_w (mw_or (mt_cmpV ho_is hr_is (pv 1) (MQ.of me_non) (nomark _)) (mw_or1 (mt_tru (MQ.of (me_isi "int" T.z_isinstance (pe_bltn (v := .ty "int") rfl T.z_int (by decide +kernel) rfl) (by decide +kernel) (mq_var (pv 1)))))))) (mb_one (ms_ret (me_ix ho_ix (ix_all hr.units) (me_lst (ma_cons (me_op ho_add hr_add (me_or (me_var (pv 1)) (me_one me_int)) (MQ.of me_int)) (ma_cons (me_op ho_sub hr_sub (me_or (me_var (pv 1)) (me_one me_int)) (MQ.of me_int)) (ma_cons me_int (ma_cons me_non (ma_cons (me_cmpV ho_eq (hr_eq hr.units) (pv 1) (MQ.of me_int) (nomark _)) (ma_cons (me_T1 ho_str hr_str (by rfl) T.z_str (by decide +kernel) (mq_var (pv 1))) (ma_cons (me_op ho_mul op_mul me_int (MQ.of (me_or (me_var (pv 1)) (me_one me_int)))) ma_nil)))))))) (MQ.of (me_callS (ok__law_next T) (hr.mono (by omega)) T.d__law_next.g T.d__law_next.k T.d__law_next.b (takes_of rfl rfl rfl rfl) (pv 0) (ma_cons me_int ma_nil))) (fun _ _ => rfl)))) mb_nil)
    (mb_cons (ms_if (mt_tru (MQ.of (me_isi "str" T.z_isinstance (pe_bltn (v := .ty "str") rfl T.z_str (by decide +kernel) rfl) (by decide +kernel) (mq_var (pv 1))))) (mb_cons (ms_set (i := 2) nd rfl (Or.inl rfl) (me_lst (ma_cons (me_sliceV ho_slc hr_slc (pv 1) (mo_some me_int) mo_none) (ma_cons (me_opV ho_add hr_add (pv 1) (MQ.of me_str)) (ma_cons (me_rev (mq_var (pv 1))) (ma_cons (me_op ho_add hr_add me_str (mq_var (pv 1))) (ma_cons me_str (ma_cons (me_sliceV ho_slc hr_slc (pv 1) mo_none (mo_some (me_un ho_neg un_neg (MQ.of me_int)))) (ma_cons me_str (ma_cons me_int (ma_cons me_str ma_nil)))))))))))
    (mb_one (ms_ret (me_ixV ho_ix (ix_all hr.units) (pv 2) (MQ.of (me_callS (ok__law_next T) (hr.mono (by omega)) T.d__law_next.g T.d__law_next.k T.d__law_next.b (takes_of rfl rfl rfl rfl) (pv 0) (ma_cons (me_B1 ho_len hr_len (by rfl) T.z_len PySem.boot_len (mq_var (pv 2))) ma_nil))) (fun _ _ => rfl))))) mb_nil)
    (mb_cons (ms_if (mt_w (mw_and (mt_tru (MQ.of (me_isi "tuple" T.z_isinstance (pe_bltn (v := .ty "tuple") rfl T.z_tuple (by decide +kernel) rfl) (by decide +kernel) (mq_var (pv 1))))) (mw_and (mt_cmpV ho_ne (hr_ne hr.units) (pv 1) (MQ.of (me_tup ma_nil)) (nomark _)) (mw_and1 (mt_cmp ho_gt op_gt (me_callS (ok__law_next T) (hr.mono (by omega)) T.d__law_next.g T.d__law_next.k T.d__law_next.b (takes_of rfl rfl rfl rfl) (pv 0) (ma_cons me_int ma_nil)) (MQ.of me_int) (nomark _)))))) (mb_cons (ms_set (i := 3) nd rfl (Or.inr rfl) (me_callS (ok__law_next T) (hr.mono (by omega)) T.d__law_next.g T.d__law_next.k T.d__law_next.b (takes_of rfl rfl rfl rfl) (pv 0) (ma_cons (me_B1 ho_len hr_len (by rfl) T.z_len PySem.boot_len (mq_var (pv 1))) ma_nil)))
    (mb_one (ms_ret (me_op ho_add hr_add (me_op ho_add hr_add (me_sliceV ho_slc hr_slc (pv 1) mo_none (mo_some (me_var (pv 3)))) (MQ.of (me_tup (ma_cons (me_callS ih (hr.mono (by omega)) T.d__law_changed.g T.d__law_changed.k T.d__law_changed.b (takes_of rfl rfl rfl rfl) (pv 0) (ma_cons (me_ixV ho_ix (ix_all hr.units) (pv 1) (mq_var (pv 3)) (fun _ _ => rfl)) ma_nil)) ma_nil)))) (MQ.of (me_sliceV ho_slc hr_slc (pv 1) (mo_some (me_opV ho_add hr_add (pv 3) (MQ.of me_int))) mo_none)))))) mb_nil)
    (mb_cons (ms_if (mt_not (mt_tru (MQ.of (me_isi "tuple" T.z_isinstance (pe_bltn (v := .ty "tuple") rfl T.z_tuple (by decide +kernel) rfl) (by decide +kernel) (mq_var (pv 1)))))) (mb_one (ms_ret (me_tup ma_nil))) mb_nil)
    (mb_cons (ms_set (i := 3) nd rfl (Or.inr rfl) (me_callS (ok__law_next T) (hr.mono (by omega)) T.d__law_next.g T.d__law_next.k T.d__law_next.b (takes_of rfl rfl rfl rfl) (pv 0) (ma_cons (me_op ho_add hr_add (me_B1 ho_len hr_len (by rfl) T.z_len PySem.boot_len (mq_var (pv 1))) (MQ.of me_int)) ma_nil)))
    (mb_cons (ms_set (i := 4) nd rfl (Or.inr rfl) (me_callS (ok__law_next T) (hr.mono (by omega)) T.d__law_next.g T.d__law_next.k T.d__law_next.b (takes_of rfl rfl rfl rfl) (pv 0) (ma_cons (me_op ho_add hr_add (me_B1 ho_len hr_len (by rfl) T.z_len PySem.boot_len (mq_var (pv 1))) (MQ.of me_int)) ma_nil)))
    (mb_cons (ms_set (i := 5) nd rfl (Or.inl rfl) (me_lst (ma_cons (me_op ho_add hr_add (me_sliceV ho_slc hr_slc (pv 1) mo_none (mo_some (me_var (pv 3)))) (MQ.of (me_sliceV ho_slc hr_slc (pv 1) (mo_some (me_opV ho_add hr_add (pv 3) (MQ.of me_int))) mo_none))) (ma_cons (me_opV ho_add hr_add (pv 1) (MQ.of (me_sliceV ho_slc hr_slc (pv 1) mo_none (mo_some me_int)))) (ma_cons (me_rev (mq_var (pv 1))) (ma_cons (me_op ho_add hr_add (me_sliceV ho_slc hr_slc (pv 1) (mo_some (me_var (pv 3))) mo_none) (MQ.of (me_sliceV ho_slc hr_slc (pv 1) mo_none (mo_some (me_var (pv 3)))))) (ma_cons (me_T1 ho_list (cr_list hr.hd) (by rfl) T.z_list (by decide +kernel) (mq_var (pv 1))) (ma_cons (me_sliceV ho_slc hr_slc (pv 1) mo_none (mo_some (me_var (pv 3)))) (ma_cons (me_tup ma_nil) (ma_cons (me_opV ho_add hr_add (pv 1) (MQ.of (me_tup (ma_cons me_int ma_nil)))) ma_nil))))))))))
    (mb_cons (ms_if (mt_chain ho_lt op_lt ho_lt op_lt (me_var (pv 3)) (me_var (pv 4)) (me_B1 ho_len hr_len (by rfl) T.z_len PySem.boot_len (mq_var (pv 1)))) (mb_one (ms_set (i := 5) nd rfl (Or.inl rfl) (me_opV ho_add hr_add (pv 5) (MQ.of (me_lc ["state", "value", "others", "k", "j", "more", "turn"] (defScope s__law_changed) [("turn", 6)] rfl nd (mi_rng1 T.z_range me_int) (by decide +kernel) (fun _ _ _ _ _ => (mg_name (i := 6) nd rfl (by first | exact Or.inl rfl | exact Or.inr rfl))) (fun _ _ _ _ _ => mts_nil) (fun _ _ _ _ _ => (me_op ho_add hr_add (me_op ho_add hr_add (me_op ho_add hr_add (me_op ho_add hr_add (me_sliceV ho_slc hr_slc (pv 1) mo_none (mo_some (me_var (pv 3)))) (MQ.of (me_sliceV ho_slc hr_slc (pv 1) (mo_some (me_var (pv 4))) (mo_some (me_opV ho_add hr_add (pv 4) (MQ.of me_int)))))) (MQ.of (me_sliceV ho_slc hr_slc (pv 1) (mo_some (me_opV ho_add hr_add (pv 3) (MQ.of me_int))) (mo_some (me_var (pv 4)))))) (MQ.of (me_sliceV ho_slc hr_slc (pv 1) (mo_some (me_var (pv 3))) (mo_some (me_opV ho_add hr_add (pv 3) (MQ.of me_int)))))) (MQ.of (me_sliceV ho_slc hr_slc (pv 1) (mo_some (me_opV ho_add hr_add (pv 4) (MQ.of me_int))) mo_none))))))))) mb_nil)
    (mb_one (ms_ret (me_ixV ho_ix (ix_all hr.units) (pv 5) (MQ.of (me_callS (ok__law_next T) (hr.mono (by omega)) T.d__law_next.g T.d__law_next.k T.d__law_next.b (takes_of rfl rfl rfl rfl) (pv 0) (ma_cons (me_B1 ho_len hr_len (by rfl) T.z_len PySem.boot_len (mq_var (pv 5))) ma_nil))) (fun _ _ => rfl)))))))))))))
/-! _law_ints -/
theorem sc__law_ints : FnScope ["value", "found", "part", "number"] ["value"] (defScope s__law_ints) := ⟨rfl, rfl, rfl, by decide +kernel, rfl, by decide +kernel, by decide +kernel⟩
def b__law_ints (self : List PyData → Except Er PyData) : Gm → Out := (seqS (ifS (orT (tru (isiM "bool" (pkV 0))) (notT (tru (isi2M "int" "tuple" (pkV 0))))) (retS (lstM nilM)) nxS)
    (seqS (ifS (tru (isiM "int" (pkV 0))) (retS (lstM (consM (rdV 0) nilM))) nxS)
    (seqS (setS 1 (lstM nilM))
    (seqS (forS (seqI (rdV 0)) (bName 2) (setS 1 (op2V addD 1 (lstO (compM (seqI (callM self (consM (rdV 2) nilM))) [3] (bName 3) (tstM (op2V (inD not) 3 (pkV 1))) (rdV 3))))))
    (retS (rdV 1))))))
def m__law_ints : Nat → List PyData → Except Er PyData
  | 0 => fun _ => .error .stuck
  | k + 1 => runP 4 1 (b__law_ints (m__law_ints k))
theorem ok__law_ints (T : Tp K mg) : ∀ k : Nat, FnOk P K.w K mg base (L2.CX P K.w) (k + 1) T.d__law_ints.f T.d__law_ints.fd ["value"] (SpP K mg (m__law_ints k))
  | 0 => fnOk0
  | k + 1 => by
    have ih := ok__law_ints T k
    exact fnP (k := k + 1) T.d__law_ints.F sc__law_ints (by decide) fun cdv A outer s H E hr => by
      have nd := sc__law_ints.nd
      exact (mb_cons (ms_if (mt_w (mw_or (mt_tru (MQ.of (me_isi "bool" T.z_isinstance (pe_bltn (v := .ty "bool") rfl T.z_bool (by decide +kernel) rfl) (by decide +kernel) (mq_var (pv 0))))) (mw_or1 (mt_not (mt_tru (MQ.of (me_isi2 "int" "tuple" T.z_isinstance (pe_bltn (v := .ty "int") rfl T.z_int (by decide +kernel) rfl) (pe_bltn (v := .ty "tuple") rfl T.z_tuple (by decide +kernel) rfl) (by decide +kernel) (by decide +kernel) (mq_var (pv 0))))))))) (mb_one (ms_ret (me_lst ma_nil))) mb_nil)
    (mb_cons (ms_if (mt_tru (MQ.of (me_isi "int" T.z_isinstance (pe_bltn (v := .ty "int") rfl T.z_int (by decide +kernel) rfl) (by decide +kernel) (mq_var (pv 0))))) (mb_one (ms_ret (me_lst (ma_cons (me_var (pv 0)) ma_nil)))) mb_nil)
    (mb_cons (ms_set (i := 1) nd rfl (Or.inr rfl) (me_lst ma_nil))
    (mb_cons (ms_for (passes_of rfl) rfl (mi_seq (me_var (pv 0))) (mg_name (i := 2) nd rfl (Or.inl rfl)) (mb_one (ms_set (i := 1) nd rfl (Or.inr rfl) (me_opV ho_add hr_add (pv 1) (MQ.of (me_lc ["value", "found", "part", "number"] (defScope s__law_ints) [("number", 3)] rfl nd (mi_seq (me_call ih (hr.mono (by omega)) T.d__law_ints.g T.d__law_ints.k T.d__law_ints.b (takes_of rfl rfl rfl rfl) (ma_cons (me_var (pv 2)) ma_nil))) (by decide +kernel) (fun _ _ _ _ _ => (mg_name (i := 3) nd rfl (by first | exact Or.inl rfl | exact Or.inr rfl))) (fun _ _ _ _ _ => (mts_one (mt_cmpV ho_in (op_ni (u65 hr)) (pv 3) (mq_var (pv 1)) (by with_unfolding_all rfl)))) (fun _ _ _ _ _ => (me_var (pv 3)))))))))
    (mb_one (ms_ret (me_var (pv 1))))))))
/-! _law_exchanged -/
theorem sc__law_exchanged : FnScope ["value", "one", "other", "part"] ["value", "one", "other"] (defScope s__law_exchanged) := ⟨rfl, rfl, rfl, by decide +kernel, rfl, by decide +kernel, by decide +kernel⟩
def b__law_exchanged (self : List PyData → Except Er PyData) : Gm → Out := (seqS (ifS (orT (tru (isiM "bool" (pkV 0))) (notT (tru (isi2M "int" "tuple" (pkV 0))))) (retS (rdV 0)) nxS)
    (seqS (ifS (tru (isiM "int" (pkV 0))) (retS (ifM (tstM (op2V eqD 0 (pkV 1))) (rdV 2) (ifM (tstM (op2V eqD 0 (pkV 2))) (rdV 1) (rdV 0)))) nxS)
    (retS (op1 tup2D (lstO (compM (seqI (rdV 0)) [3] (bName 3) yesM (callM self (consM (rdV 3) (consM (rdV 1) (consM (rdV 2) nilM))))))))))
def m__law_exchanged : Nat → List PyData → Except Er PyData
  | 0 => fun _ => .error .stuck
  | k + 1 => runP 4 3 (b__law_exchanged (m__law_exchanged k))
theorem ok__law_exchanged (T : Tp K mg) : ∀ k : Nat, FnOk P K.w K mg base (L2.CX P K.w) (k + 1) T.d__law_exchanged.f T.d__law_exchanged.fd ["value", "one", "other"] (SpP K mg (m__law_exchanged k))
  | 0 => fnOk0
  | k + 1 => by
    have ih := ok__law_exchanged T k
    exact fnP (k := k + 1) T.d__law_exchanged.F sc__law_exchanged (by decide) fun cdv A outer s H E hr => by
      have nd := sc__law_exchanged.nd
      exact (mb_cons (ms_if (mt_w (mw_or (mt_tru (MQ.of (me_isi "bool" T.z_isinstance (pe_bltn (v := .ty "bool") rfl T.z_bool (by decide +kernel) rfl) (by decide +kernel) (mq_var (pv 0))))) (mw_or1 (mt_not (mt_tru (MQ.of (me_isi2 "int" "tuple" T.z_isinstance (pe_bltn (v := .ty "int") rfl T.z_int (by decide +kernel) rfl) (pe_bltn (v := .ty "tuple") rfl T.z_tuple (by decide +kernel) rfl) (by decide +kernel) (by decide +kernel) (mq_var (pv 0))))))))) (mb_one (ms_ret (me_var (pv 0)))) mb_nil)
    (mb_cons (ms_if (mt_tru (MQ.of (me_isi "int" T.z_isinstance (pe_bltn (v := .ty "int") rfl T.z_int (by decide +kernel) rfl) (by decide +kernel) (mq_var (pv 0))))) (mb_one (ms_ret (me_ifE (mt_cmpV ho_eq (hr_eq hr.units) (pv 0) (mq_var (pv 1)) (nomark _)) (me_var (pv 2)) (me_ifE (mt_cmpV ho_eq (hr_eq hr.units) (pv 0) (mq_var (pv 2)) (nomark _)) (me_var (pv 1)) (me_var (pv 0)))))) mb_nil)
    (mb_one (ms_ret (me_T1 ho_tup2 (hr_tup2 hr.hd) (by rfl) T.z_tuple (by decide +kernel) (MQ.of (me_lc ["value", "one", "other", "part"] (defScope s__law_exchanged) [("part", 3)] rfl nd (mi_seq (me_var (pv 0))) (by decide +kernel) (fun _ _ _ _ _ => (mg_name (i := 3) nd rfl (by first | exact Or.inl rfl | exact Or.inr rfl))) (fun _ _ _ _ _ => mts_nil) (fun _ _ _ _ _ => (me_call ih (hr.mono (by omega)) T.d__law_exchanged.g T.d__law_exchanged.k T.d__law_exchanged.b takes0 (ma_cons (me_var (pv 3)) (ma_cons (me_var (pv 1)) (ma_cons (me_var (pv 2)) ma_nil))))))))))))
/-! _law_cut -/
theorem sc__law_cut : FnScope ["state", "value", "k", "at", "ways", "part"] ["state", "value"] (defScope s__law_cut) := ⟨rfl, rfl, rfl, by decide +kernel, rfl, by decide +kernel, by decide +kernel⟩
def b__law_cut (self : PyData → List PyData → Except Er (PyData × PyData)) : Gm → Out := (seqS (ifS (orT (notT (tru (isiM "tuple" (pkV 1)))) (tstM (op2V eqD 1 (tupM nilM)))) (retS (rdV 1)) nxS)
    (seqS (ifS (tstM (op2 neD (lstO (compM (seqI (rdV 1)) [5] (bName 5) (notT (tru (isiM "str" (pkV 5)))) (rdV 5))) (lstM nilM))) (seqS (setS 2 (callS m__law_next 0 (consM (op1 lenD (pkV 1)) nilM)))
    (retS (op2 addD (op2 addD (slMV slcD 1 noneO (someO (rdV 2))) (tupM (consM (callS self 0 (consM (op2V ixD 1 (pkV 2)) nilM)) nilM))) (slMV slcD 1 (someO (op2V addD 2 (ret (.int 1)))) noneO)))) nxS)
    (seqS (setS 2 (callS m__law_next 0 (consM (op1 lenD (pkV 1)) nilM)))
    (seqS (setS 3 (callS m__law_next 0 (consM (op2 addD (op1 lenD (op2V ixD 1 (pkV 2))) (ret (.int 1))) nilM)))
    (seqS (setS 4 (lstM (consM (op2 addD (op2 addD (slMV slcD 1 noneO (someO (rdV 2))) (tupM (consM (slM slcD (op2V ixD 1 (pkV 2)) noneO (someO (rdV 3))) (consM (slM slcD (op2V ixD 1 (pkV 2)) (someO (rdV 3)) noneO) nilM)))) (slMV slcD 1 (someO (op2V addD 2 (ret (.int 1)))) noneO)) (consM (op2 addD (op2 addD (slMV slcD 1 noneO (someO (rdV 2))) (tupM (consM (op1 (joinD "") (slMV slcD 1 (someO (rdV 2)) (someO (op2V addD 2 (ret (.int 2)))))) nilM))) (slMV slcD 1 (someO (op2V addD 2 (ret (.int 2)))) noneO)) nilM))))
    (seqS (setS 4 (op2V addD 4 (lstM (consM (tupM (consM (op1 (joinD "") (pkV 1)) nilM)) (consM (op1 tup2D (op1 (joinD "") (pkV 1))) (consM (op2 addD (op2 addD (slMV slcD 1 noneO (someO (rdV 2))) (tupM (consM (ret (.str "")) nilM))) (slMV slcD 1 (someO (rdV 2)) noneO)) (consM (op2 addD (op2 addD (slMV slcD 1 noneO (someO (rdV 2))) (op1 revD (slMV slcD 1 (someO (rdV 2)) (someO (op2V addD 2 (ret (.int 2))))))) (slMV slcD 1 (someO (op2V addD 2 (ret (.int 2)))) noneO)) nilM)))))))
    (retS (op2V ixD 4 (callS m__law_next 0 (consM (op1 lenD (pkV 4)) nilM))))))))))
def m__law_cut : Nat → PyData → List PyData → Except Er (PyData × PyData)
  | 0 => fun _ _ => .error .stuck
  | k + 1 => runS 6 2 (b__law_cut (m__law_cut k))
theorem ok__law_cut (T : Tp K mg) : ∀ k : Nat, FnOk P K.w K mg base (L2.CX P K.w) (k + 2) T.d__law_cut.f T.d__law_cut.fd ["state", "value"] (SpS K mg (m__law_cut k))
  | 0 => fnOk0S
  | k + 1 => by
    have ih := ok__law_cut T k
    exact fnS (k := k + 2) T.d__law_cut.F sc__law_cut (by decide) fun cdv A outer s H E hr => by
      have nd := sc__law_cut.nd
      exact (mb_cons (ms_if (mt_w (mw_or (mt_not (mt_tru (MQ.of (me_isi "tuple" T.z_isinstance (pe_bltn (v := .ty "tuple") rfl T.z_tuple (by decide +kernel) rfl) (by decide +kernel) (mq_var (pv 1)))))) (mw_or1 (mt_cmpV ho_eq (hr_eq hr.units) (pv 1) (MQ.of (me_tup ma_nil)) (nomark _))))) (mb_one (ms_ret (me_var (pv 1)))) mb_nil)
    (mb_cons (ms_if (mt_cmp ho_ne (hr_ne hr.units) (me_lc ["state", "value", "k", "at", "ways", "part"] (defScope s__law_cut) [("part", 5)] rfl nd (mi_seq (me_var (pv 1))) (by decide +kernel) (fun _ _ _ _ _ => (mg_name (i := 5) nd rfl (by first | exact Or.inl rfl | exact Or.inr rfl))) (fun _ _ _ _ _ => (mts_one (mt_not (mt_tru (MQ.of (me_isi "str" T.z_isinstance (pe_bltn (v := .ty "str") rfl T.z_str (by decide +kernel) rfl) (by decide +kernel) (mq_var (pv 5)))))))) (fun _ _ _ _ _ => (me_var (pv 5)))) (MQ.of (me_lst ma_nil)) (nomark _)) (mb_cons (ms_set (i := 2) nd rfl (Or.inl rfl) (me_callS (ok__law_next T) (hr.mono (by omega)) T.d__law_next.g T.d__law_next.k T.d__law_next.b (takes_of rfl rfl rfl rfl) (pv 0) (ma_cons (me_B1 ho_len hr_len (by rfl) T.z_len PySem.boot_len (mq_var (pv 1))) ma_nil)))
    (mb_one (ms_ret (me_op ho_add hr_add (me_op ho_add hr_add (me_sliceV ho_slc hr_slc (pv 1) mo_none (mo_some (me_var (pv 2)))) (MQ.of (me_tup (ma_cons (me_callS ih (hr.mono (by omega)) T.d__law_cut.g T.d__law_cut.k T.d__law_cut.b (takes_of rfl rfl rfl rfl) (pv 0) (ma_cons (me_ixV ho_ix (ix_all hr.units) (pv 1) (mq_var (pv 2)) (fun _ _ => rfl)) ma_nil)) ma_nil)))) (MQ.of (me_sliceV ho_slc hr_slc (pv 1) (mo_some (me_opV ho_add hr_add (pv 2) (MQ.of me_int))) mo_none)))))) mb_nil)
    (mb_cons (ms_set (i := 2) nd rfl (Or.inl rfl) (me_callS (ok__law_next T) (hr.mono (by omega)) T.d__law_next.g T.d__law_next.k T.d__law_next.b (takes_of rfl rfl rfl rfl) (pv 0) (ma_cons (me_B1 ho_len hr_len (by rfl) T.z_len PySem.boot_len (mq_var (pv 1))) ma_nil)))
    (mb_cons (ms_set (i := 3) nd rfl (Or.inl rfl) (me_callS (ok__law_next T) (hr.mono (by omega)) T.d__law_next.g T.d__law_next.k T.d__law_next.b (takes_of rfl rfl rfl rfl) (pv 0) (ma_cons (me_op ho_add hr_add (me_B1 ho_len hr_len (by rfl) T.z_len PySem.boot_len (MQ.of (me_ixV ho_ix (ix_all hr.units) (pv 1) (mq_var (pv 2)) (fun _ _ => rfl)))) (MQ.of me_int)) ma_nil)))
    (mb_cons (ms_set (i := 4) nd rfl (Or.inl rfl) (me_lst (ma_cons (me_op ho_add hr_add (me_op ho_add hr_add (me_sliceV ho_slc hr_slc (pv 1) mo_none (mo_some (me_var (pv 2)))) (MQ.of (me_tup (ma_cons (me_slice ho_slc hr_slc (me_ixV ho_ix (ix_all hr.units) (pv 1) (mq_var (pv 2)) (fun _ _ => rfl)) mo_none (mo_some (me_var (pv 3)))) (ma_cons (me_slice ho_slc hr_slc (me_ixV ho_ix (ix_all hr.units) (pv 1) (mq_var (pv 2)) (fun _ _ => rfl)) (mo_some (me_var (pv 3))) mo_none) ma_nil))))) (MQ.of (me_sliceV ho_slc hr_slc (pv 1) (mo_some (me_opV ho_add hr_add (pv 2) (MQ.of me_int))) mo_none))) (ma_cons (me_op ho_add hr_add (me_op ho_add hr_add (me_sliceV ho_slc hr_slc (pv 1) mo_none (mo_some (me_var (pv 2)))) (MQ.of (me_tup (ma_cons (me_join (MQ.of (me_sliceV ho_slc hr_slc (pv 1) (mo_some (me_var (pv 2))) (mo_some (me_opV ho_add hr_add (pv 2) (MQ.of me_int)))))) ma_nil)))) (MQ.of (me_sliceV ho_slc hr_slc (pv 1) (mo_some (me_opV ho_add hr_add (pv 2) (MQ.of me_int))) mo_none))) ma_nil))))
    (mb_cons (ms_set (i := 4) nd rfl (Or.inl rfl) (me_opV ho_add hr_add (pv 4) (MQ.of (me_lst (ma_cons (me_tup (ma_cons (me_join (mq_var (pv 1))) ma_nil)) (ma_cons (me_T1 ho_tup2 (hr_tup2 hr.hd) (by rfl) T.z_tuple (by decide +kernel) (MQ.of (me_join (mq_var (pv 1))))) (ma_cons (me_op ho_add hr_add (me_op ho_add hr_add (me_sliceV ho_slc hr_slc (pv 1) mo_none (mo_some (me_var (pv 2)))) (MQ.of (me_tup (ma_cons me_str ma_nil)))) (MQ.of (me_sliceV ho_slc hr_slc (pv 1) (mo_some (me_var (pv 2))) mo_none))) (ma_cons (me_op ho_add hr_add (me_op ho_add hr_add (me_sliceV ho_slc hr_slc (pv 1) mo_none (mo_some (me_var (pv 2)))) (MQ.of (me_rev (MQ.of (me_sliceV ho_slc hr_slc (pv 1) (mo_some (me_var (pv 2))) (mo_some (me_opV ho_add hr_add (pv 2) (MQ.of me_int)))))))) (MQ.of (me_sliceV ho_slc hr_slc (pv 1) (mo_some (me_opV ho_add hr_add (pv 2) (MQ.of me_int))) mo_none))) ma_nil))))))))
    (mb_one (ms_ret (me_ixV ho_ix (ix_all hr.units) (pv 4) (MQ.of (me_callS (ok__law_next T) (hr.mono (by omega)) T.d__law_next.g T.d__law_next.k T.d__law_next.b (takes_of rfl rfl rfl rfl) (pv 0) (ma_cons (me_B1 ho_len hr_len (by rfl) T.z_len PySem.boot_len (mq_var (pv 4))) ma_nil))) (fun _ _ => rfl))))))))))
/-! _law_turned_about -/
theorem sc__law_turned_about : FnScope ["state", "told", "numbers", "pick", "one", "other", "k", "j", "part"] ["state", "told"] (defScope s__law_turned_about) := ⟨rfl, rfl, rfl, by decide +kernel, rfl, by decide +kernel, by decide +kernel⟩
def b__law_turned_about : Gm → Out := (seqS (setS 2 (callM (m__law_ints 8) (consM (rdV 1) nilM)))
    (seqS (setS 3 (callS m__law_next 0 (consM (ret (.int 5)) nilM)))
    (seqS (ifS (andT (tstM (op2V ltD 3 (ret (.int 3)))) (tstM (op2V neD 2 (lstM nilM)))) (seqS (setS 4 (op2V ixD 2 (callS m__law_next 0 (consM (op1 lenD (pkV 2)) nilM))))
    (seqS (setS 5 (ifM (tstM (op2V eqD 3 (ret (.int 0)))) (op2V addD 4 (ret (.int 1))) (op2V ixD 2 (callS m__law_next 0 (consM (op1 lenD (pkV 2)) nilM)))))
    (retS (callM (m__law_exchanged 8) (consM (rdV 1) (consM (rdV 4) (consM (rdV 5) nilM))))))) nxS)
    (seqS (ifS (tstM (op2V eqD 3 (ret (.int 3)))) (retS (op2 addD (slMV slcD 1 noneO (someO (ret (.int 1)))) (ifM (tstM (op2 gtD (op1 lenD (pkV 1)) (ret (.int 2)))) (callS (m__law_cut 8) 0 (consM (slMV slcD 1 (someO (ret (.int 1))) noneO) nilM)) (op1 tup2D (lstO (compM (seqI (slMV slcD 1 (someO (ret (.int 1))) noneO)) [8] (bName 8) yesM (callS (m__law_cut 8) 0 (consM (rdV 8) nilM)))))))) nxS)
    (seqS (parS 6 7 (callS m__law_next 0 (consM (op1 lenD (pkV 1)) nilM)) (callS m__law_next 0 (consM (op1 lenD (pkV 1)) nilM)))
    (seqS (ifS (andT (tstM (op2 eqD (op1 lenD (pkV 1)) (ret (.int 2)))) (andT (tru (isiM "tuple" (op2V ixD 1 (ret (.int 1))))) (tstM (op2 neD (op2V ixD 1 (ret (.int 1))) (tupM nilM))))) (seqS (parS 6 7 (callS m__law_next 0 (consM (op1 lenD (op2V ixD 1 (ret (.int 1)))) nilM)) (callS m__law_next 0 (consM (op1 lenD (op2V ixD 1 (ret (.int 1)))) nilM)))
    (retS (tupM (consM (op2V ixD 1 (ret (.int 0))) (consM (op2 addD (op2 addD (slM slcD (op2V ixD 1 (ret (.int 1))) noneO (someO (rdV 6))) (slM slcD (op2V ixD 1 (ret (.int 1))) (someO (rdV 7)) (someO (op2V addD 7 (ret (.int 1)))))) (slM slcD (op2V ixD 1 (ret (.int 1))) (someO (op2V addD 6 (ret (.int 1)))) noneO)) nilM))))) nxS)
    (retS (ifM (andT (tstM (op2V gtD 6 (ret (.int 0)))) (tstM (op2V gtD 7 (ret (.int 0))))) (op2 addD (op2 addD (slMV slcD 1 noneO (someO (rdV 6))) (slMV slcD 1 (someO (rdV 7)) (someO (op2V addD 7 (ret (.int 1)))))) (slMV slcD 1 (someO (op2V addD 6 (ret (.int 1)))) noneO)) (rdV 1)))))))))
def m__law_turned_about : PyData → List PyData → Except Er (PyData × PyData) := runS 9 2 b__law_turned_about
theorem ok__law_turned_about (T : Tp K mg) : FnOk P K.w K mg base (L2.CX P K.w) 11 T.d__law_turned_about.f T.d__law_turned_about.fd ["state", "told"] (SpS K mg m__law_turned_about) := fnS (k := 10) T.d__law_turned_about.F sc__law_turned_about (by decide) fun cdv A outer s H E hr => by
    have nd := sc__law_turned_about.nd
    exact (mb_cons (ms_set (i := 2) nd rfl (Or.inl rfl) (me_call (ok__law_ints T 8) (hr.mono (by decide)) T.d__law_ints.g T.d__law_ints.k T.d__law_ints.b (takes_of rfl rfl rfl rfl) (ma_cons (me_var (pv 1)) ma_nil)))
    (mb_cons (ms_set (i := 3) nd rfl (Or.inl rfl) (me_callS (ok__law_next T) (hr.mono (by decide)) T.d__law_next.g T.d__law_next.k T.d__law_next.b (takes_of rfl rfl rfl rfl) (pv 0) (ma_cons me_int ma_nil)))
    (mb_cons (ms_if (mt_w (mw_and (mt_cmpV ho_lt op_lt (pv 3) (MQ.of me_int) (nomark _)) (mw_and1 (mt_cmpV ho_ne (hr_ne hr.units) (pv 2) (MQ.of (me_lst ma_nil)) (nomark _))))) (mb_cons (ms_set (i := 4) nd rfl (Or.inl rfl) (me_ixV ho_ix (ix_all hr.units) (pv 2) (MQ.of (me_callS (ok__law_next T) (hr.mono (by decide)) T.d__law_next.g T.d__law_next.k T.d__law_next.b (takes_of rfl rfl rfl rfl) (pv 0) (ma_cons (me_B1 ho_len hr_len (by rfl) T.z_len PySem.boot_len (mq_var (pv 2))) ma_nil))) (fun _ _ => rfl)))
    (mb_cons (ms_set (i := 5) nd rfl (Or.inl rfl) (me_ifE (mt_cmpV ho_eq (hr_eq hr.units) (pv 3) (MQ.of me_int) (nomark _)) (me_opV ho_add hr_add (pv 4) (MQ.of me_int)) (me_ixV ho_ix (ix_all hr.units) (pv 2) (MQ.of (me_callS (ok__law_next T) (hr.mono (by decide)) T.d__law_next.g T.d__law_next.k T.d__law_next.b (takes_of rfl rfl rfl rfl) (pv 0) (ma_cons (me_B1 ho_len hr_len (by rfl) T.z_len PySem.boot_len (mq_var (pv 2))) ma_nil))) (fun _ _ => rfl))))
    (mb_one (ms_ret (me_call (ok__law_exchanged T 8) (hr.mono (by decide)) T.d__law_exchanged.g T.d__law_exchanged.k T.d__law_exchanged.b (takes_of rfl rfl rfl rfl) (ma_cons (me_var (pv 1)) (ma_cons (me_var (pv 4)) (ma_cons (me_var (pv 5)) ma_nil)))))))) mb_nil)
    (mb_cons (ms_if (mt_cmpV ho_eq (hr_eq hr.units) (pv 3) (MQ.of me_int) (nomark _)) (mb_one (ms_ret (me_op ho_add hr_add (me_sliceV ho_slc hr_slc (pv 1) mo_none (mo_some me_int)) (MQ.of (me_ifE (mt_cmp ho_gt op_gt (me_B1 ho_len hr_len (by rfl) T.z_len PySem.boot_len (mq_var (pv 1))) (MQ.of me_int) (nomark _)) (me_callS (ok__law_cut T 8) (hr.mono (by decide)) T.d__law_cut.g T.d__law_cut.k T.d__law_cut.b (takes_of rfl rfl rfl rfl) (pv 0) (ma_cons (me_sliceV ho_slc hr_slc (pv 1) (mo_some me_int) mo_none) ma_nil)) (me_T1 ho_tup2 (hr_tup2 hr.hd) (by rfl) T.z_tuple (by decide +kernel) (MQ.of (me_lc ["state", "told", "numbers", "pick", "one", "other", "k", "j", "part"] (defScope s__law_turned_about) [("part", 8)] rfl nd (mi_seq (me_sliceV ho_slc hr_slc (pv 1) (mo_some me_int) mo_none)) (by decide +kernel) (fun _ _ _ _ _ => (mg_name (i := 8) nd rfl (by first | exact Or.inl rfl | exact Or.inr rfl))) (fun _ _ _ _ _ => mts_nil) (fun _ _ _ _ _ => (me_callS (ok__law_cut T 8) (hr.mono (by decide)) T.d__law_cut.g T.d__law_cut.k T.d__law_cut.b takes0 (pv 0) (ma_cons (me_var (pv 8)) ma_nil))))))))))) mb_nil)
    (mb_cons (ms_par (i := 6) (j := 7) rfl nd rfl rfl (by decide) rfl rfl (me_callS (ok__law_next T) (hr.mono (by decide)) T.d__law_next.g T.d__law_next.k T.d__law_next.b (takes_of rfl rfl rfl rfl) (pv 0) (ma_cons (me_B1 ho_len hr_len (by rfl) T.z_len PySem.boot_len (mq_var (pv 1))) ma_nil)) (me_callS (ok__law_next T) (hr.mono (by decide)) T.d__law_next.g T.d__law_next.k T.d__law_next.b (takes_of rfl rfl rfl rfl) (pv 0) (ma_cons (me_B1 ho_len hr_len (by rfl) T.z_len PySem.boot_len (mq_var (pv 1))) ma_nil)) (by rfl))
    (mb_cons (ms_if (mt_w (mw_and (mt_cmp ho_eq (hr_eq hr.units) (me_B1 ho_len hr_len (by rfl) T.z_len PySem.boot_len (mq_var (pv 1))) (MQ.of me_int) (nomark _)) (mw_and (mt_tru (MQ.of (me_isi "tuple" T.z_isinstance (pe_bltn (v := .ty "tuple") rfl T.z_tuple (by decide +kernel) rfl) (by decide +kernel) (MQ.of (me_ixV ho_ix (ix_all hr.units) (pv 1) (MQ.of me_int) (fun _ _ => rfl)))))) (mw_and1 (mt_cmp ho_ne (hr_ne hr.units) (me_ixV ho_ix (ix_all hr.units) (pv 1) (MQ.of me_int) (fun _ _ => rfl)) (MQ.of (me_tup ma_nil)) (nomark _)))))) (mb_cons (ms_par (i := 6) (j := 7) rfl nd rfl rfl (by decide) rfl rfl (me_callS (ok__law_next T) (hr.mono (by decide)) T.d__law_next.g T.d__law_next.k T.d__law_next.b (takes_of rfl rfl rfl rfl) (pv 0) (ma_cons (me_B1 ho_len hr_len (by rfl) T.z_len PySem.boot_len (MQ.of (me_ixV ho_ix (ix_all hr.units) (pv 1) (MQ.of me_int) (fun _ _ => rfl)))) ma_nil)) (me_callS (ok__law_next T) (hr.mono (by decide)) T.d__law_next.g T.d__law_next.k T.d__law_next.b (takes_of rfl rfl rfl rfl) (pv 0) (ma_cons (me_B1 ho_len hr_len (by rfl) T.z_len PySem.boot_len (MQ.of (me_ixV ho_ix (ix_all hr.units) (pv 1) (MQ.of me_int) (fun _ _ => rfl)))) ma_nil)) (by rfl))
    (mb_one (ms_ret (me_tup (ma_cons (me_ixV ho_ix (ix_all hr.units) (pv 1) (MQ.of me_int) (fun _ _ => rfl)) (ma_cons (me_op ho_add hr_add (me_op ho_add hr_add (me_slice ho_slc hr_slc (me_ixV ho_ix (ix_all hr.units) (pv 1) (MQ.of me_int) (fun _ _ => rfl)) mo_none (mo_some (me_var (pv 6)))) (MQ.of (me_slice ho_slc hr_slc (me_ixV ho_ix (ix_all hr.units) (pv 1) (MQ.of me_int) (fun _ _ => rfl)) (mo_some (me_var (pv 7))) (mo_some (me_opV ho_add hr_add (pv 7) (MQ.of me_int)))))) (MQ.of (me_slice ho_slc hr_slc (me_ixV ho_ix (ix_all hr.units) (pv 1) (MQ.of me_int) (fun _ _ => rfl)) (mo_some (me_opV ho_add hr_add (pv 6) (MQ.of me_int))) mo_none))) ma_nil)))))) mb_nil)
    (mb_one (ms_ret (me_ifE (mt_w (mw_and (mt_cmpV ho_gt op_gt (pv 6) (MQ.of me_int) (nomark _)) (mw_and1 (mt_cmpV ho_gt op_gt (pv 7) (MQ.of me_int) (nomark _))))) (me_op ho_add hr_add (me_op ho_add hr_add (me_sliceV ho_slc hr_slc (pv 1) mo_none (mo_some (me_var (pv 6)))) (MQ.of (me_sliceV ho_slc hr_slc (pv 1) (mo_some (me_var (pv 7))) (mo_some (me_opV ho_add hr_add (pv 7) (MQ.of me_int)))))) (MQ.of (me_sliceV ho_slc hr_slc (pv 1) (mo_some (me_opV ho_add hr_add (pv 6) (MQ.of me_int))) mo_none))) (me_var (pv 1)))))))))))
/-! _law_odd -/
theorem sc__law_odd : FnScope ["state", "told", "odd", "pick"] ["state", "told"] (defScope s__law_odd) := ⟨rfl, rfl, rfl, by decide +kernel, rfl, by decide +kernel, by decide +kernel⟩
def b__law_odd : Gm → Out := (seqS (setS 2 (lstM (consM (ret .none) (consM (ret (.str "")) (consM (ret (.str "yes")) (consM (ret (.dict [])) (consM (tupM nilM) (consM (slMV slcD 1 noneO (someO (ret (.int 1)))) (consM (op1 listD (pkV 1)) (consM (op2V addD 1 (tupM (consM (ret (.int 0)) nilM))) (consM (op2 addD (tupM (consM (lstM (consM (op2V ixD 1 (ret (.int 0))) nilM)) nilM)) (slMV slcD 1 (someO (ret (.int 1))) noneO)) (consM (op2 addD (tupM (consM (ret (.str "none such")) nilM)) (slMV slcD 1 (someO (ret (.int 1))) noneO)) (consM (ret (.int 7)) nilM)))))))))))))
    (seqS (setS 3 (callS m__law_next 0 (consM (ret (.int 9)) nilM)))
    (seqS (ifS (tstM (op2V gtD 3 (ret (.int 4)))) (retS (callS m__law_turned_about 0 (consM (rdV 1) nilM))) nxS)
    (retS (ifM (tstM (op2V eqD 3 (ret (.int 0)))) (op2V ixD 2 (callS m__law_next 0 (consM (op1 lenD (pkV 2)) nilM))) (callS (m__law_changed 8) 0 (consM (rdV 1) nilM)))))))
def m__law_odd : PyData → List PyData → Except Er (PyData × PyData) := runS 4 2 b__law_odd
theorem ok__law_odd (T : Tp K mg) : FnOk P K.w K mg base (L2.CX P K.w) 12 T.d__law_odd.f T.d__law_odd.fd ["state", "told"] (SpS K mg m__law_odd) := fnS (k := 11) T.d__law_odd.F sc__law_odd (by decide) fun cdv A outer s H E hr => by
    have nd := sc__law_odd.nd
    exact (mb_cons (ms_set (i := 2) nd rfl (Or.inl rfl) (me_lst (ma_cons me_non (ma_cons me_str (ma_cons me_str (ma_cons me_dict0 (ma_cons (me_tup ma_nil) (ma_cons (me_sliceV ho_slc hr_slc (pv 1) mo_none (mo_some me_int)) (ma_cons (me_T1 ho_list (cr_list hr.hd) (by rfl) T.z_list (by decide +kernel) (mq_var (pv 1))) (ma_cons (me_opV ho_add hr_add (pv 1) (MQ.of (me_tup (ma_cons me_int ma_nil)))) (ma_cons (me_op ho_add hr_add (me_tup (ma_cons (me_lst (ma_cons (me_ixV ho_ix (ix_all hr.units) (pv 1) (MQ.of me_int) (fun _ _ => rfl)) ma_nil)) ma_nil)) (MQ.of (me_sliceV ho_slc hr_slc (pv 1) (mo_some me_int) mo_none))) (ma_cons (me_op ho_add hr_add (me_tup (ma_cons me_str ma_nil)) (MQ.of (me_sliceV ho_slc hr_slc (pv 1) (mo_some me_int) mo_none))) (ma_cons me_int ma_nil)))))))))))))
    (mb_cons (ms_set (i := 3) nd rfl (Or.inl rfl) (me_callS (ok__law_next T) (hr.mono (by decide)) T.d__law_next.g T.d__law_next.k T.d__law_next.b (takes_of rfl rfl rfl rfl) (pv 0) (ma_cons me_int ma_nil)))
    (mb_cons (ms_if (mt_cmpV ho_gt op_gt (pv 3) (MQ.of me_int) (nomark _)) (mb_one (ms_ret (me_callS (ok__law_turned_about T) (hr.mono (by decide)) T.d__law_turned_about.g T.d__law_turned_about.k T.d__law_turned_about.b (takes_of rfl rfl rfl rfl) (pv 0) (ma_cons (me_var (pv 1)) ma_nil)))) mb_nil)
    (mb_one (ms_ret (me_ifE (mt_cmpV ho_eq (hr_eq hr.units) (pv 3) (MQ.of me_int) (nomark _)) (me_ixV ho_ix (ix_all hr.units) (pv 2) (MQ.of (me_callS (ok__law_next T) (hr.mono (by decide)) T.d__law_next.g T.d__law_next.k T.d__law_next.b (takes_of rfl rfl rfl rfl) (pv 0) (ma_cons (me_B1 ho_len hr_len (by rfl) T.z_len PySem.boot_len (mq_var (pv 2))) ma_nil))) (fun _ _ => rfl)) (me_callS (ok__law_changed T 8) (hr.mono (by decide)) T.d__law_changed.g T.d__law_changed.k T.d__law_changed.b (takes_of rfl rfl rfl rfl) (pv 0) (ma_cons (me_var (pv 1)) ma_nil))))))))
/-! _law_are_pairs_in -/
theorem sc__law_are_pairs_in : FnScope ["value", "count", "entry"] ["value", "count"] (defScope s__law_are_pairs_in) := ⟨rfl, rfl, rfl, by decide +kernel, rfl, by decide +kernel, by decide +kernel⟩
def b__law_are_pairs_in : Gm → Out := (retS (andV (isiM "tuple" (pkV 0)) (op2 eqD (lstO (compM (seqI (rdV 0)) [2] (bName 2) (orT (notT (tru (isiM "tuple" (pkV 2)))) (tstM (op2 neD (op1 lenD (pkV 2)) (pkV 1)))) (rdV 2))) (lstM nilM))))
def m__law_are_pairs_in : List PyData → Except Er PyData := runP 3 2 b__law_are_pairs_in
theorem ok__law_are_pairs_in (T : Tp K mg) : FnOk P K.w K mg base (L2.CX P K.w) 1 T.d__law_are_pairs_in.f T.d__law_are_pairs_in.fd ["value", "count"] (SpP K mg m__law_are_pairs_in) := fnP (k := 0) T.d__law_are_pairs_in.F sc__law_are_pairs_in (by decide) fun cdv A outer s H E hr => by
    have nd := sc__law_are_pairs_in.nd
    exact (mb_one (ms_ret (me_and (me_isi "tuple" T.z_isinstance (pe_bltn (v := .ty "tuple") rfl T.z_tuple (by decide +kernel) rfl) (by decide +kernel) (mq_var (pv 0))) (me_one (me_cmp ho_eq (hr_eq hr.units) (me_lc ["value", "count", "entry"] (defScope s__law_are_pairs_in) [("entry", 2)] rfl nd (mi_seq (me_var (pv 0))) (by decide +kernel) (fun _ _ _ _ _ => (mg_name (i := 2) nd rfl (by first | exact Or.inl rfl | exact Or.inr rfl))) (fun _ _ _ _ _ => (mts_one (mt_w (mw_or (mt_not (mt_tru (MQ.of (me_isi "tuple" T.z_isinstance (pe_bltn (v := .ty "tuple") rfl T.z_tuple (by decide +kernel) rfl) (by decide +kernel) (mq_var (pv 2)))))) (mw_or1 (mt_cmp ho_ne (hr_ne hr.units) (me_B1 ho_len hr_len (by rfl) T.z_len PySem.boot_len (mq_var (pv 2))) (mq_var (pv 1)) (nomark _))))))) (fun _ _ _ _ _ => (me_var (pv 2)))) (MQ.of (me_lst ma_nil)) (nomark _))))))
/-! _law_net -/
theorem sc__law_net : FnScope ["state", "is_kept", "found", "k", "needs", "count", "gives", "j"] ["state", "is_kept"] (defScope s__law_net) := ⟨rfl, rfl, rfl, by decide +kernel, rfl, by decide +kernel, by decide +kernel⟩
def b__law_net : Gm → Out := (seqS (setL 2 nilM)
    (seqS (forS (rng1 (op2 addD (ret (.int 1)) (callS m__law_next 0 (consM (ret (.int 4)) nilM)))) (bName 3) (seqS (setS 4 (op1 tup2D (lstO (compM (rng1 (op2 addD (op1 intOf (pkV 1)) (callS m__law_next 0 (consM (ret (.int 2)) nilM)))) [7] (bName 7) yesM (op2 ixD (lstM (consM (ret (.str "a")) (consM (ret (.str "b1")) (consM (ret (.str "c")) (consM (ret (.str "d_")) nilM))))) (callS m__law_next 0 (consM (ret (.int 4)) nilM)))))))
    (seqS (setS 5 (ifM (tru (pkV 1)) (op1 lenD (pkV 4)) (callS m__law_next 0 (consM (ret (.int 3)) nilM))))
    (seqS (setS 6 (op1 tup2D (lstO (compM (rng1 (rdV 5)) [7] (bName 7) yesM (op2 ixD (lstM (consM (ret (.str "a")) (consM (ret (.str "b1")) (consM (ret (.str "c")) (consM (ret (.str "d_")) nilM))))) (callS m__law_next 0 (consM (ret (.int 4)) nilM)))))))
    (dropS (appM 2 (tupM (consM (op2 ixD (lstM (consM (ret (.str "t")) (consM (ret (.str "u2")) (consM (ret (.str "v")) (consM (ret (.str "w_")) nilM))))) (pkV 3)) (consM (rdV 4) (consM (rdV 6) nilM))))))))))
    (retS (op1 tup2D (pkV 2)))))
def m__law_net : PyData → List PyData → Except Er (PyData × PyData) := runS 8 2 b__law_net
theorem ok__law_net (T : Tp K mg) : FnOk P K.w K mg base (L2.CX P K.w) 2 T.d__law_net.f T.d__law_net.fd ["state", "is_kept"] (SpS K mg m__law_net) := fnS (k := 1) T.d__law_net.F sc__law_net (by decide) fun cdv A outer s H E hr => by
    have nd := sc__law_net.nd
    exact (mb_cons (ms_setL (i := 2) nd rfl (Or.inl rfl) ma_nil)
    (mb_cons (ms_for (passes_of rfl) rfl (mi_rng1 T.z_range (me_op ho_add hr_add me_int (MQ.of (me_callS (ok__law_next T) (hr.mono (by decide)) T.d__law_next.g T.d__law_next.k T.d__law_next.b (takes_of rfl rfl rfl rfl) (pv 0) (ma_cons me_int ma_nil))))) (mg_name (i := 3) nd rfl (Or.inl rfl)) (mb_cons (ms_set (i := 4) nd rfl (Or.inl rfl) (me_T1 ho_tup2 (hr_tup2 hr.hd) (by rfl) T.z_tuple (by decide +kernel) (MQ.of (me_lc ["state", "is_kept", "found", "k", "needs", "count", "gives", "j"] (defScope s__law_net) [("j", 7)] rfl nd (mi_rng1 T.z_range (me_op ho_add hr_add (me_T1 ho_intOf call_int1 (by rfl) T.z_int (by decide +kernel) (mq_var (pv 1))) (MQ.of (me_callS (ok__law_next T) (hr.mono (by decide)) T.d__law_next.g T.d__law_next.k T.d__law_next.b (takes_of rfl rfl rfl rfl) (pv 0) (ma_cons me_int ma_nil))))) (by decide +kernel) (fun _ _ _ _ _ => (mg_name (i := 7) nd rfl (by first | exact Or.inl rfl | exact Or.inr rfl))) (fun _ _ _ _ _ => mts_nil) (fun _ _ _ _ _ => (me_ix ho_ix (ix_all hr.units) (me_lst (ma_cons me_str (ma_cons me_str (ma_cons me_str (ma_cons me_str ma_nil))))) (MQ.of (me_callS (ok__law_next T) (hr.mono (by decide)) T.d__law_next.g T.d__law_next.k T.d__law_next.b takes0 (pv 0) (ma_cons me_int ma_nil))) (fun _ _ => rfl)))))))
    (mb_cons (ms_set (i := 5) nd rfl (Or.inl rfl) (me_ifE (mt_tru (mq_var (pv 1))) (me_B1 ho_len hr_len (by rfl) T.z_len PySem.boot_len (mq_var (pv 4))) (me_callS (ok__law_next T) (hr.mono (by decide)) T.d__law_next.g T.d__law_next.k T.d__law_next.b (takes_of rfl rfl rfl rfl) (pv 0) (ma_cons me_int ma_nil))))
    (mb_cons (ms_set (i := 6) nd rfl (Or.inl rfl) (me_T1 ho_tup2 (hr_tup2 hr.hd) (by rfl) T.z_tuple (by decide +kernel) (MQ.of (me_lc ["state", "is_kept", "found", "k", "needs", "count", "gives", "j"] (defScope s__law_net) [("j", 7)] rfl nd (mi_rng1 T.z_range (me_var (pv 5))) (by decide +kernel) (fun _ _ _ _ _ => (mg_name (i := 7) nd rfl (by first | exact Or.inl rfl | exact Or.inr rfl))) (fun _ _ _ _ _ => mts_nil) (fun _ _ _ _ _ => (me_ix ho_ix (ix_all hr.units) (me_lst (ma_cons me_str (ma_cons me_str (ma_cons me_str (ma_cons me_str ma_nil))))) (MQ.of (me_callS (ok__law_next T) (hr.mono (by decide)) T.d__law_next.g T.d__law_next.k T.d__law_next.b takes0 (pv 0) (ma_cons me_int ma_nil))) (fun _ _ => rfl)))))))
    (mb_one (ms_expr (me_app (pv 2) (me_tup (ma_cons (me_ix ho_ix (ix_all hr.units) (me_lst (ma_cons me_str (ma_cons me_str (ma_cons me_str (ma_cons me_str ma_nil))))) (mq_var (pv 3)) (fun _ _ => rfl)) (ma_cons (me_var (pv 4)) (ma_cons (me_var (pv 6)) ma_nil)))) (fun ho he => pe_bm PySem.F.plainAttrs_list PySem.F.slot_list_append PySem.F.type_list_append mt_append ho (pa_cons he pa_nil)))))))))
    (mb_one (ms_ret (me_T1 ho_tup2 (hr_tup2 hr.hd) (by rfl) T.z_tuple (by decide +kernel) (mq_var (pv 2)))))))
/-! _law_places -/
theorem sc__law_places : FnScope ["net", "tokens", "found", "name", "needs", "gives"] ["net", "tokens"] (defScope s__law_places) := ⟨rfl, rfl, rfl, by decide +kernel, rfl, by decide +kernel, by decide +kernel⟩
def b__law_places : Gm → Out := (seqS (setS 2 (op1 listD (pkV 1)))
    (seqS (forS (seqI (rdV 0)) (bTup 3 (bCons (bName 3) (bCons (bName 4) (bCons (bName 5) bNil)))) (setS 2 (op2 addD (op2V addD 2 (op1 listD (pkV 4))) (op1 listD (pkV 5)))))
    (retS (op1 sortSetD (rdV 2)))))
def m__law_places : List PyData → Except Er PyData := runP 6 2 b__law_places
theorem ok__law_places (T : Tp K mg) : FnOk P K.w K mg base (L2.CX P K.w) 1 T.d__law_places.f T.d__law_places.fd ["net", "tokens"] (SpP K mg m__law_places) := fnP (k := 0) T.d__law_places.F sc__law_places (by decide) fun cdv A outer s H E hr => by
    have nd := sc__law_places.nd
    exact (mb_cons (ms_set (i := 2) nd rfl (Or.inl rfl) (me_T1 ho_list (cr_list hr.hd) (by rfl) T.z_list (by decide +kernel) (mq_var (pv 1))))
    (mb_cons (ms_for (passes_of rfl) rfl (mi_seq (me_var (pv 0))) (mg_tup rfl (mgs_cons (mg_name (i := 3) nd rfl (Or.inl rfl)) (mgs_cons (mg_name (i := 4) nd rfl (Or.inl rfl)) (mgs_cons (mg_name (i := 5) nd rfl (Or.inl rfl)) mgs_nil)))) (mb_one (ms_set (i := 2) nd rfl (Or.inl rfl) (me_op ho_add hr_add (me_opV ho_add hr_add (pv 2) (MQ.of (me_T1 ho_list (cr_list hr.hd) (by rfl) T.z_list (by decide +kernel) (mq_var (pv 4))))) (MQ.of (me_T1 ho_list (cr_list hr.hd) (by rfl) T.z_list (by decide +kernel) (mq_var (pv 5))))))))
    (mb_one (ms_ret (me_sortSet T.z_sorted T.z_set (me_var (pv 2)))))))
/-! _law_tokens -/
theorem sc__law_tokens : FnScope ["state", "net", "most", "places", "k"] ["state", "net", "most"] (defScope s__law_tokens) := ⟨rfl, rfl, rfl, by decide +kernel, rfl, by decide +kernel, by decide +kernel⟩
def b__law_tokens : Gm → Out := (seqS (setS 3 (callM m__law_places (consM (rdV 1) (consM (tupM nilM) nilM))))
    (retS (op1 tup2D (lstO (compM (rng1 (callS m__law_next 0 (consM (op2V addD 2 (ret (.int 1))) nilM))) [4] (bName 4) (tstM (op2V neD 3 (lstM nilM))) (op2V ixD 3 (callS m__law_next 0 (consM (op1 lenD (pkV 3)) nilM))))))))
def m__law_tokens : PyData → List PyData → Except Er (PyData × PyData) := runS 5 3 b__law_tokens
theorem ok__law_tokens (T : Tp K mg) : FnOk P K.w K mg base (L2.CX P K.w) 2 T.d__law_tokens.f T.d__law_tokens.fd ["state", "net", "most"] (SpS K mg m__law_tokens) := fnS (k := 1) T.d__law_tokens.F sc__law_tokens (by decide) fun cdv A outer s H E hr => by
    have nd := sc__law_tokens.nd
    exact (mb_cons (ms_set (i := 3) nd rfl (Or.inr rfl) (me_call (ok__law_places T) (hr.mono (by decide)) T.d__law_places.g T.d__law_places.k T.d__law_places.b (takes_of rfl rfl rfl rfl) (ma_cons (me_var (pv 1)) (ma_cons (me_tup ma_nil) ma_nil))))
    (mb_one (ms_ret (me_T1 ho_tup2 (hr_tup2 hr.hd) (by rfl) T.z_tuple (by decide +kernel) (MQ.of (me_lc ["state", "net", "most", "places", "k"] (defScope s__law_tokens) [("k", 4)] rfl nd (mi_rng1 T.z_range (me_callS (ok__law_next T) (hr.mono (by decide)) T.d__law_next.g T.d__law_next.k T.d__law_next.b (takes_of rfl rfl rfl rfl) (pv 0) (ma_cons (me_opV ho_add hr_add (pv 2) (MQ.of me_int)) ma_nil))) (by decide +kernel) (fun _ _ _ _ _ => (mg_name (i := 4) nd rfl (by first | exact Or.inl rfl | exact Or.inr rfl))) (fun _ _ _ _ _ => (mts_one (mt_cmpV ho_ne (hr_ne hr.units) (pv 3) (MQ.of (me_lst ma_nil)) (nomark _)))) (fun _ _ _ _ _ => (me_ixV ho_ix (ix_all hr.units) (pv 3) (MQ.of (me_callS (ok__law_next T) (hr.mono (by decide)) T.d__law_next.g T.d__law_next.k T.d__law_next.b takes0 (pv 0) (ma_cons (me_B1 ho_len hr_len (by rfl) T.z_len PySem.boot_len (mq_var (pv 3))) ma_nil))) (fun _ _ => rfl)))))))))
/-! _law_is_siphon -/
theorem sc__law_is_siphon : FnScope ["net", "names", "step", "name"] ["net", "names"] (defScope s__law_is_siphon) := ⟨rfl, rfl, rfl, by decide +kernel, rfl, by decide +kernel, by decide +kernel⟩
def b__law_is_siphon : Gm → Out := (retS (op2 eqD (lstO (compM (seqI (rdV 0)) [2] (bName 2) (andT (tstM (op2 neD (lstO (compM (seqI (op2V ixD 2 (ret (.int 2)))) [3] (bName 3) (tstM (op2V (inD id) 3 (pkV 1))) (rdV 3))) (lstM nilM))) (tstM (op2 eqD (lstO (compM (seqI (op2V ixD 2 (ret (.int 1)))) [3] (bName 3) (tstM (op2V (inD id) 3 (pkV 1))) (rdV 3))) (lstM nilM)))) (rdV 2))) (lstM nilM)))
def m__law_is_siphon : List PyData → Except Er PyData := runP 4 2 b__law_is_siphon
theorem ok__law_is_siphon (T : Tp K mg) : FnOk P K.w K mg base (L2.CX P K.w) 1 T.d__law_is_siphon.f T.d__law_is_siphon.fd ["net", "names"] (SpP K mg m__law_is_siphon) := fnP (k := 0) T.d__law_is_siphon.F sc__law_is_siphon (by decide) fun cdv A outer s H E hr => by
    have nd := sc__law_is_siphon.nd
    exact (mb_one (ms_ret (me_cmp ho_eq (hr_eq hr.units) (me_lc ["net", "names", "step", "name"] (defScope s__law_is_siphon) [("step", 2)] rfl nd (mi_seq (me_var (pv 0))) (by decide +kernel) (fun _ _ _ _ _ => (mg_name (i := 2) nd rfl (by first | exact Or.inl rfl | exact Or.inr rfl))) (fun _ _ _ _ _ => (mts_one (mt_w (mw_and (mt_cmp ho_ne (hr_ne hr.units) (me_lc ["net", "names", "step", "name"] _ [("name", 3)] rfl nd (mi_seq (me_ixV ho_ix (ix_all hr.units) (pv 2) (MQ.of me_int) (fun _ _ => rfl))) (by rfl) (fun _ _ _ _ _ => (mg_name (i := 3) nd rfl (by first | exact Or.inl rfl | exact Or.inr rfl))) (fun _ _ _ _ _ => (mts_one (mt_cmpV ho_in (op_in (u65 hr)) (pv 3) (mq_var (pv 1)) (by with_unfolding_all rfl)))) (fun _ _ _ _ _ => (me_var (pv 3))) (eS := rfl)) (MQ.of (me_lst ma_nil)) (nomark _)) (mw_and1 (mt_cmp ho_eq (hr_eq hr.units) (me_lc ["net", "names", "step", "name"] _ [("name", 3)] rfl nd (mi_seq (me_ixV ho_ix (ix_all hr.units) (pv 2) (MQ.of me_int) (fun _ _ => rfl))) (by rfl) (fun _ _ _ _ _ => (mg_name (i := 3) nd rfl (by first | exact Or.inl rfl | exact Or.inr rfl))) (fun _ _ _ _ _ => (mts_one (mt_cmpV ho_in (op_in (u65 hr)) (pv 3) (mq_var (pv 1)) (by with_unfolding_all rfl)))) (fun _ _ _ _ _ => (me_var (pv 3))) (eS := rfl)) (MQ.of (me_lst ma_nil)) (nomark _))))))) (fun _ _ _ _ _ => (me_var (pv 2)))) (MQ.of (me_lst ma_nil)) (nomark _))))
/-! _law_turned_net -/
theorem sc__law_turned_net : FnScope ["net", "name", "needs", "gives"] ["net"] (defScope s__law_turned_net) := ⟨rfl, rfl, rfl, by decide +kernel, rfl, by decide +kernel, by decide +kernel⟩
def b__law_turned_net : Gm → Out := (retS (lstO (compM (seqI (rdV 0)) [1, 2, 3] (bTup 3 (bCons (bName 1) (bCons (bName 2) (bCons (bName 3) bNil)))) yesM (tupM (consM (rdV 1) (consM (rdV 3) (consM (rdV 2) nilM)))))))
def m__law_turned_net : List PyData → Except Er PyData := runP 4 1 b__law_turned_net
theorem ok__law_turned_net (T : Tp K mg) : FnOk P K.w K mg base (L2.CX P K.w) 1 T.d__law_turned_net.f T.d__law_turned_net.fd ["net"] (SpP K mg m__law_turned_net) := fnP (k := 0) T.d__law_turned_net.F sc__law_turned_net (by decide) fun cdv A outer s H E hr => by
    have nd := sc__law_turned_net.nd
    exact (mb_one (ms_ret (me_lc ["net", "name", "needs", "gives"] (defScope s__law_turned_net) [("name", 1), ("needs", 2), ("gives", 3)] rfl nd (mi_seq (me_var (pv 0))) (by decide +kernel) (fun _ _ _ _ _ => (mg_tup rfl (mgs_cons (mg_name (i := 1) nd rfl (by first | exact Or.inl rfl | exact Or.inr rfl)) (mgs_cons (mg_name (i := 2) nd rfl (by first | exact Or.inl rfl | exact Or.inr rfl)) (mgs_cons (mg_name (i := 3) nd rfl (by first | exact Or.inl rfl | exact Or.inr rfl)) mgs_nil))))) (fun _ _ _ _ _ => mts_nil) (fun _ _ _ _ _ => (me_tup (ma_cons (me_var (pv 1)) (ma_cons (me_var (pv 3)) (ma_cons (me_var (pv 2)) ma_nil))))))))
/-! _law_parts_of -/
theorem sc__law_parts_of : FnScope ["names", "found", "name", "row"] ["names"] (defScope s__law_parts_of) := ⟨rfl, rfl, rfl, by decide +kernel, rfl, by decide +kernel, by decide +kernel⟩
def b__law_parts_of : Gm → Out := (seqS (setS 1 (lstM (consM (tupM nilM) nilM)))
    (seqS (forS (seqI (rdV 0)) (bName 2) (setS 1 (op2V addD 1 (lstO (compM (seqI (rdV 1)) [3] (bName 3) yesM (op2V addD 3 (tupM (consM (rdV 2) nilM))))))))
    (retS (rdV 1))))
def m__law_parts_of : List PyData → Except Er PyData := runP 4 1 b__law_parts_of
theorem ok__law_parts_of (T : Tp K mg) : FnOk P K.w K mg base (L2.CX P K.w) 1 T.d__law_parts_of.f T.d__law_parts_of.fd ["names"] (SpP K mg m__law_parts_of) := fnP (k := 0) T.d__law_parts_of.F sc__law_parts_of (by decide) fun cdv A outer s H E hr => by
    have nd := sc__law_parts_of.nd
    exact (mb_cons (ms_set (i := 1) nd rfl (Or.inl rfl) (me_lst (ma_cons (me_tup ma_nil) ma_nil)))
    (mb_cons (ms_for (passes_of rfl) rfl (mi_seq (me_var (pv 0))) (mg_name (i := 2) nd rfl (Or.inr rfl)) (mb_one (ms_set (i := 1) nd rfl (Or.inl rfl) (me_opV ho_add hr_add (pv 1) (MQ.of (me_lc ["names", "found", "name", "row"] (defScope s__law_parts_of) [("row", 3)] rfl nd (mi_seq (me_var (pv 1))) (by decide +kernel) (fun _ _ _ _ _ => (mg_name (i := 3) nd rfl (by first | exact Or.inl rfl | exact Or.inr rfl))) (fun _ _ _ _ _ => mts_nil) (fun _ _ _ _ _ => (me_opV ho_add hr_add (pv 3) (MQ.of (me_tup (ma_cons (me_var (pv 2)) ma_nil)))))))))))
    (mb_one (ms_ret (me_var (pv 1))))))
/-! _law_largest -/
theorem sc__law_largest : FnScope ["net", "names", "found", "row", "name"] ["net", "names"] (defScope s__law_largest) := ⟨rfl, rfl, rfl, by decide +kernel, rfl, by decide +kernel, by decide +kernel⟩
def b__law_largest : Gm → Out := (seqS (setS 2 (lstM nilM))
    (seqS (forS (seqI (callM m__law_parts_of (consM (op1 sortSetD (rdV 1)) nilM))) (bName 3) (ifS (tru (callM m__law_is_siphon (consM (rdV 0) (consM (rdV 3) nilM)))) (setS 2 (op2V addD 2 (lstO (compM (seqI (rdV 3)) [4] (bName 4) (tstM (op2V (inD not) 4 (pkV 2))) (rdV 4))))) nxS))
    (retS (op1 tup2D (op1 sortG (pkV 2))))))
def m__law_largest : List PyData → Except Er PyData := runP 5 2 b__law_largest
theorem ok__law_largest (T : Tp K mg) : FnOk P K.w K mg base (L2.CX P K.w) 2 T.d__law_largest.f T.d__law_largest.fd ["net", "names"] (SpP K mg m__law_largest) := fnP (k := 1) T.d__law_largest.F sc__law_largest (by decide) fun cdv A outer s H E hr => by
    have nd := sc__law_largest.nd
    exact (mb_cons (ms_set (i := 2) nd rfl (Or.inr rfl) (me_lst ma_nil))
    (mb_cons (ms_for (passes_of rfl) rfl (mi_seq (me_call (ok__law_parts_of T) (hr.mono (by decide)) T.d__law_parts_of.g T.d__law_parts_of.k T.d__law_parts_of.b (takes_of rfl rfl rfl rfl) (ma_cons (me_sortSet T.z_sorted T.z_set (me_var (pv 1))) ma_nil))) (mg_name (i := 3) nd rfl (Or.inl rfl)) (mb_one (ms_if (mt_tru (MQ.of (me_call (ok__law_is_siphon T) (hr.mono (by decide)) T.d__law_is_siphon.g T.d__law_is_siphon.k T.d__law_is_siphon.b (takes_of rfl rfl rfl rfl) (ma_cons (me_var (pv 0)) (ma_cons (me_var (pv 3)) ma_nil))))) (mb_one (ms_set (i := 2) nd rfl (Or.inr rfl) (me_opV ho_add hr_add (pv 2) (MQ.of (me_lc ["net", "names", "found", "row", "name"] (defScope s__law_largest) [("name", 4)] rfl nd (mi_seq (me_var (pv 3))) (by decide +kernel) (fun _ _ _ _ _ => (mg_name (i := 4) nd rfl (by first | exact Or.inl rfl | exact Or.inr rfl))) (fun _ _ _ _ _ => (mts_one (mt_cmpV ho_in (op_ni (u65 hr)) (pv 4) (mq_var (pv 2)) (by with_unfolding_all rfl)))) (fun _ _ _ _ _ => (me_var (pv 4)))))))) mb_nil)))
    (mb_one (ms_ret (me_T1 ho_tup2 (hr_tup2 hr.hd) (by rfl) T.z_tuple (by decide +kernel) (MQ.of (me_B1 ho_sortG (cr_sortG hr.units hr.hd) (by rfl) T.z_sorted PyProof.Rows.boot_sorted (mq_var (pv 2)))))))))
/-! _law_least -/
theorem sc__law_least : FnScope ["net", "rows", "row", "other"] ["net"] (defScope s__law_least) := ⟨rfl, rfl, rfl, by decide +kernel, rfl, by decide +kernel, by decide +kernel⟩
def b__law_least : Gm → Out := (seqS (setS 1 (lstO (compM (seqI (callM m__law_parts_of (consM (callM m__law_places (consM (rdV 0) (consM (tupM nilM) nilM))) nilM))) [2] (bName 2) (andT (tstM (op2V neD 2 (tupM nilM))) (tru (callM m__law_is_siphon (consM (rdV 0) (consM (rdV 2) nilM))))) (rdV 2))))
    (retS (op1 sortAD (lstO (compM (seqI (rdV 1)) [2] (bName 2) (tstM (op2 eqD (lstO (compM (seqI (rdV 1)) [3] (bName 3) (andT (tstM (op2V neD 3 (pkV 2))) (setLeT (rdV 3) (rdV 2))) (rdV 3))) (lstM nilM))) (rdV 2))))))
def m__law_least : List PyData → Except Er PyData := runP 4 1 b__law_least
theorem ok__law_least (T : Tp K mg) : FnOk P K.w K mg base (L2.CX P K.w) 2 T.d__law_least.f T.d__law_least.fd ["net"] (SpP K mg m__law_least) := fnP (k := 1) T.d__law_least.F sc__law_least (by decide) fun cdv A outer s H E hr => by
    have nd := sc__law_least.nd
    exact (mb_cons (ms_set (i := 1) nd rfl (Or.inr rfl) (me_lc ["net", "rows", "row", "other"] (defScope s__law_least) [("row", 2)] rfl nd (mi_seq (me_call (ok__law_parts_of T) (hr.mono (by decide)) T.d__law_parts_of.g T.d__law_parts_of.k T.d__law_parts_of.b (takes_of rfl rfl rfl rfl) (ma_cons (me_call (ok__law_places T) (hr.mono (by decide)) T.d__law_places.g T.d__law_places.k T.d__law_places.b (takes_of rfl rfl rfl rfl) (ma_cons (me_var (pv 0)) (ma_cons (me_tup ma_nil) ma_nil))) ma_nil))) (by decide +kernel) (fun _ _ _ _ _ => (mg_name (i := 2) nd rfl (by first | exact Or.inl rfl | exact Or.inr rfl))) (fun _ _ _ _ _ => (mts_one (mt_w (mw_and (mt_cmpV ho_ne (hr_ne hr.units) (pv 2) (MQ.of (me_tup ma_nil)) (nomark _)) (mw_and1 (mt_tru (MQ.of (me_call (ok__law_is_siphon T) (hr.mono (by decide)) T.d__law_is_siphon.g T.d__law_is_siphon.k T.d__law_is_siphon.b takes0 (ma_cons (me_var (pv 0)) (ma_cons (me_var (pv 2)) ma_nil)))))))))) (fun _ _ _ _ _ => (me_var (pv 2)))))
    (mb_one (ms_ret (me_B1 ho_sortA (cr_sortA hr.units hr.hd) (by rfl) T.z_sorted PyProof.Rows.boot_sorted (MQ.of (me_lc ["net", "rows", "row", "other"] (defScope s__law_least) [("row", 2)] rfl nd (mi_seq (me_var (pv 1))) (by decide +kernel) (fun _ _ _ _ _ => (mg_name (i := 2) nd rfl (by first | exact Or.inl rfl | exact Or.inr rfl))) (fun _ _ _ _ _ => (mts_one (mt_cmp ho_eq (hr_eq hr.units) (me_lc ["net", "rows", "row", "other"] _ [("other", 3)] rfl nd (mi_seq (me_var (pv 1))) (by rfl) (fun _ _ _ _ _ => (mg_name (i := 3) nd rfl (by first | exact Or.inl rfl | exact Or.inr rfl))) (fun _ _ _ _ _ => (mts_one (mt_w (mw_and (mt_cmpV ho_ne (hr_ne hr.units) (pv 3) (mq_var (pv 2)) (nomark _)) (mw_and1 (mt_setLe hr.units T.z_set (me_var (pv 3)) (me_var (pv 2)))))))) (fun _ _ _ _ _ => (me_var (pv 3))) (eS := rfl)) (MQ.of (me_lst ma_nil)) (nomark _)))) (fun _ _ _ _ _ => (me_var (pv 2)))))))))
/-! _law_accepts -/
theorem sc__law_accepts : FnScope ["net", "start", "told", "least", "row", "inner", "name", "entry"] ["net", "start", "told"] (defScope s__law_accepts) := ⟨rfl, rfl, rfl, by decide +kernel, rfl, by decide +kernel, by decide +kernel⟩
def b__law_accepts : Gm → Out := (seqS (setS 3 (callM m__law_least (consM (rdV 0) nilM)))
    (seqS (ifS (tru (callM m__law_is (consM (rdV 2) (consM (ret (.str "fails")) (consM (ret (.int 2)) nilM))))) (retS (andV (op2 (inD id) (op2V ixD 2 (ret (.int 1))) (pkV 3)) (op2 eqD (lstO (compM (seqI (rdV 1)) [6] (bName 6) (tstM (op2V (inD id) 6 (callM m__law_largest (consM (callM m__law_turned_net (consM (rdV 0) nilM)) (consM (op2V ixD 2 (ret (.int 1))) nilM))))) (rdV 6))) (lstM nilM)))) nxS)
    (seqS (ifS (orT (notT (tru (callM m__law_is (consM (rdV 2) (consM (ret (.str "holds")) (consM (ret (.int 2)) nilM)))))) (orT (notT (tru (callM m__law_are_pairs_in (consM (op2V ixD 2 (ret (.int 1))) (consM (ret (.int 2)) nilM))))) (tstM (op2 neD (lstO (compM (seqI (op2V ixD 2 (ret (.int 1)))) [7] (bName 7) yesM (op2V ixD 7 (ret (.int 0))))) (pkV 3))))) (retS (ret (.bool false))) nxS)
    (seqS (forS (seqI (op2V ixD 2 (ret (.int 1)))) (bTup 2 (bCons (bName 4) (bCons (bName 5) bNil))) (seqS (ifS (orT (notT (tru (callM m__law_are_texts (consM (rdV 5) nilM)))) (orT (tstM (op2 neD (op1 listD (pkV 5)) (op1 sortSetD (rdV 5)))) (tstM (op2 neD (lstO (compM (seqI (rdV 5)) [6] (bName 6) (tstM (op2V (inD not) 6 (pkV 4))) (rdV 6))) (lstM nilM))))) (retS (ret (.bool false))) nxS)
    (ifS (orT (notT (tru (callM m__law_is_siphon (consM (callM m__law_turned_net (consM (rdV 0) nilM)) (consM (rdV 5) nilM))))) (tstM (op2 eqD (lstO (compM (seqI (rdV 1)) [6] (bName 6) (tstM (op2V (inD id) 6 (pkV 5))) (rdV 6))) (lstM nilM)))) (retS (ret (.bool false))) nxS)))
    (retS (ret (.bool true)))))))
def m__law_accepts : List PyData → Except Er PyData := runP 8 3 b__law_accepts
theorem ok__law_accepts (T : Tp K mg) : FnOk P K.w K mg base (L2.CX P K.w) 3 T.d__law_accepts.f T.d__law_accepts.fd ["net", "start", "told"] (SpP K mg m__law_accepts) := fnP (k := 2) T.d__law_accepts.F sc__law_accepts (by decide) fun cdv A outer s H E hr => by
    have nd := sc__law_accepts.nd
    exact (mb_cons (ms_set (i := 3) nd rfl (Or.inl rfl) (me_call (ok__law_least T) (hr.mono (by decide)) T.d__law_least.g T.d__law_least.k T.d__law_least.b (takes_of rfl rfl rfl rfl) (ma_cons (me_var (pv 0)) ma_nil)))
    (mb_cons (ms_if (mt_tru (MQ.of (me_call (ok__law_is T) (hr.mono (by decide)) T.d__law_is.g T.d__law_is.k T.d__law_is.b (takes_of rfl rfl rfl rfl) (ma_cons (me_var (pv 2)) (ma_cons me_str (ma_cons me_int ma_nil)))))) (mb_one (ms_ret (me_and (me_cmp ho_in (op_in (u65 hr)) (me_ixV ho_ix (ix_all hr.units) (pv 2) (MQ.of me_int) (fun _ _ => rfl)) (mq_var (pv 3)) (by with_unfolding_all rfl)) (me_one (me_cmp ho_eq (hr_eq hr.units) (me_lc ["net", "start", "told", "least", "row", "inner", "name", "entry"] (defScope s__law_accepts) [("name", 6)] rfl nd (mi_seq (me_var (pv 1))) (by decide +kernel) (fun _ _ _ _ _ => (mg_name (i := 6) nd rfl (by first | exact Or.inl rfl | exact Or.inr rfl))) (fun _ _ _ _ _ => (mts_one (mt_cmpV ho_in (op_in (u65 hr)) (pv 6) (MQ.of (me_call (ok__law_largest T) (hr.mono (by decide)) T.d__law_largest.g T.d__law_largest.k T.d__law_largest.b takes0 (ma_cons (me_call (ok__law_turned_net T) (hr.mono (by decide)) T.d__law_turned_net.g T.d__law_turned_net.k T.d__law_turned_net.b takes0 (ma_cons (me_var (pv 0)) ma_nil)) (ma_cons (me_ixV ho_ix (ix_all hr.units) (pv 2) (MQ.of me_int) (fun _ _ => rfl)) ma_nil)))) (by with_unfolding_all rfl)))) (fun _ _ _ _ _ => (me_var (pv 6)))) (MQ.of (me_lst ma_nil)) (nomark _)))))) mb_nil)
    (mb_cons (ms_if (mt_w (mw_or (mt_not (mt_tru (MQ.of (me_call (ok__law_is T) (hr.mono (by decide)) T.d__law_is.g T.d__law_is.k T.d__law_is.b (takes_of rfl rfl rfl rfl) (ma_cons (me_var (pv 2)) (ma_cons me_str (ma_cons me_int ma_nil))))))) (mw_or (mt_not (mt_tru (MQ.of (me_call (ok__law_are_pairs_in T) (hr.mono (by decide)) T.d__law_are_pairs_in.g T.d__law_are_pairs_in.k T.d__law_are_pairs_in.b (takes_of rfl rfl rfl rfl) (ma_cons (me_ixV ho_ix (ix_all hr.units) (pv 2) (MQ.of me_int) (fun _ _ => rfl)) (ma_cons me_int ma_nil)))))) (mw_or1 (mt_cmp ho_ne (hr_ne hr.units) (me_lc ["net", "start", "told", "least", "row", "inner", "name", "entry"] (defScope s__law_accepts) [("entry", 7)] rfl nd (mi_seq (me_ixV ho_ix (ix_all hr.units) (pv 2) (MQ.of me_int) (fun _ _ => rfl))) (by decide +kernel) (fun _ _ _ _ _ => (mg_name (i := 7) nd rfl (by first | exact Or.inl rfl | exact Or.inr rfl))) (fun _ _ _ _ _ => mts_nil) (fun _ _ _ _ _ => (me_ixV ho_ix (ix_all hr.units) (pv 7) (MQ.of me_int) (fun _ _ => rfl)))) (mq_var (pv 3)) (nomark _)))))) (mb_one (ms_ret me_bl)) mb_nil)
    (mb_cons (ms_for (passes_of rfl) rfl (mi_seq (me_ixV ho_ix (ix_all hr.units) (pv 2) (MQ.of me_int) (fun _ _ => rfl))) (mg_tup rfl (mgs_cons (mg_name (i := 4) nd rfl (Or.inr rfl)) (mgs_cons (mg_name (i := 5) nd rfl (Or.inr rfl)) mgs_nil))) (mb_cons (ms_if (mt_w (mw_or (mt_not (mt_tru (MQ.of (me_call (ok__law_are_texts T) (hr.mono (by decide)) T.d__law_are_texts.g T.d__law_are_texts.k T.d__law_are_texts.b (takes_of rfl rfl rfl rfl) (ma_cons (me_var (pv 5)) ma_nil))))) (mw_or (mt_cmp ho_ne (hr_ne hr.units) (me_T1 ho_list (cr_list hr.hd) (by rfl) T.z_list (by decide +kernel) (mq_var (pv 5))) (MQ.of (me_sortSet T.z_sorted T.z_set (me_var (pv 5)))) (nomark _)) (mw_or1 (mt_cmp ho_ne (hr_ne hr.units) (me_lc ["net", "start", "told", "least", "row", "inner", "name", "entry"] (defScope s__law_accepts) [("name", 6)] rfl nd (mi_seq (me_var (pv 5))) (by decide +kernel) (fun _ _ _ _ _ => (mg_name (i := 6) nd rfl (by first | exact Or.inl rfl | exact Or.inr rfl))) (fun _ _ _ _ _ => (mts_one (mt_cmpV ho_in (op_ni (u65 hr)) (pv 6) (mq_var (pv 4)) (by with_unfolding_all rfl)))) (fun _ _ _ _ _ => (me_var (pv 6)))) (MQ.of (me_lst ma_nil)) (nomark _)))))) (mb_one (ms_ret me_bl)) mb_nil)
    (mb_one (ms_if (mt_w (mw_or (mt_not (mt_tru (MQ.of (me_call (ok__law_is_siphon T) (hr.mono (by decide)) T.d__law_is_siphon.g T.d__law_is_siphon.k T.d__law_is_siphon.b (takes_of rfl rfl rfl rfl) (ma_cons (me_call (ok__law_turned_net T) (hr.mono (by decide)) T.d__law_turned_net.g T.d__law_turned_net.k T.d__law_turned_net.b (takes_of rfl rfl rfl rfl) (ma_cons (me_var (pv 0)) ma_nil)) (ma_cons (me_var (pv 5)) ma_nil)))))) (mw_or1 (mt_cmp ho_eq (hr_eq hr.units) (me_lc ["net", "start", "told", "least", "row", "inner", "name", "entry"] (defScope s__law_accepts) [("name", 6)] rfl nd (mi_seq (me_var (pv 1))) (by decide +kernel) (fun _ _ _ _ _ => (mg_name (i := 6) nd rfl (by first | exact Or.inl rfl | exact Or.inr rfl))) (fun _ _ _ _ _ => (mts_one (mt_cmpV ho_in (op_in (u65 hr)) (pv 6) (mq_var (pv 5)) (by with_unfolding_all rfl)))) (fun _ _ _ _ _ => (me_var (pv 6)))) (MQ.of (me_lst ma_nil)) (nomark _))))) (mb_one (ms_ret me_bl)) mb_nil))))
    (mb_one (ms_ret me_bl))))))
/-! law -/
theorem sc_law : FnScope ["script", "state", "seen", "turn", "net", "start", "told", "k", "asked"] ["script"] (defScope s_law) := ⟨rfl, rfl, rfl, by decide +kernel, rfl, by decide +kernel, by decide +kernel⟩
def b_law : Gm → Out := (seqS (setS 2 (lstM nilM))
    (seqS (forS (rng1 (ret (.int 3))) (bName 3) (seqS (setS 4 (callS m__law_net 1 (consM (op2 eqD (callS m__law_next 1 (consM (ret (.int 3)) nilM)) (ret (.int 0))) nilM)))
    (seqS (setS 5 (callS m__law_tokens 1 (consM (rdV 4) (consM (ret (.int 3)) nilM))))
    (seqS (setS 6 (callM m_guarded (consM (rdV 4) (consM (rdV 5) nilM))))
    (seqS (ifS (orT (notT (tru (callM m__law_accepts (consM (rdV 4) (consM (rdV 5) (consM (rdV 6) nilM)))))) (tstM (op2 (isD not) (callM m_judge_guarded (consM (rdV 4) (consM (rdV 5) (consM (rdV 6) nilM)))) (ret (.bool true))))) (retS (ret (.bool false))) nxS)
    (seqS (setS 2 (op2 addD (slMV slcD 2 (someO (op1 negD (ret (.int 3)))) noneO) (lstM (consM (rdV 6) nilM))))
    (forS (rng1 (op2 addD (ret (.int 8)) (op1 lenD (pkV 2)))) (bName 7) (seqS (setS 8 (ifM (tstM (op2V ltD 7 (ret (.int 8)))) (callS m__law_odd 1 (consM (rdV 6) nilM)) (op2V ixD 2 (op2V subD 7 (ret (.int 8))))))
    (ifS (notT (tru (callM (m__law_same 8) (consM (callM m_judge_guarded (consM (rdV 4) (consM (rdV 5) (consM (rdV 8) nilM)))) (consM (callM m__law_accepts (consM (rdV 4) (consM (rdV 5) (consM (rdV 8) nilM)))) nilM))))) (retS (ret (.bool false))) nxS)))))))))
    (retS (ret (.bool true)))))
theorem ok_law (T : Tp K mg) (h : ∀ ns : List Int, ns.length ≤ 63 → ∃ g, b_law (lawStart 9 ns) = .rt (.bool true) g) : FnOk P K.w K mg base (L2.CX P K.w) 13 T.d_law.f T.d_law.fd ["script"] (spLaw K) := fnLaw (k := 12) T.d_law.F sc_law (by decide) (fun cdv A outer s H E hr => by
    have nd := sc_law.nd
    exact pss_cons (ps_set (i := 1) nd rfl (Or.inl rfl) (pe_lst (pa_cons (pe_callTy call_list_of (by rfl) T.z_list (by decide +kernel) (pa_cons (pv 0) pa_nil)) (pa_cons pe_int (pa_cons pe_int (pa_cons pe_int pa_nil)))))) ((mb_cons (ms_set (i := 2) nd rfl (Or.inl rfl) (me_lst ma_nil))
    (mb_cons (ms_for (passes_of rfl) rfl (mi_rng1 T.z_range me_int) (mg_name (i := 3) nd rfl (Or.inl rfl)) (mb_cons (ms_set (i := 4) nd rfl (Or.inl rfl) (me_callS (ok__law_net T) (hr.mono (by decide)) T.d__law_net.g T.d__law_net.k T.d__law_net.b (takes_of rfl rfl rfl rfl) (pv 1) (ma_cons (me_cmp ho_eq (hr_eq hr.units) (me_callS (ok__law_next T) (hr.mono (by decide)) T.d__law_next.g T.d__law_next.k T.d__law_next.b (takes_of rfl rfl rfl rfl) (pv 1) (ma_cons me_int ma_nil)) (MQ.of me_int) (nomark _)) ma_nil)))
    (mb_cons (ms_set (i := 5) nd rfl (Or.inl rfl) (me_callS (ok__law_tokens T) (hr.mono (by decide)) T.d__law_tokens.g T.d__law_tokens.k T.d__law_tokens.b (takes_of rfl rfl rfl rfl) (pv 1) (ma_cons (me_var (pv 4)) (ma_cons me_int ma_nil))))
    (mb_cons (ms_set (i := 6) nd rfl (Or.inl rfl) (me_call (ok_guarded T) (hr.mono (by decide)) T.d_guarded.g T.d_guarded.k T.d_guarded.b (takes_of rfl rfl rfl rfl) (ma_cons (me_var (pv 4)) (ma_cons (me_var (pv 5)) ma_nil))))
    (mb_cons (ms_if (mt_w (mw_or (mt_not (mt_tru (MQ.of (me_call (ok__law_accepts T) (hr.mono (by decide)) T.d__law_accepts.g T.d__law_accepts.k T.d__law_accepts.b (takes_of rfl rfl rfl rfl) (ma_cons (me_var (pv 4)) (ma_cons (me_var (pv 5)) (ma_cons (me_var (pv 6)) ma_nil))))))) (mw_or1 (mt_cmp ho_is hr_isnot (me_call (ok_judge_guarded T) (hr.mono (by decide)) T.d_judge_guarded.g T.d_judge_guarded.k T.d_judge_guarded.b (takes_of rfl rfl rfl rfl) (ma_cons (me_var (pv 4)) (ma_cons (me_var (pv 5)) (ma_cons (me_var (pv 6)) ma_nil)))) (MQ.of me_bl) (nomark _))))) (mb_one (ms_ret me_bl)) mb_nil)
    (mb_cons (ms_set (i := 2) nd rfl (Or.inl rfl) (me_op ho_add hr_add (me_sliceV ho_slc hr_slc (pv 2) (mo_some (me_un ho_neg un_neg (MQ.of me_int))) mo_none) (MQ.of (me_lst (ma_cons (me_var (pv 6)) ma_nil)))))
    (mb_one (ms_for (passes_of rfl) rfl (mi_rng1 T.z_range (me_op ho_add hr_add me_int (MQ.of (me_B1 ho_len hr_len (by rfl) T.z_len PySem.boot_len (mq_var (pv 2)))))) (mg_name (i := 7) nd rfl (Or.inl rfl)) (mb_cons (ms_set (i := 8) nd rfl (Or.inl rfl) (me_ifE (mt_cmpV ho_lt op_lt (pv 7) (MQ.of me_int) (nomark _)) (me_callS (ok__law_odd T) (hr.mono (by decide)) T.d__law_odd.g T.d__law_odd.k T.d__law_odd.b (takes_of rfl rfl rfl rfl) (pv 1) (ma_cons (me_var (pv 6)) ma_nil)) (me_ixV ho_ix (ix_all hr.units) (pv 2) (MQ.of (me_opV ho_sub hr_sub (pv 7) (MQ.of me_int))) (fun _ _ => rfl))))
    (mb_one (ms_if (mt_not (mt_tru (MQ.of (me_call (ok__law_same T 8) (hr.mono (by decide)) T.d__law_same.g T.d__law_same.k T.d__law_same.b (takes_of rfl rfl rfl rfl) (ma_cons (me_call (ok_judge_guarded T) (hr.mono (by decide)) T.d_judge_guarded.g T.d_judge_guarded.k T.d_judge_guarded.b (takes_of rfl rfl rfl rfl) (ma_cons (me_var (pv 4)) (ma_cons (me_var (pv 5)) (ma_cons (me_var (pv 8)) ma_nil)))) (ma_cons (me_call (ok__law_accepts T) (hr.mono (by decide)) T.d__law_accepts.g T.d__law_accepts.k T.d__law_accepts.b (takes_of rfl rfl rfl rfl) (ma_cons (me_var (pv 4)) (ma_cons (me_var (pv 5)) (ma_cons (me_var (pv 8)) ma_nil)))) ma_nil)))))) (mb_one (ms_ret me_bl)) mb_nil)))))))))))
    (mb_one (ms_ret me_bl)))))) h
end Pf
namespace Pf
open PySem Mi L2
/-! ### what the law's own helpers do -/
/-- the state of the drawing -/
def St (s : PyData) : Prop := ∃ (ns : List Int) (i a b : Int), s = .list [.list (ns.map .int), .int i, .int a, .int b] ∧ 0 ≤ i ∧ 0 ≤ a
def Nx (lim : Int) (d : PyData) : Prop := ∃ r : Int, d = .int r ∧ 0 ≤ r ∧ r < lim
theorem fmod_rng {a b : Int} (h : 0 < b) : 0 ≤ a.fmod b ∧ a.fmod b < b := ⟨Int.fmod_nonneg_of_pos a h, Int.fmod_lt_of_pos a h⟩
theorem next_ok {s : PyData} (hs : St s) {lim : Int} (h0 : 0 < lim) (h1 : lim < 1073741824) : okS (m__law_next s [.int lim]) (fun d s' => Nx lim d ∧ St s') fun _ => False := by
  obtain ⟨ns, i, a, b, rfl, hi, ha⟩ := hs
  unfold m__law_next
  rw [okS_runS]
  unfold b__law_next
  have hz : lim ≠ 0 := by omega
  have hm : lim.natAbs < 1073741824 := by omega
  have ix0 : ∀ x : PyData, L2.ixN 4 2 = some 2 := fun _ => rfl
  have tail : ∀ (i a b : Int) (s2 s3 : Sl), 0 ≤ i → 0 ≤ a → sv (seqS (ifS (tstM (op2 gtD (op2V ixD 0 (ret (.int 2))) (ret (.int 0)))) (seqS (setS 3 (op2 modD (op1 intOf (op2V ixD 0 (ret (.int 2)))) (pkV 1)))
    (seqS (stoS 0 (ret (.int 2)) (op2 fdivD (op2V ixD 0 (ret (.int 2))) (pkV 1)))
    (retS (rdV 3)))) nxS)
    (seqS (stoS 0 (ret (.int 3)) (op2 modD (op1 intOf (op2 addD (op2 mulD (op2V ixD 0 (ret (.int 3))) (ret (.int 69621))) (ret (.int 12345)))) (ret (.int 2147483647))))
    (retS (op2 modD (op1 intOf (op2 fdivD (op2V ixD 0 (ret (.int 3))) (ret (.int 7)))) (pkV 1))))) [.own true (.list [.list (ns.map .int), .int i, .int a, .int b]), .dat (.int lim), s2, s3] (fun o => match o with
    | .rt d g => (match g[0]? with | some (Sl.own true s') => Nx lim d ∧ St s' | _ => False)
    | .nx g => (match g[0]? with | some (Sl.own true s') => Nx lim .none ∧ St s' | _ => False)
    | .ex c _ => False
    | _ => False) := by
    intro i a b s2 s3 hi ha
    simp
    by_cases h : 0 < a
    · simp [h, hz, hm, L2.ixN]
      exact ⟨⟨_, rfl, fmod_rng h0⟩, ns, i, _, b, rfl, hi, by rw [Int.fdiv_eq_ediv_of_nonneg _ (by omega)]; exact Int.ediv_nonneg ha (by omega)⟩
    · simp [h, hz, hm, L2.ixN, mulC]
      exact ⟨⟨_, rfl, fmod_rng h0⟩, ns, i, _, _, rfl, hi, ha⟩
  have front : ∀ (lim : Int) (P : Out → Prop), (∀ (i a b : Int) (s2 s3 : Sl), 0 ≤ i → 0 ≤ a → P (.nx [.own true (.list [.list (ns.map .int), .int i, .int a, .int b]), .dat (.int lim), s2, s3])) → sv (ifS (andT (tstM (op2 eqD (op2V ixD 0 (ret (.int 2))) (ret (.int 0)))) (tstM (op2 ltD (op2V ixD 0 (ret (.int 1))) (op1 lenD (op2V ixD 0 (ret (.int 0))))))) (seqS (setS 2 (op2 ixD (op2V ixD 0 (ret (.int 0))) (op2V ixD 0 (ret (.int 1)))))
    (seqS (augI iaddD 0 (ret (.int 1)) (ret (.int 1)))
    (ifS (tstM (op2V geD 2 (op2 powD (ret (.int 10)) (ret (.int 18))))) (stoS 0 (ret (.int 2)) (rdV 2)) (stoS 0 (ret (.int 3)) (op2 modD (op1 intOf (op2 addD (op2 addD (op2 mulD (op2V ixD 0 (ret (.int 3))) (ret (.int 48271))) (op2 modD (op1 intOf (pkV 2)) (ret (.int 2147483647)))) (ret (.int 7)))) (ret (.int 2147483647))))))) nxS) [.own true (.list [.list (ns.map .int), .int i, .int a, .int b]), .dat (.int lim), .dead, .dead] P := by
    intro lim P hP
    simp
    by_cases h : a = 0 ∧ i < ns.length
    · obtain ⟨rfl, h2⟩ := h
      simp [h2]
      refine okO_at hi (by simpa using h2) fun x hx => ?_
      obtain ⟨c, _, rfl⟩ := List.mem_map.mp hx
      simp [L2.ixN]
      by_cases h3 : (1000000000000000000 : Int) ≤ c
      · simp [h3]
        exact hP _ _ _ _ _ (by omega) (by omega)
      · simp [h3, mulC]
        exact hP _ _ _ _ _ (by omega) (by omega)
    · by_cases h1 : a = 0
      · subst h1
        have h2 : ¬ i < ns.length := fun h2 => h ⟨rfl, h2⟩
        simp [h2]
        exact hP _ _ _ _ _ hi ha
      · simp [h1]
        exact hP _ _ _ _ _ hi ha
  refine ⟨rfl, ?_⟩
  rw [sv_seqS]
  exact front lim _ fun i a b s2 s3 h1 h2 => tail i a b s2 s3 h1 h2
end Pf
namespace Pf
open PySem Mi L2
theorem szl : sizeLine = 16777216 := rfl
theorem Wd.up : ∀ {n : Nat} {d : PyData}, Wd n d → Wd (n + 1) d
  | n + 1, d, h => by
    cases d with
    | tuple xs => exact ⟨h.1, fun x hx => Wd.up (h.2 x hx)⟩
    | list xs => exact h.elim
    | dict xs => exact h.elim
    | _ => exact h
theorem tl {i : Int} (h : i.natAbs.log2 < 1900) : i.natAbs.log2 < 1920 := by omega
theorem next_run {s : PyData} (hs : St s) {lim : Int} {P : PyData → PyData → Prop} {X : String → Prop} (h0 : 0 < lim) (h1 : lim < 1073741824) (k : ∀ (r : Int) (s' : PyData), 0 ≤ r → r < lim → St s' → P (.int r) s') : okS (m__law_next s [.int lim]) P X :=
  okS_imp (next_ok hs h0 h1) fun _ s' ⟨⟨r, e, a, b⟩, hs'⟩ => by subst e; exact k r s' a b hs'
theorem ne_nil {xs : List PyData} {P : PyData → Prop} (h : PyData.canLay0 (.tuple xs) = true) : okO (neD (.tuple xs) (.tuple [])) P ↔ P (.bool (!xs.isEmpty)) := ne_nilT
theorem eq_nil {xs : List PyData} {P : PyData → Prop} (h : PyData.canLay0 (.tuple xs) = true) : okO (eqD (.tuple xs) (.tuple [])) P ↔ P (.bool xs.isEmpty) := eq_nilT
/-- an asked paper: bounded, no dict within -/
def Zd : Nat → PyData → Prop
  | 0, _ => False
  | n + 1, d => match d with
    | .tuple xs => xs.length ≤ 4000000 ∧ ∀ x ∈ xs, Zd n x
    | .list xs => xs.length ≤ 4000000 ∧ ∀ x ∈ xs, Zd n x
    | .dict kvs => kvs = []
    | _ => True
theorem Zd.up : ∀ {n : Nat} {d : PyData}, Zd n d → Zd (n + 1) d
  | n + 1, d, h => by
    cases d with
    | tuple xs => exact ⟨h.1, fun x hx => Zd.up (h.2 x hx)⟩
    | list xs => exact ⟨h.1, fun x hx => Zd.up (h.2 x hx)⟩
    | dict xs => exact h
    | _ => trivial
theorem Wd.zd : ∀ {n : Nat} {d : PyData}, Wd n d → Zd n d
  | n + 1, d, h => by
    cases d with
    | tuple xs => exact ⟨Nat.le_trans h.1 (by decide), fun x hx => Pf.Wd.zd (h.2 x hx)⟩
    | list xs => exact h.elim
    | dict xs => exact h.elim
    | _ => trivial
/-- the parts of one -/
structure Zs (b n : Nat) (xs : List PyData) : Prop where
  l : xs.length ≤ b
  m : ∀ x ∈ xs, Zd n x
theorem Zs.app {b c n : Nat} {xs ys : List PyData} (h : Zs b n xs) (k : Zs c n ys) : Zs (b + c) n (xs ++ ys) :=
  ⟨by rw [List.length_append]; exact Nat.add_le_add h.l k.l, fun x hx => by
    rcases List.mem_append.mp hx with q | q
    · exact h.m x q
    · exact k.m x q⟩
theorem Zs.cut {b n : Nat} {xs : List PyData} (h : Zs b n xs) {lo hi : Option Int} : Zs b n (cutD xs lo hi) := ⟨Nat.le_trans cut_le h.l, fun x hx => h.m x (cut_mem hx)⟩
theorem Zs.rev {b n : Nat} {xs : List PyData} (h : Zs b n xs) : Zs b n xs.reverse := ⟨by simpa using h.l, fun x hx => h.m x (by simpa using hx)⟩
theorem Zs.one {n : Nat} {x : PyData} (h : Zd n x) : Zs 1 n [x] := ⟨Nat.le_refl _, fun y hy => by rw [List.mem_singleton.mp hy]; exact h⟩
theorem Zs.con {b n : Nat} {x : PyData} {xs : List PyData} (h : Zd n x) (k : Zs b n xs) : Zs (b + 1) n (x :: xs) := ⟨Nat.succ_le_succ k.l, fun y hy => by
  rcases List.mem_cons.mp hy with rfl | q
  · exact h
  · exact k.m y q⟩
theorem Zs.nil {n : Nat} : Zs 0 n [] := ⟨Nat.le_refl _, fun y hy => nomatch hy⟩
theorem Zs.tup {b n : Nat} {xs : List PyData} (h : Zs b n xs) (hb : b ≤ 4000000 := by omega) : Zd (n + 1) (.tuple xs) := ⟨Nat.le_trans h.l hb, h.m⟩
theorem Zs.lst {b n : Nat} {xs : List PyData} (h : Zs b n xs) (hb : b ≤ 4000000 := by omega) : Zd (n + 1) (.list xs) := ⟨Nat.le_trans h.l hb, h.m⟩
@[simp ↓] theorem okO_bTup {n : Nat} {bs : List PyData → Gm → Option Gm} {ds : List PyData} {g : Gm} {P : Gm → Prop} : okO (bTup n bs (.tuple ds) g) P ↔ ds.length = n ∧ okO (bs ds g) P := by
  unfold bTup
  by_cases h : ds.length = n
  · simp only [h, if_true, true_and]
  · simp only [h, if_false, false_and]
    exact Iff.rfl
@[simp ↓] theorem okO_bCons {b : PyData → Gm → Option Gm} {bs : List PyData → Gm → Option Gm} {d : PyData} {ds : List PyData} {g : Gm} {P : Gm → Prop} : okO (bCons b bs (d :: ds) g) P ↔ okO (b d g) fun g1 => okO (bs ds g1) P := by
  show okO (match b d g with | some g' => bs ds g' | none => none) P ↔ _
  cases b d g with
  | none => exact Iff.rfl
  | some g1 => exact Iff.rfl
@[simp ↓] theorem okO_bNil {g : Gm} {P : Gm → Prop} : okO (bNil [] g) P ↔ P g := Iff.rfl
theorem mul2 {j : Int} : mulC 2 j = true := by simp [mulC]
@[simp] theorem len_a : (Str.ofString "a").length = 1 := rfl
@[simp] theorem len_b : (Str.ofString "b").length = 1 := rfl
theorem none_one {P : PyData → Prop} : okO (eqD .none (.int 1)) P ↔ P (.bool false) := Iff.rfl
end Pf
namespace Pf
open PySem Mi L2
end Pf
namespace Pf
open PySem Mi L2
/-- how many whole numbers a paper has -/
def cntN : Nat → PyData → Nat
  | 0, _ => 0
  | n + 1, d => match d with
    | .int _ => 1
    | .tuple xs => (xs.map (cntN n)).sum
    | _ => 0
theorem all_ints {zs : List PyData} (h : ∀ z ∈ zs, ∃ i : Int, z = .int i) : ∃ ns : List Int, zs = ns.map .int := by
  induction zs with
  | nil => exact ⟨[], rfl⟩
  | cons z zs ih =>
    obtain ⟨i, rfl⟩ := h z (by simp)
    obtain ⟨ns, rfl⟩ := ih fun z hz => h z (by simp [hz])
    exact ⟨i :: ns, rfl⟩
theorem nd_ints (ns : List Int) : DcEq.ndAll (ns.map PyData.int) = true := by
  induction ns <;> simp_all [DcEq.ndAll, DcEq.ndB]
theorem int_in {i : Int} {ns : List Int} {g : Bool → Bool} {P : PyData → Prop} : okO (inD g (.int i) (.list (ns.map .int))) P ↔ P (.bool (g ((ns.map PyData.int).any fun z => PyData.eqv z (.int i)))) := by
  rw [in_lst]
  have : lowI (.int i) (.list (ns.map .int)) = true := by
    simp [lowI, DcEq.ndB, nd_ints, PyData.depth]
  simp only [this, true_and]
theorem ints_ok : ∀ {n : Nat} {d : PyData}, Wd n d → cntN n d ≤ 10000000 → okP (m__law_ints n [d]) (fun z => ∃ ns : List Int, z = .list (ns.map .int) ∧ ns.length ≤ cntN n d) fun _ => False
  | n + 1, d, h, hc => by
    show okP (runP 4 1 (b__law_ints (m__law_ints n)) [d]) _ _
    rw [okP_runP]
    refine ⟨rfl, ?_⟩
    unfold b__law_ints
    cases d with
    | none => simp [szl]
    | bool b => simp [szl]
    | str a => simp [szl]
    | int i =>
      simp [szl]
      exact ⟨[i], by simp, by simp [cntN]⟩
    | tuple xs =>
      simp [szl]
      have e : cntN (n + 1) (.tuple xs) = (xs.map (cntN n)).sum := rfl
      rw [e] at hc ⊢
      refine svO_inv (fun rem g => ∃ (ns : List Int) (s2 s3 : Sl), g = [.dat (.tuple xs), .dat (.list (ns.map .int)), s2, s3] ∧ ns.length + (rem.map (cntN n)).sum ≤ (xs.map (cntN n)).sum ∧ ∀ d ∈ rem, Wd n d) ⟨[], _, _, rfl, by simp, h.2⟩ ?_ ?_
      · rintro d rem _ ⟨ns, s2, s3, rfl, hs, hr⟩
        have hs' : ns.length + (cntN n d + (rem.map (cntN n)).sum) ≤ (xs.map (cntN n)).sum := by simpa using hs
        simp
        refine okP_imp (ints_ok (hr d (by simp)) (by omega)) ?_
        rintro _ ⟨ms, rfl, hm⟩
        simp
        refine ⟨by rw [szl]; omega, ?_⟩
        refine okC_inv (fun g' => g' = _) (fun z => ∃ i : Int, z = .int i) rfl (fun d hd g' e => ?_) (fun zs g' e l hz => ?_)
        · subst e
          obtain ⟨i, _, rfl⟩ := List.mem_map.mp hd
          simp [wipeG, -in_lst, int_in]
        · subst e
          obtain ⟨ks, rfl⟩ := all_ints hz
          have hk : ks.length ≤ ms.length := by simpa using l
          simp [wipeG, szl]
          exact ⟨by omega, ns ++ ks, by simp, by simp; omega, fun d hd => hr d (by simp [hd])⟩
      · rintro _ ⟨ns, s2, s3, rfl, hs, _⟩
        simp
        exact ⟨ns, rfl, by simpa using hs⟩
    | list xs => exact h.elim
    | dict xs => exact h.elim
end Pf
namespace Pf
open PySem Mi L2
theorem strs_of (ys : List Str) : strsOf (ys.map PyData.str) = some ys := by
  induction ys with
  | nil => rfl
  | cons y ys ih => simp [strsOf, ih]
theorem join_tup {ys : List Str} {P : PyData → Prop} : okO (joinD "" (.tuple (ys.map .str))) P ↔ (ys.map (·.length)).sum ≤ 16777216 ∧ P (.str (Txt.join "" ys)) := by
  unfold joinD
  have e : seqD (.tuple (ys.map PyData.str)) = some (ys.map PyData.str) := rfl
  have e0 : (Str.ofString "").length = 0 := rfl
  simp only [e, strs_of, e0, Nat.mul_zero, Nat.add_zero]
  rw [okO_if]
theorem cut_map {α β : Type} {f : α → β} {xs : List α} {lo hi : Option Int} : cutD (xs.map f) lo hi = (cutD xs lo hi).map f := by
  unfold cutD
  rw [List.length_map, List.map_take, List.map_drop]
theorem join_len : ∀ (ys : List Str), (Txt.join "" ys).length = (ys.map (·.length)).sum := by
  intro ys
  rw [TL.join_eq]
  induction ys with
  | nil => rfl
  | cons y ys ih =>
    cases ys with
    | nil => simp [Str.join]
    | cons z zs =>
      have e : Str.join "" (y :: z :: zs) = y ++ "" ++ Str.join "" (z :: zs) := rfl
      rw [e, appS_len, appS_len, ih]
      have e0 : (Str.ofString "").length = 0 := rfl
      simp only [e0, List.map_cons, List.sum_cons]
      omega
theorem sum_le {ys : List Str} (h : ∀ y ∈ ys, y.length ≤ 1000) : (ys.map (·.length)).sum ≤ 1000 * ys.length := by
  induction ys with
  | nil => simp
  | cons y ys ih =>
    have h1 := h y (by simp)
    have h2 := ih fun z hz => h z (by simp [hz])
    simp only [List.map_cons, List.sum_cons, List.length_cons]
    omega
theorem all_strs {xs : List PyData} (h : ∀ x ∈ xs, isaD "str" x = true) : ∃ ys : List Str, xs = ys.map .str := by
  induction xs with
  | nil => exact ⟨[], rfl⟩
  | cons x xs ih =>
    have h1 := h x (by simp)
    obtain ⟨ys, rfl⟩ := ih fun z hz => h z (by simp [hz])
    cases x with
    | str a => exact ⟨a :: ys, rfl⟩
    | _ => simp at h1
theorem lay_sub {xs zs : List PyData} (h : ∀ z ∈ zs, z ∈ xs) (l : PyData.canLayAll0 xs = true) : PyData.canLayAll0 zs = true := by
  have all : ∀ xs : List PyData, PyData.canLayAll0 xs = true ↔ ∀ x ∈ xs, x.canLay0 = true := by
    intro xs
    induction xs <;> simp_all [PyData.canLayAll0]
  rw [all] at l ⊢
  exact fun z hz => l z (h z hz)
/-- what cutting makes of a paper -/
def Cz (d z : PyData) : Prop := ∀ xs, d = .tuple xs → ∃ zs, z = .tuple zs ∧ zs.length ≤ 2000000
theorem zs_strs {n b : Nat} {ys : List Str} (h : ys.length ≤ b) : Zs b (n + 1) (ys.map PyData.str) := ⟨by simpa using h, fun x hx => by
  obtain ⟨y, _, rfl⟩ := List.mem_map.mp hx
  trivial⟩
end Pf
namespace Pf
open PySem Mi L2
theorem svO_rng {a : Gm → Out} {b : PyData → Gm → Option Gm} {PO : Out → Prop} {g : Gm} {N : Nat} (I : Nat → Gm → Prop) (h0 : I 0 g) (hs : ∀ i < N, ∀ g, I i g → okO (b (.int (i : Nat)) g) fun g1 => sv a g1 fun o => match o with
      | .nx g2 => I (i + 1) g2
      | .ct g2 => I (i + 1) g2
      | .bk g2 => PO (.nx g2)
      | o => PO o) (hQ : ∀ g, I N g → PO (.nx g)) : svO (forL b a (rngD 0 (N : Nat)) g) PO := by
  have er : rngD 0 (N : Nat) = (List.range' 0 (N - 0)).map fun k => PyData.int (k : Nat) := by
    unfold rngD
    rw [List.range_eq_range']
    simp
  rw [er]
  refine svO_inv (fun rem g => ∃ i ≤ N, rem = (List.range' i (N - i)).map (fun k => PyData.int (k : Nat)) ∧ I i g) ⟨0, Nat.zero_le _, rfl, h0⟩ ?_ ?_
  · rintro d ds g ⟨i, hi, e, hI⟩
    have hlt : i < N := by
      rcases Nat.lt_or_ge i N with h | h
      · exact h
      · rw [show N - i = 0 by omega] at e
        cases e
    rw [show N - i = (N - (i + 1)) + 1 by omega, List.range'_succ, List.map_cons] at e
    injection e with e1 e2
    subst e1 e2
    refine okO_imp (hs i hlt g hI) fun g1 h => sv_mono h fun o h => ?_
    cases o with
    | nx g2 => exact ⟨i + 1, hlt, rfl, h⟩
    | ct g2 => exact ⟨i + 1, hlt, rfl, h⟩
    | _ => exact h
  · rintro g ⟨i, hi, e, hI⟩
    have : i = N := by
      rcases Nat.lt_or_ge i N with h | h
      · rw [show N - i = (N - (i + 1)) + 1 by omega, List.range'_succ] at e
        cases e
      · omega
    subst this
    exact hQ g hI
/-- what is expected is like what is there -/
def sameB : Nat → PyData → PyData → Bool
  | 0, _, _ => false
  | n + 1, a, e => match e with
    | .none => (match a with | .none => true | _ => false)
    | .bool q => (match a with | .bool p => p == q | _ => false)
    | .int j => (match a with | .int i => i == j | _ => false)
    | .str y => (match a with | .str x => x == y | _ => false)
    | .tuple ys => (match a with | .tuple xs => xs.length == ys.length && (xs.zip ys).all fun p => sameB n p.1 p.2 | _ => false)
    | .list ys => (match a with | .list xs => xs.length == ys.length && (xs.zip ys).all fun p => sameB n p.1 p.2 | _ => false)
    | .dict _ => false
/-- no dict, no deeper, no longer -/
def Fit : Nat → PyData → Prop
  | 0, _ => False
  | n + 1, e => match e with
    | .tuple ys => ys.length ≤ 1000000 ∧ ∀ y ∈ ys, Fit n y
    | .list ys => ys.length ≤ 1000000 ∧ ∀ y ∈ ys, Fit n y
    | .dict _ => False
    | _ => True
theorem eq_bool {p q : Bool} {P : PyData → Prop} : okO (eqD (.bool p) (.bool q)) P ↔ P (.bool (p == q)) := by
  rw [eq_any]
  have : lowD (.bool p) (.bool q) = true := rfl
  simp only [this, true_and]
  simp [PyData.eqv]
theorem all_upto {α : Type} {xs ys : List α} {f : α × α → Bool} (hl : xs.length = ys.length) (h : ∀ i (h1 : i < xs.length) (h2 : i < ys.length), f (xs[i], ys[i]) = true) : (xs.zip ys).all f = true := by
  rw [List.all_eq_true]
  intro p hp
  obtain ⟨i, hi, e⟩ := List.mem_iff_getElem.mp hp
  rw [← e, List.getElem_zip]
  exact h i _ _
theorem all_not {α : Type} {xs ys : List α} {f : α × α → Bool} {i : Nat} (h1 : i < xs.length) (h2 : i < ys.length) (h : f (xs[i], ys[i]) = false) : (xs.zip ys).all f = false := by
  cases e : (xs.zip ys).all f with
  | false => rfl
  | true =>
    rw [List.all_eq_true] at e
    have hi : i < (xs.zip ys).length := by simp; omega
    have := e (xs.zip ys)[i] (List.getElem_mem hi)
    rw [List.getElem_zip, h] at this
    cases this
theorem same_run : ∀ {n : Nat} {a e : PyData}, Fit n e → okP (m__law_same n [a, e]) (fun z => z = .bool (sameB n a e)) fun _ => False
  | n + 1, a, e, h => by
    show okP (runP 3 2 (b__law_same (m__law_same n)) [a, e]) _ _
    rw [okP_runP]
    refine ⟨rfl, ?_⟩
    unfold b__law_same
    cases e with
    | none => simp; cases a <;> rfl
    | bool q => cases a <;> simp [sameB, eq_bool]
    | int j => cases a <;> simp [sameB]
    | str y => cases a <;> simp [sameB]
    | tuple ys =>
      cases a with
      | tuple xs =>
        have h1 : ys.length ≤ 1000000 := h.1
        simp
        by_cases hl : xs.length = ys.length
        · simp [hl]
          refine ⟨by omega, ?_⟩
          refine svO_rng (fun i g => (∃ s, g = [.dat (.tuple xs), .dat (.tuple ys), s]) ∧ ∀ j, j < i → ∀ (h1 : j < xs.length) (h2 : j < ys.length), sameB n xs[j] ys[j] = true) ⟨⟨_, rfl⟩, by simp⟩ ?_ ?_
          · rintro i hi _ ⟨⟨s, rfl⟩, hp⟩
            have hi' : i < xs.length := by omega
            simp [atI_nat hi, atI_nat hi']
            refine okP_imp (same_run (h.2 _ (List.getElem_mem hi))) ?_
            rintro _ rfl
            by_cases hb : sameB n xs[i] ys[i] = true
            · simp [hb]
              intro j hj h1 h2
              rcases Nat.lt_or_ge j i with q | q
              · exact hp j q h1 h2
              · have : j = i := by omega
                subst this
                exact hb
            · simp [hb, sameB, hl]
              have hb' : sameB n xs[i] ys[i] = false := by simpa using hb
              simpa using all_not (f := fun p => sameB n p.1 p.2) hi' hi hb'
          · rintro g ⟨⟨s, rfl⟩, hp⟩
            simp [sameB, hl]
            simpa using all_upto (f := fun p => sameB n p.1 p.2) hl fun i h1 h2 => hp i (by omega) h1 h2
        · have hl' : ¬ (xs.length : Int) = ys.length := by omega
          simp [hl, hl', sameB]
      | _ => simp [sameB]
    | list ys =>
      cases a with
      | list xs =>
        have h1 : ys.length ≤ 1000000 := h.1
        simp
        by_cases hl : xs.length = ys.length
        · simp [hl]
          refine ⟨by omega, ?_⟩
          refine svO_rng (fun i g => (∃ s, g = [.dat (.list xs), .dat (.list ys), s]) ∧ ∀ j, j < i → ∀ (h1 : j < xs.length) (h2 : j < ys.length), sameB n xs[j] ys[j] = true) ⟨⟨_, rfl⟩, by simp⟩ ?_ ?_
          · rintro i hi _ ⟨⟨s, rfl⟩, hp⟩
            have hi' : i < xs.length := by omega
            simp [atI_nat hi, atI_nat hi']
            refine okP_imp (same_run (h.2 _ (List.getElem_mem hi))) ?_
            rintro _ rfl
            by_cases hb : sameB n xs[i] ys[i] = true
            · simp [hb]
              intro j hj h1 h2
              rcases Nat.lt_or_ge j i with q | q
              · exact hp j q h1 h2
              · have : j = i := by omega
                subst this
                exact hb
            · simp [hb, sameB, hl]
              have hb' : sameB n xs[i] ys[i] = false := by simpa using hb
              simpa using all_not (f := fun p => sameB n p.1 p.2) hi' hi hb'
          · rintro g ⟨⟨s, rfl⟩, hp⟩
            simp [sameB, hl]
            simpa using all_upto (f := fun p => sameB n p.1 p.2) hl fun i h1 h2 => hp i (by omega) h1 h2
        · have hl' : ¬ (xs.length : Int) = ys.length := by omega
          simp [hl, hl', sameB]
      | _ => simp [sameB]
    | dict xs => exact h.elim
end Pf
namespace Pf
open PySem Mi L2
/-- a paper that is told -/
structure Tld (x : PyData) (xs : List PyData) : Prop where
  w : Wd 8 (.tuple (x :: xs))
  c : cntN 8 (.tuple (x :: xs)) ≤ 10000000
end Pf
namespace Pf
open PySem Mi L2
/-- a paper with a word and so many parts -/
def hdB (w : Str) (n : Nat) : PyData → Bool
  | .tuple (.str a :: xs) => a == w && xs.length + 1 == n
  | _ => false
theorem hd_two {w : Str} {n : Nat} {d : PyData} (h : hdB w n d = true) : ∃ xs, d = .tuple (.str w :: xs) ∧ xs.length + 1 = n := by
  unfold hdB at h
  split at h
  · rename_i a xs
    simp only [Bool.and_eq_true, beq_iff_eq] at h
    exact ⟨xs, by rw [h.1], h.2⟩
  · cases h
theorem is_ok {w : Str} {n : Nat} {d : PyData} (hn : 0 < n) {P : PyData → Prop} {X : String → Prop} : okP (m__law_is [d, .str w, .int (n : Nat)]) P X ↔ P (.bool (hdB w n d)) := by
  unfold m__law_is
  rw [okP_runP]
  unfold b__law_is
  cases d with
  | tuple zs =>
    cases zs with
    | nil =>
      have e : ((0 : Int) == (n : Int)) = false := beq_eq_false_iff_ne.mpr (by omega)
      simp [hdB, e]
    | cons x xs =>
      by_cases hl : xs.length + 1 = n
      · have e : (((xs.length : Int) + 1) == (n : Int)) = true := beq_iff_eq.mpr (by omega)
        cases x <;> simp [hdB, e, hl]
      · have e : (((xs.length : Int) + 1) == (n : Int)) = false := beq_eq_false_iff_ne.mpr (by omega)
        have e2 : (xs.length + 1 == n) = false := beq_eq_false_iff_ne.mpr hl
        cases x <;> simp [hdB, e, e2]
  | _ => simp [hdB]
end Pf
namespace Pf
open PySem Mi L2
theorem told_ok {w : Str} {n : Nat} {d : PyData} (hn : 0 < n) {P : PyData → Prop} {X : String → Prop} : okP (m_is_told [d, .str w, .int (n : Nat)]) P X ↔ P (.bool (hdB w n d)) := by
  unfold m_is_told
  rw [okP_runP]
  unfold b_is_told
  cases d with
  | tuple zs =>
    cases zs with
    | nil =>
      have e : ¬ ((0 : Int) = (n : Int)) := by omega
      simp [hdB, e]
    | cons x xs =>
      by_cases hl : xs.length + 1 = n
      · have e : ((xs.length : Int) + 1) = (n : Int) := by omega
        cases x <;> simp [hdB, e, hl]
      · have e : ¬ ((xs.length : Int) + 1) = (n : Int) := by omega
        have e2 : (xs.length + 1 == n) = false := beq_eq_false_iff_ne.mpr hl
        cases x <;> simp [hdB, e, e2]
  | _ => simp [hdB]
end Pf
namespace Pf
open PySem Mi L2
theorem same_bool {p q : Bool} {P : PyData → Prop} {X : String → Prop} : okP (m__law_same 8 [.bool p, .bool q]) P X ↔ P (.bool (p == q)) := by
  have h := same_run (n := 8) (a := .bool p) (e := .bool q) trivial
  generalize m__law_same 8 [.bool p, .bool q] = z at h
  rw [of_okP h]
  exact Iff.rfl
/-- what a statement comes to, not to be looked into -/
structure SV (b : Gm → Out) (g : Gm) (P : Out → Prop) : Prop where
  h : sv b g P
theorem SV.step {a b : Gm → Out} {g : Gm} {PO : Out → Prop} (J : Gm → Prop) (h : SV a g fun o => ∃ g1, o = .nx g1 ∧ J g1) (k : ∀ g1, J g1 → SV b g1 PO) : SV (seqS a b) g PO := by
  constructor
  rw [sv_seqS]
  refine sv_mono h.h fun o ⟨g1, e, j⟩ => ?_
  rw [e]
  exact (k g1 j).h
theorem SV.rng {e : MM PyData} {n N : Nat} {a : Gm → Out} {g : Gm} {PO : Out → Prop} (I : Nat → Gm → Prop) (hN : N < 1000000) (he : ev e g (fun d g' => d = .int N ∧ g' = g) noX) (h0 : I 0 g) (hs : ∀ i < N, ∀ g, I i g → SV a (g.set n (.dat (.int i))) fun o => ∃ g2, o = .nx g2 ∧ I (i + 1) g2) (hQ : ∀ g, I N g → PO (.nx g)) : SV (forS (rng1 e) (bName n) a) g PO := by
  constructor
  rw [sv_forS, ev_rng1]
  have he' : ev e g (fun d g' => d = .int N ∧ g' = g) (fun c g' => PO (.ex c g')) := by
    unfold ev okE at he ⊢
    generalize e g = q at he
    rcases q with (_ | ⟨c, g'⟩) | ⟨d, g'⟩
    · exact he
    · exact he.elim
    · exact he
  refine ev_mono he' fun d g' ⟨e1, e2⟩ => ?_
  subst e1 e2
  refine ⟨by omega, ?_⟩
  refine svO_rng (N := N) I h0 (fun i hi g hI => ?_) hQ
  rw [okO_name]
  refine sv_mono (hs i hi g hI).h fun o ⟨g2, e, j⟩ => ?_
  rw [e]
  exact j
theorem eq_iff {r : Except Er PyData} {d : PyData} (h : r = .ok d) {P : PyData → Prop} {X : String → Prop} : okP r P X ↔ P d := by
  rw [h]
  exact Iff.rfl
theorem all_cut {xs : List PyData} {Q : PyData → Prop} (h : ∀ x ∈ xs, Q x) {lo hi : Option Int} : ∀ x ∈ cutD xs lo hi, Q x := fun x hx => h x (cut_mem hx)
end Pf
namespace Pf
open PySem Mi L2
/-! nets as the law draws them -/
abbrev Step := Str × List Str × List Str
def txs (xs : List Str) : List PyData := xs.map PyData.str
def stD (s : Step) : PyData := .tuple [.str s.1, .tuple (txs s.2.1), .tuple (txs s.2.2)]
def Pl : List Str := ["a", "b1", "c", "d_"]
def Nm : List Str := ["t", "u2", "v", "w_"]
structure OkS (s : Step) : Prop where
  n : s.1 ∈ Nm
  l1 : s.2.1.length ≤ 2
  l2 : s.2.2.length ≤ 2
  m1 : ∀ x ∈ s.2.1, x ∈ Pl
  m2 : ∀ x ∈ s.2.2, x ∈ Pl
structure WN (ns : List Step) : Prop where
  l : ns.length ≤ 4
  n : ns.map (·.1) = Nm.take ns.length
  a : ∀ s ∈ ns, OkS s
theorem txs_len (xs : List Str) : (txs xs).length = xs.length := List.length_map ..
theorem rng_len {n : Int} : (rngD 0 n).length = n.toNat := by simp [rngD]
theorem pick_pl {r : Int} (h0 : 0 ≤ r) (h1 : r < 4) : ∃ x ∈ Pl, L2.atI [PyData.str "a", .str "b1", .str "c", .str "d_"] r = some (.str x) := by
  have : r = 0 ∨ r = 1 ∨ r = 2 ∨ r = 3 := by omega
  rcases this with rfl | rfl | rfl | rfl
  · exact ⟨"a", by decide, rfl⟩
  · exact ⟨"b1", by decide, rfl⟩
  · exact ⟨"c", by decide, rfl⟩
  · exact ⟨"d_", by decide, rfl⟩
theorem all_str {zs : List PyData} (h : ∀ z ∈ zs, ∃ x ∈ Pl, z = .str x) : ∃ xs : List Str, zs = txs xs ∧ ∀ x ∈ xs, x ∈ Pl := by
  induction zs with
  | nil => exact ⟨[], rfl, by simp⟩
  | cons z zs ih =>
    obtain ⟨x, hx, rfl⟩ := h z (by simp)
    obtain ⟨xs, rfl, hs⟩ := ih fun y hy => h y (by simp [hy])
    exact ⟨x :: xs, rfl, fun y hy => by
      rcases List.mem_cons.mp hy with rfl | hy
      · exact hx
      · exact hs y hy⟩
/-- names drawn in a row -/
theorem draw_ok {s : PyData} {c1 c2 c3 c4 c5 c6 : Sl} {ds : List PyData} {Q : List PyData → Gm → Prop} (hs : St s)
    (hQ : ∀ (xs : List Str) (s' : PyData), xs.length ≤ ds.length → (∀ x ∈ xs, x ∈ Pl) → St s' → Q (txs xs) [.own true s', c1, c2, c3, c4, c5, c6, .dead]) :
    okC (compL [7] (bName 7) yesM (op2 ixD (lstM (consM (ret (.str "a")) (consM (ret (.str "b1")) (consM (ret (.str "c")) (consM (ret (.str "d_")) nilM))))) (callS m__law_next 0 (consM (ret (.int 4)) nilM))) ds [.own true s, c1, c2, c3, c4, c5, c6, .dead]) Q := by
  refine okC_inv (fun g => ∃ s, St s ∧ g = [.own true s, c1, c2, c3, c4, c5, c6, .dead]) (fun z => ∃ x ∈ Pl, z = .str x) ⟨s, hs, rfl⟩ (fun d hd g e => ?_) (fun zs g e l hz => ?_)
  · obtain ⟨s, hs, rfl⟩ := e
    simp [yesM, wipeG, szl]
    refine next_run hs (by omega) (by omega) fun r s r0 r1 hs => ?_
    obtain ⟨x, hx, e⟩ := pick_pl r0 r1
    simp [e]
    exact ⟨hx, hs⟩
  · obtain ⟨s, hs, rfl⟩ := e
    obtain ⟨xs, rfl, hx⟩ := all_str hz
    exact hQ xs s (by simpa [txs] using l) hx hs
theorem pick_nm {k : Nat} (h1 : k < 4) : ∃ x, Nm[k]? = some x ∧ L2.atI [PyData.str "t", .str "u2", .str "v", .str "w_"] (k : Int) = some (.str x) ∧ x ∈ Nm := by
  have : k = 0 ∨ k = 1 ∨ k = 2 ∨ k = 3 := by omega
  rcases this with rfl | rfl | rfl | rfl
  · exact ⟨"t", rfl, rfl, by decide⟩
  · exact ⟨"u2", rfl, rfl, by decide⟩
  · exact ⟨"v", rfl, rfl, by decide⟩
  · exact ⟨"w_", rfl, rfl, by decide⟩
theorem WN.add {ns : List Step} {x : Str} {xs ys : List Str} (h : WN ns) (hx : Nm[ns.length]? = some x) (hm : x ∈ Nm) (hl : ns.length < 4) (l1 : xs.length ≤ 2) (l2 : ys.length ≤ 2) (m1 : ∀ x ∈ xs, x ∈ Pl) (m2 : ∀ x ∈ ys, x ∈ Pl) : WN (ns ++ [(x, xs, ys)]) where
  l := by simp; omega
  n := by
    rw [List.map_append, List.length_append, h.n]
    show _ = Nm.take (ns.length + 1)
    rw [List.take_add_one, hx]
    rfl
  a := fun s hs => by
    rcases List.mem_append.mp hs with q | q
    · exact h.a s q
    · rw [List.mem_singleton.mp q]
      exact ⟨hm, l1, l2, m1, m2⟩
theorem net_ok {s : PyData} (hs : St s) {b : Bool} : okS (m__law_net s [.bool b]) (fun d s' => (∃ ns : List Step, WN ns ∧ 0 < ns.length ∧ d = .tuple (ns.map stD)) ∧ St s') fun _ => False := by
  unfold m__law_net
  rw [okS_runS]
  refine ⟨rfl, ?_⟩
  unfold b__law_net
  simp [szl]
  refine next_run hs (by omega) (by omega) fun r s r0 r1 hs => ?_
  simp
  obtain ⟨N, hN⟩ : ∃ N : Nat, 1 + r = (N : Int) := ⟨(1 + r).toNat, by omega⟩
  refine ⟨by omega, ?_⟩
  rw [hN]
  refine svO_rng (N := N) (fun k g => ∃ (ns : List Step) (s : PyData) (s3 s4 s5 s6 s7 : Sl), (WN ns ∧ ns.length = k ∧ St s) ∧ g = [.own true s, .dat (.bool b), .own false (.list (ns.map stD)), s3, s4, s5, s6, s7]) ⟨[], s, _, _, _, _, _, ⟨⟨by simp, rfl, by simp⟩, rfl, hs⟩, rfl⟩ ?_ ?_
  · rintro k hk g ⟨ns, s, s3, s4, s5, s6, s7, ⟨hw, hl, hs⟩, hg⟩
    rw [hg]
    simp [szl]
    obtain ⟨x, hx, ex, hm⟩ := pick_nm (k := k) (by omega)
    have add : ∀ {xs ys : List Str}, xs.length ≤ 2 → ys.length ≤ 2 → (∀ x ∈ xs, x ∈ Pl) → (∀ x ∈ ys, x ∈ Pl) → WN (ns ++ [(x, xs, ys)]) := fun l1 l2 m1 m2 => hw.add (by rw [hl]; exact hx) hm (by omega) l1 l2 m1 m2
    refine next_run hs (by omega) (by omega) fun q s q0 q1 hs => ?_
    simp
    have hb : (0 : Int) ≤ (if b = true then 1 else 0) ∧ (if b = true then 1 else 0 : Int) ≤ 1 := by cases b <;> decide
    refine ⟨by omega, by rw [rng_len]; omega, ?_⟩
    refine draw_ok hs fun xs s hxl hxm hs => ?_
    rw [rng_len] at hxl
    simp
    cases b with
    | true =>
      simp [szl]
      refine ⟨by rw [txs_len]; omega, by rw [rng_len, txs_len]; omega, ?_⟩
      refine draw_ok hs fun ys s hyl hym hs => ?_
      rw [rng_len, txs_len] at hyl
      simp [ex, szl]
      exact ⟨by omega, ns ++ [(x, xs, ys)], s, ⟨add (by omega) (by omega) hxm hym, by simp [hl], hs⟩, rfl, by simp [stD]⟩
    | false =>
      simp [szl]
      refine next_run hs (by omega) (by omega) fun q s q0 q1 hs => ?_
      simp
      refine ⟨by omega, by rw [rng_len]; omega, ?_⟩
      refine draw_ok hs fun ys s hyl hym hs => ?_
      rw [rng_len] at hyl
      simp [ex, szl]
      exact ⟨by omega, ns ++ [(x, xs, ys)], s, ⟨add (by omega) (by omega) hxm hym, by simp [hl], hs⟩, rfl, by simp [stD]⟩
  · rintro g ⟨ns, s, s3, s4, s5, s6, s7, ⟨hw, hl, hs⟩, hg⟩
    rw [hg]
    simp
    exact ⟨⟨ns, hw, by omega, rfl⟩, hs⟩
end Pf
namespace Pf
open PySem Mi L2
/-! the places of a net -/
def flat (ns : List Step) : List Str := ns.flatMap fun s => s.2.1 ++ s.2.2
def plcs (tk : List Str) (ns : List Step) : List Str := Ts.srt (Ts.dd (tk ++ flat ns))
theorem mem_ins {acc : List Str} {x y : Str} : y ∈ Ts.ins acc x ↔ y = x ∨ y ∈ acc := by
  unfold Ts.ins
  by_cases h : x ∈ acc
  · rw [if_pos h]
    exact ⟨.inr, fun q => q.elim (fun e => by rw [e]; exact h) id⟩
  · rw [if_neg h, List.mem_cons]
theorem nd_ins {acc : List Str} {x : Str} (h : acc.Nodup) : (Ts.ins acc x).Nodup := by
  unfold Ts.ins
  by_cases q : x ∈ acc
  · rw [if_pos q]; exact h
  · rw [if_neg q]; exact List.nodup_cons.mpr ⟨q, h⟩
theorem mem_fold : ∀ {xs acc : List Str} {y : Str}, y ∈ xs.foldl Ts.ins acc ↔ y ∈ acc ∨ y ∈ xs
  | [], acc, y => by simp
  | x :: xs, acc, y => by
    rw [List.foldl_cons, mem_fold, mem_ins, List.mem_cons]
    constructor
    · rintro ((h | h) | h)
      · exact .inr (.inl h)
      · exact .inl h
      · exact .inr (.inr h)
    · rintro (h | h | h)
      · exact .inl (.inr h)
      · exact .inl (.inl h)
      · exact .inr h
theorem nd_fold : ∀ {xs acc : List Str}, acc.Nodup → (xs.foldl Ts.ins acc).Nodup
  | [], _, h => h
  | x :: xs, _, h => nd_fold (xs := xs) (nd_ins h)
theorem mem_dd {xs : List Str} {y : Str} : y ∈ Ts.dd xs ↔ y ∈ xs := by
  unfold Ts.dd
  rw [mem_fold]
  simp
theorem nd_dd (xs : List Str) : (Ts.dd xs).Nodup := nd_fold List.nodup_nil
theorem mem_srt {xs : List Str} {y : Str} : y ∈ Ts.srt xs ↔ y ∈ xs := (Ts.srt_perm xs).mem_iff
theorem nd_srt {xs : List Str} (h : xs.Nodup) : (Ts.srt xs).Nodup := (Ts.srt_perm xs).nodup_iff.mpr h
theorem srt_len (xs : List Str) : (Ts.srt xs).length = xs.length := (Ts.srt_perm xs).length_eq
theorem mem_plcs {tk : List Str} {ns : List Step} {y : Str} : y ∈ plcs tk ns ↔ y ∈ tk ∨ ∃ s ∈ ns, y ∈ s.2.1 ∨ y ∈ s.2.2 := by
  unfold plcs flat
  rw [mem_srt, mem_dd, List.mem_append, List.mem_flatMap]
  simp only [List.mem_append]
theorem nd_sub : ∀ {xs ys : List Str}, xs.Nodup → (∀ x ∈ xs, x ∈ ys) → xs.length ≤ ys.length
  | [], ys, _, _ => Nat.zero_le _
  | x :: xs, ys, h, s => by
    have h' := List.nodup_cons.mp h
    have hx := s x (by simp)
    have ih := nd_sub (xs := xs) (ys := ys.erase x) h'.2 fun y hy => (List.mem_erase_of_ne (fun e => h'.1 (by rw [← e]; exact hy))).mpr (s y (by simp [hy]))
    rw [List.length_erase_of_mem hx] at ih
    have := List.length_pos_of_mem hx
    simp only [List.length_cons]
    omega
theorem plcs_nd (tk : List Str) (ns : List Step) : (plcs tk ns).Nodup := nd_srt (nd_dd _)
theorem plcs_len {tk : List Str} {ns : List Step} (h : WN ns) (ht : ∀ x ∈ tk, x ∈ Pl) : (plcs tk ns).length ≤ 4 := by
  refine nd_sub (ys := Pl) (plcs_nd tk ns) fun x hx => ?_
  rcases mem_plcs.mp hx with q | ⟨s, hs, q | q⟩
  · exact ht x q
  · exact (h.a s hs).m1 x q
  · exact (h.a s hs).m2 x q
theorem flat_len {ns : List Step} (h : ∀ s ∈ ns, OkS s) : (flat ns).length ≤ 4 * ns.length := by
  induction ns with
  | nil => simp [flat]
  | cons s ns ih =>
    have := ih fun t ht => h t (by simp [ht])
    have o := h s (by simp)
    have := o.l1
    have := o.l2
    simp only [flat, List.flatMap_cons, List.length_append, List.length_cons] at *
    omega
theorem txt_txs {P : List Str → Prop} {xs : List Str} : okO (txtD (.list (txs xs))) P ↔ P xs := txt_lst
theorem txs_app (xs ys : List Str) : txs xs ++ txs ys = txs (xs ++ ys) := (List.map_append ..).symm
@[simp ↓] theorem sqO_lst {xs : List PyData} {P : List PyData → Prop} : okO (sqO (.list xs)) P ↔ P xs := Iff.rfl
@[simp ↓] theorem sqO_tup {xs : List PyData} {P : List PyData → Prop} : okO (sqO (.tuple xs)) P ↔ P xs := Iff.rfl
theorem dd_few {tk : List Str} {ns : List Step} (h : WN ns) (hl : tk.length ≤ 1000) (ht : (Ts.dd (tk ++ flat ns)).length < 64) : (tk ++ flat ns).length < 4000 ∧ (Ts.dd (tk ++ flat ns)).length < 64 := by
  have := flat_len h.a
  have := h.l
  refine ⟨?_, ht⟩
  rw [List.length_append]
  omega
theorem law_places_ok {tk : List Str} {ns : List Step} {c : List PyData → PyData} (hc : ∀ xs, itemsD (c xs) = some xs) (h : WN ns) (hl : tk.length ≤ 1000) (ht : (Ts.dd (tk ++ flat ns)).length < 64) {P : PyData → Prop} {X : String → Prop} : okP (m__law_places [c (ns.map stD), .tuple (txs tk)]) P X ↔ P (.list (txs (plcs tk ns))) := by
  have hh : okP (m__law_places [c (ns.map stD), .tuple (txs tk)]) (fun z => z = .list (txs (plcs tk ns))) fun _ => False := by
    unfold m__law_places
    rw [okP_runP]
    refine ⟨rfl, ?_⟩
    unfold b__law_places
    simp [hc]
    refine svO_inv (fun rem g => ∃ (pre : List Step) (rs : List Step) (s3 s4 s5 : Sl), (pre ++ rs = ns ∧ rem = rs.map stD) ∧ g = [.dat (c (ns.map stD)), .dat (.tuple (txs tk)), .dat (.list (txs (tk ++ flat pre))), s3, s4, s5]) ⟨[], ns, .dead, .dead, .dead, ⟨rfl, rfl⟩, by simp [flat]⟩ ?_ ?_
    · rintro d ds g ⟨pre, rs, s3, s4, s5, ⟨e1, e2⟩, hg⟩
      cases rs with
      | nil => cases e2
      | cons st rs =>
        rw [List.map_cons] at e2
        injection e2 with e2 e3
        rw [hg, e2]
        have lp : (flat pre).length ≤ 16 := by
          have := flat_len (ns := pre) fun s hs => h.a s (by rw [← e1]; simp [hs])
          have := h.l
          have := congrArg List.length e1
          simp at this
          omega
        have o := h.a st (by rw [← e1]; simp)
        have := o.l1
        have := o.l2
        simp [stD, szl, txs_app, txs_len]
        refine ⟨by omega, by omega, pre ++ [st], ⟨rs, by simp [e1], e3⟩, ?_⟩
        simp [flat]
    · rintro g ⟨pre, rs, s3, s4, s5, ⟨e1, e2⟩, hg⟩
      have : rs = [] := by
        cases rs with
        | nil => rfl
        | cons x rs => cases e2
      subst this
      rw [List.append_nil] at e1
      subst e1
      rw [hg]
      have q := dd_few h hl ht
      simp [txt_txs, plcs]
      exact ⟨by simpa using q, rfl⟩
  rw [of_okP hh]
  exact Iff.rfl
theorem places_ok' {tk : List Str} {ns : List Step} {c : List PyData → PyData} (hc : ∀ xs, itemsD (c xs) = some xs) (h : WN ns) (hl : tk.length ≤ 1000) (ht : (Ts.dd (tk ++ flat ns)).length < 64) {P : PyData → Prop} {X : String → Prop} : okP (m_places_of [c (ns.map stD), .tuple (txs tk)]) P X ↔ P (.list (txs (plcs tk ns))) := by
  have hh : okP (m_places_of [c (ns.map stD), .tuple (txs tk)]) (fun z => z = .list (txs (plcs tk ns))) fun _ => False := by
    unfold m_places_of
    rw [okP_runP]
    refine ⟨rfl, ?_⟩
    unfold b_places_of
    simp [hc]
    refine svO_inv (fun rem g => ∃ (pre : List Step) (rs : List Step) (s3 s4 s5 : Sl), (pre ++ rs = ns ∧ rem = rs.map stD) ∧ g = [.dat (c (ns.map stD)), .dat (.tuple (txs tk)), .own false (.list (txs (tk ++ flat pre))), s3, s4, s5]) ⟨[], ns, .dead, .dead, .dead, ⟨rfl, rfl⟩, by simp [flat]⟩ ?_ ?_
    · rintro d ds g ⟨pre, rs, s3, s4, s5, ⟨e1, e2⟩, hg⟩
      cases rs with
      | nil => cases e2
      | cons st rs =>
        rw [List.map_cons] at e2
        injection e2 with e2 e3
        rw [hg, e2]
        have lp : (flat pre).length ≤ 16 := by
          have := flat_len (ns := pre) fun s hs => h.a s (by rw [← e1]; simp [hs])
          have := h.l
          have := congrArg List.length e1
          simp at this
          omega
        have o := h.a st (by rw [← e1]; simp)
        have := o.l1
        have := o.l2
        simp [stD, szl, txs_app, txs_len]
        refine ⟨by omega, by omega, pre ++ [st], ⟨rs, by simp [e1], e3⟩, ?_⟩
        simp [flat]
    · rintro g ⟨pre, rs, s3, s4, s5, ⟨e1, e2⟩, hg⟩
      have : rs = [] := by
        cases rs with
        | nil => rfl
        | cons x rs => cases e2
      subst this
      rw [List.append_nil] at e1
      subst e1
      rw [hg]
      have q := dd_few h hl ht
      simp [txt_txs, plcs]
      exact ⟨by simpa using q, rfl⟩
  rw [of_okP hh]
  exact Iff.rfl
theorem nodup_dd {xs : List Str} (h : xs.Nodup) : (Ts.dd xs).length = xs.length :=
  Nat.le_antisymm (nd_sub (nd_dd xs) fun x hx => mem_dd.mp hx) (nd_sub h fun x hx => mem_dd.mpr hx)
theorem WN.nd {ns : List Step} (h : WN ns) : (ns.map (·.1)).Nodup := by
  rw [h.n]
  exact List.Nodup.sublist (List.take_sublist _ _) (by decide : Nm.Nodup)
theorem check_ok {tk : List Str} {ns : List Step} (h : WN ns) (hl : tk.length ≤ 40) (ht : (plcs tk ns).length ≤ 10) {P : PyData → Prop} {X : String → Prop} : okP (m_check_net [.tuple (ns.map stD), .tuple (txs tk)]) P X ↔ P (.list (txs (plcs tk ns))) := by
  have hd : (Ts.dd (tk ++ flat ns)).length < 64 := by
    have : (plcs tk ns).length = (Ts.dd (tk ++ flat ns)).length := srt_len _
    omega
  have hp := fun {P : PyData → Prop} {X : String → Prop} => places_ok' (P := P) (X := X) (c := .tuple) (fun _ => rfl) h (by omega) hd
  have hh : okP (m_check_net [.tuple (ns.map stD), .tuple (txs tk)]) (fun z => z = .list (txs (plcs tk ns))) fun _ => False := by
    unfold m_check_net
    rw [okP_runP]
    refine ⟨rfl, ?_⟩
    unfold b_check_net
    have l4 := h.l
    simp [szl]
    refine ⟨by omega, ?_⟩
    have em : (ns.map stD).map (fun d => match d with | .tuple (x :: _) => x | _ => .none) = txs (ns.map (·.1)) := by
      simp [txs, stD]
    refine okC_map (fun d => match d with | .tuple (x :: _) => x | _ => .none) (fun d hd => ?_) ?_
    · obtain ⟨st, _, rfl⟩ := List.mem_map.mp hd
      simp [stD, wipeG]
    · rw [em]
      simp [wipeG, txt_txs, nodup_dd h.nd, txs_len, hp]
      omega
  rw [of_okP hh]
  exact Iff.rfl
end Pf
/-! how much stands beside one another, at the most: a text weighs as many signs as it has, but at least 1 -/
namespace Pf
open PySem Mi L2
def wu : PyData → Nat
  | .str x => max 1 x.length
  | _ => 1
def cu (xs : List PyData) : Nat := (xs.map wu).sum
mutual
def nu : PyData → Nat
  | .tuple xs => max (cu xs) (nuA xs)
  | .list xs => max (cu xs) (nuA xs)
  | _ => 0
def nuA : List PyData → Nat
  | [] => 0
  | x :: xs => max (nu x) (nuA xs)
end
theorem nu_tup {xs : List PyData} : nu (.tuple xs) = max (cu xs) (nuA xs) := by simp only [nu]
theorem nu_list {xs : List PyData} : nu (.list xs) = max (cu xs) (nuA xs) := by simp only [nu]
theorem nuA_cons {x : PyData} {xs : List PyData} : nuA (x :: xs) = max (nu x) (nuA xs) := by simp only [nuA]
theorem nuA_nil : nuA [] = 0 := by simp only [nuA]
theorem nuA_le {b : Nat} : ∀ {xs : List PyData}, nuA xs ≤ b ↔ ∀ x ∈ xs, nu x ≤ b
  | [] => by simp [nuA_nil]
  | x :: xs => by
    rw [nuA_cons]
    have := nuA_le (b := b) (xs := xs)
    simp only [List.mem_cons, forall_eq_or_imp, ← this]
    omega
theorem cu_app {xs ys : List PyData} : cu (xs ++ ys) = cu xs + cu ys := by simp [cu]
theorem cu_cons {x : PyData} {xs : List PyData} : cu (x :: xs) = wu x + cu xs := by simp [cu]
theorem wu_pos {x : PyData} : 1 ≤ wu x := by unfold wu; split <;> omega
theorem cu_rev {xs : List PyData} : cu xs.reverse = cu xs := by
  induction xs with
  | nil => rfl
  | cons x xs ih =>
    rw [List.reverse_cons, cu_app, ih, cu_cons, cu_cons]
    show _ + (_ + 0) = _
    omega
theorem cu_len : ∀ {xs : List PyData}, xs.length ≤ cu xs
  | [] => Nat.le_refl _
  | x :: xs => by
    have := wu_pos (x := x)
    have := cu_len (xs := xs)
    rw [cu_cons, List.length_cons]
    omega
theorem cu_mem {x : PyData} : ∀ {xs : List PyData}, x ∈ xs → wu x ≤ cu xs
  | y :: ys, h => by
    rw [cu_cons]
    rcases List.mem_cons.mp h with rfl | h
    · omega
    · have := cu_mem h
      omega
theorem cu_take {xs : List PyData} {i j : Nat} (h : i ≤ j) : cu (xs.take i) ≤ cu (xs.take j) := by
  have e : xs.take j = xs.take i ++ (xs.take j).drop i := by
    have := List.take_append_drop i (xs.take j)
    rw [List.take_take, Nat.min_eq_left h] at this
    exact this.symm
  rw [e, cu_app]
  omega
theorem cu_all {xs : List PyData} {i : Nat} : cu (xs.take i) ≤ cu xs := by
  have := List.take_append_drop i xs
  have e := congrArg cu this
  rw [cu_app] at e
  omega
/-- a part, by what is before its ends -/
theorem cu_part {xs : List PyData} {i n : Nat} : cu ((xs.drop i).take n) = cu (xs.take (i + n)) - cu (xs.take i) := by
  have e := congrArg cu (List.take_add (l := xs) (i := i) (j := n))
  rw [cu_app] at e
  omega
theorem cu_cut {xs : List PyData} {lo hi : Option Int} : cu (cutD xs lo hi) = cu (xs.take (HT.sIx xs.length xs.length hi)) - cu (xs.take (HT.sIx xs.length 0 lo)) := by
  unfold cutD
  rw [cu_part]
  by_cases h : HT.sIx xs.length 0 lo ≤ HT.sIx xs.length xs.length hi
  · rw [show HT.sIx xs.length 0 lo + (HT.sIx xs.length xs.length hi - HT.sIx xs.length 0 lo) = HT.sIx xs.length xs.length hi from by omega]
  · have h1 : HT.sIx xs.length 0 lo + (HT.sIx xs.length xs.length hi - HT.sIx xs.length 0 lo) = HT.sIx xs.length 0 lo := by omega
    rw [h1]
    have := cu_take (xs := xs) (i := HT.sIx xs.length xs.length hi) (j := HT.sIx xs.length 0 lo) (by omega)
    omega
theorem cu_cut_le {xs : List PyData} {lo hi : Option Int} : cu (cutD xs lo hi) ≤ cu xs := by
  rw [cu_cut]
  have := cu_all (xs := xs) (i := HT.sIx xs.length xs.length hi)
  omega
theorem sIx_u {n d : Nat} {k : Int} (h : 0 ≤ k) : HT.sIx n d (some k) = min k.toNat n := by
  obtain ⟨m, rfl⟩ : ∃ m : Nat, k = (m : Int) := ⟨k.toNat, by omega⟩
  rw [HT.sIx_nat]
  simp
theorem cu_full {xs : List PyData} {i : Nat} (h : xs.length ≤ i) : cu (xs.take i) = cu xs := by rw [List.take_of_length_le h]
/-- what is left when one goes -/
theorem cu_two {xs : List PyData} {k j : Int} (h0 : 0 ≤ k) (h : k ≤ j) : cu (cutD xs none (some k)) + cu (cutD xs (some j) none) ≤ cu xs := by
  rw [cu_cut, cu_cut, HT.sIx_none, HT.sIx_none, sIx_u h0, sIx_u (by omega)]
  have h1 := cu_take (xs := xs) (i := min k.toNat xs.length) (j := min j.toNat xs.length) (by omega)
  have h2 := cu_full (xs := xs) (i := xs.length) (Nat.le_refl _)
  have h3 := cu_all (xs := xs) (i := min j.toNat xs.length)
  have h4 : cu (xs.take 0) = 0 := rfl
  omega
theorem cu_one {xs : List PyData} {k : Int} (h0 : 0 ≤ k) : cu (cutD xs (some k) (some (k + 1))) ≤ cu xs := cu_cut_le
theorem cu_head {xs : List PyData} : cu (cutD xs none (some 1)) ≤ cu xs := cu_cut_le
theorem cu_turn {xs : List PyData} {k : Int} (h0 : 0 ≤ k) : cu (cutD xs (some k) none) + cu (cutD xs none (some k)) ≤ cu xs := by
  have := cu_two (xs := xs) h0 (Int.le_refl k)
  omega
/-- two exchanged -/
theorem cu_swap {xs : List PyData} {k j : Int} (h0 : 0 ≤ k) (h : k < j) : cu (cutD xs none (some k)) + cu (cutD xs (some j) (some (j + 1))) + cu (cutD xs (some (k + 1)) (some j)) + cu (cutD xs (some k) (some (k + 1))) + cu (cutD xs (some (j + 1)) none) ≤ cu xs := by
  rw [cu_cut, cu_cut, cu_cut, cu_cut, cu_cut, HT.sIx_none, HT.sIx_none, sIx_u h0, sIx_u (by omega), sIx_u (by omega), sIx_u (by omega), sIx_u (by omega), sIx_u (by omega), sIx_u (by omega), sIx_u (by omega)]
  have h1 := cu_take (xs := xs) (i := min k.toNat xs.length) (j := min (k + 1).toNat xs.length) (by omega)
  have h2 := cu_take (xs := xs) (i := min (k + 1).toNat xs.length) (j := min j.toNat xs.length) (by omega)
  have h3 := cu_take (xs := xs) (i := min j.toNat xs.length) (j := min (j + 1).toNat xs.length) (by omega)
  have h4 := cu_all (xs := xs) (i := min (j + 1).toNat xs.length)
  have h5 := cu_full (xs := xs) (i := xs.length) (Nat.le_refl _)
  have h6 : cu (xs.take 0) = 0 := rfl
  omega
theorem nuA_app {xs ys : List PyData} : nuA (xs ++ ys) = max (nuA xs) (nuA ys) := by
  induction xs with
  | nil => rw [List.nil_append, nuA_nil]; omega
  | cons x xs ih => rw [List.cons_append, nuA_cons, nuA_cons, ih]; omega
theorem nuA_sub {b : Nat} {xs ys : List PyData} (h : nuA xs ≤ b) (k : ∀ y ∈ ys, y ∈ xs) : nuA ys ≤ b := nuA_le.mpr fun y hy => nuA_le.mp h y (k y hy)
end Pf
/-! asked papers of which no row has much -/
namespace Pf
open PySem Mi L2
def Ud (n b : Nat) (d : PyData) : Prop := Zd n d ∧ nu d ≤ b
theorem Ud.up {n b : Nat} {d : PyData} (h : Ud n b d) : Ud (n + 1) b d := ⟨h.1.up, h.2⟩
theorem Ud.le {n b c : Nat} {d : PyData} (h : Ud n b d) (k : b ≤ c := by omega) : Ud n c d := ⟨h.1, Nat.le_trans h.2 k⟩
structure Us (l n b k : Nat) (xs : List PyData) : Prop where
  z : Zs l n xs
  a : nuA xs ≤ b
  c : cu xs ≤ k
section
variable {p p' n b k k' : Nat} {x : PyData} {xs ys : List PyData}
theorem Us.l (h : Us p n b k xs) : xs.length ≤ p := h.z.l
theorem Us.le (h : Us p n b k xs) (q : cu xs ≤ k') : Us p n b k' xs := ⟨h.z, h.a, q⟩
theorem Us.app (h : Us p n b k xs) (q : Us p' n b k' ys) : Us (p + p') n b (k + k') (xs ++ ys) :=
  ⟨h.z.app q.z, by rw [nuA_app]; have := h.a; have := q.a; omega, by rw [cu_app]; exact Nat.add_le_add h.c q.c⟩
theorem Us.cut (h : Us p n b k xs) {lo hi : Option Int} : Us p n b (cu (cutD xs lo hi)) (cutD xs lo hi) := ⟨h.z.cut, nuA_sub h.a fun y hy => cut_mem hy, Nat.le_refl _⟩
theorem Us.rev (h : Us p n b k xs) : Us p n b k xs.reverse := ⟨h.z.rev, nuA_sub h.a fun y hy => List.mem_reverse.mp hy, by rw [cu_rev]; exact h.c⟩
theorem Us.con (h : Ud n b x) (q : Us p n b k xs) : Us (p + 1) n b (wu x + k) (x :: xs) :=
  ⟨Zs.con h.1 q.z, by rw [nuA_cons]; have := h.2; have := q.a; omega, by rw [cu_cons]; have := q.c; omega⟩
theorem Us.nil : Us 0 n b 0 [] := ⟨Zs.nil, by rw [nuA_nil]; omega, Nat.le_refl _⟩
theorem Us.one (h : Ud n b x) : Us 1 n b (wu x + 0) [x] := Us.con h Us.nil
theorem Us.tup (h : Us p n b k xs) (hk : k ≤ b := by omega) (hb : p ≤ 4000000 := by omega) : Ud (n + 1) b (.tuple xs) := ⟨h.z.tup hb, by rw [nu_tup]; have := h.a; have := h.c; omega⟩
theorem Us.lst (h : Us p n b k xs) (hk : k ≤ b := by omega) (hb : p ≤ 4000000 := by omega) : Ud (n + 1) b (.list xs) := ⟨h.z.lst hb, by rw [nu_list]; have := h.a; have := h.c; omega⟩
theorem Us.m (h : Us p n b k xs) (hx : x ∈ xs) : Ud n b x := ⟨h.z.m x hx, nuA_le.mp h.a x hx⟩
end
theorem ud_int {n b : Nat} {i : Int} : Ud (n + 1) b (.int i) := ⟨trivial, by simp [nu]⟩
theorem ud_bool {n b : Nat} {t : Bool} : Ud (n + 1) b (.bool t) := ⟨trivial, by simp [nu]⟩
theorem ud_none {n b : Nat} : Ud (n + 1) b .none := ⟨trivial, by simp [nu]⟩
theorem ud_str {n b : Nat} {x : Str} : Ud (n + 1) b (.str x) := ⟨trivial, by simp [nu]⟩
end Pf
namespace Pf
open PySem Mi L2
theorem pick_okU {n c w : Nat} {s : PyData} (hs : St s) {N : Nat} (hN : 0 < N) (hN' : N < 1000) {ws : List PyData} (e : ws.length = N) (h : ∀ x ∈ ws, Ud n c x ∧ wu x ≤ w) : okS (m__law_next s [.int N]) (fun d' s' => okO (ixD (.list ws) d') fun z => (Ud n c z ∧ wu z ≤ w) ∧ St s') fun _ => False := by
  refine next_run hs (by omega) (by omega) fun r s' h0 h1 hs' => ?_
  exact okO_at h0 (by rw [e]; exact h1) fun x hx => ⟨h x hx, hs'⟩
theorem wu_int {i : Int} : wu (.int i) = 1 := rfl
theorem wu_str {x : Str} : wu (.str x) = max 1 x.length := rfl
theorem no_mem {n : Nat} {xs : List PyData} (h : cntN (n + 1) (.tuple xs) = 0) : ∀ x ∈ xs, cntN n x = 0 := by
  have h : (xs.map (cntN n)).sum = 0 := h
  intro x hx
  have := List.sum_eq_zero_iff_forall_eq_nat.mp h (cntN n x) (List.mem_map_of_mem hx)
  exact this
theorem changed_okU : ∀ {n b c : Nat} {d s : PyData}, 2 * b + 6 ≤ c → Wd n d → cntN n d = 0 → wu d ≤ b + 1 → nu d ≤ b → St s → okS (m__law_changed n s [d]) (fun z s' => (Ud (n + 1) c z ∧ wu z ≤ b + 5) ∧ St s') fun _ => False
  | n + 1, b, c, d, s, hc2, h, h0, hwd, hb, hs => by
    show okS (runS 7 2 (b__law_changed (m__law_changed n)) s [d]) _ _
    rw [okS_runS]
    refine ⟨rfl, ?_⟩
    unfold b__law_changed
    cases d with
    | none =>
      simp [none_one, mul2, szl]
      refine pick_okU (N := 7) hs (by decide) (by decide) rfl fun w hw => ?_
      simp only [List.mem_cons, List.not_mem_nil, or_false] at hw
      rcases hw with rfl | rfl | rfl | rfl | rfl | rfl | rfl <;> refine ⟨by first | exact ud_int | exact ud_none | exact ud_bool | exact ud_str, by first | (show 1 ≤ b + 5; omega) | exact Nat.le_trans (by decide : _ ≤ 5) (by omega)⟩
    | bool t =>
      simp [szl]
      refine pick_okU (N := 2) hs (by decide) (by decide) rfl fun w hw => ?_
      simp only [List.mem_cons, List.not_mem_nil, or_false] at hw
      rcases hw with rfl | rfl <;> refine ⟨by first | exact ud_int | exact ud_none | exact ud_bool | exact ud_str, by first | (show 1 ≤ b + 5; omega) | exact Nat.le_trans (by decide : _ ≤ 5) (by omega)⟩
    | int i => cases h0
    | str a =>
      have h' : a.length ≤ 1000 := h.1
      simp [szl]
      refine ⟨by omega, by omega, by omega, by omega, by omega, ?_⟩
      refine pick_okU (N := 9) hs (by decide) (by decide) rfl fun w hw => ?_
      simp only [List.mem_cons, List.not_mem_nil, or_false] at hw
      have ha : max 1 a.length ≤ b + 1 := hwd
      rcases hw with rfl | rfl | rfl | rfl | rfl | rfl | rfl | rfl | rfl <;> refine ⟨by first | exact ud_int | exact ud_str, ?_⟩
      all_goals first | (show 1 ≤ b + 5; omega) | exact Nat.le_trans (by decide : _ ≤ 5) (by omega) | skip
      all_goals rw [wu_str]
      all_goals
        have c1 := cutS_le (z := a) (lo := some 1) (hi := none)
        have c2 := cutS_le (z := a) (lo := none) (hi := some (-1))
        try simp
        omega
    | tuple xs =>
      have hl := (Wd.lay h).1
      have h1 : xs.length ≤ 1000 := h.1
      rw [nu_tup] at hb
      have hc : cu xs ≤ b := by omega
      have ha : nuA xs ≤ b := by omega
      have z0 : Us 1000 (n + 1) c b xs := ⟨⟨h1, fun x hx => (Pf.Wd.zd (h.2 x hx)).up⟩, by omega, hc⟩
      have nm := no_mem h0
      have cz : ∀ lo hi, Us 1000 (n + 1) c (cu (cutD xs lo hi)) (cutD xs lo hi) := fun lo hi => z0.cut
      simp [ne_nil hl]
      by_cases hx : xs = []
      case' pos => rw [if_pos hx]
      case' neg =>
        rw [if_neg hx]
        have hx' : 0 < xs.length := List.length_pos_iff.mpr hx
        refine next_run hs (by omega) (by omega) fun r s r0 r1 hs => ?_
        simp
        by_cases hr : 0 < r
        case pos =>
          rw [if_pos hr]
          refine next_run hs (by omega) (by omega) fun r s r0 r1 hs => ?_
          simp [szl]
          refine okO_at r0 r1 fun x hxs => ?_
          have wx := cu_mem hxs
          refine okS_imp (changed_okU (b := b) hc2 (h.2 x hxs) (nm x hxs) (by omega) (nuA_le.mp ha x hxs) hs) fun d s hs => ?_
          have c1 := (cz none (some r)).l
          have c2 := (cz (some (r + 1)) none).l
          refine ⟨by omega, by omega, ?_, hs.2⟩
          have c3 := cu_two (xs := xs) (k := r) (j := r + 1) r0 (by omega)
          have c4 := hs.1.2
          have q := (((cz none (some r)).app (Us.one hs.1.1)).app (cz (some (r + 1)) none)).tup
          exact ⟨by simpa using q, by show 1 ≤ b + 5; omega⟩
        case' neg => rw [if_neg hr]
      all_goals
        refine next_run hs (by omega) (by omega) fun k s k0 k1 hs => ?_
        refine next_run hs (by omega) (by omega) fun j s j0 j1 hs => ?_
        simp [szl]
        have b1 := (cz none (some k)).l
        have b2 := (cz (some (k + 1)) none).l
        have b3 := (cz none (some 1)).l
        have b4 := (cz (some k) none).l
        have base : ∀ w ∈ ([.tuple (cutD xs none (some k) ++ cutD xs (some (k + 1)) none), .tuple (xs ++ cutD xs none (some 1)), .tuple xs.reverse, .tuple (cutD xs (some k) none ++ cutD xs none (some k)), .list xs, .tuple (cutD xs none (some k)), .tuple [], .tuple (xs ++ [.int 0])] : List PyData), Ud (n + 2) c w ∧ wu w ≤ b + 5 := fun w hw => by
          simp only [List.mem_cons, List.not_mem_nil, or_false] at hw
          have c1 := cu_two (xs := xs) (k := k) (j := k + 1) k0 (by omega)
          have c2 := cu_head (xs := xs)
          have c3 := cu_turn (xs := xs) (k := k) k0
          have c4 := cu_cut_le (xs := xs) (lo := none) (hi := some k)
          rcases hw with rfl | rfl | rfl | rfl | rfl | rfl | rfl | rfl <;> refine ⟨?_, by show 1 ≤ b + 5; omega⟩
          · exact ((cz _ _).app (cz _ _)).tup
          · exact (z0.app (cz _ _)).tup
          · exact z0.rev.tup
          · exact ((cz _ _).app (cz _ _)).tup
          · exact z0.lst
          · exact (cz _ _).tup
          · exact (Us.nil).tup
          · exact (z0.app (Us.one ud_int)).tup (by rw [wu_int]; omega)
        refine ⟨by omega, by omega, by omega, by omega, ?_⟩
        by_cases c1 : k < j
        · by_cases c2 : j < xs.length
          · simp [c1, c2, szl]
            refine ⟨by decide, ?_⟩
            refine okC_inv (fun g' => g' = _) (fun z => Ud (n + 2) c z ∧ wu z ≤ b + 5) rfl (fun d _ g' e => ?_) (fun zs g' e l hz => ?_)
            · subst e
              simp [yesM, szl, wipeG]
              have d1 := (cz (some j) (some (j + 1))).l
              have d2 := (cz (some (k + 1)) (some j)).l
              have d3 := (cz (some k) (some (k + 1))).l
              have d4 := (cz (some (j + 1)) none).l
              refine ⟨by omega, by omega, by omega, by omega, ?_⟩
              have c3 := cu_swap (xs := xs) (k := k) (j := j) k0 c1
              have q := (((((cz none (some k)).app (cz (some j) (some (j + 1)))).app (cz (some (k + 1)) (some j))).app (cz (some k) (some (k + 1)))).app (cz (some (j + 1)) none)).tup
              exact ⟨by simpa using q, by show 1 ≤ b + 5; omega⟩
            · subst e
              have l3 : zs.length ≤ 3 := l
              simp [szl, wipeG]
              refine ⟨by omega, ?_⟩
              have hw : ∀ w ∈ _, Ud (n + 2) c w ∧ wu w ≤ b + 5 := fun w hw => (List.mem_append.mp hw).elim (base w) (hz w)
              refine next_run hs (by omega) (by omega) fun r s r0 r1 hs => ?_
              simp
              exact okO_at r0 (by first | omega | (simp; omega)) fun x hx => ⟨hw x hx, hs⟩
          · simp [c1, c2]
            exact pick_okU (N := 8) hs (by decide) (by decide) rfl base
        · simp [c1]
          exact pick_okU (N := 8) hs (by decide) (by decide) rfl base
    | list xs => exact h.elim
    | dict xs => exact h.elim
end Pf
/-! a paper that is cut -/
namespace Pf
open PySem Mi L2
theorem tup_finU {s : PyData} (hs : St s) {n b v : Nat} {N : Nat} (hN : 0 < N) (hN' : N < 1000) {d : PyData} {ws : List PyData} (e : ws.length = N) (h : ∀ w ∈ ws, (Ud n b w ∧ wu w ≤ v) ∧ Cz d w) : okS (m__law_next s [.int N]) (fun d' s' => okO (ixD (.list ws) d') fun z => (Ud n b z ∧ wu z ≤ v) ∧ Cz d z ∧ St s') fun _ => False := by
  refine next_run hs (by omega) (by omega) fun r s' h0 h1 hs' => ?_
  exact okO_at h0 (by rw [e]; exact h1) fun x hx => ⟨(h x hx).1, (h x hx).2, hs'⟩
theorem cu_sum {ys : List Str} : (ys.map (·.length)).sum ≤ cu (ys.map PyData.str) := by
  induction ys with
  | nil => exact Nat.le_refl _
  | cons y ys ih =>
    rw [List.map_cons, List.map_cons, cu_cons, List.sum_cons, wu_str]
    omega
theorem nuA_strs {ys : List Str} : nuA (ys.map PyData.str) = 0 := by
  have : nuA (ys.map PyData.str) ≤ 0 := nuA_le.mpr fun x hx => by
    obtain ⟨y, _, rfl⟩ := List.mem_map.mp hx
    simp [nu]
  omega
theorem us_strs {n l b : Nat} {ys : List Str} (h : ys.length ≤ l) : Us l (n + 1) b (cu (ys.map PyData.str)) (ys.map PyData.str) := ⟨zs_strs h, by rw [nuA_strs]; omega, Nat.le_refl _⟩
theorem cu_signs {z : Str} : cu ((signs z).map PyData.str) = z.length := by
  have : ∀ l : List Nat, cu ((l.map fun c => (⟨#[c]⟩ : Str)).map PyData.str) = l.length := fun l => by
    induction l with
    | nil => rfl
    | cons c l ih =>
      rw [List.map_cons, List.map_cons, cu_cons, ih, wu_str, List.length_cons]
      show max 1 1 + _ = _
      omega
  unfold signs
  rw [this]
  show z.cps.toList.length = z.cps.size
  simp
theorem cut_okU : ∀ {n b c : Nat} {d s : PyData}, 3 * b + 6 ≤ c → Wd n d → wu d ≤ b + 1 → nu d ≤ b → St s → okS (m__law_cut n s [d]) (fun z s' => (Ud (n + 1) c z ∧ wu z ≤ b + 5) ∧ Cz d z ∧ St s') fun _ => False
  | n + 1, b, c, d, s, hc2, h, hwd, hb, hs => by
    have me : Zd (n + 2) d → Ud (n + 2) c d ∧ wu d ≤ b + 5 := fun z => ⟨⟨z, by omega⟩, by omega⟩
    show okS (runS 6 2 (b__law_cut (m__law_cut n)) s [d]) _ _
    rw [okS_runS]
    refine ⟨rfl, ?_⟩
    unfold b__law_cut
    have nt : ∀ {d z : PyData}, isaD "tuple" d = false → Cz d z := fun h xs e => by subst e; simp at h
    cases d with
    | none => simp [szl]; exact ⟨me trivial, nt (by simp), hs⟩
    | bool b => simp [szl]; exact ⟨me trivial, nt (by simp), hs⟩
    | str a => simp [szl]; exact ⟨me trivial, nt (by simp), hs⟩
    | int i => simp [szl]; exact ⟨me trivial, nt (by simp), hs⟩
    | tuple xs =>
      have hl := (Wd.lay h).1
      have hl' : PyData.canLayAll0 xs = true := by simpa [PyData.canLay0] using hl
      have h1 : xs.length ≤ 1000 := h.1
      rw [nu_tup] at hb
      have hc : cu xs ≤ b := by omega
      have ha : nuA xs ≤ b := by omega
      simp [szl, eq_nil hl]
      by_cases hx : xs = []
      · subst hx
        simp
        exact ⟨⟨Us.nil.tup, by show 1 ≤ b + 5; omega⟩, fun xs e => ⟨[], rfl, by simp⟩, hs⟩
      rw [if_neg hx]
      have hx' : 0 < xs.length := List.length_pos_iff.mpr hx
      refine ⟨by omega, ?_⟩
      refine okC_fm (fun x => if isaD "str" x = true then none else some x) (fun x hxs => ?_) ?_
      · simp [wipeG]
      generalize ez : xs.filterMap (fun x => if isaD "str" x = true then none else some x) = zs
      have hz : PyData.canLayAll0 zs = true := lay_sub (fun z hz => by
        rw [← ez] at hz
        obtain ⟨x, hx, e⟩ := List.mem_filterMap.mp hz
        by_cases cc : isaD "str" x = true
        · simp [cc] at e
        · simp [cc] at e; rw [← e]; exact hx) hl'
      simp [ne_nilL, wipeG]
      by_cases hzs : zs = []
      · rw [if_pos hzs]
        have hs1 : ∀ x ∈ xs, isaD "str" x = true := fun x hx => by
          by_cases cc : isaD "str" x = true
          · exact cc
          · have : x ∈ zs := by rw [← ez]; exact List.mem_filterMap.mpr ⟨x, hx, by simp [cc]⟩
            rw [hzs] at this
            cases this
        obtain ⟨ys, rfl⟩ := all_strs hs1
        have hc' : cu (ys.map PyData.str) ≤ b := hc
        have hy : ∀ y ∈ ys, y.length ≤ 1000 := fun y hy => by
          have := h.2 (.str y) (List.mem_map.mpr ⟨y, hy, rfl⟩)
          cases n with
          | zero => exact this.elim
          | succ n => exact this.1
        have hc := sum_le hy
        have h1' : ys.length ≤ 1000 := by simpa using h1
        refine next_run hs (by omega) (by omega) fun k s k0 k1 hs => ?_
        have hk0 : okO (L2.atI (ys.map PyData.str) k) fun x => ∃ y ∈ ys, x = .str y := okO_at k0 k1 fun x hx => by
          obtain ⟨y, hy, rfl⟩ := List.mem_map.mp hx
          exact ⟨y, hy, rfl⟩
        have hk : ∃ y ∈ ys, L2.atI (ys.map PyData.str) k = some (.str y) := by
          generalize L2.atI (ys.map PyData.str) k = o at hk0
          cases o with
          | none => exact hk0.elim
          | some x =>
            obtain ⟨y, hy, rfl⟩ := hk0
            exact ⟨y, hy, rfl⟩
        obtain ⟨y, hym, hk⟩ := hk
        have hyl := hy y hym
        have bc : ∀ lo hi, (cutD ys lo hi).length ≤ 1000 := fun lo hi => Nat.le_trans cut_le h1'
        have bs : ∀ lo hi, ((cutD ys lo hi).map (·.length)).sum ≤ 1000000 := fun lo hi => by
          have := sum_le (ys := cutD ys lo hi) fun y h => hy y (cut_mem h)
          have := bc lo hi
          omega
        simp [hk, szl]
        refine ⟨by omega, ?_⟩
        refine next_run hs (by omega) (by omega) fun a s a0 a1 hs => ?_
        have hb := join_len ys
        simp [hk, szl, cut_map, join_tup]
        have e1 := bc none (some k)
        have e2 := bc (some (k + 1)) none
        have e3 := bc (some (k + 2)) none
        have e4 := bc (some k) none
        have e5 := bc (some k) (some (k + 2))
        have e6 := bs (some k) (some (k + 2))
        refine ⟨by omega, by omega, by omega, by omega, by omega, by omega, by omega, by omega, by omega, by omega, by omega, by omega, ?_⟩
        refine tup_finU (N := 6) hs (by decide) (by decide) rfl fun w hw => ?_
        simp only [List.mem_cons, List.not_mem_nil, or_false] at hw
        have zc : ∀ lo hi, Us 1000 (n + 1) c (cu ((cutD ys lo hi).map PyData.str)) ((cutD ys lo hi).map PyData.str) := fun lo hi => us_strs (bc lo hi)
        have cc : ∀ lo hi, cu ((cutD ys lo hi).map PyData.str) ≤ b := fun lo hi => by
          rw [← cut_map]
          exact Nat.le_trans cu_cut_le hc'
        have wy : max 1 y.length ≤ b := Nat.le_trans (Nat.le_of_eq wu_str.symm) (Nat.le_trans (cu_mem (List.mem_map_of_mem hym)) hc')
        have jl : (Txt.join "" ys).length ≤ b := by
          rw [hb]
          exact Nat.le_trans cu_sum hc'
        have jc : ∀ lo hi, (Txt.join "" (cutD ys lo hi)).length ≤ b := fun lo hi => by
          rw [join_len]
          exact Nat.le_trans cu_sum (cc lo hi)
        have q1 := cc none (some k)
        have q2 := cc (some (k + 1)) none
        have q3 := cc (some (k + 2)) none
        have q12 : cu ((cutD ys none (some k)).map PyData.str) + cu ((cutD ys (some (k + 1)) none).map PyData.str) ≤ b := by
          rw [← cut_map, ← cut_map]
          exact Nat.le_trans (cu_two (xs := ys.map PyData.str) (k := k) (j := k + 1) k0 (by omega)) hc'
        have q4 := cc (some k) none
        have q5 := cc (some k) (some (k + 2))
        have j5 := jc (some k) (some (k + 2))
        have l1 := cutS_le (z := y) (lo := none) (hi := some a)
        have l2 := cutS_le (z := y) (lo := some a) (hi := none)
        rcases hw with rfl | rfl | rfl | rfl | rfl | rfl <;> refine ⟨⟨?_, by show 1 ≤ b + 5; omega⟩, fun xs e => ⟨_, rfl, by first | (simp; done) | (simp; omega)⟩⟩
        · exact ((zc _ _).app (Us.con ud_str (Us.con ud_str (zc _ _)))).tup (by rw [wu_str, wu_str]; omega)
        · exact ((zc _ _).app (Us.con ud_str (zc _ _))).tup (by rw [wu_str]; omega)
        · exact (Us.con (n := n + 1) ud_str Us.nil).tup (by rw [wu_str]; omega)
        · exact (us_strs (l := 1000000) (by rw [signs_len]; omega)).tup (by rw [cu_signs]; omega)
        · exact ((zc _ _).app (Us.con ud_str (zc _ _))).tup (by rw [wu_str]; show _ + (max 1 0 + _) ≤ _; omega)
        · exact ((zc _ _).app (((zc _ _).rev).app (zc _ _))).tup
      · rw [if_neg hzs]
        refine next_run hs (by omega) (by omega) fun k s k0 k1 hs => ?_
        simp [szl]
        refine okO_at k0 k1 fun x hxs => ?_
        have wx := cu_mem hxs
        refine okS_imp (cut_okU (b := b) hc2 (h.2 x hxs) (by omega) (nuA_le.mp ha x hxs) hs) fun d s hs => ?_
        have b1 : (cutD xs none (some k)).length ≤ 1000 := Nat.le_trans cut_le h1
        have b2 : (cutD xs (some (k + 1)) none).length ≤ 1000 := Nat.le_trans cut_le h1
        refine ⟨by omega, by omega, ?_, fun ws e => ⟨_, rfl, by simp; omega⟩, hs.2.2⟩
        have z0 : Us 1000 (n + 1) c b xs := ⟨⟨h1, fun x hx => (Pf.Wd.zd (h.2 x hx)).up⟩, by omega, hc⟩
        have c3 := cu_two (xs := xs) (k := k) (j := k + 1) k0 (by omega)
        have c4 := hs.1.2
        have q := ((z0.cut (lo := none) (hi := some k)).app ((Us.one hs.1.1).app (z0.cut (lo := some (k + 1)) (hi := none)))).tup
        exact ⟨by simpa using q, by show 1 ≤ b + 5; omega⟩
    | list xs => exact h.elim
    | dict xs => exact h.elim
end Pf
namespace Pf
open PySem Mi L2
theorem turned_okU {b c : Nat} {x : PyData} {xs : List PyData} {s : PyData} (hc2 : 3 * b + 7 ≤ c) (h1x : xs.length = 1) (T : Tld x xs) (h0 : cntN 8 (.tuple (x :: xs)) = 0) (hb : nu (.tuple (x :: xs)) ≤ b) (hs : St s) : okS (m__law_turned_about s [.tuple (x :: xs)]) (fun z s' => Ud 10 c z ∧ St s') fun _ => False := by
  unfold m__law_turned_about
  rw [okS_runS]
  refine ⟨rfl, ?_⟩
  unfold b__law_turned_about
  have hl : xs.length + 1 ≤ 1000 := T.w.1
  simp
  have hb' := hb
  rw [nu_tup] at hb
  have hc : cu (x :: xs) ≤ b := by omega
  have ha : nuA (x :: xs) ≤ b := by omega
  refine okP_imp (ints_ok T.w T.c) ?_
  rintro _ ⟨ns, rfl, hn⟩
  have hn' : ns = [] := by
    rw [h0] at hn
    exact List.length_eq_zero_iff.mp (by omega)
  have z0 : Us 1000 8 c b (x :: xs) := ⟨⟨by simpa using hl, fun y hy => (Pf.Wd.zd (T.w.2 y hy)).up⟩, by omega, hc⟩
  have zc : ∀ lo hi, Us 1000 8 c (cu (cutD (x :: xs) lo hi)) (cutD (x :: xs) lo hi) := fun lo hi => z0.cut
  refine next_run hs (by omega) (by omega) fun pick s p0 p1 hs => ?_
  simp [ne_nilL]
  have bb : ∀ lo hi, (cutD (x :: xs) lo hi).length ≤ 1000 := fun lo hi => Nat.le_trans cut_le (by simpa using hl)
  by_cases c1 : pick < 3
  case' pos =>
    rw [if_pos c1]
    by_cases c2 : ns = []
    case' pos => rw [if_pos c2, if_neg (show ¬ pick = 3 by omega)]
    case neg => exact absurd hn' c2
  case' neg =>
    rw [if_neg c1]
    by_cases c3 : pick = 3
    case pos =>
      rw [if_pos c3]
      by_cases c4 : (2 : Int) < xs.length + 1
      · exact absurd c4 (by omega)
      · rw [if_neg c4]
        have b1 := bb none (some 1)
        have b2 := bb (some 1) none
        refine ⟨by rw [szl]; omega, ?_⟩
        refine okC_inv (fun g' => ∃ s, St s ∧ g' = [Sl.own true s, Sl.dat (PyData.tuple (x :: xs)), Sl.dat (PyData.list (List.map PyData.int ns)), Sl.dat (PyData.int pick), Sl.dead, Sl.dead, Sl.dead, Sl.dead, Sl.dead]) (fun z => Ud 9 (3 * b + 6) z ∧ wu z ≤ b + 5) ⟨s, hs, rfl⟩ (fun d hd g' e => ?_) (fun zs g' e l hz => ?_)
        · obtain ⟨s, hs, rfl⟩ := e
          simp [yesM, wipeG]
          have wd := cu_mem (cut_mem hd)
          exact okS_imp (cut_okU (b := b) (c := 3 * b + 6) (n := 8) (Nat.le_refl _) (Wd.up (T.w.2 d (cut_mem hd))) (by omega) (nuA_le.mp ha d (cut_mem hd)) hs) fun _ s hs => ⟨hs.1, hs.2.2⟩
        · obtain ⟨s, hs, rfl⟩ := e
          simp [szl]
          have z1 : Us 1000 9 c (cu (cutD (x :: xs) none (some 1))) (cutD (x :: xs) none (some 1)) := ⟨⟨b1, fun y hy => ((zc _ _).z.m y hy).up⟩, (zc _ _).a, Nat.le_refl _⟩
          have lz : zs.length ≤ 1 := by
            have := cut_len (xs := x :: xs) (lo := some 1) (hi := none)
            have e1 : HT.sIx (x :: xs).length 0 (some 1) = 1 := by simp [HT.sIx]
            rw [e1] at this
            simp only [List.length_cons] at this
            omega
          have h2 := cu_head (xs := x :: xs)
          have h3 : cu zs ≤ b + 5 := by
            match zs, lz with
            | [], _ => exact Nat.zero_le _
            | [z], _ =>
              have := (hz z (by simp)).2
              show wu z + 0 ≤ _
              omega
            | _ :: _ :: _, lz => simp at lz
          have zz : Us 1000 9 c (b + 5) zs := ⟨⟨by omega, fun z h => (hz z h).1.1⟩, nuA_le.mpr fun z h => by have := (hz z h).1.2; omega, h3⟩
          exact ⟨by omega, (z1.app zz).tup.le, hs⟩
    case' neg => rw [if_neg c3]
  all_goals
    refine next_run hs (by omega) (by omega) fun k s k0 k1 hs => ?_
    refine next_run hs (by omega) (by omega) fun j s j0 j1 hs => ?_
    have b1 := bb none (some k)
    have b2 := bb (some j) (some (j + 1))
    have b3 := bb (some (k + 1)) none
    by_cases c4 : (xs.length : Int) + 1 = 2
    · rw [if_pos c4]
      obtain ⟨y, rfl⟩ : ∃ y, xs = [y] := by
        match xs, c4 with
        | [], c4 => simp at c4
        | [y], c4 => exact ⟨y, rfl⟩
        | _ :: _ :: _, c4 => simp at c4; omega
      simp
      have hme : Ud 10 c (.tuple [x, y]) := (z0.tup).up
      have hy : Wd 7 y := T.w.2 y (by simp)
      have fin : ∀ k j : Int, 0 ≤ k → 0 ≤ j → Ud 10 c (.tuple (cutD [x, y] none (some k) ++ (cutD [x, y] (some j) (some (j + 1)) ++ cutD [x, y] (some (k + 1)) none))) := fun k j k0 j0 => by
        have h1 := cu_two (xs := [x, y]) (k := k) (j := k + 1) k0 (by omega)
        have h2 := cu_one (xs := [x, y]) (k := j) j0
        exact (((zc _ _).app ((zc _ _).app (zc _ _))).tup).up
      by_cases c5 : isaD "tuple" y = true
      · cases y with
        | tuple ys =>
          have hyl : ys.length ≤ 1000 := hy.1
          simp [ne_nil (Wd.lay hy).1, szl]
          have ny := nuA_le.mp ha (.tuple ys) (by simp)
          rw [nu_tup] at ny
          have zy : Us 1000 8 c b ys := ⟨⟨hyl, fun z hz => (Pf.Wd.zd (hy.2 z hz)).up.up⟩, by omega, by omega⟩
          have zyc : ∀ lo hi, Us 1000 8 c (cu (cutD ys lo hi)) (cutD ys lo hi) := fun lo hi => zy.cut
          by_cases c6 : ys = []
          · rw [if_pos c6]
            by_cases k' : 0 < k <;> by_cases j' : 0 < j <;> simp [k', j', hs, hme] <;> exact ⟨by omega, by omega, by simpa using fin k j k0 j0⟩
          · rw [if_neg c6]
            have hx' : 0 < ys.length := List.length_pos_iff.mpr c6
            refine next_run hs (by omega) (by omega) fun k s k0 k1 hs => ?_
            refine next_run hs (by omega) (by omega) fun j s j0 j1 hs => ?_
            have b1 : (cutD ys none (some k)).length ≤ 1000 := Nat.le_trans cut_le hyl
            have b2 : (cutD ys (some j) (some (j + 1))).length ≤ 1000 := Nat.le_trans cut_le hyl
            have b3 : (cutD ys (some (k + 1)) none).length ≤ 1000 := Nat.le_trans cut_le hyl
            simp [szl]
            refine ⟨by omega, by omega, ?_, hs⟩
            have h1 := cu_two (xs := ys) (k := k) (j := k + 1) k0 (by omega)
            have h2 := cu_one (xs := ys) (k := j) j0
            have q : Ud 9 c (.tuple (cutD ys none (some k) ++ (cutD ys (some j) (some (j + 1)) ++ cutD ys (some (k + 1)) none))) := ((zyc _ _).app ((zyc _ _).app (zyc _ _))).tup
            have zx : Ud 9 c x := (z0.m (x := x) (by simp)).up
            have n2 : ∀ u v : PyData, wu u + wu v ≤ c → Ud 9 c u → Ud 9 c v → Ud 10 c (.tuple [u, v]) := fun u v hw hu hv => (Us.con hu (Us.one hv)).tup
            exact n2 _ _ (by
              have h3 : wu x ≤ cu [x, .tuple ys] := cu_mem (by simp)
              show wu x + 1 ≤ c
              omega) zx q
        | _ => simp at c5
      · rw [if_neg c5]
        simp [szl]
        by_cases k' : 0 < k <;> by_cases j' : 0 < j <;> simp [k', j', hs, hme] <;> exact ⟨by omega, by omega, by simpa using fin k j k0 j0⟩
    · rw [if_neg c4]
      have fin : ∀ k j : Int, 0 ≤ k → 0 ≤ j → Ud 10 c (.tuple (cutD (x :: xs) none (some k) ++ (cutD (x :: xs) (some j) (some (j + 1)) ++ cutD (x :: xs) (some (k + 1)) none))) := fun k j k0 j0 => by
        have h1 := cu_two (xs := x :: xs) (k := k) (j := k + 1) k0 (by omega)
        have h2 := cu_one (xs := x :: xs) (k := j) j0
        exact (((zc _ _).app ((zc _ _).app (zc _ _))).tup).up
      have hme : Ud 10 c (.tuple (x :: xs)) := (z0.tup).up
      simp [szl]
      by_cases k' : 0 < k <;> by_cases j' : 0 < j <;> simp [k', j', hs, hme] <;> exact ⟨by omega, by omega, by simpa using fin k j k0 j0⟩
theorem odd_okU {b c : Nat} {x : PyData} {xs : List PyData} {s : PyData} (hc2 : 3 * b + 9 ≤ c) (h1x : xs.length = 1) (T : Tld x xs) (h0 : cntN 8 (.tuple (x :: xs)) = 0) (hb : nu (.tuple (x :: xs)) ≤ b) (hs : St s) : okS (m__law_odd s [.tuple (x :: xs)]) (fun z s' => Ud 10 c z ∧ St s') fun _ => False := by
  unfold m__law_odd
  rw [okS_runS]
  refine ⟨rfl, ?_⟩
  unfold b__law_odd
  have hl : xs.length + 1 ≤ 1000 := T.w.1
  have b1 : (cutD (x :: xs) (some 1) none).length ≤ 1000 := Nat.le_trans cut_le (by simpa using hl)
  simp [szl]
  refine ⟨by omega, by omega, ?_⟩
  refine next_run hs (by omega) (by omega) fun pick s p0 p1 hs => ?_
  simp
  by_cases c1 : 4 < pick
  · simp [c1]
    exact okS_imp (turned_okU (c := c) (by omega) h1x T h0 hb hs) fun z s h => ⟨h.1, h.2⟩
  · simp [c1]
    by_cases c2 : pick = 0
    · simp [c2]
      refine next_run hs (by omega) (by omega) fun r s r0 r1 hs => ?_
      simp
      refine okO_at r0 (by simpa using r1) fun y hy => ⟨?_, hs⟩
      rw [nu_tup] at hb
      have z0 : Us 1000 9 c b (x :: xs) := ⟨⟨by simpa using hl, fun y hy => (Pf.Wd.zd (T.w.2 y hy)).up.up⟩, by omega, by omega⟩
      have zx9 : Ud 8 c x := ⟨(Pf.Wd.zd (T.w.2 x (by simp))).up, (z0.m (x := x) (by simp)).2⟩
      have h1 := cu_cut_le (xs := x :: xs) (lo := some 1) (hi := none)
      have h2 := cu_cut_le (xs := x :: xs) (lo := none) (hi := some 1)
      simp only [List.mem_cons, List.not_mem_nil, or_false] at hy
      rcases hy with rfl | rfl | rfl | rfl | rfl | rfl | rfl | rfl | rfl | rfl | rfl
      · exact ud_none
      · exact ud_str
      · exact ud_str
      · exact ⟨rfl, by simp [nu]⟩
      · exact Us.nil.tup
      · exact z0.cut.tup
      · exact z0.lst
      · exact (z0.app (Us.one ud_int)).tup (by rw [wu_int]; omega)
      · have h3 : wu x ≤ cu (x :: xs) := cu_mem (by simp)
        exact (Us.con ((Us.one zx9).lst (by omega)) z0.cut).tup (by show 1 + _ ≤ c; omega)
      · exact (Us.con ud_str z0.cut).tup (by show max 1 9 + _ ≤ c; omega)
      · exact ud_int
    · simp [c2]
      exact okS_imp (changed_okU (b := b) (c := c) (by omega) T.w h0 (by show 1 ≤ b + 1; omega) hb hs) fun z s hz => ⟨hz.1.1.up, hz.2⟩
end Pf
namespace Pf
open PySem Mi L2
/-! siphons, in plain lists -/
/-- no step gives to the names without needing one of them -/
def Siph (ns : List Step) (R : List Str) : Prop := ∀ s ∈ ns, (∀ x ∈ R, x ∉ s.2.1) → ∀ x ∈ R, x ∉ s.2.2
/-- what a step leaves of the names -/
def kept (l : List Str) (s : Step) : List Str := l.filter fun x => !s.2.2.contains x
theorem kept_sub {l : List Str} {s : Step} : (kept l s).Sublist l := List.filter_sublist
theorem kept_all {R l : List Str} {ns : List Step} {s : Step} (hs : s ∈ ns) (hR : Siph ns R) (hl : ∀ x ∈ R, x ∈ l) (hn : ∀ x ∈ l, x ∉ s.2.1) : ∀ x ∈ R, x ∈ kept l s := fun x hx => by
  refine List.mem_filter.mpr ⟨hl x hx, ?_⟩
  have := hR s hs (fun y hy => hn y (hl y hy)) x hx
  simpa using this
theorem str_eqv {a b : Str} : PyData.eqv (.str a) (.str b) = (a == b) := by simp [PyData.eqv]
theorem any_txs {xs : List Str} {a : Str} : ((txs xs).any fun z => PyData.eqv z (.str a)) = xs.contains a := by
  induction xs with
  | nil => rfl
  | cons x xs ih =>
    simp only [txs, List.map_cons, List.any_cons, str_eqv, List.contains_cons] at *
    rw [ih]
    have : (x == a) = (a == x) := by
      cases h : x == a with
      | true => rw [eq_of_beq h]; simp
      | false =>
        cases h2 : a == x with
        | false => rfl
        | true => rw [eq_of_beq h2] at h; simp at h
    rw [this]
theorem nd_txs (xs : List Str) : DcEq.ndAll (txs xs) = true := by
  induction xs with
  | nil => rfl
  | cons x xs ih => simpa [txs, DcEq.ndAll, DcEq.ndB] using ih
theorem dp_txs (xs : List Str) : PyData.depthAll (txs xs) = 0 := by
  induction xs with
  | nil => rfl
  | cons x xs ih => simpa [txs, PyData.depthAll, PyData.depth] using ih
theorem in_txsT {xs : List Str} {a : Str} {g : Bool → Bool} {P : PyData → Prop} : okO (inD g (.str a) (.tuple (txs xs))) P ↔ P (.bool (g (xs.contains a))) := by
  rw [in_tup, any_txs]
  have : lowI (.str a) (.tuple (txs xs)) = true := by simp [lowI, DcEq.ndB, nd_txs, PyData.depth, dp_txs]
  simp only [this, true_and]
theorem in_txsL {xs : List Str} {a : Str} {g : Bool → Bool} {P : PyData → Prop} : okO (inD g (.str a) (.list (txs xs))) P ↔ P (.bool (g (xs.contains a))) := by
  rw [in_lst, any_txs]
  have : lowI (.str a) (.list (txs xs)) = true := by simp [lowI, DcEq.ndB, nd_txs, PyData.depth, dp_txs]
  simp only [this, true_and]
theorem nd_bools (zs : List PyData) (f : PyData → Bool) : DcEq.ndAll (zs.map fun z => PyData.bool (f z)) = true := by
  induction zs <;> simp_all [DcEq.ndAll, DcEq.ndB]
theorem any_tt {zs : List PyData} {f : PyData → Bool} : ((zs.map fun z => PyData.bool (f z)).any fun z => PyData.eqv z (.bool true)) = zs.any f := by
  induction zs with
  | nil => rfl
  | cons z zs ih =>
    rw [List.map_cons, List.any_cons, ih, List.any_cons]
    cases f z <;> simp [PyData.eqv]
theorem tt_in {zs : List PyData} {f : PyData → Bool} {g : Bool → Bool} {P : PyData → Prop} : okO (inD g (.bool true) (.list (zs.map fun z => PyData.bool (f z)))) P ↔ P (.bool (g (zs.any f))) := by
  rw [in_lst, any_tt]
  have : lowI (.bool true) (.list (zs.map fun z => PyData.bool (f z))) = true := by
    have dp : PyData.depthAll (zs.map fun z => PyData.bool (f z)) = 0 := by
      induction zs <;> simp_all [PyData.depthAll, PyData.depth]
    simp [lowI, DcEq.ndB, nd_bools, PyData.depth]
  simp only [this, true_and]
/-- the text of a value -/
def txo : PyData → Str
  | .str a => a
  | _ => Str.empty
theorem txs_any {xs : List Str} {f : Str → Bool} : (txs xs).any (fun z => f (txo z)) = xs.any f := by
  induction xs with
  | nil => rfl
  | cons x xs ih => simpa [txs, txo] using congrArg (f x || ·) ih
theorem fm_txs {l : List Str} {f : Str → Bool} : (txs l).filterMap (fun z => if f (txo z) = true then none else some z) = txs (l.filter fun x => !f x) := by
  induction l with
  | nil => rfl
  | cons x xs ih =>
    show ((PyData.str x :: txs xs).filterMap _) = _
    rw [List.filterMap_cons, List.filter_cons]
    have e : txo (.str x) = x := rfl
    cases h : f x with
    | true =>
      simp only [e, h, if_true, Bool.not_true, Bool.false_eq_true, if_false]
      exact ih
    | false =>
      simp only [e, h, Bool.false_eq_true, if_false, Bool.not_false, if_true]
      rw [ih]
      rfl
theorem sortSet_txs {c : List PyData → PyData} {nm : List Str} {P : PyData → Prop} (hc : txtD (c (txs nm)) = some nm) (h1 : nm.length < 4000) (h2 : (Ts.dd nm).length < 64) : okO (sortSetD (c (txs nm))) P ↔ P (.list (txs (Ts.srt (Ts.dd nm)))) := by
  rw [sortSet_ok, hc]
  simp only [okO_some, h1, h2, and_self, true_and]
  exact Iff.rfl
/-! all rows of names -/
def parts (L : List Str) : List (List Str) := L.foldl (fun acc x => acc ++ acc.map (· ++ [x])) [[]]
theorem mem_partsF : ∀ {L : List Str} {acc : List (List Str)} {R : List Str}, R ∈ L.foldl (fun acc x => acc ++ acc.map (· ++ [x])) acc ↔ ∃ p ∈ acc, ∃ q, q.Sublist L ∧ R = p ++ q
  | [], acc, R => by
    constructor
    · intro h
      exact ⟨R, h, [], List.Sublist.refl _, by simp⟩
    · rintro ⟨p, hp, q, hq, e⟩
      have : q = [] := List.sublist_nil.mp hq
      rw [e, this, List.append_nil]
      exact hp
  | x :: L, acc, R => by
    rw [List.foldl_cons, mem_partsF]
    constructor
    · rintro ⟨p, hp, q, hq, e⟩
      rcases List.mem_append.mp hp with h | h
      · exact ⟨p, h, q, hq.cons x, e⟩
      · obtain ⟨p', hp', rfl⟩ := List.mem_map.mp h
        exact ⟨p', hp', x :: q, hq.cons_cons x, by rw [e]; simp⟩
    · rintro ⟨p, hp, q, hq, e⟩
      cases hq with
      | cons _ h => exact ⟨p, List.mem_append.mpr (.inl hp), q, h, e⟩
      | @cons_cons q' _ _ h => exact ⟨p ++ [x], List.mem_append.mpr (.inr (List.mem_map.mpr ⟨p, hp, rfl⟩)), q', h, by rw [e]; simp⟩
theorem mem_parts {L R : List Str} : R ∈ parts L ↔ R.Sublist L := by
  unfold parts
  rw [mem_partsF]
  constructor
  · rintro ⟨p, hp, q, hq, e⟩
    rw [List.mem_singleton.mp hp] at e
    rw [e]
    exact hq
  · intro h
    exact ⟨[], by simp, R, h, by simp⟩
theorem parts_next {pre : List Str} {x : Str} : parts (pre ++ [x]) = parts pre ++ (parts pre).map (· ++ [x]) := by
  unfold parts
  rw [List.foldl_append]
  rfl
theorem parts_len (L : List Str) : (parts L).length = 2 ^ L.length := by
  have : ∀ (L : List Str) (acc : List (List Str)), (L.foldl (fun acc x => acc ++ acc.map (· ++ [x])) acc).length = acc.length * 2 ^ L.length := by
    intro L
    induction L with
    | nil => intro acc; simp
    | cons x L ih =>
      intro acc
      rw [List.foldl_cons, ih]
      simp only [List.length_append, List.length_map, List.length_cons, Nat.pow_succ]
      rw [← Nat.two_mul, Nat.mul_comm 2, Nat.mul_assoc, Nat.mul_comm 2]
  have h := this L [[]]
  simpa [parts] using h
def rowsD (rs : List (List Str)) : List PyData := rs.map fun r => .tuple (txs r)
theorem parts_ok {L : List Str} (hl : L.length ≤ 10) {P : PyData → Prop} {X : String → Prop} : okP (m__law_parts_of [.list (txs L)]) P X ↔ P (.list (rowsD (parts L))) := by
  have hh : okP (m__law_parts_of [.list (txs L)]) (fun z => z = .list (rowsD (parts L))) fun _ => False := by
    unfold m__law_parts_of
    rw [okP_runP]
    refine ⟨rfl, ?_⟩
    unfold b__law_parts_of
    simp [szl]
    refine svO_inv (fun rem g => ∃ (pre rs : List Str) (s2 s3 : Sl), (pre ++ rs = L ∧ rem = txs rs) ∧ g = [.dat (.list (txs L)), .dat (.list (rowsD (parts pre))), s2, s3]) ⟨[], L, .dead, .dead, ⟨rfl, rfl⟩, rfl⟩ ?_ ?_
    · rintro d ds g ⟨pre, rs, s2, s3, ⟨e1, e2⟩, hg⟩
      cases rs with
      | nil => cases e2
      | cons x rs =>
        have e2' : d :: ds = .str x :: txs rs := e2
        injection e2' with e2 e3
        rw [hg, e2]
        have lp : pre.length ≤ 10 := by
          have := congrArg List.length e1
          simp at this
          omega
        have lb : (parts pre).length ≤ 1024 := by
          rw [parts_len]
          exact Nat.pow_le_pow_right (by decide) lp
        simp [szl]
        refine ⟨by simp [rowsD]; omega, ?_⟩
        refine okC_map (fun z => match z with | .tuple ys => .tuple (ys ++ [.str x]) | z => z) (fun z hz => ?_) ?_
        · obtain ⟨r, hr, rfl⟩ := List.mem_map.mp hz
          have rl : r.length ≤ 10 := by
            have := (mem_parts.mp hr).length_le
            omega
          simp [wipeG, szl, txs_len]
          omega
        · have em : (rowsD (parts pre)).map (fun z => match z with | .tuple ys => .tuple (ys ++ [.str x]) | z => z) = rowsD ((parts pre).map (· ++ [x])) := by
            simp [rowsD, txs]
          rw [em]
          have ea : rowsD (parts pre) ++ rowsD ((parts pre).map (· ++ [x])) = rowsD (parts (pre ++ [x])) := by
            rw [parts_next]
            simp [rowsD]
          have el : (rowsD (parts pre)).length + (rowsD ((parts pre).map (· ++ [x]))).length ≤ 2048 := by
            simp [rowsD]
            omega
          simp [wipeG, szl, ea]
          exact ⟨by omega, pre ++ [x], ⟨rs, by simp [e1], e3⟩, rfl⟩
    · rintro g ⟨pre, rs, s2, s3, ⟨e1, e2⟩, hg⟩
      have : rs = [] := by
        cases rs with
        | nil => rfl
        | cons x rs => cases e2
      subst this
      rw [List.append_nil] at e1
      subst e1
      rw [hg]
      simp
  rw [of_okP hh]
  exact Iff.rfl
theorem okP_ex {r : Except Er PyData} {Q : PyData → Prop} (h : okP r Q fun _ => False) : ∃ z, r = .ok z ∧ Q z := by
  rcases r with (_ | ⟨c, g⟩) | z
  · exact h.elim
  · exact h.elim
  · exact ⟨z, rfl, h⟩
theorem plcs_few {ns : List Step} (h : WN ns) : (plcs [] ns).length ≤ 4 := plcs_len h (by simp)
theorem dd_few' {ns : List Step} (h : WN ns) : (Ts.dd ([] ++ flat ns)).length < 64 := by
  have : (plcs [] ns).length = (Ts.dd ([] ++ flat ns)).length := srt_len _
  have := plcs_few h
  omega
end Pf
namespace Pf
open PySem Mi L2
/-! the law's side -/
def badB (R : List Str) (s : Step) : Bool := s.2.2.any (fun x => R.contains x) && !(s.2.1.any fun x => R.contains x)
def siphB (ns : List Step) (R : List Str) : Bool := !(ns.any (badB R))
theorem siphB_iff {ns : List Step} {R : List Str} : siphB ns R = true ↔ Siph ns R := by
  unfold siphB badB Siph
  rw [Bool.not_eq_true', List.any_eq_false]
  constructor
  · intro h s hs hn x hx hg
    refine h s hs ?_
    rw [Bool.and_eq_true, Bool.not_eq_true', List.any_eq_true, List.any_eq_false]
    refine ⟨⟨x, hg, by simpa using hx⟩, fun y hy => ?_⟩
    intro q
    exact hn y (by simpa using q) hy
  · intro h s hs hb
    rw [Bool.and_eq_true, Bool.not_eq_true', List.any_eq_true, List.any_eq_false] at hb
    obtain ⟨⟨x, hg, hx⟩, hn⟩ := hb
    exact h s hs (fun y hy q => hn y q (by simpa using hy)) x (by simpa using hx) hg
theorem in_fm {xs R : List Str} : ((txs xs).filterMap fun z => if R.contains (txo z) = true then some z else none) = txs (xs.filter fun x => R.contains x) := by
  have := fm_txs (l := xs) (f := fun x => !R.contains x)
  simp only [Bool.not_not] at this
  rw [← this]
  congr 1
  funext z
  cases R.contains (txo z) <;> rfl
theorem is_emp {xs R : List Str} : (txs (xs.filter fun x => R.contains x)).isEmpty = !(xs.any fun x => R.contains x) := by
  induction xs with
  | nil => rfl
  | cons x xs ih =>
    rw [List.filter_cons, List.any_cons]
    cases R.contains x with
    | true => rfl
    | false => simpa using ih
theorem comp_in {c0 c2 : Sl} {xs R : List Str} {Q : List PyData → Gm → Prop} (h : Q (txs (xs.filter fun x => R.contains x)) [c0, .dat (.tuple (txs R)), c2, .dead]) :
    okC (compL [3] (bName 3) (tstM (op2V (inD id) 3 (pkV 1))) (rdV 3) (txs xs) [c0, .dat (.tuple (txs R)), c2, .dead]) Q := by
  refine okC_fm (fun z => if R.contains (txo z) = true then some z else none) (fun z hz => ?_) (by rw [in_fm]; exact h)
  obtain ⟨x, hx, rfl⟩ := List.mem_map.mp hz
  simp [-in_tup, -in_lst, wipeG, in_txsT, txo]
theorem is_siph_ok {c : List PyData → PyData} {ns : List Step} {R : List Str} (hc : itemsD (c (ns.map stD)) = some (ns.map stD)) (hw : ∀ s ∈ ns, s.2.1.length ≤ 1000 ∧ s.2.2.length ≤ 1000) (hl : ns.length ≤ 1000) {P : PyData → Prop} {X : String → Prop} : okP (m__law_is_siphon [c (ns.map stD), .tuple (txs R)]) P X ↔ P (.bool (siphB ns R)) := by
  have hh : okP (m__law_is_siphon [c (ns.map stD), .tuple (txs R)]) (fun z => z = .bool (siphB ns R)) fun _ => False := by
    unfold m__law_is_siphon
    rw [okP_runP]
    refine ⟨rfl, ?_⟩
    unfold b__law_is_siphon
    simp [-in_tup, -in_lst, hc, szl]
    refine ⟨by omega, ?_⟩
    refine okC_fm (fun d => match d with | .tuple [.str n, .tuple a, .tuple b] => if badB R (n, a.map txo, b.map txo) = true then some d else none | _ => none) (fun d hd => ?_) ?_
    · obtain ⟨st, hs, rfl⟩ := List.mem_map.mp hd
      have hb := hw st hs
      have em : ∀ xs : List Str, (txs xs).map txo = xs := fun xs => by
        induction xs with
        | nil => rfl
        | cons x xs ih => simpa [txs, txo] using ih
      simp [-in_tup, -in_lst, wipeG, szl, stD, txs_len, em]
      refine ⟨by omega, comp_in ?_⟩
      rw [ne_nilL, is_emp]
      cases e1 : (st.2.2.any fun x => R.contains x) with
      | false =>
        have bq : badB R (st.1, st.2.1, st.2.2) = false := by
          unfold badB
          rw [e1]
          rfl
        simp [bq]
      | true =>
        simp [szl, txs_len]
        refine ⟨by omega, comp_in ?_⟩
        rw [eq_nilL, is_emp]
        cases e2 : (st.2.1.any fun x => R.contains x) with
        | false =>
          have bq : badB R (st.1, st.2.1, st.2.2) = true := by
            unfold badB
            rw [e1, e2]
            rfl
          simp [bq]
        | true =>
          have bq : badB R (st.1, st.2.1, st.2.2) = false := by
            unfold badB
            rw [e1, e2]
            rfl
          simp [bq]
    · have em : ∀ xs : List Str, (txs xs).map txo = xs := fun xs => by
        induction xs with
        | nil => rfl
        | cons x xs ih => simpa [txs, txo] using ih
      have ef : ∀ ms : List Step, ((ms.map stD).filterMap fun d => match d with | .tuple [.str n, .tuple a, .tuple b] => if badB R (n, a.map txo, b.map txo) = true then some d else none | _ => none).isEmpty = siphB ms R := fun ms => by
        induction ms with
        | nil => rfl
        | cons m ms ih =>
          rw [List.map_cons, List.filterMap_cons]
          unfold siphB at ih ⊢
          rw [List.any_cons]
          have e0 : badB R (m.1, (txs m.2.1).map txo, (txs m.2.2).map txo) = badB R m := by rw [em, em]
          cases hb : badB R m with
          | true => simp [stD, e0, hb]
          | false => simpa [stD, e0, hb] using ih
      simp only [ev_lstO, ev_op2, ev_lstM, ev_nilM, eq_nilL, ef]
  rw [of_okP hh]
  exact Iff.rfl
end Pf
namespace Pf
open PySem Mi L2
/-! least rows, in plain lists -/
def subB (o r : List Str) : Bool := o.all fun x => r.contains x
theorem subB_iff {o r : List Str} : subB o r = true ↔ ∀ x ∈ o, x ∈ r := by
  unfold subB
  rw [List.all_eq_true]
  constructor
  · intro h x hx
    simpa using h x hx
  · intro h x hx
    simpa using h x hx
def goodB (ns : List Step) (r : List Str) : Bool := !r.isEmpty && siphB ns r
/-- good, and no other good one within it -/
def minB (ns : List Step) (P : List (List Str)) (r : List Str) : Bool := goodB ns r && P.all fun o => !(goodB ns o && decide (o ≠ r) && subB o r)
theorem sub_filter {L R : List Str} (h : R.Sublist L) (n : L.Nodup) : R = L.filter fun x => R.contains x := by
  induction h with
  | slnil => rfl
  | @cons R L a h ih =>
    have n' := List.nodup_cons.mp n
    have ha : a ∉ R := fun q => n'.1 (h.mem q)
    rw [List.filter_cons]
    have : R.contains a = false := by simpa using ha
    rw [this]
    exact ih n'.2
  | @cons_cons R L a h ih =>
    have n' := List.nodup_cons.mp n
    rw [List.filter_cons]
    have : (a :: R).contains a = true := by simp
    rw [if_pos this]
    have e : L.filter (fun x => (a :: R).contains x) = L.filter fun x => R.contains x := by
      refine List.filter_congr fun x hx => ?_
      have : x ≠ a := fun q => n'.1 (q ▸ hx)
      simp [this]
    rw [e, ← ih n'.2]
theorem sub_of {L o r : List Str} (n : L.Nodup) (ho : o.Sublist L) (hr : r.Sublist L) (h : ∀ x ∈ o, x ∈ r) : o.Sublist r := by
  have e1 := sub_filter ho n
  have e2 := sub_filter hr n
  have : o = r.filter fun x => o.contains x := by
    rw [e2, List.filter_filter]
    refine e1.trans (List.filter_congr fun x hx => ?_)
    cases hc : o.contains x with
    | false => simp
    | true =>
      have : x ∈ r := h x (by simpa using hc)
      simp [this]
  rw [this]
  exact List.filter_sublist
theorem sub_len {L o r : List Str} (n : L.Nodup) (ho : o.Sublist L) (hr : r.Sublist L) (h : ∀ x ∈ o, x ∈ r) (ne : o ≠ r) : o.length < r.length := by
  have s := sub_of n ho hr h
  have l := s.length_le
  rcases Nat.lt_or_ge o.length r.length with q | q
  · exact q
  · exact absurd (s.eq_of_length_le q) ne
/-- there is a least one within each good one -/
theorem min_in {ns : List Step} {L : List Str} {P : List (List Str)} (n : L.Nodup) (hP : ∀ r ∈ P, r.Sublist L) : ∀ (k : Nat) (r : List Str), r.length ≤ k → r ∈ P → goodB ns r = true → ∃ o ∈ P, minB ns P o = true ∧ (∀ x ∈ o, x ∈ r) ∧ o.length ≤ r.length
  | k, r, hk, hr, hg => by
    cases hm : minB ns P r with
    | true => exact ⟨r, hr, hm, fun x h => h, Nat.le_refl _⟩
    | false =>
      unfold minB at hm
      rw [hg, Bool.true_and] at hm
      obtain ⟨o, ho, hn⟩ := List.all_eq_false.mp hm
      simp only [Bool.not_eq_true', Bool.not_eq_false, Bool.and_eq_true, decide_eq_true_eq] at hn
      have sb := subB_iff.mp hn.2
      have lt := sub_len n (hP o ho) (hP r hr) sb hn.1.2
      cases k with
      | zero => omega
      | succ k =>
        obtain ⟨o', h1, h2, h3, h4⟩ := min_in n hP k o (by omega) ho hn.1.1
        exact ⟨o', h1, h2, fun x hx => sb x (h3 x hx), by omega⟩
/-- one row more -/
def grow (ns : List Step) (found : List (List Str)) (r : List Str) : List (List Str) := if goodB ns r && !(found.any fun o => subB o r) then found ++ [r] else found
theorem grow_min {ns : List Step} {L : List Str} {P pre post : List (List Str)} {r : List Str} (n : L.Nodup) (hP : ∀ r ∈ P, r.Sublist L) (p : (pre ++ r :: post).Perm P) (nd : (pre ++ r :: post).Nodup) (hl : ∀ o ∈ post, r.length ≤ o.length) :
    grow ns (pre.filter (minB ns P)) r = (pre ++ [r]).filter (minB ns P) := by
  have hr : r ∈ P := p.mem_iff.mp (by simp)
  rw [List.filter_append]
  unfold grow
  cases hm : minB ns P r with
  | true =>
    have hm' := hm
    unfold minB at hm'
    rw [Bool.and_eq_true] at hm'
    have hno : ((pre.filter (minB ns P)).any fun o => subB o r) = false := List.any_eq_false.mpr fun o ho => by
      obtain ⟨h1, h2⟩ := List.mem_filter.mp ho
      have hoP : o ∈ P := p.mem_iff.mp (by simp [h1])
      have q := List.all_eq_true.mp hm'.2 o hoP
      have ne : o ≠ r := fun e => by
        have := (List.nodup_append.mp nd).2.2 o h1 r (by simp)
        exact this e
      have go : goodB ns o = true := by
        unfold minB at h2
        exact (Bool.and_eq_true _ _ ▸ h2).1
      rw [go, decide_eq_true ne] at q
      simpa using q
    rw [hm'.1, hno]
    simp [hm]
  | false =>
    have e : [r].filter (minB ns P) = [] := by simp [hm]
    rw [e, List.append_nil]
    cases hg : goodB ns r with
    | false => simp
    | true =>
      unfold minB at hm
      rw [hg, Bool.true_and] at hm
      obtain ⟨o, ho, hn⟩ := List.all_eq_false.mp hm
      simp only [Bool.not_eq_true', Bool.not_eq_false, Bool.and_eq_true, decide_eq_true_eq] at hn
      have sb := subB_iff.mp hn.2
      have lt := sub_len n (hP o ho) (hP r hr) sb hn.1.2
      obtain ⟨o', h1, h2, h3, h4⟩ := min_in (ns := ns) n hP o.length o (Nat.le_refl _) ho hn.1.1
      have hpre : o' ∈ pre := by
        have := p.mem_iff.mpr h1
        rcases List.mem_append.mp this with q | q
        · exact q
        · rcases List.mem_cons.mp q with rfl | q
          · omega
          · have := hl o' q
            omega
      have yes : ((pre.filter (minB ns P)).any fun o => subB o r) = true := List.any_eq_true.mpr ⟨o', List.mem_filter.mpr ⟨hpre, h2⟩, subB_iff.mpr fun x hx => sb x (h3 x hx)⟩
      rw [yes]
      simp
end Pf
namespace Pf
open PySem Mi L2
theorem svO_mono {o : Out} {P P' : Out → Prop} (h : svO o P) (i : ∀ o, P o → P' o) : svO o P' := sv_mono (a := fun _ => o) (g := []) h i
theorem among_ok {c : List PyData → PyData} {o r : List Str} (ho : o.length ≤ 1000) {P : PyData → Prop} {X : String → Prop} : okP (m_is_among [.tuple (txs o), .tuple (txs r)]) P X ↔ P (.bool (subB o r)) := by
  have hh : okP (m_is_among [.tuple (txs o), .tuple (txs r)]) (fun z => z = .bool (subB o r)) fun _ => False := by
    unfold m_is_among
    rw [okP_runP]
    refine ⟨rfl, ?_⟩
    unfold b_is_among
    simp [-in_lst, -in_tup, szl, txs_len]
    refine ⟨by omega, ?_⟩
    refine okC_map (fun z => .bool (r.contains (txo z))) (fun z hz => ?_) ?_
    · obtain ⟨x, hx, rfl⟩ := List.mem_map.mp hz
      simp [-in_tup, -in_lst, wipeG, in_txsT, txo]
    · rw [in_lst]
      have e : (((txs o).map fun z => PyData.bool (r.contains (txo z))).any fun z => PyData.eqv z (.bool false)) = !subB o r := by
        unfold subB txs
        induction o with
        | nil => rfl
        | cons x o ih =>
          have ih' := ih (by simp at ho; omega)
          simp only [List.map_cons, List.any_cons, List.all_cons]
          rw [ih']
          have : txo (.str x) = x := rfl
          rw [this]
          cases r.contains x <;> simp [PyData.eqv]
      have lw : lowI (.bool false) (.list ((txs o).map fun z => PyData.bool (r.contains (txo z)))) = true := low_i (by simpa [DcEq.ndB] using nd_bools (txs o) fun z => r.contains (txo z)) (by
        have dp : ∀ zs : List PyData, PyData.depthAll (zs.map fun z => PyData.bool (r.contains (txo z))) = 0 := fun zs => by
          induction zs <;> simp_all [PyData.depthAll, PyData.depth]
        have := dp (txs o)
        simp only [PyData.depth]
        omega)
      rw [e]
      exact ⟨lw, by simp⟩
  generalize m_is_among [.tuple (txs o), .tuple (txs r)] = z at hh ⊢
  exact eq_iff (of_okP hh)
/-- the names of the steps that fill -/
def bodyF : Gm → Out := (ifS (andT (tstM (op2 (inD id) (ret (.bool true)) (lstO (compM (seqI (rdV 1)) [6] (bName 6) yesM (op2V (inD id) 6 (pkV 5)))))) (tstM (op2 (inD not) (ret (.bool true)) (lstO (compM (seqI (rdV 1)) [6] (bName 6) yesM (op2V (inD id) 6 (pkV 4))))))) (dropS (appM 2 (rdV 3))) nxS)
theorem badB_any {R : List Str} {s : Step} : badB R s = ((R.any fun x => s.2.2.contains x) && !(R.any fun x => s.2.1.contains x)) := by
  have sw : ∀ a b : List Str, (a.any fun x => b.contains x) = b.any fun x => a.contains x := fun a b => by
    cases h : a.any fun x => b.contains x with
    | true =>
      obtain ⟨x, hx, hc⟩ := List.any_eq_true.mp h
      exact (List.any_eq_true.mpr ⟨x, by simpa using hc, by simpa using hx⟩).symm
    | false =>
      refine (List.any_eq_false.mpr fun x hx q => ?_).symm
      exact List.any_eq_false.mp h x (by simpa using q) (by simpa using hx)
  unfold badB
  rw [sw s.2.2 R, sw s.2.1 R]
theorem loopF {R : List Str} (hR : R.length ≤ 1000) {c0 : Sl} : ∀ {ns : List Step} {fs : List Str} {c3 c4 c5 c6 : Sl}, fs.length + ns.length ≤ 1000 →
    svO (forL (bTup 3 (bCons (bName 3) (bCons (bName 4) (bCons (bName 5) bNil)))) bodyF (ns.map stD) [c0, .dat (.tuple (txs R)), .own false (.list (txs fs)), c3, c4, c5, c6]) fun o => ∃ c3 c4 c5 c6, o = .nx [c0, .dat (.tuple (txs R)), .own false (.list (txs (fs ++ (ns.filter (badB R)).map (·.1)))), c3, c4, c5, c6]
  | [], fs, c3, c4, c5, c6, _ => ⟨c3, c4, c5, c6, by simp; rfl⟩
  | s :: ns, fs, c3, c4, c5, c6, hl => by
    show svO (forL _ bodyF (stD s :: ns.map stD) _) _
    rw [svO_for_cons]
    have ih := fun fs' hl' => loopF hR (c0 := c0) (ns := ns) (fs := fs') (c3 := .dat (.str s.1)) (c4 := .dat (.tuple (txs s.2.1))) (c5 := .dat (.tuple (txs s.2.2))) (c6 := .dead) hl'
    generalize hB : (forL (bTup 3 (bCons (bName 3) (bCons (bName 4) (bCons (bName 5) bNil)))) bodyF (ns.map stD)) = B at ih ⊢
    have hl2 : fs.length + ns.length + 1 ≤ 1000 := by simpa [Nat.add_assoc] using hl
    have e0 : (s :: ns).filter (badB R) = if badB R s = true then s :: ns.filter (badB R) else ns.filter (badB R) := List.filter_cons
    generalize hT : fs ++ ((s :: ns).filter (badB R)).map (·.1) = T
    rw [e0, badB_any] at hT
    unfold bodyF
    simp [-in_lst, -in_tup, stD, szl, txs_len]
    refine ⟨by omega, ?_⟩
    refine okC_map (fun z => .bool (s.2.2.contains (txo z))) (fun z hz => ?_) ?_
    · obtain ⟨x, hx, rfl⟩ := List.mem_map.mp hz
      simp [-in_tup, -in_lst, wipeG, in_txsT, txo]
    · simp only [ev_ret, ev_lstO, ev_op2, tt_in, txs_any]
      cases h1 : R.any fun x => s.2.2.contains x with
      | false =>
        rw [h1, if_neg (by simp)] at hT
        rw [← hT]
        simpa [wipeG] using ih fs (by omega)
      | true =>
        simp [-in_lst, -in_tup, wipeG, szl, txs_len]
        refine ⟨by omega, ?_⟩
        refine okC_map (fun z => .bool (s.2.1.contains (txo z))) (fun z hz => ?_) ?_
        · obtain ⟨x, hx, rfl⟩ := List.mem_map.mp hz
          simp [-in_tup, -in_lst, wipeG, in_txsT, txo]
        · simp only [ev_ret, ev_lstO, ev_op2, tt_in, txs_any]
          cases h2 : R.any fun x => s.2.1.contains x with
          | true =>
            rw [h1, h2, if_neg (by simp)] at hT
            rw [← hT]
            simpa using ih fs (by omega)
          | false =>
            rw [h1, h2, if_pos (by simp)] at hT
            rw [← hT]
            have e1 : txs fs ++ [.str s.1] = txs (fs ++ [s.1]) := by simp [txs]
            have q := ih (fs ++ [s.1]) (by simp; omega)
            simp [szl, txs_len, e1]
            refine ⟨by omega, ?_⟩
            simpa using q
theorem fills_ok {ns : List Step} {R : List Str} (hR : R.length ≤ 1000) (hn : ns.length ≤ 1000) {P : PyData → Prop} {X : String → Prop} : okP (m_fills [.tuple (ns.map stD), .tuple (txs R)]) P X ↔ P (.list (txs ((ns.filter (badB R)).map (·.1)))) := by
  have hh : okP (m_fills [.tuple (ns.map stD), .tuple (txs R)]) (fun z => z = .list (txs ((ns.filter (badB R)).map (·.1)))) fun _ => False := by
    unfold m_fills
    rw [okP_runP]
    refine ⟨rfl, ?_⟩
    unfold b_fills
    have lf := loopF hR (c0 := .dat (.tuple (ns.map stD))) (ns := ns) (fs := []) (c3 := .dead) (c4 := .dead) (c5 := .dead) (c6 := .dead) (by simpa using hn)
    unfold bodyF at lf
    simp [-in_lst, -in_tup]
    refine svO_mono lf fun o ho => ?_
    obtain ⟨c3, c4, c5, c6, rfl⟩ := ho
    simp
  generalize m_fills [.tuple (ns.map stD), .tuple (txs R)] = z at hh ⊢
  exact eq_iff (of_okP hh)
end Pf
namespace Pf
open PySem Mi L2
def rwD (r : List Str) : PyData := .tuple (txs r)
def prD (r : List Str) : PyData := .tuple [.int (r.length : Nat), rwD r]
def rws (rs : List (List Str)) : List PyData := rs.map rwD
theorem rws_len {rs : List (List Str)} : (rws rs).length = rs.length := by simp [rws]
def bodyS : Gm → Out := (ifS (andT (tru (pkV 6)) (andT (notT (tru (callM m_fills (consM (rdV 0) (consM (rdV 6) nilM))))) (tstM (op2 (inD not) (ret (.bool true)) (lstO (compP 2 [7] (bName 7) yesM (callM m_is_among (consM (rdV 7) (consM (rdV 6) nilM))))))))) (dropS (appM 2 (rdV 6))) nxS)
theorem siph_nil {ns : List Step} {r : List Str} : (txs ((ns.filter (badB r)).map (·.1))).isEmpty = siphB ns r := by
  unfold siphB
  induction ns with
  | nil => rfl
  | cons s ns ih =>
    rw [List.filter_cons, List.any_cons]
    cases badB r s with
    | true => rfl
    | false => simpa using ih
theorem tt_rows {rs : List (List Str)} {f : List Str → Bool} {g : Bool → Bool} {P : PyData → Prop} : okO (inD g (.bool true) (.list (rs.map fun r => .bool (f r)))) P ↔ P (.bool (g (rs.any f))) := by
  rw [in_lst]
  have e : ((rs.map fun z => PyData.bool (f z)).any fun z => PyData.eqv z (.bool true)) = rs.any f := by
    induction rs with
    | nil => rfl
    | cons z zs ih =>
      rw [List.map_cons, List.any_cons, ih, List.any_cons]
      cases f z <;> simp [PyData.eqv]
  have nd : DcEq.ndAll (rs.map fun z => PyData.bool (f z)) = true := by
    clear e
    induction rs <;> simp_all [DcEq.ndAll, DcEq.ndB]
  have : lowI (.bool true) (.list (rs.map fun z => PyData.bool (f z))) = true := by
    simp [lowI, DcEq.ndB, nd, PyData.depth]
  rw [e]
  simp only [this, true_and]
def txsO : PyData → List Str
  | .tuple xs => xs.map txo
  | _ => []
theorem txsO_rw {r : List Str} : txsO (rwD r) = r := by
  show (txs r).map txo = r
  unfold txs
  rw [List.map_map]
  have : (txo ∘ PyData.str) = id := rfl
  rw [this, List.map_id]
theorem loopS {ns : List Step} (hn : ns.length ≤ 1000) {c1 c3 c4 : Sl} : ∀ {S fs : List (List Str)} {c5 c6 c7 : Sl}, (∀ r ∈ S, r.length ≤ 1000) → (∀ r ∈ fs, r.length ≤ 1000) → fs.length + S.length ≤ 1000 →
    svO (forL (bTup 2 (bCons (bName 5) (bCons (bName 6) bNil))) bodyS (S.map prD) [.dat (.tuple (ns.map stD)), c1, .own false (.list (rws fs)), c3, c4, c5, c6, c7]) fun o => ∃ c5 c6 c7, o = .nx [.dat (.tuple (ns.map stD)), c1, .own false (.list (rws (S.foldl (grow ns) fs))), c3, c4, c5, c6, c7]
  | [], fs, c5, c6, c7, _, _, _ => ⟨c5, c6, c7, rfl⟩
  | r :: S, fs, c5, c6, c7, hr, hf, hl => by
    have hl2 : fs.length + S.length + 1 ≤ 1000 := by simpa [Nat.add_assoc] using hl
    have r1 := hr r (by simp)
    have fk := fun {P : PyData → Prop} {X : String → Prop} => fills_ok (ns := ns) (R := r) r1 hn (P := P) (X := X)
    show svO (forL _ bodyS (prD r :: S.map prD) _) _
    rw [svO_for_cons]
    have ih := fun fs' h1 h2 c7' => loopS hn (c1 := c1) (c3 := c3) (c4 := c4) (S := S) (fs := fs') (c5 := .dat (.int (r.length : Nat))) (c6 := .dat (rwD r)) (c7 := c7') (fun q h => hr q (by simp [h])) h1 h2
    rw [List.foldl_cons]
    generalize hG : grow ns fs r = fs'
    generalize hB : (forL (bTup 2 (bCons (bName 5) (bCons (bName 6) bNil))) bodyS (S.map prD)) = B at ih ⊢
    unfold grow goodB at hG
    unfold bodyS
    have et : txs r = [] ↔ r = [] := by simp [txs]
    simp [-in_lst, -in_tup, prD, rwD, szl, txs_len, fk]
    have nil_iff : (txs ((ns.filter (badB r)).map (·.1)) = []) ↔ siphB ns r = true := by
      rw [← siph_nil, List.isEmpty_iff]
    by_cases h0 : r = []
    · rw [if_pos (et.mpr h0)]
      have : fs' = fs := by rw [← hG, h0]; rfl
      rw [this]
      exact ih fs hf (by omega) c7
    · rw [if_neg (fun q => h0 (et.mp q))]
      have hE : r.isEmpty = false := by
        cases r with
        | nil => exact absurd rfl h0
        | cons x r => rfl
      cases hb : siphB ns r with
      | false =>
        rw [if_neg (by rw [nil_iff, hb]; decide)]
        have : fs' = fs := by rw [← hG, hE, hb]; rfl
        rw [this]
        exact ih fs hf (by omega) c7
      | true =>
        rw [if_pos (nil_iff.mpr hb)]
        refine ⟨by rw [rws_len]; omega, ?_⟩
        refine okC_map (fun z => .bool (subB (txsO z) r)) (fun z hz => ?_) ?_
        · obtain ⟨o, ho, rfl⟩ := List.mem_map.mp hz
          have ak := fun {P : PyData → Prop} {X : String → Prop} => among_ok (c := .tuple) (o := o) (r := r) (hf o ho) (P := P) (X := X)
          rw [txsO_rw]
          simp [wipeG, rwD, ak]
        · have em : (rws fs).map (fun z => PyData.bool (subB (txsO z) r)) = fs.map fun o => .bool (subB o r) := by
            unfold rws
            rw [List.map_map]
            refine List.map_congr_left fun o _ => ?_
            show PyData.bool (subB (txsO (rwD o)) r) = _
            rw [txsO_rw]
          rw [em]
          simp only [wipeG, dead_2, List.set]
          show okO (inD not (.bool true) (.list (fs.map fun o => .bool (subB o r)))) _
          rw [tt_rows]
          cases ha : fs.any fun o => subB o r with
          | true =>
            have : fs' = fs := by rw [← hG, hE, hb, ha]; rfl
            rw [this]
            simpa [rwD] using ih fs hf (by omega) .dead
          | false =>
            have : fs' = fs ++ [r] := by rw [← hG, hE, hb, ha]; rfl
            rw [this]
            have e1 : rws fs ++ [.tuple (txs r)] = rws (fs ++ [r]) := by
              unfold rws
              rw [List.map_append]
              rfl
            have q := ih (fs ++ [r]) (fun x hx => by
              rcases List.mem_append.mp hx with h | h
              · exact hf x h
              · rw [List.mem_singleton.mp h]; exact r1) (by simp; omega) .dead
            have rl := rws_len (rs := fs)
            simp [szl, e1, rl]
            exact ⟨by omega, by simpa [rwD] using q⟩
/-- the row of a pair -/
def ofPr : PyData → List Str
  | .tuple [_, x] => txsO x
  | _ => []
theorem ofPr_pr {r : List Str} : ofPr (prD r) = r := txsO_rw
theorem alike_txs : ∀ (a b : List Str), PySem.W.alikeAll (txs a) (txs b) = true
  | [], _ => by simp [txs, PySem.W.alikeAll]
  | _ :: _, [] => by simp [txs, PySem.W.alikeAll]
  | x :: a, y :: b => by
    show PySem.W.alikeAll (.str x :: txs a) (.str y :: txs b) = true
    rw [PySem.W.alikeAll, alike_txs a b]
    simp [PySem.W.alike]
theorem alike_rw (a b : List Str) : PySem.W.alike (rwD a) (rwD b) = true := by
  show PySem.W.alike (.tuple (txs a)) (.tuple (txs b)) = true
  rw [PySem.W.alike]
  exact alike_txs a b
theorem dp_rw (r : List Str) : (rwD r).depth = 1 := by
  show (PyData.tuple (txs r)).depth = 1
  simp only [PyData.depth, dp_txs]
theorem nd_rw (r : List Str) : DcEq.ndB (rwD r) = true := by
  show DcEq.ndB (.tuple (txs r)) = true
  simpa [DcEq.ndB] using nd_txs r
theorem srtC_of {ds : List PyData} (h1 : ∀ d ∈ ds, ∀ e ∈ ds, PySem.W.alike d e = true) (h2 : ∀ d ∈ ds, tupB d = true) (h3 : ∀ d ∈ ds, DcEq.ndB d = true) (h4 : ∀ d ∈ ds, d.depth ≤ 60) (h5 : ds.length ≤ 1000) : srtC ds = true := by
  have nd : DcEq.ndAll ds = true := by
    clear h1 h2 h4 h5
    induction ds with
    | nil => rfl
    | cons d ds ih =>
      simp only [DcEq.ndAll, Bool.and_eq_true]
      exact ⟨h3 d (by simp), ih fun e he => h3 e (by simp [he])⟩
  have dp : PyData.depthAll ds ≤ 60 := by
    clear h1 h2 h3 h5 nd
    induction ds with
    | nil => simp [PyData.depthAll]
    | cons d ds ih =>
      have a := h4 d (by simp)
      have b := ih fun e he => h4 e (by simp [he])
      simp only [PyData.depthAll]
      omega
  unfold srtC
  simp only [Bool.and_eq_true, Bool.or_eq_true, decide_eq_true_eq]
  exact ⟨⟨⟨⟨List.all_eq_true.mpr fun d hd => List.all_eq_true.mpr fun e he => h1 d hd e he, .inl (List.all_eq_true.mpr h2)⟩, nd⟩, dp⟩, by rw [szl]; omega⟩
theorem srtC_pr {rs : List (List Str)} (h : rs.length ≤ 1000) : srtC (rs.map prD) = true := by
  refine srtC_of (fun d hd e he => ?_) (fun d hd => ?_) (fun d hd => ?_) (fun d hd => ?_) (by simpa using h)
  · obtain ⟨a, _, rfl⟩ := List.mem_map.mp hd
    obtain ⟨b, _, rfl⟩ := List.mem_map.mp he
    show PySem.W.alike (.tuple [.int a.length, rwD a]) (.tuple [.int b.length, rwD b]) = true
    rw [PySem.W.alike, PySem.W.alikeAll, PySem.W.alikeAll, alike_rw]
    simp [PySem.W.alike, PySem.W.alikeAll]
  · obtain ⟨a, _, rfl⟩ := List.mem_map.mp hd
    rfl
  · obtain ⟨a, _, rfl⟩ := List.mem_map.mp hd
    show DcEq.ndB (.tuple [.int a.length, rwD a]) = true
    simp [DcEq.ndB, DcEq.ndAll, nd_rw]
  · obtain ⟨a, _, rfl⟩ := List.mem_map.mp hd
    show (PyData.tuple [.int a.length, rwD a]).depth ≤ 60
    simp [PyData.depth, PyData.depthAll, dp_rw]
theorem srtC_rw {rs : List (List Str)} (h : rs.length ≤ 1000) (hne : ∀ r ∈ rs, r ≠ []) : srtC (rws rs) = true := by
  refine srtC_of (fun d hd e he => ?_) (fun d hd => ?_) (fun d hd => ?_) (fun d hd => ?_) (by rw [rws_len]; exact h)
  · obtain ⟨a, _, rfl⟩ := List.mem_map.mp hd
    obtain ⟨b, _, rfl⟩ := List.mem_map.mp he
    exact alike_rw a b
  · obtain ⟨a, ha, rfl⟩ := List.mem_map.mp hd
    cases a with
    | nil => exact absurd rfl (hne _ ha)
    | cons x a => rfl
  · obtain ⟨a, _, rfl⟩ := List.mem_map.mp hd
    exact nd_rw a
  · obtain ⟨a, _, rfl⟩ := List.mem_map.mp hd
    rw [dp_rw]
    decide
/-- the rows in the order of the walk -/
def ordS (P : List (List Str)) : List (List Str) := (srtA (P.map prD)).map ofPr
theorem ordS_map {P : List (List Str)} : (ordS P).map prD = srtA (P.map prD) := by
  unfold ordS
  rw [List.map_map]
  have : ∀ d ∈ srtA (P.map prD), (prD ∘ ofPr) d = d := fun d hd => by
    obtain ⟨r, _, rfl⟩ := List.mem_map.mp ((srtA_perm _).mem_iff.mp hd)
    show prD (ofPr (prD r)) = prD r
    rw [ofPr_pr]
  rw [List.map_congr_left this]
  simp
theorem ordS_perm {P : List (List Str)} : (ordS P).Perm P := by
  have p := (srtA_perm (P.map prD)).map ofPr
  rw [List.map_map] at p
  have : P.map (ofPr ∘ prD) = P := by
    have e : ofPr ∘ prD = id := funext fun r => ofPr_pr
    rw [e, List.map_id]
  rw [this] at p
  exact p
theorem ordS_rise {P : List (List Str)} : (ordS P).Pairwise fun a b => a.length ≤ b.length := by
  have p := srtA_pw (P.map prD)
  rw [← ordS_map, List.pairwise_map] at p
  exact p.imp fun h => by
    have := pair_le h
    omega
/-- what the walk finds -/
theorem walk_min {ns : List Step} {L : List Str} {P : List (List Str)} (n : L.Nodup) (hP : ∀ r ∈ P, r.Sublist L) (nd : P.Nodup) : ∀ (post pre : List (List Str)), pre ++ post = ordS P → post.foldl (grow ns) (pre.filter (minB ns P)) = (ordS P).filter (minB ns P)
  | [], pre, e => by
    rw [List.append_nil] at e
    rw [← e]
    rfl
  | r :: post, pre, e => by
    have rise := ordS_rise (P := P)
    rw [← e] at rise
    have p : (pre ++ r :: post).Perm P := by rw [e]; exact ordS_perm
    rw [List.foldl_cons, grow_min n hP p (p.nodup_iff.mpr nd) fun o ho => (List.pairwise_cons.mp (List.pairwise_append.mp rise).2.1).1 o ho]
    exact walk_min n hP nd post (pre ++ [r]) (by simpa using e)
end Pf
namespace Pf
open PySem Mi L2
def bodyR : Gm → Out := (setS 3 (op2V addD 3 (lstO (compM (seqI (rdV 3)) [6] (bName 6) yesM (op2V addD 6 (tupM (consM (rdV 4) nilM)))))))
theorem loopR {c0 c1 c2 : Sl} : ∀ {rs pre : List Str} {c4 c5 c6 c7 : Sl}, (pre ++ rs).length ≤ 8 →
    svO (forL (bName 4) bodyR (txs rs) [c0, c1, c2, .dat (.list (rws (parts pre))), c4, c5, c6, c7]) fun o => ∃ c4 c5 c6 c7, o = .nx [c0, c1, c2, .dat (.list (rws (parts (pre ++ rs)))), c4, c5, c6, c7]
  | [], pre, c4, c5, c6, c7, _ => ⟨c4, c5, c6, c7, by rw [List.append_nil]; rfl⟩
  | x :: rs, pre, c4, c5, c6, c7, hl => by
    have lp : pre.length ≤ 8 := by simp at hl; omega
    have lb : (parts pre).length ≤ 256 := by
      rw [parts_len]
      exact Nat.pow_le_pow_right (by decide) lp
    show svO (forL (bName 4) bodyR (.str x :: txs rs) _) _
    rw [svO_for_cons, okO_name]
    have ih := fun c6' => loopR (c0 := c0) (c1 := c1) (c2 := c2) (rs := rs) (pre := pre ++ [x]) (c4 := .dat (.str x)) (c5 := c5) (c6 := c6') (c7 := c7) (by simpa using hl)
    have ea : pre ++ x :: rs = (pre ++ [x]) ++ rs := by simp
    rw [ea]
    generalize hB : (forL (bName 4) bodyR (txs rs)) = B at ih ⊢
    unfold bodyR
    simp [szl, rws_len]
    refine ⟨by omega, ?_⟩
    refine okC_map (fun z => match z with | .tuple ys => .tuple (ys ++ [.str x]) | z => z) (fun z hz => ?_) ?_
    · obtain ⟨r, hr, rfl⟩ := List.mem_map.mp hz
      have rl : r.length ≤ 8 := by
        have := (mem_parts.mp hr).length_le
        omega
      simp [wipeG, szl, txs_len, rwD]
      omega
    · have em : (rws (parts pre)).map (fun z => match z with | .tuple ys => .tuple (ys ++ [.str x]) | z => z) = rws ((parts pre).map (· ++ [x])) := by
        unfold rws
        rw [List.map_map, List.map_map]
        refine List.map_congr_left fun r _ => ?_
        show PyData.tuple (txs r ++ [.str x]) = .tuple (txs (r ++ [x]))
        simp [txs]
      rw [em]
      have ea : rws (parts pre) ++ rws ((parts pre).map (· ++ [x])) = rws (parts (pre ++ [x])) := by
        rw [parts_next]
        simp [rws]
      have el : (rws (parts pre)).length + (rws ((parts pre).map (· ++ [x]))).length ≤ 512 := by
        rw [rws_len, rws_len, List.length_map]
        omega
      simp [wipeG, szl, ea]
      refine ⟨by omega, ?_⟩
      have q := ih .dead
      simpa using q
/-- the least rows, sorted -/
def leastR (ns : List Step) (P : List (List Str)) : List (List Str) := (ordS P).filter (minB ns P)
theorem parts_nd : ∀ {L : List Str}, L.Nodup → (parts L).Nodup := by
  intro L n
  have : ∀ (L : List Str) (pre : List Str), (pre ++ L).Nodup → (parts pre).Nodup → (parts (pre ++ L)).Nodup := by
    intro L
    induction L with
    | nil => intro pre _ h; rw [List.append_nil]; exact h
    | cons x L ih =>
      intro pre n h
      have e : pre ++ x :: L = (pre ++ [x]) ++ L := by simp
      rw [e] at n ⊢
      refine ih _ n ?_
      have hx : x ∉ pre := fun q => by
        have := (List.nodup_append.mp (List.nodup_append.mp n).1).2.2 x q x (by simp)
        exact this rfl
      rw [parts_next]
      refine List.nodup_append.mpr ⟨h, ?_, fun a ha b hb e => ?_⟩
      · refine List.Pairwise.map _ (fun a b hab q => hab ?_) h
        exact List.append_cancel_right q
      · obtain ⟨r, _, rfl⟩ := List.mem_map.mp hb
        rw [e] at ha
        have := (mem_parts.mp ha).mem (show x ∈ r ++ [x] by simp)
        exact hx this
  have := this L [] (by simpa using n) (by simp [parts])
  simpa using this
theorem least_ok {ns : List Step} (h : WN ns) {P : PyData → Prop} {X : String → Prop} : okP (m_least_siphons [.tuple (ns.map stD)]) P X ↔ P (.tuple (srtA (rws (leastR ns (parts (plcs [] ns)))))) := by
  have hh : okP (m_least_siphons [.tuple (ns.map stD)]) (fun z => z = .tuple (srtA (rws (leastR ns (parts (plcs [] ns)))))) fun _ => False := by
    have l4 : (plcs [] ns).length ≤ 4 := plcs_len h (by simp)
    have df : (Ts.dd ([] ++ flat ns)).length < 64 := by
      have : (plcs [] ns).length = (Ts.dd ([] ++ flat ns)).length := srt_len _
      omega
    have pk : ∀ {P : PyData → Prop} {X : String → Prop}, okP (m_places_of [.tuple (ns.map stD), .tuple []]) P X ↔ P (.list (txs (plcs [] ns))) := places_ok' (c := .tuple) (tk := []) (fun _ => rfl) h (by simp) df
    have nl := h.l
    have Ln : (plcs [] ns).Nodup := plcs_nd _ _
    generalize plcs [] ns = L at l4 pk Ln
    have lb : (parts L).length ≤ 16 := by
      rw [parts_len]
      exact Nat.le_trans (Nat.pow_le_pow_right (by decide) l4) (by decide)
    unfold m_least_siphons
    rw [okP_runP]
    refine ⟨rfl, ?_⟩
    unfold b_least_siphons
    simp [szl, pk]
    have lr := loopR (c0 := .dat (.tuple (ns.map stD))) (c1 := .dat (.list (txs L))) (c2 := .own false (.list [])) (rs := L) (pre := []) (c4 := .dead) (c5 := .dead) (c6 := .dead) (c7 := .dead) (by simp; omega)
    unfold bodyR at lr
    refine svO_mono lr fun o ho => ?_
    obtain ⟨c4, c5, c6, c7, rfl⟩ := ho
    rw [List.nil_append]
    simp [szl, rws_len]
    refine ⟨by omega, ?_⟩
    refine okC_map (fun z => prD (txsO z)) (fun z hz => ?_) ?_
    · obtain ⟨r, hr, rfl⟩ := List.mem_map.mp hz
      rw [txsO_rw]
      simp [wipeG, rwD, szl, txs_len, prD]
    · have em : (rws (parts L)).map (fun z => prD (txsO z)) = (parts L).map prD := by
        unfold rws
        rw [List.map_map]
        exact List.map_congr_left fun r _ => congrArg prD txsO_rw
      rw [em]
      simp [wipeG, srtC_pr (rs := parts L) (by omega)]
      rw [← ordS_map]
      have ol := (ordS_perm (P := parts L)).length_eq
      have ls := loopS (ns := ns) (by omega) (c1 := .dat (.list (txs L))) (c3 := .dat (.list (rws (parts L)))) (c4 := c4) (S := ordS (parts L)) (fs := []) (c5 := c5) (c6 := .dead) (c7 := c7) (fun r hr => by
        have := (mem_parts.mp (ordS_perm.mem_iff.mp hr)).length_le
        omega) (by simp) (by simp; omega)
      unfold bodyS at ls
      refine svO_mono ls fun o ho => ?_
      obtain ⟨c5, c6, c7, rfl⟩ := ho
      have wm := walk_min (ns := ns) (P := parts L) Ln (fun r hr => mem_parts.mp hr) (parts_nd Ln) (ordS (parts L)) [] rfl
      rw [List.filter_nil] at wm
      rw [wm]
      have hc : srtC (rws ((ordS (parts L)).filter (minB ns (parts L)))) = true := srtC_rw (by
        have := List.length_filter_le (minB ns (parts L)) (ordS (parts L))
        omega) fun r hr e => by
        have := (List.mem_filter.mp hr).2
        rw [e] at this
        unfold minB goodB at this
        simp at this
      simp [hc]
      rfl
  generalize m_least_siphons [.tuple (ns.map stD)] = z at hh ⊢
  exact eq_iff (of_okP hh)
end Pf
namespace Pf
open PySem Mi L2
theorem eqv_txs2 : ∀ {a b : List Str}, PyData.eqvAll (txs a) (txs b) = decide (a = b)
  | [], [] => rfl
  | [], _ :: _ => rfl
  | _ :: _, [] => rfl
  | x :: a, y :: b => by
    have ih := eqv_txs2 (a := a) (b := b)
    show PyData.eqvAll (.str x :: txs a) (.str y :: txs b) = _
    rw [PyData.eqvAll, ih]
    by_cases h1 : x = y
    · subst h1
      by_cases h2 : a = b <;> simp [PyData.eqv, h2]
    · simp [PyData.eqv, h1]
theorem eqv_rw {a b : List Str} : PyData.eqv (rwD a) (rwD b) = decide (a = b) := by
  show PyData.eqv (.tuple (txs a)) (.tuple (txs b)) = _
  rw [← eqv_txs2]
  simp [PyData.eqv]
theorem ne_rw {a b : List Str} {P : PyData → Prop} : okO (neD (.tuple (txs a)) (.tuple (txs b))) P ↔ P (.bool (!decide (a = b))) := by
  rw [ne_any]
  have e : PyData.eqv (.tuple (txs a)) (.tuple (txs b)) = decide (a = b) := eqv_rw
  rw [e]
  have lw : lowD (.tuple (txs a)) (.tuple (txs b)) = true := low_r (nd_rw b) (by have := dp_rw b; unfold rwD at this; rw [this]; decide)
  have : (lowD (.tuple (txs a)) (.tuple (txs b)) && (notDc (.tuple (txs a)) && notDc (.tuple (txs b)))) = true := by
    rw [lw]
    rfl
  simp only [this, true_and]
theorem few_tx {a : List Str} (h : a.length < 4000) : fewT (.tuple (txs a)) = some a := fewT_map (c := .tuple) (strsOf_map a) h
theorem sub_dec {o r : List Str} : (o.all fun k => decide (k ∈ r)) = subB o r := by
  unfold subB
  congr 1
  funext k
  cases h : r.contains k with
  | true => exact decide_eq_true (by simpa using h)
  | false => exact decide_eq_false (by simpa using h)
theorem fm_rws {rs : List (List Str)} {f : List Str → Bool} : (rws rs).filterMap (fun z => if f (txsO z) = true then some z else none) = rws (rs.filter f) := by
  unfold rws
  induction rs with
  | nil => rfl
  | cons r rs ih =>
    rw [List.map_cons, List.filterMap_cons, List.filter_cons, txsO_rw]
    cases h : f r with
    | true =>
      simp only [h, if_true, List.map_cons]
      rw [ih]
    | false =>
      simp only [h, Bool.false_eq_true, if_false]
      exact ih
theorem emp_rws {rs : List (List Str)} : (rws rs).isEmpty = rs.isEmpty := by cases rs <;> rfl
/-- another one, within it -/
def strB (r o : List Str) : Bool := decide (o ≠ r) && subB o r
def lowB (G : List (List Str)) (r : List Str) : Bool := (G.filter (strB r)).isEmpty
theorem min_filter' {ns : List Step} {P : List (List Str)} : (P.filter (goodB ns)).filter (fun r => ((P.filter (goodB ns)).filter fun o => decide (o ≠ r) && subB o r).isEmpty) = P.filter (minB ns P) := by
  rw [List.filter_filter]
  refine List.filter_congr fun r hr => ?_
  unfold minB
  cases hg : goodB ns r with
  | false => simp
  | true =>
    simp only [Bool.and_true, Bool.true_and]
    rw [List.filter_filter]
    cases ha : P.all fun o => !(goodB ns o && decide (o ≠ r) && subB o r) with
    | true =>
      rw [List.isEmpty_iff, List.filter_eq_nil_iff]
      intro o ho
      have := List.all_eq_true.mp ha o ho
      revert this
      cases goodB ns o <;> cases decide (o ≠ r) <;> cases subB o r <;> simp
    | false =>
      obtain ⟨o, ho, hn⟩ := List.all_eq_false.mp ha
      have : o ∈ P.filter fun o => (decide (o ≠ r) && subB o r) && goodB ns o := by
        refine List.mem_filter.mpr ⟨ho, ?_⟩
        revert hn
        cases goodB ns o <;> cases decide (o ≠ r) <;> cases subB o r <;> simp
      cases hf : P.filter fun o => (decide (o ≠ r) && subB o r) && goodB ns o with
      | nil => rw [hf] at this; cases this
      | cons x xs => rfl
theorem min_filter {ns : List Step} {P : List (List Str)} : (P.filter (goodB ns)).filter (lowB (P.filter (goodB ns))) = P.filter (minB ns P) := min_filter'
theorem law_least_ok {ns : List Step} (h : WN ns) {P : PyData → Prop} {X : String → Prop} : okP (m__law_least [.tuple (ns.map stD)]) P X ↔ P (.list (srtA (rws (leastR ns (parts (plcs [] ns)))))) := by
  have hh : okP (m__law_least [.tuple (ns.map stD)]) (fun z => z = .list (srtA (rws (leastR ns (parts (plcs [] ns)))))) fun _ => False := by
    have l4 : (plcs [] ns).length ≤ 4 := plcs_few h
    have lp : ∀ {P : PyData → Prop} {X : String → Prop}, okP (m__law_places [.tuple (ns.map stD), .tuple []]) P X ↔ P (.list (txs (plcs [] ns))) := law_places_ok (c := .tuple) (tk := []) (fun _ => rfl) h (by simp) (dd_few' h)
    have nl := h.l
    have hw : ∀ s ∈ ns, s.2.1.length ≤ 1000 ∧ s.2.2.length ≤ 1000 := fun s hs => by
      have := (h.a s hs).l1
      have := (h.a s hs).l2
      omega
    generalize plcs [] ns = L at l4 lp
    have lb : (parts L).length ≤ 16 := by
      rw [parts_len]
      exact Nat.le_trans (Nat.pow_le_pow_right (by decide) l4) (by decide)
    have pk : ∀ {P : PyData → Prop} {X : String → Prop}, okP (m__law_parts_of [.list (txs L)]) P X ↔ P (.list (rws (parts L))) := parts_ok (by omega)
    have sk : ∀ {R : List Str} {P : PyData → Prop} {X : String → Prop}, okP (m__law_is_siphon [.tuple (ns.map stD), .tuple (txs R)]) P X ↔ P (.bool (siphB ns R)) := is_siph_ok (c := .tuple) rfl hw (by omega)
    unfold m__law_least
    rw [okP_runP]
    refine ⟨rfl, ?_⟩
    unfold b__law_least
    simp [szl, lp, pk, rws_len]
    refine ⟨by omega, ?_⟩
    refine okC_fm (fun z => if goodB ns (txsO z) = true then some z else none) (fun z hz => ?_) ?_
    · obtain ⟨r, hr, rfl⟩ := List.mem_map.mp hz
      rw [txsO_rw]
      simp [wipeG, rwD, ne_nilT, sk, goodB]
      by_cases h0 : r = [] <;> cases hb : siphB ns r <;> simp [txs, h0]
    · rw [fm_rws]
      have lf := List.length_filter_le (goodB ns) (parts L)
      have rl : ∀ r ∈ (parts L).filter (goodB ns), r.length ≤ 4 := fun r hr => by
        have := (mem_parts.mp (List.mem_filter.mp hr).1).length_le
        omega
      have eq : srtA (rws ((parts L).filter (minB ns (parts L)))) = srtA (rws (leastR ns (parts L))) := by
        refine srtA_uniq ?_ fun a ha b hb e => ?_
        · unfold leastR rws
          exact ((ordS_perm (P := parts L)).symm.filter _).map rwD
        · obtain ⟨x, _, rfl⟩ := List.mem_map.mp ha
          obtain ⟨y, _, rfl⟩ := List.mem_map.mp hb
          exact congrArg rwD (toks_row e)
      have ne : ∀ r ∈ (parts L).filter (minB ns (parts L)), r ≠ [] := fun r hr e => by
        have := (List.mem_filter.mp hr).2
        rw [e] at this
        unfold minB goodB at this
        simp at this
      have lm := List.length_filter_le (minB ns (parts L)) (parts L)
      rw [← eq]
      rw [← min_filter] at ne lm ⊢
      generalize (parts L).filter (goodB ns) = G at lf rl ne lm ⊢
      simp [wipeG, szl, rws_len]
      refine ⟨by omega, ?_⟩
      refine okC_fm (fun z => if lowB G (txsO z) = true then some z else none) (fun z hz => ?_) ?_
      · obtain ⟨r, hr, rfl⟩ := List.mem_map.mp hz
        have r4 := rl r hr
        rw [txsO_rw]
        generalize hl : lowB G r = lb'
        simp [wipeG, rwD, szl, rws_len]
        refine ⟨by omega, ?_⟩
        refine okC_fm (fun z => if strB r (txsO z) = true then some z else none) (fun z hz => ?_) ?_
        · obtain ⟨o, ho, rfl⟩ := List.mem_map.mp hz
          have o4 := rl o ho
          rw [txsO_rw]
          simp [wipeG, rwD, ne_rw, few_tx (a := o) (by omega), few_tx (a := r) (by omega), sub_dec]
          unfold strB
          by_cases h1 : o = r <;> cases h2 : subB o r <;> simp [h1, h2]
        · rw [fm_rws, eq_nilL, emp_rws]
          have : (G.filter (strB r)).isEmpty = lb' := hl
          rw [this]
          cases lb' <;> simp [wipeG]
      · rw [fm_rws]
        simp [srtC_rw (rs := G.filter (lowB G)) (by omega) ne]
  generalize m__law_least [.tuple (ns.map stD)] = z at hh ⊢
  exact eq_iff (of_okP hh)
end Pf
namespace Pf
open PySem Mi L2
theorem while_inv {tA : MM Bool} {a : Gm → Out} {PO : Out → Prop} (I : Nat → Gm → Prop)
    (step : ∀ m g, I m g → ev tA g (fun t g1 => if t = true then sv a g1 (fun o => ∃ g2, o = .nx g2 ∧ ∃ m', m' < m ∧ I m' g2) else PO (.nx g1)) fun c g' => PO (.ex c g')) : ∀ (n m : Nat) (g : Gm), m < n → I m g → sv (whileL tA a n) g PO
  | 0, m, g, h, _ => absurd h (Nat.not_lt_zero _)
  | n + 1, m, g, h, hI => by
    rw [sv_while]
    refine ev_mono (step m g hI) fun t g1 q => ?_
    cases t with
    | false => exact q
    | true =>
      refine sv_mono q fun o ⟨g2, e, m', hm, hI'⟩ => ?_
      rw [e]
      exact while_inv I step n m' g2 (by omega) hI'
/-- the largest siphon among the names -/
structure Big (ns : List Step) (L l : List Str) : Prop where
  s : Siph ns l
  sub : l.Sublist L
  all : ∀ R, Siph ns R → (∀ x ∈ R, x ∈ L) → ∀ x ∈ R, x ∈ l
def stepOk (l : List Str) (s : Step) : Prop := (∀ x ∈ l, x ∉ s.2.1) → ∀ x ∈ l, x ∉ s.2.2
theorem kept_fm {l : List Str} {s : Step} : (txs l).filterMap (fun z => if s.2.2.contains (txo z) = true then none else some z) = txs (kept l s) := fm_txs
theorem kept_same {l : List Str} {s : Step} (h : ¬ (kept l s).length < l.length) : ∀ x ∈ l, x ∉ s.2.2 := by
  have e : kept l s = l := kept_sub.eq_of_length_le (by omega)
  intro x hx
  rw [← e] at hx
  have := (List.mem_filter.mp hx).2
  simpa using this
def pass (c : PyData) : Gm → Out := (seqS (setS 5 (ret (.bool false)))
    (forS (seqI (rdV 3)) (bTup 3 (bCons (bName 6) (bCons (bName 7) (bCons (bName 8) bNil)))) (ifS (tstM (op2 (inD not) (ret (.bool true)) (lstO (compM (seqI (rdV 4)) [11] (bName 11) yesM (op2V (inD id) 11 (pkV 7)))))) (seqS (setS 9 (lstO (compM (seqI (rdV 4)) [11] (bName 11) (tstM (op2V (inD not) 11 (pkV 8))) (rdV 11))))
    (ifS (tstM (op2 ltD (op1 lenD (pkV 9)) (op1 lenD (pkV 4)))) (parS 4 5 (rdV 9) (ret (.bool true))) nxS)) nxS)))
theorem pass_ok {ns : List Step} {L l0 : List Str} {c c0 c1 c2 : PyData} {c6 c7 c8 c9 c10 c11 : Sl} {ch : Bool} {PO : Out → Prop} (hc : itemsD c = some (ns.map stD)) (hl : L.length < 64) (hs : l0.Sublist L) (hall : ∀ R, Siph ns R → (∀ x ∈ R, x ∈ L) → ∀ x ∈ R, x ∈ l0)
    (hQ : ∀ (l : List Str) (ch : Bool) (c6 c7 c8 c9 c10 c11 : Sl), l.Sublist L → (∀ R, Siph ns R → (∀ x ∈ R, x ∈ L) → ∀ x ∈ R, x ∈ l) → (ch = false → l = l0 ∧ Siph ns l0) → (ch = true → l.length < l0.length) → PO (.nx [.dat c0, .dat c1, .dat c2, .dat c, .dat (.list (txs l)), .dat (.bool ch), c6, c7, c8, c9, c10, c11])) :
    sv (pass c) [.dat c0, .dat c1, .dat c2, .dat c, .dat (.list (txs l0)), .dat (.bool ch), c6, c7, c8, c9, c10, c11] PO := by
  unfold pass
  simp [hc]
  obtain ⟨I, hI⟩ : ∃ I : List PyData → Gm → Prop, I = fun rem g => ∃ (pre rs : List Step) (l : List Str) (ch : Bool) (c6 c7 c8 c9 c10 c11 : Sl), (pre ++ rs = ns ∧ rem = rs.map stD) ∧ (l.Sublist L ∧ (∀ R, Siph ns R → (∀ x ∈ R, x ∈ L) → ∀ x ∈ R, x ∈ l) ∧ (ch = false → l = l0 ∧ ∀ s ∈ pre, stepOk l0 s) ∧ (ch = true → l.length < l0.length)) ∧ g = [.dat c0, .dat c1, .dat c2, .dat c, .dat (.list (txs l)), .dat (.bool ch), c6, c7, c8, c9, c10, c11] := ⟨_, rfl⟩
  have mk : ∀ {pre rs : List Step} {l : List Str} {ch : Bool} {c6 c7 c8 c9 c10 c11 : Sl}, pre ++ rs = ns → l.Sublist L → (∀ R, Siph ns R → (∀ x ∈ R, x ∈ L) → ∀ x ∈ R, x ∈ l) → (ch = false → l = l0 ∧ ∀ s ∈ pre, stepOk l0 s) → (ch = true → l.length < l0.length) → I (rs.map stD) [.dat c0, .dat c1, .dat c2, .dat c, .dat (.list (txs l)), .dat (.bool ch), c6, c7, c8, c9, c10, c11] := fun {pre rs l ch c6 c7 c8 c9 c10 c11} a1 a2 a3 a4 a5 => by
    rw [hI]
    exact ⟨pre, rs, l, ch, c6, c7, c8, c9, c10, c11, ⟨a1, rfl⟩, ⟨a2, a3, a4, a5⟩, rfl⟩
  have el : ∀ {rem g}, I rem g → _ := fun {rem g} h => by
    rw [hI] at h
    exact h
  refine svO_inv I (mk (pre := []) rfl hs hall (fun _ => ⟨rfl, by simp⟩) (by simp)) ?_ ?_
  · intro d ds g hi
    obtain ⟨pre, rs, l, ch, c6, c7, c8, c9, c10, c11, ⟨e1, e2⟩, ⟨hs, hall, h1, h2⟩, hg⟩ := el hi
    cases rs with
    | nil => cases e2
    | cons st rs =>
      rw [List.map_cons] at e2
      injection e2 with e2 e3
      rw [hg, e2, e3]
      have ll : l.length < 64 := Nat.lt_of_le_of_lt hs.length_le hl
      have hst : st ∈ ns := by rw [← e1]; simp
      have e1' : (pre ++ [st]) ++ rs = ns := by simpa using e1
      simp [-in_lst, stD, szl, txs_len]
      refine ⟨by omega, ?_⟩
      refine okC_map (fun z => .bool (st.2.1.contains (txo z))) (fun z hz => ?_) ?_
      · obtain ⟨x, hx, rfl⟩ := List.mem_map.mp hz
        simp [-in_tup, -in_lst, wipeG, in_txsT, txo]
      · simp only [ev_ret, ev_lstO, ev_op2, tt_in, txs_any]
        cases hany : (l.any fun x => st.2.1.contains x) with
        | true =>
          simp
          refine mk e1' hs hall (fun e => ⟨(h1 e).1, fun s hs => ?_⟩) h2
          rcases List.mem_append.mp hs with q | q
          · exact (h1 e).2 s q
          · rw [List.mem_singleton.mp q]
            intro hno
            obtain ⟨x, hx, hc⟩ := List.any_eq_true.mp hany
            rw [(h1 e).1] at hx
            exact absurd (by simpa using hc) (hno x hx)
        | false =>
          have hno : ∀ x ∈ l, x ∉ st.2.1 := fun x hx q => by
            have := List.any_eq_false.mp hany x hx
            simp at this
            exact this q
          simp [szl, txs_len, wipeG]
          refine ⟨by omega, ?_⟩
          refine okC_fm (fun z => if st.2.2.contains (txo z) = true then none else some z) (fun z hz => ?_) ?_
          · obtain ⟨x, hx, rfl⟩ := List.mem_map.mp hz
            simp [-in_tup, -in_lst, wipeG, in_txsT, txo]
          · rw [kept_fm]
            simp [wipeG, txs_len]
            by_cases hlt : (kept l st).length < l.length
            · rw [if_pos hlt]
              refine mk e1' (kept_sub.trans hs) (fun R hR hRL => kept_all hst hR (hall R hR hRL) hno) (by simp) (fun _ => ?_)
              cases ch with
              | false => rw [← (h1 rfl).1]; exact hlt
              | true => exact Nat.lt_trans hlt (h2 rfl)
            · rw [if_neg hlt]
              refine mk e1' hs hall (fun e => ⟨(h1 e).1, fun s hs => ?_⟩) h2
              rcases List.mem_append.mp hs with q | q
              · exact (h1 e).2 s q
              · rw [List.mem_singleton.mp q]
                intro _
                rw [← (h1 e).1]
                exact kept_same hlt
  · intro g hi
    obtain ⟨pre, rs, l, ch, c6, c7, c8, c9, c10, c11, ⟨e1, e2⟩, ⟨hs, hall, h1, h2⟩, hg⟩ := el hi
    have : rs = [] := by
      cases rs with
      | nil => rfl
      | cons x rs => cases e2
    subst this
    rw [List.append_nil] at e1
    subst e1
    rw [hg]
    exact hQ l ch _ _ _ _ _ _ hs hall (fun e => ⟨(h1 e).1, fun s hs => (h1 e).2 s hs⟩) h2
/-- the loop of largest -/
theorem loop_ok {ns : List Step} {L l0 : List Str} {c c0 c1 c2 : PyData} {c6 c7 c8 c9 c10 c11 : Sl} {PO : Out → Prop} (hc : itemsD c = some (ns.map stD)) (hl : L.length < 64) (hs : l0.Sublist L) (hall : ∀ R, Siph ns R → (∀ x ∈ R, x ∈ L) → ∀ x ∈ R, x ∈ l0)
    (hQ : ∀ (l : List Str) (c6 c7 c8 c9 c10 c11 : Sl), Big ns L l → PO (.nx [.dat c0, .dat c1, .dat c2, .dat c, .dat (.list (txs l)), .dat (.bool false), c6, c7, c8, c9, c10, c11])) :
    sv (whileL (tru (pkV 5)) (pass c) 1000) [.dat c0, .dat c1, .dat c2, .dat c, .dat (.list (txs l0)), .dat (.bool true), c6, c7, c8, c9, c10, c11] PO := by
  obtain ⟨J, hJ⟩ : ∃ J : Nat → Gm → Prop, J = fun m g => ∃ (l : List Str) (ch : Bool) (c6 c7 c8 c9 c10 c11 : Sl), g = [.dat c0, .dat c1, .dat c2, .dat c, .dat (.list (txs l)), .dat (.bool ch), c6, c7, c8, c9, c10, c11] ∧ l.Sublist L ∧ (∀ R, Siph ns R → (∀ x ∈ R, x ∈ L) → ∀ x ∈ R, x ∈ l) ∧ (ch = false → m = 0 ∧ Siph ns l) ∧ (ch = true → m = l.length + 1) := ⟨_, rfl⟩
  have mk : ∀ {m : Nat} {l : List Str} {ch : Bool} {c6 c7 c8 c9 c10 c11 : Sl}, l.Sublist L → (∀ R, Siph ns R → (∀ x ∈ R, x ∈ L) → ∀ x ∈ R, x ∈ l) → (ch = false → m = 0 ∧ Siph ns l) → (ch = true → m = l.length + 1) → J m [.dat c0, .dat c1, .dat c2, .dat c, .dat (.list (txs l)), .dat (.bool ch), c6, c7, c8, c9, c10, c11] := fun {m l ch c6 c7 c8 c9 c10 c11} a1 a2 a3 a4 => by
    rw [hJ]
    exact ⟨l, ch, _, _, _, _, _, _, rfl, a1, a2, a3, a4⟩
  refine while_inv J ?_ 1000 (l0.length + 1) _ (by have := hs.length_le; omega) (mk hs hall (by simp) (by simp))
  intro m g hi
  rw [hJ] at hi
  obtain ⟨l, ch, c6, c7, c8, c9, c10, c11, hg, hs, hall, h1, h2⟩ := hi
  rw [hg]
  simp
  cases ch with
  | false =>
    simp
    exact hQ l _ _ _ _ _ _ ⟨(h1 rfl).2, hs, hall⟩
  | true =>
    simp
    refine pass_ok (c := c) hc hl hs hall fun l' ch c6 c7 c8 c9 c10 c11 hs' hall' q1 q2 => ?_
    refine ⟨_, rfl, if ch = true then l'.length + 1 else 0, ?_, mk hs' hall' (fun e => ?_) (fun e => ?_)⟩
    · have := h2 rfl
      cases ch with
      | false => simp; omega
      | true =>
        have := q2 rfl
        simp
        omega
    · obtain ⟨e1, e2⟩ := q1 e
      rw [e, e1]
      exact ⟨rfl, e2⟩
    · rw [e]
      rfl
/-! all rows of names -/
/-! the largest, as the law finds it -/
theorem largest_law {c : List PyData → PyData} {ns : List Step} {nm l : List Str} (hc : itemsD (c (ns.map stD)) = some (ns.map stD)) (hw : ∀ s ∈ ns, s.2.1.length ≤ 1000 ∧ s.2.2.length ≤ 1000) (hl : ns.length ≤ 1000) (n1 : nm.length < 4000) (n2 : (Ts.dd nm).length ≤ 10) (B : Big ns (Ts.srt (Ts.dd nm)) l)
    {P : PyData → Prop} {X : String → Prop} : okP (m__law_largest [c (ns.map stD), .tuple (txs nm)]) P X ↔ P (.tuple (txs l)) := by
  have hh : okP (m__law_largest [c (ns.map stD), .tuple (txs nm)]) (fun z => z = .tuple (txs l)) fun _ => False := by
    generalize hL : Ts.srt (Ts.dd nm) = L at B
    have Lnd : L.Nodup := by rw [← hL]; exact nd_srt (nd_dd nm)
    have Lpw : L.Pairwise fun a b => Ts.leS a b = true := by rw [← hL]; exact Ts.srt_pw _
    have Ll : L.length ≤ 10 := by rw [← hL, srt_len]; exact n2
    have ss : ∀ {P : PyData → Prop}, okO (sortSetD (.tuple (txs nm))) P ↔ P (.list (txs L)) := fun {P} => by
      rw [← hL]
      exact sortSet_txs (c := .tuple) (strsOf_map nm) n1 (by omega)
    have pk : ∀ {P : PyData → Prop} {X : String → Prop}, okP (m__law_parts_of [.list (txs L)]) P X ↔ P (.list (rowsD (parts L))) := parts_ok Ll
    have sk : ∀ {R : List Str} {P : PyData → Prop} {X : String → Prop}, okP (m__law_is_siphon [c (ns.map stD), .tuple (txs R)]) P X ↔ P (.bool (siphB ns R)) := is_siph_ok hc hw hl
    unfold m__law_largest
    rw [okP_runP]
    refine ⟨rfl, ?_⟩
    unfold b__law_largest
    simp [-sortSet_ok, szl, ss, pk]
    obtain ⟨I, hI⟩ : ∃ I : List PyData → Gm → Prop, I = fun rem g => ∃ (pre rs : List (List Str)) (fs : List Str) (s3 s4 : Sl), (pre ++ rs = parts L ∧ rem = rowsD rs) ∧ (fs.Nodup ∧ ∀ x, x ∈ fs ↔ ∃ R ∈ pre, siphB ns R = true ∧ x ∈ R) ∧ g = [.dat (c (ns.map stD)), .dat (.tuple (txs nm)), .dat (.list (txs fs)), s3, s4] := ⟨_, rfl⟩
    have mk : ∀ {pre rs : List (List Str)} {fs : List Str} {s3 s4 : Sl}, pre ++ rs = parts L → fs.Nodup → (∀ x, x ∈ fs ↔ ∃ R ∈ pre, siphB ns R = true ∧ x ∈ R) → I (rowsD rs) [.dat (c (ns.map stD)), .dat (.tuple (txs nm)), .dat (.list (txs fs)), s3, s4] := fun {pre rs fs s3 s4} a1 a2 a3 => by
      rw [hI]
      exact ⟨pre, rs, fs, _, _, ⟨a1, rfl⟩, ⟨a2, a3⟩, rfl⟩
    refine svO_inv I (mk (pre := []) (fs := []) rfl List.nodup_nil (by simp)) ?_ ?_
    · intro d ds g hi
      rw [hI] at hi
      obtain ⟨pre, rs, fs, s3, s4, ⟨e1, e2⟩, ⟨h1, h2⟩, hg⟩ := hi
      cases rs with
      | nil => cases e2
      | cons R rs =>
        have e2' : d :: ds = .tuple (txs R) :: rowsD rs := e2
        injection e2' with e2 e3
        rw [hg, e2, e3]
        have hRL : R.Sublist L := mem_parts.mp (by rw [← e1]; simp)
        have Rl : R.length ≤ 10 := Nat.le_trans hRL.length_le Ll
        have Rnd : R.Nodup := hRL.nodup Lnd
        have fl : fs.length ≤ 10 := by
          refine Nat.le_trans (nd_sub (ys := L) h1 fun x hx => ?_) Ll
          obtain ⟨R', hR', _, hx⟩ := (h2 x).mp hx
          exact (mem_parts.mp (by rw [← e1]; simp [hR'])).mem hx
        have e1' : (pre ++ [R]) ++ rs = parts L := by simpa using e1
        simp [-in_tup, -in_lst, sk]
        cases hb : siphB ns R with
        | false =>
          simp
          refine mk e1' h1 fun x => ?_
          rw [h2]
          constructor
          · rintro ⟨R', hR', q⟩
            exact ⟨R', by simp [hR'], q⟩
          · rintro ⟨R', hR', q1, q2⟩
            rcases List.mem_append.mp hR' with q | q
            · exact ⟨R', q, q1, q2⟩
            · rw [List.mem_singleton.mp q, hb] at q1
              cases q1
        | true =>
          simp [-in_tup, -in_lst, szl, txs_len]
          refine ⟨by omega, ?_⟩
          refine okC_fm (fun z => if fs.contains (txo z) = true then none else some z) (fun z hz => ?_) ?_
          · obtain ⟨x, hx, rfl⟩ := List.mem_map.mp hz
            simp [-in_tup, -in_lst, wipeG, in_txsL, txo]
          · rw [fm_txs]
            have l2 : (R.filter fun x => !fs.contains x).length ≤ 10 := Nat.le_trans (List.length_filter_le ..) Rl
            simp [-in_tup, -in_lst, wipeG, szl, txs_app, txs_len]
            refine ⟨by simp at l2; omega, ?_⟩
            refine mk e1' ?_ fun x => ?_
            · refine List.nodup_append.mpr ⟨h1, Rnd.filter _, fun a ha b hb e => ?_⟩
              rw [← e] at hb
              have := (List.mem_filter.mp hb).2
              simp [ha] at this
            · have hm : x ∈ fs ++ R.filter (fun x => !decide (x ∈ fs)) ↔ x ∈ fs ∨ x ∈ R := by
                rw [List.mem_append, List.mem_filter]
                constructor
                · rintro (q | ⟨q, _⟩)
                  · exact .inl q
                  · exact .inr q
                · intro q
                  by_cases hf : x ∈ fs
                  · exact .inl hf
                  · exact .inr ⟨q.resolve_left hf, by simp [hf]⟩
              refine hm.trans ?_
              constructor
              · rintro (q | hx)
                · obtain ⟨R', hR', q⟩ := (h2 x).mp q
                  exact ⟨R', by simp [hR'], q⟩
                · exact ⟨R, by simp, hb, hx⟩
              · rintro ⟨R', hR', q1, q2⟩
                rcases List.mem_append.mp hR' with q | q
                · exact .inl ((h2 x).mpr ⟨R', q, q1, q2⟩)
                · rw [List.mem_singleton.mp q] at q2
                  exact .inr q2
    · intro g hi
      rw [hI] at hi
      obtain ⟨pre, rs, fs, s3, s4, ⟨e1, e2⟩, ⟨h1, h2⟩, hg⟩ := hi
      have : rs = [] := by
        cases rs with
        | nil => rfl
        | cons x rs => cases e2
      subst this
      rw [List.append_nil] at e1
      subst e1
      rw [hg]
      have fl : fs.length ≤ 10 := by
        refine Nat.le_trans (nd_sub (ys := L) h1 fun x hx => ?_) Ll
        obtain ⟨R', hR', _, hx⟩ := (h2 x).mp hx
        exact (mem_parts.mp hR').mem hx
      have el : Ts.srt fs = l := by
        have hp : fs.Perm l := by
          refine (List.perm_ext_iff_of_nodup h1 (B.sub.nodup Lnd)).mpr fun x => ?_
          rw [h2]
          constructor
          · rintro ⟨R, hR, q1, q2⟩
            exact B.all R (siphB_iff.mp q1) (fun y hy => (mem_parts.mp hR).mem hy) x q2
          · intro hx
            exact ⟨l, mem_parts.mpr B.sub, siphB_iff.mpr B.s, hx⟩
        exact Ts.pw_uniq ((Ts.srt_perm fs).trans hp) (Ts.srt_pw fs) (List.Pairwise.sublist B.sub Lpw)
      have sl : sortG (.list (txs fs)) = some (.list (txs (Ts.srt fs))) := sortG_strs rfl
      simp [sl, el]
  rw [of_okP hh]
  exact Iff.rfl
/-! siphon, its judge, the law's look -/
/-- a step turned -/
def sw (s : Step) : Step := (s.1, s.2.2, s.2.1)
theorem largest_yes {ns : List Step} {nm : List Str} (hw : ns.length ≤ 1000) (hn : nm.length < 4000) (hd : (Ts.dd nm).length ≤ 10) : okP (m_largest [.tuple (ns.map stD), .tuple (txs nm), .bool true]) (fun z => ∃ l, z = .tuple (txs l) ∧ Big (ns.map sw) (Ts.srt (Ts.dd nm)) l) fun _ => False := by
  unfold m_largest
  rw [okP_runP]
  refine ⟨rfl, ?_⟩
  unfold b_largest
  have ss : ∀ {P : PyData → Prop}, okO (sortSetD (.tuple (txs nm))) P ↔ P (.list (txs (Ts.srt (Ts.dd nm)))) := sortSet_txs (c := .tuple) (strsOf_map nm) hn (by omega)
  have lk := @loop_ok (ns.map sw) (Ts.srt (Ts.dd nm)) (Ts.srt (Ts.dd nm)) (.list ((ns.map sw).map stD)) (.tuple (ns.map stD)) (.tuple (txs nm)) (.bool true) .dead .dead .dead .dead .dead .dead
  unfold pass at lk
  simp [-sortSet_ok, ss, szl]
  refine ⟨by omega, ?_⟩
  refine okC_map (fun d => match d with | .tuple [a, b, c] => .tuple [a, c, b] | z => z) (fun d hd => ?_) ?_
  · obtain ⟨st, _, rfl⟩ := List.mem_map.mp hd
    simp [stD, wipeG, szl]
  · have em : (ns.map stD).map (fun d => match d with | .tuple [a, b, c] => .tuple [a, c, b] | z => z) = (ns.map sw).map stD := by
      simp [stD, sw]
    rw [em]
    simp [-sortSet_ok, ss, wipeG]
    simp only [List.map_map] at lk
    refine lk rfl (by rw [srt_len]; omega) (List.Sublist.refl _) (fun R _ h => h) fun l c6 c7 c8 c9 c10 c11 B => ?_
    simp
    exact ⟨l, rfl, B⟩
theorem turned_net {ns : List Step} (hw : ns.length ≤ 1000) {P : PyData → Prop} {X : String → Prop} : okP (m__law_turned_net [.tuple (ns.map stD)]) P X ↔ P (.list ((ns.map sw).map stD)) := by
  have hh : okP (m__law_turned_net [.tuple (ns.map stD)]) (fun z => z = .list ((ns.map sw).map stD)) fun _ => False := by
    unfold m__law_turned_net
    rw [okP_runP]
    refine ⟨rfl, ?_⟩
    unfold b__law_turned_net
    simp [szl]
    refine ⟨by omega, ?_⟩
    refine okC_map (fun d => match d with | .tuple [a, b, c] => .tuple [a, c, b] | z => z) (fun d hd => ?_) ?_
    · obtain ⟨st, _, rfl⟩ := List.mem_map.mp hd
      simp [stD, wipeG, szl]
    · have em : (ns.map stD).map (fun d => match d with | .tuple [a, b, c] => .tuple [a, c, b] | z => z) = (ns.map sw).map stD := by
        simp [stD, sw]
      rw [em]
      simp
  rw [of_okP hh]
  exact Iff.rfl
end Pf
namespace Pf
open PySem Mi L2
def toldR (ns : List Step) : List (List Str) := (srtA (rws (leastR ns (parts (plcs [] ns))))).map txsO
theorem toldR_rws {ns : List Step} : rws (toldR ns) = srtA (rws (leastR ns (parts (plcs [] ns)))) := by
  unfold toldR
  show ((srtA _).map txsO).map rwD = _
  rw [List.map_map]
  have : ∀ d ∈ srtA (rws (leastR ns (parts (plcs [] ns)))), (rwD ∘ txsO) d = d := fun d hd => by
    obtain ⟨r, _, rfl⟩ := List.mem_map.mp ((srtA_perm _).mem_iff.mp hd)
    show rwD (txsO (rwD r)) = rwD r
    rw [txsO_rw]
  rw [List.map_congr_left this]
  simp
theorem toldR_mem {ns : List Step} {r : List Str} (h : r ∈ toldR ns) : r.Sublist (plcs [] ns) := by
  obtain ⟨d, hd, rfl⟩ := List.mem_map.mp h
  obtain ⟨r, hr, rfl⟩ := List.mem_map.mp ((srtA_perm _).mem_iff.mp hd)
  rw [txsO_rw]
  exact mem_parts.mp (ordS_perm.mem_iff.mp (List.mem_filter.mp hr).1)
theorem toldR_len {ns : List Step} (h : WN ns) : (toldR ns).length ≤ 16 := by
  have l4 := plcs_few h
  have e : (toldR ns).length = (leastR ns (parts (plcs [] ns))).length := by
    unfold toldR
    rw [List.length_map, (srtA_perm _).length_eq, rws_len]
  rw [e]
  have a := List.length_filter_le (minB ns (parts (plcs [] ns))) (ordS (parts (plcs [] ns)))
  rw [(ordS_perm (P := parts (plcs [] ns))).length_eq, parts_len] at a
  exact Nat.le_trans a (Nat.le_trans (Nat.pow_le_pow_right (by decide) l4) (by decide))
theorem few_ok {ns : List Step} (h : WN ns) {P : PyData → Prop} {X : String → Prop} : okP (m_check_few [.tuple (ns.map stD)]) P X ↔ P .none := by
  have l4 := plcs_few h
  have ck : ∀ {P : PyData → Prop} {X : String → Prop}, okP (m_check_net [.tuple (ns.map stD), .tuple []]) P X ↔ P (.list (txs (plcs [] ns))) := check_ok (tk := []) h (by simp) (by omega)
  have pk : ∀ {P : PyData → Prop} {X : String → Prop}, okP (m_places_of [.tuple (ns.map stD), .tuple []]) P X ↔ P (.list (txs (plcs [] ns))) := places_ok' (c := .tuple) (tk := []) (fun _ => rfl) h (by simp) (dd_few' h)
  unfold m_check_few
  rw [okP_runP]
  unfold b_check_few
  have a : ¬ (8 : Int) < ((plcs [] ns).length : Int) := by omega
  simp [ck, pk, szl, txs_len, a]
theorem ff_in {α : Type} {zs : List α} {f : α → Bool} {g : Bool → Bool} {P : PyData → Prop} : okO (inD g (.bool false) (.list (zs.map fun z => .bool (f z)))) P ↔ P (.bool (g (zs.any fun z => !f z))) := by
  rw [in_lst]
  have e : ((zs.map fun z => PyData.bool (f z)).any fun z => PyData.eqv z (.bool false)) = zs.any fun z => !f z := by
    induction zs with
    | nil => rfl
    | cons z zs ih =>
      rw [List.map_cons, List.any_cons, ih, List.any_cons]
      cases f z <;> simp [PyData.eqv]
  have nd : DcEq.ndAll (zs.map fun z => PyData.bool (f z)) = true := by
    clear e
    induction zs <;> simp_all [DcEq.ndAll, DcEq.ndB]
  have : lowI (.bool false) (.list (zs.map fun z => PyData.bool (f z))) = true := by
    simp [lowI, DcEq.ndB, nd, PyData.depth]
  rw [e]
  simp only [this, true_and]
theorem eqv_str_eq {z : PyData} {x : Str} (h : PyData.eqv z (.str x) = true) : z = .str x := by
  cases z <;> simp [PyData.eqv] at h
  rw [h]
theorem eqv_txs_eq : ∀ {zs : List PyData} {l : List Str}, PyData.eqvAll zs (txs l) = true → zs = txs l
  | [], [], _ => rfl
  | [], _ :: _, h => by cases h
  | _ :: _, [], h => by cases h
  | z :: zs, x :: l, h => by
    have h' : PyData.eqvAll (z :: zs) (.str x :: txs l) = true := h
    rw [PyData.eqvAll, Bool.and_eq_true] at h'
    rw [eqv_str_eq h'.1, eqv_txs_eq h'.2]
    rfl
theorem eqv_rw_eq {z : PyData} {r : List Str} (h : PyData.eqv z (rwD r) = true) : z = rwD r := by
  cases z with
  | tuple zs =>
    have h' : PyData.eqvAll zs (txs r) = true := by
      have : PyData.eqv (.tuple zs) (.tuple (txs r)) = true := h
      simpa [PyData.eqv] using this
    rw [eqv_txs_eq h']
    rfl
  | _ => simp [rwD, PyData.eqv] at h
def inP (L : List Str) : PyData → Bool
  | .str x => L.contains x
  | _ => false
def apB (L : List Str) : PyData → Bool
  | .tuple zs => zs.all (inP L) && decide (zs.map txo = Ts.srt (Ts.dd (zs.map txo)))
  | _ => false
theorem inP_txs {L : List Str} : ∀ {zs : List PyData}, zs.all (inP L) = true → zs = txs (zs.map txo) ∧ ∀ x ∈ zs.map txo, x ∈ L
  | [], _ => ⟨rfl, by simp⟩
  | z :: zs, h => by
    rw [List.all_cons, Bool.and_eq_true] at h
    obtain ⟨e, m⟩ := inP_txs h.2
    cases z with
    | str x =>
      have hx : x ∈ L := by simpa [inP] using h.1
      refine ⟨?_, fun y hy => ?_⟩
      · show PyData.str x :: zs = .str x :: txs (zs.map txo)
        rw [← e]
      · rcases List.mem_cons.mp hy with q | q
        · rw [q]; exact hx
        · exact m y q
    | _ => cases h.1
theorem dd_sub {L xs : List Str} (h : ∀ x ∈ xs, x ∈ L) : (Ts.dd xs).length ≤ L.length := nd_sub (nd_dd xs) fun x hx => h x (mem_dd.mp hx)
theorem eq_txs {a b : List Str} {P : PyData → Prop} : okO (eqD (.list (txs a)) (.list (txs b))) P ↔ P (.bool (decide (a = b))) := by
  rw [eq_any]
  have e : PyData.eqv (.list (txs a)) (.list (txs b)) = decide (a = b) := by
    rw [← eqv_txs2]
    simp [PyData.eqv]
  rw [e]
  have lw : lowD (.list (txs a)) (.list (txs b)) = true := low_r (by simpa [DcEq.ndB] using nd_txs b) (by simp [PyData.depth, dp_txs])
  simp only [lw, true_and]
theorem ap_ok {L : List Str} {m : Nat} {y : PyData} (hL : L.length ≤ 60) (hz : Zd m y) {P : PyData → Prop} {X : String → Prop} : okP (m_are_places_of [.list (txs L), y]) P X ↔ P (.bool (apB L y)) := by
  have hh : okP (m_are_places_of [.list (txs L), y]) (fun z => z = .bool (apB L y)) fun _ => False := by
    unfold m_are_places_of
    rw [okP_runP]
    refine ⟨rfl, ?_⟩
    unfold b_are_places_of
    cases y with
    | tuple zs =>
      have hl : zs.length ≤ 4000000 := by
        cases m with
        | zero => exact hz.elim
        | succ m => exact hz.1
      simp [-in_lst, -in_tup, szl]
      refine ⟨by omega, ?_⟩
      refine okC_map (fun z => .bool (inP L z)) (fun z hz => ?_) ?_
      · cases z <;> simp [-in_lst, -in_tup, wipeG, inP, in_txsL]
      · simp only [ev_ret, ev_lstO, ev_op2, ff_in]
        cases ha : zs.all (inP L) with
        | false =>
          have : (zs.any fun z => !inP L z) = true := by
            obtain ⟨z, hz, hn⟩ := List.all_eq_false.mp ha
            exact List.any_eq_true.mpr ⟨z, hz, by simpa using hn⟩
          rw [this]
          have e : apB L (.tuple zs) = false := by
            show (zs.all (inP L) && _) = false
            rw [ha]
            rfl
          rw [e]
          simp
        | true =>
          have : (zs.any fun z => !inP L z) = false := List.any_eq_false.mpr fun z hz => by
            simpa using List.all_eq_true.mp ha z hz
          rw [this]
          obtain ⟨e, hm⟩ := inP_txs ha
          have ea : apB L (.tuple zs) = decide (zs.map txo = Ts.srt (Ts.dd (zs.map txo))) := by
            show (zs.all (inP L) && _) = _
            rw [ha]
            rfl
          rw [ea]
          generalize zs.map txo = R at e hm
          rw [e]
          have dl := dd_sub hm
          have st : txtD (.tuple (txs R)) = some R := strsOf_map R
          simp [wipeG]
          rw [sortSet2_ok, st]
          refine ⟨by omega, ?_⟩
          show okO (eqD (.list (txs R)) (.list (txs (Ts.srt (Ts.dd R))))) _
          rw [eq_txs]
    | _ => simp [apB]
  generalize m_are_places_of [.list (txs L), y] = z at hh ⊢
  exact eq_iff (of_okP hh)
theorem srt_sub {L r : List Str} (n : L.Nodup) (s : L.Pairwise fun a b => Ts.leS a b = true) (h : r.Sublist L) : r = Ts.srt (Ts.dd r) := by
  have nr := h.nodup n
  have p : r.Perm (Ts.dd r) := (List.perm_ext_iff_of_nodup nr (nd_dd r)).mpr fun x => mem_dd.symm
  exact Ts.pw_uniq (p.trans (Ts.srt_perm _).symm) (s.sublist h) (Ts.srt_pw _)
theorem ap_row {L r : List Str} (n : L.Nodup) (s : L.Pairwise fun a b => Ts.leS a b = true) (h : r.Sublist L) : apB L (rwD r) = true := by
  show ((txs r).all (inP L) && decide ((txs r).map txo = Ts.srt (Ts.dd ((txs r).map txo)))) = true
  have e : (txs r).map txo = r := txsO_rw
  rw [e, decide_eq_true (srt_sub n s h), Bool.and_true]
  refine List.all_eq_true.mpr fun z hz => ?_
  obtain ⟨x, hx, rfl⟩ := List.mem_map.mp hz
  have := h.mem hx
  simpa [inP] using this
theorem plcs_pw (ns : List Step) : (plcs [] ns).Pairwise fun a b => Ts.leS a b = true := Ts.srt_pw _
theorem nd_rws (T : List (List Str)) : DcEq.ndAll (rws T) = true := by
  induction T with
  | nil => rfl
  | cons r T ih =>
    show DcEq.ndAll (rwD r :: rws T) = true
    rw [DcEq.ndAll, nd_rw, ih]
    rfl
theorem dp_rws (T : List (List Str)) : PyData.depthAll (rws T) ≤ 1 := by
  induction T with
  | nil => simp [rws, PyData.depthAll]
  | cons r T ih =>
    show PyData.depthAll (rwD r :: rws T) ≤ 1
    rw [PyData.depthAll, dp_rw]
    omega
end Pf
namespace Pf
open PySem Mi L2
/-! tokens that are drawn -/
theorem atJ {α : Type} {xs : List α} {i : Int} (h0 : 0 ≤ i) (h1 : i < xs.length) : L2.atI xs i = xs[i.toNat]? := by
  unfold L2.atI L2.ixN
  rw [if_pos h0, if_pos h1]
  rfl
def pkT (xs : List Str) (i : Nat) : Str := xs.getD i Str.empty
theorem at_pkT {xs : List Str} {i : Int} (h0 : 0 ≤ i) (h : i < xs.length) {P : PyData → Prop} : okO (L2.atI (txs xs) i) P ↔ P (.str (pkT xs i.toNat)) := by
  have hi : i.toNat < xs.length := by omega
  rw [atJ h0 (by rw [txs_len]; exact h)]
  unfold txs pkT
  rw [List.getElem?_map, List.getElem?_eq_getElem hi, List.getD_eq_getElem?_getD, List.getElem?_eq_getElem hi]
  exact Iff.rfl
theorem pkT_mem {xs : List Str} {i : Nat} (h : i < xs.length) : pkT xs i ∈ xs := by
  unfold pkT
  rw [List.getD_eq_getElem?_getD, List.getElem?_eq_getElem h]
  exact List.getElem_mem _
theorem drawT {pl : List Str} (h3 : pl.length ≤ 1000) {c1 c2 : Sl} {Q : List PyData → Gm → Prop} : ∀ {ds : List PyData} {s : PyData}, St s → (∀ (xs : List Str) (s' : PyData), xs.length ≤ ds.length → (∀ x ∈ xs, x ∈ pl) → St s' → Q (txs xs) [.own true s', c1, c2, .dat (.list (txs pl)), .dead]) →
    okC (compL [4] (bName 4) (tstM (op2V neD 3 (lstM nilM))) (op2V ixD 3 (callS m__law_next 0 (consM (op1 lenD (pkV 3)) nilM))) ds [.own true s, c1, c2, .dat (.list (txs pl)), .dead]) Q
  | [], s, hs, hQ => hQ [] s (by simp) (by simp) hs
  | d :: ds, s, hs, hQ => by
    rw [okC_cons]
    cases pl with
    | nil =>
      have e : (txs ([] : List Str)).isEmpty = true := rfl
      simp [-in_lst, -in_tup, szl, ne_nilL, e, wipeG]
      exact drawT h3 hs fun xs s' hl hy hs' => hQ xs s' (by simp; omega) hy hs'
    | cons p pl =>
      have e : (txs (p :: pl)).isEmpty = false := rfl
      have e1 : (txs (p :: pl)).length = (p :: pl).length := txs_len _
      simp [-in_lst, -in_tup, szl, ne_nilL, e, e1, -List.length_cons]
      have hc : (p :: pl).length = pl.length + 1 := rfl
      refine next_run hs (by omega) (by omega) fun r s r0 r1 hs => ?_
      simp [-in_lst, -in_tup, szl]
      rw [at_pkT r0 r1]
      simp [wipeG]
      refine drawT h3 hs fun xs s' hl hy hs' => ?_
      refine hQ (pkT (p :: pl) r.toNat :: xs) s' (by simp; omega) (fun x hx => ?_) hs'
      rcases List.mem_cons.mp hx with rfl | q
      · exact pkT_mem (by omega)
      · exact hy x q
theorem tokens_ok {ns : List Step} (h : WN ns) {s : PyData} (hs : St s) {most : Nat} (hm : most ≤ 1000) : okS (m__law_tokens s [.tuple (ns.map stD), .int (most : Nat)]) (fun d s' => (∃ tk : List Str, tk.length ≤ most ∧ (∀ x ∈ tk, x ∈ plcs [] ns) ∧ d = .tuple (txs tk)) ∧ St s') fun _ => False := by
  have l4 := h.l
  have pl4 := plcs_few h
  have lp : ∀ {P : PyData → Prop} {X : String → Prop}, okP (m__law_places [.tuple (ns.map stD), .tuple []]) P X ↔ P (.list (txs (plcs [] ns))) := law_places_ok (c := .tuple) (tk := []) (fun _ => rfl) h (by simp) (dd_few' h)
  unfold m__law_tokens
  rw [okS_runS]
  refine ⟨rfl, ?_⟩
  unfold b__law_tokens
  simp [-in_lst, -in_tup, lp, szl]
  refine next_run hs (by omega) (by omega) fun r s r0 r1 hs => ?_
  simp [-in_lst, -in_tup, szl, wipeG]
  refine ⟨by omega, by rw [rng_len]; omega, ?_⟩
  refine drawT (by omega) hs fun xs s' hl hy hs' => ?_
  rw [rng_len] at hl
  simp
  exact ⟨⟨xs, by omega, hy, rfl⟩, hs'⟩
/-! what fills, of a list -/
theorem fillsL_ok {ns : List Step} {R : List Str} (hR : R.length ≤ 1000) (hn : ns.length ≤ 1000) {P : PyData → Prop} {X : String → Prop} : okP (m_fills [.list (ns.map stD), .tuple (txs R)]) P X ↔ P (.list (txs ((ns.filter (badB R)).map (·.1)))) := by
  have hh : okP (m_fills [.list (ns.map stD), .tuple (txs R)]) (fun z => z = .list (txs ((ns.filter (badB R)).map (·.1)))) fun _ => False := by
    unfold m_fills
    rw [okP_runP]
    refine ⟨rfl, ?_⟩
    unfold b_fills
    have lf := loopF hR (c0 := .dat (.list (ns.map stD))) (ns := ns) (fs := []) (c3 := .dead) (c4 := .dead) (c5 := .dead) (c6 := .dead) (by simpa using hn)
    unfold bodyF at lf
    simp [-in_lst, -in_tup]
    refine svO_mono lf fun o ho => ?_
    obtain ⟨c3, c4, c5, c6, rfl⟩ := ho
    simp
  generalize m_fills [.list (ns.map stD), .tuple (txs R)] = z at hh ⊢
  exact eq_iff (of_okP hh)
def drL (ns : List Step) (R : List Str) : List Str := ((ns.map sw).filter (badB R)).map (·.1)
theorem drains_ok {ns : List Step} {R : List Str} (hR : R.length ≤ 1000) (hn : ns.length ≤ 1000) {P : PyData → Prop} {X : String → Prop} : okP (m_drains [.tuple (ns.map stD), .tuple (txs R)]) P X ↔ P (.list (txs (drL ns R))) := by
  have fk := fun {P : PyData → Prop} {X : String → Prop} => fillsL_ok (ns := ns.map sw) (R := R) hR (by rw [List.length_map]; exact hn) (P := P) (X := X)
  have hh : okP (m_drains [.tuple (ns.map stD), .tuple (txs R)]) (fun z => z = .list (txs (drL ns R))) fun _ => False := by
    unfold m_drains
    rw [okP_runP]
    refine ⟨rfl, ?_⟩
    unfold b_drains
    unfold drL
    simp [-in_lst, -in_tup, szl]
    refine ⟨by omega, ?_⟩
    refine okC_map (fun d => match d with | .tuple [a, b, c] => .tuple [a, c, b] | z => z) (fun d hd => ?_) ?_
    · obtain ⟨st, _, rfl⟩ := List.mem_map.mp hd
      simp [stD, wipeG, szl]
    · have em : (ns.map stD).map (fun d => match d with | .tuple [a, b, c] => .tuple [a, c, b] | z => z) = (ns.map sw).map stD := by
        simp [stD, sw]
      rw [em]
      generalize ns.map sw = ms at *
      simp [-in_lst, -in_tup, fk, wipeG, -List.map_map]
  generalize m_drains [.tuple (ns.map stD), .tuple (txs R)] = z at hh ⊢
  exact eq_iff (of_okP hh)
theorem drL_nil {ns : List Step} {R : List Str} : (txs (drL ns R)).isEmpty = siphB (ns.map sw) R := siph_nil
/-! the trap in a row -/
def trp (ns : List Step) (r : List Str) : List Str := match m_largest [.tuple (ns.map stD), .tuple (txs r), .bool true] with
  | .ok (.tuple zs) => zs.map txo
  | _ => []
theorem trp_ok {ns : List Step} {r : List Str} (hn : ns.length ≤ 1000) (hr : r.length ≤ 10) : (∀ {P : PyData → Prop} {X : String → Prop}, okP (m_largest [.tuple (ns.map stD), .tuple (txs r), .bool true]) P X ↔ P (.tuple (txs (trp ns r)))) ∧ Big (ns.map sw) (Ts.srt (Ts.dd r)) (trp ns r) := by
  have dl : (Ts.dd r).length ≤ 10 := Nat.le_trans (dd_sub (L := r) fun x hx => hx) hr
  have h := largest_yes (ns := ns) (nm := r) hn (by omega) dl
  obtain ⟨z, ez, l, rfl, B⟩ := okP_ex h
  have e : trp ns r = l := by
    unfold trp
    rw [ez]
    exact txsO_rw (r := l)
  rw [e]
  exact ⟨fun {P X} => eq_iff ez, B⟩
def mk (tk l : List Str) : Bool := tk.any fun x => l.contains x
end Pf
namespace Pf
open PySem Mi L2
/-! what is told -/
def entD (ns : List Step) (r : List Str) : PyData := .tuple [rwD r, rwD (trp ns r)]
def badR (ns : List Step) (tk r : List Str) : Bool := !mk tk (trp ns r)
def tld45 (ns : List Step) (tk : List Str) : PyData := match (toldR ns).find? (badR ns tk) with
  | some r => .tuple [.str "fails", rwD r]
  | none => .tuple [.str "holds", .tuple ((toldR ns).map (entD ns))]
@[irreducible] def bodyG : Gm → Out := seqS (setS 4 (callM m_largest (consM (rdV 0) (consM (rdV 3) (consM (ret (.bool true)) nilM)))))
    (seqS (ifS (tstM (op2 (inD not) (ret (.bool true)) (lstO (compM (seqI (rdV 1)) [5] (bName 5) yesM (op2V (inD id) 5 (pkV 4)))))) (retS (tupM (consM (ret (.str "fails")) (consM (rdV 3) nilM)))) nxS)
    (dropS (appM 2 (tupM (consM (rdV 3) (consM (rdV 4) nilM))))))
def gG (ns : List Step) (tk : List Str) (b : Bool) (es : List PyData) (c3 c4 : Sl) : Gm := [.dat (.tuple (ns.map stD)), .dat (.tuple (txs tk)), .own b (.list es), c3, c4, .dead]
section
variable {ns : List Step} {tk : List Str}
theorem gstep {b : Bool} {es : List PyData} {r : List Str} (hn : ns.length ≤ 1000) (hr : r.length ≤ 10) (ht : tk.length ≤ 1000) (he : es.length ≤ 1000) {c4 : Sl} {PO : Out → Prop} (h1 : badR ns tk r = true → ∀ g, PO (.rt (.tuple [.str "fails", rwD r]) g)) (h2 : badR ns tk r = false → PO (.nx (gG ns tk b (es ++ [entD ns r]) (.dat (rwD r)) (.dat (rwD (trp ns r)))))) : SV bodyG (gG ns tk b es (.dat (rwD r)) c4) PO := by
  constructor
  have lk := fun {P : PyData → Prop} {X : String → Prop} => (trp_ok (ns := ns) (r := r) hn hr).1 (P := P) (X := X)
  unfold badR mk at h1 h2
  unfold entD at h2
  unfold gG at h2 ⊢
  have er : rwD r = .tuple (txs r) := rfl
  rw [er] at h1 h2 ⊢
  generalize trp ns r = l at *
  have el : rwD l = .tuple (txs l) := rfl
  rw [el] at h2
  unfold bodyG
  generalize ns.map stD = N at *
  simp [-in_lst, -in_tup, lk, szl, txs_len]
  refine ⟨by omega, ?_⟩
  refine okC_map (fun z => .bool (l.contains (txo z))) (fun z hz => ?_) ?_
  · obtain ⟨x, hx, rfl⟩ := List.mem_map.mp hz
    simp [-in_tup, -in_lst, wipeG, in_txsT, txo]
  · simp only [ev_ret, ev_lstO, ev_op2, tt_in, txs_any]
    cases hm : tk.any fun x => l.contains x with
    | false =>
      rw [hm] at h1
      have h1 := h1 rfl
      simp [-in_lst, -in_tup, szl, wipeG]
      exact h1 _
    | true =>
      rw [hm] at h2
      have h2 := h2 rfl
      simp [-in_lst, -in_tup, szl, wipeG]
      exact ⟨by omega, h2⟩
theorem gloop (hn : ns.length ≤ 1000) (ht : tk.length ≤ 1000) {b : Bool} {PO : Out → Prop} : ∀ {rs : List (List Str)} {es : List PyData} {c3 c4 : Sl}, (∀ r ∈ rs, r.length ≤ 10) → es.length + rs.length ≤ 1000 → (∀ r, rs.find? (badR ns tk) = some r → ∀ g, PO (.rt (.tuple [.str "fails", rwD r]) g)) → (rs.find? (badR ns tk) = none → ∀ c3 c4, PO (.nx (gG ns tk b (es ++ rs.map (entD ns)) c3 c4))) → svO (forL (bName 3) bodyG (rs.map rwD) (gG ns tk b es c3 c4)) PO
  | [], es, c3, c4, _, _, h1, h2 => by
    have := h2 rfl c3 c4
    rw [List.map_nil, List.append_nil] at this
    exact this
  | r :: rs, es, c3, c4, hr, hl, h1, h2 => by
    rw [List.map_cons, svO_for_cons]
    have e : okO (bName 3 (rwD r) (gG ns tk b es c3 c4)) = fun P => P (gG ns tk b es (.dat (rwD r)) c4) := rfl
    rw [e]
    have hl' : es.length + (rs.length + 1) ≤ 1000 := hl
    have st := fun {PO : Out → Prop} => gstep (b := b) (es := es) (r := r) (c4 := c4) hn (hr r (by simp)) ht (by omega) (PO := PO)
    have ih := fun {c3 c4 : Sl} => gloop hn ht (b := b) (PO := PO) (rs := rs) (es := es ++ [entD ns r]) (c3 := c3) (c4 := c4) (fun x hx => hr x (by simp [hx])) (by rw [List.length_append]; show es.length + 1 + _ ≤ _; omega)
    refine SV.h (st ?_ ?_)
    · intro hb g
      exact h1 r (by rw [List.find?_cons, hb]) g
    · intro hb
      refine ih (fun r' hr' => h1 r' (by rw [List.find?_cons, hb]; exact hr')) fun hn' c3 c4 => ?_
      have := h2 (by rw [List.find?_cons, hb]; exact hn') c3 c4
      rw [List.map_cons] at this
      rw [List.append_assoc]
      exact this
theorem told_len {ns : List Step} (h : WN ns) {r : List Str} (hr : r ∈ toldR ns) : r.length ≤ 4 := Nat.le_trans (toldR_mem hr).length_le (plcs_few h)
theorem guarded_ok (h : WN ns) (ht : tk.length ≤ 1000) {P : PyData → Prop} {X : String → Prop} : okP (m_guarded [.tuple (ns.map stD), .tuple (txs tk)]) P X ↔ P (tld45 ns tk) := by
  have fk := fun {P : PyData → Prop} {X : String → Prop} => few_ok h (P := P) (X := X)
  have lk := fun {P : PyData → Prop} {X : String → Prop} => least_ok h (P := P) (X := X)
  rw [← toldR_rws] at lk
  have hh : okP (m_guarded [.tuple (ns.map stD), .tuple (txs tk)]) (fun q => q = tld45 ns tk) fun _ => False := by
    unfold m_guarded
    rw [okP_runP]
    refine ⟨rfl, ?_⟩
    unfold b_guarded
    have eB : bodyG = seqS (setS 4 (callM m_largest (consM (rdV 0) (consM (rdV 3) (consM (ret (.bool true)) nilM)))))
        (seqS (ifS (tstM (op2 (inD not) (ret (.bool true)) (lstO (compM (seqI (rdV 1)) [5] (bName 5) yesM (op2V (inD id) 5 (pkV 4)))))) (retS (tupM (consM (ret (.str "fails")) (consM (rdV 3) nilM)))) nxS)
        (dropS (appM 2 (tupM (consM (rdV 3) (consM (rdV 4) nilM)))))) := by unfold bodyG; rfl
    rw [← eB]
    have l4 := h.l
    have tl := toldR_len h
    have lo := fun {b : Bool} {PO : Out → Prop} => gloop (ns := ns) (tk := tk) (by omega) ht (b := b) (PO := PO) (rs := toldR ns) (es := []) (c3 := .dead) (c4 := .dead) (fun r hr => by have := told_len h hr; omega) (by show 0 + _ ≤ _; omega)
    generalize bodyG = B at *
    unfold tld45
    unfold gG at lo
    have el : ((toldR ns).map (entD ns)).length = (toldR ns).length := List.length_map ..
    have er : rws (toldR ns) = (toldR ns).map rwD := rfl
    rw [er] at lk
    generalize (toldR ns).map (entD ns) = ES at *
    generalize toldR ns = TR at *
    generalize ns.map stD = N at *
    simp [-in_lst, -in_tup, fk, lk, szl]
    refine lo ?_ ?_
    · intro r hr g
      rw [hr]
    · intro hr c3 c4
      rw [hr]
      simp [szl]
  exact eq_iff (of_okP hh)
end
end Pf
namespace Pf
open PySem Mi L2
theorem fm_empty {α β : Type} {xs : List α} {f : α → Option β} : (xs.filterMap f).isEmpty = xs.all fun x => (f x).isNone := by
  induction xs with
  | nil => rfl
  | cons x xs ih =>
    rw [List.filterMap_cons, List.all_cons]
    cases h : f x with
    | none => simpa using ih
    | some y => simp
def pr2 : PyData → Bool
  | .tuple [_, _] => true
  | _ => false
def prB : PyData → Bool
  | .tuple es => es.all pr2
  | _ => false
theorem pairs_ok {m : Nat} {d : PyData} (hz : Zd m d) {P : PyData → Prop} {X : String → Prop} : okP (m__law_are_pairs_in [d, .int 2]) P X ↔ P (.bool (prB d)) := by
  have hh : okP (m__law_are_pairs_in [d, .int 2]) (fun z => z = .bool (prB d)) fun _ => False := by
    unfold m__law_are_pairs_in
    rw [okP_runP]
    refine ⟨rfl, ?_⟩
    unfold b__law_are_pairs_in
    cases d with
    | tuple zs =>
      have hl : zs.length ≤ 4000000 := by
        cases m with
        | zero => exact hz.elim
        | succ m => exact hz.1
      simp [-in_lst, szl]
      refine ⟨by omega, ?_⟩
      refine okC_fm (fun z => if pr2 z = true then none else some z) (fun z hz => ?_) ?_
      · cases z with
        | tuple es =>
          match es with
          | [] => simp [pr2, wipeG]
          | [_] => simp [pr2, wipeG]
          | [_, _] => simp [pr2, wipeG]
          | _ :: _ :: _ :: es =>
            have : ¬ ((es.length : Int) + 1 + 1 + 1 = 2) := by omega
            simp [pr2, wipeG, this]
        | _ => simp [pr2, wipeG]
      · rw [eq_nilL, fm_empty]
        show PyData.bool _ = PyData.bool _
        unfold prB
        refine congrArg PyData.bool (congrArg (List.all zs) (funext fun z => ?_))
        cases pr2 z <;> rfl
    | _ => simp [prB]
  generalize m__law_are_pairs_in [d, .int 2] = r at hh ⊢
  exact eq_iff (of_okP hh)
def sB (z : PyData) : Bool := isaD "str" z
theorem texts_ok {m : Nat} {d : PyData} (hz : Zd m d) {P : PyData → Prop} {X : String → Prop} : okP (m__law_are_texts [d]) P X ↔ P (.bool (match d with | .tuple zs => zs.all sB | _ => false)) := by
  have hh : okP (m__law_are_texts [d]) (fun z => z = .bool (match d with | .tuple zs => zs.all sB | _ => false)) fun _ => False := by
    unfold m__law_are_texts
    rw [okP_runP]
    refine ⟨rfl, ?_⟩
    unfold b__law_are_texts
    cases d with
    | tuple zs =>
      have hl : zs.length ≤ 4000000 := by
        cases m with
        | zero => exact hz.elim
        | succ m => exact hz.1
      simp [-in_lst, szl]
      refine ⟨by omega, ?_⟩
      refine okC_fm (fun z => if sB z = true then none else some z) (fun z hz => ?_) ?_
      · cases z <;> simp [sB, wipeG]
      · rw [eq_nilL, fm_empty]
        show PyData.bool _ = PyData.bool _
        refine congrArg PyData.bool (congrArg (List.all zs) (funext fun z => ?_))
        cases sB z <;> rfl
    | _ => simp
  generalize m__law_are_texts [d] = r at hh ⊢
  exact eq_iff (of_okP hh)
theorem sB_txs : ∀ {zs : List PyData}, zs.all sB = true → zs = txs (zs.map txo)
  | [], _ => rfl
  | z :: zs, h => by
    rw [List.all_cons, Bool.and_eq_true] at h
    have e := sB_txs h.2
    cases z with
    | str x =>
      show PyData.str x :: zs = .str x :: txs (zs.map txo)
      rw [← e]
    | _ => exact absurd h.1 (by simp [sB])
/-! what both come to -/
def cB (ns : List Step) (tk r : List Str) : PyData → Bool
  | .tuple zs => zs.all sB && (decide (zs.map txo = Ts.srt (Ts.dd (zs.map txo))) && (subB (zs.map txo) r && (siphB (ns.map sw) (zs.map txo) && mk tk (zs.map txo))))
  | _ => false
def enK : PyData → PyData
  | .tuple [a, _] => a
  | _ => .none
def enB (ns : List Step) (tk : List Str) : PyData → Bool
  | .tuple [a, b] => cB ns tk (txsO a) b
  | _ => false
def holdB (ns : List Step) (tk : List Str) : PyData → Bool
  | .tuple es => es.all pr2 && (PyData.eqvAll (es.map enK) (rws (toldR ns)) && es.all (enB ns tk))
  | _ => false
def failB (ns : List Step) (tk : List Str) (y : PyData) : Bool := ((rws (toldR ns)).any fun z => PyData.eqv z y) && !mk tk (trp ns (txsO y))
def accB (ns : List Step) (tk : List Str) (d : PyData) : Bool := match d with
  | .tuple [.str w, y] => (decide (w = "fails") && failB ns tk y) || (decide (w = "holds") && holdB ns tk y)
  | _ => false
section
variable {ns : List Step} {tk r : List Str} {d : PyData}
theorem acc_f {y : PyData} : accB ns tk (.tuple [.str "fails", y]) = failB ns tk y := by
  have : ¬ (("fails" : Str) = "holds") := by decide
  simp [accB, this]
theorem acc_h {y : PyData} : accB ns tk (.tuple [.str "holds", y]) = holdB ns tk y := by
  have : ¬ (("holds" : Str) = "fails") := by decide
  simp [accB, this]
theorem acc_no (h1 : hdB "fails" 2 d = false) (h2 : hdB "holds" 2 d = false) : accB ns tk d = false := by
  unfold accB
  split
  · rename_i w y
    have e1 : ¬ w = "fails" := by
      intro e
      simp [hdB, e] at h1
    have e2 : ¬ w = "holds" := by
      intro e
      simp [hdB, e] at h2
    simp [e1, e2]
  · rfl
theorem hd2 {w : Str} {d : PyData} (h : hdB w 2 d = true) : ∃ x, d = .tuple [.str w, x] := by
  obtain ⟨xs, rfl, hl⟩ := hd_two h
  match xs, hl with
  | [x], _ => exact ⟨x, rfl⟩
theorem str_eqv_eq {z : PyData} {x : Str} (h : PyData.eqv (.str x) z = true) : z = .str x := by
  cases z <;> simp [PyData.eqv] at h
  rw [h]
theorem txs_eqv_eq : ∀ {zs : List PyData} {l : List Str}, PyData.eqvAll (txs l) zs = true → zs = txs l
  | [], [], _ => rfl
  | [], _ :: _, h => by cases h
  | _ :: _, [], h => by cases h
  | z :: zs, x :: l, h => by
    have h' : PyData.eqvAll (.str x :: txs l) (z :: zs) = true := h
    rw [PyData.eqvAll, Bool.and_eq_true] at h'
    rw [str_eqv_eq h'.1, txs_eqv_eq h'.2]
    rfl
theorem rw_eqv_eq {z : PyData} {r : List Str} (h : PyData.eqv (rwD r) z = true) : z = rwD r := by
  cases z with
  | tuple zs =>
    have h' : PyData.eqvAll (txs r) zs = true := by
      have : PyData.eqv (.tuple (txs r)) (.tuple zs) = true := h
      simpa [PyData.eqv] using this
    rw [txs_eqv_eq h']
    rfl
  | _ => simp [rwD, PyData.eqv] at h
theorem fail_yes {y : PyData} (h : ((rws (toldR ns)).any fun z => PyData.eqv z y) = true) : ∃ r ∈ toldR ns, y = rwD r := by
  obtain ⟨z, hz, e⟩ := List.any_eq_true.mp h
  obtain ⟨r, hr, rfl⟩ := List.mem_map.mp hz
  exact ⟨r, hr, rw_eqv_eq e⟩
theorem eqv_me : PyData.eqv (rwD r) (rwD r) = true := by rw [eqv_rw]; simp
theorem in_told {y : PyData} {g : Bool → Bool} {P : PyData → Prop} {c : List PyData → PyData} (hc : c = .list ∨ c = .tuple) : okO (inD g y (c (rws (toldR ns)))) P ↔ P (.bool (g ((rws (toldR ns)).any fun z => PyData.eqv z y))) := by
  have dp := dp_rws (toldR ns)
  rcases hc with rfl | rfl
  · rw [in_lst]
    have : lowI y (.list (rws (toldR ns))) = true := low_i (by simp [DcEq.ndB, nd_rws]) (by simp [PyData.depth]; omega)
    simp only [this, true_and]
  · rw [in_tup]
    have : lowI y (.tuple (rws (toldR ns))) = true := low_i (by simp [DcEq.ndB, nd_rws]) (by simp [PyData.depth]; omega)
    simp only [this, true_and]
theorem ne_told {ks : List PyData} {P : PyData → Prop} : okO (neD (.list ks) (.list (rws (toldR ns)))) P ↔ P (.bool (!PyData.eqvAll ks (rws (toldR ns)))) := by
  have dp := dp_rws (toldR ns)
  rw [ne_any]
  have e : PyData.eqv (.list ks) (.list (rws (toldR ns))) = PyData.eqvAll ks (rws (toldR ns)) := by simp [PyData.eqv]
  have : lowD (.list ks) (.list (rws (toldR ns))) = true := low_r (by simp [DcEq.ndB, nd_rws]) (by simp [PyData.depth]; omega)
  rw [e, this]
  exact and_iff_right rfl
/-- what stands in it where it is taken -/
theorem cB_ap {y : PyData} (hr : r.Sublist (plcs [] ns)) (h : cB ns tk r y = true) : apB (plcs [] ns) y = true := by
  cases y with
  | tuple zs =>
    have h : (zs.all sB && (decide (zs.map txo = Ts.srt (Ts.dd (zs.map txo))) && (subB (zs.map txo) r && (siphB (ns.map sw) (zs.map txo) && mk tk (zs.map txo))))) = true := h
    simp only [Bool.and_eq_true] at h
    obtain ⟨h1, h2, h3, _⟩ := h
    have e := sB_txs h1
    show (zs.all (inP (plcs [] ns)) && decide (zs.map txo = Ts.srt (Ts.dd (zs.map txo)))) = true
    rw [h2, Bool.and_true]
    generalize zs.map txo = R at *
    rw [e]
    refine List.all_eq_true.mpr fun z hz => ?_
    obtain ⟨x, hx, rfl⟩ := List.mem_map.mp hz
    have := hr.mem (subB_iff.mp h3 x hx)
    simpa [inP] using this
  | _ => cases h
end
end Pf
namespace Pf
open PySem Mi L2
/-- a loop that returns False where something is not so -/
theorem all_loopV {α : Type} (e : α → PyData) (ok : α → Bool) (J : Gm → Prop) {b : PyData → Gm → Option Gm} {body : Gm → Out} {PO : Out → Prop} : ∀ {xs : List α} {g : Gm}, (xs.all ok = false → ∀ g, PO (.rt (.bool false) g)) → (∀ x ∈ xs, ∀ g, J g → ∀ PO : Out → Prop, (ok x = false → ∀ g, PO (.rt (.bool false) g)) → (ok x = true → ∀ g, J g → PO (.nx g)) → okO (b (e x) g) fun g1 => sv body g1 PO) → J g → (xs.all ok = true → ∀ g, J g → PO (.nx g)) → svO (forL b body (xs.map e) g) PO
  | [], g, _, _, j, h2 => h2 rfl g j
  | x :: xs, g, h1, hs, j, h2 => by
    rw [List.map_cons, svO_for_cons]
    refine hs x (by simp) g j _ (fun hx g => h1 (by rw [List.all_cons, hx]; rfl) g) fun hx g' j' => ?_
    exact all_loopV e ok J (xs := xs) (fun ha => h1 (by rw [List.all_cons, ha, Bool.and_false])) (fun y hy => hs y (by simp [hy])) j' fun ha => h2 (by rw [List.all_cons, hx, ha]; rfl)
/-! the judge -/
@[irreducible] def bodyH : Gm → Out := seqS (ifS (orT (notT (tru (callM m_are_places_of (consM (rdV 3) (consM (rdV 5) nilM))))) (orT (notT (tru (callM m_is_among (consM (rdV 5) (consM (rdV 4) nilM))))) (tru (callM m_drains (consM (rdV 0) (consM (rdV 5) nilM)))))) (retS (ret (.bool false))) nxS)
    (ifS (tstM (op2 (inD not) (ret (.bool true)) (lstO (compM (seqI (rdV 1)) [6] (bName 6) yesM (op2V (inD id) 6 (pkV 5)))))) (retS (ret (.bool false))) nxS)
def gH (ns : List Step) (tk : List Str) (tl : PyData) (c4 c5 : Sl) : Gm := [.dat (.tuple (ns.map stD)), .dat (.tuple (txs tk)), .dat tl, .dat (.list (txs (plcs [] ns))), c4, c5, .dead, .dead]
section
variable {ns : List Step} {tk r : List Str} {tl d : PyData}
theorem hstep (h : WN ns) (ht : tk.length ≤ 1000) (hr : r.Sublist (plcs [] ns)) {m : Nat} {y : PyData} (hz : Zd m y) {PO : Out → Prop} (h1 : cB ns tk r y = false → ∀ g, PO (.rt (.bool false) g)) (h2 : cB ns tk r y = true → PO (.nx (gH ns tk tl (.dat (rwD r)) (.dat y)))) : SV bodyH (gH ns tk tl (.dat (rwD r)) (.dat y)) PO := by
  constructor
  have l4 := plcs_few h
  have n4 := h.l
  have ak := fun {P : PyData → Prop} {X : String → Prop} => ap_ok (L := plcs [] ns) (y := y) (by omega) hz (P := P) (X := X)
  cases ea : apB (plcs [] ns) y with
  | false =>
    have hc : cB ns tk r y = false := by
      cases e : cB ns tk r y with
      | false => rfl
      | true => rw [cB_ap hr e] at ea; cases ea
    have h1 := h1 hc
    clear h2
    unfold gH
    unfold bodyH
    generalize ns.map stD = N at *
    generalize plcs [] ns = PL at *
    simp [-in_lst, -in_tup, ak, ea]
    exact h1 _
  | true =>
    cases y with
    | tuple zs =>
      have ea' : (zs.all (inP (plcs [] ns)) && decide (zs.map txo = Ts.srt (Ts.dd (zs.map txo)))) = true := ea
      simp only [Bool.and_eq_true, decide_eq_true_eq] at ea'
      obtain ⟨e1, e2⟩ := ea'
      obtain ⟨e3, e4⟩ := inP_txs e1
      have sb : zs.all sB = true := by
        rw [e3]
        exact List.all_eq_true.mpr fun z hz => by
          obtain ⟨x, _, rfl⟩ := List.mem_map.mp hz
          simp [sB]
      have ec : cB ns tk r (.tuple zs) = (subB (zs.map txo) r && (siphB (ns.map sw) (zs.map txo) && mk tk (zs.map txo))) := by
        show (zs.all sB && (decide (zs.map txo = Ts.srt (Ts.dd (zs.map txo))) && _)) = _
        rw [sb, decide_eq_true e2]
        rfl
      rw [ec] at h1 h2
      clear ec
      generalize hR : zs.map txo = R at *
      subst e3
      have Rl : R.length ≤ 4 := by
        rw [e2, srt_len]
        exact Nat.le_trans (dd_sub e4) l4
      have am := fun {P : PyData → Prop} {X : String → Prop} => among_ok (c := .tuple) (o := R) (r := r) (by omega) (P := P) (X := X)
      have dk := fun {P : PyData → Prop} {X : String → Prop} => drains_ok (ns := ns) (R := R) (by omega) (by omega) (P := P) (X := X)
      have dn := drL_nil (ns := ns) (R := R)
      have er : rwD r = .tuple (txs r) := rfl
      rw [er] at h2 ⊢
      unfold mk at h1 h2
      unfold gH at h2 ⊢
      unfold bodyH
      generalize txs (drL ns R) = DR at *
      generalize siphB (ns.map sw) R = SB at *
      generalize subB R r = UB at *
      generalize ns.map stD = N at *
      generalize plcs [] ns = PL at *
      cases UB with
      | false =>
        have h1 := h1 rfl
        simp [-in_lst, -in_tup, ak, ea, am, szl]
        exact h1 _
      | true =>
        cases SB with
        | false =>
          have h1 := h1 rfl
          simp [-in_lst, -in_tup, ak, ea, am, dk, dn, szl]
          exact h1 _
        | true =>
          simp [-in_lst, -in_tup, ak, ea, am, dk, dn, szl, txs_len]
          refine ⟨by omega, ?_⟩
          refine okC_map (fun z => .bool (R.contains (txo z))) (fun z hz => ?_) ?_
          · obtain ⟨x, hx, rfl⟩ := List.mem_map.mp hz
            simp [-in_tup, -in_lst, wipeG, in_txsT, txo]
          · simp only [ev_ret, ev_lstO, ev_op2, tt_in, txs_any]
            cases hm : tk.any fun x => R.contains x with
            | false =>
              rw [hm] at h1
              have h1 := h1 rfl
              simp [-in_lst, -in_tup, szl, wipeG]
              exact h1 _
            | true =>
              rw [hm] at h2
              have h2 := h2 rfl
              simp [-in_lst, -in_tup, szl, wipeG]
              exact h2
    | _ => cases ea
def JH (ns : List Step) (tk : List Str) (tl : PyData) (g : Gm) : Prop := ∃ c4 c5, g = gH ns tk tl c4 c5
/-- an entry that is told with a row -/
def enQ (p : List Str × PyData) : PyData := .tuple [rwD p.1, p.2]
theorem enB_Q {p : List Str × PyData} : enB ns tk (enQ p) = cB ns tk p.1 p.2 := by
  show cB ns tk (txsO (rwD p.1)) p.2 = _
  rw [txsO_rw]
theorem en_row : ∀ {es : List PyData} {T : List (List Str)}, es.all pr2 = true → PyData.eqvAll (es.map enK) (rws T) = true → ∃ ps : List (List Str × PyData), es = ps.map enQ ∧ ps.map (·.1) = T
  | [], [], _, _ => ⟨[], rfl, rfl⟩
  | [], _ :: _, _, h => by cases h
  | _ :: _, [], _, h => by cases h
  | e :: es, r :: T, h1, h2 => by
    rw [List.all_cons, Bool.and_eq_true] at h1
    have h2' : (PyData.eqv (enK e) (rwD r) && PyData.eqvAll (es.map enK) (rws T)) = true := h2
    rw [Bool.and_eq_true] at h2'
    obtain ⟨ps, rfl, e2⟩ := en_row h1.2 h2'.2
    have hp := h1.1
    unfold pr2 at hp
    split at hp
    · rename_i a b
      have := eqv_rw_eq h2'.1
      have ea : a = rwD r := this
      exact ⟨(r, b) :: ps, by rw [List.map_cons, ea]; rfl, by rw [List.map_cons, e2]⟩
    · cases hp
theorem hloop (h : WN ns) (ht : tk.length ≤ 1000) {ps : List (List Str × PyData)} (hp : ∀ p ∈ ps, p.1.Sublist (plcs [] ns) ∧ ∃ m, Zd m p.2) {c4 c5 : Sl} {PO : Out → Prop} (h1 : (ps.all fun p => cB ns tk p.1 p.2) = false → ∀ g, PO (.rt (.bool false) g)) (h2 : (ps.all fun p => cB ns tk p.1 p.2) = true → ∀ g, PO (.nx g)) : svO (forL (bTup 2 (bCons (bName 4) (bCons (bName 5) bNil))) bodyH (ps.map enQ) (gH ns tk tl c4 c5)) PO := by
  refine all_loopV enQ (fun p => cB ns tk p.1 p.2) (JH ns tk tl) h1 (fun p hpm g hg PO k1 k2 => ?_) ⟨c4, c5, rfl⟩ (fun ha g _ => h2 ha g)
  obtain ⟨d4, d5, rfl⟩ := hg
  obtain ⟨hs, m, hz⟩ := hp p hpm
  have e : okO (bTup 2 (bCons (bName 4) (bCons (bName 5) bNil)) (enQ p) (gH ns tk tl d4 d5)) = fun P => P (gH ns tk tl (.dat (rwD p.1)) (.dat p.2)) := rfl
  rw [e]
  exact (hstep h ht hs hz k1 fun q => k2 q _ ⟨_, _, rfl⟩).h
end
end Pf
namespace Pf
open PySem Mi L2
section
variable {ns : List Step} {tk : List Str} {d : PyData}
theorem pr2_sv {z : PyData} {es : List PyData} {c0 c1 c2 c3 c4 c5 c6 : Sl} (hz : z ∈ es) : okO (bName 7 z [c0, c1, c2, c3, c4, c5, c6, .dead]) fun g1 => ev (andV (isiM "tuple" (pkV 7)) (op2 eqD (op1 lenD (pkV 7)) (ret (.int 2)))) g1 (fun v g3 => v = .bool (pr2 z) ∧ wipeG g3 [7] = [c0, c1, c2, c3, c4, c5, c6, .dead]) noX := by
  cases z with
  | tuple zs =>
    match zs with
    | [] => simp [pr2, wipeG]
    | [_] => simp [pr2, wipeG]
    | [_, _] => simp [pr2, wipeG]
    | _ :: _ :: _ :: zs =>
      have : ¬ ((zs.length : Int) + 1 + 1 + 1 = 2) := by omega
      simp [pr2, wipeG, this]
  | _ => simp [pr2, wipeG]
theorem enK_sv {z : PyData} {c0 c1 c2 c3 c4 c5 c6 : Sl} (h : pr2 z = true) : okO (bName 7 z [c0, c1, c2, c3, c4, c5, c6, .dead]) fun g1 => ev (op2V ixD 7 (ret (.int 0))) g1 (fun v g3 => v = enK z ∧ wipeG g3 [7] = [c0, c1, c2, c3, c4, c5, c6, .dead]) noX := by
  unfold pr2 at h
  split at h
  · simp [wipeG, enK]
  · cases h
theorem hold_no {y : PyData} (h : isaD "tuple" y = false) : holdB ns tk y = false := by
  cases y <;> first | rfl | (simp at h)
theorem hold_e {ps : List (List Str × PyData)} (h1 : (ps.map enQ).all pr2 = true) (h2 : PyData.eqvAll ((ps.map enQ).map enK) (rws (toldR ns)) = true) : holdB ns tk (.tuple (ps.map enQ)) = ps.all fun p => cB ns tk p.1 p.2 := by
  show ((ps.map enQ).all pr2 && (PyData.eqvAll ((ps.map enQ).map enK) (rws (toldR ns)) && (ps.map enQ).all (enB ns tk))) = _
  rw [h1, h2, List.all_map, Bool.true_and, Bool.true_and]
  exact congrArg (List.all ps) (funext fun p => enB_Q)
theorem judge_ok (h : WN ns) (ht : tk.length ≤ 1000) (hz : Zd 10 d) {P : PyData → Prop} {X : String → Prop} : okP (m_judge_guarded [.tuple (ns.map stD), .tuple (txs tk), d]) P X ↔ P (.bool (accB ns tk d)) := by
  have l4 := plcs_few h
  have n4 := h.l
  have fk := fun {P : PyData → Prop} {X : String → Prop} => few_ok h (P := P) (X := X)
  have pk : ∀ {P : PyData → Prop} {X : String → Prop}, okP (m_places_of [.tuple (ns.map stD), .tuple []]) P X ↔ P (.list (txs (plcs [] ns))) := places_ok' (c := .tuple) (tk := []) (fun _ => rfl) h (by simp) (dd_few' h)
  have lk := fun {P : PyData → Prop} {X : String → Prop} => least_ok h (P := P) (X := X)
  rw [← toldR_rws] at lk
  have i1 : ∀ {P : PyData → Prop} {X : String → Prop}, okP (m_is_told [d, .str "fails", .int 2]) P X ↔ P (.bool (hdB "fails" 2 d)) := told_ok (n := 2) (by decide)
  have i2 : ∀ {P : PyData → Prop} {X : String → Prop}, okP (m_is_told [d, .str "holds", .int 2]) P X ↔ P (.bool (hdB "holds" 2 d)) := told_ok (n := 2) (by decide)
  have tln := toldR_len h
  have hh : okP (m_judge_guarded [.tuple (ns.map stD), .tuple (txs tk), d]) (fun z => z = .bool (accB ns tk d)) fun _ => False := by
    unfold m_judge_guarded
    rw [okP_runP]
    refine ⟨rfl, ?_⟩
    unfold b_judge_guarded
    have eB : bodyH = seqS (ifS (orT (notT (tru (callM m_are_places_of (consM (rdV 3) (consM (rdV 5) nilM))))) (orT (notT (tru (callM m_is_among (consM (rdV 5) (consM (rdV 4) nilM))))) (tru (callM m_drains (consM (rdV 0) (consM (rdV 5) nilM)))))) (retS (ret (.bool false))) nxS)
      (ifS (tstM (op2 (inD not) (ret (.bool true)) (lstO (compM (seqI (rdV 1)) [6] (bName 6) yesM (op2V (inD id) 6 (pkV 5)))))) (retS (ret (.bool false))) nxS) := by unfold bodyH; rfl
    rw [← eB]
    clear eB
    have lo := fun {ps : List (List Str × PyData)} hp {c4 c5 : Sl} {PO : Out → Prop} => hloop h ht (tl := d) (ps := ps) hp (c4 := c4) (c5 := c5) (PO := PO)
    unfold gH at lo
    generalize bodyH = B at *
    simp [-in_lst, -in_tup, fk, pk, i1]
    cases e : hdB "fails" 2 d with
    | true =>
      obtain ⟨y, rfl⟩ := hd2 e
      have hy : Zd 9 y := hz.2 y (by simp)
      have ak := fun {P : PyData → Prop} {X : String → Prop} => ap_ok (L := plcs [] ns) (y := y) (by omega) hy (P := P) (X := X)
      have it := fun {g : Bool → Bool} {P : PyData → Prop} => in_told (ns := ns) (y := y) (g := g) (P := P) (c := .tuple) (.inr rfl)
      rw [acc_f]
      cases ea : (rws (toldR ns)).any fun z => PyData.eqv z y with
      | false =>
        have ef : failB ns tk y = false := by unfold failB; rw [ea]; rfl
        rw [ef]
        clear lo
        generalize rws (toldR ns) = TR at *
        generalize ns.map stD = N at *
        generalize plcs [] ns = PL at *
        generalize apB PL y = W at *
        cases W <;> simp [-in_lst, -in_tup, ak, lk, it, ea]
      | true =>
        obtain ⟨r, hr, rfl⟩ := fail_yes ea
        have ap := ap_row (plcs_nd [] ns) (plcs_pw ns) (toldR_mem hr)
        have ef : failB ns tk (rwD r) = !mk tk (trp ns r) := by
          unfold failB
          rw [ea, txsO_rw]
          rfl
        rw [ef]
        have tp := fun {P : PyData → Prop} {X : String → Prop} => (trp_ok (ns := ns) (r := r) (by omega) (by have := told_len h hr; omega)).1 (P := P) (X := X)
        clear lo
        unfold mk
        have er : rwD r = .tuple (txs r) := rfl
        rw [er] at ak it ea ap ⊢
        generalize trp ns r = l at *
        generalize rws (toldR ns) = TR at *
        generalize ns.map stD = N at *
        generalize plcs [] ns = PL at *
        simp [-in_lst, -in_tup, ak, ap, lk, it, ea, szl, txs_len]
        refine ⟨by omega, ?_⟩
        refine okC_map (fun z => .bool (l.contains (txo z))) (fun z hz => ?_) ?_
        · obtain ⟨x, hx, rfl⟩ := List.mem_map.mp hz
          simp [-in_tup, -in_lst, wipeG, in_txsT, txo, tp]
        · simp only [ev_ret, ev_lstO, ev_op2, tt_in, txs_any]
          refine congrArg (fun b => PyData.bool (!b)) (congrArg (List.any tk) (funext fun x => ?_))
          simp
    | false =>
      cases e2 : hdB "holds" 2 d with
      | false => simp [acc_no e e2, i2, e2]
      | true =>
        obtain ⟨y, rfl⟩ := hd2 e2
        rw [acc_h]
        have hy : Zd 9 y := hz.2 y (by simp)
        cases y with
        | tuple es =>
          have hl : es.length ≤ 4000000 := hy.1
          cases ep : es.all pr2 with
          | false =>
            have eh : holdB ns tk (.tuple es) = false := by
              show (es.all pr2 && _) = false
              rw [ep]
              rfl
            rw [eh]
            clear lo
            generalize rws (toldR ns) = TR at *
            generalize ns.map stD = N at *
            generalize txs (plcs [] ns) = PL at *
            simp [-in_lst, -in_tup, i2, e2, szl]
            refine ⟨by omega, ?_⟩
            refine okC_map (fun z => .bool (pr2 z)) (fun z hz => ?_) ?_
            · cases z with
              | tuple zs =>
                match zs with
                | [] => simp [pr2, wipeG]
                | [_] => simp [pr2, wipeG]
                | [_, _] => simp [pr2, wipeG]
                | _ :: _ :: _ :: zs =>
                  have : ¬ ((zs.length : Int) + 1 + 1 + 1 = 2) := by omega
                  simp [pr2, wipeG, this]
              | _ => simp [pr2, wipeG]
            · have : (es.any fun z => !pr2 z) = true := by
                obtain ⟨z, hz, hn⟩ := List.all_eq_false.mp ep
                exact List.any_eq_true.mpr ⟨z, hz, by simpa using hn⟩
              rw [ff_in, this]
              simp
          | true =>
            have nt := fun {ks : List PyData} {P : PyData → Prop} => ne_told (ns := ns) (ks := ks) (P := P)
            have rl : (rws (toldR ns)).length ≤ 16 := by rw [rws_len]; exact tln
            cases eq : PyData.eqvAll (es.map enK) (rws (toldR ns)) with
            | false =>
              have eh : holdB ns tk (.tuple es) = false := by
                show (es.all pr2 && (PyData.eqvAll (es.map enK) (rws (toldR ns)) && _)) = false
                rw [ep, eq]
                rfl
              rw [eh]
              clear lo
              generalize rws (toldR ns) = TR at *
              generalize ns.map stD = N at *
              generalize txs (plcs [] ns) = PL at *
              simp [-in_lst, -in_tup, i2, e2, szl]
              refine ⟨by omega, ?_⟩
              refine okC_map (fun z => .bool (pr2 z)) (fun z hz => pr2_sv hz) ?_
              have : (es.any fun z => !pr2 z) = false := List.any_eq_false.mpr fun z hz => by simpa using List.all_eq_true.mp ep z hz
              rw [ff_in, this]
              simp [-in_lst, -in_tup, szl, wipeG]
              refine ⟨by omega, ?_⟩
              refine okC_map enK (fun z hz => enK_sv (List.all_eq_true.mp ep z hz)) ?_
              simp [-in_lst, -in_tup, lk, nt, eq, szl]
              try omega
            | true =>
              obtain ⟨ps, rfl, eps⟩ := en_row ep eq
              rw [hold_e ep eq]
              have lo := fun {c4 c5 : Sl} {PO : Out → Prop} => lo (ps := ps) (fun p hp => ⟨toldR_mem (by rw [← eps]; exact List.mem_map_of_mem hp), 8, by
                have h8 : Zd 8 (enQ p) := hy.2 _ (List.mem_map_of_mem hp)
                have h7 : Zd 7 p.2 := h8.2 _ (by simp)
                exact h7.up⟩) (c4 := c4) (c5 := c5) (PO := PO)
              generalize (ps.all fun p => cB ns tk p.1 p.2) = W at *
              generalize hes : ps.map enQ = es at *
              generalize rws (toldR ns) = TR at *
              generalize ns.map stD = N at *
              generalize txs (plcs [] ns) = PL at *
              simp [-in_lst, -in_tup, i2, e2, szl]
              refine ⟨by omega, ?_⟩
              refine okC_map (fun z => .bool (pr2 z)) (fun z hz => pr2_sv hz) ?_
              have : (es.any fun z => !pr2 z) = false := List.any_eq_false.mpr fun z hz => by simpa using List.all_eq_true.mp ep z hz
              rw [ff_in, this]
              simp [-in_lst, -in_tup, szl, wipeG]
              refine ⟨by omega, ?_⟩
              refine okC_map enK (fun z hz => enK_sv (List.all_eq_true.mp ep z hz)) ?_
              simp [-in_lst, -in_tup, lk, nt, eq, szl, wipeG]
              refine lo ?_ ?_
              · intro h g
                rw [h]
              · intro h g
                simp [h]
        | _ => simp [hold_no, i2, e2]
  generalize m_judge_guarded [.tuple (ns.map stD), .tuple (txs tk), d] = z at hh ⊢
  exact eq_iff (of_okP hh)
end
end Pf
namespace Pf
open PySem Mi L2
/-! the law's own look -/
@[irreducible] def bodyL : Gm → Out := seqS (ifS (orT (notT (tru (callM m__law_are_texts (consM (rdV 5) nilM)))) (orT (tstM (op2 neD (op1 listD (pkV 5)) (op1 sortSetD (rdV 5)))) (tstM (op2 neD (lstO (compM (seqI (rdV 5)) [6] (bName 6) (tstM (op2V (inD not) 6 (pkV 4))) (rdV 6))) (lstM nilM))))) (retS (ret (.bool false))) nxS)
    (ifS (orT (notT (tru (callM m__law_is_siphon (consM (callM m__law_turned_net (consM (rdV 0) nilM)) (consM (rdV 5) nilM))))) (tstM (op2 eqD (lstO (compM (seqI (rdV 1)) [6] (bName 6) (tstM (op2V (inD id) 6 (pkV 5))) (rdV 6))) (lstM nilM)))) (retS (ret (.bool false))) nxS)
def gL (ns : List Step) (tk : List Str) (tl : PyData) (c4 c5 : Sl) : Gm := [.dat (.tuple (ns.map stD)), .dat (.tuple (txs tk)), .dat tl, .dat (.list (rws (toldR ns))), c4, c5, .dead, .dead]
theorem ne_txL {a b : List Str} {P : PyData → Prop} : okO (neD (.list (txs a)) (.list (txs b))) P ↔ P (.bool (!decide (a = b))) := by
  rw [ne_any]
  have e : PyData.eqv (.list (txs a)) (.list (txs b)) = decide (a = b) := by
    rw [← eqv_txs2]
    simp [PyData.eqv]
  have lw : lowD (.list (txs a)) (.list (txs b)) = true := low_r (by simpa [DcEq.ndB] using nd_txs b) (by simp [PyData.depth, dp_txs])
  rw [e, lw]
  exact and_iff_right rfl
theorem sub_emp {R r : List Str} : (txs (R.filter fun x => !r.contains x)).isEmpty = subB R r := by
  unfold subB
  induction R with
  | nil => rfl
  | cons x R ih =>
    rw [List.filter_cons, List.all_cons]
    cases h : r.contains x with
    | true => simpa using ih
    | false => rfl
section
variable {ns : List Step} {tk r : List Str} {tl d : PyData}
theorem lstep (h : WN ns) (ht : tk.length ≤ 1000) {m : Nat} {y : PyData} (hz : Ud m 60 y) {PO : Out → Prop} (h1 : cB ns tk r y = false → ∀ g, PO (.rt (.bool false) g)) (h2 : cB ns tk r y = true → PO (.nx (gL ns tk tl (.dat (rwD r)) (.dat y)))) : SV bodyL (gL ns tk tl (.dat (rwD r)) (.dat y)) PO := by
  constructor
  have l4 := plcs_few h
  have n4 := h.l
  have xk := fun {P : PyData → Prop} {X : String → Prop} => texts_ok (d := y) hz.1 (P := P) (X := X)
  cases y with
  | tuple zs =>
    cases sb : zs.all sB with
    | false =>
      have hc : cB ns tk r (.tuple zs) = false := by
        show (zs.all sB && _) = false
        rw [sb]
        rfl
      have h1 := h1 hc
      clear h2
      unfold gL
      unfold bodyL
      generalize ns.map stD = N at *
      generalize rws (toldR ns) = TR at *
      simp [-in_lst, -in_tup, xk, sb]
      exact h1 _
    | true =>
      have e3 := sB_txs sb
      have ec : cB ns tk r (.tuple zs) = (decide (zs.map txo = Ts.srt (Ts.dd (zs.map txo))) && (subB (zs.map txo) r && (siphB (ns.map sw) (zs.map txo) && mk tk (zs.map txo)))) := by
        show (zs.all sB && _) = _
        rw [sb]
        rfl
      rw [ec] at h1 h2
      clear ec
      have zl : zs.length ≤ 60 := by
        have h3 := hz.2
        rw [nu_tup] at h3
        have := cu_len (xs := zs)
        omega
      have rl : (zs.map txo).length ≤ 60 := by rw [List.length_map]; exact zl
      generalize hR : zs.map txo = R at *
      subst e3
      have dl : (Ts.dd R).length ≤ 60 := Nat.le_trans (dd_sub (L := R) fun x hx => hx) rl
      have ss : ∀ {P : PyData → Prop}, okO (sortSetD (.tuple (txs R))) P ↔ P (.list (txs (Ts.srt (Ts.dd R)))) := sortSet_txs (c := .tuple) (strsOf_map R) (by omega) (by omega)
      have nx := fun {P : PyData → Prop} => ne_txL (a := R) (b := Ts.srt (Ts.dd R)) (P := P)
      have tn := fun {P : PyData → Prop} {X : String → Prop} => turned_net (ns := ns) (by omega) (P := P) (X := X)
      have sk := fun {P : PyData → Prop} {X : String → Prop} => is_siph_ok (c := .list) (ns := ns.map sw) (R := R) rfl (fun s hs => by
        obtain ⟨s0, hs0, rfl⟩ := List.mem_map.mp hs
        have := h.a s0 hs0
        have a1 := this.l1
        have a2 := this.l2
        exact ⟨by show s0.2.2.length ≤ 1000; omega, by show s0.2.1.length ≤ 1000; omega⟩) (by rw [List.length_map]; omega) (P := P) (X := X)
      have er : rwD r = .tuple (txs r) := rfl
      rw [er] at h2 ⊢
      unfold mk at h1 h2
      unfold gL at h2 ⊢
      unfold bodyL
      generalize siphB (ns.map sw) R = SB at *
      have se := sub_emp (R := R) (r := r)
      generalize subB R r = UB at *
      generalize (ns.map sw).map stD = NS at *
      generalize ns.map stD = N at *
      generalize rws (toldR ns) = TR at *
      by_cases eS : R = Ts.srt (Ts.dd R)
      · rw [decide_eq_true eS] at h1 h2
        have nx2 := fun {P : PyData → Prop} => ne_txL (a := R) (b := R) (P := P)
        have ss2 : ∀ {P : PyData → Prop}, okO (sortSetD (.tuple (txs R))) P ↔ P (.list (txs R)) := fun {P} => by
          rw [ss, ← eS]
        simp [-in_lst, -in_tup, -sortSet_ok, xk, sb, ss2, nx2, szl, txs_len]
        refine ⟨by omega, ?_⟩
        refine okC_fm (fun z => if r.contains (txo z) = true then none else some z) (fun z hz => ?_) ?_
        · obtain ⟨x, hx, rfl⟩ := List.mem_map.mp hz
          by_cases hc : x ∈ r <;> simp [-in_tup, -in_lst, wipeG, in_txsT, txo, hc]
        · rw [fm_txs]
          rw [ne_nilL, se]
          cases UB with
          | false =>
            have h1 := h1 rfl
            simp [-in_lst, -in_tup]
            exact h1 _
          | true =>
            cases SB with
            | false =>
              have h1 := h1 rfl
              simp [-in_lst, -in_tup, tn, sk, wipeG]
              exact h1 _
            | true =>
              simp [-in_lst, -in_tup, tn, sk, wipeG, szl, txs_len]
              refine ⟨by omega, ?_⟩
              refine okC_fm (fun z => if R.contains (txo z) = true then some z else none) (fun z hz => ?_) ?_
              · obtain ⟨x, hx, rfl⟩ := List.mem_map.mp hz
                by_cases hc : x ∈ R <;> simp [-in_tup, -in_lst, wipeG, in_txsT, txo, hc]
              · rw [in_fm, eq_nilL, is_emp]
                cases hm : tk.any fun x => R.contains x with
                | false =>
                  rw [hm] at h1
                  have h1 := h1 rfl
                  simp [-in_lst, -in_tup, szl, wipeG]
                  exact h1 _
                | true =>
                  rw [hm] at h2
                  have h2 := h2 rfl
                  simp [-in_lst, -in_tup, szl, wipeG]
                  exact h2
      · rw [decide_eq_false eS] at h1
        have h1 := h1 rfl
        simp [-in_lst, -in_tup, -sortSet_ok, xk, sb, ss, nx, eS, szl, txs_len]
        exact h1 _
  | _ =>
    have h1 := h1 rfl
    clear h2
    unfold gL
    unfold bodyL
    generalize ns.map stD = N at *
    generalize rws (toldR ns) = TR at *
    simp [-in_lst, -in_tup, xk]
    exact h1 _
def JL (ns : List Step) (tk : List Str) (tl : PyData) (g : Gm) : Prop := ∃ c4 c5, g = gL ns tk tl c4 c5
theorem lloop (h : WN ns) (ht : tk.length ≤ 1000) {ps : List (List Str × PyData)} (hp : ∀ p ∈ ps, ∃ m, Ud m 60 p.2) {c4 c5 : Sl} {PO : Out → Prop} (h1 : (ps.all fun p => cB ns tk p.1 p.2) = false → ∀ g, PO (.rt (.bool false) g)) (h2 : (ps.all fun p => cB ns tk p.1 p.2) = true → ∀ g, PO (.nx g)) : svO (forL (bTup 2 (bCons (bName 4) (bCons (bName 5) bNil))) bodyL (ps.map enQ) (gL ns tk tl c4 c5)) PO := by
  refine all_loopV enQ (fun p => cB ns tk p.1 p.2) (JL ns tk tl) h1 (fun p hpm g hg PO k1 k2 => ?_) ⟨c4, c5, rfl⟩ (fun ha g _ => h2 ha g)
  obtain ⟨d4, d5, rfl⟩ := hg
  obtain ⟨m, hz⟩ := hp p hpm
  have e : okO (bTup 2 (bCons (bName 4) (bCons (bName 5) bNil)) (enQ p) (gL ns tk tl d4 d5)) = fun P => P (gL ns tk tl (.dat (rwD p.1)) (.dat p.2)) := rfl
  rw [e]
  exact (lstep h ht hz k1 fun q => k2 q _ ⟨_, _, rfl⟩).h
end
end Pf
namespace Pf
open PySem Mi L2
theorem hold_pr {ns : List Step} {tk : List Str} {y : PyData} (h : prB y = false) : holdB ns tk y = false := by
  cases y with
  | tuple es =>
    have h : es.all pr2 = false := h
    show (es.all pr2 && _) = false
    rw [h]
    rfl
  | _ => rfl
theorem ud_mem {n c : Nat} {xs : List PyData} (h : Ud (n + 1) c (.tuple xs)) {x : PyData} (hx : x ∈ xs) : Ud n c x := by
  have h2 := h.2
  rw [nu_tup] at h2
  exact ⟨h.1.2 x hx, nuA_le.mp (by omega) x hx⟩
section
variable {ns : List Step} {tk : List Str} {d : PyData}
theorem accepts_ok (h : WN ns) (ht : tk.length ≤ 1000) (hz : Ud 10 60 d) {P : PyData → Prop} {X : String → Prop} : okP (m__law_accepts [.tuple (ns.map stD), .tuple (txs tk), d]) P X ↔ P (.bool (accB ns tk d)) := by
  have l4 := plcs_few h
  have n4 := h.l
  have lk := fun {P : PyData → Prop} {X : String → Prop} => law_least_ok h (P := P) (X := X)
  rw [← toldR_rws] at lk
  have i1 : ∀ {P : PyData → Prop} {X : String → Prop}, okP (m__law_is [d, .str "fails", .int 2]) P X ↔ P (.bool (hdB "fails" 2 d)) := is_ok (n := 2) (by decide)
  have i2 : ∀ {P : PyData → Prop} {X : String → Prop}, okP (m__law_is [d, .str "holds", .int 2]) P X ↔ P (.bool (hdB "holds" 2 d)) := is_ok (n := 2) (by decide)
  have tln := toldR_len h
  have hh : okP (m__law_accepts [.tuple (ns.map stD), .tuple (txs tk), d]) (fun z => z = .bool (accB ns tk d)) fun _ => False := by
    unfold m__law_accepts
    rw [okP_runP]
    refine ⟨rfl, ?_⟩
    unfold b__law_accepts
    have eB : bodyL = seqS (ifS (orT (notT (tru (callM m__law_are_texts (consM (rdV 5) nilM)))) (orT (tstM (op2 neD (op1 listD (pkV 5)) (op1 sortSetD (rdV 5)))) (tstM (op2 neD (lstO (compM (seqI (rdV 5)) [6] (bName 6) (tstM (op2V (inD not) 6 (pkV 4))) (rdV 6))) (lstM nilM))))) (retS (ret (.bool false))) nxS)
        (ifS (orT (notT (tru (callM m__law_is_siphon (consM (callM m__law_turned_net (consM (rdV 0) nilM)) (consM (rdV 5) nilM))))) (tstM (op2 eqD (lstO (compM (seqI (rdV 1)) [6] (bName 6) (tstM (op2V (inD id) 6 (pkV 5))) (rdV 6))) (lstM nilM)))) (retS (ret (.bool false))) nxS) := by unfold bodyL; rfl
    rw [← eB]
    clear eB
    have lo := fun {ps : List (List Str × PyData)} hp {c4 c5 : Sl} {PO : Out → Prop} => lloop h ht (tl := d) (ps := ps) hp (c4 := c4) (c5 := c5) (PO := PO)
    unfold gL at lo
    generalize bodyL = B at *
    simp [-in_lst, -in_tup, lk, i1]
    cases e : hdB "fails" 2 d with
    | true =>
      obtain ⟨y, rfl⟩ := hd2 e
      have it := fun {g : Bool → Bool} {P : PyData → Prop} => in_told (ns := ns) (y := y) (g := g) (P := P) (c := .list) (.inl rfl)
      rw [acc_f]
      clear lo
      cases ea : (rws (toldR ns)).any fun z => PyData.eqv z y with
      | false =>
        have ef : failB ns tk y = false := by unfold failB; rw [ea]; rfl
        rw [ef]
        generalize rws (toldR ns) = TR at *
        generalize ns.map stD = N at *
        simp [-in_lst, -in_tup, it, ea]
      | true =>
        obtain ⟨r, hr, rfl⟩ := fail_yes ea
        have ef : failB ns tk (rwD r) = !mk tk (trp ns r) := by
          unfold failB
          rw [ea, txsO_rw]
          rfl
        rw [ef]
        have r4 := told_len h hr
        have tb := (trp_ok (ns := ns) (r := r) (by omega) (by omega)).2
        have tn := fun {P : PyData → Prop} {X : String → Prop} => turned_net (ns := ns) (by omega) (P := P) (X := X)
        have ll := fun {P : PyData → Prop} {X : String → Prop} => largest_law (c := .list) (ns := ns.map sw) (nm := r) rfl (fun s hs => by
          obtain ⟨s0, hs0, rfl⟩ := List.mem_map.mp hs
          have := h.a s0 hs0
          have a1 := this.l1
          have a2 := this.l2
          exact ⟨by show s0.2.2.length ≤ 1000; omega, by show s0.2.1.length ≤ 1000; omega⟩) (by rw [List.length_map]; omega) (by omega) (Nat.le_trans (dd_sub (L := r) fun x hx => hx) (by omega)) tb (P := P) (X := X)
        unfold mk
        have er : rwD r = .tuple (txs r) := rfl
        rw [er] at it ea ⊢
        clear tb
        generalize trp ns r = l at *
        generalize rws (toldR ns) = TR at *
        generalize (ns.map sw).map stD = NS at *
        generalize ns.map stD = N at *
        simp [-in_lst, -in_tup, it, ea, szl, txs_len]
        refine ⟨by omega, ?_⟩
        refine okC_fm (fun z => if l.contains (txo z) = true then some z else none) (fun z hz => ?_) ?_
        · obtain ⟨x, hx, rfl⟩ := List.mem_map.mp hz
          by_cases hc : x ∈ l <;> simp [-in_tup, -in_lst, wipeG, in_txsT, txo, hc, tn, ll]
        · rw [in_fm, eq_nilL, is_emp]
          refine congrArg (fun b => PyData.bool (!b)) (congrArg (List.any tk) (funext fun x => ?_))
          simp
    | false =>
      cases e2 : hdB "holds" 2 d with
      | false => simp [acc_no e e2, i2, e2]
      | true =>
        obtain ⟨y, rfl⟩ := hd2 e2
        rw [acc_h]
        have hy : Ud 9 60 y := ud_mem hz (by simp)
        have pk := fun {P : PyData → Prop} {X : String → Prop} => pairs_ok (d := y) hy.1 (P := P) (X := X)
        cases ep : prB y with
        | false =>
          rw [hold_pr ep]
          clear lo
          generalize rws (toldR ns) = TR at *
          generalize ns.map stD = N at *
          simp [-in_lst, -in_tup, i2, e2, pk, ep]
        | true =>
          cases y with
          | tuple es =>
            have hl : es.length ≤ 4000000 := hy.1.1
            have ep' : es.all pr2 = true := ep
            have nt := fun {ks : List PyData} {P : PyData → Prop} => ne_told (ns := ns) (ks := ks) (P := P)
            cases eq : PyData.eqvAll (es.map enK) (rws (toldR ns)) with
            | false =>
              have eh : holdB ns tk (.tuple es) = false := by
                show (es.all pr2 && (PyData.eqvAll (es.map enK) (rws (toldR ns)) && _)) = false
                rw [ep', eq]
                rfl
              rw [eh]
              clear lo
              generalize rws (toldR ns) = TR at *
              generalize ns.map stD = N at *
              simp [-in_lst, -in_tup, i2, e2, pk, ep, szl]
              refine ⟨by omega, ?_⟩
              refine okC_map enK (fun z hz => enK_sv (List.all_eq_true.mp ep' z hz)) ?_
              simp [-in_lst, -in_tup, nt, eq, szl, wipeG]
            | true =>
              obtain ⟨ps, rfl, eps⟩ := en_row ep' eq
              rw [hold_e ep' eq]
              have lo := fun {c4 c5 : Sl} {PO : Out → Prop} => lo (ps := ps) (fun p hp => ⟨7, ud_mem (n := 7) (ud_mem (n := 8) hy (List.mem_map_of_mem hp)) (by simp)⟩) (c4 := c4) (c5 := c5) (PO := PO)
              generalize (ps.all fun p => cB ns tk p.1 p.2) = W at *
              generalize hes : ps.map enQ = es at *
              generalize rws (toldR ns) = TR at *
              generalize ns.map stD = N at *
              simp [-in_lst, -in_tup, i2, e2, pk, ep, szl]
              refine ⟨by omega, ?_⟩
              refine okC_map enK (fun z hz => enK_sv (List.all_eq_true.mp ep' z hz)) ?_
              simp [-in_lst, -in_tup, nt, eq, szl, wipeG]
              refine lo ?_ ?_
              · intro h g
                rw [h]
              · intro h g
                simp [h]
          | _ => cases ep
  generalize m__law_accepts [.tuple (ns.map stD), .tuple (txs tk), d] = z at hh ⊢
  exact eq_iff (of_okP hh)
end
end Pf
namespace Pf
open PySem Mi L2
theorem pl_ok {x : Str} (h : x ∈ Pl) : x.length ≤ 2 ∧ PyData.strOk x = true := by
  simp only [Pl, List.mem_cons, List.not_mem_nil, or_false] at h
  rcases h with rfl | rfl | rfl | rfl <;> exact ⟨by decide, by decide +kernel⟩
def Nr (r : List Str) : Prop := r.length ≤ 4 ∧ ∀ x ∈ r, x ∈ Pl
theorem nr_wd {n : Nat} {r : List Str} (h : Nr r) : Wd (n + 2) (rwD r) := by
  refine ⟨by rw [txs_len]; have := h.1; omega, fun z hz => ?_⟩
  obtain ⟨x, hx, rfl⟩ := List.mem_map.mp hz
  have := pl_ok (h.2 x hx)
  exact ⟨by omega, this.2⟩
theorem cnt_rw {n : Nat} : ∀ {r : List Str}, cntN (n + 2) (rwD r) = 0
  | [] => rfl
  | x :: r => by
    have ih := cnt_rw (n := n) (r := r)
    show cntN (n + 1) (.str x) + ((txs r).map (cntN (n + 1))).sum = 0
    have ih : ((txs r).map (cntN (n + 1))).sum = 0 := ih
    rw [ih]
    rfl
theorem nu_rw {r : List Str} (h : Nr r) : nu (rwD r) ≤ 8 := by
  show nu (.tuple (txs r)) ≤ 8
  rw [nu_tup]
  have h1 : nuA (txs r) ≤ 8 := nuA_le.mpr fun z hz => by
    obtain ⟨x, _, rfl⟩ := List.mem_map.mp hz
    simp [nu]
  have h2 : ∀ r : List Str, (∀ x ∈ r, x ∈ Pl) → cu (txs r) ≤ 2 * r.length := fun r => by
    induction r with
    | nil => intro _; exact Nat.le_refl _
    | cons x r ih =>
      intro hx
      have i1 := ih fun y hy => hx y (by simp [hy])
      have i2 := (pl_ok (hx x (by simp))).1
      have e : cu (txs (x :: r)) = wu (.str x) + cu (txs r) := cu_cons
      rw [e, wu_str, List.length_cons]
      omega
  have := h2 r h.2
  have := h.1
  omega
section
variable {ns : List Step} {tk : List Str}
theorem nr_told (h : WN ns) {r : List Str} (hr : r ∈ toldR ns) : Nr r := ⟨told_len h hr, fun x hx => by
  have sb := toldR_mem hr
  rcases mem_plcs.mp (sb.mem hx) with q | ⟨s, hs, q | q⟩
  · cases q
  · exact (h.a s hs).m1 _ q
  · exact (h.a s hs).m2 _ q⟩
theorem trp_sub (h : WN ns) {r : List Str} (hr : r ∈ toldR ns) : (trp ns r).Sublist r := by
  have n4 := h.l
  have r4 := told_len h hr
  have B := (trp_ok (ns := ns) (r := r) (by omega) (by omega)).2
  have e := srt_sub (plcs_nd [] ns) (plcs_pw ns) (toldR_mem hr)
  have := B.sub
  rw [← e] at this
  exact this
theorem nr_trp (h : WN ns) {r : List Str} (hr : r ∈ toldR ns) : Nr (trp ns r) := by
  have s := trp_sub h hr
  have q := nr_told h hr
  exact ⟨Nat.le_trans s.length_le q.1, fun x hx => q.2 x (s.mem hx)⟩
theorem cB_told (h : WN ns) {r : List Str} (hr : r ∈ toldR ns) (hb : badR ns tk r = false) : cB ns tk r (rwD (trp ns r)) = true := by
  have n4 := h.l
  have r4 := told_len h hr
  have B := (trp_ok (ns := ns) (r := r) (by omega) (by omega)).2
  have s := trp_sub h hr
  have e := srt_sub (plcs_nd [] ns) (plcs_pw ns) (s.trans (toldR_mem hr))
  have mkt : mk tk (trp ns r) = true := by
    unfold badR at hb
    simpa using hb
  have em : (txs (trp ns r)).map txo = trp ns r := txsO_rw
  show ((txs (trp ns r)).all sB && (decide ((txs (trp ns r)).map txo = Ts.srt (Ts.dd ((txs (trp ns r)).map txo))) && (subB ((txs (trp ns r)).map txo) r && (siphB (ns.map sw) ((txs (trp ns r)).map txo) && mk tk ((txs (trp ns r)).map txo))))) = true
  have a1 : (txs (trp ns r)).all sB = true := List.all_eq_true.mpr fun z hz => by
    obtain ⟨x, _, rfl⟩ := List.mem_map.mp hz
    simp [sB]
  rw [em, a1, decide_eq_true e, siphB_iff.mpr B.s, mkt, subB_iff.mpr fun x hx => s.mem hx]
  rfl
theorem eqv_self {T : List (List Str)} : PyData.eqvAll (rws T) (rws T) = true := by
  induction T with
  | nil => rfl
  | cons r T ih =>
    show PyData.eqvAll (rwD r :: rws T) (rwD r :: rws T) = true
    rw [PyData.eqvAll, ih, eqv_rw]
    simp
structure Tf (ns : List Step) (tk : List Str) (w : Str) (y : PyData) : Prop where
  t : Tld (.str w) [y]
  c : cntN 8 (.tuple [.str w, y]) = 0
  n : nu (.tuple [.str w, y]) ≤ 16
  a : accB ns tk (.tuple [.str w, y]) = true
theorem tf_of {w : Str} {y : PyData} (hw : w.length = 5 ∧ PyData.strOk w = true) (hy : Wd 7 y) (hc : cntN 7 y = 0) (hn : nu y ≤ 16) (hu : wu y = 1) (ha : accB ns tk (.tuple [.str w, y]) = true) : Tf ns tk w y := by
  have e2 : cntN 8 (.tuple [.str w, y]) = 0 := by
    show 0 + (cntN 7 y + 0) = 0
    rw [hc]
  refine ⟨⟨⟨by simp, fun x hx => ?_⟩, by rw [e2]; decide⟩, e2, ?_, ha⟩
  · simp only [List.mem_cons, List.not_mem_nil, or_false] at hx
    rcases hx with rfl | rfl
    · exact ⟨by have := hw.1; omega, hw.2⟩
    · exact hy
  · rw [nu_tup, cu_cons, cu_cons, wu_str, hu, nuA_cons, nuA_cons, nuA_nil]
    have h0 : nu (.str w) = 0 := by simp [nu]
    have h1 : cu ([] : List PyData) = 0 := rfl
    rw [h0, h1, hw.1]
    omega
theorem told_all (h : WN ns) : ∃ w y, tld45 ns tk = .tuple [.str w, y] ∧ Tf ns tk w y := by
  unfold tld45
  cases ef : (toldR ns).find? (badR ns tk) with
  | some r =>
    have hr := List.mem_of_find?_eq_some ef
    have hb := List.find?_some ef
    refine ⟨_, _, rfl, tf_of ⟨by decide, by decide +kernel⟩ (nr_wd (n := 5) (nr_told h hr)) cnt_rw (Nat.le_trans (nu_rw (nr_told h hr)) (by omega)) rfl ?_⟩
    rw [acc_f]
    unfold failB
    have k : ((rws (toldR ns)).any fun z => PyData.eqv z (rwD r)) = true := List.any_eq_true.mpr ⟨rwD r, List.mem_map_of_mem hr, eqv_me⟩
    rw [txsO_rw, k]
    unfold badR at hb
    rw [hb]
    rfl
  | none =>
    have hb := List.find?_eq_none.mp ef
    have tl := toldR_len h
    have ce : ∀ r, cntN 6 (entD ns r) = 0 := fun r => by
      show cntN 5 (rwD r) + (cntN 5 (rwD (trp ns r)) + 0) = 0
      rw [cnt_rw (n := 3), cnt_rw (n := 3)]
    have cs : ∀ T : List (List Str), ((T.map (entD ns)).map (cntN 6)).sum = 0 := fun T => by
      induction T with
      | nil => rfl
      | cons r T ih =>
        show cntN 6 (entD ns r) + ((T.map (entD ns)).map (cntN 6)).sum = 0
        rw [ih, ce r]
    have cl : ∀ T : List (List Str), cu (T.map (entD ns)) = T.length := fun T => by
      induction T with
      | nil => rfl
      | cons r T ih =>
        have e : wu (entD ns r) = 1 := rfl
        rw [List.map_cons, cu_cons, ih, e, List.length_cons]
        omega
    refine ⟨_, _, rfl, tf_of ⟨by decide, by decide +kernel⟩ ?_ ?_ ?_ rfl ?_⟩
    · refine ⟨by rw [List.length_map]; omega, fun z hz => ?_⟩
      obtain ⟨r, hr, rfl⟩ := List.mem_map.mp hz
      refine ⟨by simp, fun q hq => ?_⟩
      simp only [List.mem_cons, List.not_mem_nil, or_false] at hq
      rcases hq with rfl | rfl
      · exact nr_wd (n := 3) (nr_told h hr)
      · exact nr_wd (n := 3) (nr_trp h hr)
    · exact cs (toldR ns)
    · rw [nu_tup, cl]
      have : nuA ((toldR ns).map (entD ns)) ≤ 16 := nuA_le.mpr fun z hz => by
        obtain ⟨r, hr, rfl⟩ := List.mem_map.mp hz
        have h1 := nu_rw (nr_told h hr)
        have h2 := nu_rw (nr_trp h hr)
        unfold entD
        rw [nu_tup, nuA_cons, nuA_cons, nuA_nil]
        have h3 : cu [rwD r, rwD (trp ns r)] = 2 := rfl
        rw [h3]
        omega
      omega
    · rw [acc_h]
      show (((toldR ns).map (entD ns)).all pr2 && (PyData.eqvAll (((toldR ns).map (entD ns)).map enK) (rws (toldR ns)) && ((toldR ns).map (entD ns)).all (enB ns tk))) = true
      have k1 : ((toldR ns).map (entD ns)).all pr2 = true := List.all_eq_true.mpr fun z hz => by
        obtain ⟨r, _, rfl⟩ := List.mem_map.mp hz
        rfl
      have k2 : ((toldR ns).map (entD ns)).map enK = rws (toldR ns) := by
        rw [List.map_map]
        rfl
      have k3 : ((toldR ns).map (entD ns)).all (enB ns tk) = true := List.all_eq_true.mpr fun z hz => by
        obtain ⟨r, hr, rfl⟩ := List.mem_map.mp hz
        show cB ns tk (txsO (rwD r)) (rwD (trp ns r)) = true
        rw [txsO_rw]
        exact cB_told h hr (by simpa using hb r hr)
      rw [k1, k2, k3, eqv_self]
      rfl
theorem Tf.ud {w : Str} {y : PyData} (T : Tf ns tk w y) : Ud 10 60 (.tuple [.str w, y]) := ⟨(Pf.Wd.zd T.t.w).up.up, by have := T.n; omega⟩
theorem Tf.odd {w : Str} {y : PyData} (T : Tf ns tk w y) {s : PyData} (hs : St s) : okS (m__law_odd s [.tuple [.str w, y]]) (fun d s' => Ud 10 60 d ∧ St s') fun _ => False := odd_okU (b := 16) (by decide) rfl T.t T.c T.n hs
end
end Pf
namespace Pf
open PySem Mi L2
theorem turn_ok {told : PyData} {S : PyData → Bool} {x4 x5 : PyData} (hk : ∀ {P : PyData → Prop} {X : String → Prop}, okP (m_guarded [x4, x5]) P X ↔ P told) (ha : ∀ {d : PyData}, Ud 10 60 d → ∀ {P : PyData → Prop} {X : String → Prop}, okP (m__law_accepts [x4, x5, d]) P X ↔ P (.bool (S d)))
    (hj : ∀ {d : PyData}, Ud 10 60 d → ∀ {P : PyData → Prop} {X : String → Prop}, okP (m_judge_guarded [x4, x5, d]) P X ↔ P (.bool (S d))) (ht : S told = true) (hz : Ud 10 60 told) (ho : ∀ s, St s → okS (m__law_odd s [told]) (fun z s' => Ud 10 60 z ∧ St s') fun _ => False)
    {i : Nat} {s : PyData} {seen : List PyData} {c6 c7 c8 : Sl} (hs : St s) (hi : i < 3) (hl : seen.length ≤ i) (hq : ∀ x ∈ seen, Ud 10 60 x) : SV (seqS (setS 6 (callM m_guarded (consM (rdV 4) (consM (rdV 5) nilM)))) (seqS (ifS (orT (notT (tru (callM m__law_accepts (consM (rdV 4) (consM (rdV 5) (consM (rdV 6) nilM)))))) (tstM (op2 (isD not) (callM m_judge_guarded (consM (rdV 4) (consM (rdV 5) (consM (rdV 6) nilM)))) (ret (.bool true))))) (retS (ret (.bool false))) nxS) (seqS (setS 2 (op2 addD (slMV slcD 2 (someO (op1 negD (ret (.int 3)))) noneO) (lstM (consM (rdV 6) nilM)))) (forS (rng1 (op2 addD (ret (.int 8)) (op1 lenD (pkV 2)))) (bName 7) (seqS (setS 8 (ifM (tstM (op2V ltD 7 (ret (.int 8)))) (callS m__law_odd 1 (consM (rdV 6) nilM)) (op2V ixD 2 (op2V subD 7 (ret (.int 8))))))
    (ifS (notT (tru (callM (m__law_same 8) (consM (callM m_judge_guarded (consM (rdV 4) (consM (rdV 5) (consM (rdV 8) nilM)))) (consM (callM m__law_accepts (consM (rdV 4) (consM (rdV 5) (consM (rdV 8) nilM)))) nilM))))) (retS (ret (.bool false))) nxS)))))) [.dead, .own false s, .dat (.list seen), .dat (.int i), .dat x4, .dat x5, c6, c7, c8] fun o => ∃ g2, o = .nx g2 ∧ ∃ (s : PyData) (seen : List PyData) (e3 e4 e5 e6 e7 e8 : Sl), g2 = [.dead, .own false s, .dat (.list seen), e3, e4, e5, e6, e7, e8] ∧ St s ∧ seen.length ≤ i + 1 ∧ ∀ x ∈ seen, Ud 10 60 x := by
  refine SV.step (fun g => g = [.dead, .own false s, .dat (.list seen), .dat (.int i), .dat x4, .dat x5, .dat told, c7, c8]) ?_ ?_
  · constructor
    simp [hk]
  rintro _ rfl
  refine SV.step (fun g => g = [.dead, .own false s, .dat (.list seen), .dat (.int i), .dat x4, .dat x5, .dat told, c7, c8]) ?_ ?_
  · constructor
    simp [ha hz, hj hz, ht]
  rintro _ rfl
  have b1 : (cutD seen (some (-3)) none).length ≤ seen.length := cut_le
  have b2 := all_cut hq (lo := some (-3)) (hi := none)
  refine SV.step (fun g => ∃ seen : List PyData, (seen.length ≤ i + 1 ∧ ∀ x ∈ seen, Ud 10 60 x) ∧ g = [.dead, .own false s, .dat (.list seen), .dat (.int i), .dat x4, .dat x5, .dat told, c7, c8]) ?_ ?_
  · constructor
    simp [szl]
    refine ⟨by omega, by omega, fun x hx => ?_⟩
    rcases hx with hx | rfl
    · exact b2 x hx
    · exact hz
  rintro _ ⟨seen, ⟨hl, hq⟩, rfl⟩
  refine SV.rng (N := 8 + seen.length) (fun k g => ∃ (s : PyData) (ck ca : Sl), g = [.dead, .own false s, .dat (.list seen), .dat (.int i), .dat x4, .dat x5, .dat told, ck, ca] ∧ St s) (by omega) ?_ ⟨s, _, _, rfl, hs⟩ ?_ ?_
  · simp
  · rintro k hk _ ⟨s, ck, ca, rfl, hs⟩
    refine SV.step (fun g => ∃ (s : PyData) (asked : PyData) (ck : Sl), g = [.dead, .own false s, .dat (.list seen), .dat (.int i), .dat x4, .dat x5, .dat told, ck, .dat asked] ∧ Ud 10 60 asked ∧ St s) ?_ ?_
    · constructor
      simp
      by_cases c : (k : Int) < 8
      · simp [c]
        exact okS_imp (ho s hs) fun d s hs => ⟨s, d, ⟨rfl, rfl⟩, hs.1, hs.2⟩
      · simp [c]
        refine okO_at (by omega) (by omega) fun d hd => ?_
        exact ⟨s, d, ⟨rfl, rfl⟩, hq d hd, hs⟩
    · rintro _ ⟨s, asked, ck, rfl, hd, hs⟩
      constructor
      simp [ha hd, hj hd, same_bool]
      exact hs
  · rintro _ ⟨s, ck, ca, rfl, hs⟩
    exact ⟨_, rfl, s, seen, _, _, _, _, _, _, rfl, hs, hl, hq⟩
theorem law_sv (ns : List Int) : sv b_law (lawStart 9 ns) fun o => ∃ g, o = .rt (.bool true) g := by
  have e0 : lawStart 9 ns = [.dead, .own false (.list [.list (ns.map .int), .int 0, .int 0, .int 1]), .dead, .dead, .dead, .dead, .dead, .dead, .dead] := rfl
  rw [e0]
  have hs : St (.list [.list (ns.map .int), .int 0, .int 0, .int 1]) := ⟨ns, 0, 0, 1, rfl, by omega, by omega⟩
  generalize (PyData.list [.list (ns.map .int), .int 0, .int 0, .int 1]) = s at hs
  refine SV.h ?_
  unfold b_law
  refine SV.step (fun g => g = [.dead, .own false s, .dat (.list []), .dead, .dead, .dead, .dead, .dead, .dead]) ?_ ?_
  · constructor
    simp [szl]
  rintro _ rfl
  refine SV.step (fun g => ∃ (s : PyData) (seen : List PyData) (c3 c4 c5 c6 c7 c8 : Sl), g = [.dead, .own false s, .dat (.list seen), c3, c4, c5, c6, c7, c8] ∧ St s ∧ seen.length ≤ 3 ∧ ∀ x ∈ seen, Ud 10 60 x) ?_ ?_
  · refine SV.rng (N := 3) (fun i g => ∃ (s : PyData) (seen : List PyData) (c3 c4 c5 c6 c7 c8 : Sl), g = [.dead, .own false s, .dat (.list seen), c3, c4, c5, c6, c7, c8] ∧ St s ∧ seen.length ≤ i ∧ ∀ x ∈ seen, Ud 10 60 x) (by omega) ?_ ⟨s, [], _, _, _, _, _, _, rfl, hs, by simp, by simp⟩ ?_ ?_
    · simp
    · rintro i hi _ ⟨s, seen, c3, c4, c5, c6, c7, c8, rfl, hs, hl, hq⟩
      refine SV.step (fun g => ∃ (L : List Step) (s : PyData), g = [.dead, .own false s, .dat (.list seen), .dat (.int i), .dat (.tuple (L.map stD)), c5, c6, c7, c8] ∧ WN L ∧ St s) ?_ ?_
      · constructor
        simp [szl]
        refine next_run hs (by omega) (by omega) fun q s q0 q1 hs => ?_
        simp
        exact okS_imp (net_ok hs) fun d s ⟨⟨L, hw, _, e⟩, hs⟩ => ⟨L, s, ⟨rfl, by rw [e]⟩, hw, hs⟩
      rintro _ ⟨L, s, rfl, hn, hs⟩
      refine SV.step (fun g => ∃ (tk : List Str) (s : PyData), g = [.dead, .own false s, .dat (.list seen), .dat (.int i), .dat (.tuple (L.map stD)), .dat (.tuple (txs tk)), c6, c7, c8] ∧ tk.length ≤ 3 ∧ St s) ?_ ?_
      · constructor
        have to := tokens_ok hn hs (most := 3) (by omega)
        simp [szl]
        exact okS_imp to fun d s ⟨⟨tk, t1, t2, e⟩, hs⟩ => ⟨tk, s, ⟨rfl, by rw [e]⟩, t1, hs⟩
      rintro _ ⟨tk, s, rfl, t1, hs⟩
      obtain ⟨w, y, e, T⟩ := told_all (tk := tk) hn
      have lk := fun {P : PyData → Prop} {X : String → Prop} => guarded_ok hn (tk := tk) (by omega) (P := P) (X := X)
      rw [e] at lk
      exact turn_ok (told := .tuple [.str w, y]) (S := accB L tk) lk (fun hd => accepts_ok hn (by omega) hd) (fun hd => judge_ok hn (by omega) hd.1) T.a T.ud (fun s hs => T.odd hs) hs hi hl hq
    · exact fun g h => ⟨g, rfl, h⟩
  · rintro _ ⟨s, seen, c3, c4, c5, c6, c7, c8, rfl, hs, hl, hq⟩
    constructor
    simp
theorem law_true : ∀ ns : List Int, ns.length ≤ 63 → ∃ g, b_law (lawStart 9 ns) = .rt (.bool true) g := fun ns _ => by
  have h := law_sv ns
  unfold sv svO at h
  generalize b_law (lawStart 9 ns) = o at h ⊢
  cases o with
  | stuck => exact h.elim
  | _ => exact h
end Pf
open PySem PySem.Spec PyProof.Rows L2 Mi Pf in
theorem Pf.all_mk {l : PySem.W.OpenLaw} {w : World} {K : PySem.W.Frag} {h : Heap} {mg : Mg} {fa f0 f1 f2 f3 f4 f5 f6 f7 f8 f9 f10 f11 f12 f13 f14 f15 f16 f17 f18 f19 f20 f21 f22 f23 f24 f25 f26 f27 f28 f29 f30 f31 f32 C0 C1 : Addr} (X : K.In h) (G : h.Ns mainGlobals mg) (hfa : mg "law" = some (.ref fa))
    {od0 an0 od1 an1 od2 an2 od3 an3 od4 an4 od5 an5 od6 an6 od7 an7 od8 an8 od9 an9 od10 an10 od11 an11 od12 an12 od13 an13 od14 an14 od15 an15 od16 an16 od17 an17 od18 an18 od19 an19 od20 an20 od21 an21 od22 an22 od23 an23 od24 an24 od25 an25 od26 an26 od27 an27 od28 an28 od29 an29 od30 an30 od31 an31 od32 an32 : Option Addr} {sl0 sl1 sl2 sl3 sl4 sl5 sl6 sl7 sl8 sl9 sl10 sl11 sl12 sl13 sl14 sl15 sl16 sl17 sl18 sl19 sl20 sl21 sl22 sl23 sl24 sl25 sl26 sl27 sl28 sl29 sl30 sl31 sl32 : Array (Option Value)} {oc0 kV0 dc0 pm0 cd0 ct0 oc1 kV1 dc1 pm1 cd1 ct1 oc2 kV2 dc2 pm2 cd2 ct2 oc3 kV3 dc3 pm3 cd3 ct3 oc4 kV4 dc4 pm4 cd4 ct4 oc5 kV5 dc5 pm5 cd5 ct5 oc6 kV6 dc6 pm6 cd6 ct6 oc7 kV7 dc7 pm7 cd7 ct7 oc8 kV8 dc8 pm8 cd8 ct8 oc9 kV9 dc9 pm9 cd9 ct9 oc10 kV10 dc10 pm10 cd10 ct10 oc11 kV11 dc11 pm11 cd11 ct11 oc12 kV12 dc12 pm12 cd12 ct12 oc13 kV13 dc13 pm13 cd13 ct13 oc14 kV14 dc14 pm14 cd14 ct14 oc15 kV15 dc15 pm15 cd15 ct15 oc16 kV16 dc16 pm16 cd16 ct16 oc17 kV17 dc17 pm17 cd17 ct17 oc18 kV18 dc18 pm18 cd18 ct18 oc19 kV19 dc19 pm19 cd19 ct19 oc20 kV20 dc20 pm20 cd20 ct20 oc21 kV21 dc21 pm21 cd21 ct21 oc22 kV22 dc22 pm22 cd22 ct22 oc23 kV23 dc23 pm23 cd23 ct23 oc24 kV24 dc24 pm24 cd24 ct24 oc25 kV25 dc25 pm25 cd25 ct25 oc26 kV26 dc26 pm26 cd26 ct26 oc27 kV27 dc27 pm27 cd27 ct27 oc28 kV28 dc28 pm28 cd28 ct28 oc29 kV29 dc29 pm29 cd29 ct29 oc30 kV30 dc30 pm30 cd30 ct30 oc31 kV31 dc31 pm31 cd31 ct31 oc32 kV32 dc32 pm32 cd32 ct32 : Value}
    (a0 : PySem.W.nsIn K mainGlobals "is_told" = some (some (.ref f0))) (l0 : K.lookup f0 = some ⟨oc0, od0, .func (PySem.W.fnOf "is_told" "is_told" (defArgs s_is_told) (defBody s_is_told) (defScope s_is_told) .none kV0 dc0 pm0 an0 cd0 ct0), sl0⟩) (c0 : PySem.W.codeIn K cd0 "is_told" = true) (k0 : PySem.W.keepIn K (.ref f0) = true)
    (a1 : PySem.W.nsIn K mainGlobals "places_of" = some (some (.ref f1))) (l1 : K.lookup f1 = some ⟨oc1, od1, .func (PySem.W.fnOf "places_of" "places_of" (defArgs s_places_of) (defBody s_places_of) (defScope s_places_of) .none kV1 dc1 pm1 an1 cd1 ct1), sl1⟩) (c1 : PySem.W.codeIn K cd1 "places_of" = true) (k1 : PySem.W.keepIn K (.ref f1) = true)
    (a2 : PySem.W.nsIn K mainGlobals "check_net" = some (some (.ref f2))) (l2 : K.lookup f2 = some ⟨oc2, od2, .func (PySem.W.fnOf "check_net" "check_net" (defArgs s_check_net) (defBody s_check_net) (defScope s_check_net) .none kV2 dc2 pm2 an2 cd2 ct2), sl2⟩) (c2 : PySem.W.codeIn K cd2 "check_net" = true) (k2 : PySem.W.keepIn K (.ref f2) = true)
    (a3 : PySem.W.nsIn K mainGlobals "are_places_of" = some (some (.ref f3))) (l3 : K.lookup f3 = some ⟨oc3, od3, .func (PySem.W.fnOf "are_places_of" "are_places_of" (defArgs s_are_places_of) (defBody s_are_places_of) (defScope s_are_places_of) .none kV3 dc3 pm3 an3 cd3 ct3), sl3⟩) (c3 : PySem.W.codeIn K cd3 "are_places_of" = true) (k3 : PySem.W.keepIn K (.ref f3) = true)
    (a4 : PySem.W.nsIn K mainGlobals "fills" = some (some (.ref f4))) (l4 : K.lookup f4 = some ⟨oc4, od4, .func (PySem.W.fnOf "fills" "fills" (defArgs s_fills) (defBody s_fills) (defScope s_fills) .none kV4 dc4 pm4 an4 cd4 ct4), sl4⟩) (c4 : PySem.W.codeIn K cd4 "fills" = true) (k4 : PySem.W.keepIn K (.ref f4) = true)
    (a5 : PySem.W.nsIn K mainGlobals "drains" = some (some (.ref f5))) (l5 : K.lookup f5 = some ⟨oc5, od5, .func (PySem.W.fnOf "drains" "drains" (defArgs s_drains) (defBody s_drains) (defScope s_drains) .none kV5 dc5 pm5 an5 cd5 ct5), sl5⟩) (c5 : PySem.W.codeIn K cd5 "drains" = true) (k5 : PySem.W.keepIn K (.ref f5) = true)
    (a6 : PySem.W.nsIn K mainGlobals "largest" = some (some (.ref f6))) (l6 : K.lookup f6 = some ⟨oc6, od6, .func (PySem.W.fnOf "largest" "largest" (defArgs s_largest) (defBody s_largest) (defScope s_largest) .none kV6 dc6 pm6 an6 cd6 ct6), sl6⟩) (c6 : PySem.W.codeIn K cd6 "largest" = true) (k6 : PySem.W.keepIn K (.ref f6) = true)
    (a7 : PySem.W.nsIn K mainGlobals "is_among" = some (some (.ref f7))) (l7 : K.lookup f7 = some ⟨oc7, od7, .func (PySem.W.fnOf "is_among" "is_among" (defArgs s_is_among) (defBody s_is_among) (defScope s_is_among) .none kV7 dc7 pm7 an7 cd7 ct7), sl7⟩) (c7 : PySem.W.codeIn K cd7 "is_among" = true) (k7 : PySem.W.keepIn K (.ref f7) = true)
    (a8 : PySem.W.nsIn K mainGlobals "least_siphons" = some (some (.ref f8))) (l8 : K.lookup f8 = some ⟨oc8, od8, .func (PySem.W.fnOf "least_siphons" "least_siphons" (defArgs s_least_siphons) (defBody s_least_siphons) (defScope s_least_siphons) .none kV8 dc8 pm8 an8 cd8 ct8), sl8⟩) (c8 : PySem.W.codeIn K cd8 "least_siphons" = true) (k8 : PySem.W.keepIn K (.ref f8) = true)
    (a9 : PySem.W.nsIn K mainGlobals "check_few" = some (some (.ref f9))) (l9 : K.lookup f9 = some ⟨oc9, od9, .func (PySem.W.fnOf "check_few" "check_few" (defArgs s_check_few) (defBody s_check_few) (defScope s_check_few) .none kV9 dc9 pm9 an9 cd9 ct9), sl9⟩) (c9 : PySem.W.codeIn K cd9 "check_few" = true) (k9 : PySem.W.keepIn K (.ref f9) = true)
    (a10 : PySem.W.nsIn K mainGlobals "guarded" = some (some (.ref f10))) (l10 : K.lookup f10 = some ⟨oc10, od10, .func (PySem.W.fnOf "guarded" "guarded" (defArgs s_guarded) (defBody s_guarded) (defScope s_guarded) .none kV10 dc10 pm10 an10 cd10 ct10), sl10⟩) (c10 : PySem.W.codeIn K cd10 "guarded" = true) (k10 : PySem.W.keepIn K (.ref f10) = true)
    (a11 : PySem.W.nsIn K mainGlobals "judge_guarded" = some (some (.ref f11))) (l11 : K.lookup f11 = some ⟨oc11, od11, .func (PySem.W.fnOf "judge_guarded" "judge_guarded" (defArgs s_judge_guarded) (defBody s_judge_guarded) (defScope s_judge_guarded) .none kV11 dc11 pm11 an11 cd11 ct11), sl11⟩) (c11 : PySem.W.codeIn K cd11 "judge_guarded" = true) (k11 : PySem.W.keepIn K (.ref f11) = true)
    (a12 : PySem.W.nsIn K mainGlobals "_law_next" = some (some (.ref f12))) (l12 : K.lookup f12 = some ⟨oc12, od12, .func (PySem.W.fnOf "_law_next" "_law_next" (defArgs s__law_next) (defBody s__law_next) (defScope s__law_next) .none kV12 dc12 pm12 an12 cd12 ct12), sl12⟩) (c12 : PySem.W.codeIn K cd12 "_law_next" = true) (k12 : PySem.W.keepIn K (.ref f12) = true)
    (a13 : PySem.W.nsIn K mainGlobals "_law_same" = some (some (.ref f13))) (l13 : K.lookup f13 = some ⟨oc13, od13, .func (PySem.W.fnOf "_law_same" "_law_same" (defArgs s__law_same) (defBody s__law_same) (defScope s__law_same) .none kV13 dc13 pm13 an13 cd13 ct13), sl13⟩) (c13 : PySem.W.codeIn K cd13 "_law_same" = true) (k13 : PySem.W.keepIn K (.ref f13) = true)
    (a14 : PySem.W.nsIn K mainGlobals "_law_is" = some (some (.ref f14))) (l14 : K.lookup f14 = some ⟨oc14, od14, .func (PySem.W.fnOf "_law_is" "_law_is" (defArgs s__law_is) (defBody s__law_is) (defScope s__law_is) .none kV14 dc14 pm14 an14 cd14 ct14), sl14⟩) (c14 : PySem.W.codeIn K cd14 "_law_is" = true) (k14 : PySem.W.keepIn K (.ref f14) = true)
    (a15 : PySem.W.nsIn K mainGlobals "_law_are_texts" = some (some (.ref f15))) (l15 : K.lookup f15 = some ⟨oc15, od15, .func (PySem.W.fnOf "_law_are_texts" "_law_are_texts" (defArgs s__law_are_texts) (defBody s__law_are_texts) (defScope s__law_are_texts) .none kV15 dc15 pm15 an15 cd15 ct15), sl15⟩) (c15 : PySem.W.codeIn K cd15 "_law_are_texts" = true) (k15 : PySem.W.keepIn K (.ref f15) = true)
    (a16 : PySem.W.nsIn K mainGlobals "_law_changed" = some (some (.ref f16))) (l16 : K.lookup f16 = some ⟨oc16, od16, .func (PySem.W.fnOf "_law_changed" "_law_changed" (defArgs s__law_changed) (defBody s__law_changed) (defScope s__law_changed) .none kV16 dc16 pm16 an16 cd16 ct16), sl16⟩) (c16 : PySem.W.codeIn K cd16 "_law_changed" = true) (k16 : PySem.W.keepIn K (.ref f16) = true)
    (a17 : PySem.W.nsIn K mainGlobals "_law_ints" = some (some (.ref f17))) (l17 : K.lookup f17 = some ⟨oc17, od17, .func (PySem.W.fnOf "_law_ints" "_law_ints" (defArgs s__law_ints) (defBody s__law_ints) (defScope s__law_ints) .none kV17 dc17 pm17 an17 cd17 ct17), sl17⟩) (c17 : PySem.W.codeIn K cd17 "_law_ints" = true) (k17 : PySem.W.keepIn K (.ref f17) = true)
    (a18 : PySem.W.nsIn K mainGlobals "_law_exchanged" = some (some (.ref f18))) (l18 : K.lookup f18 = some ⟨oc18, od18, .func (PySem.W.fnOf "_law_exchanged" "_law_exchanged" (defArgs s__law_exchanged) (defBody s__law_exchanged) (defScope s__law_exchanged) .none kV18 dc18 pm18 an18 cd18 ct18), sl18⟩) (c18 : PySem.W.codeIn K cd18 "_law_exchanged" = true) (k18 : PySem.W.keepIn K (.ref f18) = true)
    (a19 : PySem.W.nsIn K mainGlobals "_law_cut" = some (some (.ref f19))) (l19 : K.lookup f19 = some ⟨oc19, od19, .func (PySem.W.fnOf "_law_cut" "_law_cut" (defArgs s__law_cut) (defBody s__law_cut) (defScope s__law_cut) .none kV19 dc19 pm19 an19 cd19 ct19), sl19⟩) (c19 : PySem.W.codeIn K cd19 "_law_cut" = true) (k19 : PySem.W.keepIn K (.ref f19) = true)
    (a20 : PySem.W.nsIn K mainGlobals "_law_turned_about" = some (some (.ref f20))) (l20 : K.lookup f20 = some ⟨oc20, od20, .func (PySem.W.fnOf "_law_turned_about" "_law_turned_about" (defArgs s__law_turned_about) (defBody s__law_turned_about) (defScope s__law_turned_about) .none kV20 dc20 pm20 an20 cd20 ct20), sl20⟩) (c20 : PySem.W.codeIn K cd20 "_law_turned_about" = true) (k20 : PySem.W.keepIn K (.ref f20) = true)
    (a21 : PySem.W.nsIn K mainGlobals "_law_odd" = some (some (.ref f21))) (l21 : K.lookup f21 = some ⟨oc21, od21, .func (PySem.W.fnOf "_law_odd" "_law_odd" (defArgs s__law_odd) (defBody s__law_odd) (defScope s__law_odd) .none kV21 dc21 pm21 an21 cd21 ct21), sl21⟩) (c21 : PySem.W.codeIn K cd21 "_law_odd" = true) (k21 : PySem.W.keepIn K (.ref f21) = true)
    (a22 : PySem.W.nsIn K mainGlobals "_law_are_pairs_in" = some (some (.ref f22))) (l22 : K.lookup f22 = some ⟨oc22, od22, .func (PySem.W.fnOf "_law_are_pairs_in" "_law_are_pairs_in" (defArgs s__law_are_pairs_in) (defBody s__law_are_pairs_in) (defScope s__law_are_pairs_in) .none kV22 dc22 pm22 an22 cd22 ct22), sl22⟩) (c22 : PySem.W.codeIn K cd22 "_law_are_pairs_in" = true) (k22 : PySem.W.keepIn K (.ref f22) = true)
    (a23 : PySem.W.nsIn K mainGlobals "_law_net" = some (some (.ref f23))) (l23 : K.lookup f23 = some ⟨oc23, od23, .func (PySem.W.fnOf "_law_net" "_law_net" (defArgs s__law_net) (defBody s__law_net) (defScope s__law_net) .none kV23 dc23 pm23 an23 cd23 ct23), sl23⟩) (c23 : PySem.W.codeIn K cd23 "_law_net" = true) (k23 : PySem.W.keepIn K (.ref f23) = true)
    (a24 : PySem.W.nsIn K mainGlobals "_law_places" = some (some (.ref f24))) (l24 : K.lookup f24 = some ⟨oc24, od24, .func (PySem.W.fnOf "_law_places" "_law_places" (defArgs s__law_places) (defBody s__law_places) (defScope s__law_places) .none kV24 dc24 pm24 an24 cd24 ct24), sl24⟩) (c24 : PySem.W.codeIn K cd24 "_law_places" = true) (k24 : PySem.W.keepIn K (.ref f24) = true)
    (a25 : PySem.W.nsIn K mainGlobals "_law_tokens" = some (some (.ref f25))) (l25 : K.lookup f25 = some ⟨oc25, od25, .func (PySem.W.fnOf "_law_tokens" "_law_tokens" (defArgs s__law_tokens) (defBody s__law_tokens) (defScope s__law_tokens) .none kV25 dc25 pm25 an25 cd25 ct25), sl25⟩) (c25 : PySem.W.codeIn K cd25 "_law_tokens" = true) (k25 : PySem.W.keepIn K (.ref f25) = true)
    (a26 : PySem.W.nsIn K mainGlobals "_law_is_siphon" = some (some (.ref f26))) (l26 : K.lookup f26 = some ⟨oc26, od26, .func (PySem.W.fnOf "_law_is_siphon" "_law_is_siphon" (defArgs s__law_is_siphon) (defBody s__law_is_siphon) (defScope s__law_is_siphon) .none kV26 dc26 pm26 an26 cd26 ct26), sl26⟩) (c26 : PySem.W.codeIn K cd26 "_law_is_siphon" = true) (k26 : PySem.W.keepIn K (.ref f26) = true)
    (a27 : PySem.W.nsIn K mainGlobals "_law_turned_net" = some (some (.ref f27))) (l27 : K.lookup f27 = some ⟨oc27, od27, .func (PySem.W.fnOf "_law_turned_net" "_law_turned_net" (defArgs s__law_turned_net) (defBody s__law_turned_net) (defScope s__law_turned_net) .none kV27 dc27 pm27 an27 cd27 ct27), sl27⟩) (c27 : PySem.W.codeIn K cd27 "_law_turned_net" = true) (k27 : PySem.W.keepIn K (.ref f27) = true)
    (a28 : PySem.W.nsIn K mainGlobals "_law_parts_of" = some (some (.ref f28))) (l28 : K.lookup f28 = some ⟨oc28, od28, .func (PySem.W.fnOf "_law_parts_of" "_law_parts_of" (defArgs s__law_parts_of) (defBody s__law_parts_of) (defScope s__law_parts_of) .none kV28 dc28 pm28 an28 cd28 ct28), sl28⟩) (c28 : PySem.W.codeIn K cd28 "_law_parts_of" = true) (k28 : PySem.W.keepIn K (.ref f28) = true)
    (a29 : PySem.W.nsIn K mainGlobals "_law_largest" = some (some (.ref f29))) (l29 : K.lookup f29 = some ⟨oc29, od29, .func (PySem.W.fnOf "_law_largest" "_law_largest" (defArgs s__law_largest) (defBody s__law_largest) (defScope s__law_largest) .none kV29 dc29 pm29 an29 cd29 ct29), sl29⟩) (c29 : PySem.W.codeIn K cd29 "_law_largest" = true) (k29 : PySem.W.keepIn K (.ref f29) = true)
    (a30 : PySem.W.nsIn K mainGlobals "_law_least" = some (some (.ref f30))) (l30 : K.lookup f30 = some ⟨oc30, od30, .func (PySem.W.fnOf "_law_least" "_law_least" (defArgs s__law_least) (defBody s__law_least) (defScope s__law_least) .none kV30 dc30 pm30 an30 cd30 ct30), sl30⟩) (c30 : PySem.W.codeIn K cd30 "_law_least" = true) (k30 : PySem.W.keepIn K (.ref f30) = true)
    (a31 : PySem.W.nsIn K mainGlobals "_law_accepts" = some (some (.ref f31))) (l31 : K.lookup f31 = some ⟨oc31, od31, .func (PySem.W.fnOf "_law_accepts" "_law_accepts" (defArgs s__law_accepts) (defBody s__law_accepts) (defScope s__law_accepts) .none kV31 dc31 pm31 an31 cd31 ct31), sl31⟩) (c31 : PySem.W.codeIn K cd31 "_law_accepts" = true) (k31 : PySem.W.keepIn K (.ref f31) = true)
    (a32 : PySem.W.nsIn K mainGlobals "law" = some (some (.ref f32))) (l32 : K.lookup f32 = some ⟨oc32, od32, .func (PySem.W.fnOf "law" "law" (defArgs s_law) (defBody s_law) (defScope s_law) .none kV32 dc32 pm32 an32 cd32 ct32), sl32⟩) (c32 : PySem.W.codeIn K cd32 "law" = true) (k32 : PySem.W.keepIn K (.ref f32) = true)
    (z0 : PySem.W.nsIn K mainGlobals "bool" = some none)
    (z1 : PySem.W.nsIn K mainGlobals "int" = some none)
    (z2 : PySem.W.nsIn K mainGlobals "isinstance" = some none)
    (z3 : PySem.W.nsIn K mainGlobals "len" = some none)
    (z4 : PySem.W.nsIn K mainGlobals "list" = some none)
    (z5 : PySem.W.nsIn K mainGlobals "range" = some none)
    (z6 : PySem.W.nsIn K mainGlobals "set" = some none)
    (z7 : PySem.W.nsIn K mainGlobals "sorted" = some none)
    (z8 : PySem.W.nsIn K mainGlobals "str" = some none)
    (z9 : PySem.W.nsIn K mainGlobals "tuple" = some none)
    (gC0 : PySem.W.nsIn K mainGlobals "TooWide" = some (some (.ref C0))) (kC0 : PySem.W.keepIn K (.ref C0) = true) (sB0 : PySem.W.subIn K (.ref C0) (.type "BaseException") = some true) (tC0 : PySem.W.typeIn K (.ref C0) = some (.type "type")) (xI0 : PySem.W.excIn K C0 [.type "ValueError", .type "Exception", .type "BaseException", .type "object"] "ValueError.__new__" = true)
    (gC1 : PySem.W.nsIn K mainGlobals "UnfitNet" = some (some (.ref C1))) (kC1 : PySem.W.keepIn K (.ref C1) = true) (sB1 : PySem.W.subIn K (.ref C1) (.type "BaseException") = some true) (tC1 : PySem.W.typeIn K (.ref C1) = some (.type "type")) (xI1 : PySem.W.excIn K C1 [.type "ValueError", .type "Exception", .type "BaseException", .type "object"] "ValueError.__new__" = true)
    : ∃ fd : FuncData, (∀ (s : Shared) (u : Value), BindsTo s fd ⟨[u], []⟩ [("script", u)]) ∧ ∀ base : Heap, K.In base → base.Ns mainGlobals mg → FnOk l.prog w K mg base (L2.CX l.prog w) 13 fa fd ["script"] (spLaw K) := by
  have T : Tp K mg := {
    d_is_told := Df.mk' G X a0 l0 c0 k0 fun _ _ _ _ _ _ us hl => match us, hl with | [_, _, _], _ => rfl
    d_places_of := Df.mk' G X a1 l1 c1 k1 fun _ _ _ _ _ _ us hl => match us, hl with | [_, _], _ => rfl
    d_check_net := Df.mk' G X a2 l2 c2 k2 fun _ _ _ _ _ _ us hl => match us, hl with | [_, _], _ => rfl
    d_are_places_of := Df.mk' G X a3 l3 c3 k3 fun _ _ _ _ _ _ us hl => match us, hl with | [_, _], _ => rfl
    d_fills := Df.mk' G X a4 l4 c4 k4 fun _ _ _ _ _ _ us hl => match us, hl with | [_, _], _ => rfl
    d_drains := Df.mk' G X a5 l5 c5 k5 fun _ _ _ _ _ _ us hl => match us, hl with | [_, _], _ => rfl
    d_largest := Df.mk' G X a6 l6 c6 k6 fun _ _ _ _ _ _ us hl => match us, hl with | [_, _, _], _ => rfl
    d_is_among := Df.mk' G X a7 l7 c7 k7 fun _ _ _ _ _ _ us hl => match us, hl with | [_, _], _ => rfl
    d_least_siphons := Df.mk' G X a8 l8 c8 k8 fun _ _ _ _ _ _ us hl => match us, hl with | [_], _ => rfl
    d_check_few := Df.mk' G X a9 l9 c9 k9 fun _ _ _ _ _ _ us hl => match us, hl with | [_], _ => rfl
    d_guarded := Df.mk' G X a10 l10 c10 k10 fun _ _ _ _ _ _ us hl => match us, hl with | [_, _], _ => rfl
    d_judge_guarded := Df.mk' G X a11 l11 c11 k11 fun _ _ _ _ _ _ us hl => match us, hl with | [_, _, _], _ => rfl
    d__law_next := Df.mk' G X a12 l12 c12 k12 fun _ _ _ _ _ _ us hl => match us, hl with | [_, _], _ => rfl
    d__law_same := Df.mk' G X a13 l13 c13 k13 fun _ _ _ _ _ _ us hl => match us, hl with | [_, _], _ => rfl
    d__law_is := Df.mk' G X a14 l14 c14 k14 fun _ _ _ _ _ _ us hl => match us, hl with | [_, _, _], _ => rfl
    d__law_are_texts := Df.mk' G X a15 l15 c15 k15 fun _ _ _ _ _ _ us hl => match us, hl with | [_], _ => rfl
    d__law_changed := Df.mk' G X a16 l16 c16 k16 fun _ _ _ _ _ _ us hl => match us, hl with | [_, _], _ => rfl
    d__law_ints := Df.mk' G X a17 l17 c17 k17 fun _ _ _ _ _ _ us hl => match us, hl with | [_], _ => rfl
    d__law_exchanged := Df.mk' G X a18 l18 c18 k18 fun _ _ _ _ _ _ us hl => match us, hl with | [_, _, _], _ => rfl
    d__law_cut := Df.mk' G X a19 l19 c19 k19 fun _ _ _ _ _ _ us hl => match us, hl with | [_, _], _ => rfl
    d__law_turned_about := Df.mk' G X a20 l20 c20 k20 fun _ _ _ _ _ _ us hl => match us, hl with | [_, _], _ => rfl
    d__law_odd := Df.mk' G X a21 l21 c21 k21 fun _ _ _ _ _ _ us hl => match us, hl with | [_, _], _ => rfl
    d__law_are_pairs_in := Df.mk' G X a22 l22 c22 k22 fun _ _ _ _ _ _ us hl => match us, hl with | [_, _], _ => rfl
    d__law_net := Df.mk' G X a23 l23 c23 k23 fun _ _ _ _ _ _ us hl => match us, hl with | [_, _], _ => rfl
    d__law_places := Df.mk' G X a24 l24 c24 k24 fun _ _ _ _ _ _ us hl => match us, hl with | [_, _], _ => rfl
    d__law_tokens := Df.mk' G X a25 l25 c25 k25 fun _ _ _ _ _ _ us hl => match us, hl with | [_, _, _], _ => rfl
    d__law_is_siphon := Df.mk' G X a26 l26 c26 k26 fun _ _ _ _ _ _ us hl => match us, hl with | [_, _], _ => rfl
    d__law_turned_net := Df.mk' G X a27 l27 c27 k27 fun _ _ _ _ _ _ us hl => match us, hl with | [_], _ => rfl
    d__law_parts_of := Df.mk' G X a28 l28 c28 k28 fun _ _ _ _ _ _ us hl => match us, hl with | [_], _ => rfl
    d__law_largest := Df.mk' G X a29 l29 c29 k29 fun _ _ _ _ _ _ us hl => match us, hl with | [_, _], _ => rfl
    d__law_least := Df.mk' G X a30 l30 c30 k30 fun _ _ _ _ _ _ us hl => match us, hl with | [_], _ => rfl
    d__law_accepts := Df.mk' G X a31 l31 c31 k31 fun _ _ _ _ _ _ us hl => match us, hl with | [_, _, _], _ => rfl
    d_law := Df.mk' G X a32 l32 c32 k32 fun _ _ _ _ _ _ us hl => match us, hl with | [_], _ => rfl
    z_bool := PySem.W.mg_none_of X G z0
    z_int := PySem.W.mg_none_of X G z1
    z_isinstance := PySem.W.mg_none_of X G z2
    z_len := PySem.W.mg_none_of X G z3
    z_list := PySem.W.mg_none_of X G z4
    z_range := PySem.W.mg_none_of X G z5
    z_set := PySem.W.mg_none_of X G z6
    z_sorted := PySem.W.mg_none_of X G z7
    z_str := PySem.W.mg_none_of X G z8
    z_tuple := PySem.W.mg_none_of X G z9
    C_TooWide := C0
    t_TooWide := ⟨PySem.W.mg_of X G gC0, kC0, sB0, tC0⟩
    x_TooWide := xI0
    C_UnfitNet := C1
    t_UnfitNet := ⟨PySem.W.mg_of X G gC1, kC1, sB1, tC1⟩
    x_UnfitNet := xI1
  }
  have e := hfa.symm.trans T.d_law.g
  have e2 : fa = T.d_law.f := by cases e; rfl
  subst e2
  have b := T.d_law.b
  refine ⟨T.d_law.fd, fun s u => ?_, fun base _ _ => ok_law (K := ⟨K, w⟩) T law_true⟩
  obtain ⟨oc, od, kV, doc, pm, an, cdv, ct, osl, e, lk, hc⟩ := T.d_law.F.ex
  rw [e]
  exact .of_eq rfl
open PySem PySem.W PyProof.Rows in
set_option maxRecDepth 100000 in
set_option maxHeartbeats 0 in
theorem PySem.Challenge.cw_netwhole_k45_siphons_with_marked_traps_holds : PySem.Challenge.rw_netwhole_k45_siphons_with_marked_traps.Holds := by
  w_on; o_law; k_head; (case hw => w_witness2)
  k_fill
  refine Mi.walkLaw (l := PySem.Challenge.rw_netwhole_k45_siphons_with_marked_traps) (k := 13) ⟨rfl, by decide, by decide⟩ rfl rfl (fun w h Y => PySem.W.kIn_of Y) ?F
  case F =>
    intro w mg fa h KX G hmg
    refine' Pf.all_mk KX G hmg ?a0 ?l0 ?c0 ?k0 ?a1 ?l1 ?c1 ?k1 ?a2 ?l2 ?c2 ?k2 ?a3 ?l3 ?c3 ?k3 ?a4 ?l4 ?c4 ?k4 ?a5 ?l5 ?c5 ?k5 ?a6 ?l6 ?c6 ?k6 ?a7 ?l7 ?c7 ?k7 ?a8 ?l8 ?c8 ?k8 ?a9 ?l9 ?c9 ?k9 ?a10 ?l10 ?c10 ?k10 ?a11 ?l11 ?c11 ?k11 ?a12 ?l12 ?c12 ?k12 ?a13 ?l13 ?c13 ?k13 ?a14 ?l14 ?c14 ?k14 ?a15 ?l15 ?c15 ?k15 ?a16 ?l16 ?c16 ?k16 ?a17 ?l17 ?c17 ?k17 ?a18 ?l18 ?c18 ?k18 ?a19 ?l19 ?c19 ?k19 ?a20 ?l20 ?c20 ?k20 ?a21 ?l21 ?c21 ?k21 ?a22 ?l22 ?c22 ?k22 ?a23 ?l23 ?c23 ?k23 ?a24 ?l24 ?c24 ?k24 ?a25 ?l25 ?c25 ?k25 ?a26 ?l26 ?c26 ?k26 ?a27 ?l27 ?c27 ?k27 ?a28 ?l28 ?c28 ?k28 ?a29 ?l29 ?c29 ?k29 ?a30 ?l30 ?c30 ?k30 ?a31 ?l31 ?c31 ?k31 ?a32 ?l32 ?c32 ?k32 ?z0 ?z1 ?z2 ?z3 ?z4 ?z5 ?z6 ?z7 ?z8 ?z9 ?gC0 ?kC0 ?sB0 ?tC0 ?xI0 ?gC1 ?kC1 ?sB1 ?tC1 ?xI1
    (case a0 => k_is)
    (case l0 => k_is)
    (case c0 => k_is)
    (case k0 => k_is)
    (case a1 => k_is)
    (case l1 => k_is)
    (case c1 => k_is)
    (case k1 => k_is)
    (case a2 => k_is)
    (case l2 => k_is)
    (case c2 => k_is)
    (case k2 => k_is)
    (case a3 => k_is)
    (case l3 => k_is)
    (case c3 => k_is)
    (case k3 => k_is)
    (case a4 => k_is)
    (case l4 => k_is)
    (case c4 => k_is)
    (case k4 => k_is)
    (case a5 => k_is)
    (case l5 => k_is)
    (case c5 => k_is)
    (case k5 => k_is)
    (case a6 => k_is)
    (case l6 => k_is)
    (case c6 => k_is)
    (case k6 => k_is)
    (case a7 => k_is)
    (case l7 => k_is)
    (case c7 => k_is)
    (case k7 => k_is)
    (case a8 => k_is)
    (case l8 => k_is)
    (case c8 => k_is)
    (case k8 => k_is)
    (case a9 => k_is)
    (case l9 => k_is)
    (case c9 => k_is)
    (case k9 => k_is)
    (case a10 => k_is)
    (case l10 => k_is)
    (case c10 => k_is)
    (case k10 => k_is)
    (case a11 => k_is)
    (case l11 => k_is)
    (case c11 => k_is)
    (case k11 => k_is)
    (case a12 => k_is)
    (case l12 => k_is)
    (case c12 => k_is)
    (case k12 => k_is)
    (case a13 => k_is)
    (case l13 => k_is)
    (case c13 => k_is)
    (case k13 => k_is)
    (case a14 => k_is)
    (case l14 => k_is)
    (case c14 => k_is)
    (case k14 => k_is)
    (case a15 => k_is)
    (case l15 => k_is)
    (case c15 => k_is)
    (case k15 => k_is)
    (case a16 => k_is)
    (case l16 => k_is)
    (case c16 => k_is)
    (case k16 => k_is)
    (case a17 => k_is)
    (case l17 => k_is)
    (case c17 => k_is)
    (case k17 => k_is)
    (case a18 => k_is)
    (case l18 => k_is)
    (case c18 => k_is)
    (case k18 => k_is)
    (case a19 => k_is)
    (case l19 => k_is)
    (case c19 => k_is)
    (case k19 => k_is)
    (case a20 => k_is)
    (case l20 => k_is)
    (case c20 => k_is)
    (case k20 => k_is)
    (case a21 => k_is)
    (case l21 => k_is)
    (case c21 => k_is)
    (case k21 => k_is)
    (case a22 => k_is)
    (case l22 => k_is)
    (case c22 => k_is)
    (case k22 => k_is)
    (case a23 => k_is)
    (case l23 => k_is)
    (case c23 => k_is)
    (case k23 => k_is)
    (case a24 => k_is)
    (case l24 => k_is)
    (case c24 => k_is)
    (case k24 => k_is)
    (case a25 => k_is)
    (case l25 => k_is)
    (case c25 => k_is)
    (case k25 => k_is)
    (case a26 => k_is)
    (case l26 => k_is)
    (case c26 => k_is)
    (case k26 => k_is)
    (case a27 => k_is)
    (case l27 => k_is)
    (case c27 => k_is)
    (case k27 => k_is)
    (case a28 => k_is)
    (case l28 => k_is)
    (case c28 => k_is)
    (case k28 => k_is)
    (case a29 => k_is)
    (case l29 => k_is)
    (case c29 => k_is)
    (case k29 => k_is)
    (case a30 => k_is)
    (case l30 => k_is)
    (case c30 => k_is)
    (case k30 => k_is)
    (case a31 => k_is)
    (case l31 => k_is)
    (case c31 => k_is)
    (case k31 => k_is)
    (case a32 => k_is)
    (case l32 => k_is)
    (case c32 => k_is)
    (case k32 => k_is)
    (case z0 => k_is)
    (case z1 => k_is)
    (case z2 => k_is)
    (case z3 => k_is)
    (case z4 => k_is)
    (case z5 => k_is)
    (case z6 => k_is)
    (case z7 => k_is)
    (case z8 => k_is)
    (case z9 => k_is)
    (case gC0 => k_is)
    (case kC0 => k_is)
    (case sB0 => k_is)
    (case tC0 => k_is)
    (case xI0 => k_exc)
    (case gC1 => k_is)
    (case kC1 => k_is)
    (case sB1 => k_is)
    (case tC1 => k_is)
    (case xI1 => k_exc)
