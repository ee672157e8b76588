import PyProof.Rows.All
import Wide.All
import OpenK.AllK
import Wide.FinOn
import KE.DataEq
import KE.KEqNest
import PyProof.NeKinds
import HandS.ForMost
import HandS.More
import HandS.Wide
import HandS.TupAny
import HandS.Style
import HandS.Conv
import KE.SortData
import HandS.Small
import HandS.IsInst
import HandS.Strs
import KE.DataFind
import HandS.Star
import KE.KItemsList
import PyProof.ReprBulk
import PySem.Challenge.RW_belowall_k81_save_tapes
set_option Elab.async false
set_option linter.all false
set_option maxRecDepth 100000
set_option maxHeartbeats 1000000
/-! VQ0: a dict against a value of another kind is not equal to it. -/
namespace VQ
open PySem PySem.SeqAt PySem.Spec
/-- a dict's object -/
def IsDict (s : Shared) (a : Addr) : Prop := ∃ o es n, s.heap.get? a = some o ∧ o.cls = .type "dict" ∧ o.data = .dict es n
section
variable {prog : Program} {w : World} {A : Around} {s : Shared}
theorem IsDict.typeIs {a : Addr} (h : IsDict s a) : s.TypeIs (.ref a) "dict" := by
  obtain ⟨o, es, n, h1, h2, _⟩ := h; exact ⟨_, h1, h2⟩
/-- the slot answers NotImplemented -/
def Decl (prog : Program) (w : World) (A : Around) (s : Shared) (id : String) (a b : Value) : Prop := ∀ (E : Value → Shared → Prop) (Q : Value → Shared → Prop), Q .notImplemented s → wpAny (model prog w) A (call (.builtin id) [a, b]) Q E s
theorem decl_dict_eq {a : Addr} {b : Value} {T : String} (h : IsDict s a) (hb : s.TypeIs b T) (hT : isSubtype (.type T) (.type "dict") = pure false) : Decl prog w A s "dict.__eq__" (.ref a) b := by
  intro E Q hq
  refine wpAny_call_entry PySem.F.slot_dict_eq h.typeIs PySem.F.entry_dict_eq ?_ (PySem.F.args_dict_eq_2 _ _)
  show wpAny _ _ (Builtin.Dict.dictSlotArgs "__eq__" ⟨[.ref a, b], []⟩ >>= _) _ _ s
  refine wpAny_bind (?_ : wpAny _ _ (Builtin.Dict.dictSlotArgs _ _) _ _ _)
  unfold Builtin.Dict.dictSlotArgs
  refine wpAny_bind (wpAny_notOrdered_dict h.typeIs (?_ : wpAny _ _ (pure (Value.ref a, b)) _ _ s))
  refine wpAny_pure (wpAny_bind (wpAny_isInstance (T := T) hb hT ?_))
  simp only [Bool.not_false, if_true]
  exact wpAny_bind (wpAny_rule (wpAny_pure ⟨_, rfl, hq⟩))
theorem decl_dict_ne {a : Addr} {b : Value} {T : String} (h : IsDict s a) (hb : s.TypeIs b T) (hT : isSubtype (.type T) (.type "dict") = pure false) : Decl prog w A s "dict.__ne__" (.ref a) b := by
  intro E Q hq
  refine wpAny_call_entry PySem.F.slot_dict_ne h.typeIs PySem.F.entry_dict_ne ?_ (PySem.F.args_dict_ne_2 _ _)
  show wpAny _ _ (Builtin.Dict.dictSlotArgs "__ne__" ⟨[.ref a, b], []⟩ >>= _) _ _ s
  refine wpAny_bind (?_ : wpAny _ _ (Builtin.Dict.dictSlotArgs _ _) _ _ _)
  unfold Builtin.Dict.dictSlotArgs
  refine wpAny_bind (wpAny_notOrdered_dict h.typeIs (?_ : wpAny _ _ (pure (Value.ref a, b)) _ _ s))
  refine wpAny_pure (wpAny_bind (wpAny_isInstance (T := T) hb hT ?_))
  simp only [Bool.not_false, if_true]
  exact wpAny_bind (wpAny_rule (wpAny_pure ⟨_, rfl, hq⟩))
/-- a dict's object, its fields -/
abbrev dOb (es : Array DictEntry) (n : Nat) (dd : Option Addr) (sl : Array (Option Value)) : Obj := ⟨.type "dict", dd, .dict es n, sl⟩
abbrev sOb (T : String) (vs : Array Value) (n : Nat) (dd : Option Addr) (sl : Array (Option Value)) : Obj := ⟨.type T, dd, .seq vs n, sl⟩
theorem m_bool_eq {b : Bool} {l : Addr} {es : Array DictEntry} {n : Nat} {dd : Option Addr} {sl : Array (Option Value)} :
    Meets (Builtin.«int.__eq__» ⟨[.bool b, .ref l], []⟩) (fun _ R s => s.heap.get? l = some (dOb es n dd sl) ∧ R (.ok (.ret .notImplemented)) s) :=
  .of_wp fun prog w A R s h => by
    obtain ⟨hp, g, d, tk, os⟩ := s
    obtain ⟨hl, h⟩ := h
    wp_walk using AutoSeq1.wpAny_loadPart' hl, wpAny_load hl
    exact ⟨_, rfl, h⟩
theorem m_int_eq {b : Int} {u : Tok} {l : Addr} {es : Array DictEntry} {n : Nat} {dd : Option Addr} {sl : Array (Option Value)} :
    Meets (Builtin.«int.__eq__» ⟨[.int b u, .ref l], []⟩) (fun _ R s => s.heap.get? l = some (dOb es n dd sl) ∧ R (.ok (.ret .notImplemented)) s) :=
  .of_wp fun prog w A R s h => by
    obtain ⟨hp, g, d, tk, os⟩ := s
    obtain ⟨hl, h⟩ := h
    wp_walk using AutoSeq1.wpAny_loadPart' hl, wpAny_load hl
    exact ⟨_, rfl, h⟩
theorem m_str_eq {b : Str} {u : Tok} {l : Addr} {es : Array DictEntry} {n : Nat} {dd : Option Addr} {sl : Array (Option Value)} :
    Meets (Builtin.«str.__eq__» ⟨[.str b u, .ref l], []⟩) (fun _ R s => s.heap.get? l = some (dOb es n dd sl) ∧ R (.ok (.ret .notImplemented)) s) :=
  .of_wp fun prog w A R s h => by
    obtain ⟨hp, g, d, tk, os⟩ := s
    obtain ⟨hl, h⟩ := h
    wp_walk using AutoSeq1.wpAny_loadPart' hl, wpAny_load hl
    exact ⟨_, rfl, h⟩
theorem m_list_eq {k : Addr} {vs : Array Value} {n2 : Nat} {d2 : Option Addr} {s2 : Array (Option Value)} {l : Addr} {es : Array DictEntry} {n : Nat} {dd : Option Addr} {sl : Array (Option Value)} :
    Meets (Builtin.«list.__eq__» ⟨[.ref k, .ref l], []⟩) (fun _ R s => s.heap.get? k = some (sOb "list" vs n2 d2 s2) ∧ s.heap.get? l = some (dOb es n dd sl) ∧ R (.ok (.ret .notImplemented)) s) :=
  .of_wp fun prog w A R s h => by
    obtain ⟨hp, g, d, tk, os⟩ := s
    obtain ⟨hk, hl, h⟩ := h
    have f1 := PySem.F.sub_dict_list; wp_walk using AutoSeq1.wpAny_loadPart' hl, wpAny_load hl, AutoSeq1.wpAny_loadPart' hk
    exact ⟨_, rfl, h⟩
theorem m_tuple_eq {k : Addr} {vs : Array Value} {n2 : Nat} {d2 : Option Addr} {s2 : Array (Option Value)} {l : Addr} {es : Array DictEntry} {n : Nat} {dd : Option Addr} {sl : Array (Option Value)} :
    Meets (Builtin.«tuple.__eq__» ⟨[.ref k, .ref l], []⟩) (fun _ R s => s.heap.get? k = some (sOb "tuple" vs n2 d2 s2) ∧ s.heap.get? l = some (dOb es n dd sl) ∧ R (.ok (.ret .notImplemented)) s) :=
  .of_wp fun prog w A R s h => by
    obtain ⟨hp, g, d, tk, os⟩ := s
    obtain ⟨hk, hl, h⟩ := h
    have f1 := PySem.F.sub_dict_tuple; wp_walk using AutoSeq1.wpAny_loadPart' hl, wpAny_load hl, AutoSeq1.wpAny_loadPart' hk
    exact ⟨_, rfl, h⟩
theorem m_bool_ne {b : Bool} {l : Addr} {es : Array DictEntry} {n : Nat} {dd : Option Addr} {sl : Array (Option Value)} :
    Meets (Builtin.«int.__ne__» ⟨[.bool b, .ref l], []⟩) (fun _ R s => s.heap.get? l = some (dOb es n dd sl) ∧ R (.ok (.ret .notImplemented)) s) :=
  .of_wp fun prog w A R s h => by
    obtain ⟨hp, g, d, tk, os⟩ := s
    obtain ⟨hl, h⟩ := h
    wp_walk using AutoSeq1.wpAny_loadPart' hl, wpAny_load hl
    exact ⟨_, rfl, h⟩
theorem m_int_ne {b : Int} {u : Tok} {l : Addr} {es : Array DictEntry} {n : Nat} {dd : Option Addr} {sl : Array (Option Value)} :
    Meets (Builtin.«int.__ne__» ⟨[.int b u, .ref l], []⟩) (fun _ R s => s.heap.get? l = some (dOb es n dd sl) ∧ R (.ok (.ret .notImplemented)) s) :=
  .of_wp fun prog w A R s h => by
    obtain ⟨hp, g, d, tk, os⟩ := s
    obtain ⟨hl, h⟩ := h
    wp_walk using AutoSeq1.wpAny_loadPart' hl, wpAny_load hl
    exact ⟨_, rfl, h⟩
theorem m_str_ne {b : Str} {u : Tok} {l : Addr} {es : Array DictEntry} {n : Nat} {dd : Option Addr} {sl : Array (Option Value)} :
    Meets (Builtin.«str.__ne__» ⟨[.str b u, .ref l], []⟩) (fun _ R s => s.heap.get? l = some (dOb es n dd sl) ∧ R (.ok (.ret .notImplemented)) s) :=
  .of_wp fun prog w A R s h => by
    obtain ⟨hp, g, d, tk, os⟩ := s
    obtain ⟨hl, h⟩ := h
    wp_walk using AutoSeq1.wpAny_loadPart' hl, wpAny_load hl
    exact ⟨_, rfl, h⟩
theorem m_list_ne {k : Addr} {vs : Array Value} {n2 : Nat} {d2 : Option Addr} {s2 : Array (Option Value)} {l : Addr} {es : Array DictEntry} {n : Nat} {dd : Option Addr} {sl : Array (Option Value)} :
    Meets (Builtin.«list.__ne__» ⟨[.ref k, .ref l], []⟩) (fun _ R s => s.heap.get? k = some (sOb "list" vs n2 d2 s2) ∧ s.heap.get? l = some (dOb es n dd sl) ∧ R (.ok (.ret .notImplemented)) s) :=
  .of_wp fun prog w A R s h => by
    obtain ⟨hp, g, d, tk, os⟩ := s
    obtain ⟨hk, hl, h⟩ := h
    have f1 := PySem.F.sub_dict_list; wp_walk using AutoSeq1.wpAny_loadPart' hl, wpAny_load hl, AutoSeq1.wpAny_loadPart' hk
    exact ⟨_, rfl, h⟩
theorem m_tuple_ne {k : Addr} {vs : Array Value} {n2 : Nat} {d2 : Option Addr} {s2 : Array (Option Value)} {l : Addr} {es : Array DictEntry} {n : Nat} {dd : Option Addr} {sl : Array (Option Value)} :
    Meets (Builtin.«tuple.__ne__» ⟨[.ref k, .ref l], []⟩) (fun _ R s => s.heap.get? k = some (sOb "tuple" vs n2 d2 s2) ∧ s.heap.get? l = some (dOb es n dd sl) ∧ R (.ok (.ret .notImplemented)) s) :=
  .of_wp fun prog w A R s h => by
    obtain ⟨hp, g, d, tk, os⟩ := s
    obtain ⟨hk, hl, h⟩ := h
    have f1 := PySem.F.sub_dict_tuple; wp_walk using AutoSeq1.wpAny_loadPart' hl, wpAny_load hl, AutoSeq1.wpAny_loadPart' hk
    exact ⟨_, rfl, h⟩
end
end VQ

set_option Elab.async false
set_option linter.all false
set_option maxRecDepth 100000
set_option maxHeartbeats 1000000
/-! VQ1: a dict and what is none: ==, != (printed by gq1.py). -/
namespace VQ
open PySem PySem.SeqAt PySem.Spec
section
variable {A : Around} {s : Shared}
theorem RcAt_dict_none {a : Addr} (h : IsDict s a) (hu : A.units < cLine) : RcAt A s (.ref a) .none false := fun prog w E Q hQ => by
  obtain ⟨⟨cls, dd, data, sl⟩, es, n, ho, hc, hd⟩ := id h
  simp only at hc hd
  subst hc hd
  exact rc_eq_decline_or (k := false) h.typeIs rfl (by decide) PySem.F.sub_NoneType_dict PySem.F.slot_dict_eq PySem.F.slot_NoneType_eq_refl
    (fun _ hq => decl_dict_eq h (show s.TypeIs .none "NoneType" from rfl) PySem.F.sub_NoneType_dict _ _ hq) (fun _ hq => call_gives PySem.F.slot_NoneType_eq_refl rfl PySem.F.entry_NoneType_eq (PySem.F.args_NoneType_eq_2 _ _) (NoneType___eq___none_ref_0 a) hq) (fun _ hq => wpAny_of_eq (rfl : isSame (.ref a) .none = pure false) hq) (.inr hu) hQ
theorem RcAt_none_dict {a : Addr} (h : IsDict s a) (hu : A.units < cLine) : RcAt A s .none (.ref a) false := fun prog w E Q hQ => by
  obtain ⟨⟨cls, dd, data, sl⟩, es, n, ho, hc, hd⟩ := id h
  simp only at hc hd
  subst hc hd
  exact rc_eq_decline_or (k := false) rfl h.typeIs (by decide) PySem.F.sub_dict_NoneType PySem.F.slot_NoneType_eq PySem.F.slot_dict_eq_refl
    (fun _ hq => call_gives PySem.F.slot_NoneType_eq rfl PySem.F.entry_NoneType_eq (PySem.F.args_NoneType_eq_2 _ _) (NoneType___eq___none_ref_0 a) hq) (fun _ hq => decl_dict_eq h (show s.TypeIs .none "NoneType" from rfl) PySem.F.sub_NoneType_dict _ _ hq) (fun _ hq => wpAny_of_eq (rfl : isSame .none (.ref a) = pure false) hq) (.inr hu) hQ
theorem EqAt_dict_none {a : Addr} (h : IsDict s a) (hu : A.units < cLine) : EqAt A s (.ref a) .none false := fun prog w E Q hQ => by
  unfold eqBool
  refine wpAny_holding (wpAny_ite_split (fun hab => absurd (eq_of_beq hab) nofun) fun _ => ?_)
  exact wpAny_bind (RcAt_dict_none h hu prog w E _ (wpAny_truthy_bool hQ))
theorem EqAt_none_dict {a : Addr} (h : IsDict s a) (hu : A.units < cLine) : EqAt A s .none (.ref a) false := fun prog w E Q hQ => by
  unfold eqBool
  refine wpAny_holding (wpAny_ite_split (fun hab => absurd (eq_of_beq hab) nofun) fun _ => ?_)
  exact wpAny_bind (RcAt_none_dict h hu prog w E _ (wpAny_truthy_bool hQ))
theorem RcAt_dict_bool {a : Addr} {b : Bool} (h : IsDict s a) (hu : A.units < cLine) : RcAt A s (.ref a) (.bool b) false := fun prog w E Q hQ => by
  obtain ⟨⟨cls, dd, data, sl⟩, es, n, ho, hc, hd⟩ := id h
  simp only at hc hd
  subst hc hd
  exact rc_eq_decline_or (k := false) h.typeIs rfl (by decide) PySem.F.sub_bool_dict PySem.F.slot_dict_eq PySem.F.slot_bool_eq_refl
    (fun _ hq => decl_dict_eq h (show s.TypeIs (.bool b) "bool" from rfl) PySem.F.sub_bool_dict _ _ hq) (fun _ hq => call_meets PySem.F.slot_bool_eq_refl rfl PySem.F.entry_int_eq (PySem.F.args_int_eq_2 _ _) m_bool_eq ⟨ho, hq⟩) (fun _ hq => wpAny_of_eq (rfl : isSame (.ref a) (.bool b) = pure false) hq) (.inr hu) hQ
theorem RcAt_bool_dict {a : Addr} {b : Bool} (h : IsDict s a) (hu : A.units < cLine) : RcAt A s (.bool b) (.ref a) false := fun prog w E Q hQ => by
  obtain ⟨⟨cls, dd, data, sl⟩, es, n, ho, hc, hd⟩ := id h
  simp only at hc hd
  subst hc hd
  exact rc_eq_decline_or (k := false) rfl h.typeIs (by decide) PySem.F.sub_dict_bool PySem.F.slot_bool_eq PySem.F.slot_dict_eq_refl
    (fun _ hq => call_meets PySem.F.slot_bool_eq rfl PySem.F.entry_int_eq (PySem.F.args_int_eq_2 _ _) m_bool_eq ⟨ho, hq⟩) (fun _ hq => decl_dict_eq h (show s.TypeIs (.bool b) "bool" from rfl) PySem.F.sub_bool_dict _ _ hq) (fun _ hq => wpAny_of_eq (rfl : isSame (.bool b) (.ref a) = pure false) hq) (.inr hu) hQ
theorem EqAt_dict_bool {a : Addr} {b : Bool} (h : IsDict s a) (hu : A.units < cLine) : EqAt A s (.ref a) (.bool b) false := fun prog w E Q hQ => by
  unfold eqBool
  refine wpAny_holding (wpAny_ite_split (fun hab => absurd (eq_of_beq hab) nofun) fun _ => ?_)
  exact wpAny_bind (RcAt_dict_bool h hu prog w E _ (wpAny_truthy_bool hQ))
theorem EqAt_bool_dict {a : Addr} {b : Bool} (h : IsDict s a) (hu : A.units < cLine) : EqAt A s (.bool b) (.ref a) false := fun prog w E Q hQ => by
  unfold eqBool
  refine wpAny_holding (wpAny_ite_split (fun hab => absurd (eq_of_beq hab) nofun) fun _ => ?_)
  exact wpAny_bind (RcAt_bool_dict h hu prog w E _ (wpAny_truthy_bool hQ))
theorem RcAt_dict_int {a : Addr} {b : Int} {u : Tok} (h : IsDict s a) (hu : A.units < cLine) : RcAt A s (.ref a) (.int b u) false := fun prog w E Q hQ => by
  obtain ⟨⟨cls, dd, data, sl⟩, es, n, ho, hc, hd⟩ := id h
  simp only at hc hd
  subst hc hd
  exact rc_eq_decline_or (k := false) h.typeIs (typeIs_int s b u) (by decide) PySem.F.sub_int_dict PySem.F.slot_dict_eq PySem.F.slot_int_eq_refl
    (fun _ hq => decl_dict_eq h (show s.TypeIs (.int b u) "int" from (typeIs_int s b u)) PySem.F.sub_int_dict _ _ hq) (fun _ hq => call_meets PySem.F.slot_int_eq_refl (typeIs_int s b u) PySem.F.entry_int_eq (PySem.F.args_int_eq_2 _ _) m_int_eq ⟨ho, hq⟩) (fun _ hq => wpAny_of_eq (rfl : isSame (.ref a) (.int b u) = pure false) hq) (.inr hu) hQ
theorem RcAt_int_dict {a : Addr} {b : Int} {u : Tok} (h : IsDict s a) (hu : A.units < cLine) : RcAt A s (.int b u) (.ref a) false := fun prog w E Q hQ => by
  obtain ⟨⟨cls, dd, data, sl⟩, es, n, ho, hc, hd⟩ := id h
  simp only at hc hd
  subst hc hd
  exact rc_eq_decline_or (k := false) (typeIs_int s b u) h.typeIs (by decide) PySem.F.sub_dict_int PySem.F.slot_int_eq PySem.F.slot_dict_eq_refl
    (fun _ hq => call_meets PySem.F.slot_int_eq (typeIs_int s b u) PySem.F.entry_int_eq (PySem.F.args_int_eq_2 _ _) m_int_eq ⟨ho, hq⟩) (fun _ hq => decl_dict_eq h (show s.TypeIs (.int b u) "int" from (typeIs_int s b u)) PySem.F.sub_int_dict _ _ hq) (fun _ hq => wpAny_of_eq (rfl : isSame (.int b u) (.ref a) = pure false) hq) (.inr hu) hQ
theorem EqAt_dict_int {a : Addr} {b : Int} {u : Tok} (h : IsDict s a) (hu : A.units < cLine) : EqAt A s (.ref a) (.int b u) false := fun prog w E Q hQ => by
  unfold eqBool
  refine wpAny_holding (wpAny_ite_split (fun hab => absurd (eq_of_beq hab) nofun) fun _ => ?_)
  exact wpAny_bind (RcAt_dict_int h hu prog w E _ (wpAny_truthy_bool hQ))
theorem EqAt_int_dict {a : Addr} {b : Int} {u : Tok} (h : IsDict s a) (hu : A.units < cLine) : EqAt A s (.int b u) (.ref a) false := fun prog w E Q hQ => by
  unfold eqBool
  refine wpAny_holding (wpAny_ite_split (fun hab => absurd (eq_of_beq hab) nofun) fun _ => ?_)
  exact wpAny_bind (RcAt_int_dict h hu prog w E _ (wpAny_truthy_bool hQ))
theorem RcAt_dict_str {a : Addr} {b : Str} {u : Tok} (h : IsDict s a) (hu : A.units < cLine) : RcAt A s (.ref a) (.str b u) false := fun prog w E Q hQ => by
  obtain ⟨⟨cls, dd, data, sl⟩, es, n, ho, hc, hd⟩ := id h
  simp only at hc hd
  subst hc hd
  exact rc_eq_decline_or (k := false) h.typeIs (typeIs_str s b u) (by decide) PySem.F.sub_str_dict PySem.F.slot_dict_eq PySem.F.slot_str_eq_refl
    (fun _ hq => decl_dict_eq h (show s.TypeIs (.str b u) "str" from (typeIs_str s b u)) PySem.F.sub_str_dict _ _ hq) (fun _ hq => call_meets PySem.F.slot_str_eq_refl (typeIs_str s b u) PySem.F.entry_str_eq (PySem.F.args_str_eq_2 _ _) m_str_eq ⟨ho, hq⟩) (fun _ hq => wpAny_of_eq (rfl : isSame (.ref a) (.str b u) = pure false) hq) (.inr hu) hQ
theorem RcAt_str_dict {a : Addr} {b : Str} {u : Tok} (h : IsDict s a) (hu : A.units < cLine) : RcAt A s (.str b u) (.ref a) false := fun prog w E Q hQ => by
  obtain ⟨⟨cls, dd, data, sl⟩, es, n, ho, hc, hd⟩ := id h
  simp only at hc hd
  subst hc hd
  exact rc_eq_decline_or (k := false) (typeIs_str s b u) h.typeIs (by decide) PySem.F.sub_dict_str PySem.F.slot_str_eq PySem.F.slot_dict_eq_refl
    (fun _ hq => call_meets PySem.F.slot_str_eq (typeIs_str s b u) PySem.F.entry_str_eq (PySem.F.args_str_eq_2 _ _) m_str_eq ⟨ho, hq⟩) (fun _ hq => decl_dict_eq h (show s.TypeIs (.str b u) "str" from (typeIs_str s b u)) PySem.F.sub_str_dict _ _ hq) (fun _ hq => wpAny_of_eq (rfl : isSame (.str b u) (.ref a) = pure false) hq) (.inr hu) hQ
theorem EqAt_dict_str {a : Addr} {b : Str} {u : Tok} (h : IsDict s a) (hu : A.units < cLine) : EqAt A s (.ref a) (.str b u) false := fun prog w E Q hQ => by
  unfold eqBool
  refine wpAny_holding (wpAny_ite_split (fun hab => absurd (eq_of_beq hab) nofun) fun _ => ?_)
  exact wpAny_bind (RcAt_dict_str h hu prog w E _ (wpAny_truthy_bool hQ))
theorem EqAt_str_dict {a : Addr} {b : Str} {u : Tok} (h : IsDict s a) (hu : A.units < cLine) : EqAt A s (.str b u) (.ref a) false := fun prog w E Q hQ => by
  unfold eqBool
  refine wpAny_holding (wpAny_ite_split (fun hab => absurd (eq_of_beq hab) nofun) fun _ => ?_)
  exact wpAny_bind (RcAt_str_dict h hu prog w E _ (wpAny_truthy_bool hQ))
theorem RcAt_dict_list {a : Addr} {k : Addr} {vs : Array Value} (h : IsDict s a) (hs : s.heap.IsList k vs) (hu : A.units < cLine) : RcAt A s (.ref a) (.ref k) false := fun prog w E Q hQ => by
  obtain ⟨⟨cls, dd, data, sl⟩, es, n, ho, hc, hd⟩ := id h
  simp only at hc hd
  subst hc hd
  obtain ⟨⟨cls2, dd2, data2, sl2⟩, hk, hc2, n2, hd2⟩ := id hs
  simp only at hc2 hd2
  subst hc2 hd2
  have hne : a ≠ k := fun e => by subst e; rw [ho] at hk; exact absurd (congrArg Obj.cls (Option.some.inj hk)) (by simp)
  exact rc_eq_decline_or (k := false) h.typeIs ⟨_, hk, rfl⟩ (by decide) PySem.F.sub_list_dict PySem.F.slot_dict_eq PySem.F.slot_list_eq_refl
    (fun _ hq => decl_dict_eq h (show s.TypeIs (.ref k) "list" from ⟨_, hk, rfl⟩) PySem.F.sub_list_dict _ _ hq) (fun _ hq => call_meets PySem.F.slot_list_eq_refl ⟨_, hk, rfl⟩ PySem.F.entry_list_eq (PySem.F.args_list_eq_2 _ _) m_list_eq ⟨hk, ho, hq⟩) (fun _ hq => wpAny_isSame_ref_other hne ho hk (by simp) hq) (.inr hu) hQ
theorem RcAt_list_dict {a : Addr} {k : Addr} {vs : Array Value} (h : IsDict s a) (hs : s.heap.IsList k vs) (hu : A.units < cLine) : RcAt A s (.ref k) (.ref a) false := fun prog w E Q hQ => by
  obtain ⟨⟨cls, dd, data, sl⟩, es, n, ho, hc, hd⟩ := id h
  simp only at hc hd
  subst hc hd
  obtain ⟨⟨cls2, dd2, data2, sl2⟩, hk, hc2, n2, hd2⟩ := id hs
  simp only at hc2 hd2
  subst hc2 hd2
  have hne : a ≠ k := fun e => by subst e; rw [ho] at hk; exact absurd (congrArg Obj.cls (Option.some.inj hk)) (by simp)
  exact rc_eq_decline_or (k := false) ⟨_, hk, rfl⟩ h.typeIs (by decide) PySem.F.sub_dict_list PySem.F.slot_list_eq PySem.F.slot_dict_eq_refl
    (fun _ hq => call_meets PySem.F.slot_list_eq ⟨_, hk, rfl⟩ PySem.F.entry_list_eq (PySem.F.args_list_eq_2 _ _) m_list_eq ⟨hk, ho, hq⟩) (fun _ hq => decl_dict_eq h (show s.TypeIs (.ref k) "list" from ⟨_, hk, rfl⟩) PySem.F.sub_list_dict _ _ hq) (fun _ hq => wpAny_isSame_ref_other' hne.symm hk ho (by simp) hq) (.inr hu) hQ
theorem EqAt_dict_list {a : Addr} {k : Addr} {vs : Array Value} (h : IsDict s a) (hs : s.heap.IsList k vs) (hu : A.units < cLine) : EqAt A s (.ref a) (.ref k) false := fun prog w E Q hQ => by
  unfold eqBool
  refine wpAny_holding (wpAny_ite_split (fun hab => absurd (eq_of_beq hab) (fun e => by obtain ⟨o, es, n, h1, h2, h3⟩ := h; obtain ⟨p, g1, g2, m, g3⟩ := hs; injection e with e; subst e; rw [h1] at g1; cases g1; rw [h2] at g2; exact absurd g2 (by simp))) fun _ => ?_)
  exact wpAny_bind (RcAt_dict_list h hs hu prog w E _ (wpAny_truthy_bool hQ))
theorem EqAt_list_dict {a : Addr} {k : Addr} {vs : Array Value} (h : IsDict s a) (hs : s.heap.IsList k vs) (hu : A.units < cLine) : EqAt A s (.ref k) (.ref a) false := fun prog w E Q hQ => by
  unfold eqBool
  refine wpAny_holding (wpAny_ite_split (fun hab => absurd (eq_of_beq hab) (fun e => by obtain ⟨o, es, n, h1, h2, h3⟩ := h; obtain ⟨p, g1, g2, m, g3⟩ := hs; injection e with e; subst e; rw [h1] at g1; cases g1; rw [h2] at g2; exact absurd g2 (by simp))) fun _ => ?_)
  exact wpAny_bind (RcAt_list_dict h hs hu prog w E _ (wpAny_truthy_bool hQ))
theorem RcAt_dict_tuple {a : Addr} {k : Addr} {vs : Array Value} (h : IsDict s a) (hs : s.heap.IsTuple k vs) (hu : A.units < cLine) : RcAt A s (.ref a) (.ref k) false := fun prog w E Q hQ => by
  obtain ⟨⟨cls, dd, data, sl⟩, es, n, ho, hc, hd⟩ := id h
  simp only at hc hd
  subst hc hd
  obtain ⟨⟨cls2, dd2, data2, sl2⟩, hk, hc2, n2, hd2⟩ := id hs
  simp only at hc2 hd2
  subst hc2 hd2
  have hne : a ≠ k := fun e => by subst e; rw [ho] at hk; exact absurd (congrArg Obj.cls (Option.some.inj hk)) (by simp)
  exact rc_eq_decline_or (k := false) h.typeIs ⟨_, hk, rfl⟩ (by decide) PySem.F.sub_tuple_dict PySem.F.slot_dict_eq PySem.F.slot_tuple_eq_refl
    (fun _ hq => decl_dict_eq h (show s.TypeIs (.ref k) "tuple" from ⟨_, hk, rfl⟩) PySem.F.sub_tuple_dict _ _ hq) (fun _ hq => call_meets PySem.F.slot_tuple_eq_refl ⟨_, hk, rfl⟩ PySem.F.entry_tuple_eq (PySem.F.args_tuple_eq_2 _ _) m_tuple_eq ⟨hk, ho, hq⟩) (fun _ hq => wpAny_isSame_ref_other hne ho hk (by simp) hq) (.inr hu) hQ
theorem RcAt_tuple_dict {a : Addr} {k : Addr} {vs : Array Value} (h : IsDict s a) (hs : s.heap.IsTuple k vs) (hu : A.units < cLine) : RcAt A s (.ref k) (.ref a) false := fun prog w E Q hQ => by
  obtain ⟨⟨cls, dd, data, sl⟩, es, n, ho, hc, hd⟩ := id h
  simp only at hc hd
  subst hc hd
  obtain ⟨⟨cls2, dd2, data2, sl2⟩, hk, hc2, n2, hd2⟩ := id hs
  simp only at hc2 hd2
  subst hc2 hd2
  have hne : a ≠ k := fun e => by subst e; rw [ho] at hk; exact absurd (congrArg Obj.cls (Option.some.inj hk)) (by simp)
  exact rc_eq_decline_or (k := false) ⟨_, hk, rfl⟩ h.typeIs (by decide) PySem.F.sub_dict_tuple PySem.F.slot_tuple_eq PySem.F.slot_dict_eq_refl
    (fun _ hq => call_meets PySem.F.slot_tuple_eq ⟨_, hk, rfl⟩ PySem.F.entry_tuple_eq (PySem.F.args_tuple_eq_2 _ _) m_tuple_eq ⟨hk, ho, hq⟩) (fun _ hq => decl_dict_eq h (show s.TypeIs (.ref k) "tuple" from ⟨_, hk, rfl⟩) PySem.F.sub_tuple_dict _ _ hq) (fun _ hq => wpAny_isSame_ref_other' hne.symm hk ho (by simp) hq) (.inr hu) hQ
theorem EqAt_dict_tuple {a : Addr} {k : Addr} {vs : Array Value} (h : IsDict s a) (hs : s.heap.IsTuple k vs) (hu : A.units < cLine) : EqAt A s (.ref a) (.ref k) false := fun prog w E Q hQ => by
  unfold eqBool
  refine wpAny_holding (wpAny_ite_split (fun hab => absurd (eq_of_beq hab) (fun e => by obtain ⟨o, es, n, h1, h2, h3⟩ := h; obtain ⟨p, g1, g2, m, g3⟩ := hs; injection e with e; subst e; rw [h1] at g1; cases g1; rw [h2] at g2; exact absurd g2 (by simp))) fun _ => ?_)
  exact wpAny_bind (RcAt_dict_tuple h hs hu prog w E _ (wpAny_truthy_bool hQ))
theorem EqAt_tuple_dict {a : Addr} {k : Addr} {vs : Array Value} (h : IsDict s a) (hs : s.heap.IsTuple k vs) (hu : A.units < cLine) : EqAt A s (.ref k) (.ref a) false := fun prog w E Q hQ => by
  unfold eqBool
  refine wpAny_holding (wpAny_ite_split (fun hab => absurd (eq_of_beq hab) (fun e => by obtain ⟨o, es, n, h1, h2, h3⟩ := h; obtain ⟨p, g1, g2, m, g3⟩ := hs; injection e with e; subst e; rw [h1] at g1; cases g1; rw [h2] at g2; exact absurd g2 (by simp))) fun _ => ?_)
  exact wpAny_bind (RcAt_tuple_dict h hs hu prog w E _ (wpAny_truthy_bool hQ))
theorem RcNeAt_dict_none {a : Addr} (h : IsDict s a) (hu : A.units < cLine) : RcNeAt A s (.ref a) .none true := fun prog w E Q hQ => by
  obtain ⟨⟨cls, dd, data, sl⟩, es, n, ho, hc, hd⟩ := id h
  simp only at hc hd
  subst hc hd
  exact rc_ne_decline_or (k := false) h.typeIs rfl (by decide) PySem.F.sub_NoneType_dict PySem.F.slot_dict_ne PySem.F.slot_NoneType_ne_refl
    (fun _ hq => decl_dict_ne h (show s.TypeIs .none "NoneType" from rfl) PySem.F.sub_NoneType_dict _ _ hq) (fun _ hq => call_gives PySem.F.slot_NoneType_ne_refl rfl PySem.F.entry_NoneType_ne (PySem.F.args_NoneType_ne_2 _ _) (NoneType___ne___none_ref_0 a) hq) (fun _ hq => wpAny_of_eq (rfl : isSame (.ref a) .none = pure false) hq) (.inr hu) hQ
theorem RcNeAt_none_dict {a : Addr} (h : IsDict s a) (hu : A.units < cLine) : RcNeAt A s .none (.ref a) true := fun prog w E Q hQ => by
  obtain ⟨⟨cls, dd, data, sl⟩, es, n, ho, hc, hd⟩ := id h
  simp only at hc hd
  subst hc hd
  exact rc_ne_decline_or (k := false) rfl h.typeIs (by decide) PySem.F.sub_dict_NoneType PySem.F.slot_NoneType_ne PySem.F.slot_dict_ne_refl
    (fun _ hq => call_gives PySem.F.slot_NoneType_ne rfl PySem.F.entry_NoneType_ne (PySem.F.args_NoneType_ne_2 _ _) (NoneType___ne___none_ref_0 a) hq) (fun _ hq => decl_dict_ne h (show s.TypeIs .none "NoneType" from rfl) PySem.F.sub_NoneType_dict _ _ hq) (fun _ hq => wpAny_of_eq (rfl : isSame .none (.ref a) = pure false) hq) (.inr hu) hQ
theorem RcNeAt_dict_bool {a : Addr} {b : Bool} (h : IsDict s a) (hu : A.units < cLine) : RcNeAt A s (.ref a) (.bool b) true := fun prog w E Q hQ => by
  obtain ⟨⟨cls, dd, data, sl⟩, es, n, ho, hc, hd⟩ := id h
  simp only at hc hd
  subst hc hd
  exact rc_ne_decline_or (k := false) h.typeIs rfl (by decide) PySem.F.sub_bool_dict PySem.F.slot_dict_ne PySem.F.slot_bool_ne_refl
    (fun _ hq => decl_dict_ne h (show s.TypeIs (.bool b) "bool" from rfl) PySem.F.sub_bool_dict _ _ hq) (fun _ hq => call_meets PySem.F.slot_bool_ne_refl rfl PySem.F.entry_int_ne (PySem.F.args_int_ne_2 _ _) m_bool_ne ⟨ho, hq⟩) (fun _ hq => wpAny_of_eq (rfl : isSame (.ref a) (.bool b) = pure false) hq) (.inr hu) hQ
theorem RcNeAt_bool_dict {a : Addr} {b : Bool} (h : IsDict s a) (hu : A.units < cLine) : RcNeAt A s (.bool b) (.ref a) true := fun prog w E Q hQ => by
  obtain ⟨⟨cls, dd, data, sl⟩, es, n, ho, hc, hd⟩ := id h
  simp only at hc hd
  subst hc hd
  exact rc_ne_decline_or (k := false) rfl h.typeIs (by decide) PySem.F.sub_dict_bool PySem.F.slot_bool_ne PySem.F.slot_dict_ne_refl
    (fun _ hq => call_meets PySem.F.slot_bool_ne rfl PySem.F.entry_int_ne (PySem.F.args_int_ne_2 _ _) m_bool_ne ⟨ho, hq⟩) (fun _ hq => decl_dict_ne h (show s.TypeIs (.bool b) "bool" from rfl) PySem.F.sub_bool_dict _ _ hq) (fun _ hq => wpAny_of_eq (rfl : isSame (.bool b) (.ref a) = pure false) hq) (.inr hu) hQ
theorem RcNeAt_dict_int {a : Addr} {b : Int} {u : Tok} (h : IsDict s a) (hu : A.units < cLine) : RcNeAt A s (.ref a) (.int b u) true := fun prog w E Q hQ => by
  obtain ⟨⟨cls, dd, data, sl⟩, es, n, ho, hc, hd⟩ := id h
  simp only at hc hd
  subst hc hd
  exact rc_ne_decline_or (k := false) h.typeIs (typeIs_int s b u) (by decide) PySem.F.sub_int_dict PySem.F.slot_dict_ne PySem.F.slot_int_ne_refl
    (fun _ hq => decl_dict_ne h (show s.TypeIs (.int b u) "int" from (typeIs_int s b u)) PySem.F.sub_int_dict _ _ hq) (fun _ hq => call_meets PySem.F.slot_int_ne_refl (typeIs_int s b u) PySem.F.entry_int_ne (PySem.F.args_int_ne_2 _ _) m_int_ne ⟨ho, hq⟩) (fun _ hq => wpAny_of_eq (rfl : isSame (.ref a) (.int b u) = pure false) hq) (.inr hu) hQ
theorem RcNeAt_int_dict {a : Addr} {b : Int} {u : Tok} (h : IsDict s a) (hu : A.units < cLine) : RcNeAt A s (.int b u) (.ref a) true := fun prog w E Q hQ => by
  obtain ⟨⟨cls, dd, data, sl⟩, es, n, ho, hc, hd⟩ := id h
  simp only at hc hd
  subst hc hd
  exact rc_ne_decline_or (k := false) (typeIs_int s b u) h.typeIs (by decide) PySem.F.sub_dict_int PySem.F.slot_int_ne PySem.F.slot_dict_ne_refl
    (fun _ hq => call_meets PySem.F.slot_int_ne (typeIs_int s b u) PySem.F.entry_int_ne (PySem.F.args_int_ne_2 _ _) m_int_ne ⟨ho, hq⟩) (fun _ hq => decl_dict_ne h (show s.TypeIs (.int b u) "int" from (typeIs_int s b u)) PySem.F.sub_int_dict _ _ hq) (fun _ hq => wpAny_of_eq (rfl : isSame (.int b u) (.ref a) = pure false) hq) (.inr hu) hQ
theorem RcNeAt_dict_str {a : Addr} {b : Str} {u : Tok} (h : IsDict s a) (hu : A.units < cLine) : RcNeAt A s (.ref a) (.str b u) true := fun prog w E Q hQ => by
  obtain ⟨⟨cls, dd, data, sl⟩, es, n, ho, hc, hd⟩ := id h
  simp only at hc hd
  subst hc hd
  exact rc_ne_decline_or (k := false) h.typeIs (typeIs_str s b u) (by decide) PySem.F.sub_str_dict PySem.F.slot_dict_ne PySem.F.slot_str_ne_refl
    (fun _ hq => decl_dict_ne h (show s.TypeIs (.str b u) "str" from (typeIs_str s b u)) PySem.F.sub_str_dict _ _ hq) (fun _ hq => call_meets PySem.F.slot_str_ne_refl (typeIs_str s b u) PySem.F.entry_str_ne (PySem.F.args_str_ne_2 _ _) m_str_ne ⟨ho, hq⟩) (fun _ hq => wpAny_of_eq (rfl : isSame (.ref a) (.str b u) = pure false) hq) (.inr hu) hQ
theorem RcNeAt_str_dict {a : Addr} {b : Str} {u : Tok} (h : IsDict s a) (hu : A.units < cLine) : RcNeAt A s (.str b u) (.ref a) true := fun prog w E Q hQ => by
  obtain ⟨⟨cls, dd, data, sl⟩, es, n, ho, hc, hd⟩ := id h
  simp only at hc hd
  subst hc hd
  exact rc_ne_decline_or (k := false) (typeIs_str s b u) h.typeIs (by decide) PySem.F.sub_dict_str PySem.F.slot_str_ne PySem.F.slot_dict_ne_refl
    (fun _ hq => call_meets PySem.F.slot_str_ne (typeIs_str s b u) PySem.F.entry_str_ne (PySem.F.args_str_ne_2 _ _) m_str_ne ⟨ho, hq⟩) (fun _ hq => decl_dict_ne h (show s.TypeIs (.str b u) "str" from (typeIs_str s b u)) PySem.F.sub_str_dict _ _ hq) (fun _ hq => wpAny_of_eq (rfl : isSame (.str b u) (.ref a) = pure false) hq) (.inr hu) hQ
theorem RcNeAt_dict_list {a : Addr} {k : Addr} {vs : Array Value} (h : IsDict s a) (hs : s.heap.IsList k vs) (hu : A.units < cLine) : RcNeAt A s (.ref a) (.ref k) true := fun prog w E Q hQ => by
  obtain ⟨⟨cls, dd, data, sl⟩, es, n, ho, hc, hd⟩ := id h
  simp only at hc hd
  subst hc hd
  obtain ⟨⟨cls2, dd2, data2, sl2⟩, hk, hc2, n2, hd2⟩ := id hs
  simp only at hc2 hd2
  subst hc2 hd2
  have hne : a ≠ k := fun e => by subst e; rw [ho] at hk; exact absurd (congrArg Obj.cls (Option.some.inj hk)) (by simp)
  exact rc_ne_decline_or (k := false) h.typeIs ⟨_, hk, rfl⟩ (by decide) PySem.F.sub_list_dict PySem.F.slot_dict_ne PySem.F.slot_list_ne_refl
    (fun _ hq => decl_dict_ne h (show s.TypeIs (.ref k) "list" from ⟨_, hk, rfl⟩) PySem.F.sub_list_dict _ _ hq) (fun _ hq => call_meets PySem.F.slot_list_ne_refl ⟨_, hk, rfl⟩ PySem.F.entry_list_ne (PySem.F.args_list_ne_2 _ _) m_list_ne ⟨hk, ho, hq⟩) (fun _ hq => wpAny_isSame_ref_other hne ho hk (by simp) hq) (.inr hu) hQ
theorem RcNeAt_list_dict {a : Addr} {k : Addr} {vs : Array Value} (h : IsDict s a) (hs : s.heap.IsList k vs) (hu : A.units < cLine) : RcNeAt A s (.ref k) (.ref a) true := fun prog w E Q hQ => by
  obtain ⟨⟨cls, dd, data, sl⟩, es, n, ho, hc, hd⟩ := id h
  simp only at hc hd
  subst hc hd
  obtain ⟨⟨cls2, dd2, data2, sl2⟩, hk, hc2, n2, hd2⟩ := id hs
  simp only at hc2 hd2
  subst hc2 hd2
  have hne : a ≠ k := fun e => by subst e; rw [ho] at hk; exact absurd (congrArg Obj.cls (Option.some.inj hk)) (by simp)
  exact rc_ne_decline_or (k := false) ⟨_, hk, rfl⟩ h.typeIs (by decide) PySem.F.sub_dict_list PySem.F.slot_list_ne PySem.F.slot_dict_ne_refl
    (fun _ hq => call_meets PySem.F.slot_list_ne ⟨_, hk, rfl⟩ PySem.F.entry_list_ne (PySem.F.args_list_ne_2 _ _) m_list_ne ⟨hk, ho, hq⟩) (fun _ hq => decl_dict_ne h (show s.TypeIs (.ref k) "list" from ⟨_, hk, rfl⟩) PySem.F.sub_list_dict _ _ hq) (fun _ hq => wpAny_isSame_ref_other' hne.symm hk ho (by simp) hq) (.inr hu) hQ
theorem RcNeAt_dict_tuple {a : Addr} {k : Addr} {vs : Array Value} (h : IsDict s a) (hs : s.heap.IsTuple k vs) (hu : A.units < cLine) : RcNeAt A s (.ref a) (.ref k) true := fun prog w E Q hQ => by
  obtain ⟨⟨cls, dd, data, sl⟩, es, n, ho, hc, hd⟩ := id h
  simp only at hc hd
  subst hc hd
  obtain ⟨⟨cls2, dd2, data2, sl2⟩, hk, hc2, n2, hd2⟩ := id hs
  simp only at hc2 hd2
  subst hc2 hd2
  have hne : a ≠ k := fun e => by subst e; rw [ho] at hk; exact absurd (congrArg Obj.cls (Option.some.inj hk)) (by simp)
  exact rc_ne_decline_or (k := false) h.typeIs ⟨_, hk, rfl⟩ (by decide) PySem.F.sub_tuple_dict PySem.F.slot_dict_ne PySem.F.slot_tuple_ne_refl
    (fun _ hq => decl_dict_ne h (show s.TypeIs (.ref k) "tuple" from ⟨_, hk, rfl⟩) PySem.F.sub_tuple_dict _ _ hq) (fun _ hq => call_meets PySem.F.slot_tuple_ne_refl ⟨_, hk, rfl⟩ PySem.F.entry_tuple_ne (PySem.F.args_tuple_ne_2 _ _) m_tuple_ne ⟨hk, ho, hq⟩) (fun _ hq => wpAny_isSame_ref_other hne ho hk (by simp) hq) (.inr hu) hQ
theorem RcNeAt_tuple_dict {a : Addr} {k : Addr} {vs : Array Value} (h : IsDict s a) (hs : s.heap.IsTuple k vs) (hu : A.units < cLine) : RcNeAt A s (.ref k) (.ref a) true := fun prog w E Q hQ => by
  obtain ⟨⟨cls, dd, data, sl⟩, es, n, ho, hc, hd⟩ := id h
  simp only at hc hd
  subst hc hd
  obtain ⟨⟨cls2, dd2, data2, sl2⟩, hk, hc2, n2, hd2⟩ := id hs
  simp only at hc2 hd2
  subst hc2 hd2
  have hne : a ≠ k := fun e => by subst e; rw [ho] at hk; exact absurd (congrArg Obj.cls (Option.some.inj hk)) (by simp)
  exact rc_ne_decline_or (k := false) ⟨_, hk, rfl⟩ h.typeIs (by decide) PySem.F.sub_dict_tuple PySem.F.slot_tuple_ne PySem.F.slot_dict_ne_refl
    (fun _ hq => call_meets PySem.F.slot_tuple_ne ⟨_, hk, rfl⟩ PySem.F.entry_tuple_ne (PySem.F.args_tuple_ne_2 _ _) m_tuple_ne ⟨hk, ho, hq⟩) (fun _ hq => decl_dict_ne h (show s.TypeIs (.ref k) "tuple" from ⟨_, hk, rfl⟩) PySem.F.sub_tuple_dict _ _ hq) (fun _ hq => wpAny_isSame_ref_other' hne.symm hk ho (by simp) hq) (.inr hu) hQ
end
end VQ

set_option Elab.async false
set_option linter.all false
set_option maxRecDepth 100000
set_option maxHeartbeats 1000000
/-! VQ2: ==, !=, in, not in over data of which one side has no dict. -/
namespace VQ
open PySem PySem.SeqAt PySem.Spec
theorem pairs_ext {α β : Type} : ∀ {ps qs : List (α × β)}, ps.map (·.1) = qs.map (·.1) → ps.map (·.2) = qs.map (·.2) → ps = qs
  | [], [], _, _ => rfl
  | [], _ :: _, e, _ => by cases e
  | _ :: _, [], e, _ => by cases e
  | (a, b) :: ps, (c, d) :: qs, e, f => by
    simp only [List.map_cons, List.cons.injEq] at e f
    rw [pairs_ext e.2 f.2, e.1, f.1]
mutual
theorem rdU {h : Heap} : ∀ {v : Value} {d : PyData} {as : List Addr}, Reads h v d as → ∀ {d' : PyData} {as' : List Addr}, Reads h v d' as' → d = d'
  | _, _, _, .none, _, _, r => by cases r; rfl
  | _, _, _, .bool b, _, _, r => by cases r; rfl
  | _, _, _, .int i t, _, _, r => by cases r; rfl
  | _, _, _, .str i t, _, _, r => by cases r; rfl
  | _, _, _, .list p1 p2 p3 p4, _, _, r => by
    cases r with
    | list q1 q2 q3 q4 => rw [p1] at q1; cases q1; rw [p3] at q3; cases q3; rw [rdUA p4 q4]
    | tuple q1 q2 q3 q4 => rw [p1] at q1; cases q1; rw [p2] at q2; exact absurd q2 (by decide)
    | dict q1 q2 q3 q4 q5 => rw [p1] at q1; cases q1; rw [p2] at q2; exact absurd q2 (by decide)
  | _, _, _, .tuple p1 p2 p3 p4, _, _, r => by
    cases r with
    | tuple q1 q2 q3 q4 => rw [p1] at q1; cases q1; rw [p3] at q3; cases q3; rw [rdUA p4 q4]
    | list q1 q2 q3 q4 => rw [p1] at q1; cases q1; rw [p2] at q2; exact absurd q2 (by decide)
    | dict q1 q2 q3 q4 q5 => rw [p1] at q1; cases q1; rw [p2] at q2; exact absurd q2 (by decide)
  | _, _, _, .dict p1 p2 p3 p4 p5, _, _, r => by
    cases r with
    | dict q1 q2 q3 q4 q5 => rw [p1] at q1; cases q1; rw [p3] at q3; cases q3; rw [pairs_ext (rdUA p4 q4) (rdUA p5 q5)]
    | list q1 q2 q3 q4 => rw [p1] at q1; cases q1; rw [p2] at q2; exact absurd q2 (by decide)
    | tuple q1 q2 q3 q4 => rw [p1] at q1; cases q1; rw [p2] at q2; exact absurd q2 (by decide)
theorem rdUA {h : Heap} : ∀ {vs : List Value} {ds : List PyData} {as : List Addr}, ReadsAll h vs ds as → ∀ {ds' : List PyData} {as' : List Addr}, ReadsAll h vs ds' as' → ds = ds'
  | _, _, _, .nil, _, _, r => by cases r; rfl
  | _, _, _, .cons p1 p2, _, _, r => by
    cases r with
    | cons q1 q2 => rw [rdU p1 q1, rdUA p2 q2]
end
theorem eqv_half : ∀ {d e : PyData}, (d.plain = true ∨ e.plain = true) → d = e → PyData.eqv d e = true := fun h q => by
  subst q
  exact eqv_refl_plain _ (h.elim id id)
mutual
theorem eqAt_half : ∀ (da db : PyData) (A : Around) (s : Shared) (a b : Value) (as bs : List Addr), Reads s.heap a da as → Reads s.heap b db bs → (da.plain = true ∨ db.plain = true) →
    A.units + min da.depth db.depth < cLine → EqAt A s a b (PyData.eqv da db)
  | .none, db, A, s, _, _, _, _, ra, rb, _, hu => by
    cases ra
    cases rb with
    | dict k1 k2 k3 k4 k5 => exact EqAt_none_dict ⟨_, _, _, k1, k2, k3⟩ (room_here hu)
    | none => exact EqAt.same _
    | bool y => exact EqAt.none_bool y
    | int y u => exact EqAt.none_int y u
    | str y u => exact EqAt.none_str y u
    | list k1 k2 k3 k4 => exact EqAt.none_list (s := s) ⟨_, k1, k2, _, k3⟩ (room_here hu)
    | tuple k1 k2 k3 k4 => exact EqAt.none_tuple (s := s) ⟨_, k1, k2, _, k3⟩ (room_here hu)
  | .bool x, db, A, s, _, _, _, _, ra, rb, _, hu => by
    cases ra
    cases rb with
    | dict k1 k2 k3 k4 k5 => exact EqAt_bool_dict ⟨_, _, _, k1, k2, k3⟩ (room_here hu)
    | none => exact EqAt.bool_none x
    | bool y => exact EqAt.bool_bool x y
    | int y u => exact EqAt.bool_int x y u
    | str y u => exact EqAt.bool_str x y u
    | list k1 k2 k3 k4 => exact EqAt.bool_list (s := s) x ⟨_, k1, k2, _, k3⟩ (room_here hu)
    | tuple k1 k2 k3 k4 => exact EqAt.bool_tuple (s := s) x ⟨_, k1, k2, _, k3⟩ (room_here hu)
  | .int x, db, A, s, _, _, _, _, ra, rb, _, hu => by
    cases ra with
    | int _ t =>
      cases rb with
      | dict k1 k2 k3 k4 k5 => exact EqAt_int_dict ⟨_, _, _, k1, k2, k3⟩ (room_here hu)
      | none => exact EqAt.int_none x t
      | bool y => exact EqAt.int_bool x t y
      | int y u => exact EqAt.int_int x t y u
      | str y u => exact EqAt.int_str x t y u
      | list k1 k2 k3 k4 => exact EqAt.int_list (s := s) x t ⟨_, k1, k2, _, k3⟩ (room_here hu)
      | tuple k1 k2 k3 k4 => exact EqAt.int_tuple (s := s) x t ⟨_, k1, k2, _, k3⟩ (room_here hu)
  | .str x, db, A, s, _, _, _, _, ra, rb, _, hu => by
    cases ra with
    | str _ t =>
      cases rb with
      | dict k1 k2 k3 k4 k5 => exact EqAt_str_dict ⟨_, _, _, k1, k2, k3⟩ (room_here hu)
      | none => exact EqAt.str_none x t
      | bool y => exact EqAt.str_bool x t y
      | int y u => exact EqAt.str_int x t y u
      | str y u => exact EqAt.str_str x t y u
      | list k1 k2 k3 k4 => exact EqAt.str_list (s := s) x t ⟨_, k1, k2, _, k3⟩ (room_here hu)
      | tuple k1 k2 k3 k4 => exact EqAt.str_tuple (s := s) x t ⟨_, k1, k2, _, k3⟩ (room_here hu)
  | .dict ks, db, A, s, _, _, _, _, ra, rb, hp, hu => by
    have hp' : db.plain = true := hp.resolve_left (by simp [PyData.plain])
    cases ra with
    | dict h1 h2 h3 h4 h5 =>
      have hd : IsDict s _ := ⟨_, _, _, h1, h2, h3⟩
      cases rb with
      | dict k1 k2 k3 k4 k5 => simp [PyData.plain] at hp'
      | none => exact EqAt_dict_none hd (room_here hu)
      | bool y => exact EqAt_dict_bool hd (room_here hu)
      | int y u => exact EqAt_dict_int hd (room_here hu)
      | str y u => exact EqAt_dict_str hd (room_here hu)
      | list k1 k2 k3 k4 => exact EqAt_dict_list hd ⟨_, k1, k2, _, k3⟩ (room_here hu)
      | tuple k1 k2 k3 k4 => exact EqAt_dict_tuple hd ⟨_, k1, k2, _, k3⟩ (room_here hu)
  | .list xs, db, A, s, _, _, _, _, ra, rb, hp, hu => by
    cases ra with
    | @list l o vs n _ as₁ h1 h2 h3 h4 =>
      have i1 : s.heap.IsList l vs := ⟨o, h1, h2, n, h3⟩
      cases rb with
      | dict k1 k2 k3 k4 k5 => exact EqAt_list_dict ⟨_, _, _, k1, k2, k3⟩ i1 (room_here hu)
      | none => exact EqAt.list_none i1 (room_here hu)
      | bool y => exact EqAt.list_bool y i1 (room_here hu)
      | int y u => exact EqAt.list_int y u i1 (room_here hu)
      | str y u => exact EqAt.list_str y u i1 (room_here hu)
      | tuple k1 k2 k3 k4 => exact EqAt.list_tuple i1 ⟨_, k1, k2, _, k3⟩ (room_here hu)
      | @list l' o' vs' n' ys bs₁ k1 k2 k3 k4 =>
        have i2 : s.heap.IsList l' vs' := ⟨o', k1, k2, n', k3⟩
        have m1 : vs.size = xs.length := by simpa using ReadsAll.length _ _ _ h4
        have m2 : vs'.size = ys.length := by simpa using ReadsAll.length _ _ _ k4
        by_cases hll : l = l'
        · subst hll
          rw [eqv_half hp (rdU (.list h1 h2 h3 h4) (.list k1 k2 k3 k4))]
          exact EqAt.same _
        · show EqAt A s (.ref l) (.ref l') (PyData.eqvAll xs ys)
          by_cases hsz : vs.size = vs'.size
          · rw [← eqvAll_same_length (by omega : xs.length = ys.length), ← m1]
            refine EqAt.of_refs hll (RcAt.lists i1 i2 hsz (room_here hu) fun j j1 j2 => ?_)
            have q := eqAt_halfA xs ys A.in1 s vs.toList vs'.toList _ _ h4 k4 (hp.imp (by simp [PyData.plain]) (by simp [PyData.plain])) (room_in hu) j (by simpa using j1) (by simpa using j2)
            simpa using q
          · rw [eqvAll_other_length (by omega : xs.length ≠ ys.length)]
            exact EqAt.of_refs hll (RcAt.lists_lengths i1 i2 (by simpa using hsz) (room_here hu))
  | .tuple xs, db, A, s, _, _, _, _, ra, rb, hp, hu => by
    cases ra with
    | @tuple l o vs n _ as₁ h1 h2 h3 h4 =>
      have i1 : s.heap.IsTuple l vs := ⟨o, h1, h2, n, h3⟩
      cases rb with
      | dict k1 k2 k3 k4 k5 => exact EqAt_tuple_dict ⟨_, _, _, k1, k2, k3⟩ i1 (room_here hu)
      | none => exact EqAt.tuple_none i1 (room_here hu)
      | bool y => exact EqAt.tuple_bool y i1 (room_here hu)
      | int y u => exact EqAt.tuple_int y u i1 (room_here hu)
      | str y u => exact EqAt.tuple_str y u i1 (room_here hu)
      | list k1 k2 k3 k4 => exact EqAt.tuple_list i1 ⟨_, k1, k2, _, k3⟩ (room_here hu)
      | @tuple l' o' vs' n' ys bs₁ k1 k2 k3 k4 =>
        have i2 : s.heap.IsTuple l' vs' := ⟨o', k1, k2, n', k3⟩
        have m1 : vs.size = xs.length := by simpa using ReadsAll.length _ _ _ h4
        have m2 : vs'.size = ys.length := by simpa using ReadsAll.length _ _ _ k4
        by_cases hll : l = l'
        · subst hll
          rw [eqv_half hp (rdU (.tuple h1 h2 h3 h4) (.tuple k1 k2 k3 k4))]
          exact EqAt.same _
        · show EqAt A s (.ref l) (.ref l') (PyData.eqvAll xs ys)
          rw [← eqvAll_eq xs ys, ← m1, ← m2]
          refine EqAt.of_refs hll (RcAt.tuples i1 i2 (room_here hu) fun j j1 j2 => ?_)
          have q := eqAt_halfA xs ys A.in1 s vs.toList vs'.toList _ _ h4 k4 (hp.imp (by simp [PyData.plain]) (by simp [PyData.plain])) (room_in hu) j (by simpa using j1) (by simpa using j2)
          simpa using q
theorem eqAt_halfA : ∀ (xs ys : List PyData) (A : Around) (s : Shared) (vs ws : List Value) (as bs : List Addr), ReadsAll s.heap vs xs as → ReadsAll s.heap ws ys bs → (PyData.plainAll xs = true ∨ PyData.plainAll ys = true) →
    A.units + min (PyData.depthAll xs) (PyData.depthAll ys) < cLine → ∀ j (h1 : j < vs.length) (h2 : j < ws.length), EqAt A s vs[j] ws[j] (pairEq xs ys j)
  | [], _, _, _, _, _, _, _, ra, _, _, _, j, h1, _ => by cases ra; exact absurd h1 (Nat.not_lt_zero _)
  | _ :: _, [], _, _, _, _, _, _, _, rb, _, _, j, _, h2 => by cases rb; exact absurd h2 (Nat.not_lt_zero _)
  | x :: xs, y :: ys, A, s, _, _, _, _, ra, rb, hp, hu, j, h1, h2 => by
    have hp1 : x.plain = true ∨ y.plain = true := hp.imp (fun h => by simp [PyData.plainAll] at h; exact h.1) (fun h => by simp [PyData.plainAll] at h; exact h.1)
    have hp2 : PyData.plainAll xs = true ∨ PyData.plainAll ys = true := hp.imp (fun h => by simp [PyData.plainAll] at h; exact h.2) (fun h => by simp [PyData.plainAll] at h; exact h.2)
    cases ra with
    | cons r rs =>
      cases rb with
      | cons r' rs' =>
        cases j with
        | zero => exact eqAt_half x y A s _ _ _ _ r r' hp1 (room_head hu)
        | succ j => exact eqAt_halfA xs ys A s _ _ _ _ rs rs' hp2 (room_tail hu) j (Nat.lt_of_succ_lt_succ h1) (Nat.lt_of_succ_lt_succ h2)
end
end VQ

set_option Elab.async false
set_option linter.all false
set_option maxRecDepth 100000
set_option maxHeartbeats 1000000
/-! VQ3: ==, != themselves, in, not in (printed by gq3.py). -/
namespace VQ
open PySem PySem.SeqAt PySem.Spec
theorem RcAt_half {da db : PyData} {A : Around} {s : Shared} {a b : Value} {as bs : List Addr} (ra : Reads s.heap a da as) (rb : Reads s.heap b db bs) (hp : da.plain = true ∨ db.plain = true)
    (hu : A.units + min da.depth db.depth < cLine) : RcAt A s a b (PyData.eqv da db) := by
  cases ra with
  | none  =>
    cases rb with
    | dict k1 k2 k3 k4 k5 => exact RcAt_none_dict ⟨_, _, _, k1, k2, k3⟩ (room_here hu)
    | none  => exact RcAt.none_none 
    | bool y => exact RcAt.none_bool y
    | int y u => exact RcAt.none_int y u
    | str y u => exact RcAt.none_str y u
    | list k1 k2 k3 k4 => exact RcAt.none_list (s := s)  ⟨_, k1, k2, _, k3⟩ (room_here hu)
    | tuple k1 k2 k3 k4 => exact RcAt.none_tuple (s := s)  ⟨_, k1, k2, _, k3⟩ (room_here hu)
  | bool x =>
    cases rb with
    | dict k1 k2 k3 k4 k5 => exact RcAt_bool_dict ⟨_, _, _, k1, k2, k3⟩ (room_here hu)
    | none  => exact RcAt.bool_none x
    | bool y => exact RcAt.bool_bool x y
    | int y u => exact RcAt.bool_int x y u
    | str y u => exact RcAt.bool_str x y u
    | list k1 k2 k3 k4 => exact RcAt.bool_list (s := s) x ⟨_, k1, k2, _, k3⟩ (room_here hu)
    | tuple k1 k2 k3 k4 => exact RcAt.bool_tuple (s := s) x ⟨_, k1, k2, _, k3⟩ (room_here hu)
  | int x t =>
    cases rb with
    | dict k1 k2 k3 k4 k5 => exact RcAt_int_dict ⟨_, _, _, k1, k2, k3⟩ (room_here hu)
    | none  => exact RcAt.int_none x t
    | bool y => exact RcAt.int_bool x t y
    | int y u => exact RcAt.int_int x t y u
    | str y u => exact RcAt.int_str x t y u
    | list k1 k2 k3 k4 => exact RcAt.int_list (s := s) x t ⟨_, k1, k2, _, k3⟩ (room_here hu)
    | tuple k1 k2 k3 k4 => exact RcAt.int_tuple (s := s) x t ⟨_, k1, k2, _, k3⟩ (room_here hu)
  | str x t =>
    cases rb with
    | dict k1 k2 k3 k4 k5 => exact RcAt_str_dict ⟨_, _, _, k1, k2, k3⟩ (room_here hu)
    | none  => exact RcAt.str_none x t
    | bool y => exact RcAt.str_bool x t y
    | int y u => exact RcAt.str_int x t y u
    | str y u => exact RcAt.str_str x t y u
    | list k1 k2 k3 k4 => exact RcAt.str_list (s := s) x t ⟨_, k1, k2, _, k3⟩ (room_here hu)
    | tuple k1 k2 k3 k4 => exact RcAt.str_tuple (s := s) x t ⟨_, k1, k2, _, k3⟩ (room_here hu)
  | dict h1 h2 h3 h4 h5 =>
    have hp' : db.plain = true := hp.resolve_left (by simp [PyData.plain])
    have hd : IsDict s _ := ⟨_, _, _, h1, h2, h3⟩
    cases rb with
    | dict k1 k2 k3 k4 k5 => simp [PyData.plain] at hp'
    | none  => exact RcAt_dict_none hd (room_here hu)
    | bool y => exact RcAt_dict_bool hd (room_here hu)
    | int y u => exact RcAt_dict_int hd (room_here hu)
    | str y u => exact RcAt_dict_str hd (room_here hu)
    | list k1 k2 k3 k4 => exact RcAt_dict_list hd ⟨_, k1, k2, _, k3⟩ (room_here hu)
    | tuple k1 k2 k3 k4 => exact RcAt_dict_tuple hd ⟨_, k1, k2, _, k3⟩ (room_here hu)
  | @list l o vs n xs as₁ h1 h2 h3 h4 =>
    have i1 : s.heap.IsList l vs := ⟨o, h1, h2, n, h3⟩
    cases rb with
    | dict k1 k2 k3 k4 k5 => exact RcAt_list_dict ⟨_, _, _, k1, k2, k3⟩ i1 (room_here hu)
    | none  => exact RcAt.list_none  i1 (room_here hu)
    | bool y => exact RcAt.list_bool y i1 (room_here hu)
    | int y u => exact RcAt.list_int y u i1 (room_here hu)
    | str y u => exact RcAt.list_str y u i1 (room_here hu)
    | tuple k1 k2 k3 k4 => exact RcAt.list_tuple i1 ⟨_, k1, k2, _, k3⟩ (room_here hu)
    | @list l' o' vs' n' ys bs₁ k1 k2 k3 k4 =>
      have i2 : s.heap.IsList l' vs' := ⟨o', k1, k2, n', k3⟩
      have m1 : vs.size = xs.length := by simpa using ReadsAll.length _ _ _ h4
      have m2 : vs'.size = ys.length := by simpa using ReadsAll.length _ _ _ k4
      have he : ∀ j (j1 : j < vs.size) (j2 : j < vs'.size), EqAt A.in1 s vs[j] vs'[j] (pairEq xs ys j) := fun j j1 j2 => by
        have q := eqAt_halfA xs ys A.in1 s vs.toList vs'.toList _ _ h4 k4 (hp.imp (by simp [PyData.plain]) (by simp [PyData.plain])) (room_in hu) j (by simpa using j1) (by simpa using j2)
        simpa using q
      show RcAt A s (.ref l) (.ref l') (PyData.eqvAll xs ys)
      by_cases hsz : vs.size = vs'.size
      · rw [← eqvAll_same_length (by omega : xs.length = ys.length), ← m1]
        exact RcAt.lists i1 i2 hsz (room_here hu) he
      · rw [eqvAll_other_length (by omega : xs.length ≠ ys.length)]
        exact RcAt.lists_lengths i1 i2 (by simpa using hsz) (room_here hu)
  | @tuple l o vs n xs as₁ h1 h2 h3 h4 =>
    have i1 : s.heap.IsTuple l vs := ⟨o, h1, h2, n, h3⟩
    cases rb with
    | dict k1 k2 k3 k4 k5 => exact RcAt_tuple_dict ⟨_, _, _, k1, k2, k3⟩ i1 (room_here hu)
    | none  => exact RcAt.tuple_none  i1 (room_here hu)
    | bool y => exact RcAt.tuple_bool y i1 (room_here hu)
    | int y u => exact RcAt.tuple_int y u i1 (room_here hu)
    | str y u => exact RcAt.tuple_str y u i1 (room_here hu)
    | list k1 k2 k3 k4 => exact RcAt.tuple_list i1 ⟨_, k1, k2, _, k3⟩ (room_here hu)
    | @tuple l' o' vs' n' ys bs₁ k1 k2 k3 k4 =>
      have i2 : s.heap.IsTuple l' vs' := ⟨o', k1, k2, n', k3⟩
      have m1 : vs.size = xs.length := by simpa using ReadsAll.length _ _ _ h4
      have m2 : vs'.size = ys.length := by simpa using ReadsAll.length _ _ _ k4
      have he : ∀ j (j1 : j < vs.size) (j2 : j < vs'.size), EqAt A.in1 s vs[j] vs'[j] (pairEq xs ys j) := fun j j1 j2 => by
        have q := eqAt_halfA xs ys A.in1 s vs.toList vs'.toList _ _ h4 k4 (hp.imp (by simp [PyData.plain]) (by simp [PyData.plain])) (room_in hu) j (by simpa using j1) (by simpa using j2)
        simpa using q
      show RcAt A s (.ref l) (.ref l') (PyData.eqvAll xs ys)
      rw [← eqvAll_eq xs ys, ← m1, ← m2]
      exact RcAt.tuples i1 i2 (room_here hu) he
theorem RcNeAt_half {da db : PyData} {A : Around} {s : Shared} {a b : Value} {as bs : List Addr} (ra : Reads s.heap a da as) (rb : Reads s.heap b db bs) (hp : da.plain = true ∨ db.plain = true)
    (hu : A.units + min da.depth db.depth < cLine) : RcNeAt A s a b (!PyData.eqv da db) := by
  cases ra with
  | none  =>
    cases rb with
    | dict k1 k2 k3 k4 k5 => exact RcNeAt_none_dict ⟨_, _, _, k1, k2, k3⟩ (room_here hu)
    | none  => exact RcNeAt.none_none 
    | bool y => exact RcNeAt.none_bool y
    | int y u => exact RcNeAt.none_int y u
    | str y u => exact RcNeAt.none_str y u
    | list k1 k2 k3 k4 => exact RcNeAt.none_list (s := s)  ⟨_, k1, k2, _, k3⟩ (room_here hu)
    | tuple k1 k2 k3 k4 => exact RcNeAt.none_tuple (s := s)  ⟨_, k1, k2, _, k3⟩ (room_here hu)
  | bool x =>
    cases rb with
    | dict k1 k2 k3 k4 k5 => exact RcNeAt_bool_dict ⟨_, _, _, k1, k2, k3⟩ (room_here hu)
    | none  => exact RcNeAt.bool_none x
    | bool y => exact RcNeAt.bool_bool x y
    | int y u => exact RcNeAt.bool_int x y u
    | str y u => exact RcNeAt.bool_str x y u
    | list k1 k2 k3 k4 => exact RcNeAt.bool_list (s := s) x ⟨_, k1, k2, _, k3⟩ (room_here hu)
    | tuple k1 k2 k3 k4 => exact RcNeAt.bool_tuple (s := s) x ⟨_, k1, k2, _, k3⟩ (room_here hu)
  | int x t =>
    cases rb with
    | dict k1 k2 k3 k4 k5 => exact RcNeAt_int_dict ⟨_, _, _, k1, k2, k3⟩ (room_here hu)
    | none  => exact RcNeAt.int_none x t
    | bool y => exact RcNeAt.int_bool x t y
    | int y u => exact RcNeAt.int_int x t y u
    | str y u => exact RcNeAt.int_str x t y u
    | list k1 k2 k3 k4 => exact RcNeAt.int_list (s := s) x t ⟨_, k1, k2, _, k3⟩ (room_here hu)
    | tuple k1 k2 k3 k4 => exact RcNeAt.int_tuple (s := s) x t ⟨_, k1, k2, _, k3⟩ (room_here hu)
  | str x t =>
    cases rb with
    | dict k1 k2 k3 k4 k5 => exact RcNeAt_str_dict ⟨_, _, _, k1, k2, k3⟩ (room_here hu)
    | none  => exact RcNeAt.str_none x t
    | bool y => exact RcNeAt.str_bool x t y
    | int y u => exact RcNeAt.str_int x t y u
    | str y u => exact RcNeAt.str_str x t y u
    | list k1 k2 k3 k4 => exact RcNeAt.str_list (s := s) x t ⟨_, k1, k2, _, k3⟩ (room_here hu)
    | tuple k1 k2 k3 k4 => exact RcNeAt.str_tuple (s := s) x t ⟨_, k1, k2, _, k3⟩ (room_here hu)
  | dict h1 h2 h3 h4 h5 =>
    have hp' : db.plain = true := hp.resolve_left (by simp [PyData.plain])
    have hd : IsDict s _ := ⟨_, _, _, h1, h2, h3⟩
    cases rb with
    | dict k1 k2 k3 k4 k5 => simp [PyData.plain] at hp'
    | none  => exact RcNeAt_dict_none hd (room_here hu)
    | bool y => exact RcNeAt_dict_bool hd (room_here hu)
    | int y u => exact RcNeAt_dict_int hd (room_here hu)
    | str y u => exact RcNeAt_dict_str hd (room_here hu)
    | list k1 k2 k3 k4 => exact RcNeAt_dict_list hd ⟨_, k1, k2, _, k3⟩ (room_here hu)
    | tuple k1 k2 k3 k4 => exact RcNeAt_dict_tuple hd ⟨_, k1, k2, _, k3⟩ (room_here hu)
  | @list l o vs n xs as₁ h1 h2 h3 h4 =>
    have i1 : s.heap.IsList l vs := ⟨o, h1, h2, n, h3⟩
    cases rb with
    | dict k1 k2 k3 k4 k5 => exact RcNeAt_list_dict ⟨_, _, _, k1, k2, k3⟩ i1 (room_here hu)
    | none  => exact RcNeAt.list_none  i1 (room_here hu)
    | bool y => exact RcNeAt.list_bool y i1 (room_here hu)
    | int y u => exact RcNeAt.list_int y u i1 (room_here hu)
    | str y u => exact RcNeAt.list_str y u i1 (room_here hu)
    | tuple k1 k2 k3 k4 => exact RcNeAt.list_tuple i1 ⟨_, k1, k2, _, k3⟩ (room_here hu)
    | @list l' o' vs' n' ys bs₁ k1 k2 k3 k4 =>
      have i2 : s.heap.IsList l' vs' := ⟨o', k1, k2, n', k3⟩
      have m1 : vs.size = xs.length := by simpa using ReadsAll.length _ _ _ h4
      have m2 : vs'.size = ys.length := by simpa using ReadsAll.length _ _ _ k4
      have he : ∀ j (j1 : j < vs.size) (j2 : j < vs'.size), EqAt A.in1 s vs[j] vs'[j] (pairEq xs ys j) := fun j j1 j2 => by
        have q := eqAt_halfA xs ys A.in1 s vs.toList vs'.toList _ _ h4 k4 (hp.imp (by simp [PyData.plain]) (by simp [PyData.plain])) (room_in hu) j (by simpa using j1) (by simpa using j2)
        simpa using q
      show RcNeAt A s (.ref l) (.ref l') (!PyData.eqvAll xs ys)
      by_cases hsz : vs.size = vs'.size
      · rw [← eqvAll_same_length (by omega : xs.length = ys.length), ← m1]
        exact RcNeAt.lists i1 i2 hsz (room_here hu) he
      · rw [eqvAll_other_length (by omega : xs.length ≠ ys.length)]
        exact RcNeAt.lists_lengths i1 i2 (by simpa using hsz) (room_here hu)
  | @tuple l o vs n xs as₁ h1 h2 h3 h4 =>
    have i1 : s.heap.IsTuple l vs := ⟨o, h1, h2, n, h3⟩
    cases rb with
    | dict k1 k2 k3 k4 k5 => exact RcNeAt_tuple_dict ⟨_, _, _, k1, k2, k3⟩ i1 (room_here hu)
    | none  => exact RcNeAt.tuple_none  i1 (room_here hu)
    | bool y => exact RcNeAt.tuple_bool y i1 (room_here hu)
    | int y u => exact RcNeAt.tuple_int y u i1 (room_here hu)
    | str y u => exact RcNeAt.tuple_str y u i1 (room_here hu)
    | list k1 k2 k3 k4 => exact RcNeAt.tuple_list i1 ⟨_, k1, k2, _, k3⟩ (room_here hu)
    | @tuple l' o' vs' n' ys bs₁ k1 k2 k3 k4 =>
      have i2 : s.heap.IsTuple l' vs' := ⟨o', k1, k2, n', k3⟩
      have m1 : vs.size = xs.length := by simpa using ReadsAll.length _ _ _ h4
      have m2 : vs'.size = ys.length := by simpa using ReadsAll.length _ _ _ k4
      have he : ∀ j (j1 : j < vs.size) (j2 : j < vs'.size), EqAt A.in1 s vs[j] vs'[j] (pairEq xs ys j) := fun j j1 j2 => by
        have q := eqAt_halfA xs ys A.in1 s vs.toList vs'.toList _ _ h4 k4 (hp.imp (by simp [PyData.plain]) (by simp [PyData.plain])) (room_in hu) j (by simpa using j1) (by simpa using j2)
        simpa using q
      show RcNeAt A s (.ref l) (.ref l') (!PyData.eqvAll xs ys)
      rw [← eqvAll_eq xs ys, ← m1, ← m2]
      exact RcNeAt.tuples i1 i2 (room_here hu) he
theorem readOf_U {h : Heap} {v : Value} {d : PyData} {as : List Addr} (r : Reads h v d as) : readOf h v = d := by
  have hx : ∃ d as, Reads h v d as := ⟨d, as, r⟩
  unfold readOf
  rw [dif_pos hx]
  obtain ⟨bs, q⟩ := hx.choose_spec
  exact rdU q r
theorem readOf_A {h : Heap} : ∀ {vs : List Value} {xs : List PyData} {as : List Addr}, ReadsAll h vs xs as → vs.map (readOf h) = xs
  | _, _, _, .nil => rfl
  | _, _, _, .cons p q => by rw [List.map_cons, readOf_U p, readOf_A q]
theorem memA {h : Heap} : ∀ {vs : List Value} {xs : List PyData} {as : List Addr}, ReadsAll h vs xs as → ∀ y ∈ vs, ∃ d bs, Reads h y d bs ∧ d ∈ xs ∧ d.depth ≤ PyData.depthAll xs
  | _, _, _, .nil, y, m => by cases m
  | _, _, _, .cons p q, y, m => by
    rcases List.mem_cons.mp m with rfl | m
    · exact ⟨_, _, p, List.mem_cons_self, Nat.le_max_left _ _⟩
    · obtain ⟨d, bs, r, hm, hle⟩ := memA q y m
      exact ⟨d, bs, r, List.mem_cons_of_mem _ hm, Nat.le_trans hle (Nat.le_max_right _ _)⟩
theorem plainAll_mem {xs : List PyData} (h : PyData.plainAll xs = true) : ∀ d ∈ xs, d.plain = true := by
  induction xs with
  | nil => intro d m; cases m
  | cons x xs ih =>
    simp [PyData.plainAll] at h
    intro d m
    rcases List.mem_cons.mp m with rfl | m
    · exact h.1
    · exact ih h.2 d m
section
variable {prog : Program} {w : World} {A : Around} {E : Value → Shared → Prop} {s : Shared}
theorem items_half {vs : Array Value} {xs : List PyData} {as bs : List Addr} {x : Value} {d : PyData} (rs : ReadsAll s.heap vs.toList xs as) (rx : Reads s.heap x d bs) (hp : PyData.plainAll xs = true ∨ d.plain = true)
    (hu : A.units + 1 + min (PyData.depthAll xs) d.depth < cLine) : ∀ y, y ∈ vs → EqAt A.in1 s y x (PyData.eqv (readOf s.heap y) d) := fun y hy => by
  obtain ⟨dy, cs, ry, hm, hle⟩ := memA rs y (by simpa using hy)
  rw [readOf_U ry]
  refine eqAt_half dy d A.in1 s y x _ _ ry rx (hp.imp (fun h => plainAll_mem h _ hm) id) ?_
  have h1 : min dy.depth d.depth ≤ min (PyData.depthAll xs) d.depth := Nat.le_min.mpr ⟨Nat.le_trans (Nat.min_le_left _ _) hle, Nat.min_le_right _ _⟩
  show A.units + 1 + min dy.depth d.depth < cLine
  omega
theorem any_half {vs : Array Value} {xs : List PyData} {as : List Addr} {d : PyData} (rs : ReadsAll s.heap vs.toList xs as) :
    vs.any (fun y => PyData.eqv (readOf s.heap y) d) = xs.any (fun y => PyData.eqv y d) := by
  rw [← readOf_A rs, List.any_map, ← Array.any_toList]
  rfl
theorem in_list_half {c x : Value} {xs : List PyData} {d : PyData} {as bs : List Addr} {Q : Value → Shared → Prop} (rc : Reads s.heap c (.list xs) as) (rx : Reads s.heap x d bs) (hp : PyData.plainAll xs = true ∨ d.plain = true)
    (hu : A.units + 1 + min (PyData.depthAll xs) d.depth < cLine) (h : Q (.bool (xs.any fun y => PyData.eqv y d)) s) : wpAny (model prog w) A (compareOp .In x c) Q E s := by
  cases rc with
  | list h1 h2 h3 h4 => exact in_listAt _ ⟨_, h1, h2, _, h3⟩ (items_half h4 rx hp hu) (by rw [any_half h4]; exact h)
theorem notIn_list_half {c x : Value} {xs : List PyData} {d : PyData} {as bs : List Addr} {Q : Value → Shared → Prop} (rc : Reads s.heap c (.list xs) as) (rx : Reads s.heap x d bs) (hp : PyData.plainAll xs = true ∨ d.plain = true)
    (hu : A.units + 1 + min (PyData.depthAll xs) d.depth < cLine) (h : Q (.bool (!xs.any fun y => PyData.eqv y d)) s) : wpAny (model prog w) A (compareOp .NotIn x c) Q E s := by
  cases rc with
  | list h1 h2 h3 h4 => exact notIn_listAt _ ⟨_, h1, h2, _, h3⟩ (items_half h4 rx hp hu) (by rw [any_half h4]; exact h)
theorem in_tuple_half {c x : Value} {xs : List PyData} {d : PyData} {as bs : List Addr} {Q : Value → Shared → Prop} (rc : Reads s.heap c (.tuple xs) as) (rx : Reads s.heap x d bs) (hp : PyData.plainAll xs = true ∨ d.plain = true)
    (hu : A.units + 1 + min (PyData.depthAll xs) d.depth < cLine) (h : Q (.bool (xs.any fun y => PyData.eqv y d)) s) : wpAny (model prog w) A (compareOp .In x c) Q E s := by
  cases rc with
  | tuple h1 h2 h3 h4 => exact in_tupleAt _ ⟨_, h1, h2, _, h3⟩ (items_half h4 rx hp hu) (by rw [any_half h4]; exact h)
theorem notIn_tuple_half {c x : Value} {xs : List PyData} {d : PyData} {as bs : List Addr} {Q : Value → Shared → Prop} (rc : Reads s.heap c (.tuple xs) as) (rx : Reads s.heap x d bs) (hp : PyData.plainAll xs = true ∨ d.plain = true)
    (hu : A.units + 1 + min (PyData.depthAll xs) d.depth < cLine) (h : Q (.bool (!xs.any fun y => PyData.eqv y d)) s) : wpAny (model prog w) A (compareOp .NotIn x c) Q E s := by
  cases rc with
  | tuple h1 h2 h3 h4 => exact notIn_tupleAt _ ⟨_, h1, h2, _, h3⟩ (items_half h4 rx hp hu) (by rw [any_half h4]; exact h)
end
end VQ

set_option Elab.async false
set_option linter.all false
set_option maxRecDepth 100000
/-! VL0: data trees over the hand layer's abstract heap; what is owned; results. -/
namespace VL
open PySem L2

abbrev D := PyData
/-- a tuple that bears no dict of its own -/
def SqP (K : PySem.W.Frag) (G : Hp) (a : Addr) (vs : List V) : Prop :=
  (∃ o, G a = some (.frz o (.tup vs)) ∧ o.cls = .type "tuple" ∧ o.dict = none) ∨
    ∃ (o : Obj) (its : Array Value) (n : Nat), K.lookup a = some o ∧ o.cls = .type "tuple" ∧ o.dict = none ∧ o.data = .seq its n ∧ its.size ≤ sizeLine ∧ Vals vs its.toList
theorem SqP.sqT {K : PySem.W.Frag} {G : Hp} {a : Addr} {vs : List V} (h : SqP K G a vs) : SqT K G a vs := by
  rcases h with ⟨o, h, _⟩ | ⟨o, its, n, h1, h2, _, h3, h4, h5⟩
  · exact .inl (.inr ⟨o, h⟩)
  · exact .inr ⟨o, its, n, h1, h2, h3, h4, h5⟩
def kD : Key → D
  | .inl i => .int i
  | .inr x => .str x
mutual
/-- the value v stands for the data d, by what G holds -/
inductive Rep (K : PySem.W.Frag) (G : Hp) : V → D → Prop where
  | non : Rep K G .non .none
  | bl (b : Bool) : Rep K G (.bl b) (.bool b)
  | int (i : Int) : Rep K G (.int i) (.int i)
  | str (x : Str) : Rep K G (.str x) (.str x)
  | tup {a : Addr} {vs : List V} {ds : List D} : SqP K G a vs → RepL K G vs ds → Rep K G (.ref a) (.tuple ds)
  | lst {a : Addr} {vs : List V} {ds : List D} : G a = some (.lst vs) → RepL K G vs ds → Rep K G (.ref a) (.list ds)
  | dk {a : Addr} {o : Obj} {kvs : List (Key × V)} {ds : List (D × D)} : G a = some (.frz o (.dK kvs)) → RepK K G kvs ds → Rep K G (.ref a) (.dict ds)
inductive RepL (K : PySem.W.Frag) (G : Hp) : List V → List D → Prop where
  | nil : RepL K G [] []
  | cons {v : V} {d : D} {vs : List V} {ds : List D} : Rep K G v d → RepL K G vs ds → RepL K G (v :: vs) (d :: ds)
inductive RepK (K : PySem.W.Frag) (G : Hp) : List (Key × V) → List (D × D) → Prop where
  | nil : RepK K G [] []
  | cons {k : Key} {v : V} {d : D} {vs : List (Key × V)} {ds : List (D × D)} : Rep K G v d → RepK K G vs ds → RepK K G ((k, v) :: vs) ((kD k, d) :: ds)
end

section
variable {K : PySem.W.Frag} {G G' H H' : Hp}
theorem rd_mono (s : Same G G') {a : Addr} {u : HO} (h : Rd G a u) : Rd G' a u := by
  rcases h with h | ⟨o, h⟩
  · exact .inl (s _ _ h)
  · exact .inr ⟨o, s _ _ h⟩
theorem sqT_mono (s : Same G G') {a : Addr} {xs : List V} (h : SqT K G a xs) : SqT K G' a xs := by
  rcases h with h | h
  · exact .inl (rd_mono s h)
  · exact .inr h
theorem sqP_mono (s : Same G G') {a : Addr} {xs : List V} (h : SqP K G a xs) : SqP K G' a xs := by
  rcases h with ⟨o, h, q⟩ | h
  · exact .inl ⟨o, s _ _ h, q⟩
  · exact .inr h
theorem sqL_mono (s : Same G G') {a : Addr} {xs : List V} (h : SqL K G a xs) : SqL K G' a xs := by
  rcases h with h | h
  · exact .inl (rd_mono s h)
  · exact .inr h
mutual
theorem Rep.mono (s : Same G G') : ∀ {v : V} {d : D}, Rep K G v d → Rep K G' v d
  | _, _, .non => .non
  | _, _, .bl b => .bl b
  | _, _, .int i => .int i
  | _, _, .str x => .str x
  | _, _, .tup h r => .tup (sqP_mono s h) (RepL.mono s r)
  | _, _, .lst h r => .lst (s _ _ h) (RepL.mono s r)
  | _, _, .dk h r => .dk (s _ _ h) (RepK.mono s r)
theorem RepL.mono (s : Same G G') : ∀ {v : List V} {d : List D}, RepL K G v d → RepL K G' v d
  | _, _, .nil => .nil
  | _, _, .cons h r => .cons (Rep.mono s h) (RepL.mono s r)
theorem RepK.mono (s : Same G G') : ∀ {v : List (Key × V)} {d : List (D × D)}, RepK K G v d → RepK K G' v d
  | _, _, .nil => .nil
  | _, _, .cons h r => .cons (Rep.mono s h) (RepK.mono s r)
end
theorem RepL.length : ∀ {v : List V} {d : List D}, RepL K G v d → v.length = d.length
  | _, _, .nil => rfl
  | _, _, .cons _ r => by simp [RepL.length r]
theorem RepL.get : ∀ {vs : List V} {ds : List D} {i : Nat} {d : D}, RepL K G vs ds → ds[i]? = some d → ∃ v, vs[i]? = some v ∧ Rep K G v d
  | _, _, _, _, .nil, e => by simp at e
  | _, _, 0, _, .cons h _, e => by simp at e; subst e; exact ⟨_, rfl, h⟩
  | _, _, i + 1, d, .cons _ r, e => by
    obtain ⟨v, h1, h2⟩ := RepL.get (i := i) (d := d) r (by simpa using e)
    exact ⟨v, by simpa using h1, h2⟩
theorem RepL.getV : ∀ {vs : List V} {ds : List D} {i : Nat} {v : V}, RepL K G vs ds → vs[i]? = some v → ∃ d, ds[i]? = some d ∧ Rep K G v d
  | _, _, _, _, .nil, e => by simp at e
  | _, _, 0, _, .cons h _, e => by simp at e; subst e; exact ⟨_, rfl, h⟩
  | _, _, i + 1, d, .cons _ r, e => by
    obtain ⟨v, h1, h2⟩ := RepL.getV (i := i) (v := d) r (by simpa using e)
    exact ⟨v, by simpa using h1, h2⟩
theorem RepL.append : ∀ {vs us : List V} {ds es : List D}, RepL K G vs ds → RepL K G us es → RepL K G (vs ++ us) (ds ++ es)
  | _, _, _, _, .nil, s => s
  | _, _, _, _, .cons r t, s => .cons r (RepL.append t s)
theorem RepL.take : ∀ {vs : List V} {ds : List D} (n : Nat), RepL K G vs ds → RepL K G (vs.take n) (ds.take n)
  | _, _, 0, _ => .nil
  | _, _, _ + 1, .nil => .nil
  | _, _, n + 1, .cons r t => .cons r (RepL.take n t)
theorem RepL.drop : ∀ {vs : List V} {ds : List D} (n : Nat), RepL K G vs ds → RepL K G (vs.drop n) (ds.drop n)
  | _, _, 0, r => r
  | _, _, _ + 1, .nil => .nil
  | _, _, n + 1, .cons _ t => RepL.drop n t
theorem RepL.set : ∀ {vs : List V} {ds : List D} (n : Nat) {v : V} {d : D}, RepL K G vs ds → Rep K G v d → RepL K G (vs.set n v) (ds.set n d)
  | _, _, 0, _, _, .cons _ t, h => .cons h t
  | _, _, _, _, _, .nil, h => .nil
  | _, _, n + 1, _, _, .cons r t, h => .cons r (RepL.set n t h)
theorem RepL.reverse {vs : List V} {ds : List D} (h : RepL K G vs ds) : RepL K G vs.reverse ds.reverse := by
  induction vs generalizing ds with
  | nil => cases h; exact .nil
  | cons v vs ih =>
    cases h with
    | cons h r => simp only [List.reverse_cons]; exact (ih r).append (.cons h .nil)
end

/- no object that can change stands in it -/
mutual
def immut : D → Bool
  | .none => true
  | .bool _ => true
  | .int _ => true
  | .str _ => true
  | .tuple xs => immutL xs
  | _ => false
def immutL : List D → Bool
  | [] => true
  | x :: xs => immut x && immutL xs
end
theorem immutL_all : ∀ xs : List D, immutL xs = xs.all immut
  | [] => rfl
  | x :: xs => by rw [immutL, List.all_cons, immutL_all xs]

/- nothing in it is changed any more: the same, and dicts that are frozen -/
mutual
def immutF : D → Bool
  | .tuple xs => immutFL xs
  | .dict kvs => immutFK kvs
  | .list _ => false
  | _ => true
def immutFL : List D → Bool
  | [] => true
  | x :: xs => immutF x && immutFL xs
def immutFK : List (D × D) → Bool
  | [] => true
  | (_, x) :: xs => immutF x && immutFK xs
end
mutual
theorem immut_F : ∀ {d : D}, immut d = true → immutF d = true
  | .none, _ => by simp [immutF]
  | .bool _, _ => by simp [immutF]
  | .int _, _ => by simp [immutF]
  | .str _, _ => by simp [immutF]
  | .tuple xs, h => by
    simp only [immut] at h
    simp only [immutF]
    exact immutL_F h
  | .list _, h => by simp [immut] at h
  | .dict _, h => by simp [immut] at h
theorem immutL_F : ∀ {ds : List D}, immutL ds = true → immutFL ds = true
  | [], _ => by simp [immutFL]
  | d :: ds, h => by
    simp only [immutL, Bool.and_eq_true] at h
    simp only [immutFL, Bool.and_eq_true]
    exact ⟨immut_F h.1, immutL_F h.2⟩
end
/-- only the tuples (and what never changes) of a heap -/
def tups (G : Hp) : Hp := fun a => match G a with
  | some (.tup xs) => some (.tup xs)
  | some (.frz o u) => some (.frz o u)
  | _ => none
section
variable {K : PySem.W.Frag} {G G' H H' : Hp}
theorem tups_same : Same (tups G) G := fun a o h => by
  unfold tups at h
  split at h <;> first | (rename_i e; rw [e]; exact h) | cases h
theorem sqP_tups {a : Addr} {xs : List V} (h : SqP K G a xs) : SqP K (tups G) a xs := by
  rcases h with ⟨o, h, q⟩ | h
  · exact .inl ⟨o, by unfold tups; rw [h], q⟩
  · exact .inr h
mutual
theorem Rep.tupsF : ∀ {v : V} {d : D}, Rep K G v d → immutF d = true → Rep K (VL.tups G) v d
  | _, _, .non, _ => .non
  | _, _, .bl b, _ => .bl b
  | _, _, .int i, _ => .int i
  | _, _, .str x, _ => .str x
  | _, _, .tup h r, e => .tup (sqP_tups h) (RepL.tupsF r (by simpa [immutF] using e))
  | _, _, .lst h r, e => by simp [immutF] at e
  | _, _, .dk h r, e => .dk (by unfold VL.tups; rw [h]) (RepK.tupsF r (by simpa [immutF] using e))
theorem RepL.tupsF : ∀ {v : List V} {d : List D}, RepL K G v d → immutFL d = true → RepL K (VL.tups G) v d
  | _, _, .nil, _ => .nil
  | _, _, .cons h r, e => by
    simp only [immutFL, Bool.and_eq_true] at e
    exact .cons (Rep.tupsF h e.1) (RepL.tupsF r e.2)
theorem RepK.tupsF : ∀ {v : List (Key × V)} {d : List (D × D)}, RepK K G v d → immutFK d = true → RepK K (VL.tups G) v d
  | _, _, .nil, _ => .nil
  | _, _, .cons h r, e => by
    simp only [immutFK, Bool.and_eq_true] at e
    exact .cons (Rep.tupsF h e.1) (RepK.tupsF r e.2)
end
theorem Rep.tups {v : V} {d : D} (r : Rep K G v d) (e : immut d = true) : Rep K (VL.tups G) v d := r.tupsF (immut_F e)

end

mutual
/-- owned to a depth: the objects at L, in H but hidden from G, are reached from here alone -/
inductive Own (K : PySem.W.Frag) (H G : Hp) : Nat → V → D → List Addr → Prop where
  | rep {v : V} {d : D} : Rep K G v d → Own K H G 0 v d []
  | imm {n : Nat} {v : V} {d : D} : immut d = true → Rep K G v d → Own K H G n v d []
  | lst {n : Nat} {a : Addr} {vs : List V} {ds : List D} {L : List Addr} : H a = some (.lst vs) → G a = none → OwnL K H G n vs ds L → Own K H G (n + 1) (.ref a) (.list ds) (a :: L)
  | tup {n : Nat} {a : Addr} {vs : List V} {ds : List D} {L : List Addr} : SqP K G a vs → OwnL K H G (n + 1) vs ds L → Own K H G (n + 1) (.ref a) (.tuple ds) L
  | dk {a : Addr} {kvs : List (Key × V)} {ds : List (D × D)} : H a = some (.dK kvs) → G a = none → RepK K G kvs ds → Own K H G 100 (.ref a) (.dict ds) [a]
inductive OwnL (K : PySem.W.Frag) (H G : Hp) : Nat → List V → List D → List Addr → Prop where
  | nil {n : Nat} : OwnL K H G n [] [] []
  | cons {n : Nat} {v : V} {d : D} {vs : List V} {ds : List D} {L M : List Addr} : Own K H G n v d L → OwnL K H G n vs ds M → OwnL K H G n (v :: vs) (d :: ds) (L ++ M)
end

section
variable {K : PySem.W.Frag} {G G' H H' : Hp}
/- H keeps what stands at L, and its tuples -/
mutual
theorem Own.mono (s : Same G G') : ∀ {n : Nat} {v : V} {d : D} {L : List Addr}, Own K H G n v d L → (∀ a ∈ L, H' a = H a ∧ G' a = none) → Own K H' G' n v d L
  | _, _, _, _, .rep r, _ => .rep (r.mono s)
  | _, _, _, _, .imm e r, _ => .imm e (r.mono s)
  | _, _, _, _, .lst h g r, k => .lst (by rw [(k _ List.mem_cons_self).1]; exact h) (k _ List.mem_cons_self).2 (OwnL.mono s r fun a m => k a (List.mem_cons_of_mem _ m))
  | _, _, _, _, .tup h r, k => .tup (sqP_mono s h) (OwnL.mono s r k)
  | _, _, _, _, .dk h g r, k => .dk (by rw [(k _ List.mem_cons_self).1]; exact h) (k _ List.mem_cons_self).2 (r.mono s)
theorem OwnL.mono (s : Same G G') : ∀ {n : Nat} {v : List V} {d : List D} {L : List Addr}, OwnL K H G n v d L → (∀ a ∈ L, H' a = H a ∧ G' a = none) → OwnL K H' G' n v d L
  | _, _, _, _, .nil, _ => .nil
  | _, _, _, _, .cons h r, k => .cons (Own.mono s h fun a m => k a (List.mem_append_left _ m)) (OwnL.mono s r fun a m => k a (List.mem_append_right _ m))
end
/-- the heap G with what H holds at L -/
def shw (G H : Hp) (L : List Addr) : Hp := fun a => match G a with
  | some o => some o
  | none => if a ∈ L then H a else none
theorem shw_l {L : List Addr} : Same G (shw G H L) := fun a o e => by unfold shw; rw [e]
theorem shw_h {L : List Addr} (s : Same G H) : Same (shw G H L) H := fun a o e => by
  unfold shw at e
  split at e
  · rename_i q; rw [← e]; exact s _ _ q
  · split at e
    · exact e
    · cases e
theorem shw_at {L : List Addr} {a : Addr} (hm : a ∈ L) (g : G a = none) : shw G H L a = H a := by unfold shw; rw [g]; simp [hm]
theorem shw_not {L : List Addr} {a : Addr} (hm : a ∉ L) : shw G H L a = G a := by
  unfold shw
  split
  · rename_i e; rw [e]
  · rename_i e; simp [hm, e]
/- what is owned is there to be read, once it is shown -/
mutual
theorem Own.read (s : Same G H) {M : List Addr} : ∀ {n : Nat} {v : V} {d : D} {L : List Addr}, n < 100 → Own K H G n v d L → (∀ a ∈ L, a ∈ M) → Rep K (shw G H M) v d
  | _, _, _, _, _, .rep r, _ => r.mono shw_l
  | _, _, _, _, _, .imm _ r, _ => r.mono shw_l
  | _, _, _, _, hn, .lst h g r, k => .lst ((shw_at (k _ List.mem_cons_self) g).trans h) (OwnL.read s (by omega) r fun a m => k a (List.mem_cons_of_mem _ m))
  | _, _, _, _, hn, .tup h r, k => .tup (sqP_mono shw_l h) (OwnL.read s hn r k)
  | _, _, _, _, hn, .dk h g r, k => absurd hn (by decide)
theorem OwnL.read (s : Same G H) {M : List Addr} : ∀ {n : Nat} {v : List V} {d : List D} {L : List Addr}, n < 100 → OwnL K H G n v d L → (∀ a ∈ L, a ∈ M) → RepL K (shw G H M) v d
  | _, _, _, _, _, .nil, _ => .nil
  | _, _, _, _, hn, .cons h r, k => .cons (Own.read s hn h fun a m => k a (List.mem_append_left _ m)) (OwnL.read s hn r fun a m => k a (List.mem_append_right _ m))
end
/- what stands at the owned places is a list or a dict, hidden -/
mutual
theorem Own.objs : ∀ {n : Nat} {v : V} {d : D} {L : List Addr}, Own K H G n v d L → ∀ a ∈ L, G a = none ∧ (H a).isSome = true ∧ ∀ xs, H a ≠ some (.tup xs)
  | _, _, _, _, .rep r, _, m => by cases m
  | _, _, _, _, .imm _ r, _, m => by cases m
  | _, _, _, _, .lst h g r, a, m => by
    rcases List.mem_cons.mp m with rfl | m
    · exact ⟨g, by rw [h]; rfl, fun xs => by rw [h]; exact fun z => by cases z⟩
    · exact OwnL.objs r a m
  | _, _, _, _, .tup h r, a, m => OwnL.objs r a m
  | _, _, _, _, .dk h g r, a, m => by
    rw [List.mem_singleton.mp m]
    exact ⟨g, by rw [h]; rfl, fun xs => by rw [h]; exact fun z => by cases z⟩
theorem OwnL.objs : ∀ {n : Nat} {v : List V} {d : List D} {L : List Addr}, OwnL K H G n v d L → ∀ a ∈ L, G a = none ∧ (H a).isSome = true ∧ ∀ xs, H a ≠ some (.tup xs)
  | _, _, _, _, .nil, _, m => by cases m
  | _, _, _, _, .cons h r, a, m => (List.mem_append.mp m).elim (Own.objs h a) (OwnL.objs r a)
end
end
end VL

set_option Elab.async false
set_option linter.all false
set_option maxRecDepth 100000
/-! VL1: the state's reading over data; expressions. -/
namespace VL
open PySem L2

/-- a slot: unknown; owned to a depth (0: just read); a parameter's object, owned, that is handed back -/
inductive Kd where
  | un | ow (n : Nat) | io (n : Nat)
  deriving DecidableEq
def Kd.dep : Kd → Option Nat
  | .un => none
  | .ow n => some n
  | .io n => some n
abbrev Ctx := List Kd
/-- the entry's heaps; what of it may change; the objects handed in to be changed -/
structure Gh where
  H0 : Hp
  G0 : Hp
  A : List Addr
  io : Nat → Option V
def At (Γ : Ctx) (i n : Nat) : Prop := ∃ k, Γ[i]? = some k ∧ k.dep = some n
/-- what this def may change: what it made, what was handed in so -/
def Gh.own (O : Gh) (a : Addr) : Prop := O.H0 a = none ∨ a ∈ O.A

structure StR (K : PySem.W.Frag) (O : Gh) (Γ : Ctx) (H G : Hp) (σ : St) (env : List D) (L : Nat → List Addr) : Prop where
  gh : Same G H
  ls : σ.length = env.length
  lg : Γ.length = env.length
  slot : ∀ i n, At Γ i n → ∃ v d, σ[i]? = some (some v) ∧ env[i]? = some d ∧ Own K H G n v d (L i)
  nd : ∀ i n, At Γ i n → (L i).Nodup
  dj : ∀ i j n m, At Γ i n → At Γ j m → i ≠ j → ∀ a ∈ L i, a ∉ L j
  new : ∀ i n, At Γ i n → ∀ a ∈ L i, O.own a
  pres : ∀ b o, O.H0 b = some o → b ∉ O.A → H b = some o
  gn : ∀ a o, G a = some o → (O.G0 a).isSome = true ∨ O.own a
  io : ∀ i n, Γ[i]? = some (.io n) → ∃ v, O.io i = some v ∧ σ[i]? = some (some v)

/-- a value that has come, owned to the depth n -/
def VR (K : PySem.W.Frag) (O : Gh) (Γ : Ctx) (H G : Hp) (L : Nat → List Addr) (n : Nat) (v : V) (d : D) : Prop :=
  ∃ M, Own K H G n v d M ∧ M.Nodup ∧ (∀ a ∈ M, O.own a) ∧ ∀ i m, At Γ i m → ∀ a ∈ M, a ∉ L i
/-- what a step that changes nothing but makes new things leaves -/
structure Res (K : PySem.W.Frag) (G H : Hp) (n : Nat) (v : V) (d : D) (G' H' : Hp) : Prop where
  gg : Same G G'
  gh : Same G' H'
  hh : Same H H'
  new : ∀ a o, G' a = some o → G a = none → H a = none
  own : ∃ L, Own K H' G' n v d L ∧ L.Nodup ∧ ∀ a ∈ L, H a = none

section
variable {K : PySem.W.Frag} {O : Gh} {Γ : Ctx} {H H' G G' : Hp} {σ : St} {env : List D} {L : Nat → List Addr} {n : Nat} {v : V} {d : D}
theorem Own.zero {M : List Addr} (h : Own K H G 0 v d M) : M = [] ∧ Rep K G v d := by
  cases h with
  | rep r => exact ⟨rfl, r⟩
  | imm _ r => exact ⟨rfl, r⟩
theorem Res.of_rep (s : Same G H) (r : Rep K G v d) : Res K G H 0 v d G H := ⟨Same.refl _, s, Same.refl _, fun a o e n => (by rw [n] at e; cases e), [], .rep r, List.nodup_nil, fun a m => (by cases m)⟩
theorem Res.of_imm (s : Same G H) (e : immut d = true) (r : Rep K G v d) : Res K G H n v d G H := ⟨Same.refl _, s, Same.refl _, fun a o e n => (by rw [n] at e; cases e), [], .imm e r, List.nodup_nil, fun a m => (by cases m)⟩
theorem ownL0 {H1 : Hp} : ∀ {vs : List V} {ds : List D}, RepL K G vs ds → OwnL K H1 G 0 vs ds []
  | _, _, .nil => .nil
  | _, _, .cons h t => OwnL.cons (L := []) (M := []) (.rep h) (ownL0 t)
theorem repL0 {H1 : Hp} : ∀ {vs : List V} {ds : List D} {M : List Addr}, OwnL K H1 G 0 vs ds M → M = [] ∧ RepL K G vs ds
  | _, _, _, .nil => ⟨rfl, .nil⟩
  | _, _, _, .cons h t => by
    obtain ⟨rfl, r⟩ := h.zero
    obtain ⟨rfl, q⟩ := repL0 t
    exact ⟨rfl, .cons r q⟩
/-- a new list (its items as they are) -/
theorem Res.newL {p : Addr} {vs : List V} {ds : List D} (s : Same G H) (hp : H p = none) (r : RepL K G vs ds) : Res K G H 1 (.ref p) (.list ds) G (upd H p (.lst vs)) := by
  have hg : G p = none := s.free hp
  have hh : Same H (upd H p (.lst vs)) := fun b o e => by rw [upd_ne (ne_of_none e hp)]; exact e
  exact ⟨Same.refl _, s.trans hh, hh, fun a o e n => (by rw [n] at e; cases e), [p], .lst upd_same hg (ownL0 r), by simp, fun a m => by rw [List.mem_singleton.mp m]; exact hp⟩
/-- a new tuple -/
theorem Res.newT {p : Addr} {o : Obj} {vs : List V} {ds : List D} (s : Same G H) (hp : H p = none) (hc : o.cls = .type "tuple") (hd : o.dict = none) (r : RepL K G vs ds) : Res K G H 0 (.ref p) (.tuple ds) (upd G p (.frz o (.tup vs))) (upd H p (.frz o (.tup vs))) := by
  have hg : G p = none := s.free hp
  have gg : Same G (upd G p (.frz o (.tup vs))) := fun b o e => by rw [upd_ne (ne_of_none e hg)]; exact e
  have hh : Same H (upd H p (.frz o (.tup vs))) := fun b o e => by rw [upd_ne (ne_of_none e hp)]; exact e
  refine ⟨gg, fun b o e => ?_, hh, fun a o e n => ?_, [], .rep (.tup (.inl ⟨o, upd_same, hc, hd⟩) (r.mono gg)), List.nodup_nil, fun a m => (by cases m)⟩
  · by_cases hb : b = p
    · subst hb; rw [upd_same] at e ⊢; exact e
    · rw [upd_ne hb] at e ⊢; exact s _ _ e
  · by_cases hb : a = p
    · subst hb; exact hp
    · rw [upd_ne hb, n] at e; cases e
/-- a new dict -/
theorem Res.newD {p : Addr} {kvs : List (Key × V)} {ds : List (D × D)} (s : Same G H) (hp : H p = none) (r : RepK K G kvs ds) : Res K G H 100 (.ref p) (.dict ds) G (upd H p (.dK kvs)) := by
  have hg : G p = none := s.free hp
  have hh : Same H (upd H p (.dK kvs)) := fun b o e => by rw [upd_ne (ne_of_none e hp)]; exact e
  exact ⟨Same.refl _, s.trans hh, hh, fun a o e n => (by rw [n] at e; cases e), [p], .dk upd_same hg r, by simp, fun a m => by rw [List.mem_singleton.mp m]; exact hp⟩

theorem VR.rep (h : VR K O Γ H G L 0 v d) : Rep K G v d := by
  obtain ⟨M, o, _⟩ := h
  exact o.zero.2
theorem VR.of_rep (r : Rep K G v d) : VR K O Γ H G L 0 v d := ⟨[], .rep r, List.nodup_nil, fun a m => (by cases m), fun _ _ _ a m => (by cases m)⟩
/-- ahead of its new things the state stands -/
theorem StR.res (S : StR K O Γ H G σ env L) (R : Res K G H n v d G' H') : StR K O Γ H' G' σ env L ∧ VR K O Γ H' G' L n v d := by
  have ob : ∀ i m, At Γ i m → ∀ a ∈ L i, G a = none ∧ (H a).isSome = true := fun i m hi a ha => by
    obtain ⟨_, _, _, _, o⟩ := S.slot i m hi
    exact ⟨(o.objs a ha).1, (o.objs a ha).2.1⟩
  have hk : ∀ a, (H a).isSome = true → H' a = H a := fun a e => by
    cases q : H a with
    | none => rw [q] at e; cases e
    | some o => rw [R.hh _ _ q]
  refine ⟨⟨R.gh, S.ls, S.lg, fun i m hi => ?_, S.nd, S.dj, S.new, fun b o e hb => R.hh _ _ (S.pres b o e hb), fun a o e => ?_, S.io⟩, ?_⟩
  · obtain ⟨v', d', e1, e2, o⟩ := S.slot i m hi
    refine ⟨v', d', e1, e2, o.mono R.gg fun a ha => ⟨hk a (ob i m hi a ha).2, ?_⟩⟩
    cases q : G' a with
    | none => rfl
    | some u =>
      have z := R.new a u q (ob i m hi a ha).1
      have y := (ob i m hi a ha).2
      rw [z] at y; cases y
  · cases q : G a with
    | some u => exact S.gn a u q
    | none =>
      have z := R.new a o e q
      cases r : O.H0 a with
      | none => exact .inr (.inl r)
      | some u =>
        by_cases hm : a ∈ O.A
        · exact .inr (.inr hm)
        · rw [S.pres a u r hm] at z; cases z
  · obtain ⟨M, o, nd, fr⟩ := R.own
    refine ⟨M, o, nd, fun a ha => ?_, fun i m hi a ha hl => ?_⟩
    · cases r : O.H0 a with
      | none => exact .inl r
      | some u =>
        by_cases hm : a ∈ O.A
        · exact .inr hm
        · have z := fr a ha
          rw [S.pres a u r hm] at z; cases z
    · have y := (ob i m hi a hl).2
      rw [fr a ha] at y; cases y
/-- an owned value that has come is shown -/
theorem StR.shown (S : StR K O Γ H G σ env L) (hn : n < 100) (hv : VR K O Γ H G L n v d) : ∃ G', Same G G' ∧ StR K O Γ H G' σ env L ∧ Rep K G' v d := by
  obtain ⟨M, o, nd, ow, dj⟩ := hv
  refine ⟨shw G H M, shw_l, ⟨shw_h S.gh, S.ls, S.lg, fun i m hi => ?_, S.nd, S.dj, S.new, S.pres, fun a u e => ?_, S.io⟩, Own.read S.gh hn o fun _ h => h⟩
  · obtain ⟨v', d', e1, e2, o'⟩ := S.slot i m hi
    refine ⟨v', d', e1, e2, o'.mono shw_l fun a ha => ⟨rfl, ?_⟩⟩
    rw [shw_not fun hm => dj i m hi a hm ha]
    exact (o'.objs a ha).1
  · by_cases hm : a ∈ M
    · exact .inr (ow a hm)
    · rw [shw_not hm] at e; exact S.gn a u e
end

/-! ### expressions over data -/
abbrev Ex := List D → Option (D × List D)
abbrev Bx := List D → Option (Bool × List D)
def tM (K : PySem.W.Frag) (Γ : Ctx) (f : Ex) (n : Nat) : TE := fun σ H Q => ∃ (O : Gh) (G : Hp) (env : List D) (L : Nat → List Addr) (r : D) (env' : List D), StR K O Γ H G σ env L ∧ f env = some (r, env') ∧
  ∀ v H' G' L', StR K O Γ H' G' σ env' L' → Same G G' → VR K O Γ H' G' L' n v r → Q v H'
def tMT (K : PySem.W.Frag) (Γ : Ctx) (f : Bx) : TT := fun σ H Q => ∃ (O : Gh) (G : Hp) (env : List D) (L : Nat → List Addr) (r : Bool) (env' : List D), StR K O Γ H G σ env L ∧ f env = some (r, env') ∧
  ∀ H' G' L', StR K O Γ H' G' σ env' L' → Same G G' → Q r H'
def evs : List Ex → List D → Option (List D × List D)
  | [], env => some ([], env)
  | f :: r, env => (f env).bind fun p => (evs r p.2).map fun q => (p.1 :: q.1, q.2)
def tMA (K : PySem.W.Frag) (Γ : Ctx) (fs : List Ex) : TA := fun σ H Q => ∃ (O : Gh) (G : Hp) (env : List D) (L : Nat → List Addr) (rs : List D) (env' : List D), StR K O Γ H G σ env L ∧ evs fs env = some (rs, env') ∧
  ∀ vs H' G' L', StR K O Γ H' G' σ env' L' → Same G G' → RepL K G' vs rs → Q vs H'
theorem evs_len : ∀ {fs : List Ex} {env : List D} {rs env' : List D}, evs fs env = some (rs, env') → rs.length = fs.length
  | [], _, _, _, h => by cases h; rfl
  | f :: r, env, _, _, h => by
    simp only [evs] at h
    cases e : f env with
    | none => rw [e] at h; cases h
    | some p =>
      rw [e] at h
      simp only [Option.bind_some] at h
      cases e2 : evs r p.2 with
      | none => rw [e2] at h; cases h
      | some q =>
        rw [e2] at h
        simp only [Option.map_some, Option.some.injEq] at h
        cases h
        simp [evs_len (fs := r) (rs := q.1) (env' := q.2) e2]

theorem _root_.L2.PE.imp {X : Cx} {e : Expr} {t t' : TE} (h : PE X e t) (k : ∀ σ H Q, t' σ H Q → t σ H Q) : PE X e t' := ⟨fun pins s σ H Q I q => h.run pins s σ H Q I (k σ H Q q)⟩
theorem _root_.L2.PT.imp {X : Cx} {e : Expr} {t t' : TT} (h : PT X e t) (k : ∀ σ H Q, t' σ H Q → t σ H Q) : PT X e t' := ⟨fun pins s σ H Q I q => h.run pins s σ H Q I (k σ H Q q)⟩
theorem _root_.L2.PW.imp {X : Cx} {e : Expr} {t t' : TT} (h : PW X e t) (k : ∀ σ H Q, t' σ H Q → t σ H Q) : PW X e t' := ⟨fun whole pins s σ H Q I q => h.run whole pins s σ H Q I (k σ H Q q)⟩
theorem _root_.L2.PA.imp {X : Cx} {e : List Expr} {t t' : TA} (h : PA X e t) (k : ∀ σ H Q, t' σ H Q → t σ H Q) : PA X e t' := ⟨fun pos pins s σ H Q I q => h.run pos pins s σ H Q I (k σ H Q q)⟩
theorem _root_.L2.PS.imp {X : Cx} {e : Stmt} {t t' : TS} (h : PS X e t) (k : ∀ D σ H, t' D σ H → t D σ H) : PS X e t' := ⟨fun pins s σ H D I q => h.run pins s σ H D I (k D σ H q)⟩
theorem _root_.L2.PSs.imp {X : Cx} {e : List Stmt} {t t' : TS} (h : PSs X e t) (k : ∀ D σ H, t' D σ H → t D σ H) : PSs X e t' := ⟨fun pins s σ H D I q => h.run pins s σ H D I (k D σ H q)⟩

def eVar (i : Nat) : Ex := fun env => (env[i]?).map fun d => (d, env)
def eC (d : D) : Ex := fun env => some (d, env)
def eUn (F : D → Option D) (a : Ex) : Ex := fun env => (a env).bind fun p => (F p.1).map fun r => (r, p.2)
def eBin (F : D → D → Option D) (a b : Ex) : Ex := fun env => (a env).bind fun p => (b p.2).bind fun q => (F p.1 q.1).map fun r => (r, q.2)
def eNs (F : List D → Option D) (as : List Ex) : Ex := fun env => (evs as env).bind fun p => (F p.1).map fun r => (r, p.2)
def eAnd (a b : Ex) : Ex := fun env => (a env).bind fun p => match p.1 with
  | .bool true => b p.2
  | .bool false => some (.bool false, p.2)
  | _ => none
def eOr (a b : Ex) : Ex := fun env => (a env).bind fun p => match p.1 with
  | .bool true => some (.bool true, p.2)
  | .bool false => b p.2
  | _ => none
def eIf (c : Bx) (a b : Ex) : Ex := fun env => (c env).bind fun p => if p.1 = true then a p.2 else b p.2
def asB (a : Ex) : Bx := fun env => (a env).bind fun p => match p.1 with
  | .bool b => some (b, p.2)
  | _ => none
def bAnd (a b : Bx) : Bx := fun env => (a env).bind fun p => if p.1 = true then b p.2 else some (false, p.2)
def bOr (a b : Bx) : Bx := fun env => (a env).bind fun p => if p.1 = true then some (true, p.2) else b p.2
def bNot (a : Bx) : Bx := fun env => (a env).map fun p => (!p.1, p.2)
def notD : D → Option D
  | .bool b => some (.bool (!b))
  | _ => none

/-- a two-place operation over data -/
def rD (K : PySem.W.Frag) (n : Nat) (F : D → D → Option D) : R2 := fun x y H Q => ∃ d e z G, Same G H ∧ Rep K G x d ∧ Rep K G y e ∧ F d e = some z ∧ ∀ v G' H', Res K G H n v z G' H' → Q v H'
def uD (K : PySem.W.Frag) (n : Nat) (F : D → Option D) : V → Hp → VK → Prop := fun x H Q => ∃ d z G, Same G H ∧ Rep K G x d ∧ F d = some z ∧ ∀ v G' H', Res K G H n v z G' H' → Q v H'
def cD (K : PySem.W.Frag) (n : Nat) (F : List D → Option D) : List V → Hp → VK → Prop := fun xs H Q => ∃ ds z G, Same G H ∧ RepL K G xs ds ∧ F ds = some z ∧ ∀ v G' H', Res K G H n v z G' H' → Q v H'

section
variable {X : Cx} {Γ : Ctx} {a b c : Expr} {pos : Pos} {fa fb : Ex} {n m : Nat}
theorem m_weak (h : PE X a (tM X.K Γ fa n)) (hn : n < 100 := by decide) : PE X a (tM X.K Γ fa 0) := h.imp fun σ H Q ⟨O, G, env, L, r, env1, S, e, k⟩ =>
  ⟨O, G, env, L, r, env1, S, e, fun v H1 G1 L1 S1 s1 v1 => by
    obtain ⟨G2, s2, S2, r2⟩ := S1.shown hn v1
    exact k v H1 G2 L1 S2 (s1.trans s2) (.of_rep r2)⟩
theorem m_var (i : Nat) {x : Str} (hN : X.N[i]? = some x := by rfl) (hv : Vis X.env.scope x := by first | exact Or.inl rfl | exact Or.inr (Or.inl rfl) | exact Or.inr (Or.inr rfl)) (hg : Γ[i]? = some (.ow 0) := by rfl) (hd : (x == ("__debug__" : Str)) = false := by decide)
    (hcd : (x == ("__classdict__" : Str)) = false := by decide) : PE X (.Name x pos) (tM X.K Γ (eVar i) 0) :=
  (pe_var hN hv hd hcd).imp fun σ H Q ⟨O, G, env, L, r, env1, S, e, k⟩ => by
    obtain ⟨v, d, e1, e2, o⟩ := S.slot i 0 ⟨_, hg, rfl⟩
    simp only [eVar, e2, Option.map_some, Option.some.injEq, Prod.mk.injEq] at e
    obtain ⟨rfl, rfl⟩ := e
    exact ⟨v, e1, k v H G L S (Same.refl _) (.of_rep o.zero.2)⟩
theorem m_con {v : V} {d : D} (h : PE X a (tC v)) (r : ∀ G, Rep X.K G v d) : PE X a (tM X.K Γ (eC d) 0) := h.imp fun σ H Q ⟨O, G, env, L, z, env1, S, e, k⟩ => by
  simp only [eC, Option.some.injEq, Prod.mk.injEq] at e
  obtain ⟨rfl, rfl⟩ := e
  exact k v H G L S (Same.refl _) (.of_rep (r G))
theorem m_int {i j} : PE X (.Constant (.int i) j pos) (tM X.K Γ (eC (.int i)) 0) := m_con pe_int fun _ => .int i
theorem m_bl {i j} : PE X (.Constant (.bool i) j pos) (tM X.K Γ (eC (.bool i)) 0) := m_con pe_bl fun _ => .bl i
theorem m_str {i j} : PE X (.Constant (.str i) j pos) (tM X.K Γ (eC (.str i)) 0) := m_con pe_str fun _ => .str i
theorem m_non {j} : PE X (.Constant .none j pos) (tM X.K Γ (eC .none) 0) := m_con pe_non fun _ => .non

theorem eBin_some {F : D → D → Option D} {env env2 : List D} {r : D} (e : eBin F fa fb env = some (r, env2)) : ∃ x env1 y, fa env = some (x, env1) ∧ fb env1 = some (y, env2) ∧ F x y = some r := by
  unfold eBin at e
  cases h1 : fa env with
  | none => rw [h1] at e; cases e
  | some p =>
    rw [h1] at e
    simp only [Option.bind_some] at e
    cases h2 : fb p.2 with
    | none => rw [h2] at e; cases e
    | some q =>
      rw [h2] at e
      simp only [Option.bind_some] at e
      cases h3 : F p.1 q.1 with
      | none => rw [h3] at e; cases e
      | some z =>
        rw [h3] at e
        simp only [Option.map_some, Option.some.injEq, Prod.mk.injEq] at e
        obtain ⟨rfl, rfl⟩ := e
        exact ⟨p.1, p.2, q.1, rfl, h2, h3⟩
theorem eUn_some {F : D → Option D} {env env2 : List D} {r : D} (e : eUn F fa env = some (r, env2)) : ∃ x, fa env = some (x, env2) ∧ F x = some r := by
  unfold eUn at e
  cases h1 : fa env with
  | none => rw [h1] at e; cases e
  | some p =>
    rw [h1] at e
    simp only [Option.bind_some] at e
    cases h3 : F p.1 with
    | none => rw [h3] at e; cases e
    | some z =>
      rw [h3] at e
      simp only [Option.map_some, Option.some.injEq, Prod.mk.injEq] at e
      obtain ⟨rfl, rfl⟩ := e
      exact ⟨p.1, rfl, h3⟩
theorem eNs_some {F : List D → Option D} {fs : List Ex} {env env2 : List D} {r : D} (e : eNs F fs env = some (r, env2)) : ∃ xs, evs fs env = some (xs, env2) ∧ F xs = some r := by
  unfold eNs at e
  cases h1 : evs fs env with
  | none => rw [h1] at e; cases e
  | some p =>
    rw [h1] at e
    simp only [Option.bind_some] at e
    cases h3 : F p.1 with
    | none => rw [h3] at e; cases e
    | some z =>
      rw [h3] at e
      simp only [Option.map_some, Option.some.injEq, Prod.mk.injEq] at e
      obtain ⟨rfl, rfl⟩ := e
      exact ⟨p.1, rfl, h3⟩
theorem tOp_of {F : D → D → Option D} {σ : St} {H : Hp} {Q : VK} (h : tM X.K Γ (eBin F fa fb) n σ H Q) : tOp (rD X.K n F) (tM X.K Γ fa 0) (tM X.K Γ fb 0) σ H Q := by
  obtain ⟨O, G, env, L, r, env2, S, e, k⟩ := h
  obtain ⟨x, env1, y, e1, e2, e3⟩ := eBin_some e
  exact ⟨O, G, env, L, x, env1, S, e1, fun v H1 G1 L1 S1 s1 v1 => ⟨O, G1, env1, L1, y, env2, S1, e2, fun u H2 G2 L2 S2 s2 v2 =>
    ⟨x, y, r, G2, S2.gh, v1.rep.mono s2, v2.rep, e3, fun w G3 H3 R => k w H3 G3 L2 (S2.res R).1 ((s1.trans s2).trans R.gg) (S2.res R).2⟩⟩⟩
theorem m_bin {op : Operator} {F : D → D → Option D} (ho : OpR X (binaryOp op) (rD X.K n F)) (ha : PE X a (tM X.K Γ fa 0)) (hb : PE X b (tM X.K Γ fb 0)) : PE X (.BinOp a op b pos) (tM X.K Γ (eBin F fa fb) n) :=
  (pe_op ho ha hb).imp fun σ H Q h => tOp_of h
theorem m_cmp {op : CmpOp} {F : D → D → Option D} (ho : OpR X (compareOp op) (rD X.K n F)) (ha : PE X a (tM X.K Γ fa 0)) (hb : PE X b (tM X.K Γ fb 0)) (hm : behindInMarks op b = false) : PE X (.Compare a [op] [b] pos) (tM X.K Γ (eBin F fa fb) n) :=
  (pe_cmpR ho ha hb hm).imp fun σ H Q h => tOp_of h
theorem tTest_of {f : Ex} {σ : St} {H : Hp} {Q : Bool → Hp → Prop} (h : tMT X.K Γ (asB f) σ H Q) : tTest (tM X.K Γ f 0) σ H Q := by
  obtain ⟨O, G, env, L, r, env2, S, e, k⟩ := h
  unfold asB at e
  cases h1 : f env with
  | none => rw [h1] at e; cases e
  | some p =>
    rw [h1] at e
    simp only [Option.bind_some] at e
    obtain ⟨x, env1⟩ := p
    cases x with
    | bool b =>
      simp only [Option.some.injEq, Prod.mk.injEq] at e
      obtain ⟨rfl, rfl⟩ := e
      refine ⟨O, G, env, L, .bool b, env1, S, h1, fun v H1 G1 L1 S1 s1 v1 => ?_⟩
      have := v1.rep
      cases this
      exact ⟨b, rfl, k H1 G1 L1 S1 s1⟩
    | _ => cases e
theorem b_cmp {op : CmpOp} {F : D → D → Option D} (ho : OpR X (compareOp op) (rD X.K 0 F)) (ha : PE X a (tM X.K Γ fa 0)) (hb : PE X b (tM X.K Γ fb 0)) (hm : behindInMarks op b = false) : PT X (.Compare a [op] [b] pos) (tMT X.K Γ (asB (eBin F fa fb))) :=
  (pt_cmpR ho ha hb hm).imp fun σ H Q h => by
    obtain ⟨O, G, env, L, r, env2, S, e, k⟩ := tTest_of h
    exact tOp_of ⟨O, G, env, L, r, env2, S, e, k⟩
theorem b_val (h : PE X a (tM X.K Γ fa 0)) (he : ∀ whole, isTrue a X.env whole = (do let v ← whole; standAt a.pos; holding [v] (truthy v)) := by intro _; rfl) : PT X a (tMT X.K Γ (asB fa)) :=
  (pt_val h he).imp fun σ H Q h => tTest_of h
theorem b_and1 {ga : Bx} (ha : PT X a (tMT X.K Γ ga)) : PW X (.BoolOp .And [a] pos) (tMT X.K Γ ga) := pw_and1 ha
theorem b_or1 {ga : Bx} (ha : PT X a (tMT X.K Γ ga)) : PW X (.BoolOp .Or [a] pos) (tMT X.K Γ ga) := pw_or1 ha
theorem bx_and {ga gb : Bx} {env env2 : List D} {r : Bool} (e : bAnd ga gb env = some (r, env2)) : ∃ b env1, ga env = some (b, env1) ∧ (if b = true then gb env1 = some (r, env2) else r = false ∧ env2 = env1) := by
  unfold bAnd at e
  cases h1 : ga env with
  | none => rw [h1] at e; cases e
  | some p =>
    rw [h1] at e
    simp only [Option.bind_some] at e
    refine ⟨p.1, p.2, rfl, ?_⟩
    split
    · rename_i q; rw [if_pos q] at e; exact e
    · rename_i q; rw [if_neg q] at e; simp only [Option.some.injEq, Prod.mk.injEq] at e; exact ⟨e.1.symm, e.2.symm⟩
theorem bx_or {ga gb : Bx} {env env2 : List D} {r : Bool} (e : bOr ga gb env = some (r, env2)) : ∃ b env1, ga env = some (b, env1) ∧ (if b = true then r = true ∧ env2 = env1 else gb env1 = some (r, env2)) := by
  unfold bOr at e
  cases h1 : ga env with
  | none => rw [h1] at e; cases e
  | some p =>
    rw [h1] at e
    simp only [Option.bind_some] at e
    refine ⟨p.1, p.2, rfl, ?_⟩
    split
    · rename_i q; rw [if_pos q] at e; simp only [Option.some.injEq, Prod.mk.injEq] at e; exact ⟨e.1.symm, e.2.symm⟩
    · rename_i q; rw [if_neg q] at e; exact e
theorem b_and {rest : List Expr} {ga gb : Bx} (ha : PT X a (tMT X.K Γ ga)) (hb : PW X (.BoolOp .And (b :: rest) pos) (tMT X.K Γ gb)) : PW X (.BoolOp .And (a :: b :: rest) pos) (tMT X.K Γ (bAnd ga gb)) :=
  (pw_and ha hb).imp fun σ H Q ⟨O, G, env, L, r, env2, S, e, k⟩ => by
    obtain ⟨b, env1, e1, e2⟩ := bx_and e
    refine ⟨O, G, env, L, b, env1, S, e1, fun H1 G1 L1 S1 s1 => ?_⟩
    by_cases hb : b = true
    · rw [if_pos hb] at e2 ⊢
      exact ⟨O, G1, env1, L1, r, env2, S1, e2, fun H2 G2 L2 S2 s2 => k H2 G2 L2 S2 (s1.trans s2)⟩
    · rw [if_neg hb] at e2 ⊢
      obtain ⟨rfl, rfl⟩ := e2
      exact k H1 G1 L1 S1 s1
theorem b_or {rest : List Expr} {ga gb : Bx} (ha : PT X a (tMT X.K Γ ga)) (hb : PW X (.BoolOp .Or (b :: rest) pos) (tMT X.K Γ gb)) : PW X (.BoolOp .Or (a :: b :: rest) pos) (tMT X.K Γ (bOr ga gb)) :=
  (pw_or ha hb).imp fun σ H Q ⟨O, G, env, L, r, env2, S, e, k⟩ => by
    obtain ⟨b, env1, e1, e2⟩ := bx_or e
    refine ⟨O, G, env, L, b, env1, S, e1, fun H1 G1 L1 S1 s1 => ?_⟩
    by_cases hb : b = true
    · rw [if_pos hb] at e2 ⊢
      obtain ⟨rfl, rfl⟩ := e2
      exact k H1 G1 L1 S1 s1
    · rw [if_neg hb] at e2 ⊢
      exact ⟨O, G1, env1, L1, r, env2, S1, e2, fun H2 G2 L2 S2 s2 => k H2 G2 L2 S2 (s1.trans s2)⟩
theorem b_not {ga : Bx} (ha : PT X a (tMT X.K Γ ga)) : PT X (.UnaryOp .Not a pos) (tMT X.K Γ (bNot ga)) :=
  (pt_not ha).imp fun σ H Q ⟨O, G, env, L, r, env2, S, e, k⟩ => by
    unfold bNot at e
    cases h1 : ga env with
    | none => rw [h1] at e; cases e
    | some p =>
      rw [h1] at e
      simp only [Option.map_some, Option.some.injEq, Prod.mk.injEq] at e
      obtain ⟨rfl, rfl⟩ := e
      exact ⟨O, G, env, L, p.1, p.2, S, h1, fun H1 G1 L1 S1 s1 => k H1 G1 L1 S1 s1⟩
theorem m_if {gc : Bx} (hc : PT X c (tMT X.K Γ gc)) (ha : PE X a (tM X.K Γ fa n)) (hb : PE X b (tM X.K Γ fb n)) : PE X (.IfExp c a b pos) (tM X.K Γ (eIf gc fa fb) n) :=
  (pe_ifExp hc ha hb).imp fun σ H Q ⟨O, G, env, L, r, env2, S, e, k⟩ => by
    unfold eIf at e
    cases h1 : gc env with
    | none => rw [h1] at e; cases e
    | some p =>
      rw [h1] at e
      simp only [Option.bind_some] at e
      refine ⟨O, G, env, L, p.1, p.2, S, h1, fun H1 G1 L1 S1 s1 => ?_⟩
      by_cases hb : p.1 = true
      · rw [if_pos hb] at e ⊢
        exact ⟨O, G1, p.2, L1, r, env2, S1, e, fun v H2 G2 L2 S2 s2 => k v H2 G2 L2 S2 (s1.trans s2)⟩
      · rw [if_neg hb] at e ⊢
        exact ⟨O, G1, p.2, L1, r, env2, S1, e, fun v H2 G2 L2 S2 s2 => k v H2 G2 L2 S2 (s1.trans s2)⟩
theorem m_and {rest : List Expr} (ha : PE X a (tM X.K Γ fa 0)) (hb : PE X (.BoolOp .And (b :: rest) pos) (tM X.K Γ fb 0)) : PE X (.BoolOp .And (a :: b :: rest) pos) (tM X.K Γ (eAnd fa fb) 0) :=
  (pe_and ha hb).imp fun σ H Q ⟨O, G, env, L, r, env2, S, e, k⟩ => by
    unfold eAnd at e
    cases h1 : fa env with
    | none => rw [h1] at e; cases e
    | some p =>
      rw [h1] at e
      simp only [Option.bind_some] at e
      obtain ⟨x, env1⟩ := p
      cases x with
      | bool t =>
        refine ⟨O, G, env, L, .bool t, env1, S, h1, fun v H1 G1 L1 S1 s1 v1 => ?_⟩
        have := v1.rep
        cases this
        cases t with
        | true => exact ⟨true, rfl, by rw [if_pos rfl]; exact ⟨O, G1, env1, L1, r, env2, S1, e, fun v H2 G2 L2 S2 s2 => k v H2 G2 L2 S2 (s1.trans s2)⟩⟩
        | false =>
          simp only [Option.some.injEq, Prod.mk.injEq] at e
          obtain ⟨rfl, rfl⟩ := e
          exact ⟨false, rfl, by rw [if_neg (by decide)]; exact k _ H1 G1 L1 S1 s1 (.of_rep (.bl false))⟩
      | _ => cases e
theorem m_or {rest : List Expr} (ha : PE X a (tM X.K Γ fa 0)) (hb : PE X (.BoolOp .Or (b :: rest) pos) (tM X.K Γ fb 0)) : PE X (.BoolOp .Or (a :: b :: rest) pos) (tM X.K Γ (eOr fa fb) 0) :=
  (pe_or ha hb).imp fun σ H Q ⟨O, G, env, L, r, env2, S, e, k⟩ => by
    unfold eOr at e
    cases h1 : fa env with
    | none => rw [h1] at e; cases e
    | some p =>
      rw [h1] at e
      simp only [Option.bind_some] at e
      obtain ⟨x, env1⟩ := p
      cases x with
      | bool t =>
        refine ⟨O, G, env, L, .bool t, env1, S, h1, fun v H1 G1 L1 S1 s1 v1 => ?_⟩
        have := v1.rep
        cases this
        cases t with
        | false => exact ⟨false, rfl, by rw [if_neg (by decide)]; exact ⟨O, G1, env1, L1, r, env2, S1, e, fun v H2 G2 L2 S2 s2 => k v H2 G2 L2 S2 (s1.trans s2)⟩⟩
        | true =>
          simp only [Option.some.injEq, Prod.mk.injEq] at e
          obtain ⟨rfl, rfl⟩ := e
          exact ⟨true, rfl, by rw [if_pos rfl]; exact k _ H1 G1 L1 S1 s1 (.of_rep (.bl true))⟩
      | _ => cases e
theorem m_one {op} (ha : PE X a (tM X.K Γ fa n)) : PE X (.BoolOp op [a] pos) (tM X.K Γ fa n) := pe_one ha
theorem m_not (ha : PE X a (tM X.K Γ fa 0)) : PE X (.UnaryOp .Not a pos) (tM X.K Γ (eUn notD fa) 0) :=
  (pe_not ha).imp fun σ H Q ⟨O, G, env, L, r, env2, S, e, k⟩ => by
    obtain ⟨x, e1, e2⟩ := eUn_some e
    refine ⟨O, G, env, L, x, env2, S, e1, fun v H1 G1 L1 S1 s1 v1 => ?_⟩
    have := v1.rep
    cases this with
    | bl b =>
      simp only [notD, Option.some.injEq] at e2
      subst e2
      exact ⟨b, rfl, k _ H1 G1 L1 S1 s1 (.of_rep (.bl _))⟩
    | _ => cases e2
theorem m_un {op : UnaryOp} {F : D → Option D} (ho : UnR X (unaryOp op) (uD X.K n F)) (ha : PE X a (tM X.K Γ fa 0)) : PE X (.UnaryOp op a pos) (tM X.K Γ (eUn F fa) n) :=
  (pe_un ho ha).imp fun σ H Q ⟨O, G, env, L, r, env2, S, e, k⟩ => by
    obtain ⟨x, e1, e2⟩ := eUn_some e
    exact ⟨O, G, env, L, x, env2, S, e1, fun v H1 G1 L1 S1 s1 v1 => ⟨x, r, G1, S1.gh, v1.rep, e2, fun w G3 H3 R => k w H3 G3 L1 (S1.res R).1 (s1.trans R.gg) (S1.res R).2⟩⟩
/-! arguments -/
theorem a_nil : PA X [] (tMA X.K Γ []) := pa_nil.imp fun σ H Q ⟨O, G, env, L, rs, env1, S, e, k⟩ => by
  simp only [evs, Option.some.injEq, Prod.mk.injEq] at e
  obtain ⟨rfl, rfl⟩ := e
  exact k [] H G L S (Same.refl _) .nil
theorem a_cons {es : List Expr} {fs : List Ex} (ha : PE X a (tM X.K Γ fa 0)) (hr : PA X es (tMA X.K Γ fs)) (hs : starEach (a :: es) X.env = (false, eval a X.env) :: starEach es X.env := by rfl) : PA X (a :: es) (tMA X.K Γ (fa :: fs)) :=
  (pa_cons ha hr hs).imp fun σ H Q ⟨O, G, env, L, rs, env2, S, e, k⟩ => by
    simp only [evs] at e
    cases h1 : fa env with
    | none => rw [h1] at e; cases e
    | some p =>
      rw [h1] at e
      simp only [Option.bind_some] at e
      cases h2 : evs fs p.2 with
      | none => rw [h2] at e; cases e
      | some q =>
        rw [h2] at e
        simp only [Option.map_some, Option.some.injEq, Prod.mk.injEq] at e
        obtain ⟨rfl, rfl⟩ := e
        exact ⟨O, G, env, L, p.1, p.2, S, h1, fun v H1 G1 L1 S1 s1 v1 => ⟨O, G1, p.2, L1, q.1, q.2, S1, h2, fun vs H2 G2 L2 S2 s2 r2 => k (v :: vs) H2 G2 L2 S2 (s1.trans s2) (.cons (v1.rep.mono s2) r2)⟩⟩
theorem small_size {n : Nat} (h : n ≤ 1000) : n ≤ sizeLine := Nat.le_trans h (by decide)
/-- a display of a tuple, its object known -/
def tTupP (t : TA) : TE := fun σ H Q => t σ H fun xs H1 => xs.length ≤ sizeLine ∧ ∀ p o, H1 p = none → o.cls = .type "tuple" → o.dict = none → Q (.ref p) (upd H1 p (.frz o (.tup xs)))
theorem pe_tupP {es : List Expr} {t : TA} {x1} (h : PA X es t) : PE X (.Tuple es x1 pos) (tTupP t) := by
  refine ⟨fun pins s σ H Q I hq => ?_⟩
  refine wpAny_Tuple_spliced (thn (h.run pos pins s σ H _ I hq) fun us s1 ⟨xs, H1, I1, r, z, q⟩ => ⟨by rw [← r.length]; exact z, ?_⟩)
  have hf : H1 s1.heap.objs.size = none := I1.hok.fresh (Nat.le_refl _)
  refine ⟨.ref s1.heap.objs.size, upd H1 s1.heap.objs.size (.frz _ (.tup xs)), I1.laid (t' := s1.toks) (fun b u e => Heap.get?_push_of_some _ e) (Nat.le_refl _) ⟨Heap.get?_push_size _ rfl, z, us, r, ⟨_, Heap.get?_push_size _ rfl, rfl, _, rfl⟩⟩, rfl, q _ _ hf rfl rfl⟩
theorem m_tup {es : List Expr} {fs : List Ex} {x1} (h : PA X es (tMA X.K Γ fs)) (hl : fs.length ≤ 1000 := by decide) : PE X (.Tuple es x1 pos) (tM X.K Γ (eNs (fun xs => some (.tuple xs)) fs) 0) :=
  (pe_tupP h).imp fun σ H Q ⟨O, G, env, L, r, env2, S, e, k⟩ => by
    obtain ⟨xs, e1, e2⟩ := eNs_some e
    cases e2
    refine ⟨O, G, env, L, xs, env2, S, e1, fun vs H1 G1 L1 S1 s1 r1 => ⟨by rw [r1.length, evs_len e1]; exact small_size hl, fun p o hp hc hd => ?_⟩⟩
    have R := Res.newT S1.gh hp hc hd r1
    exact k _ _ _ L1 (S1.res R).1 (s1.trans R.gg) (S1.res R).2
theorem m_lst {es : List Expr} {fs : List Ex} (h : PA X es (tMA X.K Γ fs)) (hl : fs.length ≤ 1000 := by decide) : PE X (.List es pos) (tM X.K Γ (eNs (fun xs => some (.list xs)) fs) 1) :=
  (pe_lst h).imp fun σ H Q ⟨O, G, env, L, r, env2, S, e, k⟩ => by
    obtain ⟨xs, e1, e2⟩ := eNs_some e
    cases e2
    refine ⟨O, G, env, L, xs, env2, S, e1, fun vs H1 G1 L1 S1 s1 r1 => ⟨by rw [r1.length, evs_len e1]; exact small_size hl, fun p hp => ?_⟩⟩
    have R := Res.newL S1.gh hp r1
    exact k _ _ _ L1 (S1.res R).1 (s1.trans R.gg) (S1.res R).2
/-- a call of a built-in, by its name -/
theorem tCB_of {F : List D → Option D} {fs : List Ex} {σ : St} {H : Hp} {Q : VK} (h : tM X.K Γ (eNs F fs) n σ H Q) : tCB (cD X.K n F) (tMA X.K Γ fs) σ H Q := by
  obtain ⟨O, G, env, L, r, env2, S, e, k⟩ := h
  obtain ⟨xs, e1, e2⟩ := eNs_some e
  exact ⟨O, G, env, L, xs, env2, S, e1, fun vs H1 G1 L1 S1 s1 r1 => ⟨xs, r, G1, S1.gh, r1, e2, fun w G3 H3 R => k w H3 G3 L1 (S1.res R).1 (s1.trans R.gg) (S1.res R).2⟩⟩
theorem m_callB {es : List Expr} {fs : List Ex} {id : String} {x : Str} {p : Pos} {F : List D → Option D} (hc : CallR X (.builtin id) (cD X.K n F)) (hg : Gl X x) (hm : X.mg x = none) (hv : bootBuiltins x = some (.builtin id)) (ha : PA X (a :: es) (tMA X.K Γ fs)) (hn : x ≠ "__name__" := by decide) (hdb : (x == ("__debug__" : Str)) = false := by decide)
    (he : starEach (a :: es) X.env = (false, eval a X.env) :: starEach es X.env := by rfl) (hpl : (backTo pos (starEach es X.env)).any (·.1) = false := by rfl) : PE X (.Call (.Name x p) (a :: es) [] pos) (tM X.K Γ (eNs F fs) n) :=
  (pe_callB hc hg hm hv ha hn hdb he hpl).imp fun σ H Q h => tCB_of h
theorem m_callTy {es : List Expr} {fs : List Ex} {T : String} {x : Str} {p : Pos} {F : List D → Option D} (hc : CallR X (.type T) (cD X.K n F)) (hg : Gl X x) (hm : X.mg x = none) (hv : bootBuiltins x = some (.type T)) (ha : PA X (a :: es) (tMA X.K Γ fs)) (hn : x ≠ "__name__" := by decide) (hdb : (x == ("__debug__" : Str)) = false := by decide)
    (he : starEach (a :: es) X.env = (false, eval a X.env) :: starEach es X.env := by rfl) (hpl : (backTo pos (starEach es X.env)).any (·.1) = false := by rfl) : PE X (.Call (.Name x p) (a :: es) [] pos) (tM X.K Γ (eNs F fs) n) :=
  (pe_callTy hc hg hm hv ha hn hdb he hpl).imp fun σ H Q h => tCB_of h
/-- o[i] -/
theorem m_ix {F : D → D → Option D} (hr : IxR X (rD X.K n F)) (ha : PE X a (tM X.K Γ fa 0)) (hb : PE X b (tM X.K Γ fb 0)) (hs : PlainIx b) : PE X (.Subscript a b pos) (tM X.K Γ (eBin F fa fb) n) :=
  (pe_ix hr ha hb hs).imp fun σ H Q h => tOp_of h
end
end VL

set_option Elab.async false
set_option linter.all false
set_option maxRecDepth 100000
/-! VL2: borrowing; calls of defs. -/
namespace VL
open PySem L2

/- below a depth nothing can change -/
mutual
def imk : Nat → D → Bool
  | 0, d => immutF d
  | n + 1, .list xs => imkL n xs
  | n + 1, .dict kvs => decide (n + 1 = 100) && immutFK kvs
  | n + 1, .tuple xs => imkL (n + 1) xs
  | _ + 1, _ => true
def imkL : Nat → List D → Bool
  | _, [] => true
  | n, x :: xs => imk n x && imkL n xs
end
section
variable {K : PySem.W.Frag} {H H' G G' : Hp}
theorem immut_imk_all : True := trivial
/- what holds no object that changes stands by the tuples alone -/
mutual
theorem Own.cut (s : Same (VL.tups G) G') : ∀ {n : Nat} {v : V} {d : D} {L : List Addr}, Own K H G n v d L → imk n d = true → (∀ a ∈ L, H' a = H a ∧ G' a = none) → Own K H' G' n v d L
  | _, _, d, _, .rep r, e, _ => .rep ((r.tupsF (by unfold imk at e; exact e)).mono s)
  | _, _, _, _, .imm e' r, e, _ => .imm e' ((r.tups e').mono s)
  | _, _, _, _, .lst h g r, e, k => .lst (by rw [(k _ List.mem_cons_self).1]; exact h) (k _ List.mem_cons_self).2 (OwnL.cut s r (by unfold imk at e; exact e) fun a m => k a (List.mem_cons_of_mem _ m))
  | _, _, _, _, .tup h r, e, k => .tup (sqP_mono s (sqP_tups h)) (OwnL.cut s r (by unfold imk at e; exact e) k)
  | _, _, _, _, .dk h g r, e, k => .dk (by rw [(k _ List.mem_cons_self).1]; exact h) (k _ List.mem_cons_self).2 ((r.tupsF (by unfold imk at e; rw [Bool.and_eq_true] at e; exact e.2)).mono s)
theorem OwnL.cut (s : Same (VL.tups G) G') : ∀ {n : Nat} {v : List V} {d : List D} {L : List Addr}, OwnL K H G n v d L → imkL n d = true → (∀ a ∈ L, H' a = H a ∧ G' a = none) → OwnL K H' G' n v d L
  | _, _, _, _, .nil, _, _ => .nil
  | _, _, _, _, .cons h r, e, k => by
    unfold imkL at e
    rw [Bool.and_eq_true] at e
    exact .cons (Own.cut s h e.1 fun a m => k a (List.mem_append_left _ m)) (OwnL.cut s r e.2 fun a m => k a (List.mem_append_right _ m))
end
mutual
theorem Own.notT : ∀ {n : Nat} {v : V} {d : D} {L : List Addr}, Own K H G n v d L → ∀ a ∈ L, VL.tups H a = none
  | _, _, _, _, .rep r, _, m => by cases m
  | _, _, _, _, .imm _ r, _, m => by cases m
  | _, _, _, _, .lst h g r, a, m => by
    rcases List.mem_cons.mp m with rfl | m
    · unfold VL.tups; rw [h]
    · exact OwnL.notT r a m
  | _, _, _, _, .tup h r, a, m => OwnL.notT r a m
  | _, _, _, _, .dk h g r, a, m => by
    rw [List.mem_singleton.mp m]
    unfold VL.tups; rw [h]
theorem OwnL.notT : ∀ {n : Nat} {v : List V} {d : List D} {L : List Addr}, OwnL K H G n v d L → ∀ a ∈ L, VL.tups H a = none
  | _, _, _, _, .nil, _, m => by cases m
  | _, _, _, _, .cons h r, a, m => (List.mem_append.mp m).elim (Own.notT h a) (OwnL.notT r a)
end
end

/-! ### borrowing: an expression that only reads what is owned -/
def bwK : Kd → Kd → Bool
  | _, .un => true
  | .ow n, .ow 0 => decide (n < 100)
  | .io n, .ow 0 => decide (n < 100)
  | _, _ => false
def bwB : Ctx → Ctx → Bool
  | [], [] => true
  | k :: Γ, q :: Δ => bwK k q && bwB Γ Δ
  | _, _ => false
theorem bwB_len : ∀ {Γ Δ : Ctx}, bwB Γ Δ = true → Δ.length = Γ.length
  | [], [], _ => rfl
  | k :: Γ, q :: Δ, h => by
    simp only [bwB, Bool.and_eq_true] at h
    simp [bwB_len h.2]
  | [], _ :: _, h => by simp [bwB] at h
  | _ :: _, [], h => by simp [bwB] at h
theorem bwB_get : ∀ {Γ Δ : Ctx} {i : Nat} {q : Kd}, bwB Γ Δ = true → Δ[i]? = some q → q = .un ∨ (q = .ow 0 ∧ ∃ n, At Γ i n ∧ n < 100)
  | [], [], i, q, _, e => by simp at e
  | k :: Γ, q' :: Δ, 0, q, h, e => by
    simp only [bwB, Bool.and_eq_true] at h
    simp only [List.getElem?_cons_zero, Option.some.injEq] at e
    subst e
    cases q' with
    | un => exact .inl rfl
    | ow n =>
      cases n with
      | zero =>
        refine .inr ⟨rfl, ?_⟩
        cases k with
        | un => simp [bwK] at h
        | ow m => exact ⟨m, ⟨.ow m, rfl, rfl⟩, by simpa [bwK] using h.1⟩
        | io m => exact ⟨m, ⟨.io m, rfl, rfl⟩, by simpa [bwK] using h.1⟩
      | succ n => cases k <;> simp [bwK] at h
    | io n => cases k <;> simp [bwK] at h
  | k :: Γ, q' :: Δ, i + 1, q, h, e => by
    simp only [bwB, Bool.and_eq_true] at h
    have := bwB_get (i := i) h.2 (by simpa using e)
    rcases this with z | ⟨z, n, ⟨k', e1, e2⟩, hn⟩
    · exact .inl z
    · exact .inr ⟨z, n, ⟨k', by simpa using e1, e2⟩, hn⟩
  | [], _ :: _, _, _, h, _ => by simp [bwB] at h
  | _ :: _, [], _, _, h, _ => by simp [bwB] at h
def eBor (n : Nat) (f : Ex) : Ex := fun env => (f env).bind fun p => if imk n p.1 = true then some (p.1, env) else none
theorem eBor_some {n : Nat} {f : Ex} {env env2 : List D} {r : D} (e : eBor n f env = some (r, env2)) : ∃ env1, f env = some (r, env1) ∧ imk n r = true ∧ env2 = env := by
  unfold eBor at e
  cases h1 : f env with
  | none => rw [h1] at e; cases e
  | some p =>
    rw [h1] at e
    simp only [Option.bind_some] at e
    split at e
    · rename_i q
      simp only [Option.some.injEq, Prod.mk.injEq] at e
      obtain ⟨rfl, rfl⟩ := e
      exact ⟨p.2, rfl, q, rfl⟩
    · cases e
/-- the slots that are borrowed -/
def bwL (Δ : Ctx) (L : Nat → List Addr) : List Addr := ((List.range Δ.length).filter fun i => decide (Δ[i]? = some (.ow 0))).flatMap L
theorem mem_bwL {Δ : Ctx} {L : Nat → List Addr} {a : Addr} : a ∈ bwL Δ L ↔ ∃ i, Δ[i]? = some (.ow 0) ∧ a ∈ L i := by
  unfold bwL
  rw [List.mem_flatMap]
  constructor
  · rintro ⟨i, hi, ha⟩
    rw [List.mem_filter] at hi
    exact ⟨i, of_decide_eq_true hi.2, ha⟩
  · rintro ⟨i, hi, ha⟩
    refine ⟨i, List.mem_filter.mpr ⟨List.mem_range.mpr (List.getElem?_eq_some_iff.mp hi).1, decide_eq_true hi⟩, ha⟩
section
variable {K : PySem.W.Frag} {O : Gh} {Γ Δ : Ctx} {H H' G G' : Hp} {σ : St} {env : List D} {L : Nat → List Addr} {n : Nat} {v : V} {d : D}
theorem At.uniq {i n m : Nat} (a : At Γ i n) (b : At Γ i m) : n = m := by
  obtain ⟨k, e1, e2⟩ := a
  obtain ⟨q, e3, e4⟩ := b
  rw [e1] at e3; cases e3; rw [e2] at e4; cases e4; rfl
/-- the state with what is borrowed shown, for an expression that changes nothing -/
theorem StR.lend (S : StR K O Γ H G σ env L) (hb : bwB Γ Δ = true) : StR K ⟨H, shw G H (bwL Δ L), [], fun _ => none⟩ Δ H (shw G H (bwL Δ L)) σ env (fun _ => []) := by
  have z : ∀ i m, At Δ i m → m = 0 ∧ ∃ n, (At Γ i n ∧ n < 100) ∧ Δ[i]? = some (.ow 0) := fun i m ⟨k, e1, e2⟩ => by
    rcases bwB_get hb e1 with rfl | ⟨rfl, n, hn⟩
    · cases e2
    · cases e2; exact ⟨rfl, n, hn, e1⟩
  refine ⟨shw_h S.gh, S.ls, (bwB_len hb).trans S.lg, fun i m hi => ?_, fun _ _ _ => List.nodup_nil, fun _ _ _ _ _ _ _ a m => (by cases m), fun _ _ _ a m => (by cases m), fun b o e _ => e, fun a o e => .inl (by show (shw G H _ a).isSome = true; rw [e]; rfl), fun i m e => ?_⟩
  · obtain ⟨rfl, n, hn, e0⟩ := z i m hi
    obtain ⟨v, d, e1, e2, o⟩ := S.slot i n hn.1
    exact ⟨v, d, e1, e2, .rep (Own.read S.gh hn.2 o fun a ha => mem_bwL.mpr ⟨i, e0, ha⟩)⟩
  · rcases bwB_get hb e with q | ⟨q, _⟩ <;> cases q
/-- behind it all is as it was -/
theorem StR.back {env1 : List D} {L1 : Nat → List Addr} {Gb : Hp} (S : StR K O Γ H G σ env L) (hb : bwB Γ Δ = true) (S1 : StR K ⟨H, shw G H (bwL Δ L), [], fun _ => none⟩ Δ H' Gb σ env1 L1) (hs : Same (shw G H (bwL Δ L)) Gb)
    (hv : VR K ⟨H, shw G H (bwL Δ L), [], fun _ => none⟩ Δ H' Gb L1 n v d) (hi : imk n d = true) : ∃ G', Same G G' ∧ StR K O Γ H' G' σ env L ∧ VR K O Γ H' G' L n v d := by
  have hh : Same H H' := fun b o e => S1.pres b o e (by simp)
  have inM : ∀ a, a ∈ bwL Δ L → G a = none ∧ (H a).isSome = true ∧ VL.tups H a = none := fun a ha => by
    obtain ⟨i, e, hl⟩ := mem_bwL.mp ha
    rcases bwB_get hb e with z | ⟨_, n, hn, _⟩
    · cases z
    · obtain ⟨_, _, _, _, o⟩ := S.slot i n hn
      exact ⟨(o.objs a hl).1, (o.objs a hl).2.1, o.notT a hl⟩
  have hk : ∀ a, (H a).isSome = true → H' a = H a := fun a e => by
    cases q : H a with
    | none => rw [q] at e; cases e
    | some o => rw [hh _ _ q]
  have gnew : ∀ a o, Gb a = some o → a ∉ bwL Δ L → G a = none → H a = none := fun a o e hm hg => by
    rcases S1.gn a o e with q | q | q
    · change (shw G H (bwL Δ L) a).isSome = true at q
      rw [shw_not hm, hg] at q; cases q
    · exact q
    · cases q
  let G2 : Hp := fun a => if a ∈ bwL Δ L then none else Gb a
  have g2n : ∀ a, a ∈ bwL Δ L → G2 a = none := fun a h => by show (if _ then _ else _) = _; rw [if_pos h]
  have g2y : ∀ a, a ∉ bwL Δ L → G2 a = Gb a := fun a h => by show (if _ then _ else _) = _; rw [if_neg h]
  have gg : Same G G2 := fun a o e => by
    have hm : a ∉ bwL Δ L := fun h => by rw [(inM a h).1] at e; cases e
    rw [g2y a hm]
    exact hs _ _ (shw_l _ _ e)
  have gh2 : Same G2 H' := fun a o e => by
    by_cases hm : a ∈ bwL Δ L
    · rw [g2n a hm] at e; cases e
    · rw [g2y a hm] at e; exact S1.gh _ _ e
  have hid : ∀ i m, At Γ i m → ∀ a ∈ L i, G2 a = none := fun i m hi a ha => by
    obtain ⟨_, _, _, _, o⟩ := S.slot i m hi
    by_cases hm : a ∈ bwL Δ L
    · exact g2n a hm
    · rw [g2y a hm]
      cases q : Gb a with
      | none => rfl
      | some u =>
        have z := gnew a u q hm (o.objs a ha).1
        have y := (o.objs a ha).2.1
        rw [z] at y; cases y
  obtain ⟨M, om, nd, ow, _⟩ := hv
  have mfr : ∀ a ∈ M, H a = none := fun a ha => by
    rcases ow a ha with q | q
    · exact q
    · cases q
  refine ⟨G2, gg, ⟨gh2, S.ls, S.lg, fun i m hi => ?_, S.nd, S.dj, S.new, fun b o e hb => hh _ _ (S.pres b o e hb), fun a o e => ?_, S.io⟩, M, ?_, nd, fun a ha => ?_, fun i m hi a ha hl => ?_⟩
  · obtain ⟨v', d', e1, e2, o⟩ := S.slot i m hi
    exact ⟨v', d', e1, e2, o.mono gg fun a ha => ⟨hk a (o.objs a ha).2.1, hid i m hi a ha⟩⟩
  · by_cases hm : a ∈ bwL Δ L
    · rw [g2n a hm] at e; cases e
    · rw [g2y a hm] at e
      cases q : G a with
      | some u => exact S.gn a u q
      | none =>
        have z := gnew a o e hm q
        cases r : O.H0 a with
        | none => exact .inr (.inl r)
        | some u =>
          by_cases hA : a ∈ O.A
          · exact .inr (.inr hA)
          · rw [S.pres a u r hA] at z; cases z
  · refine om.cut (fun a o e => ?_) hi fun a ha => ⟨rfl, ?_⟩
    · have e' : Gb a = some o := tups_same _ _ e
      by_cases hm : a ∈ bwL Δ L
      · have q1 := (inM a hm).2.2
        have q2 : H a = some o := by rw [← hk a (inM a hm).2.1]; exact S1.gh _ _ e'
        unfold VL.tups at e q1
        rw [e'] at e; rw [q2] at q1
        cases o <;> first | (simp at e; done) | (simp at q1; done)
      · rw [g2y a hm]; exact e'
    · have hm : a ∉ bwL Δ L := fun h => by have := (inM a h).2.1; rw [mfr a ha] at this; cases this
      rw [g2y a hm]
      exact (om.objs a ha).1
  · cases r : O.H0 a with
    | none => exact .inl r
    | some u =>
      by_cases hA : a ∈ O.A
      · exact .inr hA
      · have z := mfr a ha
        rw [S.pres a u r hA] at z; cases z
  · obtain ⟨_, _, _, _, o⟩ := S.slot i m hi
    have y := (o.objs a hl).2.1
    rw [mfr a ha] at y; cases y
end
theorem m_bor {X : Cx} {Γ : Ctx} (Δ : Ctx) {a : Expr} {f : Ex} {n : Nat} (h : PE X a (tM X.K Δ f n)) (hb : bwB Γ Δ = true := by rfl) : PE X a (tM X.K Γ (eBor n f) n) :=
  h.imp fun σ H Q ⟨O, G, env, L, r, env1, S, e, k⟩ => by
    obtain ⟨env0, e1, e2, rfl⟩ := eBor_some e
    refine ⟨_, _, env1, _, r, env0, S.lend hb, e1, fun v H1 G1 L1 S1 s1 v1 => ?_⟩
    obtain ⟨G2, gg, S2, v2⟩ := S.back hb S1 s1 v1 e2
    exact k v H1 G2 L S2 gg v2
def bBor (f : Bx) : Bx := fun env => (f env).map fun p => (p.1, env)
theorem b_bor {X : Cx} {Γ : Ctx} (Δ : Ctx) {a : Expr} {f : Bx} (h : PT X a (tMT X.K Δ f)) (hb : bwB Γ Δ = true := by rfl) : PT X a (tMT X.K Γ (bBor f)) :=
  h.imp fun σ H Q ⟨O, G, env, L, r, env1, S, e, k⟩ => by
    unfold bBor at e
    cases h1 : f env with
    | none => rw [h1] at e; cases e
    | some p =>
      rw [h1] at e
      simp only [Option.map_some, Option.some.injEq, Prod.mk.injEq] at e
      obtain ⟨rfl, rfl⟩ := e
      refine ⟨_, _, env, _, p.1, p.2, S.lend hb, h1, fun H1 G1 L1 S1 s1 => ?_⟩
      obtain ⟨G2, gg, S2, _⟩ := S.back (n := 0) (v := .non) (d := .none) hb S1 s1 (.of_rep .non) rfl
      exact k H1 G2 L S2 gg
end VL

set_option Elab.async false
set_option linter.all false
set_option maxRecDepth 100000
/-! VLG: promises of defs that hold where no repr is under way (A.guards = some []). -/
namespace VL
open PySem PySem.Spec PyProof.Rows L2

structure FnG (P : Program) (w : World) (K : PySem.W.Frag) (mg : Str → Option Value) (base : Heap) (CX : CXT) (k : Nat) (f : Addr) (fd : FuncData) (ps : List Str) (sp : Sp) : Prop where
  len : ∀ vs H Q E, sp vs H Q E → vs.length = ps.length
  run : ∀ (A : Around) (outer : List Env) (s : Shared) (H : Hp) (args : Args) (us : List Value) (vs : List V) (Q : VK) (E : XK), A.guards = some [] → Room k A → Env0 P w K mg base A outer s H → BindsTo s fd args (ps.zip us) → Vals vs us → sp vs H Q E →
    codeAny (model P w) A (.call (.ref f) args) (CR CX outer P w H s Q E) s
section
variable {P : Program} {w : World} {K : PySem.W.Frag} {mg : Str → Option Value} {base : Heap} {CX : CXT}
theorem deeper_guards {A : Around} {env : Env} (h : A.guards = some []) : (A.deeper env).guards = some [] := h
theorem FnG.of {x qual : Str} {st : Stmt} {f : Addr} {fd : FuncData} {N ps : List Str} {k : Nat} {sp : Sp} (F : Fun K x qual st f fd) (Sc : FnScope N ps (defScope st)) (len : ∀ vs H Q E, sp vs H Q E → vs.length = ps.length)
    (body : ∀ (cdv : Value) (A : Around) (outer : List Env) (s : Shared) (H : Hp) (vs : List V) (Q : VK) (E : XK), A.guards = some [] → Room k (A.deeper (envOfC qual (defScope st) s.heap.objs.size f cdv)) → sp vs H Q E →
      ∃ t, PSs (cxOf CX P w K mg base N qual (defScope st) f cdv A outer s H E) (defBody st) t ∧ t { nx := fun _ H' => Q .non H', rt := Q } (L2.start N vs) H) : FnG P w K mg base CX (k + 1) f fd ps sp := by
  obtain ⟨oc, od, kV, doc, pm, an, cdv, ct, osl, efd, lk, hcd⟩ := F.ex
  subst efd
  refine ⟨len, fun A outer s H args us vs Q E hgd hr e0 hb rv hsp => ?_⟩
  have hK : K.In s.heap := e0.mod.kin.keeps fun b o e => (e0.bs b o e).1
  have hlim : s.heap.NoLimit := e0.mod.nolimit.keeps fun b o e => (e0.bs b o e).1
  have hkd : ∀ y ∈ ps.zip us, (defScope st).names.lookup y.1 = some .local ∨ ((defScope st).names.lookup y.1 = some .cell ∧ ((cellsFrom (s.heap.objs.size + 1) (defScope st).names []).lookup y.1).isSome = true) := by
    intro y hy
    rcases Sc.par y.1 (List.of_mem_zip (a := y.1) (b := y.2) hy).1 with z | z
    · exact Or.inl z
    · exact Or.inr ⟨z, PySem.W.cellsFrom_some _ _ _ (Or.inl z)⟩
  refine codeAny_call_function hr.depth (hK _ _ lk) rfl Sc.co Sc.gen rfl (PySem.W.codeRec_of hK hcd) (hb _ _ _ _ (wpAny_newFunctionEnv_cells Sc.kind hkd fun env he s1 inC => ?_))
  subst he
  refine ⟨hlim.keeps inC.toInCall.keep, codeAny_func ?_⟩
  obtain ⟨t, pt, qt⟩ := body cdv A outer s H vs Q E hgd (hr.deeper _) hsp
  have I0 := inv_start (CX := CX) (P := P) (w := w) (K := K) (mg := mg) (base := base) (E := E) Sc hr.hd e0 (len _ _ _ _ hsp) rv inC
  refine wpAny_mono (pt.run [] s1 (L2.start N vs) H _ I0 qt) (fun fl s2 hfl => ?_) fun e s2 he => he
  cases fl with
  | brk => obtain ⟨_, _, _, z⟩ := hfl; exact False.elim z
  | cont => obtain ⟨_, _, _, z⟩ := hfl; exact False.elim z
  | next =>
    obtain ⟨σ2, H2, J, q⟩ := hfl
    exact ⟨V.non, H2, J.os, J.bare, J.base, J.hok, rfl, q⟩
  | ret u =>
    obtain ⟨v, σ2, H2, J, rv2, q⟩ := hfl
    exact ⟨v, H2, J.os, J.bare, J.base, J.hok, rv2, q⟩
end
section
variable {X : Cx} {CX : CXT} {k : Nat} {f : Addr} {fd : FuncData} {ps : List Str} {sp : Sp} {E : XK} {x : Str} {p pos : Pos} {e : Expr} {es : List Expr} {t : TA}
/-- f(e, ..), every parameter given -/
theorem pe_callG (F : FnG X.prog X.w X.K X.mg X.base CX k f fd ps sp) (hgd : X.A.guards = some []) (hr : Room k X.A) (hg : Gl X x) (hm : X.mg x = some (.ref f)) (hk : PySem.W.keepIn X.K (.ref f) = true) (hb : Binds X.K fd ps []) (hx : Passes CX X E)
    (ha : PA X (e :: es) t) (hdb : (x == ("__debug__" : Str)) = false := by decide) (he : starEach (e :: es) X.env = (false, eval e X.env) :: starEach es X.env := by rfl) (hpl : (backTo pos (starEach es X.env)).any (·.1) = false := by rfl) :
    PE X (.Call (.Name x p) (e :: es) [] pos) (fun σ H Q => t σ H fun vs H1 => sp vs H1 Q E) := by
  constructor
  intro pins s σ H Q I h
  apply wpAny_Call_Name_kw
  refine ld_glob I hg hm (PySem.W.callWith_K (h₀ := X.base) I.ok.mod.kin hk (thn (ha.run pos pins s σ H _ I h) ?_) he hpl) hdb
  rintro us s1 ⟨vs, H1, I1, rv, q⟩
  refine ⟨I1.kIn, wpAny_call (codeAny_mono (F.run X.A X.stack s1 H1 ⟨us, []⟩ us vs Q E hgd hr I1.env0 ?_ rv q) ?_)⟩
  · have hb' := hb s1 us I1.kIn
    simp only [List.append_nil] at hb'
    exact hb' (by rw [← rv.length]; exact F.len _ _ _ _ q)
  · intro r s2 hr2
    cases r with
    | error ex => exact hx pins σ H1 s1 ex s2 I1 hr2
    | ok fl =>
      cases fl with
      | ret u => exact I1.after hr2
      | next => exact False.elim hr2
      | brk => exact False.elim hr2
      | cont => exact False.elim hr2
theorem pe_callG0 (F : FnG X.prog X.w X.K X.mg X.base CX k f fd ps sp) (hgd : X.A.guards = some []) (hr : Room k X.A) (hg : Gl X x) (hm : X.mg x = some (.ref f)) (hk : PySem.W.keepIn X.K (.ref f) = true) (hb : Binds X.K fd ps []) (hx : Passes CX X E)
    (hdb : (x == ("__debug__" : Str)) = false := by decide) : PE X (.Call (.Name x p) [] [] pos) (fun σ H Q => sp [] H Q E) := by
  constructor
  intro pins s σ H Q I h
  apply wpAny_Call_Name_kw
  refine ld_glob I hg hm (PySem.W.callWith_K0 I.kIn hk (wpAny_call (codeAny_mono (F.run X.A X.stack s H ⟨[], []⟩ [] [] Q E hgd hr I.env0 ?_ .nil h) ?_))) hdb
  · have hb' := hb s [] I.kIn
    simp only [List.append_nil] at hb'
    exact hb' (by have := F.len _ _ _ _ h; exact this)
  · intro r s2 hr2
    cases r with
    | error ex => exact hx pins σ H s ex s2 I hr2
    | ok fl =>
      cases fl with
      | ret u => exact I.after hr2
      | next => exact False.elim hr2
      | brk => exact False.elim hr2
      | cont => exact False.elim hr2
end
/-! ### the law itself -/
/-- the one tracked thing at the beginning: the script -/
def scrH (a : Addr) (o : Obj) (ns : List Int) : Hp := fun b => if b = a then some (.frz o (.lst (ns.map V.int))) else none
theorem law_callG {P : Program} {w : World} {K : PySem.W.Frag} {mg mb : Str → Option Value} {k : Nat} {fa a : Addr} {fd : FuncData} {x : Str} {sp : Sp} {s₁ : Shared} {vs : List Value} {ns : List Int}
    (hK : K.In s₁.heap) (hns : s₁.heap.Ns mainGlobals mg) (hb : s₁.heap.Ns builtinsNs mb) (hbb : ∀ x : Str, x ≠ "__name__" → mb x = bootBuiltins x) (hlim : s₁.heap.NoLimit) (hg : s₁.gens = #[])
    (ha : s₁.heap.get? a = some { cls := .type "list", data := .seq vs.toArray }) (hi : IntsAre vs ns) (hl : ns.length ≤ sizeLine) (hr : Room k callerA)
    (F : ∀ base : Heap, K.In base → base.Ns mainGlobals mg → FnG P w K mg base CX0 k fa fd [x] sp) (hbind : ∀ (s : Shared) (u : Value), BindsTo s fd ⟨[u], []⟩ [(x, u)])
    (hsp : ∀ H : Hp, Only H → SqL K H a (ns.map V.int) → sp [.ref a] H (fun v _ => v = .bl true) fun _ _ _ => False) :
    codeAny (model P w) callerA (.call (.ref fa) ⟨[.ref a], []⟩) (fun r s' => r = .ok (.ret (.bool true)) ∧ OldK s₁.heap s'.heap ∧ s'.os = s₁.os ∧ AllBare s'.gens) s₁ := by
  -- from any abstract heap that holds at most the script, as an object that is known
  suffices go : ∀ H : Hp, Only H → SqL K H a (ns.map V.int) → HOk P w H s₁.heap → (∀ b, H b ≠ none → b = a) → (H a ≠ none → K.lookup a = none) →
      codeAny (model P w) callerA (.call (.ref fa) ⟨[.ref a], []⟩) (fun r s' => r = .ok (.ret (.bool true)) ∧ OldK s₁.heap s'.heap ∧ s'.os = s₁.os ∧ AllBare s'.gens) s₁ by
    by_cases hk : K.lookup a = none
    · refine go (scrH a { cls := .type "list", data := .seq vs.toArray } ns) (fun b => ?_) (Or.inl (Or.inr ⟨_, if_pos rfl⟩)) (fun b u z => ?_) (fun b z => ?_) fun _ => hk
      · unfold scrH
        by_cases e : b = a
        · exact Or.inr ⟨_, _, if_pos e⟩
        · exact Or.inl (if_neg e)
      · unfold scrH at z
        by_cases e : b = a
        · rw [if_pos e] at z
          cases z
          subst e
          exact ⟨ha, by rw [List.length_map]; exact hl, vs, _, vals_ints hi, ha⟩
        · rw [if_neg e] at z; cases z
      · unfold scrH at z
        by_cases e : b = a
        · exact e
        · rw [if_neg e] at z; exact absurd rfl z
    · cases q : K.lookup a with
      | none => exact absurd q hk
      | some o =>
        have e := hK a o q
        rw [ha] at e
        cases e
        refine go (fun _ => none) (fun _ => Or.inl rfl) (Or.inr ⟨_, vs.toArray, _, q, rfl, rfl, rfl, ?_, ?_⟩) (fun b u z => by cases z) (fun b z => absurd rfl z) fun z => absurd rfl z
        · rw [List.size_toArray, hi.length]; exact hl
        · have := vals_ints hi; simpa using this
  intro H hO hS hok hA hnk
  have free : ∀ {b : Addr} {o : Obj}, s₁.heap.get? b = some o → b ≠ a → H b = none := fun {b o} _ ne => by
    cases q : H b with
    | none => rfl
    | some u => exact absurd (hA b (by rw [q]; exact fun z => by cases z)) ne
  have nsB : ∀ {b : Addr} {m : Str → Option Value}, s₁.heap.Ns b m → (hidT s₁.heap H).Ns b m := fun {b m} hn => by
    obtain ⟨o, es, ep, e, d, rest⟩ := hn
    have ne : b ≠ a := fun z => by
      subst z
      rw [ha] at e
      cases e
      cases (show Data.seq vs.toArray _ = Data.dict es ep from d)
    exact ⟨o, es, ep, hidT_get e (free e ne), d, rest⟩
  have kB : K.In (hidT s₁.heap H) := fun b o e => by
    refine hidT_get (hK b o e) ?_
    cases q : H b with
    | none => rfl
    | some u =>
      have eb := hA b (by rw [q]; exact fun z => by cases z)
      subst eb
      have := hnk (by rw [q]; exact fun z => by cases z)
      rw [this] at e; cases e
  have md : Mod K mg (hidT s₁.heap H) := by
    obtain ⟨mc, h1, h2⟩ := hlim
    exact ⟨kB, nsB hns, ⟨mb, nsB hb, hbb⟩, mc, nsB h1, h2⟩
  have e0 : Env0 P w K mg (hidT s₁.heap H) callerA [] s₁ H :=
    { frames := rfl, mod := md, bs := fun b o e => of_hidT e, bsz := Nat.le_of_eq (hidT_size _ _), funs := trivial, frf := fun b hb => (by cases (show b ∈ ([] : List Addr) from hb)), hok := hok, bare := .of_eq hg }
  refine codeAny_mono ((F _ kB (nsB hns)).run callerA [] s₁ H ⟨[.ref a], []⟩ [.ref a] [.ref a] _ _ rfl hr e0 (hbind s₁ (.ref a)) (.cons rfl .nil) (hsp H hO hS)) ?_
  intro r s' hr'
  cases r with
  | error ex => exact False.elim hr'
  | ok fl =>
    cases fl with
    | next => exact False.elim hr'
    | brk => exact False.elim hr'
    | cont => exact False.elim hr'
    | ret u =>
      obtain ⟨v, H', os, bare, un, hok', rv, hv⟩ := hr'
      have hv' : v = .bl true := hv
      subst hv'
      have eu : u = Value.bool true := rv
      subst eu
      refine ⟨rfl, OldK.of_keep fun b o e => ?_, os, bare⟩
      cases q : H b with
      | none => exact un.keep b o e q (fun z => (by cases (show b ∈ ([] : List Addr) from z))) (fun z => (by cases z))
      | some u =>
        rcases hO b with z | ⟨ob, xs, z⟩
        · rw [q] at z; cases z
        · have h1 := (hok b _ z).1
          have h2 := (hok' b _ (un.frzs b ob _ z)).1
          rw [e] at h1
          cases h1
          exact h2
theorem walk_ofG {l : PySem.W.OpenLaw} {n k : Nat} {q : Program} {loose : List Str} {XP : (Str → Option Value) → Heap → Prop} {YP : World → Heap → Prop} {d : DefRec} {K : Params → PySem.W.Frag} {sp : PySem.W.Frag → Sp} {x : Str}
    (hn : l.most = some n) (hn2 : n ≤ sizeLine) (hdf : d.params.defaults = []) (hr : Room k callerA) (hY : ∀ (w : World) (h : Heap), YP w h → (K w.params).In h)
    (F : ∀ (w : World) (mg : Str → Option Value) (fa : Addr) (h : Heap), (K w.params).In h → h.Ns mainGlobals mg → mg d.name = some (.ref fa) →
      ∃ fd : FuncData, (∀ (s : Shared) (u : Value), BindsTo s fd ⟨[u], []⟩ [(x, u)]) ∧ ∀ base : Heap, (K w.params).In base → base.Ns mainGlobals mg → FnG l.prog w (K w.params) mg base CX0 k fa fd [x] (sp (K w.params)))
    (hsp : ∀ (K : PySem.W.Frag) (H : Hp) (a : Addr) (ns : List Int), ns.length ≤ n → Only H → SqL K H a (ns.map V.int) → sp K [.ref a] H (fun v _ => v = .bl true) fun _ _ _ => False) :
    PySem.W.WalkO q loose XP YP l.row.toRowW d [] (fun f vs => PySem.call f vs) := by
  refine Att.attach_call hn hdf fun w s₀ s₁ mg mb fa o pm cd doc a vs ns Gr Y ho hd hcd hmg hobj hints hlen hg => ?_
  have KX := hY w _ Y
  obtain ⟨fd, hb, hF⟩ := F w mg fa _ KX Gr.T.g hmg
  exact law_callG KX Gr.T.g Gr.T.b Gr.T.builtins Gr.T.nolimit hg hobj hints (Nat.le_trans hlen hn2) hr hF hb fun H hO hS => hsp _ H a ns hlen hO hS
end VL

set_option Elab.async false
set_option linter.all false
set_option maxRecDepth 100000
/-! VL3: calls of defs, with parameters that are handed in to be changed. -/
namespace VL
open PySem L2

inductive Arg where
  | v (f : Ex) | io (i : Nat)
def Arg.isIo (i : Nat) : Arg → Bool
  | .v _ => false
  | .io j => i == j
def evArgs : List Arg → List D → Option (List D × List D)
  | [], env => some ([], env)
  | .v f :: r, env => (f env).bind fun p => (evArgs r p.2).map fun q => (p.1 :: q.1, q.2)
  | .io i :: r, env => (evArgs r env).bind fun q => (q.2[i]?).map fun d => (d :: q.1, q.2)
def ixOf (as : List Arg) (i : Nat) : Option Nat := as.findIdx? (Arg.isIo i)
def wb (as : List Arg) (ds env : List D) : List D := env.mapIdx fun i d => match ixOf as i with
  | some j => ds.getD j d
  | none => d
inductive ArgR (K : PySem.W.Frag) (G : Hp) (σ : St) (env : List D) : List Arg → List V → List D → Prop where
  | nil : ArgR K G σ env [] [] []
  | v {f : Ex} {as : List Arg} {v : V} {d : D} {vs : List V} {ds : List D} : Rep K G v d → ArgR K G σ env as vs ds → ArgR K G σ env (.v f :: as) (v :: vs) (d :: ds)
  | io {i : Nat} {as : List Arg} {v : V} {d : D} {vs : List V} {ds : List D} : σ[i]? = some (some v) → env[i]? = some d → ArgR K G σ env as vs ds → ArgR K G σ env (.io i :: as) (v :: vs) (d :: ds)
def tMG (K : PySem.W.Frag) (Γ : Ctx) (as : List Arg) : TA := fun σ H Q => ∃ (O : Gh) (G : Hp) (env : List D) (L : Nat → List Addr) (ds : List D) (env' : List D), StR K O Γ H G σ env L ∧ evArgs as env = some (ds, env') ∧
  ∀ vs H' G' L', StR K O Γ H' G' σ env' L' → Same G G' → ArgR K G' σ env' as vs ds → Q vs H'
theorem ArgR.len {K : PySem.W.Frag} {G : Hp} {σ : St} {env : List D} : ∀ {as : List Arg} {vs : List V} {ds : List D}, ArgR K G σ env as vs ds → vs.length = as.length ∧ ds.length = as.length
  | _, _, _, .nil => ⟨rfl, rfl⟩
  | _, _, _, .v _ t => ⟨by simp [t.len.1], by simp [t.len.2]⟩
  | _, _, _, .io _ _ t => ⟨by simp [t.len.1], by simp [t.len.2]⟩
theorem ArgR.get {K : PySem.W.Frag} {G : Hp} {σ : St} {env : List D} : ∀ {as : List Arg} {vs : List V} {ds : List D} {j : Nat} {a : Arg}, ArgR K G σ env as vs ds → as[j]? = some a →
    ∃ v d, vs[j]? = some v ∧ ds[j]? = some d ∧ (∀ f, a = .v f → Rep K G v d) ∧ (∀ i, a = .io i → σ[i]? = some (some v) ∧ env[i]? = some d)
  | _, _, _, _, _, .nil, e => by simp at e
  | _, _, _, 0, a, .v h t, e => by
    simp only [List.getElem?_cons_zero, Option.some.injEq] at e
    subst e
    exact ⟨_, _, rfl, rfl, fun _ _ => h, fun _ z => (by cases z)⟩
  | _, _, _, 0, a, .io h h' t, e => by
    simp only [List.getElem?_cons_zero, Option.some.injEq] at e
    subst e
    exact ⟨_, _, rfl, rfl, fun _ z => (by cases z), fun _ z => (by cases z; exact ⟨h, h'⟩)⟩
  | _, _, _, j + 1, a, .v h t, e => by
    obtain ⟨v, d, e1, e2, q⟩ := ArgR.get (j := j) (a := a) t (by simpa using e)
    exact ⟨v, d, by simpa using e1, by simpa using e2, q⟩
  | _, _, _, j + 1, a, .io h h' t, e => by
    obtain ⟨v, d, e1, e2, q⟩ := ArgR.get (j := j) (a := a) t (by simpa using e)
    exact ⟨v, d, by simpa using e1, by simpa using e2, q⟩
section
variable {X : Cx} {Γ : Ctx} {a : Expr} {pos : Pos} {fa : Ex}
theorem g_nil : PA X [] (tMG X.K Γ []) := pa_nil.imp fun σ H Q ⟨O, G, env, L, rs, env1, S, e, k⟩ => by
  simp only [evArgs, Option.some.injEq, Prod.mk.injEq] at e
  obtain ⟨rfl, rfl⟩ := e
  exact k [] H G L S (Same.refl _) .nil
theorem g_v {es : List Expr} {as : List Arg} (ha : PE X a (tM X.K Γ fa 0)) (hr : PA X es (tMG X.K Γ as)) (hs : starEach (a :: es) X.env = (false, eval a X.env) :: starEach es X.env := by rfl) : PA X (a :: es) (tMG X.K Γ (.v fa :: as)) :=
  (pa_cons ha hr hs).imp fun σ H Q ⟨O, G, env, L, rs, env2, S, e, k⟩ => by
    simp only [evArgs] at e
    cases h1 : fa env with
    | none => rw [h1] at e; cases e
    | some p =>
      rw [h1] at e
      simp only [Option.bind_some] at e
      cases h2 : evArgs as p.2 with
      | none => rw [h2] at e; cases e
      | some q =>
        rw [h2] at e
        simp only [Option.map_some, Option.some.injEq, Prod.mk.injEq] at e
        obtain ⟨rfl, rfl⟩ := e
        exact ⟨O, G, env, L, p.1, p.2, S, h1, fun v H1 G1 L1 S1 s1 v1 => ⟨O, G1, p.2, L1, q.1, q.2, S1, h2, fun vs H2 G2 L2 S2 s2 r2 => k (v :: vs) H2 G2 L2 S2 (s1.trans s2) (.v (v1.rep.mono s2) r2)⟩⟩
theorem g_io (i : Nat) {x : Str} {es : List Expr} {as : List Arg} (hr : PA X es (tMG X.K Γ as)) (hN : X.N[i]? = some x := by rfl) (hv : Vis X.env.scope x := by first | exact Or.inl rfl | exact Or.inr (Or.inl rfl) | exact Or.inr (Or.inr rfl)) (hg : ((Γ[i]?).bind Kd.dep).isSome = true := by rfl)
    (hd : (x == ("__debug__" : Str)) = false := by decide) (hcd : (x == ("__classdict__" : Str)) = false := by decide) (hs : starEach (.Name x pos :: es) X.env = (false, eval (.Name x pos) X.env) :: starEach es X.env := by rfl) : PA X (.Name x pos :: es) (tMG X.K Γ (.io i :: as)) :=
  (pa_cons (pe_var hN hv hd hcd) hr hs).imp fun σ H Q ⟨O, G, env, L, rs, env2, S, e, k⟩ => by
    obtain ⟨n, hn⟩ : ∃ n, At Γ i n := by
      cases q : Γ[i]? with
      | none => rw [q] at hg; cases hg
      | some z =>
        rw [q] at hg
        simp only [Option.bind_some] at hg
        cases q2 : z.dep with
        | none => rw [q2] at hg; cases hg
        | some n => exact ⟨n, z, q, q2⟩
    simp only [evArgs] at e
    cases h2 : evArgs as env with
    | none => rw [h2] at e; cases e
    | some q =>
      rw [h2] at e
      simp only [Option.bind_some] at e
      cases h3 : q.2[i]? with
      | none => rw [h3] at e; cases e
      | some d =>
        rw [h3] at e
        simp only [Option.map_some, Option.some.injEq, Prod.mk.injEq] at e
        obtain ⟨rfl, rfl⟩ := e
        obtain ⟨v, _, e1, _, _⟩ := S.slot i n hn
        exact ⟨v, e1, O, G, env, L, q.1, q.2, S, h2, fun vs H2 G2 L2 S2 s2 r2 => k (v :: vs) H2 G2 L2 S2 s2 (.io e1 h3 r2)⟩
end

/-- do the arguments fit the parameters -/
def okA (Γ : Ctx) : List Arg → Ctx → Bool
  | [], [] => true
  | .v _ :: as, .ow 0 :: Δ => okA Γ as Δ
  | .io i :: as, .io n :: Δ => decide ((Γ[i]?).bind Kd.dep = some n) && !(as.any (Arg.isIo i)) && okA Γ as Δ
  | _, _ => false
theorem okA_len {Γ : Ctx} : ∀ {as : List Arg} {Δ : Ctx}, okA Γ as Δ = true → Δ.length = as.length
  | [], [], _ => rfl
  | .v _ :: as, .ow 0 :: Δ, h => by simp only [okA] at h; simp [okA_len h]
  | .io i :: as, .io n :: Δ, h => by simp only [okA, Bool.and_eq_true] at h; simp [okA_len h.2]
  | [], _ :: _, h => by simp [okA] at h
  | .v _ :: _, [], h => by simp [okA] at h
  | .v _ :: _, .un :: _, h => by simp [okA] at h
  | .v _ :: _, .ow (_ + 1) :: _, h => by simp [okA] at h
  | .v _ :: _, .io _ :: _, h => by simp [okA] at h
  | .io _ :: _, [], h => by simp [okA] at h
  | .io _ :: _, .un :: _, h => by simp [okA] at h
  | .io _ :: _, .ow _ :: _, h => by simp [okA] at h
theorem at_of {Γ : Ctx} {i n : Nat} (h : (Γ[i]?).bind Kd.dep = some n) : At Γ i n := by
  cases q : Γ[i]? with
  | none => rw [q] at h; cases h
  | some z => rw [q] at h; exact ⟨z, q, h⟩
/-- by places: a read argument, or one to be changed, whose slot no other argument is -/
theorem okA_get {Γ : Ctx} : ∀ {as : List Arg} {Δ : Ctx} {j : Nat} {k : Kd}, okA Γ as Δ = true → Δ[j]? = some k →
    (∃ f, as[j]? = some (.v f) ∧ k = .ow 0) ∨ ∃ i n, as[j]? = some (.io i) ∧ k = .io n ∧ At Γ i n ∧ ∀ j', as[j']? = some (.io i) → j' = j
  | [], [], j, k, _, e => by simp at e
  | .v f :: as, .ow 0 :: Δ, 0, k, h, e => by
    simp only [List.getElem?_cons_zero, Option.some.injEq] at e
    exact .inl ⟨f, rfl, e.symm⟩
  | .v f :: as, .ow 0 :: Δ, j + 1, k, h, e => by
    simp only [okA] at h
    rcases okA_get (j := j) (k := k) h (by simpa using e) with ⟨f', e1, e2⟩ | ⟨i, n, e1, e2, e3, u⟩
    · exact .inl ⟨f', by simpa using e1, e2⟩
    · refine .inr ⟨i, n, by simpa using e1, e2, e3, fun j' e' => ?_⟩
      cases j' with
      | zero => simp at e'
      | succ j' => rw [u j' (by simpa using e')]
  | .io i :: as, .io n :: Δ, 0, k, h, e => by
    simp only [okA, Bool.and_eq_true, decide_eq_true_eq] at h
    simp only [List.getElem?_cons_zero, Option.some.injEq] at e
    refine .inr ⟨i, n, rfl, e.symm, at_of h.1.1, fun j' e' => ?_⟩
    cases j' with
    | zero => rfl
    | succ j' =>
      have hm : Arg.io i ∈ as := List.mem_of_getElem? (by simpa using e')
      have : as.any (Arg.isIo i) = true := List.any_eq_true.mpr ⟨_, hm, by simp [Arg.isIo]⟩
      rw [this] at h
      simp at h
  | .io i :: as, .io n :: Δ, j + 1, k, h, e => by
    simp only [okA, Bool.and_eq_true, decide_eq_true_eq] at h
    rcases okA_get (j := j) (k := k) h.2 (by simpa using e) with ⟨f', e1, e2⟩ | ⟨i', n', e1, e2, e3, u⟩
    · exact .inl ⟨f', by simpa using e1, e2⟩
    · refine .inr ⟨i', n', by simpa using e1, e2, e3, fun j' e' => ?_⟩
      cases j' with
      | zero =>
        simp only [List.getElem?_cons_zero, Option.some.injEq, Arg.io.injEq] at e'
        subst e'
        have hm : Arg.io i ∈ as := List.mem_of_getElem? e1
        have : as.any (Arg.isIo i) = true := List.any_eq_true.mpr ⟨_, hm, by simp [Arg.isIo]⟩
        rw [this] at h
        simp at h
      | succ j' => rw [u j' (by simpa using e')]
  | [], _ :: _, _, _, h, _ => by simp [okA] at h
  | .v _ :: _, [], _, _, h, _ => by simp [okA] at h
  | .v _ :: _, .un :: _, _, _, h, _ => by simp [okA] at h
  | .v _ :: _, .ow (_ + 1) :: _, _, _, h, _ => by simp [okA] at h
  | .v _ :: _, .io _ :: _, _, _, h, _ => by simp [okA] at h
  | .io _ :: _, [], _, _, h, _ => by simp [okA] at h
  | .io _ :: _, .un :: _, _, _, h, _ => by simp [okA] at h
  | .io _ :: _, .ow _ :: _, _, _, h, _ => by simp [okA] at h
theorem isIo_eq {i : Nat} {a : Arg} (h : Arg.isIo i a = true) : a = .io i := by
  cases a with
  | v f => simp [Arg.isIo] at h
  | io j => simp only [Arg.isIo, beq_iff_eq] at h; rw [h]
theorem ixOf_some {as : List Arg} {i j : Nat} (h : ixOf as i = some j) : as[j]? = some (.io i) := by
  unfold ixOf at h
  rw [List.findIdx?_eq_some_iff_getElem] at h
  obtain ⟨h1, h2, _⟩ := h
  rw [List.getElem?_eq_getElem h1, isIo_eq h2]
theorem ixOf_none {as : List Arg} {i : Nat} (h : ixOf as i = none) (j : Nat) : as[j]? ≠ some (.io i) := fun e => by
  unfold ixOf at h
  rw [List.findIdx?_eq_none_iff] at h
  have := h _ (List.mem_of_getElem? e)
  simp [Arg.isIo] at this
theorem wb_get {as : List Arg} {ds env : List D} {i : Nat} {d : D} (e : env[i]? = some d) : (wb as ds env)[i]? = some (match ixOf as i with | some j => ds.getD j d | none => d) := by
  unfold wb
  rw [List.getElem?_mapIdx, e]
  rfl
theorem wb_len {as : List Arg} {ds env : List D} : (wb as ds env).length = env.length := by unfold wb; simp

/-- a def's promise: F of the arguments' data is the answer, and what the parameters hold then -/
def spM (K : PySem.W.Frag) (Δ : Ctx) (n : Nat) (F : List D → Option (D × List D)) : Sp := fun vs H Q _ => ∃ (G : Hp) (ds : List D) (L : Nat → List Addr) (A : List Addr) (io : Nat → Option V) (z : D) (ds' : List D),
  StR K ⟨H, G, A, io⟩ Δ H G (vs.map some) ds L ∧ F ds = some (z, ds') ∧ ∀ v H' G' L', StR K ⟨H, G, A, io⟩ Δ H' G' (vs.map some) ds' L' → Same G G' → VR K ⟨H, G, A, io⟩ Δ H' G' L' n v z → Q v H'
def eCall (F : List D → Option (D × List D)) (as : List Arg) : Ex := fun env => (evArgs as env).bind fun p => (F p.1).map fun q => (q.1, wb as q.2 p.2)
theorem eCall_some {F : List D → Option (D × List D)} {as : List Arg} {env env2 : List D} {r : D} (e : eCall F as env = some (r, env2)) : ∃ ds env1 ds', evArgs as env = some (ds, env1) ∧ F ds = some (r, ds') ∧ env2 = wb as ds' env1 := by
  unfold eCall at e
  cases h1 : evArgs as env with
  | none => rw [h1] at e; cases e
  | some p =>
    rw [h1] at e
    simp only [Option.bind_some] at e
    cases h3 : F p.1 with
    | none => rw [h3] at e; cases e
    | some z =>
      rw [h3] at e
      simp only [Option.map_some, Option.some.injEq, Prod.mk.injEq] at e
      obtain ⟨rfl, rfl⟩ := e
      exact ⟨p.1, p.2, z.2, rfl, h3, rfl⟩
/-- the addresses handed in -/
def argL (as : List Arg) (L : Nat → List Addr) (j : Nat) : List Addr := match as[j]? with
  | some (.io i) => L i
  | _ => []
def argA (as : List Arg) (L : Nat → List Addr) : List Addr := as.flatMap fun a => match a with
  | .io i => L i
  | .v _ => []
theorem mem_argA {as : List Arg} {L : Nat → List Addr} {a : Addr} : a ∈ argA as L ↔ ∃ (j : Nat) (i : Nat), as[j]? = some (.io i) ∧ a ∈ L i := by
  unfold argA
  rw [List.mem_flatMap]
  constructor
  · rintro ⟨x, hx, ha⟩
    cases x with
    | v f => cases ha
    | io i =>
      obtain ⟨j, hj, e⟩ := List.mem_iff_getElem.mp hx
      exact ⟨j, i, by rw [List.getElem?_eq_getElem hj, e], ha⟩
  · rintro ⟨j, i, e, ha⟩
    exact ⟨.io i, List.mem_of_getElem? e, ha⟩
section
variable {K : PySem.W.Frag} {O : Gh} {Γ Δ : Ctx} {H H' G G' : Hp} {σ : St} {env ds ds' : List D} {L L' : Nat → List Addr} {n : Nat} {v : V} {d : D} {as : List Arg} {vs : List V}
abbrev ghC (H G : Hp) (as : List Arg) (L : Nat → List Addr) (vs : List V) : Gh := ⟨H, G, argA as L, fun j => vs[j]?⟩
/-- the callee's beginning -/
theorem StR.enter (S : StR K O Γ H G σ env L) (ok : okA Γ as Δ = true) (A : ArgR K G σ env as vs ds) : StR K (ghC H G as L vs) Δ H G (vs.map some) ds (argL as L) := by
  have il : ∀ (j i : Nat), as[j]? = some (.io i) → argL as L j = L i := fun j i e => by unfold argL; rw [e]
  have vl : ∀ (j : Nat) f, as[j]? = some (.v f) → argL as L j = [] := fun j f e => by unfold argL; rw [e]
  have sh : ∀ j n, At Δ j n → (∃ f, as[j]? = some (.v f) ∧ n = 0) ∨ ∃ i, as[j]? = some (.io i) ∧ At Γ i n ∧ ∀ j', as[j']? = some (.io i) → j' = j := fun j n ⟨k, e1, e2⟩ => by
    rcases okA_get ok e1 with ⟨f, q1, rfl⟩ | ⟨i, m, q1, rfl, q2, u⟩
    · cases e2; exact .inl ⟨f, q1, rfl⟩
    · cases e2; exact .inr ⟨i, q1, q2, u⟩
  refine ⟨S.gh, by rw [List.length_map, A.len.1, A.len.2], by rw [okA_len ok, A.len.2], fun j n hj => ?_, fun j n hj => ?_, fun j j' n m hj hj' ne a ha ha' => ?_, fun j n hj a ha => ?_, fun b o e _ => e, fun a o e => .inl (by show (G a).isSome = true; rw [e]; rfl), fun j n e => ?_⟩
  · rcases sh j n hj with ⟨f, q1, rfl⟩ | ⟨i, q1, q2, _⟩
    · obtain ⟨v, d, e1, e2, r, _⟩ := A.get q1
      rw [vl j f q1]
      exact ⟨v, d, by rw [List.getElem?_map, e1]; rfl, e2, .rep (r f rfl)⟩
    · obtain ⟨v, d, e1, e2, _, r⟩ := A.get q1
      obtain ⟨z1, z2⟩ := r i rfl
      obtain ⟨v', d', y1, y2, o⟩ := S.slot i n q2
      rw [z1] at y1; cases y1
      rw [z2] at y2; cases y2
      rw [il j i q1]
      exact ⟨v, d, by rw [List.getElem?_map, e1]; rfl, e2, o⟩
  · rcases sh j n hj with ⟨f, q1, rfl⟩ | ⟨i, q1, q2, _⟩
    · rw [vl j f q1]; exact List.nodup_nil
    · rw [il j i q1]; exact S.nd i n q2
  · rcases sh j n hj with ⟨f, q1, rfl⟩ | ⟨i, q1, q2, u⟩
    · rw [vl j f q1] at ha; cases ha
    · rcases sh j' m hj' with ⟨f', q1', rfl⟩ | ⟨i', q1', q2', u'⟩
      · rw [vl j' f' q1'] at ha'; cases ha'
      · rw [il j i q1] at ha
        rw [il j' i' q1'] at ha'
        by_cases e : i = i'
        · subst e; exact ne (u' j q1)
        · exact S.dj i i' n m q2 q2' e a ha ha'
  · rcases sh j n hj with ⟨f, q1, rfl⟩ | ⟨i, q1, q2, _⟩
    · rw [vl j f q1] at ha; cases ha
    · rw [il j i q1] at ha
      exact .inr (mem_argA.mpr ⟨j, i, q1, ha⟩)
  · rcases okA_get ok e with ⟨f, q1, z⟩ | ⟨i, m, q1, _, q2, _⟩
    · cases z
    · obtain ⟨v, d, e1, e2, _, r⟩ := A.get q1
      exact ⟨v, e1, by rw [List.getElem?_map, e1]; rfl⟩
def retL (as : List Arg) (L L' : Nat → List Addr) (i : Nat) : List Addr := match ixOf as i with
  | some j => L' j
  | none => L i
/-- the callee's end -/
theorem StR.leave (S : StR K O Γ H G σ env L) (ok : okA Γ as Δ = true) (A : ArgR K G σ env as vs ds) (S' : StR K (ghC H G as L vs) Δ H' G' (vs.map some) ds' L') (gg : Same G G') (hv : VR K (ghC H G as L vs) Δ H' G' L' n v d) :
    StR K O Γ H' G' σ (wb as ds' env) (retL as L L') ∧ VR K O Γ H' G' (retL as L L') n v d := by
  have hk : ∀ a, (H a).isSome = true → a ∉ argA as L → H' a = H a := fun a e hm => by
    cases q : H a with
    | none => rw [q] at e; cases e
    | some o => rw [S'.pres a o q hm]
  -- a slot is handed in, or not
  have io : ∀ i m, At Γ i m → (∃ j, ixOf as i = some j ∧ as[j]? = some (.io i) ∧ At Δ j m) ∨ (ixOf as i = none ∧ ∀ a ∈ L i, a ∉ argA as L) := fun i m hi => by
    cases q : ixOf as i with
    | some j =>
      have e := ixOf_some q
      refine .inl ⟨j, rfl, e, ?_⟩
      have hl : j < Δ.length := by rw [okA_len ok]; exact (List.getElem?_eq_some_iff.mp e).1
      rcases okA_get ok (List.getElem?_eq_getElem hl) with ⟨f, q1, _⟩ | ⟨i', m', q1, q2, q3, _⟩
      · rw [q1] at e; cases e
      · rw [q1] at e; cases e
        rw [hi.uniq q3]
        exact ⟨_, List.getElem?_eq_getElem hl, by rw [q2]; rfl⟩
    | none =>
      refine .inr ⟨rfl, fun a ha hm => ?_⟩
      obtain ⟨j, i', e, ha'⟩ := mem_argA.mp hm
      have hl : j < Δ.length := by rw [okA_len ok]; exact (List.getElem?_eq_some_iff.mp e).1
      rcases okA_get ok (List.getElem?_eq_getElem hl) with ⟨f, q1, _⟩ | ⟨i2, m', q1, q2, q3, _⟩
      · rw [q1] at e; cases e
      · have ei : i2 = i' := by rw [q1] at e; cases e; rfl
        subst ei
        by_cases z : i = i2
        · subst z; exact ixOf_none q j q1
        · exact S.dj i i2 m m' hi q3 z a ha ha'
  have rl1 : ∀ (i j : Nat), ixOf as i = some j → retL as L L' i = L' j := fun i j e => by unfold retL; rw [e]
  have rl0 : ∀ (i : Nat), ixOf as i = none → retL as L L' i = L i := fun i e => by unfold retL; rw [e]
  have ownO : ∀ a, (ghC H G as L vs).own a → O.own a := fun a h => by
    rcases h with h | h
    · cases r : O.H0 a with
      | none => exact .inl r
      | some u =>
        by_cases hA : a ∈ O.A
        · exact .inr hA
        · change H a = none at h
          rw [S.pres a u r hA] at h; cases h
    · obtain ⟨j, i, e, ha⟩ := mem_argA.mp h
      have hl : j < Δ.length := by rw [okA_len ok]; exact (List.getElem?_eq_some_iff.mp e).1
      rcases okA_get ok (List.getElem?_eq_getElem hl) with ⟨f, q1, _⟩ | ⟨i2, m', q1, q2, q3, _⟩
      · rw [q1] at e; cases e
      · rw [q1] at e; cases e
        exact S.new i m' q3 a ha
  -- what is not handed in is not the callee's
  have apart : ∀ i m, At Γ i m → (∀ a ∈ L i, a ∉ argA as L) → ∀ a ∈ L i, ¬ (ghC H G as L vs).own a := fun i m hi h a ha q => by
    obtain ⟨_, _, _, _, o⟩ := S.slot i m hi
    rcases q with q | q
    · change H a = none at q
      have y := (o.objs a ha).2.1
      rw [q] at y; cases y
    · exact h a ha q
  have uniqJ : ∀ (i i' j : Nat), as[j]? = some (.io i) → as[j]? = some (.io i') → i = i' := fun i i' j e e' => by rw [e] at e'; cases e'; rfl
  refine ⟨⟨S'.gh, by rw [wb_len]; exact S.ls, by rw [wb_len]; exact S.lg, fun i m hi => ?_, fun i m hi => ?_, fun i i' m m' hi hi' ne a ha ha' => ?_, fun i m hi a ha => ?_, fun b o e hb => ?_, fun a o e => ?_, S.io⟩, ?_⟩
  · obtain ⟨v', d', e1, e2, o⟩ := S.slot i m hi
    rcases io i m hi with ⟨j, q, e, hj⟩ | ⟨q, hd⟩
    · obtain ⟨v2, d2, y1, y2, o2⟩ := S'.slot j m hj
      obtain ⟨v3, d3, w1, w2, _, r⟩ := A.get e
      rw [List.getElem?_map, w1] at y1
      simp only [Option.map_some, Option.some.injEq] at y1
      subst y1
      refine ⟨v3, d2, (r i rfl).1, ?_, by rw [rl1 i j q]; exact o2⟩
      rw [wb_get e2, q]
      simp only [List.getD, y2, Option.getD_some]
    · refine ⟨v', d', e1, by rw [wb_get e2, q], ?_⟩
      rw [rl0 i q]
      refine o.mono gg fun a ha => ⟨hk a (o.objs a ha).2.1 (hd a ha), ?_⟩
      cases z : G' a with
      | none => rfl
      | some u =>
        rcases S'.gn a u z with y | y
        · change (G a).isSome = true at y
          rw [(o.objs a ha).1] at y; cases y
        · exact absurd y (apart i m hi hd a ha)
  · rcases io i m hi with ⟨j, q, e, hj⟩ | ⟨q, hd⟩
    · rw [rl1 i j q]; exact S'.nd j m hj
    · rw [rl0 i q]; exact S.nd i m hi
  · rcases io i m hi with ⟨j, q, e, hj⟩ | ⟨q, hd⟩
    · rw [rl1 i j q] at ha
      rcases io i' m' hi' with ⟨j', q', e', hj'⟩ | ⟨q', hd'⟩
      · rw [rl1 i' j' q'] at ha'
        have nj : j ≠ j' := fun z => by subst z; exact ne (uniqJ i i' j e e')
        exact S'.dj j j' m m' hj hj' nj a ha ha'
      · rw [rl0 i' q'] at ha'
        exact apart i' m' hi' hd' a ha' (S'.new j m hj a ha)
    · rw [rl0 i q] at ha
      rcases io i' m' hi' with ⟨j', q', e', hj'⟩ | ⟨q', hd'⟩
      · rw [rl1 i' j' q'] at ha'
        exact apart i m hi hd a ha (S'.new j' m' hj' a ha')
      · rw [rl0 i' q'] at ha'
        exact S.dj i i' m m' hi hi' ne a ha ha'
  · rcases io i m hi with ⟨j, q, e, hj⟩ | ⟨q, hd⟩
    · rw [rl1 i j q] at ha; exact ownO a (S'.new j m hj a ha)
    · rw [rl0 i q] at ha; exact S.new i m hi a ha
  · have e' := S.pres b o e hb
    refine S'.pres b o e' fun hm => ?_
    obtain ⟨j, i, ej, ha⟩ := mem_argA.mp hm
    have hl : j < Δ.length := by rw [okA_len ok]; exact (List.getElem?_eq_some_iff.mp ej).1
    rcases okA_get ok (List.getElem?_eq_getElem hl) with ⟨f, q1, _⟩ | ⟨i2, m', q1, q2, q3, _⟩
    · rw [q1] at ej; cases ej
    · rw [q1] at ej; cases ej
      rcases S.new i m' q3 b ha with z | z
      · rw [z] at e; cases e
      · exact hb z
  · rcases S'.gn a o e with y | y
    · change (G a).isSome = true at y
      cases q : G a with
      | none => rw [q] at y; cases y
      | some u => exact S.gn a u q
    · exact .inr (ownO a y)
  · obtain ⟨M, om, nd, ow, dj⟩ := hv
    refine ⟨M, om, nd, fun a ha => ownO a (ow a ha), fun i m hi a ha hl => ?_⟩
    rcases io i m hi with ⟨j, q, e, hj⟩ | ⟨q, hd⟩
    · rw [rl1 i j q] at hl; exact dj j m hj a ha hl
    · rw [rl0 i q] at hl; exact apart i m hi hd a hl (ow a ha)
end
theorem m_call {X : Cx} {Γ Δ : Ctx} {k n : Nat} {f : Addr} {fd : FuncData} {ps : List Str} {F : List D → Option (D × List D)} {x : Str} {p pos : Pos} {a : Expr} {es : List Expr} {as : List Arg} {CX : CXT} {E : XK}
    (Fn : FnG X.prog X.w X.K X.mg X.base CX k f fd ps (spM X.K Δ n F)) (hgd : X.A.guards = some []) (hr : Room k X.A) (hg : Gl X x) (hm : X.mg x = some (.ref f)) (hk : PySem.W.keepIn X.K (.ref f) = true) (hb : Binds X.K fd ps []) (hx : Passes CX X E)
    (ha : PA X (a :: es) (tMG X.K Γ as)) (ok : okA Γ as Δ = true := by rfl) (hdb : (x == ("__debug__" : Str)) = false := by decide) (he : starEach (a :: es) X.env = (false, eval a X.env) :: starEach es X.env := by rfl) (hpl : (backTo pos (starEach es X.env)).any (·.1) = false := by rfl) :
    PE X (.Call (.Name x p) (a :: es) [] pos) (tM X.K Γ (eCall F as) n) :=
  (pe_callG Fn hgd hr hg hm hk hb hx ha hdb he hpl).imp fun σ H Q ⟨O, G, env, L, r, env2, S, e, kk⟩ => by
    obtain ⟨ds, env1, ds', e1, e2, rfl⟩ := eCall_some e
    refine ⟨O, G, env, L, ds, env1, S, e1, fun vs H1 G1 L1 S1 s1 A1 => ?_⟩
    refine ⟨G1, ds, argL as L1, argA as L1, fun j => vs[j]?, r, ds', S1.enter ok A1, e2, fun v H2 G2 L2 S2 s2 v2 => ?_⟩
    have := S1.leave ok A1 S2 s2 v2
    exact kk v H2 G2 _ this.1 (s1.trans s2) this.2
theorem m_call0 {X : Cx} {Γ : Ctx} {k n : Nat} {f : Addr} {fd : FuncData} {ps : List Str} {F : List D → Option (D × List D)} {x : Str} {p pos : Pos} {CX : CXT} {E : XK}
    (Fn : FnG X.prog X.w X.K X.mg X.base CX k f fd ps (spM X.K [] n F)) (hgd : X.A.guards = some []) (hr : Room k X.A) (hg : Gl X x) (hm : X.mg x = some (.ref f)) (hk : PySem.W.keepIn X.K (.ref f) = true) (hb : Binds X.K fd ps []) (hx : Passes CX X E)
    (hdb : (x == ("__debug__" : Str)) = false := by decide) : PE X (.Call (.Name x p) [] [] pos) (tM X.K Γ (eCall F []) n) :=
  (pe_callG0 Fn hgd hr hg hm hk hb hx hdb).imp fun σ H Q ⟨O, G, env, L, r, env2, S, e, kk⟩ => by
    obtain ⟨ds, env1, ds', e1, e2, rfl⟩ := eCall_some e
    simp only [evArgs, Option.some.injEq, Prod.mk.injEq] at e1
    obtain ⟨rfl, rfl⟩ := e1
    refine ⟨G, [], argL [] L, argA [] L, fun j => ([] : List V)[j]?, r, ds', S.enter (as := []) rfl .nil, e2, fun v H2 G2 L2 S2 s2 v2 => ?_⟩
    have := S.leave (as := []) (vs := []) rfl .nil S2 s2 v2
    exact kk v H2 G2 _ this.1 s2 this.2
end VL

set_option Elab.async false
set_option linter.all false
set_option maxRecDepth 100000
/-! VL4: statements; a def by its body. -/
namespace VL
open PySem PySem.Spec L2

inductive Out where
  | nx (env : List D) | rt (r : D) (env : List D) | bk (env : List D) | ct (env : List D)
abbrev Sx := List D → Option Out
/-- where a body may end: the context and depth at a return; at break; at continue -/
structure Tg where
  rt : Ctx
  n : Nat
  bk : Ctx := []
  ct : Ctx := []
def Post (K : PySem.W.Frag) (T : Tg) (Γ' : Ctx) (O : Gh) (G : Hp) (E : Ends) : Out → Prop
  | .nx e => ∀ σ' H' G' L', StR K O Γ' H' G' σ' e L' → Same G G' → E.nx σ' H'
  | .rt r e => ∀ v σ' H' G' L', StR K O T.rt H' G' σ' e L' → Same G G' → VR K O T.rt H' G' L' T.n v r → E.rt v H'
  | .bk e => ∀ σ' H' G' L', StR K O T.bk H' G' σ' e L' → Same G G' → E.bk σ' H'
  | .ct e => ∀ σ' H' G' L', StR K O T.ct H' G' σ' e L' → Same G G' → E.ct σ' H'
def tS (K : PySem.W.Frag) (T : Tg) (Γ Γ' : Ctx) (g : Sx) : TS := fun E σ H => ∃ (O : Gh) (G : Hp) (env : List D) (L : Nat → List Addr) (o : Out), StR K O Γ H G σ env L ∧ g env = some o ∧ Post K T Γ' O G E o
theorem Post.from {K : PySem.W.Frag} {T : Tg} {Γ' : Ctx} {O : Gh} {G G1 : Hp} {E : Ends} (s : Same G G1) : ∀ {o : Out}, Post K T Γ' O G E o → Post K T Γ' O G1 E o
  | .nx e, h => fun σ' H' G' L' S s' => h σ' H' G' L' S (s.trans s')
  | .rt r e, h => fun v σ' H' G' L' S s' => h v σ' H' G' L' S (s.trans s')
  | .bk e, h => fun σ' H' G' L' S s' => h σ' H' G' L' S (s.trans s')
  | .ct e, h => fun σ' H' G' L' S s' => h σ' H' G' L' S (s.trans s')

/-! ### weaker contexts -/
def wkK : Kd → Kd → Bool
  | _, .un => true
  | .ow n, .ow 0 => decide (n < 100)
  | k, q => decide (k = q)
def wkB : Ctx → Ctx → Bool
  | [], [] => true
  | k :: Γ, q :: Δ => wkK k q && wkB Γ Δ
  | _, _ => false
theorem wkB_len : ∀ {Γ Δ : Ctx}, wkB Γ Δ = true → Δ.length = Γ.length
  | [], [], _ => rfl
  | k :: Γ, q :: Δ, h => by
    simp only [wkB, Bool.and_eq_true] at h
    simp [wkB_len h.2]
  | [], _ :: _, h => by simp [wkB] at h
  | _ :: _, [], h => by simp [wkB] at h
theorem wkB_get : ∀ {Γ Δ : Ctx} {i : Nat} {q : Kd}, wkB Γ Δ = true → Δ[i]? = some q → q = .un ∨ (q = .ow 0 ∧ ∃ n, Γ[i]? = some (.ow n) ∧ n < 100) ∨ Γ[i]? = some q
  | [], [], i, q, _, e => by simp at e
  | k :: Γ, q' :: Δ, 0, q, h, e => by
    simp only [wkB, Bool.and_eq_true] at h
    simp only [List.getElem?_cons_zero, Option.some.injEq] at e
    subst e
    have h1 := h.1
    unfold wkK at h1
    split at h1
    · exact .inl rfl
    · rename_i n; exact .inr (.inl ⟨rfl, n, rfl, of_decide_eq_true h1⟩)
    · exact .inr (.inr (by simp [of_decide_eq_true h1]))
  | k :: Γ, q' :: Δ, i + 1, q, h, e => by
    simp only [wkB, Bool.and_eq_true] at h
    have := wkB_get (i := i) h.2 (by simpa using e)
    simpa using this
  | [], _ :: _, _, _, h, _ => by simp [wkB] at h
  | _ :: _, [], _, _, h, _ => by simp [wkB] at h
section
variable {K : PySem.W.Frag} {O : Gh} {Γ Δ : Ctx} {H H' G G' : Hp} {σ : St} {env : List D} {L : Nat → List Addr} {n : Nat} {v : V} {d : D}
/-- the slots that are shown from now on -/
def wkL (Γ Δ : Ctx) (L : Nat → List Addr) : List Addr := ((List.range Δ.length).filter fun i => decide (Δ[i]? = some (.ow 0))).flatMap fun (i : Nat) => match Γ[i]? with | some (Kd.ow _) => L i | _ => []
theorem mem_wkL {a : Addr} : a ∈ wkL Γ Δ L ↔ ∃ (i : Nat) (n : Nat), Δ[i]? = some (.ow 0) ∧ Γ[i]? = some (.ow n) ∧ a ∈ L i := by
  unfold wkL
  rw [List.mem_flatMap]
  constructor
  · rintro ⟨i, hi, ha⟩
    rw [List.mem_filter] at hi
    split at ha
    · rename_i n e; exact ⟨i, n, of_decide_eq_true hi.2, e, ha⟩
    · cases ha
  · rintro ⟨i, n, hi, hg, ha⟩
    exact ⟨i, List.mem_filter.mpr ⟨List.mem_range.mpr (List.getElem?_eq_some_iff.mp hi).1, decide_eq_true hi⟩, by rw [hg]; exact ha⟩
def wkLs (Δ : Ctx) (L : Nat → List Addr) (i : Nat) : List Addr := if Δ[i]? = some (.ow 0) then [] else L i
theorem StR.weak (S : StR K O Γ H G σ env L) (hw : wkB Γ Δ = true) : Same G (shw G H (wkL Γ Δ L)) ∧ StR K O Δ H (shw G H (wkL Γ Δ L)) σ env (wkLs Δ L) ∧
    ∀ n v d, VR K O Γ H G L n v d → VR K O Δ H (shw G H (wkL Γ Δ L)) (wkLs Δ L) n v d := by
  have c : ∀ i m, At Δ i m → (m = 0 ∧ Δ[i]? = some (.ow 0) ∧ ∃ n, Γ[i]? = some (.ow n) ∧ n < 100) ∨ (Δ[i]? ≠ some (.ow 0) ∧ At Γ i m) := fun i m ⟨k, e1, e2⟩ => by
    rcases wkB_get hw e1 with rfl | ⟨rfl, n, hn⟩ | hn
    · cases e2
    · cases e2; exact .inl ⟨rfl, e1, n, hn⟩
    · by_cases z : k = .ow 0
      · subst z; cases e2; exact .inl ⟨rfl, e1, 0, hn, by decide⟩
      · exact .inr ⟨by rw [e1]; exact fun y => z (Option.some.inj y), k, hn, e2⟩
  have ls0 : ∀ (i : Nat), Δ[i]? = some (.ow 0) → wkLs Δ L i = [] := fun i e => by unfold wkLs; rw [if_pos e]
  have ls1 : ∀ (i : Nat), Δ[i]? ≠ some (.ow 0) → wkLs Δ L i = L i := fun i e => by unfold wkLs; rw [if_neg e]
  have hid : ∀ (i m : Nat), Δ[i]? ≠ some (.ow 0) → At Γ i m → ∀ a ∈ L i, shw G H (wkL Γ Δ L) a = none := fun i m h1 hi a ha => by
    have hm : a ∉ wkL Γ Δ L := fun hm => by
      obtain ⟨i', n', e1, e2, ha'⟩ := mem_wkL.mp hm
      have ne : i ≠ i' := fun z => by subst z; exact h1 e1
      exact S.dj i i' m n' hi ⟨_, e2, rfl⟩ ne a ha ha'
    rw [shw_not hm]
    obtain ⟨_, _, _, _, o⟩ := S.slot i m hi
    exact (o.objs a ha).1
  refine ⟨shw_l, ⟨shw_h S.gh, S.ls, (wkB_len hw).trans S.lg, fun i m hi => ?_, fun i m hi => ?_, fun i j m m' hi hj ne a ha ha' => ?_, fun i m hi a ha => ?_, S.pres, fun a o e => ?_, fun i m e => ?_⟩, fun n v d hv => ?_⟩
  · rcases c i m hi with ⟨rfl, e0, n, hn, hlt⟩ | ⟨e0, hi'⟩
    · obtain ⟨v, d, e1, e2, o⟩ := S.slot i n ⟨_, hn, rfl⟩
      rw [ls0 i e0]
      exact ⟨v, d, e1, e2, .rep (Own.read S.gh hlt o fun a ha => mem_wkL.mpr ⟨i, n, e0, hn, ha⟩)⟩
    · obtain ⟨v, d, e1, e2, o⟩ := S.slot i m hi'
      rw [ls1 i e0]
      exact ⟨v, d, e1, e2, o.mono shw_l fun a ha => ⟨rfl, hid i m e0 hi' a ha⟩⟩
  · rcases c i m hi with ⟨rfl, e0, n, hn⟩ | ⟨e0, hi'⟩
    · rw [ls0 i e0]; exact List.nodup_nil
    · rw [ls1 i e0]; exact S.nd i m hi'
  · rcases c i m hi with ⟨rfl, e0, n, hn⟩ | ⟨e0, hi'⟩
    · rw [ls0 i e0] at ha; cases ha
    · rcases c j m' hj with ⟨rfl, e0', n, hn⟩ | ⟨e0', hj'⟩
      · rw [ls0 j e0'] at ha'; cases ha'
      · rw [ls1 i e0] at ha; rw [ls1 j e0'] at ha'; exact S.dj i j m m' hi' hj' ne a ha ha'
  · rcases c i m hi with ⟨rfl, e0, n, hn⟩ | ⟨e0, hi'⟩
    · rw [ls0 i e0] at ha; cases ha
    · rw [ls1 i e0] at ha; exact S.new i m hi' a ha
  · by_cases hm : a ∈ wkL Γ Δ L
    · obtain ⟨i', n', e1, e2, ha'⟩ := mem_wkL.mp hm
      exact .inr (S.new i' n' ⟨_, e2, rfl⟩ a ha')
    · rw [shw_not hm] at e; exact S.gn a o e
  · rcases wkB_get hw e with z | ⟨z, _⟩ | hn
    · cases z
    · cases z
    · exact S.io i m hn
  · obtain ⟨M, om, nd, ow, dj⟩ := hv
    refine ⟨M, om.mono shw_l fun a ha => ⟨rfl, ?_⟩, nd, ow, fun i m hi a ha hl => ?_⟩
    · have hm : a ∉ wkL Γ Δ L := fun hm => by
        obtain ⟨i', n', e1, e2, ha'⟩ := mem_wkL.mp hm
        exact dj i' n' ⟨_, e2, rfl⟩ a ha ha'
      rw [shw_not hm]; exact (om.objs a ha).1
    · rcases c i m hi with ⟨rfl, e0, n, hn⟩ | ⟨e0, hi'⟩
      · rw [ls0 i e0] at hl; cases hl
      · rw [ls1 i e0] at hl; exact dj i m hi' a ha hl
/-- a slot is stored -/
theorem at_set {i j m n : Nat} (h : At (Γ.set i (.ow n)) j m) : (j = i ∧ m = n) ∨ (j ≠ i ∧ At Γ j m) := by
  obtain ⟨k, e1, e2⟩ := h
  by_cases z : j = i
  · subst z
    by_cases hl : j < Γ.length
    · rw [List.getElem?_set_self hl] at e1; cases e1; cases e2; exact .inl ⟨rfl, rfl⟩
    · rw [List.getElem?_eq_none (by simpa using hl)] at e1; cases e1
  · rw [List.getElem?_set_ne (Ne.symm z)] at e1
    exact .inr ⟨z, k, e1, e2⟩
theorem StR.set {i : Nat} (S : StR K O Γ H G σ env L) (hv : VR K O Γ H G L n v d) (hi : i < Γ.length) (hio : ∀ m, Γ[i]? ≠ some (.io m)) : ∃ L', StR K O (Γ.set i (.ow n)) H G (σ.set i (some v)) (env.set i d) L' := by
  obtain ⟨M, om, nd, ow, dj⟩ := hv
  have li : i < env.length := by rw [← S.lg]; exact hi
  refine ⟨fun j => if j = i then M else L j, S.gh, by simp [S.ls], by simp [S.lg], fun j m hj => ?_, fun j m hj => ?_, fun j j' m m' hj hj' ne a ha ha' => ?_, fun j m hj a ha => ?_, S.pres, S.gn, fun j m e => ?_⟩
  · rcases at_set hj with ⟨rfl, rfl⟩ | ⟨z, hj'⟩
    · rw [if_pos rfl]
      exact ⟨v, d, by rw [List.getElem?_set_self (by rw [S.ls]; exact li)], by rw [List.getElem?_set_self li], om⟩
    · rw [if_neg z]
      obtain ⟨v', d', e1, e2, o⟩ := S.slot j m hj'
      exact ⟨v', d', by rw [List.getElem?_set_ne (Ne.symm z)]; exact e1, by rw [List.getElem?_set_ne (Ne.symm z)]; exact e2, o⟩
  · rcases at_set hj with ⟨rfl, rfl⟩ | ⟨z, hj'⟩
    · rw [if_pos rfl]; exact nd
    · rw [if_neg z]; exact S.nd j m hj'
  · rcases at_set hj with ⟨rfl, rfl⟩ | ⟨z, hj2⟩
    · rw [if_pos rfl] at ha
      rcases at_set hj' with ⟨z', _⟩ | ⟨z', hj2'⟩
      · exact ne z'.symm
      · rw [if_neg z'] at ha'; exact dj j' m' hj2' a ha ha'
    · rw [if_neg z] at ha
      rcases at_set hj' with ⟨rfl, rfl⟩ | ⟨z', hj2'⟩
      · rw [if_pos rfl] at ha'; exact dj j m hj2 a ha' ha
      · rw [if_neg z'] at ha'; exact S.dj j j' m m' hj2 hj2' ne a ha ha'
  · rcases at_set hj with ⟨rfl, rfl⟩ | ⟨z, hj2⟩
    · rw [if_pos rfl] at ha; exact ow a ha
    · rw [if_neg z] at ha; exact S.new j m hj2 a ha
  · by_cases z : j = i
    · subst z
      rw [List.getElem?_set_self hi] at e; cases e
    · rw [List.getElem?_set_ne (Ne.symm z)] at e
      obtain ⟨v', e1, e2⟩ := S.io j m e
      exact ⟨v', e1, by rw [List.getElem?_set_ne (Ne.symm z)]; exact e2⟩
/-- a slot is forgotten -/
theorem StR.drop {i : Nat} (S : StR K O Γ H G σ env L) (x : Option V) (hi : Γ[i]? = some .un) : StR K O Γ H G (σ.set i x) env L := by
  have ne : ∀ j m, At Γ j m → j ≠ i := fun j m ⟨k, e1, e2⟩ z => by subst z; rw [hi] at e1; cases e1; cases e2
  refine ⟨S.gh, by simp [S.ls], S.lg, fun j m hj => ?_, S.nd, S.dj, S.new, S.pres, S.gn, fun j m e => ?_⟩
  · obtain ⟨v', d', e1, e2, o⟩ := S.slot j m hj
    exact ⟨v', d', by rw [List.getElem?_set_ne (Ne.symm (ne j m hj))]; exact e1, e2, o⟩
  · obtain ⟨v', e1, e2⟩ := S.io j m e
    exact ⟨v', e1, by rw [List.getElem?_set_ne (Ne.symm (ne j m ⟨_, e, rfl⟩))]; exact e2⟩
end

/-! ### statements -/
def sNil : Sx := fun env => some (.nx env)
def sq (g h : Sx) : Sx := fun env => (g env).bind fun o => match o with
  | .nx e => h e
  | o => some o
def asg (i : Nat) (f : Ex) : Sx := fun env => (f env).map fun p => .nx (p.2.set i p.1)
def retE (f : Ex) : Sx := fun env => (f env).map fun p => .rt p.1 p.2
def sExp (f : Ex) : Sx := fun env => (f env).map fun p => .nx p.2
def sIf (c : Bx) (g h : Sx) : Sx := fun env => (c env).bind fun p => if p.1 = true then g p.2 else h p.2
section
variable {X : Cx} {Γ Γ1 Γ2 Δ : Ctx} {T : Tg} {a c : Expr} {pos : Pos} {f : Ex} {n i : Nat} {st : Stmt} {sts rest : List Stmt} {g h : Sx}
theorem s_nil : PSs X [] (tS X.K T Γ Γ sNil) := pss_nil.imp fun E σ H ⟨O, G, env, L, o, S, e, k⟩ => by
  simp only [sNil, Option.some.injEq] at e
  subst e
  exact k σ H G L S (Same.refl _)
theorem s_cons (h1 : PS X st (tS X.K T Γ Γ1 g)) (h2 : PSs X rest (tS X.K T Γ1 Γ2 h)) : PSs X (st :: rest) (tS X.K T Γ Γ2 (sq g h)) :=
  (pss_cons h1 h2).imp fun E σ H ⟨O, G, env, L, o, S, e, k⟩ => by
    unfold sq at e
    cases q : g env with
    | none => rw [q] at e; cases e
    | some o1 =>
      rw [q] at e
      simp only [Option.bind_some] at e
      refine ⟨O, G, env, L, o1, S, q, ?_⟩
      cases o1 with
      | nx e1 => exact fun σ' H' G' L' S' s' => ⟨O, G', e1, L', o, S', e, k.from s'⟩
      | rt r e1 => simp only [Option.some.injEq] at e; subst e; exact k
      | bk e1 => simp only [Option.some.injEq] at e; subst e; exact k
      | ct e1 => simp only [Option.some.injEq] at e; subst e; exact k
theorem s_one (h1 : PS X st (tS X.K T Γ Γ1 g)) : PSs X [st] (tS X.K T Γ Γ1 g) := pss_one h1
theorem tS_pre {K : PySem.W.Frag} {E : Ends} {σ : St} {H : Hp} (hw : wkB Γ Δ = true) (h : tS K T Γ Γ2 g E σ H) : tS K T Δ Γ2 g E σ H := by
  obtain ⟨O, G, env, L, o, S, e, k⟩ := h
  obtain ⟨gg, S', _⟩ := S.weak hw
  exact ⟨O, _, env, _, o, S', e, k.from gg⟩
/-- ahead: some slots are forgotten, or shown from now on -/
theorem s_pre (Δ : Ctx) (h : PSs X sts (tS X.K T Δ Γ2 g)) (hw : wkB Γ Δ = true := by rfl) : PSs X sts (tS X.K T Γ Γ2 g) := h.imp fun E σ H q => tS_pre hw q
theorem p_pre (Δ : Ctx) (h : PS X st (tS X.K T Δ Γ2 g)) (hw : wkB Γ Δ = true := by rfl) : PS X st (tS X.K T Γ Γ2 g) := h.imp fun E σ H q => tS_pre hw q
theorem tS_post {K : PySem.W.Frag} {E : Ends} {σ : St} {H : Hp} (hw : wkB Γ1 Δ = true) (h : tS K T Γ Δ g E σ H) : tS K T Γ Γ1 g E σ H := by
  obtain ⟨O, G, env, L, o, S, e, k⟩ := h
  refine ⟨O, G, env, L, o, S, e, ?_⟩
  cases o with
  | nx e1 => exact fun σ' H' G' L' S' s' => k σ' H' _ _ (S'.weak hw).2.1 (s'.trans (S'.weak hw).1)
  | rt r e1 => exact k
  | bk e1 => exact k
  | ct e1 => exact k
theorem s_post (Γ1 : Ctx) (h : PSs X sts (tS X.K T Γ Γ1 g)) (hw : wkB Γ1 Δ = true := by rfl) : PSs X sts (tS X.K T Γ Δ g) := h.imp fun E σ H q => tS_post hw q
theorem p_post (Γ1 : Ctx) (h : PS X st (tS X.K T Γ Γ1 g)) (hw : wkB Γ1 Δ = true := by rfl) : PS X st (tS X.K T Γ Δ g) := h.imp fun E σ H q => tS_post hw q
theorem asg_some {env : List D} {o : Out} (e : asg i f env = some o) : ∃ r env1, f env = some (r, env1) ∧ o = .nx (env1.set i r) := by
  unfold asg at e
  cases q : f env with
  | none => rw [q] at e; cases e
  | some p =>
    rw [q] at e
    simp only [Option.map_some, Option.some.injEq] at e
    exact ⟨p.1, p.2, rfl, e.symm⟩
def notIo : Option Kd → Bool
  | some (.io _) => false
  | some _ => true
  | none => false
theorem notIo_lt (h : notIo Γ[i]? = true) : i < Γ.length ∧ ∀ m, Γ[i]? ≠ some (.io m) := by
  refine ⟨?_, fun m e => by rw [e] at h; cases h⟩
  cases q : Γ[i]? with
  | none => rw [q] at h; cases h
  | some k => exact (List.getElem?_eq_some_iff.mp q).1
theorem tAsg_of {E : Ends} {σ : St} {H : Hp} {K : PySem.W.Frag} (hi : notIo Γ[i]? = true) (h : tS K T Γ (Γ.set i (.ow n)) (asg i f) E σ H) : tAsg (tM K Γ f n) (gName i) E σ H := by
  obtain ⟨O, G, env, L, o, S, e, k⟩ := h
  obtain ⟨r, env1, e1, rfl⟩ := asg_some e
  refine ⟨O, G, env, L, r, env1, S, e1, fun v H1 G1 L1 S1 s1 v1 => ?_⟩
  obtain ⟨L2, S2⟩ := S1.set v1 (notIo_lt hi).1 (notIo_lt hi).2
  exact k _ _ _ _ S2 s1
theorem s_set (i : Nat) {x : Str} {pos' : Pos} (hN : X.N.Nodup) (he : PE X a (tM X.K Γ f n)) (hx : X.N[i]? = some x := by rfl) (hl : Loc X.env.scope x := by first | exact Or.inl rfl | exact Or.inr rfl) (hi : notIo Γ[i]? = true := by rfl)
    (hs : swapsWith a (some (.Name x pos')) pos.line X.env = pure false := by rfl) (hf : X.fn x = true ∨ X.env.scope.names.lookup x = some .local := by first | exact .inl rfl | exact .inr rfl | assumption) : PS X (.Assign [.Name x pos'] a pos) (tS X.K T Γ (Γ.set i (.ow n)) (asg i f)) :=
  (ps_set hN hx hl he hs hf).imp fun E σ H q => tAsg_of hi q
theorem retE_some {env : List D} {o : Out} (e : retE f env = some o) : ∃ r env1, f env = some (r, env1) ∧ o = .rt r env1 := by
  unfold retE at e
  cases q : f env with
  | none => rw [q] at e; cases e
  | some p =>
    rw [q] at e
    simp only [Option.map_some, Option.some.injEq] at e
    exact ⟨p.1, p.2, rfl, e.symm⟩
theorem s_ret (he : PE X a (tM X.K Γ f T.n)) (hw : wkB Γ T.rt = true := by rfl) : PS X (.Return (some a) pos) (tS X.K T Γ Γ1 (retE f)) :=
  (ps_ret he).imp fun E σ H ⟨O, G, env, L, o, S, e, k⟩ => by
    obtain ⟨r, env1, e1, rfl⟩ := retE_some e
    refine ⟨O, G, env, L, r, env1, S, e1, fun v H1 G1 L1 S1 s1 v1 => ?_⟩
    obtain ⟨gg, S2, hv⟩ := S1.weak hw
    exact k v σ H1 _ _ S2 (s1.trans gg) (hv _ _ _ v1)
/-- return of an owned name: it goes along -/
theorem s_retO (i : Nat) {x : Str} {px : Pos} (hx : X.N[i]? = some x := by rfl) (hv : Vis X.env.scope x := by first | exact Or.inl rfl | exact Or.inr (Or.inl rfl) | exact Or.inr (Or.inr rfl)) (hg : Γ[i]? = some (.ow T.n) := by rfl) (hd : (x == ("__debug__" : Str)) = false := by decide)
    (hcd : (x == ("__classdict__" : Str)) = false := by decide) (hr : T.rt[i]? = some .un := by rfl) (hw : wkB Γ T.rt = true := by rfl) : PS X (.Return (some (.Name x px)) pos) (tS X.K T Γ Γ1 (retE (eVar i))) :=
  (ps_ret (pe_var hx hv hd hcd)).imp fun E σ H ⟨O, G, env, L, o, S, e, k⟩ => by
    obtain ⟨r, env1, e1, rfl⟩ := retE_some e
    obtain ⟨v, d, z1, z2, om⟩ := S.slot i T.n ⟨_, hg, rfl⟩
    simp only [eVar, z2, Option.map_some, Option.some.injEq, Prod.mk.injEq] at e1
    obtain ⟨rfl, rfl⟩ := e1
    obtain ⟨gg, S2, _⟩ := S.weak hw
    refine ⟨v, z1, k v σ H _ _ S2 gg ⟨L i, om.mono gg fun a ha => ⟨rfl, ?_⟩, S.nd i _ ⟨_, hg, rfl⟩, S.new i _ ⟨_, hg, rfl⟩, fun j m hj a ha hl => ?_⟩⟩
    · have hm : a ∉ wkL Γ T.rt L := fun hm => by
        obtain ⟨i', n', y1, y2, ha'⟩ := mem_wkL.mp hm
        have ne : i ≠ i' := fun z => by subst z; rw [hr] at y1; cases y1
        exact S.dj i i' _ n' ⟨_, hg, rfl⟩ ⟨_, y2, rfl⟩ ne a ha ha'
      rw [shw_not hm]; exact (om.objs a ha).1
    · obtain ⟨kk, y1, y2⟩ := hj
      have ne : i ≠ j := fun z => by subst z; rw [hr] at y1; cases y1; cases y2
      rcases wkB_get hw y1 with rfl | ⟨rfl, n', hn⟩ | hn
      · cases y2
      · unfold wkLs at hl; rw [if_pos y1] at hl; cases hl
      · unfold wkLs at hl
        split at hl
        · cases hl
        · exact S.dj i j _ m ⟨_, hg, rfl⟩ ⟨kk, hn, y2⟩ ne a ha hl
theorem s_retN (hn : T.n = 0) (hw : wkB Γ T.rt = true := by rfl) : PS X (.Return none pos) (tS X.K T Γ Γ1 (retE (eC .none))) :=
  ps_retN.imp fun E σ H ⟨O, G, env, L, o, S, e, k⟩ => by
    obtain ⟨r, env1, e1, rfl⟩ := retE_some e
    simp only [eC, Option.some.injEq, Prod.mk.injEq] at e1
    obtain ⟨rfl, rfl⟩ := e1
    obtain ⟨gg, S2, _⟩ := S.weak hw
    exact k .non σ H _ _ S2 gg (by rw [hn]; exact .of_rep .non)
theorem s_exp (he : PE X a (tM X.K Γ f n)) (hs : swapsWith a none pos.line X.env = pure false := by rfl) : PS X (.Expr a pos) (tS X.K T Γ Γ (sExp f)) :=
  (ps_expr he hs).imp fun E σ H ⟨O, G, env, L, o, S, e, k⟩ => by
    unfold sExp at e
    cases q : f env with
    | none => rw [q] at e; cases e
    | some p =>
      rw [q] at e
      simp only [Option.map_some, Option.some.injEq] at e
      subst e
      exact ⟨O, G, env, L, p.1, p.2, S, q, fun v H1 G1 L1 S1 s1 _ => k σ H1 G1 L1 S1 s1⟩
theorem s_pass : PS X (.Pass pos) (tS X.K T Γ Γ sNil) := ps_pass.imp fun E σ H ⟨O, G, env, L, o, S, e, k⟩ => by
  simp only [sNil, Option.some.injEq] at e
  subst e
  exact k σ H G L S (Same.refl _)
def sBk : Sx := fun env => some (.bk env)
def sCt : Sx := fun env => some (.ct env)
theorem s_break (hw : wkB Γ T.bk = true := by rfl) : PS X (.Break pos) (tS X.K T Γ Γ1 sBk) := ps_break.imp fun E σ H ⟨O, G, env, L, o, S, e, k⟩ => by
  simp only [sBk, Option.some.injEq] at e
  subst e
  exact k σ H _ _ (S.weak hw).2.1 (S.weak hw).1
theorem s_cont (hw : wkB Γ T.ct = true := by rfl) : PS X (.Continue pos) (tS X.K T Γ Γ1 sCt) := ps_continue.imp fun E σ H ⟨O, G, env, L, o, S, e, k⟩ => by
  simp only [sCt, Option.some.injEq] at e
  subst e
  exact k σ H _ _ (S.weak hw).2.1 (S.weak hw).1
theorem s_if {gc : Bx} {A B : List Stmt} (hc : PT X c (tMT X.K Γ gc)) (ha : PSs X A (tS X.K T Γ Γ1 g)) (hb : PSs X B (tS X.K T Γ Γ1 h)) : PS X (.If c A B pos) (tS X.K T Γ Γ1 (sIf gc g h)) :=
  (ps_if hc ha hb).imp fun E σ H ⟨O, G, env, L, o, S, e, k⟩ => by
    unfold sIf at e
    cases q : gc env with
    | none => rw [q] at e; cases e
    | some p =>
      rw [q] at e
      simp only [Option.bind_some] at e
      refine ⟨O, G, env, L, p.1, p.2, S, q, fun H1 G1 L1 S1 s1 => ?_⟩
      by_cases hb : p.1 = true
      · rw [if_pos hb] at e ⊢
        exact ⟨O, G1, p.2, L1, o, S1, e, k.from s1⟩
      · rw [if_neg hb] at e ⊢
        exact ⟨O, G1, p.2, L1, o, S1, e, k.from s1⟩
end

/-! ### a def -/
/-- what a body gives, called with the arguments' data; m: how many slots it has -/
def runB (g : Sx) (m : Nat) (ds : List D) : Option (D × List D) := (g (ds ++ List.replicate (m - ds.length) .none)).bind fun o => match o with
  | .rt r e => some (r, e.take ds.length)
  | .nx e => some (.none, e.take ds.length)
  | _ => none
/-- the parameters' context at a return: the io ones, the others forgotten -/
def ioK : Kd → Kd
  | .io n => .io n
  | _ => .un
def rtC (Δ : Ctx) (m : Nat) : Ctx := Δ.map ioK ++ List.replicate (m - Δ.length) .un
def inC (Δ : Ctx) (m : Nat) : Ctx := Δ ++ List.replicate (m - Δ.length) .un
/-- at the end the read parameters are as they were -/
theorem start_eq (N : List Str) (vs : List V) : L2.start N vs = vs.map some ++ List.replicate (N.length - vs.length) none := by
  unfold L2.start
  first | rfl | simp
section
variable {K : PySem.W.Frag} {O : Gh} {Δ : Ctx} {H H' G G' : Hp} {env ds : List D} {L : Nat → List Addr} {n m : Nat} {v : V} {d : D} {vs : List V} {σ : St}
theorem getApp {α : Type} {l r : List α} {i : Nat} {x : α} (h : i < l.length) : (l ++ r)[i]? = l[i]? := List.getElem?_append_left h
theorem StR.begin {io : Nat → Option V} {A : List Addr} (S : StR K ⟨H, G, A, io⟩ Δ H G (vs.map some) ds L) (hm : Δ.length ≤ m) (N : List Str) (hN : N.length = m) :
    StR K ⟨H, G, A, io⟩ (inC Δ m) H G (L2.start N vs) (ds ++ List.replicate (m - ds.length) .none) L := by
  have lv : vs.length = ds.length := by have := S.ls; simpa using this
  have ld : Δ.length = ds.length := S.lg
  have g1 : ∀ i n, At (inC Δ m) i n → At Δ i n := fun i n ⟨k, e1, e2⟩ => by
    unfold inC at e1
    by_cases hl : i < Δ.length
    · rw [List.getElem?_append_left hl] at e1; exact ⟨k, e1, e2⟩
    · rw [List.getElem?_append_right (by omega), List.getElem?_replicate] at e1
      split at e1
      · cases e1; cases e2
      · cases e1
  rw [start_eq]
  refine ⟨S.gh, by simp; omega, by unfold inC; simp; omega, fun i n hi => ?_, fun i n hi => S.nd i n (g1 i n hi), fun i j n n' hi hj => S.dj i j n n' (g1 i n hi) (g1 j n' hj), fun i n hi => S.new i n (g1 i n hi), S.pres, S.gn, fun i n e => ?_⟩
  · obtain ⟨v, d, e1, e2, o⟩ := S.slot i n (g1 i n hi)
    exact ⟨v, d, by rw [List.getElem?_append_left (List.getElem?_eq_some_iff.mp e1).1]; exact e1, by rw [List.getElem?_append_left (List.getElem?_eq_some_iff.mp e2).1]; exact e2, o⟩
  · have e' : Δ[i]? = some (.io n) := by
      unfold inC at e
      by_cases hl : i < Δ.length
      · rw [List.getElem?_append_left hl] at e; exact e
      · rw [List.getElem?_append_right (by omega), List.getElem?_replicate] at e
        split at e
        · cases e
        · cases e
    obtain ⟨v, e1, e2⟩ := S.io i n e'
    exact ⟨v, e1, by rw [List.getElem?_append_left (List.getElem?_eq_some_iff.mp e2).1]; exact e2⟩
/-- at a return: the parameters alone again -/
theorem StR.finish {io : Nat → Option V} {A : List Addr} {G1 : Hp} {env' : List D} {L' : Nat → List Addr} (S0 : StR K ⟨H, G, A, io⟩ Δ H G (vs.map some) ds L) (hm : Δ.length ≤ m) (S : StR K ⟨H, G, A, io⟩ (rtC Δ m) H' G1 σ env' L') (gg : Same G G1)
    (hv : VR K ⟨H, G, A, io⟩ (rtC Δ m) H' G1 L' n v d) (h0 : ∀ (i n : Nat), Δ[i]? = some (Kd.ow n) → n = 0) :
    StR K ⟨H, G, A, io⟩ Δ H' G1 (vs.map some) ((env'.take ds.length).mapIdx fun i d => match Δ[i]? with | some (.io _) => d | _ => ds.getD i d) (fun i => match Δ[i]? with | some (.io _) => L' i | _ => []) ∧
    VR K ⟨H, G, A, io⟩ Δ H' G1 (fun i => match Δ[i]? with | some (.io _) => L' i | _ => []) n v d := by
  have lv : vs.length = ds.length := by have := S0.ls; simpa using this
  have ld : Δ.length = ds.length := S0.lg
  have le : env'.length = m := by rw [← S.lg]; unfold rtC; simp; omega
  have io1 : ∀ (i n : Nat), Δ[i]? = some (.io n) → (rtC Δ m)[i]? = some (.io n) := fun i n e => by
    unfold rtC
    rw [List.getElem?_append_left (by rw [List.length_map]; exact (List.getElem?_eq_some_iff.mp e).1), List.getElem?_map, e]
    rfl
  have cs : ∀ i n, At Δ i n → (Δ[i]? = some (.io n)) ∨ (n = 0 ∧ Δ[i]? = some (.ow 0)) := fun i n ⟨k, e1, e2⟩ => by
    cases k with
    | un => cases e2
    | ow z => cases e2; have := h0 i _ e1; subst this; exact .inr ⟨rfl, e1⟩
    | io z => cases e2; exact .inl e1
  refine ⟨⟨S.gh, by simp; omega, by simp; omega, fun i n hi => ?_, fun i n hi => ?_, fun i j n n' hi hj ne a ha ha' => ?_, fun i n hi a ha => ?_, S.pres, S.gn, fun i n e => S0.io i n e⟩, ?_⟩
  · rcases cs i n hi with e | ⟨rfl, e⟩
    · obtain ⟨v1, d1, y1, y2, o⟩ := S.slot i n ⟨_, io1 i n e, rfl⟩
      obtain ⟨v2, z1, z2⟩ := S.io i n (io1 i n e)
      obtain ⟨v3, w1, w2⟩ := S0.io i n e
      have q1 : v2 = v3 := Option.some.inj (z1.symm.trans w1)
      have q2 : v1 = v2 := Option.some.inj (Option.some.inj (y1.symm.trans z2))
      subst q1 q2
      have hl : i < ds.length := by rw [← ld]; exact (List.getElem?_eq_some_iff.mp e).1
      refine ⟨_, d1, w2, ?_, by simp only [e]; exact o⟩
      rw [List.getElem?_mapIdx, List.getElem?_take_of_lt hl, y2]
      simp [e]
    · obtain ⟨v1, d1, y1, y2, o⟩ := S0.slot i 0 hi
      have hl : i < ds.length := (List.getElem?_eq_some_iff.mp y2).1
      refine ⟨v1, d1, y1, ?_, by simp only [e]; exact .rep (o.zero.2.mono gg)⟩
      rw [List.getElem?_mapIdx, List.getElem?_take_of_lt hl]
      have : i < env'.length := by omega
      rw [List.getElem?_eq_getElem this]
      simp [e, y2]
  · rcases cs i n hi with e | ⟨rfl, e⟩
    · simp only [e]; exact S.nd i n ⟨_, io1 i n e, rfl⟩
    · simp only [e]; exact List.nodup_nil
  · rcases cs i n hi with e | ⟨rfl, e⟩
    · rcases cs j n' hj with e' | ⟨rfl, e'⟩
      · simp only [e] at ha; simp only [e'] at ha'
        exact S.dj i j n n' ⟨_, io1 i n e, rfl⟩ ⟨_, io1 j n' e', rfl⟩ ne a ha ha'
      · simp only [e'] at ha'; cases ha'
    · simp only [e] at ha; cases ha
  · rcases cs i n hi with e | ⟨rfl, e⟩
    · simp only [e] at ha; exact S.new i n ⟨_, io1 i n e, rfl⟩ a ha
    · simp only [e] at ha; cases ha
  · obtain ⟨M, om, nd, ow, dj⟩ := hv
    refine ⟨M, om, nd, ow, fun i n hi a ha hl => ?_⟩
    rcases cs i n hi with e | ⟨rfl, e⟩
    · simp only [e] at hl; exact dj i n ⟨_, io1 i n e, rfl⟩ a ha hl
    · simp only [e] at hl; cases hl
end
/-- the data of the parameters behind a call: those that are read stay -/
def outP (Δ : Ctx) (ds env : List D) : List D := (env.take ds.length).mapIdx fun i d => match Δ[i]? with
  | some (.io _) => d
  | _ => ds.getD i d
def runD (Δ : Ctx) (g : Sx) (m : Nat) (ds : List D) : Option (D × List D) := (g (ds ++ List.replicate (m - ds.length) .none)).bind fun o => match o with
  | .rt r e => some (r, outP Δ ds e)
  | .nx e => some (.none, outP Δ ds e)
  | _ => none
def zeroB (Δ : Ctx) : Bool := Δ.all fun k => match k with
  | .ow 0 => true
  | .io _ => true
  | _ => false
theorem zeroB_get {Δ : Ctx} (h : zeroB Δ = true) : ∀ (i n : Nat), Δ[i]? = some (Kd.ow n) → n = 0 := fun i n e => by
  unfold zeroB at h
  have := List.all_eq_true.mp h _ (List.mem_of_getElem? e)
  cases n with
  | zero => rfl
  | succ n => cases this
theorem def_ok {P : Program} {w : World} {K : PySem.W.Frag} {mg : Str → Option Value} {base : Heap} {x qual : Str} {st : Stmt} {f : Addr} {fd : FuncData} {N ps : List Str} {k n m : Nat} {Δ Γ' : Ctx} {g : Sx} (F : Fun K x qual st f fd) (Sc : FnScope N ps (defScope st))
    (hp : Δ.length = ps.length) (hm : N.length = m) (hle : Δ.length ≤ m) (h0 : zeroB Δ = true) (hw : wkB Γ' (rtC Δ m) = true) (hn : n = 0 ∨ ∀ ds e, g ds ≠ some (.nx e))
    (hb : ∀ (cdv : Value) (A : Around) (outer : List Env) (s : Shared) (H : Hp) (E : XK), A.guards = some [] → Room k (A.deeper (PyProof.Rows.envOfC qual (defScope st) s.heap.objs.size f cdv)) → PSs (cxOf CX0 P w K mg base N qual (defScope st) f cdv A outer s H E).nox (defBody st) (tS K ⟨rtC Δ m, n, [], []⟩ (inC Δ m) Γ' g)) :
    FnG P w K mg base CX0 (k + 1) f fd ps (spM K Δ n (runD Δ g m)) := by
  refine FnG.of F Sc (fun vs H Q E h => ?_) (fun cdv A outer s H vs Q E hgd hr h => ?_)
  · obtain ⟨G, ds, L, A, io, z, ds', S, _⟩ := h
    have h1 := S.ls
    rw [List.length_map] at h1
    rw [h1, ← S.lg, hp]
  · obtain ⟨G, ds, L, As, io, z, ds', S, e, q⟩ := h
    refine ⟨_, (hb cdv A outer s H E hgd hr).nox, ?_⟩
    unfold runD at e
    cases r : g (ds ++ List.replicate (m - ds.length) .none) with
    | none => rw [r] at e; cases e
    | some o =>
      rw [r] at e
      simp only [Option.bind_some] at e
      refine ⟨_, G, _, L, o, S.begin hle N hm, r, ?_⟩
      cases o with
      | nx en =>
        simp only [Option.some.injEq, Prod.mk.injEq] at e
        obtain ⟨rfl, rfl⟩ := e
        have n0 : n = 0 := by
          rcases hn with hn | hn
          · exact hn
          · exact absurd r (hn _ _)
        subst n0
        intro σ' H' G' L' S' s'
        obtain ⟨gg, S2, hv⟩ := S'.weak hw
        have := S.finish hle S2 (s'.trans gg) (hv 0 .non .none (.of_rep .non)) (zeroB_get h0)
        exact q .non H' _ _ this.1 (s'.trans gg) this.2
      | rt r' en =>
        simp only [Option.some.injEq, Prod.mk.injEq] at e
        obtain ⟨rfl, rfl⟩ := e
        intro v σ' H' G' L' S' s' v'
        have := S.finish hle S' s' v' (zeroB_get h0)
        exact q v H' _ _ this.1 s' this.2
      | bk en => cases e
      | ct en => cases e
end VL

set_option Elab.async false
set_option linter.all false
set_option maxRecDepth 100000
/-! VL5: targets, walks, for, while, list comprehensions. -/
namespace VL
open PySem PySem.Spec L2

section
variable {K : PySem.W.Frag} {O : Gh} {Γ Δ : Ctx} {H H' G G' : Hp} {σ : St} {env : List D} {L : Nat → List Addr} {n : Nat} {v : V} {d : D}
/-- all that the slots own -/
def allL (Γ : Ctx) (L : Nat → List Addr) : List Addr := ((List.range Γ.length).filter fun i => decide ((Γ[i]?).bind Kd.dep ≠ none)).flatMap L
theorem mem_allL {a : Addr} : a ∈ allL Γ L ↔ ∃ i m, At Γ i m ∧ a ∈ L i := by
  unfold allL
  rw [List.mem_flatMap]
  constructor
  · rintro ⟨i, hi, ha⟩
    rw [List.mem_filter] at hi
    have h2 := of_decide_eq_true hi.2
    cases q : (Γ[i]?).bind Kd.dep with
    | none => exact absurd q h2
    | some m => exact ⟨i, m, at_of q, ha⟩
  · rintro ⟨i, m, ⟨k, e1, e2⟩, ha⟩
    refine ⟨i, List.mem_filter.mpr ⟨List.mem_range.mpr (List.getElem?_eq_some_iff.mp e1).1, decide_eq_true ?_⟩, ha⟩
    rw [e1]; simp [e2]
abbrev Gh.at (O : Gh) (Γ : Ctx) (H G : Hp) (L : Nat → List Addr) : Gh := ⟨H, G, allL Γ L, O.io⟩
/-- the state taken as an entry -/
theorem StR.reg (S : StR K O Γ H G σ env L) : StR K (O.at Γ H G L) Γ H G σ env L :=
  ⟨S.gh, S.ls, S.lg, S.slot, S.nd, S.dj, fun i m hi a ha => .inr (mem_allL.mpr ⟨i, m, hi, ha⟩), fun b o e _ => e, fun a o e => .inl (by show (G a).isSome = true; rw [e]; rfl), S.io⟩
theorem StR.own_of (S : StR K O Γ H G σ env L) {a : Addr} (h : (O.at Γ H G L).own a) : O.own a := by
  rcases h with h | h
  · cases r : O.H0 a with
    | none => exact .inl r
    | some u =>
      by_cases hA : a ∈ O.A
      · exact .inr hA
      · change H a = none at h
        rw [S.pres a u r hA] at h; cases h
  · obtain ⟨i, m, hi, ha⟩ := mem_allL.mp h
    exact S.new i m hi a ha
theorem StR.unreg {Γ' : Ctx} {σ' : St} {env' : List D} {L' : Nat → List Addr} (S : StR K O Γ H G σ env L) (S' : StR K (O.at Γ H G L) Γ' H' G' σ' env' L') : StR K O Γ' H' G' σ' env' L' := by
  refine ⟨S'.gh, S'.ls, S'.lg, S'.slot, S'.nd, S'.dj, fun i m hi a ha => S.own_of (S'.new i m hi a ha), fun b o e hb => ?_, fun a o e => ?_, S'.io⟩
  · refine S'.pres b o (S.pres b o e hb) fun hm => ?_
    obtain ⟨i, m, hi, ha⟩ := mem_allL.mp hm
    rcases S.new i m hi b ha with z | z
    · rw [z] at e; cases e
    · exact hb z
  · rcases S'.gn a o e with z | z
    · change (G a).isSome = true at z
      cases q : G a with
      | none => rw [q] at z; cases z
      | some u => exact S.gn a u q
    · exact .inr (S.own_of z)
theorem VR.unreg {Γ' : Ctx} {L' : Nat → List Addr} (S : StR K O Γ H G σ env L) (h : VR K (O.at Γ H G L) Γ' H' G' L' n v d) : VR K O Γ' H' G' L' n v d := by
  obtain ⟨M, om, nd, ow, dj⟩ := h
  exact ⟨M, om, nd, fun a ha => S.own_of (ow a ha), dj⟩
/-- an address of no slot, not shown, is kept through -/
theorem StR.aside {Γ' : Ctx} {σ' : St} {env' : List D} {L' : Nat → List Addr} {p : Addr} {o : HO} (S : StR K O Γ H G σ env L) (S' : StR K (O.at Γ H G L) Γ' H' G' σ' env' L') (hp : H p = some o) (hg : G p = none) (hl : ∀ i m, At Γ i m → p ∉ L i) :
    H' p = some o ∧ G' p = none ∧ ∀ i m, At Γ' i m → p ∉ L' i := by
  have no : ¬ (O.at Γ H G L).own p := fun h => by
    rcases h with h | h
    · change H p = none at h; rw [hp] at h; cases h
    · obtain ⟨i, m, hi, ha⟩ := mem_allL.mp h
      exact hl i m hi ha
  refine ⟨S'.pres p o hp fun hm => no (.inr hm), ?_, fun i m hi ha => no (S'.new i m hi p ha)⟩
  cases q : G' p with
  | none => rfl
  | some u =>
    rcases S'.gn p u q with z | z
    · change (G p).isSome = true at z; rw [hg] at z; cases z
    · exact absurd z no
theorem StR.put {p : Addr} {o : HO} (S : StR K O Γ H G σ env L) (hg : G p = none) (hl : ∀ i m, At Γ i m → p ∉ L i) (ho : O.own p) : StR K O Γ (upd H p o) G σ env L := by
  refine ⟨fun a u e => ?_, S.ls, S.lg, fun i m hi => ?_, S.nd, S.dj, S.new, fun b u e hb => ?_, S.gn, S.io⟩
  · rw [upd_ne (ne_of_none e hg)]; exact S.gh a u e
  · obtain ⟨v, d, e1, e2, om⟩ := S.slot i m hi
    refine ⟨v, d, e1, e2, om.mono (Same.refl _) fun a ha => ⟨?_, (om.objs a ha).1⟩⟩
    rw [upd_ne fun z => hl i m hi (by rw [← z]; exact ha)]
  · have ne : b ≠ p := fun z => by
      subst z
      rcases ho with z | z
      · rw [z] at e; cases e
      · exact hb z
    rw [upd_ne ne]; exact S.pres b u e hb
end

/-- new things alone -/
structure Ext (G H G' H' : Hp) : Prop where
  gg : Same G G'
  gh : Same G' H'
  hh : Same H H'
  new : ∀ a o, G' a = some o → G a = none → H a = none
theorem Res.ext {K : PySem.W.Frag} {G H G' H' : Hp} {n : Nat} {v : V} {d : D} (R : Res K G H n v d G' H') : Ext G H G' H' := ⟨R.gg, R.gh, R.hh, R.new⟩
theorem StR.ext {K : PySem.W.Frag} {O : Gh} {Γ : Ctx} {H H' G G' : Hp} {σ : St} {env : List D} {L : Nat → List Addr} (S : StR K O Γ H G σ env L) (R : Ext G H G' H') : StR K O Γ H' G' σ env L :=
  (S.res (n := 0) (v := .non) (d := .none) ⟨R.gg, R.gh, R.hh, R.new, [], .rep .non, List.nodup_nil, fun a m => (by cases m)⟩).1
/-- what a walk hands on: a value that stands for d, or (wk) a tuple just made of such -/
def ItR (wk : Bool) (K : PySem.W.Frag) (G H : Hp) (v : V) (d : D) : Prop := Rep K G v d ∨ (wk = true ∧ ∃ T vs ds, v = .ref T ∧ SqT K H T vs ∧ d = .tuple ds ∧ RepL K G vs ds)

/-! ### targets -/
abbrev Gx := D → List D → Option (List D)
/-- the slots but those of ws are as they were -/
def Agree (ws : List Nat) (σ σ' : St) : Prop := σ'.length = σ.length ∧ ∀ j, j ∉ ws → σ'[j]? = σ[j]?
def tG (K : PySem.W.Frag) (wk : Bool) (Γ Γ1 : Ctx) (gt : Gx) (ws : List Nat) : TG := fun v σ H Q => ∃ (O : Gh) (G : Hp) (env : List D) (L : Nat → List Addr) (d : D) (env' : List D), StR K O Γ H G σ env L ∧ ItR wk K G H v d ∧ gt d env = some env' ∧
  ∀ σ' H' G' L', StR K O Γ1 H' G' σ' env' L' → Same G G' → Agree ws σ σ' → Q σ' H'
theorem _root_.L2.PG.imp {X : Cx} {e : Expr} {t t' : TG} (h : PG X e t) (k : ∀ v σ H Q, t' v σ H Q → t v σ H Q) : PG X e t' := ⟨fun pins s σ H v u Q I r q => h.run pins s σ H v u Q I r (k v σ H Q q)⟩
theorem _root_.L2.PGs.imp {X : Cx} {e : List Expr} {t t' : TGs} (h : PGs X e t) (k : ∀ v σ H Q, t' v σ H Q → t v σ H Q) : PGs X e t' := ⟨fun pins s σ H v u Q I r q => h.run pins s σ H v u Q I r (k v σ H Q q)⟩
theorem _root_.L2.PI.imp {X : Cx} {tg e : Expr} {t t' : TI} (h : PI X tg e t) (k : ∀ σ H Q, t' σ H Q → t σ H Q) : PI X tg e t' := ⟨fun pins s σ H R I q => h.run pins s σ H R I (k σ H R q)⟩
def gtName (i : Nat) : Gx := fun d env => some (env.set i d)
def tGs (K : PySem.W.Frag) (Γ Γ1 : Ctx) (gt : List D → List D → Option (List D)) (ws : List Nat) : TGs := fun vs σ H Q => ∃ (O : Gh) (G : Hp) (env : List D) (L : Nat → List Addr) (ds : List D) (env' : List D), StR K O Γ H G σ env L ∧ RepL K G vs ds ∧ gt ds env = some env' ∧
  ∀ σ' H' G' L', StR K O Γ1 H' G' σ' env' L' → Same G G' → Agree ws σ σ' → Q σ' H'
def gtNil : List D → List D → Option (List D) := fun ds env => match ds with | [] => some env | _ => none
def gtCons (g : Gx) (h : List D → List D → Option (List D)) : List D → List D → Option (List D) := fun ds env => match ds with | d :: r => (g d env).bind fun e => h r e | _ => none
def gtTup (n : Nat) (g : List D → List D → Option (List D)) : Gx := fun d env => match d with | .tuple ds => if ds.length = n then g ds env else none | _ => none
section
variable {X : Cx} {Γ Γ1 Γ2 : Ctx} {pos : Pos} {ws us : List Nat}
theorem Agree.trans {σ σ1 σ2 : St} (a : Agree ws σ σ1) (b : Agree us σ1 σ2) : Agree (ws ++ us) σ σ2 :=
  ⟨b.1.trans a.1, fun j hj => (b.2 j fun h => hj (List.mem_append_right _ h)).trans (a.2 j fun h => hj (List.mem_append_left _ h))⟩
theorem t_name (i : Nat) {x : Str} (hN : X.N.Nodup) (hi : X.N[i]? = some x := by rfl) (hx : Loc X.env.scope x := by first | exact Or.inl rfl | exact Or.inr rfl) (hg : notIo Γ[i]? = true := by rfl) (hf : X.fn x = true ∨ X.env.scope.names.lookup x = some .local := by first | exact .inl rfl | exact .inr rfl | assumption) :
    PG X (.Name x pos) (tG X.K false Γ (Γ.set i (.ow 0)) (gtName i) [i]) :=
  (pg_name hN hi hx hf).imp fun v σ H Q ⟨O, G, env, L, d, env1, S, r, e, k⟩ => by
    simp only [gtName, Option.some.injEq] at e
    subst e
    have r : Rep X.K G v d := by
      rcases r with r | ⟨z, _⟩
      · exact r
      · cases z
    obtain ⟨L2, S2⟩ := S.set (VR.of_rep r) (notIo_lt hg).1 (notIo_lt hg).2
    exact k _ H G L2 S2 (Same.refl _) ⟨by simp, fun j hj => List.getElem?_set_ne fun z => hj (by simp [z])⟩
theorem ts_nil : PGs X [] (tGs X.K Γ Γ gtNil []) := pgs_nil.imp fun v σ H Q ⟨O, G, env, L, ds, env1, S, r, e, k⟩ => by
  unfold gtNil at e
  split at e
  · cases r
    simp only [Option.some.injEq] at e
    subst e
    exact ⟨rfl, k σ H G L S (Same.refl _) ⟨rfl, fun _ _ => rfl⟩⟩
  · cases e
theorem ts_cons {e : Expr} {es : List Expr} {g : Gx} {h : List D → List D → Option (List D)} (h1 : PG X e (tG X.K false Γ Γ1 g ws)) (h2 : PGs X es (tGs X.K Γ1 Γ2 h us))
    (hs : (assignEach (e :: es) X.env).map (·.2) = assign e X.env :: (assignEach es X.env).map (·.2) := by rfl) : PGs X (e :: es) (tGs X.K Γ Γ2 (gtCons g h) (ws ++ us)) :=
  (pgs_cons h1 h2 hs).imp fun v σ H Q ⟨O, G, env, L, ds, env2, S, r, e, k⟩ => by
    unfold gtCons at e
    cases r with
    | nil => cases e
    | cons r rr =>
      rename_i d vs ds v
      simp only at e
      cases q : g d env with
      | none => rw [q] at e; cases e
      | some env1 =>
        rw [q] at e
        simp only [Option.bind_some] at e
        exact ⟨_, _, rfl, O, G, env, L, d, env1, S, .inl r, q, fun σ1 H1 G1 L1 S1 s1 a1 => ⟨O, G1, env1, L1, ds, env2, S1, rr.mono s1, e, fun σ2 H2 G2 L2 S2 s2 a2 => k σ2 H2 G2 L2 S2 (s1.trans s2) (a1.trans a2)⟩⟩
theorem t_tup {wk : Bool} {es : List Expr} {kk : Nat} {h : List D → List D → Option (List D)} (n : Nat) (hc : X.calm = true) (h1 : PGs X es (tGs X.K Γ Γ1 h ws)) (hn : (assignEach es X.env).length = n := by rfl) (hst : (assignEach es X.env).findIdx? (·.1) = none := by rfl) :
    PG X (.Tuple es kk pos) (tG X.K wk Γ Γ1 (gtTup n h) ws) :=
  (pg_tup hc h1 hn hst).imp fun v σ H Q ⟨O, G, env, L, d, env1, S, r, e, k⟩ => by
    unfold gtTup at e
    rcases r with r | ⟨_, T, vs, ds, rfl, q, rfl, rr⟩
    · cases r with
      | tup q rr =>
        simp only at e
        split at e
        · rename_i hl
          exact ⟨_, _, rfl, sqT_mono S.gh q.sqT, by rw [rr.length]; exact hl, O, G, env, L, _, env1, S, rr, e, k⟩
        · cases e
      | _ => cases e
    · simp only at e
      split at e
      · rename_i hl
        exact ⟨_, _, rfl, q, by rw [rr.length]; exact hl, O, G, env, L, _, env1, S, rr, e, k⟩
      · cases e
end

/-! ### walks -/
/-- as long as G stands, J yields ds -/
structure WalkD (K : PySem.W.Frag) (wk : Bool) (G : Hp) (J : It) (ds : List D) : Prop where
  go : ∀ i H, Same G H → i < ds.length → J.go i H
  stop : ∀ i H, Same G H → i = ds.length → J.stop i H
  yld : ∀ i H x H' G1, Same G G1 → Same G1 H → J.yld i H x H' → i < ds.length → ∃ d G2, ds[i]? = some d ∧ Ext G1 H G2 H' ∧ ItR wk K G2 H' x d
abbrev Ix := List D → Option (List D × List D)
def tI (K : PySem.W.Frag) (wk : Bool) (Γ : Ctx) (fi : Ix) : TI := fun σ H R => ∃ (O : Gh) (G : Hp) (env : List D) (L : Nat → List Addr) (ds env' : List D), StR K O Γ H G σ env L ∧ fi env = some (ds, env') ∧
  ∀ J H' G' L', StR K O Γ H' G' σ env' L' → Same G G' → WalkD K wk G' J ds → R J H'
def itemsD : D → Option (List D)
  | .list xs => some xs
  | .tuple xs => some xs
  | _ => none
def iSq (f : Ex) : Ix := fun env => (f env).bind fun p => (itemsD p.1).map fun ds => (ds, p.2)
def okR (j : Int) : Bool := decide (-(2 ^ 62) ≤ j) && decide (j < 2 ^ 62)
def upTo (n : Nat) : List D := (List.range n).map fun (k : Nat) => .int k
def fromTo (i : Int) (n : Nat) : List D := (List.range n).map fun (k : Nat) => .int (i + k)
def iRg1 (f : Ex) : Ix := fun env => (f env).bind fun p => match p.1 with
  | .int j => if okR j = true then some (upTo j.toNat, p.2) else none
  | _ => none
def iRg2 (f g : Ex) : Ix := fun env => (f env).bind fun p => (g p.2).bind fun q => match p.1, q.1 with
  | .int i, .int j => if (okR i && okR j) = true then some (fromTo i (j - i).toNat, q.2) else none
  | _, _ => none
def enumFrom (k : Nat) : List D → List D
  | [] => []
  | x :: xs => .tuple [.int (k : Nat), x] :: enumFrom (k + 1) xs
def iEn (f : Ex) : Ix := fun env => (f env).bind fun p => match p.1 with
  | .list xs => some (enumFrom 0 xs, p.2)
  | _ => none
theorem enumFrom_len : ∀ (xs : List D) (k : Nat), (enumFrom k xs).length = xs.length
  | [], _ => rfl
  | x :: xs, k => by simp [enumFrom, enumFrom_len xs]
theorem enumFrom_get : ∀ (xs : List D) (k i : Nat), (enumFrom k xs)[i]? = (xs[i]?).map fun x => .tuple [.int ((k + i : Nat) : Int), x]
  | [], _, _ => by simp [enumFrom]
  | x :: xs, k, 0 => by simp [enumFrom]
  | x :: xs, k, i + 1 => by
    simp only [enumFrom, List.getElem?_cons_succ]
    rw [enumFrom_get xs (k + 1) i]
    have : k + 1 + i = k + (i + 1) := by omega
    rw [this]
section
variable {K : PySem.W.Frag} {wk : Bool} {G : Hp} {a : Addr} {vs : List V} {ds : List D}
theorem Ext.refl {G H : Hp} (s : Same G H) : Ext G H G H := ⟨Same.refl _, s, Same.refl _, fun a o e n => (by rw [n] at e; cases e)⟩
theorem walk_list (q : SqL K G a vs) (r : RepL K G vs ds) : WalkD K wk G (Itl K a) ds where
  go := fun i H s h => ⟨vs, _, sqL_mono s q, List.getElem?_eq_getElem (by rw [r.length]; exact h)⟩
  stop := fun i H s h => ⟨vs, sqL_mono s q, by rw [r.length, h]; exact Nat.le_refl _⟩
  yld := fun i H x H' G1 s1 s2 ⟨e, y⟩ h => by
    subst e
    have hx := y vs (sqL_mono (s1.trans s2) q)
    obtain ⟨d, e1, r1⟩ := r.getV hx
    exact ⟨d, G1, e1, .refl s2, .inl (r1.mono s1)⟩
theorem walk_tup (q : SqT K G a vs) (r : RepL K G vs ds) : WalkD K wk G (Itt K a) ds where
  go := fun i H s h => ⟨vs, _, sqT_mono s q, List.getElem?_eq_getElem (by rw [r.length]; exact h)⟩
  stop := fun i H s h => ⟨vs, sqT_mono s q, by rw [r.length, h]; exact Nat.le_refl _⟩
  yld := fun i H x H' G1 s1 s2 ⟨e, y⟩ h => by
    subst e
    have hx := y vs (sqT_mono (s1.trans s2) q)
    obtain ⟨d, e1, r1⟩ := r.getV hx
    exact ⟨d, G1, e1, .refl s2, .inl (r1.mono s1)⟩
theorem walk_enum (q : SqL K G a vs) (r : RepL K G vs ds) : WalkD K true G (Ite K a) (enumFrom 0 ds) where
  go := fun i H s h => ⟨vs, _, sqL_mono s q, List.getElem?_eq_getElem (by rw [r.length]; rw [enumFrom_len] at h; exact h)⟩
  stop := fun i H s h => ⟨vs, sqL_mono s q, by rw [r.length, h, enumFrom_len]; exact Nat.le_refl _⟩
  yld := fun i H x H' G1 s1 s2 ⟨T, x', e1, hT, e2, y⟩ h => by
    subst e1 e2
    have hx := y vs (sqL_mono (s1.trans s2) q)
    obtain ⟨d, e1, r1⟩ := r.getV hx
    have hh : Same H (upd H T (.tup [.int (i : Nat), x'])) := fun b o e => by rw [upd_ne (ne_of_none e hT)]; exact e
    refine ⟨_, G1, by rw [enumFrom_get, e1]; rfl, ⟨Same.refl _, s2.trans hh, hh, fun a o e n => (by rw [n] at e; cases e)⟩, .inr ⟨rfl, T, _, _, rfl, .inl (.inl upd_same), rfl, .cons ?_ (.cons (r1.mono s1) .nil)⟩⟩
    rw [Nat.zero_add]; exact .int _
theorem walk_range {lo : Int} {n : Nat} : WalkD K wk G (Itr lo n) ((List.range n).map fun (k : Nat) => .int (lo + k)) where
  go := fun i H s h => by show i < n; simpa using h
  stop := fun i H s h => by rw [h]; simp [Itr]
  yld := fun i H x H' G1 s1 s2 ⟨e, y⟩ h => by
    subst e y
    rw [List.length_map, List.length_range] at h
    exact ⟨_, G1, by rw [List.getElem?_map, List.getElem?_range h]; rfl, .refl s2, .inl (.int _)⟩
end
section
variable {X : Cx} {wk : Bool} {Γ : Ctx} {tg l : Expr} {f : Ex}
/-- a list or a tuple -/
def iSeqT (K : PySem.W.Frag) (tl : TE) : TI := fun σ H R => tl σ H fun x H1 => ∃ a, x = .ref a ∧ (((∃ xs, SqL K H1 a xs) ∧ R (Itl K a) H1) ∨ ((∃ xs, SqT K H1 a xs) ∧ R (Itt K a) H1))
theorem pi_seq {tl : TE} (hl : PE X l tl) : PI X tg l (iSeqT X.K tl) := by
  refine ⟨fun pins s σ H R I h => ?_⟩
  refine thn (hl.run pins s σ H _ I h) fun v s1 ⟨x, H1, I1, r1, q1⟩ => ?_
  obtain ⟨a, e, q1⟩ := q1
  subst e
  cases r1
  rcases q1 with ⟨⟨xs, hq⟩, q⟩ | ⟨⟨xs, hq⟩, q⟩
  · obtain ⟨its, rv, p, hz⟩ := I1.list hq
    refine wpAny_pyIter_list p.isList ?_
    refine ⟨s1.heap.objs.size, [s1.heap.objs.size], _, _, H1, rfl, I1.kept (t' := s1.toks) fun b o e => Heap.get?_push_of_some _ e, turn_list a _, ⟨_, Heap.get?_push_size _ rfl, rfl, rfl⟩, fun b hb => ?_, q⟩
    have e : b = s1.heap.objs.size := by simpa using hb
    subst e
    exact I1.fpOk (Nat.le_refl _) (I1.hok.fresh (Nat.le_refl _))
  · obtain ⟨its, rv, p, hz⟩ := I1.tuple hq
    refine wpAny_pyIter_tuple (show s1.heap.IsTuple a its.toArray from p) ?_
    refine ⟨s1.heap.objs.size, [s1.heap.objs.size], _, _, H1, rfl, I1.kept (t' := s1.toks) fun b o e => Heap.get?_push_of_some _ e, turn_tuple a _, ⟨_, Heap.get?_push_size _ rfl, rfl, rfl⟩, fun b hb => ?_, q⟩
    have e : b = s1.heap.objs.size := by simpa using hb
    subst e
    exact I1.fpOk (Nat.le_refl _) (I1.hok.fresh (Nat.le_refl _))
theorem i_seq (hl : PE X l (tM X.K Γ f 0)) : PI X tg l (tI X.K wk Γ (iSq f)) :=
  (pi_seq hl).imp fun σ H R ⟨O, G, env, L, ds, env2, S, e, k⟩ => by
    unfold iSq at e
    cases q : f env with
    | none => rw [q] at e; cases e
    | some p =>
      rw [q] at e
      simp only [Option.bind_some] at e
      obtain ⟨d, env1⟩ := p
      refine ⟨O, G, env, L, d, env1, S, q, fun v H1 G1 L1 S1 s1 v1 => ?_⟩
      have r := v1.rep
      cases r with
      | lst hq rr =>
        simp only [itemsD, Option.map_some, Option.some.injEq, Prod.mk.injEq] at e
        obtain ⟨rfl, rfl⟩ := e
        exact ⟨_, rfl, .inl ⟨⟨_, SqL.of (S1.gh _ _ hq)⟩, k _ H1 G1 L1 S1 s1 (walk_list (SqL.of hq) rr)⟩⟩
      | tup hq rr =>
        simp only [itemsD, Option.map_some, Option.some.injEq, Prod.mk.injEq] at e
        obtain ⟨rfl, rfl⟩ := e
        exact ⟨_, rfl, .inr ⟨⟨_, sqT_mono S1.gh hq.sqT⟩, k _ H1 G1 L1 S1 s1 (walk_tup hq.sqT rr)⟩⟩
      | _ => cases e
theorem i_enum {elts : List Expr} {kk : Nat} {p pos tpos : Pos} (hg : Gl X "enumerate") (hm : X.mg "enumerate" = none) (hl : PE X l (tM X.K Γ f 0)) (hs : starEach [l] X.env = [(false, eval l X.env)] := by rfl) :
    PI X (.Tuple elts kk tpos) (.Call (.Name "enumerate" p) [l] [] pos) (tI X.K true Γ (iEn f)) :=
  (pi_enum hg hm (a_cons hl a_nil hs) hs).imp fun σ H R ⟨O, G, env, L, ds, env2, S, e, k⟩ => by
    unfold iEn at e
    cases q : f env with
    | none => rw [q] at e; cases e
    | some p =>
      rw [q] at e
      simp only [Option.bind_some] at e
      obtain ⟨d, env1⟩ := p
      refine ⟨O, G, env, L, [d], env1, S, by simp [evs, q], fun vs H1 G1 L1 S1 s1 r1 => ?_⟩
      cases r1 with
      | cons r rr =>
        cases rr
        cases r with
        | lst hq rr =>
          simp only [Option.some.injEq, Prod.mk.injEq] at e
          obtain ⟨rfl, rfl⟩ := e
          exact ⟨_, _, rfl, SqL.of (S1.gh _ _ hq), k _ H1 G1 L1 S1 s1 (walk_enum (SqL.of hq) rr)⟩
        | _ => cases e
theorem okR_iff {j : Int} : okR j = true ↔ -(2 ^ 62) ≤ j ∧ j < 2 ^ 62 := by unfold okR; simp only [Bool.and_eq_true, decide_eq_true_eq]
theorem i_range1 {a : Expr} {p pos : Pos} (hg : Gl X "range") (hm : X.mg "range" = none) (ha : PE X a (tM X.K Γ f 0)) (hs : starEach [a] X.env = [(false, eval a X.env)] := by rfl) : PI X tg (.Call (.Name "range" p) [a] [] pos) (tI X.K wk Γ (iRg1 f)) :=
  (pi_range1 hg hm (a_cons ha a_nil hs) hs).imp fun σ H R ⟨O, G, env, L, ds, env2, S, e, k⟩ => by
    unfold iRg1 at e
    cases q : f env with
    | none => rw [q] at e; cases e
    | some p =>
      rw [q] at e
      simp only [Option.bind_some] at e
      obtain ⟨d, env1⟩ := p
      cases d with
      | int j =>
        simp only at e
        split at e
        · rename_i hj
          simp only [Option.some.injEq, Prod.mk.injEq] at e
          obtain ⟨rfl, rfl⟩ := e
          refine ⟨O, G, env, L, [.int j], env1, S, by simp [evs, q], fun vs H1 G1 L1 S1 s1 r1 => ?_⟩
          cases r1 with
          | cons r rr =>
            cases rr
            cases r
            refine ⟨j, rfl, (okR_iff.mp hj).1, (okR_iff.mp hj).2, k _ H1 G1 L1 S1 s1 ?_⟩
            have w := walk_range (K := X.K) (wk := wk) (G := G1) (lo := 0) (n := j.toNat)
            have e' : ((List.range j.toNat).map fun (k : Nat) => (.int (0 + (k : Int)) : D)) = upTo j.toNat := by unfold upTo; congr 1; funext k; rw [Int.zero_add]
            rw [e'] at w; exact w
        · cases e
      | _ => cases e
theorem i_range2 {a b : Expr} {g : Ex} {p pos : Pos} (hg : Gl X "range") (hm : X.mg "range" = none) (ha : PE X a (tM X.K Γ f 0)) (hb : PE X b (tM X.K Γ g 0)) (hs : starEach [a, b] X.env = [(false, eval a X.env), (false, eval b X.env)] := by rfl) (hs2 : starEach [b] X.env = [(false, eval b X.env)] := by rfl) :
    PI X tg (.Call (.Name "range" p) [a, b] [] pos) (tI X.K wk Γ (iRg2 f g)) :=
  (pi_range2 hg hm (a_cons ha (a_cons hb a_nil hs2) (by rw [hs, hs2])) hs hs2).imp fun σ H R ⟨O, G, env, L, ds, env3, S, e, k⟩ => by
    unfold iRg2 at e
    cases q : f env with
    | none => rw [q] at e; cases e
    | some p =>
      rw [q] at e
      simp only [Option.bind_some] at e
      obtain ⟨d, env1⟩ := p
      cases q2 : g env1 with
      | none => rw [q2] at e; cases e
      | some p2 =>
        rw [q2] at e
        simp only [Option.bind_some] at e
        obtain ⟨d2, env2⟩ := p2
        cases d with
        | int i =>
          cases d2 with
          | int j =>
            simp only at e
            split at e
            · rename_i hj
              simp only [Bool.and_eq_true] at hj
              simp only [Option.some.injEq, Prod.mk.injEq] at e
              obtain ⟨rfl, rfl⟩ := e
              refine ⟨O, G, env, L, [.int i, .int j], env2, S, by simp [evs, q, q2], fun vs H1 G1 L1 S1 s1 r1 => ?_⟩
              cases r1 with
              | cons r rr =>
                cases rr with
                | cons r' rr =>
                  cases rr
                  cases r
                  cases r'
                  exact ⟨i, j, rfl, ⟨(okR_iff.mp hj.1).1, (okR_iff.mp hj.1).2, (okR_iff.mp hj.2).1, (okR_iff.mp hj.2).2⟩, k _ H1 G1 L1 S1 s1 walk_range⟩
            · cases e
          | _ => cases e
        | _ => cases e
end

/-! ### for -/
def forL (gt : Gx) (gb : Sx) : List D → Sx
  | [], env => some (.nx env)
  | d :: ds, env => (gt d env).bind fun e1 => (gb e1).bind fun o => match o with
    | .nx e => forL gt gb ds e
    | .ct e => forL gt gb ds e
    | .bk e => some (.nx e)
    | .rt r e => some (.rt r e)
def forD (fi : Ix) (gt : Gx) (gb : Sx) : Sx := fun env => (fi env).bind fun p => forL gt gb p.1 p.2
section
variable {X : Cx} {Γ Γ1 : Ctx} {T : Tg} {tg iter : Expr} {body : List Stmt} {pos : Pos} {fi : Ix} {gt : Gx} {gb : Sx} {ws : List Nat} {wk : Bool}
theorem s_for (hc : X.calm = true) (hi : PI X tg iter (tI X.K wk Γ fi)) (hg : PG X tg (tG X.K wk Γ Γ1 gt ws)) (hb : PSs X body (tS X.K { T with bk := Γ, ct := Γ } Γ1 Γ gb)) (hp : PassesOwn (model X.prog X.w) X.A X.env X.xe)
    (hs : ∀ x, foldedSetIterable iter X.env x = pure x := by intro _; rfl) : PS X (.For tg iter body [] pos) (tS X.K T Γ Γ (forD fi gt gb)) :=
  (ps_for hp hc hi hg hb hs).imp fun E σ H ⟨O, G, env, L, o, S, e, k⟩ => by
    unfold forD at e
    cases q : fi env with
    | none => rw [q] at e; cases e
    | some p =>
      rw [q] at e
      simp only [Option.bind_some] at e
      obtain ⟨ds, env1⟩ := p
      refine ⟨O, G, env, L, ds, env1, S, q, fun J H1 G1 L1 S1 s1 w => ?_⟩
      refine ⟨fun i m σ H => m = ds.length - i ∧ i ≤ ds.length ∧ ∃ G2 env2 L2 o2, StR X.K O Γ H G2 σ env2 L2 ∧ Same G1 G2 ∧ forL gt gb (ds.drop i) env2 = some o2 ∧ Post X.K T Γ O G2 E o2, ⟨ds.length, rfl, Nat.zero_le _, G1, env1, L1, o, S1, Same.refl _, e, k.from s1⟩, ?_⟩
      rintro i m σ2 H2 ⟨rfl, hle, G2, env2, L2, o2, S2, s2, e2, k2⟩
      by_cases hlt : i < ds.length
      · rw [List.drop_eq_getElem_cons hlt] at e2
        simp only [forL] at e2
        cases q1 : gt ds[i] env2 with
        | none => rw [q1] at e2; cases e2
        | some e3 =>
          rw [q1] at e2
          simp only [Option.bind_some] at e2
          cases q2 : gb e3 with
          | none => rw [q2] at e2; cases e2
          | some o3 =>
            rw [q2] at e2
            simp only [Option.bind_some] at e2
            refine .inr ⟨w.go i H2 (s2.trans S2.gh) hlt, fun σ' H' => ∃ G4 env4 L4, StR X.K O Γ H' G4 σ' env4 L4 ∧ Same G2 G4 ∧ forL gt gb (ds.drop (i + 1)) env4 = some o2, fun σ' H' ⟨G4, env4, L4, S4, s4, e4⟩ => ⟨ds.length - (i + 1), by omega, rfl, hlt, G4, env4, L4, o2, S4, s2.trans s4, e4, k2.from s4⟩, fun x H' y => ?_⟩
            obtain ⟨d, G3, hd, R, rx⟩ := w.yld i H2 x H' G2 s2 S2.gh y hlt
            rw [List.getElem?_eq_getElem hlt] at hd
            cases hd
            have S3 := S2.ext R
            refine ⟨O, G3, env2, L2, ds[i], e3, S3, rx, q1, fun σ4 H4 G4 L4 S4 s4 _ => ?_⟩
            refine ⟨O, G4, e3, L4, o3, S4, q2, ?_⟩
            have g24 : Same G2 G4 := R.gg.trans s4
            cases o3 with
            | nx e5 => exact fun σ' H' G' L' S' s' => ⟨G', e5, L', S', g24.trans s', e2⟩
            | ct e5 => exact fun σ' H' G' L' S' s' => ⟨G', e5, L', S', g24.trans s', e2⟩
            | bk e5 =>
              simp only [Option.some.injEq] at e2
              subst e2
              exact fun σ' H' G' L' S' s' => k2 σ' H' G' L' S' (g24.trans s')
            | rt r e5 =>
              simp only [Option.some.injEq] at e2
              subst e2
              exact fun v σ' H' G' L' S' s' v' => k2 v σ' H' G' L' S' (g24.trans s') v'
      · have ei : i = ds.length := by omega
        rw [ei, List.drop_length] at e2
        simp only [forL, Option.some.injEq] at e2
        subst e2
        exact .inl ⟨w.stop i H2 (s2.trans S2.gh) ei, k2 σ2 H2 G2 L2 S2 (Same.refl _)⟩
end
end VL

set_option Elab.async false
set_option linter.all false
set_option maxRecDepth 100000
/-! VL6: list comprehensions; while. -/
namespace VL
open PySem PySem.Spec L2

def restore (vs : List Nat) (env0 env : List D) : List D := env.mapIdx fun i d => if i ∈ vs then env0.getD i d else d
/-- one pass of a comprehension: the items made, the environment behind -/
def lcL (gt : Gx) (tt : Bx) (fe : Ex) : List D → List D → Option (List D × List D)
  | [], env => some ([], env)
  | d :: ds, env => (gt d env).bind fun e1 => (tt e1).bind fun p => if p.1 = true then (fe p.2).bind fun q => (lcL gt tt fe ds q.2).map fun r => (q.1 :: r.1, r.2) else lcL gt tt fe ds p.2
def lcD (vs : List Nat) (fi : Ix) (gt : Gx) (tt : Bx) (fe : Ex) : Ex := fun env => (fi env).bind fun p => (lcL gt tt fe p.1 p.2).bind fun q => if q.1.length ≤ 1000000 then some (.list q.1, restore vs env q.2) else none
def bYes : Bx := fun env => some (true, env)
section
variable {K : PySem.W.Frag} {O : Gh} {Γ Δ : Ctx} {H H' G G' : Hp} {σ : St} {env : List D} {L : Nat → List Addr}
theorem wipe_get {σ : St} : ∀ {vs : List Nat} {j : Nat}, j ∉ vs → (wipe σ vs)[j]? = σ[j]?
  | [], _, _ => rfl
  | v :: vs, j, h => by
    unfold wipe
    rw [List.getElem?_set_ne fun z => h (by simp [z]), wipe_get fun z => h (List.mem_cons_of_mem _ z)]
theorem wipe_in {σ : St} : ∀ {vs : List Nat} {j : Nat}, j ∈ vs → j < σ.length → (wipe σ vs)[j]? = some none
  | v :: vs, j, h, hl => by
    unfold wipe
    by_cases e : v = j
    · subst e; rw [List.getElem?_set_self (by rw [wipe_length]; exact hl)]
    · rw [List.getElem?_set_ne e]
      exact wipe_in (by rcases List.mem_cons.mp h with z | z; exact absurd z.symm e; exact z) hl
theorem wipe_eq {σ σ' : St} {vs : List Nat} (hl : σ'.length = σ.length) (h : ∀ j, j ∉ vs → σ'[j]? = σ[j]?) : wipe σ' vs = wipe σ vs := by
  refine List.ext_getElem? fun j => ?_
  by_cases hj : j ∈ vs
  · by_cases hlt : j < σ.length
    · rw [wipe_in hj (by rw [hl]; exact hlt), wipe_in hj hlt]
    · rw [List.getElem?_eq_none (by rw [wipe_length, hl]; omega), List.getElem?_eq_none (by rw [wipe_length]; omega)]
  · rw [wipe_get hj, wipe_get hj, h j hj]
theorem StR.wiped {vs : List Nat} (S : StR K O Γ H G σ env L) (hv : ∀ j ∈ vs, Γ[j]? = some .un) : StR K O Γ H G (wipe σ vs) env L := by
  have ne : ∀ j m, At Γ j m → j ∉ vs := fun j m ⟨k, e1, e2⟩ z => by rw [hv j z] at e1; cases e1; cases e2
  refine ⟨S.gh, by rw [wipe_length]; exact S.ls, S.lg, fun j m hj => ?_, S.nd, S.dj, S.new, S.pres, S.gn, fun j m e => ?_⟩
  · obtain ⟨v, d, e1, e2, o⟩ := S.slot j m hj
    exact ⟨v, d, by rw [wipe_get (ne j m hj)]; exact e1, e2, o⟩
  · obtain ⟨v, e1, e2⟩ := S.io j m e
    exact ⟨v, e1, by rw [wipe_get (ne j m ⟨_, e, rfl⟩)]; exact e2⟩
/-- from the wiped slots back; the forgotten data are as one likes -/
theorem StR.unwiped {vs : List Nat} {env0 : List D} (S : StR K O Γ H G (wipe σ vs) env L) (hv : ∀ j ∈ vs, Γ[j]? = some .un) : StR K O Γ H G σ (restore vs env0 env) L := by
  have ne : ∀ j m, At Γ j m → j ∉ vs := fun j m ⟨k, e1, e2⟩ z => by rw [hv j z] at e1; cases e1; cases e2
  refine ⟨S.gh, by rw [← wipe_length σ vs, S.ls]; unfold restore; simp, by unfold restore; simp [S.lg], fun j m hj => ?_, S.nd, S.dj, S.new, S.pres, S.gn, fun j m e => ?_⟩
  · obtain ⟨v, d, e1, e2, o⟩ := S.slot j m hj
    refine ⟨v, d, by rw [wipe_get (ne j m hj)] at e1; exact e1, ?_, o⟩
    unfold restore
    rw [List.getElem?_mapIdx, e2]
    simp [ne j m hj]
  · obtain ⟨v, e1, e2⟩ := S.io j m e
    exact ⟨v, e1, by rw [wipe_get (ne j m ⟨_, e, rfl⟩)] at e2; exact e2⟩
end
theorem million_ok {n : Nat} (h : n < 1000000) : n < sizeLine := Nat.lt_of_lt_of_le h (by decide)
def unAll (Γ : Ctx) (vs : List Nat) : Bool := vs.all fun j => decide (Γ[j]? = some .un)
theorem unAll_get {Γ : Ctx} {vs : List Nat} (h : unAll Γ vs = true) : ∀ j ∈ vs, Γ[j]? = some .un := fun j hj => of_decide_eq_true (List.all_eq_true.mp h j hj)
section
variable {X : Cx} {Γ Γ1 : Ctx} {T : Tg} {tg iter elt : Expr} {ifs : List Expr} {pos : Pos} {fi : Ix} {gt : Gx} {tt : Bx} {fe : Ex} {ws : List Nat} {wk : Bool}
/-- the reading of a comprehension over data -/
theorem tLc_of {vs : List Nat} {σ : St} {H : Hp} {Q : VK} (hu : unAll Γ vs = true) (hw : ws.all (fun j => decide (j ∈ vs)) = true) (hl1 : wkB Γ1 Γ = true) (h : tM X.K Γ (lcD vs fi gt tt fe) 1 σ H Q) :
    tLc (tI X.K wk Γ fi) (tG X.K wk Γ Γ1 gt ws) (tMT X.K Γ1 tt) (tM X.K Γ1 fe 0) vs σ H Q := by
  obtain ⟨O, G, env, L, r, env2, S, e, k⟩ := h
  have hu' := unAll_get hu
  have hw' : ∀ j, j ∈ ws → j ∈ vs := fun j hj => of_decide_eq_true (List.all_eq_true.mp hw j hj)
  unfold lcD at e
  cases q : fi env with
  | none => rw [q] at e; cases e
  | some p =>
    rw [q] at e
    simp only [Option.bind_some] at e
    obtain ⟨ds, env1⟩ := p
    simp only at e
    cases q2 : lcL gt tt fe ds env1 with
    | none => rw [q2] at e; cases e
    | some p2 =>
      rw [q2] at e
      simp only [Option.bind_some] at e
      split at e
      · rename_i hmil
        simp only [Option.some.injEq, Prod.mk.injEq] at e
        obtain ⟨rfl, rfl⟩ := e
        refine ⟨O, G, env, L, ds, env1, S, q, fun J H1 G1 L1 S1 s1 w P hP => ?_⟩
        have hg1 : G1 P = none := S1.gh.free hP
        have ownP : O.own P := by
          cases r : O.H0 P with
          | none => exact .inl r
          | some u =>
            by_cases hA : P ∈ O.A
            · exact .inr hA
            · rw [S1.pres P u r hA] at hP; cases hP
        have nP : ∀ i m, At Γ i m → P ∉ L1 i := fun i m hi ha => by
          obtain ⟨_, _, _, _, o⟩ := S1.slot i m hi
          have := (o.objs P ha).2.1
          rw [hP] at this; cases this
        -- the invariant
        refine ⟨fun i m H => m = ds.length - i ∧ i ≤ ds.length ∧ ∃ G2 env2 L2 acc dacc rest envE, StR X.K O Γ H G2 (wipe σ vs) env2 L2 ∧ Same G1 G2 ∧ H P = some (.lst acc) ∧ G2 P = none ∧ (∀ i m, At Γ i m → P ∉ L2 i) ∧ RepL X.K G2 acc dacc ∧ lcL gt tt fe (ds.drop i) env2 = some (rest, envE) ∧ dacc ++ rest = p2.1 ∧ envE = p2.2,
          ⟨ds.length, rfl, Nat.zero_le _, G1, env1, L1, [], [], p2.1, p2.2, (S1.put hg1 nP ownP).wiped hu', Same.refl _, upd_same, hg1, nP, .nil, q2, rfl, rfl⟩, ?_⟩
        rintro i m H2 ⟨rfl, hle, G2, env2, L2, acc, dacc, rest, envE, S2, s2, hP2, gP2, nP2, racc, e2, eacc, eE⟩
        by_cases hlt : i < ds.length
        · rw [List.drop_eq_getElem_cons hlt] at e2
          simp only [lcL] at e2
          cases q3 : gt ds[i] env2 with
          | none => rw [q3] at e2; cases e2
          | some e3 =>
            rw [q3] at e2
            simp only [Option.bind_some] at e2
            cases q4 : tt e3 with
            | none => rw [q4] at e2; cases e2
            | some b4 =>
              rw [q4] at e2
              simp only [Option.bind_some] at e2
              refine .inr ⟨w.go i H2 (s2.trans S2.gh) hlt, fun H' => ∃ G2 env2 L2 acc dacc rest envE, StR X.K O Γ H' G2 (wipe σ vs) env2 L2 ∧ Same G1 G2 ∧ H' P = some (.lst acc) ∧ G2 P = none ∧ (∀ i m, At Γ i m → P ∉ L2 i) ∧ RepL X.K G2 acc dacc ∧ lcL gt tt fe (ds.drop (i + 1)) env2 = some (rest, envE) ∧ dacc ++ rest = p2.1 ∧ envE = p2.2,
                fun H' h' => ⟨ds.length - (i + 1), by omega, rfl, hlt, h'⟩, fun x H3 y => ?_⟩
              obtain ⟨d, G3, hd, R, rx⟩ := w.yld i H2 x H3 G2 s2 S2.gh y hlt
              rw [List.getElem?_eq_getElem hlt] at hd
              cases hd
              have S3 := S2.ext R
              have hP3 : H3 P = some (.lst acc) := R.hh _ _ hP2
              have gP3 : G3 P = none := by
                cases z : G3 P with
                | none => rfl
                | some u => have := R.new P u z gP2; rw [hP2] at this; cases this
              -- from here on the state is an entry
              refine ⟨_, G3, env2, L2, ds[i], e3, S3.reg, rx, q3, fun σ4 H4 G4 L4 S4 s4 a4 => ⟨?_, ?_⟩⟩
              · refine wipe_eq (a4.1.trans (wipe_length σ vs)) fun j hj => ?_
                rw [a4.2 j fun z => hj (hw' j z), wipe_get hj]
              · refine ⟨_, G4, e3, L4, b4.1, b4.2, S4, q4, fun H5 G5 L5 S5 s5 => ?_⟩
                have fin : ∀ {H6 G6 : Hp} {L6 : Nat → List Addr} {env6 : List D}, StR X.K (O.at Γ H3 G3 L2) Γ1 H6 G6 σ4 env6 L6 → Same G5 G6 → ∃ G7 L7, Same G6 G7 ∧ StR X.K O Γ H6 G7 (wipe σ vs) env6 L7 ∧ H6 P = some (.lst acc) ∧ G7 P = none ∧ (∀ i m, At Γ i m → P ∉ L7 i) ∧ RepL X.K G7 acc dacc ∧ Same G1 G7 := by
                  intro H6 G6 L6 env6 S6 s6
                  obtain ⟨gg, S7, _⟩ := S6.weak hl1
                  obtain ⟨z1, z2, z3⟩ := S3.aside S7 hP3 gP3 nP2
                  have S8 := S3.unreg S7
                  refine ⟨_, _, gg, ?_, z1, z2, z3, racc.mono (((R.gg.trans s4).trans s5).trans (s6.trans gg)), (s2.trans ((R.gg.trans s4).trans s5)).trans (s6.trans gg)⟩
                  have : wipe σ4 vs = wipe σ vs := wipe_eq (a4.1.trans (wipe_length σ vs)) fun j hj => by rw [a4.2 j fun z => hj (hw' j z), wipe_get hj]
                  rw [← this]
                  exact S8.wiped hu'
                by_cases hb : b4.1 = true
                · rw [if_pos hb] at e2
                  show (if _ then _ else _)
                  rw [if_pos hb]
                  cases q5 : fe b4.2 with
                  | none => rw [q5] at e2; cases e2
                  | some p5 =>
                    rw [q5] at e2
                    simp only [Option.bind_some] at e2
                    cases q6 : lcL gt tt fe (ds.drop (i + 1)) p5.2 with
                    | none => rw [q6] at e2; cases e2
                    | some p6 =>
                      rw [q6] at e2
                      simp only [Option.map_some, Option.some.injEq, Prod.mk.injEq] at e2
                      obtain ⟨rfl, rfl⟩ := e2
                      refine ⟨_, G5, b4.2, L5, p5.1, p5.2, S5, q5, fun v H6 G6 L6 S6 s6 v6 => ?_⟩
                      obtain ⟨G7, L7, g67, S7, z1, z2, z3, r7, s7⟩ := fin S6 s6
                      have hlen : acc.length < 1000000 := by
                        have h1 : acc.length = dacc.length := r7.length
                        have h2 := congrArg List.length eacc
                        simp at h2
                        omega
                      refine ⟨acc, z1, million_ok hlen, G7, p5.2, L7, acc ++ [v], dacc ++ [p5.1], p6.1, p6.2, S7.put z2 z3 ownP, s7, upd_same, z2, z3, r7.append (.cons (v6.rep.mono g67) .nil), q6, by rw [List.append_assoc]; exact eacc, eE⟩
                · rw [if_neg hb] at e2
                  show (if _ then _ else _)
                  rw [if_neg hb]
                  obtain ⟨G7, L7, g67, S7, z1, z2, z3, r7, s7⟩ := fin S5 (Same.refl _)
                  exact ⟨G7, b4.2, L7, acc, dacc, rest, envE, S7, s7, z1, z2, z3, r7, e2, eacc, eE⟩
        · have ei : i = ds.length := by omega
          rw [ei, List.drop_length] at e2
          simp only [lcL, Option.some.injEq, Prod.mk.injEq] at e2
          obtain ⟨rfl, rfl⟩ := e2
          refine .inl ⟨w.stop i H2 (s2.trans S2.gh) ei, ?_⟩
          rw [List.append_nil] at eacc
          subst eacc eE
          refine k (.ref P) H2 G2 L2 (S2.unwiped hu') (s1.trans s2) ⟨[P], .lst hP2 gP2 (ownL0 racc), by simp, fun a ha => by rw [List.mem_singleton.mp ha]; exact ownP, fun i m hi a ha hl => ?_⟩
          rw [List.mem_singleton.mp ha] at hl
          exact nP2 i m hi hl
      · cases e
theorem m_lc {scope : Scope} {own : List (Str × Nat)} (hc : X.calm = true) (hN : X.N.Nodup) (hi : PI X tg iter (tI X.K wk Γ fi)) (ok : BlkOk X.N X.env.scope scope own)
    (hg : ∀ (s : Shared) (H : Hp) (C : Addr) (cl : List (Str × Addr)) (fp : List Addr), PG (X.blk s H scope (compEnvC scope cl C X.env) fp) tg (tG X.K wk Γ Γ1 gt ws)) (ht : ∀ (s : Shared) (H : Hp) (C : Addr) (cl : List (Str × Addr)) (fp : List Addr), PTs (X.blk s H scope (compEnvC scope cl C X.env) fp) ifs (tMT X.K Γ1 tt))
    (he : ∀ (s : Shared) (H : Hp) (C : Addr) (cl : List (Str × Addr)) (fp : List Addr), PE (X.blk s H scope (compEnvC scope cl C X.env) fp) elt (tM X.K Γ1 fe 0)) (hu : unAll Γ (own.map (·.2)) = true := by rfl) (hw : ws.all (fun j => decide (j ∈ own.map (·.2))) = true := by rfl) (hl1 : wkB Γ1 Γ = true := by rfl)
    (hs : ∀ x, foldedSetIterable iter X.env x = pure x := by intro _; rfl) : PE X (.ListComp elt [⟨tg, iter, ifs, 0⟩] scope pos) (tM X.K Γ (lcD (own.map (·.2)) fi gt tt fe) 1) :=
  (pe_lc hc hN hi ok hg ht he hs).imp fun σ H Q h => tLc_of hu hw hl1 h
theorem s_setLc (i : Nat) {y : Str} {py spos : Pos} {scope : Scope} {own : List (Str × Nat)} (hc : X.calm = true) (hN : X.N.Nodup)
    (hi : PI X tg iter (tI X.K wk Γ fi)) (ok : BlkOk X.N X.env.scope scope own)
    (hg : ∀ (s : Shared) (H : Hp) (C : Addr) (cl : List (Str × Addr)) (fp : List Addr), PG (X.blk s H scope (compEnvC scope cl C X.env) fp) tg (tG X.K wk Γ Γ1 gt ws)) (ht : ∀ (s : Shared) (H : Hp) (C : Addr) (cl : List (Str × Addr)) (fp : List Addr), PTs (X.blk s H scope (compEnvC scope cl C X.env) fp) ifs (tMT X.K Γ1 tt))
    (he : ∀ (s : Shared) (H : Hp) (C : Addr) (cl : List (Str × Addr)) (fp : List Addr), PE (X.blk s H scope (compEnvC scope cl C X.env) fp) elt (tM X.K Γ1 fe 0))
    (hsw : swapsWith (.ListComp elt [⟨tg, iter, ifs, 0⟩] scope pos) (some (.Name y py)) spos.line X.env = pure true) (hy : X.N[i]? = some y := by rfl) (hyl : X.env.scope.names.lookup y = some .local := by rfl) (hio : notIo Γ[i]? = true := by rfl) (hu : unAll Γ (own.map (·.2)) = true := by rfl) (hw : ws.all (fun j => decide (j ∈ own.map (·.2))) = true := by rfl) (hl1 : wkB Γ1 Γ = true := by rfl)
    (hs : ∀ x, foldedSetIterable iter X.env x = pure x := by intro _; rfl) : PS X (.Assign [.Name y py] (.ListComp elt [⟨tg, iter, ifs, 0⟩] scope pos) spos) (tS X.K T Γ (Γ.set i (.ow 1)) (asg i (lcD (own.map (·.2)) fi gt tt fe))) :=
  (ps_setLc hc hN hy hyl hsw hi ok hg ht he hs).imp fun E σ H h => tLc_of hu hw hl1 (tAsg_of hio h)
theorem pts_yes : PTs X [] (tMT X.K Γ bYes) := ⟨fun pins s σ H Q I h => pts_nil.run pins s σ H Q I (by
  obtain ⟨O, G, env, L, r, env1, S, e, k⟩ := h
  simp only [bYes, Option.some.injEq, Prod.mk.injEq] at e
  obtain ⟨rfl, rfl⟩ := e
  exact k H G L S (Same.refl _))⟩
end
/-! ### while -/
def whileF (c : Bx) (g : Sx) : Nat → Sx
  | 0, _ => none
  | k + 1, env => (c env).bind fun p => if p.1 = true then (g p.2).bind fun o => match o with
    | .nx e => whileF c g k e
    | .ct e => whileF c g k e
    | .bk e => some (.nx e)
    | .rt r e => some (.rt r e)
    else some (.nx p.2)
section
variable {X : Cx} {Γ : Ctx} {T : Tg} {c : Expr} {body : List Stmt} {pos : Pos} {gc : Bx} {gb : Sx}
/-- with some number of turns that is enough -/
theorem s_while (μ : List D → Nat) (hc : PT X c (tMT X.K Γ gc)) (hb : PSs X body (tS X.K { T with bk := Γ, ct := Γ } Γ Γ gb)) (hp : PassesOwn (model X.prog X.w) X.A X.env X.xe) : PS X (.While c body [] pos) (tS X.K T Γ Γ (fun env => whileF gc gb (μ env) env)) :=
  (ps_while hp hc hb).imp fun E σ H ⟨O, G, env, L, o, S, e, k⟩ => by
    refine ⟨fun m σ H => ∃ G2 env2 L2 o2, StR X.K O Γ H G2 σ env2 L2 ∧ whileF gc gb m env2 = some o2 ∧ Post X.K T Γ O G2 E o2, ⟨μ env, G, env, L, o, S, e, k⟩, ?_⟩
    rintro m σ2 H2 ⟨G2, env2, L2, o2, S2, e2, k2⟩
    cases m with
    | zero => cases e2
    | succ m =>
      simp only [whileF] at e2
      cases q : gc env2 with
      | none => rw [q] at e2; cases e2
      | some p =>
        rw [q] at e2
        simp only [Option.bind_some] at e2
        refine ⟨O, G2, env2, L2, p.1, p.2, S2, q, fun H3 G3 L3 S3 s3 => ?_⟩
        by_cases hb : p.1 = true
        · rw [if_pos hb] at e2
          show (if _ then _ else _)
          rw [if_pos hb]
          cases q2 : gb p.2 with
          | none => rw [q2] at e2; cases e2
          | some o3 =>
            rw [q2] at e2
            simp only [Option.bind_some] at e2
            refine ⟨fun σ' H' => ∃ G4 env4 L4, StR X.K O Γ H' G4 σ' env4 L4 ∧ Same G2 G4 ∧ whileF gc gb m env4 = some o2, fun σ' H' ⟨G4, env4, L4, S4, s4, e4⟩ => ⟨m, Nat.lt_succ_self _, G4, env4, L4, o2, S4, e4, k2.from s4⟩, O, G3, p.2, L3, o3, S3, q2, ?_⟩
            cases o3 with
            | nx e5 => exact fun σ' H' G' L' S' s' => ⟨G', e5, L', S', s3.trans s', e2⟩
            | ct e5 => exact fun σ' H' G' L' S' s' => ⟨G', e5, L', S', s3.trans s', e2⟩
            | bk e5 =>
              simp only [Option.some.injEq] at e2
              subst e2
              exact fun σ' H' G' L' S' s' => k2 σ' H' G' L' S' (s3.trans s')
            | rt r e5 =>
              simp only [Option.some.injEq] at e2
              subst e2
              exact fun v σ' H' G' L' S' s' v' => k2 v σ' H' G' L' S' (s3.trans s') v'
        · rw [if_neg hb] at e2
          show (if _ then _ else _)
          rw [if_neg hb]
          simp only [Option.some.injEq] at e2
          subst e2
          exact k2 σ2 H3 G3 L3 S3 s3
end
end VL

set_option Elab.async false
set_option linter.all false
set_option maxRecDepth 100000
/-! VL7: lists that are changed. -/
namespace VL
open PySem PySem.Spec L2

/-- as long as any list here gets -/
def lim : Nat := 1000000
theorem lim_lt {n : Nat} (h : n < lim) : n < sizeLine := million_ok h
theorem lim_le {n : Nat} (h : n ≤ lim) : n ≤ sizeLine := Nat.le_trans h (by decide)
section
variable {K : PySem.W.Frag} {O : Gh} {Γ Δ : Ctx} {H H' G G' : Hp} {σ : St} {env : List D} {L : Nat → List Addr} {n i : Nat} {v : V} {d : D}
/-- an owned list -/
theorem StR.lst1 {ds : List D} (S : StR K O Γ H G σ env L) (hi : At Γ i 1) (hd : env[i]? = some (.list ds)) : ∃ a vs, σ[i]? = some (some (.ref a)) ∧ H a = some (.lst vs) ∧ G a = none ∧ L i = [a] ∧ RepL K G vs ds := by
  obtain ⟨v, d, e1, e2, o⟩ := S.slot i 1 hi
  rw [hd] at e2
  cases e2
  generalize hL : L i = M at o
  cases o with
  | imm e _ => simp [immut] at e
  | lst h g r =>
    obtain ⟨rfl, rr⟩ := repL0 r
    exact ⟨_, _, e1, h, g, rfl, rr⟩
theorem StR.mut1 {a : Addr} {vs : List V} {ds : List D} (S : StR K O Γ H G σ env L) (hi : At Γ i 1) (e1 : σ[i]? = some (some (.ref a))) (hL : L i = [a]) (hg : G a = none) (r : RepL K G vs ds) : StR K O Γ (upd H a (.lst vs)) G σ (env.set i (.list ds)) L := by
  obtain ⟨v, d, z1, z2, o⟩ := S.slot i 1 hi
  have li : i < env.length := (List.getElem?_eq_some_iff.mp z2).1
  refine ⟨fun b u e => ?_, by simp [S.ls], by simp [S.lg], fun j m hj => ?_, S.nd, S.dj, S.new, fun b u e hb => ?_, S.gn, S.io⟩
  · rw [upd_ne (ne_of_none e hg)]; exact S.gh b u e
  · by_cases z : j = i
    · subst z
      cases hj.uniq hi
      refine ⟨.ref a, .list ds, e1, List.getElem?_set_self li, ?_⟩
      rw [hL]
      exact .lst upd_same hg (ownL0 r)
    · obtain ⟨v', d', y1, y2, o'⟩ := S.slot j m hj
      refine ⟨v', d', y1, by rw [List.getElem?_set_ne (Ne.symm z)]; exact y2, o'.mono (Same.refl _) fun b hb => ⟨?_, (o'.objs b hb).1⟩⟩
      rw [upd_ne fun q => S.dj j i m 1 hj hi z b hb (by rw [hL, q]; exact List.mem_singleton_self _)]
  · have ne : b ≠ a := fun q => by
      subst q
      rcases S.new i 1 hi b (by rw [hL]; exact List.mem_singleton_self _) with q | q
      · rw [q] at e; cases e
      · exact hb q
    rw [upd_ne ne]; exact S.pres b u e hb
end
def isL : Option D → Bool
  | some (.list _) => true
  | _ => false
/-- a method that changes the list in slot i: U tells the answer and the list behind -/
def eMut (i : Nat) (U : List D → List D → Option (D × List D)) (fs : List Ex) : Ex := fun env => if isL env[i]? = true then (evs fs env).bind fun p => match p.2[i]? with
  | some (.list ds) => (U ds p.1).map fun q => (q.1, p.2.set i (.list q.2))
  | _ => none else none
theorem isL_some {o : Option D} (h : isL o = true) : ∃ ds, o = some (.list ds) := by
  unfold isL at h
  split at h
  · rename_i ds; exact ⟨ds, rfl⟩
  · cases h
theorem eMut_some {i : Nat} {U : List D → List D → Option (D × List D)} {fs : List Ex} {env env2 : List D} {r : D} (e : eMut i U fs env = some (r, env2)) : ∃ ds0 xs env1 ds ds', env[i]? = some (.list ds0) ∧ evs fs env = some (xs, env1) ∧ env1[i]? = some (.list ds) ∧ U ds xs = some (r, ds') ∧ env2 = env1.set i (.list ds') := by
  unfold eMut at e
  split at e
  · rename_i h0
    obtain ⟨ds0, h0⟩ := isL_some h0
    cases h1 : evs fs env with
    | none => rw [h1] at e; cases e
    | some p =>
      rw [h1] at e
      simp only [Option.bind_some] at e
      split at e
      · rename_i ds hd
        cases h3 : U ds p.1 with
        | none => rw [h3] at e; cases e
        | some q =>
          rw [h3] at e
          simp only [Option.map_some, Option.some.injEq, Prod.mk.injEq] at e
          obtain ⟨rfl, rfl⟩ := e
          exact ⟨ds0, p.1, p.2, ds, q.2, h0, rfl, hd, h3, rfl⟩
      · cases e
  · cases e
/-- the method's rule over data -/
def MuD (K : PySem.W.Frag) (r : V → List V → Hp → VK → Prop) (U : List D → List D → Option (D × List D)) : Prop := ∀ (a : Addr) (ys vs : List V) (ds es ds' : List D) (z : D) (G H : Hp) (Q : VK), Same G H → H a = some (.lst vs) → G a = none → RepL K G vs ds → RepL K G ys es → U ds es = some (z, ds') →
  (∀ v vs', RepL K G vs' ds' → Rep K G v z → Q v (upd H a (.lst vs'))) → r (.ref a) ys H Q
section
variable {X : Cx} {Γ : Ctx} {T : Tg} {a : Expr} {es : List Expr} {pos apos px : Pos} {fs : List Ex} {f : Ex} {U : List D → List D → Option (D × List D)} {id : String} {m : Str} {r : V → List V → Hp → VK → Prop}
theorem m_mut (i : Nat) {x : Str} (slot : Slot "list" m id) (hty : typeOf (.builtin id) = pure (.type "method_descriptor")) (hm : MtR X id r) (hu : MuD X.K r U) (ha : PA X (a :: es) (tMA X.K Γ fs)) (hx : X.N[i]? = some x := by rfl) (hv : Vis X.env.scope x := by first | exact Or.inl rfl | exact Or.inr (Or.inl rfl) | exact Or.inr (Or.inr rfl))
    (hg : (Γ[i]?).bind Kd.dep = some 1 := by rfl) (hd : (x == ("__debug__" : Str)) = false := by decide) (hcd : (x == ("__classdict__" : Str)) = false := by decide)
    (hbase : attributeBase (.Name x px) m X.env (eval (.Name x px) X.env) = eval (.Name x px) X.env := by rfl)
    (hfew : ((backTo pos (starEach (a :: es) X.env)).all (fun x => !x.1) && (backToKw pos (keywordEach [] X.env)).all (fun x => x.1.isSome) && decide ((a :: es).length + ([] : List Keyword).length + (if ([] : List Keyword).isEmpty then 0 else 1) < 30)) = true := by rfl)
    (hline : (apos.endLine == pos.line) = true := by rfl) (hs : starEach (a :: es) X.env = (false, eval a X.env) :: starEach es X.env := by rfl) (hplain : (backTo pos (starEach es X.env)).any (·.1) = false := by rfl) : PE X (.Call (.Attribute (.Name x px) m apos) (a :: es) [] pos) (tM X.K Γ (eMut i U fs) 0) :=
  (pe_bm PySem.F.plainAttrs_list slot hty hm (pe_var hx hv hd hcd) ha hbase hfew hline hs hplain).imp fun σ H Q ⟨O, G, env, L, z, env2, S, e, k⟩ => by
    obtain ⟨ds0, xs, env1, ds, ds', e0, e1, e2, e3, rfl⟩ := eMut_some e
    have hi : At Γ i 1 := at_of hg
    obtain ⟨a0, vs0, y1, y2, _⟩ := S.lst1 hi e0
    refine ⟨_, y1, .inl ⟨rfl, _, SqL.of y2⟩, O, G, env, L, xs, env1, S, e1, fun ys H1 G1 L1 S1 s1 r1 => ?_⟩
    obtain ⟨a1, vs1, z1, z2, z3, z4, z5⟩ := S1.lst1 hi e2
    rw [y1] at z1
    cases z1
    exact hu _ _ _ _ _ _ _ G1 H1 Q S1.gh z2 z3 z5 r1 e3 fun v vs' r' rz => k v _ G1 L1 (S1.mut1 hi y1 z4 z3 r') s1 (.of_rep rz)
theorem m_mut0 (i : Nat) {x : Str} (slot : Slot "list" m id) (hty : typeOf (.builtin id) = pure (.type "method_descriptor")) (hm : MtR X id r) (hu : MuD X.K r U) (hx : X.N[i]? = some x := by rfl) (hv : Vis X.env.scope x := by first | exact Or.inl rfl | exact Or.inr (Or.inl rfl) | exact Or.inr (Or.inr rfl))
    (hg : (Γ[i]?).bind Kd.dep = some 1 := by rfl) (hd : (x == ("__debug__" : Str)) = false := by decide) (hcd : (x == ("__classdict__" : Str)) = false := by decide)
    (hbase : attributeBase (.Name x px) m X.env (eval (.Name x px) X.env) = eval (.Name x px) X.env := by rfl) (hline : (apos.endLine == pos.line) = true := by rfl) : PE X (.Call (.Attribute (.Name x px) m apos) [] [] pos) (tM X.K Γ (eMut i U []) 0) :=
  (pe_bm0 PySem.F.plainAttrs_list slot hty hm (pe_var hx hv hd hcd) hbase hline).imp fun σ H Q ⟨O, G, env, L, z, env2, S, e, k⟩ => by
    obtain ⟨ds0, xs, env1, ds, ds', e0, e1, e2, e3, rfl⟩ := eMut_some e
    simp only [evs, Option.some.injEq, Prod.mk.injEq] at e1
    obtain ⟨rfl, rfl⟩ := e1
    have hi : At Γ i 1 := at_of hg
    obtain ⟨a0, vs0, y1, y2, y3, y4, y5⟩ := S.lst1 hi e2
    exact ⟨_, y1, .inl ⟨rfl, _, SqL.of y2⟩, hu _ _ _ _ _ _ _ G H Q S.gh y2 y3 y5 .nil e3 fun v vs' r' rz => k v _ G L (S.mut1 hi y1 y4 y3 r') (Same.refl _) (.of_rep rz)⟩
end
/-! the methods -/
def uAppend : List D → List D → Option (D × List D) := fun ds es => match es with
  | [e] => if ds.length < lim then some (.none, ds ++ [e]) else none
  | _ => none
def uExtend : List D → List D → Option (D × List D) := fun ds es => match es with
  | [.list xs] => if ds.length + xs.length ≤ lim then some (.none, ds ++ xs) else none
  | _ => none
def uInsert : List D → List D → Option (D × List D) := fun ds es => match es with
  | [.int i, e] => if ds.length < lim ∧ 0 ≤ i ∧ i < 2 ^ 62 then some (.none, ds.take i.toNat ++ [e] ++ ds.drop i.toNat) else none
  | _ => none
def uClear : List D → List D → Option (D × List D) := fun _ es => match es with
  | [] => some (.none, [])
  | _ => none
def uPopAt : List D → List D → Option (D × List D) := fun ds es => match es with
  | [.int i] => if -(2 ^ 62) ≤ i ∧ i < 2 ^ 62 then (seqIndex? i ds.length).bind fun k => (ds[k]?).map fun d => (d, ds.eraseIdx k) else none
  | _ => none
section
variable {K : PySem.W.Frag} {X : Cx}
theorem mu_append : MuD K rAppend uAppend := by
  intro a ys vs ds es ds' z G H Q s ha hg r re e k
  unfold uAppend at e
  split at e
  · rename_i d
    split at e
    · rename_i hl
      simp only [Option.some.injEq, Prod.mk.injEq] at e
      obtain ⟨rfl, rfl⟩ := e
      cases re with
      | cons h t =>
        cases t
        exact ⟨a, vs, _, rfl, rfl, ha, by rw [r.length]; exact lim_lt hl, k _ _ (r.append (.cons h .nil)) .non⟩
    · cases e
  · cases e
theorem mu_extend : MuD K rExtend uExtend := by
  intro a ys vs ds es ds' z G H Q s ha hg r re e k
  unfold uExtend at e
  split at e
  · split at e
    · rename_i hl
      simp only [Option.some.injEq, Prod.mk.injEq] at e
      obtain ⟨rfl, rfl⟩ := e
      cases re with
      | cons h t =>
        cases t
        cases h with
        | lst q rr => exact ⟨a, _, vs, _, rfl, rfl, ha, s _ _ q, by rw [r.length, rr.length]; exact lim_le hl, k _ _ (r.append rr) .non⟩
    · cases e
  · cases e
theorem mu_clear : MuD K rClear uClear := by
  intro a ys vs ds es ds' z G H Q s ha hg r re e k
  unfold uClear at e
  split at e
  · simp only [Option.some.injEq, Prod.mk.injEq] at e
    obtain ⟨rfl, rfl⟩ := e
    cases re
    exact ⟨a, vs, rfl, rfl, ha, k _ _ .nil .non⟩
  · cases e
theorem mu_insert : MuD K (fun x vs H Q => ∃ (l : Addr) (xs : List V) (i : Int) (y : V), x = .ref l ∧ vs = [.int i, y] ∧ H l = some (.lst xs) ∧ xs.length < sizeLine ∧ 0 ≤ i ∧ i < 2 ^ 63 ∧ Q .non (upd H l (.lst (xs.take i.toNat ++ [y] ++ xs.drop i.toNat)))) uInsert := by
  intro a ys vs ds es ds' z G H Q s ha hg r re e k
  unfold uInsert at e
  split at e
  · split at e
    · rename_i hl
      simp only [Option.some.injEq, Prod.mk.injEq] at e
      obtain ⟨rfl, rfl⟩ := e
      cases re with
      | cons h t =>
        cases t with
        | cons h' t =>
          cases t
          cases h
          exact ⟨a, vs, _, _, rfl, rfl, ha, by rw [r.length]; exact lim_lt hl.1, hl.2.1, Int.lt_trans hl.2.2 (by decide), k _ _ (((r.take _).append (.cons h' .nil)).append (r.drop _)) .non⟩
    · cases e
  · cases e
theorem RepL.eraseIdx {G : Hp} : ∀ {vs : List V} {ds : List D} (i : Nat), RepL K G vs ds → RepL K G (vs.eraseIdx i) (ds.eraseIdx i)
  | _, _, _, .nil => .nil
  | _, _, 0, .cons _ t => t
  | _, _, i + 1, .cons r t => .cons r (RepL.eraseIdx i t)
theorem mu_popAt : MuD K rPopAt uPopAt := by
  intro a ys vs ds es ds' z G H Q s ha hg r re e k
  unfold uPopAt at e
  split at e
  · split at e
    · rename_i i hl
      cases q : seqIndex? i ds.length with
      | none => rw [q] at e; cases e
      | some j =>
        rw [q] at e
        simp only [Option.bind_some] at e
        cases q2 : ds[j]? with
        | none => rw [q2] at e; cases e
        | some d =>
          rw [q2] at e
          simp only [Option.map_some, Option.some.injEq, Prod.mk.injEq] at e
          obtain ⟨rfl, rfl⟩ := e
          cases re with
          | cons h t =>
            cases t
            cases h
            obtain ⟨v, hv, rv⟩ := r.get q2
            exact ⟨a, vs, i, j, v, rfl, rfl, ha, Int.le_trans (by decide) hl.1, Int.lt_trans hl.2 (by decide), by rw [r.length]; exact q, hv, k _ _ (r.eraseIdx j) rv⟩
    · cases e
  · cases e
end
end VL

set_option Elab.async false
set_option linter.all false
set_option maxRecDepth 100000
set_option maxHeartbeats 1000000
/-! VL8: operations over data. -/
namespace VL
open PySem PySem.Spec PySem.SeqAt PyProof.Rows L2

/-! ### what stands for data reads as data -/
section
variable {X : Cx} {pins : List (Addr × Obj)} {σ : L2.St} {H G : Hp} {s : Shared}
theorem keys_read {P : Program} {w : World} {h : Heap} : ∀ {es : List DictEntry} {kvs : List (Key × Value)}, PySem.Pairs (mixKind P w) es kvs → ReadsAll h (es.map (·.key)) (kvs.map fun p => kD p.1) []
  | _, _, .nil => .nil
  | _, _, .cons hk hv t => by
    rename_i e kv es kvs
    have t' := keys_read (h := h) t
    have hk' : keyIs kv.1 e.key = true := hk
    rcases keyIs_shape hk' with ⟨i, tk, e1, e2⟩ | ⟨x, tk, e1, e2⟩
    · show ReadsAll h (e.key :: es.map (·.key)) (kD kv.1 :: kvs.map fun p => kD p.1) ([] ++ [])
      rw [e1, e2]
      exact .cons (.int i tk) t'
    · show ReadsAll h (e.key :: es.map (·.key)) (kD kv.1 :: kvs.map fun p => kD p.1) ([] ++ [])
      rw [e1, e2]
      exact .cons (.str x tk) t'
theorem repK_keys {K : PySem.W.Frag} : ∀ {kvs : List (Key × V)} {ds : List (D × D)} {vs : List (Key × Value)}, RepK K G kvs ds → KV kvs vs → ds.map (·.1) = vs.map fun p => kD p.1
  | _, _, _, .nil, r => by cases r; rfl
  | _, _, _, .cons h t, r => by
    cases r with
    | cons r1 r2 =>
      rw [List.map_cons, List.map_cons, repK_keys t r2, ← r1.1]
mutual
theorem rep_reads (I : Inv X pins σ H s) (sg : Same G H) : ∀ {v : V} {d : D}, Rep X.K G v d → ∀ {u : Value}, RelV v u → ∃ as, Reads s.heap u d as
  | _, _, .non, u, r => by cases r; exact ⟨_, .none⟩
  | _, _, .bl b, u, r => by cases r; exact ⟨_, .bool b⟩
  | _, _, .int i, u, r => by obtain ⟨t, rfl⟩ := r; exact ⟨_, .int i t⟩
  | _, _, .str x, u, r => by obtain ⟨t, rfl⟩ := r; exact ⟨_, .str x t⟩
  | _, _, .tup h rr, u, r => by
    cases r
    obtain ⟨its, rv, ⟨o, e, c, n, dd⟩, _⟩ := I.tuple (sqT_mono sg h.sqT)
    obtain ⟨as, ra⟩ := repL_reads I sg rr rv
    exact ⟨as, .tuple e c dd (by simpa using ra)⟩
  | _, _, .lst h rr, u, r => by
    cases r
    obtain ⟨its, n, rv, e, _⟩ := I.lst (sg _ _ h)
    obtain ⟨as, ra⟩ := repL_reads I sg rr rv
    exact ⟨_, .list e rfl rfl (by simpa using ra)⟩
  | _, _, .dk h rr, u, r => by
    cases r
    obtain ⟨_, _, vs, kv, o, es, ep, e, ex, dd, _, pr, _⟩ := (show Rd H _ _ from .inr ⟨_, sg _ _ h⟩).ok I.hok
    obtain ⟨as, ra⟩ := repK_reads I sg rr kv pr
    have hk : ReadsAll s.heap (es.toList.map (·.key)) _ [] := keys_read pr
    rw [← repK_keys rr kv] at hk
    exact ⟨_, .dict e ex.1 dd hk ra⟩
theorem repL_reads (I : Inv X pins σ H s) (sg : Same G H) : ∀ {vs : List V} {ds : List D}, RepL X.K G vs ds → ∀ {us : List Value}, Vals vs us → ∃ as, ReadsAll s.heap us ds as
  | _, _, .nil, us, r => by cases r; exact ⟨_, .nil⟩
  | _, _, .cons h t, us, r => by
    cases r with
    | cons r1 r2 =>
      obtain ⟨a1, h1⟩ := rep_reads I sg h r1
      obtain ⟨a2, h2⟩ := repL_reads I sg t r2
      exact ⟨_, .cons h1 h2⟩
theorem repK_reads (I : Inv X pins σ H s) (sg : Same G H) : ∀ {kvs : List (Key × V)} {ds : List (D × D)}, RepK X.K G kvs ds → ∀ {vs : List (Key × Value)} {es : List DictEntry}, KV kvs vs → PySem.Pairs (mixKind X.prog X.w) es vs → ∃ as, ReadsAll s.heap (es.map (·.val)) (ds.map (·.2)) as
  | _, _, .nil, vs, es, r, p => by cases r; cases p; exact ⟨_, .nil⟩
  | _, _, .cons h t, vs, es, r, p => by
    cases r with
    | cons r1 r2 =>
      cases p with
      | cons hk hv p2 =>
        obtain ⟨a1, h1⟩ := rep_reads I sg h r1.2
        obtain ⟨a2, h2⟩ := repK_reads I sg t r2 p2
        rw [← hv] at h1
        exact ⟨_, .cons h1 h2⟩
end
end

/-! ### ==, !=, in, not in -/
def halfOk (d e : D) : Bool := (d.plain || e.plain) && (decide (d.depth ≤ 64) || decide (e.depth ≤ 64))
def halfIn (d : D) (xs : List D) : Bool := (d.plain || PyData.plainAll xs) && (decide (d.depth ≤ 64) || decide (PyData.depthAll xs ≤ 64))
def eqD (d e : D) : Option D := if halfOk d e = true then some (.bool (PyData.eqv d e)) else none
def neD (d e : D) : Option D := if halfOk d e = true then some (.bool (!PyData.eqv d e)) else none
def inD (d c : D) : Option D := match itemsD c with
  | some xs => if halfIn d xs = true then some (.bool (xs.any fun y => PyData.eqv y d)) else none
  | none => none
def notInD (d c : D) : Option D := match itemsD c with
  | some xs => if halfIn d xs = true then some (.bool (!xs.any fun y => PyData.eqv y d)) else none
  | none => none
section
variable {X : Cx}
theorem halfOk_iff {d e : D} : halfOk d e = true ↔ (d.plain = true ∨ e.plain = true) ∧ min d.depth e.depth ≤ 64 := by
  unfold halfOk; simp only [Bool.and_eq_true, Bool.or_eq_true, decide_eq_true_eq]
  constructor
  · rintro ⟨h, g⟩; exact ⟨h, by omega⟩
  · rintro ⟨h, g⟩; exact ⟨h, by omega⟩
theorem halfIn_iff {d : D} {xs : List D} : halfIn d xs = true ↔ (PyData.plainAll xs = true ∨ d.plain = true) ∧ min (PyData.depthAll xs) d.depth ≤ 64 := by
  unfold halfIn; simp only [Bool.and_eq_true, Bool.or_eq_true, decide_eq_true_eq]
  constructor
  · rintro ⟨h, g⟩; exact ⟨h.symm, by omega⟩
  · rintro ⟨h, g⟩; exact ⟨h.symm, by omega⟩
theorem bool_fin {pins : List (Addr × Obj)} {σ : L2.St} {H G : Hp} {s : Shared} {Q : VK} {b : Bool} (I : Inv X pins σ H s) (sg : Same G H) (q : ∀ v G' H', Res X.K G H 0 v (.bool b) G' H' → Q v H') : EP X pins σ Q (.bool b) s := ⟨.bl b, H, I, rfl, q _ _ _ (Res.of_rep sg (.bl b))⟩
theorem op_eqD (hu : X.A.units + 66 < cLine) : OpR X (compareOp .Eq) (rD X.K 0 eqD) := by
  intro pins s σ H x y v u Q I rx ry ⟨d, e, z, G, sg, rd, re, hz, q⟩
  unfold eqD at hz
  split at hz
  · rename_i hk
    cases hz
    rw [halfOk_iff] at hk
    obtain ⟨as, h1⟩ := rep_reads I sg rd rx
    obtain ⟨bs, h2⟩ := rep_reads I sg re ry
    exact VQ.RcAt_half h1 h2 hk.1 (by omega) X.prog X.w _ _ (bool_fin I sg q)
  · cases hz
theorem op_neD (hu : X.A.units + 66 < cLine) : OpR X (compareOp .NotEq) (rD X.K 0 neD) := by
  intro pins s σ H x y v u Q I rx ry ⟨d, e, z, G, sg, rd, re, hz, q⟩
  unfold neD at hz
  split at hz
  · rename_i hk
    cases hz
    rw [halfOk_iff] at hk
    obtain ⟨as, h1⟩ := rep_reads I sg rd rx
    obtain ⟨bs, h2⟩ := rep_reads I sg re ry
    exact VQ.RcNeAt_half h1 h2 hk.1 (by omega) X.prog X.w _ _ (bool_fin I sg q)
  · cases hz
theorem op_inD (hu : X.A.units + 66 < cLine) : OpR X (compareOp .In) (rD X.K 0 inD) := by
  intro pins s σ H x y v u Q I rx ry ⟨d, c, z, G, sg, rd, rc, hz, q⟩
  obtain ⟨as, h1⟩ := rep_reads I sg rd rx
  obtain ⟨bs, h2⟩ := rep_reads I sg rc ry
  unfold inD at hz
  cases c with
  | list xs =>
    simp only [itemsD] at hz
    split at hz
    · rename_i hk
      cases hz
      rw [halfIn_iff] at hk
      exact VQ.in_list_half h2 h1 hk.1 (by omega) (bool_fin I sg q)
    · cases hz
  | tuple xs =>
    simp only [itemsD] at hz
    split at hz
    · rename_i hk
      cases hz
      rw [halfIn_iff] at hk
      exact VQ.in_tuple_half h2 h1 hk.1 (by omega) (bool_fin I sg q)
    · cases hz
  | _ => cases hz
theorem op_notInD (hu : X.A.units + 66 < cLine) : OpR X (compareOp .NotIn) (rD X.K 0 notInD) := by
  intro pins s σ H x y v u Q I rx ry ⟨d, c, z, G, sg, rd, rc, hz, q⟩
  obtain ⟨as, h1⟩ := rep_reads I sg rd rx
  obtain ⟨bs, h2⟩ := rep_reads I sg rc ry
  unfold notInD at hz
  cases c with
  | list xs =>
    simp only [itemsD] at hz
    split at hz
    · rename_i hk
      cases hz
      rw [halfIn_iff] at hk
      exact VQ.notIn_list_half h2 h1 hk.1 (by omega) (bool_fin I sg q)
    · cases hz
  | tuple xs =>
    simp only [itemsD] at hz
    split at hz
    · rename_i hk
      cases hz
      rw [halfIn_iff] at hk
      exact VQ.notIn_tuple_half h2 h1 hk.1 (by omega) (bool_fin I sg q)
    · cases hz
  | _ => cases hz
/-! ### repr -/
mutual
def hasL : D → Bool
  | .list _ => true
  | .tuple xs => hasLAll xs
  | .dict kvs => hasLKv kvs
  | _ => false
def hasLAll : List D → Bool
  | [] => false
  | x :: xs => hasL x || hasLAll xs
def hasLKv : List (D × D) → Bool
  | [] => false
  | (_, x) :: xs => hasL x || hasLKv xs
end
section
variable {X : Cx} {pins : List (Addr × Obj)} {σ : L2.St} {G H : Hp} {s : Shared}
mutual
theorem rep_readsM (I : Inv X pins σ H s) (sg : Same G H) : ∀ {v : V} {d : D}, Rep X.K G v d → ∀ {u : Value}, RelV v u → ∃ as, Reads s.heap u d as ∧ (hasL d = false → sysModules ∉ as)
  | _, _, .non, u, r => by cases r; exact ⟨_, .none, fun _ z => (by cases z)⟩
  | _, _, .bl b, u, r => by cases r; exact ⟨_, .bool b, fun _ z => (by cases z)⟩
  | _, _, .int i, u, r => by obtain ⟨t, rfl⟩ := r; exact ⟨_, .int i t, fun _ z => (by cases z)⟩
  | _, _, .str x, u, r => by obtain ⟨t, rfl⟩ := r; exact ⟨_, .str x t, fun _ z => (by cases z)⟩
  | _, _, .tup h rr, u, r => by
    cases r
    obtain ⟨its, rv, ⟨o, e, c, n, dd⟩, _⟩ := I.tuple (sqT_mono sg h.sqT)
    obtain ⟨as, ra, hn⟩ := repL_readsM I sg rr rv
    exact ⟨as, .tuple e c dd (by simpa using ra), fun z => hn (by simpa [hasL] using z)⟩
  | _, _, .lst h rr, u, r => by
    cases r
    obtain ⟨its, n, rv, e, _⟩ := I.lst (sg _ _ h)
    obtain ⟨as, ra, hn⟩ := repL_readsM I sg rr rv
    exact ⟨_, .list e rfl rfl (by simpa using ra), fun z => by simp [hasL] at z⟩
  | _, _, .dk h rr, u, r => by
    cases r
    obtain ⟨_, hs, vs, kv, o, es, ep, e, ex, dd, _, pr, _⟩ := (show Rd H _ _ from .inr ⟨_, sg _ _ h⟩).ok I.hok
    obtain ⟨as, ra, hn⟩ := repK_readsM I sg rr kv pr
    have hk : ReadsAll s.heap (es.toList.map (·.key)) _ [] := keys_read pr
    rw [← repK_keys rr kv] at hk
    refine ⟨_, .dict e ex.1 dd hk ra, fun z hm => ?_⟩
    simp only [List.append_nil, List.cons_append, List.nil_append, List.mem_cons] at hm
    rcases hm with hm | hm
    · rw [← hm] at hs; simp at hs
    · exact hn (by simpa [hasL] using z) hm
theorem repL_readsM (I : Inv X pins σ H s) (sg : Same G H) : ∀ {vs : List V} {ds : List D}, RepL X.K G vs ds → ∀ {us : List Value}, Vals vs us → ∃ as, ReadsAll s.heap us ds as ∧ (hasLAll ds = false → sysModules ∉ as)
  | _, _, .nil, us, r => by cases r; exact ⟨_, .nil, fun _ z => (by cases z)⟩
  | _, _, .cons h t, us, r => by
    cases r with
    | cons r1 r2 =>
      obtain ⟨a1, h1, n1⟩ := rep_readsM I sg h r1
      obtain ⟨a2, h2, n2⟩ := repL_readsM I sg t r2
      refine ⟨_, .cons h1 h2, fun z hm => ?_⟩
      simp only [hasLAll, Bool.or_eq_false_iff] at z
      rcases List.mem_append.mp hm with hm | hm
      · exact n1 z.1 hm
      · exact n2 z.2 hm
theorem repK_readsM (I : Inv X pins σ H s) (sg : Same G H) : ∀ {kvs : List (Key × V)} {ds : List (D × D)}, RepK X.K G kvs ds → ∀ {vs : List (Key × Value)} {es : List DictEntry}, KV kvs vs → PySem.Pairs (mixKind X.prog X.w) es vs → ∃ as, ReadsAll s.heap (es.map (·.val)) (ds.map (·.2)) as ∧ (hasLKv ds = false → sysModules ∉ as)
  | _, _, .nil, vs, es, r, p => by cases r; cases p; exact ⟨_, .nil, fun _ z => (by cases z)⟩
  | _, _, .cons h t, vs, es, r, p => by
    cases r with
    | cons r1 r2 =>
      cases p with
      | cons hk hv p2 =>
        obtain ⟨a1, h1, n1⟩ := rep_readsM I sg h r1.2
        obtain ⟨a2, h2, n2⟩ := repK_readsM I sg t r2 p2
        rw [← hv] at h1
        refine ⟨_, .cons h1 h2, fun z hm => ?_⟩
        simp only [hasLKv, Bool.or_eq_false_iff] at z
        rcases List.mem_append.mp hm with hm | hm
        · exact n1 z.1 hm
        · exact n2 z.2 hm
end
end
def reprD : List D → Option D := fun ds => match ds with
  | [d] => if (d.showable && decide (d.depth ≤ 64) && decide (d.shown.length ≤ lim) && (!d.hasDict || !hasL d)) = true then some (.str d.shown) else none
  | _ => none
theorem call_reprD (hu : X.A.units + 80 < cLine) (hgd : X.A.guards = some []) : CallR X (.builtin "repr") (cD X.K 0 reprD) := by
  intro pins s σ H xs us Q I rv ⟨ds, z, G, sg, rr, hz, q⟩
  unfold reprD at hz
  split at hz
  · rename_i d
    split at hz
    · rename_i hk
      cases hz
      simp only [Bool.and_eq_true, decide_eq_true_eq, Bool.not_eq_true', Bool.or_eq_true] at hk
      cases rr with
      | cons r rr =>
        cases rr
        cases rv with
        | cons r1 r2 =>
          cases r2
          rename_i x u
          have fin : ∀ (h' : Heap) (tk : Nat) (t : Tok), (∀ b o, s.heap.get? b = some o → h'.get? b = some o) → EP X pins σ Q (.str d.shown t) { s with heap := h', toks := tk } := fun h' tk t hk' => ⟨.str d.shown, H, I.kept hk', ⟨_, rfl⟩, q _ _ _ (Res.of_rep sg (.str _))⟩
          have hsz : d.shown.length ≤ sizeLine := lim_le hk.1.2
          have gen : ∀ (a : Addr), u = .ref a → wpAny (model X.prog X.w) X.A (call (.builtin "repr") [u]) (EP X pins σ Q) X.xe s := fun a e => by
            subst e
            obtain ⟨as, h1, hn⟩ := rep_readsM I sg r r1
            exact repr_of_reads' h1 hk.1.1.1 (fun z => by
              rcases hk.2 with q | q
              · rw [q] at z; cases z
              · exact hn q) hgd (by have := hk.1.1.2; omega) (fun _ _ e => e) (fun h' t tk hk' => fin h' tk t hk') hsz
          have here : ∀ (t : Tok), EP X pins σ Q (.str d.shown t) { s with toks := s.toks + 1 } := fun t => fin s.heap (s.toks + 1) t fun _ _ e => e
          cases r with
          | non => cases r1; exact PySem.P.repr_of_none (by simpa [PyData.shown] using here s.toks)
          | bl b => cases r1; exact PySem.P.repr_of_bool (by simpa [PyData.shown] using here s.toks)
          | int i => obtain ⟨t, rfl⟩ := r1; exact PySem.P.repr_of_int (by simpa [PyData.showable] using hk.1.1.1) (by simpa [PyData.shown] using here s.toks)
          | str y => obtain ⟨t, rfl⟩ := r1; exact PySem.P.repr_of_str (by simpa [PyData.shown] using here s.toks) (by simpa [PyData.shown] using hsz)
          | tup h rr => cases r1; exact gen _ rfl
          | lst h rr => cases r1; exact gen _ rfl
          | dk h rr => cases r1; exact gen _ rfl
    · cases hz
  · cases hz
end
end VL

set_option Elab.async false
set_option linter.all false
set_option maxRecDepth 100000
set_option maxHeartbeats 1000000
/-! VL9: numbers, places, slices, built-ins over data. -/
namespace VL
open PySem PySem.Spec PyProof.Rows L2

/-! ### a rule at depth 1 serves at depth 0 -/
section
variable {K : PySem.W.Frag} {G H G' H' : Hp} {n : Nat} {v : V} {d : D}
theorem Res.zero (hn : n < 100) (R : Res K G H n v d G' H') : ∃ G2, Res K G H 0 v d G2 H' := by
  obtain ⟨M, o, nd, fr⟩ := R.own
  refine ⟨shw G' H' M, R.gg.trans shw_l, shw_h R.gh, R.hh, fun a u e hz => ?_, [], .rep (Own.read R.gh hn o fun _ h => h), List.nodup_nil, fun a m => (by cases m)⟩
  by_cases hm : a ∈ M
  · exact fr a hm
  · rw [shw_not hm] at e; exact R.new a u e hz
theorem rD0 (hn : n < 100) {F : D → D → Option D} {x y : V} {H : Hp} {Q : VK} (h : rD K 0 F x y H Q) : rD K n F x y H Q := by
  obtain ⟨d, e, z, G, sg, rd, re, hz, q⟩ := h
  refine ⟨d, e, z, G, sg, rd, re, hz, fun v G' H' R => ?_⟩
  obtain ⟨G2, R2⟩ := R.zero hn
  exact q v G2 H' R2
theorem OpR.zero {X : Cx} {f : Value → Value → Sem Value} {F : D → D → Option D} (h : OpR X f (rD X.K n F)) (hn : n < 100 := by decide) : OpR X f (rD X.K 0 F) := fun pins s σ H x y v u Q I rx ry q => h pins s σ H x y v u Q I rx ry (rD0 hn q)
theorem CallR.zero {X : Cx} {f : Value} {F : List D → Option D} (h : CallR X f (cD X.K n F)) (hn : n < 100 := by decide) : CallR X f (cD X.K 0 F) := fun pins s σ H xs us Q I rv ⟨ds, z, G, sg, rr, hz, q⟩ => h pins s σ H xs us Q I rv ⟨ds, z, G, sg, rr, hz, fun v G' H' R => by
  obtain ⟨G2, R2⟩ := R.zero hn
  exact q v G2 H' R2⟩
end

/-! ### operators on ints -/
def ii (C : Int → Int → Bool) (g : Int → Int → D) : D → D → Option D
  | .int i, .int j => if C i j = true then some (g i j) else none
  | _, _ => none
def yes2 : Int → Int → Bool := fun _ _ => true
def okMul (i j : Int) : Bool := (decide (-(2 ^ 64) < i) && decide (i < 2 ^ 64)) || (decide (-(2 ^ 64) < j) && decide (j < 2 ^ 64))
def okDiv (_ j : Int) : Bool := decide (0 < j) && decide (j < 1073741824)
def okMod (_ j : Int) : Bool := decide (0 < j)
def okPow (i j : Int) : Bool := decide (0 ≤ j) && decide (j ≤ 1000) && decide (i.natAbs < 2 ^ 64)
section
variable {X : Cx}
theorem ii_some {C : Int → Int → Bool} {g : Int → Int → D} {d e z : D} (h : ii C g d e = some z) : ∃ i j, d = .int i ∧ e = .int j ∧ C i j = true ∧ z = g i j := by
  unfold ii at h
  split at h
  · rename_i i j
    split at h
    · rename_i hc
      cases h
      exact ⟨i, j, rfl, rfl, hc, rfl⟩
    · cases h
  · cases h
theorem op_ii {f : Value → Value → Sem Value} {C : Int → Int → Bool} {P : Int → Int → Prop} {g : Int → Int → Int} (h : OpR X f (rI P fun i j => .int (g i j))) (hc : ∀ i j, C i j = true → P i j) : OpR X f (rD X.K 0 (ii C fun i j => .int (g i j))) :=
  fun pins s σ H x y v u Q I rx ry ⟨d, e, z, G, sg, rd, re, hz, q⟩ => by
    obtain ⟨i, j, rfl, rfl, c, rfl⟩ := ii_some hz
    cases rd
    cases re
    exact h pins s σ H _ _ v u Q I rx ry ⟨i, j, rfl, rfl, hc i j c, q _ _ _ (Res.of_rep sg (.int _))⟩
theorem op_ii0 {f : Value → Value → Sem Value} {g : Int → Int → Int} (h : OpR X f (rI0 fun i j => .int (g i j))) : OpR X f (rD X.K 0 (ii yes2 fun i j => .int (g i j))) :=
  fun pins s σ H x y v u Q I rx ry ⟨d, e, z, G, sg, rd, re, hz, q⟩ => by
    obtain ⟨i, j, rfl, rfl, c, rfl⟩ := ii_some hz
    cases rd
    cases re
    exact h pins s σ H _ _ v u Q I rx ry ⟨i, j, rfl, rfl, q _ _ _ (Res.of_rep sg (.int _))⟩
theorem op_iB {f : Value → Value → Sem Value} {g : Int → Int → Bool} (h : OpR X f (rI0 fun i j => .bl (g i j))) : OpR X f (rD X.K 0 (ii yes2 fun i j => .bool (g i j))) :=
  fun pins s σ H x y v u Q I rx ry ⟨d, e, z, G, sg, rd, re, hz, q⟩ => by
    obtain ⟨i, j, rfl, rfl, c, rfl⟩ := ii_some hz
    cases rd
    cases re
    exact h pins s σ H _ _ v u Q I rx ry ⟨i, j, rfl, rfl, q _ _ _ (Res.of_rep sg (.bl _))⟩
def subD : D → D → Option D := ii yes2 fun i j => .int (i - j)
def mulD : D → D → Option D := ii okMul fun i j => .int (i * j)
def modD : D → D → Option D := ii okMod fun i j => .int (i % j)
def fdivD : D → D → Option D := ii okDiv fun i j => .int (i / j)
def powD : D → D → Option D := ii okPow fun i j => .int (i ^ j.toNat)
def ltD : D → D → Option D := ii yes2 fun i j => .bool (decide (i < j))
def leD : D → D → Option D := ii yes2 fun i j => .bool (decide (i ≤ j))
def gtD : D → D → Option D := ii yes2 fun i j => .bool (decide (j < i))
def geD : D → D → Option D := ii yes2 fun i j => .bool (decide (j ≤ i))
theorem o_sub : OpR X (binaryOp .Sub) (rD X.K 0 subD) := op_ii0 op_sub
theorem o_mul : OpR X (binaryOp .Mult) (rD X.K 0 mulD) := op_ii op_mul fun i j h => by
  unfold okMul at h
  simp only [Bool.or_eq_true, Bool.and_eq_true, decide_eq_true_eq] at h
  exact h
theorem o_mod : OpR X (binaryOp .Mod) (rD X.K 0 modD) := op_ii op_mod fun i j h => of_decide_eq_true h
theorem o_fdiv : OpR X (binaryOp .FloorDiv) (rD X.K 0 fdivD) := op_ii op_fdiv fun i j h => by
  unfold okDiv at h
  simp only [Bool.and_eq_true, decide_eq_true_eq] at h
  exact h
theorem o_pow : OpR X (binaryOp .Pow) (rD X.K 0 powD) := op_ii op_pow fun i j h => by
  unfold okPow at h
  simp only [Bool.and_eq_true, decide_eq_true_eq] at h
  exact ⟨h.1.1, Int.le_trans h.1.2 (by decide), h.2⟩
theorem o_lt : OpR X (compareOp .Lt) (rD X.K 0 ltD) := op_iB op_lt
theorem o_le : OpR X (compareOp .LtE) (rD X.K 0 leD) := op_iB op_le
theorem o_gt : OpR X (compareOp .Gt) (rD X.K 0 gtD) := op_iB op_gt
theorem o_ge : OpR X (compareOp .GtE) (rD X.K 0 geD) := op_iB op_ge
def negD : D → Option D
  | .int i => some (.int (-i))
  | _ => none
theorem u_neg : UnR X (unaryOp .USub) (uD X.K 0 negD) := fun pins s σ H x v Q I rx ⟨d, z, G, sg, rd, hz, q⟩ => by
  unfold negD at hz
  split at hz
  · cases hz
    cases rd
    exact un_neg pins s σ H _ v Q I rx ⟨_, rfl, q _ _ _ (Res.of_rep sg (.int _))⟩
  · cases hz
def isND (d e : D) : Option D := match e with
  | .none => some (.bool (match d with | .none => true | _ => false))
  | _ => none
def notND (d e : D) : Option D := match e with
  | .none => some (.bool (match d with | .none => false | _ => true))
  | _ => none
theorem o_isN : OpR X (compareOp .Is) (rD X.K 0 isND) := fun pins s σ H x y v u Q I rx ry ⟨d, e, z, G, sg, rd, re, hz, q⟩ => by
  unfold isND at hz
  cases re with
  | non =>
    cases hz
    refine op_isN pins s σ H x _ v u Q I rx ry ⟨rfl, ?_⟩
    cases rd <;> exact q _ _ _ (Res.of_rep sg (.bl _))
  | _ => cases hz
theorem o_notN : OpR X (compareOp .IsNot) (rD X.K 0 notND) := fun pins s σ H x y v u Q I rx ry ⟨d, e, z, G, sg, rd, re, hz, q⟩ => by
  unfold notND at hz
  cases re with
  | non =>
    cases hz
    refine op_notN pins s σ H x _ v u Q I rx ry ⟨rfl, ?_⟩
    cases rd <;> exact q _ _ _ (Res.of_rep sg (.bl _))
  | _ => cases hz

/-! ### + -/
/-- a tuple laid by a push -/
theorem tup_laid {pins : List (Addr × Obj)} {σ : L2.St} {H G : Hp} {s : Shared} {Q : VK} {its : List Value} {vs : List V} {ds : List D} (I : Inv X pins σ H s) (sg : Same G H) (rv : Vals vs its) (rr : RepL X.K G vs ds) (hz : vs.length ≤ sizeLine)
    (q : ∀ v G' H', Res X.K G H 0 v (.tuple ds) G' H' → Q v H') : EP X pins σ Q (.ref s.heap.objs.size) { s with heap := s.heap.push { cls := .type "tuple", data := .seq its.toArray } } := by
  have hf : H s.heap.objs.size = none := I.hok.fresh (Nat.le_refl _)
  refine ⟨.ref s.heap.objs.size, upd H s.heap.objs.size (.frz { cls := .type "tuple", data := .seq its.toArray } (.tup vs)), I.laid (t' := s.toks) (fun b ob e => Heap.get?_push_of_some _ e) (Nat.le_refl _) ⟨Heap.get?_push_size _ rfl, hz, its, rv, IsTup.new _ _⟩, rfl, q _ _ _ (Res.newT sg hf rfl rfl rr)⟩
def catT : D → D → Option D
  | .tuple xs, .tuple ys => if xs.length + ys.length ≤ lim then some (.tuple (xs ++ ys)) else none
  | _, _ => none
def catL : D → D → Option D
  | .list xs, .list ys => if xs.length + ys.length ≤ lim then some (.list (xs ++ ys)) else none
  | _, _ => none
theorem vals_nil {xs : List V} {us : List Value} (r : Vals xs us) : us = [] ↔ xs = [] := by cases r <;> simp
theorem o_catT : OpR X (binaryOp .Add) (rD X.K 0 catT) := fun pins s σ H x y v u Q I rx ry ⟨d, e, z, G, sg, rd, re, hz, q⟩ => by
  unfold catT at hz
  cases rd with
  | tup h1 r1 =>
    cases re with
    | tup h2 r2 =>
      simp only at hz
      split at hz
      · rename_i hl
        cases hz
        cases rx
        cases ry
        obtain ⟨its, v1, p1, _⟩ := I.tuple (sqT_mono sg h1.sqT)
        obtain ⟨its2, v2, p2, _⟩ := I.tuple (sqT_mono sg h2.sqT)
        have hl' : its.length + its2.length ≤ sizeLine := by rw [← v1.length, ← v2.length, r1.length, r2.length]; exact lim_le hl
        by_cases e1 : its = []
        · subst e1
          cases v1
          cases r1
          exact cat_tup0 p1 p2 ⟨.ref _, H, I, rfl, q _ _ _ (Res.of_rep sg (.tup h2 r2))⟩
        · refine HT.cat_tup p1 p2 e1 (fun e2 => ?_) (fun e2 => ?_) hl'
          · subst e2
            cases v2
            cases r2
            refine ⟨.ref _, H, I, rfl, q _ _ _ (Res.of_rep sg (.tup h1 ?_))⟩
            rw [List.append_nil]; exact r1
          · exact tup_laid I sg (v1.append v2) (r1.append r2) (by rw [List.length_append, v1.length, v2.length]; exact hl') q
      · cases hz
    | _ => cases hz
  | _ => cases hz
theorem o_catL : OpR X (binaryOp .Add) (rD X.K 1 catL) := fun pins s σ H x y v u Q I rx ry ⟨d, e, z, G, sg, rd, re, hz, q⟩ => by
  unfold catL at hz
  cases rd with
  | lst h1 r1 =>
    cases re with
    | lst h2 r2 =>
      simp only at hz
      split at hz
      · rename_i hl
        cases hz
        exact op_cat pins s σ H _ _ v u Q I rx ry ⟨_, _, _, _, rfl, rfl, sg _ _ h1, sg _ _ h2, by rw [r1.length, r2.length]; exact lim_le hl, fun p hp => q _ _ _ (Res.newL sg hp (r1.append r2))⟩
      · cases hz
    | _ => cases hz
  | _ => cases hz
/-- + of ints, tuples, lists -/
def addD (d e : D) : Option D := match d with
  | .int _ => ii yes2 (fun i j => .int (i + j)) d e
  | .tuple _ => catT d e
  | .list _ => catL d e
  | _ => none
theorem o_add : OpR X (binaryOp .Add) (rD X.K 0 addD) := fun pins s σ H x y v u Q I rx ry ⟨d, e, z, G, sg, rd, re, hz, q⟩ => by
  unfold addD at hz
  split at hz
  · exact op_ii0 op_add pins s σ H x y v u Q I rx ry ⟨_, e, z, G, sg, rd, re, hz, q⟩
  · exact o_catT pins s σ H x y v u Q I rx ry ⟨_, e, z, G, sg, rd, re, hz, q⟩
  · exact (OpR.zero o_catL (by decide)) pins s σ H x y v u Q I rx ry ⟨_, e, z, G, sg, rd, re, hz, q⟩
  · cases hz
/-! ### places -/
def ixD (d e : D) : Option D := match d, e with
  | .list xs, .int i => atI xs i
  | .tuple xs, .int i => atI xs i
  | _, _ => none
theorem RepL.atI {K : PySem.W.Frag} {G : Hp} {vs : List V} {ds : List D} {i : Int} {d : D} (r : RepL K G vs ds) (h : L2.atI ds i = some d) : ∃ v, L2.atI vs i = some v ∧ Rep K G v d := by
  unfold L2.atI at h ⊢
  rw [r.length]
  cases q : ixN ds.length i with
  | none => rw [q] at h; cases h
  | some j =>
    rw [q] at h
    simp only [Option.bind_some] at h ⊢
    exact r.get h
theorem x_seq : IxR X (rD X.K 0 ixD) := fun value slice pins s σ H x y v u Q I rx ry ⟨d, e, z, G, sg, rd, re, hz, q⟩ hs => by
  unfold ixD at hz
  cases rd with
  | lst h r =>
    cases re with
    | int i =>
      obtain ⟨w, e1, rw1⟩ := r.atI hz
      exact ix_list value slice pins s σ H _ _ v u Q I rx ry ⟨_, _, _, _, rfl, rfl, SqL.of (sg _ _ h), e1, q _ _ _ (Res.of_rep sg rw1)⟩ hs
    | _ => cases hz
  | tup h r =>
    cases re with
    | int i =>
      obtain ⟨w, e1, rw1⟩ := r.atI hz
      exact ix_tup value slice pins s σ H _ _ v u Q I rx ry ⟨_, _, _, _, rfl, rfl, sqT_mono sg h.sqT, e1, q _ _ _ (Res.of_rep sg rw1)⟩ hs
    | _ => cases hz
  | _ => cases hz
end
/-! ### slices -/
def cutD (xs : List D) (lo hi : Option Int) : List D := (xs.drop (HT.sIx xs.length 0 lo)).take (HT.sIx xs.length xs.length hi - HT.sIx xs.length 0 lo)
abbrev Px := List D → Option (Option Int × List D)
def pNo : Px := fun env => some (none, env)
def pIs (f : Ex) : Px := fun env => (f env).bind fun p => match p.1 with
  | .int i => some (some i, p.2)
  | _ => none
def tMO (K : PySem.W.Frag) (Γ : Ctx) (f : Px) : TO := fun σ H Q => ∃ (O : Gh) (G : Hp) (env : List D) (L : Nat → List Addr) (r : Option Int) (env' : List D), StR K O Γ H G σ env L ∧ f env = some (r, env') ∧ ∀ H' G' L', StR K O Γ H' G' σ env' L' → Same G G' → Q r H'
def slcD (d : D) (lo hi : Option Int) : Option D := match d with
  | .list xs => if xs.length ≤ lim then some (.list (cutD xs lo hi)) else none
  | .tuple xs => if xs.length ≤ lim then some (.tuple (cutD xs lo hi)) else none
  | _ => none
def slcL (d : D) (lo hi : Option Int) : Option D := match d with
  | .list xs => if xs.length ≤ lim then some (.list (cutD xs lo hi)) else none
  | _ => none
def eSl (F : D → Option Int → Option Int → Option D) (a : Ex) (lo hi : Px) : Ex := fun env => (a env).bind fun p => (lo p.2).bind fun q => (hi q.2).bind fun r => (F p.1 q.1 r.1).map fun z => (z, r.2)
section
variable {X : Cx} {Γ : Ctx} {a b : Expr} {f : Ex} {pos p2 : Pos} {n : Nat}
theorem _root_.L2.PO.imp {X : Cx} {e : Option Expr} {t t' : TO} (h : PO X e t) (k : ∀ σ H Q, t' σ H Q → t σ H Q) : PO X e t' := ⟨fun pins s σ H Q I q => h.run pins s σ H Q I (k σ H Q q)⟩
theorem o_none : PO X none (tMO X.K Γ pNo) := po_none.imp fun σ H Q ⟨O, G, env, L, r, env1, S, e, k⟩ => by
  simp only [pNo, Option.some.injEq, Prod.mk.injEq] at e
  obtain ⟨rfl, rfl⟩ := e
  exact k H G L S (Same.refl _)
theorem o_some (h : PE X a (tM X.K Γ f 0)) : PO X (some a) (tMO X.K Γ (pIs f)) := (po_some h).imp fun σ H Q ⟨O, G, env, L, r, env1, S, e, k⟩ => by
  unfold pIs at e
  cases h1 : f env with
  | none => rw [h1] at e; cases e
  | some p =>
    rw [h1] at e
    simp only [Option.bind_some] at e
    obtain ⟨d, env2⟩ := p
    cases d with
    | int i =>
      simp only [Option.some.injEq, Prod.mk.injEq] at e
      obtain ⟨rfl, rfl⟩ := e
      refine ⟨O, G, env, L, _, _, S, h1, fun v H1 G1 L1 S1 s1 v1 => ?_⟩
      have := v1.rep
      cases this
      exact ⟨i, rfl, k H1 G1 L1 S1 s1⟩
    | _ => cases e
/-- a slice by values -/
def sD (K : PySem.W.Frag) (n : Nat) (F : D → Option Int → Option Int → Option D) : V → Option Int → Option Int → Hp → VK → Prop := fun x lo hi H Q => ∃ d z G, Same G H ∧ Rep K G x d ∧ F d lo hi = some z ∧ ∀ v G' H', Res K G H n v z G' H' → Q v H'
theorem m_sl {F : D → Option Int → Option Int → Option D} {lo hi : Option Expr} {fl fh : Px} (hr : SlR X (sD X.K n F)) (he : PE X a (tM X.K Γ f 0)) (hl : PO X lo (tMO X.K Γ fl)) (hu : PO X hi (tMO X.K Γ fh)) : PE X (.Subscript a (.Slice lo hi none p2) pos) (tM X.K Γ (eSl F f fl fh) n) :=
  (pe_slice hr he hl hu).imp fun σ H Q ⟨O, G, env, L, r, env4, S, e, k⟩ => by
    unfold eSl at e
    cases h1 : f env with
    | none => rw [h1] at e; cases e
    | some p =>
      rw [h1] at e
      simp only [Option.bind_some] at e
      cases h2 : fl p.2 with
      | none => rw [h2] at e; cases e
      | some q =>
        rw [h2] at e
        simp only [Option.bind_some] at e
        cases h3 : fh q.2 with
        | none => rw [h3] at e; cases e
        | some t =>
          rw [h3] at e
          simp only [Option.bind_some] at e
          cases h4 : F p.1 q.1 t.1 with
          | none => rw [h4] at e; cases e
          | some z =>
            rw [h4] at e
            simp only [Option.map_some, Option.some.injEq, Prod.mk.injEq] at e
            obtain ⟨rfl, rfl⟩ := e
            exact ⟨O, G, env, L, p.1, p.2, S, h1, fun v H1 G1 L1 S1 s1 v1 => ⟨O, G1, p.2, L1, q.1, q.2, S1, h2, fun H2 G2 L2 S2 s2 => ⟨O, G2, q.2, L2, t.1, t.2, S2, h3, fun H3 G3 L3 S3 s3 =>
              ⟨p.1, z, G3, S3.gh, (v1.rep.mono s2).mono s3, h4, fun w G4 H4 R => k w H4 G4 L3 (S3.res R).1 (((s1.trans s2).trans s3).trans R.gg) (S3.res R).2⟩⟩⟩⟩
theorem cutV_rep {K : PySem.W.Frag} {G : Hp} {vs : List V} {ds : List D} (r : RepL K G vs ds) (lo hi : Option Int) : RepL K G (cutV vs lo hi) (cutD ds lo hi) := by
  unfold cutV cutD
  rw [r.length]
  exact (r.drop _).take _
theorem sl_L : SlR X (sD X.K 1 slcL) := fun pins s σ H x v vl vu lo hi sl Q I rx hs pl pu ⟨d, z, G, sg, rd, hz, q⟩ => by
  unfold slcL at hz
  cases rd with
  | lst h r =>
    simp only at hz
    split at hz
    · cases hz
      exact sl_list pins s σ H _ v vl vu lo hi sl Q I rx hs pl pu ⟨_, _, rfl, SqL.of (sg _ _ h), fun p hp => q _ _ _ (Res.newL sg hp (cutV_rep r lo hi))⟩
    · cases hz
  | _ => cases hz
theorem sl_D : SlR X (sD X.K 0 slcD) := fun pins s σ H x v vl vu lo hi sl Q I rx hs pl pu ⟨d, z, G, sg, rd, hz, q⟩ => by
  unfold slcD at hz
  cases rd with
  | lst h r =>
    refine sl_L pins s σ H _ v vl vu lo hi sl Q I rx hs pl pu ⟨_, z, G, sg, .lst h r, hz, fun w G' H' R => ?_⟩
    obtain ⟨G2, R2⟩ := R.zero (by decide)
    exact q w G2 H' R2
  | tup h r =>
    simp only at hz
    split at hz
    · rename_i hlim
      cases hz
      cases rx
      obtain ⟨its, rv, ht, hzz⟩ := I.tuple (sqT_mono sg h.sqT)
      have hlen : its.toArray.size = its.length := List.size_toArray ..
      refine ⟨"tuple", _, PyProof.Rows.slot_tuple_getitem.lookup, ht.typeIs, ?_⟩
      by_cases hw : HT.sIx its.toArray.size 0 lo = 0 ∧ HT.sIx its.toArray.size its.toArray.size hi = its.toArray.size
      · refine getItem_tuple_whole ht hs pl pu hw ⟨.ref _, H, I, rfl, q _ _ _ (Res.of_rep sg ?_)⟩
        rename_i ds _
        have en : its.toArray.size = ds.length := by rw [hlen, ← rv.length, r.length]
        rw [en] at hw
        have e : cutD ds lo hi = ds := by
          unfold cutD
          rw [hw.1, hw.2, List.drop_zero, Nat.sub_zero, List.take_length]
        rw [e]
        exact .tup h r
      · refine HT.getItem_tuple_cut ht hs pl pu hw ?_ (by rw [hlen, ← rv.length]; exact hzz)
        refine tup_laid I sg (vs := cutV _ lo hi) ?_ (cutV_rep r lo hi) (Nat.le_trans (cutV_length _ lo hi) hzz) q
        unfold cutV
        rw [hlen, ← rv.length]
        exact (rv.drop _).take _
    · cases hz
  | _ => cases hz
end
/-! ### built-ins -/
def lenD : List D → Option D := fun ds => match ds with
  | [.list xs] => some (.int xs.length)
  | [.tuple xs] => some (.int xs.length)
  | [.str x] => if x.length ≤ lim then some (.int x.length) else none
  | _ => none
def absD : List D → Option D := fun ds => match ds with
  | [.int i] => some (.int (if i < 0 then -i else i))
  | _ => none
def intD : List D → Option D := fun ds => match ds with
  | [.int i] => some (.int i)
  | [.bool b] => some (.int (if b then 1 else 0))
  | _ => none
def listD : List D → Option D := fun ds => match ds with
  | [d] => (itemsD d).map .list
  | _ => none
def tupD : List D → Option D := fun ds => match ds with
  | [d] => (itemsD d).map .tuple
  | _ => none
section
variable {X : Cx}
theorem c_len : CallR X (.builtin "len") (cD X.K 0 lenD) := fun pins s σ H xs us Q I rv ⟨ds, z, G, sg, rr, hz, q⟩ => by
  unfold lenD at hz
  cases rr with
  | nil => cases hz
  | cons r rr =>
    cases rr with
    | cons _ _ => cases r <;> cases hz
    | nil =>
      cases r with
      | lst h r =>
        cases hz
        exact call_len pins s σ H _ us Q I rv ⟨_, _, rfl, .inl ⟨_, SqL.of (sg _ _ h), rfl⟩, by rw [r.length]; exact q _ _ _ (Res.of_rep sg (.int _))⟩
      | tup h r =>
        cases hz
        exact call_len pins s σ H _ us Q I rv ⟨_, _, rfl, .inr ⟨_, sqT_mono sg h.sqT, rfl⟩, by rw [r.length]; exact q _ _ _ (Res.of_rep sg (.int _))⟩
      | str x =>
        simp only at hz
        split at hz
        · rename_i hl
          cases hz
          exact call_len pins s σ H _ us Q I rv ⟨_, _, rfl, ⟨lim_le hl, rfl⟩, q _ _ _ (Res.of_rep sg (.int _))⟩
        · cases hz
      | _ => cases hz
theorem c_abs : CallR X (.builtin "abs") (cD X.K 0 absD) := fun pins s σ H xs us Q I rv ⟨ds, z, G, sg, rr, hz, q⟩ => by
  unfold absD at hz
  split at hz
  · cases hz
    cases rr with
    | cons r rr =>
      cases rr
      cases r
      exact call_abs pins s σ H _ us Q I rv ⟨_, rfl, q _ _ _ (Res.of_rep sg (.int _))⟩
  · cases hz
theorem c_int : CallR X (.type "int") (cD X.K 0 intD) := fun pins s σ H xs us Q I rv ⟨ds, z, G, sg, rr, hz, q⟩ => by
  unfold intD at hz
  split at hz
  · cases hz
    cases rr with
    | cons r rr =>
      cases rr
      cases r
      exact call_int1 pins s σ H _ us Q I rv (.inl ⟨_, rfl, q _ _ _ (Res.of_rep sg (.int _))⟩)
  · cases hz
    cases rr with
    | cons r rr =>
      cases rr
      cases r
      exact call_int1 pins s σ H _ us Q I rv (.inr ⟨_, rfl, q _ _ _ (Res.of_rep sg (.int _))⟩)
  · cases hz
theorem c_list : CallR X (.type "list") (cD X.K 1 listD) := fun pins s σ H xs us Q I rv ⟨ds, z, G, sg, rr, hz, q⟩ => by
  unfold listD at hz
  cases rr with
  | nil => cases hz
  | cons r rr =>
    cases rr with
    | cons _ _ => cases hz
    | nil =>
      cases r with
      | lst h r =>
        cases hz
        exact call_list_of pins s σ H _ us Q I rv ⟨_, _, rfl, .inl (SqL.of (sg _ _ h)), fun p hp => q _ _ _ (Res.newL sg hp r)⟩
      | tup h r =>
        cases hz
        exact call_list_of pins s σ H _ us Q I rv ⟨_, _, rfl, .inr (sqT_mono sg h.sqT), fun p hp => q _ _ _ (Res.newL sg hp r)⟩
      | _ => cases hz
theorem c_tuple : CallR X (.type "tuple") (cD X.K 0 tupD) := fun pins s σ H xs us Q I rv ⟨ds, z, G, sg, rr, hz, q⟩ => by
  unfold tupD at hz
  cases rr with
  | nil => cases hz
  | cons r rr =>
    cases rr with
    | cons _ _ => cases hz
    | nil =>
      cases rv with
      | cons r1 r2 =>
        cases r2
        cases r with
        | lst h r =>
          cases hz
          cases r1
          obtain ⟨its, rv, pl, hzz⟩ := I.list (SqL.of (sg _ _ h))
          refine call_tuple_list pl.isList (fun h' kp => ?_) (by rw [List.size_toArray, ← rv.length]; exact hzz)
          have I1 : Inv X pins σ H { s with heap := h' } := I.kept (t' := s.toks) kp
          exact tup_laid I1 sg rv r hzz q
        | tup h r =>
          cases hz
          cases r1
          obtain ⟨its, rv, pl, hzz⟩ := I.tuple (sqT_mono sg h.sqT)
          exact call_tuple_same pl ⟨.ref _, H, I, rfl, q _ _ _ (Res.of_rep sg (.tup h r))⟩
        | _ => cases hz
end
end VL

set_option Elab.async false
set_option linter.all false
set_option maxRecDepth 100000
set_option maxHeartbeats 1000000
/-! VLA: several names at once; stores to places. -/
namespace VL
open PySem PySem.Spec L2

section
variable {K : PySem.W.Frag} {O : Gh} {Γ Δ : Ctx} {H H' G G' : Hp} {σ : St} {env : List D} {L : Nat → List Addr} {n m i : Nat} {v w : V} {d e : D} {M N : List Addr}
/-- a value that has come, its own objects named -/
structure VM (K : PySem.W.Frag) (O : Gh) (Γ : Ctx) (H G : Hp) (L : Nat → List Addr) (n : Nat) (v : V) (d : D) (M : List Addr) : Prop where
  own : Own K H G n v d M
  nd : M.Nodup
  new : ∀ a ∈ M, O.own a
  dj : ∀ i m, At Γ i m → ∀ a ∈ M, a ∉ L i
theorem VM.vr (h : VM K O Γ H G L n v d M) : VR K O Γ H G L n v d := ⟨M, h.own, h.nd, h.new, h.dj⟩
theorem VR.vm (h : VR K O Γ H G L n v d) : ∃ M, VM K O Γ H G L n v d M := by
  obtain ⟨M, a, b, c, e⟩ := h
  exact ⟨M, a, b, c, e⟩
def setL (L : Nat → List Addr) (i : Nat) (M : List Addr) : Nat → List Addr := fun j => if j = i then M else L j
theorem StR.setM (S : StR K O Γ H G σ env L) (hv : VM K O Γ H G L n v d M) (hi : i < Γ.length) (hio : ∀ m, Γ[i]? ≠ some (.io m)) : StR K O (Γ.set i (.ow n)) H G (σ.set i (some v)) (env.set i d) (setL L i M) := by
  have li : i < env.length := by rw [← S.lg]; exact hi
  have l0 : setL L i M i = M := if_pos rfl
  have l1 : ∀ j, j ≠ i → setL L i M j = L j := fun j z => if_neg z
  refine ⟨S.gh, by simp [S.ls], by simp [S.lg], fun j m hj => ?_, fun j m hj => ?_, fun j j' m m' hj hj' ne a ha ha' => ?_, fun j m hj a ha => ?_, S.pres, S.gn, fun j m e => ?_⟩
  · rcases at_set hj with ⟨rfl, rfl⟩ | ⟨z, hj'⟩
    · rw [l0]
      exact ⟨v, d, by rw [List.getElem?_set_self (by rw [S.ls]; exact li)], by rw [List.getElem?_set_self li], hv.own⟩
    · rw [l1 j z]
      obtain ⟨v', d', e1, e2, o⟩ := S.slot j m hj'
      exact ⟨v', d', by rw [List.getElem?_set_ne (Ne.symm z)]; exact e1, by rw [List.getElem?_set_ne (Ne.symm z)]; exact e2, o⟩
  · rcases at_set hj with ⟨rfl, rfl⟩ | ⟨z, hj'⟩
    · rw [l0]; exact hv.nd
    · rw [l1 j z]; exact S.nd j m hj'
  · rcases at_set hj with ⟨rfl, rfl⟩ | ⟨z, hj2⟩
    · rw [l0] at ha
      rcases at_set hj' with ⟨z', _⟩ | ⟨z', hj2'⟩
      · exact ne z'.symm
      · rw [l1 j' z'] at ha'; exact hv.dj j' m' hj2' a ha ha'
    · rw [l1 j z] at ha
      rcases at_set hj' with ⟨rfl, rfl⟩ | ⟨z', hj2'⟩
      · rw [l0] at ha'; exact hv.dj j m hj2 a ha' ha
      · rw [l1 j' z'] at ha'; exact S.dj j j' m m' hj2 hj2' ne a ha ha'
  · rcases at_set hj with ⟨rfl, rfl⟩ | ⟨z, hj2⟩
    · rw [l0] at ha; exact hv.new a ha
    · rw [l1 j z] at ha; exact S.new j m hj2 a ha
  · by_cases z : j = i
    · subst z
      rw [List.getElem?_set_self hi] at e; cases e
    · rw [List.getElem?_set_ne (Ne.symm z)] at e
      obtain ⟨v', e1, e2⟩ := S.io j m e
      exact ⟨v', e1, by rw [List.getElem?_set_ne (Ne.symm z)]; exact e2⟩
/-- a second value, apart from the first, behind the first one's store -/
theorem VM.behind (h : VM K O Γ H G L m w e N) (hd : ∀ a ∈ N, a ∉ M) : VM K O (Γ.set i (.ow n)) H G (setL L i M) m w e N :=
  ⟨h.own, h.nd, h.new, fun j k hj a ha hl => by
    rcases at_set hj with ⟨rfl, rfl⟩ | ⟨z, hj'⟩
    · unfold setL at hl; rw [if_pos rfl] at hl; exact hd a ha hl
    · unfold setL at hl; rw [if_neg z] at hl; exact h.dj j k hj' a ha hl⟩
/-- a value is kept while another expression runs -/
theorem VM.through {Γ' : Ctx} {σ' : St} {env' : List D} {L' : Nat → List Addr} (S : StR K O Γ H G σ env L) (S' : StR K (O.at Γ H G L) Γ' H' G' σ' env' L') (gg : Same G G') (h : VM K O Γ H G L n v d M) : VM K O Γ' H' G' L' n v d M := by
  have as : ∀ a ∈ M, ∃ o, H a = some o ∧ H' a = some o ∧ G' a = none ∧ ∀ i m, At Γ' i m → a ∉ L' i := fun a ha => by
    obtain ⟨g, hs, _⟩ := h.own.objs a ha
    cases q : H a with
    | none => rw [q] at hs; cases hs
    | some o =>
      obtain ⟨z1, z2, z3⟩ := S.aside S' q g fun i m hi hl => h.dj i m hi a ha hl
      exact ⟨o, rfl, z1, z2, z3⟩
  refine ⟨h.own.mono gg fun a ha => ?_, h.nd, h.new, fun i m hi a ha => ?_⟩
  · obtain ⟨o, e1, e2, e3, _⟩ := as a ha
    exact ⟨by rw [e1, e2], e3⟩
  · obtain ⟨o, _, _, _, e4⟩ := as a ha
    exact e4 i m hi
/-- what came later is apart from what came first -/
theorem VM.apart {Γ' : Ctx} {L' : Nat → List Addr} (h : VM K O Γ H G L n v d M) (h' : VM K (O.at Γ H G L) Γ' H' G' L' m w e N) : ∀ a ∈ N, a ∉ M := fun a ha hm => by
  obtain ⟨g, hs, _⟩ := h.own.objs a hm
  rcases h'.new a ha with z | z
  · change H a = none at z; rw [z] at hs; cases hs
  · obtain ⟨i, k, hi, hl⟩ := mem_allL.mp z
    exact h.dj i k hi a hm hl
end

def asg2 (i j : Nat) (f g : Ex) : Sx := fun env => (f env).bind fun p => (g p.2).map fun q => .nx ((q.2.set i p.1).set j q.1)
def asg3 (i j l : Nat) (f g h : Ex) : Sx := fun env => (f env).bind fun p => (g p.2).bind fun q => (h q.2).map fun r => .nx (((r.2.set i p.1).set j q.1).set l r.1)
section
variable {X : Cx} {Γ : Ctx} {T : Tg} {a b c : Expr} {f g h : Ex} {n m k i j l : Nat} {x y z : Str} {px py pz pt pos : Pos} {kt k2 : Nat} {pt2 : Pos}
/-- two expressions in a row, each to its depth -/
theorem two_of {O : Gh} {G : Hp} {σ : St} {H : Hp} {env env1 env2 : List D} {L : Nat → List Addr} {r1 r2 : D} {R : List V → Hp → Prop} (S : StR X.K O Γ H G σ env L) (e1 : f env = some (r1, env1)) (e2 : g env1 = some (r2, env2))
    (hR : ∀ v w H' G' L' M N, StR X.K O Γ H' G' σ env2 L' → Same G G' → VM X.K O Γ H' G' L' n v r1 M → VM X.K O Γ H' G' L' m w r2 N → (∀ a ∈ N, a ∉ M) → R [v, w] H') :
    tCons (tM X.K Γ f n) (tCons (tM X.K Γ g m) tNil) σ H R := by
  refine ⟨O, G, env, L, r1, env1, S, e1, fun v H1 G1 L1 S1 s1 v1 => ?_⟩
  obtain ⟨M, v1⟩ := v1.vm
  refine ⟨_, G1, env1, L1, r2, env2, S1.reg, e2, fun w H2 G2 L2 S2 s2 v2 => ?_⟩
  obtain ⟨N, v2⟩ := v2.vm
  exact hR v w H2 G2 L2 M N (S1.unreg S2) (s1.trans s2) (v1.through S1 S2 s2) ⟨v2.own, v2.nd, fun a ha => S1.own_of (v2.new a ha), v2.dj⟩ (v1.apart v2)
theorem three_of {O : Gh} {G : Hp} {σ : St} {H : Hp} {env env1 env2 env3 : List D} {L : Nat → List Addr} {r1 r2 r3 : D} {R : List V → Hp → Prop} (S : StR X.K O Γ H G σ env L) (e1 : f env = some (r1, env1)) (e2 : g env1 = some (r2, env2)) (e3 : h env2 = some (r3, env3))
    (hR : ∀ u v w H' G' L' M N P, StR X.K O Γ H' G' σ env3 L' → Same G G' → VM X.K O Γ H' G' L' n u r1 M → VM X.K O Γ H' G' L' m v r2 N → VM X.K O Γ H' G' L' k w r3 P → (∀ a ∈ N, a ∉ M) → (∀ a ∈ P, a ∉ M) → (∀ a ∈ P, a ∉ N) → R [u, v, w] H') :
    tCons (tM X.K Γ f n) (tCons (tM X.K Γ g m) (tCons (tM X.K Γ h k) tNil)) σ H R := by
  refine ⟨O, G, env, L, r1, env1, S, e1, fun u H1 G1 L1 S1 s1 v1 => ?_⟩
  obtain ⟨M, v1⟩ := v1.vm
  refine ⟨_, G1, env1, L1, r2, env2, S1.reg, e2, fun v H2 G2 L2 S2 s2 v2 => ?_⟩
  obtain ⟨N, v2⟩ := v2.vm
  have S2' := S1.unreg S2
  have v1' := v1.through S1 S2 s2
  have v2' : VM X.K O Γ H2 G2 L2 m v r2 N := ⟨v2.own, v2.nd, fun a ha => S1.own_of (v2.new a ha), v2.dj⟩
  refine ⟨_, G2, env2, L2, r3, env3, S2'.reg, e3, fun w H3 G3 L3 S3 s3 v3 => ?_⟩
  obtain ⟨P, v3⟩ := v3.vm
  exact hR u v w H3 G3 L3 M N P (S2'.unreg S3) ((s1.trans s2).trans s3) (v1'.through S2' S3 s3) (v2'.through S2' S3 s3) ⟨v3.own, v3.nd, fun a ha => S2'.own_of (v3.new a ha), v3.dj⟩ (v1.apart v2) (v1'.apart v3) (v2'.apart v3)
theorem asg2_some {env : List D} {o : Out} (e : asg2 i j f g env = some o) : ∃ r1 env1 r2 env2, f env = some (r1, env1) ∧ g env1 = some (r2, env2) ∧ o = .nx ((env2.set i r1).set j r2) := by
  unfold asg2 at e
  cases q : f env with
  | none => rw [q] at e; cases e
  | some p =>
    rw [q] at e
    simp only [Option.bind_some] at e
    cases q2 : g p.2 with
    | none => rw [q2] at e; cases e
    | some p2 =>
      rw [q2] at e
      simp only [Option.map_some, Option.some.injEq] at e
      exact ⟨p.1, p.2, p2.1, p2.2, rfl, q2, e.symm⟩
theorem asg3_some {env : List D} {o : Out} (e : asg3 i j l f g h env = some o) : ∃ r1 env1 r2 env2 r3 env3, f env = some (r1, env1) ∧ g env1 = some (r2, env2) ∧ h env2 = some (r3, env3) ∧ o = .nx (((env3.set i r1).set j r2).set l r3) := by
  unfold asg3 at e
  cases q : f env with
  | none => rw [q] at e; cases e
  | some p =>
    rw [q] at e
    simp only [Option.bind_some] at e
    cases q2 : g p.2 with
    | none => rw [q2] at e; cases e
    | some p2 =>
      rw [q2] at e
      simp only [Option.bind_some] at e
      cases q3 : h p2.2 with
      | none => rw [q3] at e; cases e
      | some p3 =>
        rw [q3] at e
        simp only [Option.map_some, Option.some.injEq] at e
        exact ⟨p.1, p.2, p2.1, p2.2, p3.1, p3.2, rfl, q2, q3, e.symm⟩
theorem notIo_set {Γ : Ctx} {i j n : Nat} (h : notIo Γ[j]? = true) : notIo (Γ.set i (.ow n))[j]? = true := by
  by_cases e : i = j
  · subst e
    rw [List.getElem?_set_self (notIo_lt h).1]; rfl
  · rw [List.getElem?_set_ne e]; exact h
theorem set2 {K : PySem.W.Frag} {O : Gh} {H G : Hp} {σ : St} {env : List D} {L : Nat → List Addr} {v w : V} {r1 r2 : D} {M N : List Addr} (hi : notIo Γ[i]? = true) (hj : notIo Γ[j]? = true) (S : StR K O Γ H G σ env L) (v1 : VM K O Γ H G L n v r1 M) (v2 : VM K O Γ H G L m w r2 N) (hd : ∀ a ∈ N, a ∉ M) :
    ∃ L', StR K O ((Γ.set i (.ow n)).set j (.ow m)) H G ((σ.set i (some v)).set j (some w)) ((env.set i r1).set j r2) L' :=
  have S1 := S.setM v1 (notIo_lt hi).1 (notIo_lt hi).2
  ⟨_, S1.setM (v2.behind (i := i) (n := n) hd) (notIo_lt (notIo_set hj)).1 (notIo_lt (notIo_set hj)).2⟩
theorem set3 {K : PySem.W.Frag} {O : Gh} {H G : Hp} {σ : St} {env : List D} {L : Nat → List Addr} {u v w : V} {r1 r2 r3 : D} {M N P : List Addr} (hi : notIo Γ[i]? = true) (hj : notIo Γ[j]? = true) (hl : notIo Γ[l]? = true) (S : StR K O Γ H G σ env L) (v1 : VM K O Γ H G L n u r1 M) (v2 : VM K O Γ H G L m v r2 N) (v3 : VM K O Γ H G L k w r3 P)
    (h1 : ∀ a ∈ N, a ∉ M) (h2 : ∀ a ∈ P, a ∉ M) (h3 : ∀ a ∈ P, a ∉ N) : ∃ L', StR K O (((Γ.set i (.ow n)).set j (.ow m)).set l (.ow k)) H G (((σ.set i (some u)).set j (some v)).set l (some w)) (((env.set i r1).set j r2).set l r3) L' :=
  have S1 := S.setM v1 (notIo_lt hi).1 (notIo_lt hi).2
  have w2 := v2.behind (i := i) (n := n) h1
  have w3 := v3.behind (i := i) (n := n) h2
  have S2 := S1.setM w2 (notIo_lt (notIo_set (i := i) (n := n) hj)).1 (notIo_lt (notIo_set (i := i) (n := n) hj)).2
  ⟨_, S2.setM (w3.behind (i := j) (n := m) h3) (notIo_lt (notIo_set (notIo_set hl))).1 (notIo_lt (notIo_set (notIo_set hl))).2⟩
/-- a, b = x, y, both plain locals -/
theorem s_par (i j : Nat) (hc : X.calm = true) (hN : X.N.Nodup) (ha : PE X a (tM X.K Γ f n)) (hb : PE X b (tM X.K Γ g m)) (hi : X.N[i]? = some x := by rfl) (hj : X.N[j]? = some y := by rfl) (hij : i ≠ j := by decide)
    (hx : X.env.scope.names.lookup x = some .local := by rfl) (hy : X.env.scope.names.lookup y = some .local := by rfl) (gi : notIo Γ[i]? = true := by rfl) (gj : notIo Γ[j]? = true := by rfl)
    (hw : swappedStores [.Tuple [.Name x px, .Name y py] kt pt] (.Tuple [a, b] k2 pt2) X.env = pure (some [x, y]) := by rfl)
    (hs : swapsWithSole [.Tuple [.Name x px, .Name y py] kt pt] (.Tuple [a, b] k2 pt2) pos.line X.env = pure false := by rfl) (h1 : starEach [a, b] X.env = (false, eval a X.env) :: starEach [b] X.env := by rfl) (h2 : starEach [b] X.env = (false, eval b X.env) :: starEach [] X.env := by rfl) :
    PS X (.Assign [.Tuple [.Name x px, .Name y py] kt pt] (.Tuple [a, b] k2 pt2) pos) (tS X.K T Γ ((Γ.set i (.ow n)).set j (.ow m)) (asg2 i j f g)) :=
  (ps_par hc hN hi hj hij hx hy (pa_cons ha (pa_cons hb pa_nil h2) h1) hw hs).imp fun E σ H ⟨O, G, env, L, o, S, e, k⟩ => by
    obtain ⟨r1, env1, r2, env2, e1, e2, rfl⟩ := asg2_some e
    refine two_of S e1 e2 fun v w H' G' L' M N S' s' v1 v2 hd => ⟨v, w, rfl, ?_⟩
    obtain ⟨L2, S2⟩ := set2 gi gj S' v1 v2 hd
    exact k _ _ _ _ S2 s'
theorem s_par3 (i j l : Nat) (hc : X.calm = true) (hN : X.N.Nodup) (ha : PE X a (tM X.K Γ f n)) (hb : PE X b (tM X.K Γ g m)) (hcc : PE X c (tM X.K Γ h k)) (hi : X.N[i]? = some x := by rfl) (hj : X.N[j]? = some y := by rfl) (hl : X.N[l]? = some z := by rfl) (hij : i ≠ j := by decide) (hil : i ≠ l := by decide) (hjl : j ≠ l := by decide)
    (hx : X.env.scope.names.lookup x = some .local := by rfl) (hy : X.env.scope.names.lookup y = some .local := by rfl) (hz : X.env.scope.names.lookup z = some .local := by rfl) (gi : notIo Γ[i]? = true := by rfl) (gj : notIo Γ[j]? = true := by rfl) (gl : notIo Γ[l]? = true := by rfl)
    (hw : swappedStores [.Tuple [.Name x px, .Name y py, .Name z pz] kt pt] (.Tuple [a, b, c] k2 pt2) X.env = pure (some [x, y, z]) := by rfl)
    (hs : swapsWithSole [.Tuple [.Name x px, .Name y py, .Name z pz] kt pt] (.Tuple [a, b, c] k2 pt2) pos.line X.env = pure false := by rfl) (h1 : starEach [a, b, c] X.env = (false, eval a X.env) :: starEach [b, c] X.env := by rfl) (h2 : starEach [b, c] X.env = (false, eval b X.env) :: starEach [c] X.env := by rfl) (h3 : starEach [c] X.env = (false, eval c X.env) :: starEach [] X.env := by rfl) :
    PS X (.Assign [.Tuple [.Name x px, .Name y py, .Name z pz] kt pt] (.Tuple [a, b, c] k2 pt2) pos) (tS X.K T Γ (((Γ.set i (.ow n)).set j (.ow m)).set l (.ow k)) (asg3 i j l f g h)) :=
  (ps_par3 hc hN hi hj hl hij hil hjl hx hy hz (pa_cons ha (pa_cons hb (pa_cons hcc pa_nil h3) h2) h1) hw hs).imp fun E σ H ⟨O, G, env, L, o, S, e, kk⟩ => by
    obtain ⟨r1, env1, r2, env2, r3, env3, e1, e2, e3, rfl⟩ := asg3_some e
    refine three_of S e1 e2 e3 fun u v w H' G' L' M N P S' s' v1 v2 v3 d1 d2 d3 => ⟨u, v, w, rfl, ?_⟩
    obtain ⟨L2, S2⟩ := set3 gi gj gl S' v1 v2 v3 d1 d2 d3
    exact kk _ _ _ _ S2 s'
/-- a new tuple that is not looked at again -/
theorem weakT {K : PySem.W.Frag} {O : Gh} {H G : Hp} {σ : St} {env : List D} {L : Nat → List Addr} {p : Addr} {o : HO} (S : StR K O Γ H G σ env L) (hp : H p = none) : StR K O Γ (upd H p o) G σ env L :=
  have hh : Same H (upd H p o) := fun b u e => by rw [upd_ne (ne_of_none e hp)]; exact e
  S.ext ⟨Same.refl _, S.gh.trans hh, hh, fun a u e n => (by rw [n] at e; cases e)⟩
theorem weakV {K : PySem.W.Frag} {O : Gh} {H G : Hp} {L : Nat → List Addr} {p : Addr} {o : HO} {v : V} {d : D} {M : List Addr} (hv : VM K O Γ H G L n v d M) (hp : H p = none) : VM K O Γ (upd H p o) G L n v d M :=
  have ne : ∀ a ∈ M, a ≠ p := fun a ha z => by
    have h1 := (hv.own.objs a ha).2.1
    rw [z, hp] at h1; cases h1
  ⟨hv.own.mono (Same.refl _) fun a ha => ⟨upd_ne (ne a ha), (hv.own.objs a ha).1⟩, hv.nd, hv.new, hv.dj⟩
/-- a, b = x, y by way of a tuple -/
theorem s_parG (i j : Nat) (hc : X.calm = true) (hN : X.N.Nodup) (ha : PE X a (tM X.K Γ f n)) (hb : PE X b (tM X.K Γ g m)) (hi : X.N[i]? = some x := by rfl) (hj : X.N[j]? = some y := by rfl)
    (hx : Loc X.env.scope x := by first | exact Or.inl rfl | exact Or.inr rfl) (hy : Loc X.env.scope y := by first | exact Or.inl rfl | exact Or.inr rfl) (gi : notIo Γ[i]? = true := by rfl) (gj : notIo Γ[j]? = true := by rfl)
    (fx : X.fn x = true ∨ X.env.scope.names.lookup x = some .local := by first | exact .inl rfl | exact .inr rfl | assumption) (fy : X.fn y = true ∨ X.env.scope.names.lookup y = some .local := by first | exact .inl rfl | exact .inr rfl | assumption)
    (hw : swappedStores [.Tuple [.Name x px, .Name y py] kt pt] (.Tuple [a, b] k2 pt2) X.env = pure none := by rfl)
    (hs : swapsWithSole [.Tuple [.Name x px, .Name y py] kt pt] (.Tuple [a, b] k2 pt2) pos.line X.env = pure false := by rfl) (h1 : starEach [a, b] X.env = (false, eval a X.env) :: starEach [b] X.env := by rfl) (h2 : starEach [b] X.env = (false, eval b X.env) :: starEach [] X.env := by rfl) :
    PS X (.Assign [.Tuple [.Name x px, .Name y py] kt pt] (.Tuple [a, b] k2 pt2) pos) (tS X.K T Γ ((Γ.set i (.ow n)).set j (.ow m)) (asg2 i j f g)) :=
  (ps_asg (pe_tup (pa_cons ha (pa_cons hb pa_nil h2) h1)) (pg_tup (n := 2) hc (pgs_cons (pg_name (i := i) hN hi hx fx) (pgs_cons (pg_name (i := j) hN hj hy fy) pgs_nil))) hs hw).imp fun E σ H ⟨O, G, env, L, o, S, e, k⟩ => by
    obtain ⟨r1, env1, r2, env2, e1, e2, rfl⟩ := asg2_some e
    unfold tAsg tTup
    refine two_of S e1 e2 fun v w H' G' L' M N S' s' v1 v2 hd => ⟨by show 2 ≤ sizeLine; decide, fun p hp => ⟨p, [v, w], rfl, .inl (.inl upd_same), rfl, v, [w], rfl, w, [], rfl, rfl, ?_⟩⟩
    obtain ⟨L2, S2⟩ := set2 gi gj (weakT S' hp) (weakV v1 hp) (weakV v2 hp) hd
    exact k _ _ _ _ S2 s'
theorem s_parG3 (i j l : Nat) (hc : X.calm = true) (hN : X.N.Nodup) (ha : PE X a (tM X.K Γ f n)) (hb : PE X b (tM X.K Γ g m)) (hcc : PE X c (tM X.K Γ h k)) (hi : X.N[i]? = some x := by rfl) (hj : X.N[j]? = some y := by rfl) (hl : X.N[l]? = some z := by rfl)
    (hx : Loc X.env.scope x := by first | exact Or.inl rfl | exact Or.inr rfl) (hy : Loc X.env.scope y := by first | exact Or.inl rfl | exact Or.inr rfl) (hz : Loc X.env.scope z := by first | exact Or.inl rfl | exact Or.inr rfl) (gi : notIo Γ[i]? = true := by rfl) (gj : notIo Γ[j]? = true := by rfl) (gl : notIo Γ[l]? = true := by rfl)
    (fx : X.fn x = true ∨ X.env.scope.names.lookup x = some .local := by first | exact .inl rfl | exact .inr rfl | assumption) (fy : X.fn y = true ∨ X.env.scope.names.lookup y = some .local := by first | exact .inl rfl | exact .inr rfl | assumption) (fz : X.fn z = true ∨ X.env.scope.names.lookup z = some .local := by first | exact .inl rfl | exact .inr rfl | assumption)
    (hw : swappedStores [.Tuple [.Name x px, .Name y py, .Name z pz] kt pt] (.Tuple [a, b, c] k2 pt2) X.env = pure none := by rfl)
    (hs : swapsWithSole [.Tuple [.Name x px, .Name y py, .Name z pz] kt pt] (.Tuple [a, b, c] k2 pt2) pos.line X.env = pure false := by rfl) (h1 : starEach [a, b, c] X.env = (false, eval a X.env) :: starEach [b, c] X.env := by rfl) (h2 : starEach [b, c] X.env = (false, eval b X.env) :: starEach [c] X.env := by rfl) (h3 : starEach [c] X.env = (false, eval c X.env) :: starEach [] X.env := by rfl) :
    PS X (.Assign [.Tuple [.Name x px, .Name y py, .Name z pz] kt pt] (.Tuple [a, b, c] k2 pt2) pos) (tS X.K T Γ (((Γ.set i (.ow n)).set j (.ow m)).set l (.ow k)) (asg3 i j l f g h)) :=
  (ps_asg (pe_tup (pa_cons ha (pa_cons hb (pa_cons hcc pa_nil h3) h2) h1)) (pg_tup (n := 3) hc (pgs_cons (pg_name (i := i) hN hi hx fx) (pgs_cons (pg_name (i := j) hN hj hy fy) (pgs_cons (pg_name (i := l) hN hl hz fz) pgs_nil)))) hs hw).imp fun E σ H ⟨O, G, env, L, o, S, e, kk⟩ => by
    obtain ⟨r1, env1, r2, env2, r3, env3, e1, e2, e3, rfl⟩ := asg3_some e
    unfold tAsg tTup
    refine three_of S e1 e2 e3 fun u v w H' G' L' M N P S' s' v1 v2 v3 d1 d2 d3 => ⟨by show 3 ≤ sizeLine; decide, fun p hp => ⟨p, [u, v, w], rfl, .inl (.inl upd_same), rfl, u, [v, w], rfl, v, [w], rfl, w, [], rfl, rfl, ?_⟩⟩
    obtain ⟨L2, S2⟩ := set3 gi gj gl (weakT S' hp) (weakV v1 hp) (weakV v2 hp) (weakV v3 hp) d1 d2 d3
    exact kk _ _ _ _ S2 s'
/-- target = value, the target of any form -/
def asgG (f : Ex) (gt : Gx) : Sx := fun env => (f env).bind fun p => (gt p.1 p.2).map .nx
theorem s_asg {tg : Expr} {Γ1 : Ctx} {gt : Gx} {ws : List Nat} (he : PE X a (tM X.K Γ f 0)) (hg : PG X tg (tG X.K false Γ Γ1 gt ws)) (hs : swapsWithSole [tg] a pos.line X.env = pure false := by rfl) (hw : swappedStores [tg] a X.env = pure none := by rfl)
    (h1 : (assignEach [tg] X.env).map (·.2) = [assign tg X.env] := by rfl) : PS X (.Assign [tg] a pos) (tS X.K T Γ Γ1 (asgG f gt)) :=
  (ps_asg he hg hs hw h1).imp fun E σ H ⟨O, G, env, L, o, S, e, k⟩ => by
    unfold asgG at e
    cases q : f env with
    | none => rw [q] at e; cases e
    | some p =>
      rw [q] at e
      simp only [Option.bind_some] at e
      cases q2 : gt p.1 p.2 with
      | none => rw [q2] at e; cases e
      | some e2 =>
        rw [q2] at e
        simp only [Option.map_some, Option.some.injEq] at e
        subst e
        exact ⟨O, G, env, L, p.1, p.2, S, q, fun v H1 G1 L1 S1 s1 v1 => ⟨O, G1, p.2, L1, p.1, e2, S1, .inl v1.rep, q2, fun σ2 H2 G2 L2 S2 s2 _ => k σ2 H2 G2 L2 S2 (s1.trans s2)⟩⟩
/-- a place of an owned list as a target -/
def gtIx (i : Nat) (fi : Ex) : Gx := fun d env => (fi env).bind fun q => match q.1, q.2[i]? with
  | .int k, some (.list ds) => (ixN ds.length k).map fun j => q.2.set i (.list (ds.set j d))
  | _, _ => none
theorem t_ix (i : Nat) {b : Expr} {fi : Ex} (hb : PE X b (tM X.K Γ fi 0)) (hx : X.N[i]? = some x := by rfl) (hv : Vis X.env.scope x := by first | exact Or.inl rfl | exact Or.inr (Or.inl rfl) | exact Or.inr (Or.inr rfl)) (hg : (Γ[i]?).bind Kd.dep = some 1 := by rfl) (hd : (x == ("__debug__" : Str)) = false := by decide) (hcd : (x == ("__classdict__" : Str)) = false := by decide)
    (ha : ∀ v, assign (.Subscript (.Name x px) b pos) X.env v = (do
      let ov ← holding [v] (eval (.Name x px) X.env)
      let iv ← holding [v, ov] (eval b X.env)
      standAt pos
      holding [v, ov, iv] (setItem ov iv v)
      release [v, ov, iv] []) := by intro _; rfl) : PG X (.Subscript (.Name x px) b pos) (tG X.K false Γ Γ (gtIx i fi) []) :=
  (pg_sub (pe_var hx hv hd hcd) hb set_list ha).imp fun v σ H Q ⟨O, G, env, L, d, env2, S, r, e, k⟩ => by
    have r : Rep X.K G v d := by
      rcases r with r | ⟨z, _⟩
      · exact r
      · cases z
    have hi : At Γ i 1 := at_of hg
    obtain ⟨v0, d0, y1, y2, _⟩ := S.slot i 1 hi
    unfold gtIx at e
    cases h1 : fi env with
    | none => rw [h1] at e; cases e
    | some q =>
      rw [h1] at e
      simp only [Option.bind_some] at e
      obtain ⟨kd, env1⟩ := q
      simp only at e
      split at e
      · rename_i kk ds he
        cases h3 : ixN ds.length kk with
        | none => rw [h3] at e; cases e
        | some j =>
          rw [h3] at e
          simp only [Option.map_some, Option.some.injEq] at e
          subst e
          refine ⟨v0, y1, O, G, env, L, .int kk, env1, S, h1, fun w H1 G1 L1 S1 s1 v1 => ?_⟩
          have := v1.rep
          cases this
          obtain ⟨a1, vs1, z1, z2, z3, z4, z5⟩ := S1.lst1 hi he
          rw [y1] at z1
          cases z1
          refine ⟨a1, vs1, kk, j, rfl, rfl, z2, by rw [z5.length]; exact h3, ?_⟩
          exact k σ _ G1 L1 (S1.mut1 hi y1 z4 z3 (z5.set j (r.mono s1))) s1 ⟨rfl, fun _ _ => rfl⟩
      · cases e
/-- x[k] op= e of ints -/
theorem get_nn : PGet X (fun o i H Q => ∃ (p : Addr) (xs : List V) (k : Int) (v : V), o = .ref p ∧ i = .int k ∧ H p = some (.lst xs) ∧ 0 ≤ k ∧ xs[k.toNat]? = some v ∧ Q v H) := by
  intro pins s σ H o i ov iv Q I ro ri ⟨p, xs, k, v, e1, e2, hp, h0, hv, q⟩
  subst e1 e2
  cases ro
  obtain ⟨t, rfl⟩ := ri
  obtain ⟨its, n, r, ho, hz⟩ := I.lst hp
  obtain ⟨u, hu, ru⟩ := r.get hv
  have hlt : k.toNat < xs.length := (List.getElem?_eq_some_iff.mp hv).1
  have h63 : (xs.length : Int) < 2 ^ 62 := Int.lt_of_le_of_lt (Int.ofNat_le.mpr hz) (by decide)
  exact wpAny_getItem_list ⟨_, ho, rfl, _, rfl⟩ h0 (by omega) (by simpa using hu) ⟨v, H, I, ru, q⟩
def augIx (i : Nat) (op : Int → Int → Int) (fi fe : Ex) : Sx := fun env => (fi env).bind fun q => match q.1, q.2[i]? with
  | .int k, some (.list ds) => if 0 ≤ k then (match ds[k.toNat]? with
    | some (.int old) => (fe q.2).bind fun r => match r.1, r.2[i]? with
      | .int y, some (.list ds2) => if k.toNat < ds2.length then some (.nx (r.2.set i (.list (ds2.set k.toNat (.int (op old y)))))) else none
      | _, _ => none
    | _ => none) else none
  | _, _ => none
theorem s_aug (i : Nat) {b : Expr} {fi fe : Ex} {op : Operator} {fo : Int → Int → Int} {tpos : Pos} (hb : PE X b (tM X.K Γ fi 0)) (he : PE X a (tM X.K Γ fe 0)) (ho : PIp X op (ipI fo)) (hx : X.N[i]? = some x := by rfl) (hv : Vis X.env.scope x := by first | exact Or.inl rfl | exact Or.inr (Or.inl rfl) | exact Or.inr (Or.inr rfl)) (hg : (Γ[i]?).bind Kd.dep = some 1 := by rfl) (hd : (x == ("__debug__" : Str)) = false := by decide) (hcd : (x == ("__classdict__" : Str)) = false := by decide)
    (ha : ∀ ov iv new, augStore b ov iv new = (do holding [new, ov, iv] (setItem ov iv new); release [new, ov, iv] []; pure .next) := by intros; rfl) : PS X (.AugAssign (.Subscript (.Name x px) b tpos) op a pos) (tS X.K T Γ Γ (augIx i fo fi fe)) :=
  (ps_augS (pe_var hx hv hd hcd) hb get_nn he ho set_list ha).imp fun E σ H ⟨O, G, env, L, o, S, e, k⟩ => by
    have hi : At Γ i 1 := at_of hg
    obtain ⟨v0, d0, y1, y2, _⟩ := S.slot i 1 hi
    unfold augIx at e
    cases h1 : fi env with
    | none => rw [h1] at e; cases e
    | some q =>
      rw [h1] at e
      simp only [Option.bind_some] at e
      obtain ⟨kd, env1⟩ := q
      simp only at e
      split at e
      · rename_i kk ds he1
        split at e
        · rename_i h0
          split at e
          · rename_i old hold
            cases h2 : fe env1 with
            | none => rw [h2] at e; cases e
            | some r =>
              rw [h2] at e
              simp only [Option.bind_some] at e
              obtain ⟨yd, env2⟩ := r
              simp only at e
              split at e
              · rename_i yy ds2 he2
                split at e
                · rename_i hlt
                  cases e
                  refine ⟨v0, y1, O, G, env, L, .int kk, env1, S, h1, fun w H1 G1 L1 S1 s1 v1 => ?_⟩
                  have r1 := v1.rep
                  cases r1
                  obtain ⟨a1, vs1, z1, z2, z3, z4, z5⟩ := S1.lst1 hi he1
                  rw [y1] at z1
                  cases z1
                  obtain ⟨vo, hvo, rvo⟩ := z5.get hold
                  refine ⟨a1, vs1, kk, vo, rfl, rfl, z2, h0, hvo, O, G1, env1, L1, .int yy, env2, S1, h2, fun w2 H2 G2 L2 S2 s2 v2 => ?_⟩
                  have r2 := v2.rep
                  cases r2
                  cases rvo
                  obtain ⟨a2, vs2, w1, w2, w3, w4, w5⟩ := S2.lst1 hi he2
                  rw [y1] at w1
                  cases w1
                  refine ⟨old, yy, rfl, rfl, a1, vs2, kk, kk.toNat, rfl, rfl, w2, ?_, ?_⟩
                  · unfold ixN
                    rw [if_pos h0, if_pos (by rw [w5.length]; omega)]
                  · exact k σ _ G2 L2 (S2.mut1 hi y1 w4 w3 (w5.set _ (.int _))) (s1.trans s2)
                · cases e
              · cases e
          · cases e
        · cases e
      · cases e
end
end VL

set_option Elab.async false
set_option linter.all false
set_option maxRecDepth 100000
set_option maxHeartbeats 1000000
/-! VLB: defs by their names; what never falls off its end. -/
namespace VL
open PySem PySem.Spec PyProof.Rows L2

/-- a def that stands under its name -/
def DP (K : PySem.W.Frag) (mg : Str → Option Value) (x : Str) (st : Stmt) (ps : List Str) : Prop := ∃ (f : Addr) (fd : FuncData), Fun K x x st f fd ∧ mg x = some (.ref f) ∧ Binds K fd ps []
/-- a def with its promise, under its name -/
def PF (P : Program) (w : World) (K : PySem.W.Frag) (mg : Str → Option Value) (base : Heap) (x : Str) (k : Nat) (ps : List Str) (Δ : Ctx) (n : Nat) (F : List D → Option (D × List D)) : Prop :=
  ∃ (f : Addr) (fd : FuncData), FnG P w K mg base CX0 k f fd ps (spM K Δ n F) ∧ mg x = some (.ref f) ∧ PySem.W.keepIn K (.ref f) = true ∧ Binds K fd ps []
section
variable {X : Cx} {Γ Δ : Ctx} {k j n : Nat} {ps : List Str} {F : List D → Option (D × List D)} {x : Str} {p pos : Pos} {a : Expr} {es : List Expr} {as : List Arg}
theorem m_callP (h : PF X.prog X.w X.K X.mg X.base x j ps Δ n F) (hgd : X.A.guards = some []) (hr : Room k X.A) (hj : j ≤ k) (hg : Gl X x)
    (ha : PA X (a :: es) (tMG X.K Γ as)) (ok : okA Γ as Δ = true := by rfl) (hdb : (x == ("__debug__" : Str)) = false := by decide) (he : starEach (a :: es) X.env = (false, eval a X.env) :: starEach es X.env := by rfl) (hpl : (backTo pos (starEach es X.env)).any (·.1) = false := by rfl) :
    PE X (.Call (.Name x p) (a :: es) [] pos) (tM X.K Γ (eCall F as) n) := by
  obtain ⟨f, fd, hF, hm, hk, hb⟩ := h
  exact m_call hF hgd (hr.mono hj) hg hm hk hb (E := E0) pass0 ha ok hdb he hpl
theorem m_callP0 (h : PF X.prog X.w X.K X.mg X.base x j ps [] n F) (hgd : X.A.guards = some []) (hr : Room k X.A) (hj : j ≤ k) (hg : Gl X x) (hdb : (x == ("__debug__" : Str)) = false := by decide) :
    PE X (.Call (.Name x p) [] [] pos) (tM X.K Γ (eCall F []) n) := by
  obtain ⟨f, fd, hF, hm, hk, hb⟩ := h
  exact m_call0 hF hgd (hr.mono hj) hg hm hk hb (E := E0) pass0 hdb
end
/-- never falls off its end -/
def Stops (g : Sx) : Prop := ∀ ds e, g ds ≠ some (.nx e)
theorem stops_ret {f : Ex} : Stops (retE f) := fun ds e h => by
  unfold retE at h
  cases q : f ds with
  | none => rw [q] at h; cases h
  | some p => rw [q] at h; cases h
theorem stops_sq {g h : Sx} (s : Stops h) : Stops (sq g h) := fun ds e q => by
  unfold sq at q
  cases r : g ds with
  | none => rw [r] at q; cases q
  | some o =>
    rw [r] at q
    simp only [Option.bind_some] at q
    cases o with
    | nx e2 => exact s _ _ q
    | _ => cases q
theorem stops_if {c : Bx} {g h : Sx} (s1 : Stops g) (s2 : Stops h) : Stops (sIf c g h) := fun ds e q => by
  unfold sIf at q
  cases r : c ds with
  | none => rw [r] at q; cases q
  | some o =>
    rw [r] at q
    simp only [Option.bind_some] at q
    split at q
    · exact s1 _ _ q
    · exact s2 _ _ q
theorem def_okP {P : Program} {w : World} {K : PySem.W.Frag} {mg : Str → Option Value} {base : Heap} {x : Str} {st : Stmt} {N ps : List Str} {k n m : Nat} {Δ Γ' : Ctx} {g : Sx} (d : DP K mg x st ps) (Sc : FnScope N ps (defScope st))
    (hb : ∀ (f : Addr) (cdv : Value) (A : Around) (outer : List Env) (s : Shared) (H : Hp) (E : XK), (A.deeper (envOfC x (defScope st) s.heap.objs.size f cdv)).guards = some [] → Room k (A.deeper (envOfC x (defScope st) s.heap.objs.size f cdv)) → PSs (cxOf CX0 P w K mg base N x (defScope st) f cdv A outer s H E).nox (defBody st) (tS K ⟨rtC Δ m, n, [], []⟩ (inC Δ m) Γ' g))
    (hn : n = 0 ∨ Stops g) (hp : Δ.length = ps.length := by rfl) (hm : N.length = m := by rfl) (hle : Δ.length ≤ m := by decide) (h0 : zeroB Δ = true := by rfl) (hw : wkB Γ' (rtC Δ m) = true := by rfl) :
    PF P w K mg base x (k + 1) ps Δ n (runD Δ g m) := by
  obtain ⟨f, fd, hF, hm2, hB⟩ := d
  exact ⟨f, fd, def_ok hF Sc hp hm hle h0 hw hn fun cdv A outer s H E hgd hr => hb f cdv A outer s H E hgd hr, hm2, hF.kp, hB⟩
theorem u66 {A : Around} {k : Nat} (hr : Room k A) : A.units + 66 < cLine := by have := hr.un; omega
theorem u80 {A : Around} {k : Nat} (hr : Room k A) : A.units + 80 < cLine := by have := hr.un; omega
section
variable {X : Cx} {Γ : Ctx} {x : Str} {pos : Pos}
theorem m_globS {t : Str} {tk : Tok} (hm : X.mg x = some (.str t tk)) (hg : Gl X x) (hd : (x == ("__debug__" : Str)) = false := by decide) : PE X (.Name x pos) (tM X.K Γ (eC (.str t)) 0) := m_con (pe_glob (v := .str t) hg hm ⟨_, rfl⟩ hd) fun _ => .str t
theorem m_globI {i : Int} {tk : Tok} (hm : X.mg x = some (.int i tk)) (hg : Gl X x) (hd : (x == ("__debug__" : Str)) = false := by decide) : PE X (.Name x pos) (tM X.K Γ (eC (.int i)) 0) := m_con (pe_glob (v := .int i) hg hm ⟨_, rfl⟩ hd) fun _ => .int i
end
theorem b_one {X : Cx} {e : Expr} {t : TT} (h : PT X e t) : PTs X [e] t := pts_one h
end VL

set_option Elab.async false
set_option linter.all false
set_option maxRecDepth 100000
set_option maxHeartbeats 1000000
/-! VLC: odds and ends for the printed derivations. -/
namespace VL
open PySem PySem.Spec PyProof.Rows L2
def eTup (fs : List Ex) : Ex := eNs (fun xs => some (.tuple xs)) fs
def eLst (fs : List Ex) : Ex := eNs (fun xs => some (.list xs)) fs
theorem bt_len : bootBuiltins "len" = some (.builtin "len") := by decide +kernel
theorem bt_abs : bootBuiltins "abs" = some (.builtin "abs") := by decide +kernel
theorem bt_int : bootBuiltins "int" = some (.type "int") := by decide +kernel
theorem bt_list : bootBuiltins "list" = some (.type "list") := by decide +kernel
theorem bt_tuple : bootBuiltins "tuple" = some (.type "tuple") := by decide +kernel
theorem bt_repr : bootBuiltins "repr" = some (.builtin "repr") := by decide +kernel
end VL

set_option Elab.async false
set_option linter.all false
set_option maxRecDepth 100000
set_option maxHeartbeats 1000000
/-! VLD: chains, list(range), all, min, sorted. -/
namespace VL
open PySem PySem.Spec PyProof.Rows L2
section
variable {X : Cx} {Γ : Ctx} {a b c : Expr} {pos : Pos} {fa fb fc : Ex} {n m : Nat}
/-! ### a < b <= c -/
def eChain (F F' : D → D → Option D) (a b c : Ex) : Ex := fun env => (a env).bind fun p => (b p.2).bind fun q => match F p.1 q.1 with
  | some (.bool true) => (c q.2).bind fun r => (F' q.1 r.1).map fun z => (z, r.2)
  | some (.bool false) => some (.bool false, q.2)
  | _ => none
theorem tChain_of {F F' : D → D → Option D} {σ : L2.St} {H : Hp} {Q : VK} (h : tM X.K Γ (eChain F F' fa fb fc) 0 σ H Q) : tChain (rD X.K 0 F) (rD X.K 0 F') (tM X.K Γ fa 0) (tM X.K Γ fb 0) (tM X.K Γ fc 0) σ H Q := by
  obtain ⟨O, G, env, L, r, env2, S, e, k⟩ := h
  unfold eChain at e
  cases h1 : fa env with
  | none => rw [h1] at e; cases e
  | some p =>
    rw [h1] at e
    simp only [Option.bind_some] at e
    cases h2 : fb p.2 with
    | none => rw [h2] at e; cases e
    | some q =>
      rw [h2] at e
      simp only [Option.bind_some] at e
      refine ⟨O, G, env, L, p.1, p.2, S, h1, fun v H1 G1 L1 S1 s1 v1 => ⟨O, G1, p.2, L1, q.1, q.2, S1, h2, fun u H2 G2 L2 S2 s2 v2 => ?_⟩⟩
      split at e
      · rename_i h3
        refine ⟨p.1, q.1, .bool true, G2, S2.gh, v1.rep.mono s2, v2.rep, h3, fun w G3 H3 R => ?_⟩
        have rw3 := (S2.res R).2.rep
        cases rw3
        refine ⟨true, rfl, ?_⟩
        rw [if_pos rfl]
        cases h4 : fc q.2 with
        | none => rw [h4] at e; cases e
        | some r4 =>
          rw [h4] at e
          simp only [Option.bind_some] at e
          cases h5 : F' q.1 r4.1 with
          | none => rw [h5] at e; cases e
          | some z =>
            rw [h5] at e
            simp only [Option.map_some, Option.some.injEq, Prod.mk.injEq] at e
            obtain ⟨rfl, rfl⟩ := e
            refine ⟨O, G3, q.2, L2, r4.1, r4.2, (S2.res R).1, h4, fun v4 H4 G4 L4 S4 s4 v4' => ?_⟩
            exact ⟨q.1, r4.1, z, G4, S4.gh, (v2.rep.mono R.gg).mono s4, v4'.rep, h5, fun w5 G5 H5 R5 => k w5 H5 G5 L4 (S4.res R5).1 ((((s1.trans s2).trans R.gg).trans s4).trans R5.gg) (S4.res R5).2⟩
      · rename_i h3
        refine ⟨p.1, q.1, .bool false, G2, S2.gh, v1.rep.mono s2, v2.rep, h3, fun w G3 H3 R => ?_⟩
        have rw3 := (S2.res R).2.rep
        cases rw3
        refine ⟨false, rfl, ?_⟩
        rw [if_neg (by decide)]
        simp only [Option.some.injEq, Prod.mk.injEq] at e
        obtain ⟨rfl, rfl⟩ := e
        exact k _ H3 G3 L2 (S2.res R).1 ((s1.trans s2).trans R.gg) (.of_rep (.bl false))
      · cases e
theorem m_chain {op op' : CmpOp} {F F' : D → D → Option D} (ho : OpR X (compareOp op) (rD X.K 0 F)) (ho' : OpR X (compareOp op') (rD X.K 0 F')) (ha : PE X a (tM X.K Γ fa 0)) (hb : PE X b (tM X.K Γ fb 0)) (hc : PE X c (tM X.K Γ fc 0))
    (hm : lastMarks [op, op'] [b, c] = false := by with_unfolding_all rfl) : PE X (.Compare a [op, op'] [b, c] pos) (tM X.K Γ (eChain F F' fa fb fc) 0) :=
  (pe_chain ho ho' ha hb hc hm).imp fun σ H Q h => tChain_of h
theorem b_chain {op op' : CmpOp} {F F' : D → D → Option D} (ho : OpR X (compareOp op) (rD X.K 0 F)) (ho' : OpR X (compareOp op') (rD X.K 0 F')) (ha : PE X a (tM X.K Γ fa 0)) (hb : PE X b (tM X.K Γ fb 0)) (hc : PE X c (tM X.K Γ fc 0))
    (hm : lastMarks [op, op'] [b, c] = false := by with_unfolding_all rfl) : PT X (.Compare a [op, op'] [b, c] pos) (tMT X.K Γ (asB (eChain F F' fa fb fc))) :=
  (pt_chain ho ho' ha hb hc hm).imp fun σ H Q h => by
    obtain ⟨O, G, env, L, r, env2, S, e, k⟩ := tTest_of h
    exact tChain_of ⟨O, G, env, L, r, env2, S, e, k⟩
/-! ### list * int -/
def repD (d e : D) : Option D := match d, e with
  | .list xs, .int k => if k < 2 ^ 63 ∧ -(2 ^ 63) ≤ k ∧ xs.length * k.toNat ≤ lim then some (.list (List.replicate k.toNat xs).flatten) else none
  | _, _ => none
theorem repL_flat {K : PySem.W.Frag} {G : Hp} {vs : List V} {ds : List D} (r : RepL K G vs ds) : ∀ k : Nat, RepL K G (List.replicate k vs).flatten (List.replicate k ds).flatten
  | 0 => .nil
  | k + 1 => by
    rw [List.replicate_succ, List.replicate_succ, List.flatten_cons, List.flatten_cons]
    exact r.append (repL_flat r k)
theorem o_rep : OpR X (binaryOp .Mult) (rD X.K 1 repD) := fun pins s σ H x y v u Q I rx ry ⟨d, e, z, G, sg, rd, re, hz, q⟩ => by
  unfold repD at hz
  split at hz
  · rename_i xs k
    split at hz
    · rename_i hk
      cases hz
      cases rd with
      | lst ha rr =>
        cases re
        refine op_rep pins s σ H _ _ v u Q I rx ry ⟨_, k, _, rfl, rfl, sg _ _ ha, hk.2.1, hk.1, by rw [rr.length]; exact lim_le hk.2.2, fun p hp => ?_⟩
        exact q _ _ _ (Res.newL sg hp (repL_flat rr _))
    · cases hz
  · cases hz
/-! ### list(range(..)) -/
def rgOk (a b : Int) : Bool := decide (-(2 ^ 62) ≤ a) && decide (a < 2 ^ 62) && decide (-(2 ^ 62) ≤ b) && decide (b < 2 ^ 62) && decide ((b - a).toNat ≤ lim)
theorem rgOk_ok {a b : Int} (h : rgOk a b = true) : RgOk a b := by
  unfold rgOk at h
  simp only [Bool.and_eq_true, decide_eq_true_eq] at h
  exact ⟨h.1.1.1.1, h.1.1.1.2, h.1.1.2, h.1.2, Nat.le_trans h.2 (by decide)⟩
def rgD (a b : Int) : List D := (List.range (b - a).toNat).map fun (k : Nat) => .int (a + k)
theorem rg_rep {K : PySem.W.Frag} {G : Hp} {a b : Int} : RepL K G (rgV a b) (rgD a b) := by
  unfold rgV rgD
  generalize (List.range (b - a).toNat) = l
  induction l with
  | nil => exact .nil
  | cons x r ih => exact .cons (.int _) ih
def eLR1 (f : Ex) : Ex := fun env => (f env).bind fun p => match p.1 with
  | .int j => if rgOk 0 j = true then some (.list (rgD 0 j), p.2) else none
  | _ => none
def eLR2 (f g : Ex) : Ex := fun env => (f env).bind fun p => (g p.2).bind fun q => match p.1, q.1 with
  | .int i, .int j => if rgOk i j = true then some (.list (rgD i j), q.2) else none
  | _, _ => none
theorem m_listR1 {p p2 pos2 : Pos} (hc : X.calm = true) (hgl : Gl X "list") (hml : X.mg "list" = none) (hg : Gl X "range") (hm : X.mg "range" = none) (ha : PE X a (tM X.K Γ fa 0)) (na : starEach [a] X.env = (false, eval a X.env) :: starEach [] X.env := by rfl)
    (nb : starEach [.Call (.Name "range" p2) [a] [] pos2] X.env = (false, eval (.Call (.Name "range" p2) [a] [] pos2) X.env) :: starEach [] X.env := by rfl) : PE X (.Call (.Name "list" p) [.Call (.Name "range" p2) [a] [] pos2] [] pos) (tM X.K Γ (eLR1 fa) 1) :=
  (pe_listRg hc hgl hml (prg_1 hg hm ha na) nb).imp fun σ H Q ⟨O, G, env, L, r, env2, S, e, k⟩ => by
    unfold eLR1 at e
    cases h1 : fa env with
    | none => rw [h1] at e; cases e
    | some pp =>
      rw [h1] at e
      simp only [Option.bind_some] at e
      obtain ⟨x, env1⟩ := pp
      cases x with
      | int j =>
        simp only at e
        split at e
        · rename_i hk
          cases e
          refine ⟨O, G, env, L, .int j, _, S, h1, fun v H1 G1 L1 S1 s1 v1 => ?_⟩
          have := v1.rep
          cases this
          refine ⟨j, rfl, rgOk_ok hk, fun q hq => ?_⟩
          have R := Res.newL S1.gh hq (rg_rep (K := X.K) (G := G1) (a := 0) (b := j))
          exact k _ _ _ L1 (S1.res R).1 (s1.trans R.gg) (S1.res R).2
        · cases e
      | _ => cases e
theorem m_listR2 {p p2 pos2 : Pos} (hc : X.calm = true) (hgl : Gl X "list") (hml : X.mg "list" = none) (hg : Gl X "range") (hm : X.mg "range" = none) (ha : PE X a (tM X.K Γ fa 0)) (hb : PE X b (tM X.K Γ fb 0)) (na : starEach [a, b] X.env = (false, eval a X.env) :: starEach [b] X.env := by rfl) (nb1 : starEach [b] X.env = (false, eval b X.env) :: starEach [] X.env := by rfl) (hp : (backTo pos2 (starEach [b] X.env)).any (·.1) = false := by rfl)
    (nb : starEach [.Call (.Name "range" p2) [a, b] [] pos2] X.env = (false, eval (.Call (.Name "range" p2) [a, b] [] pos2) X.env) :: starEach [] X.env := by rfl) : PE X (.Call (.Name "list" p) [.Call (.Name "range" p2) [a, b] [] pos2] [] pos) (tM X.K Γ (eLR2 fa fb) 1) :=
  (pe_listRg hc hgl hml (prg_2 hg hm ha hb na nb1 hp) nb).imp fun σ H Q ⟨O, G, env, L, r, env2, S, e, k⟩ => by
    unfold eLR2 at e
    cases h1 : fa env with
    | none => rw [h1] at e; cases e
    | some pp =>
      rw [h1] at e
      simp only [Option.bind_some] at e
      obtain ⟨x, env1⟩ := pp
      cases h2 : fb env1 with
      | none => rw [h2] at e; cases e
      | some qq =>
        rw [h2] at e
        simp only [Option.bind_some] at e
        obtain ⟨y, env3⟩ := qq
        cases x with
        | int i =>
         cases y with
         | int j =>
          simp only at e
          split at e
          · rename_i hk
            cases e
            refine ⟨O, G, env, L, .int i, env1, S, h1, fun v H1 G1 L1 S1 s1 v1 => ⟨O, G1, env1, L1, .int j, _, S1, h2, fun u H2 G2 L2 S2 s2 v2 => ?_⟩⟩
            have := v1.rep
            cases this
            have := v2.rep
            cases this
            refine ⟨i, j, rfl, rfl, rgOk_ok hk, fun q hq => ?_⟩
            have R := Res.newL S2.gh hq (rg_rep (K := X.K) (G := G2) (a := i) (b := j))
            exact k _ _ _ L2 (S2.res R).1 ((s1.trans s2).trans R.gg) (S2.res R).2
          · cases e
         | _ => cases e
        | _ => cases e
/-! ### all, min, max -/
def bools : List D → Option (List Bool)
  | [] => some []
  | .bool b :: r => (bools r).map (b :: ·)
  | _ :: _ => none
def allD : List D → Option D := fun ds => match ds with
  | [.list xs] => (bools xs).map fun bs => .bool (bs.all id)
  | _ => none
theorem bools_rep {K : PySem.W.Frag} {G : Hp} : ∀ {vs : List V} {ds : List D} {bs : List Bool}, RepL K G vs ds → bools ds = some bs → vs = bs.map V.bl
  | _, _, _, .nil, h => by cases h; rfl
  | _, _, _, .cons (d := d) (ds := ds) r rs, h => by
    cases d with
    | bool b =>
      cases r
      simp only [bools] at h
      cases q : bools ds with
      | none => rw [q] at h; cases h
      | some bs' =>
        rw [q] at h
        cases h
        rw [bools_rep rs q]; rfl
    | _ => cases h
theorem c_all (hc : X.calm = true) : CallR X (.builtin "all") (cD X.K 0 allD) := fun pins s σ H xs us Q I rv ⟨ds, z, G, sg, rr, hz, q⟩ => by
  unfold allD at hz
  split at hz
  · rename_i ys
    cases hb : bools ys with
    | none => rw [hb] at hz; cases hz
    | some bs =>
      rw [hb] at hz
      cases hz
      cases rr with
      | cons r rn =>
        cases rn
        cases r with
        | lst ha r2 =>
          rw [bools_rep r2 hb] at ha
          exact cr_all hc pins s σ H _ us Q I rv ⟨_, bs, rfl, SqL.of (sg _ _ ha), q _ _ _ (Res.of_rep sg (.bl _))⟩
  · cases hz
def minD : List D → Option D := fun ds => match ds with
  | [.int i, .int j] => some (.int (if j < i then j else i))
  | _ => none
def maxD : List D → Option D := fun ds => match ds with
  | [.int i, .int j] => some (.int (if j > i then j else i))
  | _ => none
theorem c_min (hc : X.calm = true) : CallR X (.builtin "min") (cD X.K 0 minD) := fun pins s σ H xs us Q I rv ⟨ds, z, G, sg, rr, hz, q⟩ => by
  unfold minD at hz
  split at hz
  · cases hz
    cases rr with
    | cons r rn =>
      cases rn with
      | cons r' rn' =>
        cases rn'
        cases r
        cases r'
        exact call_min2 hc pins s σ H _ us Q I rv ⟨_, _, rfl, q _ _ _ (Res.of_rep sg (.int _))⟩
  · cases hz
theorem c_max (hc : X.calm = true) : CallR X (.builtin "max") (cD X.K 0 maxD) := fun pins s σ H xs us Q I rv ⟨ds, z, G, sg, rr, hz, q⟩ => by
  unfold maxD at hz
  split at hz
  · cases hz
    cases rr with
    | cons r rn =>
      cases rn with
      | cons r' rn' =>
        cases rn'
        cases r
        cases r'
        exact call_max2 hc pins s σ H _ us Q I rv ⟨_, _, rfl, q _ _ _ (Res.of_rep sg (.int _))⟩
  · cases hz
theorem bt_all : bootBuiltins "all" = some (.builtin "all") := by decide +kernel
theorem bt_min : bootBuiltins "min" = some (.builtin "min") := by decide +kernel
theorem bt_max : bootBuiltins "max" = some (.builtin "max") := by decide +kernel
theorem bt_sorted : bootBuiltins "sorted" = some (.builtin "sorted") := by decide +kernel
end
section
variable {X : Cx} {Γ Γ1 : Ctx} {T : Tg} {tg iter elt : Expr} {ifs : List Expr} {pos : Pos} {fi : Ix} {gt : Gx} {tt : Bx} {fe : Ex} {ws : List Nat} {wk : Bool}
/-- y = [..], the comprehension over borrowed names -/
theorem s_setLcB (Δ : Ctx) (i : Nat) {y : Str} {py spos : Pos} {scope : Scope} {own : List (Str × Nat)} (hc : X.calm = true) (hN : X.N.Nodup)
    (hi : PI X tg iter (tI X.K wk Δ fi)) (ok : BlkOk X.N X.env.scope scope own)
    (hg : ∀ (s : Shared) (H : Hp) (C : Addr) (cl : List (Str × Addr)) (fp : List Addr), PG (X.blk s H scope (compEnvC scope cl C X.env) fp) tg (tG X.K wk Δ Γ1 gt ws)) (ht : ∀ (s : Shared) (H : Hp) (C : Addr) (cl : List (Str × Addr)) (fp : List Addr), PTs (X.blk s H scope (compEnvC scope cl C X.env) fp) ifs (tMT X.K Γ1 tt))
    (he : ∀ (s : Shared) (H : Hp) (C : Addr) (cl : List (Str × Addr)) (fp : List Addr), PE (X.blk s H scope (compEnvC scope cl C X.env) fp) elt (tM X.K Γ1 fe 0))
    (hsw : swapsWith (.ListComp elt [⟨tg, iter, ifs, 0⟩] scope pos) (some (.Name y py)) spos.line X.env = pure true) (hbw : bwB Γ Δ = true := by rfl) (hy : X.N[i]? = some y := by rfl) (hyl : X.env.scope.names.lookup y = some .local := by rfl) (hio : notIo Γ[i]? = true := by rfl) (hu : unAll Δ (own.map (·.2)) = true := by rfl) (hw : ws.all (fun j => decide (j ∈ own.map (·.2))) = true := by rfl) (hl1 : wkB Γ1 Δ = true := by rfl)
    (hs : ∀ x, foldedSetIterable iter X.env x = pure x := by intro _; rfl) : PS X (.Assign [.Name y py] (.ListComp elt [⟨tg, iter, ifs, 0⟩] scope pos) spos) (tS X.K T Γ (Γ.set i (.ow 1)) (asg i (eBor 1 (lcD (own.map (·.2)) fi gt tt fe)))) :=
  (ps_setLc hc hN hy hyl hsw hi ok hg ht he hs).imp fun E σ H h => tLc_of hu hw hl1 (by
    obtain ⟨O, G, env, L, r, env1, S, e, k⟩ := tAsg_of hio h
    obtain ⟨env0, e1, e2, rfl⟩ := eBor_some e
    refine ⟨_, _, env1, _, r, env0, S.lend hbw, e1, fun v H1 G1 L1 S1 s1 v1 => ?_⟩
    obtain ⟨G2, gg, S2, v2⟩ := S.back hbw S1 s1 v1 e2
    exact k v H1 G2 L S2 gg v2)
end
end VL

set_option Elab.async false
set_option linter.all false
set_option maxRecDepth 100000
set_option maxHeartbeats 1000000
/-! VLE: sorted, over data; tuples may be empty. -/
namespace VL
open PySem PySem.Spec PyProof.Rows PySem.W PySem.SeqAt
section
variable {prog : Program} {w : World} {A : Around} {E : Value → Shared → Prop} {s : Shared}
theorem call_tuple_lt {Q : Value → Shared → Prop} {l b : Addr} {items items2 : Array Value} {e r : Nat → Bool} (hl : s.heap.IsTuple l items) (hb : s.heap.IsTuple b items2)
    (he : ∀ j (h1 : j < items.size) (h2 : j < items2.size), EqAt A.in1 s items[j] items2[j] (e j)) (hr : ∀ j (h1 : j < items.size) (h2 : j < items2.size), e j = false → RcLt A.in1 s items[j] items2[j] (r j))
    (h : Q (.bool (firstLt e r (decide (items.size < items2.size)) (List.range (min items.size items2.size)))) s) : wpAny (model prog w) A (call (.builtin "tuple.__lt__") [.ref l, .ref b]) Q E s := by
  obtain ⟨⟨cls, dd, data, sl⟩, ho, hc, n, hd⟩ := id hl
  obtain ⟨⟨cls2, dd2, data2, sl2⟩, ho2, hc2, n2, hd2⟩ := id hb
  simp only at hc hd hc2 hd2
  subst hc hd hc2 hd2
  exact call_meets F.slot_tuple_lt ⟨_, ho, rfl⟩ F.entry_tuple_lt (F.args_tuple_lt_2 _ _) (tuple_ltAt l b items items2 n n2 dd dd2 sl sl2 e r) ⟨ho, ho2, he, hr, h⟩
theorem oneLt_tup {xs ys : List PyData} {a b : Value} {as bs : List Addr} {Q : Bool → Shared → Prop} (ra : Reads s.heap a (.tuple xs) as) (rb : Reads s.heap b (.tuple ys) bs) (h : alike (.tuple xs) (.tuple ys) = true)
    (hu : A.units + min (PyData.depth (.tuple xs)) (PyData.depth (.tuple ys)) < cLine) (hq : Q (dataLt (.tuple xs) (.tuple ys)) s) : wpAny (model prog w) A (oneLt' true a b) Q E s := by
  have hal : alikeAll xs ys = true := by simpa [alike] using h
  cases ra with
  | @tuple l o vs n _ as₁ h1 h2 h3 h4 =>
    cases rb with
    | @tuple l' o' vs' n' _ bs₁ k1 k2 k3 k4 =>
      have n1 : vs.size = xs.length := by simpa using ReadsAll.length _ _ _ h4
      have n2 : vs'.size = ys.length := by simpa using ReadsAll.length _ _ _ k4
      rw [dataLt_tuple, ← firstLt_toks xs ys hal, ← n1, ← n2] at hq
      rw [oneLt'_eq]
      simp only [if_true]
      refine wpAny_bind (wpAny_cRoomFor (room_here hu) ?_)
      refine wpAny_bind (wpAny_callSpecialIfBound?_slot (T := "tuple") ⟨_, h1, h2⟩ F.slot_tuple_lt (call_tuple_lt (e := pairEq xs ys) (r := fun j => dataLt (xs.getD j .none) (ys.getD j .none)) ⟨_, h1, h2, _, h3⟩ ⟨_, k1, k2, _, k3⟩ (fun j j1 j2 => ?_) (fun j j1 j2 hj => ?_) ?_))
      · have := eqAt_alikeAll xs ys A.in1 s vs.toList vs'.toList _ _ h4 k4 hal (room_in hu) j (by simpa using j1) (by simpa using j2)
        simpa using this
      · have := rcLt_alikeAll xs ys A.in1 s vs.toList vs'.toList _ _ h4 k4 hal (room_in hu) j (by simpa using j1) (by simpa using j2) hj
        simpa using this
      · exact wpAny_truthy_bool hq
/-- the first items of tuples, where they have one -/
theorem firsts_run : ∀ {vs : List Value} {ds : List PyData} {Q : List (Option Value) → Shared → Prop}, EachIs (fun v d => ∃ as, Reads s.heap v d as) vs ds → (∀ d ∈ ds, ∃ xs, d = .tuple xs) →
    (∀ fs : List (Option Value), EachIs (fun (f : Option Value) (d : PyData) => d = .tuple [] → f = none) fs ds → Q fs s) → wpAny (model prog w) A (vs.mapM firstOfTuple') Q E s
  | _, _, _, .nil, _, h => by rw [List.mapM_nil]; exact wpAny_pure (h [] .nil)
  | _, _, Q, .cons (a := v) (as := vs) (b := d) (bs := ds) ⟨as, r⟩ t, ht, h => by
    obtain ⟨xs, rfl⟩ := ht d (List.mem_cons_self ..)
    rw [List.mapM_cons]
    refine wpAny_bind ?_
    rw [kas_first_eq]
    cases r with
    | @tuple a o its n _ _ ho hc hd hr =>
      refine wpAny_bind (Looks.here (show Looks _ s.heap (typeOf (.ref a)) o.cls from (Looks.ld ho).andThen .now) ?_)
      rw [hc, if_neg (by first | decide | simp)]
      refine wpAny_bind (listItems_at ho hd (wpAny_pure ?_))
      refine wpAny_bind (firsts_run (Q := fun bs s' => wpAny (model prog w) A (pure (its[0]? :: bs)) Q E s') t (fun d hd => ht d (List.mem_cons_of_mem _ hd)) fun fs hf => wpAny_pure (h _ (.cons (fun e => ?_) hf)))
      cases e
      have : its.toList = [] := by
        cases q : its.toList with
        | nil => rfl
        | cons x y => rw [q] at hr; cases hr
      rw [← Array.getElem?_toList, this]; rfl
theorem SortsAt.emptyFirst {vs : List Value} {ds : List PyData} (e : EachIs (fun v d => ∃ as, Reads s.heap v d as) vs ds) (hal : AllAlike ds) (ht : ∀ d ∈ ds, ∃ xs, d = .tuple xs) (h0 : ds.head? = some (.tuple [])) (hu : ∀ d, d ∈ ds → A.units + d.depth < cLine) : SortsAt prog w A s (dataKind s.heap ds) vs := by
  have room : ∀ {d d' : PyData}, d ∈ ds → A.units + min d.depth d'.depth < cLine := fun {d d'} hd => Nat.lt_of_le_of_lt (Nat.add_le_add_left (Nat.min_le_left _ _) _) (hu d hd)
  refine ⟨fun v hv => ?_, oneType', ?_, fun h2 E Q hq => ?_⟩
  · obtain ⟨d, hd, as, r⟩ := e.left v hv
    exact ⟨_, dataKind_some hal hd r⟩
  · intro E x y a b Q ha hb hq
    obtain ⟨d, as, hd, ra, rfl⟩ := dataKind_inv ha
    obtain ⟨d', as', hd', rb, rfl⟩ := dataKind_inv hb
    rw [keyLt'_oneType]
    obtain ⟨xs, rfl⟩ := ht d hd
    obtain ⟨ys, rfl⟩ := ht d' hd'
    exact oneLt_tup ra rb (hal _ hd _ hd') (room hd) hq
  · rw [keyKind'_eq, List.mapM_toArray, map_eq_pure_bind]
    refine wpAny_bind (wpAny_bind (firsts_run e ht fun fs hf => wpAny_pure ?_))
    have hT : ∀ v ∈ vs, Looks (model prog w) s.heap (typeOf v) (.type "tuple") := fun v hv => by
      obtain ⟨d, hd, as, r⟩ := e.left v hv
      obtain ⟨xs, rfl⟩ := ht d hd
      exact looks_reads r
    obtain ⟨fr, rfl⟩ : ∃ fr, fs = none :: fr := by
      cases ds with
      | nil => cases h0
      | cons d ds =>
        cases h0
        cases hf with
        | cons h1 h2 => exact ⟨_, by rw [h1 rfl]⟩
    rw [if_neg (by simp), if_neg (by simp)]
    rw [oneTypeOnly'_eq, List.mapM_toArray, map_eq_pure_bind]
    refine wpAny_bind (wpAny_bind (wpAny_bind (kas_mapM (r := Value.type "tuple") _ (fun v hv Q' hq => (hT v hv).here hq) (wpAny_pure ?_))))
    obtain ⟨v₁, v₂, rest, rfl⟩ : ∃ v₁ v₂ rest, vs = v₁ :: v₂ :: rest := by
      match vs, h2 with
      | [], h2 => simp at h2
      | [_], h2 => simp at h2
      | v₁ :: v₂ :: rest, _ => exact ⟨v₁, v₂, rest, rfl⟩
    have hall : ((List.map (fun _ => Value.type "tuple") (v₁ :: v₂ :: rest)).toArray.all fun x => x == Value.type "tuple") = true := by
      simp only [List.all_toArray, List.all_map, List.all_eq_true]
      intro _ _
      exact beq_self_eq_true _
    have hh : (List.map (fun _ => Value.type "tuple") (v₁ :: v₂ :: rest)).toArray[0]? = some (Value.type "tuple") := by simp
    rw [hh]
    simp only [hall, if_true]
    exact wpAny_pure (wpAny_pure hq)
end

/-! ### sorted over a list -/
def tupB : D → Bool
  | .tuple _ => true
  | _ => false
def tupNB : D → Bool
  | .tuple (_ :: _) => true
  | _ => false
def otherB : D → Bool
  | .tuple _ => false
  | .none => false
  | _ => true
def headE : List D → Bool
  | .tuple [] :: _ => true
  | _ => false
def okSort (xs : List D) : Bool := (xs.all fun d => xs.all fun e => alike d e) && (xs.all tupNB || xs.all otherB || (xs.all tupB && headE xs)) && decide (xs.length ≤ lim) && (xs.all fun d => decide (d.depth ≤ 64))
def srt (xs : List D) : List D := xs.mergeSort (dataLe false id)
def sortedD : List D → Option D := fun ds => match ds with
  | [.list xs] => if okSort xs = true then some (.list (srt xs)) else none
  | _ => none
section
variable {X : L2.Cx}
open L2
def RV (K : PySem.W.Frag) (G : Hp) (u : Value) (d : D) : Prop := ∃ x : V, RelV x u ∧ Rep K G x d
theorem each_rv {K : PySem.W.Frag} {G : Hp} : ∀ {vs : List V} {us : List Value} {ds : List D}, Vals vs us → RepL K G vs ds → EachIs (RV K G) us ds
  | _, _, _, .nil, .nil => .nil
  | _, _, _, .cons h t, .cons r rs => .cons ⟨_, h, r⟩ (each_rv t rs)
theorem rv_each {K : PySem.W.Frag} {G : Hp} : ∀ {us : List Value} {ds : List D}, EachIs (RV K G) us ds → ∃ vs, Vals vs us ∧ RepL K G vs ds
  | _, _, .nil => ⟨[], .nil, .nil⟩
  | _, _, .cons ⟨x, h, r⟩ t => by
    obtain ⟨vs, a, b⟩ := rv_each t
    exact ⟨x :: vs, .cons h a, .cons r b⟩
theorem each_reads {pins : List (Addr × Obj)} {σ : L2.St} {H G : Hp} {s : Shared} (I : Inv X pins σ H s) (sg : Same G H) : ∀ {us : List Value} {ds : List D}, EachIs (RV X.K G) us ds → EachIs (fun v d => ∃ as, Reads s.heap v d as) us ds
  | _, _, .nil => .nil
  | _, _, .cons ⟨x, h, r⟩ t => .cons (rep_reads I sg r h) (each_reads I sg t)
theorem okSort_iff {xs : List D} (h : okSort xs = true) : AllAlike xs ∧ (Sortable xs ∨ ((∀ d ∈ xs, ∃ ys, d = .tuple ys) ∧ xs.head? = some (.tuple []))) ∧ xs.length ≤ lim ∧ ∀ d ∈ xs, d.depth ≤ 64 := by
  unfold okSort at h
  simp only [Bool.and_eq_true, Bool.or_eq_true, decide_eq_true_eq] at h
  obtain ⟨⟨⟨h1, h2⟩, h3⟩, h4⟩ := h
  refine ⟨fun d hd d' hd' => List.all_eq_true.mp (List.all_eq_true.mp h1 d hd) d' hd', ?_, h3, fun d hd => of_decide_eq_true (List.all_eq_true.mp h4 d hd)⟩
  rcases h2 with (h2 | h2) | h2
  · refine .inl (.inl fun d hd => ?_)
    have := List.all_eq_true.mp h2 d hd
    unfold tupNB at this
    split at this
    · exact ⟨_, _, rfl⟩
    · cases this
  · refine .inl (.inr fun d hd => ?_)
    have := List.all_eq_true.mp h2 d hd
    unfold otherB at this
    refine ⟨fun z => ?_, fun ys z => ?_⟩ <;> (subst z; cases this)
  · refine .inr ⟨fun d hd => ?_, ?_⟩
    · have := List.all_eq_true.mp h2.1 d hd
      unfold tupB at this
      split at this
      · exact ⟨_, rfl⟩
      · cases this
    · have := h2.2
      unfold headE at this
      split at this
      · rfl
      · cases this
theorem sorts_of {prog : Program} {w : World} {A : Around} {s : Shared} {vs : List Value} {ds : List D} (h : okSort ds = true) (hu : A.units + 64 < cLine) (e : EachIs (fun v d => ∃ as, Reads s.heap v d as) vs ds) : SortsAt prog w A s (dataKind s.heap ds) vs := by
  obtain ⟨h1, h2, h3, h4⟩ := okSort_iff h
  have hd : ∀ d, d ∈ ds → A.units + d.depth < cLine := fun d hd => by have := h4 d hd; omega
  rcases h2 with h2 | h2
  · exact SortsAt.data e h1 h2 hd
  · exact SortsAt.emptyFirst e h1 h2.1 h2.2 hd
theorem c_sorted (hu : X.A.units + 80 < cLine) : CallR X (.builtin "sorted") (cD X.K 1 sortedD) := fun pins s σ H xs us Q I rv ⟨ds, z, G, sg, rr, hz, q⟩ => by
  unfold sortedD at hz
  split at hz
  · rename_i ys
    split at hz
    · rename_i ok
      cases hz
      cases rr with
      | cons r rn =>
        cases rn
        cases r with
        | @lst a0 vs0 _ ha r2 =>
          obtain ⟨its, rvs, hl, hsz⟩ := I.list (SqL.of (K := X.K) (sg _ _ ha))
          rw [Vals.ref1 rv]
          have e1 := each_rv rvs r2
          have er := each_reads I sg e1
          have er' : EachIs (fun v b => ∃ as, Reads (sortingHeap (copyHeap s.heap its) (s.heap.objs.size + 1) its) v (id b) as) its ys := er.mono fun _ _ ⟨as, r⟩ => ⟨as, PyProof.Rows.Reads.keeps (fun _ _ => sorting_copy_old) r⟩
          have hal : AllAlike (ys.map id) := by rw [List.map_id]; exact (okSort_iff ok).1
          have S : SortsAt X.prog X.w X.A.in1.in1 { s with heap := sortingHeap (copyHeap s.heap its) (s.heap.objs.size + 1) its } (dataKind (sortingHeap (copyHeap s.heap its) (s.heap.objs.size + 1) its) ys) its :=
            sorts_of (s := { s with heap := sortingHeap (copyHeap s.heap its) (s.heap.objs.size + 1) its }) ok (by show X.A.units + 1 + 1 + 64 < _; omega) er'
          refine sorted_vals (Q := EP X pins σ Q) hl.isList S (by rw [← rvs.length]; exact hsz) ?_
          have e2 : EachIs (RV X.K G) (sortVals (dataKind (sortingHeap (copyHeap s.heap its) (s.heap.objs.size + 1) its) ys) false its its) (srt ys) := by
            have := sortVals_data (enc := id) false e1 er' hal
            rw [List.map_id] at this
            exact this
          obtain ⟨vs', b1, b2⟩ := rv_each e2
          obtain ⟨ep, he'⟩ := PyProof.Rows.sortedAll_at s.heap its (sortVals (dataKind (sortingHeap (copyHeap s.heap its) (s.heap.objs.size + 1) its) ys) false its its).toArray
          have hlen : vs'.length ≤ sizeLine := by
            rw [b2.length]
            unfold srt
            rw [List.length_mergeSort]
            exact lim_le (okSort_iff ok).2.2.1
          exact ⟨.ref _, upd H (s.heap.objs.size + 1) (.lst vs'), I.laid (t' := s.toks) (fun _ _ => PyProof.Rows.sortedAll_old) (Nat.le_succ _) ⟨hlen, _, ep, b1, he'⟩, rfl, q _ _ _ (Res.newL sg (I.hok.fresh (Nat.le_succ _)) b2)⟩
    · cases hz
  · cases hz
end
end VL

set_option Elab.async false
set_option linter.all false
set_option maxRecDepth 100000
set_option maxHeartbeats 1000000
/-! VLF: dicts; frozen when they are shown, owned (depth 100) while they change. -/
namespace VL
open PySem PySem.Spec L2

/-! ### over data -/
def keyOf : D → Option Key
  | .int i => some (.inl i)
  | .str x => some (.inr x)
  | _ => none
theorem keyOf_kD (k : Key) : keyOf (kD k) = some k := by cases k <;> rfl
def isK (k : Key) (p : D × D) : Bool := decide (keyOf p.1 = some k)
def dGet (ds : List (D × D)) (k : Key) : Option D := (ds.find? (isK k)).map (·.2)
def dPut (ds : List (D × D)) (k : Key) (d : D) : List (D × D) := if ds.any (isK k) = true then ds.map (fun p => if isK k p = true then (p.1, d) else p) else ds ++ [(kD k, d)]
section
variable {K : PySem.W.Frag} {G H : Hp}
theorem isK_kD {k k' : Key} {d : D} : isK k (kD k', d) = decide (k' = k) := by
  unfold isK
  rw [keyOf_kD]
  by_cases e : k' = k
  · subst e; simp
  · simp [e]
theorem repK_some {k : Key} {d : D} : ∀ {kvs : List (Key × V)} {ds : List (D × D)}, RepK K G kvs ds → dGet ds k = some d → ∃ v, valV kvs k = some v ∧ Rep K G v d
  | _, _, .nil, e => by simp [dGet] at e
  | _, _, .cons (k := k') (v := v') (d := d') r t, e => by
    unfold dGet at e
    rw [List.find?_cons] at e
    by_cases z : k' = k
    · subst z
      rw [show isK k' (kD k', d') = true by rw [isK_kD]; simp] at e
      simp only [Option.map_some, Option.some.injEq] at e
      subst e
      exact ⟨v', valV_pos rfl, r⟩
    · rw [show isK k (kD k', d') = false by rw [isK_kD]; simp [z]] at e
      obtain ⟨v, h1, h2⟩ := repK_some t e
      exact ⟨v, by rw [valV_neg z]; exact h1, h2⟩
theorem repK_none {k : Key} : ∀ {kvs : List (Key × V)} {ds : List (D × D)}, RepK K G kvs ds → dGet ds k = none → valV kvs k = none
  | _, _, .nil, e => rfl
  | _, _, .cons (k := k') (v := v') (d := d') r t, e => by
    unfold dGet at e
    rw [List.find?_cons] at e
    by_cases z : k' = k
    · subst z
      rw [show isK k' (kD k', d') = true by rw [isK_kD]; simp] at e
      cases e
    · rw [show isK k (kD k', d') = false by rw [isK_kD]; simp [z]] at e
      rw [valV_neg z]
      exact repK_none t e
theorem RepK.app : ∀ {xs ys : List (Key × V)} {ds es : List (D × D)}, RepK K G xs ds → RepK K G ys es → RepK K G (xs ++ ys) (ds ++ es)
  | _, _, _, _, .nil, t => t
  | _, _, _, _, .cons r s, t => .cons r (RepK.app s t)
theorem RepK.len : ∀ {xs : List (Key × V)} {ds : List (D × D)}, RepK K G xs ds → xs.length = ds.length
  | _, _, .nil => rfl
  | _, _, .cons _ s => by simp [RepK.len s]
theorem repK_any {k : Key} : ∀ {kvs : List (Key × V)} {ds : List (D × D)}, RepK K G kvs ds → ds.any (isK k) = kvs.any fun kv => decide (kv.1 = k)
  | _, _, .nil => rfl
  | _, _, .cons (k := k') (v := v') (d := d') r t => by rw [List.any_cons, List.any_cons, repK_any t, isK_kD]
theorem repK_map {k : Key} {v : V} {d : D} (h : Rep K G v d) : ∀ {kvs : List (Key × V)} {ds : List (D × D)}, RepK K G kvs ds → RepK K G (kvs.map fun kv => if kv.1 = k then (kv.1, v) else kv) (ds.map fun p => if isK k p = true then (p.1, d) else p)
  | _, _, .nil => .nil
  | _, _, .cons (k := k') (v := v') (d := d') r t => by
    rw [List.map_cons, List.map_cons]
    by_cases z : k' = k
    · rw [if_pos z, if_pos (by rw [isK_kD]; simp [z])]
      exact .cons h (repK_map h t)
    · rw [if_neg z, if_neg (by rw [isK_kD]; simp [z])]
      exact .cons r (repK_map h t)
theorem repK_put {k : Key} {v : V} {d : D} {kvs : List (Key × V)} {ds : List (D × D)} (r : RepK K G kvs ds) (h : Rep K G v d) : RepK K G (putK kvs k v) (dPut ds k d) := by
  unfold putK dPut
  rw [repK_any r]
  split
  · exact repK_map h r
  · exact r.app (.cons h .nil)
theorem kV_rep (k : Key) : Rep K G (kV k) (kD k) := by
  cases k with
  | inl i => exact .int i
  | inr x => exact .str x
theorem rep_key {v : V} {d : D} {k : Key} (r : Rep K G v d) (e : keyOf d = some k) : v = kV k := by
  cases r with
  | int i => cases e; rfl
  | str x => cases e; rfl
  | _ => cases e
/-! ### freezing -/
theorem StR.frzA {O : Gh} {Γ : Ctx} {σ : St} {env : List D} {L : Nat → List Addr} {a : Addr} {u : HO} (S : StR K O Γ H G σ env L) (hg : G a = none) (ho : O.own a) (hl : ∀ i m, At Γ i m → a ∉ L i) : StR K O Γ (upd H a u) (upd G a u) σ env L := by
  have gg : Same G (upd G a u) := fun b o e => by rw [upd_ne (ne_of_none e hg)]; exact e
  refine ⟨fun b o e => ?_, S.ls, S.lg, fun i m hi => ?_, S.nd, S.dj, S.new, fun b o e hb => ?_, fun b o e => ?_, S.io⟩
  · by_cases z : b = a
    · subst z; rw [upd_same] at e ⊢; exact e
    · rw [upd_ne z] at e ⊢; exact S.gh b o e
  · obtain ⟨v, d, e1, e2, o⟩ := S.slot i m hi
    refine ⟨v, d, e1, e2, o.mono gg fun b hb => ?_⟩
    have ne : b ≠ a := fun z => hl i m hi (z ▸ hb)
    exact ⟨upd_ne ne, by rw [upd_ne ne]; exact (o.objs b hb).1⟩
  · have ne : b ≠ a := fun z => by
      subst z
      rcases ho with q | q
      · rw [q] at e; cases e
      · exact hb q
    rw [upd_ne ne]; exact S.pres b o e hb
  · by_cases z : b = a
    · subst z; exact .inr ho
    · rw [upd_ne z] at e; exact S.gn b o e
theorem own100 {v : V} {ds : List (D × D)} {M : List Addr} (h : Own K H G 100 v (.dict ds) M) : ∃ a kvs, v = .ref a ∧ M = [a] ∧ H a = some (.dK kvs) ∧ G a = none ∧ RepK K G kvs ds := by
  cases h with
  | imm e _ => simp [immut] at e
  | dk h g r => exact ⟨_, _, rfl, rfl, h, g, r⟩
end
def eFrz (f : Ex) : Ex := fun env => (f env).bind fun p => match p.1 with
  | .dict _ => some p
  | _ => none
theorem eFrz_some {f : Ex} {env env2 : List D} {r : D} (e : eFrz f env = some (r, env2)) : ∃ ds, r = .dict ds ∧ f env = some (.dict ds, env2) := by
  unfold eFrz at e
  cases q : f env with
  | none => rw [q] at e; cases e
  | some p =>
    rw [q] at e
    obtain ⟨x, y⟩ := p
    cases x with
    | dict ds => simp only [Option.bind_some, Option.some.injEq, Prod.mk.injEq] at e; exact ⟨ds, e.1.symm, by rw [e.2]⟩
    | _ => cases e
section
variable {X : Cx} {Γ Δ : Ctx} {T : Tg} {a b c : Expr} {pos apos cpos px : Pos} {f fa fb fc : Ex} {i : Nat} {x : Str}
/-- a dict that has just been made is frozen -/
theorem m_frz (h : PE X a (tM X.K Γ f 100)) : PE X a (tM X.K Γ (eFrz f) 0) := ⟨fun pins s σ H Q I ⟨O, G, env, L, r, env1, S, e, k⟩ => by
  obtain ⟨ds, rfl, e1⟩ := eFrz_some e
  have := h.run pins s σ H (fun v H1 => ∃ a kvs, v = .ref a ∧ H1 a = some (.dK kvs) ∧ ∀ od, Q v (upd H1 a (.frz od (.dK kvs)))) I ⟨O, G, env, L, .dict ds, env1, S, e1, fun v H1 G1 L1 S1 s1 ⟨M, om, nd, ow, dj⟩ => by
    obtain ⟨a, kvs, rfl, rfl, h1, h2, h3⟩ := own100 om
    refine ⟨a, kvs, rfl, h1, fun od => ?_⟩
    have hg : Same G1 (upd G1 a (.frz od (.dK kvs))) := fun b o e => by rw [upd_ne (ne_of_none e h2)]; exact e
    exact k _ _ _ L1 (S1.frzA h2 (ow a (List.mem_singleton_self _)) fun i m hi => dj i m hi a (List.mem_singleton_self _)) (s1.trans hg) (.of_rep (.dk upd_same (h3.mono hg)))⟩
  exact thn this fun u s' ⟨v, H', I', rv, a, kvs, ev, hH, q⟩ => by
    obtain ⟨od, I2⟩ := I'.lock hH trivial
    exact ⟨v, _, I2, rv, q od⟩⟩
/-- {} -/
theorem m_dnew : PE X (.Dict [] [] pos) (tM X.K Γ (eC (.dict [])) 100) := pe_dnewK.imp fun σ H Q ⟨O, G, env, L, r, env1, S, e, k⟩ => by
  simp only [eC, Option.some.injEq, Prod.mk.injEq] at e
  obtain ⟨rfl, rfl⟩ := e
  intro p hp
  have R := Res.newD S.gh hp (RepK.nil (K := X.K) (G := G))
  exact k _ _ _ L (S.res R).1 R.gg (S.res R).2
/-- a name's dict is frozen from here on -/
def sFrz (i : Nat) (g : Sx) : Sx := fun env => match env[i]? with
  | some (.dict _) => g env
  | _ => none
theorem StR.frzI {K : PySem.W.Frag} {O : Gh} {H G : Hp} {σ : St} {env : List D} {L : Nat → List Addr} {a : Addr} {kvs : List (Key × V)} {ds : List (D × D)} {od : Obj} (S : StR K O Γ H G σ env L) (hi : Γ[i]? = some (.ow 100)) (e1 : σ[i]? = some (some (.ref a))) (e2 : env[i]? = some (.dict ds)) (hL : L i = [a]) (hg : G a = none) (r : RepK K G kvs ds) :
    StR K O (Γ.set i (.ow 0)) (upd H a (.frz od (.dK kvs))) (upd G a (.frz od (.dK kvs))) σ env (setL L i []) := by
  have gg : Same G (upd G a (.frz od (.dK kvs))) := fun b o e => by rw [upd_ne (ne_of_none e hg)]; exact e
  have hai : At Γ i 100 := ⟨_, hi, rfl⟩
  have ho : O.own a := S.new i 100 hai a (by rw [hL]; exact List.mem_singleton_self _)
  have l0 : setL L i [] i = [] := if_pos rfl
  have l1 : ∀ j, j ≠ i → setL L i [] j = L j := fun j z => if_neg z
  have lt : i < Γ.length := (List.getElem?_eq_some_iff.mp hi).1
  refine ⟨fun b o e => ?_, S.ls, by simp [S.lg], fun j m hj => ?_, fun j m hj => ?_, fun j j' m m' hj hj' ne b hb hb' => ?_, fun j m hj b hb => ?_, fun b o e hb => ?_, fun b o e => ?_, fun j m e => ?_⟩
  · by_cases z : b = a
    · subst z; rw [upd_same] at e ⊢; exact e
    · rw [upd_ne z] at e ⊢; exact S.gh b o e
  · rcases at_set hj with ⟨rfl, rfl⟩ | ⟨z, hj'⟩
    · rw [l0]
      exact ⟨_, _, e1, e2, .rep (.dk upd_same (r.mono gg))⟩
    · rw [l1 j z]
      obtain ⟨v, d, y1, y2, o⟩ := S.slot j m hj'
      refine ⟨v, d, y1, y2, o.mono gg fun b hb => ?_⟩
      have ne : b ≠ a := fun q => S.dj j i m 100 hj' hai z b hb (by rw [hL, q]; exact List.mem_singleton_self _)
      exact ⟨upd_ne ne, by rw [upd_ne ne]; exact (o.objs b hb).1⟩
  · rcases at_set hj with ⟨rfl, rfl⟩ | ⟨z, hj'⟩
    · rw [l0]; exact List.nodup_nil
    · rw [l1 j z]; exact S.nd j m hj'
  · rcases at_set hj with ⟨rfl, rfl⟩ | ⟨z, hj2⟩
    · rw [l0] at hb; cases hb
    · rcases at_set hj' with ⟨rfl, rfl⟩ | ⟨z', hj2'⟩
      · rw [l0] at hb'; cases hb'
      · rw [l1 j z] at hb; rw [l1 j' z'] at hb'; exact S.dj j j' m m' hj2 hj2' ne b hb hb'
  · rcases at_set hj with ⟨rfl, rfl⟩ | ⟨z, hj2⟩
    · rw [l0] at hb; cases hb
    · rw [l1 j z] at hb; exact S.new j m hj2 b hb
  · have ne : b ≠ a := fun z => by
      subst z
      rcases ho with q | q
      · rw [q] at e; cases e
      · exact hb q
    rw [upd_ne ne]; exact S.pres b o e hb
  · by_cases z : b = a
    · subst z; exact .inr ho
    · rw [upd_ne z] at e; exact S.gn b o e
  · by_cases z : j = i
    · subst z; rw [List.getElem?_set_self lt] at e; cases e
    · rw [List.getElem?_set_ne (Ne.symm z)] at e; exact S.io j m e
theorem p_frz (i : Nat) {st : Stmt} {Γ2 : Ctx} {g : Sx} (h : PS X st (tS X.K T (Γ.set i (.ow 0)) Γ2 g)) (hi : Γ[i]? = some (.ow 100) := by rfl) : PS X st (tS X.K T Γ Γ2 (sFrz i g)) := ⟨fun pins s σ H E I ⟨O, G, env, L, o, S, e, k⟩ => by
  unfold sFrz at e
  obtain ⟨v, d, e1, e2, om⟩ := S.slot i 100 ⟨_, hi, rfl⟩
  rw [e2] at e
  cases d with
  | dict ds =>
    simp only at e
    generalize hL : L i = M at om
    obtain ⟨a, kvs, rfl, rfl, h1, h2, h3⟩ := own100 om
    obtain ⟨od, I2⟩ := I.lock h1 trivial
    have gg : Same G (upd G a (.frz od (.dK kvs))) := fun b o e => by rw [upd_ne (ne_of_none e h2)]; exact e
    exact h.run pins s σ _ E I2 ⟨O, _, env, _, o, S.frzI hi e1 e2 hL h2 h3, e, k.from gg⟩
  | _ => cases e⟩
/-! ### reading -/
def ixA (d e : D) : Option D := match d with
  | .dict ds => (keyOf e).bind (dGet ds)
  | _ => ixD d e
theorem DGet_of {K : PySem.W.Frag} {G H : Hp} {v w : V} {ds : List (D × D)} {e : D} {k : Key} (s : Same G H) (r : Rep K G v (.dict ds)) (re : Rep K G w e) (hk : keyOf e = some k) : ∃ a kvs, v = .ref a ∧ RepK K G kvs ds ∧ Rd H a (.dK kvs) ∧ DGet H a w (valV kvs k) := by
  cases r with
  | @dk a o kvs _ h rr =>
    have hr : Rd H a (.dK kvs) := .inr ⟨_, s _ _ h⟩
    exact ⟨a, kvs, rfl, rr, hr, .inl ⟨kvs, k, hr, rep_key re hk, rfl⟩⟩
theorem m_ixA (hu : X.A.units + 66 < cLine) (ha : PE X a (tM X.K Γ fa 0)) (hb : PE X b (tM X.K Γ fb 0)) (hs : PlainIx b) : PE X (.Subscript a b pos) (tM X.K Γ (eBin ixA fa fb) 0) := ⟨fun pins s σ H Q I h => by
  obtain ⟨O, G, env, L, r, env2, S, e, k⟩ := h
  obtain ⟨xd, env1, yd, e1, e2, e3⟩ := eBin_some e
  by_cases hd : ∃ ds, xd = .dict ds
  · obtain ⟨ds, rfl⟩ := hd
    refine (pe_dget (by omega) ha hb hs).run pins s σ H Q I ⟨O, G, env, L, .dict ds, env1, S, e1, fun v H1 G1 L1 S1 s1 v1 => ⟨O, G1, env1, L1, yd, env2, S1, e2, fun w H2 G2 L2 S2 s2 v2 => ?_⟩⟩
    simp only [ixA] at e3
    cases hk : keyOf yd with
    | none => rw [hk] at e3; cases e3
    | some kk =>
      rw [hk] at e3
      simp only [Option.bind_some] at e3
      obtain ⟨ad, kvs, rfl, rr, hr, dg⟩ := DGet_of S2.gh (v1.rep.mono s2) v2.rep hk
      obtain ⟨vv, h1, h2⟩ := repK_some rr e3
      rw [h1] at dg
      exact ⟨ad, vv, rfl, dg, k vv H2 G2 L2 S2 (s1.trans s2) (.of_rep h2)⟩
  · refine (m_ix x_seq ha hb hs).run pins s σ H Q I ⟨O, G, env, L, r, env2, S, ?_, k⟩
    have : ixD xd yd = some r := by
      unfold ixA at e3
      split at e3
      · exact absurd ⟨_, rfl⟩ hd
      · exact e3
    simp only [eBin, e1, Option.bind_some, e2, this, Option.map_some]⟩
end
end VL

set_option Elab.async false
set_option linter.all false
set_option maxRecDepth 100000
set_option maxHeartbeats 1000000
/-! VLH: dicts read, walked, made of pairs, written. -/
namespace VL
open PySem PySem.Spec L2
def eTri (F : D → D → D → Option D) (a b c : Ex) : Ex := fun env => (a env).bind fun p => (b p.2).bind fun q => (c q.2).bind fun r => (F p.1 q.1 r.1).map fun z => (z, r.2)
theorem eTri_some {F : D → D → D → Option D} {a b c : Ex} {env env3 : List D} {r : D} (e : eTri F a b c env = some (r, env3)) : ∃ x env1 y env2 z, a env = some (x, env1) ∧ b env1 = some (y, env2) ∧ c env2 = some (z, env3) ∧ F x y z = some r := by
  unfold eTri at e
  cases h1 : a env with
  | none => rw [h1] at e; cases e
  | some p =>
    rw [h1] at e
    simp only [Option.bind_some] at e
    cases h2 : b p.2 with
    | none => rw [h2] at e; cases e
    | some q =>
      rw [h2] at e
      simp only [Option.bind_some] at e
      cases h3 : c q.2 with
      | none => rw [h3] at e; cases e
      | some w =>
        rw [h3] at e
        simp only [Option.bind_some] at e
        cases h4 : F p.1 q.1 w.1 with
        | none => rw [h4] at e; cases e
        | some z =>
          rw [h4] at e
          simp only [Option.map_some, Option.some.injEq, Prod.mk.injEq] at e
          obtain ⟨rfl, rfl⟩ := e
          exact ⟨p.1, p.2, q.1, q.2, w.1, rfl, h2, h3, h4⟩
def getD1 (d e : D) : Option D := match d with
  | .dict ds => (keyOf e).map fun k => (dGet ds k).getD .none
  | _ => none
def getD2 (d e z : D) : Option D := match d with
  | .dict ds => (keyOf e).map fun k => (dGet ds k).getD z
  | _ => none
def inA (d c : D) : Option D := match c with
  | .dict ds => (keyOf d).map fun k => .bool (dGet ds k).isSome
  | _ => inD d c
def notInA (d c : D) : Option D := match c with
  | .dict ds => (keyOf d).map fun k => .bool (!(dGet ds k).isSome)
  | _ => notInD d c
section
variable {X : Cx} {Γ Δ : Ctx} {T : Tg} {a b c : Expr} {pos apos cpos px : Pos} {f fa fb fc : Ex} {i : Nat} {x : Str}
theorem isSome_get {K : PySem.W.Frag} {G : Hp} {kvs : List (Key × V)} {ds : List (D × D)} (r : RepK K G kvs ds) (k : Key) : (valV kvs k).isSome = (dGet ds k).isSome := by
  cases h : dGet ds k with
  | none => rw [repK_none r h]; rfl
  | some d => obtain ⟨v, h1, _⟩ := repK_some r h; rw [h1]; rfl
theorem m_get1 (hu : X.A.units + 66 < cLine) (ha : PE X a (tM X.K Γ fa 0)) (hb : PE X b (tM X.K Γ fb 0)) (m : M1 X a "get" apos b cpos) : PE X (.Call (.Attribute a "get" apos) [b] [] cpos) (tM X.K Γ (eBin getD1 fa fb) 0) :=
  (pe_dget1 (by omega) ha hb m).imp fun σ H Q ⟨O, G, env, L, r, env2, S, e, k⟩ => by
    obtain ⟨xd, env1, yd, e1, e2, e3⟩ := eBin_some e
    unfold getD1 at e3
    split at e3
    · rename_i ds
      cases hk : keyOf yd with
      | none => rw [hk] at e3; cases e3
      | some kk =>
        rw [hk] at e3
        cases e3
        refine ⟨O, G, env, L, .dict ds, env1, S, e1, fun v H1 G1 L1 S1 s1 v1 => ?_⟩
        have r1 := v1.rep
        cases r1 with
        | @dk ad o kvs _ h rr =>
          refine ⟨ad, rfl, .inl ⟨kvs, .inr ⟨_, S1.gh _ _ h⟩⟩, O, G1, env1, L1, yd, env2, S1, e2, fun w H2 G2 L2 S2 s2 v2 => ?_⟩
          refine ⟨valV kvs kk, .inl ⟨kvs, kk, .inr ⟨_, S2.gh _ _ (s2 _ _ h)⟩, rep_key v2.rep hk, rfl⟩, ?_⟩
          cases hg : dGet ds kk with
          | none => rw [repK_none rr hg]; simp only [hg, Option.getD] at k; exact k _ H2 G2 L2 S2 (s1.trans s2) (.of_rep .non)
          | some dd =>
            obtain ⟨vv, h1, h2⟩ := repK_some rr hg
            rw [h1]; simp only [hg, Option.getD] at k
            exact k _ H2 G2 L2 S2 (s1.trans s2) (.of_rep (h2.mono s2))
    · cases e3
theorem m_get2 (hu : X.A.units + 66 < cLine) (ha : PE X a (tM X.K Γ fa 0)) (hb : PE X b (tM X.K Γ fb 0)) (hc : PE X c (tM X.K Γ fc 0)) (m : M2 X a "get" apos b c cpos) : PE X (.Call (.Attribute a "get" apos) [b, c] [] cpos) (tM X.K Γ (eTri getD2 fa fb fc) 0) :=
  (pe_dget2 (by omega) ha hb hc m).imp fun σ H Q ⟨O, G, env, L, r, env3, S, e, k⟩ => by
    obtain ⟨xd, env1, yd, env2, zd, e1, e2, e2', e3⟩ := eTri_some e
    unfold getD2 at e3
    split at e3
    · rename_i ds
      cases hk : keyOf yd with
      | none => rw [hk] at e3; cases e3
      | some kk =>
        rw [hk] at e3
        cases e3
        refine ⟨O, G, env, L, .dict ds, env1, S, e1, fun v H1 G1 L1 S1 s1 v1 => ?_⟩
        have r1 := v1.rep
        cases r1 with
        | @dk ad o kvs _ h rr =>
          refine ⟨ad, rfl, .inl ⟨kvs, .inr ⟨_, S1.gh _ _ h⟩⟩, O, G1, env1, L1, yd, env2, S1, e2, fun w H2 G2 L2 S2 s2 v2 => ⟨O, G2, env2, L2, zd, env3, S2, e2', fun w3 H3 G3 L3 S3 s3 v3 => ?_⟩⟩
          refine ⟨valV kvs kk, .inl ⟨kvs, kk, .inr ⟨_, S3.gh _ _ (s3 _ _ (s2 _ _ h))⟩, rep_key v2.rep hk, rfl⟩, ?_⟩
          cases hg : dGet ds kk with
          | none => rw [repK_none rr hg]; simp only [hg, Option.getD] at k; exact k _ H3 G3 L3 S3 ((s1.trans s2).trans s3) v3
          | some dd =>
            obtain ⟨vv, h1, h2⟩ := repK_some rr hg
            rw [h1]; simp only [hg, Option.getD] at k
            exact k _ H3 G3 L3 S3 ((s1.trans s2).trans s3) (.of_rep ((h2.mono s2).mono s3))
    · cases e3
/-- k in d, and in what else can be asked -/
theorem tDIn_of {σ : St} {H : Hp} {Q : VK} {ds : List (D × D)} {O : Gh} {G : Hp} {env env1 env2 : List D} {L : Nat → List Addr} {yd r : D} {g : Bool → Bool} (S : StR X.K O Γ H G σ env L) (e1 : fa env = some (yd, env1)) (e2 : fb env1 = some (.dict ds, env2)) (e3 : ((keyOf yd).map fun k => PyData.bool (g (dGet ds k).isSome)) = some r)
    (k : ∀ v H' G' L', StR X.K O Γ H' G' σ env2 L' → Same G G' → VR X.K O Γ H' G' L' 0 v r → Q v H') : (tM X.K Γ fa 0) σ H fun y H1 => (tM X.K Γ fb 0) σ H1 fun x H2 => ∃ a o, x = .ref a ∧ DGet H2 a y o ∧ Q (.bl (g o.isSome)) H2 := by
  cases hk : keyOf yd with
  | none => rw [hk] at e3; cases e3
  | some kk =>
    rw [hk] at e3
    cases e3
    refine ⟨O, G, env, L, yd, env1, S, e1, fun v H1 G1 L1 S1 s1 v1 => ⟨O, G1, env1, L1, .dict ds, env2, S1, e2, fun w H2 G2 L2 S2 s2 v2 => ?_⟩⟩
    obtain ⟨ad, kvs, rfl, rr, hr, dg⟩ := DGet_of S2.gh v2.rep (v1.rep.mono s2) hk
    refine ⟨ad, _, rfl, dg, ?_⟩
    rw [isSome_get rr]
    exact k _ H2 G2 L2 S2 (s1.trans s2) (.of_rep (.bl _))
theorem m_inA (hu : X.A.units + 66 < cLine) (ha : PE X a (tM X.K Γ fa 0)) (hb : PE X b (tM X.K Γ fb 0)) (hm : behindInMarks .In b = false) : PE X (.Compare a [.In] [b] pos) (tM X.K Γ (eBin inA fa fb) 0) := ⟨fun pins s σ H Q I h => by
  obtain ⟨O, G, env, L, r, env2, S, e, k⟩ := h
  obtain ⟨xd, env1, yd, e1, e2, e3⟩ := eBin_some e
  by_cases hd : ∃ ds, yd = .dict ds
  · obtain ⟨ds, rfl⟩ := hd
    exact (pe_cmp (pc_din (by omega) ha hb) hm).run pins s σ H Q I (tDIn_of (g := id) S e1 e2 e3 k)
  · refine (m_cmp (op_inD hu) ha hb hm).run pins s σ H Q I ⟨O, G, env, L, r, env2, S, ?_, k⟩
    have : inD xd yd = some r := by
      unfold inA at e3
      split at e3
      · exact absurd ⟨_, rfl⟩ hd
      · exact e3
    simp only [eBin, e1, Option.bind_some, e2, this, Option.map_some]⟩
theorem m_notInA (hu : X.A.units + 66 < cLine) (ha : PE X a (tM X.K Γ fa 0)) (hb : PE X b (tM X.K Γ fb 0)) (hm : behindInMarks .NotIn b = false) : PE X (.Compare a [.NotIn] [b] pos) (tM X.K Γ (eBin notInA fa fb) 0) := ⟨fun pins s σ H Q I h => by
  obtain ⟨O, G, env, L, r, env2, S, e, k⟩ := h
  obtain ⟨xd, env1, yd, e1, e2, e3⟩ := eBin_some e
  by_cases hd : ∃ ds, yd = .dict ds
  · obtain ⟨ds, rfl⟩ := hd
    exact (pe_cmp (pc_dnotin (by omega) ha hb) hm).run pins s σ H Q I (tDIn_of (g := Bool.not) S e1 e2 e3 k)
  · refine (m_cmp (op_notInD hu) ha hb hm).run pins s σ H Q I ⟨O, G, env, L, r, env2, S, ?_, k⟩
    have : notInD xd yd = some r := by
      unfold notInA at e3
      split at e3
      · exact absurd ⟨_, rfl⟩ hd
      · exact e3
    simp only [eBin, e1, Option.bind_some, e2, this, Option.map_some]⟩
theorem asB_some {f : Ex} {env env2 : List D} {r : Bool} : asB f env = some (r, env2) ↔ f env = some (.bool r, env2) := by
  unfold asB
  cases h : f env with
  | none => simp
  | some p =>
    obtain ⟨x, y⟩ := p
    cases x <;> simp
theorem tB_of {f : Ex} {σ : St} {H : Hp} {Q : Bool → Hp → Prop} (h : tMT X.K Γ (asB f) σ H Q) : tM X.K Γ f 0 σ H fun x H1 => ∃ c, x = .bl c ∧ Q c H1 := tTest_of h
theorem b_inA (hu : X.A.units + 66 < cLine) (ha : PE X a (tM X.K Γ fa 0)) (hb : PE X b (tM X.K Γ fb 0)) (hm : behindInMarks .In b = false) : PT X (.Compare a [.In] [b] pos) (tMT X.K Γ (asB (eBin inA fa fb))) := ⟨fun pins s σ H Q I h => by
  obtain ⟨O, G, env, L, r, env2, S, e, k⟩ := h
  have e' := asB_some.mp e
  obtain ⟨xd, env1, yd, e1, e2, e3⟩ := eBin_some e'
  by_cases hd : ∃ ds, yd = .dict ds
  · obtain ⟨ds, rfl⟩ := hd
    exact (pt_cmp (pc_din (by omega) ha hb) hm).run pins s σ H Q I (tDIn_of (g := id) (Q := fun x H1 => ∃ c, x = .bl c ∧ Q c H1) S e1 e2 e3 fun v H1 G1 L1 S1 s1 v1 => by
      have := v1.rep
      cases this
      exact ⟨r, rfl, k H1 G1 L1 S1 s1⟩)
  · refine (b_cmp (op_inD hu) ha hb hm).run pins s σ H Q I ⟨O, G, env, L, r, env2, S, asB_some.mpr ?_, k⟩
    have : inD xd yd = some (.bool r) := by
      unfold inA at e3
      split at e3
      · exact absurd ⟨_, rfl⟩ hd
      · exact e3
    simp only [eBin, e1, Option.bind_some, e2, this, Option.map_some]⟩
theorem b_notInA (hu : X.A.units + 66 < cLine) (ha : PE X a (tM X.K Γ fa 0)) (hb : PE X b (tM X.K Γ fb 0)) (hm : behindInMarks .NotIn b = false) : PT X (.Compare a [.NotIn] [b] pos) (tMT X.K Γ (asB (eBin notInA fa fb))) := ⟨fun pins s σ H Q I h => by
  obtain ⟨O, G, env, L, r, env2, S, e, k⟩ := h
  have e' := asB_some.mp e
  obtain ⟨xd, env1, yd, e1, e2, e3⟩ := eBin_some e'
  by_cases hd : ∃ ds, yd = .dict ds
  · obtain ⟨ds, rfl⟩ := hd
    exact (pt_cmp (pc_dnotin (by omega) ha hb) hm).run pins s σ H Q I (tDIn_of (g := Bool.not) (Q := fun x H1 => ∃ c, x = .bl c ∧ Q c H1) S e1 e2 e3 fun v H1 G1 L1 S1 s1 v1 => by
      have := v1.rep
      cases this
      exact ⟨r, rfl, k H1 G1 L1 S1 s1⟩)
  · refine (b_cmp (op_notInD hu) ha hb hm).run pins s σ H Q I ⟨O, G, env, L, r, env2, S, asB_some.mpr ?_, k⟩
    have : notInD xd yd = some (.bool r) := by
      unfold notInA at e3
      split at e3
      · exact absurd ⟨_, rfl⟩ hd
      · exact e3
    simp only [eBin, e1, Option.bind_some, e2, this, Option.map_some]⟩
/-! ### walks -/
def keysOf (ds : List (D × D)) : List D := ds.map (·.1)
def pairsOf (ds : List (D × D)) : List D := ds.map fun p => .tuple [p.1, p.2]
def itemsA : D → Option (List D)
  | .dict ds => some (keysOf ds)
  | d => itemsD d
def iSqA (f : Ex) : Ix := fun env => (f env).bind fun p => (itemsA p.1).map fun ds => (ds, p.2)
def iItm (f : Ex) : Ix := fun env => (f env).bind fun p => match p.1 with
  | .dict ds => some (pairsOf ds, p.2)
  | _ => none
theorem repK_at {K : PySem.W.Frag} {G : Hp} : ∀ {kvs : List (Key × V)} {ds : List (D × D)} {i : Nat} {k : Key} {v : V}, RepK K G kvs ds → kvs[i]? = some (k, v) → ∃ d, ds[i]? = some (kD k, d) ∧ Rep K G v d
  | _, _, _, _, _, .nil, e => by simp at e
  | _, _, 0, k, v, .cons r t, e => by
    simp only [List.getElem?_cons_zero, Option.some.injEq, Prod.mk.injEq] at e
    obtain ⟨rfl, rfl⟩ := e
    exact ⟨_, rfl, r⟩
  | _, _, i + 1, k, v, .cons r t, e => by
    obtain ⟨d, h1, h2⟩ := repK_at (i := i) t (by simpa using e)
    exact ⟨d, by simpa using h1, h2⟩
theorem walk_dkeys {K : PySem.W.Frag} {G : Hp} {wk : Bool} {a : Addr} {o : Obj} {kvs : List (Key × V)} {ds : List (D × D)} (q : G a = some (.frz o (.dK kvs))) (r : RepK K G kvs ds) : WalkD K wk G (Itk a o kvs) (keysOf ds) where
  go := fun i H s h => ⟨s _ _ q, by rw [r.len]; simpa [keysOf] using h⟩
  stop := fun i H s h => ⟨s _ _ q, by rw [r.len, h]; simp [keysOf]⟩
  yld := fun i H x H' G1 s1 s2 ⟨e1, k, v, e2, e3⟩ h => by
    subst e1 e3
    obtain ⟨d, e4, _⟩ := repK_at r e2
    exact ⟨kD k, G1, by unfold keysOf; rw [List.getElem?_map, e4]; rfl, Ext.refl s2, .inl (kV_rep k)⟩
theorem walk_ditems {K : PySem.W.Frag} {G : Hp} {a : Addr} {o : Obj} {kvs : List (Key × V)} {ds : List (D × D)} (q : G a = some (.frz o (.dK kvs))) (r : RepK K G kvs ds) : WalkD K true G (Iti a o kvs) (pairsOf ds) where
  go := fun i H s h => ⟨s _ _ q, by rw [r.len]; simpa [pairsOf] using h⟩
  stop := fun i H s h => ⟨s _ _ q, by rw [r.len, h]; simp [pairsOf]⟩
  yld := fun i H x H' G1 s1 s2 ⟨T, k, v, e2, e3, hT, e4⟩ h => by
    subst e3 e4
    obtain ⟨d, e5, r5⟩ := repK_at r e2
    have hh : Same H (upd H T (.tup [kV k, v])) := fun b o e => by rw [upd_ne (ne_of_none e hT)]; exact e
    exact ⟨.tuple [kD k, d], G1, by unfold pairsOf; rw [List.getElem?_map, e5]; rfl, ⟨Same.refl _, s2.trans hh, hh, fun a o e n => (by rw [n] at e; cases e)⟩, .inr ⟨rfl, T, _, _, rfl, .inl (.inl upd_same), rfl, .cons (kV_rep k) (.cons (r5.mono s1) .nil)⟩⟩
theorem i_seqA {tg l : Expr} {wk : Bool} (hl : PE X l (tM X.K Γ f 0)) : PI X tg l (tI X.K wk Γ (iSqA f)) := ⟨fun pins s σ H R I ⟨O, G, env, L, ds, env2, S, e, k⟩ => by
  unfold iSqA at e
  cases q : f env with
  | none => rw [q] at e; cases e
  | some p =>
    rw [q] at e
    simp only [Option.bind_some] at e
    obtain ⟨x, env1⟩ := p
    by_cases hd : ∃ es, x = .dict es
    · obtain ⟨es, rfl⟩ := hd
      simp only [itemsA, Option.map_some, Option.some.injEq, Prod.mk.injEq] at e
      obtain ⟨rfl, rfl⟩ := e
      refine (pi_keys hl).run pins s σ H R I ⟨O, G, env, L, .dict es, env1, S, q, fun v H1 G1 L1 S1 s1 v1 => ?_⟩
      have r1 := v1.rep
      cases r1 with
      | @dk ad o kvs _ h rr => exact ⟨ad, o, rfl, .inl ⟨kvs, S1.gh _ _ h, k _ H1 G1 L1 S1 s1 (walk_dkeys h rr)⟩⟩
    · refine (i_seq hl).run pins s σ H R I ⟨O, G, env, L, ds, env2, S, ?_, k⟩
      unfold iSq
      rw [q]
      simp only [Option.bind_some]
      rw [← e]
      cases x with
      | dict es => exact absurd ⟨_, rfl⟩ hd
      | _ => rfl⟩
theorem i_items {elts : List Expr} {kk : Nat} {tpos : Pos} (ha : PE X a (tM X.K Γ fa 0)) (hbase : attributeBase a "items" X.env (eval a X.env) = eval a X.env := by rfl) (hline : (apos.endLine == cpos.line) = true := by rfl) : PI X (.Tuple elts kk tpos) (.Call (.Attribute a "items" apos) [] [] cpos) (tI X.K true Γ (iItm fa)) :=
  (pi_items ha hbase hline).imp fun σ H R ⟨O, G, env, L, ds, env2, S, e, k⟩ => by
    unfold iItm at e
    cases q : fa env with
    | none => rw [q] at e; cases e
    | some p =>
      rw [q] at e
      simp only [Option.bind_some] at e
      obtain ⟨x, env1⟩ := p
      cases x with
      | dict es =>
        simp only [Option.some.injEq, Prod.mk.injEq] at e
        obtain ⟨rfl, rfl⟩ := e
        refine ⟨O, G, env, L, .dict es, env1, S, q, fun v H1 G1 L1 S1 s1 v1 => ?_⟩
        have r1 := v1.rep
        cases r1 with
        | @dk ad o kvs _ h rr => exact ⟨ad, o, kvs, rfl, S1.gh _ _ h, k _ H1 G1 L1 S1 s1 (walk_ditems h rr)⟩
      | _ => cases e
/-! ### writing -/
theorem StR.mutD {K : PySem.W.Frag} {O : Gh} {H G : Hp} {σ : St} {env : List D} {L : Nat → List Addr} {a : Addr} {kvs : List (Key × V)} {ds : List (D × D)} (S : StR K O Γ H G σ env L) (hi : At Γ i 100) (e1 : σ[i]? = some (some (.ref a))) (hL : L i = [a]) (hg : G a = none) (r : RepK K G kvs ds) : StR K O Γ (upd H a (.dK kvs)) G σ (env.set i (.dict ds)) L := by
  obtain ⟨v, d, z1, z2, o⟩ := S.slot i 100 hi
  have li : i < env.length := (List.getElem?_eq_some_iff.mp z2).1
  refine ⟨fun b u e => ?_, by simp [S.ls], by simp [S.lg], fun j m hj => ?_, S.nd, S.dj, S.new, fun b u e hb => ?_, S.gn, S.io⟩
  · rw [upd_ne (ne_of_none e hg)]; exact S.gh b u e
  · by_cases z : j = i
    · subst z
      cases hj.uniq hi
      refine ⟨.ref a, .dict ds, e1, List.getElem?_set_self li, ?_⟩
      rw [hL]
      exact .dk upd_same hg r
    · obtain ⟨v', d', y1, y2, o'⟩ := S.slot j m hj
      refine ⟨v', d', y1, by rw [List.getElem?_set_ne (Ne.symm z)]; exact y2, o'.mono (Same.refl _) fun b hb => ⟨?_, (o'.objs b hb).1⟩⟩
      rw [upd_ne fun q => S.dj j i m 100 hj hi z b hb (by rw [hL, q]; exact List.mem_singleton_self _)]
  · have ne : b ≠ a := fun q => by
      subst q
      rcases S.new i 100 hi b (by rw [hL]; exact List.mem_singleton_self _) with q | q
      · rw [q] at e; cases e
      · exact hb q
    rw [upd_ne ne]; exact S.pres b u e hb
/-- a place of an owned dict as a target -/
def gtDx (i : Nat) (fi : Ex) : Gx := fun d env => (fi env).bind fun q => match q.2[i]? with
  | some (.dict ds) => (keyOf q.1).bind fun k => if ds.length < lim then some (q.2.set i (.dict (dPut ds k d))) else none
  | _ => none
theorem t_dix (i : Nat) {b : Expr} {fi : Ex} (hu : X.A.units + 66 < cLine) (hb : PE X b (tM X.K Γ fi 0)) (hx : X.N[i]? = some x := by rfl) (hv : Vis X.env.scope x := by first | exact Or.inl rfl | exact Or.inr (Or.inl rfl) | exact Or.inr (Or.inr rfl)) (hg : (Γ[i]?).bind Kd.dep = some 100 := by rfl) (hd : (x == ("__debug__" : Str)) = false := by decide) (hcd : (x == ("__classdict__" : Str)) = false := by decide)
    (ha : ∀ v, assign (.Subscript (.Name x px) b pos) X.env v = (do
      let ov ← holding [v] (eval (.Name x px) X.env)
      let iv ← holding [v, ov] (eval b X.env)
      standAt pos
      holding [v, ov, iv] (setItem ov iv v)
      release [v, ov, iv] []) := by intro _; rfl) : PG X (.Subscript (.Name x px) b pos) (tG X.K false Γ Γ (gtDx i fi) []) :=
  (pg_sub (pe_var hx hv hd hcd) hb (set_dict (by omega)) ha).imp fun v σ H Q ⟨O, G, env, L, d, env2, S, r, e, k⟩ => by
    have r : Rep X.K G v d := by
      rcases r with r | ⟨z, _⟩
      · exact r
      · cases z
    have hi : At Γ i 100 := at_of hg
    obtain ⟨v0, d0, y1, y2, _⟩ := S.slot i 100 hi
    unfold gtDx at e
    cases h1 : fi env with
    | none => rw [h1] at e; cases e
    | some q =>
      rw [h1] at e
      simp only [Option.bind_some] at e
      obtain ⟨kd, env1⟩ := q
      simp only at e
      split at e
      · rename_i ds he
        cases hk : keyOf kd with
        | none => rw [hk] at e; cases e
        | some kk =>
          rw [hk] at e
          simp only [Option.bind_some] at e
          split at e
          · rename_i hlt
            cases e
            refine ⟨v0, y1, O, G, env, L, kd, env1, S, h1, fun w H1 G1 L1 S1 s1 v1 => ?_⟩
            obtain ⟨v2, d2, z1, z2, om⟩ := S1.slot i 100 hi
            rw [he] at z2
            cases z2
            generalize hL : L1 i = M at om
            obtain ⟨a, kvs, rfl, rfl, g1, g2, g3⟩ := own100 om
            rw [y1] at z1
            cases z1
            refine ⟨a, _, rfl, .inl ⟨kvs, kk, g1, rep_key v1.rep hk, by rw [g3.len]; exact lim_lt hlt, rfl⟩, ?_⟩
            exact k σ _ G1 L1 (S1.mutD hi y1 hL g2 (repK_put g3 (r.mono s1))) s1 ⟨rfl, fun _ _ => rfl⟩
          · cases e
      · cases e
/-! ### dict(pairs), dict(d) -/
def pairK : D → Option (Key × D)
  | .tuple [k, v] => (keyOf k).map fun q => (q, v)
  | _ => none
def pairsK : List D → Option (List (Key × D))
  | [] => some []
  | d :: ds => (pairK d).bind fun p => (pairsK ds).map (p :: ·)
def mergeD (ds : List (D × D)) (ps : List (Key × D)) : List (D × D) := ps.foldl (fun acc p => dPut acc p.1 p.2) ds
def dictD : List D → Option D := fun ds => match ds with
  | [.list xs] => (pairsK xs).map fun ps => .dict (mergeD [] ps)
  | [.dict es] => some (.dict es)
  | _ => none
theorem pairs_rep {K : PySem.W.Frag} {G H : Hp} (s : Same G H) : ∀ {vs : List V} {ds : List D} {ps : List (Key × D)}, RepL K G vs ds → pairsK ds = some ps → ∃ (as : List Addr) (kvs : List (Key × V)), vs = as.map V.ref ∧ Paired (fun p (kv : Key × V) => SqT K H p [kV kv.1, kv.2]) as kvs ∧ Paired (fun (kv : Key × V) (p : Key × D) => kv.1 = p.1 ∧ Rep K G kv.2 p.2) kvs ps
  | _, _, _, .nil, e => by cases e; exact ⟨[], [], rfl, .nil, .nil⟩
  | _, _, _, .cons (d := d) (ds := ds) r t, e => by
    simp only [pairsK] at e
    cases h1 : pairK d with
    | none => rw [h1] at e; cases e
    | some p =>
      rw [h1] at e
      simp only [Option.bind_some] at e
      cases h2 : pairsK ds with
      | none => rw [h2] at e; cases e
      | some ps =>
        rw [h2] at e
        cases e
        obtain ⟨as, kvs, rfl, q1, q2⟩ := pairs_rep s t h2
        unfold pairK at h1
        split at h1
        · rename_i kd vd
          cases h3 : keyOf kd with
          | none => rw [h3] at h1; cases h1
          | some kk =>
            rw [h3] at h1
            cases h1
            cases r with
            | @tup a vs _ hq rr =>
              cases rr with
              | cons r1 rr =>
                cases rr with
                | cons r2 rr =>
                  cases rr
                  have := rep_key r1 h3
                  subst this
                  exact ⟨a :: as, (kk, _) :: kvs, rfl, .cons (sqT_mono s hq.sqT) q1, .cons ⟨rfl, r2⟩ q2⟩
        · cases h1
theorem merge_rep {K : PySem.W.Frag} {G : Hp} : ∀ {kvs : List (Key × V)} {ps : List (Key × D)} {acc : List (Key × V)} {ds : List (D × D)}, Paired (fun (kv : Key × V) (p : Key × D) => kv.1 = p.1 ∧ Rep K G kv.2 p.2) kvs ps → RepK K G acc ds → RepK K G (mergeK acc kvs) (mergeD ds ps)
  | _, _, _, _, .nil, r => r
  | _, _, acc, ds, .cons (a := kv) (b := p) h t, r => by
    have : RepK K G (putK acc kv.1 kv.2) (dPut ds p.1 p.2) := by rw [← h.1]; exact repK_put r h.2
    have := merge_rep (K := K) (G := G) t this
    unfold mergeK mergeD at this ⊢
    rw [List.foldl_cons, List.foldl_cons]
    exact this
theorem c_dict (hc : X.calm = true) : CallR X (.type "dict") (cD X.K 100 dictD) := fun pins s σ H xs us Q I rv ⟨ds, z, G, sg, rr, hz, q⟩ => by
  unfold dictD at hz
  split at hz
  · rename_i ys
    cases h1 : pairsK ys with
    | none => rw [h1] at hz; cases hz
    | some ps =>
      rw [h1] at hz
      cases hz
      cases rr with
      | cons r rn =>
        cases rn
        cases r with
        | lst ha r2 =>
          obtain ⟨as, kvs, rfl, q1, q2⟩ := pairs_rep sg r2 h1
          exact call_dictP hc pins s σ H _ us Q I rv ⟨_, as, kvs, rfl, SqL.of (sg _ _ ha), q1, fun p hp => q _ _ _ (Res.newD sg hp (merge_rep q2 .nil))⟩
  · rename_i es
    cases hz
    cases rr with
    | cons r rn =>
      cases rn
      cases r with
      | @dk ad o kvs _ h rr => exact call_dictD pins s σ H _ us Q I rv ⟨ad, kvs, rfl, .inr ⟨_, sg _ _ h⟩, fun p hp => q _ _ _ (Res.newD sg hp rr)⟩
  · cases hz
theorem bt_dict : bootBuiltins "dict" = some (.type "dict") := by decide +kernel
end
end VL

set_option Elab.async false
set_option linter.all false
set_option maxRecDepth 100000
set_option maxHeartbeats 1000000
/-! VLI: isinstance, methods of tuples. -/
namespace VL
open PySem PySem.Spec L2
def tyD : D → String
  | .none => "NoneType"
  | .bool _ => "bool"
  | .int _ => "int"
  | .str _ => "str"
  | .list _ => "list"
  | .tuple _ => "tuple"
  | .dict _ => "dict"
def isiD (T : String) (d : D) : Option D := (kitB (tyD d) T).map .bool
section
variable {X : Cx} {Γ Δ : Ctx} {T : Tg} {a b c : Expr} {pos apos cpos px : Pos} {f fa fb fc : Ex} {i : Nat} {x : Str}
theorem rep_ty {K : PySem.W.Frag} {G H : Hp} {v : V} {d : D} (s : Same G H) (r : Rep K G v d) : TyX K H v (.type (tyD d)) := by
  cases r with
  | non => exact .base .non
  | bl b => exact .base (.bl b)
  | int i => exact .base (.int i)
  | str x => exact .base (.str x)
  | tup h _ =>
    rcases h with ⟨o, h, _⟩ | ⟨o, its, n, h, hc, _⟩
    · exact .fTuple (s _ _ h)
    · exact .kTuple h hc
  | lst h _ => exact .base (.lst (s _ _ h))
  | dk h _ => exact .fDict (s _ _ h)
theorem m_isi {Tn : String} {y : Str} {p2 p3 : Pos} (hg : Gl X "isinstance") (hm : X.mg "isinstance" = none) (hgT : Gl X y) (hmT : X.mg y = none) (bT : bootBuiltins y = some (.type Tn)) (ha : PE X a (tM X.K Γ fa 0)) (hn : y ≠ "__name__" := by decide) (hd : (y == ("__debug__" : Str)) = false := by decide)
    (h1 : starEach [a, .Name y p2] X.env = (false, eval a X.env) :: starEach [.Name y p2] X.env := by rfl) (h2 : starEach [.Name y p2] X.env = (false, eval (.Name y p2) X.env) :: starEach [] X.env := by rfl) (hpl : (backTo pos (starEach [.Name y p2] X.env)).any (·.1) = false := by rfl) :
    PE X (.Call (.Name "isinstance" p3) [a, .Name y p2] [] pos) (tM X.K Γ (eUn (isiD Tn) fa) 0) :=
  (pe_callB call_isi hg hm (by decide +kernel) (pa_cons ha (pa_cons (pe_bltn (v := .ty Tn) hgT hmT bT rfl hn hd) pa_nil h2) h1) (by decide) (by decide) h1 hpl).imp fun σ H Q ⟨O, G, env, L, r, env2, S, e, k⟩ => by
    obtain ⟨xd, e1, e2⟩ := eUn_some e
    unfold isiD at e2
    cases hk : kitB (tyD xd) Tn with
    | none => rw [hk] at e2; cases e2
    | some bb =>
      rw [hk] at e2
      cases e2
      refine ⟨O, G, env, L, xd, env2, S, e1, fun v H1 G1 L1 S1 s1 v1 => ?_⟩
      exact ⟨v, .ty Tn, .type (tyD xd), .type Tn, bb, rfl, .ty Tn, rep_ty S1.gh v1.rep, kit_ty hk, k _ H1 G1 L1 S1 s1 (.of_rep (.bl _))⟩
/-- a method of a value that is only read -/
def hasTy (K : PySem.W.Frag) (T : String) (d : D) : Prop := tyD d = T
theorem rep_typeIs {pins : List (Addr × Obj)} {σ : St} {H G : Hp} {s : Shared} (I : Inv X pins σ H s) (sg : Same G H) {v : V} {d : D} {u : Value} (r : Rep X.K G v d) (ru : RelV v u) (h : tyD d = "tuple") : s.TypeIs u "tuple" ∧ ∀ a, u = .ref a → ∃ ob, s.heap.get? a = some ob ∧ ob.dict = none := by
  cases r with
  | @tup ad vs ds hq rr =>
    cases (show u = Value.ref ad from ru)
    rcases hq with ⟨o, h1, hc, hd⟩ | ⟨o, its, n, h1, hc, hd, _⟩
    · have := (I.hok ad _ (sg _ _ h1)).1
      exact ⟨⟨o, this, hc⟩, fun a e => by cases e; exact ⟨o, this, hd⟩⟩
    · have := I.kIn ad o h1
      exact ⟨⟨o, this, hc⟩, fun a e => by cases e; exact ⟨o, this, hd⟩⟩
  | _ => exact absurd h (by simp [tyD])
/-- t.m(e) of a tuple -/
def MtT (X : Cx) (id : String) (F : D → D → Option D) : Prop := ∀ (pins : List (Addr × Obj)) (s : Shared) (σ : St) (H G : Hp) (x y : V) (v u : Value) (d e z : D) (Q : VK), Inv X pins σ H s → Same G H → RelV x v → RelV y u → Rep X.K G x d → Rep X.K G y e → F d e = some z → (∀ w G' H', Res X.K G H 0 w z G' H' → Q w H') →
  wpAny (model X.prog X.w) X.A (call (.builtin id) [v, u]) (EP X pins σ Q) X.xe s
theorem m_meth {m : Str} {id : String} {F : D → D → Option D} (slot : Slot "tuple" m id) (hty : typeOf (.builtin id) = pure (.type "method_descriptor")) (hm : MtT X id F) (hF : ∀ d e z, F d e = some z → tyD d = "tuple") (pa : PlainAttrs "tuple") (ha : PE X a (tM X.K Γ fa 0)) (hb : PE X b (tM X.K Γ fb 0))
    (hbase : attributeBase a m X.env (eval a X.env) = eval a X.env := by rfl)
    (hfew : ((backTo cpos (starEach [b] X.env)).all (fun x => !x.1) && (backToKw cpos (keywordEach [] X.env)).all (fun x => x.1.isSome) && decide (([b] : List Expr).length + ([] : List Keyword).length + (if ([] : List Keyword).isEmpty then 0 else 1) < 30)) = true := by rfl)
    (hline : (apos.endLine == cpos.line) = true := by rfl) (hs : starEach [b] X.env = (false, eval b X.env) :: starEach [] X.env := by rfl) : PE X (.Call (.Attribute a m apos) [b] [] cpos) (tM X.K Γ (eBin F fa fb) 0) := ⟨fun pins s σ H Q I ⟨O, G, env, L, r, env2, S, e, k⟩ => by
  obtain ⟨xd, env1, yd, e1, e2, e3⟩ := eBin_some e
  refine wpAny_Call_method_late hbase hfew hline rfl (thn (ha.run pins s σ H (fun v H1 => ∃ G1 L1, StR X.K O Γ H1 G1 σ env1 L1 ∧ Same G G1 ∧ Rep X.K G1 v xd) I ⟨O, G, env, L, xd, env1, S, e1, fun v H1 G1 L1 S1 s1 v1 => ⟨G1, L1, S1, s1, v1.rep⟩⟩) fun v s1 ⟨x, H1, I1, r1, G1, L1, S1, sg1, rx⟩ => ?_)
  obtain ⟨h1, h2⟩ := rep_typeIs I1 S1.gh rx r1 (hF _ _ _ e3)
  refine ⟨"tuple", id, pa, slot, hty, h1, h2, ?_⟩
  have hA := (a_cons hb a_nil hs).run cpos pins s1 σ H1 (fun vs H2 => ∃ G2 L2, StR X.K O Γ H2 G2 σ env2 L2 ∧ Same G1 G2 ∧ RepL X.K G2 vs [yd]) I1 ⟨O, G1, env1, L1, [yd], env2, S1, by simp only [evs, e2, Option.bind_some, Option.map_some], fun vs H2 G2 L2 S2 s2 r2 => ⟨G2, L2, S2, s2, r2⟩⟩
  rw [hs] at hA ⊢
  refine Calls.callWith_builtin rfl (Calls.evalArgs_plain ?_)
  refine thn hA fun us s2 ⟨vs, H2, I2, r2, G2, L2, S2, sg2, ry⟩ => ?_
  cases ry with
  | cons ry rn =>
    cases rn
    cases r2 with
    | cons r2 rn =>
      cases rn
      exact hm pins s2 σ H2 G2 _ _ _ _ _ _ _ Q I2 S2.gh r1 r2 (rx.mono sg2) ry e3 fun w G' H' R => k w H' G' L2 (S2.res R).1 ((sg1.trans sg2).trans R.gg) (S2.res R).2⟩
def okFind (xs : List D) (d : D) : Bool := PyData.plainAll xs && d.plain && decide (d.depth ≤ 64)
def countT (d e : D) : Option D := match d with
  | .tuple xs => if okFind xs e = true then some (.int (xs.countP fun y => PyData.eqv y e : Nat)) else none
  | _ => none
theorem mt_count (hu : X.A.units + 66 < cLine) : MtT X "tuple.count" countT := fun pins s σ H G x y v u d e z Q I sg rx ry rd re hz q => by
  unfold countT at hz
  split at hz
  · rename_i xs
    split at hz
    · rename_i hk
      cases hz
      unfold okFind at hk
      simp only [Bool.and_eq_true, decide_eq_true_eq] at hk
      obtain ⟨as, h2⟩ := rep_reads I sg re ry
      cases rd with
      | @tup ad vs ds hq rr =>
        cases (show v = Value.ref ad from rx)
        obtain ⟨its, rv, hl, _⟩ := I.tuple (sqT_mono sg hq.sqT)
        obtain ⟨bs, h1⟩ := repL_reads I sg rr rv
        have hm : min (PyData.depthAll xs) e.depth ≤ e.depth := Nat.min_le_right _ _
        exact PySem.SeqAt.count_tuple_data hl (by simpa using h1) h2 hk.1.1 hk.1.2 (by omega) ⟨.int _, H, I.tok _, ⟨_, rfl⟩, q _ _ _ (Res.of_rep sg (.int _))⟩
    · cases hz
  · cases hz
def indexT (d e : D) : Option D := match d with
  | .tuple xs => if okFind xs e = true then (PySem.SeqAt.dataPlace xs e).map fun j => .int (j : Nat) else none
  | _ => none
theorem mt_index (hu : X.A.units + 66 < cLine) : MtT X "tuple.index" indexT := fun pins s σ H G x y v u d e z Q I sg rx ry rd re hz q => by
  unfold indexT at hz
  split at hz
  · rename_i xs
    split at hz
    · rename_i hk
      cases hp : PySem.SeqAt.dataPlace xs e with
      | none => rw [hp] at hz; cases hz
      | some j =>
        rw [hp] at hz
        cases hz
        unfold okFind at hk
        simp only [Bool.and_eq_true, decide_eq_true_eq] at hk
        obtain ⟨as, h2⟩ := rep_reads I sg re ry
        cases rd with
        | @tup ad vs ds hq rr =>
          cases (show v = Value.ref ad from rx)
          obtain ⟨its, rv, hl, _⟩ := I.tuple (sqT_mono sg hq.sqT)
          obtain ⟨bs, h1⟩ := repL_reads I sg rr rv
          have h1' : ReadsAll s.heap its.toArray.toList xs bs := by simpa using h1
          have hm : min (PyData.depthAll xs) e.depth ≤ e.depth := Nat.min_le_right _ _
          obtain ⟨⟨cls, dd, dt, sl⟩, ho, hc, n, hd⟩ := hl
          simp only at hc hd
          subst hc hd
          obtain ⟨hj, hit, hno⟩ := PySem.SeqAt.hit_at h1' hk.1.1 hp
          exact call_meets PySem.F.slot_tuple_index ⟨_, ho, rfl⟩ PySem.F.entry_tuple_index (PySem.F.args_tuple_index_2 _ _) (TI.tuple_indexAt ad its.toArray n dd sl u _ j hj hit hno)
            ⟨ho, PySem.SeqAt.items_plain h1' h2 hk.1.1 hk.1.2 (by omega), ⟨.int (j : Nat), H, I.tok _, ⟨_, rfl⟩, q _ _ _ (Res.of_rep sg (.int _))⟩⟩
    · cases hz
  · cases hz
theorem countT_tup {d e z : D} (h : countT d e = some z) : tyD d = "tuple" := by
  unfold countT at h
  split at h
  · rfl
  · cases h
theorem indexT_tup {d e z : D} (h : indexT d e = some z) : tyD d = "tuple" := by
  unfold indexT at h
  split at h
  · rfl
  · cases h
theorem m_count (hu : X.A.units + 66 < cLine) (ha : PE X a (tM X.K Γ fa 0)) (hb : PE X b (tM X.K Γ fb 0)) (hbase : attributeBase a "count" X.env (eval a X.env) = eval a X.env := by rfl)
    (hfew : ((backTo cpos (starEach [b] X.env)).all (fun x => !x.1) && (backToKw cpos (keywordEach [] X.env)).all (fun x => x.1.isSome) && decide (([b] : List Expr).length + ([] : List Keyword).length + (if ([] : List Keyword).isEmpty then 0 else 1) < 30)) = true := by rfl)
    (hline : (apos.endLine == cpos.line) = true := by rfl) (hs : starEach [b] X.env = (false, eval b X.env) :: starEach [] X.env := by rfl) : PE X (.Call (.Attribute a "count" apos) [b] [] cpos) (tM X.K Γ (eBin countT fa fb) 0) :=
  m_meth PySem.F.slot_tuple_count PySem.F.type_tuple_count (mt_count hu) (fun _ _ _ h => countT_tup h) PySem.F.plainAttrs_tuple ha hb hbase hfew hline hs
theorem m_index (hu : X.A.units + 66 < cLine) (ha : PE X a (tM X.K Γ fa 0)) (hb : PE X b (tM X.K Γ fb 0)) (hbase : attributeBase a "index" X.env (eval a X.env) = eval a X.env := by rfl)
    (hfew : ((backTo cpos (starEach [b] X.env)).all (fun x => !x.1) && (backToKw cpos (keywordEach [] X.env)).all (fun x => x.1.isSome) && decide (([b] : List Expr).length + ([] : List Keyword).length + (if ([] : List Keyword).isEmpty then 0 else 1) < 30)) = true := by rfl)
    (hline : (apos.endLine == cpos.line) = true := by rfl) (hs : starEach [b] X.env = (false, eval b X.env) :: starEach [] X.env := by rfl) : PE X (.Call (.Attribute a "index" apos) [b] [] cpos) (tM X.K Γ (eBin indexT fa fb) 0) :=
  m_meth PySem.F.slot_tuple_index PySem.F.type_tuple_index (mt_index hu) (fun _ _ _ h => indexT_tup h) PySem.F.plainAttrs_tuple ha hb hbase hfew hline hs
/-! ### list.remove -/
def rMutD (K : PySem.W.Frag) (U : List D → List D → Option (D × List D)) : V → List V → Hp → VK → Prop := fun x ys H Q => ∃ (a : Addr) (vs : List V) (ds es ds' : List D) (z : D) (G : Hp), x = .ref a ∧ Same G H ∧ H a = some (.lst vs) ∧ G a = none ∧ RepL K G vs ds ∧ RepL K G ys es ∧ U ds es = some (z, ds') ∧
  ∀ v vs', RepL K G vs' ds' → Rep K G v z → Q v (upd H a (.lst vs'))
theorem mu_D {K : PySem.W.Frag} {U : List D → List D → Option (D × List D)} : MuD K (rMutD K U) U := fun a ys vs ds es ds' z G H Q sg ha hg rr re hu k => ⟨a, vs, ds, es, ds', z, G, rfl, sg, ha, hg, rr, re, hu, k⟩
def uRemove : List D → List D → Option (D × List D) := fun ds es => match es with
  | [e] => if okFind ds e = true then (PySem.SeqAt.dataPlace ds e).map fun j => (.none, ds.eraseIdx j) else none
  | _ => none
theorem mt_removeD (hu : X.A.units + 66 < cLine) : MtR X "list.remove" (rMutD X.K uRemove) := fun pins s σ H x xs v us Q I rx rs ⟨a, vs, ds, es, ds', z, G, ex, sg, ha, hg, rr, re, hU, k⟩ => by
  subst ex
  unfold uRemove at hU
  split at hU
  · rename_i e
    split at hU
    · rename_i hk
      cases hp : PySem.SeqAt.dataPlace ds e with
      | none => rw [hp] at hU; cases hU
      | some j =>
        rw [hp] at hU
        cases hU
        unfold okFind at hk
        simp only [Bool.and_eq_true, decide_eq_true_eq] at hk
        cases re with
        | cons re rn =>
          cases rn
          cases rs with
          | cons ru rn =>
            cases rn
            cases (show v = Value.ref a from rx)
            obtain ⟨as, h2⟩ := rep_reads I sg re ru
            obtain ⟨its, n, rv, ho, hz⟩ := I.lst ha
            obtain ⟨bs, h1⟩ := repL_reads I sg rr rv
            have hm : min (PyData.depthAll ds) e.depth ≤ e.depth := Nat.min_le_right _ _
            refine PySem.SeqAt.remove_list_data (vs := its.toArray) ⟨_, ho, rfl, n, rfl⟩ (by simpa using h1) h2 hk.1.1 hk.1.2 (by omega) hp (by rw [List.size_toArray, ← rv.length]; exact hz) ?_
            refine ⟨.non, _, I.lset (its' := its.eraseIdx j) (t' := s.toks) ha ho ?_ (rv.eraseIdx j) ?_, rfl, k _ _ (rr.eraseIdx j) .non⟩
            · show its.toArray.eraseIdxIfInBounds j = (its.eraseIdx j).toArray
              rw [List.eraseIdxIfInBounds_toArray]
            · have := len_erase vs j
              omega
    · cases hU
  · cases hU
theorem bt_str : bootBuiltins "str" = some (.type "str") := by decide +kernel
theorem bt_bool : bootBuiltins "bool" = some (.type "bool") := by decide +kernel
theorem stops_frz {g : Sx} (h : Stops g) : Stops (sFrz i g) := fun ds e q => by
  unfold sFrz at q
  split at q
  · exact h _ _ q
  · cases q
end
end VL

set_option Elab.async false
set_option linter.all false
set_option maxRecDepth 100000
set_option maxHeartbeats 1000000
/-! VLJ: things owned to a greater depth. -/
namespace VL
open PySem PySem.Spec L2
section
variable {K : PySem.W.Frag} {O : Gh} {Γ Δ : Ctx} {H H' G G' : Hp} {σ : St} {env : List D} {L : Nat → List Addr} {n m i : Nat} {v w : V} {d e : D} {M N : List Addr} {vs : List V} {ds : List D}
structure VML (K : PySem.W.Frag) (O : Gh) (Γ : Ctx) (H G : Hp) (L : Nat → List Addr) (n : Nat) (vs : List V) (ds : List D) (M : List Addr) : Prop where
  own : OwnL K H G n vs ds M
  nd : M.Nodup
  new : ∀ a ∈ M, O.own a
  dj : ∀ i m, At Γ i m → ∀ a ∈ M, a ∉ L i
theorem ownL_len : ∀ {n : Nat} {vs : List V} {ds : List D} {M : List Addr}, OwnL K H G n vs ds M → vs.length = ds.length
  | _, _, _, _, .nil => rfl
  | _, _, _, _, .cons _ t => by simp [ownL_len t]
/-- what came first beside what came later -/
theorem VML.cons {Γ' : Ctx} {σ' : St} {env' : List D} {L' : Nat → List Addr} (S : StR K O Γ H G σ env L) (S' : StR K (O.at Γ H G L) Γ' H' G' σ' env' L') (gg : Same G G') (h : VM K O Γ H G L n v d M) (h' : VML K (O.at Γ H G L) Γ' H' G' L' n vs ds N) : VML K O Γ' H' G' L' n (v :: vs) (d :: ds) (M ++ N) := by
  have t := h.through S S' gg
  refine ⟨.cons t.own h'.own, List.nodup_append.mpr ⟨h.nd, h'.nd, fun a ha b hb z => ?_⟩, fun a ha => ?_, fun i m hi a ha => ?_⟩
  · subst z
    obtain ⟨g, hs, _⟩ := h.own.objs a ha
    rcases h'.new a hb with z | z
    · change H a = none at z; rw [z] at hs; cases hs
    · obtain ⟨i, k, hi, hl⟩ := mem_allL.mp z
      exact h.dj i k hi a ha hl
  · rcases List.mem_append.mp ha with ha | ha
    · exact h.new a ha
    · exact S.own_of (h'.new a ha)
  · rcases List.mem_append.mp ha with ha | ha
    · exact t.dj i m hi a ha
    · exact h'.dj i m hi a ha
end
def tMAn (K : PySem.W.Frag) (Γ : Ctx) (fs : List Ex) (n : Nat) : TA := fun σ H Q => ∃ (O : Gh) (G : Hp) (env : List D) (L : Nat → List Addr) (rs : List D) (env' : List D), StR K O Γ H G σ env L ∧ evs fs env = some (rs, env') ∧
  ∀ vs H' G' L' M, StR K O Γ H' G' σ env' L' → Same G G' → VML K O Γ H' G' L' n vs rs M → Q vs H'
section
variable {X : Cx} {Γ Δ : Ctx} {T : Tg} {a b c : Expr} {pos apos cpos px : Pos} {f fa fb fc : Ex} {i j n : Nat} {x y : Str} {es : List Expr} {fs : List Ex}
theorem a_nilN : PA X [] (tMAn X.K Γ [] n) := pa_nil.imp fun σ H Q ⟨O, G, env, L, rs, env1, S, e, k⟩ => by
  simp only [evs, Option.some.injEq, Prod.mk.injEq] at e
  obtain ⟨rfl, rfl⟩ := e
  exact k [] H G L [] S (Same.refl _) ⟨.nil, List.nodup_nil, fun a m => (by cases m), fun _ _ _ a m => (by cases m)⟩
theorem a_consN (ha : PE X a (tM X.K Γ fa n)) (hr : PA X es (tMAn X.K Γ fs n)) (hs : starEach (a :: es) X.env = (false, eval a X.env) :: starEach es X.env := by rfl) : PA X (a :: es) (tMAn X.K Γ (fa :: fs) n) :=
  (pa_cons ha hr hs).imp fun σ H Q ⟨O, G, env, L, rs, env2, S, e, k⟩ => by
    simp only [evs] at e
    cases h1 : fa env with
    | none => rw [h1] at e; cases e
    | some p =>
      rw [h1] at e
      simp only [Option.bind_some] at e
      cases h2 : evs fs p.2 with
      | none => rw [h2] at e; cases e
      | some q =>
        rw [h2] at e
        simp only [Option.map_some, Option.some.injEq, Prod.mk.injEq] at e
        obtain ⟨rfl, rfl⟩ := e
        refine ⟨O, G, env, L, p.1, p.2, S, h1, fun v H1 G1 L1 S1 s1 v1 => ?_⟩
        obtain ⟨M, v1⟩ := v1.vm
        exact ⟨_, G1, p.2, L1, q.1, q.2, S1.reg, h2, fun vs H2 G2 L2 N S2 s2 r2 => k (v :: vs) H2 G2 L2 (M ++ N) (S1.unreg S2) (s1.trans s2) (VML.cons S1 S2 s2 v1 r2)⟩
theorem own_new {O : Gh} {H G : Hp} {σ : St} {env : List D} {L : Nat → List Addr} {p : Addr} {K : PySem.W.Frag} (S : StR K O Γ H G σ env L) (hp : H p = none) : G p = none ∧ O.own p ∧ ∀ i m, At Γ i m → p ∉ L i := by
  refine ⟨S.gh.free hp, ?_, fun i m hi ha => ?_⟩
  · cases r : O.H0 p with
    | none => exact .inl r
    | some u =>
      by_cases hA : p ∈ O.A
      · exact .inr hA
      · rw [S.pres p u r hA] at hp; cases hp
  · obtain ⟨_, _, _, _, o⟩ := S.slot i m hi
    have := (o.objs p ha).2.1
    rw [hp] at this; cases this
theorem m_lstN (h : PA X es (tMAn X.K Γ fs n)) (hl : fs.length ≤ 1000 := by decide) : PE X (.List es pos) (tM X.K Γ (eLst fs) (n + 1)) :=
  (pe_lst h).imp fun σ H Q ⟨O, G, env, L, r, env2, S, e, k⟩ => by
    obtain ⟨xs, e1, e2⟩ := eNs_some e
    cases e2
    refine ⟨O, G, env, L, xs, env2, S, e1, fun vs H1 G1 L1 M S1 s1 r1 => ⟨by rw [ownL_len r1.own, evs_len e1]; exact small_size hl, fun p hp => ?_⟩⟩
    obtain ⟨g, ow, dj⟩ := own_new S1 hp
    have ne : ∀ b ∈ M, b ≠ p := fun b hb z => by
      have := (OwnL.objs r1.own b hb).2.1
      rw [z, hp] at this; cases this
    refine k _ _ G1 L1 (S1.put g dj ow) s1 ⟨p :: M, .lst upd_same g (r1.own.mono (Same.refl _) fun b hb => ⟨upd_ne (ne b hb), (OwnL.objs r1.own b hb).1⟩), List.nodup_cons.mpr ⟨fun z => ne p z rfl, r1.nd⟩, fun b hb => ?_, fun i m hi b hb => ?_⟩
    · rcases List.mem_cons.mp hb with rfl | hb
      · exact ow
      · exact r1.new b hb
    · rcases List.mem_cons.mp hb with rfl | hb
      · exact dj i m hi
      · exact r1.dj i m hi b hb
theorem m_tupN {x1} (h : PA X es (tMAn X.K Γ fs (n + 1))) (hl : fs.length ≤ 1000 := by decide) : PE X (.Tuple es x1 pos) (tM X.K Γ (eTup fs) (n + 1)) :=
  (pe_tupP h).imp fun σ H Q ⟨O, G, env, L, r, env2, S, e, k⟩ => by
    obtain ⟨xs, e1, e2⟩ := eNs_some e
    cases e2
    refine ⟨O, G, env, L, xs, env2, S, e1, fun vs H1 G1 L1 M S1 s1 r1 => ⟨by rw [ownL_len r1.own, evs_len e1]; exact small_size hl, fun p o hp hc hd => ?_⟩⟩
    obtain ⟨g, ow, dj⟩ := own_new S1 hp
    have ne : ∀ b ∈ M, b ≠ p := fun b hb z => by
      have := (OwnL.objs r1.own b hb).2.1
      rw [z, hp] at this; cases this
    have gg : Same G1 (upd G1 p (.frz o (.tup vs))) := fun b o e => by rw [upd_ne (ne_of_none e g)]; exact e
    exact k _ _ _ L1 (S1.frzA g ow dj) (s1.trans gg) ⟨M, .tup (.inl ⟨o, upd_same, hc, hd⟩) (r1.own.mono gg fun b hb => ⟨upd_ne (ne b hb), by rw [upd_ne (ne b hb)]; exact (OwnL.objs r1.own b hb).1⟩), r1.nd, r1.new, r1.dj⟩
/-! ### t[k], t a tuple that has come with what it owns -/
def ixT (d : D) (j : Nat) : Option D := match d with
  | .tuple xs => xs[j]?
  | _ => none
def eIxT (j : Nat) (f : Ex) : Ex := eUn (fun d => ixT d j) f
theorem ownL_get {K : PySem.W.Frag} {H G : Hp} : ∀ {n j : Nat} {vs : List V} {ds : List D} {M : List Addr} {d : D}, OwnL K H G n vs ds M → ds[j]? = some d → ∃ v N, vs[j]? = some v ∧ Own K H G n v d N ∧ N.Sublist M
  | _, _, _, _, _, _, .nil, e => by simp at e
  | _, 0, _, _, _, _, .cons h t, e => by
    simp only [List.getElem?_cons_zero, Option.some.injEq] at e
    subst e
    exact ⟨_, _, rfl, h, List.sublist_append_left _ _⟩
  | _, j + 1, _, _, _, _, .cons h t, e => by
    obtain ⟨v, N, h1, h2, h3⟩ := ownL_get (j := j) t (by simpa using e)
    exact ⟨v, N, by simpa using h1, h2, h3.trans (List.sublist_append_right _ _)⟩
theorem m_ixO (j : Nat) {kk : Nat} {p2 : Pos} (ha : PE X a (tM X.K Γ fa (n + 1))) (hs : PlainIx (.Constant (.int (j : Int)) kk p2) := by intro _ _; rfl) : PE X (.Subscript a (.Constant (.int (j : Int)) kk p2) pos) (tM X.K Γ (eIxT j fa) (n + 1)) :=
  (pe_ix ix_tup ha pe_int hs).imp fun σ H Q ⟨O, G, env, L, r, env2, S, e, k⟩ => by
    obtain ⟨xd, e1, e2⟩ := eUn_some e
    unfold ixT at e2
    split at e2
    · rename_i xs
      refine ⟨O, G, env, L, .tuple xs, env2, S, e1, fun v H1 G1 L1 S1 s1 ⟨M, om, nd, ow, dj⟩ => ?_⟩
      cases om with
      | imm ei rr =>
        cases rr with
        | @tup ad vs _ hq rl =>
          obtain ⟨w, h1, h2⟩ := rl.get e2
          refine ⟨ad, vs, (j : Int), w, rfl, rfl, sqT_mono S1.gh hq.sqT, atI_nat h1, k w H1 G1 L1 S1 s1 ⟨[], .imm ?_ h2, List.nodup_nil, fun a m => (by cases m), fun _ _ _ a m => (by cases m)⟩⟩
          simp only [immut] at ei
          rw [immutL_all] at ei
          exact List.all_eq_true.mp ei _ (List.mem_of_getElem? e2)
      | @tup _ ad vs _ _ hq ol =>
        obtain ⟨w, N, h1, h2, h3⟩ := ownL_get ol e2
        exact ⟨ad, vs, (j : Int), w, rfl, rfl, sqT_mono S1.gh hq.sqT, atI_nat h1, k w H1 G1 L1 S1 s1 ⟨N, h2, nd.sublist h3, fun a ha => ow a (h3.subset ha), fun i m hi a ha => dj i m hi a (h3.subset ha)⟩⟩
    · cases e2
/-! ### a name's value taken out of the state, and put back -/
theorem at_un {Γ : Ctx} {i j m : Nat} (h : At (Γ.set i .un) j m) : j ≠ i ∧ At Γ j m := by
  obtain ⟨k, e1, e2⟩ := h
  by_cases z : j = i
  · subst z
    by_cases hl : j < Γ.length
    · rw [List.getElem?_set_self hl] at e1; cases e1; cases e2
    · rw [List.getElem?_eq_none (by simp; omega)] at e1; cases e1
  · rw [List.getElem?_set_ne (Ne.symm z)] at e1
    exact ⟨z, k, e1, e2⟩
theorem StR.lift {K : PySem.W.Frag} {O : Gh} {H G : Hp} {σ : St} {env : List D} {L : Nat → List Addr} (S : StR K O Γ H G σ env L) (hi : Γ[i]? = some (.ow n)) : ∃ v d, σ[i]? = some (some v) ∧ env[i]? = some d ∧ StR K O (Γ.set i .un) H G σ env L ∧ VM K O (Γ.set i .un) H G L n v d (L i) := by
  have hai : At Γ i n := ⟨_, hi, rfl⟩
  obtain ⟨v, d, e1, e2, o⟩ := S.slot i n hai
  refine ⟨v, d, e1, e2, ⟨S.gh, S.ls, by simp [S.lg], fun j m hj => S.slot j m (at_un hj).2, fun j m hj => S.nd j m (at_un hj).2, fun j j' m m' hj hj' => S.dj j j' m m' (at_un hj).2 (at_un hj').2, fun j m hj => S.new j m (at_un hj).2, S.pres, S.gn, fun j m e => ?_⟩, ⟨o, S.nd i n hai, S.new i n hai, fun j m hj a ha hl => S.dj i j n m hai (at_un hj).2 (Ne.symm (at_un hj).1) a ha hl⟩⟩
  by_cases z : j = i
  · subst z; rw [List.getElem?_set_self (List.getElem?_eq_some_iff.mp hi).1] at e; cases e
  · rw [List.getElem?_set_ne (Ne.symm z)] at e; exact S.io j m e
theorem set_self {α : Type} {l : List α} {i : Nat} {x : α} (h : l[i]? = some x) : l.set i x = l := by
  apply List.ext_getElem?
  intro j
  by_cases z : i = j
  · subst z; rw [List.getElem?_set_self (List.getElem?_eq_some_iff.mp h).1, h]
  · rw [List.getElem?_set_ne z]
theorem StR.lower {K : PySem.W.Frag} {O : Gh} {H G : Hp} {σ : St} {env : List D} {L : Nat → List Addr} {v : V} {d : D} {M : List Addr} (S : StR K O (Γ.set i .un) H G σ env L) (hi : Γ[i]? = some (.ow n)) (e1 : σ[i]? = some (some v)) (hv : VM K O (Γ.set i .un) H G L n v d M) : StR K O Γ H G σ (env.set i d) (setL L i M) := by
  have hl : i < Γ.length := (List.getElem?_eq_some_iff.mp hi).1
  have := S.setM hv (by simpa using hl) (fun m => by rw [List.getElem?_set_self hl]; exact fun z => by cases z)
  rw [List.set_set, set_self hi, set_self e1] at this
  exact this
theorem ownL_app {K : PySem.W.Frag} {H G : Hp} : ∀ {n : Nat} {vs us : List V} {ds es : List D} {M N : List Addr}, OwnL K H G n vs ds M → OwnL K H G n us es N → OwnL K H G n (vs ++ us) (ds ++ es) (M ++ N)
  | _, _, _, _, _, _, _, .nil, t => t
  | _, _, _, _, _, _, _, .cons h s, t => by
    rw [List.append_assoc]
    exact .cons h (ownL_app s t)
/-- x.append(e), x owned to one depth more than e -/
def eAppN (i : Nat) (f : Ex) : Ex := fun env => match env[i]? with
  | some (.list ds) => if ds.length < lim then (f env).map fun p => (.none, p.2.set i (.list (ds ++ [p.1]))) else none
  | _ => none
theorem eAppN_some {env env2 : List D} {r : D} (e : eAppN i f env = some (r, env2)) : ∃ ds d env1, env[i]? = some (.list ds) ∧ ds.length < lim ∧ f env = some (d, env1) ∧ r = .none ∧ env2 = env1.set i (.list (ds ++ [d])) := by
  unfold eAppN at e
  split at e
  · rename_i ds he
    split at e
    · rename_i hl
      cases q : f env with
      | none => rw [q] at e; cases e
      | some p =>
        rw [q] at e
        simp only [Option.map_some, Option.some.injEq, Prod.mk.injEq] at e
        exact ⟨ds, p.1, p.2, he, hl, rfl, e.1.symm, e.2.symm⟩
    · cases e
  · cases e
theorem m_appN (i : Nat) (he : PE X a (tM X.K (Γ.set i .un) f n)) (hx : X.N[i]? = some x := by rfl) (hv : Vis X.env.scope x := by first | exact Or.inl rfl | exact Or.inr (Or.inl rfl) | exact Or.inr (Or.inr rfl)) (hg : Γ[i]? = some (.ow (n + 1)) := by rfl) (hd : (x == ("__debug__" : Str)) = false := by decide) (hcd : (x == ("__classdict__" : Str)) = false := by decide)
    (hbase : attributeBase (.Name x px) "append" X.env (eval (.Name x px) X.env) = eval (.Name x px) X.env := by rfl)
    (hfew : ((backTo pos (starEach [a] X.env)).all (fun x => !x.1) && (backToKw pos (keywordEach [] X.env)).all (fun x => x.1.isSome) && decide (([a] : List Expr).length + ([] : List Keyword).length + (if ([] : List Keyword).isEmpty then 0 else 1) < 30)) = true := by rfl)
    (hline : (apos.endLine == pos.line) = true := by rfl) (hs : starEach [a] X.env = (false, eval a X.env) :: starEach [] X.env := by rfl) (hplain : (backTo pos (starEach [] X.env)).any (·.1) = false := by rfl) : PE X (.Call (.Attribute (.Name x px) "append" apos) [a] [] pos) (tM X.K Γ (eAppN i f) 0) :=
  (pe_bm PySem.F.plainAttrs_list PySem.F.slot_list_append PySem.F.type_list_append mt_append (pe_var hx hv hd hcd) (pa_cons he pa_nil hs) hbase hfew hline hs hplain).imp fun σ H Q ⟨O, G, env, L, z, env2, S, e, k⟩ => by
    obtain ⟨ds, d1, env1, e0, hlt, e1, rfl, rfl⟩ := eAppN_some e
    obtain ⟨v0, d0, y1, y2, S0, vm⟩ := S.lift hg
    rw [e0] at y2
    cases y2
    generalize hM : L i = M at vm
    have own := vm.own
    cases own with
    | imm ei _ => simp [immut] at ei
    | @lst _ ad vs _ M' h g ol =>
      refine ⟨_, y1, .inl ⟨rfl, _, SqL.of h⟩, _, G, env, L, d1, env1, S0.reg, e1, fun u H1 G1 L1 S1 s1 r1 => ?_⟩
      obtain ⟨N, r1⟩ := r1.vm
      have t := vm.through S0 S1 s1
      have S1' := S0.unreg S1
      have hN := vm.apart r1
      have own1 := t.own
      cases own1 with
      | @lst _ _ vs _ _ h1 g1 ol1 =>
        refine ⟨ad, vs, u, rfl, rfl, h1, by rw [ownL_len ol1]; exact lim_lt hlt, ?_⟩
        have hadM : ad ∉ M' := (List.nodup_cons.mp vm.nd).1
        have put := S1'.put (o := .lst (vs ++ [u])) g1 (fun j m hj => t.dj j m hj ad List.mem_cons_self) (vm.new ad List.mem_cons_self)
        have own' : Own X.K (upd H1 ad (.lst (vs ++ [u]))) G1 (n + 1) (.ref ad) (.list (ds ++ [d1])) (ad :: (M' ++ (N ++ []))) :=
          .lst upd_same g1 (ownL_app (ol1.mono (Same.refl _) fun b hb => ⟨upd_ne fun q => hadM (q ▸ hb), (OwnL.objs ol1 b hb).1⟩) (.cons (r1.own.mono (Same.refl _) fun b hb => ⟨upd_ne fun q => hN b hb (q ▸ List.mem_cons_self), (r1.own.objs b hb).1⟩) .nil))
        rw [List.append_nil] at own'
        have vm' : VM X.K O (Γ.set i .un) (upd H1 ad (.lst (vs ++ [u]))) G1 L1 (n + 1) (.ref ad) (.list (ds ++ [d1])) (ad :: (M' ++ N)) := by
          refine ⟨own', List.nodup_cons.mpr ⟨fun q => ?_, List.nodup_append.mpr ⟨(List.nodup_cons.mp vm.nd).2, r1.nd, fun p hp q hq z => hN q hq (z ▸ List.mem_cons_of_mem _ hp)⟩⟩, fun b hb => ?_, fun j m hj b hb => ?_⟩
          · rcases List.mem_append.mp q with q | q
            · exact hadM q
            · exact hN ad q List.mem_cons_self
          · rcases List.mem_cons.mp hb with rfl | hb
            · exact vm.new _ List.mem_cons_self
            · rcases List.mem_append.mp hb with hb | hb
              · exact vm.new b (List.mem_cons_of_mem _ hb)
              · exact S0.own_of (r1.new b hb)
          · rcases List.mem_cons.mp hb with rfl | hb
            · exact t.dj j m hj _ List.mem_cons_self
            · rcases List.mem_append.mp hb with hb | hb
              · exact t.dj j m hj b (List.mem_cons_of_mem _ hb)
              · exact r1.dj j m hj b hb
        exact k .non _ G1 _ (put.lower hg y1 vm') s1 (.of_rep .non)
/-- x[k].append(e), x a list of lists -/
def eAppIx (i : Nat) (fb f : Ex) : Ex := fun env => (fb env).bind fun q => match q.1, q.2[i]? with
  | .int k, some (.list ds) => (ixN ds.length k).bind fun j => match ds[j]? with
    | some (.list xs) => if xs.length < lim then (f q.2).map fun p => (.none, p.2.set i (.list (ds.set j (.list (xs ++ [p.1]))))) else none
    | _ => none
  | _, _ => none
theorem ownL_upd {K : PySem.W.Frag} {H G : Hp} {u : V} {d : D} (ru : Rep K G u d) : ∀ {j : Nat} {vs : List V} {ds : List D} {M : List Addr} {xs : List D}, OwnL K H G 1 vs ds M → M.Nodup → ds[j]? = some (.list xs) → ∃ p ys, vs[j]? = some (.ref p) ∧ H p = some (.lst ys) ∧ G p = none ∧ p ∈ M ∧ ys.length = xs.length ∧
    OwnL K (upd H p (.lst (ys ++ [u]))) G 1 vs (ds.set j (.list (xs ++ [d]))) M
  | _, _, _, _, _, .nil, _, e => by simp at e
  | 0, _, _, _, _, .cons (L := L1) (M := M1) h t, nd, e => by
    simp only [List.getElem?_cons_zero, Option.some.injEq] at e
    subst e
    cases h with
    | imm ei _ => simp [immut] at ei
    | @lst _ p ys _ Lx h1 g1 ol =>
      obtain ⟨rfl, rl⟩ := repL0 ol
      refine ⟨p, ys, rfl, h1, g1, by simp, rl.length, .cons (.lst upd_same g1 (ownL0 (rl.append (.cons ru .nil)))) (t.mono (Same.refl _) fun b hb => ⟨upd_ne fun q => ?_, (OwnL.objs t b hb).1⟩)⟩
      subst q
      exact (List.nodup_append.mp nd).2.2 b (by simp) b hb rfl
  | j + 1, _, _, _, _, .cons (L := L1) (M := M1) h t, nd, e => by
    obtain ⟨nd1, nd2, nd3⟩ := List.nodup_append.mp nd
    obtain ⟨p, ys, h1, h2, h3, h4, h5, h6⟩ := ownL_upd ru (j := j) t nd2 (by simpa using e)
    refine ⟨p, ys, by simpa using h1, h2, h3, List.mem_append_right _ h4, h5, .cons (h.mono (Same.refl _) fun b hb => ⟨upd_ne fun q => ?_, (h.objs b hb).1⟩) h6⟩
    subst q
    exact nd3 b hb b h4 rfl
theorem m_appIx (i : Nat) (hb : PE X b (tM X.K Γ fb 0)) (he : PE X a (tM X.K (Γ.set i .un) f 0)) (hx : X.N[i]? = some x := by rfl) (hv : Vis X.env.scope x := by first | exact Or.inl rfl | exact Or.inr (Or.inl rfl) | exact Or.inr (Or.inr rfl)) (hg : Γ[i]? = some (.ow 2) := by rfl) (hd : (x == ("__debug__" : Str)) = false := by decide) (hcd : (x == ("__classdict__" : Str)) = false := by decide)
    (hs0 : PlainIx b := by intro _ _; rfl) {p2 : Pos}
    (hbase : attributeBase (.Subscript (.Name x px) b p2) "append" X.env (eval (.Subscript (.Name x px) b p2) X.env) = eval (.Subscript (.Name x px) b p2) X.env := by rfl)
    (hfew : ((backTo pos (starEach [a] X.env)).all (fun x => !x.1) && (backToKw pos (keywordEach [] X.env)).all (fun x => x.1.isSome) && decide (([a] : List Expr).length + ([] : List Keyword).length + (if ([] : List Keyword).isEmpty then 0 else 1) < 30)) = true := by rfl)
    (hline : (apos.endLine == pos.line) = true := by rfl) (hs : starEach [a] X.env = (false, eval a X.env) :: starEach [] X.env := by rfl) (hplain : (backTo pos (starEach [] X.env)).any (·.1) = false := by rfl) : PE X (.Call (.Attribute (.Subscript (.Name x px) b p2) "append" apos) [a] [] pos) (tM X.K Γ (eAppIx i fb f) 0) :=
  (pe_bm PySem.F.plainAttrs_list PySem.F.slot_list_append PySem.F.type_list_append mt_append (pe_ix ix_list (pe_var hx hv hd hcd) hb hs0) (pa_cons he pa_nil hs) hbase hfew hline hs hplain).imp fun σ H Q ⟨O, G, env, L, z, env3, S, e, k⟩ => by
    unfold eAppIx at e
    cases q1 : fb env with
    | none => rw [q1] at e; cases e
    | some q =>
      rw [q1] at e
      simp only [Option.bind_some] at e
      obtain ⟨kd, env1⟩ := q
      simp only at e
      split at e
      · rename_i kk ds hds
        cases hj : ixN ds.length kk with
        | none => rw [hj] at e; cases e
        | some j =>
          rw [hj] at e
          simp only [Option.bind_some] at e
          split at e
          · rename_i xs hxs
            split at e
            · rename_i hlt
              cases q2 : f env1 with
              | none => rw [q2] at e; cases e
              | some p =>
                rw [q2] at e
                simp only [Option.map_some, Option.some.injEq, Prod.mk.injEq] at e
                obtain ⟨rfl, rfl⟩ := e
                obtain ⟨v0, d0, y1, y2, om0⟩ := S.slot i 2 ⟨_, hg, rfl⟩
                refine ⟨v0, y1, O, G, env, L, .int kk, env1, S, q1, fun w H1 G1 L1 S1 s1 v1 => ?_⟩
                have r1 := v1.rep
                cases r1
                obtain ⟨v1', d1', z1, z2, S2, vm⟩ := S1.lift hg
                rw [hds] at z2
                cases z2
                rw [y1] at z1
                cases z1
                generalize hM : L1 i = M at vm
                have own := vm.own
                cases own with
                | imm ei _ => simp [immut] at ei
                | @lst _ ad vs _ M' h g ol =>
                  obtain ⟨hadM, nd'⟩ := List.nodup_cons.mp vm.nd
                  obtain ⟨pin, ys, a1, a2, a3, a4, a5, _⟩ := ownL_upd (u := .non) (d := .none) .non ol nd' hxs
                  refine ⟨ad, vs, kk, .ref pin, rfl, rfl, SqL.of h, ?_, ?_⟩
                  · unfold atI
                    rw [ownL_len ol, hj]
                    exact a1
                  · refine ⟨.inl ⟨rfl, _, SqL.of a2⟩, _, G1, env1, L1, p.1, p.2, S2.reg, q2, fun u H3 G3 L3 S3 s3 r3 => ?_⟩
                    have t := vm.through S2 S3 s3
                    have S3' := S2.unreg S3
                    have own3 := t.own
                    cases own3 with
                    | @lst _ _ vs3 _ _ h3 g3 ol3 =>
                      have eA := (S2.aside S3 h g fun i m hi => vm.dj i m hi ad List.mem_cons_self).1
                      rw [h3] at eA
                      cases eA
                      obtain ⟨pin', ys', b1, b2, b3, b4, b5, b6⟩ := ownL_upd r3.rep ol3 nd' hxs
                      rw [a1] at b1
                      cases b1
                      have ne : ad ≠ pin := fun q => hadM (q ▸ b4)
                      refine ⟨pin, ys', u, rfl, rfl, b2, by rw [b5]; exact lim_lt hlt, ?_⟩
                      have put := S3'.put (o := .lst (ys' ++ [u])) b3 (fun jj m hjj => t.dj jj m hjj pin (List.mem_cons_of_mem _ b4)) (vm.new pin (List.mem_cons_of_mem _ b4))
                      have vm' : VM X.K O (Γ.set i .un) (upd H3 pin (.lst (ys' ++ [u]))) G3 L3 2 (.ref ad) (.list (ds.set j (.list (xs ++ [p.1])))) (ad :: M') := ⟨.lst (by rw [upd_ne ne]; exact h3) g3 b6, vm.nd, vm.new, t.dj⟩
                      exact k .non _ G3 _ (put.lower hg y1 vm') (s1.trans s3) (.of_rep .non)
            · cases e
          · cases e
      · cases e
/-- return (x, y) of owned names -/
theorem hid_rt {K : PySem.W.Frag} {O : Gh} {H G : Hp} {σ : St} {env : List D} {L : Nat → List Addr} {R : Ctx} {m : Nat} (S : StR K O Γ H G σ env L) (hg : Γ[i]? = some (.ow m)) (hr : R[i]? = some .un) (hw : wkB Γ R = true) : (∀ a ∈ L i, a ∉ wkL Γ R L) ∧ ∀ j m, At R j m → ∀ a ∈ L i, a ∉ wkLs R L j := by
  refine ⟨fun a ha hm => ?_, fun j m' hj a ha hl => ?_⟩
  · obtain ⟨i', n', y1, y2, ha'⟩ := mem_wkL.mp hm
    have ne : i ≠ i' := fun z => by subst z; rw [hr] at y1; cases y1
    exact S.dj i i' _ n' ⟨_, hg, rfl⟩ ⟨_, y2, rfl⟩ ne a ha ha'
  · obtain ⟨kk, y1, y2⟩ := hj
    have ne : i ≠ j := fun z => by subst z; rw [hr] at y1; cases y1; cases y2
    rcases wkB_get hw y1 with rfl | ⟨rfl, n', hn⟩ | hn
    · cases y2
    · unfold wkLs at hl; rw [if_pos y1] at hl; cases hl
    · unfold wkLs at hl
      split at hl
      · cases hl
      · exact S.dj i j _ m' ⟨_, hg, rfl⟩ ⟨kk, hn, y2⟩ ne a ha hl
theorem s_retTO (i j : Nat) {Γ1 : Ctx} {py pt : Pos} {kk : Nat} (hT : T.n = n + 1 := by rfl) (hij : i ≠ j := by decide) (hx : X.N[i]? = some x := by rfl) (hy : X.N[j]? = some y := by rfl) (vx : Vis X.env.scope x := by first | exact Or.inl rfl | exact Or.inr (Or.inl rfl) | exact Or.inr (Or.inr rfl)) (vy : Vis X.env.scope y := by first | exact Or.inl rfl | exact Or.inr (Or.inl rfl) | exact Or.inr (Or.inr rfl))
    (gi : Γ[i]? = some (.ow (n + 1)) := by rfl) (gj : Γ[j]? = some (.ow (n + 1)) := by rfl) (ri : T.rt[i]? = some .un := by rfl) (rj : T.rt[j]? = some .un := by rfl) (hw : wkB Γ T.rt = true := by rfl)
    (dx : (x == ("__debug__" : Str)) = false := by decide) (cx : (x == ("__classdict__" : Str)) = false := by decide) (dy : (y == ("__debug__" : Str)) = false := by decide) (cy : (y == ("__classdict__" : Str)) = false := by decide)
    (h1 : starEach [.Name x px, .Name y py] X.env = (false, eval (.Name x px) X.env) :: starEach [.Name y py] X.env := by rfl) (h2 : starEach [.Name y py] X.env = (false, eval (.Name y py) X.env) :: starEach [] X.env := by rfl) :
    PS X (.Return (some (.Tuple [.Name x px, .Name y py] kk pt)) pos) (tS X.K T Γ Γ1 (retE (eTup [eVar i, eVar j]))) :=
  (ps_ret (pe_tupP (pa_cons (pe_var hx vx dx cx) (pa_cons (pe_var hy vy dy cy) pa_nil h2) h1))).imp fun E σ H ⟨O, G, env, L, o, S, e, k⟩ => by
    obtain ⟨r, env1, e1, rfl⟩ := retE_some e
    obtain ⟨u, d, z1, z2, om⟩ := S.slot i (n + 1) ⟨_, gi, rfl⟩
    obtain ⟨w, d', z3, z4, om'⟩ := S.slot j (n + 1) ⟨_, gj, rfl⟩
    have er : r = .tuple [d, d'] ∧ env1 = env := by
      simp only [eTup, eNs, evs, eVar, z2, z4, Option.map_some, Option.bind_some, Option.some.injEq, Prod.mk.injEq] at e1
      exact ⟨e1.1.symm, e1.2.symm⟩
    obtain ⟨rfl, rfl⟩ := er
    refine ⟨u, z1, w, z3, by show 2 ≤ sizeLine; decide, fun p o hp hc hd => ?_⟩
    obtain ⟨g, ow, dj⟩ := own_new S hp
    have gg0 : Same G (upd G p (.frz o (.tup [u, w]))) := fun b o e => by rw [upd_ne (ne_of_none e g)]; exact e
    have S' := S.frzA (u := .frz o (.tup [u, w])) g ow dj
    obtain ⟨gg, S2, _⟩ := S'.weak hw
    obtain ⟨hA, hB⟩ := hid_rt S' gi ri hw
    obtain ⟨hA', hB'⟩ := hid_rt S' gj rj hw
    obtain ⟨_, _, y1, y2, om1⟩ := S'.slot i (n + 1) ⟨_, gi, rfl⟩
    obtain ⟨_, _, y3, y4, om2⟩ := S'.slot j (n + 1) ⟨_, gj, rfl⟩
    rw [z1] at y1; cases y1
    rw [z2] at y2; cases y2
    rw [z3] at y3; cases y3
    rw [z4] at y4; cases y4
    have o1 := om1.mono gg fun a ha => ⟨rfl, by rw [shw_not (hA a ha)]; exact (om1.objs a ha).1⟩
    have o2 := om2.mono gg fun a ha => ⟨rfl, by rw [shw_not (hA' a ha)]; exact (om2.objs a ha).1⟩
    refine k _ σ _ _ _ S2 (gg0.trans gg) ?_
    rw [hT]
    refine ⟨L i ++ (L j ++ []), .tup (.inl ⟨o, gg _ _ upd_same, hc, hd⟩) (.cons o1 (.cons o2 .nil)), ?_, fun a ha => ?_, fun i' m hi' a ha => ?_⟩
    · rw [List.append_nil]
      exact List.nodup_append.mpr ⟨S.nd i _ ⟨_, gi, rfl⟩, S.nd j _ ⟨_, gj, rfl⟩, fun a ha b hb z => S.dj i j _ _ ⟨_, gi, rfl⟩ ⟨_, gj, rfl⟩ hij a ha (z ▸ hb)⟩
    · rw [List.append_nil] at ha
      rcases List.mem_append.mp ha with ha | ha
      · exact S.new i _ ⟨_, gi, rfl⟩ a ha
      · exact S.new j _ ⟨_, gj, rfl⟩ a ha
    · rw [List.append_nil] at ha
      rcases List.mem_append.mp ha with ha | ha
      · exact hB i' m hi' a ha
      · exact hB' i' m hi' a ha
end
end VL

set_option Elab.async false
set_option linter.all false
set_option maxRecDepth 100000
set_option maxHeartbeats 1000000
/-! VLK: displays with stars, small dict displays, global tuples. -/
namespace VL
open PySem PySem.Spec L2
abbrev Lx := List D → Option (List D × List D)
def tMB (K : PySem.W.Frag) (Γ : Ctx) (F : Lx) : TA := fun σ H Q => ∃ (O : Gh) (G : Hp) (env : List D) (L : Nat → List Addr) (rs : List D) (env' : List D), StR K O Γ H G σ env L ∧ F env = some (rs, env') ∧
  ∀ vs H' G' L', StR K O Γ H' G' σ env' L' → Same G G' → RepL K G' vs rs → Q vs H'
def lNil : Lx := fun env => some ([], env)
def lCons (f : Ex) (F : Lx) : Lx := fun env => (f env).bind fun p => (F p.2).map fun q => (p.1 :: q.1, q.2)
def lStar (f : Ex) (F : Lx) : Lx := fun env => (f env).bind fun p => (itemsD p.1).bind fun ds => (F p.2).map fun q => (ds ++ q.1, q.2)
def eTupB (F : Lx) : Ex := fun env => (F env).bind fun p => if p.1.length ≤ lim then some (.tuple p.1, p.2) else none
def eLstB (F : Lx) : Ex := fun env => (F env).bind fun p => if p.1.length ≤ lim then some (.list p.1, p.2) else none
section
variable {X : Cx} {Γ Δ : Ctx} {T : Tg} {a b c : Expr} {pos apos cpos px : Pos} {f fa fb fc : Ex} {i j n : Nat} {x y : Str} {es : List Expr} {F : Lx}
theorem l_nil : PA X [] (tMB X.K Γ lNil) := pa_nil.imp fun σ H Q ⟨O, G, env, L, rs, env1, S, e, k⟩ => by
  simp only [lNil, Option.some.injEq, Prod.mk.injEq] at e
  obtain ⟨rfl, rfl⟩ := e
  exact k [] H G L S (Same.refl _) .nil
theorem l_cons (ha : PE X a (tM X.K Γ fa 0)) (hr : PA X es (tMB X.K Γ F)) (hs : starEach (a :: es) X.env = (false, eval a X.env) :: starEach es X.env := by rfl) : PA X (a :: es) (tMB X.K Γ (lCons fa F)) :=
  (pa_cons ha hr hs).imp fun σ H Q ⟨O, G, env, L, rs, env2, S, e, k⟩ => by
    unfold lCons at e
    cases h1 : fa env with
    | none => rw [h1] at e; cases e
    | some p =>
      rw [h1] at e
      simp only [Option.bind_some] at e
      cases h2 : F p.2 with
      | none => rw [h2] at e; cases e
      | some q =>
        rw [h2] at e
        simp only [Option.map_some, Option.some.injEq, Prod.mk.injEq] at e
        obtain ⟨rfl, rfl⟩ := e
        exact ⟨O, G, env, L, p.1, p.2, S, h1, fun v H1 G1 L1 S1 s1 v1 => ⟨O, G1, p.2, L1, q.1, q.2, S1, h2, fun vs H2 G2 L2 S2 s2 r2 => k (v :: vs) H2 G2 L2 S2 (s1.trans s2) (.cons (v1.rep.mono s2) r2)⟩⟩
theorem l_star (ha : PE X a (tM X.K Γ fa 0)) (hr : PA X es (tMB X.K Γ F)) (hs : starEach (.Starred a px :: es) X.env = (true, eval a X.env) :: starEach es X.env := by rfl) : PA X (.Starred a px :: es) (tMB X.K Γ (lStar fa F)) :=
  (StX.pa_star ha hr hs).imp fun σ H Q ⟨O, G, env, L, rs, env2, S, e, k⟩ => by
    unfold lStar at e
    cases h1 : fa env with
    | none => rw [h1] at e; cases e
    | some p =>
      rw [h1] at e
      simp only [Option.bind_some] at e
      cases h3 : itemsD p.1 with
      | none => rw [h3] at e; cases e
      | some ds =>
        rw [h3] at e
        simp only [Option.bind_some] at e
        cases h2 : F p.2 with
        | none => rw [h2] at e; cases e
        | some q =>
          rw [h2] at e
          simp only [Option.map_some, Option.some.injEq, Prod.mk.injEq] at e
          obtain ⟨rfl, rfl⟩ := e
          refine ⟨O, G, env, L, p.1, p.2, S, h1, fun v H1 G1 L1 S1 s1 v1 => ?_⟩
          have r1 := v1.rep
          obtain ⟨x0, env0⟩ := p
          simp only at *
          cases r1 with
          | @tup ad vs _ hq rl =>
            cases h3
            exact ⟨ad, vs, rfl, .inl (sqT_mono S1.gh hq.sqT), O, G1, _, L1, q.1, q.2, S1, h2, fun us H2 G2 L2 S2 s2 r2 => k (vs ++ us) H2 G2 L2 S2 (s1.trans s2) ((rl.mono s2).append r2)⟩
          | @lst ad vs _ hq rl =>
            cases h3
            exact ⟨ad, vs, rfl, .inr (SqL.of (S1.gh _ _ hq)), O, G1, _, L1, q.1, q.2, S1, h2, fun us H2 G2 L2 S2 s2 r2 => k (vs ++ us) H2 G2 L2 S2 (s1.trans s2) ((rl.mono s2).append r2)⟩
          | _ => cases h3
theorem m_tupB {x1} (h : PA X es (tMB X.K Γ F)) : PE X (.Tuple es x1 pos) (tM X.K Γ (eTupB F) 0) :=
  (pe_tupP h).imp fun σ H Q ⟨O, G, env, L, r, env2, S, e, k⟩ => by
    unfold eTupB at e
    cases h1 : F env with
    | none => rw [h1] at e; cases e
    | some p =>
      rw [h1] at e
      simp only [Option.bind_some] at e
      split at e
      · rename_i hl
        cases e
        refine ⟨O, G, env, L, p.1, p.2, S, h1, fun vs H1 G1 L1 S1 s1 r1 => ⟨by rw [r1.length]; exact lim_le hl, fun p o hp hc hd => ?_⟩⟩
        have R := Res.newT S1.gh hp hc hd r1
        exact k _ _ _ L1 (S1.res R).1 (s1.trans R.gg) (S1.res R).2
      · cases e
theorem m_lstB (h : PA X es (tMB X.K Γ F)) : PE X (.List es pos) (tM X.K Γ (eLstB F) 1) :=
  (pe_lst h).imp fun σ H Q ⟨O, G, env, L, r, env2, S, e, k⟩ => by
    unfold eLstB at e
    cases h1 : F env with
    | none => rw [h1] at e; cases e
    | some p =>
      rw [h1] at e
      simp only [Option.bind_some] at e
      split at e
      · rename_i hl
        cases e
        refine ⟨O, G, env, L, p.1, p.2, S, h1, fun vs H1 G1 L1 S1 s1 r1 => ⟨by rw [r1.length]; exact lim_le hl, fun p hp => ?_⟩⟩
        have R := Res.newL S1.gh hp r1
        exact k _ _ _ L1 (S1.res R).1 (s1.trans R.gg) (S1.res R).2
      · cases e
theorem upd_upd {H : Hp} {p : Addr} {u w : HO} : upd (upd H p u) p w = upd H p w := by
  funext b
  by_cases z : b = p
  · subst z; rw [upd_same, upd_same]
  · rw [upd_ne z, upd_ne z, upd_ne z]
/-- {'k': n} -/
theorem m_disp1 {k : Str} {m : Int} {k1 k2 : Nat} {p1 p2 : Pos} : PE X (.Dict [some (.Constant (.str k) k1 p1)] [.Constant (.int m) k2 p2] pos) (tM X.K Γ (eC (.dict [(.str k, .int m)])) 100) :=
  (pe_disp (pps_cons pe_str pe_int pps_nil) rfl rfl (by simp) (by simp)).imp fun σ H Q ⟨O, G, env, L, r, env1, S, e, kk⟩ => by
    simp only [eC, Option.some.injEq, Prod.mk.injEq] at e
    obtain ⟨rfl, rfl⟩ := e
    intro p hp
    refine ⟨upd_same, [(.inr k, .int m)], rfl, by simp, ?_⟩
    rw [upd_upd]
    have R := Res.newD (K := X.K) (kvs := [(.inr k, .int m)]) (ds := [(.str k, .int m)]) S.gh hp (.cons (k := .inr k) (.int m) .nil)
    exact kk (.ref p) (upd H p (.dK [(.inr k, .int m)])) _ L (S.res R).1 R.gg (S.res R).2
theorem m_globT {ad : Addr} {d : D} (hm : X.mg x = some (.ref ad)) (hr : ∀ G, Rep X.K G (.ref ad) d) (hg : Gl X x) (hd : (x == ("__debug__" : Str)) = false := by decide) : PE X (.Name x pos) (tM X.K Γ (eC d) 0) := m_con (pe_glob (v := .ref ad) hg hm rfl hd) hr
end
end VL

set_option Elab.async false
set_option linter.all false
set_option maxRecDepth 100000
set_option maxHeartbeats 1000000
/-! VLL: sorted(d.items()). -/
namespace VL
open PySem PySem.Spec L2 PyProof.Rows PySem.W
section
variable {X : Cx} {pins : List (Addr × Obj)} {σ : L2.St} {H H' : Hp} {s : Shared} {h' : Heap} {tk : Nat}
/-- new objects, tracked all at once -/
theorem Inv.track (I : Inv X pins σ H s) (hk : ∀ b o, s.heap.get? b = some o → h'.get? b = some o) (kp : ∀ b u, H b = some u → H' b = some u) (low : ∀ b o, s.heap.get? b = some o → H' b = H b)
    (new : ∀ b u, H' b = some u → H b = none → ObjOk X.prog X.w H' h' b u) : Inv X pins σ H' { s with heap := h', toks := tk } := by
  refine I.call' (ch := []) rfl ⟨fun b o q _ _ _ => hk b o q, fun b o q _ _ _ => ⟨o.slots, hk b o q⟩, fun b o q n _ => ?_, fun b o q _ => ⟨o, hk b o q⟩, fun b xs q => kp b _ q, fun b o u q => kp b _ q, fun b ps q => ⟨#[], by rw [kp b _ q]; simp⟩⟩ (fun b u q => ?_) I.bare fun b z => by simp at z
  · rw [low b o q]; exact n
  · cases z : H b with
    | none => exact new b u q z
    | some u' =>
      have := kp b u' z
      rw [q] at this
      cases this
      exact (I.hok b u z).stay (fun d v _ y => hk d v y) (fun d y => kp d _ y) fun d xs y => kp d _ y
/-- tuples put beside -/
def putF (ts : List (Addr × HO)) (H : Hp) : Hp := fun b => match ts.lookup b with
  | some u => some u
  | none => H b
theorem putF_off {ts : List (Addr × HO)} {b : Addr} (h : b ∉ ts.map (·.1)) : putF ts H b = H b := by
  unfold putF
  have : ts.lookup b = none := by
    induction ts with
    | nil => rfl
    | cons t r ih =>
      rw [List.lookup_cons]
      have h1 : b ≠ t.1 := fun z => h (by simp [z])
      rw [show (b == t.1) = false from beq_eq_false_iff_ne.mpr h1]
      exact ih fun z => h (by simp at z ⊢; exact .inr z)
  rw [this]
theorem putF_at {ts : List (Addr × HO)} {b : Addr} {u : HO} (h : (b, u) ∈ ts) (nd : (ts.map (·.1)).Nodup) : putF ts H b = some u := by
  unfold putF
  have : ts.lookup b = some u := by
    induction ts with
    | nil => cases h
    | cons t r ih =>
      rw [List.map_cons, List.nodup_cons] at nd
      rw [List.lookup_cons]
      rcases List.mem_cons.mp h with e | h
      · subst e; rw [beq_self_eq_true]
      · have h1 : b ≠ t.1 := fun z => nd.1 (z ▸ List.mem_map_of_mem h)
        rw [show (b == t.1) = false from beq_eq_false_iff_ne.mpr h1]
        exact ih h nd.2
  rw [this]
end
theorem vals_refs : ∀ as : List Addr, Vals (as.map V.ref) (as.map Value.ref)
  | [] => .nil
  | _ :: as => .cons rfl (vals_refs as)
def sortItemsD (d : D) : Option D := match d with
  | .dict ds => if okSort (pairsOf ds) = true then some (.list (srt (pairsOf ds))) else none
  | _ => none
/-- the pairs of a dict as tuples, each at its address -/
theorem pairs_each {X : Cx} {G : Hp} {h' : Heap} : ∀ {kvs : List (Key × V)} {vs : List (Key × Value)} {ds : List (D × D)} {as : List Addr}, RepK X.K G kvs ds → KV kvs vs → as.length = vs.length →
    (∀ (j : Nat) (a : Addr), as[j]? = some a → ∃ key k x, vs[j]? = some (k, x) ∧ (mixKind X.prog X.w).is k key = true ∧ h'.get? a = some { cls := .type "tuple", data := .seq #[key, x] }) →
    ∃ ts : List (Addr × HO), ts.map (·.1) = as ∧ (∀ t ∈ ts, ∃ o u w us, t.2 = .frz o (.tup [u, w]) ∧ o.cls = .type "tuple" ∧ o.dict = none ∧ h'.get? t.1 = some o ∧ Vals [u, w] us ∧ o.data = .seq us.toArray 0) ∧
      ∀ G' : Hp, Same G G' → (∀ t ∈ ts, G' t.1 = some t.2) → RepL X.K G' (as.map V.ref) (pairsOf ds)
  | _, _, _, [], .nil, kv, hl, hp => ⟨[], rfl, fun t h => (by cases h), fun G' _ _ => .nil⟩
  | _, _, _, [], .cons r t, kv, hl, hp => by cases kv; cases hl
  | _, _, _, a :: as, .nil, kv, hl, hp => by cases kv; cases hl
  | _, _, _, a :: as, .cons (k := k0) (v := v0) (d := d0) r t, kv, hl, hp => by
    cases kv with
    | @cons _ q _ vs k1 k2 =>
      obtain ⟨ts, t1, t2, t3⟩ := pairs_each t k2 (Nat.succ.inj hl) fun j b e => by
        obtain ⟨key, k, x, e1, e2, e3⟩ := hp (j + 1) b (by simpa using e)
        exact ⟨key, k, x, by simpa using e1, e2, e3⟩
      obtain ⟨key, k, x, e1, e2, e3⟩ := hp 0 a rfl
      simp only [List.getElem?_cons_zero, Option.some.injEq] at e1
      subst e1
      have kk : k0 = k := k1.1
      subst kk
      have rk : RelV (kV k0) key := relV_key (show keyIs k0 key = true from e2)
      refine ⟨(a, .frz { cls := .type "tuple", data := .seq #[key, x] } (.tup [kV k0, v0])) :: ts, by rw [List.map_cons, t1], fun t ht => ?_, fun G' gg hh => ?_⟩
      · rcases List.mem_cons.mp ht with rfl | ht
        · exact ⟨_, _, _, [key, x], rfl, rfl, rfl, e3, .cons rk (.cons k1.2 .nil), rfl⟩
        · exact t2 t ht
      · refine .cons (.tup (.inl ⟨_, hh _ List.mem_cons_self, rfl, rfl⟩) (.cons (kV_rep k0) (.cons (r.mono gg) .nil))) (t3 G' gg fun t ht => hh t (List.mem_cons_of_mem _ ht))
section
variable {X : Cx} {Γ : Ctx} {a : Expr} {fa : Ex} {p pos apos cpos : Pos}
theorem m_sortItems (hu : X.A.units + 80 < cLine) (hc : X.calm = true) (hg : Gl X "sorted") (hm : X.mg "sorted" = none) (ha : PE X a (tM X.K Γ fa 0)) (hbase : attributeBase a "items" X.env (eval a X.env) = eval a X.env := by rfl) (hline : (apos.endLine == cpos.line) = true := by rfl)
    (hs : starEach [.Call (.Attribute a "items" apos) [] [] cpos] X.env = (false, eval (.Call (.Attribute a "items" apos) [] [] cpos) X.env) :: starEach [] X.env := by rfl) :
    PE X (.Call (.Name "sorted" p) [.Call (.Attribute a "items" apos) [] [] cpos] [] pos) (tM X.K Γ (eUn sortItemsD fa) 1) := by
  refine ⟨fun pins s σ H Q I ⟨O, G, env, L, r, env2, S, e, k⟩ => ?_⟩
  obtain ⟨xd, e1, e2⟩ := eUn_some e
  unfold sortItemsD at e2
  split at e2
  · rename_i ds
    split at e2
    · rename_i ok
      cases e2
      refine wpAny_Call_Name_kw (ld_blt I hg hm bt_sorted ?_)
      refine PyProof.Rows.callWith_builtin1 ?_ hs rfl
      rw [hs]
      show wpAny _ _ (spliced ((false, eval (.Call (.Attribute a "items" apos) [] [] cpos) X.env) :: backTo pos (starEach [] X.env))) _ _ s
      refine Calls.spliced_cons ?_
      refine wpAny_Call_method (T := "dict") (id := "dict.items") hbase rfl hline F.plainAttrs_dict F.slot_dict_items F.type_dict_items (thn (ha.run pins s σ H (fun v H1 => ∃ G1 L1, StR X.K O Γ H1 G1 σ env2 L1 ∧ Same G G1 ∧ Rep X.K G1 v (.dict ds)) I ⟨O, G, env, L, .dict ds, env2, S, e1, fun v H1 G1 L1 S1 s1 v1 => ⟨G1, L1, S1, s1, v1.rep⟩⟩) fun u s1 ⟨x, H1, I1, rx, G1, L1, S1, sg, rep⟩ => ?_)
      cases rep with
      | @dk d o kvs _ hd rk =>
        obtain rfl : u = Value.ref d := rx
        obtain ⟨hs0, hgd, hx, es, ep, vs, hdt, hsz, kv, hdm⟩ := I1.frzK (S1.gh _ _ hd)
        have lk : kvs.length = vs.length := Paired.length kv
        refine ⟨hdm.dictOf.typeIs, hdm.dictOf.mapOf.noDict, ?_⟩
        show wpAny _ _ (callWith cpos (.builtin "dict.items") [.ref d] [] []) _ X.xe s1
        refine method_meetsIn F.slot_dict_items F.entry_dict_items rfl (PySem.evalArgs_none ⟨rfl, hdm.dictOf.typeIs, F.args_dict_items_1 _, _, meets_dict_items (mixKind X.prog X.w) d hs0, ⟨vs, hdm.dictOf⟩, ?_⟩)
        refine Calls.spliced_nil ?_
        have I2 : Inv X pins σ H1 { s1 with heap := s1.heap.push { cls := .type "dict_items", data := .fields #[.ref d] } } := I1.kept (t' := s1.toks) fun b ob q => Heap.get?_push_of_some _ q
        obtain ⟨okA, okB, okC, okD⟩ := okSort_iff ok
        have hlen : kvs.length ≤ sizeLine := by
          rw [rk.len]
          have : (pairsOf ds).length = ds.length := by unfold pairsOf; rw [List.length_map]
          rw [← this]; exact lim_le okC
        refine Calls.call_function_entry kind_sorted plain_sorted entry_sorted (args_sorted1 _) ?_
        unfold Builtin.«sorted»
        refine wpAny_bind (m := checkCount "sorted" 1 1 _) (wpAny_pure ?_)
        refine wpAny_bind (kdx_collect (A := X.A.in1) (s := { s1 with heap := s1.heap.push { cls := .type "dict_items", data := .fields #[.ref d] } }) (knd := mixKind X.prog X.w) (kvs := vs) (ep := ep) (I1.ok.hd hc) ⟨_, Heap.get?_push_size _ rfl, rfl, rfl⟩ (hdm.push _) (by omega) fun h' tk as hk hl hG => ?_)
        -- the tuples, tracked
        obtain ⟨ts, t1, t2, t3⟩ := pairs_each (X := X) (h' := h') rk kv hl (fun j b e => hG.pairs j b e)
        have ndA : as.Nodup := List.Pairwise.imp (fun {a b} (h : a < b) => Nat.ne_of_lt h) hG.rise
        have ndT : (ts.map (·.1)).Nodup := by rw [t1]; exact ndA
        have newA : ∀ b ∈ as, H1 b = none := fun b hb => I2.hok.fresh (Nat.le_of_lt (hG.above b hb))
        have newG : ∀ b ∈ as, G1 b = none := fun b hb => S1.gh.free (newA b hb)
        have inAs : ∀ t ∈ ts, t.1 ∈ as := fun t ht => by rw [← t1]; exact List.mem_map_of_mem ht
        have kpH : ∀ b u, H1 b = some u → putF ts H1 b = some u := fun b u e => by
          rw [putF_off (fun z => by rw [t1] at z; rw [newA b z] at e; cases e)]; exact e
        have I3 : Inv X pins σ (putF ts H1) { s1 with heap := h', toks := tk } := by
          refine Inv.track (s := { s1 with heap := s1.heap.push { cls := .type "dict_items", data := .fields #[.ref d] } }) I2 hk kpH (fun b o q => putF_off fun z => ?_) (fun b u q z => ?_)
          · rw [t1] at z
            exact absurd (Heap.lt_size q) (Nat.not_lt.mpr (Nat.le_of_lt (hG.above b z)))
          · by_cases hb : b ∈ ts.map (·.1)
            · obtain ⟨t, ht, rfl⟩ := List.mem_map.mp hb
              rw [putF_at ht ndT] at q
              cases q
              obtain ⟨o', u', w', us, f1, f2, f3, f4, f5, f6⟩ := t2 t ht
              rw [f1]
              exact ⟨f4, by show 2 ≤ sizeLine; decide, us, f5, ⟨o', f4, f2, 0, f6⟩⟩
            · rw [putF_off hb, z] at q; cases q
        have gg : Same G1 (putF ts G1) := fun b u e => by
          rw [putF_off (fun z => by rw [t1] at z; rw [newG b z] at e; cases e)]; exact e
        have gh : Same (putF ts G1) (putF ts H1) := fun b u e => by
          by_cases hb : b ∈ ts.map (·.1)
          · obtain ⟨t, ht, rfl⟩ := List.mem_map.mp hb
            rw [putF_at ht ndT] at e ⊢; exact e
          · rw [putF_off hb] at e ⊢; exact S1.gh b u e
        have hh : Same H1 (putF ts H1) := kpH
        have X1 : Ext G1 H1 (putF ts G1) (putF ts H1) := ⟨gg, gh, hh, fun b u e n => by
          by_cases hb : b ∈ ts.map (·.1)
          · rw [t1] at hb; exact newA b hb
          · rw [putF_off hb, n] at e; cases e⟩
        have S3 := S1.ext X1
        have rl : RepL X.K (putF ts G1) (as.map V.ref) (pairsOf ds) := t3 _ gg fun t ht => putF_at ht ndT
        -- the list, sorted
        have hasl : (as.map Value.ref).length ≤ sizeLine := by rw [List.length_map, hl, ← lk]; exact hlen
        refine wpAny_bind (wpAny_newList ?_ hasl)
        have hB : (h'.push (seqObj "list" (as.map Value.ref).toArray 0)).get? h'.objs.size = some (seqObj "list" (as.map Value.ref).toArray 0) := Heap.get?_push_size _ rfl
        refine wpAny_bind (wpAny_holding (wpAny_call_entry slot_list_sort ⟨_, hB, rfl⟩ entry_list_sort ?_ (args_list_sort _)))
        have vals : Vals (as.map V.ref) (as.map Value.ref) := vals_refs as
        have e1' := each_rv vals rl
        have er := each_reads I3 S3.gh e1'
        have er' : EachIs (fun v b => ∃ as', Reads (sortingHeap (h'.push (seqObj "list" (as.map Value.ref).toArray 0)) h'.objs.size (as.map Value.ref)) v (id b) as') (as.map Value.ref) (pairsOf ds) :=
          er.mono fun _ _ ⟨as', r⟩ => ⟨as', PyProof.Rows.Reads.keeps (fun b o e => sortingHeap_old (Nat.ne_of_lt (Heap.lt_size e)) (Heap.get?_push_of_some _ e)) r⟩
        have hal : AllAlike ((pairsOf ds).map id) := by rw [List.map_id]; exact okA
        have SS := sorts_of (prog := X.prog) (w := X.w) (A := X.A.in1.in1) (s := { s1 with heap := sortingHeap (h'.push (seqObj "list" (as.map Value.ref).toArray 0)) h'.objs.size (as.map Value.ref), toks := tk }) ok (by show X.A.units + 1 + 1 + 64 < _; omega) er'
        refine list_sort_vals (s := { s1 with heap := h'.push (seqObj "list" (as.map Value.ref).toArray 0), toks := tk }) hB SS hasl ⟨_, rfl, wpAny_pure ⟨_, rfl, ?_⟩⟩
        have e2' : EachIs (RV X.K (putF ts G1)) (sortVals (dataKind (sortingHeap (h'.push (seqObj "list" (as.map Value.ref).toArray 0)) h'.objs.size (as.map Value.ref)) (pairsOf ds)) false (as.map Value.ref) (as.map Value.ref)) (srt (pairsOf ds)) := by
          have := sortVals_data (enc := id) false e1' er' hal
          rw [List.map_id] at this
          exact this
        obtain ⟨vs', b1, b2⟩ := rv_each e2'
        obtain ⟨ep', he'⟩ := PyProof.Rows.sortedHeap_at (vs := as.map Value.ref) (out := (sortVals (dataKind (sortingHeap (h'.push (seqObj "list" (as.map Value.ref).toArray 0)) h'.objs.size (as.map Value.ref)) (pairsOf ds)) false (as.map Value.ref) (as.map Value.ref)).toArray) hB
        have hlen' : vs'.length ≤ sizeLine := by
          rw [b2.length]
          unfold srt
          rw [List.length_mergeSort]
          exact lim_le okC
        have np : putF ts H1 h'.objs.size = none := I3.hok.fresh (Nat.le_refl _)
        have R := Res.newL gh np b2
        refine ⟨.ref _, upd (putF ts H1) h'.objs.size (.lst vs'), I3.laid (t' := tk) (fun b o q => ?_) (Nat.le_refl _) ⟨hlen', _, ep', b1, he'⟩, rfl, k _ _ _ L1 (S3.res R).1 ((sg.trans gg).trans R.gg) (S3.res R).2⟩
        rw [PyProof.Rows.sortedHeap_old (Nat.ne_of_lt (Heap.lt_size q)) (by rw [size_push']; exact Nat.lt_succ_of_lt (Heap.lt_size q))]
        exact Heap.get?_push_of_some _ q
    · cases e2
  · cases e2
end
end VL

set_option Elab.async false
set_option linter.all false
set_option maxRecDepth 100000
set_option maxHeartbeats 1000000
/-! VLM: the bag that a law makes of its script. -/
namespace VL
open PySem PySem.Spec L2
def absI (i : Int) : Int := if i < 0 then -i else i
def spBag (K : PySem.W.Frag) : Sp := fun vs H Q _ => ∃ (a : Addr) (ns : List Int), vs = [.ref a] ∧ SqL K H a (ns.map V.int) ∧ ns.length ≤ 63 ∧ ∀ H' p q, Same H H' → H p = none → H q = none → p ≠ q → H' p = some (.lst [.int 0, .int 1234567891, .int 0, .ref q]) → H' q = some (.lst ((ns.map absI).map V.int)) → Q (.ref p) H'
def tBag (K : PySem.W.Frag) : TS := tRet (tLst (tCons (tC (.int 0)) (tCons (tC (.int 1234567891)) (tCons (tC (.int 0)) (tCons (tLc (iList K (tSl (rSlL K) (tVar 0) tNoPart (tPart (tC (.int 63))))) (gName 1) tYes (tCB (fun xs H Q => ∃ i, xs = [.int i] ∧ Q (.int (if i < 0 then -i else i)) H) (tCons (tVar 1) tNil)) [1]) tNil)))))
theorem cut63 (xs : List V) (h : xs.length ≤ 63) : cutV xs none (some 63) = xs := by
  unfold cutV
  rw [HT.sIx_none, show HT.sIx xs.length xs.length (some 63) = min 63 xs.length from HT.sIx_nat xs.length xs.length 63]
  rw [show min 63 xs.length = xs.length by omega]
  simp
theorem same_upd {H : Hp} {p : Addr} {o : HO} (h : H p = none) : Same H (upd H p o) := fun b x e => by
  rw [upd_ne (ne_of_none e h)]
  exact e
theorem bag_read {K : PySem.W.Frag} {H : Hp} {Q : VK} {a : Addr} {ns : List Int} {N : Hp → Prop} (hS : SqL K H a (ns.map V.int)) (hlen : ns.length ≤ 63)
    (q : ∀ H' p q, Same H H' → H p = none → H q = none → p ≠ q → H' p = some (.lst [.int 0, .int 1234567891, .int 0, .ref q]) → H' q = some (.lst ((ns.map absI).map V.int)) → Q (.ref p) H') :
    tBag K { nx := fun _ H' => Q .non H', rt := Q } [some (.ref a), none] H := by
  have hl63 : (ns.map V.int).length ≤ 63 := by rw [List.length_map]; exact hlen
  refine ⟨.ref a, rfl, 63, rfl, a, ns.map V.int, rfl, hS, fun c nc => ⟨c, rfl, ⟨_, SqL.of upd_same⟩, fun D hD => ?_⟩⟩
  rw [cut63 _ hl63] at hD ⊢
  have ncD : c ≠ D := fun z => by subst z; rw [upd_same] at hD; cases hD
  have nD : H D = none := by rw [upd_ne (Ne.symm ncD)] at hD; exact hD
  refine lc_list (xs := ns.map V.int) (fun i H' => Same H H' ∧ H' c = some (.lst (ns.map V.int)) ∧ H' D = some (.lst (((ns.take i).map absI).map V.int))) ⟨?_, ?_, upd_same⟩ (fun i H' _ h => SqL.of h.2.1) (fun i x H' hx h => ?_) (fun H' h => ?_)
  · exact (same_upd nc).trans (same_upd hD)
  · rw [upd_ne ncD, upd_same]
  · obtain ⟨h1, h2, h3⟩ := h
    rw [List.getElem?_map] at hx
    cases hn : ns[i]? with
    | none => rw [hn] at hx; cases hx
    | some n =>
      rw [hn] at hx
      cases hx
      refine ⟨rfl, ?_⟩
      refine ⟨.int n, rfl, n, rfl, _, h3, ?_, ?_, ?_, ?_⟩
      · rw [List.length_map, List.length_map, List.length_take]
        exact Nat.lt_of_le_of_lt (Nat.min_le_right _ _) (Nat.lt_of_le_of_lt hlen (by decide))
      · intro b o e
        rw [upd_ne (ne_of_none e nD)]; exact h1 b o e
      · rw [upd_ne ncD]; exact h2
      · rw [upd_same, List.take_add_one, hn]
        simp [absI]
  · obtain ⟨h1, h2, h3⟩ := h
    refine ⟨by show 4 ≤ sizeLine; decide, fun p hp => ?_⟩
    have npD : p ≠ D := fun z => by subst z; rw [h3] at hp; cases hp
    refine q _ p D (h1.trans (same_upd hp)) ?_ nD npD upd_same ?_
    · cases z : H p with
      | none => rfl
      | some u => rw [h1 _ _ z] at hp; cases hp
    · rw [upd_ne (Ne.symm npD), h3, List.length_map, List.take_length]
end VL

set_option Elab.async false
set_option linter.all false
set_option maxRecDepth 100000
set_option maxHeartbeats 1000000
/-! VLN: the law's own def, from its first statement on. -/
namespace VL
open PySem PySem.Spec PyProof.Rows L2
def bagD (ns : List Int) : D := .list [.int 0, .int 1234567891, .int 0, .list ((ns.map absI).map .int)]
def env0 (m : Nat) (ns : List Int) : List D := .none :: bagD ns :: List.replicate (m - 2) .none
def ctx0 (m : Nat) : Ctx := .un :: .ow 1 :: List.replicate (m - 2) .un
def spLaw (K : PySem.W.Frag) : Sp := fun vs H Q _ => ∃ (a : Addr) (ns : List Int), vs = [.ref a] ∧ SqL K H a (ns.map V.int) ∧ ns.length ≤ 63 ∧ ∀ H', Q (.bl true) H'
theorem ints_rep {K : PySem.W.Frag} {G : Hp} : ∀ ns : List Int, RepL K G (ns.map V.int) (ns.map .int)
  | [] => .nil
  | n :: ns => .cons (.int n) (ints_rep ns)
/-- the state behind the first statement -/
theorem begin_law {K : PySem.W.Frag} {H : Hp} {p q : Addr} {ns : List Int} {m : Nat} {x : Option V} (hm : 2 ≤ m) (pq : p ≠ q) (hp : H p = some (.lst [.int 0, .int 1234567891, .int 0, .ref q])) (hq : H q = some (.lst ((ns.map absI).map V.int))) :
    StR K ⟨H, fun b => if b = q then H q else none, [p], fun _ => none⟩ (ctx0 m) H (fun b => if b = q then H q else none) (x :: some (.ref p) :: List.replicate (m - 2) none) (env0 m ns) (fun i => if i = 1 then [p] else []) := by
  have at1 : ∀ i n, At (ctx0 m) i n → i = 1 ∧ n = 1 := fun i n ⟨k, e1, e2⟩ => by
    unfold ctx0 at e1
    match i, e1 with
    | 0, e1 => simp at e1; subst e1; cases e2
    | 1, e1 => simp at e1; subst e1; cases e2; exact ⟨rfl, rfl⟩
    | i + 2, e1 =>
      simp only [List.getElem?_cons_succ] at e1
      rw [List.getElem?_replicate] at e1
      split at e1
      · cases e1; cases e2
      · cases e1
  have gq : (fun b => if b = q then H q else none : Hp) q = some (.lst ((ns.map absI).map V.int)) := by show (if q = q then H q else none) = _; rw [if_pos rfl]; exact hq
  refine ⟨fun b u e => ?_, by simp [env0], by simp [ctx0, env0], fun i n hi => ?_, fun i n hi => ?_, fun i j n n' hi hj ne => ?_, fun i n hi b hb => ?_, fun b o e _ => e, fun b o e => .inl (by show ((if b = q then H q else none) : Option HO).isSome = true; rw [show (if b = q then H q else none) = some o from e]; rfl), fun i n e => ?_⟩
  · change (if b = q then H q else none) = some u at e
    split at e
    · rename_i z; rw [z]; exact e
    · cases e
  · obtain ⟨rfl, rfl⟩ := at1 i n hi
    refine ⟨.ref p, bagD ns, rfl, rfl, ?_⟩
    show Own K H _ 1 (.ref p) (bagD ns) [p]
    exact .lst hp (by show (if p = q then H q else none) = none; rw [if_neg pq]) (ownL0 (.cons (.int _) (.cons (.int _) (.cons (.int _) (.cons (.lst gq (ints_rep _)) .nil)))))
  · obtain ⟨rfl, rfl⟩ := at1 i n hi; simp
  · obtain ⟨rfl, rfl⟩ := at1 i n hi
    obtain ⟨rfl, rfl⟩ := at1 j n' hj
    exact absurd rfl ne
  · obtain ⟨rfl, rfl⟩ := at1 i n hi
    exact .inr (by simpa using hb)
  · have := at1 i n ⟨_, e, rfl⟩
    obtain ⟨rfl, rfl⟩ := this
    simp [ctx0] at e
theorem law_read {K : PySem.W.Frag} {H : Hp} {Q : VK} {a : Addr} {ns : List Int} {m : Nat} {N : List Str} {R : Ctx} {Γ' : Ctx} {g : Sx} {e : List D} (hm : 2 ≤ m) (hN : N.length = m) (hS : SqL K H a (ns.map V.int)) (hlen : ns.length ≤ 63) (hq : ∀ H', Q (.bl true) H')
    (hg : g (env0 m ns) = some (.rt (.bool true) e)) :
    tSeq (tAsg (fun σ H Q => (tCons (tVar 0) tNil) σ H fun vs H1 => spBag K vs H1 Q E0) (gName 1)) (tS K ⟨R, 0, [], []⟩ (ctx0 m) Γ' g) { nx := fun _ H' => Q .non H', rt := Q } (L2.start N [.ref a]) H := by
  rw [start_eq]
  have e1 : N.length - ([V.ref a] : List V).length = (m - 2) + 1 := by rw [hN]; simp; omega
  rw [e1, List.replicate_succ]
  refine ⟨.ref a, rfl, a, ns, rfl, hS, hlen, fun H' p q s1 _ _ pq hp hq' => ?_⟩
  refine ⟨_, _, env0 m ns, _, _, begin_law (x := some (.ref a)) hm pq hp hq', hg, ?_⟩
  intro v σ' H2 G2 L2 S2 s2 v2
  have := v2.rep
  cases this
  exact hq _
end VL

set_option Elab.async false
set_option linter.all false
set_option maxRecDepth 100000
set_option maxHeartbeats 4000000
namespace W_k81
open PySem PySem.Spec PyProof.Rows L2 VL
def topS (i : Nat) : Stmt := PySem.Challenge.pw_belowall_k81_save_tapes.main.body.getD i (.Pass ⟨0, 0, 0, 0⟩)
variable {P : Program} {w : World} {K : PySem.W.Frag} {mg : Str → Option Value} {base : Heap}
abbrev s_is_save_order : Stmt := topS 4
theorem sc_is_save_order : FnScope ["thing", "step"] ["thing"] (defScope s_is_save_order) := ⟨rfl, rfl, rfl, by decide +kernel, rfl, by decide +kernel, by decide +kernel⟩
def g_is_save_order : Sx := (sq (sIf (bOr (bNot (asB (eUn (isiD "tuple") (eVar 0)))) (bNot (asB (eNs allD [(lcD [1] (iSqA (eVar 0)) (gtName 1) bYes (eAnd (eUn (isiD "str") (eVar 1)) (eBin inA (eVar 1) (eTupB (lStar (eC (.tuple [.str "data", .str "mark", .str "tell"])) (lCons (eC (.str "sink")) lNil))))))])))) (retE (eC (.bool false))) sNil)
  (retE (eAnd (eNs allD [(lcD [1] (iSqA (eC (.tuple [.str "data", .str "mark", .str "tell"]))) (gtName 1) bYes (eBin eqD (eBin countT (eVar 0) (eVar 1)) (eC (.int 1))))]) (eBin leD (eBin countT (eVar 0) (eC (.str "sink"))) (eC (.int 4))))))
def F_is_save_order : List D → Option (D × List D) := runD [.ow 0] g_is_save_order 2
theorem ok_is_save_order (d : DP K mg "is_save_order" s_is_save_order ["thing"]) (nb_isinstance : mg "isinstance" = none) (nb_tuple : mg "tuple" = none) (nb_str : mg "str" = none) (nb_all : mg "all" = none) {tk_SINK : Tok} (c_SINK : mg "SINK" = some (.str "sink" tk_SINK)) {a_STEPS : Addr} (c_STEPS : mg "STEPS" = some (.ref a_STEPS)) (r_STEPS : ∀ G, Rep K G (.ref a_STEPS) (.tuple [.str "data", .str "mark", .str "tell"])) {tk_MOST_SINKS : Tok} (c_MOST_SINKS : mg "MOST_SINKS" = some (.int 4 tk_MOST_SINKS)) : PF P w K mg base "is_save_order" 1 ["thing"] [.ow 0] 0 F_is_save_order :=
  have nd := sc_is_save_order.nd
  def_okP (k := 0) (Γ' := [.un, .un]) (g := g_is_save_order) d sc_is_save_order (fun f cdv A outer s H E hgd hr =>
    (s_cons (s_if (PW.pt (b_or (b_not (b_val (m_isi (by rfl) nb_isinstance (by rfl) nb_tuple bt_tuple (m_var 0)))) (b_or1 (b_not (b_val (m_callB (c_all rfl) (by rfl) nb_all bt_all (a_cons (m_weak (m_lc (own := [("step", 1)]) rfl nd (i_seqA (m_var 0)) (blkOk_by (by kernel_rfl)) (fun _ _ _ _ _ => (t_name 1 nd)) (fun _ _ _ _ _ => pts_yes) (fun _ _ _ _ _ => (m_and (m_isi (by rfl) nb_isinstance (by rfl) nb_str bt_str (m_var 1)) (m_one (m_inA (u66 hr) (m_var 1) (m_tupB (l_star (m_globT c_STEPS r_STEPS (by rfl)) (l_cons (m_globS c_SINK (by rfl)) l_nil))) (by rfl))))))) a_nil))))))) (s_one (s_ret m_bl)) s_nil)
    (s_one (s_ret (m_and (m_callB (c_all rfl) (by rfl) nb_all bt_all (a_cons (m_weak (m_lc (own := [("step", 1)]) rfl nd (i_seqA (m_globT c_STEPS r_STEPS (by rfl))) (blkOk_by (by kernel_rfl)) (fun _ _ _ _ _ => (t_name 1 nd)) (fun _ _ _ _ _ => pts_yes) (fun _ _ _ _ _ => (m_cmp (op_eqD (u66 hr)) (m_count (u66 hr) (m_var 0) (m_var 1)) m_int (by rfl))))) a_nil)) (m_one (m_cmp o_le (m_count (u66 hr) (m_var 0) (m_globS c_SINK (by rfl))) (m_globI c_MOST_SINKS (by rfl)) (by rfl)))))))) (.inl rfl)
abbrev s_data_of : Stmt := topS 5
theorem sc_data_of : FnScope ["number", "row", "first", "at", "value"] ["number", "row"] (defScope s_data_of) := ⟨rfl, rfl, rfl, by decide +kernel, rfl, by decide +kernel, by decide +kernel⟩
def g_data_of : Sx := (sq (asg 2 (eBin addD (eC (.int 1)) (eBin mulD (eNs lenD [(eVar 1)]) (eBin modD (eVar 0) (eC (.int 2))))))
  (retE (lcD [3, 4] (iEn (eVar 1)) (gtTup 2 (gtCons (gtName 3) (gtCons (gtName 4) gtNil))) bYes (eTup [(eC (.str "write")), (eBin addD (eVar 2) (eVar 3)), (eVar 4)]))))
def F_data_of : List D → Option (D × List D) := runD [.ow 0, .ow 0] g_data_of 5
theorem ok_data_of (d : DP K mg "data_of" s_data_of ["number", "row"]) (nb_len : mg "len" = none) (nb_enumerate : mg "enumerate" = none) : PF P w K mg base "data_of" 1 ["number", "row"] [.ow 0, .ow 0] 0 F_data_of :=
  have nd := sc_data_of.nd
  def_okP (k := 0) (Γ' := [.un, .un, .un, .un, .un]) (g := g_data_of) d sc_data_of (fun f cdv A outer s H E hgd hr =>
    (s_cons (s_set 2 nd (m_bin o_add m_int (m_bin o_mul (m_callB c_len (by rfl) nb_len bt_len (a_cons (m_var 1) a_nil)) (m_bin o_mod (m_var 0) m_int))))
    (s_one (s_ret (m_weak (m_lc (own := [("at", 3), ("value", 4)]) rfl nd (i_enum (by rfl) nb_enumerate (m_var 1)) (blkOk_by (by kernel_rfl)) (fun _ _ _ _ _ => (t_tup 2 rfl (ts_cons (t_name 3 nd) (ts_cons (t_name 4 nd) ts_nil)))) (fun _ _ _ _ _ => pts_yes) (fun _ _ _ _ _ => (m_tup (a_cons m_str (a_cons (m_bin o_add (m_var 2) (m_var 3)) (a_cons (m_var 4) a_nil))))))))))) (.inl rfl)
abbrev s_restored : Stmt := topS 9
theorem sc_restored : FnScope ["left", "many", "first", "at"] ["left", "many"] (defScope s_restored) := ⟨rfl, rfl, rfl, by decide +kernel, rfl, by decide +kernel, by decide +kernel⟩
def g_restored : Sx := (sq (sIf (asB (eBin notInA (eC (.int 0)) (eVar 0))) (retE (eC .none)) sNil)
  (sq (asg 2 (eBin addD (eC (.int 1)) (eBin mulD (eVar 1) (eBin modD (eBin subD (eBin ixA (eVar 0) (eC (.int 0))) (eC (.int 1))) (eC (.int 2))))))
  (retE (lcD [3] (iRg1 (eVar 1)) (gtName 3) bYes (eTri getD2 (eVar 0) (eBin addD (eVar 2) (eVar 3)) (eC (.int 0)))))))
def F_restored : List D → Option (D × List D) := runD [.ow 0, .ow 0] g_restored 4
theorem ok_restored (d : DP K mg "restored" s_restored ["left", "many"]) (nb_range : mg "range" = none) : PF P w K mg base "restored" 1 ["left", "many"] [.ow 0, .ow 0] 0 F_restored :=
  have nd := sc_restored.nd
  def_okP (k := 0) (Γ' := [.un, .un, .un, .un]) (g := g_restored) d sc_restored (fun f cdv A outer s H E hgd hr =>
    (s_cons (s_if (b_notInA (u66 hr) m_int (m_var 0) (by rfl)) (s_one (s_ret m_non)) s_nil)
    (s_cons (s_set 2 nd (m_bin o_add m_int (m_bin o_mul (m_var 1) (m_bin o_mod (m_bin o_sub (m_ixA (u66 hr) (m_var 0) m_int (fun _ _ => rfl)) m_int) m_int))))
    (s_one (s_ret (m_weak (m_lc (own := [("at", 3)]) rfl nd (i_range1 (by rfl) nb_range (m_var 1)) (blkOk_by (by kernel_rfl)) (fun _ _ _ _ _ => (t_name 3 nd)) (fun _ _ _ _ _ => pts_yes) (fun _ _ _ _ _ => (m_get2 (u66 hr) (m_var 0) (m_bin o_add (m_var 2) (m_var 3)) m_int ⟨rfl, rfl, rfl, rfl⟩))))))))) (.inl rfl)
abbrev s_is_between : Stmt := topS 10
theorem sc_is_between : FnScope ["order", "first", "second", "one", "other"] ["order", "first", "second"] (defScope s_is_between) := ⟨rfl, rfl, rfl, by decide +kernel, rfl, by decide +kernel, by decide +kernel⟩
def g_is_between : Sx := (sq (asg2 3 4 (eBin indexT (eVar 0) (eVar 1)) (eBin indexT (eVar 0) (eVar 2)))
  (retE (eBin inA (eC (.str "sink")) (eSl slcD (eVar 0) (pIs (eVar 3)) (pIs (eVar 4))))))
def F_is_between : List D → Option (D × List D) := runD [.ow 0, .ow 0, .ow 0] g_is_between 5
theorem ok_is_between (d : DP K mg "is_between" s_is_between ["order", "first", "second"]) {tk_SINK : Tok} (c_SINK : mg "SINK" = some (.str "sink" tk_SINK)) : PF P w K mg base "is_between" 1 ["order", "first", "second"] [.ow 0, .ow 0, .ow 0] 0 F_is_between :=
  have nd := sc_is_between.nd
  def_okP (k := 0) (Γ' := [.un, .un, .un, .un, .un]) (g := g_is_between) d sc_is_between (fun f cdv A outer s H E hgd hr =>
    (s_cons (s_par 3 4 rfl nd (m_index (u66 hr) (m_var 0) (m_var 1)) (m_index (u66 hr) (m_var 0) (m_var 2)))
    (s_one (s_ret (m_inA (u66 hr) (m_globS c_SINK (by rfl)) (m_sl sl_D (m_var 0) (o_some (m_var 3)) (o_some (m_var 4))) (by rfl)))))) (.inl rfl)
abbrev s__law_take : Stmt := topS 14
theorem sc__law_take : FnScope ["_law_bag_here", "_law_many", "_law_early", "_law_second", "_law_cell", "_law_mixed_here", "_law_drawn"] ["_law_bag_here", "_law_many"] (defScope s__law_take) := ⟨rfl, rfl, rfl, by decide +kernel, rfl, by decide +kernel, by decide +kernel⟩
def g__law_take : Sx := (sq (sIf (bBor (asB (eBin eqD (eBin ixA (eVar 0) (eC (.int 0))) (eC (.int 0))))) (sq (asg 4 (eBor 0 (eBin ixA (eBin addD (eSl slcD (eBin ixA (eVar 0) (eC (.int 3))) (pIs (eBin ixA (eVar 0) (eC (.int 2)))) pNo) (eLst [(eC (.int 0))])) (eC (.int 0)))))
  (sq (augIx 0 (· + ·) (eC (.int 2)) (eC (.int 1)))
  (sq (asgG (eBin mulD (eVar 4) (eNs intD [(eBin geD (eVar 4) (eBin powD (eC (.int 10)) (eC (.int 18))))])) (gtIx 0 (eC (.int 0))))
  (sq (asg 5 (eBor 0 (eBin addD (eBin addD (eBin mulD (eBin ixA (eVar 0) (eC (.int 1))) (eC (.int 48271))) (eBin modD (eNs intD [(eVar 4)]) (eC (.int 2147483647)))) (eBin mulD (eC (.int 7919)) (eBin ixA (eVar 0) (eC (.int 2)))))))
  (asgG (eBin modD (eNs intD [(eVar 5)]) (eC (.int 2147483647))) (gtIx 0 (eC (.int 1)))))))) sNil)
  (sq (sIf (bBor (asB (eBin gtD (eBin ixA (eVar 0) (eC (.int 0))) (eC (.int 0))))) (sq (asgG (eBor 0 (eTup [(eBin modD (eNs intD [(eBin ixA (eVar 0) (eC (.int 0)))]) (eVar 1)), (eBin fdivD (eNs intD [(eBin ixA (eVar 0) (eC (.int 0)))]) (eVar 1))])) (gtTup 2 (gtCons (gtName 6) (gtCons (gtIx 0 (eC (.int 0))) gtNil))))
  (retE (eVar 6))) sNil)
  (sq (asg 2 (eBor 0 (eBin modD (eNs intD [(eBin mulD (eBin addD (eBin ixA (eVar 0) (eC (.int 1))) (eC (.int 1))) (eC (.int 39373)))]) (eC (.int 1000000007)))))
  (sq (asg 3 (eBin modD (eNs intD [(eBin mulD (eBin modD (eNs intD [(eBin mulD (eVar 2) (eVar 2))]) (eC (.int 998244353))) (eC (.int 30011)))]) (eC (.int 998244353))))
  (retE (eBin modD (eNs intD [(eBin fdivD (eVar 3) (eC (.int 7)))]) (eVar 1)))))))
def F__law_take : List D → Option (D × List D) := runD [.io 1, .ow 0] g__law_take 7
theorem ok__law_take (d : DP K mg "_law_take" s__law_take ["_law_bag_here", "_law_many"]) (nb_int : mg "int" = none) : PF P w K mg base "_law_take" 1 ["_law_bag_here", "_law_many"] [.io 1, .ow 0] 0 F__law_take :=
  have nd := sc__law_take.nd
  def_okP (k := 0) (Γ' := [.io 1, .un, .un, .un, .un, .un, .un]) (g := g__law_take) d sc__law_take (fun f cdv A outer s H E hgd hr =>
    (s_cons (s_if (b_bor [.ow 0, .un, .un, .un, .un, .un, .un] (b_cmp (op_eqD (u66 hr)) (m_ixA (u66 hr) (m_var 0) m_int (fun _ _ => rfl)) m_int (by rfl))) (s_post (Δ := [.io 1, .ow 0, .un, .un, .un, .un, .un]) [.io 1, .ow 0, .un, .un, .ow 0, .ow 0, .un] (s_cons (s_set 4 nd (m_bor [.ow 0, .un, .un, .un, .un, .un, .un] (m_ixA (u66 hr) (m_bin o_add (m_sl sl_D (m_ixA (u66 hr) (m_var 0) m_int (fun _ _ => rfl)) (o_some (m_ixA (u66 hr) (m_var 0) m_int (fun _ _ => rfl))) o_none) (m_weak (m_lst (a_cons m_int a_nil)))) m_int (fun _ _ => rfl))))
    (s_cons (s_aug 0 m_int m_int ip_add)
    (s_cons (s_asg (m_bin o_mul (m_var 4) (m_callTy c_int (by rfl) nb_int bt_int (a_cons (m_cmp o_ge (m_var 4) (m_bin o_pow m_int m_int) (by rfl)) a_nil))) (t_ix 0 m_int))
    (s_cons (s_set 5 nd (m_bor [.ow 0, .un, .un, .un, .ow 0, .un, .un] (m_bin o_add (m_bin o_add (m_bin o_mul (m_ixA (u66 hr) (m_var 0) m_int (fun _ _ => rfl)) m_int) (m_bin o_mod (m_callTy c_int (by rfl) nb_int bt_int (a_cons (m_var 4) a_nil)) m_int)) (m_bin o_mul m_int (m_ixA (u66 hr) (m_var 0) m_int (fun _ _ => rfl))))))
    (s_one (s_asg (m_bin o_mod (m_callTy c_int (by rfl) nb_int bt_int (a_cons (m_var 5) a_nil)) m_int) (t_ix 0 m_int)))))))) s_nil)
    (s_cons (s_if (b_bor [.ow 0, .un, .un, .un, .un, .un, .un] (b_cmp o_gt (m_ixA (u66 hr) (m_var 0) m_int (fun _ _ => rfl)) m_int (by rfl))) (s_cons (s_asg (m_bor [.ow 0, .ow 0, .un, .un, .un, .un, .un] (m_tup (a_cons (m_bin o_mod (m_callTy c_int (by rfl) nb_int bt_int (a_cons (m_ixA (u66 hr) (m_var 0) m_int (fun _ _ => rfl)) a_nil)) (m_var 1)) (a_cons (m_bin o_fdiv (m_callTy c_int (by rfl) nb_int bt_int (a_cons (m_ixA (u66 hr) (m_var 0) m_int (fun _ _ => rfl)) a_nil)) (m_var 1)) a_nil)))) (t_tup 2 rfl (ts_cons (t_name 6 nd) (ts_cons (t_ix 0 m_int) ts_nil))))
    (s_one (s_ret (m_var 6)))) s_nil)
    (s_cons (s_set 2 nd (m_bor [.ow 0, .un, .un, .un, .un, .un, .un] (m_bin o_mod (m_callTy c_int (by rfl) nb_int bt_int (a_cons (m_bin o_mul (m_bin o_add (m_ixA (u66 hr) (m_var 0) m_int (fun _ _ => rfl)) m_int) m_int) a_nil)) m_int)))
    (s_cons (s_set 3 nd (m_bin o_mod (m_callTy c_int (by rfl) nb_int bt_int (a_cons (m_bin o_mul (m_bin o_mod (m_callTy c_int (by rfl) nb_int bt_int (a_cons (m_bin o_mul (m_var 2) (m_var 2)) a_nil)) m_int) m_int) a_nil)) m_int))
    (s_one (s_ret (m_bin o_mod (m_callTy c_int (by rfl) nb_int bt_int (a_cons (m_bin o_fdiv (m_var 3) m_int) a_nil)) (m_var 1))))))))) (.inl rfl)
abbrev s__law_alike : Stmt := topS 15
theorem sc__law_alike : FnScope ["_law_found", "_law_due"] ["_law_found", "_law_due"] (defScope s__law_alike) := ⟨rfl, rfl, rfl, by decide +kernel, rfl, by decide +kernel, by decide +kernel⟩
def g__law_alike : Sx := (retE (eAnd (eBin eqD (eVar 0) (eVar 1)) (eBin eqD (eNs reprD [(eVar 0)]) (eNs reprD [(eVar 1)]))))
def F__law_alike : List D → Option (D × List D) := runD [.ow 0, .ow 0] g__law_alike 2
theorem ok__law_alike (d : DP K mg "_law_alike" s__law_alike ["_law_found", "_law_due"]) (nb_repr : mg "repr" = none) : PF P w K mg base "_law_alike" 1 ["_law_found", "_law_due"] [.ow 0, .ow 0] 0 F__law_alike :=
  have nd := sc__law_alike.nd
  def_okP (k := 0) (Γ' := [.un, .un]) (g := g__law_alike) d sc__law_alike (fun f cdv A outer s H E hgd hr =>
    (s_one (s_ret (m_and (m_cmp (op_eqD (u66 hr)) (m_var 0) (m_var 1) (by rfl)) (m_one (m_cmp (op_eqD (u66 hr)) (m_callB (call_reprD (u80 hr) hgd) (by rfl) nb_repr bt_repr (a_cons (m_var 0) a_nil)) (m_callB (call_reprD (u80 hr) hgd) (by rfl) nb_repr bt_repr (a_cons (m_var 1) a_nil)) (by rfl))))))) (.inl rfl)
abbrev s__law_crashes : Stmt := topS 18
theorem sc__law_crashes : FnScope ["_law_tape", "_law_found", "_law_before", "_law_run", "_law_index", "_law_entry", "_law_lots", "_law_one_here", "_law_lot"] ["_law_tape"] (defScope s__law_crashes) := ⟨rfl, rfl, rfl, by decide +kernel, rfl, by decide +kernel, by decide +kernel⟩
def g__law_crashes : Sx := (sq (asg3 1 2 3 (eLst [(eTup [])]) (eTup []) (eLst []))
  (sq (forD (iEn (eBin addD (eVar 0) (eLst [(eTup [(eC (.str "sink"))])]))) (gtTup 2 (gtCons (gtName 4) (gtCons (gtName 5) gtNil))) (sq (sIf (asB (eBin eqD (eBin ixA (eVar 5) (eC (.int 0))) (eC (.str "write")))) (sq (sExp (eMut 3 uAppend [(eVar 4)]))
  sCt) sNil)
  (sq (asg 6 (eLst [(eTup [])]))
  (sq (forD (iSqA (eVar 3)) (gtName 7) (asg 6 (eBin addD (eVar 6) (lcD [8] (iSqA (eVar 6)) (gtName 8) bYes (eBin addD (eVar 8) (eTup [(eVar 7)]))))))
  (sq (sExp (eMut 1 uExtend [(lcD [8] (iSqA (eVar 6)) (gtName 8) (asB (eBin neD (eVar 8) (eTup []))) (eBin addD (eVar 2) (eVar 8)))]))
  (asg2 2 3 (eBin addD (eVar 2) (eNs tupD [(eVar 3)])) (eLst [])))))))
  (retE (eNs sortedD [(eVar 1)]))))
def F__law_crashes : List D → Option (D × List D) := runD [.ow 0] g__law_crashes 9
theorem ok__law_crashes (d : DP K mg "_law_crashes" s__law_crashes ["_law_tape"]) (nb_enumerate : mg "enumerate" = none) (nb_tuple : mg "tuple" = none) (nb_sorted : mg "sorted" = none) : PF P w K mg base "_law_crashes" 1 ["_law_tape"] [.ow 0] 0 F__law_crashes :=
  have nd := sc__law_crashes.nd
  def_okP (k := 0) (Γ' := [.un, .un, .un, .un, .un, .un, .un, .un, .un]) (g := g__law_crashes) d sc__law_crashes (fun f cdv A outer s H E hgd hr =>
    (s_cons (s_parG3 1 2 3 rfl nd (m_lst (a_cons (m_tup a_nil) a_nil)) (m_tup a_nil) (m_lst a_nil))
    (s_cons (s_for rfl (i_enum (by rfl) nb_enumerate (m_bin o_add (m_var 0) (m_weak (m_lst (a_cons (m_tup (a_cons m_str a_nil)) a_nil))))) (t_tup 2 rfl (ts_cons (t_name 4 nd) (ts_cons (t_name 5 nd) ts_nil))) (s_post (Δ := [.ow 0, .ow 1, .ow 0, .ow 1, .un, .un, .un, .un, .un]) [.ow 0, .ow 1, .ow 0, .ow 1, .ow 0, .ow 0, .ow 0, .un, .un] (s_cons (s_if (b_cmp (op_eqD (u66 hr)) (m_ixA (u66 hr) (m_var 5) m_int (fun _ _ => rfl)) m_str (by rfl)) (s_cons (s_exp (m_mut 3 PySem.F.slot_list_append PySem.F.type_list_append mt_append mu_append (a_cons (m_var 4) a_nil)))
    (s_one s_cont)) s_nil)
    (s_cons (p_pre [.ow 0, .ow 1, .ow 0, .ow 0, .ow 0, .ow 0, .un, .un, .un] (s_set 6 nd (m_weak (m_lst (a_cons (m_tup a_nil) a_nil)))))
    (s_cons (s_for rfl (i_seqA (m_var 3)) (t_name 7 nd) (s_post (Δ := [.ow 0, .ow 1, .ow 0, .ow 0, .ow 0, .ow 0, .ow 0, .un, .un]) [.ow 0, .ow 1, .ow 0, .ow 0, .ow 0, .ow 0, .ow 0, .ow 0, .un] (s_one (s_set 6 nd (m_bin o_add (m_var 6) (m_weak (m_lc (own := [("_law_lot", 8)]) rfl nd (i_seqA (m_var 6)) (blkOk_by (by kernel_rfl)) (fun _ _ _ _ _ => (t_name 8 nd)) (fun _ _ _ _ _ => pts_yes) (fun _ _ _ _ _ => (m_bin o_add (m_var 8) (m_tup (a_cons (m_var 7) a_nil)))))))))) PassesOwn.never)
    (s_cons (s_exp (m_mut 1 PySem.F.slot_list_extend PySem.F.type_list_extend mt_extend mu_extend (a_cons (m_weak (m_lc (own := [("_law_lot", 8)]) rfl nd (i_seqA (m_var 6)) (blkOk_by (by kernel_rfl)) (fun _ _ _ _ _ => (t_name 8 nd)) (fun _ _ _ _ _ => (b_one (b_cmp (op_neD (u66 hr)) (m_var 8) (m_tup a_nil) (by rfl)))) (fun _ _ _ _ _ => (m_bin o_add (m_var 2) (m_var 8))))) a_nil)))
    (s_one (s_parG 2 3 rfl nd (m_bin o_add (m_var 2) (m_callTy c_tuple (by rfl) nb_tuple bt_tuple (a_cons (m_var 3) a_nil))) (m_lst a_nil)))))))) PassesOwn.never)
    (s_one (p_pre [.ow 0, .ow 0, .ow 0, .ow 0, .un, .un, .un, .un, .un] (s_ret (m_weak (m_callB (c_sorted (u80 hr)) (by rfl) nb_sorted bt_sorted (a_cons (m_var 1) a_nil))))))))) (.inl rfl)
abbrev s__law_left : Stmt := topS 19
theorem sc__law_left : FnScope ["_law_tape", "_law_crash", "_law_found", "_law_index"] ["_law_tape", "_law_crash"] (defScope s__law_left) := ⟨rfl, rfl, rfl, by decide +kernel, rfl, by decide +kernel, by decide +kernel⟩
def g__law_left : Sx := (sq (asg 2 (eFrz (eNs dictD [(lcD [3] (iSqA (eVar 1)) (gtName 3) bYes (eTup [(eBin ixA (eBin ixA (eVar 0) (eVar 3)) (eC (.int 1))), (eBin ixA (eBin ixA (eVar 0) (eVar 3)) (eC (.int 2)))]))])))
  (retE (eFrz (eNs dictD [(eUn sortItemsD (eVar 2))]))))
def F__law_left : List D → Option (D × List D) := runD [.ow 0, .ow 0] g__law_left 4
theorem ok__law_left (d : DP K mg "_law_left" s__law_left ["_law_tape", "_law_crash"]) (nb_dict : mg "dict" = none) (nb_sorted : mg "sorted" = none) : PF P w K mg base "_law_left" 1 ["_law_tape", "_law_crash"] [.ow 0, .ow 0] 0 F__law_left :=
  have nd := sc__law_left.nd
  def_okP (k := 0) (Γ' := [.un, .un, .un, .un]) (g := g__law_left) d sc__law_left (fun f cdv A outer s H E hgd hr =>
    (s_cons (s_set 2 nd (m_frz (m_callTy (c_dict rfl) (by rfl) nb_dict bt_dict (a_cons (m_weak (m_lc (own := [("_law_index", 3)]) rfl nd (i_seqA (m_var 1)) (blkOk_by (by kernel_rfl)) (fun _ _ _ _ _ => (t_name 3 nd)) (fun _ _ _ _ _ => pts_yes) (fun _ _ _ _ _ => (m_tup (a_cons (m_ixA (u66 hr) (m_ixA (u66 hr) (m_var 0) (m_var 3) (fun _ _ => rfl)) m_int (fun _ _ => rfl)) (a_cons (m_ixA (u66 hr) (m_ixA (u66 hr) (m_var 0) (m_var 3) (fun _ _ => rfl)) m_int (fun _ _ => rfl)) a_nil)))))) a_nil))))
    (s_one (s_ret (m_frz (m_callTy (c_dict rfl) (by rfl) nb_dict bt_dict (a_cons (m_weak (m_sortItems (u80 hr) rfl (by rfl) nb_sorted (m_var 2))) a_nil))))))) (.inl rfl)
abbrev s__law_saved : Stmt := topS 21
theorem sc__law_saved : FnScope ["_law_order", "_law_rows_here", "_law_tape", "_law_tells", "_law_number", "_law_row", "_law_word", "_law_begin", "_law_at", "_law_value"] ["_law_order", "_law_rows_here"] (defScope s__law_saved) := ⟨rfl, rfl, rfl, by decide +kernel, rfl, by decide +kernel, by decide +kernel⟩
def g__law_saved : Sx := (sq (asg2 2 3 (eLst []) (eLst []))
  (sq (forD (iEn (eVar 1)) (gtTup 2 (gtCons (gtName 4) (gtCons (gtName 5) gtNil))) (forD (iSqA (eVar 0)) (gtName 6) (sIf (asB (eBin eqD (eVar 6) (eC (.str "data")))) (sq (asg 7 (eBin addD (eC (.int 1)) (eBin mulD (eNs lenD [(eVar 5)]) (eBin modD (eNs intD [(eVar 4)]) (eC (.int 2))))))
  (asg 2 (eBin addD (eVar 2) (lcD [8, 9] (iEn (eVar 5)) (gtTup 2 (gtCons (gtName 8) (gtCons (gtName 9) gtNil))) bYes (eTup [(eC (.str "write")), (eBin addD (eVar 7) (eVar 8)), (eVar 9)]))))) (sIf (asB (eBin eqD (eVar 6) (eC (.str "mark")))) (asg 2 (eBin addD (eVar 2) (eLst [(eTup [(eC (.str "write")), (eC (.int 0)), (eBin addD (eVar 4) (eC (.int 1)))])]))) (asg2 2 3 (eBin addD (eVar 2) (eBin repD (eLst [(eTup [(eC (.str "sink"))])]) (eNs intD [(eBin eqD (eVar 6) (eC (.str "sink")))]))) (eBin addD (eVar 3) (eBin repD (eLst [(eNs lenD [(eVar 2)])]) (eNs intD [(eBin eqD (eVar 6) (eC (.str "tell")))]))))))))
  (retE (eTup [(eVar 2), (eVar 3)]))))
def F__law_saved : List D → Option (D × List D) := runD [.ow 0, .ow 0] g__law_saved 10
theorem ok__law_saved (d : DP K mg "_law_saved" s__law_saved ["_law_order", "_law_rows_here"]) (nb_enumerate : mg "enumerate" = none) (nb_len : mg "len" = none) (nb_int : mg "int" = none) : PF P w K mg base "_law_saved" 1 ["_law_order", "_law_rows_here"] [.ow 0, .ow 0] 0 F__law_saved :=
  have nd := sc__law_saved.nd
  def_okP (k := 0) (Γ' := [.un, .un, .un, .un, .un, .un, .un, .un, .un, .un]) (g := g__law_saved) d sc__law_saved (fun f cdv A outer s H E hgd hr =>
    (s_cons (s_par 2 3 rfl nd (m_weak (m_lst a_nil)) (m_weak (m_lst a_nil)))
    (s_cons (s_for rfl (i_enum (by rfl) nb_enumerate (m_var 1)) (t_tup 2 rfl (ts_cons (t_name 4 nd) (ts_cons (t_name 5 nd) ts_nil))) (s_post (Δ := [.ow 0, .ow 0, .ow 0, .ow 0, .un, .un, .un, .un, .un, .un]) [.ow 0, .ow 0, .ow 0, .ow 0, .ow 0, .ow 0, .un, .un, .un, .un] (s_one (s_for rfl (i_seqA (m_var 0)) (t_name 6 nd) (s_post (Δ := [.ow 0, .ow 0, .ow 0, .ow 0, .ow 0, .ow 0, .un, .un, .un, .un]) [.ow 0, .ow 0, .ow 0, .ow 0, .ow 0, .ow 0, .ow 0, .un, .un, .un] (s_one (s_if (b_cmp (op_eqD (u66 hr)) (m_var 6) m_str (by rfl)) (s_post (Δ := [.ow 0, .ow 0, .ow 0, .ow 0, .ow 0, .ow 0, .ow 0, .un, .un, .un]) [.ow 0, .ow 0, .ow 0, .ow 0, .ow 0, .ow 0, .ow 0, .ow 0, .un, .un] (s_cons (s_set 7 nd (m_bin o_add m_int (m_bin o_mul (m_callB c_len (by rfl) nb_len bt_len (a_cons (m_var 5) a_nil)) (m_bin o_mod (m_callTy c_int (by rfl) nb_int bt_int (a_cons (m_var 4) a_nil)) m_int))))
    (s_one (s_set 2 nd (m_bin o_add (m_var 2) (m_weak (m_lc (own := [("_law_at", 8), ("_law_value", 9)]) rfl nd (i_enum (by rfl) nb_enumerate (m_var 5)) (blkOk_by (by kernel_rfl)) (fun _ _ _ _ _ => (t_tup 2 rfl (ts_cons (t_name 8 nd) (ts_cons (t_name 9 nd) ts_nil)))) (fun _ _ _ _ _ => pts_yes) (fun _ _ _ _ _ => (m_tup (a_cons m_str (a_cons (m_bin o_add (m_var 7) (m_var 8)) (a_cons (m_var 9) a_nil)))))))))))) (s_one (s_if (b_cmp (op_eqD (u66 hr)) (m_var 6) m_str (by rfl)) (s_one (s_set 2 nd (m_bin o_add (m_var 2) (m_weak (m_lst (a_cons (m_tup (a_cons m_str (a_cons m_int (a_cons (m_bin o_add (m_var 4) m_int) a_nil)))) a_nil)))))) (s_one (s_par 2 3 rfl nd (m_bin o_add (m_var 2) (m_weak (m_bin o_rep (m_weak (m_lst (a_cons (m_tup (a_cons m_str a_nil)) a_nil))) (m_callTy c_int (by rfl) nb_int bt_int (a_cons (m_cmp (op_eqD (u66 hr)) (m_var 6) m_str (by rfl)) a_nil))))) (m_bin o_add (m_var 3) (m_weak (m_bin o_rep (m_weak (m_lst (a_cons (m_callB c_len (by rfl) nb_len bt_len (a_cons (m_var 2) a_nil)) a_nil))) (m_callTy c_int (by rfl) nb_int bt_int (a_cons (m_cmp (op_eqD (u66 hr)) (m_var 6) m_str (by rfl)) a_nil)))))))))))) PassesOwn.never))) PassesOwn.never)
    (s_one (s_ret (m_tup (a_cons (m_var 2) (a_cons (m_var 3) a_nil)))))))) (.inl rfl)
abbrev s__law_restored : Stmt := topS 22
theorem sc__law_restored : FnScope ["_law_left_here", "_law_many", "_law_begin", "_law_at"] ["_law_left_here", "_law_many"] (defScope s__law_restored) := ⟨rfl, rfl, rfl, by decide +kernel, rfl, by decide +kernel, by decide +kernel⟩
def g__law_restored : Sx := (sq (sIf (asB (eBin notInA (eC (.int 0)) (eVar 0))) (retE (eC .none)) sNil)
  (sq (asg 2 (eBin addD (eC (.int 1)) (eBin mulD (eVar 1) (eBin modD (eNs intD [(eBin subD (eBin ixA (eVar 0) (eC (.int 0))) (eC (.int 1)))]) (eC (.int 2))))))
  (retE (lcD [3] (iRg1 (eVar 1)) (gtName 3) bYes (eTri getD2 (eVar 0) (eBin addD (eVar 2) (eVar 3)) (eC (.int 0)))))))
def F__law_restored : List D → Option (D × List D) := runD [.ow 0, .ow 0] g__law_restored 4
theorem ok__law_restored (d : DP K mg "_law_restored" s__law_restored ["_law_left_here", "_law_many"]) (nb_int : mg "int" = none) (nb_range : mg "range" = none) : PF P w K mg base "_law_restored" 1 ["_law_left_here", "_law_many"] [.ow 0, .ow 0] 0 F__law_restored :=
  have nd := sc__law_restored.nd
  def_okP (k := 0) (Γ' := [.un, .un, .un, .un]) (g := g__law_restored) d sc__law_restored (fun f cdv A outer s H E hgd hr =>
    (s_cons (s_if (b_notInA (u66 hr) m_int (m_var 0) (by rfl)) (s_one (s_ret m_non)) s_nil)
    (s_cons (s_set 2 nd (m_bin o_add m_int (m_bin o_mul (m_var 1) (m_bin o_mod (m_callTy c_int (by rfl) nb_int bt_int (a_cons (m_bin o_sub (m_ixA (u66 hr) (m_var 0) m_int (fun _ _ => rfl)) m_int) a_nil)) m_int))))
    (s_one (s_ret (m_weak (m_lc (own := [("_law_at", 3)]) rfl nd (i_range1 (by rfl) nb_range (m_var 1)) (blkOk_by (by kernel_rfl)) (fun _ _ _ _ _ => (t_name 3 nd)) (fun _ _ _ _ _ => pts_yes) (fun _ _ _ _ _ => (m_get2 (u66 hr) (m_var 0) (m_bin o_add (m_var 2) (m_var 3)) m_int ⟨rfl, rfl, rfl, rfl⟩))))))))) (.inl rfl)
abbrev s__law_is_sure : Stmt := topS 24
theorem sc__law_is_sure : FnScope ["_law_order", "_law_data", "_law_mark", "_law_tell"] ["_law_order"] (defScope s__law_is_sure) := ⟨rfl, rfl, rfl, by decide +kernel, rfl, by decide +kernel, by decide +kernel⟩
def g__law_is_sure : Sx := (sq (asg3 1 2 3 (eBin indexT (eVar 0) (eC (.str "data"))) (eBin indexT (eVar 0) (eC (.str "mark"))) (eBin indexT (eVar 0) (eC (.str "tell"))))
  (retE (eAnd (eBin inA (eC (.str "sink")) (eSl slcD (eVar 0) (pIs (eVar 1)) (pIs (eVar 2)))) (eBin inA (eC (.str "sink")) (eSl slcD (eVar 0) (pIs (eVar 2)) (pIs (eVar 3)))))))
def F__law_is_sure : List D → Option (D × List D) := runD [.ow 0] g__law_is_sure 4
theorem ok__law_is_sure (d : DP K mg "_law_is_sure" s__law_is_sure ["_law_order"]) : PF P w K mg base "_law_is_sure" 1 ["_law_order"] [.ow 0] 0 F__law_is_sure :=
  have nd := sc__law_is_sure.nd
  def_okP (k := 0) (Γ' := [.un, .un, .un, .un]) (g := g__law_is_sure) d sc__law_is_sure (fun f cdv A outer s H E hgd hr =>
    (s_cons (s_par3 1 2 3 rfl nd (m_index (u66 hr) (m_var 0) m_str) (m_index (u66 hr) (m_var 0) m_str) (m_index (u66 hr) (m_var 0) m_str))
    (s_one (s_ret (m_and (m_inA (u66 hr) m_str (m_sl sl_D (m_var 0) (o_some (m_var 1)) (o_some (m_var 2))) (by rfl)) (m_one (m_inA (u66 hr) m_str (m_sl sl_D (m_var 0) (o_some (m_var 2)) (o_some (m_var 3))) (by rfl)))))))) (.inl rfl)
abbrev s__law_is_order : Stmt := topS 26
theorem sc__law_is_order : FnScope ["_law_thing", "_law_word"] ["_law_thing"] (defScope s__law_is_order) := ⟨rfl, rfl, rfl, by decide +kernel, rfl, by decide +kernel, by decide +kernel⟩
def g__law_is_order : Sx := (sq (sIf (bOr (bNot (asB (eUn (isiD "tuple") (eVar 0)))) (asB (eBin neD (lcD [1] (iSqA (eVar 0)) (gtName 1) (asB (eBin notInA (eVar 1) (eTup [(eC (.str "data")), (eC (.str "mark")), (eC (.str "tell")), (eC (.str "sink"))]))) (eVar 1)) (eLst [])))) (retE (eC (.bool false))) sNil)
  (retE (eAnd (eBin eqD (lcD [1] (iSqA (eTup [(eC (.str "data")), (eC (.str "mark")), (eC (.str "tell"))])) (gtName 1) bYes (eBin countT (eVar 0) (eVar 1))) (eBin repD (eLst [(eC (.int 1))]) (eC (.int 3)))) (eBin ltD (eBin countT (eVar 0) (eC (.str "sink"))) (eC (.int 5))))))
def F__law_is_order : List D → Option (D × List D) := runD [.ow 0] g__law_is_order 2
theorem ok__law_is_order (d : DP K mg "_law_is_order" s__law_is_order ["_law_thing"]) (nb_isinstance : mg "isinstance" = none) (nb_tuple : mg "tuple" = none) : PF P w K mg base "_law_is_order" 1 ["_law_thing"] [.ow 0] 0 F__law_is_order :=
  have nd := sc__law_is_order.nd
  def_okP (k := 0) (Γ' := [.un, .un]) (g := g__law_is_order) d sc__law_is_order (fun f cdv A outer s H E hgd hr =>
    (s_cons (s_if (PW.pt (b_or (b_not (b_val (m_isi (by rfl) nb_isinstance (by rfl) nb_tuple bt_tuple (m_var 0)))) (b_or1 (b_cmp (op_neD (u66 hr)) (m_weak (m_lc (own := [("_law_word", 1)]) rfl nd (i_seqA (m_var 0)) (blkOk_by (by kernel_rfl)) (fun _ _ _ _ _ => (t_name 1 nd)) (fun _ _ _ _ _ => (b_one (b_notInA (u66 hr) (m_var 1) (m_tup (a_cons m_str (a_cons m_str (a_cons m_str (a_cons m_str a_nil))))) (by rfl)))) (fun _ _ _ _ _ => (m_var 1)))) (m_weak (m_lst a_nil)) (by rfl))))) (s_one (s_ret m_bl)) s_nil)
    (s_one (s_ret (m_and (m_cmp (op_eqD (u66 hr)) (m_weak (m_lc (own := [("_law_word", 1)]) rfl nd (i_seqA (m_tup (a_cons m_str (a_cons m_str (a_cons m_str a_nil))))) (blkOk_by (by kernel_rfl)) (fun _ _ _ _ _ => (t_name 1 nd)) (fun _ _ _ _ _ => pts_yes) (fun _ _ _ _ _ => (m_count (u66 hr) (m_var 0) (m_var 1))))) (m_weak (m_bin o_rep (m_weak (m_lst (a_cons m_int a_nil))) m_int)) (by rfl)) (m_one (m_cmp o_lt (m_count (u66 hr) (m_var 0) m_str) m_int (by rfl)))))))) (.inl rfl)
abbrev s_led_tape : Stmt := topS 6
theorem sc_led_tape : FnScope ["order", "rows", "tape", "tells", "number", "row", "step"] ["order", "rows"] (defScope s_led_tape) := ⟨rfl, rfl, rfl, by decide +kernel, rfl, by decide +kernel, by decide +kernel⟩
def g_led_tape : Sx := (sq (asg2 2 3 (eLst []) (eLst []))
  (sq (forD (iEn (eVar 1)) (gtTup 2 (gtCons (gtName 4) (gtCons (gtName 5) gtNil))) (forD (iSqA (eVar 0)) (gtName 6) (sIf (asB (eBin eqD (eVar 6) (eC (.str "data")))) (sExp (eMut 2 uExtend [(eCall F_data_of [.v (eVar 4), .v (eVar 5)])])) (sIf (asB (eBin eqD (eVar 6) (eC (.str "mark")))) (sExp (eMut 2 uAppend [(eTup [(eC (.str "write")), (eC (.int 0)), (eBin addD (eVar 4) (eC (.int 1)))])])) (sIf (asB (eBin eqD (eVar 6) (eC (.str "sink")))) (sExp (eMut 2 uAppend [(eTup [(eC (.str "sink"))])])) (sExp (eMut 3 uAppend [(eBor 0 (eNs lenD [(eVar 2)]))])))))))
  (retE (eTup [eVar 2, eVar 3]))))
def F_led_tape : List D → Option (D × List D) := runD [.ow 0, .ow 0] g_led_tape 7
theorem ok_led_tape (d : DP K mg "led_tape" s_led_tape ["order", "rows"]) (h_data_of : PF P w K mg base "data_of" 1 ["number", "row"] [.ow 0, .ow 0] 0 F_data_of) (nb_enumerate : mg "enumerate" = none) (nb_len : mg "len" = none) {tk_SINK : Tok} (c_SINK : mg "SINK" = some (.str "sink" tk_SINK)) : PF P w K mg base "led_tape" 2 ["order", "rows"] [.ow 0, .ow 0] 1 F_led_tape :=
  have nd := sc_led_tape.nd
  def_okP (k := 1) (Γ' := [.un, .un, .un, .un, .un, .un, .un]) (g := g_led_tape) d sc_led_tape (fun f cdv A outer s H E hgd hr =>
    (s_cons (s_par 2 3 rfl nd (m_lst a_nil) (m_lst a_nil))
    (s_cons (s_for rfl (i_enum (by rfl) nb_enumerate (m_var 1)) (t_tup 2 rfl (ts_cons (t_name 4 nd) (ts_cons (t_name 5 nd) ts_nil))) (s_post (Δ := [.ow 0, .ow 0, .ow 1, .ow 1, .un, .un, .un]) [.ow 0, .ow 0, .ow 1, .ow 1, .ow 0, .ow 0, .un] (s_one (s_for rfl (i_seqA (m_var 0)) (t_name 6 nd) (s_post (Δ := [.ow 0, .ow 0, .ow 1, .ow 1, .ow 0, .ow 0, .un]) [.ow 0, .ow 0, .ow 1, .ow 1, .ow 0, .ow 0, .ow 0] (s_one (s_if (b_cmp (op_eqD (u66 hr)) (m_var 6) m_str (by rfl)) (s_one (s_exp (m_mut 2 PySem.F.slot_list_extend PySem.F.type_list_extend mt_extend mu_extend (a_cons (m_callP h_data_of hgd hr (by decide) (by rfl) (g_v (m_var 4) (g_v (m_var 5) g_nil))) a_nil)))) (s_one (s_if (b_cmp (op_eqD (u66 hr)) (m_var 6) m_str (by rfl)) (s_one (s_exp (m_mut 2 PySem.F.slot_list_append PySem.F.type_list_append mt_append mu_append (a_cons (m_tup (a_cons m_str (a_cons m_int (a_cons (m_bin o_add (m_var 4) m_int) a_nil)))) a_nil)))) (s_one (s_if (b_cmp (op_eqD (u66 hr)) (m_var 6) (m_globS c_SINK (by rfl)) (by rfl)) (s_one (s_exp (m_mut 2 PySem.F.slot_list_append PySem.F.type_list_append mt_append mu_append (a_cons (m_tup (a_cons m_str a_nil)) a_nil)))) (s_one (s_exp (m_mut 3 PySem.F.slot_list_append PySem.F.type_list_append mt_append mu_append (a_cons (m_bor [.un, .un, .ow 0, .un, .un, .un, .un] (m_callB c_len (by rfl) nb_len bt_len (a_cons (m_var 2) a_nil))) a_nil))))))))))) PassesOwn.never))) PassesOwn.never)
    (s_one (s_retTO 2 3))))) (.inr (stops_sq (stops_sq stops_ret)))
abbrev s_is_sure_order : Stmt := topS 11
theorem sc_is_sure_order : FnScope ["order"] ["order"] (defScope s_is_sure_order) := ⟨rfl, rfl, rfl, by decide +kernel, rfl, by decide +kernel, by decide +kernel⟩
def g_is_sure_order : Sx := (retE (eAnd (eCall F_is_between [.v (eVar 0), .v (eC (.str "data")), .v (eC (.str "mark"))]) (eCall F_is_between [.v (eVar 0), .v (eC (.str "mark")), .v (eC (.str "tell"))])))
def F_is_sure_order : List D → Option (D × List D) := runD [.ow 0] g_is_sure_order 1
theorem ok_is_sure_order (d : DP K mg "is_sure_order" s_is_sure_order ["order"]) (h_is_between : PF P w K mg base "is_between" 1 ["order", "first", "second"] [.ow 0, .ow 0, .ow 0] 0 F_is_between) : PF P w K mg base "is_sure_order" 2 ["order"] [.ow 0] 0 F_is_sure_order :=
  have nd := sc_is_sure_order.nd
  def_okP (k := 1) (Γ' := [.un]) (g := g_is_sure_order) d sc_is_sure_order (fun f cdv A outer s H E hgd hr =>
    (s_one (s_ret (m_and (m_callP h_is_between hgd hr (by decide) (by rfl) (g_v (m_var 0) (g_v m_str (g_v m_str g_nil)))) (m_one (m_callP h_is_between hgd hr (by decide) (by rfl) (g_v (m_var 0) (g_v m_str (g_v m_str g_nil))))))))) (.inl rfl)
abbrev s__law_one : Stmt := topS 16
theorem sc__law_one : FnScope ["_law_bag_here", "_law_some"] ["_law_bag_here", "_law_some"] (defScope s__law_one) := ⟨rfl, rfl, rfl, by decide +kernel, rfl, by decide +kernel, by decide +kernel⟩
def g__law_one : Sx := (retE (eBin ixA (eVar 1) (eCall F__law_take [.io 0, .v (eNs lenD [(eVar 1)])])))
def F__law_one : List D → Option (D × List D) := runD [.io 1, .ow 0] g__law_one 2
theorem ok__law_one (d : DP K mg "_law_one" s__law_one ["_law_bag_here", "_law_some"]) (h__law_take : PF P w K mg base "_law_take" 1 ["_law_bag_here", "_law_many"] [.io 1, .ow 0] 0 F__law_take) (nb_len : mg "len" = none) : PF P w K mg base "_law_one" 2 ["_law_bag_here", "_law_some"] [.io 1, .ow 0] 0 F__law_one :=
  have nd := sc__law_one.nd
  def_okP (k := 1) (Γ' := [.io 1, .un]) (g := g__law_one) d sc__law_one (fun f cdv A outer s H E hgd hr =>
    (s_one (s_ret (m_ixA (u66 hr) (m_var 1) (m_callP h__law_take hgd hr (by decide) (by rfl) (g_io 0 (g_v (m_callB c_len (by rfl) nb_len bt_len (a_cons (m_var 1) a_nil)) g_nil))) (fun _ _ => rfl))))) (.inl rfl)
abbrev s__law_mixed : Stmt := topS 17
theorem sc__law_mixed : FnScope ["_law_bag_here", "_law_things", "_law_found", "_law_thing"] ["_law_bag_here", "_law_things"] (defScope s__law_mixed) := ⟨rfl, rfl, rfl, by decide +kernel, rfl, by decide +kernel, by decide +kernel⟩
def g__law_mixed : Sx := (sq (asg 2 (eLst []))
  (sq (forD (iSqA (eVar 1)) (gtName 3) (sExp (eMut 2 uInsert [(eCall F__law_take [.io 0, .v (eBor 0 (eBin addD (eNs lenD [(eVar 2)]) (eC (.int 1))))]), (eVar 3)])))
  (retE (eVar 2))))
def F__law_mixed : List D → Option (D × List D) := runD [.io 1, .ow 0] g__law_mixed 4
theorem ok__law_mixed (d : DP K mg "_law_mixed" s__law_mixed ["_law_bag_here", "_law_things"]) (h__law_take : PF P w K mg base "_law_take" 1 ["_law_bag_here", "_law_many"] [.io 1, .ow 0] 0 F__law_take) (nb_len : mg "len" = none) : PF P w K mg base "_law_mixed" 2 ["_law_bag_here", "_law_things"] [.io 1, .ow 0] 1 F__law_mixed :=
  have nd := sc__law_mixed.nd
  def_okP (k := 1) (Γ' := [.io 1, .un, .un, .un]) (g := g__law_mixed) d sc__law_mixed (fun f cdv A outer s H E hgd hr =>
    (s_cons (s_set 2 nd (m_lst a_nil))
    (s_cons (s_for rfl (i_seqA (m_var 1)) (t_name 3 nd) (s_post (Δ := [.io 1, .ow 0, .ow 1, .un]) [.io 1, .ow 0, .ow 1, .ow 0] (s_one (s_exp (m_mut 2 PySem.F.slot_list_insert PySem.F.type_list_insert mt_insert mu_insert (a_cons (m_callP h__law_take hgd hr (by decide) (by rfl) (g_io 0 (g_v (m_bor [.un, .un, .ow 0, .un] (m_bin o_add (m_callB c_len (by rfl) nb_len bt_len (a_cons (m_var 2) a_nil)) m_int)) g_nil))) (a_cons (m_var 3) a_nil)))))) PassesOwn.never)
    (s_one (s_retO 2))))) (.inr (stops_sq (stops_sq stops_ret)))
abbrev s__law_rows : Stmt := topS 23
theorem sc__law_rows : FnScope ["_law_bag_here", "_law_low", "_law_many", "_law_at", "_law_k"] ["_law_bag_here", "_law_low"] (defScope s__law_rows) := ⟨rfl, rfl, rfl, by decide +kernel, rfl, by decide +kernel, by decide +kernel⟩
def g__law_rows : Sx := (sq (asg 2 (eBin addD (eC (.int 1)) (eCall F__law_take [.io 0, .v (eC (.int 3))])))
  (retE (lcD [4] (iRg1 (eBin addD (eC (.int 1)) (eCall F__law_take [.io 0, .v (eC (.int 4))]))) (gtName 4) bYes (lcD [3] (iRg1 (eVar 2)) (gtName 3) bYes (eBin addD (eVar 1) (eCall F__law_take [.io 0, .v (eC (.int 4))]))))))
def F__law_rows : List D → Option (D × List D) := runD [.io 1, .ow 0] g__law_rows 5
theorem ok__law_rows (d : DP K mg "_law_rows" s__law_rows ["_law_bag_here", "_law_low"]) (h__law_take : PF P w K mg base "_law_take" 1 ["_law_bag_here", "_law_many"] [.io 1, .ow 0] 0 F__law_take) (nb_range : mg "range" = none) : PF P w K mg base "_law_rows" 2 ["_law_bag_here", "_law_low"] [.io 1, .ow 0] 0 F__law_rows :=
  have nd := sc__law_rows.nd
  def_okP (k := 1) (Γ' := [.io 1, .un, .un, .un, .un]) (g := g__law_rows) d sc__law_rows (fun f cdv A outer s H E hgd hr =>
    (s_cons (s_set 2 nd (m_bin o_add m_int (m_callP h__law_take hgd hr (by decide) (by rfl) (g_io 0 (g_v m_int g_nil)))))
    (s_one (s_ret (m_weak (m_lc (own := [("_law_k", 4)]) rfl nd (i_range1 (by rfl) nb_range (m_bin o_add m_int (m_callP h__law_take hgd hr (by decide) (by rfl) (g_io 0 (g_v m_int g_nil))))) (blkOk_by (by kernel_rfl)) (fun _ _ _ _ _ => (t_name 4 nd)) (fun _ _ _ _ _ => pts_yes) (fun _ _ _ _ _ => (m_weak (m_lc (own := [("_law_at", 3)]) rfl nd (i_range1 (by rfl) nb_range (m_var 2)) (blkOk_by (by kernel_rfl)) (fun _ _ _ _ _ => (t_name 3 nd)) (fun _ _ _ _ _ => pts_yes) (fun _ _ _ _ _ => (m_bin o_add (m_var 1) (m_callP h__law_take hgd hr (by decide) (by rfl) (g_io 0 (g_v m_int g_nil)))))))))))))) (.inl rfl)
abbrev s_save_tape : Stmt := topS 7
theorem sc_save_tape : FnScope ["order", "rows"] ["order", "rows"] (defScope s_save_tape) := ⟨rfl, rfl, rfl, by decide +kernel, rfl, by decide +kernel, by decide +kernel⟩
def g_save_tape : Sx := (retE (eIxT 0 (eCall F_led_tape [.v (eVar 0), .v (eVar 1)])))
def F_save_tape : List D → Option (D × List D) := runD [.ow 0, .ow 0] g_save_tape 2
theorem ok_save_tape (d : DP K mg "save_tape" s_save_tape ["order", "rows"]) (h_led_tape : PF P w K mg base "led_tape" 2 ["order", "rows"] [.ow 0, .ow 0] 1 F_led_tape) : PF P w K mg base "save_tape" 3 ["order", "rows"] [.ow 0, .ow 0] 1 F_save_tape :=
  have nd := sc_save_tape.nd
  def_okP (k := 2) (Γ' := [.un, .un]) (g := g_save_tape) d sc_save_tape (fun f cdv A outer s H E hgd hr =>
    (s_one (s_ret (m_ixO 0 (m_callP h_led_tape hgd hr (by decide) (by rfl) (g_v (m_var 0) (g_v (m_var 1) g_nil))))))) (.inr stops_ret)
abbrev s_tells_at : Stmt := topS 8
theorem sc_tells_at : FnScope ["order", "rows"] ["order", "rows"] (defScope s_tells_at) := ⟨rfl, rfl, rfl, by decide +kernel, rfl, by decide +kernel, by decide +kernel⟩
def g_tells_at : Sx := (retE (eIxT 1 (eCall F_led_tape [.v (eVar 0), .v (eVar 1)])))
def F_tells_at : List D → Option (D × List D) := runD [.ow 0, .ow 0] g_tells_at 2
theorem ok_tells_at (d : DP K mg "tells_at" s_tells_at ["order", "rows"]) (h_led_tape : PF P w K mg base "led_tape" 2 ["order", "rows"] [.ow 0, .ow 0] 1 F_led_tape) : PF P w K mg base "tells_at" 3 ["order", "rows"] [.ow 0, .ow 0] 1 F_tells_at :=
  have nd := sc_tells_at.nd
  def_okP (k := 2) (Γ' := [.un, .un]) (g := g_tells_at) d sc_tells_at (fun f cdv A outer s H E hgd hr =>
    (s_one (s_ret (m_ixO 1 (m_callP h_led_tape hgd hr (by decide) (by rfl) (g_v (m_var 0) (g_v (m_var 1) g_nil))))))) (.inr stops_ret)
abbrev s__law_save_order : Stmt := topS 20
theorem sc__law_save_order : FnScope ["_law_bag_here", "_law_words", "_law_way"] ["_law_bag_here"] (defScope s__law_save_order) := ⟨rfl, rfl, rfl, by decide +kernel, rfl, by decide +kernel, by decide +kernel⟩
def g__law_save_order : Sx := (sq (asg 1 (eBin catL (eLst [(eC (.str "data")), (eC (.str "sink")), (eC (.str "mark")), (eC (.str "sink")), (eC (.str "tell"))]) (eBin repD (eLst [(eC (.str "sink"))]) (eCall F__law_take [.io 0, .v (eC (.int 3))]))))
  (sq (asg 2 (eCall F__law_take [.io 0, .v (eC (.int 5))]))
  (sq (sIf (asB (eBin eqD (eVar 2) (eC (.int 4)))) (retE (eNs tupD [(eCall F__law_mixed [.io 0, .v (eLst [(eC (.str "data")), (eC (.str "mark")), (eC (.str "tell"))])])])) sNil)
  (sq (sIf (asB (eBin ltD (eVar 2) (eC (.int 2)))) (retE (eNs tupD [(eVar 1)])) sNil)
  (sq (sExp (eMut 1 uRemove [(eC (.str "sink"))]))
  (retE (eNs tupD [(eIf (asB (eBin eqD (eVar 2) (eC (.int 2)))) (eCall F__law_mixed [.io 0, .v (eVar 1)]) (eVar 1))])))))))
def F__law_save_order : List D → Option (D × List D) := runD [.io 1] g__law_save_order 3
theorem ok__law_save_order (d : DP K mg "_law_save_order" s__law_save_order ["_law_bag_here"]) (h__law_take : PF P w K mg base "_law_take" 1 ["_law_bag_here", "_law_many"] [.io 1, .ow 0] 0 F__law_take) (h__law_mixed : PF P w K mg base "_law_mixed" 2 ["_law_bag_here", "_law_things"] [.io 1, .ow 0] 1 F__law_mixed) (nb_tuple : mg "tuple" = none) : PF P w K mg base "_law_save_order" 3 ["_law_bag_here"] [.io 1] 0 F__law_save_order :=
  have nd := sc__law_save_order.nd
  def_okP (k := 2) (Γ' := [.io 1, .un, .un]) (g := g__law_save_order) d sc__law_save_order (fun f cdv A outer s H E hgd hr =>
    (s_cons (s_set 1 nd (m_bin o_catL (m_weak (m_lst (a_cons m_str (a_cons m_str (a_cons m_str (a_cons m_str (a_cons m_str a_nil))))))) (m_weak (m_bin o_rep (m_weak (m_lst (a_cons m_str a_nil))) (m_callP h__law_take hgd hr (by decide) (by rfl) (g_io 0 (g_v m_int g_nil)))))))
    (s_cons (s_set 2 nd (m_callP h__law_take hgd hr (by decide) (by rfl) (g_io 0 (g_v m_int g_nil))))
    (s_cons (s_if (b_cmp (op_eqD (u66 hr)) (m_var 2) m_int (by rfl)) (s_one (p_pre [.io 1, .ow 0, .ow 0] (s_ret (m_callTy c_tuple (by rfl) nb_tuple bt_tuple (a_cons (m_weak (m_callP h__law_mixed hgd hr (by decide) (by rfl) (g_io 0 (g_v (m_weak (m_lst (a_cons m_str (a_cons m_str (a_cons m_str a_nil))))) g_nil)))) a_nil))))) s_nil)
    (s_cons (s_if (b_cmp o_lt (m_var 2) m_int (by rfl)) (s_one (p_pre [.io 1, .ow 0, .ow 0] (s_ret (m_callTy c_tuple (by rfl) nb_tuple bt_tuple (a_cons (m_var 1) a_nil))))) s_nil)
    (s_cons (s_exp (m_mut 1 PySem.F.slot_list_remove PySem.F.type_list_remove (mt_removeD (u66 hr)) mu_D (a_cons m_str a_nil)))
    (s_one (p_pre [.io 1, .ow 0, .ow 0] (s_ret (m_callTy c_tuple (by rfl) nb_tuple bt_tuple (a_cons (m_if (b_cmp (op_eqD (u66 hr)) (m_var 2) m_int (by rfl)) (m_weak (m_callP h__law_mixed hgd hr (by decide) (by rfl) (g_io 0 (g_v (m_var 1) g_nil)))) (m_var 1)) a_nil))))))))))) (.inl rfl)
abbrev s__law_odd : Stmt := topS 25
theorem sc__law_odd : FnScope ["_law_bag_here", "_law_some"] ["_law_bag_here"] (defScope s__law_odd) := ⟨rfl, rfl, rfl, by decide +kernel, rfl, by decide +kernel, by decide +kernel⟩
def g__law_odd : Sx := (sq (asg 1 (eLst [(eC .none), (eC (.bool true)), (eC (.bool false)), (eC (.int 0)), (eC (.int 1)), (eUn negD (eC (.int 1))), (eBin powD (eC (.int 10)) (eC (.int 39))), (eC (.str "")), (eC (.str "a")), (eLst []), (eTup []), (eFrz (eC (.dict []))), (eLst [(eC (.int 0))]), (eTup [(eC (.int 0))]), (eTup [(eC (.bool true))]), (eTup [(eUn negD (eC (.int 1)))]), (eTup [(eC (.str "data"))]), (eLst [(eC (.str "data"))]), (eTup [(eTup [])])]))
  (sq (asg 1 (eBin addD (eVar 1) (eLst [(eTup [(eLst [(eC (.int 0))])]), (eTup [(eFrz (eC (.dict [])))]), (eTup [(eLst [(eC (.str "data"))]), (eC (.str "mark")), (eC (.str "tell"))]), (eTup [(eC (.str "data")), (eC (.str "mark"))]), (eTup [(eC (.str "data")), (eC (.str "mark")), (eC (.str "tell")), (eC (.str "tell"))]), (eTup [(eC (.str "sink"))]), (eFrz (eC (.dict [(.str "data", .int 0)]))), (eTup [(eC .none)]), (eLst [(eTup [])]), (eTup [(eC (.int 0)), (eC (.int 0))]), (eTup [(eC (.int 1)), (eC (.int 0))]), (eC (.str "sink"))])))
  (retE (eCall F__law_one [.io 0, .v (eBin addD (eVar 1) (eLst [(eTup [(eC (.str "data")), (eC (.str "mark")), (eC (.str "tell")), (eC (.str "sink")), (eC (.str "sink")), (eC (.str "sink")), (eC (.str "sink")), (eC (.str "sink"))]), (eTup [(eC (.str "data")), (eC (.str "mark")), (eC (.str "tell")), (eC (.str "heed"))])]))]))))
def F__law_odd : List D → Option (D × List D) := runD [.io 1] g__law_odd 2
theorem ok__law_odd (d : DP K mg "_law_odd" s__law_odd ["_law_bag_here"]) (h__law_one : PF P w K mg base "_law_one" 2 ["_law_bag_here", "_law_some"] [.io 1, .ow 0] 0 F__law_one) : PF P w K mg base "_law_odd" 3 ["_law_bag_here"] [.io 1] 0 F__law_odd :=
  have nd := sc__law_odd.nd
  def_okP (k := 2) (Γ' := [.io 1, .un]) (g := g__law_odd) d sc__law_odd (fun f cdv A outer s H E hgd hr =>
    (s_cons (s_set 1 nd (m_weak (m_lst (a_cons m_non (a_cons m_bl (a_cons m_bl (a_cons m_int (a_cons m_int (a_cons (m_un u_neg m_int) (a_cons (m_bin o_pow m_int m_int) (a_cons m_str (a_cons m_str (a_cons (m_weak (m_lst a_nil)) (a_cons (m_tup a_nil) (a_cons (m_frz m_dnew) (a_cons (m_weak (m_lst (a_cons m_int a_nil))) (a_cons (m_tup (a_cons m_int a_nil)) (a_cons (m_tup (a_cons m_bl a_nil)) (a_cons (m_tup (a_cons (m_un u_neg m_int) a_nil)) (a_cons (m_tup (a_cons m_str a_nil)) (a_cons (m_weak (m_lst (a_cons m_str a_nil))) (a_cons (m_tup (a_cons (m_tup a_nil) a_nil)) a_nil))))))))))))))))))))))
    (s_cons (s_set 1 nd (m_bin o_add (m_var 1) (m_weak (m_lst (a_cons (m_tup (a_cons (m_weak (m_lst (a_cons m_int a_nil))) a_nil)) (a_cons (m_tup (a_cons (m_frz m_dnew) a_nil)) (a_cons (m_tup (a_cons (m_weak (m_lst (a_cons m_str a_nil))) (a_cons m_str (a_cons m_str a_nil)))) (a_cons (m_tup (a_cons m_str (a_cons m_str a_nil))) (a_cons (m_tup (a_cons m_str (a_cons m_str (a_cons m_str (a_cons m_str a_nil))))) (a_cons (m_tup (a_cons m_str a_nil)) (a_cons (m_frz m_disp1) (a_cons (m_tup (a_cons m_non a_nil)) (a_cons (m_weak (m_lst (a_cons (m_tup a_nil) a_nil))) (a_cons (m_tup (a_cons m_int (a_cons m_int a_nil))) (a_cons (m_tup (a_cons m_int (a_cons m_int a_nil))) (a_cons m_str a_nil))))))))))))))))
    (s_one (s_ret (m_callP h__law_one hgd hr (by decide) (by rfl) (g_io 0 (g_v (m_bin o_add (m_var 1) (m_weak (m_lst (a_cons (m_tup (a_cons m_str (a_cons m_str (a_cons m_str (a_cons m_str (a_cons m_str (a_cons m_str (a_cons m_str (a_cons m_str a_nil))))))))) (a_cons (m_tup (a_cons m_str (a_cons m_str (a_cons m_str (a_cons m_str a_nil))))) a_nil))))) g_nil)))))))) (.inl rfl)
abbrev s__law_order_otherwise : Stmt := topS 27
theorem sc__law_order_otherwise : FnScope ["_law_bag_here", "_law_order", "_law_way", "_law_at", "_law_word", "_law_some"] ["_law_bag_here", "_law_order"] (defScope s__law_order_otherwise) := ⟨rfl, rfl, rfl, by decide +kernel, rfl, by decide +kernel, by decide +kernel⟩
def g__law_order_otherwise : Sx := (sq (asg2 2 3 (eCall F__law_take [.io 0, .v (eC (.int 5))]) (eCall F__law_take [.io 0, .v (eNs lenD [(eVar 1)])]))
  (sq (asg 4 (eCall F__law_one [.io 0, .v (eLst [(eC (.str "data")), (eC (.str "mark")), (eC (.str "tell")), (eC (.str "sink")), (eC (.str "sinks")), (eC (.int 0)), (eC .none)])]))
  (sq (asg 5 (eLst [(eBin addD (eSl slcD (eVar 1) pNo (pIs (eVar 3))) (eSl slcD (eVar 1) (pIs (eBin addD (eVar 3) (eC (.int 1)))) pNo)), (eBin addD (eBin addD (eSl slcD (eVar 1) pNo (pIs (eVar 3))) (eTup [(eVar 4)])) (eSl slcD (eVar 1) (pIs (eVar 3)) pNo)), (eBin addD (eBin addD (eSl slcD (eVar 1) pNo (pIs (eVar 3))) (eTup [(eVar 4)])) (eSl slcD (eVar 1) (pIs (eBin addD (eVar 3) (eC (.int 1)))) pNo)), (eNs listD [(eVar 1)])]))
  (retE (eIf (asB (eBin ltD (eVar 2) (eC (.int 4)))) (eBin ixA (eVar 5) (eVar 2)) (eCall F__law_odd [.io 0]))))))
def F__law_order_otherwise : List D → Option (D × List D) := runD [.io 1, .ow 0] g__law_order_otherwise 6
theorem ok__law_order_otherwise (d : DP K mg "_law_order_otherwise" s__law_order_otherwise ["_law_bag_here", "_law_order"]) (h__law_take : PF P w K mg base "_law_take" 1 ["_law_bag_here", "_law_many"] [.io 1, .ow 0] 0 F__law_take) (h__law_one : PF P w K mg base "_law_one" 2 ["_law_bag_here", "_law_some"] [.io 1, .ow 0] 0 F__law_one) (h__law_odd : PF P w K mg base "_law_odd" 3 ["_law_bag_here"] [.io 1] 0 F__law_odd) (nb_len : mg "len" = none) (nb_list : mg "list" = none) : PF P w K mg base "_law_order_otherwise" 4 ["_law_bag_here", "_law_order"] [.io 1, .ow 0] 0 F__law_order_otherwise :=
  have nd := sc__law_order_otherwise.nd
  def_okP (k := 3) (Γ' := [.io 1, .un, .un, .un, .un, .un]) (g := g__law_order_otherwise) d sc__law_order_otherwise (fun f cdv A outer s H E hgd hr =>
    (s_cons (s_par 2 3 rfl nd (m_callP h__law_take hgd hr (by decide) (by rfl) (g_io 0 (g_v m_int g_nil))) (m_callP h__law_take hgd hr (by decide) (by rfl) (g_io 0 (g_v (m_callB c_len (by rfl) nb_len bt_len (a_cons (m_var 1) a_nil)) g_nil))))
    (s_cons (s_set 4 nd (m_callP h__law_one hgd hr (by decide) (by rfl) (g_io 0 (g_v (m_weak (m_lst (a_cons m_str (a_cons m_str (a_cons m_str (a_cons m_str (a_cons m_str (a_cons m_int (a_cons m_non a_nil))))))))) g_nil))))
    (s_cons (s_set 5 nd (m_weak (m_lst (a_cons (m_bin o_add (m_sl sl_D (m_var 1) o_none (o_some (m_var 3))) (m_sl sl_D (m_var 1) (o_some (m_bin o_add (m_var 3) m_int)) o_none)) (a_cons (m_bin o_add (m_bin o_add (m_sl sl_D (m_var 1) o_none (o_some (m_var 3))) (m_tup (a_cons (m_var 4) a_nil))) (m_sl sl_D (m_var 1) (o_some (m_var 3)) o_none)) (a_cons (m_bin o_add (m_bin o_add (m_sl sl_D (m_var 1) o_none (o_some (m_var 3))) (m_tup (a_cons (m_var 4) a_nil))) (m_sl sl_D (m_var 1) (o_some (m_bin o_add (m_var 3) m_int)) o_none)) (a_cons (m_weak (m_callTy c_list (by rfl) nb_list bt_list (a_cons (m_var 1) a_nil))) a_nil)))))))
    (s_one (s_ret (m_if (b_cmp o_lt (m_var 2) m_int (by rfl)) (m_ixA (u66 hr) (m_var 5) (m_var 2) (fun _ _ => rfl)) (m_callP h__law_odd hgd hr (by decide) (by rfl) (g_io 0 g_nil))))))))) (.inl rfl)
abbrev s_law : Stmt := topS 28
theorem sc_law : FnScope ["_law_script", "_law_bag_here", "_law_turn", "_law_order", "_law_rows_here", "_law_tape", "_law_tells", "_law_kept", "_law_again", "_law_thing", "_law_left_here", "_law_many", "_law_shown", "_law_due", "_law_found", "_law_at", "_law_k", "_law_block"] ["_law_script"] (defScope s_law) := ⟨rfl, rfl, rfl, by decide +kernel, rfl, by decide +kernel, by decide +kernel⟩
def g_law : Sx := (sq (forD (iRg1 (eC (.int 4))) (gtName 2) (sq (asg2 3 4 (eCall F__law_save_order [.io 1]) (eCall F__law_rows [.io 1, .v (eC (.int 0))]))
  (sq (sIf (asB (eBin eqD (eCall F__law_take [.io 1, .v (eC (.int 4))]) (eC (.int 0)))) (sq (asg 11 (eBin addD (eC (.int 1)) (eCall F__law_take [.io 1, .v (eC (.int 8))])))
  (asg 4 (lcD [16] (iRg1 (eBin addD (eC (.int 1)) (eCall F__law_take [.io 1, .v (eC (.int 12))]))) (gtName 16) bYes (lcD [15] (iRg1 (eVar 11)) (gtName 15) bYes (eCall F__law_one [.io 1, .v (eLst [(eC (.int 0)), (eC (.int 1)), (eC (.int 2)), (eC (.int 3)), (eBin powD (eC (.int 10)) (eC (.int 39)))])]))))) sNil)
  (sq (asgG (eCall F__law_saved [.v (eVar 3), .v (eVar 4)]) (gtTup 2 (gtCons (gtName 5) (gtCons (gtName 6) gtNil))))
  (sq (asg 7 (eNs reprD [(eLst [(eVar 3), (eVar 4)])]))
  (sq (forD (iRg1 (eC (.int 2))) (gtName 8) (sq (asg 14 (eLst [(eCall F_save_tape [.v (eVar 3), .v (eVar 4)]), (eCall F_tells_at [.v (eVar 3), .v (eVar 4)])]))
  (sq (sIf (bBor (bOr (bNot (asB (eCall F__law_alike [.v (eVar 14), .v (eLst [(eVar 5), (eVar 6)])]))) (asB (eBin neD (eNs reprD [(eLst [(eVar 3), (eVar 4)])]) (eVar 7))))) (retE (eC (.bool false))) sNil)
  (sq (sExp (eAppIx 14 (eC (.int 0)) (eC .none)))
  (sExp (eAppIx 14 (eC (.int 1)) (eC .none)))))))
  (sq (sIf (bNot (asB (eCall F__law_alike [.v (eCall F_is_sure_order [.v (eVar 3)]), .v (eCall F__law_is_sure [.v (eVar 3)])]))) (retE (eC (.bool false))) sNil)
  (sq (asg 9 (eIf (asB (eBin eqD (eCall F__law_take [.io 1, .v (eC (.int 3))]) (eC (.int 0)))) (eVar 3) (eCall F__law_order_otherwise [.io 1, .v (eVar 3)])))
  (sq (sIf (bNot (asB (eCall F__law_alike [.v (eCall F_is_save_order [.v (eVar 9)]), .v (eCall F__law_is_order [.v (eVar 9)])]))) (retE (eC (.bool false))) sNil)
  (sq (asg2 10 11 (eCall F__law_left [.v (eVar 5), .v (eCall F__law_one [.io 1, .v (eCall F__law_crashes [.v (eSl slcD (eVar 5) pNo (pIs (eC (.int 9))))])])]) (eNs lenD [(eBin ixA (eVar 4) (eC (.int 0)))]))
  (sq (asg 10 (eFrz (eNs dictD [(lcD [17] (iSqA (eVar 10)) (gtName 17) (asB (eBin gtD (eCall F__law_take [.io 1, .v (eC (.int 5))]) (eC (.int 0)))) (eTup [(eVar 17), (eBin ixA (eVar 10) (eVar 17))]))])))
  (sq (asg2 12 13 (eNs reprD [(eVar 10)]) (eCall F__law_restored [.v (eVar 10), .v (eVar 11)]))
  (sIf (bOr (bNot (asB (eCall F__law_alike [.v (eCall F_restored [.v (eVar 10), .v (eVar 11)]), .v (eVar 13)]))) (asB (eBin neD (eNs reprD [(eVar 10)]) (eVar 12)))) (retE (eC (.bool false))) sNil)))))))))))))
  (retE (eC (.bool true))))
theorem ok_law (h__law_save_order : PF P w K mg base "_law_save_order" 3 ["_law_bag_here"] [.io 1] 0 F__law_save_order) (h__law_rows : PF P w K mg base "_law_rows" 2 ["_law_bag_here", "_law_low"] [.io 1, .ow 0] 0 F__law_rows) (h__law_take : PF P w K mg base "_law_take" 1 ["_law_bag_here", "_law_many"] [.io 1, .ow 0] 0 F__law_take) (h__law_one : PF P w K mg base "_law_one" 2 ["_law_bag_here", "_law_some"] [.io 1, .ow 0] 0 F__law_one) (h__law_saved : PF P w K mg base "_law_saved" 1 ["_law_order", "_law_rows_here"] [.ow 0, .ow 0] 0 F__law_saved) (h_save_tape : PF P w K mg base "save_tape" 3 ["order", "rows"] [.ow 0, .ow 0] 1 F_save_tape) (h_tells_at : PF P w K mg base "tells_at" 3 ["order", "rows"] [.ow 0, .ow 0] 1 F_tells_at) (h__law_alike : PF P w K mg base "_law_alike" 1 ["_law_found", "_law_due"] [.ow 0, .ow 0] 0 F__law_alike) (h__law_is_sure : PF P w K mg base "_law_is_sure" 1 ["_law_order"] [.ow 0] 0 F__law_is_sure) (h_is_sure_order : PF P w K mg base "is_sure_order" 2 ["order"] [.ow 0] 0 F_is_sure_order) (h__law_order_otherwise : PF P w K mg base "_law_order_otherwise" 4 ["_law_bag_here", "_law_order"] [.io 1, .ow 0] 0 F__law_order_otherwise) (h__law_is_order : PF P w K mg base "_law_is_order" 1 ["_law_thing"] [.ow 0] 0 F__law_is_order) (h_is_save_order : PF P w K mg base "is_save_order" 1 ["thing"] [.ow 0] 0 F_is_save_order) (h__law_crashes : PF P w K mg base "_law_crashes" 1 ["_law_tape"] [.ow 0] 0 F__law_crashes) (h__law_left : PF P w K mg base "_law_left" 1 ["_law_tape", "_law_crash"] [.ow 0, .ow 0] 0 F__law_left) (h__law_restored : PF P w K mg base "_law_restored" 1 ["_law_left_here", "_law_many"] [.ow 0, .ow 0] 0 F__law_restored) (h_restored : PF P w K mg base "restored" 1 ["left", "many"] [.ow 0, .ow 0] 0 F_restored) (nb_range : mg "range" = none) (nb_repr : mg "repr" = none) (nb_len : mg "len" = none) (nb_dict : mg "dict" = none) (f : Addr) (cdv : Value) (A : Around) (outer : List Env) (s : Shared) (H : Hp) (E : XK) (hgd : (A.deeper (envOfC "law" (defScope s_law) s.heap.objs.size f cdv)).guards = some []) (hr : Room 4 (A.deeper (envOfC "law" (defScope s_law) s.heap.objs.size f cdv))) :
    PSs (cxOf CX0 P w K mg base ["_law_script", "_law_bag_here", "_law_turn", "_law_order", "_law_rows_here", "_law_tape", "_law_tells", "_law_kept", "_law_again", "_law_thing", "_law_left_here", "_law_many", "_law_shown", "_law_due", "_law_found", "_law_at", "_law_k", "_law_block"] "law" (defScope s_law) f cdv A outer s H E).nox ((defBody s_law).drop 1) (tS K ⟨[.un, .un, .un, .un, .un, .un, .un, .un, .un, .un, .un, .un, .un, .un, .un, .un, .un, .un], 0, [], []⟩ [.un, .ow 1, .un, .un, .un, .un, .un, .un, .un, .un, .un, .un, .un, .un, .un, .un, .un, .un] [.un, .un, .un, .un, .un, .un, .un, .un, .un, .un, .un, .un, .un, .un, .un, .un, .un, .un] g_law) :=
  have nd := sc_law.nd
  (s_cons (s_for rfl (i_range1 (by rfl) nb_range m_int) (t_name 2 nd) (s_post (Δ := [.un, .ow 1, .un, .un, .un, .un, .un, .un, .un, .un, .un, .un, .un, .un, .un, .un, .un, .un]) [.un, .ow 1, .ow 0, .ow 0, .ow 0, .ow 0, .ow 0, .ow 0, .un, .ow 0, .ow 0, .ow 0, .ow 0, .ow 0, .un, .un, .un, .un] (s_cons (s_par 3 4 rfl nd (m_callP h__law_save_order hgd hr (by decide) (by rfl) (g_io 1 g_nil)) (m_callP h__law_rows hgd hr (by decide) (by rfl) (g_io 1 (g_v m_int g_nil))))
    (s_cons (s_if (b_cmp (op_eqD (u66 hr)) (m_callP h__law_take hgd hr (by decide) (by rfl) (g_io 1 (g_v m_int g_nil))) m_int (by rfl)) (s_post (Δ := [.un, .ow 1, .ow 0, .ow 0, .ow 0, .un, .un, .un, .un, .un, .un, .un, .un, .un, .un, .un, .un, .un]) [.un, .ow 1, .ow 0, .ow 0, .ow 0, .un, .un, .un, .un, .un, .un, .ow 0, .un, .un, .un, .un, .un, .un] (s_cons (s_set 11 nd (m_bin o_add m_int (m_callP h__law_take hgd hr (by decide) (by rfl) (g_io 1 (g_v m_int g_nil)))))
    (s_one (p_post (Δ := [.un, .ow 1, .ow 0, .ow 0, .ow 0, .un, .un, .un, .un, .un, .un, .ow 0, .un, .un, .un, .un, .un, .un]) [.un, .ow 1, .ow 0, .ow 0, .ow 1, .un, .un, .un, .un, .un, .un, .ow 0, .un, .un, .un, .un, .un, .un] (s_setLc 4 (own := [("_law_k", 16)]) rfl nd (i_range1 (by rfl) nb_range (m_bin o_add m_int (m_callP h__law_take hgd hr (by decide) (by rfl) (g_io 1 (g_v m_int g_nil))))) (blkOk_by (by kernel_rfl)) (fun _ _ _ _ _ => (t_name 16 nd)) (fun _ _ _ _ _ => pts_yes) (fun _ _ _ _ _ => (m_weak (m_lc (own := [("_law_at", 15)]) rfl nd (i_range1 (by rfl) nb_range (m_var 11)) (blkOk_by (by kernel_rfl)) (fun _ _ _ _ _ => (t_name 15 nd)) (fun _ _ _ _ _ => pts_yes) (fun _ _ _ _ _ => (m_callP h__law_one hgd hr (by decide) (by rfl) (g_io 1 (g_v (m_weak (m_lst (a_cons m_int (a_cons m_int (a_cons m_int (a_cons m_int (a_cons (m_bin o_pow m_int m_int) a_nil))))))) g_nil))))))) (sw_true rfl rfl rfl (by kernel_rfl))))))) s_nil)
    (s_cons (s_asg (m_callP h__law_saved hgd hr (by decide) (by rfl) (g_v (m_var 3) (g_v (m_var 4) g_nil))) (t_tup 2 rfl (ts_cons (t_name 5 nd) (ts_cons (t_name 6 nd) ts_nil))))
    (s_cons (s_set 7 nd (m_callB (call_reprD (u80 hr) hgd) (by rfl) nb_repr bt_repr (a_cons (m_weak (m_lst (a_cons (m_var 3) (a_cons (m_var 4) a_nil)))) a_nil)))
    (s_cons (s_for rfl (i_range1 (by rfl) nb_range m_int) (t_name 8 nd) (s_post (Δ := [.un, .ow 1, .ow 0, .ow 0, .ow 0, .ow 0, .ow 0, .ow 0, .un, .un, .un, .un, .un, .un, .un, .un, .un, .un]) [.un, .ow 1, .ow 0, .ow 0, .ow 0, .ow 0, .ow 0, .ow 0, .ow 0, .un, .un, .un, .un, .un, .ow 2, .un, .un, .un] (s_cons (s_set 14 nd (m_lstN (a_consN (m_callP h_save_tape hgd hr (by decide) (by rfl) (g_v (m_var 3) (g_v (m_var 4) g_nil))) (a_consN (m_callP h_tells_at hgd hr (by decide) (by rfl) (g_v (m_var 3) (g_v (m_var 4) g_nil))) a_nilN))))
    (s_cons (s_if (b_bor [.un, .un, .un, .ow 0, .ow 0, .ow 0, .ow 0, .ow 0, .un, .un, .un, .un, .un, .un, .ow 0, .un, .un, .un] (PW.pt (b_or (b_not (b_val (m_callP h__law_alike hgd hr (by decide) (by rfl) (g_v (m_var 14) (g_v (m_weak (m_lst (a_cons (m_var 5) (a_cons (m_var 6) a_nil)))) g_nil))))) (b_or1 (b_cmp (op_neD (u66 hr)) (m_callB (call_reprD (u80 hr) hgd) (by rfl) nb_repr bt_repr (a_cons (m_weak (m_lst (a_cons (m_var 3) (a_cons (m_var 4) a_nil)))) a_nil)) (m_var 7) (by rfl)))))) (s_one (p_pre [.un, .ow 0, .ow 0, .ow 0, .ow 0, .ow 0, .ow 0, .ow 0, .ow 0, .un, .un, .un, .un, .un, .ow 0, .un, .un, .un] (s_ret m_bl))) s_nil)
    (s_cons (s_exp (m_appIx 14 m_int m_non))
    (s_one (s_exp (m_appIx 14 m_int m_non))))))) PassesOwn.never)
    (s_cons (s_if (b_not (b_val (m_callP h__law_alike hgd hr (by decide) (by rfl) (g_v (m_callP h_is_sure_order hgd hr (by decide) (by rfl) (g_v (m_var 3) g_nil)) (g_v (m_callP h__law_is_sure hgd hr (by decide) (by rfl) (g_v (m_var 3) g_nil)) g_nil))))) (s_one (p_pre [.un, .ow 0, .ow 0, .ow 0, .ow 0, .ow 0, .ow 0, .ow 0, .un, .un, .un, .un, .un, .un, .un, .un, .un, .un] (s_ret m_bl))) s_nil)
    (s_cons (s_set 9 nd (m_if (b_cmp (op_eqD (u66 hr)) (m_callP h__law_take hgd hr (by decide) (by rfl) (g_io 1 (g_v m_int g_nil))) m_int (by rfl)) (m_var 3) (m_callP h__law_order_otherwise hgd hr (by decide) (by rfl) (g_io 1 (g_v (m_var 3) g_nil)))))
    (s_cons (s_if (b_not (b_val (m_callP h__law_alike hgd hr (by decide) (by rfl) (g_v (m_callP h_is_save_order hgd hr (by decide) (by rfl) (g_v (m_var 9) g_nil)) (g_v (m_callP h__law_is_order hgd hr (by decide) (by rfl) (g_v (m_var 9) g_nil)) g_nil))))) (s_one (p_pre [.un, .ow 0, .ow 0, .ow 0, .ow 0, .ow 0, .ow 0, .ow 0, .un, .ow 0, .un, .un, .un, .un, .un, .un, .un, .un] (s_ret m_bl))) s_nil)
    (s_cons (s_parG 10 11 rfl nd (m_callP h__law_left hgd hr (by decide) (by rfl) (g_v (m_var 5) (g_v (m_callP h__law_one hgd hr (by decide) (by rfl) (g_io 1 (g_v (m_callP h__law_crashes hgd hr (by decide) (by rfl) (g_v (m_sl sl_D (m_var 5) o_none (o_some m_int)) g_nil)) g_nil))) g_nil))) (m_callB c_len (by rfl) nb_len bt_len (a_cons (m_ixA (u66 hr) (m_var 4) m_int (fun _ _ => rfl)) a_nil)))
    (s_cons (s_set 10 nd (m_frz (m_callTy (c_dict rfl) (by rfl) nb_dict bt_dict (a_cons (m_weak (m_lc (own := [("_law_block", 17)]) rfl nd (i_seqA (m_var 10)) (blkOk_by (by kernel_rfl)) (fun _ _ _ _ _ => (t_name 17 nd)) (fun _ _ _ _ _ => (b_one (b_cmp o_gt (m_callP h__law_take hgd hr (by decide) (by rfl) (g_io 1 (g_v m_int g_nil))) m_int (by rfl)))) (fun _ _ _ _ _ => (m_tup (a_cons (m_var 17) (a_cons (m_ixA (u66 hr) (m_var 10) (m_var 17) (fun _ _ => rfl)) a_nil)))))) a_nil))))
    (s_cons (s_par 12 13 rfl nd (m_callB (call_reprD (u80 hr) hgd) (by rfl) nb_repr bt_repr (a_cons (m_var 10) a_nil)) (m_callP h__law_restored hgd hr (by decide) (by rfl) (g_v (m_var 10) (g_v (m_var 11) g_nil))))
    (s_one (s_if (PW.pt (b_or (b_not (b_val (m_callP h__law_alike hgd hr (by decide) (by rfl) (g_v (m_callP h_restored hgd hr (by decide) (by rfl) (g_v (m_var 10) (g_v (m_var 11) g_nil))) (g_v (m_var 13) g_nil))))) (b_or1 (b_cmp (op_neD (u66 hr)) (m_callB (call_reprD (u80 hr) hgd) (by rfl) nb_repr bt_repr (a_cons (m_var 10) a_nil)) (m_var 12) (by rfl))))) (s_one (p_pre [.un, .ow 0, .ow 0, .ow 0, .ow 0, .ow 0, .ow 0, .ow 0, .un, .ow 0, .ow 0, .ow 0, .ow 0, .ow 0, .un, .un, .un, .un] (s_ret m_bl))) s_nil)))))))))))))) PassesOwn.never)
    (s_one (p_pre [.un, .ow 0, .un, .un, .un, .un, .un, .un, .un, .un, .un, .un, .un, .un, .un, .un, .un, .un] (s_ret m_bl))))
abbrev s__law_bag : Stmt := topS 13
theorem sc__law_bag : FnScope ["_law_script", "_law_cell"] ["_law_script"] (defScope s__law_bag) := ⟨rfl, rfl, rfl, by decide +kernel, rfl, by decide +kernel, by decide +kernel⟩
theorem ok__law_bag {f : Addr} {fd : FuncData} (F : Fun K "_law_bag" "_law_bag" s__law_bag f fd) (nb_abs : mg "abs" = none) : FnG P w K mg base CX0 1 f fd ["_law_script"] (spBag K) := by
  refine FnG.of F sc__law_bag (fun vs H Q E h => ?_) (fun cdv A outer s H vs Q E hgd hr h => ?_)
  · obtain ⟨a, ns, rfl, _⟩ := h; rfl
  · obtain ⟨a, ns, rfl, hS, hlen, q⟩ := h
    exact ⟨tBag K, (pss_one (ps_ret (pe_lst (pa_cons pe_int (pa_cons pe_int (pa_cons pe_int (pa_cons (pe_lc (own := [("_law_cell", 1)]) (g := gName 1) (tt := tYes) rfl sc__law_bag.nd (pi_list (pe_slice sl_list (pv 0) po_none (po_some pe_int))) (blkOk_by (by kernel_rfl))
      (fun _ _ _ _ _ => pg_name (i := 1) sc__law_bag.nd rfl (Or.inl rfl)) (fun _ _ _ _ _ => pts_nil) (fun _ _ _ _ _ => pe_callB call_abs (by rfl) nb_abs bt_abs (pa_cons (pv 1) pa_nil))) pa_nil)))))) : PSs (cxOf CX0 P w K mg base ["_law_script", "_law_cell"] "_law_bag" (defScope s__law_bag) f cdv A outer s H E).nox (defBody s__law_bag) (tBag K)).nox, bag_read (N := fun _ => True) hS hlen q⟩
theorem okLaw {f : Addr} {fd : FuncData} (F : Fun K "law" "law" s_law f fd) (dbag : DP K mg "_law_bag" s__law_bag ["_law_script"]) (nb_abs : mg "abs" = none) (h__law_save_order : PF P w K mg base "_law_save_order" 3 ["_law_bag_here"] [.io 1] 0 F__law_save_order) (h__law_rows : PF P w K mg base "_law_rows" 2 ["_law_bag_here", "_law_low"] [.io 1, .ow 0] 0 F__law_rows) (h__law_take : PF P w K mg base "_law_take" 1 ["_law_bag_here", "_law_many"] [.io 1, .ow 0] 0 F__law_take) (h__law_one : PF P w K mg base "_law_one" 2 ["_law_bag_here", "_law_some"] [.io 1, .ow 0] 0 F__law_one) (h__law_saved : PF P w K mg base "_law_saved" 1 ["_law_order", "_law_rows_here"] [.ow 0, .ow 0] 0 F__law_saved) (h_save_tape : PF P w K mg base "save_tape" 3 ["order", "rows"] [.ow 0, .ow 0] 1 F_save_tape) (h_tells_at : PF P w K mg base "tells_at" 3 ["order", "rows"] [.ow 0, .ow 0] 1 F_tells_at) (h__law_alike : PF P w K mg base "_law_alike" 1 ["_law_found", "_law_due"] [.ow 0, .ow 0] 0 F__law_alike) (h__law_is_sure : PF P w K mg base "_law_is_sure" 1 ["_law_order"] [.ow 0] 0 F__law_is_sure) (h_is_sure_order : PF P w K mg base "is_sure_order" 2 ["order"] [.ow 0] 0 F_is_sure_order) (h__law_order_otherwise : PF P w K mg base "_law_order_otherwise" 4 ["_law_bag_here", "_law_order"] [.io 1, .ow 0] 0 F__law_order_otherwise) (h__law_is_order : PF P w K mg base "_law_is_order" 1 ["_law_thing"] [.ow 0] 0 F__law_is_order) (h_is_save_order : PF P w K mg base "is_save_order" 1 ["thing"] [.ow 0] 0 F_is_save_order) (h__law_crashes : PF P w K mg base "_law_crashes" 1 ["_law_tape"] [.ow 0] 0 F__law_crashes) (h__law_left : PF P w K mg base "_law_left" 1 ["_law_tape", "_law_crash"] [.ow 0, .ow 0] 0 F__law_left) (h__law_restored : PF P w K mg base "_law_restored" 1 ["_law_left_here", "_law_many"] [.ow 0, .ow 0] 0 F__law_restored) (h_restored : PF P w K mg base "restored" 1 ["left", "many"] [.ow 0, .ow 0] 0 F_restored) (nb_range : mg "range" = none) (nb_repr : mg "repr" = none) (nb_len : mg "len" = none) (nb_dict : mg "dict" = none) (hmath : ∀ ns : List Int, ns.length ≤ 63 → ∃ e, g_law (env0 18 ns) = some (.rt (.bool true) e)) : FnG P w K mg base CX0 5 f fd ["_law_script"] (spLaw K) := by
  obtain ⟨fb, fdb, Fb, gb, bb⟩ := dbag
  have Gb := ok__law_bag (P := P) (w := w) (base := base) (mg := mg) Fb nb_abs
  refine FnG.of F sc_law (fun vs H Q E h => ?_) (fun cdv A outer s H vs Q E hgd hr h => ?_)
  · obtain ⟨a, ns, rfl, _⟩ := h; rfl
  · obtain ⟨a, ns, rfl, hS, hlen, q⟩ := h
    obtain ⟨e, he⟩ := hmath ns hlen
    exact ⟨_, (pss_cons (ps_set (i := 1) sc_law.nd rfl (by first | exact Or.inl rfl | exact Or.inr rfl) (pe_callG Gb hgd (hr.mono (by decide)) (by rfl) gb Fb.kp bb pass0 (pa_cons (pv 0) pa_nil))) (ok_law h__law_save_order h__law_rows h__law_take h__law_one h__law_saved h_save_tape h_tells_at h__law_alike h__law_is_sure h_is_sure_order h__law_order_otherwise h__law_is_order h_is_save_order h__law_crashes h__law_left h__law_restored h_restored nb_range nb_repr nb_len nb_dict f cdv A outer s H E hgd hr) : PSs (cxOf CX0 P w K mg base ["_law_script", "_law_bag_here", "_law_turn", "_law_order", "_law_rows_here", "_law_tape", "_law_tells", "_law_kept", "_law_again", "_law_thing", "_law_left_here", "_law_many", "_law_shown", "_law_due", "_law_found", "_law_at", "_law_k", "_law_block"] "law" (defScope s_law) f cdv A outer s H E).nox (defBody s_law) _).nox, law_read (m := 18) (by decide) rfl hS hlen q he⟩
theorem all_mk {l : PySem.W.OpenLaw} {h : Heap} {fa : Addr} (X : K.In h) (G : h.Ns mainGlobals mg) (hfa : mg "law" = some (.ref fa)) (hmath : ∀ ns : List Int, ns.length ≤ 63 → ∃ e, g_law (env0 18 ns) = some (.rt (.bool true) e)) {f0 : Addr} {od0 an0 : Option Addr} {sl0 : Array (Option Value)} {oc0 kV0 dc0 pm0 cd0 ct0 : Value} {f1 : Addr} {od1 an1 : Option Addr} {sl1 : Array (Option Value)} {oc1 kV1 dc1 pm1 cd1 ct1 : Value} {f2 : Addr} {od2 an2 : Option Addr} {sl2 : Array (Option Value)} {oc2 kV2 dc2 pm2 cd2 ct2 : Value} {f3 : Addr} {od3 an3 : Option Addr} {sl3 : Array (Option Value)} {oc3 kV3 dc3 pm3 cd3 ct3 : Value} {f4 : Addr} {od4 an4 : Option Addr} {sl4 : Array (Option Value)} {oc4 kV4 dc4 pm4 cd4 ct4 : Value} {f5 : Addr} {od5 an5 : Option Addr} {sl5 : Array (Option Value)} {oc5 kV5 dc5 pm5 cd5 ct5 : Value} {f6 : Addr} {od6 an6 : Option Addr} {sl6 : Array (Option Value)} {oc6 kV6 dc6 pm6 cd6 ct6 : Value} {f7 : Addr} {od7 an7 : Option Addr} {sl7 : Array (Option Value)} {oc7 kV7 dc7 pm7 cd7 ct7 : Value} {f8 : Addr} {od8 an8 : Option Addr} {sl8 : Array (Option Value)} {oc8 kV8 dc8 pm8 cd8 ct8 : Value} {f9 : Addr} {od9 an9 : Option Addr} {sl9 : Array (Option Value)} {oc9 kV9 dc9 pm9 cd9 ct9 : Value} {f10 : Addr} {od10 an10 : Option Addr} {sl10 : Array (Option Value)} {oc10 kV10 dc10 pm10 cd10 ct10 : Value} {f11 : Addr} {od11 an11 : Option Addr} {sl11 : Array (Option Value)} {oc11 kV11 dc11 pm11 cd11 ct11 : Value} {f12 : Addr} {od12 an12 : Option Addr} {sl12 : Array (Option Value)} {oc12 kV12 dc12 pm12 cd12 ct12 : Value} {f13 : Addr} {od13 an13 : Option Addr} {sl13 : Array (Option Value)} {oc13 kV13 dc13 pm13 cd13 ct13 : Value} {f14 : Addr} {od14 an14 : Option Addr} {sl14 : Array (Option Value)} {oc14 kV14 dc14 pm14 cd14 ct14 : Value} {f15 : Addr} {od15 an15 : Option Addr} {sl15 : Array (Option Value)} {oc15 kV15 dc15 pm15 cd15 ct15 : Value} {f16 : Addr} {od16 an16 : Option Addr} {sl16 : Array (Option Value)} {oc16 kV16 dc16 pm16 cd16 ct16 : Value} {f17 : Addr} {od17 an17 : Option Addr} {sl17 : Array (Option Value)} {oc17 kV17 dc17 pm17 cd17 ct17 : Value} {f18 : Addr} {od18 an18 : Option Addr} {sl18 : Array (Option Value)} {oc18 kV18 dc18 pm18 cd18 ct18 : Value} {f19 : Addr} {od19 an19 : Option Addr} {sl19 : Array (Option Value)} {oc19 kV19 dc19 pm19 cd19 ct19 : Value} {f20 : Addr} {od20 an20 : Option Addr} {sl20 : Array (Option Value)} {oc20 kV20 dc20 pm20 cd20 ct20 : Value} {f21 : Addr} {od21 an21 : Option Addr} {sl21 : Array (Option Value)} {oc21 kV21 dc21 pm21 cd21 ct21 : Value} {f22 : Addr} {od22 an22 : Option Addr} {sl22 : Array (Option Value)} {oc22 kV22 dc22 pm22 cd22 ct22 : Value} {f23 : Addr} {od23 an23 : Option Addr} {sl23 : Array (Option Value)} {oc23 kV23 dc23 pm23 cd23 ct23 : Value} {tk_SINK : Tok} {a_STEPS : Addr} {n_STEPS : Nat} {s_STEPS : Array (Option Value)} {t_STEPS_0 : Tok} {t_STEPS_1 : Tok} {t_STEPS_2 : Tok} {tk_MOST_SINKS : Tok}
    (a0 : PySem.W.nsIn K mainGlobals "is_save_order" = some (some (.ref f0))) (l0 : K.lookup f0 = some ⟨oc0, od0, .func (PySem.W.fnOf "is_save_order" "is_save_order" (defArgs s_is_save_order) (defBody s_is_save_order) (defScope s_is_save_order) .none kV0 dc0 pm0 an0 cd0 ct0), sl0⟩) (c0 : PySem.W.codeIn K cd0 "is_save_order" = true) (k0 : PySem.W.keepIn K (.ref f0) = true)
    (a1 : PySem.W.nsIn K mainGlobals "data_of" = some (some (.ref f1))) (l1 : K.lookup f1 = some ⟨oc1, od1, .func (PySem.W.fnOf "data_of" "data_of" (defArgs s_data_of) (defBody s_data_of) (defScope s_data_of) .none kV1 dc1 pm1 an1 cd1 ct1), sl1⟩) (c1 : PySem.W.codeIn K cd1 "data_of" = true) (k1 : PySem.W.keepIn K (.ref f1) = true)
    (a2 : PySem.W.nsIn K mainGlobals "restored" = some (some (.ref f2))) (l2 : K.lookup f2 = some ⟨oc2, od2, .func (PySem.W.fnOf "restored" "restored" (defArgs s_restored) (defBody s_restored) (defScope s_restored) .none kV2 dc2 pm2 an2 cd2 ct2), sl2⟩) (c2 : PySem.W.codeIn K cd2 "restored" = true) (k2 : PySem.W.keepIn K (.ref f2) = true)
    (a3 : PySem.W.nsIn K mainGlobals "is_between" = some (some (.ref f3))) (l3 : K.lookup f3 = some ⟨oc3, od3, .func (PySem.W.fnOf "is_between" "is_between" (defArgs s_is_between) (defBody s_is_between) (defScope s_is_between) .none kV3 dc3 pm3 an3 cd3 ct3), sl3⟩) (c3 : PySem.W.codeIn K cd3 "is_between" = true) (k3 : PySem.W.keepIn K (.ref f3) = true)
    (a4 : PySem.W.nsIn K mainGlobals "_law_bag" = some (some (.ref f4))) (l4 : K.lookup f4 = some ⟨oc4, od4, .func (PySem.W.fnOf "_law_bag" "_law_bag" (defArgs s__law_bag) (defBody s__law_bag) (defScope s__law_bag) .none kV4 dc4 pm4 an4 cd4 ct4), sl4⟩) (c4 : PySem.W.codeIn K cd4 "_law_bag" = true) (k4 : PySem.W.keepIn K (.ref f4) = true)
    (a5 : PySem.W.nsIn K mainGlobals "_law_take" = some (some (.ref f5))) (l5 : K.lookup f5 = some ⟨oc5, od5, .func (PySem.W.fnOf "_law_take" "_law_take" (defArgs s__law_take) (defBody s__law_take) (defScope s__law_take) .none kV5 dc5 pm5 an5 cd5 ct5), sl5⟩) (c5 : PySem.W.codeIn K cd5 "_law_take" = true) (k5 : PySem.W.keepIn K (.ref f5) = true)
    (a6 : PySem.W.nsIn K mainGlobals "_law_alike" = some (some (.ref f6))) (l6 : K.lookup f6 = some ⟨oc6, od6, .func (PySem.W.fnOf "_law_alike" "_law_alike" (defArgs s__law_alike) (defBody s__law_alike) (defScope s__law_alike) .none kV6 dc6 pm6 an6 cd6 ct6), sl6⟩) (c6 : PySem.W.codeIn K cd6 "_law_alike" = true) (k6 : PySem.W.keepIn K (.ref f6) = true)
    (a7 : PySem.W.nsIn K mainGlobals "_law_crashes" = some (some (.ref f7))) (l7 : K.lookup f7 = some ⟨oc7, od7, .func (PySem.W.fnOf "_law_crashes" "_law_crashes" (defArgs s__law_crashes) (defBody s__law_crashes) (defScope s__law_crashes) .none kV7 dc7 pm7 an7 cd7 ct7), sl7⟩) (c7 : PySem.W.codeIn K cd7 "_law_crashes" = true) (k7 : PySem.W.keepIn K (.ref f7) = true)
    (a8 : PySem.W.nsIn K mainGlobals "_law_left" = some (some (.ref f8))) (l8 : K.lookup f8 = some ⟨oc8, od8, .func (PySem.W.fnOf "_law_left" "_law_left" (defArgs s__law_left) (defBody s__law_left) (defScope s__law_left) .none kV8 dc8 pm8 an8 cd8 ct8), sl8⟩) (c8 : PySem.W.codeIn K cd8 "_law_left" = true) (k8 : PySem.W.keepIn K (.ref f8) = true)
    (a9 : PySem.W.nsIn K mainGlobals "_law_saved" = some (some (.ref f9))) (l9 : K.lookup f9 = some ⟨oc9, od9, .func (PySem.W.fnOf "_law_saved" "_law_saved" (defArgs s__law_saved) (defBody s__law_saved) (defScope s__law_saved) .none kV9 dc9 pm9 an9 cd9 ct9), sl9⟩) (c9 : PySem.W.codeIn K cd9 "_law_saved" = true) (k9 : PySem.W.keepIn K (.ref f9) = true)
    (a10 : PySem.W.nsIn K mainGlobals "_law_restored" = some (some (.ref f10))) (l10 : K.lookup f10 = some ⟨oc10, od10, .func (PySem.W.fnOf "_law_restored" "_law_restored" (defArgs s__law_restored) (defBody s__law_restored) (defScope s__law_restored) .none kV10 dc10 pm10 an10 cd10 ct10), sl10⟩) (c10 : PySem.W.codeIn K cd10 "_law_restored" = true) (k10 : PySem.W.keepIn K (.ref f10) = true)
    (a11 : PySem.W.nsIn K mainGlobals "_law_is_sure" = some (some (.ref f11))) (l11 : K.lookup f11 = some ⟨oc11, od11, .func (PySem.W.fnOf "_law_is_sure" "_law_is_sure" (defArgs s__law_is_sure) (defBody s__law_is_sure) (defScope s__law_is_sure) .none kV11 dc11 pm11 an11 cd11 ct11), sl11⟩) (c11 : PySem.W.codeIn K cd11 "_law_is_sure" = true) (k11 : PySem.W.keepIn K (.ref f11) = true)
    (a12 : PySem.W.nsIn K mainGlobals "_law_is_order" = some (some (.ref f12))) (l12 : K.lookup f12 = some ⟨oc12, od12, .func (PySem.W.fnOf "_law_is_order" "_law_is_order" (defArgs s__law_is_order) (defBody s__law_is_order) (defScope s__law_is_order) .none kV12 dc12 pm12 an12 cd12 ct12), sl12⟩) (c12 : PySem.W.codeIn K cd12 "_law_is_order" = true) (k12 : PySem.W.keepIn K (.ref f12) = true)
    (a13 : PySem.W.nsIn K mainGlobals "led_tape" = some (some (.ref f13))) (l13 : K.lookup f13 = some ⟨oc13, od13, .func (PySem.W.fnOf "led_tape" "led_tape" (defArgs s_led_tape) (defBody s_led_tape) (defScope s_led_tape) .none kV13 dc13 pm13 an13 cd13 ct13), sl13⟩) (c13 : PySem.W.codeIn K cd13 "led_tape" = true) (k13 : PySem.W.keepIn K (.ref f13) = true)
    (a14 : PySem.W.nsIn K mainGlobals "is_sure_order" = some (some (.ref f14))) (l14 : K.lookup f14 = some ⟨oc14, od14, .func (PySem.W.fnOf "is_sure_order" "is_sure_order" (defArgs s_is_sure_order) (defBody s_is_sure_order) (defScope s_is_sure_order) .none kV14 dc14 pm14 an14 cd14 ct14), sl14⟩) (c14 : PySem.W.codeIn K cd14 "is_sure_order" = true) (k14 : PySem.W.keepIn K (.ref f14) = true)
    (a15 : PySem.W.nsIn K mainGlobals "_law_one" = some (some (.ref f15))) (l15 : K.lookup f15 = some ⟨oc15, od15, .func (PySem.W.fnOf "_law_one" "_law_one" (defArgs s__law_one) (defBody s__law_one) (defScope s__law_one) .none kV15 dc15 pm15 an15 cd15 ct15), sl15⟩) (c15 : PySem.W.codeIn K cd15 "_law_one" = true) (k15 : PySem.W.keepIn K (.ref f15) = true)
    (a16 : PySem.W.nsIn K mainGlobals "_law_mixed" = some (some (.ref f16))) (l16 : K.lookup f16 = some ⟨oc16, od16, .func (PySem.W.fnOf "_law_mixed" "_law_mixed" (defArgs s__law_mixed) (defBody s__law_mixed) (defScope s__law_mixed) .none kV16 dc16 pm16 an16 cd16 ct16), sl16⟩) (c16 : PySem.W.codeIn K cd16 "_law_mixed" = true) (k16 : PySem.W.keepIn K (.ref f16) = true)
    (a17 : PySem.W.nsIn K mainGlobals "_law_rows" = some (some (.ref f17))) (l17 : K.lookup f17 = some ⟨oc17, od17, .func (PySem.W.fnOf "_law_rows" "_law_rows" (defArgs s__law_rows) (defBody s__law_rows) (defScope s__law_rows) .none kV17 dc17 pm17 an17 cd17 ct17), sl17⟩) (c17 : PySem.W.codeIn K cd17 "_law_rows" = true) (k17 : PySem.W.keepIn K (.ref f17) = true)
    (a18 : PySem.W.nsIn K mainGlobals "save_tape" = some (some (.ref f18))) (l18 : K.lookup f18 = some ⟨oc18, od18, .func (PySem.W.fnOf "save_tape" "save_tape" (defArgs s_save_tape) (defBody s_save_tape) (defScope s_save_tape) .none kV18 dc18 pm18 an18 cd18 ct18), sl18⟩) (c18 : PySem.W.codeIn K cd18 "save_tape" = true) (k18 : PySem.W.keepIn K (.ref f18) = true)
    (a19 : PySem.W.nsIn K mainGlobals "tells_at" = some (some (.ref f19))) (l19 : K.lookup f19 = some ⟨oc19, od19, .func (PySem.W.fnOf "tells_at" "tells_at" (defArgs s_tells_at) (defBody s_tells_at) (defScope s_tells_at) .none kV19 dc19 pm19 an19 cd19 ct19), sl19⟩) (c19 : PySem.W.codeIn K cd19 "tells_at" = true) (k19 : PySem.W.keepIn K (.ref f19) = true)
    (a20 : PySem.W.nsIn K mainGlobals "_law_save_order" = some (some (.ref f20))) (l20 : K.lookup f20 = some ⟨oc20, od20, .func (PySem.W.fnOf "_law_save_order" "_law_save_order" (defArgs s__law_save_order) (defBody s__law_save_order) (defScope s__law_save_order) .none kV20 dc20 pm20 an20 cd20 ct20), sl20⟩) (c20 : PySem.W.codeIn K cd20 "_law_save_order" = true) (k20 : PySem.W.keepIn K (.ref f20) = true)
    (a21 : PySem.W.nsIn K mainGlobals "_law_odd" = some (some (.ref f21))) (l21 : K.lookup f21 = some ⟨oc21, od21, .func (PySem.W.fnOf "_law_odd" "_law_odd" (defArgs s__law_odd) (defBody s__law_odd) (defScope s__law_odd) .none kV21 dc21 pm21 an21 cd21 ct21), sl21⟩) (c21 : PySem.W.codeIn K cd21 "_law_odd" = true) (k21 : PySem.W.keepIn K (.ref f21) = true)
    (a22 : PySem.W.nsIn K mainGlobals "_law_order_otherwise" = some (some (.ref f22))) (l22 : K.lookup f22 = some ⟨oc22, od22, .func (PySem.W.fnOf "_law_order_otherwise" "_law_order_otherwise" (defArgs s__law_order_otherwise) (defBody s__law_order_otherwise) (defScope s__law_order_otherwise) .none kV22 dc22 pm22 an22 cd22 ct22), sl22⟩) (c22 : PySem.W.codeIn K cd22 "_law_order_otherwise" = true) (k22 : PySem.W.keepIn K (.ref f22) = true)
    (a23 : PySem.W.nsIn K mainGlobals "law" = some (some (.ref f23))) (l23 : K.lookup f23 = some ⟨oc23, od23, .func (PySem.W.fnOf "law" "law" (defArgs s_law) (defBody s_law) (defScope s_law) .none kV23 dc23 pm23 an23 cd23 ct23), sl23⟩) (c23 : PySem.W.codeIn K cd23 "law" = true) (k23 : PySem.W.keepIn K (.ref f23) = true)
    (z0 : PySem.W.nsIn K mainGlobals "abs" = some none)
    (z1 : PySem.W.nsIn K mainGlobals "isinstance" = some none)
    (z2 : PySem.W.nsIn K mainGlobals "tuple" = some none)
    (z3 : PySem.W.nsIn K mainGlobals "str" = some none)
    (z4 : PySem.W.nsIn K mainGlobals "all" = some none)
    (z5 : PySem.W.nsIn K mainGlobals "len" = some none)
    (z6 : PySem.W.nsIn K mainGlobals "enumerate" = some none)
    (z7 : PySem.W.nsIn K mainGlobals "range" = some none)
    (z8 : PySem.W.nsIn K mainGlobals "int" = some none)
    (z9 : PySem.W.nsIn K mainGlobals "repr" = some none)
    (z10 : PySem.W.nsIn K mainGlobals "sorted" = some none)
    (z11 : PySem.W.nsIn K mainGlobals "dict" = some none)
    (z12 : PySem.W.nsIn K mainGlobals "list" = some none)
    (g0 : PySem.W.nsIn K mainGlobals "SINK" = some (some (.str "sink" tk_SINK)))
    (g1 : PySem.W.nsIn K mainGlobals "STEPS" = some (some (.ref a_STEPS))) (m1 : K.lookup a_STEPS = some ⟨.type "tuple", none, .seq #[.str "data" t_STEPS_0, .str "mark" t_STEPS_1, .str "tell" t_STEPS_2] n_STEPS, s_STEPS⟩)
    (g2 : PySem.W.nsIn K mainGlobals "MOST_SINKS" = some (some (.int 4 tk_MOST_SINKS))) :
    ∃ fd : FuncData, (∀ (s : Shared) (v : Value), BindsTo s fd ⟨[v], []⟩ [("_law_script", v)]) ∧ ∀ base : Heap, K.In base → base.Ns mainGlobals mg → FnG l.prog w K mg base CX0 5 fa fd ["_law_script"] (spLaw K) := by
  have e := hfa.symm.trans (PySem.W.mg_of X G a23)
  cases e
  have D_is_save_order : DP K mg "is_save_order" s_is_save_order ["thing"] := ⟨_, _, fun_mk (st := s_is_save_order) l0 c0 k0, PySem.W.mg_of X G a0, (fun_mk (st := s_is_save_order) l0 c0 k0).binds fun _ _ _ _ _ _ us hl => match us, hl with | [_], _ => rfl⟩
  have D_data_of : DP K mg "data_of" s_data_of ["number", "row"] := ⟨_, _, fun_mk (st := s_data_of) l1 c1 k1, PySem.W.mg_of X G a1, (fun_mk (st := s_data_of) l1 c1 k1).binds fun _ _ _ _ _ _ us hl => match us, hl with | [_, _], _ => rfl⟩
  have D_restored : DP K mg "restored" s_restored ["left", "many"] := ⟨_, _, fun_mk (st := s_restored) l2 c2 k2, PySem.W.mg_of X G a2, (fun_mk (st := s_restored) l2 c2 k2).binds fun _ _ _ _ _ _ us hl => match us, hl with | [_, _], _ => rfl⟩
  have D_is_between : DP K mg "is_between" s_is_between ["order", "first", "second"] := ⟨_, _, fun_mk (st := s_is_between) l3 c3 k3, PySem.W.mg_of X G a3, (fun_mk (st := s_is_between) l3 c3 k3).binds fun _ _ _ _ _ _ us hl => match us, hl with | [_, _, _], _ => rfl⟩
  have D__law_bag : DP K mg "_law_bag" s__law_bag ["_law_script"] := ⟨_, _, fun_mk (st := s__law_bag) l4 c4 k4, PySem.W.mg_of X G a4, (fun_mk (st := s__law_bag) l4 c4 k4).binds fun _ _ _ _ _ _ us hl => match us, hl with | [_], _ => rfl⟩
  have D__law_take : DP K mg "_law_take" s__law_take ["_law_bag_here", "_law_many"] := ⟨_, _, fun_mk (st := s__law_take) l5 c5 k5, PySem.W.mg_of X G a5, (fun_mk (st := s__law_take) l5 c5 k5).binds fun _ _ _ _ _ _ us hl => match us, hl with | [_, _], _ => rfl⟩
  have D__law_alike : DP K mg "_law_alike" s__law_alike ["_law_found", "_law_due"] := ⟨_, _, fun_mk (st := s__law_alike) l6 c6 k6, PySem.W.mg_of X G a6, (fun_mk (st := s__law_alike) l6 c6 k6).binds fun _ _ _ _ _ _ us hl => match us, hl with | [_, _], _ => rfl⟩
  have D__law_crashes : DP K mg "_law_crashes" s__law_crashes ["_law_tape"] := ⟨_, _, fun_mk (st := s__law_crashes) l7 c7 k7, PySem.W.mg_of X G a7, (fun_mk (st := s__law_crashes) l7 c7 k7).binds fun _ _ _ _ _ _ us hl => match us, hl with | [_], _ => rfl⟩
  have D__law_left : DP K mg "_law_left" s__law_left ["_law_tape", "_law_crash"] := ⟨_, _, fun_mk (st := s__law_left) l8 c8 k8, PySem.W.mg_of X G a8, (fun_mk (st := s__law_left) l8 c8 k8).binds fun _ _ _ _ _ _ us hl => match us, hl with | [_, _], _ => rfl⟩
  have D__law_saved : DP K mg "_law_saved" s__law_saved ["_law_order", "_law_rows_here"] := ⟨_, _, fun_mk (st := s__law_saved) l9 c9 k9, PySem.W.mg_of X G a9, (fun_mk (st := s__law_saved) l9 c9 k9).binds fun _ _ _ _ _ _ us hl => match us, hl with | [_, _], _ => rfl⟩
  have D__law_restored : DP K mg "_law_restored" s__law_restored ["_law_left_here", "_law_many"] := ⟨_, _, fun_mk (st := s__law_restored) l10 c10 k10, PySem.W.mg_of X G a10, (fun_mk (st := s__law_restored) l10 c10 k10).binds fun _ _ _ _ _ _ us hl => match us, hl with | [_, _], _ => rfl⟩
  have D__law_is_sure : DP K mg "_law_is_sure" s__law_is_sure ["_law_order"] := ⟨_, _, fun_mk (st := s__law_is_sure) l11 c11 k11, PySem.W.mg_of X G a11, (fun_mk (st := s__law_is_sure) l11 c11 k11).binds fun _ _ _ _ _ _ us hl => match us, hl with | [_], _ => rfl⟩
  have D__law_is_order : DP K mg "_law_is_order" s__law_is_order ["_law_thing"] := ⟨_, _, fun_mk (st := s__law_is_order) l12 c12 k12, PySem.W.mg_of X G a12, (fun_mk (st := s__law_is_order) l12 c12 k12).binds fun _ _ _ _ _ _ us hl => match us, hl with | [_], _ => rfl⟩
  have D_led_tape : DP K mg "led_tape" s_led_tape ["order", "rows"] := ⟨_, _, fun_mk (st := s_led_tape) l13 c13 k13, PySem.W.mg_of X G a13, (fun_mk (st := s_led_tape) l13 c13 k13).binds fun _ _ _ _ _ _ us hl => match us, hl with | [_, _], _ => rfl⟩
  have D_is_sure_order : DP K mg "is_sure_order" s_is_sure_order ["order"] := ⟨_, _, fun_mk (st := s_is_sure_order) l14 c14 k14, PySem.W.mg_of X G a14, (fun_mk (st := s_is_sure_order) l14 c14 k14).binds fun _ _ _ _ _ _ us hl => match us, hl with | [_], _ => rfl⟩
  have D__law_one : DP K mg "_law_one" s__law_one ["_law_bag_here", "_law_some"] := ⟨_, _, fun_mk (st := s__law_one) l15 c15 k15, PySem.W.mg_of X G a15, (fun_mk (st := s__law_one) l15 c15 k15).binds fun _ _ _ _ _ _ us hl => match us, hl with | [_, _], _ => rfl⟩
  have D__law_mixed : DP K mg "_law_mixed" s__law_mixed ["_law_bag_here", "_law_things"] := ⟨_, _, fun_mk (st := s__law_mixed) l16 c16 k16, PySem.W.mg_of X G a16, (fun_mk (st := s__law_mixed) l16 c16 k16).binds fun _ _ _ _ _ _ us hl => match us, hl with | [_, _], _ => rfl⟩
  have D__law_rows : DP K mg "_law_rows" s__law_rows ["_law_bag_here", "_law_low"] := ⟨_, _, fun_mk (st := s__law_rows) l17 c17 k17, PySem.W.mg_of X G a17, (fun_mk (st := s__law_rows) l17 c17 k17).binds fun _ _ _ _ _ _ us hl => match us, hl with | [_, _], _ => rfl⟩
  have D_save_tape : DP K mg "save_tape" s_save_tape ["order", "rows"] := ⟨_, _, fun_mk (st := s_save_tape) l18 c18 k18, PySem.W.mg_of X G a18, (fun_mk (st := s_save_tape) l18 c18 k18).binds fun _ _ _ _ _ _ us hl => match us, hl with | [_, _], _ => rfl⟩
  have D_tells_at : DP K mg "tells_at" s_tells_at ["order", "rows"] := ⟨_, _, fun_mk (st := s_tells_at) l19 c19 k19, PySem.W.mg_of X G a19, (fun_mk (st := s_tells_at) l19 c19 k19).binds fun _ _ _ _ _ _ us hl => match us, hl with | [_, _], _ => rfl⟩
  have D__law_save_order : DP K mg "_law_save_order" s__law_save_order ["_law_bag_here"] := ⟨_, _, fun_mk (st := s__law_save_order) l20 c20 k20, PySem.W.mg_of X G a20, (fun_mk (st := s__law_save_order) l20 c20 k20).binds fun _ _ _ _ _ _ us hl => match us, hl with | [_], _ => rfl⟩
  have D__law_odd : DP K mg "_law_odd" s__law_odd ["_law_bag_here"] := ⟨_, _, fun_mk (st := s__law_odd) l21 c21 k21, PySem.W.mg_of X G a21, (fun_mk (st := s__law_odd) l21 c21 k21).binds fun _ _ _ _ _ _ us hl => match us, hl with | [_], _ => rfl⟩
  have D__law_order_otherwise : DP K mg "_law_order_otherwise" s__law_order_otherwise ["_law_bag_here", "_law_order"] := ⟨_, _, fun_mk (st := s__law_order_otherwise) l22 c22 k22, PySem.W.mg_of X G a22, (fun_mk (st := s__law_order_otherwise) l22 c22 k22).binds fun _ _ _ _ _ _ us hl => match us, hl with | [_, _], _ => rfl⟩
  have nb_abs := PySem.W.mg_none_of X G z0
  have nb_isinstance := PySem.W.mg_none_of X G z1
  have nb_tuple := PySem.W.mg_none_of X G z2
  have nb_str := PySem.W.mg_none_of X G z3
  have nb_all := PySem.W.mg_none_of X G z4
  have nb_len := PySem.W.mg_none_of X G z5
  have nb_enumerate := PySem.W.mg_none_of X G z6
  have nb_range := PySem.W.mg_none_of X G z7
  have nb_int := PySem.W.mg_none_of X G z8
  have nb_repr := PySem.W.mg_none_of X G z9
  have nb_sorted := PySem.W.mg_none_of X G z10
  have nb_dict := PySem.W.mg_none_of X G z11
  have nb_list := PySem.W.mg_none_of X G z12
  have c_SINK := PySem.W.mg_of X G g0
  have c_STEPS := PySem.W.mg_of X G g1
  have r_STEPS : ∀ G, Rep K G (.ref a_STEPS) (.tuple [.str "data", .str "mark", .str "tell"]) := fun G => .tup (vs := [.str "data", .str "mark", .str "tell"]) (.inr ⟨_, _, _, m1, rfl, rfl, rfl, by show 3 ≤ sizeLine; decide, (.cons ⟨_, rfl⟩ (.cons ⟨_, rfl⟩ (.cons ⟨_, rfl⟩ .nil)))⟩) (.cons (.str _) (.cons (.str _) (.cons (.str _) .nil)))
  have c_MOST_SINKS := PySem.W.mg_of X G g2
  refine ⟨PySem.W.fnOf "law" "law" (defArgs s_law) (defBody s_law) (defScope s_law) .none kV23 dc23 pm23 an23 cd23 ct23, fun s v => .of_eq rfl, fun base _ _ => ?_⟩
  have h_is_save_order := ok_is_save_order (P := l.prog) (w := w) (base := base) D_is_save_order nb_isinstance nb_tuple nb_str nb_all c_SINK c_STEPS r_STEPS c_MOST_SINKS
  have h_data_of := ok_data_of (P := l.prog) (w := w) (base := base) D_data_of nb_len nb_enumerate
  have h_restored := ok_restored (P := l.prog) (w := w) (base := base) D_restored nb_range
  have h_is_between := ok_is_between (P := l.prog) (w := w) (base := base) D_is_between c_SINK
  have h__law_take := ok__law_take (P := l.prog) (w := w) (base := base) D__law_take nb_int
  have h__law_alike := ok__law_alike (P := l.prog) (w := w) (base := base) D__law_alike nb_repr
  have h__law_crashes := ok__law_crashes (P := l.prog) (w := w) (base := base) D__law_crashes nb_enumerate nb_tuple nb_sorted
  have h__law_left := ok__law_left (P := l.prog) (w := w) (base := base) D__law_left nb_dict nb_sorted
  have h__law_saved := ok__law_saved (P := l.prog) (w := w) (base := base) D__law_saved nb_enumerate nb_len nb_int
  have h__law_restored := ok__law_restored (P := l.prog) (w := w) (base := base) D__law_restored nb_int nb_range
  have h__law_is_sure := ok__law_is_sure (P := l.prog) (w := w) (base := base) D__law_is_sure 
  have h__law_is_order := ok__law_is_order (P := l.prog) (w := w) (base := base) D__law_is_order nb_isinstance nb_tuple
  have h_led_tape := ok_led_tape (P := l.prog) (w := w) (base := base) D_led_tape h_data_of nb_enumerate nb_len c_SINK
  have h_is_sure_order := ok_is_sure_order (P := l.prog) (w := w) (base := base) D_is_sure_order h_is_between
  have h__law_one := ok__law_one (P := l.prog) (w := w) (base := base) D__law_one h__law_take nb_len
  have h__law_mixed := ok__law_mixed (P := l.prog) (w := w) (base := base) D__law_mixed h__law_take nb_len
  have h__law_rows := ok__law_rows (P := l.prog) (w := w) (base := base) D__law_rows h__law_take nb_range
  have h_save_tape := ok_save_tape (P := l.prog) (w := w) (base := base) D_save_tape h_led_tape
  have h_tells_at := ok_tells_at (P := l.prog) (w := w) (base := base) D_tells_at h_led_tape
  have h__law_save_order := ok__law_save_order (P := l.prog) (w := w) (base := base) D__law_save_order h__law_take h__law_mixed nb_tuple
  have h__law_odd := ok__law_odd (P := l.prog) (w := w) (base := base) D__law_odd h__law_one
  have h__law_order_otherwise := ok__law_order_otherwise (P := l.prog) (w := w) (base := base) D__law_order_otherwise h__law_take h__law_one h__law_odd nb_len nb_list
  exact okLaw (fun_mk (st := s_law) l23 c23 k23) D__law_bag nb_abs h__law_save_order h__law_rows h__law_take h__law_one h__law_saved h_save_tape h_tells_at h__law_alike h__law_is_sure h_is_sure_order h__law_order_otherwise h__law_is_order h_is_save_order h__law_crashes h__law_left h__law_restored h_restored nb_range nb_repr nb_len nb_dict hmath
end W_k81

set_option Elab.async false
set_option linter.all false
set_option maxRecDepth 100000
set_option maxHeartbeats 1000000
/-! VS: mirrors, evaluated by simp. -/
namespace VL
open PySem L2
/-- an equation that simp does not take for definitional -/
theorem rflN {α : Sort _} {a b : α} (h : a = b) : a = b := h
/-- bind and map under names of our own, so that nothing is taken by definition -/
def ob {α β : Type} (x : Option α) (f : α → Option β) : Option β := x.bind f
def om {α β : Type} (x : Option α) (f : α → β) : Option β := x.map f
@[simp] theorem ob_some {α β : Type} (a : α) (f : α → Option β) : ob (some a) f = f a := rflN rfl
@[simp] theorem ob_none {α β : Type} (f : α → Option β) : ob none f = none := rflN rfl
@[simp] theorem om_some {α β : Type} (a : α) (f : α → β) : om (some a) f = some (f a) := rflN rfl
@[simp] theorem om_none {α β : Type} (f : α → β) : om none f = none := rflN rfl
def toB : D × List D → Option (Bool × List D) := fun p => match p.1 with
  | .bool b => some (b, p.2)
  | _ => none
@[simp] theorem toB_b (b : Bool) (e : List D) : toB (.bool b, e) = some (b, e) := rflN rfl
@[simp] theorem zz_asB (a : Ex) (env : List D) : asB a env = ob (a env) toB := rflN rfl
def andK (b : Ex) : D × List D → Option (D × List D) := fun p => match p.1 with
  | .bool true => b p.2
  | .bool false => some (.bool false, p.2)
  | _ => none
def orK (b : Ex) : D × List D → Option (D × List D) := fun p => match p.1 with
  | .bool true => some (.bool true, p.2)
  | .bool false => b p.2
  | _ => none
@[simp] theorem andK_t (b : Ex) (e : List D) : andK b (.bool true, e) = b e := rflN rfl
@[simp] theorem andK_f (b : Ex) (e : List D) : andK b (.bool false, e) = some (.bool false, e) := rflN rfl
@[simp] theorem orK_t (b : Ex) (e : List D) : orK b (.bool true, e) = some (.bool true, e) := rflN rfl
@[simp] theorem orK_f (b : Ex) (e : List D) : orK b (.bool false, e) = b e := rflN rfl
@[simp] theorem zz_eAnd (a b : Ex) (env : List D) : eAnd a b env = ob (a env) (andK b) := by
  unfold eAnd andK ob; rfl
@[simp] theorem zz_eOr (a b : Ex) (env : List D) : eOr a b env = ob (a env) (orK b) := by
  unfold eOr orK ob; rfl
def sqK (y : Sx) : Out → Option Out := fun o => match o with
  | .nx e => y e
  | o => some o
@[simp] theorem sqK_nx (y : Sx) (e : List D) : sqK y (.nx e) = y e := rflN rfl
@[simp] theorem sqK_rt (y : Sx) (r : D) (e : List D) : sqK y (.rt r e) = some (.rt r e) := rflN rfl
@[simp] theorem sqK_bk (y : Sx) (e : List D) : sqK y (.bk e) = some (.bk e) := rflN rfl
@[simp] theorem sqK_ct (y : Sx) (e : List D) : sqK y (.ct e) = some (.ct e) := rflN rfl
@[simp] theorem zz_sq (x y : Sx) (env : List D) : sq x y env = ob (x env) (sqK y) := by
  unfold sq sqK ob; rfl
def runK (Δ : Ctx) (ds : List D) : Out → Option (D × List D) := fun o => match o with
  | .rt r e => some (r, outP Δ ds e)
  | .nx e => some (.none, outP Δ ds e)
  | _ => none
@[simp] theorem runK_rt (Δ : Ctx) (ds e : List D) (r : D) : runK Δ ds (.rt r e) = some (r, outP Δ ds e) := rflN rfl
@[simp] theorem runK_nx (Δ : Ctx) (ds e : List D) : runK Δ ds (.nx e) = some (.none, outP Δ ds e) := rflN rfl
theorem runD_eq (Δ : Ctx) (g : Sx) (m : Nat) (ds : List D) : runD Δ g m ds = ob (g (ds ++ List.replicate (m - ds.length) .none)) (runK Δ ds) := by
  unfold runD runK ob; rfl
def frzK : D × List D → Option (D × List D) := fun p => match p.1 with
  | .dict _ => some p
  | _ => none
@[simp] theorem frzK_d (ds : List (D × D)) (e : List D) : frzK (.dict ds, e) = some (.dict ds, e) := rflN rfl
@[simp] theorem zz_eFrz (a : Ex) (env : List D) : eFrz a env = ob (a env) frzK := rflN rfl
def pK : D × List D → Option (Option Int × List D) := fun p => match p.1 with
  | .int i => some (some i, p.2)
  | _ => none
@[simp] theorem pK_i (i : Int) (e : List D) : pK (.int i, e) = some (some i, e) := rflN rfl
@[simp] theorem zz_pIs (a : Ex) (env : List D) : pIs a env = ob (a env) pK := rflN rfl
def forK (gt : Gx) (gb : Sx) (ds : List D) : Out → Option Out := fun o => match o with
  | .nx e => forL gt gb ds e
  | .ct e => forL gt gb ds e
  | .bk e => some (.nx e)
  | .rt r e => some (.rt r e)
@[simp] theorem forK_nx (gt : Gx) (gb : Sx) (ds e : List D) : forK gt gb ds (.nx e) = forL gt gb ds e := rflN rfl
@[simp] theorem forK_ct (gt : Gx) (gb : Sx) (ds e : List D) : forK gt gb ds (.ct e) = forL gt gb ds e := rflN rfl
@[simp] theorem forK_bk (gt : Gx) (gb : Sx) (ds e : List D) : forK gt gb ds (.bk e) = some (.nx e) := rflN rfl
@[simp] theorem forK_rt (gt : Gx) (gb : Sx) (ds e : List D) (r : D) : forK gt gb ds (.rt r e) = some (.rt r e) := rflN rfl
@[simp] theorem forL_nil (gt : Gx) (gb : Sx) (e : List D) : forL gt gb [] e = some (.nx e) := rflN rfl
theorem forL_cons (gt : Gx) (gb : Sx) (d : D) (ds e : List D) : forL gt gb (d :: ds) e = ob (gt d e) fun e1 => ob (gb e1) (forK gt gb ds) := by
  unfold forL forK ob; rfl
@[simp] theorem lcL_nil (gt : Gx) (tt : Bx) (fe : Ex) (e : List D) : lcL gt tt fe [] e = some ([], e) := rflN rfl
theorem lcL_cons (gt : Gx) (tt : Bx) (fe : Ex) (d : D) (ds e : List D) : lcL gt tt fe (d :: ds) e = ob (gt d e) fun e1 => ob (tt e1) fun p => if p.1 = true then ob (fe p.2) fun q => om (lcL gt tt fe ds q.2) fun r => (q.1 :: r.1, r.2) else lcL gt tt fe ds p.2 := rflN rfl
def itK : D × List D → Option (List D × List D) := fun p => match p.1 with
  | .list xs => some (enumFrom 0 xs, p.2)
  | _ => none
@[simp] theorem itK_l (xs e : List D) : itK (.list xs, e) = some (enumFrom 0 xs, e) := rflN rfl
@[simp] theorem zz_iEn (a : Ex) (env : List D) : iEn a env = ob (a env) itK := rflN rfl
def rgK : D × List D → Option (List D × List D) := fun p => match p.1 with
  | .int j => if okR j = true then some (upTo j.toNat, p.2) else none
  | _ => none
theorem rgK_i (j : Int) (e : List D) (h1 : -4611686018427387904 ≤ j) (h2 : j < 4611686018427387904) : rgK (.int j, e) = some (upTo j.toNat, e) := by
  have : okR j = true := by unfold okR; simp only [Bool.and_eq_true, decide_eq_true_eq]; exact ⟨h1, h2⟩
  simp [rgK, this]
@[simp] theorem zz_iRg1 (a : Ex) (env : List D) : iRg1 a env = ob (a env) rgK := rflN rfl
def mutK (i : Nat) (U : List D → List D → Option (D × List D)) : List D × List D → Option (D × List D) := fun p => match p.2[i]? with
  | some (.list ds) => (U ds p.1).map fun q => (q.1, p.2.set i (.list q.2))
  | _ => none
theorem mutK_l {i : Nat} {U : List D → List D → Option (D × List D)} {xs e ds : List D} (h : e[i]? = some (.list ds)) : mutK i U (xs, e) = om (U ds xs) fun q => (q.1, e.set i (.list q.2)) := by
  simp [mutK, h, om]
theorem eMut_l {i : Nat} {U : List D → List D → Option (D × List D)} {fs : List Ex} {env ds : List D} (h : env[i]? = some (.list ds)) : eMut i U fs env = ob (evs fs env) (mutK i U) := by
  unfold eMut mutK ob; rw [h]; simp only [isL, if_true]; first | done | rfl
@[simp] theorem zu_app (ds : List D) (e : D) : uAppend ds [e] = if ds.length < lim then some (.none, ds ++ [e]) else none := rflN rfl
@[simp] theorem zu_ext (ds xs : List D) : uExtend ds [.list xs] = if ds.length + xs.length ≤ lim then some (.none, ds ++ xs) else none := rflN rfl
theorem zu_ins {ds : List D} {i : Int} {e : D} (h1 : ds.length < lim) (h2 : 0 ≤ i) (h3 : i < 4611686018427387904) : uInsert ds [.int i, e] = some (.none, ds.take i.toNat ++ [e] ++ ds.drop i.toNat) := by
  unfold uInsert
  simp only
  rw [if_pos ⟨h1, h2, h3⟩]
theorem mul_small {i j : Int} (h1 : -18446744073709551616 < i) (h2 : i < 18446744073709551616) : mulD (.int i) (.int j) = some (.int (i * j)) := by
  have : okMul i j = true := by
    unfold okMul
    simp only [Bool.or_eq_true, Bool.and_eq_true, decide_eq_true_eq]
    exact .inl ⟨h1, h2⟩
  simp [mulD, ii, this]
theorem mul_smallR {i j : Int} (h1 : -18446744073709551616 < j) (h2 : j < 18446744073709551616) : mulD (.int i) (.int j) = some (.int (i * j)) := by
  have : okMul i j = true := by
    unfold okMul
    simp only [Bool.or_eq_true, Bool.and_eq_true, decide_eq_true_eq]
    exact .inr ⟨h1, h2⟩
  simp [mulD, ii, this]
theorem rep_n {xs : List D} {k : Nat} (h1 : k ≤ 100000) (h2 : xs.length * k ≤ lim) : repD (.list xs) (.int k) = some (.list (List.replicate k xs).flatten) := by
  unfold repD
  simp only
  rw [if_pos ⟨by omega, by omega, by simpa using h2⟩]
  simp
section
variable {env : List D} {a b c f g : Ex} {p q : Bx} {x y : Sx}
@[simp] theorem zz_eVar (i : Nat) : eVar i env = om (env[i]?) fun d => (d, env) := rflN rfl
@[simp] theorem zz_eC (d : D) : eC d env = some (d, env) := rflN rfl
@[simp] theorem zz_eUn (F : D → Option D) : eUn F a env = ob (a env) fun p => om (F p.1) fun r => (r, p.2) := rflN rfl
@[simp] theorem zz_eBin (F : D → D → Option D) : eBin F a b env = ob (a env) fun p => ob (b p.2) fun q => om (F p.1 q.1) fun r => (r, q.2) := rflN rfl
@[simp] theorem zz_eTri (F : D → D → D → Option D) : eTri F a b c env = ob (a env) fun p => ob (b p.2) fun q => ob (c q.2) fun r => om (F p.1 q.1 r.1) fun z => (z, r.2) := rflN rfl
@[simp] theorem zz_eNs (F : List D → Option D) (as : List Ex) : eNs F as env = ob (evs as env) fun p => om (F p.1) fun r => (r, p.2) := rflN rfl
@[simp] theorem zz_evs0 : evs [] env = some ([], env) := rflN rfl
@[simp] theorem zz_evs1 (as : List Ex) : evs (a :: as) env = ob (a env) fun p => om (evs as p.2) fun q => (p.1 :: q.1, q.2) := rflN rfl
@[simp] theorem zz_eTup (as : List Ex) : eTup as env = om (evs as env) fun p => (.tuple p.1, p.2) := by unfold eTup om eNs; cases evs as env <;> rfl
@[simp] theorem zz_eLst (as : List Ex) : eLst as env = om (evs as env) fun p => (.list p.1, p.2) := by unfold eLst om eNs; cases evs as env <;> rfl
@[simp] theorem zz_eIf : eIf p a b env = ob (p env) fun r => if r.1 = true then a r.2 else b r.2 := rflN rfl
@[simp] theorem zz_bAnd : bAnd p q env = ob (p env) fun r => if r.1 = true then q r.2 else some (false, r.2) := rflN rfl
@[simp] theorem zz_bOr : bOr p q env = ob (p env) fun r => if r.1 = true then some (true, r.2) else q r.2 := rflN rfl
@[simp] theorem zz_bNot : bNot p env = om (p env) fun r => (!r.1, r.2) := rflN rfl
@[simp] theorem zz_bYes : bYes env = some (true, env) := rflN rfl
@[simp] theorem zz_bBor : bBor p env = om (p env) fun r => (r.1, env) := rflN rfl
@[simp] theorem zz_eBor (n : Nat) : eBor n a env = ob (a env) fun p => if imk n p.1 = true then some (p.1, env) else none := rflN rfl
@[simp] theorem zz_call (F : List D → Option (D × List D)) (as : List Arg) : eCall F as env = ob (evArgs as env) fun p => om (F p.1) fun q => (q.1, wb as q.2 p.2) := rflN rfl
@[simp] theorem zz_ev0 : evArgs [] env = some ([], env) := rflN rfl
@[simp] theorem zz_evV (r : List Arg) : evArgs (.v f :: r) env = ob (f env) fun p => om (evArgs r p.2) fun q => (p.1 :: q.1, q.2) := rflN rfl
@[simp] theorem zz_evI (r : List Arg) (i : Nat) : evArgs (.io i :: r) env = ob (evArgs r env) fun q => om (q.2[i]?) fun d => (d :: q.1, q.2) := rflN rfl
@[simp] theorem zz_isIoV (i : Nat) : Arg.isIo i (.v f) = false := rflN rfl
@[simp] theorem zz_isIoI (i j : Nat) : Arg.isIo i (.io j) = (i == j) := rflN rfl
@[simp] theorem zz_wb (as : List Arg) (ds : List D) : wb as ds env = env.mapIdx fun i d => match as.findIdx? (Arg.isIo i) with | some j => ds.getD j d | none => d := rflN rfl
@[simp] theorem zz_find0 {α : Type} (r : α → Bool) : List.findIdx? r [] = none := rflN rfl
@[simp] theorem zz_find1 {α : Type} (r : α → Bool) (z : α) (zs : List α) : List.findIdx? r (z :: zs) = if r z = true then some 0 else (List.findIdx? r zs).map (· + 1) := by simp [List.findIdx?_cons]
@[simp] theorem zz_sNil : sNil env = some (.nx env) := rflN rfl
@[simp] theorem zz_asg (i : Nat) : asg i a env = om (a env) fun p => .nx (p.2.set i p.1) := rflN rfl
@[simp] theorem zz_retE : retE a env = om (a env) fun p => .rt p.1 p.2 := rflN rfl
@[simp] theorem zz_sExp : sExp a env = om (a env) fun p => .nx p.2 := rflN rfl
@[simp] theorem zz_sIf : sIf p x y env = ob (p env) fun r => if r.1 = true then x r.2 else y r.2 := rflN rfl
@[simp] theorem zz_sBk : sBk env = some (.bk env) := rflN rfl
@[simp] theorem zz_sCt : sCt env = some (.ct env) := rflN rfl
@[simp] theorem zz_asg2 (i j : Nat) : asg2 i j a b env = ob (a env) fun p => om (b p.2) fun q => .nx ((q.2.set i p.1).set j q.1) := rflN rfl
@[simp] theorem zz_asg3 (i j l : Nat) : asg3 i j l a b c env = ob (a env) fun p => ob (b p.2) fun q => om (c q.2) fun r => .nx (((r.2.set i p.1).set j q.1).set l r.1) := rflN rfl
@[simp] theorem zz_asgG (gt : Gx) : asgG a gt env = ob (a env) fun p => om (gt p.1 p.2) .nx := rflN rfl
@[simp] theorem zz_gtName (i : Nat) (d : D) : gtName i d env = some (env.set i d) := rflN rfl
@[simp] theorem zz_forD (fi : Ix) (gt : Gx) : forD fi gt x env = ob (fi env) fun p => forL gt x p.1 p.2 := rflN rfl
@[simp] theorem zz_iSqA : iSqA a env = ob (a env) fun p => om (itemsA p.1) fun ds => (ds, p.2) := rflN rfl
@[simp] theorem zz_lcD (vs : List Nat) (fi : Ix) (gt : Gx) : lcD vs fi gt p a env = ob (fi env) fun z => ob (lcL gt p a z.1 z.2) fun q => if q.1.length ≤ 1000000 then some (.list q.1, restore vs env q.2) else none := rflN rfl
@[simp] theorem zz_eSl (F : D → Option Int → Option Int → Option D) (lo hi : Px) : eSl F a lo hi env = ob (a env) fun p => ob (lo p.2) fun q => ob (hi q.2) fun r => om (F p.1 q.1 r.1) fun z => (z, r.2) := rflN rfl
@[simp] theorem zz_pNo : pNo env = some (none, env) := rflN rfl
@[simp] theorem zz_eIxT (j : Nat) : eIxT j a env = ob (a env) fun p => om (ixT p.1 j) fun r => (r, p.2) := rflN rfl
end
/-! outcomes -/
theorem sq_nx {x y : Sx} {env e : List D} (h : x env = some (.nx e)) : sq x y env = y e := by simp [sq, h]
theorem sq_rt {x y : Sx} {env e : List D} {r : D} (h : x env = some (.rt r e)) : sq x y env = some (.rt r e) := by simp [sq, h]
@[simp] theorem zt_tuple (xs : List D) (j : Nat) : ixT (.tuple xs) j = xs[j]? := rflN rfl
@[simp] theorem zd_add (i j : Int) : addD (.int i) (.int j) = some (.int (i + j)) := rflN rfl
@[simp] theorem zd_addT (xs ys : List D) : addD (.tuple xs) (.tuple ys) = if xs.length + ys.length ≤ lim then some (.tuple (xs ++ ys)) else none := rflN rfl
@[simp] theorem zd_addL (xs ys : List D) : addD (.list xs) (.list ys) = if xs.length + ys.length ≤ lim then some (.list (xs ++ ys)) else none := rflN rfl
@[simp] theorem zd_catL (xs ys : List D) : catL (.list xs) (.list ys) = if xs.length + ys.length ≤ lim then some (.list (xs ++ ys)) else none := rflN rfl
@[simp] theorem zd_sub (i j : Int) : subD (.int i) (.int j) = some (.int (i - j)) := rflN rfl
@[simp] theorem zd_neg (i : Int) : negD (.int i) = some (.int (-i)) := rflN rfl
@[simp] theorem zd_not (t : Bool) : notD (.bool t) = some (.bool (!t)) := rflN rfl
@[simp] theorem zd_lt (i j : Int) : ltD (.int i) (.int j) = some (.bool (decide (i < j))) := rflN rfl
@[simp] theorem zd_le (i j : Int) : leD (.int i) (.int j) = some (.bool (decide (i ≤ j))) := rflN rfl
@[simp] theorem zd_gt (i j : Int) : gtD (.int i) (.int j) = some (.bool (decide (j < i))) := rflN rfl
@[simp] theorem zd_ge (i j : Int) : geD (.int i) (.int j) = some (.bool (decide (j ≤ i))) := rflN rfl
@[simp] theorem zd_lenL (xs : List D) : lenD [.list xs] = some (.int xs.length) := rflN rfl
@[simp] theorem zd_lenT (xs : List D) : lenD [.tuple xs] = some (.int xs.length) := rflN rfl
@[simp] theorem zd_intI (i : Int) : intD [.int i] = some (.int i) := rflN rfl
@[simp] theorem zd_intB (t : Bool) : intD [.bool t] = some (.int (if t then 1 else 0)) := rflN rfl
@[simp] theorem zd_itL (xs : List D) : itemsA (.list xs) = some xs := rflN rfl
@[simp] theorem zd_itT (xs : List D) : itemsA (.tuple xs) = some xs := rflN rfl
@[simp] theorem zd_itL' (xs : List D) : itemsD (.list xs) = some xs := rflN rfl
@[simp] theorem zd_itT' (xs : List D) : itemsD (.tuple xs) = some xs := rflN rfl
@[simp] theorem zd_listD (d : D) : listD [d] = om (itemsD d) .list := rflN rfl
@[simp] theorem zd_tupD (d : D) : tupD [d] = om (itemsD d) .tuple := rflN rfl
@[simp] theorem zd_ixL (xs : List D) (i : Int) : ixA (.list xs) (.int i) = L2.atI xs i := rflN rfl
@[simp] theorem zd_ixT (xs : List D) (i : Int) : ixA (.tuple xs) (.int i) = L2.atI xs i := rflN rfl
@[simp] theorem zd_isN (d : D) : isND d .none = some (.bool (match d with | .none => true | _ => false)) := rflN rfl
@[simp] theorem zd_notN (d : D) : notND d .none = some (.bool (match d with | .none => false | _ => true)) := rflN rfl
@[simp] theorem zd_outP (Δ : Ctx) (ds env : List D) : outP Δ ds env = (env.take ds.length).mapIdx fun i d => match Δ[i]? with | some (.io _) => d | _ => ds.getD i d := rflN rfl
@[simp] theorem zd_immI (n : Nat) (i : Int) : imk n (.int i) = true := by cases n <;> simp [imk, immutF]
@[simp] theorem zd_immB (n : Nat) (i : Bool) : imk n (.bool i) = true := by cases n <;> simp [imk, immutF]
@[simp] theorem zd_immN (n : Nat) : imk n (.none) = true := by cases n <;> simp [imk, immutF]
@[simp] theorem zd_immS (n : Nat) (x : Str) : imk n (.str x) = true := by cases n <;> simp [imk, immutF]
@[simp] theorem ze_ii (i j : Int) : eqD (.int i) (.int j) = some (.bool (i == j)) := by simp [eqD, halfOk, PyData.plain, PyData.depth, PyData.eqv]
@[simp] theorem ze_ss (x y : Str) : eqD (.str x) (.str y) = some (.bool (x == y)) := by simp [eqD, halfOk, PyData.plain, PyData.depth, PyData.eqv]
@[simp] theorem zn_ii (i j : Int) : neD (.int i) (.int j) = some (.bool (!(i == j))) := by simp [neD, halfOk, PyData.plain, PyData.depth, PyData.eqv]
@[simp] theorem zn_ss (x y : Str) : neD (.str x) (.str y) = some (.bool (!(x == y))) := by simp [neD, halfOk, PyData.plain, PyData.depth, PyData.eqv]
@[simp] theorem zi_0 (d : D) : imk 0 d = immutF d := by simp [imk]
@[simp] theorem zi_t (xs : List D) : immutF (.tuple xs) = immutFL xs := by simp [immutF]
@[simp] theorem zi_i (i : Int) : immutF (.int i) = true := by simp [immutF]
@[simp] theorem zi_b (i : Bool) : immutF (.bool i) = true := by simp [immutF]
@[simp] theorem zi_s (i : Str) : immutF (.str i) = true := by simp [immutF]
@[simp] theorem zi_n : immutF .none = true := by simp [immutF]
@[simp] theorem zi_nil : immutFL [] = true := by simp [immutFL]
@[simp] theorem zi_cons (x : D) (xs : List D) : immutFL (x :: xs) = (immutF x && immutFL xs) := by simp [immutFL]
@[simp] theorem zz_gtTup (n : Nat) (h : List D → List D → Option (List D)) (ds env : List D) : gtTup n h (.tuple ds) env = if ds.length = n then h ds env else none := rflN rfl
@[simp] theorem zz_gtNil (env : List D) : gtNil [] env = some env := rflN rfl
@[simp] theorem zz_gtCons (g : Gx) (h : List D → List D → Option (List D)) (d : D) (ds env : List D) : gtCons g h (d :: ds) env = ob (g d env) fun e => h ds e := rflN rfl
@[simp] theorem zz_modD (i j : Int) : modD (.int i) (.int j) = if 0 < j then some (.int (i % j)) else none := by simp [modD, ii, okMod]
@[simp] theorem zz_fdivD (i j : Int) : fdivD (.int i) (.int j) = if 0 < j ∧ j < 1073741824 then some (.int (i / j)) else none := by simp [fdivD, ii, okDiv]
@[simp] theorem zx_i (ds : List (D × D)) (i : Int) : ixA (.dict ds) (.int i) = dGet ds (.inl i) := rflN rfl
@[simp] theorem zx_s (ds : List (D × D)) (x : Str) : ixA (.dict ds) (.str x) = dGet ds (.inr x) := rflN rfl
@[simp] theorem zx_in (ds : List (D × D)) (i : Int) : inA (.int i) (.dict ds) = some (.bool (dGet ds (.inl i)).isSome) := rflN rfl
@[simp] theorem zx_ni (ds : List (D × D)) (i : Int) : notInA (.int i) (.dict ds) = some (.bool (!(dGet ds (.inl i)).isSome)) := rflN rfl
@[simp] theorem zx_g1 (ds : List (D × D)) (i : Int) : getD1 (.dict ds) (.int i) = some ((dGet ds (.inl i)).getD .none) := rflN rfl
@[simp] theorem zx_g2 (ds : List (D × D)) (i : Int) (z : D) : getD2 (.dict ds) (.int i) z = some ((dGet ds (.inl i)).getD z) := rflN rfl
theorem inA_list (d : D) (xs : List D) : inA d (.list xs) = if halfIn d xs = true then some (.bool (xs.any fun y => PyData.eqv y d)) else none := rflN rfl
theorem inA_tup (d : D) (xs : List D) : inA d (.tuple xs) = if halfIn d xs = true then some (.bool (xs.any fun y => PyData.eqv y d)) else none := rflN rfl
theorem notInA_list (d : D) (xs : List D) : notInA d (.list xs) = if halfIn d xs = true then some (.bool (!xs.any fun y => PyData.eqv y d)) else none := rflN rfl
theorem notInA_tup (d : D) (xs : List D) : notInA d (.tuple xs) = if halfIn d xs = true then some (.bool (!xs.any fun y => PyData.eqv y d)) else none := rflN rfl
end VL

set_option Elab.async false
set_option linter.all false
set_option maxRecDepth 100000
set_option maxHeartbeats 1000000
/-! MF: small data can be compared and shown. -/
namespace VL
open PySem L2
mutual
def okS : D → Bool
  | .none => true
  | .bool _ => true
  | .int i => decide (i.natAbs < 10 ^ 100)
  | .str x => x.cps.toList.all fun c => decide (c < 16 ^ 8)
  | .list xs => okSA xs
  | .tuple xs => okSA xs
  | .dict _ => false
def okSA : List D → Bool
  | [] => true
  | x :: xs => okS x && okSA xs
end
theorem okSA_all : ∀ {xs : List D}, okSA xs = true ↔ ∀ d ∈ xs, okS d = true
  | [] => by simp [okSA]
  | x :: xs => by simp [okSA, okSA_all (xs := xs)]
theorem log2_small {n : Nat} (h : n < 10 ^ 100) : n.log2 < 1920 := by
  by_cases h0 : n = 0
  · subst h0; decide
  · rw [Nat.log2_lt h0]
    exact Nat.lt_trans h (by decide +kernel)
theorem shown_small {i : Int} (h : i.natAbs < 10 ^ 100) : (PyData.shown (.int i)).length ≤ 101 := by
  have e := PySem.int_text_length_le10 (k := 100) (by decide) h
  show (Str.ofString (toString i)).length ≤ 101
  rw [ofString_length]; exact e
mutual
theorem okS_all : ∀ {d : D}, okS d = true → d.plain = true ∧ d.showable = true ∧ d.leavesShort 101 = true
  | .none, _ => ⟨rfl, rfl, rfl⟩
  | .bool _, _ => ⟨rfl, rfl, rfl⟩
  | .int i, h => by
    simp only [okS, decide_eq_true_eq] at h
    refine ⟨rfl, ?_, ?_⟩
    · simp only [PyData.showable, decide_eq_true_eq]; exact log2_small h
    · simp only [PyData.leavesShort, decide_eq_true_eq]; exact shown_small h
  | .str x, h => ⟨rfl, rfl, by simpa [okS, PyData.leavesShort] using h⟩
  | .list xs, h => by
    simp only [okS] at h
    simpa only [PyData.plain, PyData.showable, PyData.leavesShort] using okSA_all' h
  | .tuple xs, h => by
    simp only [okS] at h
    simpa only [PyData.plain, PyData.showable, PyData.leavesShort] using okSA_all' h
  | .dict _, h => by simp [okS] at h
theorem okSA_all' : ∀ {xs : List D}, okSA xs = true → PyData.plainAll xs = true ∧ PyData.showableAll xs = true ∧ PyData.leavesShortAll 101 xs = true
  | [], _ => ⟨rfl, rfl, rfl⟩
  | x :: xs, h => by
    simp only [okSA, Bool.and_eq_true] at h
    obtain ⟨a, b, c⟩ := okS_all h.1
    obtain ⟨a', b', c'⟩ := okSA_all' h.2
    simp [PyData.plainAll, PyData.showableAll, PyData.leavesShortAll, a, b, c, a', b', c']
end
mutual
theorem plain_noDict : ∀ {d : D}, d.plain = true → d.hasDict = false
  | .none, _ => rfl
  | .bool _, _ => rfl
  | .int _, _ => rfl
  | .str _, _ => rfl
  | .list xs, h => by simp only [PyData.plain] at h; simpa only [PyData.hasDict] using plain_noDictA h
  | .tuple xs, h => by simp only [PyData.plain] at h; simpa only [PyData.hasDict] using plain_noDictA h
  | .dict _, h => by simp [PyData.plain] at h
theorem plain_noDictA : ∀ {xs : List D}, PyData.plainAll xs = true → PyData.hasDictAll xs = false
  | [], _ => rfl
  | x :: xs, h => by
    simp only [PyData.plainAll, Bool.and_eq_true] at h
    simp [PyData.hasDictAll, plain_noDict h.1, plain_noDictA h.2]
end
/-- small data: leaves small, flat enough, few -/
structure Sm (d : D) : Prop where
  ok : okS d = true
  dp : d.depth ≤ 64
  bk : d.bulk ≤ 9000
theorem Sm.eq {d : D} (h : Sm d) : eqD d d = some (.bool true) := by
  have p := (okS_all h.ok).1
  simp [eqD, halfOk, p, h.dp, PySem.SeqAt.eqv_refl_plain d p]
theorem Sm.repr {d : D} (h : Sm d) : reprD [d] = some (.str d.shown) := by
  obtain ⟨p, s, l⟩ := okS_all h.ok
  have q := PyData.shown_le_bulk 101 (by decide) d l
  have hb := h.bk
  have hl : d.shown.length ≤ lim := Nat.le_trans q (Nat.le_trans (Nat.add_le_add_right (Nat.mul_le_mul_left _ hb) _) (by decide))
  unfold reprD
  simp only [s, h.dp, hl, plain_noDict p, decide_true, Bool.not_false, Bool.true_or, Bool.and_self, if_true]
theorem bulk_le {m : Nat} : ∀ {xs : List D}, (∀ d ∈ xs, d.bulk ≤ m) → PyData.bulkAll xs ≤ (m + 1) * xs.length
  | [], _ => by simp [PyData.bulkAll]
  | x :: xs, h => by
    have h1 := h x List.mem_cons_self
    have h2 := bulk_le (xs := xs) fun d hd => h d (List.mem_cons_of_mem _ hd)
    simp only [PyData.bulkAll, List.length_cons, Nat.mul_add, Nat.mul_one]
    omega
theorem depth_le {m : Nat} : ∀ {xs : List D}, (∀ d ∈ xs, d.depth ≤ m) → PyData.depthAll xs ≤ m
  | [], _ => by simp [PyData.depthAll]
  | x :: xs, h => by
    have h1 := h x List.mem_cons_self
    have h2 := depth_le (xs := xs) fun d hd => h d (List.mem_cons_of_mem _ hd)
    simp only [PyData.depthAll]
    omega
/-- data with bounds that can be put together -/
structure Bd (d : D) (dp bk : Nat) : Prop where
  ok : okS d = true
  dp : d.depth ≤ dp
  bk : d.bulk ≤ bk
theorem Bd.sm {d : D} {a b : Nat} (h : Bd d a b) (ha : a ≤ 64) (hb : b ≤ 9000) : Sm d := ⟨h.ok, Nat.le_trans h.dp ha, Nat.le_trans h.bk hb⟩
theorem Bd.mono {d : D} {a b a' b' : Nat} (h : Bd d a b) (ha : a ≤ a') (hb : b ≤ b') : Bd d a' b' := ⟨h.ok, Nat.le_trans h.dp ha, Nat.le_trans h.bk hb⟩
theorem bd_non : Bd .none 0 0 := ⟨rfl, by simp [PyData.depth], by simp [PyData.bulk]⟩
theorem bd_bool (b : Bool) : Bd (.bool b) 0 0 := ⟨rfl, by simp [PyData.depth], by simp [PyData.bulk]⟩
theorem bd_int {i : Int} (h : i.natAbs < 10 ^ 100) : Bd (.int i) 0 0 := ⟨by simpa [okS] using h, by simp [PyData.depth], by simp [PyData.bulk]⟩
theorem bd_list {xs : List D} {a b n : Nat} (h : ∀ d ∈ xs, Bd d a b) (hn : xs.length ≤ n) : Bd (.list xs) (a + 1) ((b + 1) * n) := by
  refine ⟨by simp only [okS]; exact okSA_all.mpr fun d m => (h d m).ok, ?_, ?_⟩
  · have := depth_le fun d m => (h d m).dp
    simp only [PyData.depth]; omega
  · have := bulk_le fun d m => (h d m).bk
    simp only [PyData.bulk]
    exact Nat.le_trans this (Nat.mul_le_mul_left _ hn)
theorem bd_tup {xs : List D} {a b n : Nat} (h : ∀ d ∈ xs, Bd d a b) (hn : xs.length ≤ n) : Bd (.tuple xs) (a + 1) ((b + 1) * n) := by
  refine ⟨by simp only [okS]; exact okSA_all.mpr fun d m => (h d m).ok, ?_, ?_⟩
  · have := depth_le fun d m => (h d m).dp
    simp only [PyData.depth]; omega
  · have := bulk_le fun d m => (h d m).bk
    simp only [PyData.bulk]
    exact Nat.le_trans this (Nat.mul_le_mul_left _ hn)
theorem bd_str {x : Str} {n : Nat} (h : (x.cps.toList.all fun c => decide (c < 16 ^ 8)) = true) (hn : x.cps.size ≤ n) : Bd (.str x) 0 n := ⟨by simpa [okS] using h, by simp [PyData.depth], by simpa [PyData.bulk] using hn⟩
/-- a comprehension: what holds of the environment between two turns, what of each item -/
theorem lc_gen {gt : Gx} {tt : Bx} {fe : Ex} (P : List D → Prop) (Q : D → Prop) (h : ∀ d e, P e → ∃ e1 e2 v e3, gt d e = some e1 ∧ tt e1 = some (true, e2) ∧ fe e2 = some (v, e3) ∧ Q v ∧ P e3) :
    ∀ (ds e : List D), P e → ∃ vs e', lcL gt tt fe ds e = some (vs, e') ∧ vs.length = ds.length ∧ (∀ v ∈ vs, Q v) ∧ P e'
  | [], e, p => ⟨[], e, by simp, rfl, (fun v m => by cases m), p⟩
  | d :: ds, e, p => by
    obtain ⟨e1, e2, v, e3, h1, h2, h3, hq, p3⟩ := h d e p
    obtain ⟨vs, e', h4, hl, hv, p'⟩ := lc_gen P Q h ds e3 p3
    refine ⟨v :: vs, e', ?_, by simp [hl], fun u m => ?_, p'⟩
    · rw [lcL_cons, h1, ob_some, h2, ob_some]
      simp [h3, h4]
    · rcases List.mem_cons.mp m with rfl | m
      · exact hq
      · exact hv u m
/-- one with a test; D says what the items handed in are -/
theorem lc_genT {gt : Gx} {tt : Bx} {fe : Ex} (P : List D → Prop) (Q R : D → Prop) (h : ∀ d e, R d → P e → ∃ e1 t e2, gt d e = some e1 ∧ tt e1 = some (t, e2) ∧ (t = false → P e2) ∧ (t = true → ∃ v e3, fe e2 = some (v, e3) ∧ Q v ∧ P e3)) :
    ∀ (ds e : List D), (∀ d ∈ ds, R d) → P e → ∃ vs e', lcL gt tt fe ds e = some (vs, e') ∧ vs.length ≤ ds.length ∧ (∀ v ∈ vs, Q v) ∧ P e'
  | [], e, _, p => ⟨[], e, by simp, Nat.le_refl _, (fun v m => by cases m), p⟩
  | d :: ds, e, hr, p => by
    obtain ⟨e1, t, e2, h1, h2, hf, ht⟩ := h d e (hr d List.mem_cons_self) p
    have hr' : ∀ d ∈ ds, R d := fun x m => hr x (List.mem_cons_of_mem _ m)
    cases t with
    | false =>
      obtain ⟨vs, e', h4, hl, hv, p'⟩ := lc_genT P Q R h ds e2 hr' (hf rfl)
      refine ⟨vs, e', ?_, by simp; omega, hv, p'⟩
      rw [lcL_cons, h1, ob_some, h2, ob_some]
      simp [h4]
    | true =>
      obtain ⟨v, e3, h3, hq, p3⟩ := ht rfl
      obtain ⟨vs, e', h4, hl, hv, p'⟩ := lc_genT P Q R h ds e3 hr' p3
      refine ⟨v :: vs, e', ?_, by simp; omega, fun u m => ?_, p'⟩
      · rw [lcL_cons, h1, ob_some, h2, ob_some]
        simp [h3, h4]
      · rcases List.mem_cons.mp m with rfl | m
        · exact hq
        · exact hv u m
/-- a loop: what holds between two turns -/
theorem for_gen {gt : Gx} {gb : Sx} (P : List D → Prop) (R : D → Prop) (h : ∀ d e, R d → P e → ∃ e1 e2, gt d e = some e1 ∧ gb e1 = some (.nx e2) ∧ P e2) :
    ∀ (ds e : List D), (∀ d ∈ ds, R d) → P e → ∃ e', forL gt gb ds e = some (.nx e') ∧ P e'
  | [], e, _, p => ⟨e, by simp, p⟩
  | d :: ds, e, hr, p => by
    obtain ⟨e1, e2, h1, h2, p2⟩ := h d e (hr d List.mem_cons_self) p
    obtain ⟨e', h3, p'⟩ := for_gen P R h ds e2 (fun x m => hr x (List.mem_cons_of_mem _ m)) p2
    exact ⟨e', by rw [forL_cons, h1, ob_some, h2, ob_some, forK_nx, h3], p'⟩
theorem upTo_len (n : Nat) : (upTo n).length = n := by simp [upTo]
theorem lc_len {xs : List D} {n : Nat} (h : xs.length ≤ n) (hn : n ≤ 1000000 := by decide) : xs.length ≤ 1000000 := Nat.le_trans h hn
/-- a loop, by the number of the turn -/
theorem for_genN {gt : Gx} {gb : Sx} (P : Nat → List D → Prop) : ∀ (ds : List D) (k : Nat) (e : List D), (∀ (j : Nat) d e, ds[j]? = some d → P (k + j) e → ∃ e1 e2, gt d e = some e1 ∧ (gb e1 = some (.nx e2) ∨ gb e1 = some (.ct e2)) ∧ P (k + j + 1) e2) → P k e → ∃ e', forL gt gb ds e = some (.nx e') ∧ P (k + ds.length) e'
  | [], k, e, _, p => ⟨e, by simp, p⟩
  | d :: ds, k, e, h, p => by
    obtain ⟨e1, e2, h1, h2, p2⟩ := h 0 d e rfl p
    obtain ⟨e', h3, p'⟩ := for_genN (gt := gt) (gb := gb) P ds (k + 1) e2 (fun j x e hx q => by
      have := h (j + 1) x e (by simpa using hx) (by rw [show k + (j + 1) = k + 1 + j by omega]; exact q)
      rwa [show k + (j + 1) + 1 = k + 1 + j + 1 by omega] at this) p2
    refine ⟨e', ?_, by rw [List.length_cons, show k + (ds.length + 1) = k + 1 + ds.length by omega]; exact p'⟩
    rcases h2 with h2 | h2
    · rw [forL_cons, h1, ob_some, h2, ob_some, forK_nx, h3]
    · rw [forL_cons, h1, ob_some, h2, ob_some, forK_ct, h3]
theorem srt_perm (xs : List D) : (srt xs).Perm xs := List.mergeSort_perm _ _
theorem enum_get {xs : List D} {k : Nat} {d : D} (h : (enumFrom 0 xs)[k]? = some d) : ∃ x, xs[k]? = some x ∧ d = .tuple [.int k, x] := by
  rw [enumFrom_get] at h
  cases q : xs[k]? with
  | none => rw [q] at h; cases h
  | some x => rw [q] at h; simp at h; exact ⟨x, rfl, h.symm⟩
theorem alike_ints : ∀ {xs ys : List D}, (∀ x ∈ xs, ∃ i, x = .int i) → (∀ y ∈ ys, ∃ i, y = .int i) → PySem.W.alikeAll xs ys = true
  | [], _, _, _ => by simp [PySem.W.alikeAll]
  | _ :: _, [], _, _ => by simp [PySem.W.alikeAll]
  | x :: xs, y :: ys, hx, hy => by
    obtain ⟨i, rfl⟩ := hx x List.mem_cons_self
    obtain ⟨j, rfl⟩ := hy y List.mem_cons_self
    simp [PySem.W.alikeAll, PySem.W.alike, alike_ints (xs := xs) (ys := ys) (fun z m => hx z (List.mem_cons_of_mem _ m)) (fun z m => hy z (List.mem_cons_of_mem _ m))]
/-- a tuple of ints -/
def IntT (d : D) : Prop := ∃ xs, d = .tuple xs ∧ ∀ x ∈ xs, ∃ i, x = .int i
theorem intT_depth {d : D} (h : IntT d) : d.depth ≤ 64 := by
  obtain ⟨xs, rfl, h⟩ := h
  have : PyData.depthAll xs ≤ 0 := depth_le fun d m => by obtain ⟨i, rfl⟩ := h d m; simp [PyData.depth]
  simp only [PyData.depth]; omega
theorem okSort_tups {xs : List D} (h : ∀ d ∈ xs, IntT d) (hh : headE xs = true) (hl : xs.length ≤ lim) : okSort xs = true := by
  have h1 : (xs.all fun d => xs.all fun e => PySem.W.alike d e) = true := by
    rw [List.all_eq_true]; intro d md
    rw [List.all_eq_true]; intro e me
    obtain ⟨a, rfl, ha⟩ := h d md
    obtain ⟨b, rfl, hb⟩ := h e me
    simp only [PySem.W.alike]
    exact alike_ints ha hb
  have h2 : xs.all tupB = true := by
    rw [List.all_eq_true]; intro d md
    obtain ⟨a, rfl, _⟩ := h d md; rfl
  have h3 : (xs.all fun d => decide (d.depth ≤ 64)) = true := by
    rw [List.all_eq_true]; intro d md
    simpa using intT_depth (h d md)
  unfold okSort
  simp [h1, h2, h3, hh, hl]
end VL

set_option Elab.async false
set_option linter.all false
set_option maxRecDepth 100000
set_option maxHeartbeats 2000000
namespace W_k81
open PySem VL L2
def bagL (x y z : Int) (cs : List D) : D := .list [.int x, .int y, .int z, .list cs]
theorem cut_from (cs : List D) (z : Nat) : cutD cs (some (z : Int)) none = cs.drop z := by
  unfold cutD
  rw [HT.sIx_nat, HT.sIx_none]
  by_cases h : z ≤ cs.length
  · rw [show min z cs.length = z by omega]
    rw [List.take_of_length_le (by rw [List.length_drop]; omega)]
  · rw [show min z cs.length = cs.length by omega, List.drop_of_length_le (Nat.le_refl _), List.drop_of_length_le (by omega)]
    simp
/-- what is drawn of a bag whose number is not used up -/
theorem take_pos {x y : Int} {z : Nat} {cs : List D} {n : Int} (hx : 0 < x) (hn : 0 < n) (hn2 : n < 1073741824) : F__law_take [bagL x y z cs, .int n] = some (.int (x % n), [bagL (x / n) y z cs, .int n]) := by
  have h0 : x ≠ 0 := by omega
  simp [F__law_take, runD_eq, g__law_take, bagL, atI, ixN, h0, ii, yes2, hx, modD, okMod, hn, fdivD, okDiv, hn2, gtTup, gtCons, gtIx, gtNil, immutFL]
def bigOf (c : Int) : Int := if 1000000000000000000 ≤ c then c else 0
theorem take_zero {y : Int} {z : Nat} {cs rest : List D} {n c : Int} (hc : cs.drop z ++ [PyData.int 0] = .int c :: rest) (hl : cs.length ≤ 63) (hn : 0 < n) (hn2 : n < 1073741824) : ∃ r x' y', F__law_take [bagL 0 y z cs, .int n] = some (.int r, [bagL x' y' (z + 1 : Nat) cs, .int n]) ∧ 0 ≤ r ∧ r < n ∧ (0 ≤ c → 0 ≤ x') := by
  have hl1 : cs.length ≤ 1000000 := by omega
  have hl2 : cs.length - z + 1 ≤ 1000000 := by omega
  by_cases hb : 1000000000000000000 ≤ c
  · have hc0 : c ≠ 0 := by omega
    have hc1 : 0 < c := by omega
    simp [F__law_take, runD_eq, g__law_take, bagL, atI, ixN, ii, yes2, modD, okMod, hn, fdivD, okDiv, hn2, gtTup, gtCons, gtIx, gtNil, immutFL, slcD, cut_from, lim, augIx, mulD, okMul, powD, okPow, hl1, hl2, hc, hb, hc0, hc1]
    exact ⟨_, _, ⟨rfl, rfl⟩, Int.emod_nonneg _ (by omega), Int.emod_lt_of_pos _ hn, fun _ => Int.ediv_nonneg (by omega) (by omega)⟩
  · have m1 : ∀ a : Int, -18446744073709551616 < a % 1000000007 := fun a => by omega
    have m2 : ∀ a : Int, a % 1000000007 < 18446744073709551616 := fun a => by omega
    simp [F__law_take, runD_eq, g__law_take, bagL, atI, ixN, ii, yes2, modD, okMod, hn, fdivD, okDiv, hn2, gtTup, gtCons, gtIx, gtNil, immutFL, slcD, cut_from, lim, augIx, mulD, okMul, powD, okPow, hl1, hl2, hc, hb, m1, m2]
    exact ⟨_, _, ⟨rfl, rfl⟩, Int.emod_nonneg _ (by omega), Int.emod_lt_of_pos _ hn, fun _ => Int.le_refl 0⟩
/-- a bag, as the laws lead it on -/
def Bag (b : D) : Prop := ∃ (x y : Int) (z : Nat) (cs : List Int), b = bagL x y z (cs.map .int) ∧ 0 ≤ x ∧ (∀ c ∈ cs, 0 ≤ c) ∧ cs.length ≤ 63
theorem take_ok {b : D} {n : Int} (hb : Bag b) (hn : 0 < n) (hn2 : n < 1073741824) : ∃ r b', F__law_take [b, .int n] = some (.int r, [b', .int n]) ∧ 0 ≤ r ∧ r < n ∧ Bag b' := by
  obtain ⟨x, y, z, cs, rfl, hx, hc, hl⟩ := hb
  by_cases h : x = 0
  · subst h
    have hl' : (cs.map PyData.int).length ≤ 63 := by rw [List.length_map]; exact hl
    obtain ⟨c, rest, h1, h2⟩ : ∃ c rest, (cs.map PyData.int).drop z ++ [PyData.int 0] = .int c :: rest ∧ 0 ≤ c := by
      rw [← List.map_drop]
      cases q : cs.drop z with
      | nil => exact ⟨0, [], rfl, Int.le_refl 0⟩
      | cons c r => exact ⟨c, r.map PyData.int ++ [.int 0], rfl, hc c (List.mem_of_mem_drop (by rw [q]; exact List.mem_cons_self))⟩
    obtain ⟨r, x', y', e, r0, r1, hx'⟩ := take_zero (y := y) h1 hl' hn hn2
    exact ⟨r, _, e, r0, r1, x', y', z + 1, cs, rfl, hx' h2, hc, hl⟩
  · have hp : 0 < x := by omega
    exact ⟨_, _, take_pos hp hn hn2, Int.emod_nonneg _ (by omega), Int.emod_lt_of_pos _ hn, x / n, y, z, cs, rfl, Int.ediv_nonneg hx (by omega), hc, hl⟩
theorem one_ok {b : D} {xs : List D} (hb : Bag b) (h0 : 0 < xs.length) (h1 : xs.length < 1073741824) : ∃ d b', d ∈ xs ∧ F__law_one [b, .list xs] = some (d, [b', .list xs]) ∧ Bag b' := by
  obtain ⟨r, b', e, r0, r1, hb'⟩ := take_ok hb (n := (xs.length : Int)) (by omega) (by omega)
  have hr : r.toNat < xs.length := by omega
  have hr2 : r < (xs.length : Int) := r1
  refine ⟨xs[r.toNat], b', List.getElem_mem hr, ?_, hb'⟩
  simp [F__law_one, runD_eq, g__law_one, e, atI, ixN, r0, hr2]
def mixBody : Sx := sExp (eMut 2 uInsert [(eCall F__law_take [.io 0, .v (eBor 0 (eBin addD (eNs lenD [(eVar 2)]) (eC (.int 1))))]), (eVar 3)])
theorem mix_step {b t d : D} {acc : List D} (hb : Bag b) (hl : acc.length < 1000) : ∃ b' acc', mixBody [b, t, .list acc, d] = some (.nx [b', t, .list acc', d]) ∧ acc'.Perm (d :: acc) ∧ Bag b' := by
  obtain ⟨r, b', e, r0, r1, hb'⟩ := take_ok hb (n := (acc.length : Int) + 1) (by omega) (by omega)
  have hl2 : acc.length < 1000 := hl
  have hr3 : r < 4611686018427387904 := by omega
  refine ⟨b', acc.take r.toNat ++ d :: acc.drop r.toNat, ?_, ?_, hb'⟩
  · simp [mixBody, eMut_l (ds := acc), mutK_l (ds := acc), e, zu_ins (Nat.lt_trans hl2 (by decide : 1000 < lim)) r0 hr3]
  · have h1 : (acc.take r.toNat ++ d :: acc.drop r.toNat).Perm (d :: (acc.take r.toNat ++ acc.drop r.toNat)) := List.perm_middle
    rwa [List.take_append_drop] at h1
theorem mix_loop {t : D} : ∀ (ds : List D) (b v : D) (acc : List D), Bag b → acc.length + ds.length < 1000 → ∃ b' acc' v', forL (gtName 3) mixBody ds [b, t, .list acc, v] = some (.nx [b', t, .list acc', v']) ∧ acc'.Perm (ds ++ acc) ∧ Bag b'
  | [], b, v, acc, hb, _ => ⟨b, acc, v, rfl, List.Perm.refl _, hb⟩
  | d :: ds, b, v, acc, hb, hl => by
    simp only [List.length_cons] at hl
    obtain ⟨b1, acc1, e1, p1, hb1⟩ := mix_step (t := t) (d := d) (acc := acc) hb (by omega)
    have l1 : acc1.length = acc.length + 1 := by rw [p1.length_eq]; rfl
    obtain ⟨b2, acc2, v2, e2, p2, hb2⟩ := mix_loop (t := t) ds b1 d acc1 hb1 (by omega)
    refine ⟨b2, acc2, v2, ?_, ?_, hb2⟩
    · simp only [forL, gtName, Option.bind_some]
      rw [show List.set [b, t, PyData.list acc, v] 3 d = [b, t, .list acc, d] from rfl, e1]
      exact e2
    · refine p2.trans ?_
      refine (List.Perm.append_left ds p1).trans ?_
      exact List.perm_middle
theorem mixed_ok {b : D} {xs : List D} (hb : Bag b) (hl : xs.length < 1000) : ∃ ys b', F__law_mixed [b, .list xs] = some (.list ys, [b', .list xs]) ∧ ys.Perm xs ∧ Bag b' := by
  obtain ⟨b', acc', v', e, p, hb'⟩ := mix_loop (t := .list xs) xs b .none [] hb (by simpa using hl)
  refine ⟨acc', b', ?_, by simpa using p, hb'⟩
  have : g__law_mixed = (sq (asg 2 (eLst [])) (sq (forD (iSqA (eVar 1)) (gtName 3) mixBody) (retE (eVar 2)))) := rfl
  unfold F__law_mixed
  rw [runD_eq]
  rw [this]
  simp [e]
/-- data that can be compared and shown -/
def Fine (d : D) : Prop := d.plain = true ∧ d.depth ≤ 64 ∧ ∃ t, reprD [d] = some (.str t)
theorem alike_same {d : D} (h : Fine d) : F__law_alike [d, d] = some (.bool true, [d, d]) := by
  obtain ⟨h1, h2, t, h3⟩ := h
  have q1 : PyData.eqv d d = true := PySem.SeqAt.eqv_refl_plain d h1
  have q2 : eqD d d = some (.bool true) := by simp [eqD, halfOk, h1, h2, q1]
  simp [F__law_alike, runD_eq, g__law_alike, q2, h3]
theorem restored_same {ds : List (D × D)} {m : Int} (h : dGet ds (.inl 0) = none ∨ ∃ v, dGet ds (.inl 0) = some (.int v)) : F_restored [.dict ds, .int m] = F__law_restored [.dict ds, .int m] := by
  rcases h with h | ⟨v, h⟩
  · simp [F_restored, F__law_restored, runD_eq, g_restored, g__law_restored, notInA, VL.keyOf, h]
  · simp [F_restored, F__law_restored, runD_eq, g_restored, g__law_restored, notInA, VL.keyOf, h, ii, yes2]
theorem sure_same {xs : List D} {i j k : Int} {p q : Bool} (hl : xs.length ≤ 1000000) (h1 : indexT (.tuple xs) (.str "data") = some (.int i)) (h2 : indexT (.tuple xs) (.str "mark") = some (.int j)) (h3 : indexT (.tuple xs) (.str "tell") = some (.int k))
    (hp : inA (.str "sink") (.tuple (cutD xs (some i) (some j))) = some (.bool p)) (hq : inA (.str "sink") (.tuple (cutD xs (some j) (some k))) = some (.bool q)) :
    F_is_sure_order [.tuple xs] = some (.bool (p && q), [.tuple xs]) ∧ F__law_is_sure [.tuple xs] = some (.bool (p && q), [.tuple xs]) := by
  cases p <;> simp [F_is_sure_order, F__law_is_sure, F_is_between, runD_eq, g_is_sure_order, g__law_is_sure, g_is_between, h1, h2, h3, slcD, lim, hl, hp, hq]
end W_k81

set_option Elab.async false
set_option linter.all false
set_option maxRecDepth 100000
set_option maxHeartbeats 2000000
namespace W_k81
open PySem VL L2
/-! words -/
def wD : Str := "data"
def wM : Str := "mark"
def wS : Str := "sink"
def wT : Str := "tell"
theorem w_1 : (("mark" : Str) == "data") = false := by decide +kernel
theorem w_2 : (("sink" : Str) == "data") = false := by decide +kernel
theorem w_3 : (("tell" : Str) == "data") = false := by decide +kernel
theorem w_4 : (("sink" : Str) == "mark") = false := by decide +kernel
theorem w_5 : (("tell" : Str) == "mark") = false := by decide +kernel
theorem w_6 : (("tell" : Str) == "sink") = false := by decide +kernel
theorem w_7 : (("sink" : Str) == "tell") = false := by decide +kernel
def Wrd (w : Str) : Prop := w = "data" ∨ w = "mark" ∨ w = "sink" ∨ w = "tell"
/-- the writes of a row -/
def writesOf (first : Int) (k : Nat) : List D → List D
  | [] => []
  | v :: r => .tuple [.str "write", .int (first + k), v] :: writesOf first (k + 1) r
theorem writes_len (f : Int) : ∀ (vs : List D) (k : Nat), (writesOf f k vs).length = vs.length
  | [], _ => rfl
  | v :: vs, k => by simp [writesOf, writes_len f vs]
def firstOf (n : Int) (row : List D) : Int := 1 + (row.length : Int) * (n % 2)
theorem data_loop (first : Int) (n row : D) : ∀ (vs : List D) (k : Nat) (x y : D), ∃ x' y', lcL (gtTup 2 (gtCons (gtName 3) (gtCons (gtName 4) gtNil))) bYes (eTup [(eC (.str "write")), (eBin addD (eVar 2) (eVar 3)), (eVar 4)]) (enumFrom k vs) [n, row, .int first, x, y] = some (writesOf first k vs, [n, row, .int first, x', y'])
  | [], k, x, y => ⟨x, y, rfl⟩
  | v :: vs, k, x, y => by
    obtain ⟨x', y', e⟩ := data_loop first n row vs (k + 1) (.int (k : Nat)) v
    refine ⟨x', y', ?_⟩
    simp [enumFrom, lcL_cons, writesOf, e]
theorem data_ok {n : Int} {row : List D} (hl : row.length ≤ 1000) : F_data_of [.int n, .list row] = some (.list (writesOf (firstOf n row) 0 row), [.int n, .list row]) := by
  obtain ⟨x', y', e⟩ := data_loop (firstOf n row) (.int n) (.list row) row 0 .none .none
  have h3 : (writesOf (firstOf n row) 0 row).length ≤ 1000000 := by rw [writes_len]; exact Nat.le_trans hl (by decide)
  have h4 := mul_small (i := (row.length : Int)) (j := n % 2) (by omega) (by omega)
  unfold firstOf at e h3 ⊢
  simp [F_data_of, g_data_of, runD_eq, h4, e, h3, restore]
def tpM (n : Nat) : D := .tuple [.str "write", .int 0, .int ((n : Int) + 1)]
def tpS : D := .tuple [.str "sink"]
def stepW (n : Nat) (row : List D) (p : List D × List D) (w : Str) : List D × List D :=
  if w = "data" then (p.1 ++ writesOf (firstOf n row) 0 row, p.2)
  else if w = "mark" then (p.1 ++ [tpM n], p.2)
  else if w = "sink" then (p.1 ++ [tpS], p.2)
  else (p.1, p.2 ++ [.int p.1.length])
theorem stepW_D (n : Nat) (row : List D) (p : List D × List D) : stepW n row p "data" = (p.1 ++ writesOf (firstOf n row) 0 row, p.2) := rfl
theorem ne_of_beq {x y : Str} (h : (x == y) = false) : x ≠ y := by simpa using h
theorem stepW_M (n : Nat) (row : List D) (p : List D × List D) : stepW n row p "mark" = (p.1 ++ [tpM n], p.2) := by
  unfold stepW; rw [if_neg (ne_of_beq w_1), if_pos rfl]
theorem stepW_S (n : Nat) (row : List D) (p : List D × List D) : stepW n row p "sink" = (p.1 ++ [tpS], p.2) := by
  unfold stepW; rw [if_neg (ne_of_beq w_2), if_neg (ne_of_beq w_4), if_pos rfl]
theorem stepW_T (n : Nat) (row : List D) (p : List D × List D) : stepW n row p "tell" = (p.1, p.2 ++ [.int p.1.length]) := by
  unfold stepW; rw [if_neg (ne_of_beq w_3), if_neg (ne_of_beq w_5), if_neg (ne_of_beq w_6)]
theorem stepW_len {n : Nat} {row : List D} {p : List D × List D} {w : Str} (hw : Wrd w) (hr : row.length ≤ 8) : (stepW n row p w).1.length ≤ p.1.length + 8 ∧ (stepW n row p w).2.length ≤ p.2.length + 1 := by
  rcases hw with rfl | rfl | rfl | rfl
  · rw [stepW_D]; simp [writes_len]; omega
  · rw [stepW_M]; simp
  · rw [stepW_S]; simp
  · rw [stepW_T]; simp
def ledBody : Sx := (sIf (asB (eBin eqD (eVar 6) (eC (.str "data")))) (sExp (eMut 2 uExtend [(eCall F_data_of [.v (eVar 4), .v (eVar 5)])])) (sIf (asB (eBin eqD (eVar 6) (eC (.str "mark")))) (sExp (eMut 2 uAppend [(eTup [(eC (.str "write")), (eC (.int 0)), (eBin addD (eVar 4) (eC (.int 1)))])])) (sIf (asB (eBin eqD (eVar 6) (eC (.str "sink")))) (sExp (eMut 2 uAppend [(eTup [(eC (.str "sink"))])])) (sExp (eMut 3 uAppend [(eBor 0 (eNs lenD [(eVar 2)]))])))))
theorem led_step {O R : D} {n : Nat} {row t l : List D} {w : Str} (hw : Wrd w) (hr : row.length ≤ 8) (ht : t.length ≤ 10000) (hl : l.length ≤ 10000) :
    ledBody [O, R, .list t, .list l, .int n, .list row, .str w] = some (.nx [O, R, .list (stepW n row (t, l) w).1, .list (stepW n row (t, l) w).2, .int n, .list row, .str w]) := by
  have hd := data_ok (n := (n : Int)) (row := row) (by omega)
  have h1 : t.length + row.length ≤ lim := Nat.le_trans (by omega) (show 10008 ≤ lim by decide)
  have h2 : t.length < lim := Nat.lt_of_le_of_lt ht (by decide)
  have h3 : l.length < lim := Nat.lt_of_le_of_lt hl (by decide)
  rcases hw with rfl | rfl | rfl | rfl
  · simp [stepW_D, ledBody, eMut_l (ds := t), mutK_l (ds := t), hd, writes_len, h1]
  · simp [stepW_M, ledBody, eMut_l (ds := t), mutK_l (ds := t), w_1, h2, tpM]
  · simp [stepW_S, ledBody, eMut_l (ds := t), mutK_l (ds := t), w_2, w_4, h2, tpS]
  · simp [stepW_T, ledBody, eMut_l (ds := l), mutK_l (ds := l), w_3, w_5, w_6, h3]
theorem led_in {O R : D} {n : Nat} {row : List D} (hr : row.length ≤ 8) : ∀ (ws : List Str) (t l : List D) (s0 : D), (∀ w ∈ ws, Wrd w) → t.length + 8 * ws.length ≤ 10000 → l.length + ws.length ≤ 10000 →
    ∃ s1, forL (gtName 6) ledBody (ws.map .str) [O, R, .list t, .list l, .int n, .list row, s0] = some (.nx [O, R, .list (ws.foldl (stepW n row) (t, l)).1, .list (ws.foldl (stepW n row) (t, l)).2, .int n, .list row, s1])
  | [], t, l, s0, _, _, _ => ⟨s0, rfl⟩
  | w :: ws, t, l, s0, hw, ht, hl => by
    simp only [List.length_cons] at ht hl
    have hw0 := hw w List.mem_cons_self
    have hs := stepW_len (n := n) (p := (t, l)) hw0 hr
    obtain ⟨s1, e⟩ := led_in (O := O) (R := R) (n := n) hr ws (stepW n row (t, l) w).1 (stepW n row (t, l) w).2 (.str w) (fun v hv => hw v (List.mem_cons_of_mem _ hv)) (by simp only at hs; omega) (by simp only at hs; omega)
    refine ⟨s1, ?_⟩
    simp only [List.map_cons, forL_cons, zz_gtName, ob_some]
    rw [show List.set [O, R, PyData.list t, .list l, .int n, .list row, s0] 6 (.str w) = [O, R, .list t, .list l, .int n, .list row, .str w] from rfl, led_step hw0 hr (by omega) (by omega)]
    simp only [ob_some, forK_nx]
    exact e
theorem fold_len {n : Nat} {row : List D} (hr : row.length ≤ 8) : ∀ (ws : List Str) (p : List D × List D), (∀ w ∈ ws, Wrd w) → (ws.foldl (stepW n row) p).1.length ≤ p.1.length + 8 * ws.length ∧ (ws.foldl (stepW n row) p).2.length ≤ p.2.length + ws.length
  | [], p, _ => by simp
  | w :: ws, p, hw => by
    have h1 := stepW_len (n := n) (p := p) (hw w List.mem_cons_self) hr
    have h2 := fold_len (n := n) hr ws (stepW n row p w) fun v hv => hw v (List.mem_cons_of_mem _ hv)
    simp only [List.foldl_cons, List.length_cons]
    omega
/-- the tape of all saves, the tellings -/
def savesL (ws : List Str) : Nat → List (List D) → List D × List D → List D × List D
  | _, [], p => p
  | n, row :: rs, p => savesL ws (n + 1) rs (ws.foldl (stepW n row) p)
def rowsD (rs : List (List D)) : D := .list (rs.map .list)
theorem saves_len {ws : List Str} (hw : ∀ w ∈ ws, Wrd w) : ∀ (rs : List (List D)) (n : Nat) (p : List D × List D), (∀ r ∈ rs, r.length ≤ 8) → (savesL ws n rs p).1.length ≤ p.1.length + 8 * ws.length * rs.length ∧ (savesL ws n rs p).2.length ≤ p.2.length + ws.length * rs.length
  | [], n, p, _ => by simp [savesL]
  | r :: rs, n, p, hr => by
    have h1 := fold_len (n := n) (hr r List.mem_cons_self) ws p hw
    have h2 := saves_len hw rs (n + 1) (ws.foldl (stepW n r) p) fun v hv => hr v (List.mem_cons_of_mem _ hv)
    simp only [savesL, List.length_cons, Nat.mul_add, Nat.mul_one] at *
    omega
theorem led_out {ws : List Str} {R : D} (hw : ∀ w ∈ ws, Wrd w) (hws : ws.length ≤ 10) : ∀ (rs : List (List D)) (n : Nat) (p : List D × List D) (a b c : D), (∀ r ∈ rs, r.length ≤ 8) → p.1.length + 100 * rs.length ≤ 5000 → p.2.length + 100 * rs.length ≤ 5000 →
    ∃ a' b' c', forL (gtTup 2 (gtCons (gtName 4) (gtCons (gtName 5) gtNil))) (forD (iSqA (eVar 0)) (gtName 6) ledBody) (enumFrom n (rs.map .list)) [.tuple (ws.map .str), R, .list p.1, .list p.2, a, b, c] =
      some (.nx [.tuple (ws.map .str), R, .list (savesL ws n rs p).1, .list (savesL ws n rs p).2, a', b', c'])
  | [], n, p, a, b, c, _, _, _ => ⟨a, b, c, rfl⟩
  | r :: rs, n, p, a, b, c, hr, h1, h2 => by
    simp only [List.length_cons] at h1 h2
    have hr0 := hr r List.mem_cons_self
    have hf := fold_len (n := n) hr0 ws p hw
    obtain ⟨s1, e1⟩ := led_in (O := .tuple (ws.map .str)) (R := R) (n := n) hr0 ws p.1 p.2 c hw (by omega) (by omega)
    obtain ⟨a', b', c', e2⟩ := led_out (R := R) hw hws rs (n + 1) (ws.foldl (stepW n r) p) (.int n) (.list r) s1 (fun v hv => hr v (List.mem_cons_of_mem _ hv)) (by omega) (by omega)
    refine ⟨a', b', c', ?_⟩
    simp only [List.map_cons, enumFrom, forL_cons, zz_gtTup, zz_gtCons, zz_gtName, zz_gtNil, ob_some, List.length_cons, List.length_nil, if_true]
    rw [show List.set (List.set [PyData.tuple (ws.map .str), R, PyData.list p.1, .list p.2, a, b, c] 4 (.int (n : Nat))) 5 (.list r) = [PyData.tuple (ws.map .str), R, PyData.list p.1, .list p.2, .int (n : Nat), .list r, c] from rfl]
    simp only [zz_forD, zz_iSqA, zz_eVar, List.getElem?_cons_zero, om_some, ob_some, zd_itT]
    rw [e1]
    simp only [ob_some, forK_nx]
    exact e2
def tapeOf (ws : List Str) (rs : List (List D)) : List D := (savesL ws 0 rs ([], [])).1
def tellsOf (ws : List Str) (rs : List (List D)) : List D := (savesL ws 0 rs ([], [])).2
theorem led_ok {ws : List Str} {rs : List (List D)} (hw : ∀ w ∈ ws, Wrd w) (hws : ws.length ≤ 10) (hr : ∀ r ∈ rs, r.length ≤ 8) (hrs : rs.length ≤ 20) :
    F_led_tape [.tuple (ws.map .str), rowsD rs] = some (.tuple [.list (tapeOf ws rs), .list (tellsOf ws rs)], [.tuple (ws.map .str), rowsD rs]) := by
  obtain ⟨a, b, c, e⟩ := led_out (R := rowsD rs) hw hws rs 0 ([], []) .none .none .none hr (by simp; omega) (by simp; omega)
  have e2 : forL (gtTup 2 (gtCons (gtName 4) (gtCons (gtName 5) gtNil))) (forD (iSqA (eVar 0)) (gtName 6) ledBody) (enumFrom 0 (rs.map .list)) [.tuple (ws.map .str), .list (rs.map .list), .list [], .list [], .none, .none, .none] = some (.nx [.tuple (ws.map .str), .list (rs.map .list), .list (tapeOf ws rs), .list (tellsOf ws rs), a, b, c]) := e
  unfold ledBody at e2
  simp [F_led_tape, g_led_tape, runD_eq, rowsD, e2]
end W_k81

set_option Elab.async false
set_option linter.all false
set_option maxRecDepth 100000
set_option maxHeartbeats 2000000
namespace W_k81
open PySem VL L2
/-! _law_saved makes the same -/
theorem sv_loop {O R : D} {t l : List D} {n row w : D} (first : Int) : ∀ (vs : List D) (k : Nat) (x y : D), ∃ x' y', lcL (gtTup 2 (gtCons (gtName 8) (gtCons (gtName 9) gtNil))) bYes (eTup [(eC (.str "write")), (eBin addD (eVar 7) (eVar 8)), (eVar 9)]) (enumFrom k vs) [O, R, .list t, .list l, n, row, w, .int first, x, y] = some (writesOf first k vs, [O, R, .list t, .list l, n, row, w, .int first, x', y'])
  | [], k, x, y => ⟨x, y, rfl⟩
  | v :: vs, k, x, y => by
    obtain ⟨x', y', e⟩ := sv_loop (O := O) (R := R) (t := t) (l := l) (n := n) (row := row) (w := w) first vs (k + 1) (.int (k : Nat)) v
    refine ⟨x', y', ?_⟩
    simp [enumFrom, lcL_cons, writesOf, e]
def savBody : Sx := (sIf (asB (eBin eqD (eVar 6) (eC (.str "data")))) (sq (asg 7 (eBin addD (eC (.int 1)) (eBin mulD (eNs lenD [(eVar 5)]) (eBin modD (eNs intD [(eVar 4)]) (eC (.int 2))))))
  (asg 2 (eBin addD (eVar 2) (lcD [8, 9] (iEn (eVar 5)) (gtTup 2 (gtCons (gtName 8) (gtCons (gtName 9) gtNil))) bYes (eTup [(eC (.str "write")), (eBin addD (eVar 7) (eVar 8)), (eVar 9)]))))) (sIf (asB (eBin eqD (eVar 6) (eC (.str "mark")))) (asg 2 (eBin addD (eVar 2) (eLst [(eTup [(eC (.str "write")), (eC (.int 0)), (eBin addD (eVar 4) (eC (.int 1)))])]))) (asg2 2 3 (eBin addD (eVar 2) (eBin repD (eLst [(eTup [(eC (.str "sink"))])]) (eNs intD [(eBin eqD (eVar 6) (eC (.str "sink")))]))) (eBin addD (eVar 3) (eBin repD (eLst [(eNs lenD [(eVar 2)])]) (eNs intD [(eBin eqD (eVar 6) (eC (.str "tell")))]))))))
theorem rep_0 (xs : List D) : repD (.list xs) (.int 0) = some (.list []) := by
  have := rep_n (xs := xs) (k := 0) (by omega) (by simp)
  simpa using this
theorem rep_1 (x : D) : repD (.list [x]) (.int 1) = some (.list [x]) := by
  have := rep_n (xs := [x]) (k := 1) (by omega) (show 1 ≤ lim by decide)
  simpa using this
theorem sav_step {O R : D} {n : Nat} {row t l : List D} {w : Str} {f x y : D} (hw : Wrd w) (hr : row.length ≤ 8) (ht : t.length ≤ 10000) (hl : l.length ≤ 10000) :
    ∃ f', savBody [O, R, .list t, .list l, .int n, .list row, .str w, f, x, y] = some (.nx [O, R, .list (stepW n row (t, l) w).1, .list (stepW n row (t, l) w).2, .int n, .list row, .str w, f', x, y]) := by
  have h1 : t.length + row.length ≤ lim := Nat.le_trans (by omega) (show 10008 ≤ lim by decide)
  have h2 : t.length + 1 ≤ lim := Nat.le_trans (Nat.succ_le_succ ht) (by decide)
  have h2' : t.length ≤ lim := Nat.le_trans ht (by decide)
  have h3 : l.length + 1 ≤ lim := Nat.le_trans (Nat.succ_le_succ hl) (by decide)
  have h3' : l.length ≤ lim := Nat.le_trans hl (by decide)
  have h4 := mul_small (i := (row.length : Int)) (j := (n : Int) % 2) (by omega) (by omega)
  rcases hw with rfl | rfl | rfl | rfl
  · obtain ⟨x', y', e⟩ := sv_loop (O := O) (R := R) (t := t) (l := l) (n := .int n) (row := .list row) (w := .str "data") (1 + (row.length : Int) * ((n : Int) % 2)) row 0 x y
    have h5 : row.length ≤ 1000000 := Nat.le_trans hr (by decide)
    refine ⟨.int (1 + (row.length : Int) * ((n : Int) % 2)), ?_⟩
    simp [stepW_D, savBody, h4, e, h5, restore, writes_len, h1, firstOf]
  · exact ⟨f, by simp [stepW_M, savBody, w_1, h2, tpM]⟩
  · exact ⟨f, by simp [stepW_S, savBody, w_2, w_4, w_7, h2, h3', rep_1, rep_0, tpS]⟩
  · exact ⟨f, by simp [stepW_T, savBody, w_3, w_5, w_6, h2', h3, rep_1, rep_0]⟩
theorem sav_in {O R : D} {n : Nat} {row : List D} {x y : D} (hr : row.length ≤ 8) : ∀ (ws : List Str) (t l : List D) (s0 f : D), (∀ w ∈ ws, Wrd w) → t.length + 8 * ws.length ≤ 10000 → l.length + ws.length ≤ 10000 →
    ∃ s1 f1, forL (gtName 6) savBody (ws.map .str) [O, R, .list t, .list l, .int n, .list row, s0, f, x, y] = some (.nx [O, R, .list (ws.foldl (stepW n row) (t, l)).1, .list (ws.foldl (stepW n row) (t, l)).2, .int n, .list row, s1, f1, x, y])
  | [], t, l, s0, f, _, _, _ => ⟨s0, f, rfl⟩
  | w :: ws, t, l, s0, f, hw, ht, hl => by
    simp only [List.length_cons] at ht hl
    have hw0 := hw w List.mem_cons_self
    have hs := stepW_len (n := n) (p := (t, l)) hw0 hr
    obtain ⟨f', e0⟩ := sav_step (O := O) (R := R) (n := n) (row := row) (t := t) (l := l) (f := f) (x := x) (y := y) hw0 hr (by omega) (by omega)
    obtain ⟨s1, f1, e⟩ := sav_in (O := O) (R := R) (n := n) (x := x) (y := y) hr ws (stepW n row (t, l) w).1 (stepW n row (t, l) w).2 (.str w) f' (fun v hv => hw v (List.mem_cons_of_mem _ hv)) (by simp only at hs; omega) (by simp only at hs; omega)
    refine ⟨s1, f1, ?_⟩
    simp only [List.map_cons, forL_cons, zz_gtName, ob_some]
    rw [show List.set [O, R, PyData.list t, .list l, .int n, .list row, s0, f, x, y] 6 (.str w) = [O, R, .list t, .list l, .int n, .list row, .str w, f, x, y] from rfl, e0]
    simp only [ob_some, forK_nx]
    exact e
theorem sav_out {ws : List Str} {R x y : D} (hw : ∀ w ∈ ws, Wrd w) (hws : ws.length ≤ 10) : ∀ (rs : List (List D)) (n : Nat) (p : List D × List D) (a b c f : D), (∀ r ∈ rs, r.length ≤ 8) → p.1.length + 100 * rs.length ≤ 5000 → p.2.length + 100 * rs.length ≤ 5000 →
    ∃ a' b' c' f', forL (gtTup 2 (gtCons (gtName 4) (gtCons (gtName 5) gtNil))) (forD (iSqA (eVar 0)) (gtName 6) savBody) (enumFrom n (rs.map .list)) [.tuple (ws.map .str), R, .list p.1, .list p.2, a, b, c, f, x, y] =
      some (.nx [.tuple (ws.map .str), R, .list (savesL ws n rs p).1, .list (savesL ws n rs p).2, a', b', c', f', x, y])
  | [], n, p, a, b, c, f, _, _, _ => ⟨a, b, c, f, rfl⟩
  | r :: rs, n, p, a, b, c, f, hr, h1, h2 => by
    simp only [List.length_cons] at h1 h2
    have hr0 := hr r List.mem_cons_self
    have hf := fold_len (n := n) hr0 ws p hw
    obtain ⟨s1, f1, e1⟩ := sav_in (O := .tuple (ws.map .str)) (R := R) (n := n) (x := x) (y := y) hr0 ws p.1 p.2 c f hw (by omega) (by omega)
    obtain ⟨a', b', c', f', e2⟩ := sav_out (R := R) (x := x) (y := y) hw hws rs (n + 1) (ws.foldl (stepW n r) p) (.int n) (.list r) s1 f1 (fun v hv => hr v (List.mem_cons_of_mem _ hv)) (by omega) (by omega)
    refine ⟨a', b', c', f', ?_⟩
    simp only [List.map_cons, enumFrom, forL_cons, zz_gtTup, zz_gtCons, zz_gtName, zz_gtNil, ob_some, List.length_cons, List.length_nil, if_true]
    rw [show List.set (List.set [PyData.tuple (ws.map .str), R, PyData.list p.1, .list p.2, a, b, c, f, x, y] 4 (.int (n : Nat))) 5 (.list r) = [PyData.tuple (ws.map .str), R, PyData.list p.1, .list p.2, .int (n : Nat), .list r, c, f, x, y] from rfl]
    simp only [zz_forD, zz_iSqA, zz_eVar, List.getElem?_cons_zero, om_some, ob_some, zd_itT]
    rw [e1]
    simp only [ob_some, forK_nx]
    exact e2
theorem saved_ok {ws : List Str} {rs : List (List D)} (hw : ∀ w ∈ ws, Wrd w) (hws : ws.length ≤ 10) (hr : ∀ r ∈ rs, r.length ≤ 8) (hrs : rs.length ≤ 20) :
    F__law_saved [.tuple (ws.map .str), rowsD rs] = some (.tuple [.list (tapeOf ws rs), .list (tellsOf ws rs)], [.tuple (ws.map .str), rowsD rs]) := by
  obtain ⟨a, b, c, f, e⟩ := sav_out (R := rowsD rs) (x := .none) (y := .none) hw hws rs 0 ([], []) .none .none .none .none hr (by simp; omega) (by simp; omega)
  have e2 : forL (gtTup 2 (gtCons (gtName 4) (gtCons (gtName 5) gtNil))) (forD (iSqA (eVar 0)) (gtName 6) savBody) (enumFrom 0 (rs.map .list)) [.tuple (ws.map .str), .list (rs.map .list), .list [], .list [], .none, .none, .none, .none, .none, .none] = some (.nx [.tuple (ws.map .str), .list (rs.map .list), .list (tapeOf ws rs), .list (tellsOf ws rs), a, b, c, f, .none, .none]) := e
  unfold savBody at e2
  simp [F__law_saved, g__law_saved, runD_eq, rowsD, e2]
theorem tape_ok {ws : List Str} {rs : List (List D)} (hw : ∀ w ∈ ws, Wrd w) (hws : ws.length ≤ 10) (hr : ∀ r ∈ rs, r.length ≤ 8) (hrs : rs.length ≤ 20) :
    F_save_tape [.tuple (ws.map .str), rowsD rs] = some (.list (tapeOf ws rs), [.tuple (ws.map .str), rowsD rs]) := by
  simp [F_save_tape, g_save_tape, runD_eq, led_ok hw hws hr hrs]
theorem tells_ok {ws : List Str} {rs : List (List D)} (hw : ∀ w ∈ ws, Wrd w) (hws : ws.length ≤ 10) (hr : ∀ r ∈ rs, r.length ≤ 8) (hrs : rs.length ≤ 20) :
    F_tells_at [.tuple (ws.map .str), rowsD rs] = some (.list (tellsOf ws rs), [.tuple (ws.map .str), rowsD rs]) := by
  simp [F_tells_at, g_tells_at, runD_eq, led_ok hw hws hr hrs]
end W_k81

set_option Elab.async false
set_option linter.all false
set_option maxRecDepth 100000
set_option maxHeartbeats 2000000
namespace W_k81
open PySem VL L2
def unS : D → Str
  | .str x => x
  | _ => ""
theorem perm_strs {ys : List D} {l : List Str} (h : ys.Perm (l.map .str)) : ∃ ws : List Str, ws.Perm l ∧ ys = ws.map .str := by
  refine ⟨ys.map unS, ?_, ?_⟩
  · have := h.map unS
    rw [List.map_map] at this
    have e : (unS ∘ PyData.str) = id := by funext x; rfl
    rwa [e, List.map_id] at this
  · rw [List.map_map]
    have : ∀ y ∈ ys, (PyData.str ∘ unS) y = y := fun y m => by
      have := h.mem_iff.mp m
      rw [List.mem_map] at this
      obtain ⟨x, _, rfl⟩ := this
      rfl
    rw [List.map_congr_left (g := id) this, List.map_id]
/-- save orders: data, mark, tell once each, and up to four sinks -/
def ord3 : List Str := ["data", "mark", "tell"]
def base4 : List Str := ["data", "mark", "sink", "tell"]
def sk (k : Nat) : List Str := List.replicate k "sink"
def Ord (ws : List Str) : Prop := ∃ k ≤ 4, ws.Perm (ord3 ++ sk k)
theorem Ord.wrd {ws : List Str} (h : Ord ws) : ∀ w ∈ ws, Wrd w := by
  obtain ⟨k, hk, p⟩ := h
  intro w m
  have := p.mem_iff.mp m
  simp only [ord3, sk, List.mem_append, List.mem_cons, List.not_mem_nil, or_false, List.mem_replicate] at this
  rcases this with (h | h | h) | ⟨_, h⟩
  · exact .inl h
  · exact .inr (.inl h)
  · exact .inr (.inr (.inr h))
  · exact .inr (.inr (.inl h))
theorem Ord.len {ws : List Str} (h : Ord ws) : ws.length ≤ 7 := by
  obtain ⟨k, hk, p⟩ := h
  rw [p.length_eq]; simp [ord3, sk]; omega
theorem Ord.len3 {ws : List Str} (h : Ord ws) : 3 ≤ ws.length := by
  obtain ⟨k, hk, p⟩ := h
  rw [p.length_eq]; simp [ord3, sk]
def base : List Str := ["data", "sink", "mark", "sink", "tell"]
theorem base_perm (k : Nat) : (base ++ sk k).Perm (ord3 ++ sk (k + 2)) := by
  have h1 : base.Perm (ord3 ++ sk 2) := by decide +kernel
  have h2 := h1.append_right (sk k)
  unfold sk at h2 ⊢
  rw [List.append_assoc, List.replicate_append_replicate, Nat.add_comm] at h2
  exact h2
theorem base_perm' (k : Nat) : (base4 ++ sk k).Perm (ord3 ++ sk (k + 1)) := by
  have h1 : base4.Perm (ord3 ++ sk 1) := by decide +kernel
  have h2 := h1.append_right (sk k)
  unfold sk at h2 ⊢
  rw [List.append_assoc, List.replicate_append_replicate, Nat.add_comm] at h2
  exact h2
theorem rem_ok (k : Nat) (hk : k < 3) : uRemove ((base ++ sk k).map .str) [.str "sink"] = some (.none, (base4 ++ sk k).map .str) := by
  match k, hk with
  | 0, _ => kernel_rfl
  | 1, _ => kernel_rfl
  | 2, _ => kernel_rfl
theorem rep_one {x : D} {k : Nat} (h : k ≤ 1000) : repD (.list [x]) (.int k) = some (.list (List.replicate k x)) := by
  rw [rep_n (by omega) (by simp; exact Nat.le_trans h (by decide))]
  congr 2
  induction k with
  | zero => rfl
  | succ k ih => rw [List.replicate_succ, List.replicate_succ, List.flatten_cons, ih (by omega)]; rfl
theorem catB {k : Nat} (hk : k < 3) : catL (.list [.str "data", .str "sink", .str "mark", .str "sink", .str "tell"]) (.list (List.replicate k (.str "sink"))) = some (.list ((base ++ sk k).map .str)) := by
  rw [zd_catL, if_pos (by simp; exact Nat.le_trans (by omega : 5 + k ≤ 8) (by decide))]
  simp [base, sk]
theorem order_ok {b : D} (hb : Bag b) : ∃ ws b', F__law_save_order [b] = some (.tuple (ws.map .str), [b']) ∧ Ord ws ∧ Bag b' := by
  obtain ⟨r1, b1, e1, p0, p1, hb1⟩ := take_ok hb (n := 3) (by omega) (by omega)
  obtain ⟨r2, b2, e2, q0, q1, hb2⟩ := take_ok hb1 (n := 5) (by omega) (by omega)
  obtain ⟨k, rfl⟩ := Int.eq_ofNat_of_zero_le p0
  have hk : k < 3 := by omega
  have hr := rep_one (x := .str "sink") (k := k) (by omega)
  have hc := catB hk
  by_cases h4 : r2 = 4
  · subst h4
    obtain ⟨ys, b3, e3, p3, hb3⟩ := mixed_ok (xs := [.str "data", .str "mark", .str "tell"]) hb2 (by simp)
    obtain ⟨ws, pw, rfl⟩ := perm_strs (l := ord3) p3
    refine ⟨ws, b3, ?_, ⟨0, by omega, by simpa [sk] using pw⟩, hb3⟩
    simp [F__law_save_order, g__law_save_order, runD_eq, e1, hr, hc, e2, e3]
  · by_cases h2 : r2 < 2
    · refine ⟨base ++ sk k, b2, ?_, ⟨k + 2, by omega, base_perm k⟩, hb2⟩
      simp [F__law_save_order, g__law_save_order, runD_eq, e1, hr, hc, e2, h4, h2]
    · have hm := rem_ok k hk
      by_cases h3 : r2 = 2
      · subst h3
        obtain ⟨ys, b3, e3, p3, hb3⟩ := mixed_ok (xs := (base4 ++ sk k).map .str) hb2 (by simp [base4, sk]; omega)
        obtain ⟨ws, pw, rfl⟩ := perm_strs p3
        refine ⟨ws, b3, ?_, ⟨k + 1, by omega, pw.trans (base_perm' k)⟩, hb3⟩
        simp only [List.map_append] at *
        simp [F__law_save_order, g__law_save_order, runD_eq, e1, hr, hc, e2, eMut_l (ds := (base.map .str ++ (sk k).map .str)), mutK_l (ds := (base.map .str ++ (sk k).map .str)), hm, e3]
      · refine ⟨base4 ++ sk k, b2, ?_, ⟨k + 1, by omega, base_perm' k⟩, hb2⟩
        simp only [List.map_append] at *
        simp [F__law_save_order, g__law_save_order, runD_eq, e1, hr, hc, e2, h4, h2, h3, eMut_l (ds := (base.map .str ++ (sk k).map .str)), mutK_l (ds := (base.map .str ++ (sk k).map .str)), hm]
end W_k81

set_option Elab.async false
set_option linter.all false
set_option maxRecDepth 100000
set_option maxHeartbeats 2000000
namespace W_k81
open PySem VL L2
/-- a value of a row -/
def Vl (d : D) : Prop := ∃ i : Int, d = .int i ∧ i.natAbs < 10 ^ 100
def RowOf (m : Nat) (d : D) : Prop := ∃ r : List D, d = .list r ∧ r.length = m ∧ ∀ v ∈ r, Vl v
/-- rows -/
structure Rws (m : Nat) (rs : List (List D)) : Prop where
  ne : rs ≠ []
  len : rs.length ≤ 12
  m1 : 1 ≤ m
  m8 : m ≤ 8
  each : ∀ r ∈ rs, r.length = m ∧ ∀ v ∈ r, Vl v
def unL : D → List D
  | .list xs => xs
  | _ => []
theorem rows_of {m n : Nat} {ds : List D} (hl : ds.length = n) (hn : 1 ≤ n) (hn2 : n ≤ 12) (h1 : 1 ≤ m) (h2 : m ≤ 8) (h : ∀ d ∈ ds, RowOf m d) : ∃ rs, PyData.list ds = rowsD rs ∧ Rws m rs := by
  refine ⟨ds.map unL, ?_, ⟨?_, by simp; omega, h1, h2, fun r hr => ?_⟩⟩
  · unfold rowsD
    rw [List.map_map]
    congr 1
    have : ∀ d ∈ ds, (PyData.list ∘ unL) d = id d := fun d m => by
      obtain ⟨r, rfl, _⟩ := h d m; rfl
    rw [List.map_congr_left this, List.map_id]
  · intro e
    rw [List.map_eq_nil_iff] at e
    subst e; simp at hl; omega
  · rw [List.mem_map] at hr
    obtain ⟨d, hd, rfl⟩ := hr
    obtain ⟨r, rfl, a, b⟩ := h d hd
    exact ⟨a, b⟩
theorem rows_ok {b : D} (hb : Bag b) : ∃ m rs b', F__law_rows [b, .int 0] = some (rowsD rs, [b', .int 0]) ∧ Rws m rs ∧ Bag b' := by
  obtain ⟨r1, b1, e1, p0, p1, hb1⟩ := take_ok hb (n := 3) (by omega) (by omega)
  obtain ⟨r2, b2, e2, q0, q1, hb2⟩ := take_ok hb1 (n := 4) (by omega) (by omega)
  have inner : ∀ (l : List D) (b x y : D), Bag b → ∃ vs e', lcL (gtName 3) bYes (eBin addD (eVar 1) (eCall F__law_take [.io 0, .v (eC (.int 4))])) l [b, .int 0, .int (1 + r1), x, y] = some (vs, e') ∧ vs.length = l.length ∧ (∀ v ∈ vs, Vl v) ∧ ∃ b' x', e' = [b', .int 0, .int (1 + r1), x', y] ∧ Bag b' := fun l b x y hb =>
    lc_gen (fun e => ∃ b' x', e = [b', .int 0, .int (1 + r1), x', y] ∧ Bag b') Vl (fun d e ⟨b', x', he, hb'⟩ => by
      subst he
      obtain ⟨r, b2, e2, q0, q1, hb2⟩ := take_ok hb' (n := 4) (by omega) (by omega)
      exact ⟨_, _, .int (0 + r), _, rfl, rfl, by simp [e2], ⟨_, rfl, by omega⟩, b2, d, rfl, hb2⟩) l _ ⟨b, x, rfl, hb⟩
  obtain ⟨ds, e', h1, hl, hd, b', x', y', he, hb'⟩ := lc_gen (gt := gtName 4) (tt := bYes) (fe := (lcD [3] (iRg1 (eVar 2)) (gtName 3) bYes (eBin addD (eVar 1) (eCall F__law_take [.io 0, .v (eC (.int 4))])))) (fun e => ∃ b' x' y', e = [b', .int 0, .int (1 + r1), x', y'] ∧ Bag b') (RowOf (1 + r1).toNat) (fun d e ⟨b', x', y', he, hb'⟩ => by
    subst he
    obtain ⟨vs, e', h1, hl, hv, b3, x3, rfl, hb3⟩ := inner (upTo (1 + r1).toNat) b' x' d hb'
    rw [upTo_len] at hl
    have hl2 : vs.length ≤ 1000000 := lc_len (n := 10) (by omega)
    exact ⟨_, _, .list vs, [b3, .int 0, .int (1 + r1), x', d], rfl, rfl, by simp [rgK_i (1 + r1) _ (by omega) (by omega), h1, hl2, restore], ⟨vs, rfl, hl, hv⟩, b3, x', d, rfl, hb3⟩) (upTo (1 + r2).toNat) [b2, .int 0, .int (1 + r1), .none, .none] ⟨b2, .none, .none, rfl, hb2⟩
  rw [upTo_len] at hl
  subst he
  obtain ⟨rs, hrs, R⟩ := rows_of hl (by omega) (by omega) (by omega) (by omega) hd
  have hl2 : ds.length ≤ 1000000 := lc_len (n := 10) (by omega)
  refine ⟨_, rs, b', ?_, R, hb'⟩
  simp only [F__law_rows, g__law_rows, runD_eq]
  simp [e1, e2, rgK_i (1 + r2) _ (by omega) (by omega), h1, hl2, restore, hrs]
end W_k81

set_option Elab.async false
set_option linter.all false
set_option maxRecDepth 100000
set_option maxHeartbeats 2000000
namespace W_k81
open PySem VL L2
/-- an entry of a tape: a write, a sink -/
def Wr (e : D) : Prop := ∃ (b : Int) (v : D), e = .tuple [.str "write", .int b, v] ∧ b.natAbs < 10 ^ 100 ∧ Vl v
def Ent (e : D) : Prop := Wr e ∨ e = tpS
theorem w_8 : (("sink" : Str) == "write") = false := by decide +kernel
theorem writes_ent {f : Int} (hf : 0 ≤ f) (hf2 : f ≤ 20) : ∀ (vs : List D) (k : Nat), (∀ v ∈ vs, Vl v) → k + vs.length ≤ 20 → ∀ e ∈ writesOf f k vs, Ent e
  | [], k, _, _, e, m => by cases m
  | v :: vs, k, hv, hk, e, m => by
    simp only [List.length_cons] at hk
    rcases List.mem_cons.mp m with rfl | m
    · exact .inl ⟨_, _, rfl, by have : (f + (k : Int)).natAbs ≤ 40 := by omega
                                exact Nat.lt_of_le_of_lt this (by decide +kernel), hv v List.mem_cons_self⟩
    · exact writes_ent hf hf2 vs (k + 1) (fun x mx => hv x (List.mem_cons_of_mem _ mx)) (by omega) e m
def AllE (t : List D) : Prop := ∀ e ∈ t, Ent e
theorem step_ent {n : Nat} {row : List D} {p : List D × List D} {w : Str} (hw : Wrd w) (hr : row.length ≤ 8) (hv : ∀ v ∈ row, Vl v) (hn : n ≤ 100) (hp : AllE p.1) : AllE (stepW n row p w).1 := by
  rcases hw with rfl | rfl | rfl | rfl
  · rw [stepW_D]
    intro e m
    rcases List.mem_append.mp m with m | m
    · exact hp e m
    · refine writes_ent ?_ ?_ row 0 hv (by omega) e m
      · unfold firstOf
        have : 0 ≤ (row.length : Int) * ((n : Int) % 2) := Int.mul_nonneg (by omega) (by omega)
        omega
      · unfold firstOf
        have h1 : (n : Int) % 2 = 0 ∨ (n : Int) % 2 = 1 := by omega
        rcases h1 with h1 | h1 <;> rw [h1] <;> omega
  · rw [stepW_M]
    intro e m
    rcases List.mem_append.mp m with m | m
    · exact hp e m
    · rw [List.mem_singleton.mp m]
      have hb : ((n : Int) + 1).natAbs < 10 ^ 100 := by
        have : ((n : Int) + 1).natAbs ≤ 101 := by omega
        exact Nat.lt_of_le_of_lt this (by decide +kernel)
      exact .inl ⟨0, _, rfl, by decide +kernel, _, rfl, hb⟩
  · rw [stepW_S]
    intro e m
    rcases List.mem_append.mp m with m | m
    · exact hp e m
    · rw [List.mem_singleton.mp m]; exact .inr rfl
  · rw [stepW_T]; exact hp
theorem fold_ent {n : Nat} {row : List D} (hr : row.length ≤ 8) (hv : ∀ v ∈ row, Vl v) (hn : n ≤ 100) : ∀ (ws : List Str) (p : List D × List D), (∀ w ∈ ws, Wrd w) → AllE p.1 → AllE (ws.foldl (stepW n row) p).1
  | [], p, _, hp => hp
  | w :: ws, p, hw, hp => fold_ent hr hv hn ws _ (fun v hv => hw v (List.mem_cons_of_mem _ hv)) (step_ent (hw w List.mem_cons_self) hr hv hn hp)
theorem saves_ent {ws : List Str} (hw : ∀ w ∈ ws, Wrd w) : ∀ (rs : List (List D)) (n : Nat) (p : List D × List D), (∀ r ∈ rs, r.length ≤ 8 ∧ ∀ v ∈ r, Vl v) → n + rs.length ≤ 100 → AllE p.1 → AllE (savesL ws n rs p).1
  | [], n, p, _, _, hp => hp
  | r :: rs, n, p, hr, hn, hp => by
    simp only [List.length_cons] at hn
    exact saves_ent hw rs (n + 1) _ (fun x m => hr x (List.mem_cons_of_mem _ m)) (by omega) (fold_ent (hr r List.mem_cons_self).1 (hr r List.mem_cons_self).2 (by omega) ws p hw hp)
theorem Rws.r8 {m : Nat} {rs : List (List D)} (R : Rws m rs) : ∀ r ∈ rs, r.length ≤ 8 := fun r h => by rw [(R.each r h).1]; exact R.m8
theorem tape_ent {ws : List Str} {m : Nat} {rs : List (List D)} (hw : Ord ws) (R : Rws m rs) : AllE (tapeOf ws rs) :=
  saves_ent hw.wrd rs 0 _ (fun r h => ⟨R.r8 r h, (R.each r h).2⟩) (by have := R.len; omega) (fun e m => by cases m)
theorem tape_len {ws : List Str} {m : Nat} {rs : List (List D)} (hw : Ord ws) (R : Rws m rs) : (tapeOf ws rs).length ≤ 672 ∧ (tellsOf ws rs).length ≤ 84 := by
  have h := saves_len hw.wrd rs 0 ([], []) R.r8
  have h1 := hw.len
  have h2 := R.len
  have h3 : 8 * ws.length * rs.length ≤ 8 * 7 * 12 := Nat.mul_le_mul (Nat.mul_le_mul_left _ h1) h2
  have h4 : ws.length * rs.length ≤ 7 * 12 := Nat.mul_le_mul h1 h2
  simp only [List.length_nil] at h
  exact ⟨by unfold tapeOf; omega, by unfold tellsOf; omega⟩
/-! crashes -/
def WrAt (t : List D) (d : D) : Prop := ∃ (j : Nat) (b : Int) (v : D), d = .int j ∧ t[j]? = some (.tuple [.str "write", .int b, v]) ∧ b.natAbs < 10 ^ 100 ∧ Vl v
def Crs (t : List D) (k : Nat) (d : D) : Prop := ∃ xs : List D, d = .tuple xs ∧ xs.length ≤ k ∧ ∀ x ∈ xs, WrAt t x
theorem Crs.intT {t : List D} {k : Nat} {d : D} (h : Crs t k d) : IntT d := by
  obtain ⟨xs, rfl, _, h⟩ := h
  exact ⟨xs, rfl, fun x m => by obtain ⟨j, _, _, rfl, _⟩ := h x m; exact ⟨_, rfl⟩⟩
theorem Crs.mono {t : List D} {k l : Nat} {d : D} (h : Crs t k d) (hk : k ≤ l) : Crs t l d := by
  obtain ⟨xs, rfl, a, b⟩ := h
  exact ⟨xs, rfl, Nat.le_trans a hk, b⟩
theorem Crs.add {t : List D} {k l : Nat} {x y : D} (hx : Crs t k x) (hy : Crs t l y) (hl : k + l ≤ 1000) : ∃ z, addD x y = some z ∧ Crs t (k + l) z := by
  obtain ⟨xs, rfl, a, b⟩ := hx
  obtain ⟨ys, rfl, c, d⟩ := hy
  refine ⟨.tuple (xs ++ ys), ?_, xs ++ ys, rfl, by simp; omega, fun z m => (List.mem_append.mp m).elim (b z) (d z)⟩
  rw [zd_addT, if_pos (Nat.le_trans (by omega : xs.length + ys.length ≤ 1000) (by decide))]
def lotsBody : Sx := (asg 6 (eBin addD (eVar 6) (lcD [8] (iSqA (eVar 6)) (gtName 8) bYes (eBin addD (eVar 8) (eTup [(eVar 7)])))))
theorem lots_ok {t : List D} {T F B R a b y : D} {run : List D} (hr : run.length ≤ 10) (hw : ∀ x ∈ run, WrAt t x) (z : D) : ∃ e', forL (gtName 7) lotsBody run [T, F, B, R, a, b, .list [.tuple []], z, y] = some (.nx e') ∧
    ∃ lots z', e' = [T, F, B, R, a, b, .list lots, z', y] ∧ lots.length ≤ 2 ^ run.length ∧ (∀ l ∈ lots, Crs t run.length l) := by
  have := for_genN (gt := gtName 7) (gb := lotsBody) (fun k e => k ≤ 10 → ∃ lots z', e = [T, F, B, R, a, b, .list lots, z', y] ∧ lots.length ≤ 2 ^ k ∧ (∀ l ∈ lots, Crs t k l)) run 0 [T, F, B, R, a, b, .list [.tuple []], z, y] (fun j d e hd hp => by
    have hj : j < run.length := by
      rcases Nat.lt_or_ge j run.length with h | h
      · exact h
      · rw [List.getElem?_eq_none h] at hd; cases hd
    have hwd : WrAt t d := hw d (List.mem_of_getElem? hd)
    rw [Nat.zero_add] at hp ⊢
    obtain ⟨lots, z', rfl, hl, hc⟩ := hp (by omega)
    have hp2 : 2 ^ j ≤ 2 ^ 10 := Nat.pow_le_pow_right (by decide) (by omega)
    have hl2 : lots.length ≤ 1024 := Nat.le_trans hl hp2
    have hd1 : Crs t 1 (.tuple [d]) := ⟨[d], rfl, by simp, fun x m => by rw [List.mem_singleton.mp m]; exact hwd⟩
    obtain ⟨vs, e', h1, h2, h3, y', rfl⟩ := lc_genT (gt := gtName 8) (tt := bYes) (fe := (eBin addD (eVar 8) (eTup [(eVar 7)]))) (fun e => ∃ y', e = [T, F, B, R, a, b, .list lots, d, y']) (Crs t (j + 1)) (Crs t j) (fun x e hx ⟨y', he⟩ => by
      subst he
      obtain ⟨q, hq, cq⟩ := hx.add hd1 (by omega)
      exact ⟨_, true, _, rfl, rfl, (fun h => by cases h), fun _ => ⟨q, [T, F, B, R, a, b, .list lots, d, x], by simp [hq], cq, x, rfl⟩⟩) lots [T, F, B, R, a, b, .list lots, d, y] hc ⟨y, rfl⟩
    have hv : vs.length ≤ 1000000 := lc_len (n := 1024) (by omega)
    refine ⟨_, [T, F, B, R, a, b, .list (lots ++ vs), d, y], rfl, .inl ?_, fun _ => ⟨lots ++ vs, d, rfl, ?_, ?_⟩⟩
    · have hs : lots.length + vs.length ≤ lim := Nat.le_trans (by omega : lots.length + vs.length ≤ 2048) (by decide)
      simp [lotsBody, h1, hv, restore, hs]
    · simp [Nat.pow_succ]; omega
    · intro l m
      rcases List.mem_append.mp m with m | m
      · exact (hc l m).mono (by omega)
      · exact h3 l m) (fun _ => ⟨[.tuple []], z, rfl, by simp, fun l m => by rw [List.mem_singleton.mp m]; exact ⟨[], rfl, by simp, fun x m => by cases m⟩⟩)
  obtain ⟨e', h1, h2⟩ := this
  rw [Nat.zero_add] at h2
  exact ⟨e', h1, h2 hr⟩
end W_k81

set_option Elab.async false
set_option linter.all false
set_option maxRecDepth 100000
set_option maxHeartbeats 2000000
namespace W_k81
open PySem VL L2
theorem ne_unit (d : D) : neD d (.tuple []) = some (.bool (!PyData.eqv d (.tuple []))) := by
  simp [neD, halfOk, PyData.plain, PyData.plainAll, PyData.depth, PyData.depthAll]
def crBody : Sx := (sq (sIf (asB (eBin eqD (eBin ixA (eVar 5) (eC (.int 0))) (eC (.str "write")))) (sq (sExp (eMut 3 uAppend [(eVar 4)]))
  sCt) sNil)
  (sq (asg 6 (eLst [(eTup [])]))
  (sq (forD (iSqA (eVar 3)) (gtName 7) lotsBody)
  (sq (sExp (eMut 1 uExtend [(lcD [8] (iSqA (eVar 6)) (gtName 8) (asB (eBin neD (eVar 8) (eTup []))) (eBin addD (eVar 2) (eVar 8)))]))
  (asg2 2 3 (eBin addD (eVar 2) (eNs tupD [(eVar 3)])) (eLst []))))))
structure CrI (t : List D) (k : Nat) (found before run : List D) : Prop where
  hd : headE found = true
  fl : found.length ≤ 1 + 1024 * k
  fc : ∀ c ∈ found, Crs t 20 c
  len : before.length + run.length ≤ k
  bw : ∀ x ∈ before, WrAt t x
  rw' : ∀ x ∈ run, WrAt t x
def CrP (t : List D) (k : Nat) (e : List D) : Prop := k ≤ 10 → ∃ found before run x4 x5 x6 x7 x8, e = [.list t, .list found, .tuple before, .list run, x4, x5, x6, x7, x8] ∧ CrI t k found before run
theorem headE_app {xs ys : List D} (h : headE xs = true) : headE (xs ++ ys) = true := by
  match xs, h with
  | .tuple [] :: _, _ => rfl
theorem atI0 (x : D) (xs : List D) : L2.atI (x :: xs) 0 = some x := by simp [L2.atI, L2.ixN]
theorem cr_step {t : List D} {k : Nat} {found before run : List D} {x6 x7 x8 x : D} (hk : k + 1 ≤ 10) (I : CrI t k found before run) (hx : (t[k]? = some x ∧ Ent x) ∨ x = tpS) :
    ∃ e2, (crBody [.list t, .list found, .tuple before, .list run, .int k, x, x6, x7, x8] = some (.nx e2) ∨ crBody [.list t, .list found, .tuple before, .list run, .int k, x, x6, x7, x8] = some (.ct e2)) ∧ CrP t (k + 1) e2 := by
  have hlen := I.len
  have hfl := I.fl
  by_cases hw : Wr x
  · obtain ⟨b, v, rfl, hb, hv⟩ := hw
    have ht : t[k]? = some (.tuple [.str "write", .int b, v]) := by
      rcases hx with ⟨h, _⟩ | h
      · exact h
      · simp [tpS] at h
    have hr : run.length < lim := Nat.lt_of_le_of_lt (by omega : run.length ≤ 10) (by decide)
    refine ⟨[.list t, .list found, .tuple before, .list (run ++ [.int k]), .int k, .tuple [.str "write", .int b, v], x6, x7, x8], .inr ?_, fun _ => ⟨found, before, run ++ [.int k], _, _, _, _, _, rfl, ⟨I.hd, by omega, I.fc, by simp; omega, I.bw, fun y m => ?_⟩⟩⟩
    · simp [crBody, atI0, eMut_l (ds := run), mutK_l (ds := run), hr]
    · rcases List.mem_append.mp m with m | m
      · exact I.rw' y m
      · rw [List.mem_singleton.mp m]; exact ⟨k, b, v, rfl, ht, hb, hv⟩
  · have hS : x = tpS := by
      rcases hx with ⟨_, h | h⟩ | h
      · exact absurd h hw
      · exact h
      · exact h
    subst hS
    obtain ⟨e1, h1, lots, z', rfl, hl, hc⟩ := lots_ok (t := t) (T := .list t) (F := .list found) (B := .tuple before) (R := .list run) (a := .int k) (b := tpS) (y := x8) (by omega : run.length ≤ 10) I.rw' x7
    have hp2 : 2 ^ run.length ≤ 2 ^ 10 := Nat.pow_le_pow_right (by decide) (by omega)
    have hl2 : lots.length ≤ 1024 := Nat.le_trans hl hp2
    have hbc : Crs t before.length (.tuple before) := ⟨before, rfl, Nat.le_refl _, I.bw⟩
    obtain ⟨vs, e', g1, g2, g3, y', rfl⟩ := lc_genT (gt := gtName 8) (tt := asB (eBin neD (eVar 8) (eTup []))) (fe := (eBin addD (eVar 2) (eVar 8))) (fun e => ∃ y', e = [.list t, .list found, .tuple before, .list run, .int k, tpS, .list lots, z', y']) (Crs t 20) (Crs t run.length) (fun d e hd ⟨y', he⟩ => by
      subst he
      obtain ⟨q, hq, cq⟩ := hbc.add hd (by omega)
      refine ⟨_, !PyData.eqv d (.tuple []), [.list t, .list found, .tuple before, .list run, .int k, tpS, .list lots, z', d], rfl, by simp [ne_unit], fun _ => ⟨d, rfl⟩, fun _ => ⟨q, [.list t, .list found, .tuple before, .list run, .int k, tpS, .list lots, z', d], by simp [hq], cq.mono (by omega), d, rfl⟩⟩) lots [.list t, .list found, .tuple before, .list run, .int k, tpS, .list lots, z', x8] hc ⟨x8, rfl⟩
    have hv : vs.length ≤ 1000000 := lc_len (n := 1024) (by omega)
    have hs : found.length + vs.length ≤ lim := Nat.le_trans (by omega : found.length + vs.length ≤ 20000) (by decide)
    have hs2 : before.length + run.length ≤ lim := Nat.le_trans (by omega : before.length + run.length ≤ 10) (by decide)
    refine ⟨[.list t, .list (found ++ vs), .tuple (before ++ run), .list [], .int k, tpS, .list lots, z', x8], .inl ?_, fun _ => ⟨found ++ vs, before ++ run, [], _, _, _, _, _, rfl, ⟨headE_app I.hd, by simp; omega, fun c m => ?_, by simp; omega, fun y m => (List.mem_append.mp m).elim (I.bw y) (I.rw' y), fun y m => by cases m⟩⟩⟩
    · simp [crBody, tpS, atI0, w_8]
      simp only [tpS] at h1 g1
      simp [h1, eMut_l (ds := found), mutK_l (ds := found), g1, hv, restore, hs, hs2]
    · rcases List.mem_append.mp m with m | m
      · exact I.fc c m
      · exact g3 c m
theorem crashes_ok {t : List D} (hl : t.length ≤ 9) (ht : AllE t) : ∃ cs, F__law_crashes [.list t] = some (.list cs, [.list t]) ∧ 0 < cs.length ∧ cs.length ≤ 20000 ∧ ∀ c ∈ cs, Crs t 20 c := by
  have h0 : t.length + 1 ≤ lim := Nat.le_trans (by omega : t.length + 1 ≤ 10) (by decide)
  obtain ⟨e', h1, h2⟩ := for_genN (gt := gtTup 2 (gtCons (gtName 4) (gtCons (gtName 5) gtNil))) (gb := crBody) (CrP t) (enumFrom 0 (t ++ [tpS])) 0 [.list t, .list [.tuple []], .tuple [], .list [], .none, .none, .none, .none, .none] (fun j d e hd hp => by
    obtain ⟨x, hx, rfl⟩ := enum_get hd
    rw [Nat.zero_add] at hp ⊢
    have hj : j < (t ++ [tpS]).length := by
      rcases Nat.lt_or_ge j (t ++ [tpS]).length with h | h
      · exact h
      · rw [List.getElem?_eq_none h] at hx; cases hx
    simp only [List.length_append, List.length_cons, List.length_nil] at hj
    obtain ⟨found, before, run, x4, x5, x6, x7, x8, rfl, I⟩ := hp (by omega)
    have hx' : (t[j]? = some x ∧ Ent x) ∨ x = tpS := by
      rcases Nat.lt_or_ge j t.length with h | h
      · rw [List.getElem?_append_left h] at hx
        exact .inl ⟨hx, ht x (List.mem_of_getElem? hx)⟩
      · rw [List.getElem?_append_right h, show j - t.length = 0 by omega] at hx
        simp at hx
        exact .inr hx.symm
    obtain ⟨e2, g1, g2⟩ := cr_step (x6 := x6) (x7 := x7) (x8 := x8) (by omega) I hx'
    exact ⟨[.list t, .list found, .tuple before, .list run, .int j, x, x6, x7, x8], e2, by simp, g1, g2⟩) (fun _ => ⟨[.tuple []], [], [], _, _, _, _, _, rfl, ⟨rfl, by simp, fun c m => by rw [List.mem_singleton.mp m]; exact ⟨[], rfl, by simp, fun x m => by cases m⟩, by simp, (fun x m => by cases m), fun x m => by cases m⟩⟩)
  rw [enumFrom_len, Nat.zero_add] at h2
  simp only [List.length_append, List.length_cons, List.length_nil] at h2
  obtain ⟨found, before, run, x4, x5, x6, x7, x8, rfl, I⟩ := h2 (by omega)
  have hfl := I.fl
  have hso : okSort found = true := okSort_tups (fun d m => (I.fc d m).intT) I.hd (Nat.le_trans (by omega : found.length ≤ 20000) (by decide))
  have hp := srt_perm found
  refine ⟨srt found, ?_, ?_, ?_, fun c m => I.fc c (hp.mem_iff.mp m)⟩
  · simp only [crBody, lotsBody, tpS] at h1
    simp [F__law_crashes, g__law_crashes, runD_eq, h0, h1, sortedD, hso]
  · rw [hp.length_eq]
    have := I.hd
    cases found with
    | nil => cases this
    | cons => simp
  · rw [hp.length_eq]; omega
end W_k81

set_option Elab.async false
set_option linter.all false
set_option maxRecDepth 100000
set_option maxHeartbeats 2000000
namespace W_k81
open PySem VL L2
/-- a dict from ints to values -/
def DI (ds : List (D × D)) : Prop := ∀ p ∈ ds, (∃ k : Int, p.1 = .int k ∧ k.natAbs < 10 ^ 100) ∧ Vl p.2
theorem DI.get {ds : List (D × D)} (h : DI ds) {k : Key} {v : D} (e : dGet ds k = some v) : Vl v := by
  unfold dGet at e
  cases q : ds.find? (isK k) with
  | none => rw [q] at e; cases e
  | some p =>
    rw [q] at e
    simp at e
    subst e
    exact (h p (List.mem_of_find?_eq_some q)).2
theorem DI.has {ds : List (D × D)} (h : DI ds) {k : Int} (m : PyData.int k ∈ keysOf ds) : ∃ v, dGet ds (.inl k) = some v := by
  unfold keysOf at m
  rw [List.mem_map] at m
  obtain ⟨p, hp, e⟩ := m
  unfold dGet
  have : (ds.find? (isK (.inl k))).isSome = true := by
    rw [List.find?_isSome]
    exact ⟨p, hp, by unfold isK; rw [e]; simp [VL.keyOf]⟩
  obtain ⟨q, hq⟩ := Option.isSome_iff_exists.mp this
  exact ⟨q.2, by rw [hq]; rfl⟩
theorem DI.put {ds : List (D × D)} (h : DI ds) {k : Int} {v : D} (hk : k.natAbs < 10 ^ 100) (hv : Vl v) : DI (dPut ds (.inl k) v) ∧ (dPut ds (.inl k) v).length ≤ ds.length + 1 := by
  unfold dPut
  split
  · refine ⟨fun p m => ?_, by simp⟩
    rw [List.mem_map] at m
    obtain ⟨q, hq, rfl⟩ := m
    split
    · exact ⟨(h q hq).1, hv⟩
    · exact h q hq
  · refine ⟨fun p m => ?_, by simp⟩
    rcases List.mem_append.mp m with m | m
    · exact h p m
    · rw [List.mem_singleton.mp m]; exact ⟨⟨k, rfl, hk⟩, hv⟩
/-- a pair of an int and a value -/
def Pr (d : D) : Prop := ∃ (k : Int) (v : D), d = .tuple [.int k, v] ∧ k.natAbs < 10 ^ 100 ∧ Vl v
theorem pairs_ok : ∀ {xs : List D}, (∀ d ∈ xs, Pr d) → ∃ ps, pairsK xs = some ps ∧ ps.length = xs.length ∧ ∀ p ∈ ps, (∃ k : Int, p.1 = .inl k ∧ k.natAbs < 10 ^ 100) ∧ Vl p.2
  | [], _ => ⟨[], rfl, rfl, fun p m => by cases m⟩
  | d :: ds, h => by
    obtain ⟨k, v, rfl, hk, hv⟩ := h d List.mem_cons_self
    obtain ⟨ps, e, hl, hp⟩ := pairs_ok (xs := ds) fun x m => h x (List.mem_cons_of_mem _ m)
    refine ⟨(.inl k, v) :: ps, by simp [pairsK, pairK, VL.keyOf, e], by simp [hl], fun p m => ?_⟩
    rcases List.mem_cons.mp m with rfl | m
    · exact ⟨⟨k, rfl, hk⟩, hv⟩
    · exact hp p m
theorem merge_ok : ∀ {ps : List (Key × D)} {ds : List (D × D)}, DI ds → (∀ p ∈ ps, (∃ k : Int, p.1 = .inl k ∧ k.natAbs < 10 ^ 100) ∧ Vl p.2) → DI (mergeD ds ps) ∧ (mergeD ds ps).length ≤ ds.length + ps.length
  | [], ds, h, _ => ⟨h, by simp [mergeD]⟩
  | p :: ps, ds, h, hp => by
    obtain ⟨⟨k, hk, hk2⟩, hv⟩ := hp p List.mem_cons_self
    have h1 := h.put (k := k) hk2 hv
    have h2 := merge_ok (ps := ps) h1.1 fun q m => hp q (List.mem_cons_of_mem _ m)
    have e : mergeD ds (p :: ps) = mergeD (dPut ds (.inl k) p.2) ps := by unfold mergeD; rw [List.foldl_cons, hk]
    rw [e]
    exact ⟨h2.1, by simp; omega⟩
theorem dict_ok {xs : List D} (h : ∀ d ∈ xs, Pr d) : ∃ ds, dictD [.list xs] = some (.dict ds) ∧ DI ds ∧ ds.length ≤ xs.length := by
  obtain ⟨ps, e, hl, hp⟩ := pairs_ok h
  have := merge_ok (ds := []) (fun p m => by cases m) hp
  exact ⟨mergeD [] ps, by simp [dictD, e], this.1, by have := this.2; simp at this; omega⟩
theorem DI.pairs {ds : List (D × D)} (h : DI ds) : ∀ d ∈ pairsOf ds, Pr d := fun d m => by
  unfold pairsOf at m
  rw [List.mem_map] at m
  obtain ⟨p, hp, rfl⟩ := m
  obtain ⟨⟨k, e, hk⟩, hv⟩ := h p hp
  exact ⟨k, p.2, by rw [e], hk, hv⟩
theorem sort_pairs {xs : List D} (h : ∀ d ∈ xs, Pr d) (hl : xs.length ≤ 1000) : okSort xs = true := by
  have h1 : (xs.all fun d => xs.all fun e => PySem.W.alike d e) = true := by
    rw [List.all_eq_true]; intro d md
    rw [List.all_eq_true]; intro e me
    obtain ⟨k, v, rfl, _, i, rfl, _⟩ := h d md
    obtain ⟨k2, v2, rfl, _, i2, rfl, _⟩ := h e me
    simp [PySem.W.alike, PySem.W.alikeAll]
  have h2 : xs.all tupNB = true := by
    rw [List.all_eq_true]; intro d md
    obtain ⟨k, v, rfl, _⟩ := h d md; rfl
  have h3 : (xs.all fun d => decide (d.depth ≤ 64)) = true := by
    rw [List.all_eq_true]; intro d md
    obtain ⟨k, v, rfl, _, i, rfl, _⟩ := h d md
    simp [PyData.depth, PyData.depthAll]
  have h4 : xs.length ≤ lim := Nat.le_trans hl (by decide)
  unfold okSort
  simp [h1, h2, h3, h4]
theorem items_ok {ds : List (D × D)} (h : DI ds) (hl : ds.length ≤ 1000) : ∃ xs, sortItemsD (.dict ds) = some (.list xs) ∧ (∀ d ∈ xs, Pr d) ∧ xs.length = ds.length := by
  have hp : (srt (pairsOf ds)).Perm (pairsOf ds) := srt_perm _
  have hs := sort_pairs h.pairs (by simpa [pairsOf] using hl)
  refine ⟨srt (pairsOf ds), by simp [sortItemsD, hs], fun d m => h.pairs d (hp.mem_iff.mp m), by rw [hp.length_eq]; simp [pairsOf]⟩
theorem left_ok {t xs : List D} (hl : xs.length ≤ 20) (hx : ∀ x ∈ xs, WrAt t x) : ∃ ds, F__law_left [.list t, .tuple xs] = some (.dict ds, [.list t, .tuple xs]) ∧ DI ds ∧ ds.length ≤ 20 := by
  obtain ⟨vs, e', h1, h2, h3, x', rfl⟩ := lc_genT (gt := gtName 3) (tt := bYes) (fe := (eTup [(eBin ixA (eBin ixA (eVar 0) (eVar 3)) (eC (.int 1))), (eBin ixA (eBin ixA (eVar 0) (eVar 3)) (eC (.int 2)))])) (fun e => ∃ x', e = [.list t, .tuple xs, .none, x']) Pr (WrAt t) (fun d e hd ⟨x', he⟩ => by
    subst he
    obtain ⟨j, b, v, rfl, ht, hb, hv⟩ := hd
    have hj : j < t.length := (List.getElem?_eq_some_iff.mp ht).1
    have hj' : (j : Int) < t.length := by omega
    refine ⟨_, true, [.list t, .tuple xs, .none, .int j], rfl, rfl, (fun h => by cases h), fun _ => ⟨.tuple [.int b, v], [.list t, .tuple xs, .none, .int j], ?_, ⟨b, v, rfl, hb, hv⟩, _, rfl⟩⟩
    simp [L2.atI, L2.ixN, hj', ht]) xs [.list t, .tuple xs, .none, .none] hx ⟨.none, rfl⟩
  obtain ⟨ds, e1, hd, hdl⟩ := dict_ok h3
  obtain ⟨ys, e2, hy, hyl⟩ := items_ok hd (by omega)
  obtain ⟨ds2, e3, hd2, hdl2⟩ := dict_ok hy
  have hv : vs.length ≤ 1000000 := lc_len (n := 20) (by omega)
  refine ⟨ds2, ?_, hd2, by omega⟩
  simp [F__law_left, g__law_left, runD_eq, h1, hv, restore, e1, e2, e3]
theorem show_kv : ∀ {ds : List (D × D)}, DI ds → PyData.showableKv ds = true ∧ PyData.leavesShortKv 101 ds = true ∧ PyData.depthKv ds = 0 ∧ PyData.bulkKv ds = 2 * ds.length ∧ hasLKv ds = false
  | [], _ => ⟨rfl, rfl, rfl, rfl, rfl⟩
  | p :: ds, h => by
    obtain ⟨⟨k, e, hk⟩, i, ei, hi⟩ := h p List.mem_cons_self
    obtain ⟨a, b⟩ := p
    simp only at e ei
    subst e ei
    obtain ⟨q1, q2, q3, q4, q5⟩ := show_kv (ds := ds) fun x m => h x (List.mem_cons_of_mem _ m)
    have s1 := okS_all (bd_int hk).ok
    have s2 := okS_all (bd_int hi).ok
    refine ⟨by simp [PyData.showableKv, s1.2.1, s2.2.1, q1], by simp [PyData.leavesShortKv, s1.2.2, s2.2.2, q2], by simp [PyData.depthKv, PyData.depth, q3], by simp [PyData.bulkKv, PyData.bulk, q4]; omega, by simp [hasLKv, hasL, q5]⟩
theorem repr_DI {ds : List (D × D)} (h : DI ds) (hl : ds.length ≤ 100) : reprD [.dict ds] = some (.str (PyData.shown (.dict ds))) := by
  obtain ⟨q1, q2, q3, q4, q5⟩ := show_kv h
  have q := PyData.shown_le_bulk 101 (by decide) (.dict ds) (by simpa [PyData.leavesShort] using q2)
  have hb : PyData.bulk (.dict ds) ≤ 200 := by simp only [PyData.bulk]; omega
  have hs : (PyData.shown (.dict ds)).length ≤ lim := Nat.le_trans q (Nat.le_trans (Nat.add_le_add_right (Nat.mul_le_mul_left _ hb) _) (by decide))
  have h1 : (PyData.dict ds).showable = true := by simpa [PyData.showable] using q1
  have h2 : (PyData.dict ds).depth ≤ 64 := by simp [PyData.depth, q3]
  have h3 : hasL (.dict ds) = false := by simpa [hasL] using q5
  unfold reprD
  simp only [h1, h2, hs, h3, decide_true, Bool.not_false, Bool.or_true, Bool.and_self, if_true]
theorem rest_ok {ds : List (D × D)} {m : Nat} (h : DI ds) (hm : m ≤ 8) : ∃ d, F_restored [.dict ds, .int m] = some (d, [.dict ds, .int m]) ∧ F__law_restored [.dict ds, .int m] = some (d, [.dict ds, .int m]) ∧ Sm d := by
  have key : dGet ds (.inl 0) = none ∨ ∃ v, dGet ds (.inl 0) = some (.int v) := by
    cases q : dGet ds (.inl 0) with
    | none => exact .inl rfl
    | some v => obtain ⟨i, rfl, _⟩ := h.get q; exact .inr ⟨i, rfl⟩
  have same := restored_same (m := (m : Int)) key
  rcases key with key | ⟨v, key⟩
  · refine ⟨.none, ?_, ?_, bd_non.sm (by omega) (by omega)⟩
    · simp [F_restored, g_restored, runD_eq, key]
    · rw [← same]; simp [F_restored, g_restored, runD_eq, key]
  · have h4 := mul_small (i := (m : Int)) (j := (v - 1) % 2) (by omega) (by omega)
    obtain ⟨vs, e', h1, h2, h3, x', rfl⟩ := lc_genT (gt := gtName 3) (tt := bYes) (fe := (eTri getD2 (eVar 0) (eBin addD (eVar 2) (eVar 3)) (eC (.int 0)))) (fun e => ∃ x', e = [.dict ds, .int m, .int (1 + (m : Int) * ((v - 1) % 2)), x']) Vl (fun d => ∃ k, d = .int k) (fun d e hd ⟨x', he⟩ => by
      subst he
      obtain ⟨k, rfl⟩ := hd
      refine ⟨_, true, [.dict ds, .int m, .int (1 + (m : Int) * ((v - 1) % 2)), .int k], rfl, rfl, (fun h => by cases h), fun _ => ⟨_, [.dict ds, .int m, .int (1 + (m : Int) * ((v - 1) % 2)), .int k], by simp; rfl, ?_, _, rfl⟩⟩
      cases q : dGet ds (.inl (1 + (m : Int) * ((v - 1) % 2) + k)) with
      | none => exact ⟨0, rfl, by decide +kernel⟩
      | some u => exact h.get q) (upTo m) [.dict ds, .int m, .int (1 + (m : Int) * ((v - 1) % 2)), .none] (fun d md => by unfold VL.upTo at md; rw [List.mem_map] at md; obtain ⟨k, _, rfl⟩ := md; exact ⟨_, rfl⟩) ⟨.none, rfl⟩
    rw [upTo_len] at h2
    have hv : vs.length ≤ 1000000 := lc_len (n := 20) (by omega)
    have fin : F_restored [.dict ds, .int m] = some (.list vs, [.dict ds, .int m]) := by
      simp [F_restored, g_restored, runD_eq, key, h4, rgK_i (m : Int) _ (by omega) (by omega), h1, hv, restore]
    refine ⟨.list vs, fin, by rw [← same]; exact fin, (bd_list (a := 0) (b := 0) (n := 8) (fun d m => ?_) (by omega)).sm (by omega) (by omega)⟩
    obtain ⟨i, rfl, hi⟩ := h3 d m
    exact bd_int hi
end W_k81

set_option Elab.async false
set_option linter.all false
set_option maxRecDepth 100000
set_option maxHeartbeats 2000000
namespace W_k81
open PySem VL L2
/-! isinstance -/
def isS : D → Bool
  | .str _ => true
  | _ => false
def isT : D → Bool
  | .tuple _ => true
  | _ => false
theorem isi_s (d : D) : isiD "str" d = some (.bool (isS d)) := by
  cases d <;> first | (show (kitB _ "str").map _ = _; kernel_rfl) | kernel_rfl
theorem isi_t (d : D) : isiD "tuple" d = some (.bool (isT d)) := by
  cases d <;> first | (show (kitB _ "tuple").map _ = _; kernel_rfl) | kernel_rfl
def isW : D → Bool
  | .str w => w == "data" || w == "mark" || w == "tell" || w == "sink"
  | _ => false
def cs4 : List D := [.str "data", .str "mark", .str "tell", .str "sink"]
theorem any_W (d : D) : (cs4.any fun y => PyData.eqv y d) = isW d := by
  cases d with
  | str w =>
    simp only [cs4, List.any_cons, List.any_nil, PyData.eqv, isW, Bool.or_false]
    rw [BEq.comm (a := ("data" : Str)), BEq.comm (a := ("mark" : Str)), BEq.comm (a := ("tell" : Str)), BEq.comm (a := ("sink" : Str))]
    simp only [Bool.or_assoc]
  | _ => simp [cs4, PyData.eqv, isW]
theorem half_W (d : D) : halfIn d cs4 = true := by
  have h1 : PyData.plainAll cs4 = true := rfl
  have h2 : PyData.depthAll cs4 = 0 := rfl
  unfold halfIn
  simp [h1, h2]
theorem in_W (d : D) : inA d (.tuple cs4) = some (.bool (isW d)) := by
  rw [inA_tup, half_W, if_pos rfl, any_W]
theorem notIn_W (d : D) : notInA d (.tuple cs4) = some (.bool (!isW d)) := by
  rw [notInA_tup, half_W, if_pos rfl, any_W]
theorem isW_S {d : D} (h : isS d = false) : isW d = false := by cases d <;> simp_all [isS, isW]
theorem words4 (env : List D) : eTupB (lStar (eC (.tuple [.str "data", .str "mark", .str "tell"])) (lCons (eC (.str "sink")) lNil)) env = some (.tuple cs4, env) := by
  have h : (4 : Nat) ≤ lim := by decide
  simp [eTupB, lStar, lCons, lNil, cs4, h]
theorem ord_l1 (T : D) : ∀ (xs : List D) (s : D), ∃ s', lcL (gtName 1) bYes (eAnd (eUn (isiD "str") (eVar 1)) (eBin inA (eVar 1) (eTupB (lStar (eC (.tuple [.str "data", .str "mark", .str "tell"])) (lCons (eC (.str "sink")) lNil))))) xs [T, s] = some (xs.map fun d => .bool (isW d), [T, s'])
  | [], s => ⟨s, rfl⟩
  | x :: xs, s => by
    obtain ⟨s', e⟩ := ord_l1 T xs x
    refine ⟨s', ?_⟩
    rw [lcL_cons]
    cases q : isS x with
    | false => simp [isi_s, q, isW_S q, e]
    | true => simp [isi_s, q, words4, in_W, e]
theorem ord_l2 (T : D) : ∀ (xs : List D) (s : D), ∃ s', lcL (gtName 1) (asB (eBin notInA (eVar 1) (eTup [(eC (.str "data")), (eC (.str "mark")), (eC (.str "tell")), (eC (.str "sink"))]))) (eVar 1) xs [T, s] = some (xs.filter fun d => !isW d, [T, s'])
  | [], s => ⟨s, rfl⟩
  | x :: xs, s => by
    obtain ⟨s', e⟩ := ord_l2 T xs x
    refine ⟨s', ?_⟩
    have hn := notIn_W x
    simp only [cs4] at hn
    rw [lcL_cons]
    cases q : isW x with
    | false => simp [hn, q, e]
    | true => simp [hn, q, e]
theorem bools_map (f : D → Bool) : ∀ xs : List D, bools (xs.map fun d => .bool (f d)) = some (xs.map f)
  | [] => rfl
  | x :: xs => by simp [bools, bools_map f xs]
theorem allW (xs : List D) : allD [.list (xs.map fun d => .bool (isW d))] = some (.bool (xs.all isW)) := by
  simp [allD, bools_map, List.all_map]
theorem ne_nil (xs : List D) : neD (.list xs) (.list []) = some (.bool (!xs.isEmpty)) := by
  have : PyData.eqv (.list xs) (.list []) = xs.isEmpty := by cases xs <;> simp [PyData.eqv, PyData.eqvAll]
  simp [neD, halfOk, PyData.plain, PyData.plainAll, PyData.depth, PyData.depthAll, this]
theorem filt_all (xs : List D) : (xs.filter fun d => !isW d).isEmpty = xs.all isW := by
  induction xs with
  | nil => rfl
  | cons x xs ih => cases q : isW x <;> simp_all
theorem plain_W : ∀ {xs : List D}, xs.all isW = true → PyData.plainAll xs = true
  | [], _ => rfl
  | x :: xs, h => by
    simp only [List.all_cons, Bool.and_eq_true] at h
    have : x.plain = true := by cases x <;> simp_all [isW, PyData.plain]
    simp [PyData.plainAll, this, plain_W h.2]
def cnt (xs : List D) (w : Str) : Nat := xs.countP fun y => PyData.eqv y (.str w)
theorem count_ok {xs : List D} (h : PyData.plainAll xs = true) (w : Str) : countT (.tuple xs) (.str w) = some (.int (cnt xs w)) := by
  simp [countT, okFind, h, PyData.plain, PyData.depth, cnt]
theorem all3 (p q r : Bool) : allD [.list [.bool p, .bool q, .bool r]] = some (.bool (p && (q && r))) := by simp [allD, bools]
theorem eq3 (a b c : Int) : eqD (.list [.int a, .int b, .int c]) (.list [.int 1, .int 1, .int 1]) = some (.bool ((a == 1) && ((b == 1) && (c == 1)))) := by
  simp [eqD, halfOk, PyData.plain, PyData.plainAll, PyData.depth, PyData.depthAll, PyData.eqv, PyData.eqvAll]
theorem rep3 : repD (.list [.int 1]) (.int 3) = some (.list [.int 1, .int 1, .int 1]) := rep_one (x := .int 1) (k := 3) (by omega)
def isOrd3 (xs : List D) : Bool := ((cnt xs "data" : Int) == 1) && (((cnt xs "mark" : Int) == 1) && ((cnt xs "tell" : Int) == 1))
def isOrd (xs : List D) : Bool := isOrd3 xs && decide ((cnt xs "sink" : Int) ≤ 4)
theorem is_ord {d : D} (hl : ∀ xs, d = .tuple xs → xs.length ≤ 100) : ∃ t, F_is_save_order [d] = some (.bool t, [d]) ∧ F__law_is_order [d] = some (.bool t, [d]) := by
  cases q : isT d with
  | false =>
    refine ⟨false, ?_, ?_⟩
    · simp [F_is_save_order, g_is_save_order, runD_eq, isi_t, q]
    · simp [F__law_is_order, g__law_is_order, runD_eq, isi_t, q]
  | true =>
    have ⟨xs, e⟩ : ∃ xs, d = .tuple xs := by cases d <;> simp_all [isT]
    subst e
    have hx := hl xs rfl
    obtain ⟨s1, e1⟩ := ord_l1 (.tuple xs) xs .none
    obtain ⟨s2, e2⟩ := ord_l2 (.tuple xs) xs .none
    have h1 : xs.length ≤ 1000000 := lc_len hx
    have h2 : (xs.filter fun d => !isW d).length ≤ 1000000 := Nat.le_trans (List.length_filter_le _ _) h1
    cases w : xs.all isW with
    | false =>
      refine ⟨false, ?_, ?_⟩
      · simp [F_is_save_order, g_is_save_order, runD_eq, isi_t, q, e1, h1, restore, allW, w]
      · simp [F__law_is_order, g__law_is_order, runD_eq, isi_t, q, e2, h2, restore, ne_nil, filt_all, w]
    | true =>
      have hp := plain_W w
      refine ⟨isOrd xs, ?_, ?_⟩
      · have h3 := all3 ((cnt xs "data" : Int) == 1) ((cnt xs "mark" : Int) == 1) ((cnt xs "tell" : Int) == 1)
        simp only [F_is_save_order, g_is_save_order, runD_eq]
        cases r : isOrd3 xs with
        | false => unfold isOrd3 at r; rw [r] at h3; simp [isi_t, q, e1, h1, restore, allW, w, lcL_cons, count_ok hp, h3, isOrd, isOrd3, r]
        | true => unfold isOrd3 at r; rw [r] at h3; simp [isi_t, q, e1, h1, restore, allW, w, lcL_cons, count_ok hp, h3, isOrd, isOrd3, r]
      · have h3 := eq3 (cnt xs "data" : Int) (cnt xs "mark" : Int) (cnt xs "tell" : Int)
        have h5 : decide ((cnt xs "sink" : Int) < 5) = decide ((cnt xs "sink" : Int) ≤ 4) := by
          rw [decide_eq_decide]; omega
        simp only [F__law_is_order, g__law_is_order, runD_eq]
        cases r : isOrd3 xs with
        | false => unfold isOrd3 at r; rw [r] at h3; simp [isi_t, q, e2, h2, restore, ne_nil, filt_all, w, lcL_cons, count_ok hp, rep3, h3, isOrd, isOrd3, r]
        | true => unfold isOrd3 at r; rw [r] at h3; simp [isi_t, q, e2, h2, restore, ne_nil, filt_all, w, lcL_cons, count_ok hp, rep3, h3, isOrd, isOrd3, r, h5]
end W_k81

set_option Elab.async false
set_option linter.all false
set_option maxRecDepth 100000
set_option maxHeartbeats 2000000
namespace W_k81
open PySem VL L2
theorem plain_strs : ∀ ws : List Str, PyData.plainAll (ws.map .str) = true
  | [] => rfl
  | w :: ws => by simp [PyData.plainAll, PyData.plain, plain_strs ws]
theorem index_ok {ws : List Str} {w : Str} (h : w ∈ ws) : ∃ i : Int, indexT (.tuple (ws.map .str)) (.str w) = some (.int i) := by
  have : ((ws.map PyData.str).findIdx? fun y => PyData.eqv y (.str w)).isSome = true := by
    rw [List.findIdx?_isSome, List.any_eq_true]
    exact ⟨.str w, List.mem_map_of_mem h, by simp [PyData.eqv]⟩
  obtain ⟨j, hj⟩ := Option.isSome_iff_exists.mp this
  refine ⟨j, ?_⟩
  simp [indexT, okFind, plain_strs, PyData.plain, PyData.depth, PySem.SeqAt.dataPlace, hj]
theorem in_str (w : Str) (xs : List D) : ∃ p, inA (.str w) (.tuple xs) = some (.bool p) := by
  have : halfIn (.str w) xs = true := by simp [halfIn, PyData.plain, PyData.depth]
  exact ⟨_, by rw [inA_tup, this, if_pos rfl]⟩
theorem sure_ok {ws : List Str} (h : Ord ws) : ∃ t, F_is_sure_order [.tuple (ws.map .str)] = some (.bool t, [.tuple (ws.map .str)]) ∧ F__law_is_sure [.tuple (ws.map .str)] = some (.bool t, [.tuple (ws.map .str)]) := by
  have mem : ∀ w ∈ ord3, w ∈ ws := fun w m => by
    obtain ⟨k, _, p⟩ := h
    exact p.mem_iff.mpr (List.mem_append_left _ m)
  obtain ⟨i, hi⟩ := index_ok (mem "data" (by simp [ord3]))
  obtain ⟨j, hj⟩ := index_ok (mem "mark" (by simp [ord3]))
  obtain ⟨k, hk⟩ := index_ok (mem "tell" (by simp [ord3]))
  obtain ⟨p, hp⟩ := in_str "sink" (cutD (ws.map .str) (some i) (some j))
  obtain ⟨q, hq⟩ := in_str "sink" (cutD (ws.map .str) (some j) (some k))
  exact ⟨_, sure_same (by simp; exact Nat.le_trans h.len (by decide)) hi hj hk hp hq⟩
/-- no long tuple -/
def okL : D → Bool
  | .tuple xs => decide (xs.length ≤ 100)
  | _ => true
theorem okL_tup {d : D} (h : okL d = true) : ∀ xs, d = .tuple xs → xs.length ≤ 100 := fun xs e => by subst e; simpa [okL] using h
theorem cut_len (xs : List D) (a b : Option Int) : (cutD xs a b).length ≤ xs.length := by
  unfold cutD
  rw [List.length_take, List.length_drop]
  omega
def ten39 : Int := 10 ^ 39
theorem pow39 : powD (.int 10) (.int 39) = some (.int ten39) := by kernel_rfl
theorem odd_ok {b : D} (hb : Bag b) : ∃ d b', F__law_odd [b] = some (d, [b']) ∧ okL d = true ∧ Bag b' := by
  let l1 : List D := [.none, .bool true, .bool false, .int 0, .int 1, .int (-1),   .int ten39, .str "", .str "a", .list [], .tuple [], .dict [], .list [.int 0], .tuple [.int 0], .tuple [.bool true], .tuple [.int (-1)], .tuple [.str "data"], .list [.str "data"], .tuple [.tuple []]]
  let l2 : List D := [.tuple [.list [.int 0]], .tuple [.dict []], .tuple [.list [.str "data"], .str "mark", .str "tell"], .tuple [.str "data", .str "mark"], .tuple [.str "data", .str "mark", .str "tell", .str "tell"], .tuple [.str "sink"], .dict [(.str "data", .int 0)], .tuple [.none], .list [.tuple []], .tuple [.int 0, .int 0], .tuple [.int 1, .int 0], .str "sink"]
  let l3 : List D := [.tuple [.str "data", .str "mark", .str "tell", .str "sink", .str "sink", .str "sink", .str "sink", .str "sink"], .tuple [.str "data", .str "mark", .str "tell", .str "heed"]]
  obtain ⟨d, b', hd, e, hb'⟩ := one_ok (xs := l1 ++ l2 ++ l3) hb (by simp [l1]) (by simp [l1, l2, l3])
  have hall : (l1 ++ l2 ++ l3).all okL = true := by kernel_rfl
  refine ⟨d, b', ?_, List.all_eq_true.mp hall d hd, hb'⟩
  have h1 : (31 : Nat) ≤ lim := by decide
  have h2 : (33 : Nat) ≤ lim := by decide
  simp only [l1, l2, l3, List.cons_append, List.nil_append] at e
  simp [F__law_odd, g__law_odd, runD_eq, pow39, h1, h2, e]
theorem otherwise_ok {b : D} {ws : List Str} (hb : Bag b) (ho : Ord ws) : ∃ d b', F__law_order_otherwise [b, .tuple (ws.map .str)] = some (d, [b', .tuple (ws.map .str)]) ∧ okL d = true ∧ Bag b' := by
  have hl := ho.len
  have hl3 := ho.len3
  obtain ⟨r1, b1, e1, p0, p1, hb1⟩ := take_ok hb (n := 5) (by omega) (by omega)
  obtain ⟨r2, b2, e2, q0, q1, hb2⟩ := take_ok hb1 (n := (ws.length : Int)) (by omega) (by omega)
  obtain ⟨x, b3, hx, e3, hb3⟩ := one_ok (xs := [.str "data", .str "mark", .str "tell", .str "sink", .str "sinks", .int 0, .none]) hb2 (by simp) (by simp)
  have s0 : ws.length ≤ lim := Nat.le_trans hl (by decide)
  have cl : ∀ a c, (cutD (ws.map PyData.str) a c).length ≤ 7 := fun a c => Nat.le_trans (cut_len _ _ _) (by simpa using hl)
  have a1 : (cutD (ws.map PyData.str) none (some r2)).length + (cutD (ws.map PyData.str) (some (r2 + 1)) none).length ≤ lim := Nat.le_trans (Nat.add_le_add (cl _ _) (cl _ _)) (by decide)
  have a2 : (cutD (ws.map PyData.str) none (some r2)).length + 1 ≤ lim := Nat.le_trans (Nat.add_le_add_right (cl _ _) 1) (by decide)
  have a3 : (cutD (ws.map PyData.str) none (some r2)).length + 1 + (cutD (ws.map PyData.str) (some r2) none).length ≤ lim := Nat.le_trans (Nat.add_le_add (Nat.add_le_add_right (cl _ _) 1) (cl _ _)) (by decide)
  have a4 : (cutD (ws.map PyData.str) none (some r2)).length + 1 + (cutD (ws.map PyData.str) (some (r2 + 1)) none).length ≤ lim := Nat.le_trans (Nat.add_le_add (Nat.add_le_add_right (cl _ _) 1) (cl _ _)) (by decide)
  have c1 := cl none (some r2)
  have c2 := cl (some (r2 + 1)) none
  have c3 := cl (some r2) none
  by_cases h4 : r1 < 4
  · have : r1 = 0 ∨ r1 = 1 ∨ r1 = 2 ∨ r1 = 3 := by omega
    simp only [F__law_order_otherwise, g__law_order_otherwise, runD_eq]
    rcases this with rfl | rfl | rfl | rfl
    · exact ⟨_, b3, by simp [e1, e2, e3, slcD, s0, a1, a2, a3, a4, L2.atI, L2.ixN]; rfl, by simp [okL]; omega, hb3⟩
    · exact ⟨_, b3, by simp [e1, e2, e3, slcD, s0, a1, a2, a3, a4, L2.atI, L2.ixN]; rfl, by simp [okL]; omega, hb3⟩
    · exact ⟨_, b3, by simp [e1, e2, e3, slcD, s0, a1, a2, a3, a4, L2.atI, L2.ixN]; rfl, by simp [okL]; omega, hb3⟩
    · exact ⟨_, b3, by simp [e1, e2, e3, slcD, s0, a1, a2, a3, a4, L2.atI, L2.ixN]; rfl, by simp [okL], hb3⟩
  · obtain ⟨d, b4, e4, hd, hb4⟩ := odd_ok hb3
    exact ⟨d, b4, by simp [F__law_order_otherwise, g__law_order_otherwise, runD_eq, e1, e2, e3, slcD, s0, a1, a2, a3, a4, h4, e4], hd, hb4⟩
end W_k81

set_option Elab.async false
set_option linter.all false
set_option maxRecDepth 100000
set_option maxHeartbeats 2000000
namespace W_k81
open PySem VL L2
def t1 : Sx := (asg2 3 4 (eCall F__law_save_order [.io 1]) (eCall F__law_rows [.io 1, .v (eC (.int 0))]))
def t2 : Sx := (sIf (asB (eBin eqD (eCall F__law_take [.io 1, .v (eC (.int 4))]) (eC (.int 0)))) (sq (asg 11 (eBin addD (eC (.int 1)) (eCall F__law_take [.io 1, .v (eC (.int 8))])))
  (asg 4 (lcD [16] (iRg1 (eBin addD (eC (.int 1)) (eCall F__law_take [.io 1, .v (eC (.int 12))]))) (gtName 16) bYes (lcD [15] (iRg1 (eVar 11)) (gtName 15) bYes (eCall F__law_one [.io 1, .v (eLst [(eC (.int 0)), (eC (.int 1)), (eC (.int 2)), (eC (.int 3)), (eBin powD (eC (.int 10)) (eC (.int 39)))])]))))) sNil)
def t3 : Sx := (asgG (eCall F__law_saved [.v (eVar 3), .v (eVar 4)]) (gtTup 2 (gtCons (gtName 5) (gtCons (gtName 6) gtNil))))
def t4 : Sx := (asg 7 (eNs reprD [(eLst [(eVar 3), (eVar 4)])]))
def t5b : Sx := (sq (asg 14 (eLst [(eCall F_save_tape [.v (eVar 3), .v (eVar 4)]), (eCall F_tells_at [.v (eVar 3), .v (eVar 4)])]))
  (sq (sIf (bBor (bOr (bNot (asB (eCall F__law_alike [.v (eVar 14), .v (eLst [(eVar 5), (eVar 6)])]))) (asB (eBin neD (eNs reprD [(eLst [(eVar 3), (eVar 4)])]) (eVar 7))))) (retE (eC (.bool false))) sNil)
  (sq (sExp (eAppIx 14 (eC (.int 0)) (eC .none)))
  (sExp (eAppIx 14 (eC (.int 1)) (eC .none))))))
def t5 : Sx := (forD (iRg1 (eC (.int 2))) (gtName 8) t5b)
def t6 : Sx := (sIf (bNot (asB (eCall F__law_alike [.v (eCall F_is_sure_order [.v (eVar 3)]), .v (eCall F__law_is_sure [.v (eVar 3)])]))) (retE (eC (.bool false))) sNil)
def t7 : Sx := (asg 9 (eIf (asB (eBin eqD (eCall F__law_take [.io 1, .v (eC (.int 3))]) (eC (.int 0)))) (eVar 3) (eCall F__law_order_otherwise [.io 1, .v (eVar 3)])))
def t8 : Sx := (sIf (bNot (asB (eCall F__law_alike [.v (eCall F_is_save_order [.v (eVar 9)]), .v (eCall F__law_is_order [.v (eVar 9)])]))) (retE (eC (.bool false))) sNil)
def t9 : Sx := (asg2 10 11 (eCall F__law_left [.v (eVar 5), .v (eCall F__law_one [.io 1, .v (eCall F__law_crashes [.v (eSl slcD (eVar 5) pNo (pIs (eC (.int 9))))])])]) (eNs lenD [(eBin ixA (eVar 4) (eC (.int 0)))]))
def t10 : Sx := (asg 10 (eFrz (eNs dictD [(lcD [17] (iSqA (eVar 10)) (gtName 17) (asB (eBin gtD (eCall F__law_take [.io 1, .v (eC (.int 5))]) (eC (.int 0)))) (eTup [(eVar 17), (eBin ixA (eVar 10) (eVar 17))]))])))
def t11 : Sx := (asg2 12 13 (eNs reprD [(eVar 10)]) (eCall F__law_restored [.v (eVar 10), .v (eVar 11)]))
def t12 : Sx := (sIf (bOr (bNot (asB (eCall F__law_alike [.v (eCall F_restored [.v (eVar 10), .v (eVar 11)]), .v (eVar 13)]))) (asB (eBin neD (eNs reprD [(eVar 10)]) (eVar 12)))) (retE (eC (.bool false))) sNil)
def lawBody : Sx := sq t1 (sq t2 (sq t3 (sq t4 (sq t5 (sq t6 (sq t7 (sq t8 (sq t9 (sq t10 (sq t11 t12))))))))))
theorem g_law_eq : g_law = sq (forD (iRg1 (eC (.int 4))) (gtName 2) lawBody) (retE (eC (.bool true))) := rfl
section
variable {b x2 x3 x4 x5 x6 x7 x8 x9 x10 x11 x12 x13 x14 x15 x16 x17 : D}
theorem s1_ok (hb : Bag b) : ∃ ws m rs b', t1 [.none, b, x2, x3, x4, x5, x6, x7, x8, x9, x10, x11, x12, x13, x14, x15, x16, x17] = some (.nx [.none, b', x2, .tuple (ws.map .str), rowsD rs, x5, x6, x7, x8, x9, x10, x11, x12, x13, x14, x15, x16, x17]) ∧ Ord ws ∧ Rws m rs ∧ Bag b' := by
  obtain ⟨ws, b1, e1, ho, hb1⟩ := order_ok hb
  obtain ⟨m, rs, b2, e2, R, hb2⟩ := rows_ok hb1
  exact ⟨ws, m, rs, b2, by simp [t1, e1, e2], ho, R, hb2⟩
theorem s2_ok {m : Nat} {rs : List (List D)} (hb : Bag b) (R : Rws m rs) : ∃ m' rs' b' y11, t2 [.none, b, x2, x3, rowsD rs, x5, x6, x7, x8, x9, x10, x11, x12, x13, x14, x15, x16, x17] = some (.nx [.none, b', x2, x3, rowsD rs', x5, x6, x7, x8, x9, x10, y11, x12, x13, x14, x15, x16, x17]) ∧ Rws m' rs' ∧ Bag b' := by
  obtain ⟨r1, b1, e1, p0, p1, hb1⟩ := take_ok hb (n := 4) (by omega) (by omega)
  by_cases h : r1 = 0
  · subst h
    obtain ⟨r2, b2, e2, q0, q1, hb2⟩ := take_ok hb1 (n := 8) (by omega) (by omega)
    obtain ⟨r3, b3, e3, u0, u1, hb3⟩ := take_ok hb2 (n := 12) (by omega) (by omega)
    have inner : ∀ (l : List D) (b y15 y16 : D), Bag b → ∃ vs e', lcL (gtName 15) bYes (eCall F__law_one [.io 1, .v (eLst [(eC (.int 0)), (eC (.int 1)), (eC (.int 2)), (eC (.int 3)), (eBin powD (eC (.int 10)) (eC (.int 39)))])]) l [.none, b, x2, x3, rowsD rs, x5, x6, x7, x8, x9, x10, .int (1 + r2), x12, x13, x14, y15, y16, x17] = some (vs, e') ∧ vs.length = l.length ∧ (∀ v ∈ vs, Vl v) ∧ ∃ b' y', e' = [.none, b', x2, x3, rowsD rs, x5, x6, x7, x8, x9, x10, .int (1 + r2), x12, x13, x14, y', y16, x17] ∧ Bag b' := fun l b y15 y16 hb =>
      lc_gen (fun e => ∃ b' y', e = [.none, b', x2, x3, rowsD rs, x5, x6, x7, x8, x9, x10, .int (1 + r2), x12, x13, x14, y', y16, x17] ∧ Bag b') Vl (fun d e ⟨b', y', he, hb'⟩ => by
        subst he
        obtain ⟨v, b4, hv, e4, hb4⟩ := one_ok (xs := [.int 0, .int 1, .int 2, .int 3, .int ten39]) hb' (by simp) (by simp)
        refine ⟨_, _, v, [.none, b4, x2, x3, rowsD rs, x5, x6, x7, x8, x9, x10, .int (1 + r2), x12, x13, x14, d, y16, x17], rfl, rfl, by simp [pow39, e4], ?_, b4, d, rfl, hb4⟩
        simp only [List.mem_cons, List.not_mem_nil, or_false] at hv
        rcases hv with rfl | rfl | rfl | rfl | rfl <;> exact ⟨_, rfl, by decide +kernel⟩) l _ ⟨b, y15, rfl, hb⟩
    obtain ⟨ds, e', h1, hl, hd, b', y16, he, hb'⟩ := lc_gen (gt := gtName 16) (tt := bYes) (fe := (lcD [15] (iRg1 (eVar 11)) (gtName 15) bYes (eCall F__law_one [.io 1, .v (eLst [(eC (.int 0)), (eC (.int 1)), (eC (.int 2)), (eC (.int 3)), (eBin powD (eC (.int 10)) (eC (.int 39)))])]))) (fun e => ∃ b' y16, e = [.none, b', x2, x3, rowsD rs, x5, x6, x7, x8, x9, x10, .int (1 + r2), x12, x13, x14, x15, y16, x17] ∧ Bag b') (RowOf (1 + r2).toNat) (fun d e ⟨b', y16, he, hb'⟩ => by
      subst he
      obtain ⟨vs, e', h1, hl, hv, b4, y4, rfl, hb4⟩ := inner (upTo (1 + r2).toNat) b' x15 d hb'
      rw [upTo_len] at hl
      have hl2 : vs.length ≤ 1000000 := lc_len (n := 10) (by omega)
      exact ⟨_, _, .list vs, [.none, b4, x2, x3, rowsD rs, x5, x6, x7, x8, x9, x10, .int (1 + r2), x12, x13, x14, x15, d, x17], rfl, rfl, by simp [rgK_i (1 + r2) _ (by omega) (by omega), h1, hl2, restore], ⟨vs, rfl, hl, hv⟩, b4, d, rfl, hb4⟩) (upTo (1 + r3).toNat) [.none, b3, x2, x3, rowsD rs, x5, x6, x7, x8, x9, x10, .int (1 + r2), x12, x13, x14, x15, x16, x17] ⟨b3, x16, rfl, hb3⟩
    rw [upTo_len] at hl
    subst he
    obtain ⟨rs', hrs, R'⟩ := rows_of hl (by omega) (by omega) (by omega) (by omega) hd
    have hl2 : ds.length ≤ 1000000 := lc_len (n := 12) (by omega)
    refine ⟨_, rs', b', .int (1 + r2), ?_, R', hb'⟩
    simp [t2, e1, e2, e3, rgK_i (1 + r3) _ (by omega) (by omega), h1, hl2, restore, hrs]
  · exact ⟨m, rs, b1, x11, by simp [t2, e1, h], R, hb1⟩
end
end W_k81

set_option Elab.async false
set_option linter.all false
set_option maxRecDepth 100000
set_option maxHeartbeats 2000000
namespace W_k81
open PySem VL L2
theorem alike_sm {d : D} (h : Sm d) : F__law_alike [d, d] = some (.bool true, [d, d]) :=
  alike_same ⟨(okS_all h.ok).1, h.dp, _, h.repr⟩
theorem bd_pair {x y : D} {a1 b1 a2 b2 : Nat} (h1 : Bd x a1 b1) (h2 : Bd y a2 b2) : Bd (.list [x, y]) (max a1 a2 + 1) (b1 + 1 + (b2 + 1)) := by
  have p1 := h1.dp; have p2 := h2.dp; have q1 := h1.bk; have q2 := h2.bk
  refine ⟨by simp [okS, okSA, h1.ok, h2.ok], ?_, ?_⟩
  · simp only [PyData.depth, PyData.depthAll]; omega
  · simp only [PyData.bulk, PyData.bulkAll]; omega
theorem bd_word {w : Str} (h : Wrd w) : Bd (.str w) 0 4 := by
  rcases h with rfl | rfl | rfl | rfl <;> exact bd_str (by decide +kernel) (by decide +kernel)
theorem bd_order {ws : List Str} (h : Ord ws) : Bd (.tuple (ws.map .str)) 1 35 :=
  bd_tup (a := 0) (b := 4) (n := 7) (fun d m => by rw [List.mem_map] at m; obtain ⟨w, hw, rfl⟩ := m; exact bd_word (h.wrd w hw)) (by simpa using h.len)
theorem bd_val {d : D} (h : Vl d) : Bd d 0 0 := by obtain ⟨i, rfl, hi⟩ := h; exact bd_int hi
theorem bd_rows {m : Nat} {rs : List (List D)} (R : Rws m rs) : Bd (rowsD rs) 2 108 :=
  bd_list (a := 1) (b := 8) (n := 12) (fun d md => by
    rw [List.mem_map] at md
    obtain ⟨r, hr, rfl⟩ := md
    exact bd_list (a := 0) (b := 0) (n := 8) (fun v hv => bd_val ((R.each r hr).2 v hv)) (R.r8 r hr)) (by simpa using R.len)
theorem bd_ent {e : D} (h : Ent e) : Bd e 1 8 := by
  rcases h with ⟨b, v, rfl, hb, hv⟩ | rfl
  · have hv' := bd_val hv
    have p := hv'.dp; have q := hv'.bk
    have hw : Bd (.str "write") 0 5 := bd_str (by decide +kernel) (by decide +kernel)
    have q5 := hw.bk; have p5 := hw.dp
    have q6 := (bd_int hb).bk; have p6 := (bd_int hb).dp
    refine ⟨by simp [okS, okSA, hv'.ok]; exact ⟨by have := hw.ok; simpa [okS] using this, by have := (bd_int hb).ok; simpa [okS] using this⟩, ?_, ?_⟩
    · simp only [PyData.depth, PyData.depthAll] at *; omega
    · simp only [PyData.bulk, PyData.bulkAll] at *; omega
  · exact (bd_tup (xs := [.str "sink"]) (a := 0) (b := 4) (n := 1) (fun d m => by rw [List.mem_singleton.mp m]; exact bd_word (.inr (.inr (.inl rfl)))) (by simp)).mono (by omega) (by omega)
theorem bd_tape {ws : List Str} {m : Nat} {rs : List (List D)} (hw : Ord ws) (R : Rws m rs) : Bd (.list (tapeOf ws rs)) 2 6048 :=
  bd_list (a := 1) (b := 8) (n := 672) (fun d m => bd_ent (tape_ent hw R d m)) (tape_len hw R).1
theorem step_tells {n : Nat} {row : List D} {p : List D × List D} {w : Str} (hw : Wrd w) (hp : p.1.length ≤ 100000 ∧ ∀ d ∈ p.2, Vl d) : ∀ d ∈ (stepW n row p w).2, Vl d := by
  rcases hw with rfl | rfl | rfl | rfl
  · rw [stepW_D]; exact hp.2
  · rw [stepW_M]; exact hp.2
  · rw [stepW_S]; exact hp.2
  · rw [stepW_T]
    intro d m
    rcases List.mem_append.mp m with m | m
    · exact hp.2 d m
    · rw [List.mem_singleton.mp m]
      exact ⟨_, rfl, Nat.lt_of_le_of_lt (show ((p.1.length : Int)).natAbs ≤ 100000 by omega) (by decide +kernel)⟩
theorem fold_tells {n : Nat} {row : List D} (hr : row.length ≤ 8) : ∀ (ws : List Str) (p : List D × List D), (∀ w ∈ ws, Wrd w) → p.1.length + 8 * ws.length ≤ 100000 → (∀ d ∈ p.2, Vl d) → ∀ d ∈ (ws.foldl (stepW n row) p).2, Vl d
  | [], p, _, _, hp => hp
  | w :: ws, p, hw, hl, hp => by
    simp only [List.length_cons] at hl
    have h1 := stepW_len (n := n) (p := p) (hw w List.mem_cons_self) hr
    exact fold_tells hr ws _ (fun v hv => hw v (List.mem_cons_of_mem _ hv)) (by omega) (step_tells (hw w List.mem_cons_self) ⟨by omega, hp⟩)
theorem saves_tells {ws : List Str} (hw : ∀ w ∈ ws, Wrd w) (hl : ws.length ≤ 10) : ∀ (rs : List (List D)) (n : Nat) (p : List D × List D), (∀ r ∈ rs, r.length ≤ 8) → p.1.length + 80 * rs.length ≤ 10000 → (∀ d ∈ p.2, Vl d) → ∀ d ∈ (savesL ws n rs p).2, Vl d
  | [], n, p, _, _, hp => hp
  | r :: rs, n, p, hr, hn, hp => by
    simp only [List.length_cons] at hn
    have h1 := fold_len (n := n) (hr r List.mem_cons_self) ws p hw
    exact saves_tells hw hl rs (n + 1) _ (fun x m => hr x (List.mem_cons_of_mem _ m)) (by omega) (fold_tells (hr r List.mem_cons_self) ws p hw (by omega) hp)
theorem bd_tells {ws : List Str} {m : Nat} {rs : List (List D)} (hw : Ord ws) (R : Rws m rs) : Bd (.list (tellsOf ws rs)) 1 84 :=
  bd_list (a := 0) (b := 0) (n := 84) (fun d md => bd_val (saves_tells hw.wrd (by have := hw.len; omega) rs 0 ([], []) R.r8 (by have := R.len; simp; omega) (fun d m => by cases m) d md)) (tape_len hw R).2
theorem cut9 (xs : List D) : cutD xs none (some 9) = xs.take 9 := by
  unfold cutD
  have : HT.sIx xs.length xs.length (some 9) = min 9 xs.length := HT.sIx_nat xs.length xs.length 9
  rw [HT.sIx_none, this]
  simp
section
variable {b x2 x3 x4 x5 x6 x7 x8 x9 x10 x11 x12 x13 x14 x15 x16 x17 : D} {ws : List Str} {m : Nat} {rs : List (List D)}
theorem s3_ok (hw : Ord ws) (R : Rws m rs) : t3 [.none, b, x2, .tuple (ws.map .str), rowsD rs, x5, x6, x7, x8, x9, x10, x11, x12, x13, x14, x15, x16, x17] = some (.nx [.none, b, x2, .tuple (ws.map .str), rowsD rs, .list (tapeOf ws rs), .list (tellsOf ws rs), x7, x8, x9, x10, x11, x12, x13, x14, x15, x16, x17]) := by
  have e := saved_ok hw.wrd (by have := hw.len; omega) R.r8 (by have := R.len; omega)
  simp [t3, e]
theorem sm_or (hw : Ord ws) (R : Rws m rs) : Sm (.list [.tuple (ws.map .str), rowsD rs]) := (bd_pair (bd_order hw) (bd_rows R)).sm (by omega) (by omega)
theorem sm_tt (hw : Ord ws) (R : Rws m rs) : Sm (.list [.list (tapeOf ws rs), .list (tellsOf ws rs)]) := (bd_pair (bd_tape hw R) (bd_tells hw R)).sm (by omega) (by omega)
def shownOR (ws : List Str) (rs : List (List D)) : D := .str (PyData.shown (.list [.tuple (ws.map .str), rowsD rs]))
theorem s4_ok (hw : Ord ws) (R : Rws m rs) : t4 [.none, b, x2, .tuple (ws.map .str), rowsD rs, x5, x6, x7, x8, x9, x10, x11, x12, x13, x14, x15, x16, x17] = some (.nx [.none, b, x2, .tuple (ws.map .str), rowsD rs, x5, x6, shownOR ws rs, x8, x9, x10, x11, x12, x13, x14, x15, x16, x17]) := by
  simp [t4, (sm_or hw R).repr, shownOR]
theorem s5b_ok (hw : Ord ws) (R : Rws m rs) : ∃ y14, t5b [.none, b, x2, .tuple (ws.map .str), rowsD rs, .list (tapeOf ws rs), .list (tellsOf ws rs), shownOR ws rs, x8, x9, x10, x11, x12, x13, x14, x15, x16, x17] = some (.nx [.none, b, x2, .tuple (ws.map .str), rowsD rs, .list (tapeOf ws rs), .list (tellsOf ws rs), shownOR ws rs, x8, x9, x10, x11, x12, x13, y14, x15, x16, x17]) := by
  have e1 := tape_ok hw.wrd (by have := hw.len; omega) R.r8 (by have := R.len; omega)
  have e2 := tells_ok hw.wrd (by have := hw.len; omega) R.r8 (by have := R.len; omega)
  have h1 : (tapeOf ws rs).length < lim := Nat.lt_of_le_of_lt (tape_len hw R).1 (by decide)
  have h2 : (tellsOf ws rs).length < lim := Nat.lt_of_le_of_lt (tape_len hw R).2 (by decide)
  refine ⟨.list [.list (tapeOf ws rs ++ [.none]), .list (tellsOf ws rs ++ [.none])], ?_⟩
  simp [t5b, e1, e2, alike_sm (sm_tt hw R), (sm_or hw R).repr, shownOR, eAppIx, L2.ixN, h1, h2]
theorem s5_ok (hw : Ord ws) (R : Rws m rs) : ∃ y8 y14, t5 [.none, b, x2, .tuple (ws.map .str), rowsD rs, .list (tapeOf ws rs), .list (tellsOf ws rs), shownOR ws rs, x8, x9, x10, x11, x12, x13, x14, x15, x16, x17] = some (.nx [.none, b, x2, .tuple (ws.map .str), rowsD rs, .list (tapeOf ws rs), .list (tellsOf ws rs), shownOR ws rs, y8, x9, x10, x11, x12, x13, y14, x15, x16, x17]) := by
  obtain ⟨e', h1, y8, y14, rfl⟩ := for_gen (gt := gtName 8) (gb := t5b) (fun e => ∃ y8 y14, e = [.none, b, x2, .tuple (ws.map .str), rowsD rs, .list (tapeOf ws rs), .list (tellsOf ws rs), shownOR ws rs, y8, x9, x10, x11, x12, x13, y14, x15, x16, x17]) (fun _ => True) (fun d e _ ⟨y8, y14, he⟩ => by
    subst he
    obtain ⟨z, hz⟩ := s5b_ok (b := b) (x2 := x2) (x8 := d) (x9 := x9) (x10 := x10) (x11 := x11) (x12 := x12) (x13 := x13) (x14 := y14) (x15 := x15) (x16 := x16) (x17 := x17) hw R
    exact ⟨_, _, rfl, hz, d, z, rfl⟩) (upTo 2) _ (fun _ _ => trivial) ⟨x8, x14, rfl⟩
  exact ⟨y8, y14, by simp [t5, rgK_i 2 _ (by omega) (by omega)]; exact h1⟩
theorem s6_ok (hw : Ord ws) : t6 [.none, b, x2, .tuple (ws.map .str), x4, x5, x6, x7, x8, x9, x10, x11, x12, x13, x14, x15, x16, x17] = some (.nx [.none, b, x2, .tuple (ws.map .str), x4, x5, x6, x7, x8, x9, x10, x11, x12, x13, x14, x15, x16, x17]) := by
  obtain ⟨t, e1, e2⟩ := sure_ok hw
  simp [t6, e1, e2, alike_sm ((bd_bool t).sm (by omega) (by omega))]
theorem s7_ok (hb : Bag b) (hw : Ord ws) : ∃ d b', t7 [.none, b, x2, .tuple (ws.map .str), x4, x5, x6, x7, x8, x9, x10, x11, x12, x13, x14, x15, x16, x17] = some (.nx [.none, b', x2, .tuple (ws.map .str), x4, x5, x6, x7, x8, d, x10, x11, x12, x13, x14, x15, x16, x17]) ∧ okL d = true ∧ Bag b' := by
  obtain ⟨r1, b1, e1, p0, p1, hb1⟩ := take_ok hb (n := 3) (by omega) (by omega)
  by_cases h : r1 = 0
  · subst h
    exact ⟨_, b1, by simp [t7, e1]; rfl, by have := hw.len; simp [okL]; omega, hb1⟩
  · obtain ⟨d, b2, e2, hd, hb2⟩ := otherwise_ok hb1 hw
    exact ⟨d, b2, by simp [t7, e1, h, e2], hd, hb2⟩
theorem s8_ok (h : okL x9 = true) : t8 [.none, b, x2, x3, x4, x5, x6, x7, x8, x9, x10, x11, x12, x13, x14, x15, x16, x17] = some (.nx [.none, b, x2, x3, x4, x5, x6, x7, x8, x9, x10, x11, x12, x13, x14, x15, x16, x17]) := by
  obtain ⟨t, e1, e2⟩ := is_ord (okL_tup h)
  simp [t8, e1, e2, alike_sm ((bd_bool t).sm (by omega) (by omega))]
theorem s9_ok (hb : Bag b) (hw : Ord ws) (R : Rws m rs) : ∃ ds b', t9 [.none, b, x2, x3, rowsD rs, .list (tapeOf ws rs), x6, x7, x8, x9, x10, x11, x12, x13, x14, x15, x16, x17] = some (.nx [.none, b', x2, x3, rowsD rs, .list (tapeOf ws rs), x6, x7, x8, x9, .dict ds, .int m, x12, x13, x14, x15, x16, x17]) ∧ DI ds ∧ ds.length ≤ 20 ∧ Bag b' := by
  have hl : (tapeOf ws rs).length ≤ lim := Nat.le_trans (tape_len hw R).1 (by decide)
  obtain ⟨cs, e1, c0, c1, hc⟩ := crashes_ok (t := (tapeOf ws rs).take 9) (by rw [List.length_take]; omega) (fun e m => tape_ent hw R e (List.mem_of_mem_take m))
  obtain ⟨c, b1, hcm, e2, hb1⟩ := one_ok (xs := cs) hb c0 (by omega)
  obtain ⟨xs, rfl, hx, hxw⟩ := hc c hcm
  obtain ⟨ds, e3, hd, hdl⟩ := left_ok (t := tapeOf ws rs) hx (fun x mx => by
    obtain ⟨j, bb, v, rfl, ht, q⟩ := hxw x mx
    refine ⟨j, bb, v, rfl, ?_, q⟩
    rw [List.getElem?_take] at ht
    split at ht
    · exact ht
    · cases ht)
  have hne := R.ne
  obtain ⟨r0, rr, hrr⟩ : ∃ r0 rr, rs = r0 :: rr := by cases rs with
    | nil => exact absurd rfl hne
    | cons a l => exact ⟨a, l, rfl⟩
  have hr0 : r0.length = m := (R.each r0 (by rw [hrr]; exact List.mem_cons_self)).1
  have hi : ixA (rowsD rs) (.int 0) = some (.list r0) := by rw [hrr]; simp [rowsD, atI0]
  refine ⟨ds, b1, ?_, hd, hdl, hb1⟩
  simp [t9, slcD, hl, cut9, e1, e2, e3, hi, hr0]
theorem s10_ok {ds : List (D × D)} (hb : Bag b) (hd : DI ds) (hl : ds.length ≤ 20) : ∃ ds' b', t10 [.none, b, x2, x3, x4, x5, x6, x7, x8, x9, .dict ds, x11, x12, x13, x14, x15, x16, x17] = some (.nx [.none, b', x2, x3, x4, x5, x6, x7, x8, x9, .dict ds', x11, x12, x13, x14, x15, x16, x17]) ∧ DI ds' ∧ ds'.length ≤ 20 ∧ Bag b' := by
  obtain ⟨vs, e', h1, h2, h3, b', y', he, hb'⟩ := lc_genT (gt := gtName 17) (tt := (asB (eBin gtD (eCall F__law_take [.io 1, .v (eC (.int 5))]) (eC (.int 0))))) (fe := (eTup [(eVar 17), (eBin ixA (eVar 10) (eVar 17))])) (fun e => ∃ b' y', e = [.none, b', x2, x3, x4, x5, x6, x7, x8, x9, .dict ds, x11, x12, x13, x14, x15, x16, y'] ∧ Bag b') Pr (fun d => d ∈ keysOf ds) (fun d e hm ⟨b', y', he, hb'⟩ => by
    subst he
    obtain ⟨r1, b1, e1, p0, p1, hb1⟩ := take_ok hb' (n := 5) (by omega) (by omega)
    have ⟨k, hk, hk2⟩ : ∃ k : Int, d = .int k ∧ k.natAbs < 10 ^ 100 := by
      unfold keysOf at hm
      rw [List.mem_map] at hm
      obtain ⟨p, hp, rfl⟩ := hm
      exact (hd p hp).1
    subst hk
    obtain ⟨v, hv⟩ := hd.has hm
    refine ⟨_, decide (0 < r1), [.none, b1, x2, x3, x4, x5, x6, x7, x8, x9, .dict ds, x11, x12, x13, x14, x15, x16, .int k], rfl, by simp [e1], fun _ => ⟨b1, _, rfl, hb1⟩, fun _ => ⟨.tuple [.int k, v], [.none, b1, x2, x3, x4, x5, x6, x7, x8, x9, .dict ds, x11, x12, x13, x14, x15, x16, .int k], by simp [hv], ⟨k, v, rfl, hk2, hd.get hv⟩, b1, _, rfl, hb1⟩⟩) (keysOf ds) [.none, b, x2, x3, x4, x5, x6, x7, x8, x9, .dict ds, x11, x12, x13, x14, x15, x16, x17] (fun d m => m) ⟨b, x17, rfl, hb⟩
  subst he
  have hkl : (keysOf ds).length ≤ 20 := by simpa [keysOf] using hl
  have hv : vs.length ≤ 1000000 := lc_len (n := 20) (by omega)
  obtain ⟨ds', e3, hd', hdl'⟩ := dict_ok h3
  exact ⟨ds', b', by simp [t10, itemsA, h1, hv, restore, e3], hd', by omega, hb'⟩
theorem s11_ok {ds : List (D × D)} (hd : DI ds) (hl : ds.length ≤ 20) (hm : m ≤ 8) : ∃ d, (t11 [.none, b, x2, x3, x4, x5, x6, x7, x8, x9, .dict ds, .int m, x12, x13, x14, x15, x16, x17] = some (.nx [.none, b, x2, x3, x4, x5, x6, x7, x8, x9, .dict ds, .int m, .str (PyData.shown (.dict ds)), d, x14, x15, x16, x17])) ∧
    t12 [.none, b, x2, x3, x4, x5, x6, x7, x8, x9, .dict ds, .int m, .str (PyData.shown (.dict ds)), d, x14, x15, x16, x17] = some (.nx [.none, b, x2, x3, x4, x5, x6, x7, x8, x9, .dict ds, .int m, .str (PyData.shown (.dict ds)), d, x14, x15, x16, x17]) := by
  obtain ⟨d, e1, e2, hs⟩ := rest_ok hd hm
  have hr := repr_DI hd (by omega)
  exact ⟨d, by simp [t11, hr, e2], by simp [t12, hr, e1, alike_sm hs]⟩
end
theorem body_ok {b x2 x3 x4 x5 x6 x7 x8 x9 x10 x11 x12 x13 x14 x15 x16 x17 : D} (hb : Bag b) : ∃ b' y2 y3 y4 y5 y6 y7 y8 y9 y10 y11 y12 y13 y14 y15 y16 y17, lawBody [.none, b, x2, x3, x4, x5, x6, x7, x8, x9, x10, x11, x12, x13, x14, x15, x16, x17] = some (.nx [.none, b', y2, y3, y4, y5, y6, y7, y8, y9, y10, y11, y12, y13, y14, y15, y16, y17]) ∧ Bag b' := by
  obtain ⟨ws, m0, rs0, b1, e1, ho, R0, hb1⟩ := s1_ok (x2 := x2) (x3 := x3) (x4 := x4) (x5 := x5) (x6 := x6) (x7 := x7) (x8 := x8) (x9 := x9) (x10 := x10) (x11 := x11) (x12 := x12) (x13 := x13) (x14 := x14) (x15 := x15) (x16 := x16) (x17 := x17) hb
  obtain ⟨m, rs, b2, y11, e2, R, hb2⟩ := s2_ok (x2 := x2) (x3 := .tuple (ws.map .str)) (x5 := x5) (x6 := x6) (x7 := x7) (x8 := x8) (x9 := x9) (x10 := x10) (x11 := x11) (x12 := x12) (x13 := x13) (x14 := x14) (x15 := x15) (x16 := x16) (x17 := x17) hb1 R0
  obtain ⟨y8, y14, e5⟩ := s5_ok (b := b2) (x2 := x2) (x8 := x8) (x9 := x9) (x10 := x10) (x11 := y11) (x12 := x12) (x13 := x13) (x14 := x14) (x15 := x15) (x16 := x16) (x17 := x17) ho R
  obtain ⟨d, b3, e7, hd, hb3⟩ := s7_ok (x2 := x2) (x4 := rowsD rs) (x5 := .list (tapeOf ws rs)) (x6 := .list (tellsOf ws rs)) (x7 := shownOR ws rs) (x8 := y8) (x9 := x9) (x10 := x10) (x11 := y11) (x12 := x12) (x13 := x13) (x14 := y14) (x15 := x15) (x16 := x16) (x17 := x17) hb2 ho
  obtain ⟨ds, b4, e9, hds, hdl, hb4⟩ := s9_ok (x2 := x2) (x3 := .tuple (ws.map .str)) (x6 := .list (tellsOf ws rs)) (x7 := shownOR ws rs) (x8 := y8) (x9 := d) (x10 := x10) (x11 := y11) (x12 := x12) (x13 := x13) (x14 := y14) (x15 := x15) (x16 := x16) (x17 := x17) hb3 ho R
  obtain ⟨ds', b5, e10, hds', hdl', hb5⟩ := s10_ok (x2 := x2) (x3 := .tuple (ws.map .str)) (x4 := rowsD rs) (x5 := .list (tapeOf ws rs)) (x6 := .list (tellsOf ws rs)) (x7 := shownOR ws rs) (x8 := y8) (x9 := d) (x11 := .int m) (x12 := x12) (x13 := x13) (x14 := y14) (x15 := x15) (x16 := x16) (x17 := x17) hb4 hds hdl
  obtain ⟨r, e11, e12⟩ := s11_ok (b := b5) (x2 := x2) (x3 := .tuple (ws.map .str)) (x4 := rowsD rs) (x5 := .list (tapeOf ws rs)) (x6 := .list (tellsOf ws rs)) (x7 := shownOR ws rs) (x8 := y8) (x9 := d) (x12 := x12) (x13 := x13) (x14 := y14) (x15 := x15) (x16 := x16) (x17 := x17) hds' hdl' R.m8
  refine ⟨b5, x2, .tuple (ws.map .str), rowsD rs, .list (tapeOf ws rs), .list (tellsOf ws rs), shownOR ws rs, y8, d, .dict ds', .int m, .str (PyData.shown (.dict ds')), r, y14, x15, x16, x17, ?_, hb5⟩
  unfold lawBody
  rw [sq_nx e1, sq_nx e2, sq_nx (s3_ok ho R), sq_nx (s4_ok ho R), sq_nx e5, sq_nx (s6_ok ho), sq_nx e7, sq_nx (s8_ok hd), sq_nx e9, sq_nx e10, sq_nx e11]
  exact e12
theorem bag0 (ns : List Int) (h : ns.length ≤ 63) : Bag (bagD ns) := by
  refine ⟨0, 1234567891, 0, ns.map absI, rfl, by omega, fun c m => ?_, by simpa using h⟩
  rw [List.mem_map] at m
  obtain ⟨i, _, rfl⟩ := m
  unfold absI
  split <;> omega
theorem law_math : ∀ ns : List Int, ns.length ≤ 63 → ∃ e, g_law (env0 18 ns) = some (.rt (.bool true) e) := fun ns h => by
  obtain ⟨e', h1, _⟩ := for_gen (gt := gtName 2) (gb := lawBody) (fun e => ∃ b y2 y3 y4 y5 y6 y7 y8 y9 y10 y11 y12 y13 y14 y15 y16 y17, e = [.none, b, y2, y3, y4, y5, y6, y7, y8, y9, y10, y11, y12, y13, y14, y15, y16, y17] ∧ Bag b) (fun _ => True) (fun d e _ ⟨b, y2, y3, y4, y5, y6, y7, y8, y9, y10, y11, y12, y13, y14, y15, y16, y17, he, hb⟩ => by
    subst he
    obtain ⟨b', z2, z3, z4, z5, z6, z7, z8, z9, z10, z11, z12, z13, z14, z15, z16, z17, e1, hb'⟩ := body_ok (x2 := d) (x3 := y3) (x4 := y4) (x5 := y5) (x6 := y6) (x7 := y7) (x8 := y8) (x9 := y9) (x10 := y10) (x11 := y11) (x12 := y12) (x13 := y13) (x14 := y14) (x15 := y15) (x16 := y16) (x17 := y17) hb
    exact ⟨_, _, rfl, e1, b', z2, z3, z4, z5, z6, z7, z8, z9, z10, z11, z12, z13, z14, z15, z16, z17, rfl, hb'⟩) (upTo 4) (env0 18 ns) (fun _ _ => trivial) ⟨bagD ns, _, _, _, _, _, _, _, _, _, _, _, _, _, _, _, _, rfl, bag0 ns h⟩
  refine ⟨e', ?_⟩
  rw [g_law_eq]
  have : forD (iRg1 (eC (.int 4))) (gtName 2) lawBody (env0 18 ns) = some (.nx e') := by
    simp [rgK_i 4 _ (by omega) (by omega)]; exact h1
  rw [sq_nx this]
  rfl
end W_k81

open PySem PySem.W PyProof.Rows
set_option maxRecDepth 100000 in
set_option maxHeartbeats 0 in
theorem PySem.Challenge.cw_belowall_k81_save_tapes_holds : PySem.Challenge.rw_belowall_k81_save_tapes.Holds := by
  w_on; o_law; k_head; (case hw => w_witness2)
  k_fill
  refine VL.walk_ofG (l := PySem.Challenge.rw_belowall_k81_save_tapes) (n := 63) (k := 5) (x := "_law_script") (sp := VL.spLaw) rfl (by decide) rfl ⟨rfl, by decide, by decide⟩ (fun w h Y => PySem.W.kIn_of Y) ?F (fun K H a ns hl _ hS => ⟨a, ns, rfl, hS, hl, fun _ => rfl⟩)
  case F =>
    intro w mg fa h KX G hmg
    refine' W_k81.all_mk KX G hmg W_k81.law_math ?vl_a0 ?vl_l0 ?vl_c0 ?vl_k0 ?vl_a1 ?vl_l1 ?vl_c1 ?vl_k1 ?vl_a2 ?vl_l2 ?vl_c2 ?vl_k2 ?vl_a3 ?vl_l3 ?vl_c3 ?vl_k3 ?vl_a4 ?vl_l4 ?vl_c4 ?vl_k4 ?vl_a5 ?vl_l5 ?vl_c5 ?vl_k5 ?vl_a6 ?vl_l6 ?vl_c6 ?vl_k6 ?vl_a7 ?vl_l7 ?vl_c7 ?vl_k7 ?vl_a8 ?vl_l8 ?vl_c8 ?vl_k8 ?vl_a9 ?vl_l9 ?vl_c9 ?vl_k9 ?vl_a10 ?vl_l10 ?vl_c10 ?vl_k10 ?vl_a11 ?vl_l11 ?vl_c11 ?vl_k11 ?vl_a12 ?vl_l12 ?vl_c12 ?vl_k12 ?vl_a13 ?vl_l13 ?vl_c13 ?vl_k13 ?vl_a14 ?vl_l14 ?vl_c14 ?vl_k14 ?vl_a15 ?vl_l15 ?vl_c15 ?vl_k15 ?vl_a16 ?vl_l16 ?vl_c16 ?vl_k16 ?vl_a17 ?vl_l17 ?vl_c17 ?vl_k17 ?vl_a18 ?vl_l18 ?vl_c18 ?vl_k18 ?vl_a19 ?vl_l19 ?vl_c19 ?vl_k19 ?vl_a20 ?vl_l20 ?vl_c20 ?vl_k20 ?vl_a21 ?vl_l21 ?vl_c21 ?vl_k21 ?vl_a22 ?vl_l22 ?vl_c22 ?vl_k22 ?vl_a23 ?vl_l23 ?vl_c23 ?vl_k23 ?vl_z0 ?vl_z1 ?vl_z2 ?vl_z3 ?vl_z4 ?vl_z5 ?vl_z6 ?vl_z7 ?vl_z8 ?vl_z9 ?vl_z10 ?vl_z11 ?vl_z12 ?vl_g0 ?vl_g1 ?vl_m1 ?vl_g2
    (case vl_a0 => k_is)
    (case vl_l0 => k_is)
    (case vl_c0 => k_is)
    (case vl_k0 => k_is)
    (case vl_a1 => k_is)
    (case vl_l1 => k_is)
    (case vl_c1 => k_is)
    (case vl_k1 => k_is)
    (case vl_a2 => k_is)
    (case vl_l2 => k_is)
    (case vl_c2 => k_is)
    (case vl_k2 => k_is)
    (case vl_a3 => k_is)
    (case vl_l3 => k_is)
    (case vl_c3 => k_is)
    (case vl_k3 => k_is)
    (case vl_a4 => k_is)
    (case vl_l4 => k_is)
    (case vl_c4 => k_is)
    (case vl_k4 => k_is)
    (case vl_a5 => k_is)
    (case vl_l5 => k_is)
    (case vl_c5 => k_is)
    (case vl_k5 => k_is)
    (case vl_a6 => k_is)
    (case vl_l6 => k_is)
    (case vl_c6 => k_is)
    (case vl_k6 => k_is)
    (case vl_a7 => k_is)
    (case vl_l7 => k_is)
    (case vl_c7 => k_is)
    (case vl_k7 => k_is)
    (case vl_a8 => k_is)
    (case vl_l8 => k_is)
    (case vl_c8 => k_is)
    (case vl_k8 => k_is)
    (case vl_a9 => k_is)
    (case vl_l9 => k_is)
    (case vl_c9 => k_is)
    (case vl_k9 => k_is)
    (case vl_a10 => k_is)
    (case vl_l10 => k_is)
    (case vl_c10 => k_is)
    (case vl_k10 => k_is)
    (case vl_a11 => k_is)
    (case vl_l11 => k_is)
    (case vl_c11 => k_is)
    (case vl_k11 => k_is)
    (case vl_a12 => k_is)
    (case vl_l12 => k_is)
    (case vl_c12 => k_is)
    (case vl_k12 => k_is)
    (case vl_a13 => k_is)
    (case vl_l13 => k_is)
    (case vl_c13 => k_is)
    (case vl_k13 => k_is)
    (case vl_a14 => k_is)
    (case vl_l14 => k_is)
    (case vl_c14 => k_is)
    (case vl_k14 => k_is)
    (case vl_a15 => k_is)
    (case vl_l15 => k_is)
    (case vl_c15 => k_is)
    (case vl_k15 => k_is)
    (case vl_a16 => k_is)
    (case vl_l16 => k_is)
    (case vl_c16 => k_is)
    (case vl_k16 => k_is)
    (case vl_a17 => k_is)
    (case vl_l17 => k_is)
    (case vl_c17 => k_is)
    (case vl_k17 => k_is)
    (case vl_a18 => k_is)
    (case vl_l18 => k_is)
    (case vl_c18 => k_is)
    (case vl_k18 => k_is)
    (case vl_a19 => k_is)
    (case vl_l19 => k_is)
    (case vl_c19 => k_is)
    (case vl_k19 => k_is)
    (case vl_a20 => k_is)
    (case vl_l20 => k_is)
    (case vl_c20 => k_is)
    (case vl_k20 => k_is)
    (case vl_a21 => k_is)
    (case vl_l21 => k_is)
    (case vl_c21 => k_is)
    (case vl_k21 => k_is)
    (case vl_a22 => k_is)
    (case vl_l22 => k_is)
    (case vl_c22 => k_is)
    (case vl_k22 => k_is)
    (case vl_a23 => k_is)
    (case vl_l23 => k_is)
    (case vl_c23 => k_is)
    (case vl_k23 => k_is)
    (case vl_z0 => k_is)
    (case vl_z1 => k_is)
    (case vl_z2 => k_is)
    (case vl_z3 => k_is)
    (case vl_z4 => k_is)
    (case vl_z5 => k_is)
    (case vl_z6 => k_is)
    (case vl_z7 => k_is)
    (case vl_z8 => k_is)
    (case vl_z9 => k_is)
    (case vl_z10 => k_is)
    (case vl_z11 => k_is)
    (case vl_z12 => k_is)
    (case vl_g0 => k_is)
    (case vl_g1 => k_is)
    (case vl_m1 => k_is)
    (case vl_g2 => k_is)
