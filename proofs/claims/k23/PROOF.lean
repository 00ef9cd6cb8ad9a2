import PyProof.Rows.All
import Wide.All
import OpenK.AllK
import Wide.FinOn
import HandS.ForMost
import HandS.Wide
import HandS.WideBits
import HandS.Gcd
import HandS.IsInst
import HandS.Zip
import HandS.SortInts
import HandS.Defaults
import HandS.TupLe
import KE.DataEq
import PyProof.Rows.RuleB_bool
import HandS.Dict
import PyProof.Claim2Refuses
import HandS.TupMul
import HandS.SetFor
import PyProof.Rows.IntBool
import HandS.TupAny
import KE.KMathG
import HandS.Conv
import PyProof.LongRange
import PyProof.ListRange
import HandS.Style
import KE.GoesEnum
import KE.GoesMore
import KE.KMathGC
import HandS.RaiseMore
import HandS.Star
import HandS.Ends
import HandS.HeadEnd
import PyProof.ReprLen
import PyProof.ReprRoads
import PyProof.StrLawsRepr
import KE.SortKeyHeap
import HandS.SortKw
import HandS.HeadHook4
import KE.KStateDown
import Lean
import HandS.Head0
import HandS.Head1
import HandS.Head2
import HandS.Head3
import PySem.Challenge.RW_soundlooks_k23_whole_what_stretches_and
set_option Elab.async false
set_option linter.all false
set_option maxRecDepth 100000
set_option maxHeartbeats 0
namespace Ev
open PySem PySem.Spec PyProof.Rows L2 PySem.SeqAt PySem.MeetsSeq
open PySem.AutoSeq1 (wpAny_loadPart')
/-! ## a dict beside what is none -/
section
variable {prog : Program} {w : World} {A : Around} {E : Value → Shared → Prop} {s : Shared} {a : Addr} {x : Value} {T id : String}
theorem dctEq_no (da : s.TypeIs (.ref a) "dict") (hx : s.TypeIs x T) (hT : isSubtype (.type T) (.type "dict") = pure false) (Q : Value → Shared → Prop) (h : Q .notImplemented s) :
    wpAny (model prog w) A (call (.builtin "dict.__eq__") [.ref a, x]) Q E s := by
  refine wpAny_call_entry PySem.F.slot_dict_eq da PySem.F.entry_dict_eq ?_ (PySem.F.args_dict_eq_2 _ _)
  show wpAny _ _ (Builtin.Dict.dictSlotArgs "__eq__" ⟨[.ref a, x], []⟩ >>= _) _ _ s
  refine wpAny_bind ?_
  unfold Builtin.Dict.dictSlotArgs
  refine wpAny_bind (wpAny_notOrdered_dict da ?_)
  show wpAny _ _ (pure (Value.ref a, x)) _ _ s
  refine wpAny_pure ?_
  refine wpAny_bind (wpAny_isInstance (T := T) (U := "dict") hx hT ?_)
  simp only [Bool.not_false, if_true]
  refine wpAny_bind (wpAny_rule ?_)
  exact wpAny_pure ⟨_, rfl, h⟩
theorem dctNe_no (da : s.TypeIs (.ref a) "dict") (hx : s.TypeIs x T) (hT : isSubtype (.type T) (.type "dict") = pure false) (Q : Value → Shared → Prop) (h : Q .notImplemented s) :
    wpAny (model prog w) A (call (.builtin "dict.__ne__") [.ref a, x]) Q E s := by
  refine wpAny_call_entry PySem.F.slot_dict_ne da PySem.F.entry_dict_ne ?_ (PySem.F.args_dict_ne_2 _ _)
  show wpAny _ _ (Builtin.Dict.dictSlotArgs "__ne__" ⟨[.ref a, x], []⟩ >>= _) _ _ s
  refine wpAny_bind ?_
  unfold Builtin.Dict.dictSlotArgs
  refine wpAny_bind (wpAny_notOrdered_dict da ?_)
  show wpAny _ _ (pure (Value.ref a, x)) _ _ s
  refine wpAny_pure ?_
  refine wpAny_bind (wpAny_isInstance (T := T) (U := "dict") hx hT ?_)
  simp only [Bool.not_false, if_true]
  refine wpAny_bind (wpAny_rule ?_)
  exact wpAny_pure ⟨_, rfl, h⟩
theorem dctEq_l (da : s.TypeIs (.ref a) "dict") (hx : s.TypeIs x T) (hne : (Value.type "dict" != Value.type T) = true) (hT : isSubtype (.type T) (.type "dict") = pure false) (sl : Slot T (cmpInfo .Eq).2.2 id)
    (dc : ∀ (prog : Program) (w : World) (E Q : Value → Shared → Prop), Q .notImplemented s → wpAny (model prog w) A (call (.builtin id) [x, .ref a]) Q E s)
    (sm : ∀ (prog : Program) (w : World) (E : Value → Shared → Prop) (Q : Bool → Shared → Prop), Q false s → wpAny (model prog w) A (isSame (.ref a) x) Q E s) (hu : A.units < cLine) : RcAt A s (.ref a) x false := fun prog w E Q h =>
  rc_eq_decline_or (k := false) da hx hne hT PySem.F.slot_dict_eq sl (fun Q' q => dctEq_no da hx hT Q' q) (fun Q' q => dc prog w E Q' q) (fun Q' q => sm prog w E Q' q) (.inr hu) h
theorem dctEq_r (da : s.TypeIs (.ref a) "dict") (hx : s.TypeIs x T) (hne : (Value.type T != Value.type "dict") = true) (hT : isSubtype (.type T) (.type "dict") = pure false) (hT2 : isSubtype (.type "dict") (.type T) = pure false) (sl : Slot T (cmpInfo .Eq).2.1 id)
    (dc : ∀ (prog : Program) (w : World) (E Q : Value → Shared → Prop), Q .notImplemented s → wpAny (model prog w) A (call (.builtin id) [x, .ref a]) Q E s)
    (sm : ∀ (prog : Program) (w : World) (E : Value → Shared → Prop) (Q : Bool → Shared → Prop), Q false s → wpAny (model prog w) A (isSame x (.ref a)) Q E s) (hu : A.units < cLine) : RcAt A s x (.ref a) false := fun prog w E Q h =>
  rc_eq_decline_or (k := false) hx da hne hT2 sl PySem.F.slot_dict_eq_refl (fun Q' q => dc prog w E Q' q) (fun Q' q => dctEq_no da hx hT Q' q) (fun Q' q => sm prog w E Q' q) (.inr hu) h
theorem dctNe_l (da : s.TypeIs (.ref a) "dict") (hx : s.TypeIs x T) (hne : (Value.type "dict" != Value.type T) = true) (hT : isSubtype (.type T) (.type "dict") = pure false) (sl : Slot T (cmpInfo .NotEq).2.2 id)
    (dc : ∀ (prog : Program) (w : World) (E Q : Value → Shared → Prop), Q .notImplemented s → wpAny (model prog w) A (call (.builtin id) [x, .ref a]) Q E s)
    (sm : ∀ (prog : Program) (w : World) (E : Value → Shared → Prop) (Q : Bool → Shared → Prop), Q false s → wpAny (model prog w) A (isSame (.ref a) x) Q E s) (hu : A.units < cLine) : RcNeAt A s (.ref a) x true := fun prog w E Q h =>
  rc_ne_decline_or (k := false) da hx hne hT PySem.F.slot_dict_ne sl (fun Q' q => dctNe_no da hx hT Q' q) (fun Q' q => dc prog w E Q' q) (fun Q' q => sm prog w E Q' q) (.inr hu) h
theorem dctNe_r (da : s.TypeIs (.ref a) "dict") (hx : s.TypeIs x T) (hne : (Value.type T != Value.type "dict") = true) (hT : isSubtype (.type T) (.type "dict") = pure false) (hT2 : isSubtype (.type "dict") (.type T) = pure false) (sl : Slot T (cmpInfo .NotEq).2.1 id)
    (dc : ∀ (prog : Program) (w : World) (E Q : Value → Shared → Prop), Q .notImplemented s → wpAny (model prog w) A (call (.builtin id) [x, .ref a]) Q E s)
    (sm : ∀ (prog : Program) (w : World) (E : Value → Shared → Prop) (Q : Bool → Shared → Prop), Q false s → wpAny (model prog w) A (isSame x (.ref a)) Q E s) (hu : A.units < cLine) : RcNeAt A s x (.ref a) true := fun prog w E Q h =>
  rc_ne_decline_or (k := false) hx da hne hT2 sl PySem.F.slot_dict_ne_refl (fun Q' q => dc prog w E Q' q) (fun Q' q => dctNe_no da hx hT Q' q) (fun Q' q => sm prog w E Q' q) (.inr hu) h
end
section
theorem int_eq_dct (b : Int) (u : Tok) (l : Addr) (c : Value) (es : Array DictEntry) (ep : Nat) (dd : Option Addr) (sl : Array (Option Value)) :
    Meets (Builtin.«int.__eq__» ⟨[.int b u, .ref l], []⟩) (fun _ G s => s.heap.get? l = some { cls := c, dict := dd, data := .dict es ep, slots := sl } ∧ G (.ok (.ret .notImplemented)) s) :=
  .of_wp fun prog w A G s q => by
    obtain ⟨hp, g, d, tk, os⟩ := s
    obtain ⟨hl, q⟩ := q
    wp_walk using wpAny_loadPart' hl, wpAny_load hl
    exact ⟨_, rfl, q⟩
theorem bool_eq_dct (b : Bool) (l : Addr) (c : Value) (es : Array DictEntry) (ep : Nat) (dd : Option Addr) (sl : Array (Option Value)) :
    Meets (Builtin.«int.__eq__» ⟨[.bool b, .ref l], []⟩) (fun _ G s => s.heap.get? l = some { cls := c, dict := dd, data := .dict es ep, slots := sl } ∧ G (.ok (.ret .notImplemented)) s) :=
  .of_wp fun prog w A G s q => by
    obtain ⟨hp, g, d, tk, os⟩ := s
    obtain ⟨hl, q⟩ := q
    wp_walk using wpAny_loadPart' hl, wpAny_load hl
    exact ⟨_, rfl, q⟩
theorem str_eq_dct (b : Str) (u : Tok) (l : Addr) (c : Value) (es : Array DictEntry) (ep : Nat) (dd : Option Addr) (sl : Array (Option Value)) :
    Meets (Builtin.«str.__eq__» ⟨[.str b u, .ref l], []⟩) (fun _ G s => s.heap.get? l = some { cls := c, dict := dd, data := .dict es ep, slots := sl } ∧ G (.ok (.ret .notImplemented)) s) :=
  .of_wp fun prog w A G s q => by
    obtain ⟨hp, g, d, tk, os⟩ := s
    obtain ⟨hl, q⟩ := q
    wp_walk using wpAny_loadPart' hl, wpAny_load hl
    exact ⟨_, rfl, q⟩
theorem none_eq_dct (l : Addr) : Gives (Builtin.«NoneType.__eq__» ⟨[.none, .ref l], []⟩) (.val Value.notImplemented) :=
  .of_wp fun M A E s Q q => by
    obtain ⟨hp, g, d, tk, os⟩ := s
    wp_walk
    exact ⟨_, rfl, q⟩
theorem list_eq_dct (b l : Addr) (its : Array Value) (n : Nat) (db : Option Addr) (sb : Array (Option Value)) (es : Array DictEntry) (ep : Nat) (dd : Option Addr) (sl : Array (Option Value)) :
    Meets (Builtin.«list.__eq__» ⟨[.ref b, .ref l], []⟩) (fun _ G s => s.heap.get? b = some { cls := .type "list", dict := db, data := .seq its n, slots := sb } ∧ s.heap.get? l = some { cls := .type "dict", dict := dd, data := .dict es ep, slots := sl } ∧ G (.ok (.ret .notImplemented)) s) :=
  .of_wp fun prog w A G s q => by
    obtain ⟨hp, g, d, tk, os⟩ := s
    obtain ⟨hb, hl, q⟩ := q
    have f1 := PySem.F.sub_dict_list
    wp_walk using wpAny_loadPart' hb, wpAny_loadPart' hl
    exact ⟨_, rfl, q⟩
theorem tuple_eq_dct (b l : Addr) (its : Array Value) (n : Nat) (db : Option Addr) (sb : Array (Option Value)) (es : Array DictEntry) (ep : Nat) (dd : Option Addr) (sl : Array (Option Value)) :
    Meets (Builtin.«tuple.__eq__» ⟨[.ref b, .ref l], []⟩) (fun _ G s => s.heap.get? b = some { cls := .type "tuple", dict := db, data := .seq its n, slots := sb } ∧ s.heap.get? l = some { cls := .type "dict", dict := dd, data := .dict es ep, slots := sl } ∧ G (.ok (.ret .notImplemented)) s) :=
  .of_wp fun prog w A G s q => by
    obtain ⟨hp, g, d, tk, os⟩ := s
    obtain ⟨hb, hl, q⟩ := q
    have f1 := PySem.F.sub_dict_tuple
    wp_walk using wpAny_loadPart' hb, wpAny_loadPart' hl
    exact ⟨_, rfl, q⟩
theorem int_ne_dct (b : Int) (u : Tok) (l : Addr) (c : Value) (es : Array DictEntry) (ep : Nat) (dd : Option Addr) (sl : Array (Option Value)) :
    Meets (Builtin.«int.__ne__» ⟨[.int b u, .ref l], []⟩) (fun _ G s => s.heap.get? l = some { cls := c, dict := dd, data := .dict es ep, slots := sl } ∧ G (.ok (.ret .notImplemented)) s) :=
  .of_wp fun prog w A G s q => by
    obtain ⟨hp, g, d, tk, os⟩ := s
    obtain ⟨hl, q⟩ := q
    wp_walk using wpAny_loadPart' hl, wpAny_load hl
    exact ⟨_, rfl, q⟩
theorem bool_ne_dct (b : Bool) (l : Addr) (c : Value) (es : Array DictEntry) (ep : Nat) (dd : Option Addr) (sl : Array (Option Value)) :
    Meets (Builtin.«int.__ne__» ⟨[.bool b, .ref l], []⟩) (fun _ G s => s.heap.get? l = some { cls := c, dict := dd, data := .dict es ep, slots := sl } ∧ G (.ok (.ret .notImplemented)) s) :=
  .of_wp fun prog w A G s q => by
    obtain ⟨hp, g, d, tk, os⟩ := s
    obtain ⟨hl, q⟩ := q
    wp_walk using wpAny_loadPart' hl, wpAny_load hl
    exact ⟨_, rfl, q⟩
theorem str_ne_dct (b : Str) (u : Tok) (l : Addr) (c : Value) (es : Array DictEntry) (ep : Nat) (dd : Option Addr) (sl : Array (Option Value)) :
    Meets (Builtin.«str.__ne__» ⟨[.str b u, .ref l], []⟩) (fun _ G s => s.heap.get? l = some { cls := c, dict := dd, data := .dict es ep, slots := sl } ∧ G (.ok (.ret .notImplemented)) s) :=
  .of_wp fun prog w A G s q => by
    obtain ⟨hp, g, d, tk, os⟩ := s
    obtain ⟨hl, q⟩ := q
    wp_walk using wpAny_loadPart' hl, wpAny_load hl
    exact ⟨_, rfl, q⟩
theorem none_ne_dct (l : Addr) : Gives (Builtin.«NoneType.__ne__» ⟨[.none, .ref l], []⟩) (.val Value.notImplemented) :=
  .of_wp fun M A E s Q q => by
    obtain ⟨hp, g, d, tk, os⟩ := s
    wp_walk
    exact ⟨_, rfl, q⟩
theorem list_ne_dct (b l : Addr) (its : Array Value) (n : Nat) (db : Option Addr) (sb : Array (Option Value)) (es : Array DictEntry) (ep : Nat) (dd : Option Addr) (sl : Array (Option Value)) :
    Meets (Builtin.«list.__ne__» ⟨[.ref b, .ref l], []⟩) (fun _ G s => s.heap.get? b = some { cls := .type "list", dict := db, data := .seq its n, slots := sb } ∧ s.heap.get? l = some { cls := .type "dict", dict := dd, data := .dict es ep, slots := sl } ∧ G (.ok (.ret .notImplemented)) s) :=
  .of_wp fun prog w A G s q => by
    obtain ⟨hp, g, d, tk, os⟩ := s
    obtain ⟨hb, hl, q⟩ := q
    have f1 := PySem.F.sub_dict_list
    wp_walk using wpAny_loadPart' hb, wpAny_loadPart' hl
    exact ⟨_, rfl, q⟩
theorem tuple_ne_dct (b l : Addr) (its : Array Value) (n : Nat) (db : Option Addr) (sb : Array (Option Value)) (es : Array DictEntry) (ep : Nat) (dd : Option Addr) (sl : Array (Option Value)) :
    Meets (Builtin.«tuple.__ne__» ⟨[.ref b, .ref l], []⟩) (fun _ G s => s.heap.get? b = some { cls := .type "tuple", dict := db, data := .seq its n, slots := sb } ∧ s.heap.get? l = some { cls := .type "dict", dict := dd, data := .dict es ep, slots := sl } ∧ G (.ok (.ret .notImplemented)) s) :=
  .of_wp fun prog w A G s q => by
    obtain ⟨hp, g, d, tk, os⟩ := s
    obtain ⟨hb, hl, q⟩ := q
    have f1 := PySem.F.sub_dict_tuple
    wp_walk using wpAny_loadPart' hb, wpAny_loadPart' hl
    exact ⟨_, rfl, q⟩
end
end Ev
namespace Ev
open PySem PySem.Spec PyProof.Rows L2 PySem.SeqAt PySem.MeetsSeq
/-! ## == and != where a dict may lie within one of the two -/
section
variable {A : Around} {s : Shared} {a : Addr}
/-- what a dict and what is none come to, either way round -/
structure Unl (A : Around) (s : Shared) (y x : Value) : Prop where
  el : RcAt A s y x false
  er : RcAt A s x y false
  nl : RcNeAt A s y x true
  nr : RcNeAt A s x y true
  ne : y ≠ x
theorem unl_int {o : Obj} (ho : s.heap.get? a = some o) (hc : o.cls = .type "dict") {es : Array DictEntry} {ep : Nat} (hd : o.data = .dict es ep) (hu : A.units < cLine) (i : Int) (u : Tok) : Unl A s (.ref a) (.int i u) := by
  obtain ⟨cls, dd, data, sl⟩ := o
  simp only at hc hd
  subst hc hd
  have ty : s.TypeIs (.ref a) "dict" := ⟨_, ho, rfl⟩
  have deq : ∀ (prog : Program) (w : World) (E Q : Value → Shared → Prop), Q .notImplemented s → wpAny (model prog w) A (call (.builtin "int.__eq__") [.int i u, .ref a]) Q E s := fun _ _ _ _ hq =>
    call_meets PySem.F.slot_int_eq (typeIs_int s i u) PySem.F.entry_int_eq (PySem.F.args_int_eq_2 _ _) (int_eq_dct i u a (.type "dict") es ep dd sl) ⟨ho, hq⟩
  have dne : ∀ (prog : Program) (w : World) (E Q : Value → Shared → Prop), Q .notImplemented s → wpAny (model prog w) A (call (.builtin "int.__ne__") [.int i u, .ref a]) Q E s := fun _ _ _ _ hq =>
    call_meets PySem.F.slot_int_ne (typeIs_int s i u) PySem.F.entry_int_ne (PySem.F.args_int_ne_2 _ _) (int_ne_dct i u a (.type "dict") es ep dd sl) ⟨ho, hq⟩
  exact ⟨dctEq_l ty (typeIs_int s i u) (by decide) PySem.F.sub_int_dict PySem.F.slot_int_eq_refl deq (fun _ _ _ _ hq => wpAny_of_eq (rfl : isSame (.ref a) (.int i u) = pure false) hq) hu,
    dctEq_r ty (typeIs_int s i u) (by decide) PySem.F.sub_int_dict PySem.F.sub_dict_int PySem.F.slot_int_eq deq (fun _ _ _ _ hq => wpAny_of_eq (rfl : isSame (.int i u) (.ref a) = pure false) hq) hu,
    dctNe_l ty (typeIs_int s i u) (by decide) PySem.F.sub_int_dict PySem.F.slot_int_ne_refl dne (fun _ _ _ _ hq => wpAny_of_eq (rfl : isSame (.ref a) (.int i u) = pure false) hq) hu,
    dctNe_r ty (typeIs_int s i u) (by decide) PySem.F.sub_int_dict PySem.F.sub_dict_int PySem.F.slot_int_ne dne (fun _ _ _ _ hq => wpAny_of_eq (rfl : isSame (.int i u) (.ref a) = pure false) hq) hu, nofun⟩
theorem unl_bool {o : Obj} (ho : s.heap.get? a = some o) (hc : o.cls = .type "dict") {es : Array DictEntry} {ep : Nat} (hd : o.data = .dict es ep) (hu : A.units < cLine) (i : Bool) : Unl A s (.ref a) (.bool i) := by
  obtain ⟨cls, dd, data, sl⟩ := o
  simp only at hc hd
  subst hc hd
  have ty : s.TypeIs (.ref a) "dict" := ⟨_, ho, rfl⟩
  have deq : ∀ (prog : Program) (w : World) (E Q : Value → Shared → Prop), Q .notImplemented s → wpAny (model prog w) A (call (.builtin "int.__eq__") [.bool i, .ref a]) Q E s := fun _ _ _ _ hq =>
    call_meets PySem.F.slot_bool_eq (show s.TypeIs (.bool i) "bool" from rfl) PySem.F.entry_int_eq (PySem.F.args_int_eq_2 _ _) (bool_eq_dct i a (.type "dict") es ep dd sl) ⟨ho, hq⟩
  have dne : ∀ (prog : Program) (w : World) (E Q : Value → Shared → Prop), Q .notImplemented s → wpAny (model prog w) A (call (.builtin "int.__ne__") [.bool i, .ref a]) Q E s := fun _ _ _ _ hq =>
    call_meets PySem.F.slot_bool_ne (show s.TypeIs (.bool i) "bool" from rfl) PySem.F.entry_int_ne (PySem.F.args_int_ne_2 _ _) (bool_ne_dct i a (.type "dict") es ep dd sl) ⟨ho, hq⟩
  exact ⟨dctEq_l ty (show s.TypeIs (.bool i) "bool" from rfl) (by decide) PySem.F.sub_bool_dict PySem.F.slot_bool_eq_refl deq (fun _ _ _ _ hq => wpAny_of_eq (rfl : isSame (.ref a) (.bool i) = pure false) hq) hu,
    dctEq_r ty (show s.TypeIs (.bool i) "bool" from rfl) (by decide) PySem.F.sub_bool_dict PySem.F.sub_dict_bool PySem.F.slot_bool_eq deq (fun _ _ _ _ hq => wpAny_of_eq (rfl : isSame (.bool i) (.ref a) = pure false) hq) hu,
    dctNe_l ty (show s.TypeIs (.bool i) "bool" from rfl) (by decide) PySem.F.sub_bool_dict PySem.F.slot_bool_ne_refl dne (fun _ _ _ _ hq => wpAny_of_eq (rfl : isSame (.ref a) (.bool i) = pure false) hq) hu,
    dctNe_r ty (show s.TypeIs (.bool i) "bool" from rfl) (by decide) PySem.F.sub_bool_dict PySem.F.sub_dict_bool PySem.F.slot_bool_ne dne (fun _ _ _ _ hq => wpAny_of_eq (rfl : isSame (.bool i) (.ref a) = pure false) hq) hu, nofun⟩
theorem unl_str {o : Obj} (ho : s.heap.get? a = some o) (hc : o.cls = .type "dict") {es : Array DictEntry} {ep : Nat} (hd : o.data = .dict es ep) (hu : A.units < cLine) (i : Str) (u : Tok) : Unl A s (.ref a) (.str i u) := by
  obtain ⟨cls, dd, data, sl⟩ := o
  simp only at hc hd
  subst hc hd
  have ty : s.TypeIs (.ref a) "dict" := ⟨_, ho, rfl⟩
  have deq : ∀ (prog : Program) (w : World) (E Q : Value → Shared → Prop), Q .notImplemented s → wpAny (model prog w) A (call (.builtin "str.__eq__") [.str i u, .ref a]) Q E s := fun _ _ _ _ hq =>
    call_meets PySem.F.slot_str_eq (typeIs_str s i u) PySem.F.entry_str_eq (PySem.F.args_str_eq_2 _ _) (str_eq_dct i u a (.type "dict") es ep dd sl) ⟨ho, hq⟩
  have dne : ∀ (prog : Program) (w : World) (E Q : Value → Shared → Prop), Q .notImplemented s → wpAny (model prog w) A (call (.builtin "str.__ne__") [.str i u, .ref a]) Q E s := fun _ _ _ _ hq =>
    call_meets PySem.F.slot_str_ne (typeIs_str s i u) PySem.F.entry_str_ne (PySem.F.args_str_ne_2 _ _) (str_ne_dct i u a (.type "dict") es ep dd sl) ⟨ho, hq⟩
  exact ⟨dctEq_l ty (typeIs_str s i u) (by decide) PySem.F.sub_str_dict PySem.F.slot_str_eq_refl deq (fun _ _ _ _ hq => wpAny_of_eq (rfl : isSame (.ref a) (.str i u) = pure false) hq) hu,
    dctEq_r ty (typeIs_str s i u) (by decide) PySem.F.sub_str_dict PySem.F.sub_dict_str PySem.F.slot_str_eq deq (fun _ _ _ _ hq => wpAny_of_eq (rfl : isSame (.str i u) (.ref a) = pure false) hq) hu,
    dctNe_l ty (typeIs_str s i u) (by decide) PySem.F.sub_str_dict PySem.F.slot_str_ne_refl dne (fun _ _ _ _ hq => wpAny_of_eq (rfl : isSame (.ref a) (.str i u) = pure false) hq) hu,
    dctNe_r ty (typeIs_str s i u) (by decide) PySem.F.sub_str_dict PySem.F.sub_dict_str PySem.F.slot_str_ne dne (fun _ _ _ _ hq => wpAny_of_eq (rfl : isSame (.str i u) (.ref a) = pure false) hq) hu, nofun⟩
theorem unl_NoneType {o : Obj} (ho : s.heap.get? a = some o) (hc : o.cls = .type "dict") {es : Array DictEntry} {ep : Nat} (hd : o.data = .dict es ep) (hu : A.units < cLine)  : Unl A s (.ref a) (.none) := by
  obtain ⟨cls, dd, data, sl⟩ := o
  simp only at hc hd
  subst hc hd
  have ty : s.TypeIs (.ref a) "dict" := ⟨_, ho, rfl⟩
  have deq : ∀ (prog : Program) (w : World) (E Q : Value → Shared → Prop), Q .notImplemented s → wpAny (model prog w) A (call (.builtin "NoneType.__eq__") [.none, .ref a]) Q E s := fun _ _ _ _ hq =>
    call_gives PySem.F.slot_NoneType_eq (show s.TypeIs .none "NoneType" from rfl) PySem.F.entry_NoneType_eq (PySem.F.args_NoneType_eq_2 _ _) (none_eq_dct a) hq
  have dne : ∀ (prog : Program) (w : World) (E Q : Value → Shared → Prop), Q .notImplemented s → wpAny (model prog w) A (call (.builtin "NoneType.__ne__") [.none, .ref a]) Q E s := fun _ _ _ _ hq =>
    call_gives PySem.F.slot_NoneType_ne (show s.TypeIs .none "NoneType" from rfl) PySem.F.entry_NoneType_ne (PySem.F.args_NoneType_ne_2 _ _) (none_ne_dct a) hq
  exact ⟨dctEq_l ty (show s.TypeIs .none "NoneType" from rfl) (by decide) PySem.F.sub_NoneType_dict PySem.F.slot_NoneType_eq_refl deq (fun _ _ _ _ hq => wpAny_of_eq (rfl : isSame (.ref a) (.none) = pure false) hq) hu,
    dctEq_r ty (show s.TypeIs .none "NoneType" from rfl) (by decide) PySem.F.sub_NoneType_dict PySem.F.sub_dict_NoneType PySem.F.slot_NoneType_eq deq (fun _ _ _ _ hq => wpAny_of_eq (rfl : isSame (.none) (.ref a) = pure false) hq) hu,
    dctNe_l ty (show s.TypeIs .none "NoneType" from rfl) (by decide) PySem.F.sub_NoneType_dict PySem.F.slot_NoneType_ne_refl dne (fun _ _ _ _ hq => wpAny_of_eq (rfl : isSame (.ref a) (.none) = pure false) hq) hu,
    dctNe_r ty (show s.TypeIs .none "NoneType" from rfl) (by decide) PySem.F.sub_NoneType_dict PySem.F.sub_dict_NoneType PySem.F.slot_NoneType_ne dne (fun _ _ _ _ hq => wpAny_of_eq (rfl : isSame (.none) (.ref a) = pure false) hq) hu, nofun⟩
theorem unl_list {o : Obj} (ho : s.heap.get? a = some o) (hc : o.cls = .type "dict") {es : Array DictEntry} {ep : Nat} (hd : o.data = .dict es ep) (hu : A.units < cLine) {b : Addr} {o2 : Obj} {its : Array Value} {n : Nat} (hb : s.heap.get? b = some o2) (hc2 : o2.cls = .type "list") (hd2 : o2.data = .seq its n) : Unl A s (.ref a) (.ref b) := by
  obtain ⟨cls, dd, data, sl⟩ := o
  simp only at hc hd
  subst hc hd
  obtain ⟨cls2, db, data2, sb⟩ := o2
  simp only at hc2 hd2
  subst hc2 hd2
  have hne : a ≠ b := fun z => by
    subst z
    have z := congrArg Obj.cls (Option.some.inj (ho.symm.trans hb))
    simp at z
  have ty : s.TypeIs (.ref a) "dict" := ⟨_, ho, rfl⟩
  have deq : ∀ (prog : Program) (w : World) (E Q : Value → Shared → Prop), Q .notImplemented s → wpAny (model prog w) A (call (.builtin "list.__eq__") [.ref b, .ref a]) Q E s := fun _ _ _ _ hq =>
    call_meets PySem.F.slot_list_eq (show s.TypeIs (.ref b) "list" from ⟨_, hb, rfl⟩) PySem.F.entry_list_eq (PySem.F.args_list_eq_2 _ _) (list_eq_dct b a its n db sb es ep dd sl) ⟨hb, ho, hq⟩
  have dne : ∀ (prog : Program) (w : World) (E Q : Value → Shared → Prop), Q .notImplemented s → wpAny (model prog w) A (call (.builtin "list.__ne__") [.ref b, .ref a]) Q E s := fun _ _ _ _ hq =>
    call_meets PySem.F.slot_list_ne (show s.TypeIs (.ref b) "list" from ⟨_, hb, rfl⟩) PySem.F.entry_list_ne (PySem.F.args_list_ne_2 _ _) (list_ne_dct b a its n db sb es ep dd sl) ⟨hb, ho, hq⟩
  exact ⟨dctEq_l ty (show s.TypeIs (.ref b) "list" from ⟨_, hb, rfl⟩) (by decide) PySem.F.sub_list_dict PySem.F.slot_list_eq_refl deq (fun _ _ _ _ hq => wpAny_isSame_ref_other hne ho hb (by simp) hq) hu,
    dctEq_r ty (show s.TypeIs (.ref b) "list" from ⟨_, hb, rfl⟩) (by decide) PySem.F.sub_list_dict PySem.F.sub_dict_list PySem.F.slot_list_eq deq (fun _ _ _ _ hq => wpAny_isSame_ref_other hne.symm hb ho (by simp) hq) hu,
    dctNe_l ty (show s.TypeIs (.ref b) "list" from ⟨_, hb, rfl⟩) (by decide) PySem.F.sub_list_dict PySem.F.slot_list_ne_refl dne (fun _ _ _ _ hq => wpAny_isSame_ref_other hne ho hb (by simp) hq) hu,
    dctNe_r ty (show s.TypeIs (.ref b) "list" from ⟨_, hb, rfl⟩) (by decide) PySem.F.sub_list_dict PySem.F.sub_dict_list PySem.F.slot_list_ne dne (fun _ _ _ _ hq => wpAny_isSame_ref_other hne.symm hb ho (by simp) hq) hu, fun z => hne (by injection z)⟩
theorem unl_tuple {o : Obj} (ho : s.heap.get? a = some o) (hc : o.cls = .type "dict") {es : Array DictEntry} {ep : Nat} (hd : o.data = .dict es ep) (hu : A.units < cLine) {b : Addr} {o2 : Obj} {its : Array Value} {n : Nat} (hb : s.heap.get? b = some o2) (hc2 : o2.cls = .type "tuple") (hd2 : o2.data = .seq its n) : Unl A s (.ref a) (.ref b) := by
  obtain ⟨cls, dd, data, sl⟩ := o
  simp only at hc hd
  subst hc hd
  obtain ⟨cls2, db, data2, sb⟩ := o2
  simp only at hc2 hd2
  subst hc2 hd2
  have hne : a ≠ b := fun z => by
    subst z
    have z := congrArg Obj.cls (Option.some.inj (ho.symm.trans hb))
    simp at z
  have ty : s.TypeIs (.ref a) "dict" := ⟨_, ho, rfl⟩
  have deq : ∀ (prog : Program) (w : World) (E Q : Value → Shared → Prop), Q .notImplemented s → wpAny (model prog w) A (call (.builtin "tuple.__eq__") [.ref b, .ref a]) Q E s := fun _ _ _ _ hq =>
    call_meets PySem.F.slot_tuple_eq (show s.TypeIs (.ref b) "tuple" from ⟨_, hb, rfl⟩) PySem.F.entry_tuple_eq (PySem.F.args_tuple_eq_2 _ _) (tuple_eq_dct b a its n db sb es ep dd sl) ⟨hb, ho, hq⟩
  have dne : ∀ (prog : Program) (w : World) (E Q : Value → Shared → Prop), Q .notImplemented s → wpAny (model prog w) A (call (.builtin "tuple.__ne__") [.ref b, .ref a]) Q E s := fun _ _ _ _ hq =>
    call_meets PySem.F.slot_tuple_ne (show s.TypeIs (.ref b) "tuple" from ⟨_, hb, rfl⟩) PySem.F.entry_tuple_ne (PySem.F.args_tuple_ne_2 _ _) (tuple_ne_dct b a its n db sb es ep dd sl) ⟨hb, ho, hq⟩
  exact ⟨dctEq_l ty (show s.TypeIs (.ref b) "tuple" from ⟨_, hb, rfl⟩) (by decide) PySem.F.sub_tuple_dict PySem.F.slot_tuple_eq_refl deq (fun _ _ _ _ hq => wpAny_isSame_ref_other hne ho hb (by simp) hq) hu,
    dctEq_r ty (show s.TypeIs (.ref b) "tuple" from ⟨_, hb, rfl⟩) (by decide) PySem.F.sub_tuple_dict PySem.F.sub_dict_tuple PySem.F.slot_tuple_eq deq (fun _ _ _ _ hq => wpAny_isSame_ref_other' hne.symm hb ho (by simp) hq) hu,
    dctNe_l ty (show s.TypeIs (.ref b) "tuple" from ⟨_, hb, rfl⟩) (by decide) PySem.F.sub_tuple_dict PySem.F.slot_tuple_ne_refl dne (fun _ _ _ _ hq => wpAny_isSame_ref_other hne ho hb (by simp) hq) hu,
    dctNe_r ty (show s.TypeIs (.ref b) "tuple" from ⟨_, hb, rfl⟩) (by decide) PySem.F.sub_tuple_dict PySem.F.sub_dict_tuple PySem.F.slot_tuple_ne dne (fun _ _ _ _ hq => wpAny_isSame_ref_other' hne.symm hb ho (by simp) hq) hu, fun z => hne (by injection z)⟩
theorem unl_of {o : Obj} (ho : s.heap.get? a = some o) (hc : o.cls = .type "dict") {es : Array DictEntry} {ep : Nat} (hd : o.data = .dict es ep) (hu : A.units < cLine) {x : Value} {d : PyData} {as : List Addr} (r : Reads s.heap x d as) (hp : d.plain = true) : Unl A s (.ref a) x := by
  cases r with
  | none => exact unl_NoneType ho hc hd hu
  | bool b => exact unl_bool ho hc hd hu b
  | int i t => exact unl_int ho hc hd hu i t
  | str x t => exact unl_str ho hc hd hu x t
  | list h1 h2 h3 _ => exact unl_list ho hc hd hu h1 h2 h3
  | tuple h1 h2 h3 _ => exact unl_tuple ho hc hd hu h1 h2 h3
  | dict => cases hp
theorem eqAt_l {y : Value} {k : Bool} (hne : .ref a ≠ y) (h : RcAt A s (.ref a) y k) : EqAt A s (.ref a) y k := fun prog w E Q q => by
  unfold eqBool
  refine wpAny_holding ?_
  refine wpAny_ite_split (fun z => absurd (eq_of_beq z) hne) (fun _ => ?_)
  exact wpAny_bind (h prog w E _ (wpAny_truthy_bool q))
theorem eqAt_r {x : Value} {k : Bool} (hne : x ≠ .ref a) (h : RcAt A s x (.ref a) k) : EqAt A s x (.ref a) k := fun prog w E Q q => by
  unfold eqBool
  refine wpAny_holding ?_
  refine wpAny_ite_split (fun z => absurd (eq_of_beq z) hne) (fun _ => ?_)
  cases x <;> exact wpAny_bind (h prog w E _ (wpAny_truthy_bool q))
end
end Ev
namespace Ev
open PySem PySem.Spec PyProof.Rows L2 PySem.SeqAt PySem.MeetsSeq
/-! ## == and != of data, one of the two without dicts -/
abbrev Half (d e : PyData) : Prop := d.plain = true ∨ e.plain = true
structure Cmp (A : Around) (s : Shared) (x y : Value) (b : Bool) : Prop where
  rc : RcAt A s x y b
  rn : RcNeAt A s x y (!b)
  eq : EqAt A s x y b
def CmpTo (n : Nat) : Prop := ∀ (d e : PyData) (A : Around) (s : Shared) (x y : Value) (as bs : List Addr), d.depth ≤ n → Reads s.heap x d as → Reads s.heap y e bs → Half d e → A.units + min d.depth e.depth < cLine → Cmp A s x y (PyData.eqv d e)
theorem Unl.cmp {A : Around} {s : Shared} {a : Addr} {x : Value} (h : Unl A s (.ref a) x) : Cmp A s (.ref a) x false ∧ Cmp A s x (.ref a) false := ⟨⟨h.el, h.nl, eqAt_l h.ne h.el⟩, ⟨h.er, h.nr, eqAt_r h.ne.symm h.er⟩⟩
theorem elems {n : Nat} (ih : CmpTo n) : ∀ (xs ys : List PyData) (A : Around) (s : Shared) (vs ws : List Value) (as bs : List Addr), PyData.depthAll xs ≤ n → ReadsAll s.heap vs xs as → ReadsAll s.heap ws ys bs →
    (PyData.plainAll xs = true ∨ PyData.plainAll ys = true) → A.units + min (PyData.depthAll xs) (PyData.depthAll ys) < cLine → ∀ j (h1 : j < vs.length) (h2 : j < ws.length), EqAt A s vs[j] ws[j] (pairEq xs ys j)
  | [], _, _, _, _, _, _, _, _, ra, _, _, _, j, h1, _ => by cases ra; exact (Nat.not_lt_zero _ h1).elim
  | _ :: _, [], _, _, _, _, _, _, _, _, rb, _, _, j, _, h2 => by cases rb; exact (Nat.not_lt_zero _ h2).elim
  | x :: xs, y :: ys, A, s, _, _, _, _, hn, ra, rb, hp, hu, j, h1, h2 => by
    have k1 : x.depth ≤ n := Nat.le_trans (Nat.le_max_left ..) hn
    have k2 : PyData.depthAll xs ≤ n := Nat.le_trans (Nat.le_max_right ..) hn
    have p1 : Half x y := hp.imp (fun q => by simp [PyData.plainAll] at q; exact q.1) fun q => by simp [PyData.plainAll] at q; exact q.1
    have p2 : PyData.plainAll xs = true ∨ PyData.plainAll ys = true := hp.imp (fun q => by simp [PyData.plainAll] at q; exact q.2) fun q => by simp [PyData.plainAll] at q; exact q.2
    cases ra with
    | cons r rs =>
      cases rb with
      | cons r' rs' =>
        cases j with
        | zero => exact (ih x y A s _ _ _ _ k1 r r' p1 (room_head hu)).eq
        | succ j => exact elems ih xs ys A s _ _ _ _ k2 rs rs' p2 (room_tail hu) j (Nat.lt_of_succ_lt_succ h1) (Nat.lt_of_succ_lt_succ h2)
theorem cmp_seqs {n : Nat} (ih : CmpTo n) {A : Around} {s : Shared} {l l' : Addr} {o o' : Obj} {vs ws : Array Value} {k k' : Nat} {xs ys : List PyData} {as bs : List Addr} (hn : PyData.depthAll xs ≤ n)
    (h1 : s.heap.get? l = some o) (h3 : o.data = .seq vs k) (h4 : ReadsAll s.heap vs.toList xs as) (k1 : s.heap.get? l' = some o') (k3 : o'.data = .seq ws k') (k4 : ReadsAll s.heap ws.toList ys bs)
    (hp : PyData.plainAll xs = true ∨ PyData.plainAll ys = true) (hne : l ≠ l') (hu : A.units + min (PyData.depthAll xs + 1) (PyData.depthAll ys + 1) < cLine) :
    (o.cls = .type "list" → o'.cls = .type "list" → Cmp A s (.ref l) (.ref l') (PyData.eqvAll xs ys)) ∧ (o.cls = .type "tuple" → o'.cls = .type "tuple" → Cmp A s (.ref l) (.ref l') (PyData.eqvAll xs ys)) := by
  have n1 : vs.size = xs.length := by simpa using ReadsAll.length _ _ _ h4
  have n2 : ws.size = ys.length := by simpa using ReadsAll.length _ _ _ k4
  have at_ : ∀ j (j1 : j < vs.size) (j2 : j < ws.size), EqAt A.in1 s vs[j] ws[j] (pairEq xs ys j) := fun j j1 j2 => by
    have := elems ih xs ys A.in1 s vs.toList ws.toList _ _ hn h4 k4 hp (room_in hu) j (by simpa using j1) (by simpa using j2)
    simpa using this
  refine ⟨fun h2 k2 => ?_, fun h2 k2 => ?_⟩
  · have hl : s.heap.IsList l vs := ⟨_, h1, h2, _, h3⟩
    have hl' : s.heap.IsList l' ws := ⟨_, k1, k2, _, k3⟩
    have both : RcAt A s (.ref l) (.ref l') (PyData.eqvAll xs ys) ∧ RcNeAt A s (.ref l) (.ref l') (!PyData.eqvAll xs ys) := by
      by_cases sz : vs.size = ws.size
      · rw [← eqvAll_same_length (by omega : xs.length = ys.length), ← n1]
        exact ⟨RcAt.lists hl hl' sz (room_here hu) at_, RcNeAt.lists hl hl' sz (room_here hu) at_⟩
      · rw [eqvAll_other_length (by omega : xs.length ≠ ys.length)]
        exact ⟨RcAt.lists_lengths hl hl' (by simpa using sz) (room_here hu), RcNeAt.lists_lengths hl hl' (by simpa using sz) (room_here hu)⟩
    exact ⟨both.1, both.2, EqAt.of_refs hne both.1⟩
  · have hl : s.heap.IsTuple l vs := ⟨_, h1, h2, _, h3⟩
    have hl' : s.heap.IsTuple l' ws := ⟨_, k1, k2, _, k3⟩
    have both : RcAt A s (.ref l) (.ref l') (PyData.eqvAll xs ys) ∧ RcNeAt A s (.ref l) (.ref l') (!PyData.eqvAll xs ys) := by
      rw [← eqvAll_eq xs ys, ← n1, ← n2]
      exact ⟨RcAt.tuples hl hl' (room_here hu) at_, RcNeAt.tuples hl hl' (room_here hu) at_⟩
    exact ⟨both.1, both.2, EqAt.of_refs hne both.1⟩
theorem both_plain {s : Shared} {v : Value} {d e : PyData} {as bs : List Addr} (hp : Half d e) (r1 : Reads s.heap v d as) (r2 : Reads s.heap v e bs) : d.plain = true ∧ e.plain = true := by
  rcases hp with h | h
  · have := plain_unique d e v _ _ h r1 r2
    subst this
    exact ⟨h, h⟩
  · have := plain_unique e d v _ _ h r2 r1
    subst this
    exact ⟨h, h⟩
theorem cmp_step (n : Nat) (ih : ∀ m < n, CmpTo m) : CmpTo n := by
    intro d e A s x y as bs hn ra rb hp hu
    by_cases pp : d.plain = true ∧ e.plain = true
    · exact ⟨rcAt_plain ra rb pp.1 pp.2 hu, rcNe_plain ra rb pp.1 pp.2 hu, eqAt_plain d e A s x y as bs ra rb pp.1 pp.2 hu⟩
    have rm := room_here hu
    cases ra with
    | none  =>
      cases rb with
      | none  => exact absurd ⟨rfl, rfl⟩ pp
      | bool q => exact absurd ⟨rfl, rfl⟩ pp
      | int q u => exact absurd ⟨rfl, rfl⟩ pp
      | str q u => exact absurd ⟨rfl, rfl⟩ pp
      | list k1 k2 k3 k4 => exact ⟨RcAt.none_list ⟨_, k1, k2, _, k3⟩ rm, RcNeAt.none_list ⟨_, k1, k2, _, k3⟩ rm, EqAt.none_list ⟨_, k1, k2, _, k3⟩ rm⟩
      | tuple k1 k2 k3 k4 => exact ⟨RcAt.none_tuple ⟨_, k1, k2, _, k3⟩ rm, RcNeAt.none_tuple ⟨_, k1, k2, _, k3⟩ rm, EqAt.none_tuple ⟨_, k1, k2, _, k3⟩ rm⟩
      | dict k1 k2 k3 _ _ => exact (unl_of k1 k2 k3 rm Reads.none rfl).cmp.2
    | bool p =>
      cases rb with
      | none  => exact absurd ⟨rfl, rfl⟩ pp
      | bool q => exact absurd ⟨rfl, rfl⟩ pp
      | int q u => exact absurd ⟨rfl, rfl⟩ pp
      | str q u => exact absurd ⟨rfl, rfl⟩ pp
      | list k1 k2 k3 k4 => exact ⟨RcAt.bool_list p ⟨_, k1, k2, _, k3⟩ rm, RcNeAt.bool_list p ⟨_, k1, k2, _, k3⟩ rm, EqAt.bool_list p ⟨_, k1, k2, _, k3⟩ rm⟩
      | tuple k1 k2 k3 k4 => exact ⟨RcAt.bool_tuple p ⟨_, k1, k2, _, k3⟩ rm, RcNeAt.bool_tuple p ⟨_, k1, k2, _, k3⟩ rm, EqAt.bool_tuple p ⟨_, k1, k2, _, k3⟩ rm⟩
      | dict k1 k2 k3 _ _ => exact (unl_of k1 k2 k3 rm (Reads.bool p) rfl).cmp.2
    | int p t =>
      cases rb with
      | none  => exact absurd ⟨rfl, rfl⟩ pp
      | bool q => exact absurd ⟨rfl, rfl⟩ pp
      | int q u => exact absurd ⟨rfl, rfl⟩ pp
      | str q u => exact absurd ⟨rfl, rfl⟩ pp
      | list k1 k2 k3 k4 => exact ⟨RcAt.int_list p t ⟨_, k1, k2, _, k3⟩ rm, RcNeAt.int_list p t ⟨_, k1, k2, _, k3⟩ rm, EqAt.int_list p t ⟨_, k1, k2, _, k3⟩ rm⟩
      | tuple k1 k2 k3 k4 => exact ⟨RcAt.int_tuple p t ⟨_, k1, k2, _, k3⟩ rm, RcNeAt.int_tuple p t ⟨_, k1, k2, _, k3⟩ rm, EqAt.int_tuple p t ⟨_, k1, k2, _, k3⟩ rm⟩
      | dict k1 k2 k3 _ _ => exact (unl_of k1 k2 k3 rm (Reads.int p t) rfl).cmp.2
    | str p t =>
      cases rb with
      | none  => exact absurd ⟨rfl, rfl⟩ pp
      | bool q => exact absurd ⟨rfl, rfl⟩ pp
      | int q u => exact absurd ⟨rfl, rfl⟩ pp
      | str q u => exact absurd ⟨rfl, rfl⟩ pp
      | list k1 k2 k3 k4 => exact ⟨RcAt.str_list p t ⟨_, k1, k2, _, k3⟩ rm, RcNeAt.str_list p t ⟨_, k1, k2, _, k3⟩ rm, EqAt.str_list p t ⟨_, k1, k2, _, k3⟩ rm⟩
      | tuple k1 k2 k3 k4 => exact ⟨RcAt.str_tuple p t ⟨_, k1, k2, _, k3⟩ rm, RcNeAt.str_tuple p t ⟨_, k1, k2, _, k3⟩ rm, EqAt.str_tuple p t ⟨_, k1, k2, _, k3⟩ rm⟩
      | dict k1 k2 k3 _ _ => exact (unl_of k1 k2 k3 rm (Reads.str p t) rfl).cmp.2
    | @list l o1 vs k1 xs as1 h1 h2 h3 h4 =>
      have hl : s.heap.IsList l vs := ⟨_, h1, h2, _, h3⟩
      cases rb with
      | none => exact ⟨RcAt.list_none hl rm, RcNeAt.list_none hl rm, EqAt.list_none hl rm⟩
      | bool q => exact ⟨RcAt.list_bool q hl rm, RcNeAt.list_bool q hl rm, EqAt.list_bool q hl rm⟩
      | int q u => exact ⟨RcAt.list_int q u hl rm, RcNeAt.list_int q u hl rm, EqAt.list_int q u hl rm⟩
      | str q u => exact ⟨RcAt.list_str q u hl rm, RcNeAt.list_str q u hl rm, EqAt.list_str q u hl rm⟩
      | tuple j1 j2 j3 j4 => exact ⟨RcAt.list_tuple hl ⟨_, j1, j2, _, j3⟩ rm, RcNeAt.list_tuple hl ⟨_, j1, j2, _, j3⟩ rm, EqAt.list_tuple hl ⟨_, j1, j2, _, j3⟩ rm⟩
      | dict j1 j2 j3 j4 j5 =>
        refine (unl_of j1 j2 j3 rm (Reads.list h1 h2 h3 h4) ?_).cmp.2
        exact hp.resolve_right (by simp [PyData.plain])
      | @list l2 o2 ws k2 ys bs1 j1 j2 j3 j4 =>
        have hd : PyData.depthAll xs + 1 ≤ n := hn
        have hq : PyData.plainAll xs = true ∨ PyData.plainAll ys = true := hp
        have hne : l ≠ l2 := fun z => by
          subst z
          exact pp (both_plain (s := s) hp (Reads.list h1 h2 h3 h4) (Reads.list j1 j2 j3 j4))
        have hu2 : A.units + min (PyData.depthAll xs + 1) (PyData.depthAll ys + 1) < cLine := hu
        exact (cmp_seqs (ih (n - 1) (by omega)) (by omega) h1 h3 h4 j1 j3 j4 hq hne hu2).1 h2 j2
    | @tuple l o1 vs k1 xs as1 h1 h2 h3 h4 =>
      have hl : s.heap.IsTuple l vs := ⟨_, h1, h2, _, h3⟩
      cases rb with
      | none => exact ⟨RcAt.tuple_none hl rm, RcNeAt.tuple_none hl rm, EqAt.tuple_none hl rm⟩
      | bool q => exact ⟨RcAt.tuple_bool q hl rm, RcNeAt.tuple_bool q hl rm, EqAt.tuple_bool q hl rm⟩
      | int q u => exact ⟨RcAt.tuple_int q u hl rm, RcNeAt.tuple_int q u hl rm, EqAt.tuple_int q u hl rm⟩
      | str q u => exact ⟨RcAt.tuple_str q u hl rm, RcNeAt.tuple_str q u hl rm, EqAt.tuple_str q u hl rm⟩
      | list j1 j2 j3 j4 => exact ⟨RcAt.tuple_list hl ⟨_, j1, j2, _, j3⟩ rm, RcNeAt.tuple_list hl ⟨_, j1, j2, _, j3⟩ rm, EqAt.tuple_list hl ⟨_, j1, j2, _, j3⟩ rm⟩
      | dict j1 j2 j3 j4 j5 =>
        refine (unl_of j1 j2 j3 rm (Reads.tuple h1 h2 h3 h4) ?_).cmp.2
        exact hp.resolve_right (by simp [PyData.plain])
      | @tuple l2 o2 ws k2 ys bs1 j1 j2 j3 j4 =>
        have hd : PyData.depthAll xs + 1 ≤ n := hn
        have hq : PyData.plainAll xs = true ∨ PyData.plainAll ys = true := hp
        have hne : l ≠ l2 := fun z => by
          subst z
          exact pp (both_plain (s := s) hp (Reads.tuple h1 h2 h3 h4) (Reads.tuple j1 j2 j3 j4))
        have hu2 : A.units + min (PyData.depthAll xs + 1) (PyData.depthAll ys + 1) < cLine := hu
        exact (cmp_seqs (ih (n - 1) (by omega)) (by omega) h1 h3 h4 j1 j3 j4 hq hne hu2).2 h2 j2
    | dict k1 k2 k3 k4 k5 =>
      have he : e.plain = true := hp.resolve_left (by simp [PyData.plain])
      have q := (unl_of k1 k2 k3 rm rb he).cmp.1
      cases e with
      | dict => cases he
      | _ => exact q
theorem cmp_of (n : Nat) : CmpTo n := Nat.strongRecOn n cmp_step
/-- == and != of data, one of the two without dicts -/
theorem cmp_half {d e : PyData} {A : Around} {s : Shared} {x y : Value} {as bs : List Addr} (ra : Reads s.heap x d as) (rb : Reads s.heap y e bs) (hp : Half d e) (hu : A.units + min d.depth e.depth < cLine) : Cmp A s x y (PyData.eqv d e) :=
  cmp_of d.depth d e A s x y as bs (Nat.le_refl _) ra rb hp hu
end Ev
namespace Ev
open PySem PySem.Spec PyProof.Rows L2 PySem.SeqAt PySem.MeetsSeq
/-! ## in, not in: the elements or what is looked for without dicts -/
theorem readOf_is {h : Heap} {v : Value} {d : PyData} {as : List Addr} (r : Reads h v d as) : readOf h v = d := by
  have hx : ∃ d as, Reads h v d as := ⟨d, as, r⟩
  unfold readOf
  rw [dif_pos hx]
  obtain ⟨bs, q⟩ := hx.choose_spec
  exact (q.unique _ _ r).1
theorem readsAll_of {h : Heap} : ∀ {xs : List PyData} {vs : List Value} {as : List Addr}, ReadsAll h vs xs as → vs.map (readOf h) = xs ∧ ∀ y ∈ vs, ∃ d bs, Reads h y d bs ∧ d ∈ xs ∧ d.depth ≤ PyData.depthAll xs
  | [], _, _, r => by cases r; exact ⟨rfl, fun y m => by cases m⟩
  | x :: xs, _, _, r => by
    cases r with
    | cons r1 r2 =>
      obtain ⟨q1, q2⟩ := readsAll_of r2
      refine ⟨by rw [List.map_cons, readOf_is r1, q1], fun y m => ?_⟩
      rcases List.mem_cons.mp m with rfl | m
      · exact ⟨x, _, r1, List.mem_cons_self .., Nat.le_max_left ..⟩
      · obtain ⟨d, bs, h1, h2, h3⟩ := q2 y m
        exact ⟨d, bs, h1, List.mem_cons_of_mem _ h2, Nat.le_trans h3 (Nat.le_max_right ..)⟩
theorem plainAll_mem : ∀ {xs : List PyData}, PyData.plainAll xs = true → ∀ d ∈ xs, d.plain = true
  | [], _, d, m => by cases m
  | x :: xs, h, d, m => by
    simp only [PyData.plainAll, Bool.and_eq_true] at h
    rcases List.mem_cons.mp m with rfl | m
    · exact h.1
    · exact plainAll_mem h.2 d m
section
variable {prog : Program} {w : World} {A : Around} {E : Value → Shared → Prop} {s : Shared} {x : Value} {xs : List PyData} {d : PyData} {as bs : List Addr} {vs : Array Value}
theorem items_half (rs : ReadsAll s.heap vs.toList xs as) (rx : Reads s.heap x d bs) (hp : d.plain = true ∨ PyData.plainAll xs = true) (hu : A.units + 1 + min (PyData.depthAll xs) d.depth < cLine) :
    (∀ y, y ∈ vs → EqAt A.in1 s y x (PyData.eqv (readOf s.heap y) d)) ∧ vs.any (fun y => PyData.eqv (readOf s.heap y) d) = xs.any fun y => PyData.eqv y d := by
  obtain ⟨q1, q2⟩ := readsAll_of rs
  refine ⟨fun y hy => ?_, ?_⟩
  · obtain ⟨dy, cs, ry, my, hle⟩ := q2 y (by simpa using hy)
    rw [readOf_is ry]
    refine (cmp_half ry rx (hp.elim .inr fun z => .inl (plainAll_mem z dy my)) ?_).eq
    have h1 : min dy.depth d.depth ≤ min (PyData.depthAll xs) d.depth := Nat.le_min.mpr ⟨Nat.le_trans (Nat.min_le_left _ _) hle, Nat.min_le_right _ _⟩
    show A.units + 1 + min dy.depth d.depth < cLine
    omega
  · rw [← q1, List.any_map, ← Array.any_toList]
    rfl
variable {c : Value} {Q : Value → Shared → Prop}
theorem in_half (rc : Reads s.heap c (.list xs) as ∨ Reads s.heap c (.tuple xs) as) (rx : Reads s.heap x d bs) (hp : d.plain = true ∨ PyData.plainAll xs = true) (hu : A.units + 1 + min (PyData.depthAll xs) d.depth < cLine) :
    (Q (.bool (xs.any fun y => PyData.eqv y d)) s → wpAny (model prog w) A (compareOp .In x c) Q E s) ∧ (Q (.bool (!xs.any fun y => PyData.eqv y d)) s → wpAny (model prog w) A (compareOp .NotIn x c) Q E s) := by
  rcases rc with rc | rc
  · cases rc with
    | list h1 h2 h3 h4 =>
      obtain ⟨i1, i2⟩ := items_half h4 rx hp hu
      exact ⟨fun h => in_listAt _ ⟨_, h1, h2, _, h3⟩ i1 (by rw [i2]; exact h), fun h => notIn_listAt _ ⟨_, h1, h2, _, h3⟩ i1 (by rw [i2]; exact h)⟩
  · cases rc with
    | tuple h1 h2 h3 h4 =>
      obtain ⟨i1, i2⟩ := items_half h4 rx hp hu
      exact ⟨fun h => in_tupleAt _ ⟨_, h1, h2, _, h3⟩ i1 (by rw [i2]; exact h), fun h => notIn_tupleAt _ ⟨_, h1, h2, _, h3⟩ i1 (by rw [i2]; exact h)⟩
end
/-! ## data on the heap; a dict is an empty one -/
abbrev D0 := PyData
mutual
inductive Dp (K : PySem.W.Frag) (Z : Hp) : V → PyData → Prop
  | non : Dp K Z .non .none
  | bl (t : Bool) : Dp K Z (.bl t) (.bool t)
  | int (n : Int) : Dp K Z (.int n) (.int n)
  | str (t : Str) : Dp K Z (.str t) (.str t)
  | lst {p : Addr} {us : List V} {es : List PyData} : SqL K Z p us → DpAll K Z us es → Dp K Z (.ref p) (.list es)
  | tup {p : Addr} {us : List V} {es : List PyData} : SqT K Z p us → DpAll K Z us es → Dp K Z (.ref p) (.tuple es)
  | dct {p : Addr} : Z p = some (.dK []) → Dp K Z (.ref p) (.dict [])
inductive DpAll (K : PySem.W.Frag) (Z : Hp) : List V → List PyData → Prop
  | nil : DpAll K Z [] []
  | cons {v : V} {vs : List V} {d : D0} {ds : List D0} : Dp K Z v d → DpAll K Z vs ds → DpAll K Z (v :: vs) (d :: ds)
end
section
variable {X : Cx} {pins : List (Addr × Obj)} {σ : L2.St} {Z : Hp} {s : Shared}
theorem dct_reads (I : Inv X pins σ Z s) {p : Addr} (e : Z p = some (.dK [])) : ∃ as, Reads s.heap (.ref p) (.dict []) as := by
  obtain ⟨-, -, vs, r, o, es, ep, ho, hx, hd, -, hp, -⟩ := dk_of I.hok e
  cases r
  have z : es.toList = [] := by
    cases q : es.toList with
    | nil => rfl
    | cons a l => rw [q] at hp; cases hp
  refine ⟨_, Reads.dict (kvs := []) (as := []) (bs := []) ho hx.1 hd ?_ ?_⟩
  · rw [z]; exact ReadsAll.nil
  · rw [z]; exact ReadsAll.nil
mutual
theorem Dp.reads (I : Inv X pins σ Z s) : ∀ (d : PyData) (v : V) (u : Value), Dp X.K Z v d → RelV v u → ∃ as, Reads s.heap u d as
  | .none, _, _, h, r => by cases h; cases r; exact ⟨_, .none⟩
  | .bool t, _, _, h, r => by cases h; cases r; exact ⟨_, .bool t⟩
  | .int n, _, _, h, r => by cases h; obtain ⟨k, rfl⟩ := r; exact ⟨_, .int n k⟩
  | .str t, _, _, h, r => by cases h; obtain ⟨k, rfl⟩ := r; exact ⟨_, .str t k⟩
  | .list es, _, _, h, r => by
    cases h with
    | lst q1 q2 =>
      cases r
      obtain ⟨ws, rv, ⟨o, n, h1, h2, _, h3⟩, _⟩ := I.list q1
      obtain ⟨as, q⟩ := Dp.readsAll I es _ ws q2 rv
      exact ⟨_, .list h1 h2 h3 q⟩
  | .tuple es, _, _, h, r => by
    cases h with
    | tup q1 q2 =>
      cases r
      obtain ⟨ws, rv, ⟨o, h1, h2, n, h3⟩, _⟩ := I.tuple q1
      obtain ⟨as, q⟩ := Dp.readsAll I es _ ws q2 rv
      exact ⟨_, .tuple h1 h2 h3 q⟩
  | .dict _, _, _, h, r => by
    cases h with
    | dct e => cases r; exact dct_reads I e
theorem Dp.readsAll (I : Inv X pins σ Z s) : ∀ (es : List PyData) (us : List V) (ws : List Value), DpAll X.K Z us es → Vals us ws → ∃ as, ReadsAll s.heap ws es as
  | [], _, _, h, r => by cases h; cases r; exact ⟨_, .nil⟩
  | d :: es, _, _, h, r => by
    cases h with
    | cons q1 q2 =>
      cases r with
      | cons r1 r2 =>
        obtain ⟨as, h1⟩ := Dp.reads I d _ _ q1 r1
        obtain ⟨bs, h2⟩ := Dp.readsAll I es _ _ q2 r2
        exact ⟨_, .cons h1 h2⟩
end
end
end Ev
namespace Ev
open PySem PySem.Spec PyProof.Rows L2
/-! ## data, slots -/
abbrev D := PyData
inductive Sl where
  | no | val (d : D) | own (ds : List D) | par (ds : List D) | mat (dss : List (List D))
inductive R where
  | val (d : D) | fresh (ds : List D) | mat (dss : List (List D))
inductive AV where
  | val (d : D) | own (ds : List D)
abbrev En := List Sl
section
variable (K : PySem.W.Frag)
/-- a new list of new lists: its rows, all apart -/
inductive RowsOk (F Z H : Hp) : List V → List (List D) → List Addr → Prop where
  | nil : RowsOk F Z H [] [] []
  | cons {b : Addr} {ws us : List V} {ds : List D} {dss : List (List D)} {bs : List Addr} : H b = some (.lst ws) → F b = none → Z b = none → DpAll K Z ws ds → b ∉ bs → RowsOk F Z H us dss bs → RowsOk F Z H (.ref b :: us) (ds :: dss) (b :: bs)
inductive SlOk (F Z H : Hp) (pa : Nat → Option Addr) (i : Nat) : Option V → Sl → Prop where
  | no (o : Option V) : SlOk F Z H pa i o .no
  | val {v : V} {d : D} : Dp K Z v d → SlOk F Z H pa i (some v) (.val d)
  | own {a : Addr} {us : List V} {ds : List D} : H a = some (.lst us) → F a = none → Z a = none → DpAll K Z us ds → SlOk F Z H pa i (some (.ref a)) (.own ds)
  | par {a : Addr} {us : List V} {ds : List D} : pa i = some a → H a = some (.lst us) → F a = none → Z a = none → DpAll K Z us ds → SlOk F Z H pa i (some (.ref a)) (.par ds)
  | mat {a : Addr} {us : List V} {dss : List (List D)} {bs : List Addr} : H a = some (.lst us) → F a = none → Z a = none → RowsOk K F Z H us dss bs → a ∉ bs → SlOk F Z H pa i (some (.ref a)) (.mat dss)
end
/-- what a slot owns -/
def Ow (H : Hp) : Option V → Sl → Addr → Prop
  | some (.ref a), .own _, b => b = a
  | some (.ref a), .par _, b => b = a
  | some (.ref a), .mat _, b => b = a ∨ ∃ us, H a = some (.lst us) ∧ V.ref b ∈ us
  | _, _, _ => False
theorem Ow.no {H : Hp} {o : Option V} {a : Addr} (h : Ow H o .no a) : False := by
  cases o with
  | none => exact h
  | some v => cases v <;> exact h
theorem Ow.val {H : Hp} {o : Option V} {d : D} {a : Addr} (h : Ow H o (.val d) a) : False := by
  cases o with
  | none => exact h
  | some v => cases v <;> exact h
theorem Ow.own {H : Hp} {o : Option V} {ds : List D} {a : Addr} (h : Ow H o (.own ds) a) : o = some (.ref a) := by
  cases o with
  | none => exact h.elim
  | some v => cases v <;> first | exact (show _ = _ from h) ▸ rfl | exact h.elim
theorem Ow.par {H : Hp} {o : Option V} {ds : List D} {a : Addr} (h : Ow H o (.par ds) a) : o = some (.ref a) := by
  cases o with
  | none => exact h.elim
  | some v => cases v <;> first | exact (show _ = _ from h) ▸ rfl | exact h.elim
theorem RowsOk.mono {K : PySem.W.Frag} {F Z H F' Z' H' : Hp} {us : List V} {dss : List (List D)} {bs : List Addr} (h : RowsOk K F Z H us dss bs) (hd : ∀ ws ds, DpAll K Z ws ds → DpAll K Z' ws ds) (hh : ∀ a ∈ bs, ∀ u, H a = some u → H' a = some u) (ff : ∀ a ∈ bs, F a = none → F' a = none) (nw : ∀ a ∈ bs, Z' a = Z a) : RowsOk K F' Z' H' us dss bs := by
  induction h with
  | nil => exact .nil
  | cons h1 h2 h3 h4 h5 _ ih =>
    exact .cons (hh _ (List.mem_cons_self ..) _ h1) (ff _ (List.mem_cons_self ..) h2) ((nw _ (List.mem_cons_self ..)).trans h3) (hd _ _ h4) h5 (ih (fun a m => hh a (List.mem_cons_of_mem _ m)) (fun a m => ff a (List.mem_cons_of_mem _ m)) fun a m => nw a (List.mem_cons_of_mem _ m))
theorem RowsOk.mem {K : PySem.W.Frag} {F Z H : Hp} {us : List V} {dss : List (List D)} {bs : List Addr} (h : RowsOk K F Z H us dss bs) {a : Addr} (m : a ∈ bs) : V.ref a ∈ us ∧ (∃ ws, H a = some (.lst ws)) ∧ F a = none ∧ Z a = none := by
  induction h with
  | nil => cases m
  | cons h1 h2 h3 _ _ _ ih =>
    rcases List.mem_cons.mp m with rfl | m
    · exact ⟨List.mem_cons_self .., ⟨_, h1⟩, h2, h3⟩
    · obtain ⟨q1, q2⟩ := ih m
      exact ⟨List.mem_cons_of_mem _ q1, q2⟩
theorem RowsOk.ref {K : PySem.W.Frag} {F Z H : Hp} {us : List V} {dss : List (List D)} {bs : List Addr} (h : RowsOk K F Z H us dss bs) {a : Addr} (m : V.ref a ∈ us) : a ∈ bs := by
  induction h with
  | nil => cases m
  | cons _ _ _ _ _ _ ih =>
    rcases List.mem_cons.mp m with e | m
    · cases e; exact List.mem_cons_self ..
    · exact List.mem_cons_of_mem _ (ih m)
mutual
theorem Dp.mono {K : PySem.W.Frag} {Z Z' : Hp} (s : Same Z Z') : ∀ (d : D) (v : V), Dp K Z v d → Dp K Z' v d
  | .none, _, h => by cases h; exact .non
  | .bool b, _, h => by cases h; exact .bl b
  | .int i, _, h => by cases h; exact .int i
  | .str x, _, h => by cases h; exact .str x
  | .list ds, _, h => by
    cases h with
    | lst hs ha => exact .lst (s.seq hs) (DpAll.mono s ds _ ha)
  | .tuple ds, _, h => by
    cases h with
    | tup hs ha =>
      refine .tup ?_ (DpAll.mono s ds _ ha)
      rcases hs with (h | ⟨o, h⟩) | h
      · exact .inl (.inl (s _ _ h))
      · exact .inl (.inr ⟨o, s _ _ h⟩)
      · exact .inr h
  | .dict _, _, h => by
    cases h with
    | dct q => exact .dct (s _ _ q)
theorem DpAll.mono {K : PySem.W.Frag} {Z Z' : Hp} (s : Same Z Z') : ∀ (ds : List D) (vs : List V), DpAll K Z vs ds → DpAll K Z' vs ds
  | [], _, h => by cases h; exact .nil
  | d :: ds, _, h => by
    cases h with
    | cons h1 h2 => exact .cons (Dp.mono s d _ h1) (DpAll.mono s ds _ h2)
end
theorem da_length {K : PySem.W.Frag} {Z : Hp} : ∀ {vs : List V} {ds : List D}, DpAll K Z vs ds → vs.length = ds.length
  | _, _, .nil => rfl
  | _, _, .cons _ h => congrArg Nat.succ (da_length h)
theorem da_get {K : PySem.W.Frag} {Z : Hp} : ∀ {vs : List V} {ds : List D} {i : Nat} {d : D}, DpAll K Z vs ds → ds[i]? = some d → ∃ v, vs[i]? = some v ∧ Dp K Z v d
  | _, _, _, _, .nil, e => by simp at e
  | _, _, 0, d, .cons h _, e => by simp at e; subst e; exact ⟨_, rfl, h⟩
  | _, _, i + 1, d, .cons _ t, e => by
    obtain ⟨v, h1, h2⟩ := da_get (i := i) (d := d) t (by simpa using e)
    exact ⟨v, by simpa using h1, h2⟩
theorem da_getV {K : PySem.W.Frag} {Z : Hp} {vs : List V} {ds : List D} {i : Nat} {v : V} (h : DpAll K Z vs ds) (e : vs[i]? = some v) : ∃ d, ds[i]? = some d ∧ Dp K Z v d := by
  have hl := da_length h
  have hi : i < vs.length := (List.getElem?_eq_some_iff.mp e).1
  obtain ⟨w, h1, h2⟩ := da_get (i := i) (d := ds[i]'(by omega)) h (by simp [show i < ds.length by omega])
  rw [e] at h1; cases h1
  exact ⟨_, by simp [show i < ds.length by omega], h2⟩
theorem da_append {K : PySem.W.Frag} {Z : Hp} : ∀ {vs ws : List V} {ds es : List D}, DpAll K Z vs ds → DpAll K Z ws es → DpAll K Z (vs ++ ws) (ds ++ es)
  | _, _, _, _, .nil, h => h
  | _, _, _, _, .cons a b, h => .cons a (da_append b h)
theorem da_take {K : PySem.W.Frag} {Z : Hp} : ∀ {vs : List V} {ds : List D} (n : Nat), DpAll K Z vs ds → DpAll K Z (vs.take n) (ds.take n)
  | _, _, 0, _ => .nil
  | _, _, _ + 1, .nil => .nil
  | _, _, n + 1, .cons a b => .cons a (da_take n b)
theorem da_drop {K : PySem.W.Frag} {Z : Hp} : ∀ {vs : List V} {ds : List D} (n : Nat), DpAll K Z vs ds → DpAll K Z (vs.drop n) (ds.drop n)
  | _, _, 0, h => h
  | _, _, _ + 1, .nil => .nil
  | _, _, n + 1, .cons _ b => da_drop n b
theorem da_set {K : PySem.W.Frag} {Z : Hp} {v : V} {d : D} (q : Dp K Z v d) : ∀ {vs : List V} {ds : List D} (i : Nat), DpAll K Z vs ds → DpAll K Z (vs.set i v) (ds.set i d)
  | _, _, _, .nil => .nil
  | _, _, 0, .cons _ b => .cons q b
  | _, _, i + 1, .cons a b => .cons a (da_set q i b)
theorem da_reverse {K : PySem.W.Frag} {Z : Hp} : ∀ {vs : List V} {ds : List D}, DpAll K Z vs ds → DpAll K Z vs.reverse ds.reverse
  | _, _, .nil => .nil
  | _, _, .cons a b => by
    rw [List.reverse_cons, List.reverse_cons]
    exact da_append (da_reverse b) (.cons a .nil)
/-! ## the state -/
/-- Z, the frozen part, grows; what stands in the frame F is not newly frozen -/
structure Gr (F Z Z' : Hp) : Prop where
  zz : Same Z Z'
  nf : ∀ b, F b ≠ none → Z' b = Z b
theorem Gr.refl (F Z : Hp) : Gr F Z Z := ⟨Same.refl _, fun _ _ => rfl⟩
theorem Gr.trans {F Z Z1 Z2 : Hp} (a : Gr F Z Z1) (b : Gr F Z1 Z2) : Gr F Z Z2 := ⟨a.zz.trans b.zz, fun c h => (b.nf c h).trans (a.nf c h)⟩
/-- new objects that are frozen at once -/
structure Alc (Z H Z' H' : Hp) : Prop where
  zz : Same Z Z'
  hh : Same H H'
  zh : Same Z' H'
  nw : ∀ b, H b ≠ none → Z' b = Z b
theorem Alc.refl {Z H : Hp} (h : Same Z H) : Alc Z H Z H := ⟨Same.refl _, Same.refl _, h, fun _ _ => rfl⟩
theorem Alc.trans {Z H Z1 H1 Z2 H2 : Hp} (a : Alc Z H Z1 H1) (b : Alc Z1 H1 Z2 H2) : Alc Z H Z2 H2 :=
  ⟨a.zz.trans b.zz, a.hh.trans b.hh, b.zh, fun c h => (b.nw c (by
    cases q : H c with
    | none => exact absurd q h
    | some o => rw [a.hh c o q]; exact fun z => nomatch z)).trans (a.nw c h)⟩
theorem upd_none {H : Hp} {p : Addr} {o : HO} (h : H p = none) : Same H (upd H p o) := fun b u e => by
  rw [upd_ne (ne_of_none e h)]; exact e
theorem Same.none {Z H : Hp} (s : Same Z H) {p : Addr} (h : H p = none) : Z p = none := s.free h
theorem Alc.new {Z H : Hp} {p : Addr} {o : HO} (zh : Same Z H) (h : H p = none) : Alc Z H (upd Z p o) (upd H p o) := by
  refine ⟨upd_none (zh.free h), upd_none h, fun b u e => ?_, fun b hb => ?_⟩
  · by_cases q : b = p
    · subst q; rw [upd_same] at e ⊢; exact e
    · rw [upd_ne q] at e ⊢; exact zh b u e
  · exact upd_ne (fun q => hb (by rw [q]; exact h))
structure Wst (K : PySem.W.Frag) (F Z H : Hp) (pa : Nat → Option Addr) (σ : L2.St) (env : En) : Prop where
  fh : Same F H
  zh : Same Z H
  len : σ.length = env.length
  sl : ∀ (i : Nat) (o : Option V) (s : Sl), σ[i]? = some o → env[i]? = some s → SlOk K F Z H pa i o s
  dj : ∀ (i j : Nat) (o o' : Option V) (s s' : Sl) (a : Addr), i ≠ j → σ[i]? = some o → env[i]? = some s → σ[j]? = some o' → env[j]? = some s' → Ow H o s a → Ow H o' s' a → False
section
variable {K : PySem.W.Frag} {F Z Z' H H' : Hp} {pa : Nat → Option Addr} {σ : L2.St} {env : En}
theorem SlOk.mono {i : Nat} {o : Option V} {s : Sl} (h : SlOk K F Z H pa i o s) (zz : Same Z Z') (hh : ∀ a u, Ow H o s a → H a = some u → H' a = some u) (nw : ∀ a, Ow H o s a → Z' a = Z a) : SlOk K F Z' H' pa i o s := by
  cases h with
  | no => exact .no _
  | val d => exact .val (Dp.mono zz _ _ d)
  | own a b c d => exact .own (hh _ _ rfl a) b ((nw _ rfl).trans c) (DpAll.mono zz _ _ d)
  | par p a b c d => exact .par p (hh _ _ rfl a) b ((nw _ rfl).trans c) (DpAll.mono zz _ _ d)
  | mat a b c d e => exact .mat (hh _ _ (.inl rfl) a) b ((nw _ (.inl rfl)).trans c) (d.mono (fun ws ds => DpAll.mono zz ds ws) (fun x m u => hh x u (.inr ⟨_, a, (d.mem m).1⟩)) (fun _ _ h => h) fun x m => nw x (.inr ⟨_, a, (d.mem m).1⟩)) e
theorem SlOk.at_ {i : Nat} {o : Option V} {s : Sl} {a : Addr} (h : SlOk K F Z H pa i o s) (e : Ow H o s a) : ∃ us, H a = some (.lst us) ∧ F a = none ∧ Z a = none := by
  cases h with
  | no => exact e.no.elim
  | val d => exact e.val.elim
  | own h1 h2 h3 h4 => cases e.own; exact ⟨_, h1, h2, h3⟩
  | par h0 h1 h2 h3 h4 => cases e.par; exact ⟨_, h1, h2, h3⟩
  | mat h1 h2 h3 h4 h5 =>
    rcases e with rfl | ⟨us, e1, e2⟩
    · exact ⟨_, h1, h2, h3⟩
    · rw [h1] at e1; cases e1
      obtain ⟨_, ⟨ws, q1⟩, q2, q3⟩ := h4.mem (h4.ref e2)
      exact ⟨_, q1, q2, q3⟩
/-- what a slot owns behind a step it owned ahead of it -/
theorem SlOk.back {i : Nat} {o : Option V} {s : Sl} {a : Addr} (h : SlOk K F Z H pa i o s) (hh : ∀ a u, Ow H o s a → H a = some u → H' a = some u) (e : Ow H' o s a) : Ow H o s a := by
  cases h with
  | no => exact e.no.elim
  | val d => exact e.val.elim
  | own h1 h2 h3 h4 => exact e
  | par h0 h1 h2 h3 h4 => exact e
  | mat h1 h2 h3 h4 h5 =>
    rcases e with rfl | ⟨us, e1, e2⟩
    · exact .inl rfl
    · rw [hh _ _ (.inl rfl) h1] at e1; cases e1
      exact .inr ⟨_, h1, e2⟩
theorem Wst.alc (W : Wst K F Z H pa σ env) (a : Alc Z H Z' H') : Wst K F Z' H' pa σ env := by
  refine ⟨W.fh.trans a.hh, a.zh, W.len, fun i o s e1 e2 => ?_, fun i j o o' s s' b ne e1 e2 e3 e4 o1 o2 => ?_⟩
  · have q := W.sl i o s e1 e2
    refine q.mono a.zz (fun b u _ h => a.hh b u h) fun b hb => ?_
    obtain ⟨us, h1, _, _⟩ := q.at_ hb
    exact a.nw b (by rw [h1]; exact fun z => nomatch z)
  · exact W.dj i j o o' s s' b ne e1 e2 e3 e4 ((W.sl i o s e1 e2).back (fun b u _ h => a.hh b u h) o1) ((W.sl j o' s' e3 e4).back (fun b u _ h => a.hh b u h) o2)
theorem Alc.gr (a : Alc Z H Z' H') (f : Same F H) : Gr F Z Z' := ⟨a.zz, fun b hb => a.nw b fun z => hb (f.free z)⟩
/-- a smaller frame -/
theorem Wst.frame {F1 : Hp} (W : Wst K F1 Z H pa σ env) (f : Same F F1) : Wst K F Z H pa σ env := by
  refine ⟨f.trans W.fh, W.zh, W.len, fun i o s e1 e2 => ?_, W.dj⟩
  cases W.sl i o s e1 e2 with
  | no => exact .no _
  | val d => exact .val d
  | own a b c d => exact .own a (f.free b) c d
  | par p a b c d => exact .par p a (f.free b) c d
  | mat a b c d e => exact .mat a (f.free b) c (d.mono (fun _ _ h => h) (fun _ _ _ h => h) (fun _ _ h => f.free h) fun _ _ => rfl) e
theorem Gr.frame {F1 : Hp} (g : Gr F1 Z Z') (f : Same F F1) : Gr F Z Z' := ⟨g.zz, fun b hb => g.nf b fun z => hb (f.free z)⟩
/-- a greater frame: one object more, which is no slot's own -/
theorem Wst.frameUp {p : Addr} {o : HO} (W : Wst K F Z H pa σ env) (hp : H p = some o) (hn : ∀ (i : Nat) (v : Option V) (s : Sl), σ[i]? = some v → env[i]? = some s → ¬ Ow H v s p) : Wst K (upd F p o) Z H pa σ env := by
  refine ⟨fun b u e => ?_, W.zh, W.len, fun i v s e1 e2 => ?_, W.dj⟩
  · by_cases q : b = p
    · subst q; rw [upd_same] at e; cases e; exact hp
    · rw [upd_ne q] at e; exact W.fh b u e
  · have nn := hn i _ _ e1 e2
    cases W.sl i v s e1 e2 with
    | no => exact .no _
    | val d => exact .val d
    | own a b c d => exact .own a (by rw [upd_ne (fun q => nn (by rw [← q]; exact rfl))]; exact b) c d
    | par z a b c d => exact .par z a (by rw [upd_ne (fun q => nn (by rw [← q]; exact rfl))]; exact b) c d
    | mat a b c d e => exact .mat a (by rw [upd_ne (fun q => nn (by rw [← q]; exact .inl rfl))]; exact b) c (d.mono (fun _ _ h => h) (fun _ _ _ h => h) (fun x m h => by rw [upd_ne (fun q => nn (by rw [← q]; exact .inr ⟨_, a, (d.mem m).1⟩))]; exact h) fun _ _ => rfl) e
theorem same_upd_none {p : Addr} {o : HO} (h : F p = none) : Same F (upd F p o) := upd_none h
/-- a slot set to a frozen value -/
theorem Wst.set {i : Nat} {v : V} {d : D} (W : Wst K F Z H pa σ env) (h : Dp K Z v d) : Wst K F Z H pa (σ.set i (some v)) (env.set i (.val d)) := by
  refine ⟨W.fh, W.zh, by simp [W.len], fun j o s e1 e2 => ?_, fun j k o o' s s' a ne e1 e2 e3 e4 o1 o2 => ?_⟩
  · by_cases hj : i = j
    · subst hj
      by_cases hl : i < σ.length
      · rw [List.getElem?_set_self hl] at e1
        rw [List.getElem?_set_self (by rw [← W.len]; exact hl)] at e2
        cases e1; cases e2
        exact .val h
      · rw [List.getElem?_eq_none (by simpa using hl)] at e1; cases e1
    · rw [List.getElem?_set_ne hj] at e1 e2
      exact W.sl j o s e1 e2
  · have key : ∀ {j : Nat} {o : Option V} {s : Sl}, (σ.set i (some v))[j]? = some o → (env.set i (.val d))[j]? = some s → Ow H o s a → σ[j]? = some o ∧ env[j]? = some s := by
      intro j o s e1 e2 o1
      by_cases hj : i = j
      · subst hj
        by_cases hl : i < σ.length
        · rw [List.getElem?_set_self (by rw [← W.len]; exact hl)] at e2
          cases e2
          exact o1.val.elim
        · rw [List.getElem?_eq_none (by simpa using hl)] at e1; cases e1
      · rw [List.getElem?_set_ne hj] at e1 e2
        exact ⟨e1, e2⟩
    obtain ⟨a1, a2⟩ := key e1 e2 o1
    obtain ⟨b1, b2⟩ := key e3 e4 o2
    exact W.dj j k o o' s s' a ne a1 a2 b1 b2 o1 o2
end
end Ev
namespace Ev
open PySem PySem.Spec PyProof.Rows L2
/-! ## readings by evaluation -/
def RkOk (K : PySem.W.Frag) (F Z H : Hp) (σ : L2.St) (env : En) (v : V) : R → Prop
  | .val d => Dp K Z v d
  | .fresh ds => ∃ p us, v = .ref p ∧ H p = some (.lst us) ∧ Z p = none ∧ F p = none ∧ DpAll K Z us ds ∧ ∀ (i : Nat) (o : Option V) (s : Sl), σ[i]? = some o → env[i]? = some s → ¬ Ow H o s p
  | .mat dss => ∃ p us bs, v = .ref p ∧ H p = some (.lst us) ∧ Z p = none ∧ F p = none ∧ RowsOk K F Z H us dss bs ∧ p ∉ bs ∧ ∀ q, (q = p ∨ q ∈ bs) → ∀ (i : Nat) (o : Option V) (s : Sl), σ[i]? = some o → env[i]? = some s → ¬ Ow H o s q
abbrev Fx (α : Type) := En → Option (α × En)
/-- an expression that gives a datum -/
def tE (K : PySem.W.Frag) (f : Fx D) : TE := fun σ H Q => ∃ F pa Z env d env', Wst K F Z H pa σ env ∧ f env = some (d, env') ∧
  ∀ v Z' H', Gr F Z Z' → Wst K F Z' H' pa σ env' → Dp K Z' v d → Q v H'
/-- an expression that gives a datum or a new list -/
def tR (K : PySem.W.Frag) (f : Fx R) : TE := fun σ H Q => ∃ F pa Z env r env', Wst K F Z H pa σ env ∧ f env = some (r, env') ∧
  ∀ v Z' H', Gr F Z Z' → Wst K F Z' H' pa σ env' → RkOk K F Z' H' σ env' v r → Q v H'
/-- a test -/
def tT (K : PySem.W.Frag) (f : Fx Bool) : TT := fun σ H Q => ∃ F pa Z env b env', Wst K F Z H pa σ env ∧ f env = some (b, env') ∧
  ∀ Z' H', Gr F Z Z' → Wst K F Z' H' pa σ env' → Q b H'
theorem PE.imp {X : Cx} {e : Expr} {t t' : TE} (h : PE X e t) (m : ∀ σ H Q, t' σ H Q → t σ H Q) : PE X e t' := ⟨fun pins s σ H Q I q => h.run pins s σ H Q I (m σ H Q q)⟩
theorem PT.imp {X : Cx} {e : Expr} {t t' : TT} (h : PT X e t) (m : ∀ σ H Q, t' σ H Q → t σ H Q) : PT X e t' := ⟨fun pins s σ H Q I q => h.run pins s σ H Q I (m σ H Q q)⟩
theorem PW.imp {X : Cx} {e : Expr} {t t' : TT} (h : PW X e t) (m : ∀ σ H Q, t' σ H Q → t σ H Q) : PW X e t' := ⟨fun w pins s σ H Q I q => h.run w pins s σ H Q I (m σ H Q q)⟩
theorem PS.imp {X : Cx} {e : Stmt} {t t' : TS} (h : PS X e t) (m : ∀ D σ H, t' D σ H → t D σ H) : PS X e t' := ⟨fun pins s σ H D I q => h.run pins s σ H D I (m D σ H q)⟩
theorem PSs.imp {X : Cx} {e : List Stmt} {t t' : TS} (h : PSs X e t) (m : ∀ D σ H, t' D σ H → t D σ H) : PSs X e t' := ⟨fun pins s σ H D I q => h.run pins s σ H D I (m D σ H q)⟩
theorem PA.imp {X : Cx} {e : List Expr} {t t' : TA} (h : PA X e t) (m : ∀ σ H Q, t' σ H Q → t σ H Q) : PA X e t' := ⟨fun pos pins s σ H Q I q => h.run pos pins s σ H Q I (m σ H Q q)⟩
/-! ### slots read -/
def eVar (i : Nat) : Fx D := fun env => match env[i]? with
  | some (.val d) => some (d, env)
  | some (.own ds) => some (.list ds, env.set i (.val (.list ds)))
  | some (.mat dss) => some (.list (dss.map PyData.list), env.set i (.val (.list (dss.map PyData.list))))
  | _ => none
/-- what a slot owns is frozen for good -/
theorem Wst.frzTo {K : PySem.W.Frag} {F Z Z' H : Hp} {pa : Nat → Option Addr} {σ : L2.St} {env : En} {i : Nat} {d : D} {v : V} {s : Sl} {own : Addr → Prop}
    (W : Wst K F Z H pa σ env) (h0 : σ[i]? = some (some v)) (he : env[i]? = some s) (zz : Same Z Z') (zh : Same Z' H) (nw : ∀ b, ¬ own b → Z' b = Z b) (hs : ∀ b, own b → Ow H (some v) s b) (dp : Dp K Z' v d) :
    Gr F Z Z' ∧ Wst K F Z' H pa σ (env.set i (.val d)) := by
  have hi : i < env.length := (List.getElem?_eq_some_iff.mp he).1
  have nw' : ∀ b, ¬ Ow H (some v) s b → Z' b = Z b := fun b hb => nw b fun z => hb (hs b z)
  have key : ∀ {j : Nat} {o : Option V} {s1 : Sl} {b : Addr}, (env.set i (.val d))[j]? = some s1 → Ow H o s1 b → env[j]? = some s1 ∧ i ≠ j := by
    intro j o s1 b e2 o1
    by_cases hj : i = j
    · subst hj
      rw [List.getElem?_set_self hi] at e2; cases e2
      exact o1.val.elim
    · rw [List.getElem?_set_ne hj] at e2; exact ⟨e2, hj⟩
  refine ⟨⟨zz, fun b hb => nw' b fun q => ?_⟩, ⟨W.fh, zh, by simp [W.len], fun j o s1 e1 e2 => ?_, fun j k o o' s1 s' b ne e1 e2 e3 e4 o1 o2 => ?_⟩⟩
  · obtain ⟨_, _, q2, _⟩ := (W.sl i _ s h0 he).at_ q
    exact hb q2
  · by_cases hj : i = j
    · subst hj
      rw [h0] at e1; cases e1
      rw [List.getElem?_set_self hi] at e2; cases e2
      exact .val dp
    · rw [List.getElem?_set_ne hj] at e2
      exact (W.sl j o s1 e1 e2).mono zz (fun _ _ _ q => q) fun b hb => nw' b fun q => W.dj j i o _ s1 s b (Ne.symm hj) e1 e2 h0 he hb q
  · exact W.dj j k o o' s1 s' b ne e1 (key e2 o1).1 e3 (key e4 o2).1 o1 o2
/-- rows that are frozen -/
def zAdd (Z H : Hp) (l : List Addr) : Hp := fun b => if b ∈ l then H b else Z b
theorem zAdd_in {Z H : Hp} {l : List Addr} {b : Addr} (h : b ∈ l) : zAdd Z H l b = H b := if_pos h
theorem zAdd_out {Z H : Hp} {l : List Addr} {b : Addr} (h : b ∉ l) : zAdd Z H l b = Z b := if_neg h
theorem zAdd_zh {Z H : Hp} {l : List Addr} (zh : Same Z H) : Same (zAdd Z H l) H := fun b u e => by
  by_cases h : b ∈ l
  · rw [zAdd_in h] at e; exact e
  · rw [zAdd_out h] at e; exact zh b u e
theorem zAdd_zz {Z H : Hp} {l : List Addr} (zh : Same Z H) : Same Z (zAdd Z H l) := fun b u e => by
  by_cases h : b ∈ l
  · rw [zAdd_in h]; exact zh b u e
  · rw [zAdd_out h]; exact e
theorem rows_da {K : PySem.W.Frag} {F Z H : Hp} {l : List Addr} (zh : Same Z H) {us : List V} {dss : List (List D)} {bs : List Addr} (h : RowsOk K F Z H us dss bs) (hl : ∀ b ∈ bs, b ∈ l) : DpAll K (zAdd Z H l) us (dss.map PyData.list) := by
  induction h with
  | nil => exact .nil
  | cons h1 h2 h3 h4 h5 _ ih =>
    refine .cons (.lst (SqL.of ?_) (DpAll.mono (zAdd_zz zh) _ _ h4)) (ih fun b m => hl b (List.mem_cons_of_mem _ m))
    rw [zAdd_in (hl _ (List.mem_cons_self ..))]
    exact h1
theorem mat_dp {K : PySem.W.Frag} {F Z H : Hp} {a : Addr} (zh : Same Z H) {us : List V} {dss : List (List D)} {bs : List Addr} (ha : H a = some (.lst us)) (h : RowsOk K F Z H us dss bs) : Dp K (zAdd Z H (a :: bs)) (.ref a) (.list (dss.map PyData.list)) :=
  .lst (SqL.of (by rw [zAdd_in (List.mem_cons_self ..)]; exact ha)) (rows_da zh h fun b m => List.mem_cons_of_mem _ m)
/-- an own list is frozen for good -/
theorem Wst.frz {K : PySem.W.Frag} {F Z H : Hp} {pa : Nat → Option Addr} {σ : L2.St} {env : En} {i : Nat} {ds : List D} {a : Addr} {us : List V}
    (W : Wst K F Z H pa σ env) (h0 : σ[i]? = some (some (.ref a))) (he : env[i]? = some (.own ds)) (h1 : H a = some (.lst us)) (h2 : F a = none) (h3 : Z a = none) (h4 : DpAll K Z us ds) :
    Gr F Z (upd Z a (.lst us)) ∧ Wst K F (upd Z a (.lst us)) H pa σ (env.set i (.val (.list ds))) ∧ Dp K (upd Z a (.lst us)) (.ref a) (.list ds) := by
  have zz : Same Z (upd Z a (.lst us)) := upd_none h3
  have dp : Dp K (upd Z a (.lst us)) (.ref a) (.list ds) := .lst (SqL.of upd_same) (DpAll.mono zz _ _ h4)
  have z' : Same (upd Z a (.lst us)) H := fun b u e => by
    by_cases q : b = a
    · subst q; rw [upd_same] at e; cases e; exact h1
    · rw [upd_ne q] at e; exact W.zh b u e
  obtain ⟨g, w⟩ := W.frzTo (Z' := upd Z a (.lst us)) (own := fun b => b = a) h0 he zz z' (fun b hb => upd_ne hb) (fun b e => e) dp
  exact ⟨g, w, dp⟩
theorem Wst.get {K : PySem.W.Frag} {F Z H : Hp} {pa : Nat → Option Addr} {σ : L2.St} {env : En} {i : Nat} {s : Sl} (W : Wst K F Z H pa σ env) (he : env[i]? = some s) : ∃ o, σ[i]? = some o ∧ SlOk K F Z H pa i o s := by
  have hi : i < env.length := (List.getElem?_eq_some_iff.mp he).1
  have e : σ[i]? = some (σ[i]'(by rw [W.len]; exact hi)) := by simp [W.len, hi]
  exact ⟨_, e, W.sl i _ s e he⟩
section
variable {X : Cx}
theorem s_var {i : Nat} {x : Str} {pos : Pos} (h : PE X (.Name x pos) (tVar i)) : PE X (.Name x pos) (tE X.K (eVar i)) := by
  refine PE.imp h fun σ H Q ⟨F, pa, Z, env, d, env', W, e, k⟩ => ?_
  unfold eVar at e
  cases he : env[i]? with
  | none => rw [he] at e; cases e
  | some s =>
    rw [he] at e
    obtain ⟨o, eo, so⟩ := W.get he
    cases so with
    | no => cases e
    | par => cases e
    | val dp => cases e; exact ⟨_, eo, k _ _ _ (.refl ..) W dp⟩
    | own h1 h2 h3 h4 =>
      cases e
      obtain ⟨g, W', dp⟩ := W.frz eo he h1 h2 h3 h4
      exact ⟨_, eo, k _ _ _ g W' dp⟩
    | @mat a us dss bs h1 h2 h3 h4 h5 =>
      cases e
      have dp := mat_dp W.zh h1 h4
      obtain ⟨g, w⟩ := W.frzTo (own := fun b => b ∈ a :: bs) eo he (zAdd_zz W.zh) (zAdd_zh W.zh) (fun b hb => zAdd_out hb) (fun b m => (List.mem_cons.mp m).elim .inl fun m => .inr ⟨_, h1, (h4.mem m).1⟩) dp
      exact ⟨_, eo, k _ _ _ g w dp⟩
def eC (d : D) : Fx D := fun env => some (d, env)
theorem s_const {e : Expr} {v : V} {d : D} (h : PE X e (tC v)) (q : ∀ Z, Dp X.K Z v d) : PE X e (tE X.K (eC d)) := by
  refine PE.imp h fun σ H Q ⟨F, pa, Z, env, d', env', W, e, k⟩ => ?_
  cases e
  exact k _ _ _ (.refl ..) W (q _)
/-- a new list, frozen -/
def fzR : R × En → D × En
  | (.val d, e) => (d, e)
  | (.fresh ds, e) => (.list ds, e)
  | (.mat dss, e) => (.list (dss.map PyData.list), e)
def eFz (f : Fx R) : Fx D := fun env => (f env).map fzR
def rV (f : Fx D) : Fx R := fun env => (f env).map fun p => (.val p.1, p.2)
/-- objects that no slot owns are frozen -/
theorem Wst.frzN {K : PySem.W.Frag} {F Z Z' H : Hp} {pa : Nat → Option Addr} {σ : L2.St} {env : En} (W : Wst K F Z H pa σ env) (zz : Same Z Z') (zh : Same Z' H) (nw : ∀ (i : Nat) (o : Option V) (s : Sl), σ[i]? = some o → env[i]? = some s → ∀ b, Ow H o s b → Z' b = Z b) : Wst K F Z' H pa σ env :=
  ⟨W.fh, zh, W.len, fun j o s e1 e2 => (W.sl j o s e1 e2).mono zz (fun _ _ _ q => q) fun b hb => nw j o s e1 e2 b hb, W.dj⟩
theorem Wst.frzNew {K : PySem.W.Frag} {F Z H : Hp} {pa : Nat → Option Addr} {σ : L2.St} {env : En} {v : V} {r : R} (W : Wst K F Z H pa σ env) (h : RkOk K F Z H σ env v r) :
    ∃ Z', Gr F Z Z' ∧ Wst K F Z' H pa σ env ∧ Dp K Z' v (fzR (r, env)).1 := by
  cases r with
  | val d => exact ⟨Z, .refl .., W, h⟩
  | fresh ds =>
    obtain ⟨p, us, rfl, h1, h3, h2, h4, h5⟩ := h
    have zz : Same Z (upd Z p (.lst us)) := upd_none h3
    refine ⟨upd Z p (.lst us), ⟨zz, fun b hb => upd_ne fun q => hb (by rw [q]; exact h2)⟩, W.frzN zz (fun b u e => ?_) (fun j o s e1 e2 b hb => upd_ne fun q => ?_), .lst (SqL.of upd_same) (DpAll.mono zz _ _ h4)⟩
    · by_cases q : b = p
      · subst q; rw [upd_same] at e; cases e; exact h1
      · rw [upd_ne q] at e; exact W.zh b u e
    · subst q
      exact h5 j o s e1 e2 hb
  | mat dss =>
    obtain ⟨p, us, bs, rfl, h1, h3, h2, h4, h5, h6⟩ := h
    refine ⟨zAdd Z H (p :: bs), ⟨zAdd_zz W.zh, fun b hb => zAdd_out fun m => ?_⟩, W.frzN (zAdd_zz W.zh) (zAdd_zh W.zh) (fun j o s e1 e2 b hb => zAdd_out fun m => ?_), mat_dp W.zh h1 h4⟩
    · rcases List.mem_cons.mp m with rfl | m
      · exact hb h2
      · exact hb (h4.mem m).2.2.1
    · exact h6 b (List.mem_cons.mp m) j o s e1 e2 hb
theorem s_fz {e : Expr} {f : Fx R} (h : PE X e (tR X.K f)) : PE X e (tE X.K (eFz f)) := by
  refine PE.imp h fun σ H Q ⟨F, pa, Z, env, d, env', W, e, k⟩ => ?_
  unfold eFz at e
  cases hf : f env with
  | none => rw [hf] at e; cases e
  | some p =>
    obtain ⟨r, env1⟩ := p
    rw [hf] at e
    have e2 : fzR (r, env1) = (d, env') := Option.some.inj e
    refine ⟨F, pa, Z, env, r, env1, W, hf, fun v Z' H' g W' q => ?_⟩
    obtain ⟨Z2, g2, W2, dp⟩ := W'.frzNew q
    have e3 : (fzR (r, env1)).1 = d := by rw [e2]
    have e4 : env1 = env' := by
      have : (fzR (r, env1)).2 = env' := by rw [e2]
      cases r <;> exact this
    subst e4
    exact k v Z2 H' (g.trans g2) W2 (e3 ▸ dp)
theorem s_rV {e : Expr} {f : Fx D} (h : PE X e (tE X.K f)) : PE X e (tR X.K (rV f)) := by
  refine PE.imp h fun σ H Q ⟨F, pa, Z, env, d, env', W, e, k⟩ => ?_
  unfold rV at e
  cases hf : f env with
  | none => rw [hf] at e; cases e
  | some p =>
    obtain ⟨d1, env1⟩ := p
    rw [hf] at e
    cases e
    exact ⟨F, pa, Z, env, d1, env1, W, hf, fun v Z' H' g W' q => k v Z' H' g W' q⟩
/-! ### operators by values -/
/-- r is right for the datum function g -/
def Imp2 (K : PySem.W.Frag) (r : R2) (g : D → D → Option D) : Prop := ∀ (Z H : Hp) (x y : V) (d e z : D) (Q : VK), Same Z H → Dp K Z x d → Dp K Z y e → g d e = some z →
  (∀ v Z' H', Alc Z H Z' H' → Dp K Z' v z → Q v H') → r x y H Q
def Op2 (X : Cx) (f : Value → Value → Sem Value) (g : D → D → Option D) : Prop := ∃ r, OpR X f r ∧ Imp2 X.K r g
def eOp (g : D → D → Option D) (f1 f2 : Fx D) : Fx D := fun env => (f1 env).bind fun p => (f2 p.2).bind fun q => (g p.1 q.1).map fun z => (z, q.2)
theorem eOp_some {g : D → D → Option D} {f1 f2 : Fx D} {env env' : En} {z : D} (h : eOp g f1 f2 env = some (z, env')) : ∃ d env1 e, f1 env = some (d, env1) ∧ f2 env1 = some (e, env') ∧ g d e = some z := by
  unfold eOp at h
  cases h1 : f1 env with
  | none => rw [h1] at h; cases h
  | some p =>
    rw [h1, Option.bind_some] at h
    cases h2 : f2 p.2 with
    | none => rw [h2] at h; cases h
    | some q =>
      rw [h2, Option.bind_some] at h
      cases h3 : g p.1 q.1 with
      | none => rw [h3] at h; cases h
      | some w =>
        rw [h3] at h
        cases h
        exact ⟨p.1, p.2, q.1, rfl, h2, h3⟩
theorem tOp_of {K : PySem.W.Frag} {r : R2} {g : D → D → Option D} {f1 f2 : Fx D} (hi : Imp2 K r g) {σ : L2.St} {H : Hp} {Q : VK} (h : tE K (eOp g f1 f2) σ H Q) : tOp r (tE K f1) (tE K f2) σ H Q := by
  obtain ⟨F, pa, Z, env, z, env', W, e, k⟩ := h
  obtain ⟨d, env1, e1, h1, h2, h3⟩ := eOp_some e
  refine ⟨F, pa, Z, env, d, env1, W, h1, fun x Z1 H1 g1 W1 q1 => ⟨F, pa, Z1, env1, e1, env', W1, h2, fun y Z2 H2 g2 W2 q2 => ?_⟩⟩
  exact hi Z2 H2 x y d e1 z Q W2.zh (Dp.mono g2.zz _ _ q1) q2 h3 fun v Z3 H3 a q => k v Z3 H3 ((g1.trans g2).trans (a.gr W2.fh)) (W2.alc a) q
variable {a b c : Expr} {fa fb fc : Fx D} {pos : Pos}
theorem s_bin {op : Operator} {g : D → D → Option D} (ho : Op2 X (binaryOp op) g) (ha : PE X a (tE X.K fa)) (hb : PE X b (tE X.K fb)) : PE X (.BinOp a op b pos) (tE X.K (eOp g fa fb)) := by
  obtain ⟨r, hr, hi⟩ := ho
  exact PE.imp (pe_op hr ha hb) fun σ H Q h => tOp_of hi h
theorem s_cmp {op : CmpOp} {g : D → D → Option D} (ho : Op2 X (compareOp op) g) (ha : PE X a (tE X.K fa)) (hb : PE X b (tE X.K fb)) (hm : behindInMarks op b = false) : PE X (.Compare a [op] [b] pos) (tE X.K (eOp g fa fb)) := by
  obtain ⟨r, hr, hi⟩ := ho
  exact PE.imp (pe_cmpR hr ha hb hm) fun σ H Q h => tOp_of hi h
/-- a datum that is a bool, as a test -/
def eB (f : Fx D) : Fx Bool := fun env => match f env with
  | some (.bool b, e) => some (b, e)
  | _ => none
theorem eB_some {f : Fx D} {env env' : En} {b : Bool} (h : eB f env = some (b, env')) : f env = some (.bool b, env') := by
  unfold eB at h
  split at h
  · rename_i b' e' q
    cases h
    exact q
  · cases h
theorem tB_of {K : PySem.W.Frag} {f : Fx D} {σ : L2.St} {H : Hp} {Q : Bool → Hp → Prop} (h : tT K (eB f) σ H Q) : tE K f σ H fun x H' => ∃ k, x = .bl k ∧ Q k H' := by
  obtain ⟨F, pa, Z, env, b, env', W, e, k⟩ := h
  refine ⟨F, pa, Z, env, _, env', W, eB_some e, fun v Z' H' g W' q => ?_⟩
  cases q
  exact ⟨b, rfl, k Z' H' g W'⟩
theorem s_cmpT {op : CmpOp} {g : D → D → Option D} (ho : Op2 X (compareOp op) g) (ha : PE X a (tE X.K fa)) (hb : PE X b (tE X.K fb)) (hm : behindInMarks op b = false) : PT X (.Compare a [op] [b] pos) (tT X.K (eB (eOp g fa fb))) := by
  obtain ⟨r, hr, hi⟩ := ho
  exact PT.imp (pt_cmpR hr ha hb hm) fun σ H Q h => tOp_of hi (tB_of h)
def eChain (g g' : D → D → Option D) (f1 f2 f3 : Fx D) : Fx D := fun env => (f1 env).bind fun p => (f2 p.2).bind fun q => match g p.1 q.1 with
  | some (.bool true) => (f3 q.2).bind fun r => (g' q.1 r.1).map fun z => (z, r.2)
  | some (.bool false) => some (.bool false, q.2)
  | _ => none
theorem tChain_of {K : PySem.W.Frag} {r r' : R2} {g g' : D → D → Option D} {f1 f2 f3 : Fx D} (hi : Imp2 K r g) (hi' : Imp2 K r' g') {σ : L2.St} {H : Hp} {Q : VK} (h : tE K (eChain g g' f1 f2 f3) σ H Q) : tChain r r' (tE K f1) (tE K f2) (tE K f3) σ H Q := by
  obtain ⟨F, pa, Z, env, z, env', W, e, k⟩ := h
  unfold eChain at e
  cases h1 : f1 env with
  | none => rw [h1] at e; cases e
  | some p =>
    obtain ⟨d1, env1⟩ := p
    rw [h1, Option.bind_some] at e
    cases h2 : f2 env1 with
    | none => simp only [h2] at e; cases e
    | some q =>
      obtain ⟨d2, env2⟩ := q
      simp only [h2, Option.bind_some] at e
      refine ⟨F, pa, Z, env, d1, env1, W, h1, fun x Z1 H1 g1 W1 q1 => ⟨F, pa, Z1, env1, d2, env2, W1, h2, fun y Z2 H2 g2 W2 q2 => ?_⟩⟩
      cases h3 : g d1 d2 with
      | none => rw [h3] at e; cases e
      | some w =>
        rw [h3] at e
        cases w with
        | bool bb =>
          refine hi Z2 H2 x y d1 d2 _ _ W2.zh (Dp.mono g2.zz _ _ q1) q2 h3 fun v Z3 H3 al q => ?_
          cases q
          have W3 := W2.alc al
          have g3 := (g1.trans g2).trans (al.gr W2.fh)
          refine ⟨bb, rfl, ?_⟩
          cases bb with
          | false =>
            cases e
            exact iteF (k _ Z3 H3 g3 W3 (.bl false))
          | true =>
            cases h4 : f3 env2 with
            | none => simp only [h4] at e; cases e
            | some u =>
              obtain ⟨d3, env3⟩ := u
              simp only [h4, Option.bind_some] at e
              cases h5 : g' d2 d3 with
              | none => rw [h5] at e; cases e
              | some zz =>
                rw [h5] at e
                cases e
                refine iteT ⟨F, pa, Z3, env2, d3, _, W3, h4, fun w Z4 H4 g4 W4 q4 => ?_⟩
                exact hi' Z4 H4 y w d2 d3 z Q W4.zh (Dp.mono (al.zz.trans g4.zz) _ _ q2) q4 h5 fun v Z5 H5 a q => k v Z5 H5 ((g3.trans g4).trans (a.gr W4.fh)) (W4.alc a) q
        | _ => cases e
theorem s_chain {op op' : CmpOp} {g g' : D → D → Option D} (ho : Op2 X (compareOp op) g) (ho' : Op2 X (compareOp op') g') (ha : PE X a (tE X.K fa)) (hb : PE X b (tE X.K fb)) (hc : PE X c (tE X.K fc)) (hm : lastMarks [op, op'] [b, c] = false) :
    PE X (.Compare a [op, op'] [b, c] pos) (tE X.K (eChain g g' fa fb fc)) := by
  obtain ⟨r, hr, hi⟩ := ho
  obtain ⟨r', hr', hi'⟩ := ho'
  exact PE.imp (pe_chain hr hr' ha hb hc hm) fun σ H Q h => tChain_of hi hi' h
theorem s_chainT {op op' : CmpOp} {g g' : D → D → Option D} (ho : Op2 X (compareOp op) g) (ho' : Op2 X (compareOp op') g') (ha : PE X a (tE X.K fa)) (hb : PE X b (tE X.K fb)) (hc : PE X c (tE X.K fc)) (hm : lastMarks [op, op'] [b, c] = false) :
    PT X (.Compare a [op, op'] [b, c] pos) (tT X.K (eB (eChain g g' fa fb fc))) := by
  obtain ⟨r, hr, hi⟩ := ho
  obtain ⟨r', hr', hi'⟩ := ho'
  exact PT.imp (pt_chain hr hr' ha hb hc hm) fun σ H Q h => tChain_of hi hi' (tB_of h)
/-! ### tests -/
/-- a datum's truth -/
def truD : D → Option Bool
  | .none => some false
  | .bool b => some b
  | .int i => some (i != 0)
  | .str x => if x.length ≤ sizeLine then some ((x.length : Int) != 0) else none
  | .list ds => some (!ds.isEmpty)
  | .tuple ds => some (!ds.isEmpty)
  | .dict _ => none
def eTru (f : Fx D) : Fx Bool := fun env => (f env).bind fun p => (truD p.1).map fun b => (b, p.2)
theorem da_isEmpty {K : PySem.W.Frag} {Z : Hp} {vs : List V} {ds : List D} (h : DpAll K Z vs ds) : vs.isEmpty = ds.isEmpty := by
  cases h <;> rfl
theorem Same.sqT {K : PySem.W.Frag} {H H' : Hp} {a : Addr} {xs : List V} (e : Same H H') (h : SqT K H a xs) : SqT K H' a xs := by
  rcases h with (h | ⟨o, h⟩) | h
  · exact .inl (.inl (e _ _ h))
  · exact .inl (.inr ⟨o, e _ _ h⟩)
  · exact .inr h
theorem truV_of {K : PySem.W.Frag} {Z H : Hp} {v : V} {d : D} {b : Bool} (zh : Same Z H) (h : Dp K Z v d) (e : truD d = some b) : TruV K v H b := by
  cases h with
  | non => cases e; rfl
  | bl b => cases e; rfl
  | int i => cases e; rfl
  | str x =>
    have e2 : (if x.length ≤ sizeLine then some ((x.length : Int) != 0) else none) = some b := e
    by_cases q : x.length ≤ sizeLine
    · rw [if_pos q] at e2; cases e2; exact ⟨q, rfl⟩
    · rw [if_neg q] at e2; cases e2
  | lst hs ha => cases e; exact .inl ⟨_, zh.seq hs, by rw [da_isEmpty ha]⟩
  | tup hs ha => cases e; exact .inr (.inl ⟨_, Same.sqT zh hs, by rw [da_isEmpty ha]⟩)
  | dct q => cases e
theorem s_tru (ha : PE X a (tE X.K fa)) (he : ∀ whole, isTrue a X.env whole = (do let v ← whole; standAt a.pos; holding [v] (truthy v))) : PT X a (tT X.K (eTru fa)) := by
  refine PT.imp (pt_truth ha he) fun σ H Q ⟨F, pa, Z, env, b, env', W, e, k⟩ => ?_
  unfold eTru at e
  cases h1 : fa env with
  | none => rw [h1] at e; cases e
  | some p =>
    obtain ⟨d, env1⟩ := p
    rw [h1, Option.bind_some] at e
    cases h2 : truD d with
    | none => simp only [h2] at e; cases e
    | some bb =>
      simp only [h2] at e
      cases e
      exact ⟨F, pa, Z, env, d, _, W, h1, fun v Z' H' g W' q => ⟨b, truV_of W'.zh q h2, k Z' H' g W'⟩⟩
def eNotT (f : Fx Bool) : Fx Bool := fun env => (f env).map fun p => (!p.1, p.2)
theorem s_notT {f : Fx Bool} (h : PT X a (tT X.K f)) : PT X (.UnaryOp .Not a pos) (tT X.K (eNotT f)) := by
  refine PT.imp (pt_not h) fun σ H Q ⟨F, pa, Z, env, b, env', W, e, k⟩ => ?_
  unfold eNotT at e
  cases h1 : f env with
  | none => rw [h1] at e; cases e
  | some p =>
    rw [h1] at e
    cases e
    exact ⟨F, pa, Z, env, p.1, p.2, W, h1, fun Z' H' g W' => k Z' H' g W'⟩
def eAndT (f g : Fx Bool) : Fx Bool := fun env => match f env with
  | some (true, e) => g e
  | some (false, e) => some (false, e)
  | none => none
def eOrT (f g : Fx Bool) : Fx Bool := fun env => match f env with
  | some (false, e) => g e
  | some (true, e) => some (true, e)
  | none => none
theorem s_and1 {f : Fx Bool} (h : PT X a (tT X.K f)) : PW X (.BoolOp .And [a] pos) (tT X.K f) := pw_and1 h
theorem s_or1 {f : Fx Bool} (h : PT X a (tT X.K f)) : PW X (.BoolOp .Or [a] pos) (tT X.K f) := pw_or1 h
theorem s_andT {f g : Fx Bool} {rest : List Expr} (h : PT X a (tT X.K f)) (h2 : PW X (.BoolOp .And (b :: rest) pos) (tT X.K g)) : PW X (.BoolOp .And (a :: b :: rest) pos) (tT X.K (eAndT f g)) := by
  refine PW.imp (pw_and h h2) fun σ H Q ⟨F, pa, Z, env, bb, env', W, e, k⟩ => ?_
  unfold eAndT at e
  cases h1 : f env with
  | none => rw [h1] at e; cases e
  | some p =>
    obtain ⟨b1, env1⟩ := p
    rw [h1] at e
    refine ⟨F, pa, Z, env, b1, env1, W, h1, fun Z' H' g1 W' => ?_⟩
    cases b1 with
    | false => cases e; exact iteF (k Z' H' g1 W')
    | true => exact iteT ⟨F, pa, Z', env1, bb, env', W', e, fun Z2 H2 g2 W2 => k Z2 H2 (g1.trans g2) W2⟩
theorem s_orT {f g : Fx Bool} {rest : List Expr} (h : PT X a (tT X.K f)) (h2 : PW X (.BoolOp .Or (b :: rest) pos) (tT X.K g)) : PW X (.BoolOp .Or (a :: b :: rest) pos) (tT X.K (eOrT f g)) := by
  refine PW.imp (pw_or h h2) fun σ H Q ⟨F, pa, Z, env, bb, env', W, e, k⟩ => ?_
  unfold eOrT at e
  cases h1 : f env with
  | none => rw [h1] at e; cases e
  | some p =>
    obtain ⟨b1, env1⟩ := p
    rw [h1] at e
    refine ⟨F, pa, Z, env, b1, env1, W, h1, fun Z' H' g1 W' => ?_⟩
    cases b1 with
    | true => cases e; exact iteT (k Z' H' g1 W')
    | false => exact iteF ⟨F, pa, Z', env1, bb, env', W', e, fun Z2 H2 g2 W2 => k Z2 H2 (g1.trans g2) W2⟩
/-! ### and, or, not, if as values -/
def eAnd (f g : Fx D) : Fx D := fun env => match f env with
  | some (.bool true, e) => g e
  | some (.bool false, e) => some (.bool false, e)
  | _ => none
def eOr (f g : Fx D) : Fx D := fun env => match f env with
  | some (.bool false, e) => g e
  | some (.bool true, e) => some (.bool true, e)
  | _ => none
theorem s_and {rest : List Expr} (h : PE X a (tE X.K fa)) (h2 : PE X (.BoolOp .And (b :: rest) pos) (tE X.K fb)) : PE X (.BoolOp .And (a :: b :: rest) pos) (tE X.K (eAnd fa fb)) := by
  refine PE.imp (pe_and h h2) fun σ H Q ⟨F, pa, Z, env, d, env', W, e, k⟩ => ?_
  unfold eAnd at e
  split at e
  · rename_i e1 h1
    refine ⟨F, pa, Z, env, _, e1, W, h1, fun v Z' H' g1 W' q => ?_⟩
    cases q
    exact ⟨true, rfl, iteT ⟨F, pa, Z', e1, d, env', W', e, fun v Z2 H2 g2 W2 q2 => k v Z2 H2 (g1.trans g2) W2 q2⟩⟩
  · rename_i e1 h1
    cases e
    refine ⟨F, pa, Z, env, _, _, W, h1, fun v Z' H' g1 W' q => ?_⟩
    cases q
    exact ⟨false, rfl, iteF (k _ Z' H' g1 W' (.bl false))⟩
  · cases e
theorem s_or {rest : List Expr} (h : PE X a (tE X.K fa)) (h2 : PE X (.BoolOp .Or (b :: rest) pos) (tE X.K fb)) : PE X (.BoolOp .Or (a :: b :: rest) pos) (tE X.K (eOr fa fb)) := by
  refine PE.imp (pe_or h h2) fun σ H Q ⟨F, pa, Z, env, d, env', W, e, k⟩ => ?_
  unfold eOr at e
  split at e
  · rename_i e1 h1
    refine ⟨F, pa, Z, env, _, e1, W, h1, fun v Z' H' g1 W' q => ?_⟩
    cases q
    exact ⟨false, rfl, iteF ⟨F, pa, Z', e1, d, env', W', e, fun v Z2 H2 g2 W2 q2 => k v Z2 H2 (g1.trans g2) W2 q2⟩⟩
  · rename_i e1 h1
    cases e
    refine ⟨F, pa, Z, env, _, _, W, h1, fun v Z' H' g1 W' q => ?_⟩
    cases q
    exact ⟨true, rfl, iteT (k _ Z' H' g1 W' (.bl true))⟩
  · cases e
def eNot (f : Fx D) : Fx D := fun env => match f env with
  | some (.bool b, e) => some (.bool (!b), e)
  | _ => none
theorem s_not (h : PE X a (tE X.K fa)) : PE X (.UnaryOp .Not a pos) (tE X.K (eNot fa)) := by
  refine PE.imp (pe_not h) fun σ H Q ⟨F, pa, Z, env, d, env', W, e, k⟩ => ?_
  unfold eNot at e
  split at e
  · rename_i b e1 h1
    cases e
    refine ⟨F, pa, Z, env, _, _, W, h1, fun v Z' H' g1 W' q => ?_⟩
    cases q
    exact ⟨b, rfl, k _ Z' H' g1 W' (.bl _)⟩
  · cases e
def eNeg (f : Fx D) : Fx D := fun env => match f env with
  | some (.int i, e) => some (.int (-i), e)
  | _ => none
theorem s_neg (h : PE X a (tE X.K fa)) : PE X (.UnaryOp .USub a pos) (tE X.K (eNeg fa)) := by
  refine PE.imp (pe_un un_neg h) fun σ H Q ⟨F, pa, Z, env, d, env', W, e, k⟩ => ?_
  unfold eNeg at e
  split at e
  · rename_i i e1 h1
    cases e
    refine ⟨F, pa, Z, env, _, _, W, h1, fun v Z' H' g1 W' q => ?_⟩
    cases q
    exact ⟨i, rfl, k _ Z' H' g1 W' (.int _)⟩
  · cases e
def eIf {α : Type} (c : Fx Bool) (f g : Fx α) : Fx α := fun env => match c env with
  | some (true, e) => f e
  | some (false, e) => g e
  | none => none
theorem s_ifE {ft : Fx Bool} (hc : PT X c (tT X.K ft)) (ha : PE X a (tE X.K fa)) (hb : PE X b (tE X.K fb)) : PE X (.IfExp c a b pos) (tE X.K (eIf ft fa fb)) := by
  refine PE.imp (pe_ifExp hc ha hb) fun σ H Q ⟨F, pa, Z, env, d, env', W, e, k⟩ => ?_
  unfold eIf at e
  split at e
  · rename_i e1 h1
    refine ⟨F, pa, Z, env, _, e1, W, h1, fun Z' H' g1 W' => ?_⟩
    exact iteT ⟨F, pa, Z', e1, d, env', W', e, fun v Z2 H2 g2 W2 q2 => k v Z2 H2 (g1.trans g2) W2 q2⟩
  · rename_i e1 h1
    refine ⟨F, pa, Z, env, _, e1, W, h1, fun Z' H' g1 W' => ?_⟩
    exact iteF ⟨F, pa, Z', e1, d, env', W', e, fun v Z2 H2 g2 W2 q2 => k v Z2 H2 (g1.trans g2) W2 q2⟩
  · cases e
end
end Ev
namespace Ev
open PySem PySem.Spec PyProof.Rows L2
/-! ## a tuple taken once or not at all -/
theorem tuple_mul1W (l : Addr) (items : Array Value) (n : Nat) (sl : Array (Option Value)) (dd : Option Addr) (u : Tok) (c1 : (items.isEmpty || ((1 : Int) == 1)) = true) :
    Meets (Builtin.«tuple.__mul__» ⟨[.ref l, .int 1 u], []⟩) (fun _ R s => s.heap.get? l = some { cls := .type "tuple", dict := dd, data := .seq items n, slots := sl } ∧ R (.ok (.ret (Value.ref l))) s) :=
  .of_wp fun prog w A R s h => by
    obtain ⟨hp, g, d, tk, os⟩ := s
    obtain ⟨hl, h⟩ := h
    have f1 := AutoSeq1.idx_int
    have c0 : (decide ((1 : Int) < -(2 ^ 63)) || decide ((1 : Int) ≥ 2 ^ 63)) = false := by decide
    wp_walk using wpAny_loadPart' hl
    repeat (first
      | (refine wpAny_ite_false (decide_eq_false (by rw [c0]; exact Bool.false_ne_true)) ?_; wp_walk using wpAny_loadPart' hl)
      | (refine wpAny_ite_true (decide_eq_true (by rw [c1])) ?_; wp_walk using wpAny_loadPart' hl))
    exact ⟨_, rfl, h⟩
theorem tuple_mul0W (l : Addr) (items : Array Value) (n : Nat) (sl : Array (Option Value)) (dd : Option Addr) (u : Tok) (c1 : (items.isEmpty || ((0 : Int) == 1)) = false) :
    Meets (Builtin.«tuple.__mul__» ⟨[.ref l, .int 0 u], []⟩) (fun _ R s => s.heap.get? l = some { cls := .type "tuple", dict := dd, data := .seq items n, slots := sl } ∧
      R (.ok (.ret (Value.ref s.heap.objs.size))) { s with heap := s.heap.push { cls := Value.type "tuple", data := Data.seq #[] }, toks := s.toks }) :=
  .of_wp fun prog w A R s h => by
    obtain ⟨hp, g, d, tk, os⟩ := s
    obtain ⟨hl, h⟩ := h
    have f1 := AutoSeq1.idx_int
    have c0 : (decide ((0 : Int) < -(2 ^ 63)) || decide ((0 : Int) ≥ 2 ^ 63)) = false := by decide
    have c2 : (decide ((0 : Int) ≤ 0) || items.isEmpty) = true := by simp
    wp_walk using wpAny_loadPart' hl
    repeat (first
      | (refine wpAny_ite_false (decide_eq_false (by rw [c0]; exact Bool.false_ne_true)) ?_; wp_walk using wpAny_loadPart' hl)
      | (refine wpAny_ite_false (decide_eq_false (by rw [c1]; exact Bool.false_ne_true)) ?_; wp_walk using wpAny_loadPart' hl)
      | (refine wpAny_ite_true (decide_eq_true (by rw [c2])) ?_; wp_walk using wpAny_loadPart' hl))
    exact ⟨_, rfl, h⟩
section
variable {X : Cx}
theorem op_rep1 : OpR X (binaryOp .Mult) (fun x y H Q => ∃ l xs, x = .ref l ∧ y = .int 1 ∧ SqT X.K H l xs ∧ Q (.ref l) H) := by
  intro pins s σ H x y v u Q I rx ry h
  obtain ⟨l, xs, rfl, rfl, hT, q⟩ := h
  cases rx
  obtain ⟨t, rfl⟩ := ry
  obtain ⟨its, r, ⟨⟨cls, dd, data, sl⟩, ho, hc, n, hd⟩, hs⟩ := I.tuple hT
  simp only at hc hd
  subst hc hd
  have c1 : (its.toArray.isEmpty || ((1 : Int) == 1)) = true := by simp
  exact wpAny_binaryOp_repeat_ref (T := "tuple") (U := "int") (by decide) ⟨_, ho, rfl⟩ (fun s' => typeIs_int s' 1 t) noFill_tuple_mul F.fills_int_mul F.slot_int_rmul repeat_tuple F.slot_int_index.lookup
    (call_meets F.slot_int_rmul (typeIs_int s 1 t) F.entry_int_rmul (F.args_int_rmul_2 _ _) (int_rmul_tuple 1 t l its.toArray n dd sl)
      ⟨ho, rfl, ⟨_, ho, rfl⟩, call_meets F.slot_tuple_mul ⟨_, ho, rfl⟩ F.entry_tuple_mul (F.args_tuple_mul_2 _ _) (tuple_mul1W l its.toArray n sl dd t c1) ⟨ho, ⟨.ref l, H, I, rfl, q⟩⟩⟩)
theorem op_rep0 : OpR X (binaryOp .Mult) (fun x y H Q => ∃ l xs, x = .ref l ∧ y = .int 0 ∧ SqT X.K H l xs ∧ xs ≠ [] ∧ ∀ p, H p = none → Q (.ref p) (upd H p (.tup []))) := by
  intro pins s σ H x y v u Q I rx ry h
  obtain ⟨l, xs, rfl, rfl, hT, hne, q⟩ := h
  cases rx
  obtain ⟨t, rfl⟩ := ry
  obtain ⟨its, r, ⟨⟨cls, dd, data, sl⟩, ho, hc, n, hd⟩, hs⟩ := I.tuple hT
  simp only at hc hd
  subst hc hd
  have hle : its.length = xs.length := r.length.symm
  have hi : its.toArray.isEmpty = false := by
    cases its with
    | nil => exact absurd (List.eq_nil_of_length_eq_zero hle.symm) hne
    | cons a b => rfl
  have c1 : (its.toArray.isEmpty || ((0 : Int) == 1)) = false := by rw [hi]; rfl
  refine wpAny_binaryOp_repeat_ref (T := "tuple") (U := "int") (by decide) ⟨_, ho, rfl⟩ (fun s' => typeIs_int s' 0 t) noFill_tuple_mul F.fills_int_mul F.slot_int_rmul repeat_tuple F.slot_int_index.lookup
    (call_meets F.slot_int_rmul (typeIs_int s 0 t) F.entry_int_rmul (F.args_int_rmul_2 _ _) (int_rmul_tuple 0 t l its.toArray n dd sl)
      ⟨ho, rfl, ⟨_, ho, rfl⟩, call_meets F.slot_tuple_mul ⟨_, ho, rfl⟩ F.entry_tuple_mul (F.args_tuple_mul_2 _ _) (tuple_mul0W l its.toArray n sl dd t c1) ⟨ho, ?_⟩⟩)
  refine ⟨.ref s.heap.objs.size, _, I.laid (t' := s.toks) (o := .tup []) (fun b ob q => Heap.get?_push_of_some _ q) (Nat.le_refl _) ?_, rfl, q _ (I.hok.fresh (Nat.le_refl _))⟩
  exact ⟨by rw [sizeLine_eq]; exact Nat.zero_le _, [], .nil, IsTup.new _ _⟩
/-! ## len(set(xs)), xs a tuple of unlike ints -/
def tLenSetT (K : PySem.W.Frag) (ta : TE) : TE := fun σ H Q => ta σ H fun x H1 => ∃ (l : Addr) (ns : List Int), x = V.ref l ∧ SqT K H1 l (ns.map V.int) ∧ ns.length < 1000 ∧ ns.Nodup ∧ Q (.int ns.length) H1
theorem nodup_len {ns : List Int} {ks : List Int} (h1 : ns.Nodup) (h2 : ks.Nodup) (h : ∀ k, k ∈ ns ↔ k ∈ ks) : ks.length = ns.length :=
  Nat.le_antisymm (List.Nodup.length_le_of_subset h2 fun k hk => (h k).mpr hk) (List.Nodup.length_le_of_subset h1 fun k hk => (h k).mp hk)
theorem pe_lenSetT {a : Expr} {ta : TE} {p p2 q pos : Pos} (hc : X.calm = true) (hg : Gl X "len") (hm : X.mg "len" = none) (hg2 : Gl X "set") (hm2 : X.mg "set" = none) (ha : PE X a ta)
    (na : starEach [a] X.env = (false, eval a X.env) :: starEach [] X.env) : PE X (.Call (.Name "len" p) [.Call (.Name "set" p2) [a] [] q] [] pos) (tLenSetT X.K ta) := by
  refine ⟨fun pins s σ H Q I h => ?_⟩
  refine Call_ (ld_blt I hg hm PySem.boot_len ?_)
  refine PyProof.Rows.callWith_builtin1 (PyProof.Rows.args_cons ?_ rfl) rfl rfl
  refine Call_ (ld_blt I hg2 hm2 PyProof.Rows.boot_set ?_)
  refine PyProof.Rows.callWith_type1 (PyProof.Rows.args_cons (thn (ha.run pins s σ H _ I h) fun v s1 ⟨x, H1, I1, r1, q1⟩ => PyProof.Rows.args_nil ?_) na) na rfl
  obtain ⟨l, ns, rfl, hq, h1, hnd, q1⟩ := q1
  cases r1
  obtain ⟨its, r, pl, hz⟩ := I1.tuple hq
  refine call_set_tupI ns (I1.ok.hd hc) (show s1.heap.IsTuple l its.toArray from pl) (by simpa using r.ints) (by unfold scanBound; omega) fun h' tk c hS hcn hk => ?_
  refine PyProof.Rows.args_nil ?_
  obtain ⟨o, es, ep, t, ho, hex, hd, _, hkn, hkm, hb, hf, hn, _⟩ := hS
  have hlen : c = ns.length := by
    rw [← hn]
    have := nodup_len hnd hkn fun k => by rw [← hkm]; simp
    rw [List.length_map] at this
    simpa using this
  have I2 : Inv X pins σ H1 { s1 with heap := h', toks := tk } := I1.kept fun b o e => hk b o e
  refine call_len_set ho hex hd hf (by rw [hn] <;> omega) ⟨.int ns.length, H1, I2.tok _, ⟨_, by rw [hn, hlen]⟩, q1⟩
end
end Ev
namespace Ev
open PySem PySem.Spec PyProof.Rows L2
/-! ## operators -/
theorem Imp2.or {K : PySem.W.Frag} {r r' : R2} {g g' h : D → D → Option D} (a : Imp2 K r g) (b : Imp2 K r' g') (e : ∀ x y z, h x y = some z → g x y = some z ∨ g' x y = some z) : Imp2 K (fun x y H Q => r x y H Q ∨ r' x y H Q) h :=
  fun Z H x y d1 d2 z Q zh q1 q2 hz k => (e _ _ _ hz).elim (fun q => .inl (a Z H x y d1 d2 z Q zh q1 q2 q k)) fun q => .inr (b Z H x y d1 d2 z Q zh q1 q2 q k)
theorem Op2.or {X : Cx} {f : Value → Value → Sem Value} {g g' h : D → D → Option D} (a : Op2 X f g) (b : Op2 X f g') (e : ∀ x y z, h x y = some z → g x y = some z ∨ g' x y = some z) : Op2 X f h :=
  let ⟨r, h1, h2⟩ := a; let ⟨r', h1', h2'⟩ := b; ⟨_, h1.or h1', h2.or h2' e⟩
/-- an operator of two ints whose answer is a scalar v (as a datum w) -/
def gI (C : Int → Int → Bool) (g : Int → Int → D) : D → D → Option D
  | .int i, .int j => if C i j = true then some (g i j) else none
  | _, _ => none
theorem gI_some {C : Int → Int → Bool} {g : Int → Int → D} {d e z : D} (h : gI C g d e = some z) : ∃ i j, d = .int i ∧ e = .int j ∧ C i j = true ∧ z = g i j := by
  unfold gI at h
  split at h
  · rename_i i j
    by_cases q : C i j = true
    · rw [if_pos q] at h; cases h; exact ⟨i, j, rfl, rfl, q, rfl⟩
    · rw [if_neg q] at h; cases h
  · cases h
theorem imp_rI {K : PySem.W.Frag} {C : Int → Int → Prop} {c : Int → Int → Bool} {g : Int → Int → Int} (hc : ∀ i j, c i j = true → C i j) : Imp2 K (rI C fun i j => .int (g i j)) (gI c fun i j => .int (g i j)) := by
  intro Z H x y d e z Q zh q1 q2 hz k
  obtain ⟨i, j, rfl, rfl, h, rfl⟩ := gI_some hz
  cases q1; cases q2
  exact ⟨i, j, rfl, rfl, hc i j h, k _ Z H (.refl zh) (.int _)⟩
theorem imp_rI0 {K : PySem.W.Frag} {g : Int → Int → Int} : Imp2 K (rI0 fun i j => .int (g i j)) (gI (fun _ _ => true) fun i j => .int (g i j)) := by
  intro Z H x y d e z Q zh q1 q2 hz k
  obtain ⟨i, j, rfl, rfl, h, rfl⟩ := gI_some hz
  cases q1; cases q2
  exact ⟨i, j, rfl, rfl, k _ Z H (.refl zh) (.int _)⟩
theorem imp_rB0 {K : PySem.W.Frag} {g : Int → Int → Bool} : Imp2 K (rI0 fun i j => .bl (g i j)) (gI (fun _ _ => true) fun i j => .bool (g i j)) := by
  intro Z H x y d e z Q zh q1 q2 hz k
  obtain ⟨i, j, rfl, rfl, h, rfl⟩ := gI_some hz
  cases q1; cases q2
  exact ⟨i, j, rfl, rfl, k _ Z H (.refl zh) (.bl _)⟩
def gAddS : D → D → Option D
  | .str a, .str b => if a.length + b.length ≤ sizeLine then some (.str (a ++ b)) else none
  | _, _ => none
def gAddT : D → D → Option D
  | .tuple xs, .tuple ys => if xs.length + ys.length ≤ sizeLine then some (.tuple (xs ++ ys)) else none
  | _, _ => none
def gAddL : D → D → Option D
  | .list xs, .list ys => if xs.length + ys.length ≤ sizeLine then some (.list (xs ++ ys)) else none
  | _, _ => none
def b01 (b : Bool) : Int := if b = true then 1 else 0
def gAdd0 : D → D → Option D
  | .int i, .int j => some (.int (i + j))
  | .str a, .str b => if a.length + b.length ≤ sizeLine then some (.str (a ++ b)) else none
  | .tuple xs, .tuple ys => if xs.length + ys.length ≤ sizeLine then some (.tuple (xs ++ ys)) else none
  | .list xs, .list ys => if xs.length + ys.length ≤ sizeLine then some (.list (xs ++ ys)) else none
  | _, _ => none
def gAdd : D → D → Option D
  | .int i, .int j => some (.int (i + j))
  | .str a, .str b => if a.length + b.length ≤ sizeLine then some (.str (a ++ b)) else none
  | .tuple xs, .tuple ys => if xs.length + ys.length ≤ sizeLine then some (.tuple (xs ++ ys)) else none
  | .list xs, .list ys => if xs.length + ys.length ≤ sizeLine then some (.list (xs ++ ys)) else none
  | .bool a, .int j => some (.int (b01 a + j))
  | _, _ => none
section
variable {X : Cx}
theorem o_addS : Op2 X (binaryOp .Add) gAddS := ⟨_, op_add_str, by
  intro Z H x y d e z Q zh q1 q2 hz k
  cases q1 <;> (try (cases hz; done))
  cases q2 <;> (try (cases hz; done))
  rename_i a b
  have hz' : (if a.length + b.length ≤ sizeLine then some (PyData.str (a ++ b)) else none) = some z := hz
  by_cases h : a.length + b.length ≤ sizeLine
  · rw [if_pos h] at hz'; cases hz'
    exact ⟨a, b, rfl, rfl, h, k _ Z H (.refl zh) (.str _)⟩
  · rw [if_neg h] at hz'; cases hz'⟩
theorem o_addT : Op2 X (binaryOp .Add) gAddT := ⟨_, op_catA, by
  intro Z H x y d e z Q zh q1 q2 hz k
  cases q1 <;> (try (cases hz; done))
  cases q2 <;> (try (cases hz; done))
  rename_i a us ds hs ha b us' ds' hs' ha'
  have hz' : (if ds.length + ds'.length ≤ sizeLine then some (PyData.tuple (ds ++ ds')) else none) = some z := hz
  by_cases h : ds.length + ds'.length ≤ sizeLine
  · rw [if_pos h] at hz'; cases hz'
    have l1 := da_length ha
    have l2 := da_length ha'
    refine ⟨a, b, us, us', rfl, rfl, Same.sqT zh hs, Same.sqT zh hs', by omega, fun e => ?_, fun _ e => ?_, fun _ _ p hp => ?_⟩
    · subst e; cases ha
      exact k _ Z H (.refl zh) (.tup hs' ha')
    · subst e; cases ha'
      rw [List.append_nil] at k
      exact k _ Z H (.refl zh) (.tup hs ha)
    · have al := Alc.new (o := .tup (us ++ us')) zh hp
      exact k _ _ _ al (.tup (SqT.of upd_same) (DpAll.mono al.zz _ _ (da_append ha ha')))
  · rw [if_neg h] at hz'; cases hz'⟩
theorem op_catL : OpR X (binaryOp .Add) (fun x y H Q => ∃ a b xs ys, x = .ref a ∧ y = .ref b ∧ SqL X.K H a xs ∧ SqL X.K H b ys ∧ xs.length + ys.length ≤ sizeLine ∧ ∀ p, H p = none → Q (.ref p) (upd H p (.lst (xs ++ ys)))) := by
  intro pins s σ H x y v u Q I rx ry h
  obtain ⟨l, b, xs, ys, rfl, rfl, ha, hb, hz, q⟩ := h
  cases rx
  cases ry
  obtain ⟨its, r, pl, _⟩ := I.list ha
  obtain ⟨its2, r2, pl2, _⟩ := I.list hb
  obtain ⟨⟨cls, dd, data, sl⟩, ho, hc, n, hd⟩ := pl.isList
  obtain ⟨⟨cls2, dd2, data2, sl2⟩, ho2, hc2, n2, hd2⟩ := pl2.isList
  simp only at hc hd hc2 hd2
  subst hc hd hc2 hd2
  have e : its.toArray ++ its2.toArray = (its ++ its2).toArray := by simp
  have h1 := r.length
  have h2 := r2.length
  refine concat_meets ⟨_, ho, rfl⟩ ⟨_, ho2, rfl⟩ noFill_list_add seq_list_add PySem.F.slot_list_add PySem.F.entry_list_add (PySem.F.args_list_add_2 _ _) (list_addW l b its.toArray its2.toArray n n2 dd dd2 sl sl2 (by rw [List.size_toArray, List.size_toArray]; omega)) ⟨ho, ho2, ?_⟩
  rw [e]
  exact ⟨.ref _, _, I.lnew (t' := s.toks) (r.append r2) (by rw [List.length_append]; omega), rfl, q _ I.fresh⟩
theorem o_addL : Op2 X (binaryOp .Add) gAddL := ⟨_, op_catL, by
  intro Z H x y d e z Q zh q1 q2 hz k
  cases q1 <;> (try (cases hz; done))
  cases q2 <;> (try (cases hz; done))
  rename_i a us ds hs ha b us' ds' hs' ha'
  have hz' : (if ds.length + ds'.length ≤ sizeLine then some (PyData.list (ds ++ ds')) else none) = some z := hz
  by_cases h : ds.length + ds'.length ≤ sizeLine
  · rw [if_pos h] at hz'; cases hz'
    have l1 := da_length ha
    have l2 := da_length ha'
    refine ⟨a, b, us, us', rfl, rfl, zh.seq hs, zh.seq hs', by omega, fun p hp => ?_⟩
    have al := Alc.new (o := .lst (us ++ us')) zh hp
    exact k _ _ _ al (.lst (SqL.of upd_same) (DpAll.mono al.zz _ _ (da_append ha ha')))
  · rw [if_neg h] at hz'; cases hz'⟩
theorem o_add0 : Op2 X (binaryOp .Add) gAdd0 := by
  refine Op2.or (Op2.or ⟨_, op_add, imp_rI0⟩ o_addS (h := fun d e => match d, e with | .int i, .int j => some (.int (i + j)) | .str a, .str b => gAddS (.str a) (.str b) | _, _ => none) fun x y z h => ?_)
    (Op2.or o_addT o_addL (h := fun d e => match d, e with | .tuple i, .tuple j => gAddT (.tuple i) (.tuple j) | .list i, .list j => gAddL (.list i) (.list j) | _, _ => none) fun x y z h => ?_) fun x y z h => ?_
  · cases x <;> cases y <;> first | (cases h; done) | exact .inl h | exact .inr h
  · cases x <;> cases y <;> first | (cases h; done) | exact .inl h | exact .inr h
  · cases x <;> cases y <;> first | (cases h; done) | exact .inl h | exact .inr h
/-! ### numbers beside truth values -/
def gBI (op : Int → Int → Int) : D → D → Option D
  | .bool a, .int j => some (.int (op (b01 a) j))
  | _, _ => none
def gIB (op : Int → Int → Int) : D → D → Option D
  | .int i, .bool b => some (.int (op i (b01 b)))
  | _, _ => none
theorem op_bi_add : OpR X (binaryOp .Add) (fun x y H Q => ∃ a j, x = .bl a ∧ y = .int j ∧ Q (.int (b01 a + j)) H) := by
  intro pins s σ H x y u v Q I rx ry h
  obtain ⟨a, j, rfl, rfl, q⟩ := h
  cases rx
  obtain ⟨t, rfl⟩ := ry
  exact PySem.IntBool.add_bool_int ⟨.int _, H, I.tok _, ⟨_, rfl⟩, q⟩
theorem op_bi_sub : OpR X (binaryOp .Sub) (fun x y H Q => ∃ a j, x = .bl a ∧ y = .int j ∧ Q (.int (b01 a - j)) H) := by
  intro pins s σ H x y u v Q I rx ry h
  obtain ⟨a, j, rfl, rfl, q⟩ := h
  cases rx
  obtain ⟨t, rfl⟩ := ry
  exact PySem.IntBool.sub_bool_int ⟨.int _, H, I.tok _, ⟨_, rfl⟩, q⟩
theorem op_ib_sub : OpR X (binaryOp .Sub) (fun x y H Q => ∃ i b, x = .int i ∧ y = .bl b ∧ Q (.int (i - b01 b)) H) := by
  intro pins s σ H x y u v Q I rx ry h
  obtain ⟨i, b, rfl, rfl, q⟩ := h
  obtain ⟨t, rfl⟩ := rx
  cases ry
  exact PySem.IntBool.sub_int_bool ⟨.int _, H, I.tok _, ⟨_, rfl⟩, q⟩
theorem op_ib_mul : OpR X (binaryOp .Mult) (fun x y H Q => ∃ i b, x = .int i ∧ y = .bl b ∧ Q (.int (i * b01 b)) H) := by
  intro pins s σ H x y u v Q I rx ry h
  obtain ⟨i, b, rfl, rfl, q⟩ := h
  obtain ⟨t, rfl⟩ := rx
  cases ry
  exact PySem.IntBool.mul_int_bool ⟨.int _, H, I.tok _, ⟨_, rfl⟩, q⟩
theorem o_bi {f : Value → Value → Sem Value} {op : Int → Int → Int} (h : OpR X f (fun x y H Q => ∃ a j, x = .bl a ∧ y = .int j ∧ Q (.int (op (b01 a) j)) H)) : Op2 X f (gBI op) := ⟨_, h, by
  intro Z H x y d e z Q zh h1 h2 hg k
  unfold gBI at hg
  split at hg
  · cases hg
    cases h1
    cases h2
    exact ⟨_, _, rfl, rfl, k _ Z H (.refl zh) (.int _)⟩
  · cases hg⟩
theorem o_ib {f : Value → Value → Sem Value} {op : Int → Int → Int} (h : OpR X f (fun x y H Q => ∃ i b, x = .int i ∧ y = .bl b ∧ Q (.int (op i (b01 b))) H)) : Op2 X f (gIB op) := ⟨_, h, by
  intro Z H x y d e z Q zh h1 h2 hg k
  unfold gIB at hg
  split at hg
  · cases hg
    cases h1
    cases h2
    exact ⟨_, _, rfl, rfl, k _ Z H (.refl zh) (.int _)⟩
  · cases hg⟩
theorem o_add : Op2 X (binaryOp .Add) gAdd := by
  refine Op2.or o_add0 (o_bi (op := fun a b => a + b) op_bi_add) fun x y z h => ?_
  cases x <;> cases y <;> first | (cases h; done) | exact .inl h | exact .inr h
def gSubI : D → D → Option D := gI (fun _ _ => true) fun i j => .int (i - j)
theorem o_subI : Op2 X (binaryOp .Sub) gSubI := ⟨_, op_sub, imp_rI0⟩
def gSubB : D → D → Option D
  | .bool a, .bool b => some (.int (b01 a - b01 b))
  | _, _ => none
theorem op_subB : OpR X (binaryOp .Sub) (fun x y H Q => ∃ a b, x = .bl a ∧ y = .bl b ∧ Q (.int (b01 a - b01 b)) H) := by
  intro pins s σ H x y u v Q I rx ry h
  obtain ⟨a, b, rfl, rfl, q⟩ := h
  cases rx
  cases ry
  exact PyProof.Rows.sub_bool ⟨.int _, H, I.tok _, ⟨_, by cases a <;> cases b <;> rfl⟩, q⟩
theorem o_subB : Op2 X (binaryOp .Sub) gSubB := ⟨_, op_subB, by
  intro Z H x y d e z Q zh h1 h2 hg k
  unfold gSubB at hg
  split at hg
  · cases hg
    cases h1
    cases h2
    exact ⟨_, _, rfl, rfl, k _ Z H (.refl zh) (.int _)⟩
  · cases hg⟩
def gSub (d e : D) : Option D := match d, e with
  | .bool a, .bool b => some (.int (b01 a - b01 b))
  | .bool a, .int j => some (.int (b01 a - j))
  | .int i, .bool b => some (.int (i - b01 b))
  | d, e => gSubI d e
theorem o_sub : Op2 X (binaryOp .Sub) gSub := by
  refine Op2.or (Op2.or o_subI o_subB (h := fun d e => match d, e with | .bool a, .bool b => gSubB (.bool a) (.bool b) | d, e => gSubI d e) fun x y z h => ?_)
    (Op2.or (o_bi (op := fun a b => a - b) op_bi_sub) (o_ib (op := fun a b => a - b) op_ib_sub) (h := fun d e => match d, e with | .bool a, .int j => gBI (fun a b => a - b) (.bool a) (.int j) | .int i, .bool b => gIB (fun a b => a - b) (.int i) (.bool b) | _, _ => none) fun x y z h => ?_) fun x y z h => ?_
  · cases x <;> cases y <;> first | (cases h; done) | exact .inl h | exact .inr h
  · cases x <;> cases y <;> first | (cases h; done) | exact .inl h | exact .inr h
  · cases x <;> cases y <;> first | (cases h; done) | exact .inl h | exact .inr h
/-- together less than a million bits -/
def mulOk (i j : Int) : Bool := decide (i.natAbs.log2 + j.natAbs.log2 < 1000000)
theorem mulOk_of {i j : Int} (h : mulOk i j = true) : CMulW i j := by
  have h2 : i.natAbs.log2 + j.natAbs.log2 < 1000000 := of_decide_eq_true h
  exact h2
def gMulI : D → D → Option D := gI mulOk fun i j => .int (i * j)
def repOk (xs : List D) (k : Int) : Bool := decide (xs ≠ [] ∧ 0 ≤ k ∧ k ≤ 1000 ∧ xs.length ≤ 1000)
def gMulT : D → D → Option D
  | .tuple xs, .int k => if repOk xs k = true then some (.tuple (List.replicate k.toNat xs).flatten) else none
  | _, _ => none
def gMul0 : D → D → Option D
  | .int i, .int j => if mulOk i j = true then some (.int (i * j)) else none
  | .tuple xs, .int k => if repOk xs k = true then some (.tuple (List.replicate k.toNat xs).flatten) else none
  | _, _ => none
def gMul : D → D → Option D
  | .int i, .int j => if mulOk i j = true then some (.int (i * j)) else none
  | .tuple xs, .int k => if repOk xs k = true then some (.tuple (List.replicate k.toNat xs).flatten) else none
  | .int i, .bool b => some (.int (i * b01 b))
  | _, _ => none
theorem da_rep {K : PySem.W.Frag} {Z : Hp} {vs : List V} {ds : List D} (h : DpAll K Z vs ds) : ∀ n : Nat, DpAll K Z (List.replicate n vs).flatten (List.replicate n ds).flatten
  | 0 => .nil
  | n + 1 => by
    rw [List.replicate_succ, List.replicate_succ, List.flatten_cons, List.flatten_cons]
    exact da_append h (da_rep h n)
theorem o_mulT : Op2 X (binaryOp .Mult) gMulT := ⟨_, OpR.or op_repT (OpR.or op_rep1 op_rep0), by
  intro Z H x y d e z Q zh q1 q2 hz k
  cases q1 <;> (try (cases hz; done))
  cases q2 <;> (try (cases hz; done))
  rename_i a us ds hs ha n
  have hz' : (if repOk ds n = true then some (PyData.tuple (List.replicate n.toNat ds).flatten) else none) = some z := hz
  by_cases h0 : repOk ds n = true
  · rw [if_pos h0] at hz'; cases hz'
    have h := of_decide_eq_true h0
    have l1 := da_length ha
    have une : us ≠ [] := fun e => by subst e; cases ha; exact h.1 rfl
    by_cases n0 : n = 0
    · subst n0
      refine .inr (.inr ⟨a, us, rfl, rfl, Same.sqT zh hs, une, fun p hp => ?_⟩)
      have al := Alc.new (o := .tup []) zh hp
      exact k _ _ _ al (.tup (SqT.of upd_same) .nil)
    · by_cases n1 : n = 1
      · subst n1
        refine .inr (.inl ⟨a, us, rfl, rfl, Same.sqT zh hs, ?_⟩)
        refine k _ Z H (.refl zh) ?_
        have : (List.replicate (1 : Int).toNat ds).flatten = ds := by
          show (List.replicate 1 ds).flatten = ds
          simp
        rw [this]
        exact .tup hs ha
      · refine .inl ⟨a, n, us, rfl, rfl, Same.sqT zh hs, une, by omega, h.2.2.1, by omega, fun p hp => ?_⟩
        have al := Alc.new (o := .tup (List.replicate n.toNat us).flatten) zh hp
        exact k _ _ _ al (.tup (SqT.of upd_same) (DpAll.mono al.zz _ _ (da_rep ha _)))
  · rw [if_neg h0] at hz'; cases hz'⟩
theorem o_mul0 : Op2 X (binaryOp .Mult) gMul0 := by
  refine Op2.or (g := gMulI) ⟨_, op_mulW, imp_rI fun i j h => mulOk_of h⟩ o_mulT fun x y z h => ?_
  cases x <;> cases y <;> first | (cases h; done) | exact .inl h | exact .inr h
theorem o_mul : Op2 X (binaryOp .Mult) gMul := by
  refine Op2.or o_mul0 (o_ib (op := fun a b => a * b) op_ib_mul) fun x y z h => ?_
  cases x <;> cases y <;> first | (cases h; done) | exact .inl h | exact .inr h
def fdivOk (_ j : Int) : Bool := decide (j ≠ 0) && decide (j.natAbs.log2 < 9000)
def gFdiv : D → D → Option D := gI fdivOk fun i j => .int (i.fdiv j)
theorem op_fdivA : OpR X (binaryOp .FloorDiv) (rI (fun _ j => j ≠ 0 ∧ j.natAbs.log2 < 9000) fun i j => .int (i.fdiv j)) := opI fun _ _ _ _ _ _ _ hc q => floordiv_int hc.1 q (.inl (PyProof.noPylong_of_log2 hc.2))
theorem o_fdiv : Op2 X (binaryOp .FloorDiv) gFdiv := ⟨_, op_fdivA, imp_rI fun i j h => by
  unfold fdivOk at h
  simp only [Bool.and_eq_true, decide_eq_true_eq] at h
  exact h⟩
def gMod : D → D → Option D := gI (fun _ j => decide (j ≠ 0)) fun i j => .int (i.fmod j)
theorem o_mod : Op2 X (binaryOp .Mod) gMod := ⟨_, op_modN, imp_rI fun i j h => of_decide_eq_true h⟩
def powOk (i j : Int) : Bool := decide (0 ≤ j) && (decide (j ≤ 1000000) && decide (i.natAbs < 2 ^ 64))
theorem powOk_of {i j : Int} (h : powOk i j = true) : CPow i j := by
  unfold powOk at h
  simp only [Bool.and_eq_true, decide_eq_true_eq] at h
  exact ⟨h.1, h.2.1, h.2.2⟩
def gPow : D → D → Option D := gI powOk fun i j => .int (i ^ j.toNat)
theorem o_pow : Op2 X (binaryOp .Pow) gPow := ⟨_, op_pow, imp_rI fun i j h => powOk_of h⟩
def gShl : D → D → Option D := gI powOk fun i j => .int (i * 2 ^ j.toNat)
theorem o_shl : Op2 X (binaryOp .LShift) gShl := ⟨_, op_shl, imp_rI fun i j h => powOk_of h⟩
/-! ### comparisons -/
def gS (g : Str → Str → Bool) : D → D → Option D
  | .str a, .str b => some (.bool (g a b))
  | _, _ => none
theorem imp_S {K : PySem.W.Frag} {g : Str → Str → Bool} : Imp2 K (fun x y H Q => ∃ i j, x = .str i ∧ y = .str j ∧ Q (.bl (g i j)) H) (gS g) := by
  intro Z H x y d e z Q zh q1 q2 hz k
  cases q1 <;> (try (cases hz; done))
  cases q2 <;> (try (cases hz; done))
  cases hz
  exact ⟨_, _, rfl, rfl, k _ Z H (.refl zh) (.bl _)⟩
def strLt (a b : Str) : Bool := decide (a.cps.toList < b.cps.toList)
def gCmp (gi : Int → Int → Bool) (gs : Str → Str → Bool) : D → D → Option D
  | .int i, .int j => some (.bool (gi i j))
  | .str i, .str j => some (.bool (gs i j))
  | _, _ => none
theorem o_cmp {op : CmpOp} {gi : Int → Int → Bool} {gs : Str → Str → Bool} (h1 : OpR X (compareOp op) (rI0 fun i j => .bl (gi i j))) (h2 : OpR X (compareOp op) (fun x y H Q => ∃ i j, x = .str i ∧ y = .str j ∧ Q (.bl (gs i j)) H)) : Op2 X (compareOp op) (gCmp gi gs) := by
  refine Op2.or (g := gI (fun _ _ => true) fun i j => .bool (gi i j)) (g' := gS gs) ⟨_, h1, imp_rB0⟩ ⟨_, h2, imp_S⟩ fun x y z h => ?_
  cases x <;> cases y <;> first | (cases h; done) | exact .inl h | exact .inr h
def gLt : D → D → Option D := gCmp (fun i j => decide (i < j)) strLt
def gLe : D → D → Option D := gCmp (fun i j => decide (i ≤ j)) fun a b => !strLt b a
def gGt : D → D → Option D := gCmp (fun i j => decide (j < i)) fun a b => strLt b a
def gGe : D → D → Option D := gCmp (fun i j => decide (j ≤ i)) fun a b => !strLt a b
theorem o_lt : Op2 X (compareOp .Lt) gLt := o_cmp op_lt op_lt_str
theorem o_le : Op2 X (compareOp .LtE) gLe := o_cmp op_le op_le_str
theorem o_gt : Op2 X (compareOp .Gt) gGt := o_cmp op_gt op_gt_str
theorem o_ge : Op2 X (compareOp .GtE) gGe := o_cmp op_ge op_ge_str
def eqOk (d e : D) : Bool := decide (min d.depth e.depth ≤ 64) && (e.plain || d.plain)
theorem eqOk_iff {d e : D} : eqOk d e = true ↔ min d.depth e.depth ≤ 64 ∧ (d.plain = true ∨ e.plain = true) := by
  unfold eqOk
  rw [Bool.and_eq_true, Bool.or_eq_true, decide_eq_true_iff]
  exact and_congr_right fun _ => or_comm
def gEq (d e : D) : Option D := if eqOk d e = true then some (.bool (PyData.eqv d e)) else none
def gNe (d e : D) : Option D := if eqOk d e = true then some (.bool (!PyData.eqv d e)) else none
theorem op_eqP (hu : X.A.units + 64 < cLine) : OpR X (compareOp .Eq) (fun x y H Q => ∃ d e, Dp X.K H x d ∧ Dp X.K H y e ∧ (min d.depth e.depth ≤ 64 ∧ Half d e) ∧ Q (.bl (PyData.eqv d e)) H) := by
  intro pins s σ H x y v u Q I rx ry ⟨d, e, hd, he, ⟨hm, hh⟩, q⟩
  obtain ⟨as, r1⟩ := Dp.reads I d x v hd rx
  obtain ⟨bs, r2⟩ := Dp.reads I e y u he ry
  exact (cmp_half (A := X.A) r1 r2 hh (by omega)).rc _ _ _ _ ⟨.bl _, H, I, rfl, q⟩
theorem op_neP (hu : X.A.units + 64 < cLine) : OpR X (compareOp .NotEq) (fun x y H Q => ∃ d e, Dp X.K H x d ∧ Dp X.K H y e ∧ (min d.depth e.depth ≤ 64 ∧ Half d e) ∧ Q (.bl (!PyData.eqv d e)) H) := by
  intro pins s σ H x y v u Q I rx ry ⟨d, e, hd, he, ⟨hm, hh⟩, q⟩
  obtain ⟨as, r1⟩ := Dp.reads I d x v hd rx
  obtain ⟨bs, r2⟩ := Dp.reads I e y u he ry
  exact (cmp_half (A := X.A) r1 r2 hh (by omega)).rn _ _ _ _ ⟨.bl _, H, I, rfl, q⟩
theorem o_eq (hu : X.A.units + 64 < cLine) : Op2 X (compareOp .Eq) gEq := ⟨_, op_eqP hu, by
  intro Z H x y d e z Q zh q1 q2 hz k
  unfold gEq at hz
  by_cases h : eqOk d e = true
  · rw [if_pos h] at hz
    cases hz
    exact ⟨d, e, Dp.mono zh _ _ q1, Dp.mono zh _ _ q2, eqOk_iff.mp h, k _ Z H (.refl zh) (.bl _)⟩
  · rw [if_neg h] at hz; cases hz⟩
theorem o_ne (hu : X.A.units + 64 < cLine) : Op2 X (compareOp .NotEq) gNe := ⟨_, op_neP hu, by
  intro Z H x y d e z Q zh q1 q2 hz k
  unfold gNe at hz
  by_cases h : eqOk d e = true
  · rw [if_pos h] at hz
    cases hz
    exact ⟨d, e, Dp.mono zh _ _ q1, Dp.mono zh _ _ q2, eqOk_iff.mp h, k _ Z H (.refl zh) (.bl _)⟩
  · rw [if_neg h] at hz; cases hz⟩
def isNone : D → Bool
  | .none => true
  | _ => false
def gIs (d e : D) : Option D := match e with
  | .none => some (.bool (isNone d))
  | .bool c => (match d with
    | .bool b => some (.bool (decide (b = c)))
    | _ => none)
  | _ => none
def gIsNot (d e : D) : Option D := match e with
  | .none => some (.bool (!isNone d))
  | .bool c => (match d with
    | .bool b => some (.bool (!decide (b = c)))
    | _ => none)
  | _ => none
theorem isNone_of {K : PySem.W.Frag} {Z : Hp} {x : V} {d : D} (h : Dp K Z x d) : isNone d = decide (x = .non) := by
  cases h <;> simp [isNone]
theorem o_is : Op2 X (compareOp .Is) gIs := ⟨_, OpR.or op_isN op_is_bl, by
  intro Z H x y d e z Q zh q1 q2 hz k
  cases q2 <;> (try (cases hz; done))
  · cases hz
    exact .inl ⟨rfl, k _ Z H (.refl zh) (by rw [isNone_of q1]; exact .bl _)⟩
  · cases q1 <;> (try (cases hz; done))
    cases hz
    exact .inr ⟨_, _, rfl, rfl, k _ Z H (.refl zh) (.bl _)⟩⟩
theorem o_isnot : Op2 X (compareOp .IsNot) gIsNot := ⟨_, OpR.or op_notN op_isnot_bl, by
  intro Z H x y d e z Q zh q1 q2 hz k
  cases q2 <;> (try (cases hz; done))
  · cases hz
    exact .inl ⟨rfl, k _ Z H (.refl zh) (by rw [isNone_of q1]; exact .bl _)⟩
  · cases q1 <;> (try (cases hz; done))
    cases hz
    exact .inr ⟨_, _, rfl, rfl, k _ Z H (.refl zh) (.bl _)⟩⟩
def inOk (xs : List D) (d : D) : Bool := decide (min (PyData.depthAll xs) d.depth ≤ 62) && (d.plain || PyData.plainAll xs)
theorem inOk_iff {xs : List D} {d : D} : inOk xs d = true ↔ min (PyData.depthAll xs) d.depth ≤ 62 ∧ (d.plain = true ∨ PyData.plainAll xs = true) := by
  unfold inOk
  rw [Bool.and_eq_true, Bool.or_eq_true, decide_eq_true_iff]
def gIn (d e : D) : Option D := match e with
  | .list xs => if inOk xs d = true then some (.bool (xs.any fun y => PyData.eqv y d)) else none
  | .tuple xs => if inOk xs d = true then some (.bool (xs.any fun y => PyData.eqv y d)) else none
  | _ => none
def gNotIn (d e : D) : Option D := match e with
  | .list xs => if inOk xs d = true then some (.bool (!xs.any fun y => PyData.eqv y d)) else none
  | .tuple xs => if inOk xs d = true then some (.bool (!xs.any fun y => PyData.eqv y d)) else none
  | _ => none
theorem op_inP (hu : X.A.units + 64 < cLine) : OpR X (compareOp .In) (fun x y H Q => ∃ d e z, Dp X.K H x d ∧ Dp X.K H y e ∧ gIn d e = some z ∧ ∀ b, z = .bool b → Q (.bl b) H) := by
  intro pins s σ H x y v u Q I rx ry ⟨d, e, z, hd, he, hz, q⟩
  obtain ⟨as, r1⟩ := Dp.reads I d x v hd rx
  obtain ⟨bs, r2⟩ := Dp.reads I e y u he ry
  unfold gIn at hz
  split at hz
  · rename_i xs
    by_cases h : inOk xs d = true
    · rw [if_pos h] at hz; cases hz
      have h2 := inOk_iff.mp h
      exact (in_half (.inl r2) r1 h2.2 (by have := h2.1; omega)).1 ⟨.bl _, H, I, rfl, q _ rfl⟩
    · rw [if_neg h] at hz; cases hz
  · rename_i xs
    by_cases h : inOk xs d = true
    · rw [if_pos h] at hz; cases hz
      have h2 := inOk_iff.mp h
      exact (in_half (.inr r2) r1 h2.2 (by have := h2.1; omega)).1 ⟨.bl _, H, I, rfl, q _ rfl⟩
    · rw [if_neg h] at hz; cases hz
  · cases hz
theorem op_notInP (hu : X.A.units + 64 < cLine) : OpR X (compareOp .NotIn) (fun x y H Q => ∃ d e z, Dp X.K H x d ∧ Dp X.K H y e ∧ gNotIn d e = some z ∧ ∀ b, z = .bool b → Q (.bl b) H) := by
  intro pins s σ H x y v u Q I rx ry ⟨d, e, z, hd, he, hz, q⟩
  obtain ⟨as, r1⟩ := Dp.reads I d x v hd rx
  obtain ⟨bs, r2⟩ := Dp.reads I e y u he ry
  unfold gNotIn at hz
  split at hz
  · rename_i xs
    by_cases h : inOk xs d = true
    · rw [if_pos h] at hz; cases hz
      have h2 := inOk_iff.mp h
      exact (in_half (.inl r2) r1 h2.2 (by have := h2.1; omega)).2 ⟨.bl _, H, I, rfl, q _ rfl⟩
    · rw [if_neg h] at hz; cases hz
  · rename_i xs
    by_cases h : inOk xs d = true
    · rw [if_pos h] at hz; cases hz
      have h2 := inOk_iff.mp h
      exact (in_half (.inr r2) r1 h2.2 (by have := h2.1; omega)).2 ⟨.bl _, H, I, rfl, q _ rfl⟩
    · rw [if_neg h] at hz; cases hz
  · cases hz
theorem gIn_bool {d e z : D} (h : gIn d e = some z) : ∃ b, z = .bool b := by
  unfold gIn at h
  split at h
  · split at h <;> cases h; exact ⟨_, rfl⟩
  · split at h <;> cases h; exact ⟨_, rfl⟩
  · cases h
theorem gNotIn_bool {d e z : D} (h : gNotIn d e = some z) : ∃ b, z = .bool b := by
  unfold gNotIn at h
  split at h
  · split at h <;> cases h; exact ⟨_, rfl⟩
  · split at h <;> cases h; exact ⟨_, rfl⟩
  · cases h
theorem o_in (hu : X.A.units + 64 < cLine) : Op2 X (compareOp .In) gIn := ⟨_, op_inP hu, by
  intro Z H x y d e z Q zh q1 q2 hz k
  obtain ⟨b, rfl⟩ := gIn_bool hz
  exact ⟨d, e, _, Dp.mono zh _ _ q1, Dp.mono zh _ _ q2, hz, fun c hc => by cases hc; exact k _ Z H (.refl zh) (.bl _)⟩⟩
theorem o_notin (hu : X.A.units + 64 < cLine) : Op2 X (compareOp .NotIn) gNotIn := ⟨_, op_notInP hu, by
  intro Z H x y d e z Q zh q1 q2 hz k
  obtain ⟨b, rfl⟩ := gNotIn_bool hz
  exact ⟨d, e, _, Dp.mono zh _ _ q1, Dp.mono zh _ _ q2, hz, fun c hc => by cases hc; exact k _ Z H (.refl zh) (.bl _)⟩⟩
end
end Ev
namespace Ev
open PySem PySem.Spec PyProof.Rows L2
/-! ## arguments -/
inductive AR where
  | val (d : D) | slot (i : Nat) | tmp (ds : List D)
def tmps : List V → List AR → List Addr
  | .ref p :: vs, .tmp _ :: as => p :: tmps vs as
  | _ :: vs, _ :: as => tmps vs as
  | _, _ => []
inductive ArsOk (K : PySem.W.Frag) (F Z H : Hp) (σ : L2.St) (env : En) : List V → List AR → Prop where
  | nil : ArsOk K F Z H σ env [] []
  | val {v : V} {d : D} {vs : List V} {as : List AR} : Dp K Z v d → ArsOk K F Z H σ env vs as → ArsOk K F Z H σ env (v :: vs) (.val d :: as)
  | slot {v : V} {i : Nat} {vs : List V} {as : List AR} : σ[i]? = some (some v) → ArsOk K F Z H σ env vs as → ArsOk K F Z H σ env (v :: vs) (.slot i :: as)
  | tmp {p : Addr} {us : List V} {ds : List D} {vs : List V} {as : List AR} : H p = some (.lst us) → Z p = none → F p = none → DpAll K Z us ds →
      (∀ (i : Nat) (o : Option V) (s : Sl), σ[i]? = some o → env[i]? = some s → ¬ Ow H o s p) → p ∉ tmps vs as → ArsOk K F Z H σ env vs as → ArsOk K F Z H σ env (.ref p :: vs) (.tmp ds :: as)
def tAa (K : PySem.W.Frag) (f : Fx (List AR)) : TA := fun σ H Q => ∃ F pa Z env as env', Wst K F Z H pa σ env ∧ f env = some (as, env') ∧
  ∀ vs Z' H', Gr F Z Z' → Wst K F Z' H' pa σ env' → ArsOk K F Z' H' σ env' vs as → Q vs H'
def aNil : Fx (List AR) := fun env => some ([], env)
def aVal (f : Fx D) (g : Fx (List AR)) : Fx (List AR) := fun env => (f env).bind fun p => (g p.2).map fun q => (.val p.1 :: q.1, q.2)
def isOwn : Sl → Bool
  | .own _ => true
  | .par _ => true
  | _ => false
theorem Wst.own_at {K : PySem.W.Frag} {F Z H : Hp} {pa : Nat → Option Addr} {σ : L2.St} {env : En} {i : Nat} {s : Sl} (W : Wst K F Z H pa σ env) (e : env[i]? = some s) (h : isOwn s = true) : ∃ v, σ[i]? = some (some v) := by
  obtain ⟨o, eo, so⟩ := W.get e
  cases so with
  | no => cases h
  | val => cases h
  | own => exact ⟨_, eo⟩
  | par => exact ⟨_, eo⟩
  | mat => cases h
def aSlot (i : Nat) (g : Fx (List AR)) : Fx (List AR) := fun env => match env[i]? with
  | some (.val d) => (g env).map fun q => (.val d :: q.1, q.2)
  | some s => if isOwn s = true then (g env).map fun q => (.slot i :: q.1, q.2) else none
  | none => none
def aTmp (f : Fx R) (g : Fx (List AR)) : Fx (List AR) := fun env => match f env with
  | some (.fresh ds, e) => (g e).map fun q => (.tmp ds :: q.1, q.2)
  | _ => none
theorem ArsOk.tmpF {K : PySem.W.Frag} {F Z H : Hp} {σ : L2.St} {env : En} : ∀ {vs : List V} {as : List AR}, ArsOk K F Z H σ env vs as → ∀ p ∈ tmps vs as, F p = none
  | _, _, .nil, p, h => by cases h
  | _, _, .val (v := v) _ t, p, h => t.tmpF p (by cases v <;> exact h)
  | _, _, .slot (v := v) _ t, p, h => t.tmpF p (by cases v <;> exact h)
  | _, _, .tmp (p := p0) _ _ f _ _ _ t, p, h => by
    rcases List.mem_cons.mp (show p ∈ p0 :: tmps _ _ from h) with rfl | h
    · exact f
    · exact t.tmpF p h
theorem ArsOk.frame {K : PySem.W.Frag} {F F1 Z H : Hp} {σ : L2.St} {env : En} (s : Same F F1) : ∀ {vs : List V} {as : List AR}, ArsOk K F1 Z H σ env vs as → ArsOk K F Z H σ env vs as
  | _, _, .nil => .nil
  | _, _, .val a t => .val a (t.frame s)
  | _, _, .slot a t => .slot a (t.frame s)
  | _, _, .tmp a b c d e f t => .tmp a b (s.free c) d e f (t.frame s)
section
variable {X : Cx} {e : Expr} {es : List Expr}
theorem s_aNil : PA X [] (tAa X.K aNil) := by
  refine PA.imp pa_nil fun σ H Q ⟨F, pa, Z, env, as, env', W, h, k⟩ => ?_
  cases h
  exact k [] Z H (.refl ..) W .nil
theorem s_aVal {f : Fx D} {g : Fx (List AR)} (h1 : PE X e (tE X.K f)) (h2 : PA X es (tAa X.K g)) (hs : starEach (e :: es) X.env = (false, eval e X.env) :: starEach es X.env) : PA X (e :: es) (tAa X.K (aVal f g)) := by
  refine PA.imp (pa_cons h1 h2 hs) fun σ H Q ⟨F, pa, Z, env, as, env', W, h, k⟩ => ?_
  unfold aVal at h
  cases e1 : f env with
  | none => rw [e1] at h; cases h
  | some p =>
    obtain ⟨d, env1⟩ := p
    rw [e1, Option.bind_some] at h
    cases e2 : g env1 with
    | none => simp only [e2] at h; cases h
    | some q =>
      obtain ⟨as', env2⟩ := q
      simp only [e2] at h
      cases h
      exact ⟨F, pa, Z, env, d, env1, W, e1, fun v Z1 H1 g1 W1 q1 => ⟨F, pa, Z1, env1, as', _, W1, e2, fun vs Z2 H2 g2 W2 q2 => k (v :: vs) Z2 H2 (g1.trans g2) W2 (.val (Dp.mono g2.zz _ _ q1) q2)⟩⟩
theorem s_aSlot {i : Nat} {g : Fx (List AR)} (h1 : PE X e (tVar i)) (h2 : PA X es (tAa X.K g)) (hs : starEach (e :: es) X.env = (false, eval e X.env) :: starEach es X.env)
    : PA X (e :: es) (tAa X.K (aSlot i g)) := by
  refine PA.imp (pa_cons h1 h2 hs) fun σ H Q ⟨F, pa, Z, env, as, env', W, h, k⟩ => ?_
  unfold aSlot at h
  split at h
  · rename_i d e1
    obtain ⟨o, eo, so⟩ := W.get e1
    cases so with
    | @val v _ dp =>
      cases e3 : g env with
      | none => rw [e3] at h; cases h
      | some q =>
        rw [e3] at h
        cases h
        exact ⟨v, eo, F, pa, Z, env, q.1, q.2, W, e3, fun vs Z2 H2 g2 W2 q2 => k (v :: vs) Z2 H2 g2 W2 (.val (Dp.mono g2.zz _ _ dp) q2)⟩
  · rename_i sl _ e1
    cases e2 : isOwn sl with
    | false => rw [e2, if_neg Bool.false_ne_true] at h; cases h
    | true =>
      rw [if_pos e2] at h
      obtain ⟨v, hv⟩ := W.own_at e1 e2
      cases e3 : g env with
      | none => rw [e3] at h; cases h
      | some q =>
        rw [e3] at h
        cases h
        exact ⟨v, hv, F, pa, Z, env, q.1, q.2, W, e3, fun vs Z2 H2 g2 W2 q2 => k (v :: vs) Z2 H2 g2 W2 (.slot hv q2)⟩
  · cases h
theorem s_aTmp {f : Fx R} {g : Fx (List AR)} (h1 : PE X e (tR X.K f)) (h2 : PA X es (tAa X.K g)) (hs : starEach (e :: es) X.env = (false, eval e X.env) :: starEach es X.env) : PA X (e :: es) (tAa X.K (aTmp f g)) := by
  refine PA.imp (pa_cons h1 h2 hs) fun σ H Q ⟨F, pa, Z, env, as, env', W, h, k⟩ => ?_
  unfold aTmp at h
  split at h
  · rename_i ds env1 e1
    cases e2 : g env1 with
    | none => rw [e2] at h; cases h
    | some q =>
      rw [e2] at h
      cases h
      refine ⟨F, pa, Z, env, _, env1, W, e1, fun v Z1 H1 g1 W1 q1 => ?_⟩
      obtain ⟨p, us, rfl, hp, zp, fp, da, no⟩ := q1
      have sf : Same F (upd F p (.lst us)) := upd_none fp
      refine ⟨upd F p (.lst us), pa, Z1, env1, q.1, q.2, W1.frameUp hp no, e2, fun vs Z2 H2 g2 W2 q2 => ?_⟩
      have g2' : Gr F Z1 Z2 := g2.frame sf
      refine k (.ref p :: vs) Z2 H2 (g1.trans g2') (W2.frame sf) (.tmp (W2.fh p _ upd_same) ?_ fp (DpAll.mono g2.zz _ _ da) (fun i o s a1 a2 a3 => ?_) (fun hm => ?_) (q2.frame sf))
      · exact (g2.nf p (by rw [upd_same]; exact fun z => nomatch z)).trans zp
      · obtain ⟨us', b1, b2, b3⟩ := (W2.sl i o s a1 a2).at_ a3
        rw [upd_same] at b2; cases b2
      · have := q2.tmpF p hm
        rw [upd_same] at this; cases this
  · cases h
end
end Ev
namespace Ev
open PySem PySem.Spec PyProof.Rows L2
/-! ## own defs -/
def ownAdr : List V → List AV → List Addr
  | .ref a :: vs, .own _ :: as => a :: ownAdr vs as
  | _ :: vs, _ :: as => ownAdr vs as
  | _, _ => []
inductive AvOk (K : PySem.W.Frag) (F Z H : Hp) : List V → List AV → Prop where
  | nil : AvOk K F Z H [] []
  | val {v : V} {d : D} {vs : List V} {as : List AV} : Dp K Z v d → AvOk K F Z H vs as → AvOk K F Z H (v :: vs) (.val d :: as)
  | own {a : Addr} {us : List V} {ds : List D} {vs : List V} {as : List AV} : H a = some (.lst us) → F a = none → Z a = none → DpAll K Z us ds → a ∉ ownAdr vs as → AvOk K F Z H vs as → AvOk K F Z H (.ref a :: vs) (.own ds :: as)
theorem AvOk.length {K : PySem.W.Frag} {F Z H : Hp} : ∀ {vs : List V} {as : List AV}, AvOk K F Z H vs as → vs.length = as.length
  | _, _, .nil => rfl
  | _, _, .val _ t => congrArg Nat.succ t.length
  | _, _, .own _ _ _ _ _ t => congrArg Nat.succ t.length
/-- what stands at the lists handed in, behind the call -/
inductive OutOk (K : PySem.W.Frag) (Z H : Hp) : List Addr → List (List D) → Prop where
  | nil : OutOk K Z H [] []
  | cons {a : Addr} {us : List V} {ds : List D} {as : List Addr} {os : List (List D)} : H a = some (.lst us) → Z a = none → DpAll K Z us ds → OutOk K Z H as os → OutOk K Z H (a :: as) (ds :: os)
theorem OutOk.mem {K : PySem.W.Frag} {Z H : Hp} : ∀ {as : List Addr} {os : List (List D)}, OutOk K Z H as os → ∀ a ∈ as, Z a = none ∧ ∃ us, H a = some (.lst us)
  | _, _, .nil, a, h => by cases h
  | _, _, .cons (a := a0) h1 h2 _ t, a, h => by
    rcases List.mem_cons.mp h with rfl | h
    · exact ⟨h2, _, h1⟩
    · exact t.mem a h
def RtOk (K : PySem.W.Frag) (F Z H : Hp) (own : List Addr) (v : V) : R → Prop
  | .val d => Dp K Z v d
  | .fresh ds => ∃ p us, v = .ref p ∧ H p = some (.lst us) ∧ Z p = none ∧ F p = none ∧ p ∉ own ∧ DpAll K Z us ds
  | .mat dss => ∃ p us bs, v = .ref p ∧ H p = some (.lst us) ∧ Z p = none ∧ F p = none ∧ RowsOk K F Z H us dss bs ∧ p ∉ bs ∧ ∀ q, (q = p ∨ q ∈ bs) → q ∉ own
abbrev Fn := List AV → Option (R × List (List D))
/-- the promise of a def that answers as g does -/
def spF (K : PySem.W.Frag) (np : Nat) (g : Fn) : Sp := fun vs H Q _ => vs.length = np ∧ ∃ F Z avs r outs, Same F H ∧ Same Z H ∧ AvOk K F Z H vs avs ∧ g avs = some (r, outs) ∧
  ∀ v Z' H', Gr F Z Z' → Same F H' → Same Z' H' → OutOk K Z' H' (ownAdr vs avs) outs → RtOk K F Z' H' (ownAdr vs avs) v r → Q v H'
/-- the values handed in, as they stand at the call -/
def toAv (env : En) : List AR → Option (List AV)
  | [] => some []
  | .val d :: as => (toAv env as).map fun r => .val d :: r
  | .tmp ds :: as => (toAv env as).map fun r => .own ds :: r
  | .slot i :: as => match env[i]? with
    | some (.own ds) => (toAv env as).map fun r => .own ds :: r
    | some (.par ds) => (toAv env as).map fun r => .own ds :: r
    | _ => none
def slotsOf : List AR → List Nat
  | [] => []
  | .slot i :: as => i :: slotsOf as
  | _ :: as => slotsOf as
def putOuts : List AR → List (List D) → En → Option En
  | [], [], env => some env
  | .val _ :: as, os, env => putOuts as os env
  | .tmp _ :: as, _ :: os, env => putOuts as os env
  | .slot i :: as, o :: os, env => match env[i]? with
    | some (.own _) => putOuts as os (env.set i (.own o))
    | some (.par _) => putOuts as os (env.set i (.par o))
    | _ => none
  | _, _, _ => none
def natNodup : List Nat → Bool
  | [] => true
  | n :: ns => !ns.contains n && natNodup ns
theorem natNodup_ok : ∀ {l : List Nat}, natNodup l = true → l.Nodup
  | [], _ => .nil
  | n :: ns, h => by
    unfold natNodup at h
    simp only [Bool.and_eq_true, Bool.not_eq_true', List.contains_eq_mem, decide_eq_false_iff_not] at h
    exact List.nodup_cons.mpr ⟨h.1, natNodup_ok h.2⟩
def eCall (g : Fn) (f : Fx (List AR)) : Fx R := fun env => match f env with
  | some (as, env1) => if natNodup (slotsOf as) = true then
      match toAv env1 as with
      | some avs => match g avs with
        | some (r, outs) => (putOuts as outs env1).map fun e => (r, e)
        | none => none
      | none => none
    else none
  | none => none
section
variable {K : PySem.W.Frag} {F Z H : Hp} {pa : Nat → Option Addr} {σ : L2.St} {env : En}
/-- the frame of a call: all but the lists handed in -/
def minus (H : Hp) (l : List Addr) : Hp := fun b => if b ∈ l then none else H b
theorem minus_in {l : List Addr} {b : Addr} (h : b ∈ l) : minus H l b = none := if_pos h
theorem minus_out {l : List Addr} {b : Addr} (h : b ∉ l) : minus H l b = H b := if_neg h
theorem minus_same {l : List Addr} : Same (minus H l) H := fun b o e => by
  by_cases h : b ∈ l
  · rw [minus_in h] at e; cases e
  · rw [minus_out h] at e; exact e
/-- the lists handed in: slots' own, or temporaries -/
theorem ars_adr (W : Wst K F Z H pa σ env) : ∀ {vs : List V} {as : List AR} {avs : List AV}, ArsOk K F Z H σ env vs as → toAv env as = some avs →
    ∀ a ∈ ownAdr vs avs, (∃ i ∈ slotsOf as, ∃ s, σ[i]? = some (some (.ref a)) ∧ env[i]? = some s ∧ Ow H (some (.ref a)) s a) ∨ a ∈ tmps vs as
  | _, _, avs, .nil, h, a, ha => by cases h; cases ha
  | _, _, avs, .val (v := v) (d := d) (vs := vs) (as := as) _ t, h, a, ha => by
    cases e : toAv env as with
    | none => simp only [toAv, e] at h; cases h
    | some r =>
      simp only [toAv, e] at h; cases h
      have ha' : a ∈ ownAdr vs r := by cases v <;> exact ha
      rcases ars_adr W t e a ha' with q | q
      · exact .inl q
      · exact .inr (by cases v <;> exact q)
  | _, _, avs, .tmp (p := p) (ds := ds) (vs := vs) (as := as) _ _ _ _ _ _ t, h, a, ha => by
    cases e : toAv env as with
    | none => simp only [toAv, e] at h; cases h
    | some r =>
      simp only [toAv, e] at h; cases h
      rcases List.mem_cons.mp (show a ∈ p :: ownAdr vs r from ha) with rfl | ha
      · exact .inr (List.mem_cons_self ..)
      · rcases ars_adr W t e a ha with q | q
        · exact .inl q
        · exact .inr (List.mem_cons_of_mem _ q)
  | _, _, avs, .slot (v := v) (i := i) (vs := vs) (as := as) hv t, h, a, ha => by
    have key : ∀ (s : Sl) (ds : List D), env[i]? = some s → (∀ b, Ow H (some (.ref b)) s b) → (toAv env as).map (fun r => AV.own ds :: r) = some avs → ((∃ k ∈ slotsOf (.slot i :: as), ∃ s, σ[k]? = some (some (.ref a)) ∧ env[k]? = some s ∧ Ow H (some (.ref a)) s a) ∨ a ∈ tmps vs as) := fun s ds es ow h => by
      cases e : toAv env as with
      | none => rw [e] at h; cases h
      | some r =>
        rw [e] at h; cases h
        cases v with
        | ref b =>
          rcases List.mem_cons.mp (show a ∈ b :: ownAdr vs r from ha) with rfl | ha
          · exact .inl ⟨i, List.mem_cons_self .., s, hv, es, ow _⟩
          · rcases ars_adr W t e a ha with ⟨j, hj, q⟩ | q
            · exact .inl ⟨j, List.mem_cons_of_mem _ hj, q⟩
            · exact .inr q
        | _ =>
          rcases ars_adr W t e a ha with ⟨j, hj, q⟩ | q
          · exact .inl ⟨j, List.mem_cons_of_mem _ hj, q⟩
          · exact .inr q
    have fin : (∃ k ∈ slotsOf (.slot i :: as), ∃ s, σ[k]? = some (some (.ref a)) ∧ env[k]? = some s ∧ Ow H (some (.ref a)) s a) ∨ a ∈ tmps vs as := by
      unfold toAv at h
      split at h
      · rename_i ds es; exact key _ ds es (fun _ => rfl) h
      · rename_i ds es; exact key _ ds es (fun _ => rfl) h
      · cases h
    rcases fin with q | q
    · exact .inl q
    · exact .inr (by cases v <;> exact q)
theorem tmps_not_own : ∀ {vs : List V} {as : List AR}, ArsOk K F Z H σ env vs as → ∀ p ∈ tmps vs as, (∃ us, H p = some (.lst us)) ∧ Z p = none ∧ F p = none ∧ ∀ (i : Nat) (o : Option V) (s : Sl), σ[i]? = some o → env[i]? = some s → ¬ Ow H o s p
  | _, _, .nil, p, h => by cases h
  | _, _, .val (v := v) _ t, p, h => tmps_not_own t p (by cases v <;> exact h)
  | _, _, .slot (v := v) _ t, p, h => tmps_not_own t p (by cases v <;> exact h)
  | _, _, .tmp (p := p0) a b c d e f t, p, h => by
    rcases List.mem_cons.mp (show p ∈ p0 :: tmps _ _ from h) with rfl | h
    · exact ⟨⟨_, a⟩, b, c, e⟩
    · exact tmps_not_own t p h
theorem ars_av (W : Wst K F Z H pa σ env) (Fc : Hp) : ∀ {vs : List V} {as : List AR} {avs : List AV}, ArsOk K F Z H σ env vs as → toAv env as = some avs → (slotsOf as).Nodup → (∀ a ∈ ownAdr vs avs, Fc a = none) → AvOk K Fc Z H vs avs
  | _, _, avs, .nil, h, _, _ => by cases h; exact .nil
  | _, _, avs, .val (v := v) (d := d) (vs := vs) (as := as) q t, h, nd, hF => by
    cases e : toAv env as with
    | none => simp only [toAv, e] at h; cases h
    | some r =>
      simp only [toAv, e] at h; cases h
      exact .val q (ars_av W Fc t e nd fun a ha => hF a (by cases v <;> exact ha))
  | _, _, avs, .tmp (p := p) (ds := ds) (vs := vs) (as := as) h1 h2 h3 h4 h5 h6 t, h, nd, hF => by
    cases e : toAv env as with
    | none => simp only [toAv, e] at h; cases h
    | some r =>
      simp only [toAv, e] at h; cases h
      refine .own h1 (hF p (List.mem_cons_self ..)) h2 h4 (fun hm => ?_) (ars_av W Fc t e nd fun a ha => hF a (List.mem_cons_of_mem _ ha))
      rcases ars_adr W t e p hm with ⟨i, _, s, q1, q2, q3⟩ | q
      · exact h5 i _ s q1 q2 q3
      · exact h6 q
  | _, _, avs, .slot (v := v) (i := i) (vs := vs) (as := as) hv t, h, nd, hF => by
    have nd' := List.nodup_cons.mp (show (i :: slotsOf as).Nodup from nd)
    have key : ∀ (s : Sl) (a : Addr) (us : List V) (ds : List D), v = .ref a → env[i]? = some s → Ow H (some (.ref a)) s a → H a = some (.lst us) → Z a = none → DpAll K Z us ds → (toAv env as).map (fun r => AV.own ds :: r) = some avs → AvOk K Fc Z H (v :: vs) avs := fun s a us ds ev es ow h1 h2 h3 h => by
      subst ev
      cases e : toAv env as with
      | none => rw [e] at h; cases h
      | some r =>
        rw [e] at h; cases h
        refine .own h1 (hF a (List.mem_cons_self ..)) h2 h3 (fun hm => ?_) (ars_av W Fc t e nd'.2 fun b hb => hF b (List.mem_cons_of_mem _ hb))
        rcases ars_adr W t e a hm with ⟨j, hj, s', q1, q2, q3⟩ | q
        · exact W.dj i j _ _ s s' a (fun z => nd'.1 (z ▸ hj)) hv es q1 q2 ow q3
        · exact (tmps_not_own t a q).2.2.2 i _ s hv es ow
    unfold toAv at h
    split at h
    · rename_i ds es
      cases W.sl i _ _ hv es with
      | own h1 h2 h3 h4 => exact key _ _ _ ds rfl es rfl h1 h3 h4 h
    · rename_i ds es
      cases W.sl i _ _ hv es with
      | par h0 h1 h2 h3 h4 => exact key _ _ _ ds rfl es rfl h1 h3 h4 h
    · cases h
/-- the slots behind a call -/
theorem put_spec {Z' H' : Hp} : ∀ {vs : List V} {as : List AR} {avs : List AV} {outs : List (List D)} {env0 env2 : En}, ArsOk K F Z H σ env vs as → toAv env as = some avs → OutOk K Z' H' (ownAdr vs avs) outs → (∀ i ∈ slotsOf as, ∃ v, σ[i]? = some (some v)) →
    (∀ i ∈ slotsOf as, ∃ a, σ[i]? = some (some (.ref a))) → putOuts as outs env0 = some env2 → env2.length = env0.length ∧ ∀ (j : Nat) (s : Sl), env2[j]? = some s → (env0[j]? = some s ∧ j ∉ slotsOf as) ∨
      ∃ a us ds s0, σ[j]? = some (some (.ref a)) ∧ env0[j]? = some s0 ∧ ((s = .own ds ∧ ∃ d0, s0 = .own d0) ∨ (s = .par ds ∧ ∃ d0, s0 = .par d0)) ∧ H' a = some (.lst us) ∧ Z' a = none ∧ DpAll K Z' us ds
  | _, _, avs, outs, env0, env2, .nil, h, ho, _, _, hp => by
    cases h
    cases ho
    cases hp
    exact ⟨rfl, fun j s e => .inl ⟨e, fun z => by cases z⟩⟩
  | _, _, avs, outs, env0, env2, .val (v := v) (vs := vs) (as := as) _ t, h, ho, hs, hr, hp => by
    cases e : toAv env as with
    | none => simp only [toAv, e] at h; cases h
    | some r =>
      simp only [toAv, e] at h; cases h
      exact put_spec (as := as) t e (by cases v <;> exact ho) hs hr (show putOuts as outs env0 = some env2 from hp)
  | _, _, avs, outs, env0, env2, .tmp (p := p) (vs := vs) (as := as) _ _ _ _ _ _ t, h, ho, hs, hr, hp => by
    cases e : toAv env as with
    | none => simp only [toAv, e] at h; cases h
    | some r =>
      simp only [toAv, e] at h; cases h
      cases (show OutOk K Z' H' (p :: ownAdr vs r) outs from ho) with
      | @cons _ _ _ _ os _ _ _ ho' => exact put_spec (as := as) t e ho' hs hr (show putOuts as os env0 = some env2 from hp)
  | _, _, avs, outs, env0, env2, .slot (v := v) (i := i) (vs := vs) (as := as) hv t, h, ho, hs, hr, hp => by
    obtain ⟨a, ha⟩ := hr i (List.mem_cons_self ..)
    rw [hv] at ha
    have ev : v = .ref a := Option.some.inj (Option.some.inj ha)
    subst ev
    have main : ∀ (ds0 : List D), (toAv env as).map (fun r => AV.own ds0 :: r) = some avs → env2.length = env0.length ∧ ∀ (j : Nat) (s : Sl), env2[j]? = some s → (env0[j]? = some s ∧ j ∉ slotsOf (.slot i :: as)) ∨
      ∃ a us ds s0, σ[j]? = some (some (.ref a)) ∧ env0[j]? = some s0 ∧ ((s = .own ds ∧ ∃ d0, s0 = .own d0) ∨ (s = .par ds ∧ ∃ d0, s0 = .par d0)) ∧ H' a = some (.lst us) ∧ Z' a = none ∧ DpAll K Z' us ds := fun ds0 h => by
      cases e : toAv env as with
      | none => rw [e] at h; cases h
      | some r =>
        rw [e] at h; cases h
        cases (show OutOk K Z' H' (a :: ownAdr vs r) outs from ho) with
        | @cons _ us o _ os h1 h2 h3 ho' =>
          have step : ∀ (s1 s1' : Sl), env0[i]? = some s1' → ((s1 = .own o ∧ ∃ d0, s1' = .own d0) ∨ (s1 = .par o ∧ ∃ d0, s1' = .par d0)) → putOuts as os (env0.set i s1) = some env2 → env2.length = env0.length ∧ ∀ (j : Nat) (s : Sl), env2[j]? = some s → (env0[j]? = some s ∧ j ∉ slotsOf (.slot i :: as)) ∨
              ∃ a us ds s0, σ[j]? = some (some (.ref a)) ∧ env0[j]? = some s0 ∧ ((s = .own ds ∧ ∃ d0, s0 = .own d0) ∨ (s = .par ds ∧ ∃ d0, s0 = .par d0)) ∧ H' a = some (.lst us) ∧ Z' a = none ∧ DpAll K Z' us ds := fun s1 s1' e1 k1 hp => by
            have hi : i < env0.length := (List.getElem?_eq_some_iff.mp e1).1
            obtain ⟨l, q⟩ := put_spec t e ho' (fun j hj => hs j (List.mem_cons_of_mem _ hj)) (fun j hj => hr j (List.mem_cons_of_mem _ hj)) hp
            refine ⟨by rw [l, List.length_set], fun j s es => ?_⟩
            rcases q j s es with ⟨q1, q2⟩ | ⟨a', us', ds', s0, q1, q2, q3, q4⟩
            · by_cases hj : i = j
              · subst hj
                rw [List.getElem?_set_self hi] at q1; cases q1
                exact .inr ⟨a, us, o, s1', hv, e1, k1, h1, h2, h3⟩
              · rw [List.getElem?_set_ne hj] at q1
                exact .inl ⟨q1, fun z => (List.mem_cons.mp (show j ∈ i :: slotsOf as from z)).elim (fun z => hj z.symm) q2⟩
            · by_cases hj : i = j
              · subst hj
                rw [List.getElem?_set_self hi] at q2; cases q2
                refine .inr ⟨a', us', ds', s1', q1, e1, ?_, q4⟩
                rcases k1 with ⟨z1, z2⟩ | ⟨z1, z2⟩
                · rcases q3 with ⟨z3, _⟩ | ⟨_, _, z4⟩
                  · exact .inl ⟨z3, z2⟩
                  · rw [z1] at z4; cases z4
                · rcases q3 with ⟨_, _, z4⟩ | ⟨z3, _⟩
                  · rw [z1] at z4; cases z4
                  · exact .inr ⟨z3, z2⟩
              · rw [List.getElem?_set_ne hj] at q2
                exact .inr ⟨a', us', ds', s0, q1, q2, q3, q4⟩
          unfold putOuts at hp
          split at hp
          · rename_i d0 e1; exact step _ _ e1 (.inl ⟨rfl, _, rfl⟩) hp
          · rename_i d0 e1; exact step _ _ e1 (.inr ⟨rfl, _, rfl⟩) hp
          · cases hp
    unfold toAv at h
    split at h
    · exact main _ h
    · exact main _ h
    · cases h
theorem slots_ref (W : Wst K F Z H pa σ env) : ∀ {vs : List V} {as : List AR} {avs : List AV}, ArsOk K F Z H σ env vs as → toAv env as = some avs → ∀ i ∈ slotsOf as, ∃ a, σ[i]? = some (some (.ref a)) ∧ a ∈ ownAdr vs avs
  | _, _, _, .nil, _, i, hi => by cases hi
  | _, _, avs, .val (v := v) (vs := vs) (as := as) _ t, h, i, hi => by
    cases e : toAv env as with
    | none => simp only [toAv, e] at h; cases h
    | some r =>
      simp only [toAv, e] at h; cases h
      obtain ⟨a, h1, h2⟩ := slots_ref W t e i hi
      exact ⟨a, h1, by cases v <;> exact h2⟩
  | _, _, avs, .tmp (p := p) (vs := vs) (as := as) _ _ _ _ _ _ t, h, i, hi => by
    cases e : toAv env as with
    | none => simp only [toAv, e] at h; cases h
    | some r =>
      simp only [toAv, e] at h; cases h
      obtain ⟨a, h1, h2⟩ := slots_ref W t e i hi
      exact ⟨a, h1, List.mem_cons_of_mem _ h2⟩
  | _, _, avs, .slot (v := v) (i := j) (vs := vs) (as := as) hv t, h, i, hi => by
    have main : ∀ (a : Addr) (ds0 : List D), v = .ref a → (toAv env as).map (fun r => AV.own ds0 :: r) = some avs → ∃ a, σ[i]? = some (some (.ref a)) ∧ a ∈ ownAdr (v :: vs) avs := fun a ds0 ev h => by
      subst ev
      cases e : toAv env as with
      | none => rw [e] at h; cases h
      | some r =>
        rw [e] at h; cases h
        rcases List.mem_cons.mp (show i ∈ j :: slotsOf as from hi) with rfl | hi
        · exact ⟨a, hv, List.mem_cons_self ..⟩
        · obtain ⟨b, h1, h2⟩ := slots_ref W t e i hi
          exact ⟨b, h1, List.mem_cons_of_mem _ h2⟩
    unfold toAv at h
    split at h
    · rename_i ds es
      cases W.sl j _ _ hv es with
      | own => exact main _ _ rfl h
    · rename_i ds es
      cases W.sl j _ _ hv es with
      | par => exact main _ _ rfl h
    · cases h
theorem Ow.kind {H H' : Hp} {o : Option V} {s s0 : Sl} {a : Addr} (h : Ow H o s a) (k : ((∃ ds, s = .own ds) ∧ ∃ d0, s0 = .own d0) ∨ ((∃ ds, s = .par ds) ∧ ∃ d0, s0 = .par d0)) : Ow H' o s0 a := by
  rcases k with ⟨⟨_, rfl⟩, _, rfl⟩ | ⟨⟨_, rfl⟩, _, rfl⟩
  · cases h.own; exact rfl
  · cases h.par; exact rfl
/-- THE STATE BEHIND A CALL -/
theorem Wst.after {Z' H' : Hp} {vs : List V} {as : List AR} {avs : List AV} {outs : List (List D)} {env2 : En} (W : Wst K F Z H pa σ env) (A : ArsOk K F Z H σ env vs as) (ha : toAv env as = some avs) (g : Gr (minus H (ownAdr vs avs)) Z Z') (f : Same (minus H (ownAdr vs avs)) H')
    (zh : Same Z' H') (o : OutOk K Z' H' (ownAdr vs avs) outs) (hp : putOuts as outs env = some env2) : Gr F Z Z' ∧ Wst K F Z' H' pa σ env2 := by
  have sr := slots_ref W A ha
  obtain ⟨hl, sp⟩ := put_spec A ha o (fun i hi => let ⟨a, h, _⟩ := sr i hi; ⟨_, h⟩) (fun i hi => let ⟨a, h, _⟩ := sr i hi; ⟨a, h⟩) hp
  have adr : ∀ a ∈ ownAdr vs avs, F a = none ∧ Z a = none := fun a h => by
    rcases ars_adr W A ha a h with ⟨i, _, s, q1, q2, q3⟩ | q
    · obtain ⟨_, _, z1, z2⟩ := (W.sl i _ s q1 q2).at_ q3
      exact ⟨z1, z2⟩
    · obtain ⟨_, z1, z2, _⟩ := tmps_not_own A a q
      exact ⟨z2, z1⟩
  have ff : Same F (minus H (ownAdr vs avs)) := fun b u e => by
    rw [minus_out fun z => by rw [(adr b z).1] at e; cases e]
    exact W.fh b u e
  have nin0 : ∀ {j : Nat} {o : Option V} {s : Sl} {b : Addr}, j ∉ slotsOf as → σ[j]? = some o → env[j]? = some s → Ow H o s b → b ∉ ownAdr vs avs := fun {j o s b} q2 e1 q1 hb hm => by
    rcases ars_adr W A ha b hm with ⟨k, hk, s', r1, r2, r3⟩ | q
    · exact W.dj j k o _ s s' b (fun z => q2 (z ▸ hk)) e1 q1 r1 r2 hb r3
    · exact (tmps_not_own A b q).2.2.2 j o s e1 q1 hb
  have kept : ∀ {j : Nat} {o : Option V} {s : Sl}, j ∉ slotsOf as → σ[j]? = some o → env[j]? = some s → ∀ b u, Ow H o s b → H b = some u → H' b = some u := fun {j o s} q2 e1 q1 b u hb hu => f b u (by
    rw [minus_out (nin0 q2 e1 q1 hb)]; exact hu)
  have kind : ∀ {j : Nat} {o : Option V} {s : Sl} {a : Addr}, σ[j]? = some o → env2[j]? = some s → Ow H' o s a → ∃ s0, env[j]? = some s0 ∧ Ow H o s0 a := fun {j o s a} e1 e2 e3 => by
    rcases sp j s e2 with ⟨q1, q2⟩ | ⟨b, us, ds, s0, q1, q2, q3, _⟩
    · exact ⟨s, q1, (W.sl j o s e1 q1).back (kept q2 e1 q1) e3⟩
    · refine ⟨s0, q2, e3.kind ?_⟩
      rcases q3 with ⟨z1, z2⟩ | ⟨z1, z2⟩
      · exact .inl ⟨⟨_, z1⟩, z2⟩
      · exact .inr ⟨⟨_, z1⟩, z2⟩
  refine ⟨g.frame ff, ff.trans f, zh, by rw [W.len, hl], fun i o s e1 e2 => ?_, fun i j o o' s s' a ne e1 e2 e3 e4 o1 o2 => ?_⟩
  · rcases sp i s e2 with ⟨q1, q2⟩ | ⟨a, us, ds, s0, q1, q2, q3, h1, h2, h3⟩
    · have so := W.sl i o s e1 q1
      refine so.mono g.zz (kept q2 e1 q1) fun b hb => g.nf b ?_
      obtain ⟨us, h1, _⟩ := so.at_ hb
      rw [minus_out (nin0 q2 e1 q1 hb), h1]
      exact fun z => nomatch z
    · rw [q1] at e1; cases e1
      have so := W.sl i _ s0 q1 q2
      rcases q3 with ⟨rfl, d0, rfl⟩ | ⟨rfl, d0, rfl⟩
      · cases so with
        | own b1 b2 b3 b4 => exact .own h1 b2 h2 h3
      · cases so with
        | par b0 b1 b2 b3 b4 => exact .par b0 h1 b2 h2 h3
  · obtain ⟨s0, r1, r2⟩ := kind e1 e2 o1
    obtain ⟨s0', r3, r4⟩ := kind e3 e4 o2
    exact W.dj i j o o' s0 s0' a ne e1 r1 e3 r3 r2 r4
end
/-- the reading of a call -/
theorem tCall_of {K : PySem.W.Frag} {np : Nat} {g : Fn} {f : Fx (List AR)} {E : XK} {σ : L2.St} {H : Hp} {Q : VK} (hl : ∀ env as env', f env = some (as, env') → as.length = np) (h : tR K (eCall g f) σ H Q) : tCall (spF K np g) [] E (tAa K f) σ H Q := by
  obtain ⟨F, pa, Z, env, r, env', W, e, k⟩ := h
  unfold eCall at e
  split at e
  · rename_i as env1 e1
    by_cases nd : natNodup (slotsOf as) = true
    · rw [if_pos nd] at e
      split at e
      · rename_i avs e2
        split at e
        · rename_i r' outs e3
          cases e4 : putOuts as outs env1 with
          | none => rw [e4] at e; cases e
          | some env2 =>
            rw [e4] at e
            cases e
            refine ⟨F, pa, Z, env, as, env1, W, e1, fun vs Z1 H1 g1 W1 A => ?_⟩
            show spF K np g (vs ++ []) H1 Q E
            rw [List.append_nil]
            have av := ars_av W1 (minus H1 (ownAdr vs avs)) A e2 (natNodup_ok nd) fun a ha => minus_in ha
            have vl : vs.length = np := by
              rw [← hl _ _ _ e1]
              have : ∀ {vs : List V} {as : List AR}, ArsOk K F Z1 H1 σ env1 vs as → vs.length = as.length := by
                intro vs as A
                induction A with
                | nil => rfl
                | val _ _ ih => exact congrArg Nat.succ ih
                | slot _ _ ih => exact congrArg Nat.succ ih
                | tmp _ _ _ _ _ _ _ ih => exact congrArg Nat.succ ih
              exact this A
            refine ⟨vl, minus H1 (ownAdr vs avs), Z1, avs, r, outs, minus_same, W1.zh, av, e3, fun v Z2 H2 g2 f2 z2 o2 rt => ?_⟩
            obtain ⟨g3, W3⟩ := W1.after A e2 g2 f2 z2 o2 e4
            refine k v Z2 H2 (g1.trans g3) W3 ?_
            -- what a slot owns stood before the call
            have old : ∀ p, H1 p = none → ∀ (i : Nat) (o : Option V) (s : Sl), σ[i]? = some o → env'[i]? = some s → ¬ Ow H2 o s p := fun p h3 i o s q1 q2 q3 => by
              have sr := slots_ref W1 A e2
              obtain ⟨hl, sp⟩ := put_spec A e2 o2 (fun i hi => let ⟨a, h, _⟩ := sr i hi; ⟨_, h⟩) (fun i hi => let ⟨a, h, _⟩ := sr i hi; ⟨a, h⟩) e4
              have : ∃ s0, env1[i]? = some s0 ∧ Ow H1 o s0 p := by
                rcases sp i s q2 with ⟨w1, w2⟩ | ⟨b, us', ds', s0, w1, w2, w3, _⟩
                · refine ⟨s, w1, (W1.sl i o s q1 w1).back (fun b u hb hu => f2 b u ?_) q3⟩
                  rw [minus_out]
                  · exact hu
                  · intro hm
                    rcases ars_adr W1 A e2 b hm with ⟨k, hk, s', r1, r2, r3⟩ | q
                    · exact W1.dj i k o _ s s' b (fun z => w2 (z ▸ hk)) q1 w1 r1 r2 hb r3
                    · exact (tmps_not_own A b q).2.2.2 i o s q1 w1 hb
                · refine ⟨s0, w2, q3.kind ?_⟩
                  rcases w3 with ⟨z1, z2⟩ | ⟨z1, z2⟩
                  · exact .inl ⟨⟨_, z1⟩, z2⟩
                  · exact .inr ⟨⟨_, z1⟩, z2⟩
              obtain ⟨s0, w1, w2⟩ := this
              obtain ⟨us0, w3, _⟩ := (W1.sl i o s0 q1 w1).at_ w2
              rw [h3] at w3; cases w3
            cases r with
            | val d => exact rt
            | fresh ds =>
              obtain ⟨p, us, rfl, h1, h2, h3, h4, h5⟩ := rt
              rw [minus_out h4] at h3
              exact ⟨p, us, rfl, h1, h2, W1.fh.free h3, h5, old p h3⟩
            | mat dss =>
              obtain ⟨p, us, bs, rfl, h1, h2, h3, h4, h5, h6⟩ := rt
              rw [minus_out (h6 p (.inl rfl))] at h3
              have hb : ∀ b ∈ bs, H1 b = none := fun b m => by
                have := (h4.mem m).2.2.1
                rw [minus_out (h6 b (.inr m))] at this
                exact this
              refine ⟨p, us, bs, rfl, h1, h2, W1.fh.free h3, h4.mono (fun _ _ h => h) (fun _ _ _ h => h) (fun b m _ => W1.fh.free (hb b m)) (fun _ _ => rfl), h5, fun q hq => old q ?_⟩
              rcases hq with rfl | hq
              · exact h3
              · exact hb q hq
        · cases e
      · cases e
    · rw [if_neg nd] at e; cases e
  · cases e
end Ev
namespace Ev
open PySem PySem.Spec PyProof.Rows L2
/-! ## statements -/
inductive Fl where
  | nx | bk | ct | rt (r : R)
def FlOk (K : PySem.W.Frag) (F : Hp) (pa : Nat → Option Addr) (Z : Hp) (D : Ends) (env' : En) : Fl → Prop
  | .nx => ∀ σ' Z' H', Gr F Z Z' → Wst K F Z' H' pa σ' env' → D.nx σ' H'
  | .bk => ∀ σ' Z' H', Gr F Z Z' → Wst K F Z' H' pa σ' env' → D.bk σ' H'
  | .ct => ∀ σ' Z' H', Gr F Z Z' → Wst K F Z' H' pa σ' env' → D.ct σ' H'
  | .rt r => ∀ v σ' Z' H', Gr F Z Z' → Wst K F Z' H' pa σ' env' → RkOk K F Z' H' σ' env' v r → D.rt v H'
theorem FlOk.gr {K : PySem.W.Frag} {F : Hp} {pa : Nat → Option Addr} {Z Z1 : Hp} {D : Ends} {env' : En} (g : Gr F Z Z1) : ∀ {fl : Fl}, FlOk K F pa Z D env' fl → FlOk K F pa Z1 D env' fl
  | .nx, h => fun σ' Z' H' g1 W => h σ' Z' H' (g.trans g1) W
  | .bk, h => fun σ' Z' H' g1 W => h σ' Z' H' (g.trans g1) W
  | .ct, h => fun σ' Z' H' g1 W => h σ' Z' H' (g.trans g1) W
  | .rt r, h => fun v σ' Z' H' g1 W q => h v σ' Z' H' (g.trans g1) W q
def tS (K : PySem.W.Frag) (f : Fx Fl) : TS := fun D σ H => ∃ F pa Z env fl env', Wst K F Z H pa σ env ∧ f env = some (fl, env') ∧ FlOk K F pa Z D env' fl
section
variable {X : Cx} {st : Stmt} {e : Expr} {pos : Pos}
def sSkip : Fx Fl := fun env => some (.nx, env)
def sStuck : Fx Fl := fun _ => none
theorem s_skip (h : PS X st tNext) : PS X st (tS X.K sSkip) := by
  refine PS.imp h fun D σ H ⟨F, pa, Z, env, fl, env', W, e, k⟩ => ?_
  cases e
  exact k σ Z H (.refl ..) W
theorem s_stuck : PS X st (tS X.K sStuck) := ⟨fun _ _ _ _ _ _ ⟨_, _, _, _, _, _, _, e, _⟩ => nomatch e⟩
def sBreak : Fx Fl := fun env => some (.bk, env)
theorem s_break : PS X (.Break pos) (tS X.K sBreak) := by
  refine PS.imp ps_break fun D σ H ⟨F, pa, Z, env, fl, env', W, e, k⟩ => ?_
  cases e
  exact k σ Z H (.refl ..) W
def sCont : Fx Fl := fun env => some (.ct, env)
theorem s_cont : PS X (.Continue pos) (tS X.K sCont) := by
  refine PS.imp ps_continue fun D σ H ⟨F, pa, Z, env, fl, env', W, e, k⟩ => ?_
  cases e
  exact k σ Z H (.refl ..) W
def sSeq (f g : Fx Fl) : Fx Fl := fun env => match f env with
  | some (.nx, e) => g e
  | r => r
theorem s_nil : PSs X [] (tS X.K sSkip) := by
  refine PSs.imp pss_nil fun D σ H ⟨F, pa, Z, env, fl, env', W, e, k⟩ => ?_
  cases e
  exact k σ Z H (.refl ..) W
theorem s_one {f : Fx Fl} (h : PS X st (tS X.K f)) : PSs X [st] (tS X.K f) := pss_one h
theorem s_cons {f g : Fx Fl} {rest : List Stmt} (h1 : PS X st (tS X.K f)) (h2 : PSs X rest (tS X.K g)) : PSs X (st :: rest) (tS X.K (sSeq f g)) := by
  refine PSs.imp (pss_cons h1 h2) fun D σ H ⟨F, pa, Z, env, fl, env', W, e, k⟩ => ?_
  unfold sSeq at e
  split at e
  · rename_i e1 h1
    exact ⟨F, pa, Z, env, .nx, e1, W, h1, fun σ' Z' H' g1 W1 => ⟨F, pa, Z', e1, fl, env', W1, e, k.gr g1⟩⟩
  · rename_i r hn
    refine ⟨F, pa, Z, env, fl, env', W, e, ?_⟩
    cases fl with
    | nx => exact absurd e (hn _)
    | bk => exact k
    | ct => exact k
    | rt r => exact k
def sIf (c : Fx Bool) (f g : Fx Fl) : Fx Fl := fun env => match c env with
  | some (true, e) => f e
  | some (false, e) => g e
  | none => none
theorem s_if {c : Expr} {a b : List Stmt} {fc : Fx Bool} {f g : Fx Fl} (hc : PT X c (tT X.K fc)) (ha : PSs X a (tS X.K f)) (hb : PSs X b (tS X.K g)) : PS X (.If c a b pos) (tS X.K (sIf fc f g)) := by
  refine PS.imp (ps_if hc ha hb) fun D σ H ⟨F, pa, Z, env, fl, env', W, e, k⟩ => ?_
  unfold sIf at e
  split at e
  · rename_i e1 h1
    exact ⟨F, pa, Z, env, _, e1, W, h1, fun Z' H' g1 W1 => iteT ⟨F, pa, Z', e1, fl, env', W1, e, k.gr g1⟩⟩
  · rename_i e1 h1
    exact ⟨F, pa, Z, env, _, e1, W, h1, fun Z' H' g1 W1 => iteF ⟨F, pa, Z', e1, fl, env', W1, e, k.gr g1⟩⟩
  · cases e
def sExpr (f : Fx R) : Fx Fl := fun env => (f env).map fun p => (.nx, p.2)
theorem s_expr {f : Fx R} (h : PE X e (tR X.K f)) (hs : swapsWith e none pos.line X.env = pure false) : PS X (.Expr e pos) (tS X.K (sExpr f)) := by
  refine PS.imp (ps_expr h hs) fun D σ H ⟨F, pa, Z, env, fl, env', W, e, k⟩ => ?_
  unfold sExpr at e
  cases h1 : f env with
  | none => rw [h1] at e; cases e
  | some p =>
    rw [h1] at e
    cases e
    exact ⟨F, pa, Z, env, p.1, p.2, W, h1, fun v Z' H' g1 W1 _ => k σ Z' H' g1 W1⟩
def sRet (f : Fx R) : Fx Fl := fun env => (f env).map fun p => (.rt p.1, p.2)
theorem s_ret {f : Fx R} (h : PE X e (tR X.K f)) : PS X (.Return (some e) pos) (tS X.K (sRet f)) := by
  refine PS.imp (ps_ret h) fun D σ H ⟨F, pa, Z, env, fl, env', W, e, k⟩ => ?_
  unfold sRet at e
  cases h1 : f env with
  | none => rw [h1] at e; cases e
  | some p =>
    rw [h1] at e
    cases e
    exact ⟨F, pa, Z, env, p.1, p.2, W, h1, fun v Z' H' g1 W1 q => k v σ Z' H' g1 W1 q⟩
def sRetN : Fx Fl := fun env => some (.rt (.val .none), env)
theorem s_retN : PS X (.Return none pos) (tS X.K sRetN) := by
  refine PS.imp ps_retN fun D σ H ⟨F, pa, Z, env, fl, env', W, e, k⟩ => ?_
  cases e
  exact k .non σ Z H (.refl ..) W .non
/-- a slot's own list moved out -/
def eMove (i : Nat) : Fx R := fun env => match env[i]? with
  | some (.val d) => some (.val d, env)
  | some (.own ds) => some (.fresh ds, env.set i .no)
  | some (.mat dss) => some (.mat dss, env.set i .no)
  | _ => none
theorem Wst.move {K : PySem.W.Frag} {F Z H : Hp} {pa : Nat → Option Addr} {σ : L2.St} {env : En} {i : Nat} (W : Wst K F Z H pa σ env) : Wst K F Z H pa σ (env.set i .no) := by
  have key : ∀ {j : Nat} {o : Option V} {s : Sl}, σ[j]? = some o → (env.set i .no)[j]? = some s → (j = i ∧ s = .no) ∨ (j ≠ i ∧ env[j]? = some s) := fun {j o s} e1 e2 => by
    by_cases hj : i = j
    · subst hj
      by_cases hl : i < env.length
      · rw [List.getElem?_set_self hl] at e2; cases e2; exact .inl ⟨rfl, rfl⟩
      · rw [List.getElem?_eq_none (by simpa using hl)] at e2; cases e2
    · rw [List.getElem?_set_ne hj] at e2; exact .inr ⟨Ne.symm hj, e2⟩
  refine ⟨W.fh, W.zh, by simp [W.len], fun j o s e1 e2 => ?_, fun j k o o' s s' a ne e1 e2 e3 e4 o1 o2 => ?_⟩
  · rcases key e1 e2 with ⟨_, rfl⟩ | ⟨_, q⟩
    · exact .no _
    · exact W.sl j o s e1 q
  · rcases key e1 e2 with ⟨_, rfl⟩ | ⟨_, q⟩
    · exact o1.no.elim
    · rcases key e3 e4 with ⟨_, rfl⟩ | ⟨_, q'⟩
      · exact o2.no.elim
      · exact W.dj j k o o' s s' a ne e1 q e3 q' o1 o2
theorem s_move {i : Nat} {x : Str} (h : PE X (.Name x pos) (tVar i)) : PE X (.Name x pos) (tR X.K (eMove i)) := by
  refine PE.imp h fun σ H Q ⟨F, pa, Z, env, d, env', W, e, k⟩ => ?_
  unfold eMove at e
  cases he : env[i]? with
  | none => rw [he] at e; cases e
  | some s =>
    rw [he] at e
    obtain ⟨o, eo, so⟩ := W.get he
    cases so with
    | no => cases e
    | par => cases e
    | val dp => cases e; exact ⟨_, eo, k _ _ _ (.refl ..) W dp⟩
    | @own a us ds h1 h2 h3 h4 =>
      cases e
      refine ⟨_, eo, k _ _ _ (.refl ..) W.move ⟨a, us, rfl, h1, h3, h2, h4, fun j o' s' e1 e2 e3 => ?_⟩⟩
      by_cases hj : i = j
      · subst hj
        have hi : i < env.length := (List.getElem?_eq_some_iff.mp he).1
        rw [List.getElem?_set_self hi] at e2; cases e2
        exact e3.no.elim
      · rw [List.getElem?_set_ne hj] at e2
        exact W.dj i j _ o' _ s' a hj eo he e1 e2 rfl e3
    | @mat a us dss bs h1 h2 h3 h4 h5 =>
      cases e
      refine ⟨_, eo, k _ _ _ (.refl ..) W.move ⟨a, us, bs, rfl, h1, h3, h2, h4, h5, fun q hq j o' s' e1 e2 e3 => ?_⟩⟩
      by_cases hj : i = j
      · subst hj
        have hi : i < env.length := (List.getElem?_eq_some_iff.mp he).1
        rw [List.getElem?_set_self hi] at e2; cases e2
        exact e3.no.elim
      · rw [List.getElem?_set_ne hj] at e2
        exact W.dj i j _ o' _ s' q hj eo he e1 e2 (hq.elim .inl fun m => .inr ⟨us, h1, (h4.mem m).1⟩) e3
/-! ### stores -/
def isPar : Sl → Bool
  | .par _ => true
  | _ => false
def setR (i : Nat) (r : R) (env : En) : Option En := match env[i]? with
  | some s => if isPar s = true then none else some (env.set i (match r with | .val d => .val d | .fresh ds => .own ds | .mat dss => .mat dss))
  | none => none
theorem Wst.setNew {K : PySem.W.Frag} {F Z H : Hp} {pa : Nat → Option Addr} {σ : L2.St} {env : En} {i : Nat} {v : V} {s' : Sl} (W : Wst K F Z H pa σ env) (so : SlOk K F Z H pa i (some v) s')
    (h5 : ∀ q, Ow H (some v) s' q → ∀ (i : Nat) (o : Option V) (s : Sl), σ[i]? = some o → env[i]? = some s → ¬ Ow H o s q) : Wst K F Z H pa (σ.set i (some v)) (env.set i s') := by
  have key : ∀ {j : Nat} {o : Option V} {s : Sl}, (σ.set i (some v))[j]? = some o → (env.set i s')[j]? = some s → (j = i ∧ o = some v ∧ s = s') ∨ (j ≠ i ∧ σ[j]? = some o ∧ env[j]? = some s) := fun {j o s} e1 e2 => by
    by_cases hj : i = j
    · subst hj
      by_cases hl : i < env.length
      · rw [List.getElem?_set_self hl] at e2; cases e2
        rw [List.getElem?_set_self (by rw [W.len]; exact hl)] at e1; cases e1
        exact .inl ⟨rfl, rfl, rfl⟩
      · rw [List.getElem?_eq_none (by simpa using hl)] at e2; cases e2
    · rw [List.getElem?_set_ne hj] at e1 e2; exact .inr ⟨Ne.symm hj, e1, e2⟩
  refine ⟨W.fh, W.zh, by simp [W.len], fun j o s e1 e2 => ?_, fun j k o o' s s' a ne e1 e2 e3 e4 o1 o2 => ?_⟩
  · rcases key e1 e2 with ⟨rfl, rfl, rfl⟩ | ⟨_, q1, q2⟩
    · exact so
    · exact W.sl j o s q1 q2
  · rcases key e1 e2 with ⟨rfl, rfl, rfl⟩ | ⟨_, q1, q2⟩
    · rcases key e3 e4 with ⟨rfl, _, _⟩ | ⟨_, q3, q4⟩
      · exact ne rfl
      · exact h5 a o1 k o' _ q3 q4 o2
    · rcases key e3 e4 with ⟨rfl, rfl, rfl⟩ | ⟨_, q3, q4⟩
      · exact h5 a o2 j o _ q1 q2 o1
      · exact W.dj j k o o' _ _ a ne q1 q2 q3 q4 o1 o2
theorem Wst.setR {K : PySem.W.Frag} {F Z H : Hp} {pa : Nat → Option Addr} {σ : L2.St} {env env' : En} {i : Nat} {v : V} {r : R} (W : Wst K F Z H pa σ env) (q : RkOk K F Z H σ env v r) (e : Ev.setR i r env = some env') : Wst K F Z H pa (σ.set i (some v)) env' := by
  unfold Ev.setR at e
  split at e
  · rename_i s hs
    cases hp : isPar s with
    | true => rw [hp, if_pos rfl] at e; cases e
    | false =>
      rw [hp, if_neg Bool.false_ne_true] at e
      cases r with
      | val d => cases e; exact W.set q
      | fresh ds =>
        cases e
        obtain ⟨p, us, rfl, h1, h2, h3, h4, h5⟩ := q
        exact W.setNew (.own h1 h3 h2 h4) fun q hq => by
          cases hq.own
          exact h5
      | mat dss =>
        cases e
        obtain ⟨p, us, bs, rfl, h1, h2, h3, h4, h5, h6⟩ := q
        refine W.setNew (.mat h1 h3 h2 h4 h5) fun q hq => h6 q ?_
        rcases hq with rfl | ⟨us', e1, e2⟩
        · exact .inl rfl
        · rw [h1] at e1; cases e1
          exact .inr (h4.ref e2)
  · cases e
def sSet (i : Nat) (f : Fx R) : Fx Fl := fun env => (f env).bind fun p => (setR i p.1 p.2).map fun e => (.nx, e)
theorem s_setG {st : Stmt} {i : Nat} {f : Fx R} {te : TE} (h : PS X st (tAsg te (L2.gName i))) (hi : ∀ σ H Q, tR X.K f σ H Q → te σ H Q) : PS X st (tS X.K (sSet i f)) := by
  refine PS.imp h fun D σ H ⟨F, pa, Z, env, fl, env', W, e, k⟩ => ?_
  unfold sSet at e
  cases h1 : f env with
  | none => rw [h1] at e; cases e
  | some p =>
    rw [h1, Option.bind_some] at e
    cases h2 : Ev.setR i p.1 p.2 with
    | none => rw [h2] at e; cases e
    | some env2 =>
      rw [h2] at e
      cases e
      exact hi σ H _ ⟨F, pa, Z, env, p.1, p.2, W, h1, fun v Z' H' g1 W1 q => k _ Z' H' g1 (W1.setR q h2)⟩
/-! ### targets -/
abbrev Gf := D → En → Option En
/-- the target that stores at the slots sl alone -/
def tG (K : PySem.W.Frag) (sl : List Nat) (g : Gf) : TG := fun v σ H Q => ∃ F pa Z env d env', Wst K F Z H pa σ env ∧ Dp K Z v d ∧ g d env = some env' ∧
  ∀ σ' Z' H', Gr F Z Z' → Wst K F Z' H' pa σ' env' → σ'.length = σ.length → (∀ j, j ∉ sl → σ'[j]? = σ[j]?) → Q σ' H'
theorem PG.imp {e : Expr} {t t' : TG} (h : PG X e t) (m : ∀ v σ H Q, t' v σ H Q → t v σ H Q) : PG X e t' := ⟨fun pins s σ H v u Q I r q => h.run pins s σ H v u Q I r (m v σ H Q q)⟩
theorem PGs.imp {e : List Expr} {t t' : TGs} (h : PGs X e t) (m : ∀ v σ H Q, t' v σ H Q → t v σ H Q) : PGs X e t' := ⟨fun pins s σ H v u Q I r q => h.run pins s σ H v u Q I r (m v σ H Q q)⟩
def gN (i : Nat) : Gf := fun d env => setR i (.val d) env
theorem s_gn {i : Nat} {x : Str} (h : PG X (.Name x pos) (L2.gName i)) : PG X (.Name x pos) (tG X.K [i] (gN i)) := by
  refine PG.imp h fun v σ H Q ⟨F, pa, Z, env, d, env', W, q, e, k⟩ => ?_
  refine k _ Z H (.refl ..) (W.setR (r := .val d) q e) (by simp) fun j hj => ?_
  rw [List.getElem?_set_ne (fun z => hj (by simp [z]))]
def tGs (K : PySem.W.Frag) (sl : List Nat) (g : List D → En → Option En) : TGs := fun vs σ H Q => ∃ F pa Z env ds env', Wst K F Z H pa σ env ∧ DpAll K Z vs ds ∧ g ds env = some env' ∧
  ∀ σ' Z' H', Gr F Z Z' → Wst K F Z' H' pa σ' env' → σ'.length = σ.length → (∀ j, j ∉ sl → σ'[j]? = σ[j]?) → Q σ' H'
def gsNil : List D → En → Option En
  | [], env => some env
  | _, _ => none
def gsCons (g : Gf) (h : List D → En → Option En) : List D → En → Option En
  | d :: ds, env => (g d env).bind (h ds)
  | _, _ => none
theorem s_gsNil : PGs X [] (tGs X.K [] gsNil) := by
  refine PGs.imp pgs_nil fun vs σ H Q ⟨F, pa, Z, env, ds, env', W, q, e, k⟩ => ?_
  cases ds with
  | nil =>
    cases e
    cases q
    exact ⟨rfl, k σ Z H (.refl ..) W rfl fun _ _ => rfl⟩
  | cons => cases e
theorem s_gsCons {e : Expr} {es : List Expr} {sl sl' : List Nat} {g : Gf} {h : List D → En → Option En} (h1 : PG X e (tG X.K sl g)) (h2 : PGs X es (tGs X.K sl' h)) (hs : (assignEach (e :: es) X.env).map (·.2) = assign e X.env :: (assignEach es X.env).map (·.2)) :
    PGs X (e :: es) (tGs X.K (sl ++ sl') (gsCons g h)) := by
  refine PGs.imp (pgs_cons h1 h2 hs) fun vs σ H Q ⟨F, pa, Z, env, ds, env', W, q, e, k⟩ => ?_
  cases ds with
  | nil => cases e
  | cons d ds =>
    cases q with
    | @cons v vs _ _ q1 q2 =>
      have e' : (g d env).bind (h ds) = some env' := e
      cases e1 : g d env with
      | none => rw [e1] at e'; cases e'
      | some env1 =>
        rw [e1, Option.bind_some] at e'
        exact ⟨v, vs, rfl, F, pa, Z, env, d, env1, W, q1, e1, fun σ' Z' H' g1 W1 l1 k1 => ⟨F, pa, Z', env1, ds, env', W1, DpAll.mono g1.zz _ _ q2, e', fun σ2 Z2 H2 g2 W2 l2 k2 =>
          k σ2 Z2 H2 (g1.trans g2) W2 (l2.trans l1) fun j hj => by
            rw [List.mem_append, not_or] at hj
            rw [k2 j hj.2, k1 j hj.1]⟩⟩
def gTup (n : Nat) (g : List D → En → Option En) : Gf := fun d env => match d with
  | .tuple ds => if ds.length = n then g ds env else none
  | _ => none
theorem s_gTup {es : List Expr} {k n : Nat} {sl : List Nat} {g : List D → En → Option En} (hc : X.calm = true) (h : PGs X es (tGs X.K sl g)) (hn : (assignEach es X.env).length = n) (hst : (assignEach es X.env).findIdx? (·.1) = none) :
    PG X (.Tuple es k pos) (tG X.K sl (gTup n g)) := by
  refine PG.imp (pg_tup hc h hn hst) fun v σ H Q ⟨F, pa, Z, env, d, env', W, q, e, k⟩ => ?_
  cases q with
  | @tup a us ds hs ha =>
    have e' : (if ds.length = n then g ds env else none) = some env' := e
    by_cases hl : ds.length = n
    · rw [if_pos hl] at e'
      exact ⟨a, us, rfl, Same.sqT W.zh hs, by rw [da_length ha, hl], F, pa, Z, env, ds, env', W, ha, e', k⟩
    · rw [if_neg hl] at e'; cases e'
  | _ => cases e
/-- a store to an item of a slot's own list -/
def setAt (i : Nat) (k : Int) (d : D) (env : En) : Option En := match env[i]? with
  | some (.own ds) => (ixN ds.length k).map fun j => env.set i (.own (ds.set j d))
  | some (.par ds) => (ixN ds.length k).map fun j => env.set i (.par (ds.set j d))
  | _ => none
/-- the list at an own slot is changed -/
theorem Wst.chg {K : PySem.W.Frag} {F Z H : Hp} {pa : Nat → Option Addr} {σ : L2.St} {env : En} {i : Nat} {a : Addr} {us : List V} {ds : List D} {s s' : Sl} (W : Wst K F Z H pa σ env) (e1 : σ[i]? = some (some (.ref a))) (e2 : env[i]? = some s)
    (hs : (s' = .own ds ∧ ∃ d0, s = .own d0) ∨ (s' = .par ds ∧ ∃ d0, s = .par d0)) (q : DpAll K Z us ds) : Wst K F Z (upd H a (.lst us)) pa σ (env.set i s') := by
  have hi : i < env.length := (List.getElem?_eq_some_iff.mp e2).1
  have ow : Ow H (some (.ref a)) s a := by rcases hs with ⟨_, _, rfl⟩ | ⟨_, _, rfl⟩ <;> exact rfl
  obtain ⟨us0, b1, b2, b3⟩ := (W.sl i _ s e1 e2).at_ ow
  have key : ∀ {j : Nat} {s1 : Sl}, (env.set i s')[j]? = some s1 → (j = i ∧ s1 = s') ∨ (j ≠ i ∧ env[j]? = some s1) := fun {j s1} e => by
    by_cases hj : i = j
    · subst hj
      rw [List.getElem?_set_self hi] at e; cases e; exact .inl ⟨rfl, rfl⟩
    · rw [List.getElem?_set_ne hj] at e; exact .inr ⟨Ne.symm hj, e⟩
  have ow' : ∀ H' o b, Ow H' o s' b → Ow H o s b := fun H' o b h => h.kind (by
    rcases hs with ⟨h1, h2⟩ | ⟨h1, h2⟩
    · exact .inl ⟨⟨_, h1⟩, h2⟩
    · exact .inr ⟨⟨_, h1⟩, h2⟩)
  have kept : ∀ {j : Nat} {o : Option V} {s1 : Sl}, j ≠ i → σ[j]? = some o → env[j]? = some s1 → ∀ b u, Ow H o s1 b → H b = some u → upd H a (.lst us) b = some u := fun {j o s1} hj q1 q2 b u hb hu => by
    rw [upd_ne (fun z => by subst z; exact W.dj j i o _ s1 s _ hj q1 q2 e1 e2 hb ow)]
    exact hu
  have up : ∀ b o, Same b H → b a = none → Same b (upd H a o) := fun b o f n c u e => by
    rw [upd_ne (fun z => by subst z; rw [n] at e; cases e)]; exact f c u e
  refine ⟨up F _ W.fh b2, up Z _ W.zh b3, by simp [W.len], fun j o s1 q1 q2 => ?_, fun j k o o' s1 s1' b ne q1 q2 q3 q4 o1 o2 => ?_⟩
  · rcases key q2 with ⟨rfl, rfl⟩ | ⟨hj, q2⟩
    · rw [e1] at q1; cases q1
      rcases hs with ⟨rfl, d0, rfl⟩ | ⟨rfl, d0, rfl⟩
      · exact .own upd_same b2 b3 q
      · cases W.sl j _ _ e1 e2 with
        | par z0 z1 z2 z3 z4 => exact .par z0 upd_same b2 b3 q
    · exact (W.sl j o s1 q1 q2).mono (Same.refl _) (kept hj q1 q2) fun _ _ => rfl
  · have back : ∀ {j : Nat} {o : Option V} {s1 : Sl}, σ[j]? = some o → (env.set i s')[j]? = some s1 → Ow (upd H a (.lst us)) o s1 b → ∃ s0, env[j]? = some s0 ∧ Ow H o s0 b := fun {j o s1} r1 r2 r3 => by
      rcases key r2 with ⟨rfl, rfl⟩ | ⟨hj, r2⟩
      · exact ⟨s, e2, ow' _ _ _ r3⟩
      · exact ⟨s1, r2, (W.sl j o s1 r1 r2).back (kept hj r1 r2) r3⟩
    obtain ⟨t1, t2, t3⟩ := back q1 q2 o1
    obtain ⟨t1', t2', t3'⟩ := back q3 q4 o2
    exact W.dj j k o o' t1 t1' b ne q1 t2 q3 t2' t3 t3'
def gIx (i : Nat) (f : Fx D) : Gf := fun d env => match env[i]? with
  | some s => if isOwn s = true then (match f env with
      | some (.int k, e) => setAt i k d e
      | _ => none) else none
  | none => none
theorem Wst.own_ref {K : PySem.W.Frag} {F Z H : Hp} {pa : Nat → Option Addr} {σ : L2.St} {env : En} {i : Nat} {s : Sl} (W : Wst K F Z H pa σ env) (e : env[i]? = some s) (h : isOwn s = true) :
    ∃ a us ds, σ[i]? = some (some (.ref a)) ∧ (s = .own ds ∨ s = .par ds) ∧ H a = some (.lst us) ∧ DpAll K Z us ds := by
  obtain ⟨o, eo, so⟩ := W.get e
  cases so with
  | no => cases h
  | val => cases h
  | own h1 _ _ h4 => exact ⟨_, _, _, eo, .inl rfl, h1, h4⟩
  | par _ h1 _ _ h4 => exact ⟨_, _, _, eo, .inr rfl, h1, h4⟩
  | mat => cases h
theorem s_gIx {i : Nat} {x : Str} {ie : Expr} {f : Fx D} {np : Pos} (ho : PE X (.Name x np) (tVar i)) (hi : PE X ie (tE X.K f))
    (ha : ∀ v, assign (.Subscript (.Name x np) ie pos) X.env v = (do
      let ov ← holding [v] (eval (.Name x np) X.env)
      let iv ← holding [v, ov] (eval ie X.env)
      standAt pos
      holding [v, ov, iv] (setItem ov iv v)
      release [v, ov, iv] [])) : PG X (.Subscript (.Name x np) ie pos) (tG X.K [] (gIx i f)) := by
  refine PG.imp (pg_sub ho hi set_list ha) fun v σ H Q ⟨F, pa, Z, env, d, env', W, q, e, k⟩ => ?_
  unfold gIx at e
  cases e0 : env[i]? with
  | none => rw [e0] at e; cases e
  | some s0 =>
    rw [e0] at e
    dsimp only at e
    cases ow : isOwn s0 with
    | false => rw [ow, if_neg Bool.false_ne_true] at e; cases e
    | true =>
      rw [ow, if_pos rfl] at e
      obtain ⟨a, us0, ds0, ea, _⟩ := W.own_ref e0 ow
      split at e
      · rename_i n env1 h1
        refine ⟨_, ea, F, pa, Z, env, _, env1, W, h1, fun iv Z1 H1 g1 W1 q1 => ?_⟩
        cases q1
        have fin : ∀ (s : Sl) (us : List V) (ds : List D) (s' : List D → Sl), env1[i]? = some s → ((s = .own ds ∧ s' = .own) ∨ (s = .par ds ∧ s' = .par)) → H1 a = some (.lst us) → DpAll X.K Z1 us ds → (ixN ds.length n).map (fun j => env1.set i (s' (ds.set j d))) = some env' →
            rSetL (.ref a) (.int n) v H1 fun H3 => Q σ H3 := fun s us ds s' es hs hH da e => by
          cases hj : ixN ds.length n with
          | none => rw [hj] at e; cases e
          | some j =>
            rw [hj] at e
            cases e
            refine ⟨a, us, n, j, rfl, rfl, hH, by rw [da_length da]; exact hj, ?_⟩
            refine k σ Z1 _ g1 (W1.chg ea es ?_ (da_set (Dp.mono g1.zz _ _ q) j da)) rfl fun _ _ => rfl
            rcases hs with ⟨h1, h2⟩ | ⟨h1, h2⟩
            · exact .inl ⟨by rw [h2], _, h1⟩
            · exact .inr ⟨by rw [h2], _, h1⟩
        unfold setAt at e
        split at e
        · rename_i ds es
          cases W1.sl i _ _ ea es with
          | own b1 b2 b3 b4 => exact fin _ _ ds .own es (.inl ⟨rfl, rfl⟩) b1 b4 e
        · rename_i ds es
          cases W1.sl i _ _ ea es with
          | par b0 b1 b2 b3 b4 => exact fin _ _ ds .par es (.inr ⟨rfl, rfl⟩) b1 b4 e
        · cases e
      · cases e
/-- target = value -/
def sAsg (f : Fx D) (g : Gf) : Fx Fl := fun env => (f env).bind fun p => (g p.1 p.2).map fun e => (.nx, e)
theorem s_asg {tg : Expr} {f : Fx D} {sl : List Nat} {g : Gf} (he : PE X e (tE X.K f)) (hg : PG X tg (tG X.K sl g)) (hs : swapsWithSole [tg] e pos.line X.env = pure false) (hw : swappedStores [tg] e X.env = pure none)
    (h1 : (assignEach [tg] X.env).map (·.2) = [assign tg X.env]) : PS X (.Assign [tg] e pos) (tS X.K (sAsg f g)) := by
  refine PS.imp (ps_asg he hg hs hw h1) fun D σ H ⟨F, pa, Z, env, fl, env', W, e, k⟩ => ?_
  unfold sAsg at e
  cases e1 : f env with
  | none => rw [e1] at e; cases e
  | some p =>
    rw [e1, Option.bind_some] at e
    cases e2 : g p.1 p.2 with
    | none => rw [e2] at e; cases e
    | some env2 =>
      rw [e2] at e
      cases e
      exact ⟨F, pa, Z, env, p.1, p.2, W, e1, fun v Z' H' g1 W1 q => ⟨F, pa, Z', p.2, p.1, _, W1, q, e2, fun σ' Z2 H2 g2 W2 _ _ => k σ' Z2 H2 (g1.trans g2) W2⟩⟩
/-- x.append(e) -/
def appAt (i : Nat) (d : D) (env : En) : Option En := match env[i]? with
  | some (.own ds) => if ds.length < sizeLine then some (env.set i (.own (ds ++ [d]))) else none
  | some (.par ds) => if ds.length < sizeLine then some (env.set i (.par (ds ++ [d]))) else none
  | _ => none
def sApp (i : Nat) (f : Fx D) : Fx Fl := fun env => match env[i]? with
  | some s => if isOwn s = true then (match f env with
      | some (d, e) => (appAt i d e).map fun e2 => (.nx, e2)
      | none => none) else none
  | none => none
theorem s_app {i : Nat} {x : Str} {ie : Expr} {f : Fx D} {np ap : Pos} {cp : Pos} (ho : PE X (.Name x np) (tVar i)) (hi : PE X ie (tE X.K f)) (hse : starEach [ie] X.env = (false, eval ie X.env) :: starEach [] X.env)
    (hline : (ap.endLine == cp.line) = true)
    (hs : swapsWith (.Call (.Attribute (.Name x np) "append" ap) [ie] [] cp) none pos.line X.env = pure false) : PS X (.Expr (.Call (.Attribute (.Name x np) "append" ap) [ie] [] cp) pos) (tS X.K (sApp i f)) := by
  refine PS.imp (ps_expr (pe_bm PySem.F.plainAttrs_list PySem.F.slot_list_append PySem.F.type_list_append mt_append ho (pa_cons hi pa_nil hse) rfl (by rw [hse]; rfl) hline hse) hs) fun DD σ H ⟨F, pa, Z, env, fl, env', W, e, k⟩ => ?_
  unfold sApp at e
  cases e0 : env[i]? with
  | none => rw [e0] at e; cases e
  | some s0 =>
    rw [e0] at e
    dsimp only at e
    cases ow : isOwn s0 with
    | false => rw [ow, if_neg Bool.false_ne_true] at e; cases e
    | true =>
      rw [ow, if_pos rfl] at e
      obtain ⟨a, us0, ds0, ea, _, hH0, _⟩ := W.own_ref e0 ow
      split at e
      · rename_i d env1 h1
        cases e2 : appAt i d env1 with
        | none => rw [e2] at e; cases e
        | some env2 =>
          rw [e2] at e
          cases e
          refine ⟨_, ea, Or.inl ⟨rfl, _, SqL.of hH0⟩, F, pa, Z, env, d, env1, W, h1, fun y Z1 H1 g1 W1 q1 => ?_⟩
          have fin : ∀ (s : Sl) (us : List V) (ds : List D) (s' : List D → Sl), env1[i]? = some s → ((s = .own ds ∧ s' = .own) ∨ (s = .par ds ∧ s' = .par)) → H1 a = some (.lst us) → DpAll X.K Z1 us ds → (if ds.length < sizeLine then some (env1.set i (s' (ds ++ [d]))) else none) = some env' →
              ∃ l xs' y', V.ref a = .ref l ∧ [y] = [y'] ∧ H1 l = some (.lst xs') ∧ xs'.length < sizeLine ∧ DD.nx σ (upd H1 l (.lst (xs' ++ [y']))) := fun s us ds s' es hs hH da e => by
            by_cases hl : ds.length < sizeLine
            · rw [if_pos hl] at e
              cases e
              refine ⟨a, us, y, rfl, rfl, hH, by rw [da_length da]; exact hl, ?_⟩
              refine k σ Z1 _ g1 (W1.chg ea es ?_ (da_append da (.cons q1 .nil)))
              rcases hs with ⟨h1, h2⟩ | ⟨h1, h2⟩
              · exact .inl ⟨by rw [h2], _, h1⟩
              · exact .inr ⟨by rw [h2], _, h1⟩
            · rw [if_neg hl] at e; cases e
          unfold appAt at e2
          split at e2
          · rename_i ds es
            cases W1.sl i _ _ ea es with
            | own b1 b2 b3 b4 => exact fin _ _ ds .own es (.inl ⟨rfl, rfl⟩) b1 b4 e2
          · rename_i ds es
            cases W1.sl i _ _ ea es with
            | par b0 b1 b2 b3 b4 => exact fin _ _ ds .par es (.inr ⟨rfl, rfl⟩) b1 b4 e2
          · cases e2
      · cases e
end
end Ev
namespace Ev
open PySem PySem.Spec PyProof.Rows L2
/-! ## while, for -/
def sWhile (c : Fx Bool) (b : Fx Fl) : Nat → Fx Fl
  | 0 => fun _ => none
  | n + 1 => fun env => match c env with
    | some (true, e1) => (match b e1 with
      | some (.nx, e2) => sWhile c b n e2
      | some (.ct, e2) => sWhile c b n e2
      | some (.bk, e2) => some (.nx, e2)
      | some (.rt r, e2) => some (.rt r, e2)
      | none => none)
    | some (false, e1) => some (.nx, e1)
    | none => none
section
variable {X : Cx} {st : Stmt} {e : Expr} {pos : Pos}
theorem s_while {c : Expr} {body : List Stmt} {fc : Fx Bool} {fb : Fx Fl} {n : Nat} (hp : PassesOwn (model X.prog X.w) X.A X.env X.xe) (hc : PT X c (tT X.K fc)) (hb : PSs X body (tS X.K fb)) : PS X (.While c body [] pos) (tS X.K (sWhile fc fb n)) := by
  refine PS.imp (ps_while hp hc hb) fun DD σ H ⟨F, pa, Z, env, fl, env', W, e, k⟩ => ?_
  refine ⟨fun m σ H => ∃ Z1 env1, Gr F Z Z1 ∧ Wst X.K F Z1 H pa σ env1 ∧ sWhile fc fb m env1 = some (fl, env'), ⟨n, Z, env, .refl .., W, e⟩, ?_⟩
  rintro m σ H ⟨Z1, env1, g1, W1, e1⟩
  cases m with
  | zero => cases e1
  | succ m =>
    unfold sWhile at e1
    split at e1
    · rename_i env2 h2
      refine ⟨F, pa, Z1, env1, true, env2, W1, h2, fun Z2 H2 g2 W2 => iteT ?_⟩
      split at e1
      · rename_i env3 h3
        refine ⟨fun σ' H' => ∃ Z1 env1, Gr F Z Z1 ∧ Wst X.K F Z1 H' pa σ' env1 ∧ sWhile fc fb m env1 = some (fl, env'), fun σ' H' q => ⟨m, Nat.lt_succ_self m, q⟩, F, pa, Z2, env2, .nx, env3, W2, h3, fun σ3 Z3 H3 g3 W3 => ?_⟩
        exact ⟨Z3, env3, (g1.trans g2).trans g3, W3, e1⟩
      · rename_i env3 h3
        refine ⟨fun σ' H' => ∃ Z1 env1, Gr F Z Z1 ∧ Wst X.K F Z1 H' pa σ' env1 ∧ sWhile fc fb m env1 = some (fl, env'), fun σ' H' q => ⟨m, Nat.lt_succ_self m, q⟩, F, pa, Z2, env2, .ct, env3, W2, h3, fun σ3 Z3 H3 g3 W3 => ?_⟩
        exact ⟨Z3, env3, (g1.trans g2).trans g3, W3, e1⟩
      · rename_i env3 h3
        cases e1
        refine ⟨fun _ _ => False, fun _ _ z => z.elim, F, pa, Z2, env2, .bk, _, W2, h3, fun σ3 Z3 H3 g3 W3 => ?_⟩
        exact k σ3 Z3 H3 ((g1.trans g2).trans g3) W3
      · rename_i r env3 h3
        cases e1
        refine ⟨fun _ _ => False, fun _ _ z => z.elim, F, pa, Z2, env2, .rt r, _, W2, h3, fun v σ3 Z3 H3 g3 W3 q => ?_⟩
        exact k v σ3 Z3 H3 ((g1.trans g2).trans g3) W3 q
      · cases e1
    · rename_i env2 h2
      cases e1
      exact ⟨F, pa, Z1, env1, false, _, W1, h2, fun Z2 H2 g2 W2 => iteF (k σ Z2 H2 (g1.trans g2) W2)⟩
    · cases e1
/-! ### what is walked -/
/-- the items of the walk J are those of ds, from the frozen part Z1 on -/
def ItOk (K : PySem.W.Frag) (Z1 : Hp) (J : It) (ds : List D) : Prop := ∀ (Z H : Hp), Same Z1 Z → Same Z H → ∀ i : Nat,
  (∀ d, ds[i]? = some d → J.go i H ∧ ∀ x H2, J.yld i H x H2 → ∃ Z2, Alc Z H Z2 H2 ∧ Dp K Z2 x d) ∧ (ds.length ≤ i → J.stop i H)
def tI (K : PySem.W.Frag) (f : Fx (List D)) : TI := fun σ H R => ∃ F pa Z env ds env', Wst K F Z H pa σ env ∧ f env = some (ds, env') ∧
  ∀ J Z' H', Gr F Z Z' → Wst K F Z' H' pa σ env' → ItOk K Z' J ds → R J H'
theorem PI.imp {tg iter : Expr} {t t' : TI} (h : PI X tg iter t) (m : ∀ σ H R, t' σ H R → t σ H R) : PI X tg iter t' := ⟨fun pins s σ H R I q => h.run pins s σ H R I (m σ H R q)⟩
def forL (g : Gf) (b : Fx Fl) : List D → Fx Fl
  | [] => fun env => some (.nx, env)
  | d :: ds => fun env => match g d env with
    | some e1 => (match b e1 with
      | some (.nx, e2) => forL g b ds e2
      | some (.ct, e2) => forL g b ds e2
      | some (.bk, e2) => some (.nx, e2)
      | some (.rt r, e2) => some (.rt r, e2)
      | none => none)
    | none => none
def sFor (f : Fx (List D)) (g : Gf) (b : Fx Fl) : Fx Fl := fun env => match f env with
  | some (ds, e) => forL g b ds e
  | none => none
theorem s_for {tg iter : Expr} {body : List Stmt} {f : Fx (List D)} {sl : List Nat} {g : Gf} {fb : Fx Fl} (hp : PassesOwn (model X.prog X.w) X.A X.env X.xe) (hc : X.calm = true) (hi : PI X tg iter (tI X.K f)) (hg : PG X tg (tG X.K sl g)) (hb : PSs X body (tS X.K fb))
    (hs : ∀ x, foldedSetIterable iter X.env x = pure x) : PS X (.For tg iter body [] pos) (tS X.K (sFor f g fb)) := by
  refine PS.imp (ps_for hp hc hi hg hb hs) fun DD σ H ⟨F, pa, Z, env, fl, env', W, e, k⟩ => ?_
  unfold sFor at e
  split at e
  · rename_i ds env1 h1
    refine ⟨F, pa, Z, env, ds, env1, W, h1, fun J Z1 H1 g1 W1 io => ?_⟩
    refine ⟨fun i m σ H => m = ds.length - i ∧ ∃ Z2 env2, Gr F Z1 Z2 ∧ Wst X.K F Z2 H pa σ env2 ∧ forL g fb (ds.drop i) env2 = some (fl, env'), ⟨_, rfl, Z1, env1, .refl .., W1, by rw [List.drop_zero]; exact e⟩, ?_⟩
    rintro i m σ H ⟨rfl, Z2, env2, g2, W2, e2⟩
    obtain ⟨io1, io2⟩ := io Z2 H g2.zz W2.zh i
    by_cases hi : i < ds.length
    · rw [List.drop_eq_getElem_cons hi] at e2
      obtain ⟨jg, jy⟩ := io1 ds[i] (by simp [hi])
      unfold forL at e2
      split at e2
      · rename_i env3 h3
        have again : ∀ σ' H', (∃ Z2 env2, Gr F Z1 Z2 ∧ Wst X.K F Z2 H' pa σ' env2 ∧ forL g fb (ds.drop (i + 1)) env2 = some (fl, env')) →
            ∃ m', m' < ds.length - i ∧ m' = ds.length - (i + 1) ∧ ∃ Z2 env2, Gr F Z1 Z2 ∧ Wst X.K F Z2 H' pa σ' env2 ∧ forL g fb (ds.drop (i + 1)) env2 = some (fl, env') := fun σ' H' q => ⟨_, by omega, rfl, q⟩
        split at e2
        · rename_i env4 h4
          refine .inr ⟨jg, fun σ' H' => ∃ Z2 env2, Gr F Z1 Z2 ∧ Wst X.K F Z2 H' pa σ' env2 ∧ forL g fb (ds.drop (i + 1)) env2 = some (fl, env'), again, fun x H2 y => ?_⟩
          obtain ⟨Z3, al, dp⟩ := jy x H2 y
          refine ⟨F, pa, Z3, env2, _, env3, W2.alc al, dp, h3, fun σ5 Z5 H5 g5 W5 _ _ => ⟨F, pa, Z5, env3, .nx, env4, W5, h4, fun σ6 Z6 H6 g6 W6 => ?_⟩⟩
          exact ⟨Z6, env4, ((g2.trans (al.gr W2.fh)).trans g5).trans g6, W6, e2⟩
        · rename_i env4 h4
          refine .inr ⟨jg, fun σ' H' => ∃ Z2 env2, Gr F Z1 Z2 ∧ Wst X.K F Z2 H' pa σ' env2 ∧ forL g fb (ds.drop (i + 1)) env2 = some (fl, env'), again, fun x H2 y => ?_⟩
          obtain ⟨Z3, al, dp⟩ := jy x H2 y
          refine ⟨F, pa, Z3, env2, _, env3, W2.alc al, dp, h3, fun σ5 Z5 H5 g5 W5 _ _ => ⟨F, pa, Z5, env3, .ct, env4, W5, h4, fun σ6 Z6 H6 g6 W6 => ?_⟩⟩
          exact ⟨Z6, env4, ((g2.trans (al.gr W2.fh)).trans g5).trans g6, W6, e2⟩
        · rename_i env4 h4
          cases e2
          refine .inr ⟨jg, fun _ _ => False, fun _ _ z => z.elim, fun x H2 y => ?_⟩
          obtain ⟨Z3, al, dp⟩ := jy x H2 y
          refine ⟨F, pa, Z3, env2, _, env3, W2.alc al, dp, h3, fun σ5 Z5 H5 g5 W5 _ _ => ⟨F, pa, Z5, env3, .bk, _, W5, h4, fun σ6 Z6 H6 g6 W6 => ?_⟩⟩
          exact k σ6 Z6 H6 (g1.trans (((g2.trans (al.gr W2.fh)).trans g5).trans g6)) W6
        · rename_i r env4 h4
          cases e2
          refine .inr ⟨jg, fun _ _ => False, fun _ _ z => z.elim, fun x H2 y => ?_⟩
          obtain ⟨Z3, al, dp⟩ := jy x H2 y
          refine ⟨F, pa, Z3, env2, _, env3, W2.alc al, dp, h3, fun σ5 Z5 H5 g5 W5 _ _ => ⟨F, pa, Z5, env3, .rt r, _, W5, h4, fun v σ6 Z6 H6 g6 W6 q => ?_⟩⟩
          exact k v σ6 Z6 H6 (g1.trans (((g2.trans (al.gr W2.fh)).trans g5).trans g6)) W6 q
        · cases e2
      · cases e2
    · rw [List.drop_eq_nil_of_le (by omega)] at e2
      cases e2
      exact .inl ⟨io2 (by omega), k σ Z2 H (g1.trans g2) W2⟩
  · cases e
/-! ### lists and tuples walked -/
def seqD : D → Option (List D)
  | .list ds => some ds
  | .tuple ds => some ds
  | _ => none
def iSeq (f : Fx D) : Fx (List D) := fun env => (f env).bind fun p => (seqD p.1).map fun ds => (ds, p.2)
/-- a list or a tuple, walked -/
theorem pi_either {tg l : Expr} {tl : TE} (hl : PE X l tl) : PI X tg l (fun σ H R => tl σ H fun x H1 => (∃ a, x = .ref a ∧ (∃ xs, SqL X.K H1 a xs) ∧ R (Itl X.K a) H1) ∨ (∃ a, x = .ref a ∧ (∃ xs, SqT X.K H1 a xs) ∧ R (Itt X.K a) H1)) := by
  constructor
  intro pins s σ H R I h
  refine wpAny_mono (hl.run pins s σ H _ I h) ?_ fun _ _ z => z
  rintro v s1 ⟨x, H1, I1, r1, ⟨a, rfl, ⟨xs, hq⟩, q⟩ | ⟨a, rfl, ⟨xs, hq⟩, q⟩⟩
  · have Y : wpAny (model X.prog X.w) X.A (pyIter v) (PIE X pins σ tg R) X.xe s1 := by
      cases r1
      obtain ⟨its, _, p, _⟩ := I1.list hq
      refine wpAny_pyIter_list p.isList ⟨_, [_], _, _, H1, rfl, ?_, turn_list a _, ⟨_, Heap.get?_push_size _ rfl, rfl, rfl⟩, ?_, q⟩
      · exact I1.kept (t' := s1.toks) fun b o z => Heap.get?_push_of_some _ z
      · intro b hb
        rw [List.mem_singleton] at hb
        rw [hb]
        exact I1.fpOk (Nat.le_refl _) I1.fresh
    exact Y
  · have Y : wpAny (model X.prog X.w) X.A (pyIter v) (PIE X pins σ tg R) X.xe s1 := by
      cases r1
      obtain ⟨its, _, p, _⟩ := I1.tuple hq
      refine wpAny_pyIter_tuple (show s1.heap.IsTuple a its.toArray from p) ⟨_, [_], _, _, H1, rfl, ?_, turn_tuple a _, ⟨_, Heap.get?_push_size _ rfl, rfl, rfl⟩, ?_, q⟩
      · exact I1.kept (t' := s1.toks) fun b o z => Heap.get?_push_of_some _ z
      · intro b hb
        rw [List.mem_singleton] at hb
        rw [hb]
        exact I1.fpOk (Nat.le_refl _) I1.fresh
    exact Y
theorem s_iSeq {tg : Expr} {f : Fx D} (h : PE X e (tE X.K f)) : PI X tg e (tI X.K (iSeq f)) := by
  refine PI.imp (pi_either h) fun σ H R ⟨F, pa, Z, env, ds, env', W, e, k⟩ => ?_
  unfold iSeq at e
  cases h1 : f env with
  | none => rw [h1] at e; cases e
  | some p =>
    rw [h1, Option.bind_some] at e
    cases h2 : seqD p.1 with
    | none => rw [h2] at e; cases e
    | some ds' =>
      rw [h2] at e
      cases e
      refine ⟨F, pa, Z, env, p.1, p.2, W, h1, fun v Z1 H1 g1 W1 q => ?_⟩
      generalize p.1 = d at q h2
      cases q with
      | @lst a us ds hs ha =>
        cases h2
        refine .inl ⟨a, rfl, ⟨us, W1.zh.seq hs⟩, k _ Z1 H1 g1 W1 fun Z2 H2 z1 z2 i => ⟨fun d hd => ?_, fun hi => ⟨us, z2.seq (z1.seq hs), by rw [da_length ha]; exact hi⟩⟩⟩
        obtain ⟨v, hv, dv⟩ := da_get ha hd
        have hq := z2.seq (z1.seq hs)
        refine ⟨⟨us, v, hq, hv⟩, fun x H3 ⟨e3, y⟩ => ?_⟩
        subst e3
        have : us[i]? = some x := y us hq
        rw [hv] at this; cases this
        exact ⟨Z2, .refl z2, Dp.mono z1 _ _ dv⟩
      | @tup a us ds hs ha =>
        cases h2
        refine .inr ⟨a, rfl, ⟨us, Same.sqT W1.zh hs⟩, k _ Z1 H1 g1 W1 fun Z2 H2 z1 z2 i => ⟨fun d hd => ?_, fun hi => ⟨us, Same.sqT z2 (Same.sqT z1 hs), by rw [da_length ha]; exact hi⟩⟩⟩
        obtain ⟨v, hv, dv⟩ := da_get ha hd
        have hq := Same.sqT z2 (Same.sqT z1 hs)
        refine ⟨⟨us, v, hq, hv⟩, fun x H3 ⟨e3, y⟩ => ?_⟩
        subst e3
        have : us[i]? = some x := y us hq
        rw [hv] at this; cases this
        exact ⟨Z2, .refl z2, Dp.mono z1 _ _ dv⟩
      | _ => cases h2
end
end Ev
namespace Ev
open PySem PySem.Spec PyProof.Rows L2
/-! ## comprehensions -/
def wipeE (env : En) : List Nat → En
  | [] => env
  | v :: vs => (wipeE env vs).set v .no
theorem wipeE_length (env : En) : ∀ vs : List Nat, (wipeE env vs).length = env.length
  | [] => rfl
  | v :: vs => by unfold wipeE; rw [List.length_set, wipeE_length env vs]
theorem wipeE_in {env : En} {i : Nat} {s : Sl} : ∀ {vs : List Nat}, i ∈ vs → (wipeE env vs)[i]? = some s → s = .no
  | [], h, _ => by cases h
  | v :: vs, h, e => by
    unfold wipeE at e
    by_cases hv : v = i
    · subst hv
      by_cases hl : v < (wipeE env vs).length
      · rw [List.getElem?_set_self hl] at e; cases e; rfl
      · rw [List.getElem?_eq_none (by simpa using hl)] at e; cases e
    · rw [List.getElem?_set_ne hv] at e
      exact wipeE_in ((List.mem_cons.mp h).resolve_left fun z => hv z.symm) e
theorem wipeE_out {env : En} {i : Nat} : ∀ {vs : List Nat}, i ∉ vs → (wipeE env vs)[i]? = env[i]?
  | [], _ => rfl
  | v :: vs, h => by
    unfold wipeE
    rw [List.mem_cons, not_or] at h
    rw [List.getElem?_set_ne (fun z => h.1 z.symm)]
    exact wipeE_out h.2
theorem wipe_out' {σ : L2.St} {i : Nat} : ∀ {vs : List Nat}, i ∉ vs → (wipe σ vs)[i]? = σ[i]?
  | [], _ => rfl
  | v :: vs, h => by
    unfold wipe
    rw [List.mem_cons, not_or] at h
    rw [List.getElem?_set_ne (fun z => h.1 z.symm)]
    exact wipe_out' h.2
section
variable {K : PySem.W.Frag} {F Z H : Hp} {pa : Nat → Option Addr} {σ σ' : L2.St} {env : En} {vs : List Nat}
/-- the slots vs forgotten, on whatever side -/
theorem Wst.wipeTo (W : Wst K F Z H pa σ env) (hl : σ'.length = σ.length) (hs : ∀ i, i ∉ vs → σ'[i]? = σ[i]?) : Wst K F Z H pa σ' (wipeE env vs) := by
  have key : ∀ {i : Nat} {o : Option V} {s : Sl}, σ'[i]? = some o → (wipeE env vs)[i]? = some s → s = .no ∨ (σ[i]? = some o ∧ env[i]? = some s) := fun {i o s} e1 e2 => by
    by_cases h : i ∈ vs
    · exact .inl (wipeE_in h e2)
    · rw [wipeE_out h] at e2
      rw [hs i h] at e1
      exact .inr ⟨e1, e2⟩
  refine ⟨W.fh, W.zh, by rw [hl, W.len, wipeE_length], fun i o s e1 e2 => ?_, fun i j o o' s s' a ne e1 e2 e3 e4 o1 o2 => ?_⟩
  · rcases key e1 e2 with rfl | ⟨q1, q2⟩
    · exact .no _
    · exact W.sl i o s q1 q2
  · rcases key e1 e2 with rfl | ⟨q1, q2⟩
    · exact o1.no.elim
    · rcases key e3 e4 with rfl | ⟨q3, q4⟩
      · exact o2.no.elim
      · exact W.dj i j o o' s s' a ne q1 q2 q3 q4 o1 o2
theorem Wst.wiped (W : Wst K F Z H pa σ env) : Wst K F Z H pa (wipe σ vs) (wipeE env vs) := W.wipeTo (wipe_length σ vs) fun _ h => wipe_out' h
/-- the frame's object p is changed -/
theorem Wst.updF {p : Addr} {o o' : HO} (W : Wst K (upd F p o) Z H pa σ env) (hz : Z p = none) : Wst K (upd F p o') Z (upd H p o') pa σ env := by
  have nown : ∀ {i : Nat} {v : Option V} {s : Sl} {a : Addr}, σ[i]? = some v → env[i]? = some s → Ow H v s a → a ≠ p := fun {i v s a} e1 e2 e3 z => by
    obtain ⟨_, _, q, _⟩ := (W.sl i v s e1 e2).at_ e3
    rw [z, upd_same] at q; cases q
  have kept : ∀ {i : Nat} {v : Option V} {s : Sl}, σ[i]? = some v → env[i]? = some s → ∀ b u, Ow H v s b → H b = some u → upd H p o' b = some u := fun e1 e2 b u hb hu => by
    rw [upd_ne (nown e1 e2 hb)]; exact hu
  refine ⟨fun b u e => ?_, fun b u e => ?_, W.len, fun i v s e1 e2 => ?_, fun i j v v' s s' b ne e1 e2 e3 e4 o1 o2 => W.dj i j v v' s s' b ne e1 e2 e3 e4 ((W.sl i v s e1 e2).back (kept e1 e2) o1) ((W.sl j v' s' e3 e4).back (kept e3 e4) o2)⟩
  · by_cases q : b = p
    · subst q; rw [upd_same] at e ⊢; exact e
    · rw [upd_ne q] at e ⊢; exact W.fh b u (by rw [upd_ne q]; exact e)
  · rw [upd_ne (fun q => by subst q; rw [hz] at e; cases e)]; exact W.zh b u e
  · have so := (W.sl i v s e1 e2).mono (Same.refl Z) (kept e1 e2) fun _ _ => rfl
    have nn : ∀ a, Ow H v s a → upd F p o a = none → upd F p o' a = none := fun a ha h => by
      rw [upd_ne (nown e1 e2 ha)] at h ⊢; exact h
    have bk : ∀ {a}, Ow (upd H p o') v s a → Ow H v s a := fun h => (W.sl i v s e1 e2).back (kept e1 e2) h
    cases so with
    | no => exact .no _
    | val d => exact .val d
    | own h1 h2 h3 h4 => exact .own h1 (nn _ (bk rfl) h2) h3 h4
    | par h0 h1 h2 h3 h4 => exact .par h0 h1 (nn _ (bk rfl) h2) h3 h4
    | mat h1 h2 h3 h4 h5 => exact .mat h1 (nn _ (bk (.inl rfl)) h2) h3 (h4.mono (fun _ _ h => h) (fun _ _ _ h => h) (fun a m h => nn _ (bk (.inr ⟨_, h1, (h4.mem m).1⟩)) h) fun _ _ => rfl) h5
end
/-- one turn behind another: what is kept, the state behind the last -/
def compL (g : Gf) (c : Fx Bool) (f : Fx D) (vs : List Nat) : List D → List D → Fx (List D)
  | [], acc => fun env => some (acc, env)
  | d :: ds, acc => fun env => match g d env with
    | some e1 => (match c e1 with
      | some (true, e2) => (match f e2 with
        | some (y, e3) => if acc.length < sizeLine then compL g c f vs ds (acc ++ [y]) (wipeE e3 vs) else none
        | none => none)
      | some (false, e2) => compL g c f vs ds acc (wipeE e2 vs)
      | none => none)
    | none => none
def eComp (it : Fx (List D)) (g : Gf) (c : Fx Bool) (f : Fx D) (vs : List Nat) : Fx R := fun env => match it env with
  | some (ds, e) => (compL g c f vs ds [] (wipeE e vs)).map fun p => (.fresh p.1, p.2)
  | none => none
theorem tLc_of {K : PySem.W.Frag} {it : Fx (List D)} {sl : List Nat} {g : Gf} {c : Fx Bool} {f : Fx D} {vs : List Nat} (hsl : ∀ i ∈ sl, i ∈ vs) {σ : L2.St} {H : Hp} {Q : VK} (h : tR K (eComp it g c f vs) σ H Q) :
    tLc (tI K it) (tG K sl g) (tT K c) (tE K f) vs σ H Q := by
  obtain ⟨F, pa, Z, env, r, env', W, e, k⟩ := h
  unfold eComp at e
  split at e
  · rename_i ds env1 h1
    cases h2 : compL g c f vs ds [] (wipeE env1 vs) with
    | none => rw [h2] at e; cases e
    | some q =>
      obtain ⟨res, env2⟩ := q
      rw [h2] at e
      cases e
      refine ⟨F, pa, Z, env, ds, env1, W, h1, fun J Z1 H1 g1 W1 io p hp => ?_⟩
      have fp : F p = none := W1.fh.free hp
      have zp : Z1 p = none := W1.zh.free hp
      -- the invariant: the turn, what is made so far
      refine ⟨fun i m H => m = ds.length - i ∧ ∃ Z2 env3 us acc, Gr F Z1 Z2 ∧ Z2 p = none ∧ H p = some (.lst us) ∧ DpAll K Z2 us acc ∧ Wst K (upd F p (.lst us)) Z2 H pa (wipe σ vs) env3 ∧ wipeE env3 vs = env3 ∧ compL g c f vs (ds.drop i) acc env3 = some (res, env2),
        ⟨_, rfl, Z1, wipeE env1 vs, [], [], .refl .., zp, upd_same, .nil, ?_, ?_, by rw [List.drop_zero]; exact h2⟩, ?_⟩
      · have W2 : Wst K (upd F p (.lst [])) Z1 (upd H1 p (.lst [])) pa σ env1 := by
          have al : Alc Z1 H1 Z1 (upd H1 p (.lst [])) := ⟨Same.refl _, upd_none hp, fun b u e => by rw [upd_ne (fun z => by subst z; rw [zp] at e; cases e)]; exact W1.zh b u e, fun _ _ => rfl⟩
          refine (W1.alc al).frameUp upd_same fun i o s e1 e2 e3 => ?_
          obtain ⟨us, b1, _⟩ := (W1.sl i o s e1 e2).at_ ((W1.sl i o s e1 e2).back (fun b u _ h => al.hh b u h) e3)
          rw [hp] at b1; cases b1
        exact W2.wiped
      · have wi : ∀ (vs ws : List Nat) (env : En), (∀ v ∈ vs, v ∈ ws) → wipeE (wipeE env ws) vs = wipeE env ws := by
          intro vs ws env hs
          refine List.ext_getElem? fun i => ?_
          by_cases hi : i ∈ vs
          · have hl : (wipeE (wipeE env ws) vs).length = (wipeE env ws).length := wipeE_length _ _
            by_cases hb : i < (wipeE env ws).length
            · have e1 : (wipeE (wipeE env ws) vs)[i]? = some ((wipeE (wipeE env ws) vs)[i]'(by rw [hl]; exact hb)) := by simp [hl, hb]
              have e2 : (wipeE env ws)[i]? = some ((wipeE env ws)[i]) := by simp [hb]
              rw [e1, e2, wipeE_in hi e1, wipeE_in (hs i hi) e2]
            · rw [List.getElem?_eq_none (by omega), List.getElem?_eq_none (by omega)]
          · rw [wipeE_out hi]
        exact wi vs vs env1 fun _ h => h
      · rintro i m H ⟨rfl, Z2, env3, us, acc, g2, z2, hH, da, W2, wz, e2⟩
        obtain ⟨io1, io2⟩ := io Z2 H g2.zz W2.zh i
        by_cases hi : i < ds.length
        · rw [List.drop_eq_getElem_cons hi] at e2
          obtain ⟨jg, jy⟩ := io1 ds[i] (by simp [hi])
          refine .inr ⟨jg, fun H' => ∃ Z2 env3 us acc, Gr F Z1 Z2 ∧ Z2 p = none ∧ H' p = some (.lst us) ∧ DpAll K Z2 us acc ∧ Wst K (upd F p (.lst us)) Z2 H' pa (wipe σ vs) env3 ∧ wipeE env3 vs = env3 ∧ compL g c f vs (ds.drop (i + 1)) acc env3 = some (res, env2),
            fun H' q => ⟨ds.length - (i + 1), by omega, rfl, q⟩, fun x H2 y => ?_⟩
          obtain ⟨Z3, al, dp⟩ := jy x H2 y
          unfold compL at e2
          split at e2
          · rename_i env4 h4
            have W3 := W2.alc al
            have sf : Same F (upd F p (.lst us)) := upd_none fp
            refine ⟨_, pa, Z3, env3, _, env4, W3, dp, h4, fun σ5 Z5 H5 g5 W5 l5 k5 => ⟨?_, ?_⟩⟩
            · refine List.ext_getElem? fun j => ?_
              by_cases hj : j ∈ vs
              · have wn : ∀ (σ : L2.St) (vs : List Nat), j ∈ vs → j < σ.length → (wipe σ vs)[j]? = some none := by
                  intro σ vs
                  induction vs with
                  | nil => intro h; cases h
                  | cons v vs ih =>
                    intro h hl
                    unfold wipe
                    by_cases hv : v = j
                    · subst hv; rw [List.getElem?_set_self (by rw [wipe_length]; exact hl)]
                    · rw [List.getElem?_set_ne hv]
                      exact ih ((List.mem_cons.mp h).resolve_left fun z => hv z.symm) hl
                have hlen : (wipe σ vs).length = σ.length := wipe_length σ vs
                by_cases hb : j < σ.length
                · rw [wn σ5 vs hj (by rw [l5, hlen]; exact hb), wn σ vs hj hb]
                · rw [List.getElem?_eq_none (by rw [wipe_length, l5, hlen]; omega), List.getElem?_eq_none (by rw [hlen]; omega)]
              · rw [wipe_out' hj, k5 j (fun z => hj (hsl j z))]
            · have l5' : (wipe σ vs).length = σ5.length := l5.symm
              have s5 : ∀ i, i ∉ vs → (wipe σ vs)[i]? = σ5[i]? := fun i h => (k5 i fun z => h (hsl i z)).symm
              have wi2 : ∀ (env : En), wipeE (wipeE env vs) vs = wipeE env vs := by
                intro env
                refine List.ext_getElem? fun i => ?_
                by_cases hi : i ∈ vs
                · have hl : (wipeE (wipeE env vs) vs).length = (wipeE env vs).length := wipeE_length _ _
                  by_cases hb : i < (wipeE env vs).length
                  · have e1 : (wipeE (wipeE env vs) vs)[i]? = some ((wipeE (wipeE env vs) vs)[i]'(by rw [hl]; exact hb)) := by simp [hl, hb]
                    have e2 : (wipeE env vs)[i]? = some ((wipeE env vs)[i]) := by simp [hb]
                    rw [e1, e2, wipeE_in hi e1, wipeE_in hi e2]
                  · rw [List.getElem?_eq_none (by omega), List.getElem?_eq_none (by omega)]
                · rw [wipeE_out hi]
              have gz : ∀ {Z : Hp}, Gr (upd F p (.lst us)) Z5 Z → Z p = none := fun {Z} g => by
                rw [g.nf p (by rw [upd_same]; exact fun z => nomatch z), g5.nf p (by rw [upd_same]; exact fun z => nomatch z)]
                by_cases q : Z3 p = none
                · exact q
                · have : Z3 p = Z2 p := al.nw p (by rw [hH]; exact fun z => nomatch z)
                  rw [this]; exact z2
              split at e2
              · rename_i env5 h5
                refine ⟨_, pa, Z5, env4, true, env5, W5, h5, fun Z6 H6 g6 W6 => iteT ?_⟩
                split at e2
                · rename_i yy env6 h6
                  refine ⟨_, pa, Z6, env5, yy, env6, W6, h6, fun v Z7 H7 g7 W7 q7 => ?_⟩
                  by_cases hl : acc.length < sizeLine
                  · rw [if_pos hl] at e2
                    have g37 : Gr (upd F p (.lst us)) Z5 Z7 := g6.trans g7
                    have p7 : H7 p = some (.lst us) := W7.fh p _ upd_same
                    have zz : Same Z2 Z7 := al.zz.trans (g5.zz.trans g37.zz)
                    refine ⟨us, p7, by rw [da_length da]; exact hl, Z7, wipeE env6 vs, us ++ [v], acc ++ [yy], ?_, gz g37, upd_same, da_append (DpAll.mono zz _ _ da) (.cons q7 .nil), (W7.wipeTo l5' s5).updF (gz g37), wi2 _, e2⟩
                    exact g2.trans (((al.gr W2.fh).trans (g5.trans g37)).frame sf)
                  · rw [if_neg hl] at e2; cases e2
                · cases e2
              · rename_i env5 h5
                refine ⟨_, pa, Z5, env4, false, env5, W5, h5, fun Z6 H6 g6 W6 => iteF ?_⟩
                have zz : Same Z2 Z6 := al.zz.trans (g5.zz.trans g6.zz)
                exact ⟨Z6, wipeE env5 vs, us, acc, g2.trans (((al.gr W2.fh).trans (g5.trans g6)).frame sf), gz g6, W6.fh p _ upd_same, DpAll.mono zz _ _ da, W6.wipeTo l5' s5, wi2 _, e2⟩
              · cases e2
          · cases e2
        · rw [List.drop_eq_nil_of_le (by omega)] at e2
          cases e2
          have sf : Same F (upd F p (.lst us)) := upd_none fp
          have W3 := (W2.frame sf).wipeTo (σ' := σ) (vs := vs) (wipe_length σ vs).symm fun i h => (wipe_out' h).symm
          rw [wz] at W3
          refine .inl ⟨io2 (by omega), k _ Z2 H (g1.trans g2) W3 ⟨p, us, rfl, hH, z2, fp, da, fun i o s q1 q2 q3 => ?_⟩⟩
          by_cases hj : i ∈ vs
          · rw [← wz] at q2
            rw [wipeE_in hj q2] at q3
            exact q3.no
          · obtain ⟨_, _, z, _⟩ := (W2.sl i o s (by rw [wipe_out' hj]; exact q1) q2).at_ q3
            rw [upd_same] at z; cases z
  · cases e
section
variable {X : Cx}
theorem s_comp {elt tg iter : Expr} {ifs : List Expr} {scope : Scope} {own : List (Str × Nat)} {pos : Pos} {it : Fx (List D)} {sl : List Nat} {g : Gf} {c : Fx Bool} {f : Fx D} (hc : X.calm = true) (hN : X.N.Nodup) (hi : PI X tg iter (tI X.K it)) (ok : BlkOk X.N X.env.scope scope own)
    (hsl : ∀ i ∈ sl, i ∈ own.map (·.2))
    (hg : ∀ (s : Shared) (H : Hp) (C : Addr) (cl : List (Str × Addr)) (fp : List Addr), PG (X.blk s H scope (compEnvC scope cl C X.env) fp) tg (tG X.K sl g))
    (ht : ∀ (s : Shared) (H : Hp) (C : Addr) (cl : List (Str × Addr)) (fp : List Addr), PTs (X.blk s H scope (compEnvC scope cl C X.env) fp) ifs (tT X.K c))
    (he : ∀ (s : Shared) (H : Hp) (C : Addr) (cl : List (Str × Addr)) (fp : List Addr), PE (X.blk s H scope (compEnvC scope cl C X.env) fp) elt (tE X.K f)) (hs : ∀ x, foldedSetIterable iter X.env x = pure x) :
    PE X (.ListComp elt [⟨tg, iter, ifs, 0⟩] scope pos) (tR X.K (eComp it g c f (own.map (·.2)))) :=
  PE.imp (pe_lc hc hN hi ok hg ht he hs) fun σ H Q h => tLc_of hsl h
theorem s_setComp {i : Nat} {y : Str} {py : Pos} {elt tg iter : Expr} {ifs : List Expr} {scope : Scope} {own : List (Str × Nat)} {pos spos : Pos} {it : Fx (List D)} {sl : List Nat} {g : Gf} {c : Fx Bool} {f : Fx D} (hc : X.calm = true) (hN : X.N.Nodup) (hy : X.N[i]? = some y) (hyl : X.env.scope.names.lookup y = some .local)
    (hsw : swapsWith (.ListComp elt [⟨tg, iter, ifs, 0⟩] scope pos) (some (.Name y py)) spos.line X.env = pure true) (hi : PI X tg iter (tI X.K it)) (ok : BlkOk X.N X.env.scope scope own)
    (hsl : ∀ i ∈ sl, i ∈ own.map (·.2))
    (hg : ∀ (s : Shared) (H : Hp) (C : Addr) (cl : List (Str × Addr)) (fp : List Addr), PG (X.blk s H scope (compEnvC scope cl C X.env) fp) tg (tG X.K sl g))
    (ht : ∀ (s : Shared) (H : Hp) (C : Addr) (cl : List (Str × Addr)) (fp : List Addr), PTs (X.blk s H scope (compEnvC scope cl C X.env) fp) ifs (tT X.K c))
    (he : ∀ (s : Shared) (H : Hp) (C : Addr) (cl : List (Str × Addr)) (fp : List Addr), PE (X.blk s H scope (compEnvC scope cl C X.env) fp) elt (tE X.K f)) (hs : ∀ x, foldedSetIterable iter X.env x = pure x) :
    PS X (.Assign [.Name y py] (.ListComp elt [⟨tg, iter, ifs, 0⟩] scope pos) spos) (tS X.K (sSet i (eComp it g c f (own.map (·.2))))) :=
  s_setG (ps_setLc hc hN hy hyl hsw hi ok hg ht he hs) fun σ H Q h => tLc_of hsl h
end
end Ev
namespace Ev
open PySem PySem.Spec PyProof.Rows L2
/-! ## a def -/
def initE (n : Nat) (avs : List AV) : En := avs.map (fun a => match a with | .val d => Sl.val d | .own ds => Sl.par ds) ++ List.replicate (n - avs.length) Sl.no
def outsOf : List AV → Nat → En → Option (List (List D))
  | [], _, _ => some []
  | .val _ :: as, n, env => outsOf as (n + 1) env
  | .own _ :: as, n, env => match env[n]? with
    | some (.par ds) => (outsOf as (n + 1) env).map fun r => ds :: r
    | _ => none
def callFn (n : Nat) (body : Fx Fl) : Fn := fun avs => match body (initE n avs) with
  | some (.rt r, env) => (outsOf avs 0 env).map fun o => (r, o)
  | some (.nx, env) => (outsOf avs 0 env).map fun o => (.val .none, o)
  | _ => none
section
variable {K : PySem.W.Frag} {F Z H : Hp}
theorem AvOk.get_val : ∀ {vs : List V} {as : List AV} {i : Nat} {v : V} {d : D}, AvOk K F Z H vs as → vs[i]? = some v → as[i]? = some (.val d) → Dp K Z v d
  | _, _, _, _, _, .nil, e, _ => by simp at e
  | _, _, 0, _, _, .val h _, e, e' => by simp at e e'; rw [← e, ← e']; exact h
  | _, _, 0, _, _, .own .., e, e' => by simp at e'
  | _, _, i + 1, _, _, .val _ t, e, e' => t.get_val (i := i) (by simpa using e) (by simpa using e')
  | _, _, i + 1, _, _, .own _ _ _ _ _ t, e, e' => t.get_val (i := i) (by simpa using e) (by simpa using e')
theorem AvOk.get_own : ∀ {vs : List V} {as : List AV} {i : Nat} {v : V} {ds : List D}, AvOk K F Z H vs as → vs[i]? = some v → as[i]? = some (.own ds) → ∃ a us, v = .ref a ∧ H a = some (.lst us) ∧ F a = none ∧ Z a = none ∧ DpAll K Z us ds ∧ a ∈ ownAdr vs as
  | _, _, _, _, _, .nil, e, _ => by simp at e
  | _, _, 0, _, _, .val h _, e, e' => by simp at e'
  | _, _, 0, _, _, .own (a := a) h1 h2 h3 h4 _ _, e, e' => by simp at e e'; rw [← e, ← e']; exact ⟨a, _, rfl, h1, h2, h3, h4, List.mem_cons_self ..⟩
  | _, _, i + 1, _, _, .val (v := v) _ t, e, e' => by
    obtain ⟨a, us, h1, h2, h3, h4, h5, h6⟩ := t.get_own (i := i) (by simpa using e) (by simpa using e')
    exact ⟨a, us, h1, h2, h3, h4, h5, by cases v <;> exact h6⟩
  | _, _, i + 1, _, _, .own _ _ _ _ _ t, e, e' => by
    obtain ⟨a, us, h1, h2, h3, h4, h5, h6⟩ := t.get_own (i := i) (by simpa using e) (by simpa using e')
    exact ⟨a, us, h1, h2, h3, h4, h5, List.mem_cons_of_mem _ h6⟩
theorem AvOk.own_ne : ∀ {vs : List V} {as : List AV} {i j : Nat} {a : Addr} {ds es : List D}, AvOk K F Z H vs as → i < j → vs[i]? = some (.ref a) → as[i]? = some (.own ds) → vs[j]? = some (.ref a) → as[j]? = some (.own es) → False
  | _, _, _, _, _, _, _, .nil, _, e, _, _, _ => by simp at e
  | _, _, 0, 0, _, _, _, _, h, _, _, _, _ => by omega
  | _, _, 0, j + 1, _, _, _, .val .., _, _, e, _, _ => by simp at e
  | _, _, 0, j + 1, a, ds, es, .own (a := b) _ _ _ _ n t, _, e1, _, e3, e4 => by
    have e1' : b = a := by simpa using e1
    subst e1'
    obtain ⟨c, _, q, _, _, _, _, hm⟩ := t.get_own (i := j) (by simpa using e3) (by simpa using e4)
    cases q
    exact n hm
  | _, _, i + 1, j + 1, _, _, _, .val _ t, h, e1, e2, e3, e4 => t.own_ne (i := i) (j := j) (by omega) (by simpa using e1) (by simpa using e2) (by simpa using e3) (by simpa using e4)
  | _, _, i + 1, j + 1, _, _, _, .own _ _ _ _ _ t, h, e1, e2, e3, e4 => t.own_ne (i := i) (j := j) (by omega) (by simpa using e1) (by simpa using e2) (by simpa using e3) (by simpa using e4)
  | _, _, i + 1, 0, _, _, _, _, h, _, _, _, _ => by omega
def paOf (vs : List V) (avs : List AV) (i : Nat) : Option Addr := match vs[i]?, avs[i]? with
  | some (.ref a), some (.own _) => some a
  | _, _ => none
theorem init_get {n i : Nat} {avs : List AV} {s : Sl} (e : (initE n avs)[i]? = some s) : s = .no ∨ ∃ av, avs[i]? = some av ∧ s = (match av with | .val d => Sl.val d | .own ds => Sl.par ds) := by
  unfold initE at e
  by_cases h : i < avs.length
  · rw [List.getElem?_append_left (by simpa using h), List.getElem?_map] at e
    cases q : avs[i]? with
    | none => rw [q] at e; cases e
    | some av => rw [q] at e; cases e; exact .inr ⟨av, rfl, rfl⟩
  · rw [List.getElem?_append_right (by simpa using h)] at e
    rw [List.getElem?_replicate] at e
    split at e
    · cases e; exact .inl rfl
    · cases e
theorem start_get {N : List Str} {vs : List V} {i : Nat} {v : V} (h : vs[i]? = some v) : (L2.start N vs)[i]? = some (some v) := by
  have hi : i < vs.length := (List.getElem?_eq_some_iff.mp h).1
  unfold L2.start
  rw [List.getElem?_append_left (by simpa using hi), List.getElem?_map, h]
  rfl
theorem Wst.start {N : List Str} {vs : List V} {avs : List AV} (f : Same F H) (z : Same Z H) (A : AvOk K F Z H vs avs) (hl : vs.length ≤ N.length) : Wst K F Z H (paOf vs avs) (L2.start N vs) (initE N.length avs) := by
  have la := A.length
  have sv : ∀ {i : Nat} {o : Option V} {av : AV}, (L2.start N vs)[i]? = some o → avs[i]? = some av → ∃ v, vs[i]? = some v ∧ o = some v := fun {i o av} e q => by
    have hi : i < vs.length := by rw [la]; exact (List.getElem?_eq_some_iff.mp q).1
    have e1 : vs[i]? = some vs[i] := by simp [hi]
    rw [start_get e1] at e
    exact ⟨_, e1, (Option.some.inj e).symm⟩
  refine ⟨f, z, ?_, fun i o s e1 e2 => ?_, fun i j o o' s s' a ne e1 e2 e3 e4 o1 o2 => ?_⟩
  · unfold L2.start initE
    simp
    omega
  · rcases init_get e2 with rfl | ⟨av, q, rfl⟩
    · exact .no _
    · obtain ⟨v, hv, rfl⟩ := sv e1 q
      cases av with
      | val d => exact .val (A.get_val hv q)
      | own ds =>
        obtain ⟨a, us, rfl, h1, h2, h3, h4, h5⟩ := A.get_own hv q
        refine .par ?_ h1 h2 h3 h4
        unfold paOf
        rw [hv, q]
  · have key : ∀ {i : Nat} {o : Option V} {s : Sl}, (L2.start N vs)[i]? = some o → (initE N.length avs)[i]? = some s → Ow H o s a → ∃ ds, vs[i]? = some (.ref a) ∧ avs[i]? = some (.own ds) := fun {i o s} e1 e2 e3 => by
      rcases init_get e2 with rfl | ⟨av, q, rfl⟩
      · exact e3.no.elim
      · obtain ⟨v, hv, ev⟩ := sv e1 q
        cases ev
        cases av with
        | val d => exact e3.val.elim
        | own ds =>
          cases e3.par
          exact ⟨ds, hv, q⟩
    obtain ⟨ds, a1, a2⟩ := key e1 e2 o1
    obtain ⟨es, b1, b2⟩ := key e3 e4 o2
    rcases Nat.lt_or_gt_of_ne ne with h | h
    · exact A.own_ne h a1 a2 b1 b2
    · exact A.own_ne h b1 b2 a1 a2
theorem outs_ok {Z' H' : Hp} {pa : Nat → Option Addr} {σ' : L2.St} {env' : En} (W : Wst K F Z' H' pa σ' env') : ∀ {vs : List V} {avs : List AV} {n : Nat} {outs : List (List D)}, AvOk K F Z H vs avs → (∀ i a ds, vs[i]? = some (.ref a) → avs[i]? = some (.own ds) → pa (n + i) = some a) →
    outsOf avs n env' = some outs → OutOk K Z' H' (ownAdr vs avs) outs ∧ ∀ a ∈ ownAdr vs avs, ∃ (j : Nat) (s : Sl), σ'[j]? = some (some (.ref a)) ∧ env'[j]? = some s ∧ Ow H' (some (.ref a)) s a
  | _, _, n, outs, .nil, _, e => by cases e; exact ⟨.nil, fun a h => by cases h⟩
  | _, _, n, outs, .val (v := v) (vs := vs) (as := as) _ t, hp, e => by
    have := outs_ok W (n := n + 1) t (fun i a ds e1 e2 => by rw [show n + 1 + i = n + (i + 1) by omega]; exact hp (i + 1) a ds (by simpa using e1) (by simpa using e2)) (show outsOf as (n + 1) env' = some outs from e)
    cases v <;> exact this
  | _, _, n, outs, .own (a := a) (ds := ds) (vs := vs) (as := as) _ _ _ _ _ t, hp, e => by
    unfold outsOf at e
    split at e
    · rename_i es e1
      cases e2 : outsOf as (n + 1) env' with
      | none => rw [e2] at e; cases e
      | some r =>
        rw [e2] at e; cases e
        obtain ⟨h1, h2⟩ := outs_ok W (n := n + 1) t (fun i a ds e1 e2 => by rw [show n + 1 + i = n + (i + 1) by omega]; exact hp (i + 1) a ds (by simpa using e1) (by simpa using e2)) e2
        obtain ⟨o, eo, so⟩ := W.get e1
        cases so with
        | @par b us _ b0 b1 b2 b3 b4 =>
          have q := hp 0 a ds rfl rfl
          rw [Nat.add_zero, b0] at q
          have q' : b = a := Option.some.inj q
          subst q'
          refine ⟨.cons b1 b3 b4 h1, fun c hc => ?_⟩
          rcases List.mem_cons.mp (show c ∈ b :: ownAdr vs as from hc) with rfl | hc
          · exact ⟨n, _, eo, e1, rfl⟩
          · exact h2 c hc
    · cases e
end
end Ev
namespace Ev
open PySem PySem.Spec PyProof.Rows L2
/-! ## plain arguments, displays -/
def tAd (K : PySem.W.Frag) (f : Fx (List D)) : TA := fun σ H Q => ∃ F pa Z env ds env', Wst K F Z H pa σ env ∧ f env = some (ds, env') ∧
  ∀ vs Z' H', Gr F Z Z' → Wst K F Z' H' pa σ env' → DpAll K Z' vs ds → Q vs H'
def dNil : Fx (List D) := fun env => some ([], env)
def dCons (f : Fx D) (g : Fx (List D)) : Fx (List D) := fun env => (f env).bind fun p => (g p.2).map fun q => (p.1 :: q.1, q.2)
section
variable {X : Cx} {e : Expr} {es : List Expr} {pos : Pos}
theorem s_dNil : PA X [] (tAd X.K dNil) := by
  refine PA.imp pa_nil fun σ H Q ⟨F, pa, Z, env, ds, env', W, h, k⟩ => ?_
  cases h
  exact k [] Z H (.refl ..) W .nil
theorem s_dCons {f : Fx D} {g : Fx (List D)} (h1 : PE X e (tE X.K f)) (h2 : PA X es (tAd X.K g)) (hs : starEach (e :: es) X.env = (false, eval e X.env) :: starEach es X.env) : PA X (e :: es) (tAd X.K (dCons f g)) := by
  refine PA.imp (pa_cons h1 h2 hs) fun σ H Q ⟨F, pa, Z, env, ds, env', W, h, k⟩ => ?_
  unfold dCons at h
  cases e1 : f env with
  | none => rw [e1] at h; cases h
  | some p =>
    rw [e1, Option.bind_some] at h
    cases e2 : g p.2 with
    | none => rw [e2] at h; cases h
    | some q =>
      rw [e2] at h
      cases h
      exact ⟨F, pa, Z, env, p.1, p.2, W, e1, fun v Z1 H1 g1 W1 q1 => ⟨F, pa, Z1, p.2, q.1, q.2, W1, e2, fun vs Z2 H2 g2 W2 q2 => k (v :: vs) Z2 H2 (g1.trans g2) W2 (.cons (Dp.mono g2.zz _ _ q1) q2)⟩⟩
def eTup (f : Fx (List D)) : Fx D := fun env => match f env with
  | some (ds, e) => if ds.length ≤ sizeLine then some (.tuple ds, e) else none
  | none => none
theorem s_tup {f : Fx (List D)} {k : Nat} (h : PA X es (tAd X.K f)) : PE X (.Tuple es k pos) (tE X.K (eTup f)) := by
  refine PE.imp (pe_tup h) fun σ H Q ⟨F, pa, Z, env, d, env', W, e, k⟩ => ?_
  unfold eTup at e
  split at e
  · rename_i ds env1 e1
    by_cases hl : ds.length ≤ sizeLine
    · rw [if_pos hl] at e
      cases e
      refine ⟨F, pa, Z, env, ds, _, W, e1, fun vs Z1 H1 g1 W1 q1 => ⟨by rw [da_length q1]; exact hl, fun p hp => ?_⟩⟩
      have al := Alc.new (o := .tup vs) W1.zh hp
      exact k _ _ _ (g1.trans (al.gr W1.fh)) (W1.alc al) (.tup (SqT.of upd_same) (DpAll.mono al.zz _ _ q1))
    · rw [if_neg hl] at e; cases e
  · cases e
/-- a new list at p, not yet frozen -/
theorem Wst.newL {K : PySem.W.Frag} {F Z H : Hp} {pa : Nat → Option Addr} {σ : L2.St} {env : En} {p : Addr} {us : List V} {ds : List D} (W : Wst K F Z H pa σ env) (hp : H p = none) (q : DpAll K Z us ds) :
    Wst K F Z (upd H p (.lst us)) pa σ env ∧ RkOk K F Z (upd H p (.lst us)) σ env (.ref p) (.fresh ds) := by
  have zp := W.zh.free hp
  have al : Alc Z H Z (upd H p (.lst us)) := ⟨Same.refl _, upd_none hp, fun b u e => by rw [upd_ne (fun z => by subst z; rw [zp] at e; cases e)]; exact W.zh b u e, fun _ _ => rfl⟩
  refine ⟨W.alc al, p, us, rfl, upd_same, zp, W.fh.free hp, q, fun i o s e1 e2 e3 => ?_⟩
  obtain ⟨us', b1, _⟩ := (W.sl i o s e1 e2).at_ ((W.sl i o s e1 e2).back (fun b u _ h => upd_none hp b u h) e3)
  rw [hp] at b1; cases b1
/-- {} -/
def eDct0 : Fx D := fun env => some (.dict [], env)
theorem s_dct0 : PE X (.Dict [] [] pos) (tE X.K eDct0) := by
  refine PE.imp pe_dnewK fun σ H Q ⟨F, pa, Z, env, d, env', W, e, k⟩ => fun p hp => ?_
  cases e
  have al := Alc.new (o := .dK []) W.zh hp
  exact k _ _ _ (al.gr W.fh) (W.alc al) (.dct upd_same)
def eLst (f : Fx (List D)) : Fx R := fun env => match f env with
  | some (ds, e) => if ds.length ≤ sizeLine then some (.fresh ds, e) else none
  | none => none
theorem s_lst {f : Fx (List D)} (h : PA X es (tAd X.K f)) : PE X (.List es pos) (tR X.K (eLst f)) := by
  refine PE.imp (pe_lst h) fun σ H Q ⟨F, pa, Z, env, d, env', W, e, k⟩ => ?_
  unfold eLst at e
  split at e
  · rename_i ds env1 e1
    by_cases hl : ds.length ≤ sizeLine
    · rw [if_pos hl] at e
      cases e
      refine ⟨F, pa, Z, env, ds, _, W, e1, fun vs Z1 H1 g1 W1 q1 => ⟨by rw [da_length q1]; exact hl, fun p hp => ?_⟩⟩
      obtain ⟨W2, rk⟩ := W1.newL hp q1
      exact k _ _ _ g1 W2 rk
    · rw [if_neg hl] at e; cases e
  · cases e
/-- a list and a list: a new list -/
def eAddR (f g : Fx D) : Fx R := fun env => (f env).bind fun p => (g p.2).bind fun q => match p.1, q.1 with
  | .list xs, .list ys => if xs.length + ys.length ≤ sizeLine then some (.fresh (xs ++ ys), q.2) else none
  | _, _ => none
theorem s_addR {a b : Expr} {fa fb : Fx D} (ha : PE X a (tE X.K fa)) (hb : PE X b (tE X.K fb)) : PE X (.BinOp a .Add b pos) (tR X.K (eAddR fa fb)) := by
  refine PE.imp (pe_op op_catL ha hb) fun σ H Q ⟨F, pa, Z, env, r, env', W, e, k⟩ => ?_
  unfold eAddR at e
  cases e1 : fa env with
  | none => rw [e1] at e; cases e
  | some p =>
    rw [e1, Option.bind_some] at e
    cases e2 : fb p.2 with
    | none => rw [e2] at e; cases e
    | some q =>
      rw [e2, Option.bind_some] at e
      refine ⟨F, pa, Z, env, p.1, p.2, W, e1, fun v Z1 H1 g1 W1 q1 => ⟨F, pa, Z1, p.2, q.1, q.2, W1, e2, fun u Z2 H2 g2 W2 q2 => ?_⟩⟩
      generalize p.1 = d at q1 e
      generalize q.1 = d2 at q2 e
      have q3 := Dp.mono g2.zz _ _ q1
      cases q3 <;> (try (cases e; done))
      cases q2 <;> (try (cases e; done))
      rename_i b us ds hs da b2 us2 ds2 hs2 da2
      have e' : (if ds.length + ds2.length ≤ sizeLine then some (R.fresh (ds ++ ds2), q.2) else none) = some (r, env') := e
      by_cases h : ds.length + ds2.length ≤ sizeLine
      · rw [if_pos h] at e'; cases e'
        have l1 := da_length da
        have l2 := da_length da2
        refine ⟨b, b2, us, us2, rfl, rfl, W2.zh.seq hs, W2.zh.seq hs2, by omega, fun p hp => ?_⟩
        obtain ⟨W4, rk⟩ := W2.newL hp (da_append da da2)
        exact k _ Z2 _ (g1.trans g2) W4 rk
      · rw [if_neg h] at e'; cases e'
/-! ### items, slices -/
def gItem : D → D → Option D
  | .list ds, .int i => atI ds i
  | .tuple ds, .int i => atI ds i
  | .str z, .int i => if z.length ≤ sizeLine then (atI z.cps.toList i).map fun c => .str ⟨#[c]⟩ else none
  | _, _ => none
theorem atI_da {K : PySem.W.Frag} {Z : Hp} {vs : List V} {ds : List D} {i : Int} {d : D} (h : DpAll K Z vs ds) (e : atI ds i = some d) : ∃ v, atI vs i = some v ∧ Dp K Z v d := by
  unfold atI at e ⊢
  rw [da_length h]
  cases q : ixN ds.length i with
  | none => rw [q] at e; cases e
  | some j => rw [q, Option.bind_some] at e; exact da_get h e
theorem imp_item {K : PySem.W.Frag} : Imp2 K (rIx K) gItem := by
  intro Z H x y d e z Q zh q1 q2 hz k
  cases q2 <;> (try (cases q1 <;> (cases hz; done)))
  rename_i i
  cases q1 <;> (try (cases hz; done))
  · rename_i s
    have hz' : (if s.length ≤ sizeLine then (atI s.cps.toList i).map fun c => PyData.str ⟨#[c]⟩ else none) = some z := hz
    by_cases hl : s.length ≤ sizeLine
    · rw [if_pos hl] at hz'
      cases ea : atI s.cps.toList i with
      | none => rw [ea] at hz'; cases hz'
      | some c =>
        rw [ea] at hz'; cases hz'
        exact .inr (.inr ⟨s, i, c, rfl, rfl, hl, ea, k _ Z H (.refl zh) (.str _)⟩)
    · rw [if_neg hl] at hz'; cases hz'
  · rename_i a us ds hs ha
    obtain ⟨v, ev, dv⟩ := atI_da ha (show atI ds i = some z from hz)
    exact .inl ⟨a, us, i, v, rfl, rfl, zh.seq hs, ev, k v Z H (.refl zh) dv⟩
  · rename_i a us ds hs ha
    obtain ⟨v, ev, dv⟩ := atI_da ha (show atI ds i = some z from hz)
    exact .inr (.inl ⟨a, us, i, v, rfl, rfl, Same.sqT zh hs, ev, k v Z H (.refl zh) dv⟩)
theorem s_item {a b : Expr} {fa fb : Fx D} (ha : PE X a (tE X.K fa)) (hb : PE X b (tE X.K fb)) (hs : PlainIx b) : PE X (.Subscript a b pos) (tE X.K (eOp gItem fa fb)) :=
  PE.imp (pe_ix ix_seq ha hb hs) fun σ H Q h => tOp_of imp_item h
/-- x[e], x a slot's own list or any datum -/
def ownItem (i : Nat) : Option (D × En) → Option (D × En)
  | some (.int k, e) => (match e[i]? with
    | some (.own ds) => (atI ds k).map fun z => (z, e)
    | some (.par ds) => (atI ds k).map fun z => (z, e)
    | _ => none)
  | _ => none
def eItemN (i : Nat) (f : Fx D) : Fx D := fun env => match env[i]? with
  | some (.val d) => (f env).bind fun p => (gItem d p.1).map fun z => (z, p.2)
  | some (.own _) => ownItem i (f env)
  | some (.par _) => ownItem i (f env)
  | _ => none
theorem own_item {i : Nat} {fb : Fx D} {σ : L2.St} {H : Hp} {Q : VK} {F : Hp} {pa : Nat → Option Addr} {Z : Hp} {env env' : En} {d : D} {s : Sl} (W : Wst X.K F Z H pa σ env) (e0 : env[i]? = some s) (ow : isOwn s = true) (e : ownItem i (fb env) = some (d, env'))
    (k : ∀ (v : V) (Z' H' : Hp), Gr F Z Z' → Wst X.K F Z' H' pa σ env' → Dp X.K Z' v d → Q v H') : tOp (rIx X.K) (tVar i) (tE X.K fb) σ H Q := by
  obtain ⟨a, us0, ds0, ea, _⟩ := W.own_ref e0 ow
  unfold ownItem at e
  split at e
  · rename_i n env1 e1
    have fin : ∀ (s' : Sl) (ds : List D), env1[i]? = some s' → (s' = .own ds ∨ s' = .par ds) → (atI ds n).map (fun z => (z, env1)) = some (d, env') → tOp (rIx X.K) (tVar i) (tE X.K fb) σ H Q := fun s' ds es hs e => by
      cases e2 : atI ds n with
      | none => rw [e2] at e; cases e
      | some z =>
        rw [e2] at e
        cases e
        refine ⟨_, ea, F, pa, Z, env, _, _, W, e1, fun y Z1 H1 g1 W1 q1 => ?_⟩
        cases q1
        have so := W1.sl i _ _ ea es
        have : ∃ us, H1 a = some (.lst us) ∧ DpAll X.K Z1 us ds := by
          rcases hs with rfl | rfl
          · cases so with
            | own h1 _ _ h4 => exact ⟨_, h1, h4⟩
          · cases so with
            | par _ h1 _ _ h4 => exact ⟨_, h1, h4⟩
        obtain ⟨us, hH, da⟩ := this
        obtain ⟨v, ev, dv⟩ := atI_da da e2
        exact .inl ⟨a, us, n, v, rfl, rfl, SqL.of hH, ev, k v Z1 H1 g1 W1 dv⟩
    split at e
    · rename_i ds es; exact fin _ ds es (.inl rfl) e
    · rename_i ds es; exact fin _ ds es (.inr rfl) e
    · cases e
  · cases e
theorem s_itemN {i : Nat} {x : Str} {np : Pos} {b : Expr} {fb : Fx D} (ho : PE X (.Name x np) (tVar i)) (hb : PE X b (tE X.K fb)) (hs : PlainIx b) : PE X (.Subscript (.Name x np) b pos) (tE X.K (eItemN i fb)) := by
  refine PE.imp (pe_ix ix_seq ho hb hs) fun σ H Q ⟨F, pa, Z, env, d, env', W, e, k⟩ => ?_
  unfold eItemN at e
  split at e
  · rename_i d0 e0
    obtain ⟨o, eo, so⟩ := W.get e0
    cases so with
    | @val v _ dp =>
      cases e1 : fb env with
      | none => rw [e1] at e; cases e
      | some p =>
        rw [e1, Option.bind_some] at e
        cases e2 : gItem d0 p.1 with
        | none => rw [e2] at e; cases e
        | some z =>
          rw [e2] at e
          cases e
          refine ⟨v, eo, F, pa, Z, env, p.1, p.2, W, e1, fun y Z1 H1 g1 W1 q1 => ?_⟩
          exact imp_item Z1 H1 v y d0 p.1 d Q W1.zh (Dp.mono g1.zz _ _ dp) q1 e2 fun v Z2 H2 a q => k v Z2 H2 (g1.trans (a.gr W1.fh)) (W1.alc a) q
  · rename_i ds e0; exact own_item W e0 rfl e k
  · rename_i ds e0; exact own_item W e0 rfl e k
  · cases e
def eLenN (i : Nat) : Fx D := fun env => match env[i]? with
  | some (.val (.list ds)) => some (.int ds.length, env)
  | some (.val (.tuple ds)) => some (.int ds.length, env)
  | some (.val (.str z)) => if z.length ≤ sizeLine then some (.int z.length, env) else none
  | some (.own ds) => some (.int ds.length, env)
  | some (.par ds) => some (.int ds.length, env)
  | _ => none
def gLen : List D → Option D
  | [.list ds] => some (.int ds.length)
  | [.tuple ds] => some (.int ds.length)
  | [.str z] => if z.length ≤ sizeLine then some (.int z.length) else none
  | _ => none
/-! ### slices -/
def cutD (xs : List D) (lo hi : Option Int) : List D := (xs.drop (HT.sIx xs.length 0 lo)).take (HT.sIx xs.length xs.length hi - HT.sIx xs.length 0 lo)
theorem cut_da {K : PySem.W.Frag} {Z : Hp} {vs : List V} {ds : List D} (h : DpAll K Z vs ds) (lo hi : Option Int) : DpAll K Z (cutV vs lo hi) (cutD ds lo hi) := by
  unfold cutV cutD
  rw [da_length h]
  exact da_take _ (da_drop _ h)
def ePart : Option (Fx D) → Fx (Option Int)
  | none => fun env => some (none, env)
  | some f => fun env => match f env with
    | some (.int i, e) => some (some i, e)
    | _ => none
def tPt (K : PySem.W.Frag) (f : Fx (Option Int)) : TO := fun σ H Q => ∃ F pa Z env o env', Wst K F Z H pa σ env ∧ f env = some (o, env') ∧ ∀ Z' H', Gr F Z Z' → Wst K F Z' H' pa σ env' → Q o H'
theorem PO.imp {e : Option Expr} {t t' : TO} (h : PO X e t) (m : ∀ σ H Q, t' σ H Q → t σ H Q) : PO X e t' := ⟨fun pins s σ H Q I q => h.run pins s σ H Q I (m σ H Q q)⟩
theorem s_ptN : PO X none (tPt X.K (ePart none)) := by
  refine PO.imp po_none fun σ H Q ⟨F, pa, Z, env, o, env', W, e, k⟩ => ?_
  cases e
  exact k Z H (.refl ..) W
theorem s_ptS {f : Fx D} (h : PE X e (tE X.K f)) : PO X (some e) (tPt X.K (ePart (some f))) := by
  refine PO.imp (po_some h) fun σ H Q ⟨F, pa, Z, env, o, env', W, e, k⟩ => ?_
  unfold ePart at e
  dsimp only at e
  split at e
  · rename_i i e1 h1
    cases e
    refine ⟨F, pa, Z, env, _, _, W, h1, fun v Z' H' g1 W1 q => ?_⟩
    cases q
    exact ⟨i, rfl, k Z' H' g1 W1⟩
  · cases e
def eSlice (f : Fx D) (lo hi : Fx (Option Int)) : Fx R := fun env => (f env).bind fun p => (lo p.2).bind fun q => (hi q.2).bind fun r => match p.1 with
  | .list ds => some (.fresh (cutD ds q.1 r.1), r.2)
  | .tuple ds => some (.val (.tuple (cutD ds q.1 r.1)), r.2)
  | _ => none
theorem cut_whole {K : PySem.W.Frag} {ds : List D} {lo hi : Option Int} (h : HT.sIx ds.length 0 lo = 0 ∧ HT.sIx ds.length ds.length hi = ds.length) : cutD ds lo hi = ds := by
  unfold cutD
  rw [h.1, h.2]
  simp
theorem s_slice {a : Expr} {lo hi : Option Expr} {fa : Fx D} {fl fh : Fx (Option Int)} {p2 : Pos} (ha : PE X a (tE X.K fa)) (hl : PO X lo (tPt X.K fl)) (hh : PO X hi (tPt X.K fh)) : PE X (.Subscript a (.Slice lo hi none p2) pos) (tR X.K (eSlice fa fl fh)) := by
  refine PE.imp (pe_slice (SlR.or sl_list sl_tupA) ha hl hh) fun σ H Q ⟨F, pa, Z, env, r, env', W, e, k⟩ => ?_
  unfold eSlice at e
  cases e1 : fa env with
  | none => rw [e1] at e; cases e
  | some p =>
    rw [e1, Option.bind_some] at e
    cases e2 : fl p.2 with
    | none => rw [e2] at e; cases e
    | some q =>
      rw [e2, Option.bind_some] at e
      cases e3 : fh q.2 with
      | none => rw [e3] at e; cases e
      | some t =>
        rw [e3, Option.bind_some] at e
        refine ⟨F, pa, Z, env, p.1, p.2, W, e1, fun v Z1 H1 g1 W1 q1 => ⟨F, pa, Z1, p.2, q.1, q.2, W1, e2, fun Z2 H2 g2 W2 => ⟨F, pa, Z2, q.2, t.1, t.2, W2, e3, fun Z3 H3 g3 W3 => ?_⟩⟩⟩
        generalize p.1 = d at q1 e
        have q3 := Dp.mono (g2.zz.trans g3.zz) _ _ q1
        have gg := (g1.trans g2).trans g3
        cases q3 with
        | @lst b us ds hs da =>
          cases e
          refine .inl ⟨b, us, rfl, W3.zh.seq hs, fun p hp => ?_⟩
          obtain ⟨W4, rk⟩ := W3.newL hp (cut_da da q.1 t.1)
          exact k _ Z3 _ gg W4 rk
        | @tup b us ds hs da =>
          cases e
          have hl := da_length da
          refine .inr ⟨b, us, rfl, Same.sqT W3.zh hs, fun hw => ?_, fun _ p hp => ?_⟩
          · rw [hl] at hw
            exact k _ Z3 H3 gg W3 (show Dp X.K Z3 (.ref b) (.tuple (cutD ds q.1 t.1)) by rw [cut_whole (K := X.K) hw]; exact .tup hs da)
          · have al := Alc.new (o := .tup (cutV us q.1 t.1)) W3.zh hp
            exact k _ _ _ (gg.trans (al.gr W3.fh)) (W3.alc al) (.tup (SqT.of upd_same) (DpAll.mono al.zz _ _ (cut_da da q.1 t.1)))
        | _ => cases e
end
end Ev
namespace Ev
open PySem PySem.Spec PyProof.Rows L2
/-! ## built-ins -/
def ImpA (K : PySem.W.Frag) (r : List V → Hp → VK → Prop) (g : List D → Option D) : Prop := ∀ (Z H : Hp) (vs : List V) (ds : List D) (z : D) (Q : VK), Same Z H → DpAll K Z vs ds → g ds = some z →
  (∀ v Z' H', Alc Z H Z' H' → Dp K Z' v z → Q v H') → r vs H Q
def CallD (X : Cx) (f : Value) (g : List D → Option D) : Prop := ∃ r, CallR X f r ∧ ImpA X.K r g
theorem CallD.or {X : Cx} {f : Value} {g g' h : List D → Option D} (a : CallD X f g) (b : CallD X f g') (e : ∀ x z, h x = some z → g x = some z ∨ g' x = some z) : CallD X f h :=
  let ⟨r, h1, h2⟩ := a; let ⟨r', h1', h2'⟩ := b
  ⟨_, h1.or h1', fun Z H vs ds z Q zh q hz k => (e _ _ hz).elim (fun q' => .inl (h2 Z H vs ds z Q zh q q' k)) fun q' => .inr (h2' Z H vs ds z Q zh q q' k)⟩
def eBlt (g : List D → Option D) (f : Fx (List D)) : Fx D := fun env => (f env).bind fun p => (g p.1).map fun z => (z, p.2)
theorem tCB_of {K : PySem.W.Frag} {r : List V → Hp → VK → Prop} {g : List D → Option D} {f : Fx (List D)} (hi : ImpA K r g) {σ : L2.St} {H : Hp} {Q : VK} (h : tE K (eBlt g f) σ H Q) : tCB r (tAd K f) σ H Q := by
  obtain ⟨F, pa, Z, env, z, env', W, e, k⟩ := h
  unfold eBlt at e
  cases e1 : f env with
  | none => rw [e1] at e; cases e
  | some p =>
    rw [e1, Option.bind_some] at e
    cases e2 : g p.1 with
    | none => rw [e2] at e; cases e
    | some w =>
      rw [e2] at e
      cases e
      exact ⟨F, pa, Z, env, p.1, p.2, W, e1, fun vs Z1 H1 g1 W1 q => hi Z1 H1 vs p.1 z Q W1.zh q e2 fun v Z2 H2 a q2 => k v Z2 H2 (g1.trans (a.gr W1.fh)) (W1.alc a) q2⟩
/-- ints -/
def intsOf : List D → Option (List Int)
  | [] => some []
  | .int i :: ds => (intsOf ds).map fun r => i :: r
  | _ => none
theorem intsOf_da {K : PySem.W.Frag} {Z : Hp} : ∀ {vs : List V} {ds : List D} {ns : List Int}, DpAll K Z vs ds → intsOf ds = some ns → vs = ns.map V.int
  | _, _, _, .nil, e => by cases e; rfl
  | _, _, ns, .cons (d := d) (ds := ds) h t, e => by
    cases d with
    | int i =>
      cases e1 : intsOf ds with
      | none => rw [intsOf, e1] at e; cases e
      | some r =>
        rw [intsOf, e1] at e; cases e
        cases h
        rw [List.map_cons, intsOf_da t e1]
    | _ => cases e
def boolsOf : List D → Option (List Bool)
  | [] => some []
  | .bool b :: ds => (boolsOf ds).map fun r => b :: r
  | _ => none
theorem boolsOf_da {K : PySem.W.Frag} {Z : Hp} : ∀ {vs : List V} {ds : List D} {bs : List Bool}, DpAll K Z vs ds → boolsOf ds = some bs → vs = bs.map V.bl
  | _, _, _, .nil, e => by cases e; rfl
  | _, _, ns, .cons (d := d) (ds := ds) h t, e => by
    cases d with
    | bool i =>
      cases e1 : boolsOf ds with
      | none => rw [boolsOf, e1] at e; cases e
      | some r =>
        rw [boolsOf, e1] at e; cases e
        cases h
        rw [List.map_cons, boolsOf_da t e1]
    | _ => cases e
section
variable {X : Cx} {e : Expr} {es : List Expr} {p pos : Pos} {x : Str}
theorem s_callB {id : String} {g : List D → Option D} {f : Fx (List D)} (hc : CallD X (.builtin id) g) (hg : Gl X x) (hm : X.mg x = none) (hv : bootBuiltins x = some (.builtin id)) (ha : PA X (e :: es) (tAd X.K f)) (hn : x ≠ "__name__") (hdb : (x == ("__debug__" : Str)) = false)
    (he : starEach (e :: es) X.env = (false, eval e X.env) :: starEach es X.env) (hpl : (backTo pos (starEach es X.env)).any (·.1) = false) : PE X (.Call (.Name x p) (e :: es) [] pos) (tE X.K (eBlt g f)) := by
  obtain ⟨r, h1, h2⟩ := hc
  exact PE.imp (pe_callB h1 hg hm hv ha hn hdb he hpl) fun σ H Q h => tCB_of h2 h
theorem s_callT {T : String} {g : List D → Option D} {f : Fx (List D)} (hc : CallD X (.type T) g) (hg : Gl X x) (hm : X.mg x = none) (hv : bootBuiltins x = some (.type T)) (ha : PA X (e :: es) (tAd X.K f)) (hn : x ≠ "__name__") (hdb : (x == ("__debug__" : Str)) = false)
    (he : starEach (e :: es) X.env = (false, eval e X.env) :: starEach es X.env) (hpl : (backTo pos (starEach es X.env)).any (·.1) = false) : PE X (.Call (.Name x p) (e :: es) [] pos) (tE X.K (eBlt g f)) := by
  obtain ⟨r, h1, h2⟩ := hc
  exact PE.imp (pe_callTy h1 hg hm hv ha hn hdb he hpl) fun σ H Q h => tCB_of h2 h
theorem s_callG {id : String} {g : List D → Option D} {f : Fx (List D)} (hc : CallD X (.builtin id) g) (hg : Gl X x) (hm : X.mg x = some (.builtin id)) (ha : PA X (e :: es) (tAd X.K f)) (hdb : (x == ("__debug__" : Str)) = false)
    (he : starEach (e :: es) X.env = (false, eval e X.env) :: starEach es X.env) (hpl : (backTo pos (starEach es X.env)).any (·.1) = false) : PE X (.Call (.Name x p) (e :: es) [] pos) (tE X.K (eBlt g f)) := by
  obtain ⟨r, h1, h2⟩ := hc
  exact PE.imp (pe_callBfun h1 hg hm ha hdb he hpl) fun σ H Q h => tCB_of h2 h
theorem c_len : CallD X (.builtin "len") gLen := ⟨_, call_len_seq.or call_len_str, by
  intro Z H vs ds z Q zh q hz k
  cases q with
  | nil => cases hz
  | @cons v vs d ds h1 h2 =>
    cases h2 with
    | cons => cases h1 <;> cases hz
    | nil =>
      cases h1 with
      | lst hs ha => cases hz; exact .inl ⟨_, _, rfl, .inl (zh.seq hs), by rw [da_length ha]; exact k _ Z H (.refl zh) (.int _)⟩
      | tup hs ha => cases hz; exact .inl ⟨_, _, rfl, .inr (Same.sqT zh hs), by rw [da_length ha]; exact k _ Z H (.refl zh) (.int _)⟩
      | str z =>
        have hz' : (if z.length ≤ sizeLine then some (PyData.int z.length) else none) = some _ := hz
        by_cases hl : z.length ≤ sizeLine
        · rw [if_pos hl] at hz'; cases hz'; exact .inr ⟨z, rfl, hl, k _ Z H (.refl zh) (.int _)⟩
        · rw [if_neg hl] at hz'; cases hz'
      | _ => cases hz⟩
theorem s_lenN {i : Nat} {y : Str} {np : Pos} (ho : PE X (.Name y np) (tVar i)) (hg : Gl X "len") (hm : X.mg "len" = none) (he : starEach [.Name y np] X.env = (false, eval (.Name y np) X.env) :: starEach [] X.env) : PE X (.Call (.Name "len" p) [.Name y np] [] pos) (tE X.K (eLenN i)) := by
  refine PE.imp (pe_callB (call_len_seq.or call_len_str) hg hm PySem.boot_len (pa_cons ho pa_nil he) (by decide) (by decide) he rfl) fun σ H Q ⟨F, pa, Z, env, d, env', W, e, k⟩ => ?_
  unfold eLenN at e
  split at e
  · rename_i ds e0
    cases e
    obtain ⟨o, eo, so⟩ := W.get e0
    cases so with
    | val dp => cases dp with
      | lst hs ha => exact ⟨_, eo, .inl ⟨_, _, rfl, .inl (W.zh.seq hs), by rw [da_length ha]; exact k _ Z H (.refl ..) W (.int _)⟩⟩
  · rename_i ds e0
    cases e
    obtain ⟨o, eo, so⟩ := W.get e0
    cases so with
    | val dp => cases dp with
      | tup hs ha => exact ⟨_, eo, .inl ⟨_, _, rfl, .inr (Same.sqT W.zh hs), by rw [da_length ha]; exact k _ Z H (.refl ..) W (.int _)⟩⟩
  · rename_i z e0
    by_cases hl : z.length ≤ sizeLine
    · rw [if_pos hl] at e
      cases e
      obtain ⟨o, eo, so⟩ := W.get e0
      cases so with
      | val dp => cases dp; exact ⟨_, eo, .inr ⟨z, rfl, hl, k _ Z H (.refl ..) W (.int _)⟩⟩
    · rw [if_neg hl] at e; cases e
  · rename_i ds e0
    cases e
    obtain ⟨o, eo, so⟩ := W.get e0
    cases so with
    | own h1 _ _ h4 => exact ⟨_, eo, .inl ⟨_, _, rfl, .inl (SqL.of h1), by rw [da_length h4]; exact k _ Z H (.refl ..) W (.int _)⟩⟩
  · rename_i ds e0
    cases e
    obtain ⟨o, eo, so⟩ := W.get e0
    cases so with
    | par _ h1 _ _ h4 => exact ⟨_, eo, .inl ⟨_, _, rfl, .inl (SqL.of h1), by rw [da_length h4]; exact k _ Z H (.refl ..) W (.int _)⟩⟩
  · cases e
/-! ### ints -/
def g1I (f : Int → D) : List D → Option D
  | [.int i] => some (f i)
  | _ => none
theorem one_int {K : PySem.W.Frag} {Z : Hp} {vs : List V} {ds : List D} {f : Int → D} {z : D} (q : DpAll K Z vs ds) (h : g1I f ds = some z) : ∃ i, vs = [.int i] ∧ z = f i := by
  unfold g1I at h
  split at h
  · rename_i i
    cases h
    cases q with
    | cons h1 h2 => cases h1; cases h2; exact ⟨i, rfl, rfl⟩
  · cases h
def g2I (c : Int → Int → Bool) (f : Int → Int → D) : List D → Option D
  | [.int i, .int j] => if c i j = true then some (f i j) else none
  | _ => none
theorem two_int {K : PySem.W.Frag} {Z : Hp} {vs : List V} {ds : List D} {c : Int → Int → Bool} {f : Int → Int → D} {z : D} (q : DpAll K Z vs ds) (h : g2I c f ds = some z) : ∃ i j, vs = [.int i, .int j] ∧ c i j = true ∧ z = f i j := by
  unfold g2I at h
  split at h
  · rename_i i j
    by_cases hc : c i j = true
    · rw [if_pos hc] at h
      cases h
      cases q with
      | cons h1 h2 =>
        cases h2 with
        | cons h3 h4 => cases h1; cases h3; cases h4; exact ⟨i, j, rfl, hc, rfl⟩
    · rw [if_neg hc] at h; cases h
  · cases h
def gAbs : List D → Option D := g1I fun i => .int (if i < 0 then -i else i)
theorem c_abs : CallD X (.builtin "abs") gAbs := ⟨_, call_abs, by
  intro Z H vs ds z Q zh q hz k
  obtain ⟨i, rfl, rfl⟩ := one_int q hz
  exact ⟨i, rfl, k _ Z H (.refl zh) (.int _)⟩⟩
def gInt : List D → Option D := g1I fun i => .int i
theorem c_int : CallD X (.type "int") gInt := ⟨_, call_int1, by
  intro Z H vs ds z Q zh q hz k
  obtain ⟨i, rfl, rfl⟩ := one_int q hz
  exact .inl ⟨i, rfl, k _ Z H (.refl zh) (.int _)⟩⟩
/-- str(x) of a number or a truth value -/
def gStr : List D → Option D
  | [.int i] => if i.natAbs.log2 < 1920 then some (.str (Str.ofString (toString i))) else none
  | [.bool b] => some (.str (if b then "True" else "False"))
  | _ => none
theorem cr_str : CallR X (.type "str") (fun vs H Q => (∃ i, vs = [.int i] ∧ i.natAbs.log2 < 1920 ∧ Q (.str (Str.ofString (toString i))) H) ∨ ∃ b, vs = [.bl b] ∧ Q (.str (if b then "True" else "False")) H) := by
  intro pins s σ H vs us Q I r h
  rcases h with h | ⟨b, rfl, q⟩
  · exact call_str_int pins s σ H vs us Q I r h
  · obtain ⟨u, rfl, r1⟩ := vals1 r
    cases r1
    exact PySem.P.str_of_bool ⟨.str _, H, I.tok _, ⟨_, rfl⟩, q⟩
theorem c_str : CallD X (.type "str") gStr := ⟨_, cr_str, by
  intro Z H vs ds z Q zh q hz k
  unfold gStr at hz
  split at hz
  · rename_i i
    split at hz
    · rename_i c
      cases hz
      cases q with
      | cons q1 q2 =>
        cases q1
        cases q2
        exact .inl ⟨i, rfl, c, k _ Z H (.refl zh) (.str _)⟩
    · cases hz
  · rename_i b
    cases hz
    cases q with
    | cons q1 q2 =>
      cases q1
      cases q2
      exact .inr ⟨b, rfl, k _ Z H (.refl zh) (.str _)⟩
  · cases hz⟩
def gMin2 : List D → Option D := g2I (fun _ _ => true) fun i j => .int (if j < i then j else i)
theorem c_min2 (hc : X.calm = true) : CallD X (.builtin "min") gMin2 := ⟨_, call_min2 hc, by
  intro Z H vs ds z Q zh q hz k
  obtain ⟨i, j, rfl, _, rfl⟩ := two_int q hz
  exact ⟨i, j, rfl, k _ Z H (.refl zh) (.int _)⟩⟩
def gMax2 : List D → Option D := g2I (fun _ _ => true) fun i j => .int (if j > i then j else i)
theorem c_max2 (hc : X.calm = true) : CallD X (.builtin "max") gMax2 := ⟨_, call_max2 hc, by
  intro Z H vs ds z Q zh q hz k
  obtain ⟨i, j, rfl, _, rfl⟩ := two_int q hz
  exact ⟨i, j, rfl, k _ Z H (.refl zh) (.int _)⟩⟩
def minL : List Int → Option Int
  | [] => none
  | n :: ns => some (ns.foldl min n)
def maxL : List Int → Option Int
  | [] => none
  | n :: ns => some (ns.foldl max n)
theorem foldl_min_le : ∀ (ns : List Int) (n : Int), ns.foldl min n ≤ n ∧ (∀ y ∈ ns, ns.foldl min n ≤ y) ∧ (ns.foldl min n = n ∨ ns.foldl min n ∈ ns)
  | [], n => ⟨Int.le_refl _, fun _ h => (by cases h), .inl rfl⟩
  | m :: ns, n => by
    obtain ⟨h1, h2, h3⟩ := foldl_min_le ns (min n m)
    rw [List.foldl_cons]
    refine ⟨by omega, fun y hy => ?_, ?_⟩
    · rcases List.mem_cons.mp hy with rfl | hy
      · omega
      · exact h2 y hy
    · rcases h3 with h | h
      · rw [h]
        by_cases q : n ≤ m
        · exact .inl (by omega)
        · exact .inr (by rw [show min n m = m by omega]; exact List.mem_cons_self ..)
      · exact .inr (List.mem_cons_of_mem _ h)
theorem foldl_max_le : ∀ (ns : List Int) (n : Int), n ≤ ns.foldl max n ∧ (∀ y ∈ ns, y ≤ ns.foldl max n) ∧ (ns.foldl max n = n ∨ ns.foldl max n ∈ ns)
  | [], n => ⟨Int.le_refl _, fun _ h => (by cases h), .inl rfl⟩
  | m :: ns, n => by
    obtain ⟨h1, h2, h3⟩ := foldl_max_le ns (max n m)
    rw [List.foldl_cons]
    refine ⟨by omega, fun y hy => ?_, ?_⟩
    · rcases List.mem_cons.mp hy with rfl | hy
      · omega
      · exact h2 y hy
    · rcases h3 with h | h
      · rw [h]
        by_cases q : m ≤ n
        · exact .inl (by omega)
        · exact .inr (by rw [show max n m = m by omega]; exact List.mem_cons_self ..)
      · exact .inr (List.mem_cons_of_mem _ h)
theorem minL_eq {ns : List Int} {m : Int} (h1 : m ∈ ns) (h2 : ∀ y ∈ ns, m ≤ y) : minL ns = some m := by
  cases ns with
  | nil => cases h1
  | cons n ns =>
    obtain ⟨a, b, c⟩ := foldl_min_le ns n
    have : ns.foldl min n = m := by
      have q1 : ns.foldl min n ≤ m := (List.mem_cons.mp h1).elim (fun e => by rw [e]; exact a) (b m)
      have q2 : m ≤ ns.foldl min n := c.elim (fun e => by rw [e]; exact h2 n (List.mem_cons_self ..)) fun e => h2 _ (List.mem_cons_of_mem _ e)
      omega
    rw [minL, this]
theorem maxL_eq {ns : List Int} {m : Int} (h1 : m ∈ ns) (h2 : ∀ y ∈ ns, y ≤ m) : maxL ns = some m := by
  cases ns with
  | nil => cases h1
  | cons n ns =>
    obtain ⟨a, b, c⟩ := foldl_max_le ns n
    have : ns.foldl max n = m := by
      have q1 : m ≤ ns.foldl max n := (List.mem_cons.mp h1).elim (fun e => by rw [e]; exact a) (b m)
      have q2 : ns.foldl max n ≤ m := c.elim (fun e => by rw [e]; exact h2 n (List.mem_cons_self ..)) fun e => h2 _ (List.mem_cons_of_mem _ e)
      omega
    rw [maxL, this]
def gL1 (f : List Int → Option D) : List D → Option D
  | [.list ds] => (intsOf ds).bind f
  | _ => none
theorem one_ints {K : PySem.W.Frag} {Z : Hp} {vs : List V} {ds : List D} {f : List Int → Option D} {z : D} (q : DpAll K Z vs ds) (h : gL1 f ds = some z) : ∃ a ns, vs = [.ref a] ∧ SqL K Z a (ns.map V.int) ∧ f ns = some z := by
  unfold gL1 at h
  split at h
  · rename_i ds
    cases e : intsOf ds with
    | none => rw [e] at h; cases h
    | some ns =>
      rw [e, Option.bind_some] at h
      cases q with
      | cons h1 h2 =>
        cases h2
        cases h1 with
        | @lst a us _ hs ha => exact ⟨a, ns, rfl, by rw [← intsOf_da ha e]; exact hs, h⟩
  · cases h
def gMinL : List D → Option D := gL1 fun ns => (minL ns).map fun n => .int n
theorem c_minL (hc : X.calm = true) : CallD X (.builtin "min") gMinL := ⟨_, cr_min hc, by
  intro Z H vs ds z Q zh q hz k
  obtain ⟨a, ns, rfl, hs, hf⟩ := one_ints q hz
  cases e : minL ns with
  | none => rw [e] at hf; cases hf
  | some n =>
    rw [e] at hf; cases hf
    refine ⟨a, ns, rfl, zh.seq hs, ?_, fun m h1 h2 => ?_⟩
    · cases ns with
      | nil => cases e
      | cons => simp
    · rw [minL_eq h1 h2] at e; cases e
      exact k _ Z H (.refl zh) (.int _)⟩
def gMaxL : List D → Option D := gL1 fun ns => (maxL ns).map fun n => .int n
theorem c_maxL (hc : X.calm = true) : CallD X (.builtin "max") gMaxL := ⟨_, cr_max hc, by
  intro Z H vs ds z Q zh q hz k
  obtain ⟨a, ns, rfl, hs, hf⟩ := one_ints q hz
  cases e : maxL ns with
  | none => rw [e] at hf; cases hf
  | some n =>
    rw [e] at hf; cases hf
    refine ⟨a, ns, rfl, zh.seq hs, ?_, fun m h1 h2 => ?_⟩
    · cases ns with
      | nil => cases e
      | cons => simp
    · rw [maxL_eq h1 h2] at e; cases e
      exact k _ Z H (.refl zh) (.int _)⟩
def gMin : List D → Option D
  | [a] => gMinL [a]
  | ds => gMin2 ds
def gMax : List D → Option D
  | [a] => gMaxL [a]
  | ds => gMax2 ds
theorem c_min (hc : X.calm = true) : CallD X (.builtin "min") gMin := (c_minL hc).or (c_min2 hc) fun x z h => by
  unfold gMin at h
  split at h
  · exact .inl h
  · exact .inr h
theorem c_max (hc : X.calm = true) : CallD X (.builtin "max") gMax := (c_maxL hc).or (c_max2 hc) fun x z h => by
  unfold gMax at h
  split at h
  · exact .inl h
  · exact .inr h
def gSum : List D → Option D := gL1 fun ns => some (.int ns.sum)
theorem c_sum (hc : X.calm = true) : CallD X (.builtin "sum") gSum := ⟨_, cr_sum hc, by
  intro Z H vs ds z Q zh q hz k
  obtain ⟨a, ns, rfl, hs, hf⟩ := one_ints q hz
  cases hf
  exact ⟨a, ns, rfl, zh.seq hs, k _ Z H (.refl zh) (.int _)⟩⟩
def gB1 (f : List Bool → D) : List D → Option D
  | [.list ds] => (boolsOf ds).map f
  | _ => none
theorem one_bools {K : PySem.W.Frag} {Z : Hp} {vs : List V} {ds : List D} {f : List Bool → D} {z : D} (q : DpAll K Z vs ds) (h : gB1 f ds = some z) : ∃ a bs, vs = [.ref a] ∧ SqL K Z a (bs.map V.bl) ∧ z = f bs := by
  unfold gB1 at h
  split at h
  · rename_i ds
    cases e : boolsOf ds with
    | none => rw [e] at h; cases h
    | some bs =>
      rw [e] at h; cases h
      cases q with
      | cons h1 h2 =>
        cases h2
        cases h1 with
        | @lst a us _ hs ha => exact ⟨a, bs, rfl, by rw [← boolsOf_da ha e]; exact hs, rfl⟩
  · cases h
def gAll : List D → Option D := gB1 fun bs => .bool (bs.all id)
def gAny : List D → Option D := gB1 fun bs => .bool (bs.any id)
theorem c_all (hc : X.calm = true) : CallD X (.builtin "all") gAll := ⟨_, cr_all hc, by
  intro Z H vs ds z Q zh q hz k
  obtain ⟨a, bs, rfl, hs, rfl⟩ := one_bools q hz
  exact ⟨a, bs, rfl, zh.seq hs, k _ Z H (.refl zh) (.bl _)⟩⟩
theorem c_any (hc : X.calm = true) : CallD X (.builtin "any") gAny := ⟨_, cr_any hc, by
  intro Z H vs ds z Q zh q hz k
  obtain ⟨a, bs, rfl, hs, rfl⟩ := one_bools q hz
  exact ⟨a, bs, rfl, zh.seq hs, k _ Z H (.refl zh) (.bl _)⟩⟩
def gDivmod : List D → Option D := g2I (fun _ j => decide (0 < j) && decide (j.natAbs.log2 < 9000)) fun i j => .tuple [.int (i / j), .int (i % j)]
theorem c_divmod : CallD X (.builtin "divmod") gDivmod := ⟨_, call_divmodW, by
  intro Z H vs ds z Q zh q hz k
  obtain ⟨i, j, rfl, hc, rfl⟩ := two_int q hz
  simp only [Bool.and_eq_true, decide_eq_true_eq] at hc
  refine ⟨i, j, rfl, ⟨hc.1, PyProof.noPylong_of_log2 hc.2⟩, fun p hp => ?_⟩
  have al := Alc.new (o := .tup [.int (i / j), .int (i % j)]) zh hp
  exact k _ _ _ al (.tup (SqT.of upd_same) (.cons (.int _) (.cons (.int _) .nil)))⟩
def gTuple : List D → Option D
  | [.list ds] => some (.tuple ds)
  | [.tuple ds] => some (.tuple ds)
  | _ => none
theorem c_tuple : CallD X (.type "tuple") gTuple := ⟨_, call_tuple_of, by
  intro Z H vs ds z Q zh q hz k
  unfold gTuple at hz
  split at hz
  · cases hz
    cases q with
    | cons h1 h2 =>
      cases h2
      cases h1 with
      | @lst a us _ hs ha =>
        refine ⟨a, us, rfl, .inl ⟨zh.seq hs, fun l hl => ?_⟩⟩
        have al := Alc.new (o := .tup us) zh hl
        exact k _ _ _ al (.tup (SqT.of upd_same) (DpAll.mono al.zz _ _ ha))
  · cases hz
    cases q with
    | cons h1 h2 =>
      cases h2
      cases h1 with
      | @tup a us _ hs ha => exact ⟨a, us, rfl, .inr ⟨Same.sqT zh hs, k _ Z H (.refl zh) (.tup hs ha)⟩⟩
  · cases hz⟩
def gGcd2 : List D → Option D := g2I (fun _ _ => true) fun i j => .int (Nat.gcd i.natAbs j.natAbs)
theorem c_gcd2 : CallD X (.builtin "math.gcd") gGcd2 := ⟨_, cr_gcd, by
  intro Z H vs ds z Q zh q hz k
  obtain ⟨i, j, rfl, _, rfl⟩ := two_int q hz
  exact ⟨i, j, rfl, k _ Z H (.refl zh) (.int _)⟩⟩
theorem args_gcd3 (a b c : Value) : argsOk "math.gcd" ⟨[a, b, c], []⟩ := by unfold argsOk; kernel_rfl
theorem run_gcd3 (a : Int) (t : Tok) (b : Int) (u : Tok) (c : Int) (v : Tok) :
    Gives (Builtin.«math.gcd» ⟨[.int a t, .int b u, .int c v], []⟩) (.int (((((Nat.gcd 0 a.natAbs).gcd b.natAbs).gcd c.natAbs : Nat) : Int))) :=
  .of_wp fun M A E s Q h => by obtain ⟨hp, g, d, tk, os⟩ := s; wp_walk; exact ⟨_, rfl, h⟩
def gcd3 (a b c : Int) : Nat := (a.natAbs.gcd b.natAbs).gcd c.natAbs
theorem cr_gcd3 : CallR X (.builtin "math.gcd") (fun vs H Q => ∃ a b c : Int, vs = [.int a, .int b, .int c] ∧ Q (.int ((gcd3 a b c : Nat) : Int)) H) := by
  intro pins s σ H vs us Q I r h
  obtain ⟨a, b, c, rfl, q⟩ := h
  cases r with
  | cons r1 rr =>
    cases rr with
    | cons r2 rr =>
      cases rr with
      | cons r3 rr =>
        cases rr
        obtain ⟨t, rfl⟩ := r1
        obtain ⟨u, rfl⟩ := r2
        obtain ⟨v, rfl⟩ := r3
        have g := run_gcd3 a t b u c v
        rw [Nat.gcd_zero_left] at g
        exact PySem.call_function_meets PySem.W.MGF.kind_gcd PySem.W.MGF.plain_gcd PySem.W.MGF.entry_gcd (args_gcd3 _ _ _) g.meets ⟨.int _, H, I.tok _, ⟨_, rfl⟩, q⟩
def gGcd3 : List D → Option D
  | [.int a, .int b, .int c] => some (.int (gcd3 a b c : Nat))
  | _ => none
theorem c_gcd3 : CallD X (.builtin "math.gcd") gGcd3 := ⟨_, cr_gcd3, by
  intro Z H vs ds z Q zh q hz k
  unfold gGcd3 at hz
  split at hz
  · cases hz
    cases q with
    | cons h1 h2 =>
      cases h2 with
      | cons h3 h4 =>
        cases h4 with
        | cons h5 h6 =>
          cases h6; cases h1; cases h3; cases h5
          exact ⟨_, _, _, rfl, k _ Z H (.refl zh) (.int _)⟩
  · cases hz⟩
def gGcd : List D → Option D
  | [.int a, .int b, .int c] => some (.int (gcd3 a b c : Nat))
  | ds => gGcd2 ds
theorem c_gcd : CallD X (.builtin "math.gcd") gGcd := c_gcd3.or c_gcd2 fun x z h => by
  unfold gGcd at h
  split at h
  · exact .inl h
  · exact .inr h
end
end Ev
namespace Ev
open PySem PySem.Spec PyProof.Rows L2
/-! ## ranges of great numbers -/
theorem turn_long {P : Program} {w : World} {K : PySem.W.Frag} {tg : Expr} (q : Addr) (lo : Int) (n : Nat) :
    Turn P w K tg (Itr lo n) [q] q (fun i h => IsLongIter h q (lo + (i : Nat) * 1) ((n : Int) - (i : Nat)) 1) where
  mem := List.mem_singleton.mpr rfl
  obj := fun i h st b hb => by
    cases List.mem_singleton.mp hb
    refine ⟨_, st, fun v z => ?_⟩
    have z2 : Data.fields _ = Data.cell v := z
    cases z2
  keep := fun i h h2 st k => k q (List.mem_singleton.mpr rfl) _ st
  item := by
    intro X hP hw hK hc i pins s σ H E I hf st hg
    subst hP hw hK
    obtain ⟨a0, a1, a2, a3, a4, a5⟩ := hf q (List.mem_singleton.mpr rfl)
    have wk := Walks.longrange (prog := X.prog) (w := X.w) (I.ok.hd hc) q lo 1 n
    refine wk.item i s _ _ hg st fun v h2 tk hv st2 kk => ?_
    obtain ⟨t, rfl⟩ := hv
    have I2 : Inv X pins σ H { s with heap := h2, toks := tk } := I.turned (fun b o hb e => kk b o (by simpa using hb) e) a0 a1 a3 a4 a5
    exact ⟨_, rfl, go_of (s := { s with heap := h2, toks := tk }) (n := "longrange_iterator") st2 rfl rfl (by decide) ⟨.int (lo + i), H, I2, ⟨t, by rw [Int.mul_one]⟩, ⟨rfl, rfl⟩, st2, fun b hb => (hf b hb).1⟩⟩
  done := by
    intro X hP hw hK hc i pins s σ H E I hf st hg
    subst hP hw hK
    obtain ⟨a0, a1, a2, a3, a4, a5⟩ := hf q (List.mem_singleton.mpr rfl)
    have hn : n ≤ i := hg
    exact wpAny_pyNext_long_end (I.ok.hd hc) st (by omega) fun h2 eb => ⟨rfl, I.turned (t' := s.toks) (fun b o hb e => eb b o hb e) a0 a1 a3 a4 a5⟩
  self := fun _ _ _ _ _ st h => wpAny_pyIter_longiter st h
def iRg (tr : L2.St → Hp → (Int → Int → Hp → Prop) → Prop) : TI := fun σ H R => tr σ H fun a b H1 => R (Itr a (b - a).toNat) H1
theorem pi_rg {X : Cx} {tg e : Expr} {tr : L2.St → Hp → (Int → Int → Hp → Prop) → Prop} (he : PRg X e tr) : PI X tg e (iRg tr) := by
  refine ⟨fun pins s σ H R I h => ?_⟩
  refine thn (he pins s σ H _ I h) fun u s1 hx => ?_
  obtain ⟨r, a, b, t, w1, v, H1, eu, hr, I1, q⟩ := hx
  subst eu
  have hn : Builtin.Range.rangeSize a b 1 = (((b - a).toNat : Nat) : Int) := rangeSize_nat a b
  cases hs : Builtin.Range.small a b 1 with
  | true =>
    refine wpAny_pyIter_range hr hs ?_
    refine pi_one (tk := s1.toks) I1 _ (turn_range _ a (b - a).toNat) ?_ q
    rw [hn]
    show IsRangeIter _ _ (a + ((0 : Nat) : Int) * 1) ((((b - a).toNat : Nat) : Int) - ((0 : Nat) : Int)) 1
    rw [show a + ((0 : Nat) : Int) * 1 = a by omega, show (((b - a).toNat : Nat) : Int) - ((0 : Nat) : Int) = (((b - a).toNat : Nat) : Int) by omega]
    exact Heap.get?_push_size _ rfl
  | false =>
    refine wpAny_pyIter_longrange hr hs ?_
    refine pi_one (tk := s1.toks) I1 _ (turn_long _ a (b - a).toNat) ?_ q
    rw [hn]
    show IsLongIter _ _ (a + ((0 : Nat) : Int) * 1) ((((b - a).toNat : Nat) : Int) - ((0 : Nat) : Int)) 1
    rw [show a + ((0 : Nat) : Int) * 1 = a by omega, show (((b - a).toNat : Nat) : Int) - ((0 : Nat) : Int) = (((b - a).toNat : Nat) : Int) by omega]
    exact Heap.get?_push_size _ rfl
end Ev
namespace PySem
section
variable {prog : Program} {w : World} {A : Around} {E : Value → Shared → Prop} {s : Shared}
/-- a list takes up a range of great numbers -/
theorem ev_extend_long {R : Result → Shared → Prop} {g : Addr} {x y z : Int} {t1 t2 t3 : Tok} {k : Nat} (hA : A.handled = none) (hg : IsRange s.heap g x y z t1 t2 t3) (hb : Builtin.Range.small x y z = false)
    (hk : Builtin.Range.rangeSize x y z = k) (hm : k ≤ 2 ^ 24) (L : Addr) (res : Value) (c0 : Nat) (hL : s.heap.get? L = some { cls := .type "list", data := .seq #[] c0 })
    (hR : ∀ h2 tk acc c2, (∀ b o, b ≠ L → s.heap.get? b = some o → h2.get? b = some o) → h2.get? L = some { cls := .type "list", dict := none, data := .seq acc c2, slots := #[] } → ItemsOf (fun i v => ∃ t, v = .int (x + i * z) t) acc k → R (.ok (.ret res)) { s with heap := h2, toks := tk }) :
    wpAny (model prog w) A.in1 (Builtin.List.listExtendWith (.ref L) (.ref g) res) (fun fin s2 => match fin with | .done f => R (.ok f) s2 | .again c => c.quiet = true ∧ codeAny (model prog w) A c R s2) (fun e s2 => R (.error e) s2) s := by
  have ne1 : L ≠ g := fun e => by rw [e, hg] at hL; simp at hL
  have lt1 : L < s.heap.objs.size := Heap.lt_size hL
  have ne2 : L ≠ s.heap.objs.size := Nat.ne_of_lt lt1
  have nm : L ∉ [s.heap.objs.size] := fun q => ne2 (List.mem_singleton.mp q)
  have wk := (Walks.longrange (prog := prog) (w := w) (A := A.in1) hA s.heap.objs.size x z k).toS
  have key : ∀ (h : Heap) (c1 tk : Nat), IsLongIter h s.heap.objs.size (x + ((0 : Nat) : Int) * z) ((k : Int) - ((0 : Nat) : Int)) z → (∀ b o, b ≠ L → s.heap.get? b = some o → h.get? b = some o) → h.get? L = some { cls := .type "list", data := .seq #[] c1 } →
      codeAny (model prog w) A (.builtin "list.extend.loop" ⟨[.ref L, .ref s.heap.objs.size, res], []⟩) R { s with heap := h, toks := tk } := by
    intro h c1 tk it kp h1
    refine codeAny_extend_loopS wk (by rw [sizeLine_eq]; omega) L nm res k 0 _ #[] c1 rfl (Nat.zero_le _) it h1 (ItemsOf.nil _) fun s2 acc c2 mv h3 ha => ?_
    rw [Moved.eq_with mv]
    refine hR s2.heap s2.toks acc c2 (fun b o nb e => mv.heap b o (fun q => ?_) (kp b o nb e)) h3 ha
    rcases List.mem_cons.mp q with q2 | q2
    · exact nb q2
    · exact absurd (Heap.lt_size e) (by rw [List.mem_singleton.mp q2]; exact Nat.lt_irrefl _)
  unfold Builtin.List.listExtendWith
  refine wpAny_bind (wpAny_typeOf (T := "range") ⟨_, hg, rfl⟩ ?_)
  have d1 : Builtin.List.listSameRef (.ref L) (.ref g) = false := by simp [Builtin.List.listSameRef, ne1]
  have d2 : (Value.type "range" == Value.type "list") = false ∧ (Value.type "range" == Value.type "tuple") = false := ⟨by decide, by decide⟩
  simp only [d1, d2.1, d2.2, Bool.or_false, Bool.false_eq_true, if_false]
  refine wpAny_bind (wpAny_pyIter_longrange hg hb ?_)
  refine wpAny_bind (wpAny_holding (wpAny_hint_range (n := k) (Heap.get?_push_of_some _ hg) hk hm ?_))
  have i1 : IsLongIter (s.heap.push { cls := .type "longrange_iterator", data := .fields #[rawInt x, rawInt (Builtin.Range.rangeSize x y z), rawInt z] }) s.heap.objs.size (x + ((0 : Nat) : Int) * z) ((k : Int) - ((0 : Nat) : Int)) z := by
    show IsLongIter _ _ _ _ _
    rw [hk]
    simpa using Heap.get?_push_size _ rfl
  have g1 := Heap.get?_push_of_some { cls := .type "longrange_iterator", data := .fields #[rawInt x, rawInt (Builtin.Range.rangeSize x y z), rawInt z] } hL
  refine wpAny_ite_split (fun _ => ?_) (fun _ => wpAny_pure ⟨plainId_quiet F.plain_extend_loop _, key _ c0 _ i1 (fun b o _ e => Heap.get?_push_of_some _ e) g1⟩)
  refine wpAny_bind (wpAny_rule (wpAny_bind ?_))
  show wpAny _ _ (updateSeq L (·.push .none) >>= fun _ => updateSeq L (·.pop)) _ _ _
  refine wpAny_bind (wpAny_updateSeq g1 rfl ?_)
  have g2 := Heap.get?_update_self (Obj.mapSeq (·.push Value.none)) g1 rfl
  refine wpAny_updateSeq (hz := by seq_fits) g2 rfl ?_
  have g3 := Heap.get?_update_self (Obj.mapSeq (·.pop)) g2 rfl
  refine wpAny_pure ⟨plainId_quiet F.plain_extend_loop _, key _ _ _ ?_ (fun b o nb e => ?_) g3⟩
  · exact (Heap.get?_update_other _ _ ne2).trans ((Heap.get?_update_other _ _ ne2).trans i1)
  · exact (Heap.get?_update_other _ _ (Ne.symm nb)).trans ((Heap.get?_update_other _ _ (Ne.symm nb)).trans (Heap.get?_push_of_some _ e))
theorem ev_init_long {R : Result → Shared → Prop} {g : Addr} {x y z : Int} {t1 t2 t3 : Tok} {k : Nat} (hA : A.handled = none) (hg : IsRange s.heap g x y z t1 t2 t3) (hb : Builtin.Range.small x y z = false)
    (hk : Builtin.Range.rangeSize x y z = k) (hm : k ≤ 2 ^ 24) (L : Addr) (hL : s.heap.get? L = some { cls := .type "list", data := .seq #[] })
    (hR : ∀ h2 tk acc c2, (∀ b o, b ≠ L → s.heap.get? b = some o → h2.get? b = some o) → h2.get? L = some { cls := .type "list", dict := none, data := .seq acc c2, slots := #[] } → ItemsOf (fun i v => ∃ t, v = .int (x + i * z) t) acc k → R (.ok (.ret .none)) { s with heap := h2, toks := tk }) :
    wpAny (model prog w) A.in1 (Builtin.«list.__init__» ⟨[.ref L, .ref g], []⟩) (fun fin s2 => match fin with | .done f => R (.ok f) s2 | .again c => c.quiet = true ∧ codeAny (model prog w) A c R s2) (fun e s2 => R (.error e) s2) s := by
  have ne1 : L ≠ g := fun e => by rw [e, hg] at hL; simp at hL
  show wpAny _ _ (do let was ← Builtin.List.listItems (.ref L); Builtin.List.listUpdate (.ref L) (fun _ => #[]); letGo was.toList.reverse; Builtin.List.listExtendWith (.ref L) (.ref g) .none) _ _ s
  refine wpAny_bind ?_
  unfold Builtin.List.listItems
  refine wpAny_bind (wpAny_seqItems hL rfl (wpAny_pure ?_))
  show wpAny _ _ (updateSeq L (fun _ => #[]) >>= fun _ => letGo (#[] : Array Value).toList.reverse >>= fun _ => Builtin.List.listExtendWith (.ref L) (.ref g) .none) _ _ s
  refine wpAny_bind (wpAny_updateSeq hL rfl ?_)
  have g2 := Heap.get?_update_self (Obj.mapSeq (fun _ => (#[] : Array Value))) hL rfl
  have oth : ∀ b o, b ≠ L → s.heap.get? b = some o → (s.heap.update L (Obj.mapSeq (fun _ => (#[] : Array Value)))).get? b = some o := fun b o nb e => (Heap.get?_update_other _ _ (Ne.symm nb)).trans e
  refine wpAny_bind (wpAny_letGo ?_)
  refine ev_extend_long hA (oth g _ (Ne.symm ne1) hg) hb hk hm L .none _ g2 fun h2 tk acc c2 kp h3 ha => ?_
  exact hR h2 tk acc c2 (fun b o nb e => kp b o nb (oth b o nb e)) h3 ha
end
section
variable {prog : Program} {w : World} {A : Around} {E : Value → Shared → Prop} {s : Shared}
theorem ev_list_long {Q : Value → Shared → Prop} {g : Addr} {x y z : Int} {t1 t2 t3 : Tok} {k : Nat} (hA : A.handled = none) (hg : IsRange s.heap g x y z t1 t2 t3) (hb : Builtin.Range.small x y z = false)
    (hk : Builtin.Range.rangeSize x y z = k) (hm : k ≤ 2 ^ 24)
    (hQ : ∀ h2 tk acc c2, (∀ b o, s.heap.get? b = some o → h2.get? b = some o) → h2.get? s.heap.objs.size = some { cls := .type "list", dict := none, data := .seq acc c2, slots := #[] } → ItemsOf (fun i v => ∃ t, v = .int (x + i * z) t) acc k → Q (.ref s.heap.objs.size) { s with heap := h2, toks := tk }) :
    wpAny (model prog w) A (call (.type "list") [.ref g]) Q E s := by
  refine callType_codes (Q₁ := fun obj s1 => obj = .ref s.heap.objs.size ∧ s1 = { s with heap := s.heap.push { cls := .type "list", data := .seq #[] } }) F.called_list (F.typeCall_list_1 _) F.entry_list_init (code_list_new _ ⟨rfl, rfl⟩) fun obj s1 h1 => ?_
  obtain ⟨rfl, rfl⟩ := h1
  have hL : (s.heap.push { cls := .type "list", data := .seq #[] }).get? s.heap.objs.size = some { cls := .type "list", data := .seq #[] } := Heap.get?_push_size _ rfl
  refine ⟨⟨_, hL, rfl⟩, F.args_list_init_2 _ _, ev_init_long (A := A.in1) hA (Heap.get?_push_of_some _ hg) hb hk hm _ hL fun h2 tk acc c2 kp h3 ha => ?_⟩
  exact ⟨rfl, hQ h2 tk acc c2 (fun b o e => kp b o (Nat.ne_of_lt (Heap.lt_size e)) (Heap.get?_push_of_some _ e)) h3 ha⟩
end
end PySem
namespace Ev
open PySem PySem.Spec PyProof.Rows L2
/-- a list of a range, of numbers of any size -/
def tLr (te : L2.St → Hp → (Int → Int → Hp → Prop) → Prop) : TE := fun σ H Q => te σ H fun a b H1 => (b - a).toNat ≤ 2 ^ 24 ∧ ∀ q, H1 q = none → Q (.ref q) (upd H1 q (.lst (rgV a b)))
theorem pe_lr {X : Cx} {e : Expr} {te : L2.St → Hp → (Int → Int → Hp → Prop) → Prop} {p pos : Pos} (hc : X.calm = true) (hg : Gl X "list") (hm : X.mg "list" = none) (he : PRg X e te) (na : starEach [e] X.env = (false, eval e X.env) :: starEach [] X.env) : PE X (.Call (.Name "list" p) [e] [] pos) (tLr te) := by
  refine ⟨fun pins s σ H Q I h => ?_⟩
  refine Call_ (ld_blt I hg hm boot_list (PyProof.Rows.callWith_type1 (args_cons (thn (he pins s σ H _ I h) fun x s1 hx => args_nil ?_) na) na))
  obtain ⟨r, a, b, t, u, v, H1, ex, hr, I1, ok, q⟩ := hx
  subst ex
  have fin : ∀ (h2 : Heap) (tk : Nat) (acc : Array Value) (c2 : Nat), (∀ b o, s1.heap.get? b = some o → h2.get? b = some o) → h2.get? s1.heap.objs.size = some { cls := .type "list", dict := none, data := .seq acc c2, slots := #[] } → ItemsOf (fun i v => ∃ t, v = .int (a + i * 1) t) acc (b - a).toNat →
      EP X pins σ Q (.ref s1.heap.objs.size) { s1 with heap := h2, toks := tk } := fun h2 tk acc c2 kp e2 hi => by
    refine ⟨.ref s1.heap.objs.size, upd H1 s1.heap.objs.size (.lst (rgV a b)), I1.laid kp (Nat.le_refl _) (show ObjOk X.prog X.w _ _ _ (.lst (rgV a b)) from ⟨?_, acc.toList, c2, vals_rg hi, ?_⟩), rfl, q _ (I1.hok.fresh (Nat.le_refl _))⟩
    · rw [rgV_length, sizeLine_eq]; omega
    · rw [Array.toArray_toList]; exact e2
  cases hs : Builtin.Range.small a b 1 with
  | true => exact call_list_range (n := (b - a).toNat) (I1.ok.hd hc) hr hs (rangeSize_nat a b) ok fin
  | false => exact ev_list_long (k := (b - a).toNat) (I1.ok.hd hc) hr hs (rangeSize_nat a b) ok fin
end Ev
/-! zip of a tuple and a list -/
namespace Ev
open PySem PySem.Spec PyProof.Rows L2 RZ
open PySem.Sem (wp)
section
variable {prog : Program} {w : World} {A : Around} {E : Value → Shared → Prop} {s : Shared}
theorem zipM_item {z TI TO i1 i2 l1 l2 : Addr} {k1 k2 : Nat} {xs ys : Array Value} {x y a b : Value} {Q : Value → Shared → Prop} (D : ZipApart z TI TO i1 i2 l1 l2)
    (hz : IsZip s.heap z TI TO .none) (hTI : IsPair s.heap TI (.ref i1) (.ref i2)) (hTO : IsPair s.heap TO a b)
    (h1 : s.heap.IsTupleIter i1 l1 k1) (h2 : s.heap.IsListIter i2 l2 k2) (hl1 : s.heap.IsTuple l1 xs) (hl2 : s.heap.IsList l2 ys) (hx : xs[k1]? = some x) (hy : ys[k2]? = some y)
    (hQ : ∀ h', IsZip h' z TI TO (rawInt s.heap.objs.size) → IsPair h' TO x y → h'.IsTupleIter i1 l1 (k1 + 1) → h'.IsListIter i2 l2 (k2 + 1) → IsPair h' s.heap.objs.size x y → h'.objs.size = s.heap.objs.size + 1 →
      (∀ c o, c ≠ z → c ≠ TO → c ≠ i1 → c ≠ i2 → s.heap.get? c = some o → h'.get? c = some o) → Q (.ref s.heap.objs.size) { s with heap := h' }) :
    wpAny (model prog w) A (Builtin.«zip.__next__» ⟨[.ref z], []⟩) (fun fin s' => ∃ v, fin = .done (.ret v) ∧ Q v s') E s := by
  show wpAny _ _ (field (.ref z) 2 >>= _) _ _ _
  refine wpAny_bind (wpAny_field hz rfl (x := .bool false) rfl ?_)
  show wpAny _ _ (field (.ref z) 3 >>= _) _ _ _
  refine wpAny_bind (wpAny_field hz rfl (x := .ref TI) rfl (wpAny_bind (wpAny_seqItems hTI rfl ?_)))
  show wpAny _ _ (Builtin.SmallTypes.ownedTupleIsFree (.ref z) >>= _) _ _ _
  refine wpAny_bind ?_
  unfold Builtin.SmallTypes.ownedTupleIsFree
  refine wpAny_bind (wpAny_field hz rfl (x := .none) rfl (wpAny_pure ?_))
  simp only [if_true]
  refine wpAny_bind (wpAny_rule (wpAny_bind (wpAny_field hz rfl (x := .ref TO) rfl (wpAny_bind (wpAny_setField_rec hz (by simp) fun ha za ea => ?_)))))
  have za : IsZip ha z TI TO .ellipsis := za
  refine wpAny_bind ?_
  simp only [List.zipIdx_cons, List.zipIdx_nil, List.forIn_cons, List.forIn_nil]
  refine wpAny_bind (wpAny_bind (wpAny_onRaise ?_))
  show wpAny _ _ (Builtin.SmallTypes.nextOf (.ref i1) >>= _) _ _ _
  refine wpAny_bind (nextOf_tuple_item (h1.extBut ea.extBut D.i1z) (hl1.extBut ea.extBut D.l1z) hx fun hb ib eb => wpAny_pure ?_)
  have Tb : IsPair hb TO a b := eb.extBut _ _ D.TOi1 (ea.extBut _ _ D.TOz hTO)
  refine wpAny_bind (wpAny_seqItems Tb rfl (wpAny_bind (wpAny_updateSeq_pair Tb fun hc Tc ec => ?_)))
  have Tc : IsPair hc TO x b := Tc
  refine wpAny_bind (wpAny_letGo (wpAny_pure ?_))
  refine wpAny_bind (wpAny_bind (wpAny_onRaise ?_))
  show wpAny _ _ (Builtin.SmallTypes.nextOf (.ref i2) >>= _) _ _ _
  refine wpAny_bind (wpAny_nextOf_list_item (((h2.extBut ea.extBut D.i2z).extBut eb.extBut D.i12.symm).extBut ec.extBut D.TOi2.symm)
    (((hl2.extBut ea.extBut D.l2z).extBut eb.extBut D.l2i1).extBut ec.extBut D.l2TO) hy fun hd jd ed => wpAny_pure ?_)
  have Td : IsPair hd TO x b := ed.extBut _ _ D.TOi2 Tc
  refine wpAny_bind (wpAny_seqItems Td rfl (wpAny_bind (wpAny_updateSeq_pair Td fun he Te ee => ?_)))
  have Te : IsPair he TO x y := Te
  refine wpAny_bind (wpAny_letGo (wpAny_pure (wpAny_pure ?_)))
  refine wpAny_bind (wpAny_seqItems Te rfl (wpAny_bind (wpAny_newTuple ?_)))
  have sz : he.objs.size = s.heap.objs.size := by rw [ee.1, ed.1, ec.1, eb.1, ea.1]
  have ze : IsZip he z TI TO .ellipsis := ee.extBut _ _ D.TOz.symm (ed.extBut _ _ D.i2z.symm (ec.extBut _ _ D.TOz.symm (eb.extBut _ _ D.i1z.symm za)))
  have keep : ∀ c o, c ≠ z → c ≠ TO → c ≠ i1 → c ≠ i2 → s.heap.get? c = some o → he.get? c = some o := fun c o c1 c2 c3 c4 e =>
    ee.extBut _ _ c2 (ed.extBut _ _ c4 (ec.extBut _ _ c2 (eb.extBut _ _ c3 (ea.extBut _ _ c1 e))))
  have ie : he.IsTupleIter i1 l1 (k1 + 1) := ((ib.extBut ec.extBut D.TOi1.symm).extBut ed.extBut D.i12).extBut ee.extBut D.TOi1.symm
  have je : he.IsListIter i2 l2 (k2 + 1) := jd.extBut ee.extBut D.TOi2.symm
  have zl : z < he.objs.size := Heap.lt_size ze
  show wpAny _ _ (Builtin.SmallTypes.ownedTupleHandOut (.ref z) (.ref he.objs.size) >>= _) _ _ _
  refine wpAny_bind ?_
  unfold Builtin.SmallTypes.ownedTupleHandOut
  have zf : IsZip (he.push { cls := .type "tuple", data := .seq #[x, y] }) z TI TO .ellipsis := Heap.get?_push_of_some _ ze
  refine wpAny_bind (wpAny_setField_rec zf (by simp) fun hg zg eg => ?_)
  have zg : IsZip hg z TI TO (rawInt he.objs.size) := zg
  refine wpAny_setField_rec zg (by simp) fun hk zk ek => ?_
  have zk : IsZip hk z TI TO (rawInt he.objs.size) := zk
  have up : ∀ c o, c ≠ z → he.get? c = some o → hk.get? c = some o := fun c o c1 e => ek.extBut _ _ c1 (eg.extBut _ _ c1 (Heap.get?_push_of_some _ e))
  have tk : IsPair hk he.objs.size x y := ek.extBut _ _ (Nat.ne_of_gt zl) (eg.extBut _ _ (Nat.ne_of_gt zl) (Heap.get?_push_size _ rfl))
  have sk : hk.objs.size = he.objs.size + 1 := by rw [ek.1, eg.1, Heap.size_push]
  rw [sz] at zk tk sk
  refine wpAny_pure ⟨_, rfl, ?_⟩
  show Q (.ref he.objs.size) _
  rw [sz]
  exact hQ hk zk (up _ _ D.TOz Te) (ie.at fun o e => up _ o D.i1z e) (je.at fun o e => up _ o D.i2z e) tk sk fun c o c1 c2 c3 c4 e => up c o c1 (keep c o c1 c2 c3 c4 e)
theorem zipM_end {z TI TO i1 i2 l1 l2 : Addr} {k1 k2 : Nat} {xs ys : Array Value} {a b : Value} {Q : Fin → Shared → Prop} (hh : A.handled = none) (D : ZipApart z TI TO i1 i2 l1 l2)
    (hz : IsZip s.heap z TI TO .none) (hTI : IsPair s.heap TI (.ref i1) (.ref i2)) (hTO : IsPair s.heap TO a b)
    (h1 : s.heap.IsTupleIter i1 l1 k1) (h2 : s.heap.IsListIter i2 l2 k2) (hl1 : s.heap.IsTuple l1 xs) (hl2 : s.heap.IsList l2 ys) (hend : xs[k1]? = none ∨ ys[k2]? = none)
    (hE : ∀ h' e, (∀ c o, c ≠ z → c ≠ TO → c ≠ i1 → c ≠ i2 → s.heap.get? c = some o → h'.get? c = some o) → (∃ o, h'.get? e = some o ∧ o.cls = .type "StopIteration") → E (.ref e) { s with heap := h' }) :
    wpAny (model prog w) A (Builtin.«zip.__next__» ⟨[.ref z], []⟩) Q E s := by
  show wpAny _ _ (field (.ref z) 2 >>= _) _ _ _
  refine wpAny_bind (wpAny_field hz rfl (x := .bool false) rfl ?_)
  show wpAny _ _ (field (.ref z) 3 >>= _) _ _ _
  refine wpAny_bind (wpAny_field hz rfl (x := .ref TI) rfl (wpAny_bind (wpAny_seqItems hTI rfl ?_)))
  show wpAny _ _ (Builtin.SmallTypes.ownedTupleIsFree (.ref z) >>= _) _ _ _
  refine wpAny_bind ?_
  unfold Builtin.SmallTypes.ownedTupleIsFree
  refine wpAny_bind (wpAny_field hz rfl (x := .none) rfl (wpAny_pure ?_))
  simp only [if_true]
  refine wpAny_bind (wpAny_rule (wpAny_bind (wpAny_field hz rfl (x := .ref TO) rfl (wpAny_bind (wpAny_setField_rec hz (by simp) fun ha za ea => ?_)))))
  have za : IsZip ha z TI TO .ellipsis := za
  refine wpAny_bind ?_
  simp only [List.zipIdx_cons, List.zipIdx_nil, List.forIn_cons, List.forIn_nil]
  refine wpAny_bind (wpAny_bind (wpAny_onRaise ?_))
  show wpAny _ _ (Builtin.SmallTypes.nextOf (.ref i1) >>= _) _ _ _
  cases hx : xs[k1]? with
  | none =>
    refine wpAny_bind (nextOf_tuple_end hh (h1.extBut ea.extBut D.i1z) (hl1.extBut ea.extBut D.l1z) hx fun hb e eb st => ?_)
    obtain ⟨oe, hoe, hce⟩ := st
    have zb : IsZip hb z TI TO .ellipsis := eb _ _ D.i1z.symm za
    have ne : e ≠ z := fun q => by subst q; rw [zb] at hoe; cases hoe; simp at hce
    exact wpAny_setField_rec zb (by simp) fun hc _ ec => hE hc e (fun c o c1 _ c3 _ q => ec.extBut _ _ c1 (eb _ _ c3 (ea.extBut _ _ c1 q))) ⟨oe, ec.extBut _ _ ne hoe, hce⟩
  | some x =>
    have hy : ys[k2]? = none := hend.resolve_left fun q => by rw [hx] at q; cases q
    refine wpAny_bind (nextOf_tuple_item (h1.extBut ea.extBut D.i1z) (hl1.extBut ea.extBut D.l1z) hx fun hb ib eb => wpAny_pure ?_)
    have Tb : IsPair hb TO a b := eb.extBut _ _ D.TOi1 (ea.extBut _ _ D.TOz hTO)
    refine wpAny_bind (wpAny_seqItems Tb rfl (wpAny_bind (wpAny_updateSeq_pair Tb fun hc Tc ec => ?_)))
    refine wpAny_bind (wpAny_letGo (wpAny_pure ?_))
    refine wpAny_bind (wpAny_bind (wpAny_onRaise ?_))
    show wpAny _ _ (Builtin.SmallTypes.nextOf (.ref i2) >>= _) _ _ _
    refine wpAny_bind (wpAny_nextOf_list_end hh (((h2.extBut ea.extBut D.i2z).extBut eb.extBut D.i12.symm).extBut ec.extBut D.TOi2.symm)
      (((hl2.extBut ea.extBut D.l2z).extBut eb.extBut D.l2i1).extBut ec.extBut D.l2TO) hy fun hd e ed st => ?_)
    obtain ⟨oe, hoe, hce⟩ := st
    have zd : IsZip hd z TI TO .ellipsis := ed _ _ D.i2z.symm (ec.extBut _ _ D.TOz.symm (eb.extBut _ _ D.i1z.symm za))
    have ne : e ≠ z := fun q => by subst q; rw [zd] at hoe; cases hoe; simp at hce
    exact wpAny_setField_rec zd (by simp) fun hf _ ef => hE hf e (fun c o c1 c2 c3 c4 q => ef.extBut _ _ c1 (ed _ _ c4 (ec.extBut _ _ c2 (eb.extBut _ _ c3 (ea.extBut _ _ c1 q))))) ⟨oe, ef.extBut _ _ ne hoe, hce⟩
end
/-- the heap behind zip(tuple, list) -/
abbrev zmA (h : Heap) (l1 : Addr) : Heap := h.push { cls := .type "tuple_iterator", data := .fields #[.ref l1, .int 0 0] }
abbrev zmB (h : Heap) (l1 l2 : Addr) : Heap := (zmA h l1).push { cls := .type "list_iterator", data := .fields #[.ref l2, .int 0 0] }
abbrev zmC (h : Heap) (l1 l2 : Addr) : Heap := (zmB h l1 l2).push { cls := .type "tuple", data := .seq #[.ref h.objs.size, .ref (zmA h l1).objs.size] }
abbrev zmD (h : Heap) (l1 l2 : Addr) : Heap := (zmC h l1 l2).push { cls := .type "tuple", data := .seq #[.none, .none] }
abbrev zmE (h : Heap) (l1 l2 : Addr) : Heap := (zmD h l1 l2).push { cls := .type "zip", data := .fields #[.none, .bool false, .bool false, .ref (zmB h l1 l2).objs.size, .ref (zmC h l1 l2).objs.size] }
theorem meets_zipM (l1 l2 : Addr) (xs ys : Array Value) :
    Meets (Builtin.«zip.__new__» ⟨[.type "zip", .ref l1, .ref l2], []⟩) (fun _ R s => s.heap.IsTuple l1 xs ∧ s.heap.IsList l2 ys ∧
      R (.ok (.ret (.ref (zmD s.heap l1 l2).objs.size))) { s with heap := zmE s.heap l1 l2 }) :=
  .of_wp fun prog w A R s h => by
    obtain ⟨hp, g, d, tk, os⟩ := s; obtain ⟨hl1, hl2, h⟩ := h
    have hsub := sub_zip
    have hL1 : Heap.IsTuple (Shared.heap ⟨hp, g, d, tk, os⟩) l1 xs := hl1
    have hL2 : Heap.IsList (Shared.heap ⟨hp.push { cls := .type "tuple_iterator", data := .fields #[.ref l1, .int 0 0] }, g, d, tk, os⟩) l2 ys := Heap.IsList.push hl2 _
    wp_walk using wpAny_pyIter_tuple hL1, wpAny_pyIter_list hL2
    exact ⟨_, rfl, h⟩
section
variable {prog : Program} {w : World} {A : Around} {E : Value → Shared → Prop} {s : Shared}
theorem call_zipM {l1 l2 : Addr} {xs ys : Array Value} {Q : Value → Shared → Prop} (hl1 : s.heap.IsTuple l1 xs) (hl2 : s.heap.IsList l2 ys)
    (h : ∀ h', IsZip h' (s.heap.objs.size + 4) (s.heap.objs.size + 2) (s.heap.objs.size + 3) .none → IsPair h' (s.heap.objs.size + 2) (.ref s.heap.objs.size) (.ref (s.heap.objs.size + 1)) →
      IsPair h' (s.heap.objs.size + 3) .none .none → h'.IsTupleIter s.heap.objs.size l1 0 → h'.IsListIter (s.heap.objs.size + 1) l2 0 → h'.objs.size = s.heap.objs.size + 5 →
      (∀ c o, s.heap.get? c = some o → h'.get? c = some o) → Q (.ref (s.heap.objs.size + 4)) { s with heap := h' }) :
    wpAny (model prog w) A (call (.type "zip") [.ref l1, .ref l2]) Q E s := by
  refine callType_new F.called_zip (by decide) (F.typeCall_zip_2 _ _) (F.newCall_zip_2 _ _) (fun obj => F.args_object_init_3 obj _ _) F.entry_zip_new
    (meets_zipM l1 l2 xs ys) ⟨hl1, hl2, ?_⟩
  have z1 : (zmA s.heap l1).objs.size = s.heap.objs.size + 1 := Heap.size_push ..
  have z2 : (zmB s.heap l1 l2).objs.size = s.heap.objs.size + 2 := (Heap.size_push ..).trans (by rw [z1])
  have z3 : (zmC s.heap l1 l2).objs.size = s.heap.objs.size + 3 := (Heap.size_push ..).trans (by rw [z2])
  have z4 : (zmD s.heap l1 l2).objs.size = s.heap.objs.size + 4 := (Heap.size_push ..).trans (by rw [z3])
  have z5 : (zmE s.heap l1 l2).objs.size = s.heap.objs.size + 5 := (Heap.size_push ..).trans (by rw [z4])
  have u : ∀ {h : Heap} {o o' : Obj} {c : Addr}, h.get? c = some o → (h.push o').get? c = some o := fun e => Heap.get?_push_of_some _ e
  have g5 : (zmE s.heap l1 l2).get? (zmD s.heap l1 l2).objs.size = some { cls := .type "zip", data := .fields #[.none, .bool false, .bool false, .ref (zmB s.heap l1 l2).objs.size, .ref (zmC s.heap l1 l2).objs.size] } := Heap.get?_push_size _ rfl
  have g4 : (zmE s.heap l1 l2).get? (zmC s.heap l1 l2).objs.size = some { cls := .type "tuple", data := .seq #[.none, .none] } := u (Heap.get?_push_size _ rfl)
  have g3 : (zmE s.heap l1 l2).get? (zmB s.heap l1 l2).objs.size = some { cls := .type "tuple", data := .seq #[.ref s.heap.objs.size, .ref (zmA s.heap l1).objs.size] } := u (u (Heap.get?_push_size _ rfl))
  have g2 : (zmE s.heap l1 l2).get? (zmA s.heap l1).objs.size = some { cls := .type "list_iterator", data := .fields #[.ref l2, .int 0 0] } := u (u (u (Heap.get?_push_size _ rfl)))
  have g1 : (zmE s.heap l1 l2).get? s.heap.objs.size = some { cls := .type "tuple_iterator", data := .fields #[.ref l1, .int 0 0] } := u (u (u (u (Heap.get?_push_size _ rfl))))
  show _ ∧ _
  rw [z2, z3, z4] at g5
  rw [z1, z2] at g3
  rw [z3] at g4
  rw [z1] at g2
  rw [z4]
  exact ⟨⟨_, g5, rfl⟩, h _ g5 g3 g4 ⟨_, g1, rfl, rfl⟩ ⟨_, g2, rfl, rfl⟩ z5 fun c o x => u (u (u (u (u x))))⟩
end
/-- the tuple at a, the list at b, the items in new pairs -/
def ItzM (K : PySem.W.Frag) (a b : Addr) : It :=
  ⟨fun i H => ∃ (xs ys : List V) (x y : V), SqT K H a xs ∧ SqL K H b ys ∧ xs[i]? = some x ∧ ys[i]? = some y,
    fun i H v H' => ∃ T x y, v = .ref T ∧ H T = none ∧ H' = upd H T (.tup [x, y]) ∧ (∀ xs, SqT K H a xs → xs[i]? = some x) ∧ ∀ ys, SqL K H b ys → ys[i]? = some y,
    fun i H => ∃ xs ys : List V, SqT K H a xs ∧ SqL K H b ys ∧ (xs.length ≤ i ∨ ys.length ≤ i)⟩
theorem turn_zipM {P : Program} {w : World} {K : PySem.W.Frag} {elts : List Expr} {kk : Nat} {tpos : Pos} {a b z TI TO i1 i2 : Addr} (D : ZipApart z TI TO i1 i2 a b) :
    Turn P w K (.Tuple elts kk tpos) (ItzM K a b) [z, TI, TO, i1, i2] z (fun i h => IsZip h z TI TO .none ∧ IsPair h TI (.ref i1) (.ref i2) ∧ (∃ x y, IsPair h TO x y) ∧ h.IsTupleIter i1 a i ∧ h.IsListIter i2 b i) where
  mem := by simp
  obj := fun i h st c hc => by
    obtain ⟨hz, hTI, ⟨x, y, hTO⟩, ⟨o1, e1, _, d1⟩, ⟨o2, e2, _, d2⟩⟩ := st
    have hc : c = z ∨ c = TI ∨ c = TO ∨ c = i1 ∨ c = i2 := by simpa using hc
    rcases hc with rfl | rfl | rfl | rfl | rfl
    · exact ⟨_, hz, fun v q => nomatch q⟩
    · exact ⟨_, hTI, fun v q => nomatch q⟩
    · exact ⟨_, hTO, fun v q => nomatch q⟩
    · exact ⟨o1, e1, fun v q => by rw [d1] at q; cases q⟩
    · exact ⟨o2, e2, fun v q => by rw [d2] at q; cases q⟩
  keep := fun i h h' st k => by
    obtain ⟨hz, hTI, ⟨x, y, hTO⟩, h1, h2⟩ := st
    exact ⟨k z (by simp) _ hz, k TI (by simp) _ hTI, ⟨x, y, k TO (by simp) _ hTO⟩, h1.at fun o q => k i1 (by simp) o q, h2.at fun o q => k i2 (by simp) o q⟩
  item := by
    intro X hP hw hK hc i pins s σ H E I hf st hg
    subst hP hw hK
    obtain ⟨hz, hTI, ⟨x0, y0, hTO⟩, h1, h2⟩ := st
    obtain ⟨xs, ys, x, y, hqx, hqy, hx, hy⟩ := hg
    obtain ⟨its, rv, p, _⟩ := I.tuple hqx
    obtain ⟨its2, rv2, p2, _⟩ := I.list hqy
    obtain ⟨u, hu, ru⟩ := rv.get hx
    obtain ⟨u2, hu2, ru2⟩ := rv2.get hy
    have hzl : z < s.heap.objs.size := Heap.lt_size hz
    have hT : s.TypeIs (.ref z) "zip" := ⟨_, hz, rfl⟩
    unfold pyNext
    refine wpAny_bind (wpAny_attempt (wpAny_callSpecial?_slot (name := Str.ofString "__next__") hT F.slot_zip_next
      (wpAny_call_entry F.slot_zip_next hT F.entry_zip_next
        (zipM_item D hz hTI hTO h1 h2 p p2.isList (x := u) (y := u2) (by simpa using hu) (by simpa using hu2) fun h' z' TO' h1' h2' hT' hsz hk => wpAny_pure ?_) (F.args_zip_next_1 _))))
    refine ⟨_, rfl, wpAny_letOwnedTupleGo_zip (s := { s with heap := h' }) z' fun h'' z'' sb => ?_⟩
    have hT2 : h''.get? s.heap.objs.size = some { cls := .type "tuple", data := .seq #[u, u2] } := (sb.2 _ (Nat.ne_of_gt hzl)).trans hT'
    have new : ObjOk X.prog X.w (upd H s.heap.objs.size (.tup [x, y])) h'' s.heap.objs.size (.tup [x, y]) :=
      ⟨by show 2 ≤ sizeLine; decide, [u, u2], .cons ru (.cons ru2 .nil), ⟨_, hT2, rfl, _, rfl⟩⟩
    have I1 : Inv X pins σ (upd H s.heap.objs.size (.tup [x, y])) { s with heap := h'' } :=
      I.turnedNew (t' := s.toks) (ch := [z, TI, TO, i1, i2]) (fun c o hb q => (sb.2 c (fun q' => hb (by simp [q']))).trans (hk c o (fun q' => hb (by simp [q'])) (fun q' => hb (by simp [q'])) (fun q' => hb (by simp [q'])) (fun q' => hb (by simp [q'])) q)) hf (Nat.le_refl _) new
    refine ⟨.ref s.heap.objs.size, _, I1, rfl, ⟨_, x, y, rfl, I.hok.fresh (Nat.le_refl _), rfl, fun l hl => by rw [I.tuple_inj hl hqx]; exact hx, fun l hl => by rw [I.list_inj hl hqy]; exact hy⟩, ⟨z'', ?_, ⟨u, u2, ?_⟩, ?_, ?_⟩, fun c hcm => ?_⟩
    · exact (sb.2 _ D.TIz).trans (hk _ _ D.TIz D.TITO D.TIi1 D.TIi2 hTI)
    · exact (sb.2 _ D.TOz).trans TO'
    · exact h1'.at fun o q => (sb.2 _ D.i1z).trans q
    · exact h2'.at fun o q => (sb.2 _ D.i2z).trans q
    · have hlt : c < s.heap.objs.size := by
        have hcm : c = z ∨ c = TI ∨ c = TO ∨ c = i1 ∨ c = i2 := by simpa using hcm
        obtain ⟨_, e1, _⟩ := h1
        obtain ⟨_, e2, _⟩ := h2
        rcases hcm with rfl | rfl | rfl | rfl | rfl
        · exact hzl
        · exact Heap.lt_size hTI
        · exact Heap.lt_size hTO
        · exact Heap.lt_size e1
        · exact Heap.lt_size e2
      rw [upd_ne (Nat.ne_of_lt hlt)]
      exact (hf c hcm).1
  done := by
    intro X hP hw hK hc i pins s σ H E I hf st hg
    subst hP hw hK
    obtain ⟨hz, hTI, ⟨x0, y0, hTO⟩, h1, h2⟩ := st
    obtain ⟨xs, ys, hqx, hqy, hend⟩ := hg
    obtain ⟨its, rv, p, _⟩ := I.tuple hqx
    obtain ⟨its2, rv2, p2, _⟩ := I.list hqy
    have l1 := rv.length
    have l2 := rv2.length
    have he : its.toArray[i]? = none ∨ its2.toArray[i]? = none := by
      rcases hend with q | q
      · exact .inl (by simp; omega)
      · exact .inr (by simp; omega)
    have hT : s.TypeIs (.ref z) "zip" := ⟨_, hz, rfl⟩
    unfold pyNext
    refine wpAny_bind (wpAny_attempt (wpAny_callSpecial?_slot (name := Str.ofString "__next__") hT F.slot_zip_next
      (wpAny_call_entry F.slot_zip_next hT F.entry_zip_next (zipM_end (I.ok.hd hc) D hz hTI hTO h1 h2 p p2.isList he fun h' e hk st => ?_) (F.args_zip_next_1 _))))
    obtain ⟨o, ho, hcl⟩ := st
    refine wpAny_bind (wpAny_isInstance (T := "StopIteration") (b := true) ⟨o, ho, hcl⟩ isSubtype_stop ?_)
    exact wpAny_pure ⟨rfl, I.turnedL (t' := s.toks) (ch := [z, TI, TO, i1, i2]) (fun c o hb q =>
      hk c o (fun q' => hb (by simp [q'])) (fun q' => hb (by simp [q'])) (fun q' => hb (by simp [q'])) (fun q' => hb (by simp [q'])) q) hf⟩
  self := fun A i s Q E st h => wpAny_pyIter_zip st.1 h
/-- zip of any two of lists and tuples -/
def iZipM (K : PySem.W.Frag) (ta : TA) : TI := fun σ H R => ta σ H fun vs H1 => ∃ a b xs ys, vs = [.ref a, .ref b] ∧ ((SqL K H1 a xs ∧ SqL K H1 b ys ∧ R (Itz K a b) H1) ∨ (SqT K H1 a xs ∧ SqT K H1 b ys ∧ R (ItzT K a b) H1) ∨ (SqT K H1 a xs ∧ SqL K H1 b ys ∧ R (ItzM K a b) H1))
theorem pi_zipM {X : Cx} {e e2 : Expr} {ta : TA} {p pos tpos : Pos} {elts : List Expr} {kk : Nat} (hg : Gl X "zip") (hm : X.mg "zip" = none) (ha : PA X [e, e2] ta)
    (hs : starEach [e, e2] X.env = (false, eval e X.env) :: starEach [e2] X.env := by rfl) (hpl : (backTo pos (starEach [e2] X.env)).any (·.1) = false := by rfl) :
    PI X (.Tuple elts kk tpos) (.Call (.Name "zip" p) [e, e2] [] pos) (iZipM X.K ta) := by
  refine ⟨fun pins s σ H R I h => ?_⟩
  refine Call_ (ld_blt I hg hm PyProof.Rows.boot_zip (PyProof.Rows.callWith_type1 (thn (ha.run pos pins s σ H _ I h) fun us s1 ⟨vs, H1, I1, r1, q1⟩ => ?_) hs hpl))
  obtain ⟨a, b, xs, ys, ex, q1⟩ := q1
  subst ex
  cases r1 with
  | cons r rr =>
    cases rr with
    | cons r' rr =>
      cases rr
      cases r
      cases r'
      have fresh5 : ∀ c, c ∈ [s1.heap.objs.size + 4, s1.heap.objs.size + 2, s1.heap.objs.size + 3, s1.heap.objs.size, s1.heap.objs.size + 1] → FpOk X pins H1 c := fun c hcm => by
        have hcm : c = s1.heap.objs.size + 4 ∨ c = s1.heap.objs.size + 2 ∨ c = s1.heap.objs.size + 3 ∨ c = s1.heap.objs.size ∨ c = s1.heap.objs.size + 1 := by simpa using hcm
        have hle : s1.heap.objs.size ≤ c := by omega
        exact I1.fpOk hle (I1.hok.fresh hle)
      rcases q1 with ⟨hqx, hqy, q⟩ | ⟨hqx, hqy, q⟩ | ⟨hqx, hqy, q⟩
      · obtain ⟨its, rv, p1, _⟩ := I1.list hqx
        obtain ⟨its2, rv2, p2, _⟩ := I1.list hqy
        refine call_zip_2 p1.isList p2.isList fun h' hz hTI hTO h1 h2 hsz hk => wpAny_pyIter_zip hz ?_
        have I2 : Inv X pins σ H1 { s1 with heap := h' } := I1.kept (t' := s1.toks) hk
        exact ⟨s1.heap.objs.size + 4, _, _, _, H1, rfl, I2, turn_zip (PySem.W.ktu_apart s1.heap.objs.size a b p1.lt p2.lt), ⟨hz, hTI, ⟨_, _, hTO⟩, h1, h2⟩, fresh5, q⟩
      · obtain ⟨its, rv, p1, _⟩ := I1.tuple hqx
        obtain ⟨its2, rv2, p2, _⟩ := I1.tuple hqy
        obtain ⟨o1, ho1, _⟩ := id p1
        obtain ⟨o2, ho2, _⟩ := id p2
        refine call_zipT (show s1.heap.IsTuple a its.toArray from p1) (show s1.heap.IsTuple b its2.toArray from p2) fun h' hz hTI hTO h1 h2 hsz hk => wpAny_pyIter_zip hz ?_
        have I2 : Inv X pins σ H1 { s1 with heap := h' } := I1.kept (t' := s1.toks) hk
        exact ⟨s1.heap.objs.size + 4, _, _, _, H1, rfl, I2, turn_zipT (PySem.W.ktu_apart s1.heap.objs.size a b (Heap.lt_size ho1) (Heap.lt_size ho2)), ⟨hz, hTI, ⟨_, _, hTO⟩, h1, h2⟩, fresh5, q⟩
      · obtain ⟨its, rv, p1, _⟩ := I1.tuple hqx
        obtain ⟨its2, rv2, p2, _⟩ := I1.list hqy
        obtain ⟨o1, ho1, _⟩ := id p1
        refine call_zipM (show s1.heap.IsTuple a its.toArray from p1) p2.isList fun h' hz hTI hTO h1 h2 hsz hk => wpAny_pyIter_zip hz ?_
        have I2 : Inv X pins σ H1 { s1 with heap := h' } := I1.kept (t' := s1.toks) hk
        exact ⟨s1.heap.objs.size + 4, _, _, _, H1, rfl, I2, turn_zipM (PySem.W.ktu_apart s1.heap.objs.size a b (Heap.lt_size ho1) p2.lt), ⟨hz, hTI, ⟨_, _, hTO⟩, h1, h2⟩, fresh5, q⟩
end Ev
namespace Ev
open PySem PySem.Spec PyProof.Rows L2
/-! ## isinstance -/
def tyOfD : D → String
  | .none => "NoneType"
  | .bool _ => "bool"
  | .int _ => "int"
  | .str _ => "str"
  | .list _ => "list"
  | .tuple _ => "tuple"
  | .dict _ => "dict"
def isiD (d : D) (T : String) : Option Bool := match T with
  | "int" => some (match d with | .int _ => true | .bool _ => true | _ => false)
  | "bool" => some (match d with | .bool _ => true | _ => false)
  | "tuple" => some (match d with | .tuple _ => true | _ => false)
  | "list" => some (match d with | .list _ => true | _ => false)
  | "str" => some (match d with | .str _ => true | _ => false)
  | "dict" => some (match d with | .dict _ => true | _ => false)
  | _ => none
theorem kit_tab : ∀ t ∈ ["NoneType", "bool", "int", "str", "list", "tuple", "dict"], ∀ T ∈ ["int", "bool", "tuple", "list", "str", "dict"], kitB t T = some (decide (t = T) || (decide (t = "bool") && decide (T = "int"))) := by decide +kernel
theorem isiD_kit {d : D} {T : String} {b : Bool} (h : isiD d T = some b) : kitB (tyOfD d) T = some b := by
  have key : ∀ T ∈ ["int", "bool", "tuple", "list", "str", "dict"], isiD d T = some b → kitB (tyOfD d) T = some b := by
    intro T hT h
    have hm : tyOfD d ∈ ["NoneType", "bool", "int", "str", "list", "tuple", "dict"] := by cases d <;> first | (simp [tyOfD]; done) | (cases hd)
    rw [kit_tab _ hm T hT]
    simp only [List.mem_cons, List.mem_nil_iff, or_false, List.not_mem_nil] at hT
    rcases hT with rfl | rfl | rfl | rfl | rfl | rfl <;> (cases d <;> (cases h; first | rfl | (cases hd)))
  unfold isiD at h
  split at h <;> first | (cases h; done) | exact key _ (by simp) h
theorem tyX_of {K : PySem.W.Frag} {Z : Hp} {v : V} {d : D} (h : Dp K Z v d) : TyX K Z v (.type (tyOfD d)) := by
  cases h with
  | non => exact .base .non
  | bl b => exact .base (.bl b)
  | int i => exact .base (.int i)
  | str x => exact .base (.str x)
  | lst hs ha =>
    rcases hs with (h | ⟨o, h⟩) | ⟨o, its, n, h1, h2, _⟩
    · exact .base (.lst h)
    · exact .base (.frz h)
    · exact .kList h1 h2
  | tup hs ha =>
    rcases hs with (h | ⟨o, h⟩) | ⟨o, its, n, h1, h2, _⟩
    · exact .base (.tup h)
    · exact .fTuple h
    · exact .kTuple h1 h2
  | dct q => exact .base (.dK q)
def eIsi (T : String) (f : Fx D) : Fx D := fun env => (f env).bind fun p => (isiD p.1 T).map fun b => (.bool b, p.2)
section
variable {X : Cx} {e a b c : Expr} {es : List Expr} {p pos : Pos} {x : Str}
theorem s_isi {T : String} {y : Str} {p2 : Pos} {f : Fx D} (h : PE X e (tE X.K f)) (hg : Gl X "isinstance") (hm : X.mg "isinstance" = none) (hg2 : Gl X y) (hm2 : X.mg y = none) (hv : bootBuiltins y = some (.type T)) (hn : y ≠ "__name__") (hdb : (y == ("__debug__" : Str)) = false)
    (he : starEach [e, .Name y p2] X.env = (false, eval e X.env) :: starEach [.Name y p2] X.env) : PE X (.Call (.Name "isinstance" p) [e, .Name y p2] [] pos) (tE X.K (eIsi T f)) := by
  refine PE.imp (pe_callB call_isi hg hm (by decide +kernel) (pa_cons h (pa_cons (pe_bltn (v := .ty T) hg2 hm2 hv rfl hn hdb) pa_nil rfl) he) (by decide) (by decide) he rfl) fun σ H Q ⟨F, pa, Z, env, d, env', W, e, k⟩ => ?_
  unfold eIsi at e
  cases e1 : f env with
  | none => rw [e1] at e; cases e
  | some q =>
    rw [e1, Option.bind_some] at e
    cases e2 : isiD q.1 T with
    | none => rw [e2] at e; cases e
    | some bb =>
      rw [e2] at e
      cases e
      exact ⟨F, pa, Z, env, q.1, q.2, W, e1, fun v Z1 H1 g1 W1 q1 => ⟨v, .ty T, _, _, bb, rfl, .ty T, tyX_of (Dp.mono W1.zh _ _ q1), kit_ty (isiD_kit e2), k _ Z1 H1 g1 W1 (.bl bb)⟩⟩
/-! ### list(x) -/
def eList (f : Fx D) : Fx R := fun env => (f env).bind fun p => (seqD p.1).map fun ds => (.fresh ds, p.2)
theorem s_list {f : Fx D} (h : PE X e (tE X.K f)) (hg : Gl X "list") (hm : X.mg "list" = none) (he : starEach [e] X.env = (false, eval e X.env) :: starEach [] X.env) : PE X (.Call (.Name "list" p) [e] [] pos) (tR X.K (eList f)) := by
  refine PE.imp (pe_callTy call_list_of hg hm (by decide +kernel) (pa_cons h pa_nil he) (by decide) (by decide) he rfl) fun σ H Q ⟨F, pa, Z, env, r, env', W, e, k⟩ => ?_
  unfold eList at e
  cases e1 : f env with
  | none => rw [e1] at e; cases e
  | some q =>
    rw [e1, Option.bind_some] at e
    cases e2 : seqD q.1 with
    | none => rw [e2] at e; cases e
    | some ds =>
      rw [e2] at e
      cases e
      refine ⟨F, pa, Z, env, q.1, q.2, W, e1, fun v Z1 H1 g1 W1 q1 => ?_⟩
      generalize q.1 = d at q1 e2
      cases q1 with
      | @lst a us ds' hs ha =>
        cases e2
        refine ⟨a, us, rfl, .inl (W1.zh.seq hs), fun l hl => ?_⟩
        obtain ⟨W2, rk⟩ := W1.newL hl ha
        exact k _ Z1 _ g1 W2 rk
      | @tup a us ds' hs ha =>
        cases e2
        refine ⟨a, us, rfl, .inr (Same.sqT W1.zh hs), fun l hl => ?_⟩
        obtain ⟨W2, rk⟩ := W1.newL hl ha
        exact k _ Z1 _ g1 W2 rk
      | _ => cases e2
theorem s_ifR {ft : Fx Bool} {fa fb : Fx R} (hc : PT X c (tT X.K ft)) (ha : PE X a (tR X.K fa)) (hb : PE X b (tR X.K fb)) : PE X (.IfExp c a b pos) (tR X.K (eIf ft fa fb)) := by
  refine PE.imp (pe_ifExp hc ha hb) fun σ H Q ⟨F, pa, Z, env, d, env', W, e, k⟩ => ?_
  unfold eIf at e
  split at e
  · rename_i e1 h1
    refine ⟨F, pa, Z, env, _, e1, W, h1, fun Z' H' g1 W' => ?_⟩
    exact iteT ⟨F, pa, Z', e1, d, env', W', e, fun v Z2 H2 g2 W2 q2 => k v Z2 H2 (g1.trans g2) W2 q2⟩
  · rename_i e1 h1
    refine ⟨F, pa, Z, env, _, e1, W, h1, fun Z' H' g1 W' => ?_⟩
    exact iteF ⟨F, pa, Z', e1, d, env', W', e, fun v Z2 H2 g2 W2 q2 => k v Z2 H2 (g1.trans g2) W2 q2⟩
  · cases e
/-! ### range -/
def in62 (i : Int) : Bool := decide (-(2 ^ 62) ≤ i) && decide (i < 2 ^ 62)
theorem in62_of {i : Int} (h : in62 i = true) : -(2 ^ 62) ≤ i ∧ i < 2 ^ 62 := by
  unfold in62 at h
  simpa only [Bool.and_eq_true, decide_eq_true_eq] using h
def rangeD (lo : Int) (n : Nat) : List D := (List.range n).map fun k => .int (lo + (k : Nat))
theorem range_it (K : PySem.W.Frag) (Z1 : Hp) (lo : Int) (n : Nat) : ItOk K Z1 (Itr lo n) (rangeD lo n) := by
  intro Z H _ zh i
  refine ⟨fun d hd => ?_, fun hi => (show n ≤ i by simpa [rangeD] using hi)⟩
  unfold rangeD at hd
  rw [List.getElem?_map] at hd
  cases e : (List.range n)[i]? with
  | none => rw [e] at hd; cases hd
  | some k =>
    rw [e] at hd; cases hd
    obtain ⟨hk, ek⟩ := List.getElem?_eq_some_iff.mp e
    rw [List.getElem_range] at ek
    subst ek
    refine ⟨show i < n by simpa using hk, fun x H2 ⟨e1, e2⟩ => ?_⟩
    subst e1 e2
    exact ⟨Z, .refl zh, .int _⟩
def iRange1 (f : Fx D) : Fx (List D) := fun env => match f env with
  | some (.int j, e) => some (rangeD 0 (j - 0).toNat, e)
  | _ => none
theorem s_range1 {tg : Expr} {f : Fx D} (h : PE X e (tE X.K f)) (hg : Gl X "range") (hm : X.mg "range" = none) (he : starEach [e] X.env = [(false, eval e X.env)]) : PI X tg (.Call (.Name "range" p) [e] [] pos) (tI X.K (iRange1 f)) := by
  refine PI.imp (pi_rg (prg_1 hg hm h he)) fun σ H R ⟨F, pa, Z, env, ds, env', W, e, k⟩ => ?_
  unfold iRange1 at e
  split at e
  · rename_i j env1 e1
    cases e
    refine ⟨F, pa, Z, env, _, _, W, e1, fun v Z1 H1 g1 W1 q1 => ?_⟩
    cases q1
    exact ⟨j, rfl, k _ Z1 H1 g1 W1 (range_it _ _ _ _)⟩
  · cases e
def iRange2 (f g : Fx D) : Fx (List D) := fun env => match f env with
  | some (.int i, e) => (match g e with
    | some (.int j, e2) => some (rangeD i (j - i).toNat, e2)
    | _ => none)
  | _ => none
theorem s_range2 {tg : Expr} {fa fb : Fx D} (h : PE X a (tE X.K fa)) (h2 : PE X b (tE X.K fb)) (hg : Gl X "range") (hm : X.mg "range" = none) (he : starEach [a, b] X.env = [(false, eval a X.env), (false, eval b X.env)]) (he2 : starEach [b] X.env = [(false, eval b X.env)]) :
    PI X tg (.Call (.Name "range" p) [a, b] [] pos) (tI X.K (iRange2 fa fb)) := by
  refine PI.imp (pi_rg (prg_2 hg hm h h2 (by rw [he, he2]) he2 (by rw [he2]; rfl))) fun σ H R ⟨F, pa, Z, env, ds, env', W, e, k⟩ => ?_
  unfold iRange2 at e
  split at e
  · rename_i i env1 e1
    split at e
    · rename_i j env2 e2
      cases e
      refine ⟨F, pa, Z, env, _, _, W, e1, fun v Z1 H1 g1 W1 q1 => ⟨F, pa, Z1, _, _, _, W1, e2, fun v2 Z2 H2 g2 W2 q2 => ?_⟩⟩
      cases q1
      cases q2
      exact ⟨i, j, rfl, rfl, k _ Z2 H2 (g1.trans g2) W2 (range_it _ _ _ _)⟩
    · cases e
  · cases e
/-! ### list(range(..)) -/
def rgB (a b : Int) : Bool := decide ((b - a).toNat ≤ 2 ^ 24)
theorem rgB_ok {a b : Int} (h : rgB a b = true) : (b - a).toNat ≤ 2 ^ 24 := of_decide_eq_true h
theorem rg_da {K : PySem.W.Frag} {Z : Hp} (a b : Int) : DpAll K Z (rgV a b) (rangeD a (b - a).toNat) := by
  unfold rgV rangeD
  generalize List.range (b - a).toNat = l
  induction l with
  | nil => exact .nil
  | cons x l ih => exact .cons (.int _) ih
def eRgL1 (f : Fx D) : Fx R := fun env => match f env with
  | some (.int j, e) => if rgB 0 j = true then some (.fresh (rangeD 0 (j - 0).toNat), e) else none
  | _ => none
def eRgL2 (f g : Fx D) : Fx R := fun env => match f env with
  | some (.int i, e) => (match g e with
    | some (.int j, e2) => if rgB i j = true then some (.fresh (rangeD i (j - i).toNat), e2) else none
    | _ => none)
  | _ => none
theorem s_listRg1 {b : Expr} {q : Pos} {p2 : Pos} {f : Fx D} (hc : X.calm = true) (h : PE X b (tE X.K f)) (hg : Gl X "list") (hm : X.mg "list" = none) (hg2 : Gl X "range") (hm2 : X.mg "range" = none) (hb : starEach [b] X.env = [(false, eval b X.env)]) :
    PE X (.Call (.Name "list" p) [.Call (.Name "range" p2) [b] [] q] [] pos) (tR X.K (eRgL1 f)) := by
  refine PE.imp (pe_lr hc hg hm (prg_1 hg2 hm2 h hb) rfl) fun σ H Q ⟨F, pa, Z, env, r, env', W, e, k⟩ => ?_
  unfold eRgL1 at e
  split at e
  · rename_i j env1 e1
    by_cases hj : rgB 0 j = true
    · rw [if_pos hj] at e
      cases e
      refine ⟨F, pa, Z, env, _, _, W, e1, fun v Z1 H1 g1 W1 q1 => ?_⟩
      cases q1
      refine ⟨j, rfl, rgB_ok hj, fun l hl => ?_⟩
      obtain ⟨W2, rk⟩ := W1.newL hl (rg_da 0 j)
      exact k _ Z1 _ g1 W2 rk
    · rw [if_neg hj] at e; cases e
  · cases e
theorem s_listRg2 {b c : Expr} {q : Pos} {p2 : Pos} {f g : Fx D} (hc : X.calm = true) (h : PE X b (tE X.K f)) (h2 : PE X c (tE X.K g)) (hg : Gl X "list") (hm : X.mg "list" = none) (hg2 : Gl X "range") (hm2 : X.mg "range" = none)
    (hb : starEach [b, c] X.env = (false, eval b X.env) :: starEach [c] X.env) (hb2 : starEach [c] X.env = [(false, eval c X.env)]) :
    PE X (.Call (.Name "list" p) [.Call (.Name "range" p2) [b, c] [] q] [] pos) (tR X.K (eRgL2 f g)) := by
  refine PE.imp (pe_lr hc hg hm (prg_2 hg2 hm2 h h2 hb hb2 (by rw [hb2]; rfl)) rfl) fun σ H Q ⟨F, pa, Z, env, r, env', W, e, k⟩ => ?_
  unfold eRgL2 at e
  split at e
  · rename_i i env1 e1
    split at e
    · rename_i j env2 e2
      by_cases hj : rgB i j = true
      · rw [if_pos hj] at e
        cases e
        refine ⟨F, pa, Z, env, _, _, W, e1, fun v Z1 H1 g1 W1 q1 => ⟨F, pa, Z1, _, _, _, W1, e2, fun v2 Z2 H2 g2 W2 q2 => ?_⟩⟩
        cases q1
        cases q2
        refine ⟨i, j, rfl, rfl, rgB_ok hj, fun l hl => ?_⟩
        obtain ⟨W3, rk⟩ := W2.newL hl (rg_da i j)
        exact k _ Z2 _ (g1.trans g2) W3 rk
      · rw [if_neg hj] at e; cases e
    · cases e
  · cases e
/-! ### zip -/
def zipD : List D → List D → List D
  | a :: as, b :: bs => .tuple [a, b] :: zipD as bs
  | _, _ => []
theorem zipD_get : ∀ {as bs : List D} {i : Nat} {d : D}, (zipD as bs)[i]? = some d → ∃ a b, as[i]? = some a ∧ bs[i]? = some b ∧ d = .tuple [a, b]
  | [], _, _, _, h => by simp [zipD] at h
  | _ :: _, [], _, _, h => by simp [zipD] at h
  | a :: as, b :: bs, 0, d, h => by simp [zipD] at h; exact ⟨a, b, rfl, rfl, h.symm⟩
  | a :: as, b :: bs, i + 1, d, h => by
    obtain ⟨a', b', h1, h2, h3⟩ := zipD_get (as := as) (bs := bs) (i := i) (d := d) (by simpa [zipD] using h)
    exact ⟨a', b', by simpa using h1, by simpa using h2, h3⟩
theorem zipD_len : ∀ (as bs : List D), (zipD as bs).length = min as.length bs.length
  | [], _ => by simp [zipD]
  | _ :: _, [] => by simp [zipD]
  | a :: as, b :: bs => by
    simp only [zipD, List.length_cons, zipD_len as bs]
    omega
def zipOf : List D → Option (List D)
  | [.list as, .list bs] => some (zipD as bs)
  | [.tuple as, .tuple bs] => some (zipD as bs)
  | [.tuple as, .list bs] => some (zipD as bs)
  | _ => none
def iZip (f : Fx (List D)) : Fx (List D) := fun env => (f env).bind fun p => (zipOf p.1).map fun ds => (ds, p.2)
theorem s_zip {e2 : Expr} {elts : List Expr} {kk : Nat} {tpos : Pos} {f : Fx (List D)} (h : PA X [e, e2] (tAd X.K f)) (hg : Gl X "zip") (hm : X.mg "zip" = none) (hs : starEach [e, e2] X.env = (false, eval e X.env) :: starEach [e2] X.env) (hpl : (backTo pos (starEach [e2] X.env)).any (·.1) = false) :
    PI X (.Tuple elts kk tpos) (.Call (.Name "zip" p) [e, e2] [] pos) (tI X.K (iZip f)) := by
  refine PI.imp (pi_zipM hg hm h hs hpl) fun σ H R ⟨F, pa, Z, env, ds, env', W, e, k⟩ => ?_
  unfold iZip at e
  cases e1 : f env with
  | none => rw [e1] at e; cases e
  | some q =>
    rw [e1, Option.bind_some] at e
    cases e3 : zipOf q.1 with
    | none => rw [e3] at e; cases e
    | some zs =>
      rw [e3] at e
      cases e
      refine ⟨F, pa, Z, env, q.1, q.2, W, e1, fun vs Z1 H1 g1 W1 q1 => ?_⟩
      generalize q.1 = dd at q1 e3
      have pair : ∀ {Z H : Hp} {T : Addr} {x y : V} {a b : D}, Same Z H → H T = none → Dp X.K Z x a → Dp X.K Z y b → ∃ Z2, Alc Z H Z2 (upd H T (.tup [x, y])) ∧ Dp X.K Z2 (.ref T) (.tuple [a, b]) := fun {Z H T x y a b} zh hT d1 d2 => by
        have al := Alc.new (o := .tup [x, y]) zh hT
        exact ⟨_, al, .tup (SqT.of upd_same) (.cons (Dp.mono al.zz _ _ d1) (.cons (Dp.mono al.zz _ _ d2) .nil))⟩
      unfold zipOf at e3
      split at e3
      · rename_i as bs
        cases e3
        cases q1 with
        | cons h1 h2 =>
          cases h2 with
          | cons h3 h4 =>
            cases h4
            cases h1 with
            | @lst a us _ hsa ha =>
              cases h3 with
              | @lst b us' _ hsb hb =>
                refine ⟨a, b, us, us', rfl, .inl ⟨W1.zh.seq hsa, W1.zh.seq hsb, k _ Z1 H1 g1 W1 fun Z H z1 zh i => ⟨fun d hd => ?_, fun hi => ?_⟩⟩⟩
                · obtain ⟨da, db, hA, hB, rfl⟩ := zipD_get hd
                  obtain ⟨va, ea, qa⟩ := da_get ha hA
                  obtain ⟨vb, eb, qb⟩ := da_get hb hB
                  have sa := zh.seq (z1.seq hsa)
                  have sb := zh.seq (z1.seq hsb)
                  refine ⟨⟨us, us', va, vb, sa, sb, ea, eb⟩, fun x H2 ⟨T, x1, y1, ex, hT, eH, y1', y2'⟩ => ?_⟩
                  subst ex eH
                  have t1 := y1' us sa
                  have t2 := y2' us' sb
                  rw [ea] at t1; rw [eb] at t2
                  cases t1; cases t2
                  exact pair zh hT (Dp.mono z1 _ _ qa) (Dp.mono z1 _ _ qb)
                · rw [zipD_len] at hi
                  exact ⟨us, us', zh.seq (z1.seq hsa), zh.seq (z1.seq hsb), by rw [da_length ha, da_length hb]; omega⟩
      · rename_i as bs
        cases e3
        cases q1 with
        | cons h1 h2 =>
          cases h2 with
          | cons h3 h4 =>
            cases h4
            cases h1 with
            | @tup a us _ hsa ha =>
              cases h3 with
              | @tup b us' _ hsb hb =>
                refine ⟨a, b, us, us', rfl, .inr (.inl ⟨Same.sqT W1.zh hsa, Same.sqT W1.zh hsb, k _ Z1 H1 g1 W1 fun Z H z1 zh i => ⟨fun d hd => ?_, fun hi => ?_⟩⟩)⟩
                · obtain ⟨da, db, hA, hB, rfl⟩ := zipD_get hd
                  obtain ⟨va, ea, qa⟩ := da_get ha hA
                  obtain ⟨vb, eb, qb⟩ := da_get hb hB
                  have sa := Same.sqT zh (Same.sqT z1 hsa)
                  have sb := Same.sqT zh (Same.sqT z1 hsb)
                  refine ⟨⟨us, us', va, vb, sa, sb, ea, eb⟩, fun x H2 ⟨T, x1, y1, ex, hT, eH, y1', y2'⟩ => ?_⟩
                  subst ex eH
                  have t1 := y1' us sa
                  have t2 := y2' us' sb
                  rw [ea] at t1; rw [eb] at t2
                  cases t1; cases t2
                  exact pair zh hT (Dp.mono z1 _ _ qa) (Dp.mono z1 _ _ qb)
                · rw [zipD_len] at hi
                  exact ⟨us, us', Same.sqT zh (Same.sqT z1 hsa), Same.sqT zh (Same.sqT z1 hsb), by rw [da_length ha, da_length hb]; omega⟩
      · rename_i as bs
        cases e3
        cases q1 with
        | cons h1 h2 =>
          cases h2 with
          | cons h3 h4 =>
            cases h4
            cases h1 with
            | @tup a us _ hsa ha =>
              cases h3 with
              | @lst b us' _ hsb hb =>
                refine ⟨a, b, us, us', rfl, .inr (.inr ⟨Same.sqT W1.zh hsa, W1.zh.seq hsb, k _ Z1 H1 g1 W1 fun Z H z1 zh i => ⟨fun d hd => ?_, fun hi => ?_⟩⟩)⟩
                · obtain ⟨da, db, hA, hB, rfl⟩ := zipD_get hd
                  obtain ⟨va, ea, qa⟩ := da_get ha hA
                  obtain ⟨vb, eb, qb⟩ := da_get hb hB
                  have sa := Same.sqT zh (Same.sqT z1 hsa)
                  have sb := zh.seq (z1.seq hsb)
                  refine ⟨⟨us, us', va, vb, sa, sb, ea, eb⟩, fun x H2 ⟨T, x1, y1, ex, hT, eH, y1', y2'⟩ => ?_⟩
                  subst ex eH
                  have t1 := y1' us sa
                  have t2 := y2' us' sb
                  rw [ea] at t1; rw [eb] at t2
                  cases t1; cases t2
                  exact pair zh hT (Dp.mono z1 _ _ qa) (Dp.mono z1 _ _ qb)
                · rw [zipD_len] at hi
                  exact ⟨us, us', Same.sqT zh (Same.sqT z1 hsa), zh.seq (z1.seq hsb), by rw [da_length ha, da_length hb]; omega⟩
      · cases e3
end
end Ev
namespace Ev
open PySem PySem.Spec PyProof.Rows L2
/-! ## a, b = x, y -/
def aR (f : Fx R) (g : Fx (List AR)) : Fx (List AR) := fun env => match f env with
  | some (.fresh ds, e) => (g e).map fun q => (.tmp ds :: q.1, q.2)
  | some (.val d, e) => (g e).map fun q => (.val d :: q.1, q.2)
  | _ => none
section
variable {X : Cx} {e : Expr} {es : List Expr} {p pos : Pos} {x : Str}
theorem s_aR {f : Fx R} {g : Fx (List AR)} (h1 : PE X e (tR X.K f)) (h2 : PA X es (tAa X.K g)) (hs : starEach (e :: es) X.env = (false, eval e X.env) :: starEach es X.env) : PA X (e :: es) (tAa X.K (aR f g)) := by
  refine PA.imp (pa_cons h1 h2 hs) fun σ H Q ⟨F, pa, Z, env, as, env', W, h, k⟩ => ?_
  unfold aR at h
  split at h
  · rename_i ds env1 e1
    cases e2 : g env1 with
    | none => rw [e2] at h; cases h
    | some q =>
      rw [e2] at h
      cases h
      refine ⟨F, pa, Z, env, _, env1, W, e1, fun v Z1 H1 g1 W1 q1 => ?_⟩
      obtain ⟨p, us, rfl, hp, zp, fp, da, no⟩ := q1
      have sf : Same F (upd F p (.lst us)) := upd_none fp
      refine ⟨upd F p (.lst us), pa, Z1, env1, q.1, q.2, W1.frameUp hp no, e2, fun vs Z2 H2 g2 W2 q2 => ?_⟩
      have g2' : Gr F Z1 Z2 := g2.frame sf
      refine k (.ref p :: vs) Z2 H2 (g1.trans g2') (W2.frame sf) (.tmp (W2.fh p _ upd_same) ?_ fp (DpAll.mono g2.zz _ _ da) (fun i o s a1 a2 a3 => ?_) (fun hm => ?_) (q2.frame sf))
      · exact (g2.nf p (by rw [upd_same]; exact fun z => nomatch z)).trans zp
      · obtain ⟨us', b1, b2, b3⟩ := (W2.sl i o s a1 a2).at_ a3
        rw [upd_same] at b2; cases b2
      · have := q2.tmpF p hm
        rw [upd_same] at this; cases this
  · rename_i d env1 e1
    cases e2 : g env1 with
    | none => rw [e2] at h; cases h
    | some q =>
      rw [e2] at h
      cases h
      exact ⟨F, pa, Z, env, _, env1, W, e1, fun v Z1 H1 g1 W1 q1 => ⟨F, pa, Z1, env1, q.1, q.2, W1, e2, fun vs Z2 H2 g2 W2 q2 => k (v :: vs) Z2 H2 (g1.trans g2) W2 (.val (Dp.mono g2.zz _ _ q1) q2)⟩⟩
  · cases h
end
theorem ArsOk.reslot {K : PySem.W.Frag} {F Z H : Hp} {σ σ' : L2.St} {env env' : En} : ∀ {vs : List V} {as : List AR}, ArsOk K F Z H σ env vs as → slotsOf as = [] →
    (∀ p ∈ tmps vs as, ∀ (i : Nat) (o : Option V) (s : Sl), σ'[i]? = some o → env'[i]? = some s → ¬ Ow H o s p) → ArsOk K F Z H σ' env' vs as
  | _, _, .nil, _, _ => .nil
  | _, _, .val (v := v) d t, h, k => .val d (t.reslot h fun p hp => k p (by cases v <;> exact hp))
  | _, _, .slot _ _, h, _ => by cases h
  | _, _, .tmp a b c d e f t, h, k => .tmp a b c d (k _ (List.mem_cons_self ..)) f (t.reslot h fun p hp => k p (List.mem_cons_of_mem _ hp))
def setMany : List Nat → List AR → En → Option En
  | [], [], env => some env
  | i :: is, .val d :: as, env => (setR i (.val d) env).bind (setMany is as)
  | i :: is, .tmp ds :: as, env => (setR i (.fresh ds) env).bind (setMany is as)
  | _, _, _ => none
def setManyV : List Nat → List V → L2.St → L2.St
  | i :: is, v :: vs, σ => setManyV is vs (σ.set i (some v))
  | _, _, σ => σ
theorem setMany_slots : ∀ {is : List Nat} {as : List AR} {env env2 : En}, setMany is as env = some env2 → slotsOf as = []
  | [], [], _, _, _ => rfl
  | [], _ :: _, _, _, h => by simp [setMany] at h
  | _ :: _, [], _, _, h => by simp [setMany] at h
  | i :: is, .slot _ :: as, _, _, h => by simp [setMany] at h
  | i :: is, .val d :: as, env, env2, h => by
    have h' : (setR i (.val d) env).bind (setMany is as) = some env2 := h
    cases e : setR i (.val d) env with
    | none => rw [e] at h'; cases h'
    | some env1 => rw [e, Option.bind_some] at h'; exact setMany_slots (as := as) h'
  | i :: is, .tmp d :: as, env, env2, h => by
    have h' : (setR i (.fresh d) env).bind (setMany is as) = some env2 := h
    cases e : setR i (.fresh d) env with
    | none => rw [e] at h'; cases h'
    | some env1 => rw [e, Option.bind_some] at h'; exact setMany_slots (as := as) h'
theorem setR_own {K : PySem.W.Frag} {F Z H : Hp} {pa : Nat → Option Addr} {σ : L2.St} {env env1 : En} {i : Nat} {v : V} {r : R} {q : Addr} (W : Wst K F Z H pa σ env) (e : setR i r env = some env1) (hv : ∀ ds, r = .fresh ds → v ≠ .ref q) (hm : ∀ dss, r ≠ .mat dss)
    (no : ∀ (i : Nat) (o : Option V) (s : Sl), σ[i]? = some o → env[i]? = some s → ¬ Ow H o s q) : ∀ (j : Nat) (o : Option V) (s : Sl), (σ.set i (some v))[j]? = some o → env1[j]? = some s → ¬ Ow H o s q := by
  unfold setR at e
  split at e
  · rename_i s0 hs0
    cases hp : isPar s0 with
    | true => rw [hp, if_pos rfl] at e; cases e
    | false =>
      rw [hp, if_neg Bool.false_ne_true] at e
      cases e
      intro j o s e1 e2 e3
      have hi : i < env.length := (List.getElem?_eq_some_iff.mp hs0).1
      by_cases hj : i = j
      · subst hj
        rw [List.getElem?_set_self (by rw [W.len]; exact hi)] at e1
        rw [List.getElem?_set_self hi] at e2
        cases e1; cases e2
        cases r with
        | val d => exact e3.val
        | fresh ds => exact hv ds rfl (Option.some.inj e3.own)
        | mat dss => exact hm dss rfl
      · rw [List.getElem?_set_ne hj] at e1 e2
        exact no j o s e1 e2 e3
  · cases e
theorem Wst.setMany {K : PySem.W.Frag} {F Z H : Hp} {pa : Nat → Option Addr} : ∀ {is : List Nat} {vs : List V} {as : List AR} {σ : L2.St} {env env2 : En}, Wst K F Z H pa σ env → ArsOk K F Z H σ env vs as → Ev.setMany is as env = some env2 → Wst K F Z H pa (setManyV is vs σ) env2
  | [], _, [], _, _, _, W, A, h => by cases A; cases h; exact W
  | [], _, _ :: _, _, _, _, _, _, h => by simp [Ev.setMany] at h
  | _ :: _, _, [], _, _, _, _, _, h => by simp [Ev.setMany] at h
  | i :: is, _, .slot _ :: as, _, _, _, _, _, h => by simp [Ev.setMany] at h
  | i :: is, _, .val d :: as, σ, env, env2, W, A, h => by
    have h' : (Ev.setR i (.val d) env).bind (Ev.setMany is as) = some env2 := h
    cases e : Ev.setR i (.val d) env with
    | none => rw [e] at h'; cases h'
    | some env1 =>
      rw [e, Option.bind_some] at h'
      cases A with
      | @val v _ vs _ q t =>
        have W1 := W.setR (r := .val d) (v := v) q e
        show Wst K F Z H pa (setManyV is vs (σ.set i (some v))) env2
        refine Wst.setMany W1 (t.reslot (setMany_slots h') fun p hp => ?_) h'
        have no := (tmps_not_own t p hp).2.2.2
        exact setR_own W e (fun ds z => by cases z) (fun _ z => nomatch z) no
  | i :: is, _, .tmp d :: as, σ, env, env2, W, A, h => by
    have h' : (Ev.setR i (.fresh d) env).bind (Ev.setMany is as) = some env2 := h
    cases e : Ev.setR i (.fresh d) env with
    | none => rw [e] at h'; cases h'
    | some env1 =>
      rw [e, Option.bind_some] at h'
      cases A with
      | @tmp p us _ vs _ h1 h2 h3 h4 h5 h6 t =>
        have W1 := W.setR (r := .fresh d) (v := .ref p) ⟨p, us, rfl, h1, h2, h3, h4, h5⟩ e
        show Wst K F Z H pa (setManyV is vs (σ.set i (some (.ref p)))) env2
        refine Wst.setMany W1 (t.reslot (setMany_slots h') fun q hq => ?_) h'
        have no := (tmps_not_own t q hq).2.2.2
        exact setR_own W e (fun ds _ z => h6 (by cases z; exact hq)) (fun _ z => nomatch z) no
def sPar (is : List Nat) (f : Fx (List AR)) : Fx Fl := fun env => (f env).bind fun p => (setMany is p.1 p.2).map fun e => (.nx, e)
theorem ars_len {K : PySem.W.Frag} {F Z H : Hp} {σ : L2.St} {env : En} {vs : List V} {as : List AR} (A : ArsOk K F Z H σ env vs as) : vs.length = as.length := by
  induction A with
  | nil => rfl
  | val _ _ ih => exact congrArg Nat.succ ih
  | slot _ _ ih => exact congrArg Nat.succ ih
  | tmp _ _ _ _ _ _ _ ih => exact congrArg Nat.succ ih
theorem setMany_len : ∀ {is : List Nat} {as : List AR} {env env2 : En}, setMany is as env = some env2 → as.length = is.length
  | [], [], _, _, _ => rfl
  | [], _ :: _, _, _, h => by simp [setMany] at h
  | _ :: _, [], _, _, h => by simp [setMany] at h
  | i :: is, .slot _ :: as, _, _, h => by simp [setMany] at h
  | i :: is, .val d :: as, env, env2, h => by
    have h' : (setR i (.val d) env).bind (setMany is as) = some env2 := h
    cases e : setR i (.val d) env with
    | none => rw [e] at h'; cases h'
    | some env1 => rw [e, Option.bind_some] at h'; exact congrArg Nat.succ (setMany_len h')
  | i :: is, .tmp d :: as, env, env2, h => by
    have h' : (setR i (.fresh d) env).bind (setMany is as) = some env2 := h
    cases e : setR i (.fresh d) env with
    | none => rw [e] at h'; cases h'
    | some env1 => rw [e, Option.bind_some] at h'; exact congrArg Nat.succ (setMany_len h')
theorem par_core {K : PySem.W.Frag} {is : List Nat} {f : Fx (List AR)} {DD : Ends} {σ : L2.St} {H : Hp} (h : tS K (sPar is f) DD σ H) : tAa K f σ H fun vs H1 => vs.length = is.length ∧ DD.nx (setManyV is vs σ) H1 := by
  obtain ⟨F, pa, Z, env, fl, env', W, e, k⟩ := h
  unfold sPar at e
  cases e1 : f env with
  | none => rw [e1] at e; cases e
  | some q =>
    rw [e1, Option.bind_some] at e
    cases e2 : setMany is q.1 q.2 with
    | none => rw [e2] at e; cases e
    | some env2 =>
      rw [e2] at e
      cases e
      exact ⟨F, pa, Z, env, q.1, q.2, W, e1, fun vs Z1 H1 g1 W1 A => ⟨by rw [ars_len A, setMany_len e2], k _ Z1 H1 g1 (W1.setMany A e2)⟩⟩
theorem tAa_mono {K : PySem.W.Frag} {f : Fx (List AR)} {σ : L2.St} {H : Hp} {Q Q' : List V → Hp → Prop} (h : tAa K f σ H Q) (m : ∀ vs H', Q vs H' → Q' vs H') : tAa K f σ H Q' := by
  obtain ⟨F, pa, Z, env, as, env', W, e, k⟩ := h
  exact ⟨F, pa, Z, env, as, env', W, e, fun vs Z' H' g1 W1 A => m _ _ (k vs Z' H' g1 W1 A)⟩
/-- the answer of swappedStores in a def's body -/
def swNames (sc : Scope) (ts : List Expr) (line : Nat) : List Str := ts.filterMap fun
  | .Name id pos => if sc.names.lookup id == some .local && pos.line == line then some id else none
  | _ => none
def swGood (sc : Scope) (ts vs : List Expr) : Bool :=
  (!(!(ts.length == 2 || ts.length == 3) || vs.length != ts.length)) && (!vs.any fun | .Starred .. => true | _ => false) &&
  (!((swNames sc ts ((ts.head?.map (·.pos.line)).getD 0)).length != ts.length || (swNames sc ts ((ts.head?.map (·.pos.line)).getD 0)).eraseDups.length != (swNames sc ts ((ts.head?.map (·.pos.line)).getD 0)).length)) && !vs.all (foldedForSure 8) && !vs.all (constantsAlone 8)
/-- not swapped, for sure -/
def swNone (sc : Scope) (ts vs : List Expr) : Bool :=
  (!(ts.length == 2 || ts.length == 3) || vs.length != ts.length) || (vs.any fun | .Starred .. => true | _ => false) ||
  ((swNames sc ts ((ts.head?.map (·.pos.line)).getD 0)).length != ts.length || (swNames sc ts ((ts.head?.map (·.pos.line)).getD 0)).eraseDups.length != (swNames sc ts ((ts.head?.map (·.pos.line)).getD 0)).length) || vs.all (foldedForSure 8)
theorem swapped_good {env : Env} {ts vs : List Expr} {k k2 : Nat} {p p2 : Pos} (hk : env.scope.kind = .function) (h : swGood env.scope ts vs = true) :
    swappedStores [.Tuple ts k p] (.Tuple vs k2 p2) env = pure (some (swNames env.scope ts ((ts.head?.map (·.pos.line)).getD 0))) := by
  have hb : env.blockKind = .function := by unfold Env.blockKind; rw [hk]; rfl
  unfold swGood at h
  simp only [Bool.and_eq_true, Bool.not_eq_true'] at h
  obtain ⟨⟨⟨⟨h1, h2⟩, h3⟩, h4⟩, h5⟩ := h
  unfold swappedStores
  simp only [hb]
  have e0 : (!(ts.length == 2 || ts.length == 3) || vs.length != ts.length || (ScopeKind.function != ScopeKind.function)) = false := by
    rw [h1]; rfl
  rw [if_neg (by rw [e0]; exact Bool.false_ne_true)]
  refine Eq.trans (if_neg fun z => Bool.false_ne_true (h2.symm.trans z)) ?_
  refine Eq.trans (if_neg fun z => Bool.false_ne_true (h3.symm.trans z)) ?_
  refine Eq.trans (if_neg fun z => Bool.false_ne_true (h4.symm.trans z)) ?_
  exact if_neg fun z => Bool.false_ne_true (h5.symm.trans z)
theorem swapped_none {env : Env} {ts vs : List Expr} {k k2 : Nat} {p p2 : Pos} (hk : env.scope.kind = .function) (h : swNone env.scope ts vs = true) : swappedStores [.Tuple ts k p] (.Tuple vs k2 p2) env = pure none := by
  have hb : env.blockKind = .function := by unfold Env.blockKind; rw [hk]; rfl
  unfold swappedStores
  simp only [hb]
  by_cases h1 : (!(ts.length == 2 || ts.length == 3) || vs.length != ts.length) = true
  · exact if_pos (by rw [h1]; rfl)
  · have h1' := Bool.eq_false_iff.mpr h1
    have e0 : (!(ts.length == 2 || ts.length == 3) || vs.length != ts.length || (ScopeKind.function != ScopeKind.function)) = false := by
      rw [h1']; rfl
    rw [if_neg (by rw [e0]; exact Bool.false_ne_true)]
    by_cases h2 : (vs.any fun | .Starred .. => true | _ => false) = true
    · exact if_pos h2
    · refine Eq.trans (if_neg fun z => h2 z) ?_
      by_cases h3 : ((swNames env.scope ts ((ts.head?.map (·.pos.line)).getD 0)).length != ts.length || (swNames env.scope ts ((ts.head?.map (·.pos.line)).getD 0)).eraseDups.length != (swNames env.scope ts ((ts.head?.map (·.pos.line)).getD 0)).length) = true
      · exact if_pos h3
      · refine Eq.trans (if_neg fun z => h3 z) ?_
        have h4 : vs.all (foldedForSure 8) = true := by
          unfold swNone at h
          rw [h1', Bool.eq_false_iff.mpr h2, Bool.eq_false_iff.mpr h3] at h
          exact h
        exact if_pos h4
theorem swapped_other {env : Env} {tg e : Expr} (h : (match tg, e with | .Tuple _ _ _, .Tuple _ _ _ => false | .List _ _, _ => false | _, _ => true) = true) : swappedStores [tg] e env = pure none := by
  unfold swappedStores
  cases tg <;> cases e <;> first | rfl | (cases h)
section
variable {X : Cx} {pos : Pos} {x y z : Str}
theorem s_par2 {i j : Nat} {a b : Expr} {f : Fx (List AR)} {px py pt p2 : Pos} {kt k2 : Nat} (hc : X.calm = true) (hk : X.env.scope.kind = .function) (hN : X.N.Nodup) (hi : X.N[i]? = some x) (hj : X.N[j]? = some y) (hij : i ≠ j) (hx : X.env.scope.names.lookup x = some .local) (hy : X.env.scope.names.lookup y = some .local)
    (ha : PA X [a, b] (tAa X.K f)) (hg : swGood X.env.scope [.Name x px, .Name y py] [a, b] = true) (hn : swNames X.env.scope [.Name x px, .Name y py] px.line = [x, y]) : PS X (.Assign [.Tuple [.Name x px, .Name y py] kt pt] (.Tuple [a, b] k2 p2) pos) (tS X.K (sPar [i, j] f)) := by
  have hw : swappedStores [.Tuple [.Name x px, .Name y py] kt pt] (.Tuple [a, b] k2 p2) X.env = pure (some [x, y]) := by
    rw [swapped_good hk hg]
    exact congrArg (fun q => pure (some q)) hn
  refine PS.imp (ps_par hc hN hi hj hij hx hy ha hw rfl) fun DD σ H h => ?_
  refine tAa_mono (par_core h) fun vs H' ⟨hl, q⟩ => ?_
  match vs, hl with
  | [v, w], _ => exact ⟨v, w, rfl, q⟩
theorem s_par3 {i j l : Nat} {a b c : Expr} {f : Fx (List AR)} {px py pz pt p2 : Pos} {kt k2 : Nat} (hc : X.calm = true) (hk : X.env.scope.kind = .function) (hN : X.N.Nodup) (hi : X.N[i]? = some x) (hj : X.N[j]? = some y) (hl : X.N[l]? = some z) (hij : i ≠ j) (hil : i ≠ l) (hjl : j ≠ l) (hx : X.env.scope.names.lookup x = some .local) (hy : X.env.scope.names.lookup y = some .local) (hz : X.env.scope.names.lookup z = some .local)
    (ha : PA X [a, b, c] (tAa X.K f)) (hg : swGood X.env.scope [.Name x px, .Name y py, .Name z pz] [a, b, c] = true) (hn : swNames X.env.scope [.Name x px, .Name y py, .Name z pz] px.line = [x, y, z]) : PS X (.Assign [.Tuple [.Name x px, .Name y py, .Name z pz] kt pt] (.Tuple [a, b, c] k2 p2) pos) (tS X.K (sPar [i, j, l] f)) := by
  have hw : swappedStores [.Tuple [.Name x px, .Name y py, .Name z pz] kt pt] (.Tuple [a, b, c] k2 p2) X.env = pure (some [x, y, z]) := by
    rw [swapped_good hk hg]
    exact congrArg (fun q => pure (some q)) hn
  refine PS.imp (ps_par3 hc hN hi hj hl hij hil hjl hx hy hz ha hw rfl) fun DD σ H h => ?_
  refine tAa_mono (par_core h) fun vs H' ⟨hl, q⟩ => ?_
  match vs, hl with
  | [u, v, w], _ => exact ⟨u, v, w, rfl, q⟩
end
/-! ## calls with keywords -/
/-- the arguments, positional ones us and keywords' ones ws, by places -/
def pick {α : Type} (n m : Nat) (perm : List Nat) (us ws : List α) : List α := if us.length = n ∧ ws.length = m then perm.filterMap fun i => (us ++ ws)[i]? else []
theorem pick_rel {G : V → Value → Prop} {n m : Nat} {perm : List Nat} {vs zs : List V} {us ws : List Value} (h1 : Paired G vs us) (h2 : Paired G zs ws) : Paired G (pick n m perm vs zs) (pick n m perm us ws) := by
  unfold pick
  rw [Paired.length h1, Paired.length h2]
  by_cases h : us.length = n ∧ ws.length = m
  · rw [if_pos h, if_pos h]
    have app : ∀ {a c : List V} {b d : List Value}, Paired G a b → Paired G c d → Paired G (a ++ c) (b ++ d) := by
      intro a c b d h1 h2
      induction h1 with
      | nil => exact h2
      | cons r _ ih => exact .cons r ih
    have ha := app h1 h2
    have get : ∀ {a : List V} {b : List Value}, Paired G a b → ∀ i : Nat, (a[i]? = none ∧ b[i]? = none) ∨ ∃ x y, a[i]? = some x ∧ b[i]? = some y ∧ G x y := by
      intro a b h
      induction h with
      | nil => exact fun i => .inl ⟨rfl, rfl⟩
      | cons r _ ih =>
        intro i
        cases i with
        | zero => exact .inr ⟨_, _, rfl, rfl, r⟩
        | succ i =>
          have := ih i
          simp only [List.getElem?_cons_succ]
          exact this
    induction perm with
    | nil => exact .nil
    | cons i perm ih =>
      rcases get ha i with ⟨e1, e2⟩ | ⟨x, y, e1, e2, r⟩
      · rw [List.filterMap_cons, List.filterMap_cons, e1, e2]; exact ih
      · rw [List.filterMap_cons, List.filterMap_cons, e1, e2]; exact .cons r ih
  · rw [if_neg h, if_neg h]; exact .nil
theorem pick_da {K : PySem.W.Frag} {Z : Hp} {n m : Nat} {perm : List Nat} {vs zs : List V} {ds es : List D} (h1 : DpAll K Z vs ds) (h2 : DpAll K Z zs es) : DpAll K Z (pick n m perm vs zs) (pick n m perm ds es) := by
  unfold pick
  rw [da_length h1, da_length h2]
  by_cases h : ds.length = n ∧ es.length = m
  · rw [if_pos h, if_pos h]
    have ha := da_append h1 h2
    have hl := da_length ha
    induction perm with
    | nil => exact .nil
    | cons i perm ih =>
      rw [List.filterMap_cons, List.filterMap_cons]
      cases e : (ds ++ es)[i]? with
      | none =>
        have : (vs ++ zs)[i]? = none := by
          rw [List.getElem?_eq_none_iff] at e ⊢
          omega
        rw [this]; exact ih
      | some d =>
        obtain ⟨v, e1, q⟩ := da_get ha e
        rw [e1]; exact .cons q ih
  · rw [if_neg h, if_neg h]; exact .nil
def eCallK (g : Fn) (n m : Nat) (perm : List Nat) (f fk : Fx (List D)) : Fx R := fun env => (f env).bind fun p => (fk p.2).bind fun q => match g ((pick n m perm p.1 q.1).map .val) with
  | some (r, []) => some (r, q.2)
  | _ => none
theorem vals_av {K : PySem.W.Frag} {F Z H : Hp} : ∀ {vs : List V} {ds : List D}, DpAll K Z vs ds → AvOk K F Z H vs (ds.map .val)
  | _, _, .nil => .nil
  | _, _, .cons h t => .val h (vals_av t)
theorem vals_adr : ∀ (vs : List V) (ds : List D), ownAdr vs (ds.map AV.val) = []
  | [], [] => rfl
  | [], _ :: _ => rfl
  | v :: _, [] => by cases v <;> rfl
  | v :: vs, d :: ds => by
    have := vals_adr vs ds
    cases v <;> exact this
def tKd (K : PySem.W.Frag) (f : Fx (List D)) : TA := tAd K f
theorem tCallK_of {K : PySem.W.Frag} {np n m : Nat} {perm : List Nat} {g : Fn} {f fk : Fx (List D)} {E : XK} {σ : L2.St} {H : Hp} {Q : VK} (hp : perm.length = np) (hv : ∀ i ∈ perm, i < n + m)
    (h : tR K (eCallK g n m perm f fk) σ H Q) (h1 : ∀ env ds env', f env = some (ds, env') → ds.length = n) (h2 : ∀ env ds env', fk env = some (ds, env') → ds.length = m) : tCallK (spF K np g) (pick n m perm) E (tAd K f) (tAd K fk) σ H Q := by
  obtain ⟨F, pa, Z, env, r, env', W, e, k⟩ := h
  unfold eCallK at e
  cases e1 : f env with
  | none => rw [e1] at e; cases e
  | some p =>
    rw [e1, Option.bind_some] at e
    cases e2 : fk p.2 with
    | none => rw [e2] at e; cases e
    | some q =>
      rw [e2, Option.bind_some] at e
      split at e
      · rename_i r' e3
        cases e
        refine ⟨F, pa, Z, env, p.1, p.2, W, e1, fun vs Z1 H1 g1 W1 q1 => ⟨F, pa, Z1, p.2, q.1, q.2, W1, e2, fun zs Z2 H2 g2 W2 q2 => ?_⟩⟩
        have da := pick_da (n := n) (m := m) (perm := perm) (DpAll.mono g2.zz _ _ q1) q2
        have l1 := h1 _ _ _ e1
        have l2 := h2 _ _ _ e2
        have pl : ∀ perm : List Nat, (∀ i ∈ perm, i < n + m) → (perm.filterMap fun i => (vs ++ zs)[i]?).length = perm.length := by
          intro perm hv
          induction perm with
          | nil => rfl
          | cons i perm ih =>
            have hi : i < (vs ++ zs).length := by
              rw [List.length_append, da_length q1, da_length q2, l1, l2]
              exact hv i (List.mem_cons_self ..)
            rw [List.filterMap_cons, show (vs ++ zs)[i]? = some (vs ++ zs)[i] by simp [hi]]
            exact congrArg Nat.succ (ih fun j hj => hv j (List.mem_cons_of_mem _ hj))
        refine ⟨?_, H2, Z2, (pick n m perm p.1 q.1).map .val, r, [], Same.refl _, W2.zh, vals_av da, e3, fun v Z3 H3 g3 f3 z3 o3 rt => ?_⟩
        · unfold pick
          rw [if_pos ⟨by rw [da_length q1, l1], by rw [da_length q2, l2]⟩, pl perm hv, hp]
        · have al : Alc Z2 H2 Z3 H3 := ⟨g3.zz, f3, z3, g3.nf⟩
          have W3 := W2.alc al
          refine k v Z3 H3 ((g1.trans g2).trans (al.gr W2.fh)) W3 ?_
          cases r with
          | val d => exact rt
          | fresh ds =>
            obtain ⟨pp, us, rfl, b1, b2, b3, b4, b5⟩ := rt
            refine ⟨pp, us, rfl, b1, b2, W2.fh.free b3, b5, fun i o s q1 q2 q3 => ?_⟩
            obtain ⟨us', c1, _⟩ := (W2.sl i o s q1 q2).at_ ((W2.sl i o s q1 q2).back (fun b u _ h => f3 b u h) q3)
            rw [b3] at c1; cases c1
          | mat dss =>
            obtain ⟨pp, us, bs, rfl, b1, b2, b3, b4, b5, b6⟩ := rt
            refine ⟨pp, us, bs, rfl, b1, b2, W2.fh.free b3, b4.mono (fun _ _ h => h) (fun _ _ _ h => h) (fun a m h => W2.fh.free h) (fun _ _ => rfl), b5, fun q hq i o s q1 q2 q3 => ?_⟩
            obtain ⟨us', c1, _⟩ := (W2.sl i o s q1 q2).at_ ((W2.sl i o s q1 q2).back (fun b u _ h => f3 b u h) q3)
            rcases hq with rfl | hq
            · rw [b3] at c1; cases c1
            · rw [(b4.mem hq).2.2.1] at c1; cases c1
      · cases e
end Ev
namespace Ev
open PySem PySem.Spec PyProof.Rows L2
open AutoSeq1 (wpAny_loadPart')
/-! ## enumerate over a tuple -/
theorem enum_newT (l : Addr) (items : Array Value) :
    Meets (Builtin.«enumerate.__new__» ⟨[.type "enumerate", .ref l], []⟩) (fun _ R s => s.heap.IsTuple l items ∧
      R (.ok (.ret (.ref (s.heap.push { cls := .type "tuple_iterator", data := .fields #[.ref l, .int 0 0] }).objs.size)))
        { s with heap := (s.heap.push { cls := .type "tuple_iterator", data := .fields #[.ref l, .int 0 0] }).push { cls := .type "enumerate", data := .fields #[.none, .bool false, .ref s.heap.objs.size, rawInt 0, .none, .none] } }) :=
  .of_wp fun prog w A R s h => by
    obtain ⟨hp, g, d, tk, os⟩ := s; obtain ⟨hT, h⟩ := h
    have hsub := sub_enumerate
    obtain ⟨ol, hol, hcl, nl, hdl⟩ := id hT
    wp_walk using wpAny_loadPart' hol
    refine wpAny_stack_any fun st => wpAny_pure ?_
    split
    · rename_i c _ _ _ _ _
      cases (c == Value.type "enumerate")
      · wp_walk using wpAny_loadPart' hol, wpAny_pyIter_tuple hT
        exact ⟨_, rfl, h⟩
      · wp_walk using wpAny_loadPart' hol, wpAny_pyIter_tuple hT
        exact ⟨_, rfl, h⟩
    · wp_walk using wpAny_loadPart' hol, wpAny_pyIter_tuple hT
      exact ⟨_, rfl, h⟩
section
variable {prog : Program} {w : World} {A : Around} {E : Value → Shared → Prop} {s : Shared}
theorem enum_callT {l : Addr} {items : Array Value} {Q : Value → Shared → Prop} (hL : s.heap.IsTuple l items)
    (h : ∀ h', IsEnum h' (s.heap.objs.size + 1) s.heap.objs.size 0 .none → h'.IsTupleIter s.heap.objs.size l 0 → h'.objs.size = s.heap.objs.size + 2 →
      (∀ b o, s.heap.get? b = some o → h'.get? b = some o) → Q (.ref (s.heap.objs.size + 1)) { s with heap := h' }) :
    wpAny (model prog w) A (call (.type "enumerate") [.ref l]) Q E s := by
  refine callType_new F.called_enumerate (by decide) (F.typeCall_enumerate_1 _) (F.newCall_enumerate_1 _) (fun obj => F.args_object_init_2 obj _) F.entry_enumerate_new
    (enum_newT l items) ⟨hL, ?_⟩
  have hz : (s.heap.push { cls := .type "tuple_iterator", data := .fields #[.ref l, .int 0 0] }).objs.size = s.heap.objs.size + 1 := Heap.size_push ..
  show _ ∧ _
  rw [hz]
  have he : IsEnum ((s.heap.push { cls := .type "tuple_iterator", data := .fields #[.ref l, .int 0 0] }).push
      { cls := .type "enumerate", data := .fields #[.none, .bool false, .ref s.heap.objs.size, rawInt 0, .none, .none] }) (s.heap.objs.size + 1) s.heap.objs.size 0 .none := by
    have := Heap.get?_push_size (s.heap.push { cls := .type "tuple_iterator", data := .fields #[.ref l, .int 0 0] })
      (o := { cls := .type "enumerate", data := .fields #[.none, .bool false, .ref s.heap.objs.size, rawInt 0, .none, .none] }) rfl
    rw [hz] at this; exact this
  refine ⟨⟨_, he, rfl⟩, h _ he ⟨_, Heap.get?_push_of_some _ (Heap.get?_push_size _ rfl), rfl, rfl⟩ (by rw [Heap.size_push, hz]) fun b o x => Heap.get?_push_of_some _ (Heap.get?_push_of_some _ x)⟩
end
/-- the tuple at a as it stands at each turn, each item in a new pair -/
def IteT (K : PySem.W.Frag) (a : Addr) : It :=
  ⟨fun i H => ∃ (xs : List V) (x : V), SqT K H a xs ∧ xs[i]? = some x, fun i H v H' => ∃ T x, v = .ref T ∧ H T = none ∧ H' = upd H T (.tup [.int (i : Nat), x]) ∧ ∀ xs, SqT K H a xs → xs[i]? = some x, fun i H => ∃ xs : List V, SqT K H a xs ∧ xs.length ≤ i⟩
theorem turn_enumT {P : Program} {w : World} {K : PySem.W.Frag} {elts : List Expr} {kk : Nat} {tpos : Pos} (a e it : Addr) :
    Turn P w K (.Tuple elts kk tpos) (IteT K a) [e, it] e (fun i h => (∃ old, IsEnum h e it ((i : Nat) : Int) old) ∧ h.IsTupleIter it a i ∧ e ≠ it ∧ a ≠ it ∧ a ≠ e) where
  mem := by simp
  obj := fun i h st b hb => by
    obtain ⟨⟨old, he⟩, ⟨o, ho, hc, hd⟩, _⟩ := st
    have e' : b = e ∨ b = it := by simpa using hb
    rcases e' with z | z
    · rw [z]; exact ⟨_, he, fun v q => nomatch q⟩
    · rw [z]; exact ⟨o, ho, fun v q => by rw [hd] at q; cases q⟩
  keep := fun i h h' st k => let ⟨⟨old, he⟩, hi, hne⟩ := st; ⟨⟨old, k e (by simp) _ he⟩, hi.at fun o q => k it (by simp) o q, hne⟩
  item := by
    intro X hP hw hK hc i pins s σ H E I hf st hg
    subst hP hw hK
    obtain ⟨⟨old, he⟩, hit, hne, hai, hae⟩ := st
    obtain ⟨xs, x, hq, hx⟩ := hg
    obtain ⟨its, rv, p, hz⟩ := I.tuple hq
    obtain ⟨u, hu, ru⟩ := rv.get hx
    have hel : e < s.heap.objs.size := Heap.lt_size he
    have hil : it < s.heap.objs.size := by obtain ⟨_, q, _⟩ := hit; exact Heap.lt_size q
    have hlt : i < its.toArray.size := by
      have := (List.getElem?_eq_some_iff.mp hu).1
      simpa using this
    have hiT : s.heap.IsTuple a its.toArray := p
    have hh : X.A.in1.handled = none := by
      have := I.ok.hd hc
      exact this
    refine wpAny_pyNext_enum_itemD (Draws.tuple hh it a hai its.toArray) he ⟨hit, hiT⟩ hlt hne (by simp [hne, hae.symm]) fun x' h' tk hP' ho hs' hT hsz hk => ?_
    have ex : x' = u := by
      have h1 : its.toArray[i]? = some u := by simpa using hu
      rw [h1] at hP'
      exact (Option.some.inj hP').symm
    subst ex
    refine ⟨_, rfl, wpAny_letOwnedTupleGo_enum (s := { s with heap := h', toks := tk + 1 }) ho fun h'' he' sb => ?_⟩
    have hT2 : h''.get? s.heap.objs.size = some { cls := .type "tuple", data := .seq #[.int i tk, x'] } := (sb.2 _ (Nat.ne_of_gt hel)).trans hT
    have new : ObjOk X.prog X.w (upd H s.heap.objs.size (.tup [.int (i : Nat), x])) h'' s.heap.objs.size (.tup [.int (i : Nat), x]) :=
      ⟨by show 2 ≤ sizeLine; decide, [.int i tk, x'], .cons ⟨_, rfl⟩ (.cons ru .nil), ⟨_, hT2, rfl, _, rfl⟩⟩
    have I1 : Inv X pins σ (upd H s.heap.objs.size (.tup [.int (i : Nat), x])) { s with heap := h'', toks := tk + 1 } :=
      I.turnedNew (ch := [e, it]) (fun b ob hb q => (sb.2 b (fun z => hb (by simp [z]))).trans (hk b ob (fun z => hb (by simp [z])) (fun z => hb (by simp [z])) q)) hf (Nat.le_refl _) new
    refine ⟨.ref s.heap.objs.size, _, I1, rfl, ⟨_, x, rfl, I.hok.fresh (Nat.le_refl _), rfl, fun ys hy => by rw [I.tuple_inj hy hq]; exact hx⟩, ⟨⟨x', ?_⟩, hs'.1.at fun o q => (sb.2 it (Ne.symm hne)).trans q, hne, hai, hae⟩, fun b hb => ?_⟩
    · have e1 : ((i + 1 : Nat) : Int) = (i : Int) + 1 := by omega
      rw [e1]; exact he'
    · have hb' : b < s.heap.objs.size := by
        have e' : b = e ∨ b = it := by simpa using hb
        rcases e' with z | z
        · rw [z]; exact hel
        · rw [z]; exact hil
      rw [upd_ne (Nat.ne_of_lt hb')]
      exact (hf b hb).1
  done := by
    intro X hP hw hK hc i pins s σ H E I hf st hg
    subst hP hw hK
    obtain ⟨⟨old, he⟩, hit, hne, hai, hae⟩ := st
    obtain ⟨xs, hq, hx⟩ := hg
    obtain ⟨its, rv, p, hz⟩ := I.tuple hq
    obtain ⟨f0, f1, f2, f3, f4, f5⟩ := hf it (by simp)
    have hl := rv.length
    have hiT : s.heap.IsTuple a its.toArray := p
    have hh : X.A.in1.handled = none := I.ok.hd hc
    have hn : its.toArray[i]? = none := by simp; omega
    have DD : Draws X.prog X.w X.A.in1 it [it, a] i (fun _ _ => False) (fun j h => j = i ∧ h.IsTupleIter it a i ∧ h.IsTuple a its.toArray) :=
      ⟨fun j h st => let ⟨o, ho, _⟩ := st.2.1; ⟨o, ho⟩, fun j h h' st hk => ⟨st.1, st.2.1.at fun o e => hk it (by simp) o e, st.2.2.at fun o e => hk a (by simp) o e⟩,
        fun j s Q E hj st _ => absurd st.1 (by omega), fun s Q E st hE => wpAny_nextOf_tuple_end hh st.2.1 st.2.2 hn hE⟩
    exact wpAny_pyNext_enum_endD DD he ⟨rfl, hit, hiT⟩ fun h' eb => ⟨rfl, I.turned (t' := s.toks) (fun b o hb q => eb b o hb q) f0 f1 f3 f4 f5⟩
  self := fun A i s Q E st h => let ⟨⟨_, he⟩, _⟩ := st; wpAny_pyIter_enum he h
def iEnumA (K : PySem.W.Frag) (te : TE) : TI := fun σ H R => te σ H fun v H1 => ∃ a, v = .ref a ∧ ((∃ xs, SqL K H1 a xs ∧ R (Ite K a) H1) ∨ (∃ xs, SqT K H1 a xs ∧ R (IteT K a) H1))
theorem pi_enumA {X : Cx} {e : Expr} {te : TE} {p pos tpos : Pos} {elts : List Expr} {kk : Nat} (hg : Gl X "enumerate") (hm : X.mg "enumerate" = none) (he : PE X e te) (hs : starEach [e] X.env = [(false, eval e X.env)] := by rfl) :
    PI X (.Tuple elts kk tpos) (.Call (.Name "enumerate" p) [e] [] pos) (iEnumA X.K te) := by
  refine ⟨fun pins s σ H R I h => ?_⟩
  refine Call_ (ld_blt I hg hm PyProof.Rows.boot_enumerate (PyProof.Rows.callWith_type1 (PyProof.Rows.args_cons (thn (he.run pins s σ H _ I h) fun u s1 ⟨v, H1, I1, r1, q1⟩ => PyProof.Rows.args_nil ?_) hs) hs rfl))
  obtain ⟨a, ex, q⟩ := q1
  subst ex
  cases r1
  have fp : ∀ b, b ∈ [s1.heap.objs.size + 1, s1.heap.objs.size] → FpOk X pins H1 b := fun b hb => by
    have e' : b = s1.heap.objs.size + 1 ∨ b = s1.heap.objs.size := by simpa using hb
    have hle : s1.heap.objs.size ≤ b := by
      rcases e' with z | z
      · rw [z]; exact Nat.le_add_right _ _
      · rw [z]; exact Nat.le_refl _
    exact I1.fpOk hle (I1.hok.fresh hle)
  rcases q with ⟨xs, hq, q⟩ | ⟨xs, hq, q⟩
  · obtain ⟨its, rv, p', hz⟩ := I1.list hq
    refine call_enumerate_list p'.isList fun h' he hit hsz hk => wpAny_pyIter_enum he ?_
    have I2 : Inv X pins σ H1 { s1 with heap := h' } := I1.kept (t' := s1.toks) hk
    exact ⟨s1.heap.objs.size + 1, [s1.heap.objs.size + 1, s1.heap.objs.size], _, _, H1, rfl, I2, turn_enum a (s1.heap.objs.size + 1) s1.heap.objs.size, ⟨⟨.none, he⟩, hit, Nat.succ_ne_self _⟩, fp, q⟩
  · obtain ⟨its, rv, p', hz⟩ := I1.tuple hq
    have hT : s1.heap.IsTuple a its.toArray := p'
    have hal : a < s1.heap.objs.size := by obtain ⟨_, z, _⟩ := hT; exact Heap.lt_size z
    refine enum_callT hT fun h' he hit hsz hk => wpAny_pyIter_enum he ?_
    have I2 : Inv X pins σ H1 { s1 with heap := h' } := I1.kept (t' := s1.toks) hk
    exact ⟨s1.heap.objs.size + 1, [s1.heap.objs.size + 1, s1.heap.objs.size], _, _, H1, rfl, I2, turn_enumT a (s1.heap.objs.size + 1) s1.heap.objs.size, ⟨⟨.none, he⟩, hit, Nat.succ_ne_self _, Nat.ne_of_lt hal, Nat.ne_of_lt (Nat.lt_succ_of_lt hal)⟩, fp, q⟩
def enumD : Nat → List D → List D
  | _, [] => []
  | n, d :: ds => .tuple [.int (n : Nat), d] :: enumD (n + 1) ds
theorem enumD_get : ∀ {ds : List D} {n i : Nat} {d : D}, (enumD n ds)[i]? = some d → ∃ a, ds[i]? = some a ∧ d = .tuple [.int ((n + i : Nat)), a]
  | [], _, _, _, h => by simp [enumD] at h
  | a :: as, n, 0, d, h => by simp [enumD] at h; exact ⟨a, rfl, h.symm⟩
  | a :: as, n, i + 1, d, h => by
    obtain ⟨b, h1, h2⟩ := enumD_get (ds := as) (n := n + 1) (i := i) (d := d) (by simpa [enumD] using h)
    exact ⟨b, by simpa using h1, by rw [h2, show n + 1 + i = n + (i + 1) by omega]⟩
theorem enumD_len : ∀ (ds : List D) (n : Nat), (enumD n ds).length = ds.length
  | [], _ => rfl
  | _ :: ds, n => congrArg Nat.succ (enumD_len ds (n + 1))
def iEnum (f : Fx D) : Fx (List D) := fun env => (f env).bind fun p => (seqD p.1).map fun ds => (enumD 0 ds, p.2)
theorem s_enum {X : Cx} {e : Expr} {f : Fx D} {p pos tpos : Pos} {elts : List Expr} {kk : Nat} (h : PE X e (tE X.K f)) (hg : Gl X "enumerate") (hm : X.mg "enumerate" = none) (hs : starEach [e] X.env = [(false, eval e X.env)]) :
    PI X (.Tuple elts kk tpos) (.Call (.Name "enumerate" p) [e] [] pos) (tI X.K (iEnum f)) := by
  refine PI.imp (pi_enumA hg hm h hs) fun σ H R ⟨F, pa, Z, env, ds, env', W, e, k⟩ => ?_
  unfold iEnum at e
  cases e1 : f env with
  | none => rw [e1] at e; cases e
  | some q =>
    rw [e1, Option.bind_some] at e
    cases e3 : seqD q.1 with
    | none => rw [e3] at e; cases e
    | some zs =>
      rw [e3] at e
      cases e
      refine ⟨F, pa, Z, env, q.1, q.2, W, e1, fun vs Z1 H1 g1 W1 q1 => ?_⟩
      generalize q.1 = dd at q1 e3
      have pair : ∀ {Z H : Hp} {T : Addr} {i : Int} {y : V} {b : D}, Same Z H → H T = none → Dp X.K Z y b → ∃ Z2, Alc Z H Z2 (upd H T (.tup [.int i, y])) ∧ Dp X.K Z2 (.ref T) (.tuple [.int i, b]) := fun {Z H T i y b} zh hT d2 => by
        have al := Alc.new (o := .tup [.int i, y]) zh hT
        exact ⟨_, al, .tup (SqT.of upd_same) (.cons (.int i) (.cons (Dp.mono al.zz _ _ d2) .nil))⟩
      cases q1 with
      | @lst a us ds' hsa ha =>
        cases e3
        refine ⟨a, rfl, .inl ⟨us, W1.zh.seq hsa, k _ Z1 H1 g1 W1 fun Z H z1 zh i => ⟨fun d hd => ?_, fun hi => ?_⟩⟩⟩
        · obtain ⟨da, hA, rfl⟩ := enumD_get hd
          obtain ⟨va, ea, qa⟩ := da_get ha hA
          have sa := zh.seq (z1.seq hsa)
          refine ⟨⟨us, va, sa, ea⟩, fun x H2 ⟨T, x1, ex, hT, eH, y1'⟩ => ?_⟩
          subst ex eH
          have t1 := y1' us sa
          rw [ea] at t1
          cases t1
          rw [Nat.zero_add]
          exact pair zh hT (Dp.mono z1 _ _ qa)
        · rw [enumD_len] at hi
          exact ⟨us, zh.seq (z1.seq hsa), by rw [da_length ha]; exact hi⟩
      | @tup a us ds' hsa ha =>
        cases e3
        refine ⟨a, rfl, .inr ⟨us, Same.sqT W1.zh hsa, k _ Z1 H1 g1 W1 fun Z H z1 zh i => ⟨fun d hd => ?_, fun hi => ?_⟩⟩⟩
        · obtain ⟨da, hA, rfl⟩ := enumD_get hd
          obtain ⟨va, ea, qa⟩ := da_get ha hA
          have sa := Same.sqT zh (Same.sqT z1 hsa)
          refine ⟨⟨us, va, sa, ea⟩, fun x H2 ⟨T, x1, ex, hT, eH, y1'⟩ => ?_⟩
          subst ex eH
          have t1 := y1' us sa
          rw [ea] at t1
          cases t1
          rw [Nat.zero_add]
          exact pair zh hT (Dp.mono z1 _ _ qa)
        · rw [enumD_len] at hi
          exact ⟨us, Same.sqT zh (Same.sqT z1 hsa), by rw [da_length ha]; exact hi⟩
      | _ => cases e3
end Ev
namespace Ev
open PySem PySem.Spec PyProof.Rows L2
theorem andB {a b : Bool} (h : (a && b) = true) : a = true ∧ b = true := by simpa using h
/-! ## sorted -/
section
variable {X : Cx}
theorem isPair_inj {h : Heap} {v : Value} {x y x' y' : Int} (a : Srt.IsPair h v x y) (b : Srt.IsPair h v x' y') : x = x' ∧ y = y' := by
  obtain ⟨p, o, t, u, n, rfl, h1, h2, h3⟩ := a
  obtain ⟨p', o', t', u', n', e, h1', h2', h3'⟩ := b
  cases e
  rw [h1] at h1'
  cases h1'
  rw [h3] at h3'
  cases h3'
  exact ⟨rfl, rfl⟩
def tupAt (K : PySem.W.Frag) (H : Hp) (y : V) (p : Int × Int) : Prop := ∃ t, y = .ref t ∧ SqT K H t [.int p.1, .int p.2]
def lexLe (p q : Int × Int) : Bool := !SrtO.lexB q p
def rSortedP (K : PySem.W.Frag) : List V → Hp → VK → Prop := fun vs H Q => ∃ (a : Addr) (ys : List V) (ks : List (Int × Int)), vs = [V.ref a] ∧ SqL K H a ys ∧ ys.length = ks.length ∧ (∀ (i : Nat) (y : V) (p : Int × Int), ys[i]? = some y → ks[i]? = some p → tupAt K H y p) ∧
  ∀ (zs : List V) (ks' : List (Int × Int)) (p : Addr), zs.length = ks'.length → (∀ (i : Nat) (y : V) (p : Int × Int), zs[i]? = some y → ks'[i]? = some p → ∃ j : Nat, ys[j]? = some y ∧ ks[j]? = some p) → ks'.Perm ks → ks'.Pairwise (fun p q => lexLe p q = true) → H p = none → Q (.ref p) (upd H p (.lst zs))
theorem cr_sortedP : CallR X (.builtin "sorted") (rSortedP X.K) := by
  intro pins s σ H vs us Q I r h
  obtain ⟨a, ys, ks, rfl, hs, hl, ht, q⟩ := h
  obtain ⟨its, rv, pl, hz⟩ := I.list hs
  rw [Vals.ref1 r]
  have hli : ys.length = its.length := rv.length
  obtain ⟨b1, b2⟩ := refs_back rv fun x m => by
    obtain ⟨i, hi⟩ := List.mem_iff_getElem?.mp m
    have hk : i < ks.length := by have := (List.getElem?_eq_some_iff.mp hi).1; omega
    obtain ⟨t, e, _⟩ := ht i x ks[i] hi (List.getElem?_eq_getElem hk)
    exact ⟨t, e⟩
  have pr : ∀ (i : Nat) (v : Value) (p : Int × Int), its[i]? = some v → ks[i]? = some p → Srt.IsPair s.heap v p.1 p.2 ∧ tupAt X.K H (backV v) p := fun i v p hv hp => by
    have hb : ys[i]? = some (backV v) := by rw [b1, List.getElem?_map, hv]; rfl
    obtain ⟨t, et, hq⟩ := ht i _ p hb hp
    obtain ⟨a', ea⟩ := b2 v (List.mem_of_getElem? hv)
    subst ea
    have : a' = t := by cases et; rfl
    subst this
    obtain ⟨its2, r2, hT, _⟩ := I.tuple hq
    obtain ⟨u1, u2, rfl, ri, rj⟩ := vals2 r2
    obtain ⟨t1, rfl⟩ := ri
    obtain ⟨t2, rfl⟩ := rj
    obtain ⟨o, ho, hc, n, hd⟩ := hT
    exact ⟨⟨a', o, t1, t2, n, rfl, ho, hc, hd⟩, a', rfl, hq⟩
  have hk : ∀ v : Value, ∃ p : Int × Int, (∃ p : Int × Int, Srt.IsPair s.heap v p.1 p.2) → Srt.IsPair s.heap v p.1 p.2 := fun v => by
    by_cases c : ∃ p : Int × Int, Srt.IsPair s.heap v p.1 p.2
    · obtain ⟨p, hp⟩ := c
      exact ⟨p, fun _ => hp⟩
    · exact ⟨(0, 0), fun z => absurd z c⟩
  obtain ⟨k, hk⟩ := Classical.axiomOfChoice hk
  have kp : ∀ (i : Nat) (v : Value) (p : Int × Int), its[i]? = some v → ks[i]? = some p → k v = p := fun i v p hv hp => by
    have h1 := (pr i v p hv hp).1
    have h2 := hk v ⟨p, h1⟩
    obtain ⟨e1, e2⟩ := isPair_inj h2 h1
    exact Prod.ext e1 e2
  have hmap : its.map k = ks := by
    refine List.ext_getElem? fun i => ?_
    rw [List.getElem?_map]
    by_cases hi : i < its.length
    · have e1 := List.getElem?_eq_getElem hi
      have hi2 : i < ks.length := by omega
      have e2 := List.getElem?_eq_getElem hi2
      rw [e1, e2, Option.map_some, kp i _ _ e1 e2]
    · rw [List.getElem?_eq_none (by omega), List.getElem?_eq_none (by omega)]
      rfl
  have tm : ∀ v ∈ its, Srt.IsPair s.heap v (k v).1 (k v).2 ∧ tupAt X.K H (backV v) (k v) := fun v hv => by
    obtain ⟨i, hi⟩ := List.mem_iff_getElem?.mp hv
    have hk2 : i < ks.length := by have := (List.getElem?_eq_some_iff.mp hi).1; omega
    have e2 := List.getElem?_eq_getElem hk2
    rw [kp i v _ hi e2]
    exact pr i v _ hi e2
  refine SrtO.sorted_ord (SrtO.swo_lex k) pl.isList (by rw [← hli]; exact hz) (fun h2 h₁ a' ha' kk => ?_) fun out h1 h2 => ?_
  · refine SrtO.pairs_sortableO (s := { s with heap := h₁ }) (by omega) (fun v hm => (tm v hm).1.keeps fun b o e _ => (kk b o e).2) fun o e => ?_
    have e' : some o = some (seqObj "list" its.toArray 0) := e.symm.trans ha'
    cases e'
    intro c
    exact absurd (Value.type.inj c) (by decide)
  · obtain ⟨ep, he'⟩ := PyProof.Rows.sortedAll_at s.heap its out.toArray
    have hmem : ∀ v ∈ out, v ∈ its := fun v hv => h2.perm.mem_iff.mp hv
    have h3 : ∀ u ∈ out, ∃ a, u = Value.ref a := fun u hu => b2 u (hmem u hu)
    have hlo : out.length = its.length := h2.len
    have hlen : (out.map backV).length ≤ sizeLine := by rw [List.length_map, hlo, ← hli]; exact hz
    refine ⟨.ref _, upd H (s.heap.objs.size + 1) (.lst (out.map backV)), I.laid (t' := s.toks) (fun _ _ => PyProof.Rows.sortedAll_old) (Nat.le_succ _) ⟨hlen, out, ep, vals_back h3, he'⟩, rfl, q (out.map backV) (out.map k) _ (by rw [List.length_map, List.length_map]) (fun i y p hy hp => ?_) ?_ ?_ (I.hok.fresh (Nat.le_succ _))⟩
    · rw [List.getElem?_map] at hy hp
      cases e : out[i]? with
      | none => rw [e] at hy; cases hy
      | some v =>
        rw [e] at hy hp
        cases hy; cases hp
        obtain ⟨j, hj⟩ := List.mem_iff_getElem?.mp (hmem v (List.mem_of_getElem? e))
        have hk2 : j < ks.length := by have := (List.getElem?_eq_some_iff.mp hj).1; omega
        have e2 := List.getElem?_eq_getElem hk2
        refine ⟨j, ?_, ?_⟩
        · rw [b1, List.getElem?_map, hj]; rfl
        · rw [e2, kp j v _ hj e2]
    · rw [← hmap]
      exact h2.perm.map k
    · refine List.pairwise_map.mpr (h1.imp fun {x y} h => ?_)
      show (!SrtO.lexB (k y) (k x)) = true
      have h' : SrtO.lexB (k y) (k x) = false := h
      rw [h']
      rfl
end
def sortI (ns : List Int) : List Int := ns.mergeSort fun i j => decide (i ≤ j)
theorem sortI_perm (ns : List Int) : (sortI ns).Perm ns := List.mergeSort_perm ..
theorem sortI_le (ns : List Int) : (sortI ns).Pairwise (· ≤ ·) :=
  (List.pairwise_mergeSort (le := fun i j => decide (i ≤ j)) (fun a b c h1 h2 => decide_eq_true (Int.le_trans (of_decide_eq_true h1) (of_decide_eq_true h2))) (fun a b => by
    by_cases h : a ≤ b
    · simp [h]
    · simp [h]; omega) ns).imp fun h => of_decide_eq_true h
theorem sortI_uniq {ns ns' : List Int} (h1 : ns'.Perm ns) (h2 : ns'.Pairwise (· ≤ ·)) : ns' = sortI ns :=
  List.Perm.eq_of_pairwise (fun a b _ _ h1 h2 => Int.le_antisymm h1 h2) h2 (sortI_le ns) (h1.trans (sortI_perm ns).symm)
def sortP (ps : List (Int × Int)) : List (Int × Int) := ps.mergeSort lexLe
theorem lexLe_iff {p q : Int × Int} : lexLe p q = true ↔ p.1 < q.1 ∨ (p.1 = q.1 ∧ p.2 ≤ q.2) := by
  unfold lexLe
  rw [Bool.not_eq_true', SrtO.lexB_no]
  omega
theorem sortP_perm (ps : List (Int × Int)) : (sortP ps).Perm ps := List.mergeSort_perm ..
theorem sortP_le (ps : List (Int × Int)) : (sortP ps).Pairwise (fun p q => lexLe p q = true) :=
  List.pairwise_mergeSort (le := lexLe) (fun a b c h1 h2 => by rw [lexLe_iff] at h1 h2 ⊢; omega) (fun a b => by
    cases h : lexLe a b with
    | true => rfl
    | false =>
      have : ¬ (lexLe a b = true) := by rw [h]; decide
      rw [lexLe_iff] at this
      show (false || lexLe b a) = true
      rw [Bool.false_or, lexLe_iff]
      omega) ps
theorem sortP_uniq {ps ps' : List (Int × Int)} (h1 : ps'.Perm ps) (h2 : ps'.Pairwise (fun p q => lexLe p q = true)) : ps' = sortP ps :=
  List.Perm.eq_of_pairwise (fun a b _ _ h1 h2 => by rw [lexLe_iff] at h1 h2; exact Prod.ext (by omega) (by omega)) h2 (sortP_le ps) (h1.trans (sortP_perm ps).symm)
/-- pairs of ints -/
def pairsOf : List D → Option (List (Int × Int))
  | [] => some []
  | .tuple [.int i, .int j] :: ds => (pairsOf ds).map ((i, j) :: ·)
  | _ => none
def eP2 (p : Int × Int) : D := .tuple [.int p.1, .int p.2]
theorem pairsOf_eq : ∀ {ds : List D} {ps : List (Int × Int)}, pairsOf ds = some ps → ds = ps.map eP2
  | [], ps, h => by cases h; rfl
  | d :: ds, ps, h => by
    unfold pairsOf at h
    split at h
    · rename_i e; cases e
    · rename_i i j ds' e
      cases e
      cases h2 : pairsOf ds with
      | none => rw [h2] at h; cases h
      | some qs =>
        rw [h2] at h
        cases h
        rw [pairsOf_eq h2]
        rfl
    · cases h
def gSorted : List D → Option D
  | [.list ds] => (match intsOf ds with
    | some ns => some (.list ((sortI ns).map .int))
    | none => (match pairsOf ds with
      | some ps => some (.list ((sortP ps).map eP2))
      | none => none))
  | _ => none
section
variable {X : Cx}
def gSortedI : List D → Option D
  | [.list ds] => (intsOf ds).map fun ns => .list ((sortI ns).map .int)
  | _ => none
def gSortedP : List D → Option D
  | [.list ds] => (pairsOf ds).map fun ps => .list ((sortP ps).map eP2)
  | _ => none
theorem ints_daS {K : PySem.W.Frag} {Z : Hp} : ∀ ns : List Int, DpAll K Z (ns.map V.int) (ns.map PyData.int)
  | [] => .nil
  | n :: ns => .cons (.int n) (ints_daS ns)
theorem c_sortedI : CallD X (.builtin "sorted") gSortedI := ⟨_, cr_sortedI, by
  intro Z H vs ds z Q zh q hz k
  unfold gSortedI at hz
  split at hz
  · rename_i ds'
    cases q with
    | cons h1 h2 =>
      cases h2
      cases h1 with
      | @lst a us _ hs ha =>
        cases e : intsOf ds' with
        | none => rw [e] at hz; cases hz
        | some ns =>
          rw [e] at hz
          cases hz
          have e2 := intsOf_da ha e
          subst e2
          refine ⟨a, ns, rfl, zh.seq hs, fun ns' p h1 h2 hp => ?_⟩
          have e3 := sortI_uniq h1 h2
          subst e3
          have al := Alc.new (o := .lst ((sortI ns).map V.int)) zh hp
          exact k _ _ _ al (.lst (SqL.of upd_same) (ints_daS _))
  · cases hz⟩
theorem tups_da {K : PySem.W.Frag} {Z : Hp} : ∀ (zs : List V) (ks : List (Int × Int)), zs.length = ks.length → (∀ (i : Nat) (y : V) (p : Int × Int), zs[i]? = some y → ks[i]? = some p → tupAt K Z y p) → DpAll K Z zs (ks.map eP2)
  | [], [], _, _ => .nil
  | [], _ :: _, h, _ => by simp at h
  | _ :: _, [], h, _ => by simp at h
  | z :: zs, p :: ks, h, ht => by
    obtain ⟨t, rfl, hq⟩ := ht 0 z p rfl rfl
    exact .cons (.tup hq (.cons (.int _) (.cons (.int _) .nil))) (tups_da zs ks (by simpa using h) fun i y q a b => ht (i + 1) y q (by simpa using a) (by simpa using b))
theorem tupAt.of {K : PySem.W.Frag} {Z : Hp} {v : V} {p : Int × Int} (h : Dp K Z v (eP2 p)) : tupAt K Z v p := by
  cases h with
  | @tup a us _ hs ha =>
    cases ha with
    | cons h1 h2 =>
      cases h2 with
      | cons h3 h4 =>
        cases h4; cases h1; cases h3
        exact ⟨a, rfl, hs⟩
theorem tupAt.mono {K : PySem.W.Frag} {Z Z' : Hp} (s : Same Z Z') {v : V} {p : Int × Int} (h : tupAt K Z v p) : tupAt K Z' v p := by
  obtain ⟨t, e, hq⟩ := h
  exact ⟨t, e, Same.sqT s hq⟩
theorem c_sortedP : CallD X (.builtin "sorted") gSortedP := ⟨_, cr_sortedP, by
  intro Z H vs ds z Q zh q hz k
  unfold gSortedP at hz
  split at hz
  · rename_i ds'
    cases q with
    | cons h1 h2 =>
      cases h2
      cases h1 with
      | @lst a us _ hs ha =>
        cases e : pairsOf ds' with
        | none => rw [e] at hz; cases hz
        | some ps =>
          rw [e] at hz
          cases hz
          have e2 := pairsOf_eq e
          subst e2
          refine ⟨a, us, ps, rfl, zh.seq hs, by rw [da_length ha, List.length_map], fun i y p hy hp => ?_, fun zs ks' p h0 h1 h2 h3 hp => ?_⟩
          · obtain ⟨d, ed, qd⟩ := da_getV ha hy
            rw [List.getElem?_map, hp] at ed
            cases ed
            exact (tupAt.of qd).mono zh
          · have e3 := sortP_uniq h2 h3
            subst e3
            have al := Alc.new (o := .lst zs) zh hp
            -- what zs holds is frozen already
            have fz : ∀ (i : Nat) (y : V) (q : Int × Int), zs[i]? = some y → (sortP ps)[i]? = some q → tupAt X.K Z y q := fun i y q hy hq => by
              obtain ⟨j, j1, j2⟩ := h1 i y q hy hq
              obtain ⟨d, ed, qd⟩ := da_getV ha j1
              rw [List.getElem?_map, j2] at ed
              cases ed
              exact tupAt.of qd
            exact k _ _ _ al (.lst (SqL.of upd_same) (tups_da zs _ h0 fun i y q a b => (fz i y q a b).mono al.zz))
  · cases hz⟩
end
section
variable {X : Cx}
/-! ## lcm -/
def lcmOk (i j : Int) : Bool := decide (i.natAbs.log2 < 9000) && decide (j.natAbs.log2 < 9000)
theorem log_mul {m n : Nat} {a b : Nat} (hm : m.log2 < a) (hn : n.log2 < b) : (m * n).log2 < a + b := by
  by_cases h0 : m * n = 0
  · rw [h0]; simp; omega
  · have m0 : m ≠ 0 := fun z => h0 (by rw [z, Nat.zero_mul])
    have n0 : n ≠ 0 := fun z => h0 (by rw [z, Nat.mul_zero])
    rw [Nat.log2_lt h0, Nat.pow_add]
    exact Nat.mul_lt_mul'' ((Nat.log2_lt m0).mp hm) ((Nat.log2_lt n0).mp hn)
theorem log_le {m n k : Nat} (h : m ≤ n) (hn : n.log2 < k) (hk : 0 < k) : m.log2 < k := by
  by_cases m0 : m = 0
  · rw [m0]; simpa using hk
  · have n0 : n ≠ 0 := by omega
    exact (Nat.log2_lt m0).mpr (Nat.lt_of_le_of_lt h ((Nat.log2_lt n0).mp hn))
theorem lcm_lt {n : Nat} (h : n < 2 ^ 64) : n.log2 < 9000 := by
  by_cases n0 : n = 0
  · rw [n0]; decide
  · exact Nat.lt_of_lt_of_le ((Nat.log2_lt n0).mpr h) (by decide)
def gLcm : List D → Option D := g2I lcmOk fun i j => .int (Nat.lcm i.natAbs j.natAbs)
theorem cr_lcm : CallR X (.builtin "math.lcm") (fun vs H Q => ∃ a b : Int, vs = [.int a, .int b] ∧ a.natAbs.log2 < 9000 ∧ b.natAbs.log2 < 9000 ∧ Q (.int ((Nat.lcm a.natAbs b.natAbs : Nat) : Int)) H) := by
  intro pins s σ H vs us Q I r h
  obtain ⟨a, b, rfl, ha, hb, q⟩ := h
  obtain ⟨t, u, rfl⟩ := Vals.int2 r
  have h1 : (max 1 a.natAbs).log2 < 9000 := by
    rcases Nat.le_total 1 a.natAbs with c | c
    · rw [Nat.max_eq_right c]; exact ha
    · rw [Nat.max_eq_left c]; decide
  have h2 : (max a.natAbs b.natAbs).log2 < 9000 := by
    rcases Nat.le_total a.natAbs b.natAbs with c | c
    · rw [Nat.max_eq_right c]; exact hb
    · rw [Nat.max_eq_left c]; exact ha
  have h3 : (((Nat.lcm 1 a.natAbs).lcm b.natAbs : Nat) : Int).natAbs.log2 < bitsLine := by
    rw [PySem.W.mc_lcm_one, Int.natAbs_natCast]
    exact Nat.lt_of_lt_of_le (log_le (PySem.W.mc_lcm_le _ _) (log_mul ha hb) (by omega)) (by decide)
  refine call_function_meets PySem.W.MGF.kind_lcm PySem.W.MGF.plain_lcm PySem.W.MGF.entry_lcm (PySem.W.MGF.args_lcm _ _) (PySem.W.mg_run_lcm a t b u (by omega) (by omega) h3).meets ?_
  rw [PySem.W.mc_lcm_one]
  exact ⟨.int _, H, I.tok _, ⟨_, rfl⟩, q⟩
theorem c_lcm : CallD X (.builtin "math.lcm") gLcm := ⟨_, cr_lcm, by
  intro Z H vs ds z Q zh q hz k
  obtain ⟨i, j, rfl, hc, rfl⟩ := two_int q hz
  obtain ⟨c1, c2⟩ := andB hc
  exact ⟨i, j, rfl, of_decide_eq_true c1, of_decide_eq_true c2, k _ Z H (.refl zh) (.int _)⟩⟩
/-! ## repr of ints, True, False, None -/
def gRepr : List D → Option D
  | [.int i] => if i.natAbs.log2 < 1920 then some (.str (toString i)) else none
  | [.bool b] => some (.str (if b = true then "True" else "False"))
  | [.none] => some (.str "None")
  | _ => none
theorem cr_repr : CallR X (.builtin "repr") (fun vs H Q => (∃ i : Int, vs = [.int i] ∧ i.natAbs.log2 < 1920 ∧ Q (.str (toString i)) H) ∨ (∃ b, vs = [.bl b] ∧ Q (.str (if b = true then "True" else "False")) H) ∨ (vs = [.non] ∧ Q (.str "None") H)) := by
  intro pins s σ H vs us Q I r h
  rcases h with ⟨i, rfl, hz, q⟩ | ⟨b, rfl, q⟩ | ⟨rfl, q⟩
  · obtain ⟨u, rfl, t, rfl⟩ := vals1 r
    exact PySem.P.repr_of_int hz ⟨.str _, H, I.tok _, ⟨_, rfl⟩, q⟩
  · obtain ⟨u, rfl, ru⟩ := vals1 r
    cases ru
    exact PySem.P.repr_of_bool ⟨.str _, H, I.tok _, ⟨_, rfl⟩, by cases b <;> exact q⟩
  · obtain ⟨u, rfl, ru⟩ := vals1 r
    cases ru
    exact PySem.P.repr_of_none ⟨.str _, H, I.tok _, ⟨_, rfl⟩, q⟩
theorem c_repr : CallD X (.builtin "repr") gRepr := ⟨_, cr_repr, by
  intro Z H vs ds z Q zh q hz k
  unfold gRepr at hz
  split at hz
  · split at hz
    · cases hz
      cases q with
      | cons h1 h2 =>
        cases h2; cases h1
        exact .inl ⟨_, rfl, by assumption, k _ Z H (.refl zh) (.str _)⟩
    · cases hz
  · cases hz
    cases q with
    | cons h1 h2 =>
      cases h2; cases h1
      exact .inr (.inl ⟨_, rfl, k _ Z H (.refl zh) (.str _)⟩)
  · cases hz
    cases q with
    | cons h1 h2 =>
      cases h2; cases h1
      exact .inr (.inr ⟨rfl, k _ Z H (.refl zh) (.str _)⟩)
  · cases hz⟩
theorem c_sorted : CallD X (.builtin "sorted") gSorted := c_sortedI.or c_sortedP fun x z h => by
  unfold gSorted at h
  split at h
  · rename_i ds
    split at h
    · rename_i ns e
      cases h
      left
      show (intsOf ds).map _ = _
      rw [e]; rfl
    · split at h
      · rename_i ps e
        cases h
        right
        show (pairsOf ds).map _ = _
        rw [e]; rfl
      · cases h
  · cases h
/-! ## range with a step -/
def rg3Ok (i j c : Int) : Bool := decide (c ≠ 0) && (decide (c.natAbs < 1073741824) && Builtin.Range.small i j c)
def rangeC (i c : Int) (n : Nat) : List D := (List.range n).map fun k => .int (i + (k : Nat) * c)
def iRange3 (f g h : Fx D) : Fx (List D) := fun env => match f env with
  | some (.int i, e) => (match g e with
    | some (.int j, e2) => (match h e2 with
      | some (.int c, e3) => if rg3Ok i j c = true ∧ 0 ≤ Builtin.Range.rangeSize i j c then some (rangeC i c (Builtin.Range.rangeSize i j c).toNat, e3) else none
      | _ => none)
    | _ => none)
  | _ => none
theorem rangeC_it (K : PySem.W.Frag) (Z1 : Hp) (lo c : Int) (n : Nat) : ItOk K Z1 (Itc lo c n) (rangeC lo c n) := by
  intro Z H _ zh i
  refine ⟨fun d hd => ?_, fun hi => (show n ≤ i by simpa [rangeC] using hi)⟩
  unfold rangeC at hd
  rw [List.getElem?_map] at hd
  cases e : (List.range n)[i]? with
  | none => rw [e] at hd; cases hd
  | some k =>
    rw [e] at hd; cases hd
    obtain ⟨hk, ek⟩ := List.getElem?_eq_some_iff.mp e
    rw [List.getElem_range] at ek
    subst ek
    refine ⟨show i < n by simpa using hk, fun x H2 ⟨e1, e2⟩ => ?_⟩
    subst e1 e2
    exact ⟨Z, .refl zh, .int _⟩
theorem s_range3 {tg a b c : Expr} {p pos : Pos} {fa fb fc : Fx D} (h1 : PE X a (tE X.K fa)) (h2 : PE X b (tE X.K fb)) (h3 : PE X c (tE X.K fc)) (hg : Gl X "range") (hm : X.mg "range" = none)
    (s1 : starEach [a, b, c] X.env = (false, eval a X.env) :: starEach [b, c] X.env) (s2 : starEach [b, c] X.env = (false, eval b X.env) :: starEach [c] X.env) (s3 : starEach [c] X.env = (false, eval c X.env) :: starEach [] X.env) :
    PI X tg (.Call (.Name "range" p) [a, b, c] [] pos) (tI X.K (iRange3 fa fb fc)) := by
  refine PI.imp (pi_range3 hg hm (pa_cons h1 (pa_cons h2 (pa_cons h3 pa_nil s3) s2) s1) s1 (by rw [s2, s3]; rfl)) fun σ H R ⟨F, pa, Z, env, ds, env', W, e, k⟩ => ?_
  unfold iRange3 at e
  split at e
  · rename_i i env1 e1
    split at e
    · rename_i j env2 e2
      split at e
      · rename_i c env3 e3
        split at e
        · rename_i hc
          cases e
          obtain ⟨c1, c2⟩ := andB hc.1
          obtain ⟨c2, c3⟩ := andB c2
          refine ⟨F, pa, Z, env, _, _, W, e1, fun v Z1 H1 g1 W1 q1 => ?_⟩
          cases q1
          refine ⟨F, pa, Z1, _, _, _, W1, e2, fun v Z2 H2 g2 W2 q2 => ?_⟩
          cases q2
          refine ⟨F, pa, Z2, _, _, _, W2, e3, fun v Z3 H3 g3 W3 q3 => ?_⟩
          cases q3
          refine ⟨i, j, c, (Builtin.Range.rangeSize i j c).toNat, rfl, ⟨of_decide_eq_true c1, of_decide_eq_true c2, c3, by omega⟩, k _ Z3 H3 ((g1.trans g2).trans g3) W3 (rangeC_it _ _ _ _ _)⟩
        · cases e
      · cases e
    · cases e
  · cases e
end
end Ev
namespace Ev
open PySem PySem.Spec PyProof.Rows L2
/-! ## comprehensions of two clauses -/
theorem wipeE_idem (vs ws : List Nat) (env : En) (hs : ∀ v ∈ vs, v ∈ ws) : wipeE (wipeE env ws) vs = wipeE env ws := by
  refine List.ext_getElem? fun i => ?_
  by_cases hi : i ∈ vs
  · have hl : (wipeE (wipeE env ws) vs).length = (wipeE env ws).length := wipeE_length _ _
    by_cases hb : i < (wipeE env ws).length
    · have e1 : (wipeE (wipeE env ws) vs)[i]? = some ((wipeE (wipeE env ws) vs)[i]'(by rw [hl]; exact hb)) := by simp [hl, hb]
      have e2 : (wipeE env ws)[i]? = some ((wipeE env ws)[i]) := by simp [hb]
      rw [e1, e2, wipeE_in hi e1, wipeE_in (hs i hi) e2]
    · rw [List.getElem?_eq_none (by omega), List.getElem?_eq_none (by omega)]
  · rw [wipeE_out hi]
theorem wipe_in' {σ : L2.St} {j : Nat} : ∀ {vs : List Nat}, j ∈ vs → j < σ.length → (wipe σ vs)[j]? = some none
  | [], h, _ => by cases h
  | v :: vs, h, hl => by
    unfold wipe
    by_cases hv : v = j
    · subst hv; rw [List.getElem?_set_self (by rw [wipe_length]; exact hl)]
    · rw [List.getElem?_set_ne hv]
      exact wipe_in' ((List.mem_cons.mp h).resolve_left fun z => hv z.symm) hl
theorem wipe_same {σ σ5 : L2.St} {vs sl : List Nat} (hsl : ∀ i ∈ sl, i ∈ vs) (l5 : σ5.length = (wipe σ vs).length) (k5 : ∀ i, i ∉ sl → σ5[i]? = (wipe σ vs)[i]?) : wipe σ5 vs = wipe σ vs := by
  refine List.ext_getElem? fun j => ?_
  have hlen : (wipe σ vs).length = σ.length := wipe_length σ vs
  by_cases hj : j ∈ vs
  · by_cases hb : j < σ.length
    · rw [wipe_in' hj (by rw [l5, hlen]; exact hb), wipe_in' hj hb]
    · rw [List.getElem?_eq_none (by rw [wipe_length, l5, hlen]; omega), List.getElem?_eq_none (by rw [hlen]; omega)]
  · rw [wipe_out' hj, k5 j (fun z => hj (hsl j z))]
/-- what holds between two turns -/
def LcI (K : PySem.W.Frag) (F : Hp) (pa : Nat → Option Addr) (p : Addr) (τ : L2.St) (vs : List Nat) (Z1 : Hp) (R : List D → En → Prop) (H : Hp) : Prop :=
  ∃ Z2 env3 us acc, Gr F Z1 Z2 ∧ Z2 p = none ∧ H p = some (.lst us) ∧ DpAll K Z2 us acc ∧ Wst K (upd F p (.lst us)) Z2 H pa τ env3 ∧ wipeE env3 vs = env3 ∧ R acc env3
theorem lcIn_of {K : PySem.W.Frag} {sl : List Nat} {g : Gf} {c : Fx Bool} {f : Fx D} {vs : List Nat} (hsl : ∀ i ∈ sl, i ∈ vs) {F : Hp} {pa : Nat → Option Addr} {p : Addr} (fp : F p = none) {ds : List D} {J : It} {Z1 : Hp} (io : ItOk K Z1 J ds) {σ : L2.St} {Nx : Hp → Prop} {res : List D} {env2 : En} {H4 : Hp}
    (fin : ∀ H, LcI K F pa p (wipe σ vs) vs Z1 (fun acc e => acc = res ∧ e = env2) H → Nx H) (st : LcI K F pa p (wipe σ vs) vs Z1 (fun acc e => compL g c f vs ds acc e = some (res, env2)) H4) :
    ∃ W1 : Nat → Nat → Hp → Prop, (∃ m, W1 0 m H4) ∧ ∀ j k H, W1 j k H →
      (J.stop j H ∧ Nx H) ∨ (J.go j H ∧ ∃ Nx1 : Hp → Prop, (∀ H', Nx1 H' → ∃ k', k' < k ∧ W1 (j + 1) k' H') ∧ ∀ x H', J.yld j H x H' → tG K sl g x (wipe σ vs) H' fun σ3 H5 => wipe σ3 vs = wipe σ vs ∧ tT K c σ3 H5 fun b H6 =>
        if b = true then tE K f σ3 H6 fun y H7 => ∃ acc, H7 p = some (.lst acc) ∧ acc.length < sizeLine ∧ Nx1 (upd H7 p (.lst (acc ++ [y]))) else Nx1 H6) := by
  refine ⟨fun i m H => m = ds.length - i ∧ LcI K F pa p (wipe σ vs) vs Z1 (fun acc e => compL g c f vs (ds.drop i) acc e = some (res, env2)) H, ⟨_, rfl, by simpa using st⟩, ?_⟩
  rintro i m H ⟨rfl, Z2, env3, us, acc, g2, z2, hH, da, W2, wz, e2⟩
  obtain ⟨io1, io2⟩ := io Z2 H g2.zz W2.zh i
  by_cases hi : i < ds.length
  · rw [List.drop_eq_getElem_cons hi] at e2
    obtain ⟨jg, jy⟩ := io1 ds[i] (by simp [hi])
    refine .inr ⟨jg, fun H' => LcI K F pa p (wipe σ vs) vs Z1 (fun acc e => compL g c f vs (ds.drop (i + 1)) acc e = some (res, env2)) H', fun H' q => ⟨ds.length - (i + 1), by omega, rfl, q⟩, fun x H2 y => ?_⟩
    obtain ⟨Z3, al, dp⟩ := jy x H2 y
    unfold compL at e2
    split at e2
    · rename_i env4 h4
      have W3 := W2.alc al
      have sf : Same F (upd F p (.lst us)) := upd_none fp
      refine ⟨_, pa, Z3, env3, _, env4, W3, dp, h4, fun σ5 Z5 H5 g5 W5 l5 k5 => ⟨wipe_same hsl l5 k5, ?_⟩⟩
      have l5' : (wipe σ vs).length = σ5.length := l5.symm
      have s5 : ∀ i, i ∉ vs → (wipe σ vs)[i]? = σ5[i]? := fun i h => (k5 i fun z => h (hsl i z)).symm
      have gz : ∀ {Z : Hp}, Gr (upd F p (.lst us)) Z5 Z → Z p = none := fun {Z} g => by
        rw [g.nf p (by rw [upd_same]; exact fun z => nomatch z), g5.nf p (by rw [upd_same]; exact fun z => nomatch z)]
        by_cases q : Z3 p = none
        · exact q
        · have : Z3 p = Z2 p := al.nw p (by rw [hH]; exact fun z => nomatch z)
          rw [this]; exact z2
      split at e2
      · rename_i env5 h5
        refine ⟨_, pa, Z5, env4, true, env5, W5, h5, fun Z6 H6 g6 W6 => iteT ?_⟩
        split at e2
        · rename_i yy env6 h6
          refine ⟨_, pa, Z6, env5, yy, env6, W6, h6, fun v Z7 H7 g7 W7 q7 => ?_⟩
          by_cases hl : acc.length < sizeLine
          · rw [if_pos hl] at e2
            have g37 : Gr (upd F p (.lst us)) Z5 Z7 := g6.trans g7
            have p7 : H7 p = some (.lst us) := W7.fh p _ upd_same
            have zz : Same Z2 Z7 := al.zz.trans (g5.zz.trans g37.zz)
            refine ⟨us, p7, by rw [da_length da]; exact hl, Z7, wipeE env6 vs, us ++ [v], acc ++ [yy], ?_, gz g37, upd_same, da_append (DpAll.mono zz _ _ da) (.cons q7 .nil), (W7.wipeTo l5' s5).updF (gz g37), wipeE_idem _ _ _ fun _ h => h, e2⟩
            exact g2.trans (((al.gr W2.fh).trans (g5.trans g37)).frame sf)
          · rw [if_neg hl] at e2; cases e2
        · cases e2
      · rename_i env5 h5
        refine ⟨_, pa, Z5, env4, false, env5, W5, h5, fun Z6 H6 g6 W6 => iteF ?_⟩
        have zz : Same Z2 Z6 := al.zz.trans (g5.zz.trans g6.zz)
        exact ⟨Z6, wipeE env5 vs, us, acc, g2.trans (((al.gr W2.fh).trans (g5.trans g6)).frame sf), gz g6, W6.fh p _ upd_same, DpAll.mono zz _ _ da, W6.wipeTo l5' s5, wipeE_idem _ _ _ fun _ h => h, e2⟩
      · cases e2
    · cases e2
  · rw [List.drop_eq_nil_of_le (by omega)] at e2
    cases e2
    exact .inl ⟨io2 (by omega), fin H ⟨Z2, _, us, _, g2, z2, hH, da, W2, wz, rfl, rfl⟩⟩
def compL2 (g : Gf) (c : Fx Bool) (it1 : Fx (List D)) (g1 : Gf) (c1 : Fx Bool) (f : Fx D) (vs vs1 : List Nat) : List D → List D → Fx (List D)
  | [], acc => fun env => some (acc, env)
  | d :: ds, acc => fun env => match g d env with
    | some e1 => (match c e1 with
      | some (true, e2) => (match it1 e2 with
        | some (ds1, e3) => (match compL g1 c1 f vs1 ds1 acc (wipeE e3 vs1) with
          | some (acc2, e4) => compL2 g c it1 g1 c1 f vs vs1 ds acc2 (wipeE e4 vs)
          | none => none)
        | none => none)
      | some (false, e2) => compL2 g c it1 g1 c1 f vs vs1 ds acc (wipeE e2 vs)
      | none => none)
    | none => none
def eComp2 (it : Fx (List D)) (g : Gf) (c : Fx Bool) (it1 : Fx (List D)) (g1 : Gf) (c1 : Fx Bool) (f : Fx D) (vs vs1 : List Nat) : Fx R := fun env => match it env with
  | some (ds, e) => (compL2 g c it1 g1 c1 f vs vs1 ds [] (wipeE e vs)).map fun p => (.fresh p.1, p.2)
  | none => none
theorem tLc2_of {K : PySem.W.Frag} {it it1 : Fx (List D)} {sl sl1 : List Nat} {g g1 : Gf} {c c1 : Fx Bool} {f : Fx D} {vs vs1 : List Nat} (hsl : ∀ i ∈ sl, i ∈ vs) (hsl1 : ∀ i ∈ sl1, i ∈ vs1) (hvv : ∀ i ∈ vs1, i ∈ vs) {σ : L2.St} {H : Hp} {Q : VK} (h : tR K (eComp2 it g c it1 g1 c1 f vs vs1) σ H Q) :
    tLc2 (tI K it) (tG K sl g) (tT K c) (tI K it1) (tG K sl1 g1) (tT K c1) (tE K f) vs vs1 σ H Q := by
  obtain ⟨F, pa, Z, env, r, env', W, e, k⟩ := h
  unfold eComp2 at e
  split at e
  · rename_i ds env1 h1
    cases h2 : compL2 g c it1 g1 c1 f vs vs1 ds [] (wipeE env1 vs) with
    | none => rw [h2] at e; cases e
    | some q =>
      obtain ⟨res, env2⟩ := q
      rw [h2] at e
      cases e
      refine ⟨F, pa, Z, env, ds, env1, W, h1, fun J Z1 H1 g1' W1 io p hp => ?_⟩
      have fp : F p = none := W1.fh.free hp
      have zp : Z1 p = none := W1.zh.free hp
      refine ⟨fun i m H => m = ds.length - i ∧ LcI K F pa p (wipe σ vs) vs Z1 (fun acc e => compL2 g c it1 g1 c1 f vs vs1 (ds.drop i) acc e = some (res, env2)) H,
        ⟨_, rfl, Z1, wipeE env1 vs, [], [], .refl .., zp, upd_same, .nil, ?_, wipeE_idem _ _ _ fun _ h => h, by rw [List.drop_zero]; exact h2⟩, ?_⟩
      · have W2 : Wst K (upd F p (.lst [])) Z1 (upd H1 p (.lst [])) pa σ env1 := by
          have al : Alc Z1 H1 Z1 (upd H1 p (.lst [])) := ⟨Same.refl _, upd_none hp, fun b u e => by rw [upd_ne (fun z => by subst z; rw [zp] at e; cases e)]; exact W1.zh b u e, fun _ _ => rfl⟩
          refine (W1.alc al).frameUp upd_same fun i o s e1 e2 e3 => ?_
          obtain ⟨us, b1, _⟩ := (W1.sl i o s e1 e2).at_ ((W1.sl i o s e1 e2).back (fun b u _ h => al.hh b u h) e3)
          rw [hp] at b1; cases b1
        exact W2.wiped
      · rintro i m H ⟨rfl, Z2, env3, us, acc, g2, z2, hH, da, W2, wz, e2⟩
        obtain ⟨io1, io2⟩ := io Z2 H g2.zz W2.zh i
        by_cases hi : i < ds.length
        · rw [List.drop_eq_getElem_cons hi] at e2
          obtain ⟨jg, jy⟩ := io1 ds[i] (by simp [hi])
          refine .inr ⟨jg, fun H' => LcI K F pa p (wipe σ vs) vs Z1 (fun acc e => compL2 g c it1 g1 c1 f vs vs1 (ds.drop (i + 1)) acc e = some (res, env2)) H', fun H' q => ⟨ds.length - (i + 1), by omega, rfl, q⟩, fun x H2 y => ?_⟩
          obtain ⟨Z3, al, dp⟩ := jy x H2 y
          unfold compL2 at e2
          split at e2
          · rename_i env4 h4
            have W3 := W2.alc al
            have sf : Same F (upd F p (.lst us)) := upd_none fp
            refine ⟨_, pa, Z3, env3, _, env4, W3, dp, h4, fun σ5 Z5 H5 g5 W5 l5 k5 => ⟨wipe_same hsl l5 k5, ?_⟩⟩
            have l5' : (wipe σ vs).length = σ5.length := l5.symm
            have s5 : ∀ i, i ∉ vs → (wipe σ vs)[i]? = σ5[i]? := fun i h => (k5 i fun z => h (hsl i z)).symm
            have gz : ∀ {Z : Hp}, Gr (upd F p (.lst us)) Z5 Z → Z p = none := fun {Z} g => by
              rw [g.nf p (by rw [upd_same]; exact fun z => nomatch z), g5.nf p (by rw [upd_same]; exact fun z => nomatch z)]
              by_cases q : Z3 p = none
              · exact q
              · have : Z3 p = Z2 p := al.nw p (by rw [hH]; exact fun z => nomatch z)
                rw [this]; exact z2
            split at e2
            · rename_i env5 h5
              refine ⟨_, pa, Z5, env4, true, env5, W5, h5, fun Z6 H6 g6 W6 => iteT ?_⟩
              split at e2
              · rename_i ds1 env6 h6
                refine ⟨_, pa, Z6, env5, ds1, env6, W6, h6, fun J1 Z7 H7 g7 W7 io7 => ?_⟩
                cases h8 : compL g1 c1 f vs1 ds1 acc (wipeE env6 vs1) with
                | none => rw [h8] at e2; cases e2
                | some q =>
                  obtain ⟨acc2, env8⟩ := q
                  rw [h8] at e2
                  have g37 : Gr (upd F p (.lst us)) Z5 Z7 := g6.trans g7
                  have g17 : Gr F Z1 Z7 := g2.trans (((al.gr W2.fh).trans (g5.trans g37)).frame sf)
                  have zz : Same Z2 Z7 := al.zz.trans (g5.zz.trans g37.zz)
                  refine lcIn_of hsl1 fp io7 (res := acc2) (env2 := env8) (fun H8 q8 => ?_) ⟨Z7, wipeE env6 vs1, us, acc, .refl .., gz g37, W7.fh p _ upd_same, DpAll.mono zz _ _ da, W7.wiped, wipeE_idem _ _ _ fun _ h => h, h8⟩
                  obtain ⟨Z9, env9, us9, acc9, g9, z9, hH9, da9, W9, wz9, rfl, rfl⟩ := q8
                  refine ⟨Z9, wipeE env9 vs, us9, acc9, g17.trans g9, z9, hH9, da9, ?_, wipeE_idem _ _ _ fun _ h => h, e2⟩
                  refine W9.wipeTo (by rw [wipe_length σ5]; exact l5') fun i h => ?_
                  rw [s5 i h, wipe_out' (fun z => h (hvv i z))]
              · cases e2
            · rename_i env5 h5
              refine ⟨_, pa, Z5, env4, false, env5, W5, h5, fun Z6 H6 g6 W6 => iteF ?_⟩
              have zz : Same Z2 Z6 := al.zz.trans (g5.zz.trans g6.zz)
              exact ⟨Z6, wipeE env5 vs, us, acc, g2.trans (((al.gr W2.fh).trans (g5.trans g6)).frame sf), gz g6, W6.fh p _ upd_same, DpAll.mono zz _ _ da, W6.wipeTo l5' s5, wipeE_idem _ _ _ fun _ h => h, e2⟩
            · cases e2
          · cases e2
        · rw [List.drop_eq_nil_of_le (by omega)] at e2
          cases e2
          have sf : Same F (upd F p (.lst us)) := upd_none fp
          have W3 := (W2.frame sf).wipeTo (σ' := σ) (vs := vs) (wipe_length σ vs).symm fun i h => (wipe_out' h).symm
          rw [wz] at W3
          refine .inl ⟨io2 (by omega), k _ Z2 H (g1'.trans g2) W3 ⟨p, us, rfl, hH, z2, fp, da, fun i o s q1 q2 q3 => ?_⟩⟩
          by_cases hj : i ∈ vs
          · rw [← wz] at q2
            rw [wipeE_in hj q2] at q3
            exact q3.no.elim
          · obtain ⟨_, _, z, _⟩ := (W2.sl i o s (by rw [wipe_out' hj]; exact q1) q2).at_ q3
            rw [upd_same] at z; cases z
  · cases e
section
variable {X : Cx}
theorem s_comp2 {elt tg iter tg1 iter1 : Expr} {ifs ifs1 : List Expr} {scope : Scope} {own : List (Str × Nat)} {vs1 : List Nat} {pos : Pos} {it it1 : Fx (List D)} {sl sl1 : List Nat} {g g1 : Gf} {c c1 : Fx Bool} {f : Fx D} (hc : X.calm = true) (hN : X.N.Nodup) (hi : PI X tg iter (tI X.K it)) (ok : BlkOk X.N X.env.scope scope own)
    (hsl : ∀ i ∈ sl, i ∈ own.map (·.2)) (hsl1 : ∀ i ∈ sl1, i ∈ vs1) (hv : ∀ i ∈ vs1, i ∈ own.map (·.2))
    (hg : ∀ (s : Shared) (H : Hp) (C : Addr) (cl : List (Str × Addr)) (fp : List Addr), PG (X.blk s H scope (compEnvC scope cl C X.env) fp) tg (tG X.K sl g))
    (ht : ∀ (s : Shared) (H : Hp) (C : Addr) (cl : List (Str × Addr)) (fp : List Addr), PTs (X.blk s H scope (compEnvC scope cl C X.env) fp) ifs (tT X.K c))
    (hi1 : ∀ (s : Shared) (H : Hp) (C : Addr) (cl : List (Str × Addr)) (fp : List Addr), PI (X.blk s H scope (compEnvC scope cl C X.env) fp) tg1 iter1 (tI X.K it1))
    (hg1 : ∀ (s : Shared) (H : Hp) (C : Addr) (cl : List (Str × Addr)) (fp : List Addr), PG (X.blk s H scope (compEnvC scope cl C X.env) fp) tg1 (tG X.K sl1 g1))
    (ht1 : ∀ (s : Shared) (H : Hp) (C : Addr) (cl : List (Str × Addr)) (fp : List Addr), PTs (X.blk s H scope (compEnvC scope cl C X.env) fp) ifs1 (tT X.K c1))
    (he : ∀ (s : Shared) (H : Hp) (C : Addr) (cl : List (Str × Addr)) (fp : List Addr), PE (X.blk s H scope (compEnvC scope cl C X.env) fp) elt (tE X.K f)) (hs : ∀ x, foldedSetIterable iter X.env x = pure x) (hs1 : ∀ env x, foldedSetIterable iter1 env x = pure x) :
    PE X (.ListComp elt [⟨tg, iter, ifs, 0⟩, ⟨tg1, iter1, ifs1, 0⟩] scope pos) (tR X.K (eComp2 it g c it1 g1 c1 f (own.map (·.2)) vs1)) :=
  PE.imp (pe_lc2 hc hN hi ok hv hg ht hi1 hg1 ht1 he hs hs1) fun σ H Q h => tLc2_of hsl hsl1 hv h
theorem s_setComp2 {i : Nat} {y : Str} {py : Pos} {elt tg iter tg1 iter1 : Expr} {ifs ifs1 : List Expr} {scope : Scope} {own : List (Str × Nat)} {vs1 : List Nat} {pos spos : Pos} {it it1 : Fx (List D)} {sl sl1 : List Nat} {g g1 : Gf} {c c1 : Fx Bool} {f : Fx D} (hc : X.calm = true) (hN : X.N.Nodup) (hy : X.N[i]? = some y) (hyl : X.env.scope.names.lookup y = some .local)
    (hsw : swapsWith (.ListComp elt [⟨tg, iter, ifs, 0⟩, ⟨tg1, iter1, ifs1, 0⟩] scope pos) (some (.Name y py)) spos.line X.env = pure true) (hi : PI X tg iter (tI X.K it)) (ok : BlkOk X.N X.env.scope scope own)
    (hsl : ∀ i ∈ sl, i ∈ own.map (·.2)) (hsl1 : ∀ i ∈ sl1, i ∈ vs1) (hv : ∀ i ∈ vs1, i ∈ own.map (·.2))
    (hg : ∀ (s : Shared) (H : Hp) (C : Addr) (cl : List (Str × Addr)) (fp : List Addr), PG (X.blk s H scope (compEnvC scope cl C X.env) fp) tg (tG X.K sl g))
    (ht : ∀ (s : Shared) (H : Hp) (C : Addr) (cl : List (Str × Addr)) (fp : List Addr), PTs (X.blk s H scope (compEnvC scope cl C X.env) fp) ifs (tT X.K c))
    (hi1 : ∀ (s : Shared) (H : Hp) (C : Addr) (cl : List (Str × Addr)) (fp : List Addr), PI (X.blk s H scope (compEnvC scope cl C X.env) fp) tg1 iter1 (tI X.K it1))
    (hg1 : ∀ (s : Shared) (H : Hp) (C : Addr) (cl : List (Str × Addr)) (fp : List Addr), PG (X.blk s H scope (compEnvC scope cl C X.env) fp) tg1 (tG X.K sl1 g1))
    (ht1 : ∀ (s : Shared) (H : Hp) (C : Addr) (cl : List (Str × Addr)) (fp : List Addr), PTs (X.blk s H scope (compEnvC scope cl C X.env) fp) ifs1 (tT X.K c1))
    (he : ∀ (s : Shared) (H : Hp) (C : Addr) (cl : List (Str × Addr)) (fp : List Addr), PE (X.blk s H scope (compEnvC scope cl C X.env) fp) elt (tE X.K f)) (hs : ∀ x, foldedSetIterable iter X.env x = pure x) (hs1 : ∀ env x, foldedSetIterable iter1 env x = pure x) :
    PS X (.Assign [.Name y py] (.ListComp elt [⟨tg, iter, ifs, 0⟩, ⟨tg1, iter1, ifs1, 0⟩] scope pos) spos) (tS X.K (sSet i (eComp2 it g c it1 g1 c1 f (own.map (·.2)) vs1))) :=
  s_setG (ps_setLc2 hc hN hy hyl hsw hi ok hv hg ht hi1 hg1 ht1 he hs hs1) fun σ H Q h => tLc2_of hsl hsl1 hv h
end
end Ev
namespace Ev
open PySem PySem.Spec PyProof.Rows L2
/-! ## matrices: a new list of new lists -/
theorem ne_mem {a b : Addr} {l : List Addr} (m : a ∈ l) (h : b ∉ l) : a ≠ b := fun z => h (z ▸ m)
section
variable {K : PySem.W.Frag} {F Z H : Hp}
theorem RowsOk.length {us : List V} {dss : List (List D)} {bs : List Addr} (h : RowsOk K F Z H us dss bs) : us.length = dss.length := by
  induction h with
  | nil => rfl
  | cons _ _ _ _ _ _ ih => exact congrArg Nat.succ ih
theorem RowsOk.get {us : List V} {dss : List (List D)} {bs : List Addr} (h : RowsOk K F Z H us dss bs) : ∀ {j : Nat} {ds : List D}, dss[j]? = some ds → ∃ b ws, us[j]? = some (.ref b) ∧ b ∈ bs ∧ H b = some (.lst ws) ∧ F b = none ∧ Z b = none ∧ DpAll K Z ws ds := by
  induction h with
  | nil => intro j ds e; simp at e
  | @cons b ws us ds dss bs h1 h2 h3 h4 h5 _ ih =>
    intro j d e
    cases j with
    | zero => simp at e; subst e; exact ⟨b, ws, rfl, List.mem_cons_self .., h1, h2, h3, h4⟩
    | succ j =>
      obtain ⟨b', ws', e1, e2, e3⟩ := ih (j := j) (by simpa using e)
      exact ⟨b', ws', by simpa using e1, List.mem_cons_of_mem _ e2, e3⟩
theorem RowsOk.snoc {us : List V} {dss : List (List D)} {bs : List Addr} {q : Addr} {ws : List V} {ds : List D} (h : RowsOk K F Z H us dss bs) (h1 : H q = some (.lst ws)) (h2 : F q = none) (h3 : Z q = none) (h4 : DpAll K Z ws ds) (h5 : q ∉ bs) : RowsOk K F Z H (us ++ [.ref q]) (dss ++ [ds]) (bs ++ [q]) := by
  induction h with
  | nil => exact .cons h1 h2 h3 h4 (fun z => by cases z) .nil
  | cons a1 a2 a3 a4 a5 _ ih =>
    rw [List.mem_cons, not_or] at h5
    refine .cons a1 a2 a3 a4 (fun m => ?_) (ih h5.2)
    rcases List.mem_append.mp m with m | m
    · exact a5 m
    · rw [List.mem_singleton] at m; exact h5.1 m.symm
/-- a row is changed -/
theorem RowsOk.chg {us : List V} {dss : List (List D)} {bs : List Addr} (h : RowsOk K F Z H us dss bs) : ∀ {j : Nat} {b : Addr} {ws : List V} {ds : List D}, us[j]? = some (.ref b) → DpAll K Z ws ds → RowsOk K F Z (upd H b (.lst ws)) us (dss.set j ds) bs := by
  induction h with
  | nil => intro j b ws ds e _; simp at e
  | @cons c ws0 us ds0 dss bs h1 h2 h3 h4 h5 h6 ih =>
    intro j b ws ds e q
    cases j with
    | zero =>
      have e' : c = b := by simpa using e
      subst e'
      refine .cons upd_same h2 h3 q h5 (h6.mono (fun _ _ h => h) (fun a m u hu => ?_) (fun _ _ h => h) fun _ _ => rfl)
      rw [upd_ne (ne_mem m h5)]; exact hu
    | succ j =>
      have e' : us[j]? = some (.ref b) := by simpa using e
      have ne : c ≠ b := fun z => h5 (z ▸ h6.ref (List.mem_of_getElem? e'))
      exact .cons (by rw [upd_ne ne]; exact h1) h2 h3 h4 h5 (ih e' q)
theorem upd_comm {a b : Addr} {x y : HO} (h : a ≠ b) : upd (upd H a x) b y = upd (upd H b y) a x := by
  funext c
  by_cases ha : c = a
  · subst ha; rw [upd_ne h, upd_same, upd_same]
  · by_cases hb : c = b
    · subst hb; rw [upd_same, upd_ne ha, upd_same]
    · rw [upd_ne hb, upd_ne ha, upd_ne ha, upd_ne hb]
end
theorem wipeE_twice (env : En) (vs : List Nat) : wipeE (wipeE env vs) vs = wipeE env vs := by
  refine List.ext_getElem? fun i => ?_
  by_cases hi : i ∈ vs
  · have hl : (wipeE (wipeE env vs) vs).length = (wipeE env vs).length := wipeE_length _ _
    by_cases hb : i < (wipeE env vs).length
    · have e1 : (wipeE (wipeE env vs) vs)[i]? = some ((wipeE (wipeE env vs) vs)[i]'(by rw [hl]; exact hb)) := by simp [hl, hb]
      have e2 : (wipeE env vs)[i]? = some ((wipeE env vs)[i]) := by simp [hb]
      rw [e1, e2, wipeE_in hi e1, wipeE_in hi e2]
    · rw [List.getElem?_eq_none (by omega), List.getElem?_eq_none (by omega)]
  · rw [wipeE_out hi]
def compLM (g : Gf) (c : Fx Bool) (f : Fx R) (vs : List Nat) : List D → List (List D) → Fx (List (List D))
  | [], acc => fun env => some (acc, env)
  | d :: ds, acc => fun env => match g d env with
    | some e1 => (match c e1 with
      | some (true, e2) => (match f e2 with
        | some (.fresh y, e3) => if acc.length < sizeLine then compLM g c f vs ds (acc ++ [y]) (wipeE e3 vs) else none
        | _ => none)
      | some (false, e2) => compLM g c f vs ds acc (wipeE e2 vs)
      | none => none)
    | none => none
def eCompM (it : Fx (List D)) (g : Gf) (c : Fx Bool) (f : Fx R) (vs : List Nat) : Fx R := fun env => match it env with
  | some (ds, e) => (compLM g c f vs ds [] (wipeE e vs)).map fun p => (.mat p.1, p.2)
  | none => none
theorem tLcM_of {K : PySem.W.Frag} {it : Fx (List D)} {sl : List Nat} {g : Gf} {c : Fx Bool} {f : Fx R} {vs : List Nat} (hsl : ∀ i ∈ sl, i ∈ vs) {σ : L2.St} {H : Hp} {Q : VK} (h : tR K (eCompM it g c f vs) σ H Q) :
    tLc (tI K it) (tG K sl g) (tT K c) (tR K f) vs σ H Q := by
  obtain ⟨F, pa, Z, env, r, env', W, e, k⟩ := h
  unfold eCompM at e
  split at e
  · rename_i ds env1 h1
    cases h2 : compLM g c f vs ds [] (wipeE env1 vs) with
    | none => rw [h2] at e; cases e
    | some q =>
      obtain ⟨res, env2⟩ := q
      rw [h2] at e
      cases e
      refine ⟨F, pa, Z, env, ds, env1, W, h1, fun J Z1 H1 g1 W1 io p hp => ?_⟩
      have fp : F p = none := W1.fh.free hp
      have zp : Z1 p = none := W1.zh.free hp
      -- the rows made so far stand in the frame G
      let Inv : Nat → Hp → Prop := fun i H => ∃ Z2 env3 us acc bs G, Gr F Z1 Z2 ∧ Same F G ∧ G p = none ∧ Z2 p = none ∧ H p = some (.lst us) ∧ RowsOk K F Z2 H us acc bs ∧ p ∉ bs ∧ (∀ b ∈ bs, G b = H b) ∧ Wst K (upd G p (.lst us)) Z2 H pa (wipe σ vs) env3 ∧ wipeE env3 vs = env3 ∧ compLM g c f vs (ds.drop i) acc env3 = some (res, env2)
      refine ⟨fun i m H => m = ds.length - i ∧ Inv i H,
        ⟨_, rfl, Z1, wipeE env1 vs, [], [], [], F, .refl .., Same.refl _, fp, zp, upd_same, .nil, (fun z => by cases z), (fun b z => by cases z), ?_, wipeE_twice _ _, by rw [List.drop_zero]; exact h2⟩, ?_⟩
      · have W2 : Wst K (upd F p (.lst [])) Z1 (upd H1 p (.lst [])) pa σ env1 := by
          have al : Alc Z1 H1 Z1 (upd H1 p (.lst [])) := ⟨Same.refl _, upd_none hp, fun b u e => by rw [upd_ne (fun z => by subst z; rw [zp] at e; cases e)]; exact W1.zh b u e, fun _ _ => rfl⟩
          refine (W1.alc al).frameUp upd_same fun i o s e1 e2 e3 => ?_
          obtain ⟨us, b1, _⟩ := (W1.sl i o s e1 e2).at_ ((W1.sl i o s e1 e2).back (fun b u _ h => al.hh b u h) e3)
          rw [hp] at b1; cases b1
        exact W2.wiped
      · rintro i m H ⟨rfl, Z2, env3, us, acc, bs, G, g2, fg, gp, z2, hH, ro, pb, gb, W2, wz, e2⟩
        obtain ⟨io1, io2⟩ := io Z2 H g2.zz W2.zh i
        have sf : Same F (upd G p (.lst us)) := fg.trans (upd_none gp)
        by_cases hi : i < ds.length
        · rw [List.drop_eq_getElem_cons hi] at e2
          obtain ⟨jg, jy⟩ := io1 ds[i] (by simp [hi])
          refine .inr ⟨jg, Inv (i + 1), fun H' q => ⟨ds.length - (i + 1), by omega, rfl, q⟩, fun x H2 y => ?_⟩
          obtain ⟨Z3, al, dp⟩ := jy x H2 y
          unfold compLM at e2
          split at e2
          · rename_i env4 h4
            have W3 := W2.alc al
            refine ⟨_, pa, Z3, env3, _, env4, W3, dp, h4, fun σ5 Z5 H5 g5 W5 l5 k5 => ⟨?_, ?_⟩⟩
            · refine List.ext_getElem? fun j => ?_
              by_cases hj : j ∈ vs
              · have hlen : (wipe σ vs).length = σ.length := wipe_length σ vs
                by_cases hb : j < σ.length
                · rw [wipe_in' hj (by rw [l5, hlen]; exact hb), wipe_in' hj hb]
                · rw [List.getElem?_eq_none (by rw [wipe_length, l5, hlen]; omega), List.getElem?_eq_none (by rw [hlen]; omega)]
              · rw [wipe_out' hj, k5 j (fun z => hj (hsl j z))]
            · have l5' : (wipe σ vs).length = σ5.length := l5.symm
              have s5 : ∀ i, i ∉ vs → (wipe σ vs)[i]? = σ5[i]? := fun i h => (k5 i fun z => h (hsl i z)).symm
              -- what stands in the frame is not newly frozen
              have keepZ : ∀ {Z : Hp} {b : Addr}, Gr (upd G p (.lst us)) Z5 Z → (b = p ∨ b ∈ bs) → Z b = Z2 b := fun {Z b} g hb => by
                have ne : upd G p (.lst us) b ≠ none := by
                  rcases hb with rfl | hb
                  · rw [upd_same]; exact fun z => nomatch z
                  · rw [upd_ne (ne_mem hb pb), gb b hb]
                    obtain ⟨_, ⟨ws, q⟩, _⟩ := ro.mem hb
                    rw [q]; exact fun z => nomatch z
                rw [g.nf b ne, g5.nf b ne]
                refine al.nw b ?_
                rcases hb with rfl | hb
                · rw [hH]; exact fun z => nomatch z
                · obtain ⟨_, ⟨ws, q⟩, _⟩ := ro.mem hb
                  rw [q]; exact fun z => nomatch z
              have rows : ∀ {Z' H' : Hp}, Same Z2 Z' → Gr (upd G p (.lst us)) Z5 Z' → Same (upd G p (.lst us)) H' → RowsOk K F Z' H' us acc bs := fun {Z' H'} zz gg hh =>
                ro.mono (fun ws ds => DpAll.mono zz ds ws) (fun b m u hu => hh b u (by rw [upd_ne (ne_mem m pb), gb b m]; exact hu)) (fun _ _ h => h) fun b m => keepZ gg (.inr m)
              split at e2
              · rename_i env5 h5
                refine ⟨_, pa, Z5, env4, true, env5, W5, h5, fun Z6 H6 g6 W6 => iteT ?_⟩
                split at e2
                · rename_i yy env6 h6
                  refine ⟨_, pa, Z6, env5, _, env6, W6, h6, fun v Z7 H7 g7 W7 q7 => ?_⟩
                  by_cases hl : acc.length < sizeLine
                  · rw [if_pos hl] at e2
                    obtain ⟨q, ws, rfl, hq, zq, fq, da, no⟩ := q7
                    have g37 : Gr (upd G p (.lst us)) Z5 Z7 := g6.trans g7
                    have p7 : H7 p = some (.lst us) := W7.fh p _ upd_same
                    have zz : Same Z2 Z7 := al.zz.trans (g5.zz.trans g37.zz)
                    have qp : q ≠ p := fun z => by rw [z, upd_same] at fq; cases fq
                    have gq : G q = none := by rw [upd_ne qp] at fq; exact fq
                    have qb : q ∉ bs := fun m => by
                      obtain ⟨_, ⟨w0, z⟩, _⟩ := ro.mem m
                      rw [← gb q m, gq] at z; cases z
                    have z7 : Z7 p = none := (keepZ g37 (.inl rfl)).trans z2
                    refine ⟨us, p7, by rw [ro.length]; exact hl, Z7, wipeE env6 vs, us ++ [.ref q], acc ++ [yy], bs ++ [q], upd G q (.lst ws), ?_, fg.trans (upd_none gq), by rw [upd_ne (Ne.symm qp)]; exact gp, z7, upd_same, ?_, ?_, ?_, ?_, wipeE_twice _ _, e2⟩
                    · exact g2.trans (((al.gr W2.fh).trans (g5.trans g37)).frame sf)
                    · refine RowsOk.snoc (ws := ws) ?_ (by rw [upd_ne qp]; exact hq) (fg.free gq) zq da qb
                      exact (rows zz g37 W7.fh).mono (fun _ _ h => h) (fun b m u hu => by rw [upd_ne (ne_mem m pb)]; exact hu) (fun _ _ h => h) fun _ _ => rfl
                    · intro m
                      rcases List.mem_append.mp m with m | m
                      · exact pb m
                      · rw [List.mem_singleton] at m; exact qp m.symm
                    · intro b m
                      rcases List.mem_append.mp m with m | m
                      · have bp : b ≠ p := fun z => pb (z ▸ m)
                        have bq : b ≠ q := fun z => qb (z ▸ m)
                        obtain ⟨_, ⟨w0, z⟩, _⟩ := ro.mem m
                        rw [upd_ne bq, upd_ne bp, gb b m, z]
                        exact (W7.fh b _ (by rw [upd_ne bp, gb b m]; exact z)).symm
                      · rw [List.mem_singleton] at m; subst m
                        rw [upd_same, upd_ne qp]; exact hq.symm
                    · have W8 := W7.frameUp hq no
                      rw [upd_comm (Ne.symm qp)] at W8
                      exact (W8.wipeTo l5' s5).updF z7
                  · rw [if_neg hl] at e2; cases e2
                · cases e2
              · rename_i env5 h5
                refine ⟨_, pa, Z5, env4, false, env5, W5, h5, fun Z6 H6 g6 W6 => iteF ?_⟩
                have zz : Same Z2 Z6 := al.zz.trans (g5.zz.trans g6.zz)
                have ne : ∀ b ∈ bs, G b = H6 b := fun b m => by
                  have bp : b ≠ p := fun z => pb (z ▸ m)
                  obtain ⟨_, ⟨w0, z⟩, _⟩ := ro.mem m
                  rw [gb b m, z]
                  exact (W6.fh b _ (by rw [upd_ne bp, gb b m]; exact z)).symm
                exact ⟨Z6, wipeE env5 vs, us, acc, bs, G, g2.trans (((al.gr W2.fh).trans (g5.trans g6)).frame sf), fg, gp, (keepZ g6 (.inl rfl)).trans z2, W6.fh p _ upd_same, rows zz g6 W6.fh, pb, ne, W6.wipeTo l5' s5, wipeE_twice _ _, e2⟩
              · cases e2
          · cases e2
        · rw [List.drop_eq_nil_of_le (by omega)] at e2
          cases e2
          have W3 := (W2.frame sf).wipeTo (σ' := σ) (vs := vs) (wipe_length σ vs).symm fun i h => (wipe_out' h).symm
          rw [wz] at W3
          refine .inl ⟨io2 (by omega), k _ Z2 H (g1.trans g2) W3 ⟨p, us, bs, rfl, hH, z2, fp, ro, pb, fun q hq i o s q1 q2 q3 => ?_⟩⟩
          by_cases hj : i ∈ vs
          · rw [← wz] at q2
            rw [wipeE_in hj q2] at q3
            exact q3.no
          · obtain ⟨_, _, z, _⟩ := (W2.sl i o s (by rw [wipe_out' hj]; exact q1) q2).at_ q3
            rcases hq with rfl | hq
            · rw [upd_same] at z; cases z
            · obtain ⟨_, ⟨w0, z0⟩, _⟩ := ro.mem hq
              rw [upd_ne (ne_mem hq pb), gb q hq, z0] at z; cases z
  · cases e
/-! ### items of items -/
/-- x[a][b], x a matrix -/
def item2M (i : Nat) (f1 f2 : Fx D) : Fx D := fun env => match f1 env with
  | some (.int k, e1) => (match e1[i]? with
    | some (.mat dss) => (match atI dss k with
      | some ds => (match f2 (e1.set i .no) with
        | some (.int m, e2) => (match atI ds m with
          | some z => some (z, e2.set i (.mat dss))
          | none => none)
        | _ => none)
      | none => none)
    | _ => none)
  | _ => none
def isMat : Sl → Bool
  | .mat _ => true
  | _ => false
def eItem2 (i : Nat) (f1 f2 : Fx D) : Fx D := fun env => match env[i]? with
  | some s => if isMat s = true then item2M i f1 f2 env else eOp gItem (eItemN i f1) f2 env
  | none => none
section
variable {K : PySem.W.Frag} {F Z H : Hp} {pa : Nat → Option Addr} {σ : L2.St} {env : En}
/-- the frame with a matrix in it -/
def fAdd (F H : Hp) (l : List Addr) : Hp := fun b => if b ∈ l then H b else F b
theorem fAdd_in {l : List Addr} {b : Addr} (h : b ∈ l) : fAdd F H l b = H b := if_pos h
theorem fAdd_out {l : List Addr} {b : Addr} (h : b ∉ l) : fAdd F H l b = F b := if_neg h
theorem fAdd_sf {l : List Addr} (h : ∀ b ∈ l, F b = none) : Same F (fAdd F H l) := fun b u e => by
  by_cases m : b ∈ l
  · rw [h b m] at e; cases e
  · rw [fAdd_out m]; exact e
/-- a matrix's slot set aside -/
theorem Wst.aside {i : Nat} {a : Addr} {us : List V} {dss : List (List D)} {bs : List Addr} (W : Wst K F Z H pa σ env) (e1 : σ[i]? = some (some (.ref a))) (e2 : env[i]? = some (.mat dss)) (h1 : H a = some (.lst us)) (h2 : F a = none) (h4 : RowsOk K F Z H us dss bs) :
    Wst K (fAdd F H (a :: bs)) Z H pa σ (env.set i .no) := by
  have W1 := W.move (i := i)
  have hi : i < env.length := (List.getElem?_eq_some_iff.mp e2).1
  refine ⟨fun b u e => ?_, W.zh, W1.len, fun j o s q1 q2 => ?_, W1.dj⟩
  · by_cases m : b ∈ a :: bs
    · rw [fAdd_in m] at e; exact e
    · rw [fAdd_out m] at e; exact W.fh b u e
  · have so := W1.sl j o s q1 q2
    have ff : ∀ b, Ow H o s b → F b = none → fAdd F H (a :: bs) b = none := fun b hb hf => by
      rw [fAdd_out fun m => ?_]
      · exact hf
      · by_cases hj : i = j
        · subst hj
          rw [List.getElem?_set_self hi] at q2; cases q2
          exact hb.no
        · rw [List.getElem?_set_ne hj] at q2
          exact W.dj i j _ o _ s b hj e1 e2 q1 q2 ((List.mem_cons.mp m).elim .inl fun m => .inr ⟨us, h1, (h4.mem m).1⟩) hb
    cases so with
    | no => exact .no _
    | val d => exact .val d
    | own z1 z2 z3 z4 => exact .own z1 (ff _ rfl z2) z3 z4
    | par z0 z1 z2 z3 z4 => exact .par z0 z1 (ff _ rfl z2) z3 z4
    | mat z1 z2 z3 z4 z5 => exact .mat z1 (ff _ (.inl rfl) z2) z3 (z4.mono (fun _ _ h => h) (fun _ _ _ h => h) (fun b m h => ff b (.inr ⟨_, z1, (z4.mem m).1⟩) h) fun _ _ => rfl) z5
/-- and put back -/
theorem Wst.putM {i : Nat} {a : Addr} {us : List V} {dss : List (List D)} {bs : List Addr} {Z' H' : Hp} {env2 : En} (h1 : H a = some (.lst us)) (h2 : F a = none) (h3 : Z a = none) (h4 : RowsOk K F Z H us dss bs) (h5 : a ∉ bs) (g : Gr (fAdd F H (a :: bs)) Z Z')
    (e1 : σ[i]? = some (some (.ref a))) (W : Wst K (fAdd F H (a :: bs)) Z' H' pa σ env2) : Gr F Z Z' ∧ H' a = some (.lst us) ∧ Z' a = none ∧ RowsOk K F Z' H' us dss bs ∧ Wst K F Z' H' pa σ (env2.set i (.mat dss)) := by
  have sf : Same F (fAdd F H (a :: bs)) := fAdd_sf fun b m => (List.mem_cons.mp m).elim (fun z => z ▸ h2) fun m => (h4.mem m).2.2.1
  have some_ : ∀ b ∈ a :: bs, ∃ ws, H b = some (.lst ws) := fun b m => (List.mem_cons.mp m).elim (fun z => ⟨us, z ▸ h1⟩) fun m => (h4.mem m).2.1
  have hh : ∀ b ∈ a :: bs, ∀ u, H b = some u → H' b = some u := fun b m u hu => W.fh b u (by rw [fAdd_in m]; exact hu)
  have nz : ∀ b ∈ a :: bs, Z' b = Z b := fun b m => g.nf b (by
    obtain ⟨ws, q⟩ := some_ b m
    rw [fAdd_in m, q]; exact fun z => nomatch z)
  have r1 := hh a (List.mem_cons_self ..) _ h1
  have r2 := (nz a (List.mem_cons_self ..)).trans h3
  have r3 : RowsOk K F Z' H' us dss bs := h4.mono (fun ws ds => DpAll.mono g.zz ds ws) (fun b m => hh b (List.mem_cons_of_mem _ m)) (fun _ _ h => h) fun b m => nz b (List.mem_cons_of_mem _ m)
  refine ⟨g.frame sf, r1, r2, r3, ?_⟩
  have Wf := W.frame sf
  have key := Wf.setNew (i := i) (v := .ref a) (s' := .mat dss) (.mat r1 h2 r2 r3 h5) fun q hq j o s q1 q2 q3 => by
    obtain ⟨_, _, z, _⟩ := (W.sl j o s q1 q2).at_ q3
    have m : q ∈ a :: bs := by
      rcases hq with rfl | ⟨us', w1, w2⟩
      · exact List.mem_cons_self ..
      · rw [r1] at w1; cases w1
        exact List.mem_cons_of_mem _ (r3.ref w2)
    obtain ⟨ws, w⟩ := some_ q m
    rw [fAdd_in m, w] at z; cases z
  have es : σ.set i (some (.ref a)) = σ := by
    refine List.ext_getElem? fun j => ?_
    by_cases hj : i = j
    · subst hj
      rw [List.getElem?_set_self (List.getElem?_eq_some_iff.mp e1).1]; exact e1.symm
    · rw [List.getElem?_set_ne hj]
  rw [es] at key
  exact key
theorem isMat_some {s : Sl} (h : isMat s = true) : ∃ dss, s = .mat dss := by
  cases s <;> first | exact ⟨_, rfl⟩ | cases h
end
section
variable {X : Cx} {pos : Pos}
theorem item2_of {K : PySem.W.Frag} {i : Nat} {f1 f2 : Fx D} {σ : L2.St} {H : Hp} {Q : VK} (h : tE K (item2M i f1 f2) σ H Q) (s0 : ∀ {F pa Z env}, Wst K F Z H pa σ env → ∀ s, env[i]? = some s → True) :
    (∃ F pa Z env, Wst K F Z H pa σ env ∧ ∃ dss, env[i]? = some (.mat dss)) → tOp (rIx K) (tOp (rIx K) (tVar i) (tE K f1)) (tE K f2) σ H Q := by
  rintro ⟨F0, pa0, Z0, env0, W0, dss0, e0⟩
  obtain ⟨F, pa, Z, env, d, env', W, e, k⟩ := h
  obtain ⟨o, eo, so0⟩ := W0.get e0
  cases so0 with
  | @mat a us0 _ bs0 _ _ _ _ _ =>
    unfold item2M at e
    split at e
    · rename_i kk env1 q1
      split at e
      · rename_i dss q2
        split at e
        · rename_i ds q3
          split at e
          · rename_i m env2 q4
            cases q5 : atI ds m with
            | none => rw [q5] at e; cases e
            | some z =>
              rw [q5] at e
              cases e
              refine ⟨_, eo, F, pa, Z, env, _, env1, W, q1, fun y Z1 H1 g1 W1 y1 => ?_⟩
              cases y1
              cases W1.sl i _ _ eo q2 with
              | @mat _ us _ bs z1 z2 z3 z4 z5 =>
                unfold atI at q3
                cases hj : ixN dss.length kk with
                | none => rw [hj] at q3; cases q3
                | some j =>
                  rw [hj, Option.bind_some] at q3
                  obtain ⟨b, ws, b1, b2, b3, b4, b5, b6⟩ := z4.get q3
                  refine .inl ⟨a, us, kk, .ref b, rfl, rfl, SqL.of z1, by unfold atI; rw [z4.length, hj]; exact b1, ?_⟩
                  refine ⟨_, pa, Z1, _, _, env2, W1.aside eo q2 z1 z2 z4, q4, fun y2 Z2 H2 g2 W2 y3 => ?_⟩
                  cases y3
                  obtain ⟨r0, r1, r2, r3, r4⟩ := Wst.putM z1 z2 z3 z4 z5 g2 eo W2
                  have hb : H2 b = some (.lst ws) := W2.fh b _ (by rw [fAdd_in (List.mem_cons_of_mem _ b2)]; exact b3)
                  obtain ⟨v, ev, dv⟩ := atI_da (DpAll.mono r0.zz _ _ b6) q5
                  exact .inl ⟨b, ws, m, v, rfl, rfl, SqL.of hb, ev, k v Z2 H2 (g1.trans r0) r4 dv⟩
          · cases e
        · cases e
      · cases e
    · cases e
theorem s_item2 {i : Nat} {x : Str} {np p1 : Pos} {a b : Expr} {f1 f2 : Fx D} (ho : PE X (.Name x np) (tVar i)) (ha : PE X a (tE X.K f1)) (hb : PE X b (tE X.K f2)) (hs : PlainIx a) (hs2 : PlainIx b) :
    PE X (.Subscript (.Subscript (.Name x np) a p1) b pos) (tE X.K (eItem2 i f1 f2)) := by
  have A := pe_ix ix_seq (pe_ix (pos := p1) ix_seq ho ha hs) hb hs2 (pos := pos)
  have B := s_item (pos := pos) (s_itemN (pos := p1) ho ha hs) hb hs2
  refine ⟨fun pins s σ H Q I h => ?_⟩
  obtain ⟨F, pa, Z, env, d, env', W, e, k⟩ := h
  unfold eItem2 at e
  split at e
  · rename_i s0 e0
    by_cases hm : isMat s0 = true
    · rw [if_pos hm] at e
      obtain ⟨dss, rfl⟩ := isMat_some hm
      exact A.run pins s σ H Q I (item2_of ⟨F, pa, Z, env, d, env', W, e, k⟩ (fun _ _ _ => trivial) ⟨F, pa, Z, env, W, dss, e0⟩)
    · rw [if_neg hm] at e
      exact B.run pins s σ H Q I ⟨F, pa, Z, env, d, env', W, e, k⟩
  · cases e
/-- x[a][b] = d, x a matrix -/
def gIx2 (i : Nat) (f1 f2 : Fx D) : Gf := fun d env => match env[i]? with
  | some s => if isMat s = true then (match f1 env with
    | some (.int k, e1) => (match e1[i]? with
      | some (.mat dss) => (match ixN dss.length k with
        | some j => (match dss[j]? with
          | some ds => (match f2 (e1.set i .no) with
            | some (.int m, e2) => (match ixN ds.length m with
              | some l => some (e2.set i (.mat (dss.set j (ds.set l d))))
              | none => none)
            | _ => none)
          | none => none)
        | none => none)
      | _ => none)
    | _ => none) else none
  | none => none
/-- a row of a matrix is changed -/
theorem Wst.chgM {K : PySem.W.Frag} {F Z H : Hp} {pa : Nat → Option Addr} {σ : L2.St} {env : En} {i j : Nat} {a b : Addr} {us ws : List V} {dss : List (List D)} {bs : List Addr} {ds : List D} (W : Wst K F Z H pa σ env) (e1 : σ[i]? = some (some (.ref a))) (e2 : env[i]? = some (.mat dss))
    (h1 : H a = some (.lst us)) (h2 : F a = none) (h3 : Z a = none) (h4 : RowsOk K F Z H us dss bs) (h5 : a ∉ bs) (hb : us[j]? = some (.ref b)) (q : DpAll K Z ws ds) : Wst K F Z (upd H b (.lst ws)) pa σ (env.set i (.mat (dss.set j ds))) := by
  have hi : i < env.length := (List.getElem?_eq_some_iff.mp e2).1
  have mb : b ∈ bs := h4.ref (List.mem_of_getElem? hb)
  obtain ⟨_, ⟨w0, b1⟩, b2, b3⟩ := h4.mem mb
  have ow : Ow H (some (.ref a)) (.mat dss) b := .inr ⟨us, h1, List.mem_of_getElem? hb⟩
  have ab : a ≠ b := fun z => h5 (z ▸ mb)
  have key : ∀ {j' : Nat} {s1 : Sl}, (env.set i (.mat (dss.set j ds)))[j']? = some s1 → (j' = i ∧ s1 = .mat (dss.set j ds)) ∨ (j' ≠ i ∧ env[j']? = some s1) := fun {j' s1} e => by
    by_cases hj : i = j'
    · subst hj
      rw [List.getElem?_set_self hi] at e; cases e; exact .inl ⟨rfl, rfl⟩
    · rw [List.getElem?_set_ne hj] at e; exact .inr ⟨Ne.symm hj, e⟩
  have kept : ∀ {j' : Nat} {o : Option V} {s1 : Sl}, j' ≠ i → σ[j']? = some o → env[j']? = some s1 → ∀ c u, Ow H o s1 c → H c = some u → upd H b (.lst ws) c = some u := fun {j' o s1} hj q1 q2 c u hc hu => by
    rw [upd_ne (fun z => by subst z; exact W.dj j' i o _ s1 _ _ hj q1 q2 e1 e2 hc ow)]
    exact hu
  have up : ∀ c o, Same c H → c b = none → Same c (upd H b o) := fun c o f n x u e => by
    rw [upd_ne (fun z => by subst z; rw [n] at e; cases e)]; exact f x u e
  refine ⟨up F _ W.fh b2, up Z _ W.zh b3, by simp [W.len], fun j' o s1 q1 q2 => ?_, fun j' k o o' s1 s1' c ne q1 q2 q3 q4 o1 o2 => ?_⟩
  · rcases key q2 with ⟨rfl, rfl⟩ | ⟨hj, q2⟩
    · rw [e1] at q1; cases q1
      exact .mat (by rw [upd_ne ab]; exact h1) h2 h3 (h4.chg hb q) h5
    · exact (W.sl j' o s1 q1 q2).mono (Same.refl _) (kept hj q1 q2) fun _ _ => rfl
  · have back : ∀ {j' : Nat} {o : Option V} {s1 : Sl}, σ[j']? = some o → (env.set i (.mat (dss.set j ds)))[j']? = some s1 → Ow (upd H b (.lst ws)) o s1 c → ∃ s0, env[j']? = some s0 ∧ Ow H o s0 c := fun {j' o s1} r1 r2 r3 => by
      rcases key r2 with ⟨rfl, rfl⟩ | ⟨hj, r2⟩
      · rw [e1] at r1; cases r1
        refine ⟨_, e2, ?_⟩
        rcases r3 with rfl | ⟨us', w1, w2⟩
        · exact .inl rfl
        · rw [upd_ne ab] at w1
          exact .inr ⟨us', w1, w2⟩
      · exact ⟨s1, r2, (W.sl j' o s1 r1 r2).back (kept hj r1 r2) r3⟩
    obtain ⟨t1, t2, t3⟩ := back q1 q2 o1
    obtain ⟨t1', t2', t3'⟩ := back q3 q4 o2
    exact W.dj j' k o o' t1 t1' c ne q1 t2 q3 t2' t3 t3'
theorem s_gIx2 {i : Nat} {x : Str} {ie ie2 : Expr} {f1 f2 : Fx D} {np p1 : Pos} (ho : PE X (.Name x np) (tVar i)) (h1 : PE X ie (tE X.K f1)) (h2 : PE X ie2 (tE X.K f2)) (hs : PlainIx ie)
    (ha : ∀ v, assign (.Subscript (.Subscript (.Name x np) ie p1) ie2 pos) X.env v = (do
      let ov ← holding [v] (eval (.Subscript (.Name x np) ie p1) X.env)
      let iv ← holding [v, ov] (eval ie2 X.env)
      standAt pos
      holding [v, ov, iv] (setItem ov iv v)
      release [v, ov, iv] [])) : PG X (.Subscript (.Subscript (.Name x np) ie p1) ie2 pos) (tG X.K [] (gIx2 i f1 f2)) := by
  refine PG.imp (pg_sub (pe_ix (pos := p1) ix_seq ho h1 hs) h2 set_list ha) fun v σ H Q ⟨F, pa, Z, env, d, env', W, q, e, k⟩ => ?_
  unfold gIx2 at e
  split at e
  · rename_i s0 e0
    by_cases hm : isMat s0 = true
    · rw [if_pos hm] at e
      obtain ⟨dss0, rfl⟩ := isMat_some hm
      obtain ⟨o, eo, so0⟩ := W.get e0
      cases so0 with
      | @mat a us0 _ bs0 _ _ _ _ _ =>
        split at e
        · rename_i kk env1 q1
          split at e
          · rename_i dss q2
            split at e
            · rename_i j hj
              split at e
              · rename_i ds q3
                split at e
                · rename_i m env2 q4
                  cases q5 : ixN ds.length m with
                  | none => rw [q5] at e; cases e
                  | some l =>
                    rw [q5] at e
                    cases e
                    refine ⟨_, eo, F, pa, Z, env, _, env1, W, q1, fun y Z1 H1 g1 W1 y1 => ?_⟩
                    cases y1
                    cases W1.sl i _ _ eo q2 with
                    | @mat _ us _ bs z1 z2 z3 z4 z5 =>
                      obtain ⟨b, ws, b1, b2, b3, b4, b5, b6⟩ := z4.get q3
                      refine .inl ⟨a, us, kk, .ref b, rfl, rfl, SqL.of z1, by unfold atI; rw [z4.length, hj]; exact b1, ?_⟩
                      refine ⟨_, pa, Z1, _, _, env2, W1.aside eo q2 z1 z2 z4, q4, fun y2 Z2 H2 g2 W2 y3 => ?_⟩
                      cases y3
                      obtain ⟨r0, r1, r2, r3, r4⟩ := Wst.putM z1 z2 z3 z4 z5 g2 eo W2
                      have hb : H2 b = some (.lst ws) := W2.fh b _ (by rw [fAdd_in (List.mem_cons_of_mem _ b2)]; exact b3)
                      have hi2 : i < env2.length := by rw [← W2.len]; exact (List.getElem?_eq_some_iff.mp eo).1
                      have b6' := DpAll.mono r0.zz _ _ b6
                      refine ⟨b, ws, m, l, rfl, rfl, hb, by rw [da_length b6']; exact q5, ?_⟩
                      have W5 := r4.chgM eo (by rw [List.getElem?_set_self hi2]) r1 z2 r2 r3 z5 b1 (da_set (Dp.mono (g1.zz.trans r0.zz) _ _ q) l b6')
                      rw [List.set_set] at W5
                      exact k σ Z2 _ (g1.trans r0) W5 rfl fun _ _ => rfl
                · cases e
              · cases e
            · cases e
          · cases e
        · cases e
    · rw [if_neg hm] at e; cases e
  · cases e
theorem s_setCompM {i : Nat} {y : Str} {py : Pos} {elt tg iter : Expr} {ifs : List Expr} {scope : Scope} {own : List (Str × Nat)} {pos spos : Pos} {it : Fx (List D)} {sl : List Nat} {g : Gf} {c : Fx Bool} {f : Fx R} (hc : X.calm = true) (hN : X.N.Nodup) (hy : X.N[i]? = some y) (hyl : X.env.scope.names.lookup y = some .local)
    (hsw : swapsWith (.ListComp elt [⟨tg, iter, ifs, 0⟩] scope pos) (some (.Name y py)) spos.line X.env = pure true) (hi : PI X tg iter (tI X.K it)) (ok : BlkOk X.N X.env.scope scope own)
    (hsl : ∀ i ∈ sl, i ∈ own.map (·.2))
    (hg : ∀ (s : Shared) (H : Hp) (C : Addr) (cl : List (Str × Addr)) (fp : List Addr), PG (X.blk s H scope (compEnvC scope cl C X.env) fp) tg (tG X.K sl g))
    (ht : ∀ (s : Shared) (H : Hp) (C : Addr) (cl : List (Str × Addr)) (fp : List Addr), PTs (X.blk s H scope (compEnvC scope cl C X.env) fp) ifs (tT X.K c))
    (he : ∀ (s : Shared) (H : Hp) (C : Addr) (cl : List (Str × Addr)) (fp : List Addr), PE (X.blk s H scope (compEnvC scope cl C X.env) fp) elt (tR X.K f)) (hs : ∀ x, foldedSetIterable iter X.env x = pure x) :
    PS X (.Assign [.Name y py] (.ListComp elt [⟨tg, iter, ifs, 0⟩] scope pos) spos) (tS X.K (sSet i (eCompM it g c f (own.map (·.2))))) :=
  s_setG (ps_setLc hc hN hy hyl hsw hi ok hg ht he hs) fun σ H Q h => tLcM_of hsl h
end
end Ev
namespace Ev
open PySem PySem.Spec PyProof.Rows L2
/-! ## x.pop(i), x a list of its own -/
def popAt (i : Nat) (n : Int) (env : En) : Option (D × En) := match env[i]? with
  | some (.own ds) => if ds.length ≤ 100000000 then (ixN ds.length n).bind fun j => (ds[j]?).map fun d => (d, env.set i (.own (ds.eraseIdx j))) else none
  | _ => none
def ePop (i : Nat) (f : Fx D) : Fx D := fun env => match env[i]? with
  | some s => if isOwn s = true then (match f env with
      | some (.int k, e) => popAt i k e
      | _ => none) else none
  | none => none
theorem da_erase {K : PySem.W.Frag} {Z : Hp} : ∀ {vs : List V} {ds : List D} (j : Nat), DpAll K Z vs ds → DpAll K Z (vs.eraseIdx j) (ds.eraseIdx j)
  | [], [], _, h => by simpa using h
  | v :: vs, d :: ds, 0, h => by cases h with | cons h1 h2 => simpa using h2
  | v :: vs, d :: ds, j + 1, h => by
    cases h with
    | cons h1 h2 => simpa using DpAll.cons h1 (da_erase j h2)
section
variable {X : Cx}
theorem e_pop {i : Nat} {x : Str} {ie : Expr} {f : Fx D} {np ap cp : Pos} (ho : PE X (.Name x np) (tVar i)) (hi : PE X ie (tE X.K f)) (hse : starEach [ie] X.env = (false, eval ie X.env) :: starEach [] X.env)
    (hline : (ap.endLine == cp.line) = true) : PE X (.Call (.Attribute (.Name x np) "pop" ap) [ie] [] cp) (tE X.K (ePop i f)) := by
  refine PE.imp (pe_bm PySem.F.plainAttrs_list PySem.F.slot_list_pop PySem.F.type_list_pop mt_popAt ho (pa_cons hi pa_nil hse) rfl (by rw [hse]; rfl) hline hse) fun σ H Q ⟨F, pa, Z, env, d, env', W, e, k⟩ => ?_
  unfold ePop at e
  cases e0 : env[i]? with
  | none => rw [e0] at e; cases e
  | some s0 =>
    rw [e0] at e
    dsimp only at e
    cases ow : isOwn s0 with
    | false => rw [ow, if_neg Bool.false_ne_true] at e; cases e
    | true =>
      rw [ow, if_pos rfl] at e
      obtain ⟨a, us0, ds0, ea, _, hH0, _⟩ := W.own_ref e0 ow
      split at e
      · rename_i n env1 h1
        refine ⟨_, ea, Or.inl ⟨rfl, _, SqL.of hH0⟩, F, pa, Z, env, _, env1, W, h1, fun y Z1 H1 g1 W1 q1 => ?_⟩
        cases q1
        unfold popAt at e
        split at e
        · rename_i ds es
          by_cases hl : ds.length ≤ 100000000
          · rw [if_pos hl] at e
            cases hj : ixN ds.length n with
            | none => rw [hj] at e; cases e
            | some j =>
              rw [hj] at e
              obtain ⟨k1, k2, k3, k4⟩ := ixN_seq hj
              have e : (ds[j]?).map (fun d => (d, env1.set i (.own (ds.eraseIdx j)))) = some (d, env') := e
              cases hd : ds[j]? with
              | none => rw [hd] at e; cases e
              | some d0 =>
                rw [hd] at e
                cases e
                cases W1.sl i _ _ ea es with
                | own b1 b2 b3 b4 =>
                  rename_i us
                  obtain ⟨y', hy, qy⟩ := da_get b4 hd
                  refine ⟨a, us, n, j, y', rfl, rfl, b1, by omega, by omega, by rw [da_length b4]; exact k1, hy, ?_⟩
                  exact k y' Z1 _ g1 (W1.chg ea es (.inl ⟨rfl, _, rfl⟩) (da_erase j b4)) qy
          · rw [if_neg hl] at e; cases e
        · cases e
      · cases e
/-- a list's or tuple's items in a list written out -/
def dStar (f : Fx D) (g : Fx (List D)) : Fx (List D) := fun env => match f env with
  | some (.tuple ds, e) => (g e).map fun q => (ds ++ q.1, q.2)
  | some (.list ds, e) => (g e).map fun q => (ds ++ q.1, q.2)
  | _ => none
theorem s_dStar {e : Expr} {es : List Expr} {p : Pos} {f : Fx D} {g : Fx (List D)} (h1 : PE X e (tE X.K f)) (h2 : PA X es (tAd X.K g)) : PA X (.Starred e p :: es) (tAd X.K (dStar f g)) := by
  refine PA.imp (StX.pa_star h1 h2 rfl) fun σ H Q ⟨F, pa, Z, env, ds, env', W, h, k⟩ => ?_
  unfold dStar at h
  split at h
  · rename_i xs e1 h0
    cases e2 : g e1 with
    | none => rw [e2] at h; cases h
    | some q =>
      rw [e2] at h
      cases h
      refine ⟨F, pa, Z, env, _, e1, W, h0, fun v Z1 H1 g1 W1 q1 => ?_⟩
      cases q1 with
      | tup hs ha => exact ⟨_, _, rfl, .inl (Same.sqT (show Same Z1 H1 from W1.zh) hs), F, pa, Z1, e1, q.1, q.2, W1, e2, fun vs Z2 H2 g2 W2 q2 => k _ Z2 H2 (g1.trans g2) W2 (da_append (DpAll.mono g2.zz _ _ ha) q2)⟩
  · rename_i xs e1 h0
    cases e2 : g e1 with
    | none => rw [e2] at h; cases h
    | some q =>
      rw [e2] at h
      cases h
      refine ⟨F, pa, Z, env, _, e1, W, h0, fun v Z1 H1 g1 W1 q1 => ?_⟩
      cases q1 with
      | lst hs ha => exact ⟨_, _, rfl, .inr ((show Same Z1 H1 from W1.zh).seq hs), F, pa, Z1, e1, q.1, q.2, W1, e2, fun vs Z2 H2 g2 W2 q2 => k _ Z2 H2 (g1.trans g2) W2 (da_append (DpAll.mono g2.zz _ _ ha) q2)⟩
  · cases h
end
end Ev
namespace Ev
open PySem PySem.Spec PyProof.Rows L2
/-! ## calls where no repr runs around -/
/-- nothing is being shown around -/
abbrev NoG (A : Around) : Prop := A.guards = some []
structure FnG (P : Program) (w : World) (K : PySem.W.Frag) (mg : Str → Option Value) (base : Heap) (k : Nat) (f : Addr) (fd : FuncData) (ps : List Str) (sp : Sp) : Prop where
  len : ∀ vs H Q E, sp vs H Q E → vs.length = ps.length
  run : ∀ (A : Around), NoG A → Room k A → ∀ (outer : List Env) (s : Shared) (H : Hp), Env0 P w K mg base A outer s H → ∀ (args : Args) (us : List Value), BindsTo s fd args (ps.zip us) → ∀ (vs : List V), Vals vs us →
    ∀ (Q : VK) (E : XK), sp vs H Q E → codeAny (model P w) A (.call (.ref f) args) (CR CX0 outer P w H s Q E) s
section
variable {X : Cx} {k : Nat} {f : Addr} {fd : FuncData} {ps : List Str} {sp : Sp} {E : XK} {x : Str} {p pos : Pos} {e : Expr} {es : List Expr} {t tk : TA}
/-- a call's result, in the caller -/
theorem cr_back {pins : List (Addr × Obj)} {σ : L2.St} {H : Hp} {s : Shared} {Q : VK} (I : Inv X pins σ H s) (hx : Passes CX0 X E) : ∀ (r : Result) (s' : Shared), CR CX0 X.stack X.prog X.w H s Q E r s' → (match r with
    | .ok (.ret u) => EP X pins σ Q u s'
    | .ok _ => False
    | .error e => X.xe e s')
  | .ok (.ret _), _, h => I.after h
  | .ok .next, _, h => h.elim
  | .ok .brk, _, h => h.elim
  | .ok .cont, _, h => h.elim
  | .error e, s', h => hx pins σ H s e s' I h
theorem run_g {pins : List (Addr × Obj)} {σ : L2.St} {H : Hp} {s : Shared} {Q : VK} {us zs : List Value} {kw : List (Str × Value)} {vs : List V} (F : FnG X.prog X.w X.K X.mg X.base k f fd ps sp) (hG : NoG X.A) (hr : Room k X.A) (hx : Passes CX0 X E) (I : Inv X pins σ H s)
    (b : BindsTo s fd ⟨us, kw⟩ (ps.zip zs)) (r : Vals vs zs) (h : sp vs H Q E) : wpAny (model X.prog X.w) X.A (call (.ref f) us kw) (EP X pins σ Q) X.xe s := by
  refine wpAny_call (codeAny_mono (F.run X.A hG hr X.stack s H I.env0 _ zs b vs r Q E h) fun r s' q => ?_)
  have := cr_back I hx r s' q
  cases r with
  | error e => exact this
  | ok fl => cases fl <;> first | exact this | exact this.elim
theorem g_call (F : FnG X.prog X.w X.K X.mg X.base k f fd ps sp) (hG : NoG X.A) (hr : Room k X.A) (hg : Gl X x) (hm : X.mg x = some (.ref f)) (hk : PySem.W.keepIn X.K (.ref f) = true) (hb : Binds X.K fd ps []) (hx : Passes CX0 X E)
    (ha : PA X (e :: es) t) (hdb : (x == ("__debug__" : Str)) = false) (he : starEach (e :: es) X.env = (false, eval e X.env) :: starEach es X.env) (hpl : (backTo pos (starEach es X.env)).any (·.1) = false) :
    PE X (.Call (.Name x p) (e :: es) [] pos) (tCall sp [] E t) := by
  constructor
  intro pins s σ H Q I h
  refine wpAny_Call_Name_kw (ld_glob I hg hm (PySem.W.callWith_K (h₀ := X.base) I.ok.mod.kin hk ?_ he hpl) hdb)
  refine wpAny_mono (ha.run pos pins s σ H _ I h) ?_ fun _ _ z => z
  rintro us s1 ⟨vs, H1, I1, r, q⟩
  refine ⟨I1.kIn, ?_⟩
  rw [List.append_nil] at q
  have b := hb s1 us I1.kIn (by rw [List.append_nil, ← r.length]; exact F.len _ _ _ _ q)
  rw [List.append_nil] at b
  exact run_g F hG hr hx I1 b r q
theorem g_call0 (F : FnG X.prog X.w X.K X.mg X.base k f fd ps sp) (hG : NoG X.A) (hr : Room k X.A) (hg : Gl X x) (hm : X.mg x = some (.ref f)) (hk : PySem.W.keepIn X.K (.ref f) = true) (hb : Binds X.K fd ps []) (hx : Passes CX0 X E)
    (hdb : (x == ("__debug__" : Str)) = false) : PE X (.Call (.Name x p) [] [] pos) (tCall sp [] E tNil) := by
  constructor
  intro pins s σ H Q I h
  have q : sp [] H Q E := h
  have b := hb s [] I.kIn (F.len _ _ _ _ q)
  exact wpAny_Call_Name_kw (ld_glob I hg hm (PySem.W.callWith_K0 I.kIn hk (run_g F hG hr hx I b .nil q)) hdb)
section
variable {ks : List Str} {kws : List Keyword} {g : List Value → List Value → List Value} {gV : List V → List V → List V}
theorem run_gk {pins : List (Addr × Obj)} {σ : L2.St} {H : Hp} {s : Shared} {Q : VK} {us ws : List Value} {vs zs : List V} (F : FnG X.prog X.w X.K X.mg X.base k f fd ps sp) (hG : NoG X.A) (hr : Room k X.A) (hb : KBinds X.K fd ps ks g gV) (hx : Passes CX0 X E)
    (I : Inv X pins σ H s) (r : Vals vs us) (rz : Vals zs ws) (h : sp (gV vs zs) H Q E) : wpAny (model X.prog X.w) X.A (call (.ref f) us (ks.zip ws)) (EP X pins σ Q) X.xe s := by
  have r2 := hb.rel r rz
  exact run_g F hG hr hx I (hb.to s us ws I.kIn (by rw [← r2.length]; exact F.len _ _ _ _ h)) r2 h
theorem g_callK (F : FnG X.prog X.w X.K X.mg X.base k f fd ps sp) (hG : NoG X.A) (hr : Room k X.A) (hg : Gl X x) (hm : X.mg x = some (.ref f)) (hk : PySem.W.keepIn X.K (.ref f) = true) (hb : KBinds X.K fd ps ks g gV) (hx : Passes CX0 X E)
    (ha : PA X (e :: es) t) (hkw : PK X kws tk) (hall : (backToKw pos (keywordEach kws X.env)).all (·.1.isSome) = true) (hks : (backToKw pos (keywordEach kws X.env)).filterMap (·.1) = ks)
    (hdb : (x == ("__debug__" : Str)) = false) (he : starEach (e :: es) X.env = (false, eval e X.env) :: starEach es X.env)
    (hpl : ((backTo pos (starEach (e :: es) X.env)).any (·.1) || (backToKw pos (keywordEach kws X.env)).any (·.1.isNone)) = false) :
    PE X (.Call (.Name x p) (e :: es) kws pos) (tCallK sp gV E t tk) := by
  constructor
  intro pins s σ H Q I h
  refine wpAny_Call_Name_kw (ld_glob I hg hm (PySem.W.callWith_KW (h₀ := X.base) I.ok.mod.kin hk hall ?_ hpl he) hdb)
  refine wpAny_mono (ha.run pos pins s σ H _ I h) ?_ fun _ _ z => z
  rintro us s1 ⟨vs, H1, I1, r, q⟩
  refine wpAny_mono (hkw.run pos pins s1 σ H1 _ I1 q) ?_ fun _ _ z => z
  rintro ws s2 ⟨zs, H2, I2, rz, q2⟩
  refine ⟨I2.kIn, ?_⟩
  rw [hks]
  exact run_gk F hG hr hb hx I2 r rz q2
/-- f(k = e, ..), keywords alone -/
theorem g_callK0 (F : FnG X.prog X.w X.K X.mg X.base k f fd ps sp) (hG : NoG X.A) (hr : Room k X.A) (hg : Gl X x) (hm : X.mg x = some (.ref f)) (hk : PySem.W.keepIn X.K (.ref f) = true) (hb : KBinds X.K fd ps ks g gV) (hx : Passes CX0 X E)
    (hkw : PK X kws tk) (hall : (backToKw pos (keywordEach kws X.env)).all (·.1.isSome) = true) (hks : (backToKw pos (keywordEach kws X.env)).filterMap (·.1) = ks)
    (hdb : (x == ("__debug__" : Str)) = false) (hpl : ((backTo pos (starEach [] X.env)).any (·.1) || (backToKw pos (keywordEach kws X.env)).any (·.1.isNone)) = false) :
    PE X (.Call (.Name x p) [] kws pos) (tCallK sp gV E tNil tk) := by
  constructor
  intro pins s σ H Q I h
  refine wpAny_Call_Name_kw (ld_glob I hg hm (PySem.W.callWith_KW0 (h₀ := X.base) I.ok.mod.kin hk hall ?_ hpl) hdb)
  refine wpAny_mono (hkw.run pos pins s σ H _ I h) ?_ fun _ _ z => z
  rintro ws s2 ⟨zs, H2, I2, rz, q2⟩
  refine ⟨I2.kIn, ?_⟩
  rw [hks]
  exact run_gk F hG hr hb hx I2 .nil rz q2
end
end
/-! ## a def's body -/
section
variable {P : Program} {w : World} {K : PySem.W.Frag} {mg : Str → Option Value} {base : Heap} {k : Nat} {f : Addr} {ps : List Str} {sp : Sp}
theorem g_of {name qual : Str} {params : Arguments} {body : List Stmt} {scope : Scope} {dV kV doc pm cdv ct oc : Value} {an od : Option Addr} {osl : Array (Option Value)} {N : List Str}
    (lk : K.lookup f = some ⟨oc, od, .func (PySem.W.fnOf name qual params body scope dV kV doc pm an cdv ct), osl⟩) (hcd : PySem.W.codeIn K cdv qual = true) (S : FnScope N ps scope) (len : ∀ vs H Q E, sp vs H Q E → vs.length = ps.length)
    (hb : ∀ (A : Around), NoG A → ∀ (outer : List Env) (s : Shared) (H : Hp) (vs : List V) (Q : VK) (E : XK), Room k (A.deeper (envOfC qual scope s.heap.objs.size f cdv)).in1.in1 → sp vs H Q E →
      ∃ t, PSs (cxOf CX0 P w K mg base N qual scope f cdv A outer s H E) body t ∧ t { nx := fun _ H' => Q .non H', rt := Q } (L2.start N vs) H) :
    FnG P w K mg base (k + 1) f (PySem.W.fnOf name qual params body scope dV kV doc pm an cdv ct) ps sp := by
  constructor
  · exact len
  · intro A hG hr outer s H e0 args us b vs r Q E hsp
    have inK : K.In s.heap := e0.mod.kin.keeps fun b o e => (e0.bs b o e).1
    have nl : s.heap.NoLimit := e0.mod.nolimit.keeps fun b o e => (e0.bs b o e).1
    have kinds : ∀ y ∈ ps.zip us, scope.names.lookup y.1 = some .local ∨ (scope.names.lookup y.1 = some .cell ∧ ((cellsFrom (s.heap.objs.size + 1) scope.names []).lookup y.1).isSome = true) := by
      rintro ⟨n, v⟩ hy
      refine (S.par n (List.of_mem_zip hy).1).imp (fun q => q) fun q => ⟨q, PySem.W.cellsFrom_some _ _ _ (.inl q)⟩
    refine codeAny_call_function hr.depth (inK _ _ lk) rfl S.co S.gen rfl (PySem.W.codeRec_of inK hcd) (b _ _ _ _ (wpAny_newFunctionEnv_cells S.kind kinds ?_))
    rintro env rfl s1 x
    refine ⟨nl.keeps x.toInCall.keep, codeAny_func ?_⟩
    obtain ⟨t, ht, hq⟩ := hb A hG outer s H vs Q E ⟨hr.hd, by have := hr.dp; show A.depth + 1 + 3 * k + 5 < _; omega, by have := hr.un; show A.units + 3 + 1 + 1 + 16 * k + 200 < _; omega⟩ hsp
    have I : Inv (cxOf CX0 P w K mg base N qual scope f cdv A outer s H E) [] (L2.start N vs) H s1 := inv_start S hr.hd e0 (len _ _ _ _ hsp) r x
    have fin : ∀ {σ' : L2.St} {H' : Hp} {v : V} {u : Value} {s' : Shared}, Inv (cxOf CX0 P w K mg base N qual scope f cdv A outer s H E) [] σ' H' s' → RelV v u → Q v H' → CE outer P w H s Q u s' := fun J rv q => ⟨_, _, J.os, J.bare, J.base, J.hok, rv, q⟩
    refine wpAny_mono (ht.run [] s1 (L2.start N vs) H _ I hq) ?_ fun _ _ z => z
    intro fl s' hs
    cases fl with
    | ret u => obtain ⟨v, σ', H', J, rv, q⟩ := hs; exact fin J rv q
    | next => obtain ⟨σ', H', J, q⟩ := hs; exact fin (v := V.non) (u := Value.none) J rfl q
    | brk => obtain ⟨_, _, _, q⟩ := hs; exact q.elim
    | cont => obtain ⟨_, _, _, q⟩ := hs; exact q.elim
end
end Ev
namespace Ev
open PySem PySem.Spec PyProof.Rows L2
/-! ## the law's call -/
section
variable {P : Program} {w : World} {K : PySem.W.Frag} {mg mb : Str → Option Value} {k : Nat} {fa a : Addr} {fd : FuncData} {x : Str} {sp : Sp} {s₁ : Shared} {vs : List Value} {ns : List Int}
/-- what the law's end wants of the call -/
abbrev LawEnd (s₁ : Shared) (r : Result) (s' : Shared) : Prop := r = .ok (.ret (.bool true)) ∧ OldK s₁.heap s'.heap ∧ s'.os = s₁.os ∧ AllBare s'.gens
/-- the heap in which at most the script at a is tracked -/
structure Start (P : Program) (w : World) (K : PySem.W.Frag) (a : Addr) (s : Shared) (H : Hp) : Prop where
  only : Only H
  ok : HOk P w H s.heap
  at_ : ∀ b, H b ≠ none → b = a
  nk : H a ≠ none → K.lookup a = none
theorem law_run {H : Hp} (S : Start P w K a s₁ H) (KX : K.In s₁.heap) (hns : s₁.heap.Ns mainGlobals mg) (hb : s₁.heap.Ns builtinsNs mb) (hbb : ∀ x : Str, x ≠ "__name__" → mb x = bootBuiltins x) (hlim : s₁.heap.NoLimit) (hg : s₁.gens = #[])
    (ha : s₁.heap.get? a = some { cls := .type "list", data := .seq vs.toArray }) (hr : Room k callerA) (F : ∀ base : Heap, K.In base → base.Ns mainGlobals mg → FnG P w K mg base k fa fd [x] sp) (hbind : BindsTo s₁ fd ⟨[.ref a], []⟩ [(x, .ref a)])
    (hsp : sp [.ref a] H (fun v _ => v = .bl true) fun _ _ _ => False) : codeAny (model P w) callerA (.call (.ref fa) ⟨[.ref a], []⟩) (LawEnd s₁) s₁ := by
  -- what is no list at a stands in the base
  have inB : ∀ {b : Addr} {o : Obj}, s₁.heap.get? b = some o → H b = none → (hidT s₁.heap H).get? b = some o := fun e n => hidT_get e n
  have nsB : ∀ {b : Addr} {m : Str → Option Value}, s₁.heap.Ns b m → (hidT s₁.heap H).Ns b m := by
    rintro b m ⟨o, es, ep, e, d, r⟩
    refine ⟨o, es, ep, inB e ?_, d, r⟩
    cases q : H b with
    | none => rfl
    | some u =>
      obtain rfl := S.at_ b (by rw [q]; exact fun z => nomatch z)
      rw [ha] at e; cases e
      cases (show Data.seq vs.toArray _ = Data.dict es ep from d)
  have kB : K.In (hidT s₁.heap H) := fun b o e => by
    refine inB (KX b o e) ?_
    cases q : H b with
    | none => rfl
    | some u =>
      have nn : H b ≠ none := by rw [q]; exact fun z => nomatch z
      obtain rfl := S.at_ b nn
      rw [S.nk nn] at e; cases e
  have limB : (hidT s₁.heap H).NoLimit := hlim.elim fun mc h => ⟨mc, nsB h.1, h.2⟩
  have e0 : Env0 P w K mg (hidT s₁.heap H) callerA [] s₁ H :=
    { frames := rfl, mod := ⟨kB, nsB hns, ⟨mb, nsB hb, hbb⟩, limB⟩, bs := fun b o e => of_hidT e, bsz := Nat.le_of_eq (hidT_size _ _), funs := trivial, frf := (fun b hb => absurd (show b ∈ ([] : List Addr) from hb) (by simp)), hok := S.ok, bare := .of_eq hg }
  refine codeAny_mono ((F _ kB (nsB hns)).run callerA rfl hr [] s₁ H e0 ⟨[.ref a], []⟩ [.ref a] hbind [.ref a] (.cons rfl .nil) _ _ hsp) fun r s' h => ?_
  cases r with
  | error e =>
    exact False.elim h
  | ok fl =>
    cases fl with
    | ret u =>
      obtain ⟨v, H', os, bare, un, ok', rv, q⟩ := h
      cases (show v = .bl true from q)
      cases (show u = Value.bool true from rv)
      refine ⟨rfl, .of_keep fun b o e => ?_, os, bare⟩
      rcases S.only b with z | ⟨ob, xs, z⟩
      · exact un.keep b o e z (fun m => absurd (show b ∈ ([] : List Addr) from m) (by simp)) (by simp)
      · have e1 := (S.ok b _ z).1
        have e2 := (ok' b _ (un.frzs b ob _ z)).1
        rw [e] at e1; cases e1
        exact e2
    | _ => exact False.elim h
theorem law_callG (KX : K.In s₁.heap) (hns : s₁.heap.Ns mainGlobals mg) (hb : s₁.heap.Ns builtinsNs mb) (hbb : ∀ x : Str, x ≠ "__name__" → mb x = bootBuiltins x) (hlim : s₁.heap.NoLimit) (hg : s₁.gens = #[])
    (ha : s₁.heap.get? a = some { cls := .type "list", data := .seq vs.toArray }) (hi : IntsAre vs ns) (hl : ns.length ≤ sizeLine) (hr : Room k callerA) (F : ∀ base : Heap, K.In base → base.Ns mainGlobals mg → FnG P w K mg base k fa fd [x] sp)
    (hbind : BindsTo s₁ fd ⟨[.ref a], []⟩ [(x, .ref a)]) (hsp : ∀ H : Hp, Only H → SqL K H a (ns.map V.int) → sp [.ref a] H (fun v _ => v = .bl true) fun _ _ _ => False) : codeAny (model P w) callerA (.call (.ref fa) ⟨[.ref a], []⟩) (LawEnd s₁) s₁ := by
  have rv := vals_ints hi
  cases hk : K.lookup a with
  | some o =>
    have e := KX a o hk
    rw [ha] at e; cases e
    have S : Start P w K a s₁ (fun _ => none) := ⟨fun _ => .inl rfl, (fun b u z => by cases (show (none : Option HO) = some u from z)), (fun b z => absurd rfl z), fun z => absurd rfl z⟩
    exact law_run S KX hns hb hbb hlim hg ha hr F hbind (hsp _ S.only (.inr ⟨_, vs.toArray, _, hk, rfl, rfl, rfl, by rw [List.size_toArray, hi.length]; exact hl, by simpa using rv⟩))
  | none =>
    let o : HO := .frz { cls := .type "list", data := .seq vs.toArray } (.lst (ns.map V.int))
    let H0 : Hp := fun b => if b = a then some o else none
    have at0 : H0 a = some o := if_pos rfl
    have ne0 : ∀ b, b ≠ a → H0 b = none := fun b h => if_neg h
    have S : Start P w K a s₁ H0 := by
      refine ⟨fun b => ?_, fun b u z => ?_, fun b z => Classical.byContradiction fun h => z (ne0 b h), fun _ => hk⟩
      · by_cases h : b = a
        · subst h; exact .inr ⟨_, _, at0⟩
        · exact .inl (ne0 b h)
      · by_cases h : b = a
        · subst h
          rw [at0] at z; cases z
          exact ⟨ha, by rw [List.length_map]; exact hl, vs, _, rv, ha⟩
        · rw [ne0 b h] at z; cases z
    exact law_run S KX hns hb hbb hlim hg ha hr F hbind (hsp H0 S.only (.inl (.inr ⟨_, at0⟩)))
end
theorem walk_g {l : PySem.W.OpenLaw} {n k : Nat} {q : Program} {loose : List Str} {XP : (Str → Option Value) → Heap → Prop} {YP : World → Heap → Prop} {d : DefRec} {x : Str} (hn : l.most = some n) (hn2 : n ≤ sizeLine) (hdf : d.params.defaults = []) (hr : Room k callerA)
    (F : ∀ (w : World) (mg : Str → Option Value) (fa : Addr) (h : Heap), YP w h → h.Ns mainGlobals mg → mg d.name = some (.ref fa) →
      ∃ (K : PySem.W.Frag) (fd : FuncData) (sp : Sp), K.In h ∧ (∀ (s : Shared) (u : Value), BindsTo s fd ⟨[u], []⟩ [(x, u)]) ∧
        (∀ (H : Hp) (a : Addr) (ns : List Int), ns.length ≤ n → Only H → SqL K H a (ns.map V.int) → sp [.ref a] H (fun v _ => v = .bl true) fun _ _ _ => False) ∧
        ∀ base : Heap, K.In base → base.Ns mainGlobals mg → FnG l.prog w K mg base k fa fd [x] sp) :
    PySem.W.WalkO q loose XP YP l.row.toRowW d [] (fun f vs => PySem.call f vs) := by
  refine Att.attach_call hn hdf ?_
  intro w s₀ s₁ mg mb fa o pm cd doc a vs ns G Y ho hd hcd hmg hobj hints hlen hg
  obtain ⟨K, fd, sp, KX, hb, hsp, hF⟩ := F w mg fa _ Y G.T.g hmg
  exact law_callG KX G.T.g G.T.b G.T.builtins G.T.nolimit hg hobj hints (Nat.le_trans hlen hn2) hr hF (hb s₁ _) fun H hO hS => hsp H a ns hlen hO hS
/-! ## a def -/
theorem fn_ok {P : Program} {w : World} {K : PySem.W.Frag} {mg : Str → Option Value} {base : Heap} {x qual : Str} {params : Arguments} {body : List Stmt} {scope : Scope} {dvs : List V} {kws : List (Str × V)} {f : Addr} {fd : FuncData} {N ps : List Str} {k : Nat} {fb : Fx Fl}
    (F : FunD K x qual params body scope dvs kws f fd) (S : FnScope N ps scope)
    (hb : ∀ (cdv : Value) (A : Around), NoG A → ∀ (outer : List Env) (s : Shared) (H : Hp) (E : XK), Room k (A.deeper (envOfC qual scope s.heap.objs.size f cdv)).in1.in1 → PSs (cxOf CX0 P w K mg base N qual scope f cdv A outer s H E).nox body (tS K fb)) :
    FnG P w K mg base (k + 1) f fd ps (spF K ps.length (callFn N.length fb)) := by
  obtain ⟨oc, od, dV, kV, doc, pm, an, cdv, ct, osl, rfl, lk, hcd, _, _⟩ := F.ex
  refine g_of lk hcd S (fun vs H Q E h => h.1) fun A hG outer s H vs Q E hr h => ?_
  refine ⟨tS K fb, (hb cdv A hG outer s H E hr).nox, ?_⟩
  obtain ⟨hl, F0, Z, avs, r, outs, hf, hz, A0, e, k0⟩ := h
  have hn : vs.length ≤ N.length := by
    rw [hl, ← S.pre, List.length_take]
    omega
  have W := Wst.start (N := N) hf hz A0 hn
  have la := A0.length
  have hpa : ∀ i a ds, vs[i]? = some (.ref a) → avs[i]? = some (.own ds) → paOf vs avs (0 + i) = some a := fun i a ds e1 e2 => by
    unfold paOf
    rw [Nat.zero_add, e1, e2]
  have fin : ∀ (fl : Fl) (r0 : R) (env' : En) (o : List (List D)), outsOf avs 0 env' = some o → some (r0, o) = some (r, outs) → ∀ v σ' Z' H', Gr F0 Z Z' → Wst K F0 Z' H' (paOf vs avs) σ' env' → RkOk K F0 Z' H' σ' env' v r0 → Q v H' := fun fl r0 env' o eo er v σ' Z' H' g1 W1 q => by
    cases er
    obtain ⟨h1, h2⟩ := outs_ok W1 A0 hpa eo
    refine k0 v Z' H' g1 W1.fh W1.zh h1 ?_
    cases r with
    | val d => exact q
    | fresh ds =>
      obtain ⟨p, us, rfl, b1, b2, b3, b4, b5⟩ := q
      refine ⟨p, us, rfl, b1, b2, b3, fun hm => ?_, b4⟩
      obtain ⟨j, s', c1, c2, c3⟩ := h2 p hm
      exact b5 j _ s' c1 c2 c3
    | mat dss =>
      obtain ⟨p, us, bs, rfl, b1, b2, b3, b4, b5, b6⟩ := q
      refine ⟨p, us, bs, rfl, b1, b2, b3, b4, b5, fun q hq hm => ?_⟩
      obtain ⟨j, s', c1, c2, c3⟩ := h2 q hm
      exact b6 q hq j _ s' c1 c2 c3
  unfold callFn at e
  split at e
  · rename_i r0 env' eb
    cases eo : outsOf avs 0 env' with
    | none => rw [eo] at e; cases e
    | some o =>
      rw [eo] at e
      exact ⟨F0, _, Z, _, _, env', W, eb, fin (.rt r0) r0 env' o eo e⟩
  · rename_i env' eb
    cases eo : outsOf avs 0 env' with
    | none => rw [eo] at e; cases e
    | some o =>
      rw [eo] at e
      exact ⟨F0, _, Z, _, _, env', W, eb, fun σ' Z' H' g1 W1 => fin .nx (.val .none) env' o eo e .non σ' Z' H' g1 W1 .non⟩
  · cases e
end Ev
namespace Ev
open PySem PySem.Spec PyProof.Rows L2
/-! ## repr of data -/
mutual
def shB : D → Bool
  | .none => true
  | .bool _ => true
  | .int i => decide (i.natAbs.log2 < 1920)
  | .str x => x.cps.toList.all fun c => decide (c < 16 ^ 8)
  | .list ds => shBs ds
  | .tuple ds => shBs ds
  | .dict _ => false
def shBs : List D → Bool
  | [] => true
  | d :: ds => shB d && shBs ds
end
mutual
/-- how much there is to be shown -/
def nds : D → Nat
  | .none => 1
  | .bool _ => 1
  | .int _ => 1
  | .str x => 1 + x.length
  | .list ds => 1 + ndss ds
  | .tuple ds => 1 + ndss ds
  | .dict _ => 1
def ndss : List D → Nat
  | [] => 0
  | d :: ds => nds d + ndss ds
end
theorem len_toS (i : Int) (h : i.natAbs.log2 < 1920) : (Str.ofString (toString i)).length ≤ 1921 := int_text_len_1921 h
mutual
theorem shown_len : ∀ d : D, shB d = true → (PyData.shown d).length + 2 ≤ 2000 * nds d
  | .none, _ => by show (Str.ofString "None").length + 2 ≤ 2000 * 1; decide
  | .bool b, _ => by cases b <;> (show (Str.ofString _).length + 2 ≤ 2000 * 1; decide)
  | .int i, h => by
    have := len_toS i (of_decide_eq_true h)
    show (Str.ofString (toString i)).length + 2 ≤ 2000 * 1
    omega
  | .str x, h => by
    have h' : (x.cps.toList.all fun c => decide (c < 16 ^ 8)) = true := h
    have := PySem.StrLaws.reprText_len x fun c hc => of_decide_eq_true (List.all_eq_true.mp h' c hc)
    show (reprText x).length + 2 ≤ 2000 * (1 + x.length)
    omega
  | .list ds, h => by
    have e := listText_len_le (PyData.shownAll ds)
    have q := shown_lens ds h
    show (listText (PyData.shownAll ds)).length + 2 ≤ 2000 * (1 + ndss ds)
    omega
  | .tuple ds, h => by
    have e := tupleText_len_le (PyData.shownAll ds)
    have q := shown_lens ds h
    show (tupleText (PyData.shownAll ds)).length + 2 ≤ 2000 * (1 + ndss ds)
    omega
  | .dict _, h => by cases h
theorem shown_lens : ∀ ds : List D, shBs ds = true → ((PyData.shownAll ds).map (·.length)).sum + 2 * (PyData.shownAll ds).length ≤ 2000 * ndss ds
  | [], _ => by simp only [PyData.shownAll]; exact Nat.zero_le _
  | d :: ds, h => by
    obtain ⟨h1, h2⟩ := andB (show (shB d && shBs ds) = true from h)
    have a := shown_len d h1
    have b := shown_lens ds h2
    simp only [PyData.shownAll, List.map_cons, List.sum_cons, List.length_cons, ndss]
    omega
end
mutual
theorem shB_showable : ∀ d : D, shB d = true → PyData.showable d = true ∧ PyData.hasDict d = false
  | .none, _ => ⟨by simp only [PyData.showable], by simp only [PyData.hasDict]⟩
  | .bool b, _ => ⟨by simp only [PyData.showable], by simp only [PyData.hasDict]⟩
  | .int i, h => ⟨by simp only [PyData.showable]; exact h, by simp only [PyData.hasDict]⟩
  | .str x, h => ⟨by simp only [PyData.showable], by simp only [PyData.hasDict]⟩
  | .list ds, h => by
    obtain ⟨a, b⟩ := shBs_showable ds h
    exact ⟨by simp only [PyData.showable]; exact a, by simp only [PyData.hasDict]; exact b⟩
  | .tuple ds, h => by
    obtain ⟨a, b⟩ := shBs_showable ds h
    exact ⟨by simp only [PyData.showable]; exact a, by simp only [PyData.hasDict]; exact b⟩
  | .dict _, h => by cases h
theorem shBs_showable : ∀ ds : List D, shBs ds = true → PyData.showableAll ds = true ∧ PyData.hasDictAll ds = false
  | [], _ => ⟨by simp only [PyData.showableAll], by simp only [PyData.hasDictAll]⟩
  | d :: ds, h => by
    obtain ⟨h1, h2⟩ := andB (show (shB d && shBs ds) = true from h)
    obtain ⟨a1, a2⟩ := shB_showable d h1
    obtain ⟨b1, b2⟩ := shBs_showable ds h2
    exact ⟨by simp only [PyData.showableAll, a1, b1, Bool.and_self], by simp only [PyData.hasDictAll, a2, b2, Bool.or_self]⟩
end
def reprB (d : D) : Bool := shB d && (decide (nds d ≤ 8000) && decide (d.depth ≤ 40))
def gReprD : List D → Option D
  | [d] => if reprB d = true then some (.str (PyData.shown d)) else none
  | _ => none
section
variable {X : Cx}
theorem cr_reprD (hG : NoG X.A) (hu : X.A.units + 64 < cLine) : CallR X (.builtin "repr") (fun vs H Q => ∃ v d, vs = [v] ∧ Dp X.K H v d ∧ reprB d = true ∧ Q (.str (PyData.shown d)) H) := by
  intro pins s σ H vs us Q I r h
  obtain ⟨v, d, rfl, dp, hb, q⟩ := h
  obtain ⟨u, rfl, ru⟩ := vals1 r
  unfold reprB at hb
  simp only [Bool.and_eq_true, decide_eq_true_eq] at hb
  obtain ⟨h1, h2, h3⟩ := hb
  obtain ⟨as, rd⟩ := dp.reads I d v u ru
  obtain ⟨s1, s2⟩ := shB_showable d h1
  have hl : (PyData.shown d).length ≤ sizeLine := by
    have := shown_len d h1
    have e : sizeLine = 16777216 := rfl
    omega
  have fin : ∀ t, EP X pins σ Q (.str (PyData.shown d) t) { s with toks := s.toks + 1 } := fun t => ⟨.str _, H, I.tok _, ⟨_, rfl⟩, q⟩
  cases dp with
  | non => cases ru; exact PySem.P.repr_of_none (fin _)
  | bl b =>
    cases ru
    exact PySem.P.repr_of_bool (by cases b <;> exact fin _)
  | int i =>
    obtain ⟨t, rfl⟩ := ru
    exact PySem.P.repr_of_int (of_decide_eq_true h1) (fin _)
  | str x =>
    obtain ⟨t, rfl⟩ := ru
    exact PySem.P.repr_of_str (fin _) hl
  | lst hs ha =>
    cases ru
    exact repr_of_reads' rd s1 (PyData.noDict_hsm s2) hG (by omega) (fun b o e => e) (fun h' u tk hk => ⟨.str _, H, I.kept (t' := tk) hk, ⟨_, rfl⟩, q⟩) hl
  | tup hs ha =>
    cases ru
    exact repr_of_reads' rd s1 (PyData.noDict_hsm s2) hG (by omega) (fun b o e => e) (fun h' u tk hk => ⟨.str _, H, I.kept (t' := tk) hk, ⟨_, rfl⟩, q⟩) hl
  | dct _ => cases h1
theorem c_reprD (hG : NoG X.A) (hu : X.A.units + 64 < cLine) : CallD X (.builtin "repr") gReprD := ⟨_, cr_reprD hG hu, by
  intro Z H vs ds z Q zh q hz k
  unfold gReprD at hz
  split at hz
  · rename_i d
    split at hz
    · rename_i hb
      cases hz
      cases q with
      | cons h1 h2 =>
        cases h2
        exact ⟨_, d, rfl, Dp.mono zh _ _ h1, hb, k _ Z H (.refl zh) (.str _)⟩
    · cases hz
  · cases hz⟩
end
end Ev
namespace Ev
open PySem PySem.Spec PyProof.Rows L2
/-! ## own lists lent to a def that only reads them -/
def scal : D → Bool
  | .none => true
  | .bool _ => true
  | .int _ => true
  | .str _ => true
  | _ => false
theorem scal_dp {K : PySem.W.Frag} {Z Z' : Hp} {v : V} {d : D} (h : scal d = true) (q : Dp K Z v d) : Dp K Z' v d := by
  cases q with
  | non => exact .non
  | bl b => exact .bl b
  | int i => exact .int i
  | str x => exact .str x
  | lst => cases h
  | tup => cases h
  | dct => cases h
def toAvB (env : En) : List AR → Option (List AV)
  | [] => some []
  | .val d :: as => (match toAvB env as with
    | some r => some (.val d :: r)
    | none => none)
  | .tmp _ :: _ => none
  | .slot i :: as => (match env[i]? with
    | some (.own ds) => (match toAvB env as with
      | some r => some (.val (.list ds) :: r)
      | none => none)
    | some (.par ds) => (match toAvB env as with
      | some r => some (.val (.list ds) :: r)
      | none => none)
    | _ => none)
/-- a call that answers with a number, a text, a truth or None -/
def eCallB (g : Fn) (f : Fx (List AR)) : Fx R := fun env => match f env with
  | some (as, env1) => if slotsOf as = [] then eCall g f env else (match toAvB env1 as with
    | some avs => (match g avs with
      | some (.val d, []) => if scal d = true then some (.val d, env1) else none
      | _ => none)
    | none => none)
  | none => none
section
variable {K : PySem.W.Frag} {F Z H : Hp} {pa : Nat → Option Addr} {σ : L2.St} {env : En}
/-- the heap frozen for the call alone: with all that a list stands at -/
theorem lent_av (W : Wst K F Z H pa σ env) {Zs : Hp} (zz : Same Z Zs) (hz : ∀ a us, H a = some (.lst us) → Zs a = some (.lst us)) : ∀ {vs : List V} {as : List AR} {avs : List AV}, ArsOk K F Z H σ env vs as → toAvB env as = some avs → ∀ (Fc : Hp), AvOk K Fc Zs H vs avs ∧ ownAdr vs avs = []
  | _, _, avs, .nil, h, Fc => by cases h; exact ⟨.nil, rfl⟩
  | _, _, avs, .tmp _ _ _ _ _ _ _, h, Fc => by cases h
  | _, _, avs, .val (v := v) (d := d) (vs := vs) (as := as) q t, h, Fc => by
    cases e : toAvB env as with
    | none => simp only [toAvB, e] at h; cases h
    | some r =>
      simp only [toAvB, e] at h; cases h
      obtain ⟨a, b⟩ := lent_av W zz hz t e Fc
      exact ⟨.val (Dp.mono zz _ _ q) a, by cases v <;> exact b⟩
  | _, _, avs, .slot (v := v) (i := i) (vs := vs) (as := as) hv t, h, Fc => by
    have fin : ∀ (a : Addr) (us : List V) (ds : List D), v = .ref a → H a = some (.lst us) → DpAll K Z us ds → (match toAvB env as with | some r => some (AV.val (.list ds) :: r) | none => none) = some avs → AvOk K Fc Zs H (v :: vs) avs ∧ ownAdr (v :: vs) avs = [] := fun a us ds ev h1 h4 h => by
      subst ev
      cases e : toAvB env as with
      | none => rw [e] at h; cases h
      | some r =>
        rw [e] at h; cases h
        obtain ⟨b1, b2⟩ := lent_av W zz hz t e Fc
        exact ⟨.val (.lst (SqL.of (hz a us h1)) (DpAll.mono zz _ _ h4)) b1, b2⟩
    unfold toAvB at h
    split at h
    · rename_i ds es
      cases W.sl i _ _ hv es with
      | own h1 h2 h3 h4 => exact fin _ _ ds rfl h1 h4 h
    · rename_i ds es
      cases W.sl i _ _ hv es with
      | par h0 h1 h2 h3 h4 => exact fin _ _ ds rfl h1 h4 h
    · cases h
end
theorem tCallB_of {K : PySem.W.Frag} {np : Nat} {g : Fn} {f : Fx (List AR)} {E : XK} {σ : L2.St} {H : Hp} {Q : VK} (hl : ∀ env as env', f env = some (as, env') → as.length = np) (h : tR K (eCallB g f) σ H Q) : tCall (spF K np g) [] E (tAa K f) σ H Q := by
  have h0 := h
  obtain ⟨F, pa, Z, env, r, env', W, e, k⟩ := h
  unfold eCallB at e
  split at e
  · rename_i as env1 e1
    split at e
    · exact tCall_of hl ⟨F, pa, Z, env, r, env', W, e, k⟩
    split at e
    · rename_i avs e2
      split at e
      · rename_i d e3
        by_cases hs : scal d = true
        · rw [if_pos hs] at e
          cases e
          refine ⟨F, pa, Z, env, as, _, W, e1, fun vs Z1 H1 g1 W1 A => ?_⟩
          show spF K np g (vs ++ []) H1 Q E
          rw [List.append_nil]
          obtain ⟨av, oa⟩ := lent_av W1 (Zs := H1) W1.zh (fun _ _ h => h) A e2 H1
          refine ⟨by rw [← hl _ _ _ e1]; exact ars_len A, H1, H1, avs, .val d, [], Same.refl _, Same.refl _, av, e3, fun v Z2 H2 g2 f2 z2 o2 rt => ?_⟩
          have al : Alc Z1 H1 Z1 H2 := ⟨Same.refl _, f2, W1.zh.trans f2, fun _ _ => rfl⟩
          exact k v Z1 H2 g1 (W1.alc al) (scal_dp hs rt)
        · rw [if_neg hs] at e; cases e
      · cases e
    · cases e
  · cases e
end Ev
namespace Ev
open PySem PySem.Spec PyProof.Rows L2
/-! ## x[::-1] of a tuple -/
section
variable {prog : Program} {w : World} {A : Around} {E : Value → Shared → Prop} {s : Shared}
theorem applied_rev {c : Addr} {k : Value} {n : Nat} {Q : Int × Int × Nat → Shared → Prop} (hs : s.heap.IsSliceOf c .none .none k) (pk : IsPart k (some (-1))) (h : Q ((n : Int) - 1, -1, n) s) :
    wpAny (model prog w) A (Builtin.Slice.sliceApplied (.ref c) (pure (n : Int))) Q E s := by
  obtain ⟨oc, h1, h2, h3⟩ := id hs
  unfold Builtin.Slice.sliceApplied Builtin.Slice.sliceFields
  refine wpAny_bind (wpAny_bind (wpAny_field h1 h3 (x := Value.none) rfl (wpAny_bind (wpAny_field h1 h3 (x := Value.none) rfl (wpAny_bind (wpAny_field h1 h3 (x := k) rfl (wpAny_pure ?_)))))))
  refine wpAny_bind (HT.slicePart_ pk ?_)
  show wpAny _ _ (if ((-1 : Int) == 0) = true then _ else _) _ _ s
  rw [if_neg (by decide)]
  refine wpAny_bind (HT.slicePart_ .none (wpAny_bind (HT.slicePart_ .none (wpAny_bind (wpAny_pure ?_)))))
  show wpAny _ _ (pure ((n : Int) - 1, (-1 : Int), Builtin.Slice.slicePlaces ((n : Int) - 1) (-1) (-1))) _ _ s
  have e : Builtin.Slice.slicePlaces ((n : Int) - 1) (-1) (-1) = n := by
    unfold Builtin.Slice.slicePlaces
    simp only [show ¬ ((-1 : Int) > 0) by decide, if_false, show (- -1 : Int) = 1 by decide, Int.ediv_one]
    split <;> omega
  rw [e]
  exact wpAny_pure h
theorem pick_rev (its : Array Value) : ((List.range its.size).filterMap fun (k : Nat) => its[((its.size : Int) - 1 + (k : Int) * -1).toNat]?).toArray = its.toList.reverse.toArray := by
  have e : ((List.range its.size).filterMap fun (k : Nat) => its[((its.size : Int) - 1 + (k : Int) * -1).toNat]?) = ((List.range its.size).map fun k => its.size - 1 - k).filterMap (its[·]?) := by
    rw [List.filterMap_map]
    congr 1
    funext k
    show its[((its.size : Int) - 1 + (k : Int) * -1).toNat]? = its[its.size - 1 - k]?
    congr 1
    omega
  rw [e, PySem.W.krv_range, List.filterMap_reverse, PySem.W.krv_all]
theorem item_rev {b c : Addr} {its : Array Value} {k : Value} {Q : Value → Shared → Prop} (hb : IsTup s.heap b its) (hs : s.heap.IsSliceOf c .none .none k) (pk : IsPart k (some (-1)))
    (h : Q (.ref s.heap.objs.size) { s with heap := s.heap.push { cls := .type "tuple", data := .seq its.toList.reverse.toArray } }) (hz : its.size ≤ sizeLine) : wpAny (model prog w) A (getItem (.ref b) (.ref c)) Q E s := by
  have room : sizeOk (.seq its.toList.reverse.toArray) := by
    show its.toList.reverse.toArray.size ≤ sizeLine
    rw [List.size_toArray, List.length_reverse, Array.length_toList]
    exact hz
  obtain ⟨oc, h1, h2, h3⟩ := id hs
  have tc : s.TypeIs (.ref c) "slice" := ⟨oc, h1, h2⟩
  unfold getItem
  try with_reducible refine wpAny_holding ?_
  first | refine wpAny_bind (wpAny_pure ?_) | skip
  refine wpAny_bind (wpAny_sequenceKey hb.typeIs (by decide) ?_)
  refine wpAny_bind (wpAny_callSpecial?_slot (name := Str.ofString "__getitem__") hb.typeIs PyProof.Rows.slot_tuple_getitem (wpAny_call_entry PyProof.Rows.slot_tuple_getitem hb.typeIs PyProof.Rows.entry_tuple_getitem ?_ (PyProof.Rows.args_tuple_getitem _ _)))
  show wpAny _ _ (Builtin.Tuple.tupleItemsOf (.ref b) >>= _) _ _ s
  refine wpAny_bind (PyProof.Rows.tupleItemsOf_ hb ?_)
  refine wpAny_bind (wpAny_typeOf tc ?_)
  rw [if_pos (by decide)]
  refine wpAny_bind (applied_rev hs pk ?_)
  have no : ¬ ((((its.size : Int) - 1) == 0 && (-1 : Int) == 1 && its.size == its.size) = true) := fun z => by
    rw [Bool.and_eq_true, Bool.and_eq_true] at z
    exact absurd z.1.2 (by decide)
  show wpAny _ _ (if (((its.size : Int) - 1) == 0 && (-1 : Int) == 1 && its.size == its.size) = true then _ else _) _ _ s
  rw [if_neg no, pick_rev]
  first
    | exact wpAny_bind (m := Builtin.Tuple.tupleExact _) (wpAny_newObj_type (wpAny_pure ⟨_, rfl, wpAny_pure h⟩) room)
    | exact wpAny_bind (m := Builtin.Tuple.tupleExact _) (wpAny_newObj_type (wpAny_bind (wpAny_pure (wpAny_pure ⟨_, rfl, wpAny_pure h⟩))) room)
    | exact wpAny_bind (wpAny_bind (m := Builtin.Tuple.tupleExact _) (wpAny_newObj_type (wpAny_pure (wpAny_pure ⟨_, rfl, wpAny_pure h⟩)) room))
    | exact wpAny_bind (wpAny_bind (m := Builtin.Tuple.tupleExact _) (wpAny_newObj_type (wpAny_pure ⟨_, rfl, wpAny_pure h⟩) room))
end
def tRevT (K : PySem.W.Frag) (te : TE) : TE := fun σ H Q => te σ H fun x H1 => ∃ b us, x = .ref b ∧ SqT K H1 b us ∧ ∀ p, H1 p = none → Q (.ref p) (upd H1 p (.tup us.reverse))
theorem pe_revT {X : Cx} {a : Expr} {te : TE} {k : Nat} {p1 p2 p3 pos : Pos} (ha : PE X a te) : PE X (.Subscript a (.Slice none none (some (.UnaryOp .USub (.Constant (.int 1) k p1) p2)) p3) pos) (tRevT X.K te) := by
  refine ⟨fun pins s σ H Q I q0 => ?_⟩
  refine Subscript_ (thn (ha.run pins s σ H _ I q0) fun v s1 ⟨x, H1, I1, r1, b, us, ex, hu, q⟩ => ?_)
  subst ex
  cases r1
  have m1 : PO X (some (.UnaryOp .USub (.Constant (.int 1) k p1) p2)) (tPart (tUn (rU fun i => .int (-i)) (tC (.int 1)))) := po_some (pe_un un_neg pe_int)
  refine wpAny_Slice (thn (po_none.run pins s1 σ H1 (fun o G => o = none ∧ G = H1) I1 ⟨rfl, rfl⟩) fun v1 s2 ⟨o1, G1, J1, y1, z1, w1⟩ => ?_)
  subst z1 w1
  refine thn (po_none.run pins s2 σ G1 (fun o G => o = none ∧ G = G1) J1 ⟨rfl, rfl⟩) fun v2 s3 ⟨o2, G2, J2, y2, z2, w2⟩ => ?_
  subst z2 w2
  refine thn (m1.run pins s3 σ G2 (fun o G => o = some (-1) ∧ G = G2) J2 ⟨1, rfl, -1, rfl, rfl, rfl⟩) fun v3 s4 ⟨o3, G3, J3, y3, z3, w3⟩ => ?_
  subst z3 w3
  cases y1
  cases y2
  have J4 : Inv X pins σ G3 { s4 with heap := s4.heap.push { cls := .type "slice", data := .fields #[.none, .none, v3] } } := J3.kept (t' := s4.toks) fun b ob q => Heap.get?_push_of_some _ q
  obtain ⟨its, r, ht, hz⟩ := J4.tuple hu
  have hl := r.length
  show wpAny (model X.prog X.w) X.A (subscriptTail a (.Slice none none (some (.UnaryOp .USub (.Constant (.int 1) k p1) p2)) p3) (.ref b) (.ref s4.heap.objs.size)) (EP X pins σ Q) X.xe _
  refine tail_any (ops := [.ref b, .ref s4.heap.objs.size]) ht.typeIs (PyProof.Rows.slot_tuple_getitem.lookup) ?_ (by with_unfolding_all rfl)
  refine item_rev ht (Heap.IsSliceOf.new _ .none .none v3) y3 ?_ (by rw [List.size_toArray]; omega)
  refine ⟨.ref _, _, J4.laid (t' := s4.toks) (o := .tup us.reverse) (fun b ob q => Heap.get?_push_of_some _ q) (Nat.le_refl _) ?_, rfl, q _ (J4.hok.fresh (Nat.le_refl _))⟩
  exact ⟨by rw [List.length_reverse]; exact hz, _, r.reverse, IsTup.new _ _⟩
end Ev
namespace Ev
open PySem PySem.Spec PyProof.Rows L2
/-! ## an own list compared where it stands -/
def seeAt (g : D → D → Option D) (x y : D) (e : En) : Option (D × En) := match g x y with
  | some z => if scal z = true then some (z, e) else none
  | none => none
theorem seeAt_some {g : D → D → Option D} {x y z : D} {e e2 : En} (h : seeAt g x y e = some (z, e2)) : g x y = some z ∧ scal z = true ∧ e2 = e := by
  unfold seeAt at h
  cases q : g x y with
  | none => rw [q] at h; cases h
  | some w =>
    rw [q] at h
    dsimp only at h
    by_cases c : scal w = true
    · rw [if_pos c] at h; cases h; exact ⟨rfl, c, rfl⟩
    · rw [if_neg c] at h; cases h
def ownL : Option Sl → Option (List D)
  | some (.own ds) => some ds
  | some (.par ds) => some ds
  | _ => none
def eSee (g : D → D → Option D) (i : Nat) (f : Fx D) : Fx D := fun env => match env[i]? with
  | some s => if isOwn s = true then (match f env with
      | some (y, e) => (match ownL e[i]? with
        | some ds => seeAt g (.list ds) y e
        | none => none)
      | none => none) else eOp g (eVar i) f env
  | none => none
def eSeeR (g : D → D → Option D) (f : Fx D) (i : Nat) : Fx D := fun env => match f env with
  | some (x, e) => (match ownL e[i]? with
    | some ds => seeAt g x (.list ds) e
    | none => eOp g f (eVar i) env)
  | none => none
section
variable {X : Cx}
theorem ownL_at {K : PySem.W.Frag} {F Z H : Hp} {pa : Nat → Option Addr} {σ : L2.St} {env : En} {i : Nat} {ds : List D} (W : Wst K F Z H pa σ env) (e : ownL env[i]? = some ds) :
    ∃ a us, σ[i]? = some (some (.ref a)) ∧ H a = some (.lst us) ∧ DpAll K Z us ds := by
  cases q : env[i]? with
  | none => rw [q] at e; cases e
  | some s =>
    rw [q] at e
    obtain ⟨o, eo, so⟩ := W.get q
    cases s with
    | own xs => cases e; cases so with | own h1 h2 h3 h4 => exact ⟨_, _, eo, h1, h4⟩
    | par xs => cases e; cases so with | par h0 h1 h2 h3 h4 => exact ⟨_, _, eo, h1, h4⟩
    | no => cases e
    | val _ => cases e
    | mat _ => cases e
theorem isOwn_ref {K : PySem.W.Frag} {F Z H : Hp} {pa : Nat → Option Addr} {σ : L2.St} {env : En} {i : Nat} {s : Sl} (W : Wst K F Z H pa σ env) (q : env[i]? = some s) (h : isOwn s = true) : ∃ a, σ[i]? = some (some (.ref a)) := by
  obtain ⟨o, eo, so⟩ := W.get q
  cases s with
  | own xs => cases so; exact ⟨_, eo⟩
  | par xs => cases so; exact ⟨_, eo⟩
  | no => cases h
  | val _ => cases h
  | mat _ => cases h
theorem tSee_of {r : R2} {g : D → D → Option D} {i : Nat} {x : Str} {np : Pos} {fb : Fx D} (hi : Imp2 X.K r g) {σ : L2.St} {H : Hp} {Q : VK} (h : tE X.K (eSee g i fb) σ H Q) : tOp r (tVar i) (tE X.K fb) σ H Q := by
  obtain ⟨F, pa, Z, env, z, env', W, e, k⟩ := h
  unfold eSee at e
  cases e0 : env[i]? with
  | none => rw [e0] at e; cases e
  | some s0 =>
    rw [e0] at e
    dsimp only at e
    cases ow : isOwn s0 with
    | false =>
      rw [ow, if_neg Bool.false_ne_true] at e
      obtain ⟨d, env1, e1, h1, h2, h3⟩ := eOp_some e
      unfold eVar at h1
      rw [e0] at h1
      obtain ⟨o, eo, so⟩ := W.get e0
      have fin : ∀ (Z1 : Hp) (x : V), σ[i]? = some (some x) → Gr F Z Z1 → Wst X.K F Z1 H pa σ env1 → Dp X.K Z1 x d → tOp r (tVar i) (tE X.K fb) σ H Q := fun Z1 x ex g1 W1 q1 =>
        ⟨x, ex, F, pa, Z1, env1, e1, env', W1, h2, fun y Z2 H2 g2 W2 q2 => hi Z2 H2 x y d e1 z Q W2.zh (Dp.mono g2.zz _ _ q1) q2 h3 fun v Z3 H3 a q => k v Z3 H3 ((g1.trans g2).trans (a.gr W2.fh)) (W2.alc a) q⟩
      cases so with
      | no => cases h1
      | par => cases ow
      | val dp => cases h1; exact fin _ _ eo (.refl ..) W dp
      | own => cases ow
      | @mat a us dss bs m1 m2 m3 m4 m5 =>
        cases h1
        have dp := mat_dp W.zh m1 m4
        obtain ⟨g, w⟩ := W.frzTo (own := fun b => b ∈ a :: bs) eo e0 (zAdd_zz W.zh) (zAdd_zh W.zh) (fun b hb => zAdd_out hb) (fun b m => (List.mem_cons.mp m).elim .inl fun m => .inr ⟨_, m1, (m4.mem m).1⟩) dp
        exact fin _ _ eo g w dp
    | true =>
      rw [ow, if_pos rfl] at e
      obtain ⟨a, ea⟩ := isOwn_ref W e0 ow
      cases e1 : fb env with
      | none => rw [e1] at e; cases e
      | some p =>
        obtain ⟨y, env1⟩ := p
        rw [e1] at e
        dsimp only at e
        cases e2 : ownL env1[i]? with
        | none => rw [e2] at e; cases e
        | some ds =>
          rw [e2] at e
          obtain ⟨h3, sc, rfl⟩ := seeAt_some e
          refine ⟨_, ea, F, pa, Z, env, y, env', W, e1, fun v Z1 H1 g1 W1 q1 => ?_⟩
          obtain ⟨a', us, ea', h1, h4⟩ := ownL_at W1 e2
          rw [ea] at ea'
          cases ea'
          refine hi H1 H1 (.ref a) v (.list ds) y z Q (Same.refl _) (.lst (SqL.of h1) (DpAll.mono W1.zh _ _ h4)) (Dp.mono W1.zh _ _ q1) h3 fun w Z3 H3 al q => ?_
          have al' : Alc Z1 H1 Z1 H3 := ⟨Same.refl _, al.hh, W1.zh.trans al.hh, fun _ _ => rfl⟩
          exact k w Z1 H3 g1 (W1.alc al') (scal_dp sc q)
theorem tSeeR_of {r : R2} {g : D → D → Option D} {i : Nat} {fa : Fx D} (hi : Imp2 X.K r g) {σ : L2.St} {H : Hp} {Q : VK} (h : tE X.K (eSeeR g fa i) σ H Q) : tOp r (tE X.K fa) (tVar i) σ H Q := by
  obtain ⟨F, pa, Z, env, z, env', W, e, k⟩ := h
  unfold eSeeR at e
  cases e1 : fa env with
  | none => rw [e1] at e; cases e
  | some p =>
    obtain ⟨x, env1⟩ := p
    rw [e1] at e
    dsimp only at e
    cases e2 : ownL env1[i]? with
    | some ds =>
      rw [e2] at e
      obtain ⟨h3, sc, rfl⟩ := seeAt_some e
      refine ⟨F, pa, Z, env, x, env', W, e1, fun v Z1 H1 g1 W1 q1 => ?_⟩
      obtain ⟨a, us, ea, h1, h4⟩ := ownL_at W1 e2
      refine ⟨_, ea, ?_⟩
      refine hi H1 H1 v (.ref a) x (.list ds) z Q (Same.refl _) (Dp.mono W1.zh _ _ q1) (.lst (SqL.of h1) (DpAll.mono W1.zh _ _ h4)) h3 fun w Z3 H3 al q => ?_
      have al' : Alc Z1 H1 Z1 H3 := ⟨Same.refl _, al.hh, W1.zh.trans al.hh, fun _ _ => rfl⟩
      exact k w Z1 H3 g1 (W1.alc al') (scal_dp sc q)
    | none =>
      rw [e2] at e
      dsimp only at e
      obtain ⟨d, env2, y, h1, h2, h3⟩ := eOp_some e
      rw [e1] at h1
      cases h1
      refine ⟨F, pa, Z, env, x, env1, W, e1, fun v Z1 H1 g1 W1 q1 => ?_⟩
      unfold eVar at h2
      cases e0 : env1[i]? with
      | none => rw [e0] at h2; cases h2
      | some s0 =>
        rw [e0] at h2 e2
        obtain ⟨o, eo, so⟩ := W1.get e0
        have fin : ∀ (Z2 : Hp) (u : V), σ[i]? = some (some u) → Gr F Z1 Z2 → Wst X.K F Z2 H1 pa σ env' → Dp X.K Z2 u y → tVar i σ H1 fun y H2 => r v y H2 Q := fun Z2 u eu g2 W2 q2 =>
          ⟨u, eu, hi Z2 H1 v u x y z Q W2.zh (Dp.mono g2.zz _ _ q1) q2 h3 fun w Z3 H3 a q => k w Z3 H3 ((g1.trans g2).trans (a.gr W2.fh)) (W2.alc a) q⟩
        cases so with
        | no => cases h2
        | par => cases e2
        | val dp => cases h2; exact fin _ _ eo (.refl ..) W1 dp
        | own => cases e2
        | @mat a us dss bs m1 m2 m3 m4 m5 =>
          cases h2
          have dp := mat_dp W1.zh m1 m4
          obtain ⟨g, w⟩ := W1.frzTo (own := fun b => b ∈ a :: bs) eo e0 (zAdd_zz W1.zh) (zAdd_zh W1.zh) (fun b hb => zAdd_out hb) (fun b m => (List.mem_cons.mp m).elim .inl fun m => .inr ⟨_, m1, (m4.mem m).1⟩) dp
          exact fin _ _ eo g w dp
variable {a b : Expr} {fa fb : Fx D} {pos : Pos}
theorem s_see {op : CmpOp} {g : D → D → Option D} {i : Nat} (ho : Op2 X (compareOp op) g) (ha : PE X a (tVar i)) (hb : PE X b (tE X.K fb)) (hm : behindInMarks op b = false) : PE X (.Compare a [op] [b] pos) (tE X.K (eSee g i fb)) := by
  obtain ⟨r, hr, hi⟩ := ho
  exact PE.imp (pe_cmpR hr ha hb hm) fun σ H Q h => tSee_of (x := "") (np := pos) hi h
theorem s_seeT {op : CmpOp} {g : D → D → Option D} {i : Nat} (ho : Op2 X (compareOp op) g) (ha : PE X a (tVar i)) (hb : PE X b (tE X.K fb)) (hm : behindInMarks op b = false) : PT X (.Compare a [op] [b] pos) (tT X.K (eB (eSee g i fb))) := by
  obtain ⟨r, hr, hi⟩ := ho
  exact PT.imp (pt_cmpR hr ha hb hm) fun σ H Q h => tSee_of (x := "") (np := pos) hi (tB_of h)
theorem s_seeR {op : CmpOp} {g : D → D → Option D} {i : Nat} (ho : Op2 X (compareOp op) g) (ha : PE X a (tE X.K fa)) (hb : PE X b (tVar i)) (hm : behindInMarks op b = false) : PE X (.Compare a [op] [b] pos) (tE X.K (eSeeR g fa i)) := by
  obtain ⟨r, hr, hi⟩ := ho
  exact PE.imp (pe_cmpR hr ha hb hm) fun σ H Q h => tSeeR_of hi h
theorem s_seeRT {op : CmpOp} {g : D → D → Option D} {i : Nat} (ho : Op2 X (compareOp op) g) (ha : PE X a (tE X.K fa)) (hb : PE X b (tVar i)) (hm : behindInMarks op b = false) : PT X (.Compare a [op] [b] pos) (tT X.K (eB (eSeeR g fa i))) := by
  obtain ⟨r, hr, hi⟩ := ho
  exact PT.imp (pt_cmpR hr ha hb hm) fun σ H Q h => tSeeR_of hi (tB_of h)
/-! ## xs[::-1] -/
def eRev (f : Fx D) : Fx R := fun env => match f env with
  | some (.list ds, e) => some (.fresh ds.reverse, e)
  | some (.tuple ds, e) => some (.val (.tuple ds.reverse), e)
  | _ => none
theorem PE.either {X : Cx} {a : Expr} {t u : TE} (h : PE X a t) (k : PE X a u) : PE X a (fun σ H Q => t σ H Q ∨ u σ H Q) := ⟨fun pins s σ H Q I q => q.elim (h.run pins s σ H Q I) (k.run pins s σ H Q I)⟩
theorem s_rev {k : Nat} {p1 p2 p3 : Pos} (ha : PE X a (tE X.K fa)) : PE X (.Subscript a (.Slice none none (some (.UnaryOp .USub (.Constant (.int 1) k p1) p2)) p3) pos) (tR X.K (eRev fa)) := by
  refine PE.imp (PE.either (pe_revL ha) (pe_revT ha)) fun σ H Q ⟨F, pa, Z, env, r, env', W, e, k⟩ => ?_
  unfold eRev at e
  split at e
  · rename_i ds e1 h0
    cases e
    refine .inl ⟨F, pa, Z, env, _, _, W, h0, fun v Z1 H1 g1 W1 q1 => ?_⟩
    cases q1 with
    | lst hs ha =>
      refine ⟨_, _, rfl, (show Same Z1 H1 from W1.zh).seq hs, fun p hp => ?_⟩
      obtain ⟨W2, rk⟩ := W1.newL hp (da_reverse ha)
      exact k _ _ _ g1 W2 rk
  · rename_i ds e1 h0
    cases e
    refine .inr ⟨F, pa, Z, env, _, _, W, h0, fun v Z1 H1 g1 W1 q1 => ?_⟩
    cases q1 with
    | @tup a0 us es hs ha =>
      refine ⟨a0, us, rfl, Same.sqT W1.zh hs, fun p hp => ?_⟩
      have al := Alc.new (o := .tup us.reverse) W1.zh hp
      exact k _ _ _ (g1.trans (al.gr W1.fh)) (W1.alc al) (.tup (SqT.of upd_same) (DpAll.mono al.zz _ _ (da_reverse ha)))
  · cases e
/-! ## xs.index(n), a list of ints -/
def idxI : List Int → Int → Option Nat
  | [], _ => none
  | m :: ms, n => if m = n then some 0 else (idxI ms n).map (· + 1)
theorem idxI_some : ∀ {ns : List Int} {n : Int} {j : Nat}, idxI ns n = some j → ns[j]? = some n ∧ ∀ m z, m < j → ns[m]? = some z → z ≠ n
  | [], n, j, h => by cases h
  | a :: ns, n, j, h => by
    unfold idxI at h
    by_cases c : a = n
    · rw [if_pos c] at h; cases h
      exact ⟨by rw [c]; rfl, fun m z hm => by omega⟩
    · rw [if_neg c] at h
      cases q : idxI ns n with
      | none => rw [q] at h; cases h
      | some i =>
        rw [q] at h; cases h
        obtain ⟨h1, h2⟩ := idxI_some q
        refine ⟨by simpa using h1, fun m z hm hz => ?_⟩
        cases m with
        | zero => simp at hz; rw [← hz]; exact c
        | succ m => exact h2 m z (by simp at hm; omega) (by simpa using hz)
def listL : Option Sl → Option (List D)
  | some (.own ds) => some ds
  | some (.par ds) => some ds
  | some (.val (.list ds)) => some ds
  | _ => none
def eIdx (i : Nat) (f : Fx D) : Fx D := fun env => match listL env[i]? with
  | some _ => (match f env with
    | some (.int n, e) => (match listL e[i]? with
      | some ds => (match (intsOf ds).bind fun ns => idxI ns n with
        | some j => some (.int (j : Nat), e)
        | none => none)
      | none => none)
    | _ => none)
  | none => none
theorem listL_at {K : PySem.W.Frag} {F Z H : Hp} {pa : Nat → Option Addr} {σ : L2.St} {env : En} {i : Nat} {ds : List D} (W : Wst K F Z H pa σ env) (e : listL env[i]? = some ds) :
    ∃ a us, σ[i]? = some (some (.ref a)) ∧ SqL K H a us ∧ DpAll K Z us ds := by
  cases q : env[i]? with
  | none => rw [q] at e; cases e
  | some s =>
    rw [q] at e
    obtain ⟨o, eo, so⟩ := W.get q
    cases s with
    | own xs => cases e; cases so with | own h1 h2 h3 h4 => exact ⟨_, _, eo, SqL.of h1, h4⟩
    | par xs => cases e; cases so with | par h0 h1 h2 h3 h4 => exact ⟨_, _, eo, SqL.of h1, h4⟩
    | no => cases e
    | mat _ => cases e
    | val d =>
      cases so with
      | val dp =>
        cases d with
        | list xs =>
          cases e
          cases dp with
          | lst hs ha => exact ⟨_, _, eo, (show Same Z H from W.zh).seq hs, ha⟩
        | _ => cases e
theorem e_idx {i : Nat} {x : Str} {ie : Expr} {f : Fx D} {np ap cp : Pos} (ho : PE X (.Name x np) (tVar i)) (hi : PE X ie (tE X.K f)) (hse : starEach [ie] X.env = (false, eval ie X.env) :: starEach [] X.env)
    (hline : (ap.endLine == cp.line) = true) : PE X (.Call (.Attribute (.Name x np) "index" ap) [ie] [] cp) (tE X.K (eIdx i f)) := by
  refine PE.imp (pe_bm PySem.F.plainAttrs_list PySem.F.slot_list_index PySem.F.type_list_index mt_index ho (pa_cons hi pa_nil hse) rfl (by rw [hse]; rfl) hline hse) fun σ H Q ⟨F, pa, Z, env, d, env', W, e, k⟩ => ?_
  unfold eIdx at e
  cases e0 : listL env[i]? with
  | none => rw [e0] at e; cases e
  | some ds0 =>
    rw [e0] at e
    dsimp only at e
    obtain ⟨a, us0, ea, hH0, _⟩ := listL_at W e0
    split at e
    · rename_i n env1 h1
      refine ⟨_, ea, Or.inl ⟨rfl, _, hH0⟩, F, pa, Z, env, _, env1, W, h1, fun y Z1 H1 g1 W1 q1 => ?_⟩
      cases q1
      split at e
      · rename_i ds h2
        obtain ⟨a', us, ea', hH, hd⟩ := listL_at W1 h2
        rw [ea] at ea'
        cases ea'
        split at e
        · rename_i j h3
          cases e
          cases h4 : intsOf ds with
          | none => rw [h4] at h3; cases h3
          | some ns =>
            rw [h4] at h3
            have h3 : idxI ns n = some j := h3
            obtain ⟨k1, k2⟩ := idxI_some h3
            have eu := intsOf_da hd h4
            subst eu
            refine ⟨a, _, .int n, j, .int n, rfl, rfl, hH, rfl, ?_, by simp [k1], by simp [eqV], fun m z' hm hz => ?_, k _ Z1 H1 g1 W1 (.int _)⟩
            · rw [List.all_eq_true]
              intro v hv
              obtain ⟨m, -, rfl⟩ := List.mem_map.mp hv
              rfl
            · rw [List.getElem?_map] at hz
              cases q : ns[m]? with
              | none => rw [q] at hz; cases hz
              | some w =>
                rw [q] at hz
                cases hz
                have := k2 m w hm q
                simpa [eqV] using this
        · cases e
      · cases e
    · cases e
/-! ## [x, ..] * n: a new list -/
def eRepL (f : Fx (List D)) (g : Fx D) : Fx R := fun env => match f env with
  | some (ds, e) => (match g e with
    | some (.int k, e2) => if decide (0 ≤ k ∧ k ≤ 100000 ∧ ds.length ≤ 100) = true then some (.fresh (List.replicate k.toNat ds).flatten, e2) else none
    | _ => none)
  | none => none
theorem s_repL {es : List Expr} {lp : Pos} {f : Fx (List D)} (ha : PA X es (tAd X.K f)) (hb : PE X b (tE X.K fb)) : PE X (.BinOp (.List es lp) .Mult b pos) (tR X.K (eRepL f fb)) := by
  refine PE.imp (pe_op op_rep (pe_lst ha) hb) fun σ H Q ⟨F, pa, Z, env, r, env', W, e, k⟩ => ?_
  unfold eRepL at e
  cases e1 : f env with
  | none => rw [e1] at e; cases e
  | some q1 =>
    obtain ⟨ds, env1⟩ := q1
    rw [e1] at e
    dsimp only at e
    split at e
    · rename_i n env2 e2
      by_cases hk : decide (0 ≤ n ∧ n ≤ 100000 ∧ ds.length ≤ 100) = true
      · rw [if_pos hk] at e
        cases e
        obtain ⟨k0, k1, k2⟩ := of_decide_eq_true hk
        refine ⟨F, pa, Z, env, ds, env1, W, e1, fun vs Z1 H1 g1 W1 q1 => ⟨by rw [da_length q1, sizeLine_eq]; omega, fun p hp => ?_⟩⟩
        obtain ⟨W2, rk⟩ := W1.newL hp q1
        have z0 : Z1 p = none := (show Same Z1 H1 from W1.zh).free hp
        have zz : Same Z1 (upd Z1 p (.lst vs)) := upd_none z0
        have zh : Same (upd Z1 p (.lst vs)) (upd H1 p (.lst vs)) := fun b u e => by
          by_cases q : b = p
          · subst q; rw [upd_same] at e ⊢; exact e
          · rw [upd_ne q] at e ⊢; exact (show Same Z1 H1 from W1.zh) b u e
        obtain ⟨p', us', ep, _, _, hF, _, no⟩ := rk
        cases ep
        have W3 := W2.frzN zz zh fun i o s e1 e2 b hb => upd_ne fun q => no i o s e1 e2 (q ▸ hb)
        have g3 : Gr F Z1 (upd Z1 p (.lst vs)) := ⟨zz, fun b hb => upd_ne fun q => hb (by rw [q]; exact hF)⟩
        refine ⟨F, pa, _, env1, _, _, W3, e2, fun y Z2 H2 g2 W4 q2 => ?_⟩
        cases q2
        have hH2 : H2 p = some (.lst vs) := (show Same Z2 H2 from W4.zh) _ _ (g2.zz _ _ upd_same)
        refine ⟨p, n, vs, rfl, rfl, hH2, by omega, by omega, ?_, fun q hq => ?_⟩
        · rw [da_length q1, sizeLine_eq]
          have : ds.length * n.toNat ≤ 100 * 100000 := Nat.mul_le_mul k2 (by omega)
          omega
        · have q1' : DpAll X.K Z2 vs ds := DpAll.mono (zz.trans g2.zz) _ _ q1
          obtain ⟨W5, rk5⟩ := W4.newL hq (da_rep q1' n.toNat)
          exact k _ _ _ ((g1.trans g3).trans g2) W5 rk5
      · rw [if_neg hk] at e; cases e
    · cases e
/-! ## len(set(xs)), xs a tuple of unlike whole numbers -/
def eLenSet (f : Fx D) : Fx D := fun env => match f env with
  | some (.tuple ds, e) => (match intsOf ds with
    | some ns => if decide (ns.length < 1000 ∧ ns.Nodup) = true then some (.int ns.length, e) else none
    | none => none)
  | _ => none
theorem s_lenSet {p p2 q : Pos} (hc : X.calm = true) (hg : Gl X "len") (hm : X.mg "len" = none) (hg2 : Gl X "set") (hm2 : X.mg "set" = none) (ha : PE X a (tE X.K fa))
    (na : starEach [a] X.env = (false, eval a X.env) :: starEach [] X.env) : PE X (.Call (.Name "len" p) [.Call (.Name "set" p2) [a] [] q] [] pos) (tE X.K (eLenSet fa)) := by
  refine PE.imp (pe_lenSetT hc hg hm hg2 hm2 ha na) fun σ H Q ⟨F, pa, Z, env, r, env', W, e, k⟩ => ?_
  unfold eLenSet at e
  split at e
  · rename_i ds e1 h0
    split at e
    · rename_i ns h1
      by_cases hn : decide (ns.length < 1000 ∧ ns.Nodup) = true
      · rw [if_pos hn] at e
        cases e
        obtain ⟨n1, n2⟩ := of_decide_eq_true hn
        refine ⟨F, pa, Z, env, _, _, W, h0, fun v Z1 H1 g1 W1 q1 => ?_⟩
        cases q1 with
        | @tup a us ds' hs ha =>
          have eu := intsOf_da ha h1
          subst eu
          exact ⟨a, ns, rfl, Same.sqT (show Same Z1 H1 from W1.zh) hs, n1, n2, k _ Z1 H1 g1 W1 (.int _)⟩
      · rw [if_neg hn] at e; cases e
    · cases e
  · cases e
end
end Ev
/-! a list sorted by whole numbers that a def tells of its items: the machine, over any invariant of the state -/
namespace EvK
open PySem PySem.W PySem.Calls PyProof.Rows
section
variable {prog : Program} {w : World} {A : Around} {E : Value → Shared → Prop} {s : Shared} {a kS : Addr} {vs : List Value} {keys : Array Value} {e e1 : Nat} {P : PySem.Fin → Shared → Prop}
/-- the heap at the end: the store of keys emptied, the list with its items -/
def doneHeap (h : Heap) (kS a : Addr) (out : List Value) : Heap := (h.update kS (Obj.mapSeq fun _ => (#[] : Array Value))).update a (Obj.mapSeq fun _ => out.toArray)
theorem doneHeap_old {h : Heap} {out : List Value} {b : Addr} (h1 : b ≠ kS) (h2 : b ≠ a) : (doneHeap h kS a out).get? b = h.get? b := by
  unfold doneHeap
  rw [Heap.get?_update_ne _ _ _ _ h2, Heap.get?_update_ne _ _ _ _ h1]
theorem doneHeap_at {h : Heap} {out : List Value} {xs : Array Value} (hka : kS ≠ a) (na : h.get? a = some (seqObj "list" xs e1)) : ∃ c, (doneHeap h kS a out).get? a = some (seqObj "list" out.toArray c) := by
  have n2 : (h.update kS (Obj.mapSeq fun _ => (#[] : Array Value))).get? a = some (seqObj "list" xs e1) := by rw [Heap.get?_update_ne _ _ _ _ hka.symm]; exact na
  exact ⟨_, get?_update_seq n2 fun _ => out.toArray⟩
theorem tail_ok {st : SortSt} {out : List Value} (nk : s.heap.get? kS = some (seqObj "list" keys e)) (na : s.heap.get? a = some (seqObj "list" #[] e1)) (hka : kS ≠ a)
    (hsz : keys.size ≤ sizeLine) (hz : out.length ≤ sizeLine) (hfl : failedOf st = none) (ho : (arrOf st).map (·.2) = out.toArray) (h : P (.done (.ret .none)) { s with heap := doneHeap s.heap kS a out }) :
    wpAny (model prog w) A (ksk_tail a false e1 (.ref kS) st) P E s := by
  have na1 : (s.heap.update kS (Obj.mapSeq fun _ => (#[] : Array Value))).get? a = some (seqObj "list" #[] e1) := by rw [Heap.get?_update_ne _ _ _ _ hka.symm]; exact na
  unfold ksk_tail
  try dsimp only
  simp only [Bool.false_eq_true, if_false]
  rw [ho]
  refine wpAny_bind (listUpdate_at nk rfl ?_ hsz (Nat.zero_le _))
  refine wpAny_bind (wpAny_letGo ?_)
  refine wpAny_bind (seqEpoch_at na1 rfl ?_)
  refine wpAny_bind (listUpdate_at na1 rfl ?_ (Nat.zero_le _) (by rw [List.size_toArray]; exact Nat.le_succ_of_le hz))
  rw [hfl]
  simp only [bne_self_eq_false, Bool.false_eq_true, if_false]
  exact wpAny_pure h
theorem end_ok {κ : KeyKind} (nk : s.heap.get? kS = some (seqObj "list" keys e)) (na : s.heap.get? a = some (seqObj "list" #[] e1)) (hka : kS ≠ a)
    (S : SortsAt prog w A s κ keys.toList) (hsz : keys.size = vs.length) (hZ : vs.length ≤ sizeLine) (h : P (.done (.ret .none)) { s with heap := doneHeap s.heap kS a (sortVals κ false keys.toList vs) }) :
    wpAny (model prog w) A (ksk_end a false vs.toArray e1 (.ref kS) keys) P E s := by
  obtain ⟨kd, h1, h2⟩ := S.kind
  have hkl : keys.toList.length = vs.length := by rw [Array.length_toList]; exact hsz
  have hK : KeysOf κ (keys.zip vs.toArray) := keysOf_zip S.keys
  have hol : (sortVals κ false keys.toList vs).length = vs.length := sortVals_length false hkl
  have hss : (keys.zip vs.toArray).size = vs.length := by rw [Array.size_zip, hsz, List.size_toArray, Nat.min_self]
  have fin : ∀ st' : SortSt, (arrOf st').Perm (keys.zip vs.toArray) → SortedToK κ (arrOf st') (keys.zip vs.toArray).size → Stable κ (arrOf st') (keys.zip vs.toArray) → (arrOf st').map (·.2) = (sortVals κ false keys.toList vs).toArray := by
    intro st' hp hs ht
    have q := congrArg List.toArray (sort_out (rev := false) (keys := keys) (items := vs.toArray) (xs := arrOf st') (κ := κ) hK hp hs ht)
    rw [Array.toArray_toList] at q
    exact q
  unfold ksk_end
  try dsimp only
  simp only [Bool.false_eq_true, if_false]
  by_cases hl2 : vs.toArray.size < 2
  · rw [if_pos hl2, if_pos hl2]
    refine wpAny_bind (wpAny_pure ?_)
    rw [StateT.run_pure]
    refine wpAny_bind (wpAny_pure ?_)
    try dsimp only
    refine tail_ok (st := SortSt.mk' general' (keys.zip vs.toArray) #[] 7 none) nk na hka (by rw [hsz]; exact hZ) (by rw [hol]; exact hZ) rfl (fin _ (Array.Perm.refl _) ?_ (Stable.refl _)) h
    intro i j hij hj
    rw [hss] at hj
    rw [List.size_toArray] at hl2
    obtain rfl : i = j := by omega
    exact KeyOrd.kle_refl _
  · rw [if_neg hl2, if_neg hl2]
    rw [List.size_toArray] at hl2
    refine wpAny_bind (h2 (by omega) _ ?_)
    refine wpAny_bind (wpAny_mono (H.wpS_sortRunsSt (κ := κ) (kd := kd) (a₀ := keys.zip vs.toArray) (st := SortSt.mk' kd (keys.zip vs.toArray) #[] 7 none)
      (Q := fun _ st' => failedOf st' = none ∧ (arrOf st').map (·.2) = (sortVals κ false keys.toList vs).toArray)
      h1 hK ⟨Array.Perm.refl _, rfl, rfl⟩ rfl (Stable.refl _) (by rw [hss]; omega) fun st' a1 a2 a3 a4 => ⟨a2, fin st' a1 a3 a4⟩) ?_ fun _ _ q => q)
    rintro ⟨⟨⟩, st'⟩ s' ⟨rfl, hf, ho⟩
    try dsimp only at ho ⊢
    exact tail_ok nk na hka (by rw [hsz]; exact hZ) (by rw [hol]; exact hZ) hf ho h
/-- what an invariant must bear: the calls, and what is written into the list and into the store of keys -/
structure Bears (prog : Program) (w : World) (A : Around) (f : Value) (vs : List Value) (ks : List Int) (kS a : Addr) (J : Shared → Prop) : Prop where
  call : ∀ (i : Nat) (v : Value) (k : Int), vs[i]? = some v → ks[i]? = some k → ∀ s' o o', J s' → s'.heap.get? kS = some o → s'.heap.get? a = some o' →
    wpAny (model prog w) A (call f [v]) (fun u s'' => J s'' ∧ (∃ t, u = .int k t) ∧ s''.heap.get? kS = some o ∧ s''.heap.get? a = some o') (fun _ _ => False) s'
  putS : ∀ s' g, J s' → J { s' with heap := s'.heap.update kS (Obj.mapSeq g) }
  putA : ∀ s' g, J s' → J { s' with heap := s'.heap.update a (Obj.mapSeq g) }
theorem rest_ok {f : Value} {ks : List Int} {J : Shared → Prop} (B : Bears prog w A f vs ks kS a J) (j0 : J s) (nk : s.heap.get? kS = some (seqObj "list" #[] 0)) (na : s.heap.get? a = some (seqObj "list" #[] e1)) (hka : kS ≠ a)
    (hlen : ks.length = vs.length) (hZ : vs.length ≤ sizeLine) (hu : A.units < cLine)
    (h : ∀ s' out c, J s' → s'.heap.get? a = some (seqObj "list" (List.toArray out) c) → KeyedOut false (ks.map PyData.int) vs out → P (.done (.ret .none)) s') :
    wpAny (model prog w) A (ksk_rest a f false vs.toArray e1 (.ref kS)) P E s := by
  unfold ksk_rest
  refine wpAny_bind (wpAny_rule ?_)
  first
    | rw [List.forIn_toArray]
    | (rw [← Array.forIn_toList]; simp only [List.toList_toArray])
    | rw [← Array.forIn_toList]
  refine wpAny_bind (ksk_fold (fun i s' => ∃ kA e, J s' ∧ s'.heap.get? kS = some (seqObj "list" kA e) ∧ s'.heap.get? a = some (seqObj "list" #[] e1) ∧ EachIs (fun (v : Value) (k : Int) => ∃ t, v = .int k t) kA.toList (ks.take i)) vs 0 s
    ⟨#[], 0, j0, nk, na, by rw [List.take_zero]; exact EachIs.nil⟩ ?step ?done)
  case step =>
    rintro j x s' hx ⟨kA, e, j1, nk', na', hk⟩
    simp only [Nat.zero_add] at hk ⊢
    have hj : j < vs.length := (List.getElem?_eq_some_iff.mp hx).1
    obtain ⟨k, hkj⟩ : ∃ k, ks[j]? = some k := ⟨_, List.getElem?_eq_getElem (by omega)⟩
    have hz : kA.size ≤ vs.length := by
      have h1 := hk.length
      rw [Array.length_toList, List.length_take] at h1
      omega
    refine wpAny_bind (wpAny_attempt (wpAny_mono (B.call j x k hx hkj s' _ _ j1 nk' na') (fun v s'' he => ?_) fun _ _ hF => hF.elim))
    obtain ⟨j2, ⟨t, rfl⟩, nk2, na2⟩ := he
    try dsimp only
    obtain ⟨c2, hc2⟩ : ∃ c2, (s''.heap.update kS (Obj.mapSeq (·.push (.int k t)))).get? kS = some (seqObj "list" (kA.push (.int k t)) c2) := ⟨_, get?_update_seq nk2 (·.push (.int k t))⟩
    have ek : ks.take (j + 1) = ks.take j ++ [k] := by rw [List.take_add_one, hkj]; simp
    have ea : (kA.push (Value.int k t)).toList = kA.toList ++ [Value.int k t] := by simp
    refine wpAny_bind (listUpdate_at nk2 rfl ?_ (Nat.le_trans hz hZ) (Nat.le_trans (Nat.le_of_eq (Array.size_push ..)) (Nat.succ_le_succ (Nat.le_trans hz hZ))))
    refine wpAny_pure ⟨rfl, kA.push (.int k t), c2, B.putS s'' _ j2, hc2, by show (s''.heap.update kS _).get? a = _; rw [Heap.get?_update_ne _ _ _ _ hka.symm]; exact na2, ?_⟩
    rw [ea, ek]
    exact each_snoc ⟨t, rfl⟩ hk
  case done =>
    rintro s' ⟨kA, e, j1, nk', na', hk⟩
    have e3 : ks.take (0 + vs.length) = ks := List.take_of_length_le (by omega)
    rw [e3] at hk
    have hsz : kA.size = vs.length := by
      have h1 := hk.length
      rw [Array.length_toList] at h1
      omega
    have hk' : EachIs (fun v k => ∃ as, Reads s'.heap v k as) kA.toList (ks.map PyData.int) := each_map PyData.int (hk.mono fun v k ⟨t, q⟩ => ⟨[], by rw [q]; exact .int k t⟩)
    have hal : AllAlike (ks.map PyData.int) := AllAlike.of fun _ _ => rfl
    have hsk : Sortable (ks.map PyData.int) := Sortable.others (enc := PyData.int) (bs := ks) fun _ => ⟨by simp, by simp⟩
    try dsimp only
    refine wpAny_bind (listItems_at nk' rfl ?_)
    refine end_ok (κ := dataKind s'.heap (ks.map PyData.int)) nk' na' hka (SortsAt.data hk' hal hsk fun d hd => ?_) hsz hZ ?_
    · obtain ⟨i, -, rfl⟩ := List.mem_map.mp hd
      show A.units + 0 < cLine
      omega
    · obtain ⟨c, hc⟩ := doneHeap_at (out := sortVals (dataKind s'.heap (ks.map PyData.int)) false kA.toList vs) hka na'
      exact h _ _ c (B.putA { s' with heap := s'.heap.update kS (Obj.mapSeq fun _ => (#[] : Array Value)) } _ (B.putS s' _ j1)) hc ⟨s'.heap, kA.toList, hal, rfl, hk'⟩
theorem tree_ok {q : Addr} {n : Nat} {ks : List Int} {J : Shared → Prop} (ho : s.heap.get? a = some (seqObj "list" vs.toArray n)) (B : Bears prog w A (.ref q) vs ks (s.heap.objs.size + 1) a J) (j0 : J { s with heap := sortingHeap s.heap a vs })
    (hlen : ks.length = vs.length) (hZ : vs.length ≤ sizeLine) (hu : A.units < cLine)
    (h : ∀ s' out c, J s' → s'.heap.get? a = some (seqObj "list" (List.toArray out) c) → KeyedOut false (ks.map PyData.int) vs out → P (.done (.ret .none)) s') :
    wpAny (model prog w) A (ksk_tree a (.ref q) false) P E s := by
  have ha : a < s.heap.objs.size := Heap.lt_size ho
  obtain ⟨e1, ho1⟩ : ∃ e1, (s.heap.update a (Obj.mapSeq fun _ => (#[] : Array Value))).get? a = some (seqObj "list" #[] e1) := ⟨_, get?_update_seq ho fun _ => #[]⟩
  have hkS : ((s.heap.update a (Obj.mapSeq fun _ => (#[] : Array Value))).push (seqObj "tuple" vs.toArray 0)).objs.size = s.heap.objs.size + 1 := by rw [size_push', Heap.size_update]
  unfold ksk_tree
  refine wpAny_bind (listItems_at ho rfl ?_)
  refine wpAny_bind (listUpdate_at ho rfl ?_ (by rw [List.size_toArray]; exact hZ) (Nat.zero_le _))
  refine wpAny_bind (seqEpoch_at ho1 rfl ?_)
  refine wpAny_bind (wpAny_newTuple ?_ (by show vs.length ≤ _; exact hZ))
  refine wpAny_bind (wpAny_newList ?_ (Nat.zero_le _))
  refine wpAny_holding ?_
  have n1 : (sortingHeap s.heap a vs).get? (s.heap.objs.size + 1) = some (seqObj "list" #[] 0) := by
    rw [← hkS]; exact Heap.get?_push_size _ rfl
  have n2 : (sortingHeap s.heap a vs).get? a = some (seqObj "list" #[] e1) := Heap.get?_push_of_some _ (Heap.get?_push_of_some _ ho1)
  have r := rest_ok (s := { s with heap := sortingHeap s.heap a vs }) (E := E) (P := P) B j0 n1 n2 (Nat.ne_of_gt (Nat.lt_succ_of_lt ha)) hlen hZ hu h
  try dsimp only
  rw [hkS]
  exact r
/-- what a tuple holds, collected in a new list -/
theorem collect_tup {l : Addr} {Q : List Value → Shared → Prop} (hl : s.heap.IsTuple l vs.toArray)
    (h : Q vs { s with heap := (s.heap.push (seqObj "list" #[] 0)).update s.heap.objs.size (Obj.mapSeq (· ++ vs.toArray)) }) (hsz : vs.length ≤ sizeLine) :
    wpAny (model prog w) A (collect (.ref l)) Q E s := by
  obtain ⟨o, ho, hc, n, hd⟩ := id hl
  have ho' : (s.heap.push (seqObj "list" #[] 0)).get? l = some o := Heap.get?_push_of_some _ ho
  have hs : (s.heap.push (seqObj "list" #[] 0)).get? s.heap.objs.size = some (seqObj "list" #[] 0) := Heap.get?_push_size _ rfl
  have ht : (Value.type "tuple" == Value.type "tuple") = true := by rfl
  unfold collect
  refine wpAny_bind (wpAny_runValue (codeAny_builtin entry_proto_collect' ?_))
  show wpAny _ _ (do again (.builtin "list.__iadd__" ⟨[← newList [], .ref l], []⟩)) _ _ s
  refine wpAny_bind (wpAny_newList (wpAny_pure ⟨Code.quiet_builtin _ (by decide +kernel), codeAny_builtin entry_list_iadd' ?_⟩))
  show wpAny _ _ (Builtin.List.listExtendWith (.ref s.heap.objs.size) (.ref l) (.ref s.heap.objs.size)) _ _ { s with heap := s.heap.push (seqObj "list" #[] 0) }
  unfold Builtin.List.listExtendWith
  refine wpAny_bind (wpAny_typeOf (T := "tuple") ⟨o, ho', hc⟩ ?_)
  rw [if_pos (by rw [ht]; simp)]
  refine wpAny_bind (listItems_at ho' hd (wpAny_bind (listItems_at (xs := #[]) (n := 0) hs rfl ?_)))
  rw [if_neg (by simp)]
  refine wpAny_bind (listUpdate_at (xs := #[]) (n := 0) hs rfl ?_ (Nat.zero_le _) (by show (#[] ++ vs.toArray).size ≤ sizeLine + 1; simp only [Array.size_append, List.size_toArray, List.length_nil]; omega))
  refine wpAny_pure ?_
  show wpAny (model prog w) A (do
      let o ← load s.heap.objs.size
      match o.data with
      | .seq xs _ => pure xs.toList
      | _ => unsupported "internal:collect") Q E { s with heap := (s.heap.push (seqObj "list" #[] 0)).update s.heap.objs.size (Obj.mapSeq (· ++ vs.toArray)) }
  refine wpAny_bind (wpAny_load (get?_update_seq hs _) ?_)
  show wpAny _ _ (pure ((#[] : Array Value) ++ vs.toArray).toList) Q E _
  rw [show ((#[] : Array Value) ++ vs.toArray).toList = vs by simp]
  exact wpAny_pure h
theorem sort_of {l : Addr} {kw : List (Str × Value)} {Q : Value → Shared → Prop} (hl : s.heap.IsList l vs.toArray ∨ s.heap.IsTuple l vs.toArray) (hL : vs.length ≤ sizeLine) (ha1 : argsOk "sorted" ⟨[.ref l], kw⟩) (ha2 : ∀ x, argsOk "list.sort" ⟨[.ref x], kw⟩)
    (body : ∀ E' : Value → Shared → Prop, wpAny (model prog w) A.in1.in1 (Builtin.«list.sort» ⟨[.ref (s.heap.objs.size + 1)], kw⟩) (fun f s' => f = .done (.ret .none) ∧ Q (.ref (s.heap.objs.size + 1)) s') E' { s with heap := copyHeap s.heap vs }) :
    wpAny (model prog w) A (call (.builtin "sorted") [.ref l] kw) Q E s := by
  rcases hl with hl | hl
  · exact sorted_of_sort hl hL ha1 ha2 body
  · refine call_function_entry_kw kind_sorted plain_sorted entry_sorted ha1 ?_
    unfold Builtin.«sorted»
    refine wpAny_bind (m := checkCount "sorted" 1 1 _) (wpAny_pure ?_)
    refine wpAny_bind (collect_tup hl ?_ hL)
    refine wpAny_bind (wpAny_newList ?_ hL)
    have hsz : ((s.heap.push (seqObj "list" #[] 0)).update s.heap.objs.size (Obj.mapSeq (· ++ vs.toArray))).objs.size = s.heap.objs.size + 1 := by
      rw [Heap.size_update, size_push']
    show wpAny _ _ _ _ _ { s with heap := copyHeap s.heap vs }
    rw [hsz]
    refine wpAny_bind (wpAny_holding (wpAny_call_entry_kw slot_list_sort ⟨_, copyHeap_at s.heap vs, rfl⟩ entry_list_sort ?body (ha2 _)))
    case body =>
      show wpAny (model prog w) A.in1.in1 (Builtin.«list.sort» ⟨[.ref (s.heap.objs.size + 1)], kw⟩) _ _ _
      refine wpAny_mono (body _) (fun f s' hf => ?_) fun _ _ e => e
      obtain ⟨rfl, hq⟩ := hf
      exact ⟨_, rfl, wpAny_pure ⟨_, rfl, hq⟩⟩
/-- sorted(xs, key=f), xs a list -/
theorem sorted_ok {l q : Addr} {ks : List Int} {J : Shared → Prop} {Q : Value → Shared → Prop} (hl : s.heap.IsList l vs.toArray ∨ s.heap.IsTuple l vs.toArray) (B : Bears prog w A.in1.in1 (.ref q) vs ks (s.heap.objs.size + 3) (s.heap.objs.size + 1) J)
    (j0 : J { s with heap := sortingHeap (copyHeap s.heap vs) (s.heap.objs.size + 1) vs }) (hlen : ks.length = vs.length) (hZ : vs.length ≤ sizeLine) (hu : A.units + 2 < cLine)
    (h : ∀ s' out c, J s' → s'.heap.get? (s.heap.objs.size + 1) = some (seqObj "list" (List.toArray out) c) → KeyedOut false (ks.map PyData.int) vs out → Q (.ref (s.heap.objs.size + 1)) s') :
    wpAny (model prog w) A (call (.builtin "sorted") [.ref l] [(Str.ofString "key", .ref q)]) Q E s := by
  have hs : (copyHeap s.heap vs).objs.size = s.heap.objs.size + 2 := by
    unfold copyHeap
    rw [size_push', Heap.size_update, size_push']
  refine sort_of hl hZ (ksk_s1 _ _) (fun _ => ksk_l1 _ _) fun E' => ?_
  rw [ksk_t1]
  exact tree_ok (s := { s with heap := copyHeap s.heap vs }) (copyHeap_at s.heap vs) (by show Bears _ _ _ _ _ _ ((copyHeap s.heap vs).objs.size + 1) _ _; rw [hs]; exact B) j0 hlen hZ hu fun s' out c j n k => ⟨rfl, h s' out c j n k⟩
end
end EvK
namespace Ev
open PySem PySem.Spec PyProof.Rows L2
/-! ## sorted(xs, key=f): the items by the whole numbers that f tells of them -/
def keysOf (g : Fn) : List D → Option (List Int)
  | [] => some []
  | d :: ds => match g [.val d] with
    | some (.val (.int k), []) => (match keysOf g ds with
      | some ks => some (k :: ks)
      | none => none)
    | _ => none
def sortK (ks : List Int) (ds : List D) : List D := ((ks.zip ds).mergeSort fun p q => decide (p.1 ≤ q.1)).map (·.2)
def eSortK (g : Fn) (f : Fx D) : Fx D := fun env => match f env with
  | some (.list ds, e) => (match keysOf g ds with
    | some ks => some (.list (sortK ks ds), e)
    | none => none)
  | some (.tuple ds, e) => (match keysOf g ds with
    | some ks => some (.list (sortK ks ds), e)
    | none => none)
  | _ => none
theorem keysOf_len {g : Fn} : ∀ {ds : List D} {ks : List Int}, keysOf g ds = some ks → ks.length = ds.length
  | [], ks, h => by cases h; rfl
  | d :: ds, ks, h => by
    unfold keysOf at h
    split at h
    · split at h
      · rename_i e
        cases h
        rw [List.length_cons, List.length_cons, keysOf_len e]
      · cases h
    · cases h
theorem keysOf_at {g : Fn} : ∀ {ds : List D} {ks : List Int}, keysOf g ds = some ks → ∀ (i : Nat) (d : D) (k : Int), ds[i]? = some d → ks[i]? = some k → g [.val d] = some (.val (.int k), [])
  | [], ks, h, i, d, k, e1, e2 => by simp at e1
  | d0 :: ds, ks, h, i, d, k, e1, e2 => by
    unfold keysOf at h
    split at h
    · rename_i k0 e0
      split at h
      · rename_i ks' e
        cases h
        cases i with
        | zero =>
          rw [List.getElem?_cons_zero] at e1 e2
          cases e1; cases e2
          exact e0
        | succ i =>
          rw [List.getElem?_cons_succ] at e1 e2
          exact keysOf_at e i d k e1 e2
      · cases h
    · cases h
theorem da_at {K : PySem.W.Frag} {Z : Hp} : ∀ {vs : List V} {ds : List D}, DpAll K Z vs ds → ∀ (i : Nat) (v : V) (d : D), vs[i]? = some v → ds[i]? = some d → Dp K Z v d
  | _, _, .nil, i, v, d, e1, _ => by simp at e1
  | _, _, .cons a b, 0, v, d, e1, e2 => by
    rw [List.getElem?_cons_zero] at e1 e2
    cases e1; cases e2
    exact a
  | _, _, .cons a b, i + 1, v, d, e1, e2 => by
    rw [List.getElem?_cons_succ] at e1 e2
    exact da_at b i v d e1 e2
theorem vals_at : ∀ {vs : List V} {us : List Value}, Vals vs us → ∀ (i : Nat) (u : Value), us[i]? = some u → ∃ v, vs[i]? = some v ∧ RelV v u
  | _, _, .nil, i, u, e => by simp at e
  | _, _, .cons a b, 0, u, e => by
    rw [List.getElem?_cons_zero] at e
    cases e
    exact ⟨_, rfl, a⟩
  | _, _, .cons a b, i + 1, u, e => by
    rw [List.getElem?_cons_succ] at e
    obtain ⟨v, h1, h2⟩ := vals_at b i u e
    exact ⟨v, h1, h2⟩
theorem each_zip {K : PySem.W.Frag} {Z : Hp} : ∀ {vs : List V} {us : List Value} {ds : List D} {ks : List Int}, Vals vs us → DpAll K Z vs ds → ks.length = ds.length → PySem.W.EachIs (fun u (p : Int × D) => ∃ y, RelV y u ∧ Dp K Z y p.2) us (ks.zip ds)
  | _, _, _, ks, .nil, .nil, h => by rw [List.zip_nil_right]; exact .nil
  | _, _, _, [], .cons _ _, .cons _ _, h => by simp at h
  | _, _, _, k :: ks, .cons a b, .cons q r, h => by
    rw [List.zip_cons_cons]
    exact .cons ⟨_, a, q⟩ (each_zip b r (by simpa using h))
theorem each_back {K : PySem.W.Frag} {Z : Hp} : ∀ {us : List Value} {ps : List (Int × D)}, PySem.W.EachIs (fun u (p : Int × D) => ∃ y, RelV y u ∧ Dp K Z y p.2) us ps → ∃ vs, Vals vs us ∧ DpAll K Z vs (ps.map (·.2))
  | _, _, .nil => ⟨[], .nil, .nil⟩
  | _, _, .cons ⟨y, a, b⟩ h => by
    obtain ⟨vs, h1, h2⟩ := each_back h
    exact ⟨y :: vs, .cons a h1, .cons b h2⟩
section
variable {X : Cx} {k : Nat} {ff : Addr} {fd : FuncData} {ps : List Str} {g : Fn}
def rSortK (K : PySem.W.Frag) (ff : Addr) (g : Fn) : List V → List V → Hp → VK → Prop := fun vs zs H Q => ∃ (a : Addr) (ys : List V) (ds : List D) (ks : List Int) (Z : Hp), vs = [V.ref a] ∧ zs = [V.ref ff] ∧ Same Z H ∧ (SqL K H a ys ∨ SqT K H a ys) ∧ DpAll K Z ys ds ∧ keysOf g ds = some ks ∧
  ∀ v Z' H', Alc Z H Z' H' → Dp K Z' v (.list (sortK ks ds)) → Q v H'
theorem cr_sortK (F : FnG X.prog X.w X.K X.mg X.base k ff fd ps (spF X.K 1 g)) (hps : ps.length = 1) (hG : NoG X.A) (hr : Room k X.A.in1.in1) (hb : Binds X.K fd ps []) : CallRK X (.builtin "sorted") [Str.ofString "key"] (rSortK X.K ff g) := by
  intro pins s σ H vs zs us ws Q I r rz h
  obtain ⟨a, ys, ds, ks, Z, rfl, rfl, zh, hs, hd, hk, q⟩ := h
  obtain rfl := Vals.ref1 r
  obtain ⟨w1, rfl, e1⟩ := vals1 rz
  obtain rfl : w1 = Value.ref ff := e1
  obtain ⟨its, rv, pl, hz⟩ : ∃ its : List Value, Vals ys its ∧ (s.heap.IsList a its.toArray ∨ s.heap.IsTuple a its.toArray) ∧ ys.length ≤ sizeLine := by
    rcases hs with hs | hs
    · obtain ⟨its, rv, pl, hz⟩ := I.list hs
      exact ⟨its, rv, .inl pl.isList, hz⟩
    · obtain ⟨its, rv, pl, hz⟩ := I.tuple hs
      exact ⟨its, rv, .inr (show s.heap.IsTuple a its.toArray from pl), hz⟩
  have hkl := keysOf_len hk
  have hdl : ys.length = ds.length := da_length hd
  have hli : ys.length = its.length := rv.length
  have big : ∀ b : Addr, s.heap.objs.size ≤ b → b ≠ X.env.locals ∧ b ∉ X.fs ∧ (∀ x c, X.env.cells.lookup x = some c → c ≠ b) ∧ (∀ p ∈ X.pn ++ pins, p.1 ≠ b) ∧ H b = none ∧ X.s_0.heap.objs.size ≤ b := fun b hb => by
    refine ⟨fun e => ?_, I.nofs hb, fun x c e z => ?_, fun p hp z => ?_, I.hok.fresh hb, Nat.le_trans I.sz hb⟩
    · have := I.lt; rw [← e] at this; exact absurd (Nat.lt_of_lt_of_le this hb) (Nat.lt_irrefl _)
    · obtain ⟨v, o, ho, _⟩ := I.cell x c e
      rw [z] at ho
      exact absurd (Nat.lt_of_lt_of_le (Heap.lt_size ho) hb) (Nat.lt_irrefl _)
    · have := (I.pin p hp).1
      rw [z] at this
      exact absurd (Nat.lt_of_lt_of_le (Heap.lt_size this) hb) (Nat.lt_irrefl _)
  have bA := big (s.heap.objs.size + 1) (Nat.le_succ _)
  have bS := big (s.heap.objs.size + 3) (Nat.le_add_right _ 3)
  let J : Shared → Prop := fun s' => ∃ Z' H', Inv X pins σ H' s' ∧ Alc Z H Z' H' ∧ H' (s.heap.objs.size + 1) = none ∧ H' (s.heap.objs.size + 3) = none
  have put : ∀ (b : Addr), (b = s.heap.objs.size + 1 ∨ b = s.heap.objs.size + 3) → ∀ (s' : Shared) (g' : Array Value → Array Value), J s' → J { s' with heap := s'.heap.update b (Obj.mapSeq g') } := by
    rintro b hbb s' g' ⟨Z', H', I', al, n1, n3⟩
    have hb2 : s.heap.objs.size ≤ b := by rcases hbb with rfl | rfl <;> exact Nat.le_add_right _ _
    obtain ⟨c1, c2, c3, c4, -, c5⟩ := big b hb2
    exact ⟨Z', H', I'.turned (it := b) (fun c o hc e => by rw [Heap.get?_update_ne _ _ _ _ hc]; exact e) (by rcases hbb with rfl | rfl; exact n1; exact n3) c1 (.inr c5) c3 c4, al, n1, n3⟩
  have B : EvK.Bears X.prog X.w X.A.in1.in1 (.ref ff) its ks (s.heap.objs.size + 3) (s.heap.objs.size + 1) J := by
    refine ⟨fun i v kk hv hkk s' o o' ⟨Z', H', I', al, n1, n3⟩ g3 g1 => ?_, put _ (.inr rfl), put _ (.inl rfl)⟩
    obtain ⟨y, hy, ry⟩ := vals_at rv i v hv
    have hil : i < ds.length := by have := (List.getElem?_eq_some_iff.mp hy).1; omega
    have hdi := List.getElem?_eq_getElem hil
    have hg := keysOf_at hk i _ kk hdi hkk
    have dy : Dp X.K Z' y ds[i] := Dp.mono al.zz _ _ (da_at hd i y _ hy hdi)
    have e0 : Env0 X.prog X.w X.K X.mg X.base X.A.in1.in1 X.stack s' H' := I'.env0.in1.in1
    have bd := hb s' [v] I'.kIn (by rw [List.append_nil, hps]; rfl)
    rw [List.append_nil] at bd
    refine wpAny_call (codeAny_mono (F.run X.A.in1.in1 hG hr X.stack s' H' e0 ⟨[v], []⟩ [v] bd [y] (.cons ry .nil) (fun u H2 => ∃ Z2, u = .int kk ∧ Alc Z H Z2 H2) E0
      ⟨rfl, H', Z', [.val ds[i]], .val (.int kk), [], Same.refl _, al.zh, .val dy .nil, hg, fun u Z2 H2 gr sf sz _ rt => ?_⟩) fun rr s'' hq => ?_)
    · have rt' : Dp X.K Z2 u (.int kk) := rt
      cases rt'
      exact ⟨Z2, rfl, al.trans ⟨gr.zz, sf, sz, gr.nf⟩⟩
    · cases rr with
      | error e => exact (hq : False).elim
      | ok fl =>
        cases fl with
        | ret u =>
          obtain ⟨v2, H2, os, bare, un, hok, rv2, Z2, rfl, al2⟩ := hq
          obtain ⟨t, rfl⟩ : ∃ t, u = Value.int kk t := rv2
          have fr : ∀ b : Addr, s.heap.objs.size ≤ b → b ∉ frs X.stack := fun b hb2 z => by
            obtain ⟨c1, c2, -⟩ := big b hb2
            rcases List.mem_cons.mp (I'.stkSub b z) with e | e
            · exact c1 e
            · exact c2 e
          have k1 := un.keep _ o' g1 n1 (fr _ (Nat.le_succ _)) (by simp)
          have k3 := un.keep _ o g3 n3 (fr _ (Nat.le_add_right _ 3)) (by simp)
          have f1 := un.free _ o' g1 n1 (by simp)
          have f3 := un.free _ o g3 n3 (by simp)
          obtain ⟨hh, gg, dd, tt, os'⟩ := s''
          obtain rfl : os' = s'.os := os
          exact ⟨⟨Z2, H2, I'.call (h' := hh) (g' := gg) (d' := dd) (t' := tt) (ch := []) un hok bare (fun b z => absurd z (by simp)), al2, f1, f3⟩, ⟨t, rfl⟩, k3, k1⟩
        | next => exact (hq : False).elim
        | brk => exact (hq : False).elim
        | cont => exact (hq : False).elim
  have j0 : J { s with heap := PySem.W.sortingHeap (PySem.W.copyHeap s.heap its) (s.heap.objs.size + 1) its } :=
    ⟨Z, H, I.kept (t' := s.toks) (fun b o e => PySem.W.sorting_copy_old e), .refl zh, bA.2.2.2.2.1, bS.2.2.2.2.1⟩
  refine EvK.sorted_ok (ks := ks) (J := J) pl B j0 (by omega) (by omega) (by have := hr.un; show X.A.units + 2 < _; have : X.A.in1.in1.units = X.A.units + 2 := rfl; omega) fun s' out c ⟨Z', H', I', al, n1, n3⟩ hg ko => ?_
  have hm : (ks.zip ds).map (fun p => PyData.int p.1) = ks.map PyData.int := by
    rw [show (fun p : Int × D => PyData.int p.1) = PyData.int ∘ Prod.fst from rfl, ← List.map_map, List.map_fst_zip (by omega)]
  rw [← hm] at ko
  have ee := PySem.W.keyedOut_each (β := Int × D) (fun p => PyData.int p.1) ko (each_zip rv hd hkl)
  rw [PySem.W.dataLe_int (β := Int × D) Prod.fst] at ee
  obtain ⟨zs, vz, dz⟩ := each_back ee
  have hlo : zs.length ≤ sizeLine := by
    have e1 := da_length dz
    rw [List.length_map, List.length_mergeSort, List.length_zip] at e1
    omega
  have new : ObjOk X.prog X.w (upd H' (s.heap.objs.size + 1) (.lst zs)) s'.heap (s.heap.objs.size + 1) (.lst zs) := ⟨hlo, out, c, vz, hg⟩
  have hok2 : HOk X.prog X.w (upd H' (s.heap.objs.size + 1) (.lst zs)) s'.heap := fun b u e => by
    by_cases hbb : b = s.heap.objs.size + 1
    · subst hbb; rw [upd_same] at e; cases e; exact new
    · rw [upd_ne hbb] at e
      exact (I'.hok b u e).stay (fun c v _ q => q) (fun c q => by rw [upd_ne (ne_of_none q n1)]; exact q) fun c xs q => by rw [upd_ne (ne_of_none q n1)]; exact q
  have al2 : Alc Z' H' (upd Z' (s.heap.objs.size + 1) (.lst zs)) (upd H' (s.heap.objs.size + 1) (.lst zs)) := Alc.new al.zh n1
  refine ⟨.ref _, upd H' (s.heap.objs.size + 1) (.lst zs), ?_, rfl, q _ _ _ (al.trans al2) (.lst (.inl (.inl (upd_same ..))) (DpAll.mono (Alc.zz al2) _ _ (DpAll.mono al.zz _ _ dz)))⟩
  obtain ⟨c1, c2, c3, c4, -, c5⟩ := bA
  have ne : ∀ b u, H' b = some u → b ≠ s.heap.objs.size + 1 := fun b u e => ne_of_none e n1
  have nch : ∀ b, b ∉ [s.heap.objs.size + 1] → b ≠ s.heap.objs.size + 1 := fun b hb e => hb (by rw [e]; exact List.mem_singleton_self _)
  exact I'.step (g' := s'.gens) (t' := s'.toks) (d' := s'.drawn) (ch := [s.heap.objs.size + 1]) (fun b hb2 => by rw [List.mem_singleton.mp hb2]; exact ⟨.inr c5, c1, c3, c4⟩)
    (fun b o _ _ _ e _ => e) (fun b o _ _ _ e _ => ⟨o.slots, e⟩) (fun b o hc _ n => by rw [upd_ne (nch b hc)]; exact n) (fun b o _ e => ⟨o, e⟩)
    (fun b xs e => by rw [upd_ne (ne _ _ e)]; exact e) (fun b o u e => by rw [upd_ne (ne _ _ e)]; exact e) (fun b pp e => ⟨#[], by rw [upd_ne (ne _ _ e), e]; simp⟩) (fun m hm => hm) hok2 I'.bare
end
end Ev
namespace Ev
open PySem PySem.Spec PyProof.Rows L2
section
variable {X : Cx} {k : Nat} {ff : Addr} {fd : FuncData} {ps : List Str} {g : Fn}
theorem sqL_same {K : PySem.W.Frag} {Z H : Hp} {a : Addr} {xs : List V} (s : Same Z H) (h : SqL K Z a xs) : SqL K H a xs := h.imp (fun r => r.imp (s _ _) fun ⟨o, e⟩ => ⟨o, s _ _ e⟩) id
theorem s_sortK {a : Expr} {fa : Fx D} {y : Str} {py kp p pos : Pos} (ha : PE X a (tE X.K fa)) (hg : Gl X "sorted") (hm : X.mg "sorted" = none) (F : FnG X.prog X.w X.K X.mg X.base k ff fd ps (spF X.K 1 g)) (hps : ps.length = 1) (hG : NoG X.A) (hr : Room k X.A.in1.in1) (hb : Binds X.K fd ps [])
    (hgy : Gl X y) (hmy : X.mg y = some (.ref ff)) (hdy : (y == ("__debug__" : Str)) = false) (hst : starEach [a] X.env = (false, eval a X.env) :: starEach [] X.env) :
    PE X (.Call (.Name "sorted" p) [a] [⟨some "key", .Name y py, kp⟩] pos) (tE X.K (eSortK g fa)) := by
  have hstk : PE X (.Name y py) (tC (V.ref ff)) := pe_glob hgy hmy rfl hdy
  refine PE.imp (pe_callBK (cr_sortK F hps hG hr hb) hg hm rfl (s_dCons ha s_dNil hst) (pk_cons hstk pk_nil) (by decide +kernel) (by decide +kernel) (by rw [hst]; rfl) (by rw [hst]; rfl)) fun σ H Q ⟨F0, pa, Z, env, d, env', W, e, kk⟩ => ?_
  unfold eSortK at e
  split at e
  · rename_i ds e' e1
    split at e
    · rename_i ks e2
      cases e
      refine ⟨F0, pa, Z, env, [.list ds], env', W, by unfold dCons dNil; rw [e1]; rfl, fun vs Z1 H1 g1 W1 da => ?_⟩
      show rSortK X.K ff g vs [V.ref ff] H1 Q
      cases da with
      | cons q t =>
        cases t
        cases q with
        | @lst a us _ hs hu => exact ⟨a, us, ds, ks, Z1, rfl, rfl, W1.zh, .inl (Ev.sqL_same W1.zh hs), hu, e2, fun v Z' H' al q => kk v Z' H' (g1.trans (al.gr W1.fh)) (W1.alc al) q⟩
    · cases e
  · rename_i ds e' e1
    split at e
    · rename_i ks e2
      cases e
      refine ⟨F0, pa, Z, env, [.tuple ds], env', W, by unfold dCons dNil; rw [e1]; rfl, fun vs Z1 H1 g1 W1 da => ?_⟩
      show rSortK X.K ff g vs [V.ref ff] H1 Q
      cases da with
      | cons q t =>
        cases t
        cases q with
        | @tup a us _ hs hu => exact ⟨a, us, ds, ks, Z1, rfl, rfl, W1.zh, .inr (Same.sqT W1.zh hs), hu, e2, fun v Z' H' al q => kk v Z' H' (g1.trans (al.gr W1.fh)) (W1.alc al) q⟩
    · cases e
  · cases e
end
end Ev
namespace Ev
open PySem PySem.Spec PyProof.Rows L2
/-! ## from the text to its evaluation -/
inductive Blt where
  | len | abs | int | min | max | all | any | sum | divmod | tuple | isinstance | list | range | zip | bool | str | dict | enumerate | sorted | repr | set
  deriving DecidableEq
def Blt.name : Blt → String
  | .len => "len" | .abs => "abs" | .int => "int" | .min => "min" | .max => "max" | .all => "all" | .any => "any" | .sum => "sum" | .divmod => "divmod" | .tuple => "tuple" | .isinstance => "isinstance" | .list => "list" | .range => "range" | .zip => "zip"
  | .bool => "bool" | .str => "str" | .dict => "dict" | .enumerate => "enumerate" | .sorted => "sorted" | .repr => "repr" | .set => "set"
def Blt.ty : Blt → Option String
  | .int => some "int" | .bool => some "bool" | .tuple => some "tuple" | .list => some "list" | .str => some "str" | .dict => some "dict"
  | _ => none
/-- a built-in function on plain data -/
def Blt.fn : Blt → Option (List D → Option D)
  | .len => some gLen | .abs => some gAbs | .min => some gMin | .max => some gMax | .all => some gAll | .any => some gAny | .sum => some gSum | .divmod => some gDivmod | .sorted => some gSorted | .repr => some gReprD
  | _ => none
/-- a built-in type called on plain data -/
def Blt.tyFn : Blt → Option (List D → Option D)
  | .int => some gInt | .tuple => some gTuple | .str => some gStr
  | _ => none
structure Tab where
  fns : List (Str × Nat × List Bool)
  cons : List (Str × D)
  blts : List (Str × Blt)
  mods : List (Str × String)
  kws : List (Str × Nat × List Str × List Nat)
  mats : List Str
  bors : List Str
  sees : List Str
def modFn : String → Option (List D → Option D)
  | "math.gcd" => some gGcd
  | "math.lcm" => some gLcm
  | _ => none
def okNm (x : Str) : Bool := !(x == ("__debug__" : Str)) && !(x == ("__classdict__" : Str)) && !(x == ("__name__" : Str))
structure XOk (T : Tab) (N : List Str) (C : Nat → Fn) (X : Cx) : Prop where
  names : X.N = N
  nd : X.N.Nodup
  nm : ∀ x ∈ X.N, okNm x = true
  calm : X.calm = true
  kind : X.env.scope.kind = .function
  units : X.A.units + 64 < cLine
  grd : NoG X.A
  xe : X.xe = fun _ _ => False
  fn : ∀ x i fl, T.fns.lookup x = some (i, fl) → okNm x = true ∧ ∃ f fd ps k, X.mg x = some (.ref f) ∧ PySem.W.keepIn X.K (.ref f) = true ∧ Binds X.K fd ps [] ∧ FnG X.prog X.w X.K X.mg X.base k f fd ps (spF X.K fl.length (C i)) ∧ Room k X.A
  kw : ∀ x i fl n ks perm, T.fns.lookup x = some (i, fl) → (x, n, ks, perm) ∈ T.kws → perm.length = fl.length ∧ (∀ j ∈ perm, j < n + ks.length) ∧ ∃ f fd ps k, X.mg x = some (.ref f) ∧ PySem.W.keepIn X.K (.ref f) = true ∧
    KBinds X.K fd ps ks (pick n ks.length perm) (pick n ks.length perm) ∧ FnG X.prog X.w X.K X.mg X.base k f fd ps (spF X.K fl.length (C i)) ∧ Room k X.A
  kf : ∀ x i fl, T.fns.lookup x = some (i, fl) → fl.length = 1 → okNm x = true ∧ ∃ f fd ps k, ps.length = 1 ∧ X.mg x = some (.ref f) ∧ Binds X.K fd ps [] ∧ FnG X.prog X.w X.K X.mg X.base k f fd ps (spF X.K 1 (C i)) ∧ Room k X.A.in1.in1
  con : ∀ x d, T.cons.lookup x = some d → okNm x = true ∧ ∃ u v, X.mg x = some u ∧ RelV v u ∧ ∀ Z, Dp X.K Z v d
  blt : ∀ x b, T.blts.lookup x = some b → x = (b.name : Str) ∧ X.mg x = none
  mod : ∀ x id, T.mods.lookup x = some id → okNm x = true ∧ X.mg x = some (.builtin id)
def stuck {α : Type} : Fx α := fun _ => none
structure Den where
  E : Scope → Expr → Fx D
  R : Scope → Expr → Fx R
  T : Scope → Expr → Fx Bool
  S : Scope → Stmt → Fx Fl
section
variable (T : Tab) (N : List Str) (C : Nat → Fn) (wf : Nat)
def nameIx : List Str → Str → Option Nat
  | [], _ => none
  | y :: ys, x => if y = x then some 0 else (nameIx ys x).map (· + 1)
/-- names whose slots are stored to -/
def storeIx (sc : Scope) (x : Str) : Option Nat := match nameIx N x with
  | some i => (match sc.names.lookup x with
    | some .local => some i
    | some .cell => some i
    | _ => none)
  | none => none
def namesIx (sc : Scope) : List Expr → Option (List Nat)
  | [] => some []
  | .Name x _ :: es => (match storeIx N sc x, namesIx sc es with
    | some i, some r => some (i :: r)
    | _, _ => none)
  | _ :: _ => none
def slot (sc : Scope) (x : Str) : Option Nat := match nameIx N x with
  | some i => (match sc.names.lookup x with
    | some .local => some i
    | some .cell => some i
    | some .free => some i
    | _ => none)
  | none => none
def isGl (sc : Scope) (x : Str) : Bool := match sc.names.lookup x with
  | some .globalImplicit => true
  | _ => false
def dName (sc : Scope) (x : Str) : Fx D := match slot N sc x with
  | some i => eVar i
  | none => if isGl sc x = true then (match T.cons.lookup x with
    | some v => eC v
    | none => stuck) else stuck
def opOf : Operator → Option (D → D → Option D)
  | .Add => some gAdd | .Sub => some gSub | .Mult => some gMul | .FloorDiv => some gFdiv | .Mod => some gMod | .Pow => some gPow | .LShift => some gShl
  | _ => none
def cmpOf : CmpOp → (D → D → Option D)
  | .Eq => gEq | .NotEq => gNe | .Lt => gLt | .LtE => gLe | .Gt => gGt | .GtE => gGe | .Is => gIs | .IsNot => gIsNot | .In => gIn | .NotIn => gNotIn
def isStar : Expr → Bool
  | .Starred _ _ => true
  | _ => false
def plIx : Expr → Bool
  | .Name _ _ => true | .Constant _ _ _ => true | .BinOp _ _ _ _ => true | .UnaryOp _ _ _ => true | .Call _ _ _ _ => true | .Subscript _ _ _ => true | .IfExp _ _ _ _ => true
  | _ => false
def dD (d : Den) (sc : Scope) : List Expr → Fx (List D)
  | [] => dNil
  | e :: es => if isStar e = true then stuck else dCons (d.E sc e) (dD d sc es)
/-- what a list written out holds: things, and the items of starred ones -/
def dDs (d : Den) (sc : Scope) : List Expr → Fx (List D)
  | [] => dNil
  | e :: es => (match e with
    | .Starred a _ => dStar (d.E sc a) (dDs d sc es)
    | _ => dCons (d.E sc e) (dDs d sc es))
/-- arguments of an own def: fl tells which parameters are lists that it changes -/
def dA1 (d : Den) (sc : Scope) (e : Expr) (g : Fx (List AR)) : Fx (List AR) := match e with
  | .Name x _ => (match slot N sc x with
    | some i => aSlot i g
    | none => stuck)
  | e => if isStar e = true then stuck else aTmp (d.R sc e) g
def dA (d : Den) (sc : Scope) : List Bool → List Expr → Fx (List AR)
  | fl, [] => (match fl with
    | [] => aNil
    | _ => stuck)
  | fl, e :: es => (match fl with
    | [] => stuck
    | b :: fl => if b = true then dA1 N d sc e (dA d sc fl es) else (if isStar e = true then stuck else aVal (d.E sc e) (dA d sc fl es)))
def dRs (d : Den) (sc : Scope) : List Expr → Fx (List AR)
  | [] => aNil
  | e :: es => if isStar e = true then stuck else aR (d.R sc e) (dRs d sc es)
def dAndT (d : Den) (sc : Scope) : List Expr → Fx Bool
  | [] => stuck
  | [a] => d.T sc a
  | a :: b :: r => eAndT (d.T sc a) (dAndT d sc (b :: r))
def dOrT (d : Den) (sc : Scope) : List Expr → Fx Bool
  | [] => stuck
  | [a] => d.T sc a
  | a :: b :: r => eOrT (d.T sc a) (dOrT d sc (b :: r))
def dAnd (d : Den) (sc : Scope) : List Expr → Fx D
  | [] => stuck
  | [a] => d.E sc a
  | a :: b :: r => eAnd (d.E sc a) (dAnd d sc (b :: r))
def dOr (d : Den) (sc : Scope) : List Expr → Fx D
  | [] => stuck
  | [a] => d.E sc a
  | a :: b :: r => eOr (d.E sc a) (dOr d sc (b :: r))
/-- what a for walks -/
def dRange (d : Den) (sc : Scope) (args : List Expr) : Fx (List D) := match args with
  | [a] => if isStar a = true then stuck else iRange1 (d.E sc a)
  | [a, b] => if isStar a = true ∨ isStar b = true then stuck else iRange2 (d.E sc a) (d.E sc b)
  | [a, b, c] => if isStar a = true ∨ isStar b = true ∨ isStar c = true then stuck else iRange3 (d.E sc a) (d.E sc b) (d.E sc c)
  | _ => stuck
def isTup : Expr → Bool
  | .Tuple _ _ _ => true
  | _ => false
def dZip (d : Den) (sc : Scope) (tg : Expr) (args : List Expr) : Fx (List D) := if isTup tg = true then (match args with
  | [a, b] => if isStar a = true ∨ isStar b = true then stuck else iZip (dD d sc [a, b])
  | _ => stuck) else stuck
def dEnum (d : Den) (sc : Scope) (tg : Expr) (args : List Expr) : Fx (List D) := if isTup tg = true then (match args with
  | [a] => if isStar a = true then stuck else iEnum (d.E sc a)
  | _ => stuck) else stuck
def dI (d : Den) (sc : Scope) (tg : Expr) (e : Expr) : Fx (List D) := match e with
  | .Call (.Name x _) args [] _ => if isGl sc x = true then (match T.blts.lookup x with
    | some .range => dRange d sc args
    | some .zip => dZip d sc tg args
    | some .enumerate => dEnum d sc tg args
    | _ => iSeq (d.E sc e)) else stuck
  | .Set _ _ _ => stuck
  | _ => iSeq (d.E sc e)
/-- targets: a name, or a tuple of names, items and such tuples (two levels) -/
def dG0 (d : Den) (sc : Scope) : Expr → List Nat × Gf
  | .Name x _ => (match slot N sc x with
    | some i => (match sc.names.lookup x with
      | some .free => ([], fun _ _ => none)
      | _ => ([i], gN i))
    | none => ([], fun _ _ => none))
  | .Subscript (.Name x _) ie _ => (match slot N sc x with
    | some i => if plIx ie = true then ([], gIx i (d.E sc ie)) else ([], fun _ _ => none)
    | none => ([], fun _ _ => none))
  | _ => ([], fun _ _ => none)
def dGs (g : Expr → List Nat × Gf) : List Expr → List Nat × (List D → En → Option En)
  | [] => ([], gsNil)
  | e :: es => if isStar e = true then ([], fun _ _ => none) else ((g e).1 ++ (dGs g es).1, gsCons (g e).2 (dGs g es).2)
def dG1 (d : Den) (sc : Scope) : Expr → List Nat × Gf
  | .Tuple es _ _ => ((dGs (dG0 N d sc) es).1, gTup es.length (dGs (dG0 N d sc) es).2)
  | e => dG0 N d sc e
def dG (d : Den) (sc : Scope) : Expr → List Nat × Gf
  | .Tuple es _ _ => ((dGs (dG1 N d sc) es).1, gTup es.length (dGs (dG1 N d sc) es).2)
  | e => dG0 N d sc e
/-- the names that a comprehension's block has of its own -/
def ownOf (scope : Scope) : List (Str × Nat) := scope.names.filterMap fun y => match y.2 with
  | .local => (nameIx N y.1).map fun i => (y.1, i)
  | .cell => (nameIx N y.1).map fun i => (y.1, i)
  | _ => none
def subB (a b : List Nat) : Bool := a.all fun i => b.contains i
def dIfs (d : Den) (sc : Scope) : List Expr → Fx Bool
  | [] => fun env => some (true, env)
  | [c] => d.T sc c
  | _ => stuck
def notSet : Expr → Bool
  | .Set _ _ _ => false
  | _ => true
def dComp (d : Den) (sc : Scope) (elt : Expr) (gens : List Comprehension) (scope : Scope) : Fx R := match gens with
  | [⟨tg, iter, ifs, 0⟩] => if notSet iter = true ∧ blkC N sc scope (ownOf N scope) = true ∧ subB (dG N d (relS scope sc) tg).1 ((ownOf N scope).map (·.2)) = true then
      eComp (dI T d sc tg iter) (dG N d (relS scope sc) tg).2 (dIfs d (relS scope sc) ifs) (d.E (relS scope sc) elt) ((ownOf N scope).map (·.2)) else stuck
  | [⟨tg, iter, ifs, 0⟩, ⟨tg1, iter1, ifs1, 0⟩] => if notSet iter = true ∧ blkC N sc scope (ownOf N scope) = true ∧ subB (dG N d (relS scope sc) tg).1 ((ownOf N scope).map (·.2)) = true ∧ notSet iter1 = true ∧ subB (dG N d (relS scope sc) tg1).1 ((ownOf N scope).map (·.2)) = true then
      eComp2 (dI T d sc tg iter) (dG N d (relS scope sc) tg).2 (dIfs d (relS scope sc) ifs) (dI T d (relS scope sc) tg1 iter1) (dG N d (relS scope sc) tg1).2 (dIfs d (relS scope sc) ifs1) (d.E (relS scope sc) elt) ((ownOf N scope).map (·.2)) (dG N d (relS scope sc) tg1).1 else stuck
  | _ => stuck
/-- a new list of new lists -/
def dCompM (d : Den) (sc : Scope) (elt : Expr) (gens : List Comprehension) (scope : Scope) : Fx R := match gens with
  | [⟨tg, iter, ifs, 0⟩] => if notSet iter = true ∧ blkC N sc scope (ownOf N scope) = true ∧ subB (dG N d (relS scope sc) tg).1 ((ownOf N scope).map (·.2)) = true then
      eCompM (dI T d sc tg iter) (dG N d (relS scope sc) tg).2 (dIfs d (relS scope sc) ifs) (d.R (relS scope sc) elt) ((ownOf N scope).map (·.2)) else stuck
  | _ => stuck
def kwNames (kws : List Keyword) : List (Option Str) := kws.map fun | ⟨n, _, _⟩ => n
def kwVals (kws : List Keyword) : List Expr := kws.map fun | ⟨_, v, _⟩ => v
def findKw (x : Str) (n : Nat) (ks : List (Option Str)) : Option (List Str × List Nat) := match T.kws.find? fun q => decide (q.1 = x) && (decide (q.2.1 = n) && decide (q.2.2.1.map some = ks)) with
  | some q => some q.2.2
  | none => none
/-- a list of its own that a def lends -/
def isBor : Expr → Bool
  | .Name x _ => T.bors.contains x
  | _ => false
def dCall (d : Den) (sc : Scope) (x : Str) (args : List Expr) (kws : List Keyword) : Option (Fx R) := match T.fns.lookup x with
  | some (i, fl) => (match kws with
    | [] => some (if args.length = fl.length then (if args.any (isBor T) = true then eCallB (C i) (dA N d sc (List.zipWith (fun b e => b || isBor T e) fl args) args) else eCall (C i) (dA N d sc fl args)) else stuck)
    | _ => (match findKw T x args.length (kwNames kws) with
      | some (ks, perm) => some (eCallK (C i) args.length ks.length perm (dD d sc args) (dD d sc (kwVals kws)))
      | none => some stuck))
  | none => none
/-- a range as an argument -/
def rgArgs (sc : Scope) : Expr → Option (List Expr)
  | .Call (.Name y _) args [] _ => if isGl sc y = true then (match T.blts.lookup y with
    | some .range => some args
    | _ => none) else none
  | _ => none
def dList (d : Den) (sc : Scope) (a : Expr) : Fx R := match rgArgs T sc a with
  | some [b] => if isStar b = true then stuck else eRgL1 (d.E sc b)
  | some [b, c] => if isStar b = true ∨ isStar c = true then stuck else eRgL2 (d.E sc b) (d.E sc c)
  | some _ => stuck
  | none => eList (d.E sc a)
/-- a list of two or more, written out -/
def isLst2 : Expr → Bool
  | .List (_ :: _ :: _) _ => true
  | .BinOp (.List _ _) .Mult _ _ => true
  | _ => false
def isRepA : Expr → Bool
  | .BinOp (.List _ _) .Mult _ _ => true
  | _ => false
/-- the law's table tells whether a list added is a new list -/
def freshL : Bool := (T.blts.lookup ("dict" : Str)).isSome
def isRev : Expr → Bool
  | .Slice none none (some (.UnaryOp .USub (.Constant (.int 1) _ _) _)) _ => true
  | _ => false
/-- sorted(a, key=f) -/
def dSortK (d : Den) (sc : Scope) (args : List Expr) (kws : List Keyword) : Fx D := match args, kws with
  | [a], [⟨some kn, .Name y _, _⟩] => (match T.fns.lookup y with
    | some (i, [false]) => if (kn = ("key" : Str) ∧ isStar a = false) ∧ isGl sc y = true then eSortK (C i) (d.E sc a) else stuck
    | _ => stuck)
  | _, _ => stuck
def stepR (d : Den) (sc : Scope) (e : Expr) : Fx R := match e with
  | .BinOp a .Add b _ => if (freshL T && (isLst2 b || isRepA a)) = true then eAddR (d.E sc a) (d.E sc b) else rV (d.E sc e)
  | .List es _ => eLst (dDs d sc es)
  | .ListComp elt gens scope _ => dComp T N d sc elt gens scope
  | .Call (.Name x _) args kws _ => if isGl sc x = true then (match dCall T N C d sc x args kws with
    | some f => f
    | none => (match T.blts.lookup x, args, kws with
      | some .list, [a], [] => if isStar a = true then stuck else dList T d sc a
      | some .sorted, _, _ :: _ => rV (dSortK T C d sc args kws)
      | _, _, _ => rV (d.E sc e))) else stuck
  | .Subscript a (.Slice lo hi none _) _ => eSlice (d.E sc a) (ePart (lo.map (d.E sc))) (ePart (hi.map (d.E sc)))
  | .Subscript a s _ => if isRev s = true then eRev (d.E sc a) else rV (d.E sc e)
  | .IfExp c a b _ => eIf (d.T sc c) (d.R sc a) (d.R sc b)
  | .Name x _ => (match slot N sc x with
    | some i => eMove i
    | none => rV (d.E sc e))
  | _ => rV (d.E sc e)
def dBin (d : Den) (sc : Scope) (a : Expr) (op : Operator) (b : Expr) : Fx D := match a, op with
  | .List es _, .Mult => eFz (eRepL (dDs d sc es) (d.E sc b))
  | _, _ => (match opOf op with
    | some g => eOp g (d.E sc a) (d.E sc b)
    | none => stuck)
def dCmpR (d : Den) (sc : Scope) (a : Expr) (op : CmpOp) : Expr → Fx D
  | .Name x p => if (T.bors ++ T.sees).contains x = true then (match slot N sc x with
    | some i => eSeeR (cmpOf op) (d.E sc a) i
    | none => stuck) else eOp (cmpOf op) (d.E sc a) (d.E sc (.Name x p))
  | b => eOp (cmpOf op) (d.E sc a) (d.E sc b)
/-- one thing compared with one; lists that a def lends are not frozen -/
def dCmp (d : Den) (sc : Scope) (a : Expr) (op : CmpOp) (b : Expr) : Fx D := match a with
  | .Name x _ => if (T.bors ++ T.sees).contains x = true then (match slot N sc x with
    | some i => eSee (cmpOf op) i (d.E sc b)
    | none => stuck) else dCmpR T N d sc a op b
  | _ => dCmpR T N d sc a op b
def stepE (d : Den) (sc : Scope) (e : Expr) : Fx D := match e with
  | .Name x _ => dName T N sc x
  | .Constant c _ _ => (match c with
    | .none => eC .none
    | .bool b => eC (.bool b)
    | .int i => eC (.int i)
    | .str s => eC (.str s)
    | _ => stuck)
  | .BinOp a op b _ => dBin d sc a op b
  | .UnaryOp .Not a _ => eNot (d.E sc a)
  | .UnaryOp .USub a _ => eNeg (d.E sc a)
  | .BoolOp .And es _ => dAnd d sc es
  | .BoolOp .Or es _ => dOr d sc es
  | .Compare a [op] [b] _ => if behindInMarks op b = false then dCmp T N d sc a op b else stuck
  | .Compare a [op, op'] [b, c] _ => if behindInMarks op' c = false then eChain (cmpOf op) (cmpOf op') (d.E sc a) (d.E sc b) (d.E sc c) else stuck
  | .IfExp c a b _ => eIf (d.T sc c) (d.E sc a) (d.E sc b)
  | .Tuple es _ _ => eTup (dD d sc es)
  | .Dict [] [] _ => eDct0
  | .List _ _ => eFz (d.R sc e)
  | .ListComp _ _ _ _ => eFz (d.R sc e)
  | .Subscript a s _ => (match s with
    | .Slice _ _ none _ => eFz (d.R sc e)
    | _ => if plIx s = true then (match a with
      | .Subscript (.Name x _) s1 _ => if (T.mats.contains x && plIx s1) = true then (match slot N sc x with
        | some i => eItem2 i (d.E sc s1) (d.E sc s)
        | none => stuck) else eOp gItem (d.E sc a) (d.E sc s)
      | .Name x _ => (match slot N sc x with
        | some i => eItemN i (d.E sc s)
        | none => eOp gItem (d.E sc a) (d.E sc s))
      | _ => eOp gItem (d.E sc a) (d.E sc s)) else if isRev s = true then eFz (d.R sc e) else stuck)
  | .Call (.Name x _) args kws _ => if isGl sc x = true then (match T.fns.lookup x with
    | some _ => eFz (d.R sc e)
    | none => (match kws with
      | [] => (match T.blts.lookup x with
        | some .len => (match args with
          | [.Name y p] => (match slot N sc y with
            | some i => eLenN i
            | none => eBlt gLen (dD d sc args))
          | [.Call (.Name z _) [a] [] _] => if isGl sc z = true ∧ isStar a = false then (match T.blts.lookup z with
            | some .set => eLenSet (d.E sc a)
            | _ => eBlt gLen (dD d sc args)) else eBlt gLen (dD d sc args)
          | _ :: _ => eBlt gLen (dD d sc args)
          | [] => stuck)
        | some .isinstance => (match args with
          | [a, .Name y _] => if isStar a = true then stuck else (if isGl sc y = true then (match (T.blts.lookup y).bind Blt.ty with
            | some ty => eIsi ty (d.E sc a)
            | none => stuck) else stuck)
          | _ => stuck)
        | some .list => eFz (d.R sc e)
        | some b => (match args with
          | [] => stuck
          | _ :: _ => (match b.fn with
            | some g => eBlt g (dD d sc args)
            | none => (match b.tyFn with
              | some g => eBlt g (dD d sc args)
              | none => stuck)))
        | none => (match (T.mods.lookup x).bind modFn, args with
          | some g, _ :: _ => eBlt g (dD d sc args)
          | _, _ => stuck))
      | _ => (match T.blts.lookup x with
        | some .sorted => eFz (d.R sc e)
        | _ => stuck))) else stuck
  | .Call (.Attribute (.Name x _) m ap) [a] [] cp => if m = ("pop" : Str) ∧ (ap.endLine == cp.line) = true ∧ isStar a = false then (match slot N sc x with
    | some i => ePop i (d.E sc a)
    | none => stuck) else if m = ("index" : Str) ∧ (ap.endLine == cp.line) = true ∧ isStar a = false then (match slot N sc x with
    | some i => eIdx i (d.E sc a)
    | none => stuck) else stuck
  | _ => stuck
def stepT (d : Den) (sc : Scope) (e : Expr) : Fx Bool := match e with
  | .UnaryOp .Not a _ => eNotT (d.T sc a)
  | .BoolOp .And es _ => dAndT d sc es
  | .BoolOp .Or es _ => dOrT d sc es
  | .Compare a [op] [b] _ => if behindInMarks op b = false then eB (dCmp T N d sc a op b) else stuck
  | .Compare a [op, op'] [b, c] _ => if behindInMarks op' c = false then eB (eChain (cmpOf op) (cmpOf op') (d.E sc a) (d.E sc b) (d.E sc c)) else stuck
  | .Name _ _ => eTru (d.E sc e)
  | .Call _ _ _ _ => eTru (d.E sc e)
  | .Subscript _ _ _ => eTru (d.E sc e)
  | .Constant _ _ _ => eTru (d.E sc e)
  | _ => stuck
def dSs (d : Den) (sc : Scope) : List Stmt → Fx Fl
  | [] => sSkip
  | [s] => d.S sc s
  | s :: t :: r => sSeq (d.S sc s) (dSs d sc (t :: r))
def locIx (sc : Scope) (x : Str) : Option Nat := match sc.names.lookup x with
  | some .local => nameIx N x
  | _ => none
def tupSafe : Expr → Expr → Bool
  | .Tuple _ _ _, .Tuple _ _ _ => false
  | .Tuple _ _ _, _ => true
  | .Subscript _ _ _, _ => true
  | _, _ => false
def noLc : Expr → Bool
  | .ListComp _ _ _ _ => false
  | .SetComp _ _ _ _ => false
  | .DictComp _ _ _ _ _ => false
  | _ => true
def isNew : Expr → Bool
  | .List _ _ => true
  | .ListComp _ _ _ _ => true
  | _ => false
/-- a, b, .. = x, y, .. through a tuple; new lists stay own -/
def dTupA (d : Den) (sc : Scope) (ts vs : List Expr) (kt : Nat) (pt : Pos) (k2 : Nat) (p2 : Pos) : Fx Fl := if vs.any isNew = true ∧ ts.length ≤ 1000 then (match namesIx N sc ts with
    | some is => sPar is (dRs d sc vs)
    | none => sStuck) else sAsg (d.E sc (.Tuple vs k2 p2)) (dG N d sc (.Tuple ts kt pt)).2
def stepS (d : Den) (sc : Scope) (st : Stmt) : Fx Fl := match st with
  | .Pass _ => sSkip
  | .Break _ => sBreak
  | .Continue _ => sCont
  | .Return none _ => sRetN
  | .Return (some e) _ => sRet (d.R sc e)
  | .If c a b _ => sIf (d.T sc c) (dSs d sc a) (dSs d sc b)
  | .While c b [] _ => sWhile (d.T sc c) (dSs d sc b) wf
  | .For tg it b [] _ => if notSet it = true then sFor (dI T d sc tg it) (dG N d sc tg).2 (dSs d sc b) else sStuck
  | .Expr (.Constant (.str _) _ _) _ => sSkip
  | .Expr (.Call (.Attribute (.Name x _) m ap) [a] [] cp) _ => if m = ("append" : Str) ∧ (ap.endLine == cp.line) = true ∧ isStar a = false then (match slot N sc x with
    | some i => sApp i (d.E sc a)
    | none => sStuck) else sStuck
  | .Expr e _ => if noLc e = true then sExpr (d.R sc e) else sStuck
  | .Assign [.Name x px] e sp => (match nameIx N x with
    | some i => (match sc.names.lookup x with
      | some k => if k = .local ∨ k = .cell then (match e with
        | .ListComp elt gens scope lp => if k = .local ∧ (px.line == lp.line) = true ∧ (scope.names.any fun (n, k) => n == x && (k == .local || k == .cell)) = false then sSet i (if T.mats.contains x = true then dCompM T N d sc elt gens scope else dComp T N d sc elt gens scope) else if k = .cell ∧ T.mats.contains x = false then sSet i (dComp T N d sc elt gens scope) else sStuck
        | _ => if noLc e = true then sSet i (d.R sc e) else sStuck) else sStuck
      | none => sStuck)
    | none => sStuck)
  | .Assign [.Tuple [.Name x px, .Name y py] kt pt] (.Tuple [a, b] k2 p2) sp => (match locIx N sc x, locIx N sc y with
    | some i, some j => if i ≠ j ∧ swGood sc [.Name x px, .Name y py] [a, b] = true ∧ swNames sc [.Name x px, .Name y py] px.line = [x, y] then sPar [i, j] (dRs d sc [a, b]) else if swNone sc [.Name x px, .Name y py] [a, b] = true then dTupA N d sc [.Name x px, .Name y py] [a, b] kt pt k2 p2 else sStuck
    | _, _ => if swNone sc [.Name x px, .Name y py] [a, b] = true then dTupA N d sc [.Name x px, .Name y py] [a, b] kt pt k2 p2 else sStuck)
  | .Assign [.Tuple [.Name x px, .Name y py, .Name z pz] kt pt] (.Tuple [a, b, c] k2 p2) sp => (match locIx N sc x, locIx N sc y, locIx N sc z with
    | some i, some j, some l => if i ≠ j ∧ i ≠ l ∧ j ≠ l ∧ swGood sc [.Name x px, .Name y py, .Name z pz] [a, b, c] = true ∧ swNames sc [.Name x px, .Name y py, .Name z pz] px.line = [x, y, z] then sPar [i, j, l] (dRs d sc [a, b, c]) else if swNone sc [.Name x px, .Name y py, .Name z pz] [a, b, c] = true then dTupA N d sc [.Name x px, .Name y py, .Name z pz] [a, b, c] kt pt k2 p2 else sStuck
    | _, _, _ => if swNone sc [.Name x px, .Name y py, .Name z pz] [a, b, c] = true then dTupA N d sc [.Name x px, .Name y py, .Name z pz] [a, b, c] kt pt k2 p2 else sStuck)
  | .Assign [.Subscript (.Subscript (.Name x px) a p1) b p2] e sp => if (T.mats.contains x && plIx a && plIx b && noLc e) = true then (match slot N sc x with
    | some i => sAsg (d.E sc e) (gIx2 i (d.E sc a) (d.E sc b))
    | none => sStuck) else sStuck
  | .Assign [tg] e _ => if tupSafe tg e = true ∧ noLc e = true then sAsg (d.E sc e) (dG N d sc tg).2 else
      (match tg, e with
      | .Tuple ts kt pt, .Tuple vs k2 p2 => if swNone sc ts vs = true then dTupA N d sc ts vs kt pt k2 p2 else sStuck
      | _, _ => sStuck)
  | _ => sStuck
def den : Nat → Den
  | 0 => ⟨fun _ _ => stuck, fun _ _ => stuck, fun _ _ => stuck, fun _ _ => stuck⟩
  | n + 1 => ⟨stepE T N (den n), stepR T N C (den n), stepT T N (den n), stepS T N wf (den n)⟩
end
end Ev
namespace Ev
open PySem PySem.Spec PyProof.Rows L2
theorem e_stuck {X : Cx} {e : Expr} : PE X e (tE X.K stuck) := ⟨fun _ _ _ _ _ _ ⟨_, _, _, _, _, _, _, e, _⟩ => nomatch e⟩
theorem r_stuck {X : Cx} {e : Expr} : PE X e (tR X.K stuck) := ⟨fun _ _ _ _ _ _ ⟨_, _, _, _, _, _, _, e, _⟩ => nomatch e⟩
theorem t_stuck {X : Cx} {e : Expr} : PT X e (tT X.K stuck) := ⟨fun _ _ _ _ _ _ ⟨_, _, _, _, _, _, _, e, _⟩ => nomatch e⟩
theorem w_stuck {X : Cx} {e : Expr} : PW X e (tT X.K stuck) := ⟨fun _ _ _ _ _ _ _ ⟨_, _, _, _, _, _, _, e, _⟩ => nomatch e⟩
theorem a_stuck {X : Cx} {e : List Expr} : PA X e (tAa X.K stuck) := ⟨fun _ _ _ _ _ _ _ ⟨_, _, _, _, _, _, _, e, _⟩ => nomatch e⟩
theorem d_stuck {X : Cx} {e : List Expr} : PA X e (tAd X.K stuck) := ⟨fun _ _ _ _ _ _ _ ⟨_, _, _, _, _, _, _, e, _⟩ => nomatch e⟩
theorem i_stuck {X : Cx} {tg e : Expr} : PI X tg e (tI X.K stuck) := ⟨fun _ _ _ _ _ _ ⟨_, _, _, _, _, _, _, e, _⟩ => nomatch e⟩
theorem g_stuck {X : Cx} {e : Expr} {sl : List Nat} : PG X e (tG X.K sl fun _ _ => none) := ⟨fun _ _ _ _ _ _ _ _ _ ⟨_, _, _, _, _, _, _, _, e, _⟩ => nomatch e⟩
theorem gs_stuck {X : Cx} {e : List Expr} {sl : List Nat} : PGs X e (tGs X.K sl fun _ _ => none) := ⟨fun _ _ _ _ _ _ _ _ _ ⟨_, _, _, _, _, _, _, _, e, _⟩ => nomatch e⟩
theorem nameIx_get : ∀ {N : List Str} {x : Str} {i : Nat}, nameIx N x = some i → N[i]? = some x
  | [], _, _, h => by cases h
  | y :: ys, x, i, h => by
    unfold nameIx at h
    by_cases q : y = x
    · rw [if_pos q] at h; cases h; rw [q]; rfl
    · rw [if_neg q] at h
      cases e : nameIx ys x with
      | none => rw [e] at h; cases h
      | some j =>
        rw [e] at h; cases h
        rw [List.getElem?_cons_succ]
        exact nameIx_get e
theorem okNm_deb {x : Str} (h : okNm x = true) : (x == ("__debug__" : Str)) = false ∧ (x == ("__classdict__" : Str)) = false ∧ x ≠ "__name__" := by
  unfold okNm at h
  simp only [Bool.and_eq_true, Bool.not_eq_true'] at h
  exact ⟨h.1.1, h.1.2, by
    have := h.2
    intro z
    rw [z] at this
    simp at this⟩
section
variable {T : Tab} {N : List Str} {C : Nat → Fn} {wf : Nat} {X : Cx}
theorem slot_ok (ok : XOk T N C X) {x : Str} {i : Nat} (h : slot N X.env.scope x = some i) : X.N[i]? = some x ∧ Vis X.env.scope x := by
  unfold slot at h
  split at h
  · rename_i j hj
    have hn := nameIx_get hj
    rw [← ok.names] at hn
    split at h <;> first | (cases h; done) | (rename_i hk; cases h; exact ⟨hn, by first | exact .inl hk | exact .inr (.inl hk) | exact .inr (.inr hk)⟩)
  · cases h
theorem slot_pv (ok : XOk T N C X) {x : Str} {i : Nat} {pos : Pos} (h : slot N X.env.scope x = some i) : PE X (.Name x pos) (tVar i) := by
  obtain ⟨h1, h2⟩ := slot_ok ok h
  obtain ⟨d1, d2, _⟩ := okNm_deb (ok.nm x (List.mem_of_getElem? h1))
  exact pe_var h1 h2 d1 d2
theorem isGl_ok {x : Str} (h : isGl X.env.scope x = true) : Gl X x := by
  unfold isGl at h
  split at h
  · assumption
  · cases h
theorem dName_ok (ok : XOk T N C X) {x : Str} {pos : Pos} : PE X (.Name x pos) (tE X.K (dName T N X.env.scope x)) := by
  unfold dName
  split
  · rename_i i hi
    exact s_var (slot_pv ok hi)
  · split
    · rename_i hg
      split
      · rename_i v hv
        obtain ⟨hn, u, w, h1, h2, h3⟩ := ok.con x v hv
        exact s_const (pe_glob (isGl_ok hg) h1 h2 (okNm_deb hn).1) h3
      · exact e_stuck
    · exact e_stuck
theorem star_of {e : Expr} (h : isStar e = false) (es : List Expr) (env : Env) : starEach (e :: es) env = (false, eval e env) :: starEach es env := by
  cases e <;> first | rfl | (cases h)
theorem plIx_ok {b : Expr} (h : plIx b = true) : PlainIx b := by
  cases b <;> first | (cases h; done) | exact fun _ _ => rfl
theorem op_ok (ok : XOk T N C X) {op : Operator} {g : D → D → Option D} (h : opOf op = some g) : Op2 X (binaryOp op) g := by
  cases op <;> first | (cases h; done) | (cases h; first | exact o_add | exact o_sub | exact o_mul | exact o_fdiv | exact o_mod | exact o_pow | exact o_shl)
theorem cmp_ok (ok : XOk T N C X) (op : CmpOp) : Op2 X (compareOp op) (cmpOf op) := by
  cases op <;> first | exact o_eq ok.units | exact o_ne ok.units | exact o_lt | exact o_le | exact o_gt | exact o_ge | exact o_is | exact o_isnot | exact o_in ok.units | exact o_notin ok.units
structure Good (T : Tab) (N : List Str) (C : Nat → Fn) (d : Den) : Prop where
  gE : ∀ X, XOk T N C X → ∀ e, PE X e (tE X.K (d.E X.env.scope e))
  gR : ∀ X, XOk T N C X → ∀ e, PE X e (tR X.K (d.R X.env.scope e))
  gT : ∀ X, XOk T N C X → ∀ e, PT X e (tT X.K (d.T X.env.scope e))
  gS : ∀ X, XOk T N C X → (∀ x, X.fn x = true) → ∀ st, PS X st (tS X.K (d.S X.env.scope st))
variable {d : Den}
theorem bf {b : Bool} (h : ¬ b = true) : b = false := Bool.eq_false_iff.mpr h
theorem dD_ok (G : Good T N C d) (ok : XOk T N C X) : ∀ es : List Expr, PA X es (tAd X.K (dD d X.env.scope es))
  | [] => s_dNil
  | e :: es => by
    unfold dD
    split
    · exact d_stuck
    · rename_i h
      exact s_dCons (G.gE X ok e) (dD_ok G ok es) (star_of (bf h) es _)
theorem dDs_ok (G : Good T N C d) (ok : XOk T N C X) : ∀ es : List Expr, PA X es (tAd X.K (dDs d X.env.scope es))
  | [] => s_dNil
  | e :: es => by
    have ih := dDs_ok G ok es
    cases e <;> first
      | exact s_dStar (G.gE X ok _) ih
      | exact s_dCons (G.gE X ok _) ih rfl
theorem dRs_ok (G : Good T N C d) (ok : XOk T N C X) : ∀ es : List Expr, PA X es (tAa X.K (dRs d X.env.scope es))
  | [] => s_aNil
  | e :: es => by
    unfold dRs
    split
    · exact a_stuck
    · rename_i h
      exact s_aR (G.gR X ok e) (dRs_ok G ok es) (star_of (bf h) es _)
theorem dA1_ok (G : Good T N C d) (ok : XOk T N C X) {e : Expr} {es : List Expr} {g : Fx (List AR)} (h : PA X es (tAa X.K g)) : PA X (e :: es) (tAa X.K (dA1 N d X.env.scope e g)) := by
  unfold dA1
  split
  · split
    · rename_i i hi
      exact s_aSlot (slot_pv ok hi) h rfl
    · exact a_stuck
  · split
    · exact a_stuck
    · rename_i hs
      exact s_aTmp (G.gR X ok _) h (star_of (bf hs) _ _)
theorem dA_ok (G : Good T N C d) (ok : XOk T N C X) : ∀ (fl : List Bool) (es : List Expr), PA X es (tAa X.K (dA N d X.env.scope fl es))
  | fl, [] => by
    unfold dA
    split
    · exact s_aNil
    · exact a_stuck
  | fl, e :: es => by
    unfold dA
    split
    · exact a_stuck
    · rename_i b fl
      split
      · exact dA1_ok G ok (dA_ok G ok fl es)
      · split
        · exact a_stuck
        · rename_i h
          exact s_aVal (G.gE X ok e) (dA_ok G ok fl es) (star_of (bf h) es _)
theorem dA1_cases (d : Den) (sc : Scope) (e : Expr) (g : Fx (List AR)) : dA1 N d sc e g = stuck ∨ (∃ i, dA1 N d sc e g = aSlot i g) ∨ ∃ f, dA1 N d sc e g = aTmp f g := by
  cases e with
  | Name x p =>
    show (match slot N sc x with | some i => aSlot i g | none => stuck) = stuck ∨ (∃ i, (match slot N sc x with | some i => aSlot i g | none => stuck) = aSlot i g) ∨ ∃ f, (match slot N sc x with | some i => aSlot i g | none => stuck) = aTmp f g
    cases slot N sc x with
    | none => exact .inl rfl
    | some i => exact .inr (.inl ⟨i, rfl⟩)
  | Starred a p => exact .inl rfl
  | _ => exact .inr (.inr ⟨_, rfl⟩)
theorem dA_len : ∀ (d : Den) (sc : Scope) (fl : List Bool) (es : List Expr) (env env' : En) (as : List AR), dA N d sc fl es env = some (as, env') → as.length = es.length := by
  intro d sc fl es
  induction es generalizing fl with
  | nil =>
    intro env env' as h
    cases fl with
    | nil => cases h; rfl
    | cons b fl => cases h
  | cons e es ih =>
    intro env env' as h
    cases fl with
    | nil => cases h
    | cons b fl =>
      have v1 : ∀ (f : Fx D), aVal f (dA N d sc fl es) env = some (as, env') → as.length = (e :: es).length := fun f h => by
        unfold aVal at h
        cases e1 : f env with
        | none => rw [e1] at h; cases h
        | some p =>
          rw [e1, Option.bind_some] at h
          cases e2 : dA N d sc fl es p.2 with
          | none => rw [e2] at h; cases h
          | some q => rw [e2] at h; cases h; exact congrArg Nat.succ (ih fl _ _ _ e2)
      have v2 : ∀ i, aSlot i (dA N d sc fl es) env = some (as, env') → as.length = (e :: es).length := fun i h => by
        unfold aSlot at h
        split at h
        · cases e2 : dA N d sc fl es env with
          | none => rw [e2] at h; cases h
          | some q => rw [e2] at h; cases h; exact congrArg Nat.succ (ih fl _ _ _ e2)
        · split at h
          · cases e2 : dA N d sc fl es env with
            | none => rw [e2] at h; cases h
            | some q => rw [e2] at h; cases h; exact congrArg Nat.succ (ih fl _ _ _ e2)
          · cases h
        · cases h
      have v3 : ∀ (f : Fx R), aTmp f (dA N d sc fl es) env = some (as, env') → as.length = (e :: es).length := fun f h => by
        unfold aTmp at h
        split at h
        · rename_i ds e1 _
          cases e2 : dA N d sc fl es e1 with
          | none => rw [e2] at h; cases h
          | some q => rw [e2] at h; cases h; exact congrArg Nat.succ (ih fl _ _ _ e2)
        · cases h
      unfold dA at h
      dsimp only at h
      split at h
      · rcases dA1_cases (N := N) d sc e (dA N d sc fl es) with z | ⟨i, z⟩ | ⟨f, z⟩
        · rw [z] at h; cases h
        · rw [z] at h; exact v2 _ h
        · rw [z] at h; exact v3 _ h
      · split at h
        · cases h
        · exact v1 _ h
theorem dD_len : ∀ (d : Den) (sc : Scope) (es : List Expr) (env env' : En) (as : List D), dD d sc es env = some (as, env') → as.length = es.length := by
  intro d sc es
  induction es with
  | nil => intro env env' as h; cases h; rfl
  | cons e es ih =>
    intro env env' as h
    unfold dD at h
    split at h
    · cases h
    · unfold dCons at h
      cases e1 : d.E sc e env with
      | none => rw [e1] at h; cases h
      | some p =>
        rw [e1, Option.bind_some] at h
        cases e2 : dD d sc es p.2 with
        | none => rw [e2] at h; cases h
        | some q => rw [e2] at h; cases h; exact congrArg Nat.succ (ih _ _ _ e2)
theorem dAndT_ok (G : Good T N C d) (ok : XOk T N C X) {pos : Pos} : ∀ es : List Expr, PW X (.BoolOp .And es pos) (tT X.K (dAndT d X.env.scope es))
  | [] => w_stuck
  | [a] => s_and1 (G.gT X ok a)
  | a :: b :: r => s_andT (G.gT X ok a) (dAndT_ok G ok (b :: r))
theorem dOrT_ok (G : Good T N C d) (ok : XOk T N C X) {pos : Pos} : ∀ es : List Expr, PW X (.BoolOp .Or es pos) (tT X.K (dOrT d X.env.scope es))
  | [] => w_stuck
  | [a] => s_or1 (G.gT X ok a)
  | a :: b :: r => s_orT (G.gT X ok a) (dOrT_ok G ok (b :: r))
theorem dAnd_ok (G : Good T N C d) (ok : XOk T N C X) {pos : Pos} : ∀ es : List Expr, PE X (.BoolOp .And es pos) (tE X.K (dAnd d X.env.scope es))
  | [] => e_stuck
  | [a] => pe_one (G.gE X ok a)
  | a :: b :: r => s_and (G.gE X ok a) (dAnd_ok G ok (b :: r))
theorem dOr_ok (G : Good T N C d) (ok : XOk T N C X) {pos : Pos} : ∀ es : List Expr, PE X (.BoolOp .Or es pos) (tE X.K (dOr d X.env.scope es))
  | [] => e_stuck
  | [a] => pe_one (G.gE X ok a)
  | a :: b :: r => s_or (G.gE X ok a) (dOr_ok G ok (b :: r))
theorem blt_ok (ok : XOk T N C X) {x : Str} {b : Blt} (h : T.blts.lookup x = some b) : x = (b.name : Str) ∧ X.mg x = none := ok.blt x b h
theorem dRange_ok (G : Good T N C d) (ok : XOk T N C X) {tg : Expr} {args : List Expr} {p pos : Pos} (hg : Gl X "range") (hm : X.mg "range" = none) : PI X tg (.Call (.Name "range" p) args [] pos) (tI X.K (dRange d X.env.scope args)) := by
  match args with
  | [] => exact i_stuck
  | [a] =>
    show PI X tg _ (tI X.K (if isStar a = true then stuck else iRange1 (d.E X.env.scope a)))
    split
    · exact i_stuck
    · rename_i hs
      exact s_range1 (G.gE X ok _) hg hm (star_of (bf hs) [] _)
  | [a, b] =>
    show PI X tg _ (tI X.K (if isStar a = true ∨ isStar b = true then stuck else iRange2 (d.E X.env.scope a) (d.E X.env.scope b)))
    split
    · exact i_stuck
    · rename_i hs
      rw [not_or] at hs
      exact s_range2 (G.gE X ok _) (G.gE X ok _) hg hm (by rw [star_of (bf hs.1), star_of (bf hs.2)]; rfl) (star_of (bf hs.2) [] _)
  | [a, b, c] =>
    show PI X tg _ (tI X.K (if isStar a = true ∨ isStar b = true ∨ isStar c = true then stuck else iRange3 (d.E X.env.scope a) (d.E X.env.scope b) (d.E X.env.scope c)))
    split
    · exact i_stuck
    · rename_i hs
      rw [not_or, not_or] at hs
      exact s_range3 (G.gE X ok _) (G.gE X ok _) (G.gE X ok _) hg hm (star_of (bf hs.1) _ _) (star_of (bf hs.2.1) _ _) (star_of (bf hs.2.2) _ _)
  | _ :: _ :: _ :: _ :: _ => exact i_stuck
theorem dEnum_ok (G : Good T N C d) (ok : XOk T N C X) {tg : Expr} {args : List Expr} {p pos : Pos} (hg : Gl X "enumerate") (hm : X.mg "enumerate" = none) : PI X tg (.Call (.Name "enumerate" p) args [] pos) (tI X.K (dEnum d X.env.scope tg args)) := by
  unfold dEnum
  split
  · rename_i ht
    cases tg <;> (try (cases ht; done))
    match args with
    | [] => exact i_stuck
    | [a] =>
      show PI X _ _ (tI X.K (if isStar a = true then stuck else iEnum (d.E X.env.scope a)))
      split
      · exact i_stuck
      · rename_i hs
        exact s_enum (G.gE X ok _) hg hm (star_of (bf hs) [] _)
    | _ :: _ :: _ => exact i_stuck
  · exact i_stuck
theorem dZip_ok (G : Good T N C d) (ok : XOk T N C X) {tg : Expr} {args : List Expr} {p pos : Pos} (hg : Gl X "zip") (hm : X.mg "zip" = none) : PI X tg (.Call (.Name "zip" p) args [] pos) (tI X.K (dZip d X.env.scope tg args)) := by
  unfold dZip
  split
  · rename_i ht
    cases tg <;> (try (cases ht; done))
    match args with
    | [] => exact i_stuck
    | [_] => exact i_stuck
    | [a, b] =>
      show PI X _ _ (tI X.K (if isStar a = true ∨ isStar b = true then stuck else iZip (dD d X.env.scope [a, b])))
      split
      · exact i_stuck
      · rename_i hs
        rw [not_or] at hs
        exact s_zip (dD_ok G ok [_, _]) hg hm (star_of (bf hs.1) [_] _) (by rw [star_of (bf hs.2)]; rfl)
    | _ :: _ :: _ :: _ => exact i_stuck
  · exact i_stuck
theorem dI_ok (G : Good T N C d) (ok : XOk T N C X) (tg e : Expr) : PI X tg e (tI X.K (dI T d X.env.scope tg e)) := by
  unfold dI
  split
  · rename_i x p args pos
    split
    · rename_i hg
      split
      · rename_i hb
        obtain ⟨hx, hm⟩ := blt_ok ok hb
        subst hx
        exact dRange_ok G ok (isGl_ok hg) hm
      · rename_i hb
        obtain ⟨hx, hm⟩ := blt_ok ok hb
        subst hx
        exact dZip_ok G ok (isGl_ok hg) hm
      · rename_i hb
        obtain ⟨hx, hm⟩ := blt_ok ok hb
        subst hx
        exact dEnum_ok G ok (isGl_ok hg) hm
      · exact s_iSeq (G.gE X ok _)
    · exact i_stuck
  · exact i_stuck
  · exact s_iSeq (G.gE X ok _)
/-- the names of the slots S may be stored -/
def Sto (N : List Str) (X : Cx) (S : List Nat) : Prop := ∀ x i, nameIx N x = some i → i ∈ S → Loc X.env.scope x → X.fn x = true ∨ X.env.scope.names.lookup x = some .local
theorem slot_ix {sc : Scope} {x : Str} {i : Nat} (h : slot N sc x = some i) : nameIx N x = some i := by
  unfold slot at h
  split at h
  · rename_i j hj
    split at h <;> first | (cases h; done) | (cases h; exact hj)
  · cases h
theorem dG0_ok (G : Good T N C d) (ok : XOk T N C X) {S : List Nat} (hfn : Sto N X S) (e : Expr) (hS : ∀ i ∈ (dG0 N d X.env.scope e).1, i ∈ S) : PG X e (tG X.K (dG0 N d X.env.scope e).1 (dG0 N d X.env.scope e).2) := by
  unfold dG0 at hS ⊢
  split
  · rename_i x p
    cases hs : slot N X.env.scope x with
    | none => exact g_stuck
    | some i =>
      obtain ⟨h1, h2⟩ := slot_ok ok hs
      simp only [hs] at hS
      dsimp only
      split
      · exact g_stuck
      · rename_i hnf
        have hl : Loc X.env.scope x := by
          rcases h2 with h | h | h
          · exact .inl h
          · exact .inr h
          · exact absurd h hnf
        have hi : i ∈ S := by
          apply hS
          split
          · rename_i z; exact absurd z hnf
          · simp
        exact s_gn (pg_name ok.nd h1 hl (hfn x i (slot_ix hs) hi hl))
  · rename_i x np ie pos
    cases hs : slot N X.env.scope x with
    | none => exact g_stuck
    | some i =>
      dsimp only
      split
      · rename_i hp
        exact s_gIx (slot_pv ok hs) (G.gE X ok _) (fun _ => by cases ie <;> first | rfl | (cases hp))
      · exact g_stuck
  · exact g_stuck
theorem dGs_ok {g : Expr → List Nat × Gf} {S : List Nat} (hg : ∀ e, (∀ i ∈ (g e).1, i ∈ S) → PG X e (tG X.K (g e).1 (g e).2)) : ∀ es : List Expr, (∀ i ∈ (dGs g es).1, i ∈ S) → PGs X es (tGs X.K (dGs g es).1 (dGs g es).2)
  | [], _ => s_gsNil
  | e :: es, hS => by
    unfold dGs at hS ⊢
    split
    · exact gs_stuck
    · rename_i h
      rw [if_neg h] at hS
      exact s_gsCons (hg e fun i hi => hS i (List.mem_append_left _ hi)) (dGs_ok hg es fun i hi => hS i (List.mem_append_right _ hi)) (by cases e <;> first | rfl | exact absurd rfl h)
theorem each_len : ∀ (es : List Expr) (env : Env), (assignEach es env).length = es.length
  | [], _ => rfl
  | e :: es, env => by
    have ih := each_len es env
    cases e <;> exact congrArg Nat.succ ih
theorem each_star {g : Expr → List Nat × Gf} : ∀ (es : List Expr) (env : Env), (es.any isStar) = false → (assignEach es env).findIdx? (·.1) = none
  | [], _, _ => rfl
  | e :: es, env, h => by
    rw [List.any_cons, Bool.or_eq_false_iff] at h
    have ih := each_star (g := g) es env h.2
    have : assignEach (e :: es) env = (false, assign e env) :: assignEach es env := by
      cases e <;> first | rfl | (cases h.1)
    rw [this, List.findIdx?_cons, ih]
    rfl
theorem dGs_star {g : Expr → List Nat × Gf} : ∀ (es : List Expr), (es.any isStar) = true → ∀ ds env, ds.length = es.length → (dGs g es).2 ds env = none
  | [], h, _, _, _ => by cases h
  | e :: es, h, ds, env, hl => by
    unfold dGs
    split
    · rfl
    · rename_i hs
      rw [List.any_cons, bf hs, Bool.false_or] at h
      cases ds with
      | nil => cases hl
      | cons d ds =>
        show ((g e).2 d env).bind ((dGs g es).2 ds) = none
        cases (g e).2 d env with
        | none => rfl
        | some e1 => exact dGs_star es h ds e1 (Nat.succ.inj hl)
theorem gtup_ok {g : Expr → List Nat × Gf} {S : List Nat} (ok : XOk T N C X) (hg : ∀ e, (∀ i ∈ (g e).1, i ∈ S) → PG X e (tG X.K (g e).1 (g e).2)) {es : List Expr} {k : Nat} {pos : Pos} (hS : ∀ i ∈ (dGs g es).1, i ∈ S) : PG X (.Tuple es k pos) (tG X.K (dGs g es).1 (gTup es.length (dGs g es).2)) := by
  cases h : es.any isStar with
  | false => exact s_gTup ok.calm (dGs_ok hg es hS) (each_len es _) (each_star (g := g) es _ h)
  | true =>
    refine ⟨fun pins s σ H v u Q I r ⟨F, pa, Z, env, d, env', W, q, e, k⟩ => ?_⟩
    exfalso
    unfold gTup at e
    split at e
    · split at e
      · rename_i hl
        rw [dGs_star es h _ _ hl] at e; cases e
      · cases e
    · cases e
theorem dG1_ok (G : Good T N C d) (ok : XOk T N C X) {S : List Nat} (hfn : Sto N X S) (e : Expr) (hS : ∀ i ∈ (dG1 N d X.env.scope e).1, i ∈ S) : PG X e (tG X.K (dG1 N d X.env.scope e).1 (dG1 N d X.env.scope e).2) := by
  cases e <;> first | exact gtup_ok ok (dG0_ok G ok hfn) hS | exact dG0_ok G ok hfn _ hS
theorem dG_ok (G : Good T N C d) (ok : XOk T N C X) {S : List Nat} (hfn : Sto N X S) (e : Expr) (hS : ∀ i ∈ (dG N d X.env.scope e).1, i ∈ S) : PG X e (tG X.K (dG N d X.env.scope e).1 (dG N d X.env.scope e).2) := by
  cases e <;> first | exact gtup_ok ok (dG1_ok G ok hfn) hS | exact dG0_ok G ok hfn _ hS
/-- the context of a comprehension's block -/
theorem XOk.blk (ok : XOk T N C X) {s : Shared} {H : Hp} {scope : Scope} {cl : List (Str × Addr)} {Cc : Addr} {fp : List Addr} (hk : scope.kind = .function) : XOk T N C (X.blk s H scope (compEnvC scope cl Cc X.env) fp) :=
  ⟨ok.names, ok.nd, ok.nm, ok.calm, hk, ok.units, ok.grd, rfl, ok.fn, ok.kw, ok.kf, ok.con, ok.blt, ok.mod⟩
theorem subB_ok {a b : List Nat} (h : subB a b = true) : ∀ i ∈ a, i ∈ b := fun i hi => by
  have := List.all_eq_true.mp h i hi
  simpa using this
theorem blk_sto (ok : XOk T N C X) {s : Shared} {H : Hp} {scope : Scope} {cl : List (Str × Addr)} {Cc : Addr} {fp : List Addr} (hu : ∀ y ∈ scope.names, scope.names.lookup y.1 = some y.2) : Sto N (X.blk s H scope (compEnvC scope cl Cc X.env) fp) ((ownOf N scope).map (·.2)) := by
  intro x i hx hi _
  obtain ⟨q, hq, e⟩ := List.mem_map.mp hi
  unfold ownOf at hq
  obtain ⟨y, hy, ey⟩ := List.mem_filterMap.mp hq
  have key : (nameIx N y.1).map (fun i => (y.1, i)) = some q → y.1 = x := fun h => by
    cases e1 : nameIx N y.1 with
    | none => rw [e1] at h; cases h
    | some j =>
      rw [e1] at h; cases h
      have a1 := nameIx_get e1
      have a2 := nameIx_get hx
      have e' : j = i := e
      subst e'
      rw [a1] at a2
      exact Option.some.inj a2
  have lk := hu y hy
  split at ey
  · rename_i hk
    have := key ey
    subst this
    rw [hk] at lk
    right
    exact lookup_relS_keep (sc := X.env.scope) (by decide) lk
  · rename_i hk
    have := key ey
    subst this
    rw [hk] at lk
    left
    show (scope.names.lookup y.1 == some .cell) = true
    rw [lk]; rfl
  · cases ey
theorem dIfs_ok (G : Good T N C d) (ok : XOk T N C X) : ∀ ifs : List Expr, PTs X ifs (tT X.K (dIfs d X.env.scope ifs))
  | [] => by
    refine ⟨fun pins s σ H Q I ⟨F, pa, Z, env, b, env', W, e, k⟩ => ?_⟩
    cases e
    exact pts_nil.run pins s σ H Q I (k Z H (.refl ..) W)
  | [c] => pts_one (G.gT X ok c)
  | _ :: _ :: _ => ⟨fun _ _ _ _ _ _ ⟨_, _, _, _, _, _, _, e, _⟩ => nomatch e⟩
theorem folded_ok {e : Expr} (h : notSet e = true) (env : Env) : ∀ x, foldedSetIterable e env x = pure x := by
  cases e <;> first | exact fun _ => rfl | (cases h)
theorem dComp_ok (G : Good T N C d) (ok : XOk T N C X) (elt : Expr) (gens : List Comprehension) (scope : Scope) (pos : Pos) : PE X (.ListComp elt gens scope pos) (tR X.K (dComp T N d X.env.scope elt gens scope)) := by
  unfold dComp
  split
  · rename_i tg iter ifs
    split
    · rename_i h
      obtain ⟨h1, h2, h3⟩ := h
      rw [← ok.names] at h2
      have bo := blkOk_by h2
      rw [ok.names] at bo
      have bo' : BlkOk X.N X.env.scope scope (ownOf N scope) := by rw [ok.names]; exact bo
      refine s_comp ok.calm ok.nd (dI_ok G ok tg iter) bo' (subB_ok h3) (fun s H Cc cl fp => ?_) (fun s H Cc cl fp => ?_) (fun s H Cc cl fp => ?_) (folded_ok h1 _)
      · exact dG_ok G (ok.blk (s := s) (H := H) (cl := cl) (Cc := Cc) (fp := fp) bo.kind) (blk_sto ok bo.uniq) tg (subB_ok h3)
      · exact dIfs_ok G (ok.blk (s := s) (H := H) (cl := cl) (Cc := Cc) (fp := fp) bo.kind) ifs
      · exact G.gE _ (ok.blk (s := s) (H := H) (cl := cl) (Cc := Cc) (fp := fp) bo.kind) elt
    · exact r_stuck
  · rename_i tg iter ifs tg1 iter1 ifs1
    split
    · rename_i h
      obtain ⟨h1, h2, h3, h4, h5⟩ := h
      rw [← ok.names] at h2
      have bo := blkOk_by h2
      rw [ok.names] at bo
      have bo' : BlkOk X.N X.env.scope scope (ownOf N scope) := by rw [ok.names]; exact bo
      refine s_comp2 ok.calm ok.nd (dI_ok G ok tg iter) bo' (subB_ok h3) (fun _ h => h) (subB_ok h5) (fun s H Cc cl fp => ?_) (fun s H Cc cl fp => ?_) (fun s H Cc cl fp => ?_) (fun s H Cc cl fp => ?_) (fun s H Cc cl fp => ?_) (fun s H Cc cl fp => ?_) (folded_ok h1 _) (folded_ok h4)
      · exact dG_ok G (ok.blk (s := s) (H := H) (cl := cl) (Cc := Cc) (fp := fp) bo.kind) (blk_sto ok bo.uniq) tg (subB_ok h3)
      · exact dIfs_ok G (ok.blk (s := s) (H := H) (cl := cl) (Cc := Cc) (fp := fp) bo.kind) ifs
      · exact dI_ok G (ok.blk (s := s) (H := H) (cl := cl) (Cc := Cc) (fp := fp) bo.kind) tg1 iter1
      · exact dG_ok G (ok.blk (s := s) (H := H) (cl := cl) (Cc := Cc) (fp := fp) bo.kind) (blk_sto ok bo.uniq) tg1 (subB_ok h5)
      · exact dIfs_ok G (ok.blk (s := s) (H := H) (cl := cl) (Cc := Cc) (fp := fp) bo.kind) ifs1
      · exact G.gE _ (ok.blk (s := s) (H := H) (cl := cl) (Cc := Cc) (fp := fp) bo.kind) elt
    · exact r_stuck
  · exact r_stuck
end
end Ev
namespace Ev
open PySem PySem.Spec PyProof.Rows L2
/-! ## the steps are right -/
theorem PK.imp {X : Cx} {kws : List Keyword} {t t' : TA} (h : PK X kws t) (m : ∀ σ H Q, t' σ H Q → t σ H Q) : PK X kws t' := ⟨fun pos pins s σ H Q I q => h.run pos pins s σ H Q I (m σ H Q q)⟩
section
variable {T : Tab} {N : List Str} {C : Nat → Fn} {wf : Nat} {X : Cx} {d : Den}
theorem kw_all {kws : List Keyword} {ks : List Str} {pos : Pos} {env : Env} (h : kwNames kws = ks.map some) : (backToKw pos (keywordEach kws env)).all (·.1.isSome) = true ∧ (backToKw pos (keywordEach kws env)).filterMap (·.1) = ks ∧ (backToKw pos (keywordEach kws env)).any (·.1.isNone) = false := by
  induction kws generalizing ks with
  | nil =>
    cases ks with
    | nil => exact ⟨rfl, rfl, rfl⟩
    | cons => cases h
  | cons kw kws ih =>
    obtain ⟨n, v, kp⟩ := kw
    cases ks with
    | nil => cases h
    | cons k ks =>
      have h1 : n = some k := (List.cons.inj h).1
      have h2 : kwNames kws = ks.map some := (List.cons.inj h).2
      subst h1
      obtain ⟨a, b, c⟩ := ih h2
      refine ⟨?_, ?_, ?_⟩
      · show (true && (backToKw pos (keywordEach kws env)).all (·.1.isSome)) = true
        rw [a]; rfl
      · show k :: (backToKw pos (keywordEach kws env)).filterMap (·.1) = k :: ks
        rw [b]
      · show (false || (backToKw pos (keywordEach kws env)).any (·.1.isNone)) = false
        rw [c]; rfl
theorem dK_ok (G : Good T N C d) (ok : XOk T N C X) : ∀ kws : List Keyword, PK X kws (tAd X.K (dD d X.env.scope (kwVals kws)))
  | [] => by
    refine PK.imp pk_nil fun σ H Q ⟨F, pa, Z, env, ds, env', W, h, k⟩ => ?_
    cases h
    exact k [] Z H (.refl ..) W .nil
  | ⟨n, v, kp⟩ :: kws => by
    show PK X _ (tAd X.K (if isStar v = true then stuck else dCons (d.E X.env.scope v) (dD d X.env.scope (kwVals kws))))
    split
    · exact ⟨fun _ _ _ _ _ _ _ ⟨_, _, _, _, _, _, _, e, _⟩ => nomatch e⟩
    · refine PK.imp (pk_cons (G.gE X ok v) (dK_ok G ok kws)) fun σ H Q ⟨F, pa, Z, env, ds, env', W, h, k⟩ => ?_
      unfold dCons at h
      cases e1 : d.E X.env.scope v env with
      | none => rw [e1] at h; cases h
      | some p =>
        rw [e1, Option.bind_some] at h
        cases e2 : dD d X.env.scope (kwVals kws) p.2 with
        | none => rw [e2] at h; cases h
        | some q =>
          rw [e2] at h
          cases h
          exact ⟨F, pa, Z, env, p.1, p.2, W, e1, fun v Z1 H1 g1 W1 q1 => ⟨F, pa, Z1, p.2, q.1, q.2, W1, e2, fun vs Z2 H2 g2 W2 q2 => k (v :: vs) Z2 H2 (g1.trans g2) W2 (.cons (Dp.mono g2.zz _ _ q1) q2)⟩⟩
theorem no_star {d : Den} {sc : Scope} {pos : Pos} {env : Env} : ∀ {es : List Expr} {ev : En} {r : List D × En}, dD d sc es ev = some r → (backTo pos (starEach es env)).any (·.1) = false
  | [], _, _, _ => rfl
  | e :: es, ev, r, h => by
    unfold dD at h
    split at h
    · cases h
    · rename_i hs
      rw [star_of (bf hs)]
      unfold dCons at h
      cases e1 : d.E sc e ev with
      | none => rw [e1] at h; cases h
      | some p =>
        rw [e1, Option.bind_some] at h
        cases e2 : dD d sc es p.2 with
        | none => rw [e2] at h; cases h
        | some q =>
          show (false || (backTo pos (starEach es env)).any (·.1)) = false
          rw [no_star e2]; rfl
/-- a reading that holds only where the evaluation goes on -/
theorem PE.when {e : Expr} {f : Fx R} {P : Prop} (h : P → PE X e (tR X.K f)) (w : ∀ env r, f env = some r → P) : PE X e (tR X.K f) :=
  ⟨fun pins s σ H Q I q => by
    obtain ⟨F, pa, Z, env, r, env', W, e, k⟩ := id q
    exact (h (w _ _ e)).run pins s σ H Q I q⟩
theorem PE.whenE {e : Expr} {f : Fx D} {P : Prop} (h : P → PE X e (tE X.K f)) (w : ∀ env r, f env = some r → P) : PE X e (tE X.K f) :=
  ⟨fun pins s σ H Q I q => by
    obtain ⟨F, pa, Z, env, r, env', W, e, k⟩ := id q
    exact (h (w _ _ e)).run pins s σ H Q I q⟩
theorem stars_of : ∀ {es : List Expr} {env : Env} {pos : Pos}, (backTo pos (starEach es env)).any (·.1) = false → ∀ e r, es = e :: r → starEach (e :: r) env = (false, eval e env) :: starEach r env ∧ (backTo pos (starEach r env)).any (·.1) = false := by
    intro es env pos h e r he
    subst he
    cases hs : isStar e with
    | true =>
      cases e <;> (try (cases hs; done))
      have : ((true : Bool) || (backTo pos (starEach r env)).any (·.1)) = false := h
      cases this
    | false =>
      rw [star_of hs] at h
      have h' : ((false : Bool) || (backTo pos (starEach r env)).any (·.1)) = false := h
      exact ⟨star_of hs r env, by simpa using h'⟩
theorem findKw_ok {x : Str} {n : Nat} {kn : List (Option Str)} {ks : List Str} {perm : List Nat} (h : findKw T x n kn = some (ks, perm)) : (x, n, ks, perm) ∈ T.kws ∧ kn = ks.map some := by
  unfold findKw at h
  split at h
  · rename_i q hq
    have h1 := List.find?_some hq
    have h2 := List.mem_of_find?_eq_some hq
    simp only [Bool.and_eq_true, decide_eq_true_eq] at h1
    obtain ⟨a, b, c⟩ := h1
    obtain ⟨q1, q2, q3, q4⟩ := q
    cases h
    cases a; cases b
    exact ⟨h2, c.symm⟩
  · cases h
theorem dA_star {d : Den} {pos : Pos} : ∀ (fl : List Bool) (es : List Expr) (env : En) (r : List AR × En), dA N d X.env.scope fl es env = some r → (backTo pos (starEach es X.env)).any (·.1) = false := by
  intro fl es
  induction es generalizing fl with
  | nil => intro _ _ _; rfl
  | cons e es ih =>
    intro env r h
    cases fl with
    | nil => cases h
    | cons b fl =>
      cases hs : isStar e with
      | true =>
        exfalso
        cases e <;> (try (cases hs; done))
        cases b <;> cases h
      | false =>
        rw [star_of hs]
        show (false || (backTo pos (starEach es X.env)).any (·.1)) = false
        rw [Bool.false_or]
        unfold dA at h
        dsimp only at h
        split at h
        · rcases dA1_cases (N := N) d X.env.scope e (dA N d X.env.scope fl es) with z | ⟨i, z⟩ | ⟨f, z⟩
          · rw [z] at h; cases h
          · rw [z] at h
            unfold aSlot at h
            split at h
            · cases e2 : dA N d X.env.scope fl es env with
              | none => rw [e2] at h; cases h
              | some q => exact ih fl _ _ e2
            · split at h
              · cases e2 : dA N d X.env.scope fl es env with
                | none => rw [e2] at h; cases h
                | some q => exact ih fl _ _ e2
              · cases h
            · cases h
          · rw [z] at h
            unfold aTmp at h
            split at h
            · rename_i ds e1 _
              cases e2 : dA N d X.env.scope fl es e1 with
              | none => rw [e2] at h; cases h
              | some q => exact ih fl _ _ e2
            · cases h
        · rw [if_neg (by rw [hs]; exact Bool.false_ne_true)] at h
          unfold aVal at h
          cases e1 : d.E X.env.scope e env with
          | none => rw [e1] at h; cases h
          | some p =>
            rw [e1, Option.bind_some] at h
            cases e2 : dA N d X.env.scope fl es p.2 with
            | none => rw [e2] at h; cases h
            | some q => exact ih fl _ _ e2
theorem dCall_ok (G : Good T N C d) (ok : XOk T N C X) {x : Str} {p pos : Pos} {args : List Expr} {kws : List Keyword} {f : Fx R} (hg : Gl X x) (h : dCall T N C d X.env.scope x args kws = some f) : PE X (.Call (.Name x p) args kws pos) (tR X.K f) := by
  unfold dCall at h
  split at h
  · rename_i i fl hf
    obtain ⟨hn, ff, fd, ps, k, h1, h2, h3, h4, h5⟩ := ok.fn x i fl hf
    have hdb := (okNm_deb hn).1
    cases kws with
    | nil =>
      dsimp only at h
      cases h
      split
      · rename_i hl
        split
        · -- lists lent
          have lz : (List.zipWith (fun b e => b || isBor T e) fl args).length = fl.length := by rw [List.length_zipWith, hl, Nat.min_self]
          cases args with
          | nil =>
            refine PE.imp (g_call0 h4 ok.grd h5 hg h1 h2 h3 pass0 hdb) fun σ H Q q => ?_
            have q2 := tCallB_of (E := E0) (np := fl.length) (fun env as env' e => by rw [dA_len d _ _ _ _ _ _ e]; exact hl) q
            obtain ⟨F, pa, Z, env, as, env', W, e, kk⟩ := q2
            cases fl with
            | nil => cases e; exact kk [] Z H (.refl ..) W .nil
            | cons => cases hl
          | cons e es =>
            refine PE.when (P := (backTo pos (starEach (e :: es) X.env)).any (·.1) = false) (fun hst => ?_) ?_
            · obtain ⟨s1, s2⟩ := stars_of hst e es rfl
              refine PE.imp (g_call h4 ok.grd h5 hg h1 h2 h3 pass0 (dA_ok G ok (List.zipWith (fun b e => b || isBor T e) fl (e :: es)) (e :: es)) hdb s1 s2) fun σ H Q q => ?_
              exact tCallB_of (fun env as env' e => by rw [dA_len d _ _ _ _ _ _ e]; exact hl) q
            · intro env r hr
              unfold eCallB at hr
              split at hr
              · rename_i as env1 ea
                exact dA_star _ _ _ _ ea
              · cases hr
        cases args with
        | nil =>
          refine PE.imp (g_call0 h4 ok.grd h5 hg h1 h2 h3 pass0 hdb) fun σ H Q q => ?_
          have q2 := tCall_of (E := E0) (np := fl.length) (fun env as env' e => by rw [dA_len d _ _ _ _ _ _ e]; exact hl) q
          obtain ⟨F, pa, Z, env, as, env', W, e, kk⟩ := q2
          cases fl with
          | nil => cases e; exact kk [] Z H (.refl ..) W .nil
          | cons => cases hl
        | cons e es =>
          -- no star stands ahead
          refine PE.when (P := (backTo pos (starEach (e :: es) X.env)).any (·.1) = false) (fun hst => ?_) ?_
          · obtain ⟨s1, s2⟩ := stars_of hst e es rfl
            refine PE.imp (g_call h4 ok.grd h5 hg h1 h2 h3 pass0 (dA_ok G ok fl (e :: es)) hdb s1 s2) fun σ H Q q => ?_
            exact tCall_of (fun env as env' e => by rw [dA_len d _ _ _ _ _ _ e]; exact hl) q
          · intro env r hr
            unfold eCall at hr
            split at hr
            · rename_i as env1 ea
              exact dA_star _ _ _ _ ea
            · cases hr
      · exact r_stuck
    | cons kw kws =>
      dsimp only at h
      split at h
      · rename_i ks perm hk
        cases h
        obtain ⟨km, kn⟩ := findKw_ok hk
        obtain ⟨pl, pv, ff, fd, ps, k, h1, h2, h3, h4, h5⟩ := ok.kw x i fl _ ks perm hf km
        obtain ⟨a1, a2, a3⟩ := kw_all (pos := pos) (env := X.env) kn
        have kl : (kwVals (kw :: kws)).length = ks.length := by
          have := congrArg List.length kn
          simpa [kwNames, kwVals] using this
        have rd : ∀ {σ : L2.St} {H : Hp} {Q : VK}, tR X.K (eCallK (C i) args.length ks.length perm (dD d X.env.scope args) (dD d X.env.scope (kwVals (kw :: kws)))) σ H Q →
            tCallK (spF X.K fl.length (C i)) (pick args.length ks.length perm) E0 (tAd X.K (dD d X.env.scope args)) (tAd X.K (dD d X.env.scope (kwVals (kw :: kws)))) σ H Q := fun q =>
          tCallK_of pl pv q (fun env ds env' e => dD_len d _ _ _ _ _ e) fun env ds env' e => by rw [dD_len d _ _ _ _ _ e]; exact kl
        cases args with
        | nil =>
          refine PE.imp (g_callK0 h4 ok.grd h5 hg h1 h2 h3 pass0 (dK_ok G ok (kw :: kws)) a1 a2 hdb (by rw [a3]; rfl)) fun σ H Q q => ?_
          obtain ⟨F, pa, Z, env, as, env', W, e, kk⟩ := rd q
          cases e
          exact kk [] Z H (.refl ..) W .nil
        | cons e es =>
          refine PE.when (P := (backTo pos (starEach (e :: es) X.env)).any (·.1) = false) (fun hst => ?_) ?_
          · obtain ⟨s1, s2⟩ := stars_of hst e es rfl
            exact PE.imp (g_callK h4 ok.grd h5 hg h1 h2 h3 pass0 (dD_ok G ok (e :: es)) (dK_ok G ok (kw :: kws)) a1 a2 hdb s1 (by rw [hst, a3]; rfl)) fun σ H Q q => rd q
          · intro env r hr
            unfold eCallK at hr
            cases e1 : dD d X.env.scope (e :: es) env with
            | none => rw [e1] at hr; cases hr
            | some p => exact no_star e1
      · cases h; exact r_stuck
  · cases h
theorem blt_name (b : Blt) : (b.name : Str) ≠ "__name__" ∧ ((b.name : Str) == ("__debug__" : Str)) = false := by
  cases b <;> exact ⟨by decide +kernel, by decide +kernel⟩
theorem blt_boot {b : Blt} {g : List D → Option D} (h : b.fn = some g) : bootBuiltins (b.name : Str) = some (.builtin b.name) := by
  cases b <;> first | (cases h; done) | decide +kernel
theorem blt_call (hc : X.calm = true) (hG : NoG X.A) (hu : X.A.units + 64 < cLine) {b : Blt} {g : List D → Option D} (h : b.fn = some g) : CallD X (.builtin b.name) g := by
  cases b <;> first | (cases h; done) | (cases h; first | exact c_len | exact c_abs | exact c_min hc | exact c_max hc | exact c_all hc | exact c_any hc | exact c_sum hc | exact c_divmod | exact c_sorted | exact c_reprD hG hu)
theorem blt_bootT {b : Blt} {g : List D → Option D} (h : b.tyFn = some g) : bootBuiltins (b.name : Str) = some (.type b.name) := by
  cases b <;> first | (cases h; done) | decide +kernel
theorem blt_callT {b : Blt} {g : List D → Option D} (h : b.tyFn = some g) : CallD X (.type b.name) g := by
  cases b <;> first | (cases h; done) | (cases h; first | exact c_int | exact c_tuple | exact c_str)
theorem blt_bootTy {b : Blt} {t : String} (h : b.ty = some t) : bootBuiltins (b.name : Str) = some (.type t) := by
  cases b <;> first | (cases h; done) | (cases h; decide +kernel)
theorem mod_call {id : String} {g : List D → Option D} (h : modFn id = some g) : CallD X (.builtin id) g := by
  unfold modFn at h
  split at h
  · cases h; exact c_gcd
  · cases h; exact c_lcm
  · cases h
/-- a built-in function called -/
theorem callB_ok (G : Good T N C d) (ok : XOk T N C X) {x : Str} {id : String} {g : List D → Option D} {p pos : Pos} {e : Expr} {es : List Expr} (hc : CallD X (.builtin id) g) (hg : Gl X x) (hm : X.mg x = none) (hv : bootBuiltins x = some (.builtin id)) (hn : x ≠ "__name__") (hdb : (x == ("__debug__" : Str)) = false) :
    PE X (.Call (.Name x p) (e :: es) [] pos) (tE X.K (eBlt g (dD d X.env.scope (e :: es)))) := by
  refine PE.whenE (P := (backTo pos (starEach (e :: es) X.env)).any (·.1) = false) (fun hst => ?_) ?_
  · obtain ⟨s1, s2⟩ := stars_of hst e es rfl
    exact s_callB hc hg hm hv (dD_ok G ok (e :: es)) hn hdb s1 s2
  · intro env r hr
    unfold eBlt at hr
    cases e1 : dD d X.env.scope (e :: es) env with
    | none => rw [e1] at hr; cases hr
    | some p => exact no_star e1
theorem callT_ok (G : Good T N C d) (ok : XOk T N C X) {x : Str} {id : String} {g : List D → Option D} {p pos : Pos} {e : Expr} {es : List Expr} (hc : CallD X (.type id) g) (hg : Gl X x) (hm : X.mg x = none) (hv : bootBuiltins x = some (.type id)) (hn : x ≠ "__name__") (hdb : (x == ("__debug__" : Str)) = false) :
    PE X (.Call (.Name x p) (e :: es) [] pos) (tE X.K (eBlt g (dD d X.env.scope (e :: es)))) := by
  refine PE.whenE (P := (backTo pos (starEach (e :: es) X.env)).any (·.1) = false) (fun hst => ?_) ?_
  · obtain ⟨s1, s2⟩ := stars_of hst e es rfl
    exact s_callT hc hg hm hv (dD_ok G ok (e :: es)) hn hdb s1 s2
  · intro env r hr
    unfold eBlt at hr
    cases e1 : dD d X.env.scope (e :: es) env with
    | none => rw [e1] at hr; cases hr
    | some p => exact no_star e1
theorem callM_ok (G : Good T N C d) (ok : XOk T N C X) {x : Str} {id : String} {g : List D → Option D} {p pos : Pos} {e : Expr} {es : List Expr} (hc : CallD X (.builtin id) g) (hg : Gl X x) (hm : X.mg x = some (.builtin id)) (hdb : (x == ("__debug__" : Str)) = false) :
    PE X (.Call (.Name x p) (e :: es) [] pos) (tE X.K (eBlt g (dD d X.env.scope (e :: es)))) := by
  refine PE.whenE (P := (backTo pos (starEach (e :: es) X.env)).any (·.1) = false) (fun hst => ?_) ?_
  · obtain ⟨s1, s2⟩ := stars_of hst e es rfl
    exact s_callG hc hg hm (dD_ok G ok (e :: es)) hdb s1 s2
  · intro env r hr
    unfold eBlt at hr
    cases e1 : dD d X.env.scope (e :: es) env with
    | none => rw [e1] at hr; cases hr
    | some p => exact no_star e1
theorem part_ok (G : Good T N C d) (ok : XOk T N C X) (o : Option Expr) : PO X o (tPt X.K (ePart (o.map (d.E X.env.scope)))) := by
  cases o with
  | none => exact s_ptN
  | some e => exact s_ptS (G.gE X ok e)
theorem rgArgs_some {e : Expr} {as : List Expr} (h : rgArgs T X.env.scope e = some as) : ∃ y p pos, e = .Call (.Name y p) as [] pos ∧ isGl X.env.scope y = true ∧ T.blts.lookup y = some .range := by
  unfold rgArgs at h
  split at h
  · split at h
    · rename_i hg
      split at h
      · rename_i hb
        cases h
        exact ⟨_, _, _, rfl, hg, hb⟩
      · cases h
    · cases h
  · cases h
theorem dList_ok (G : Good T N C d) (ok : XOk T N C X) {a : Expr} {p pos : Pos} (hg : Gl X "list") (hm : X.mg "list" = none) (hs : ¬ isStar a = true) : PE X (.Call (.Name "list" p) [a] [] pos) (tR X.K (dList T d X.env.scope a)) := by
  unfold dList
  split
  · rename_i b hr
    obtain ⟨y, p2, q, rfl, h1, h2⟩ := rgArgs_some hr
    obtain ⟨hx, hm2⟩ := ok.blt _ _ h2
    subst hx
    split
    · exact r_stuck
    · rename_i hb
      exact s_listRg1 ok.calm (G.gE X ok _) hg hm (isGl_ok h1) hm2 (star_of (bf hb) [] _)
  · rename_i b c hr
    obtain ⟨y, p2, q, rfl, h1, h2⟩ := rgArgs_some hr
    obtain ⟨hx, hm2⟩ := ok.blt _ _ h2
    subst hx
    split
    · exact r_stuck
    · rename_i hb
      rw [not_or] at hb
      exact s_listRg2 ok.calm (G.gE X ok _) (G.gE X ok _) hg hm (isGl_ok h1) hm2 (star_of (bf hb.1) _ _) (star_of (bf hb.2) [] _)
  · exact r_stuck
  · exact s_list (G.gE X ok _) hg hm (star_of (bf hs) [] _)
theorem isRev_ok {s : Expr} (h : isRev s = true) : ∃ k p1 p2 p3, s = .Slice none none (some (.UnaryOp .USub (.Constant (.int 1) k p1) p2)) p3 := by
  unfold isRev at h
  split at h
  · exact ⟨_, _, _, _, rfl⟩
  · cases h
theorem dCmpR_ok (G : Good T N C d) (ok : XOk T N C X) {a b : Expr} {op : CmpOp} {pos : Pos} (h : behindInMarks op b = false) : PE X (.Compare a [op] [b] pos) (tE X.K (dCmpR T N d X.env.scope a op b)) := by
  have dflt := s_cmp (pos := pos) (cmp_ok ok op) (G.gE X ok a) (G.gE X ok b) h
  cases b <;> (try exact dflt)
  rename_i x p
  show PE X _ (tE X.K (if (T.bors ++ T.sees).contains x = true then (match slot N X.env.scope x with | some i => eSeeR (cmpOf op) (d.E X.env.scope a) i | none => stuck) else eOp (cmpOf op) (d.E X.env.scope a) (d.E X.env.scope (.Name x p))))
  split
  · split
    · rename_i i hi; exact s_seeR (cmp_ok ok op) (G.gE X ok a) (slot_pv ok hi) h
    · exact e_stuck
  · exact dflt
theorem dCmp_ok (G : Good T N C d) (ok : XOk T N C X) {a b : Expr} {op : CmpOp} {pos : Pos} (h : behindInMarks op b = false) : PE X (.Compare a [op] [b] pos) (tE X.K (dCmp T N d X.env.scope a op b)) := by
  have dflt := dCmpR_ok G ok (a := a) (pos := pos) h
  cases a <;> (try exact dflt)
  rename_i x p
  show PE X _ (tE X.K (if (T.bors ++ T.sees).contains x = true then (match slot N X.env.scope x with | some i => eSee (cmpOf op) i (d.E X.env.scope b) | none => stuck) else dCmpR T N d X.env.scope (.Name x p) op b))
  split
  · split
    · rename_i i hi; exact s_see (cmp_ok ok op) (slot_pv ok hi) (G.gE X ok b) h
    · exact e_stuck
  · exact dflt
theorem dCmpRT_ok (G : Good T N C d) (ok : XOk T N C X) {a b : Expr} {op : CmpOp} {pos : Pos} (h : behindInMarks op b = false) : PT X (.Compare a [op] [b] pos) (tT X.K (eB (dCmpR T N d X.env.scope a op b))) := by
  have dflt := s_cmpT (pos := pos) (cmp_ok ok op) (G.gE X ok a) (G.gE X ok b) h
  cases b <;> (try exact dflt)
  rename_i x p
  show PT X _ (tT X.K (eB (if (T.bors ++ T.sees).contains x = true then (match slot N X.env.scope x with | some i => eSeeR (cmpOf op) (d.E X.env.scope a) i | none => stuck) else eOp (cmpOf op) (d.E X.env.scope a) (d.E X.env.scope (.Name x p)))))
  split
  · split
    · rename_i i hi; exact s_seeRT (cmp_ok ok op) (G.gE X ok a) (slot_pv ok hi) h
    · exact t_stuck
  · exact dflt
theorem dCmpT_ok (G : Good T N C d) (ok : XOk T N C X) {a b : Expr} {op : CmpOp} {pos : Pos} (h : behindInMarks op b = false) : PT X (.Compare a [op] [b] pos) (tT X.K (eB (dCmp T N d X.env.scope a op b))) := by
  have dflt := dCmpRT_ok G ok (a := a) (pos := pos) h
  cases a <;> (try exact dflt)
  rename_i x p
  show PT X _ (tT X.K (eB (if (T.bors ++ T.sees).contains x = true then (match slot N X.env.scope x with | some i => eSee (cmpOf op) i (d.E X.env.scope b) | none => stuck) else dCmpR T N d X.env.scope (.Name x p) op b)))
  split
  · split
    · rename_i i hi; exact s_seeT (cmp_ok ok op) (slot_pv ok hi) (G.gE X ok b) h
    · exact t_stuck
  · exact dflt
theorem dBin_ok (G : Good T N C d) (ok : XOk T N C X) {a b : Expr} {op : Operator} {pos : Pos} : PE X (.BinOp a op b pos) (tE X.K (dBin d X.env.scope a op b)) := by
  have dflt : PE X (.BinOp a op b pos) (tE X.K (match opOf op with | some g => eOp g (d.E X.env.scope a) (d.E X.env.scope b) | none => stuck)) := by
    split
    · rename_i g hg; exact s_bin (op_ok ok hg) (G.gE X ok a) (G.gE X ok b)
    · exact e_stuck
  cases a <;> (try exact dflt)
  cases op <;> (try exact dflt)
  exact s_fz (s_repL (dDs_ok G ok _) (G.gE X ok b))
theorem dSortK_ok (G : Good T N C d) (ok : XOk T N C X) {args : List Expr} {kws : List Keyword} {p pos : Pos} (hg : Gl X "sorted") (hm : X.mg "sorted" = none) : PE X (.Call (.Name "sorted" p) args kws pos) (tE X.K (dSortK T C d X.env.scope args kws)) := by
  unfold dSortK
  split
  · rename_i a kn y py kp
    split
    · rename_i i hf
      split
      · rename_i h
        obtain ⟨⟨rfl, h2⟩, h3⟩ := h
        obtain ⟨hn, ff, fd, ps, k, e1, e2, e3, e4, e5⟩ := ok.kf y i _ hf rfl
        exact s_sortK (G.gE X ok a) hg hm e4 e1 ok.grd e5 e3 (isGl_ok h3) e2 (okNm_deb hn).1 (star_of h2 [] _)
      · exact e_stuck
    · exact e_stuck
  · exact e_stuck
theorem stepR_ok (G : Good T N C d) (ok : XOk T N C X) (e : Expr) : PE X e (tR X.K (stepR T N C d X.env.scope e)) := by
  have dflt : PE X e (tR X.K (rV (d.E X.env.scope e))) := s_rV (G.gE X ok e)
  cases e <;> (try exact dflt)
  case List es pos => exact s_lst (dDs_ok G ok es)
  case ListComp elt gens scope pos => exact dComp_ok G ok elt gens scope pos
  case BinOp a op b pos =>
    cases op <;> (try exact dflt)
    show PE X _ (tR X.K (if (freshL T && (isLst2 b || isRepA a)) = true then eAddR (d.E X.env.scope a) (d.E X.env.scope b) else rV (d.E X.env.scope (.BinOp a .Add b pos))))
    split
    · exact s_addR (G.gE X ok a) (G.gE X ok b)
    · exact dflt
  case IfExp c a b pos => exact s_ifR (G.gT X ok c) (G.gR X ok a) (G.gR X ok b)
  case Name x pos =>
    show PE X _ (tR X.K (match slot N X.env.scope x with | some i => eMove i | none => rV (d.E X.env.scope (.Name x pos))))
    split
    · rename_i i hi; exact s_move (slot_pv ok hi)
    · exact dflt
  case Subscript a s pos =>
    have rv : PE X (.Subscript a s pos) (tR X.K (if isRev s = true then eRev (d.E X.env.scope a) else rV (d.E X.env.scope (.Subscript a s pos)))) := by
      split
      · rename_i h
        obtain ⟨k, p1, p2, p3, rfl⟩ := isRev_ok h
        exact s_rev (G.gE X ok a)
      · exact dflt
    cases s <;> (try exact rv)
    rename_i lo hi st p2
    cases st with
    | none => exact s_slice (G.gE X ok a) (part_ok G ok lo) (part_ok G ok hi)
    | some _ => exact rv
  case Call fn args kws pos =>
    cases fn <;> (try exact dflt)
    rename_i x p
    unfold stepR
    dsimp only
    split
    · rename_i hg
      split
      · rename_i f hf; exact dCall_ok G ok (isGl_ok hg) hf
      · split
        · rename_i hb _
          obtain ⟨hx, hm⟩ := ok.blt _ _ hb
          subst hx
          split
          · exact r_stuck
          · rename_i hs
            exact dList_ok G ok (isGl_ok hg) hm hs
        · rename_i hb _
          obtain ⟨hx, hm⟩ := ok.blt _ _ hb
          subst hx
          exact s_rV (dSortK_ok G ok (isGl_ok hg) hm)
        · exact dflt
    · exact r_stuck
theorem stepT_ok (G : Good T N C d) (ok : XOk T N C X) (e : Expr) : PT X e (tT X.K (stepT T N d X.env.scope e)) := by
  cases e <;> (try exact t_stuck)
  case UnaryOp op a pos =>
    cases op <;> (try exact t_stuck)
    exact s_notT (G.gT X ok a)
  case BoolOp op es pos =>
    cases op
    · exact (dAndT_ok G ok es).pt
    · exact (dOrT_ok G ok es).pt
  case Compare a ops bs pos =>
    match ops, bs with
    | [op], [b] =>
      show PT X _ (tT X.K (if behindInMarks op b = false then eB (dCmp T N d X.env.scope a op b) else stuck))
      split
      · rename_i h; exact dCmpT_ok G ok h
      · exact t_stuck
    | [op, op'], [b, c] =>
      show PT X _ (tT X.K (if behindInMarks op' c = false then eB (eChain (cmpOf op) (cmpOf op') (d.E X.env.scope a) (d.E X.env.scope b) (d.E X.env.scope c)) else stuck))
      split
      · rename_i h; exact s_chainT (cmp_ok ok op) (cmp_ok ok op') (G.gE X ok a) (G.gE X ok b) (G.gE X ok c) h
      · exact t_stuck
    | [], [] => exact t_stuck
    | [], _ :: _ => exact t_stuck
    | [_], [] => exact t_stuck
    | [_], _ :: _ :: _ => exact t_stuck
    | [_, _], [] => exact t_stuck
    | [_, _], [_] => exact t_stuck
    | [_, _], _ :: _ :: _ :: _ => exact t_stuck
    | _ :: _ :: _ :: _, [] => exact t_stuck
    | _ :: _ :: _ :: _, _ :: _ => exact t_stuck
  case Name x pos => exact s_tru (G.gE X ok _) (fun _ => rfl)
  case Call f a k pos => exact s_tru (G.gE X ok _) (fun _ => rfl)
  case Subscript a b pos => exact s_tru (G.gE X ok _) (fun _ => rfl)
  case Constant c k pos => exact s_tru (G.gE X ok _) (fun _ => rfl)
theorem stepE_ok (G : Good T N C d) (ok : XOk T N C X) (e : Expr) : PE X e (tE X.K (stepE T N d X.env.scope e)) := by
  cases e <;> (try exact e_stuck)
  case Name x pos => exact dName_ok ok
  case Constant c k pos =>
    cases c <;> (try exact e_stuck)
    · exact s_const pe_non fun _ => .non
    · exact s_const pe_bl fun _ => .bl _
    · exact s_const pe_int fun _ => .int _
    · exact s_const pe_str fun _ => .str _
  case BinOp a op b pos =>
    exact dBin_ok G ok
  case UnaryOp op a pos =>
    cases op <;> first | exact s_not (G.gE X ok a) | exact s_neg (G.gE X ok a) | exact e_stuck
  case BoolOp op es pos =>
    cases op
    · exact dAnd_ok G ok es
    · exact dOr_ok G ok es
  case Compare a ops bs pos =>
    match ops, bs with
    | [op], [b] =>
      show PE X _ (tE X.K (if behindInMarks op b = false then dCmp T N d X.env.scope a op b else stuck))
      split
      · rename_i h; exact dCmp_ok G ok h
      · exact e_stuck
    | [op, op'], [b, c] =>
      show PE X _ (tE X.K (if behindInMarks op' c = false then eChain (cmpOf op) (cmpOf op') (d.E X.env.scope a) (d.E X.env.scope b) (d.E X.env.scope c) else stuck))
      split
      · rename_i h; exact s_chain (cmp_ok ok op) (cmp_ok ok op') (G.gE X ok a) (G.gE X ok b) (G.gE X ok c) h
      · exact e_stuck
    | [], [] => exact e_stuck
    | [], _ :: _ => exact e_stuck
    | [_], [] => exact e_stuck
    | [_], _ :: _ :: _ => exact e_stuck
    | [_, _], [] => exact e_stuck
    | [_, _], [_] => exact e_stuck
    | [_, _], _ :: _ :: _ :: _ => exact e_stuck
    | _ :: _ :: _ :: _, [] => exact e_stuck
    | _ :: _ :: _ :: _, _ :: _ => exact e_stuck
  case IfExp c a b pos => exact s_ifE (G.gT X ok c) (G.gE X ok a) (G.gE X ok b)
  case Tuple es k pos => exact s_tup (dD_ok G ok es)
  case Dict ks vs pos => cases ks <;> cases vs <;> first | exact s_dct0 | exact e_stuck
  case List es pos => exact s_fz (G.gR X ok _)
  case ListComp elt gens scope pos => exact s_fz (G.gR X ok _)
  case Subscript a s pos =>
    have it : plIx s = true → PE X (.Subscript a s pos) (tE X.K (match a with
      | .Subscript (.Name x _) s1 _ => if (T.mats.contains x && plIx s1) = true then (match slot N X.env.scope x with
        | some i => eItem2 i (d.E X.env.scope s1) (d.E X.env.scope s)
        | none => stuck) else eOp gItem (d.E X.env.scope a) (d.E X.env.scope s)
      | .Name x _ => (match slot N X.env.scope x with
        | some i => eItemN i (d.E X.env.scope s)
        | none => eOp gItem (d.E X.env.scope a) (d.E X.env.scope s))
      | _ => eOp gItem (d.E X.env.scope a) (d.E X.env.scope s))) := fun h => by
      cases a <;> (try exact s_item (G.gE X ok _) (G.gE X ok s) (plIx_ok h))
      case Subscript o s1 p1 =>
        cases o <;> (try exact s_item (G.gE X ok _) (G.gE X ok s) (plIx_ok h))
        rename_i x p
        show PE X _ (tE X.K (if (T.mats.contains x && plIx s1) = true then (match slot N X.env.scope x with
          | some i => eItem2 i (d.E X.env.scope s1) (d.E X.env.scope s)
          | none => stuck) else eOp gItem (d.E X.env.scope (.Subscript (.Name x p) s1 p1)) (d.E X.env.scope s)))
        split
        · rename_i hc
          obtain ⟨h1, h2⟩ := andB hc
          split
          · rename_i i hi; exact s_item2 (slot_pv ok hi) (G.gE X ok s1) (G.gE X ok s) (plIx_ok h2) (plIx_ok h)
          · exact e_stuck
        · exact s_item (G.gE X ok _) (G.gE X ok s) (plIx_ok h)
      rename_i x p
      show PE X _ (tE X.K (match slot N X.env.scope x with
        | some i => eItemN i (d.E X.env.scope s)
        | none => eOp gItem (d.E X.env.scope (.Name x p)) (d.E X.env.scope s)))
      split
      · rename_i i hi; exact s_itemN (slot_pv ok hi) (G.gE X ok s) (plIx_ok h)
      · exact s_item (G.gE X ok _) (G.gE X ok s) (plIx_ok h)
    cases s <;> first | exact it rfl | exact e_stuck | skip
    rename_i lo hi st p2
    cases st with
    | none => exact s_fz (G.gR X ok _)
    | some st =>
      show PE X _ (tE X.K (if isRev (.Slice lo hi (some st) p2) = true then eFz (d.R X.env.scope (.Subscript a (.Slice lo hi (some st) p2) pos)) else stuck))
      split
      · exact s_fz (G.gR X ok _)
      · exact e_stuck
  case Call fn args kws pos =>
    cases fn <;> (try exact e_stuck)
    case Attribute o m ap =>
      cases o <;> (try exact e_stuck)
      rename_i x np
      match args, kws with
      | [a], [] =>
        show PE X _ (tE X.K (if m = ("pop" : Str) ∧ (ap.endLine == pos.line) = true ∧ isStar a = false then (match slot N X.env.scope x with
          | some i => ePop i (d.E X.env.scope a)
          | none => stuck) else if m = ("index" : Str) ∧ (ap.endLine == pos.line) = true ∧ isStar a = false then (match slot N X.env.scope x with
          | some i => eIdx i (d.E X.env.scope a)
          | none => stuck) else stuck))
        split
        · rename_i h
          obtain ⟨rfl, h2, h3⟩ := h
          split
          · rename_i i hi
            exact e_pop (slot_pv ok hi) (G.gE X ok a) (star_of h3 [] _) h2
          · exact e_stuck
        · split
          · rename_i h
            obtain ⟨rfl, h2, h3⟩ := h
            split
            · rename_i i hi
              exact e_idx (slot_pv ok hi) (G.gE X ok a) (star_of h3 [] _) h2
            · exact e_stuck
          · exact e_stuck
      | [], _ => exact e_stuck
      | _ :: _ :: _, _ => exact e_stuck
      | [_], _ :: _ => exact e_stuck
    rename_i x p
    unfold stepE
    dsimp only
    split
    · rename_i hg
      have hgl := isGl_ok hg
      split
      · exact s_fz (G.gR X ok _)
      · split
        · split
          · rename_i hb
            obtain ⟨hx, hm⟩ := ok.blt _ _ hb
            subst hx
            split
            · rename_i y p2
              split
              · rename_i i hi; exact s_lenN (slot_pv ok hi) hgl hm rfl
              · exact callB_ok G ok c_len hgl hm PySem.boot_len (blt_name .len).1 (blt_name .len).2
            · rename_i z _ a _
              have lb := fun {p pos : Pos} {e : Expr} => callB_ok G ok (p := p) (pos := pos) (e := e) (es := []) c_len hgl hm PySem.boot_len (blt_name .len).1 (blt_name .len).2
              split
              · rename_i hz
                split
                · rename_i hb2
                  obtain ⟨hx2, hm2⟩ := ok.blt _ _ hb2
                  subst hx2
                  exact s_lenSet ok.calm hgl hm (isGl_ok hz.1) hm2 (G.gE X ok a) (star_of hz.2 [] _)
                · exact lb
              · exact lb
            · exact callB_ok G ok c_len hgl hm PySem.boot_len (blt_name .len).1 (blt_name .len).2
            · exact e_stuck
          · rename_i hb
            obtain ⟨hx, hm⟩ := ok.blt _ _ hb
            subst hx
            split
            · rename_i a y p2
              split
              · exact e_stuck
              · rename_i hs
                split
                · rename_i hg2
                  split
                  · rename_i ty hty
                    cases hb2 : T.blts.lookup y with
                    | none => rw [hb2] at hty; cases hty
                    | some b2 =>
                      rw [hb2, Option.bind_some] at hty
                      obtain ⟨hx2, hm2⟩ := ok.blt _ _ hb2
                      subst hx2
                      exact s_isi (G.gE X ok a) hgl hm (isGl_ok hg2) hm2 (blt_bootTy hty) (blt_name b2).1 (blt_name b2).2 (star_of (bf hs) [_] _)
                  · exact e_stuck
                · exact e_stuck
            · exact e_stuck
          · exact s_fz (G.gR X ok _)
          · rename_i b _ _ _ hb
            obtain ⟨hx, hm⟩ := ok.blt _ _ hb
            subst hx
            split
            · exact e_stuck
            · split
              · rename_i g hgb; exact callB_ok G ok (blt_call ok.calm ok.grd ok.units hgb) hgl hm (blt_boot hgb) (blt_name b).1 (blt_name b).2
              · split
                · rename_i g hgb; exact callT_ok G ok (blt_callT hgb) hgl hm (blt_bootT hgb) (blt_name b).1 (blt_name b).2
                · exact e_stuck
          · split
            · rename_i g _ _ hgm
              cases hmd : T.mods.lookup x with
              | none => rw [hmd] at hgm; cases hgm
              | some id =>
                rw [hmd, Option.bind_some] at hgm
                obtain ⟨hn, hm⟩ := ok.mod x id hmd
                exact callM_ok G ok (mod_call hgm) hgl hm (okNm_deb hn).1
            · exact e_stuck
        · split
          · exact s_fz (G.gR X ok _)
          · exact e_stuck
    · exact e_stuck
end
end Ev
namespace Ev
open PySem PySem.Spec PyProof.Rows L2
/-! ## a, b, c, d = .., through a tuple -/
def gMany : List Nat → TGs
  | [] => gNil
  | i :: is => gCons (L2.gName i) (gMany is)
theorem gMany_of : ∀ {is : List Nat} {vs : List V} {σ : L2.St} {H : Hp} {Q : L2.St → Hp → Prop}, vs.length = is.length → Q (setManyV is vs σ) H → gMany is vs σ H Q
  | [], [], _, _, _, _, q => ⟨rfl, q⟩
  | [], _ :: _, _, _, _, h, _ => by cases h
  | _ :: _, [], _, _, _, h, _ => by cases h
  | i :: is, v :: vs, σ, H, Q, h, q => ⟨v, vs, rfl, gMany_of (is := is) (vs := vs) (Nat.succ.inj h) q⟩
section
variable {X : Cx}
theorem storeIx_pg {x : Str} {p : Pos} {i : Nat} (hN : X.N.Nodup) (hf : ∀ x, X.fn x = true) (h : storeIx X.N X.env.scope x = some i) : PG X (.Name x p) (L2.gName i) := by
  unfold storeIx at h
  split at h
  · rename_i j hj
    have hn := nameIx_get hj
    split at h
    · rename_i hk; cases h; exact pg_name hN hn (.inl hk) (.inl (hf x))
    · rename_i hk; cases h; exact pg_name hN hn (.inr hk) (.inl (hf x))
    · cases h
  · cases h
theorem namesIx_pg (hN : X.N.Nodup) (hf : ∀ x, X.fn x = true) : ∀ {ts : List Expr} {is : List Nat}, namesIx X.N X.env.scope ts = some is → PGs X ts (gMany is) ∧ (assignEach ts X.env).length = ts.length ∧ ts.length = is.length ∧ (assignEach ts X.env).findIdx? (·.1) = none
  | [], is, h => by cases h; exact ⟨pgs_nil, rfl, rfl, rfl⟩
  | e :: es, is, h => by
    cases e with
    | Name x p =>
      have h' : (match storeIx X.N X.env.scope x, namesIx X.N X.env.scope es with
        | some i, some r => some (i :: r)
        | _, _ => none) = some is := h
      cases e1 : storeIx X.N X.env.scope x with
      | none => rw [e1] at h'; cases h'
      | some i =>
        cases e2 : namesIx X.N X.env.scope es with
        | none => rw [e1, e2] at h'; cases h'
        | some r =>
          rw [e1, e2] at h'
          cases h'
          obtain ⟨a, b, c, d⟩ := namesIx_pg hN hf e2
          refine ⟨pgs_cons (storeIx_pg hN hf e1) a rfl, congrArg Nat.succ b, congrArg Nat.succ c, ?_⟩
          show ((false, assign (.Name x p) X.env) :: assignEach es X.env).findIdx? (·.1) = none
          rw [List.findIdx?_cons, d]
          rfl
    | _ => cases h
theorem s_parT {ts es : List Expr} {is : List Nat} {f : Fx (List AR)} {kt k2 : Nat} {pt p2 pos : Pos} (hc : X.calm = true) (hk : X.env.scope.kind = .function) (hN : X.N.Nodup) (hf : ∀ x, X.fn x = true) (hi : namesIx X.N X.env.scope ts = some is) (hl : ts.length ≤ 1000)
    (ha : PA X es (tAa X.K f)) (hw : swNone X.env.scope ts es = true) : PS X (.Assign [.Tuple ts kt pt] (.Tuple es k2 p2) pos) (tS X.K (sPar is f)) := by
  obtain ⟨g, l1, l2, st⟩ := namesIx_pg hN hf hi
  have ps := ps_asg (pos := pos) (pe_tup (pos := p2) (x1 := k2) ha) (pg_tup (pos := pt) (k := kt) hc g l1 st) rfl (swapped_none hk hw) rfl
  refine PS.imp ps fun D σ H ⟨F, pa, Z, env, fl, env', W, e, k⟩ => ?_
  unfold sPar at e
  cases e1 : f env with
  | none => rw [e1] at e; cases e
  | some q =>
    rw [e1, Option.bind_some] at e
    cases e2 : setMany is q.1 q.2 with
    | none => rw [e2] at e; cases e
    | some env2 =>
      rw [e2] at e
      cases e
      refine ⟨F, pa, Z, env, q.1, q.2, W, e1, fun vs Z1 H1 g1 W1 A => ?_⟩
      have lv : vs.length = is.length := by rw [ars_len A, setMany_len e2]
      have sz : sizeLine = 16777216 := rfl
      refine ⟨by omega, fun p hp => ⟨p, vs, rfl, SqT.of upd_same, by rw [lv, l2], gMany_of lv ?_⟩⟩
      have zp := W1.zh.free hp
      have al : Alc Z1 H1 Z1 (upd H1 p (.tup vs)) := ⟨Same.refl _, upd_none hp, fun b u e => by rw [upd_ne (fun z => by subst z; rw [zp] at e; cases e)]; exact W1.zh b u e, fun _ _ => rfl⟩
      exact k _ Z1 _ g1 ((W1.setMany A e2).alc al)
end
end Ev
namespace Ev
open PySem PySem.Spec PyProof.Rows L2
section
variable {T : Tab} {N : List Str} {C : Nat → Fn} {wf : Nat} {X : Cx} {d : Den}
theorem ss_stuck {st : Stmt} : PS X st (tS X.K sStuck) := s_stuck
theorem dSs_ok (G : Good T N C d) (ok : XOk T N C X) (hf : ∀ x, X.fn x = true) : ∀ ss : List Stmt, PSs X ss (tS X.K (dSs d X.env.scope ss))
  | [] => s_nil
  | [s] => s_one (G.gS X ok hf s)
  | s :: t :: r => s_cons (G.gS X ok hf s) (dSs_ok G ok hf (t :: r))
theorem passes (ok : XOk T N C X) : PassesOwn (model X.prog X.w) X.A X.env X.xe := by rw [ok.xe]; exact PassesOwn.never
theorem noLc_sw {e : Expr} (h : noLc e = true) (t : Option Expr) (l : Nat) (env : Env) : swapsWith e t l env = pure false := by
  cases e <;> first | rfl | (cases h)
theorem sw_false {elt : Expr} {gs : List Comprehension} {scope : Scope} {pos py : Pos} {y : Str} {l : Nat} {env : Env} (hk : env.scope.kind = .function) (hy : env.scope.names.lookup y = some .cell) : swapsWith (.ListComp elt gs scope pos) (some (.Name y py)) l env = pure false := by
  have ky : env.kindOf y = some .cell := hy
  have hb : env.blockKind = .function := by unfold Env.blockKind; rw [hk]; rfl
  unfold swapsWith
  simp only [hb, ky]
  rfl
theorem sto_all (hf : ∀ x, X.fn x = true) (S : List Nat) : Sto N X S := fun x _ _ _ _ => .inl (hf x)
theorem asg_ok (G : Good T N C d) (ok : XOk T N C X) (hf : ∀ x, X.fn x = true) {tg e : Expr} {pos : Pos} (hl : noLc e = true) (hw : swappedStores [tg] e X.env = pure none) (hn : isStar tg = false) : PS X (.Assign [tg] e pos) (tS X.K (sAsg (d.E X.env.scope e) (dG N d X.env.scope tg).2)) :=
  s_asg (G.gE X ok e) (dG_ok G ok (sto_all hf (dG N d X.env.scope tg).1) tg fun _ h => h) (noLc_sw hl (some tg) _ _) hw (by cases tg <;> first | rfl | (cases hn))
theorem setComp_ok (G : Good T N C d) (ok : XOk T N C X) {i : Nat} {x : Str} {px sp pos : Pos} {elt : Expr} {gens : List Comprehension} {scope : Scope} (hi : nameIx N x = some i) (hk : X.env.scope.names.lookup x = some .local) (hl : (px.line == pos.line) = true)
    (ha : (scope.names.any fun (n, k) => n == x && (k == .local || k == .cell)) = false) : PS X (.Assign [.Name x px] (.ListComp elt gens scope pos) sp) (tS X.K (sSet i (dComp T N d X.env.scope elt gens scope))) := by
  have hst : PS X (.Assign [.Name x px] (.ListComp elt gens scope pos) sp) (tS X.K (sSet i stuck)) := ⟨fun _ _ _ _ _ _ ⟨_, _, _, _, _, _, _, e, _⟩ => nomatch e⟩
  unfold dComp
  split
  · rename_i tg iter ifs
    split
    · rename_i h
      obtain ⟨h1, h2, h3⟩ := h
      rw [← ok.names] at h2
      have bo := blkOk_by h2
      rw [ok.names] at bo
      have bo' : BlkOk X.N X.env.scope scope (ownOf N scope) := by rw [ok.names]; exact bo
      have hn := nameIx_get hi
      rw [← ok.names] at hn
      refine s_setComp ok.calm ok.nd hn hk (sw_true ok.kind hk hl ha) (dI_ok G ok tg iter) bo' (subB_ok h3) (fun s H Cc cl fp => ?_) (fun s H Cc cl fp => ?_) (fun s H Cc cl fp => ?_) (folded_ok h1 _)
      · exact dG_ok G (ok.blk (s := s) (H := H) (cl := cl) (Cc := Cc) (fp := fp) bo.kind) (blk_sto ok bo.uniq) tg (subB_ok h3)
      · exact dIfs_ok G (ok.blk (s := s) (H := H) (cl := cl) (Cc := Cc) (fp := fp) bo.kind) ifs
      · exact G.gE _ (ok.blk (s := s) (H := H) (cl := cl) (Cc := Cc) (fp := fp) bo.kind) elt
    · exact hst
  · rename_i tg iter ifs tg1 iter1 ifs1
    split
    · rename_i h
      obtain ⟨h1, h2, h3, h4, h5⟩ := h
      rw [← ok.names] at h2
      have bo := blkOk_by h2
      rw [ok.names] at bo
      have bo' : BlkOk X.N X.env.scope scope (ownOf N scope) := by rw [ok.names]; exact bo
      have hn := nameIx_get hi
      rw [← ok.names] at hn
      refine s_setComp2 ok.calm ok.nd hn hk (sw_true ok.kind hk hl ha) (dI_ok G ok tg iter) bo' (subB_ok h3) (fun _ h => h) (subB_ok h5) (fun s H Cc cl fp => ?_) (fun s H Cc cl fp => ?_) (fun s H Cc cl fp => ?_) (fun s H Cc cl fp => ?_) (fun s H Cc cl fp => ?_) (fun s H Cc cl fp => ?_) (folded_ok h1 _) (folded_ok h4)
      · exact dG_ok G (ok.blk (s := s) (H := H) (cl := cl) (Cc := Cc) (fp := fp) bo.kind) (blk_sto ok bo.uniq) tg (subB_ok h3)
      · exact dIfs_ok G (ok.blk (s := s) (H := H) (cl := cl) (Cc := Cc) (fp := fp) bo.kind) ifs
      · exact dI_ok G (ok.blk (s := s) (H := H) (cl := cl) (Cc := Cc) (fp := fp) bo.kind) tg1 iter1
      · exact dG_ok G (ok.blk (s := s) (H := H) (cl := cl) (Cc := Cc) (fp := fp) bo.kind) (blk_sto ok bo.uniq) tg1 (subB_ok h5)
      · exact dIfs_ok G (ok.blk (s := s) (H := H) (cl := cl) (Cc := Cc) (fp := fp) bo.kind) ifs1
      · exact G.gE _ (ok.blk (s := s) (H := H) (cl := cl) (Cc := Cc) (fp := fp) bo.kind) elt
    · exact hst
  · exact hst
theorem setCompM_ok (G : Good T N C d) (ok : XOk T N C X) {i : Nat} {x : Str} {px sp pos : Pos} {elt : Expr} {gens : List Comprehension} {scope : Scope} (hi : nameIx N x = some i) (hk : X.env.scope.names.lookup x = some .local) (hl : (px.line == pos.line) = true)
    (ha : (scope.names.any fun (n, k) => n == x && (k == .local || k == .cell)) = false) : PS X (.Assign [.Name x px] (.ListComp elt gens scope pos) sp) (tS X.K (sSet i (dCompM T N d X.env.scope elt gens scope))) := by
  have hst : PS X (.Assign [.Name x px] (.ListComp elt gens scope pos) sp) (tS X.K (sSet i stuck)) := ⟨fun _ _ _ _ _ _ ⟨_, _, _, _, _, _, _, e, _⟩ => nomatch e⟩
  unfold dCompM
  split
  · rename_i tg iter ifs
    split
    · rename_i h
      obtain ⟨h1, h2, h3⟩ := h
      rw [← ok.names] at h2
      have bo := blkOk_by h2
      rw [ok.names] at bo
      have bo' : BlkOk X.N X.env.scope scope (ownOf N scope) := by rw [ok.names]; exact bo
      have hn := nameIx_get hi
      rw [← ok.names] at hn
      refine s_setCompM ok.calm ok.nd hn hk (sw_true ok.kind hk hl ha) (dI_ok G ok tg iter) bo' (subB_ok h3) (fun s H Cc cl fp => ?_) (fun s H Cc cl fp => ?_) (fun s H Cc cl fp => ?_) (folded_ok h1 _)
      · exact dG_ok G (ok.blk (s := s) (H := H) (cl := cl) (Cc := Cc) (fp := fp) bo.kind) (blk_sto ok bo.uniq) tg (subB_ok h3)
      · exact dIfs_ok G (ok.blk (s := s) (H := H) (cl := cl) (Cc := Cc) (fp := fp) bo.kind) ifs
      · exact G.gR _ (ok.blk (s := s) (H := H) (cl := cl) (Cc := Cc) (fp := fp) bo.kind) elt
    · exact hst
  · exact hst
theorem tupA_ok (G : Good T N C d) (ok : XOk T N C X) (hf : ∀ x, X.fn x = true) {ts vs : List Expr} {kt : _} {pt : Pos} {k2 : _} {p2 sp : Pos} (h : swNone X.env.scope ts vs = true) : PS X (.Assign [.Tuple ts kt pt] (.Tuple vs k2 p2) sp) (tS X.K (dTupA N d X.env.scope ts vs kt pt k2 p2)) := by
  unfold dTupA
  split
  · rename_i hq
    split
    · rename_i is hi
      rw [← ok.names] at hi
      exact s_parT ok.calm ok.kind ok.nd hf hi hq.2 (dRs_ok G ok vs) h
    · exact ss_stuck
  · exact asg_ok G ok hf rfl (swapped_none ok.kind h) rfl
theorem locIx_ok (ok : XOk T N C X) {x : Str} {i : Nat} (h : locIx N X.env.scope x = some i) : X.N[i]? = some x ∧ X.env.scope.names.lookup x = some .local := by
  unfold locIx at h
  split at h
  · rename_i hk
    have := nameIx_get h
    rw [← ok.names] at this
    exact ⟨this, hk⟩
  · cases h
theorem stepS_ok (G : Good T N C d) (ok : XOk T N C X) (hf : ∀ x, X.fn x = true) (st : Stmt) : PS X st (tS X.K (stepS T N wf d X.env.scope st)) := by
  unfold stepS
  split
  · exact s_skip ps_pass
  · exact s_break
  · exact s_cont
  · exact s_retN
  · exact s_ret (G.gR X ok _)
  · exact s_if (G.gT X ok _) (dSs_ok G ok hf _) (dSs_ok G ok hf _)
  · exact s_while (passes ok) (G.gT X ok _) (dSs_ok G ok hf _)
  · split
    · rename_i h
      exact s_for (passes ok) ok.calm (dI_ok G ok _ _) (dG_ok G ok (sto_all hf _) _ fun _ h => h) (dSs_ok G ok hf _) (folded_ok h _)
    · exact ss_stuck
  · exact s_skip ps_doc
  · rename_i x np m ap a cp sp
    split
    · rename_i h
      obtain ⟨rfl, h2, h3⟩ := h
      split
      · rename_i i hi
        exact s_app (slot_pv ok hi) (G.gE X ok a) (star_of h3 [] _) h2 rfl
      · exact ss_stuck
    · exact ss_stuck
  · split
    · rename_i h
      exact s_expr (G.gR X ok _) (noLc_sw h none _ _)
    · exact ss_stuck
  · rename_i x px e sp
    split
    · rename_i i hi
      have hn := nameIx_get hi
      rw [← ok.names] at hn
      split
      · rename_i k hk
        split
        · rename_i hkk
          have hl : Loc X.env.scope x := by
            rcases hkk with rfl | rfl
            · exact .inl hk
            · exact .inr hk
          split
          · split
            · rename_i h
              obtain ⟨rfl, h2, h3⟩ := h
              split
              · exact setCompM_ok G ok hi hk h2 h3
              · exact setComp_ok G ok hi hk h2 h3
            · split
              · rename_i h
                obtain ⟨rfl, -⟩ := h
                exact s_setG (ps_set ok.nd hn hl (dComp_ok G ok _ _ _ _) (sw_false ok.kind hk) (.inl (hf x))) fun σ H Q q => q
              · exact ss_stuck
          · split
            · rename_i h
              exact s_setG (ps_set ok.nd hn hl (G.gR X ok e) (noLc_sw h _ _ _) (.inl (hf x))) fun σ H Q q => q
            · exact ss_stuck
        · exact ss_stuck
      · exact ss_stuck
    · exact ss_stuck
  · rename_i x px y py kt pt a b k2 p2 sp
    split
    · rename_i i j hi hj
      split
      · rename_i h
        obtain ⟨h1, h2, h3⟩ := h
        exact s_par2 ok.calm ok.kind ok.nd (locIx_ok ok hi).1 (locIx_ok ok hj).1 h1 (locIx_ok ok hi).2 (locIx_ok ok hj).2 (dRs_ok G ok [a, b]) h2 h3
      · split
        · rename_i h
          exact tupA_ok G ok hf h
        · exact ss_stuck
    · split
      · rename_i h
        exact tupA_ok G ok hf h
      · exact ss_stuck
  · rename_i x px y py z pz kt pt a b c k2 p2 sp
    split
    · rename_i i j l hi hj hl
      split
      · rename_i h
        obtain ⟨h1, h2, h3, h4, h5⟩ := h
        exact s_par3 ok.calm ok.kind ok.nd (locIx_ok ok hi).1 (locIx_ok ok hj).1 (locIx_ok ok hl).1 h1 h2 h3 (locIx_ok ok hi).2 (locIx_ok ok hj).2 (locIx_ok ok hl).2 (dRs_ok G ok [a, b, c]) h4 h5
      · split
        · rename_i h
          exact tupA_ok G ok hf h
        · exact ss_stuck
    · split
      · rename_i h
        exact tupA_ok G ok hf h
      · exact ss_stuck
  · rename_i x px a p1 b p2 e sp
    split
    · rename_i h
      obtain ⟨h, h4⟩ := andB h
      obtain ⟨h, h3⟩ := andB h
      obtain ⟨h1, h2⟩ := andB h
      split
      · rename_i i hi
        exact s_asg (G.gE X ok e) (s_gIx2 (slot_pv ok hi) (G.gE X ok a) (G.gE X ok b) (plIx_ok h2) (fun _ => by cases b <;> first | rfl | (cases h3))) (noLc_sw h4 (some (.Subscript (.Subscript (.Name x px) a p1) b p2)) sp.line X.env) (swapped_other (by cases e <;> first | rfl | (cases h4))) rfl
      · exact ss_stuck
    · exact ss_stuck
  · rename_i tg e sp _ _ _ _
    split
    · rename_i h
      refine asg_ok G ok hf h.2 (swapped_other ?_) ?_
      · have h1 := h.1
        cases tg <;> cases e <;> first | rfl | (cases h1)
      · have h1 := h.1
        cases tg <;> first | rfl | (cases h1)
    · split
      · split
        · rename_i h
          exact tupA_ok G ok hf h
        · exact ss_stuck
      · exact ss_stuck
  · exact ss_stuck
theorem den_good : ∀ n : Nat, Good T N C (den T N C wf n)
  | 0 => ⟨fun _ _ _ => e_stuck, fun _ _ _ => r_stuck, fun _ _ _ => t_stuck, fun _ _ _ _ => ss_stuck⟩
  | n + 1 => ⟨fun _ ok e => stepE_ok (den_good n) ok e, fun _ ok e => stepR_ok (den_good n) ok e, fun _ ok e => stepT_ok (den_good n) ok e, fun _ ok hf st => stepS_ok (den_good n) ok hf st⟩
end
end Ev
namespace Ev
open PySem PySem.Spec PyProof.Rows L2
/-! ## a program's defs -/
structure Fd where
  x : Str
  ps : List Str
  N : List Str
  fl : List Bool
  st : Stmt
def fnsFrom : Nat → List Fd → List (Str × Nat × List Bool)
  | _, [] => []
  | n, r :: rs => (r.x, n, r.fl) :: fnsFrom (n + 1) rs
def runF (rs : List Fd) (T : Tab) (wf fuel : Nat) : Nat → Nat → Fn
  | 0, _ => fun _ => none
  | n + 1, i => match rs[i]? with
    | some r => callFn r.N.length (dSs (den T r.N (runF rs T wf fuel n) wf fuel) (defScope r.st) (defBody r.st))
    | none => fun _ => none
theorem fns_get : ∀ {rs : List Fd} {n : Nat} {x : Str} {i : Nat} {fl : List Bool}, (fnsFrom n rs).lookup x = some (i, fl) → ∃ r j, i = n + j ∧ rs[j]? = some r ∧ r.x = x ∧ r.fl = fl
  | [], _, _, _, _, h => by cases h
  | r :: rs, n, x, i, fl, h => by
    unfold fnsFrom at h
    rw [List.lookup_cons] at h
    cases q : (x == r.x) with
    | true =>
      rw [q] at h
      cases h
      exact ⟨r, 0, rfl, rfl, (beq_iff_eq.mp q).symm, rfl⟩
    | false =>
      rw [q] at h
      obtain ⟨r', j, h1, h2, h3, h4⟩ := fns_get h
      exact ⟨r', j + 1, by omega, h2, h3, h4⟩
def scB (r : Fd) : Bool := decide ((defScope r.st).kind = .function) && (!(defScope r.st).isCoroutine && (!(defScope r.st).isGenerator && (decide r.N.Nodup && (decide (r.N.take r.ps.length = r.ps) &&
  (r.ps.all (fun x => decide ((defScope r.st).names.lookup x = some .local) || decide ((defScope r.st).names.lookup x = some .cell)) && ((defScope r.st).names.all (fun y => !decide (y.2 = .free)) && (decide (r.fl.length = r.ps.length) && r.N.all okNm)))))))
theorem scB_ok {r : Fd} (h : scB r = true) : FnScope r.N r.ps (defScope r.st) ∧ r.fl.length = r.ps.length ∧ ∀ x ∈ r.N, okNm x = true := by
  unfold scB at h
  simp only [Bool.and_eq_true, decide_eq_true_eq, Bool.not_eq_true', List.all_eq_true, Bool.or_eq_true] at h
  obtain ⟨h1, h2, h3, h4, h5, h6, h7, h8, h9⟩ := h
  exact ⟨⟨h1, h2, h3, h4, h5, h6, fun y hy => of_decide_eq_false (h7 y hy)⟩, h8, h9⟩
def BindOk (r : Fd) : Prop := ∀ (kV doc pm : Value) (an : Option Addr) (cdv ct : Value) (us : List Value), us.length = r.ps.length → bindArgs (PySem.W.fnOf r.x r.x (defArgs r.st) (defBody r.st) (defScope r.st) .none kV doc pm an cdv ct) ⟨us, []⟩ = pure (r.ps.zip us)
def KBindOk (r : Fd) (n : Nat) (ks : List Str) (perm : List Nat) : Prop := ∀ (kV doc pm : Value) (an : Option Addr) (cdv ct : Value) (us ws : List Value), us.length = n → ws.length = ks.length →
  bindArgs (PySem.W.fnOf r.x r.x (defArgs r.st) (defBody r.st) (defScope r.st) .none kV doc pm an cdv ct) ⟨us, ks.zip ws⟩ = pure (r.ps.zip (pick n ks.length perm us ws))
def AllR {α : Type} (p : α → Prop) : List α → Prop
  | [] => True
  | r :: rs => p r ∧ AllR p rs
theorem AllR.get {α : Type} {p : α → Prop} : ∀ {rs : List α}, AllR p rs → ∀ r ∈ rs, p r
  | [], _, _, h => by cases h
  | r :: rs, a, s, h => by
    rcases List.mem_cons.mp h with rfl | h
    · exact a.1
    · exact AllR.get a.2 s h
def KwOk (rs : List Fd) (q : Str × Nat × List Str × List Nat) : Prop := ∃ i, ∃ r, rs[i]? = some r ∧ r.x = q.1 ∧ (∀ (j : Nat) (r' : Fd), rs[j]? = some r' → r'.x = q.1 → j = i) ∧ q.2.2.2.length = r.fl.length ∧ (∀ j ∈ q.2.2.2, j < q.2.1 + q.2.2.1.length) ∧ KBindOk r q.2.1 q.2.2.1 q.2.2.2 ∧ r.ps ≠ []
/-! ## what the heap has -/
def relDs (rel : D → Value → Bool) : List D → List Value → Bool
  | [], [] => true
  | d :: ds, u :: us => rel d u && relDs rel ds us
  | _, _ => false
def relDn (K : PySem.W.Frag) : Nat → D → Value → Bool
  | 0, _, _ => false
  | n + 1, d, u => match d, u with
    | .none, .none => true
    | .bool b, .bool c => b == c
    | .int i, .int j _ => decide (i = j)
    | .str x, .str y _ => decide (x = y)
    | .tuple ds, .ref a => (match K.lookup a with
      | some ⟨.type c, _, .seq its _, _⟩ => decide (c = "tuple") && (decide (its.size ≤ sizeLine) && relDs (relDn K n) ds its.toList)
      | _ => false)
    | _, _ => false
theorem relDs_ok {K : PySem.W.Frag} {rel : D → Value → Bool} (hr : ∀ d u, rel d u = true → ∃ v, RelV v u ∧ ∀ Z, Dp K Z v d) : ∀ {ds : List D} {us : List Value}, relDs rel ds us = true → ∃ vs, Vals vs us ∧ ∀ Z, DpAll K Z vs ds
  | [], [], _ => ⟨[], .nil, fun _ => .nil⟩
  | [], _ :: _, h => by cases h
  | _ :: _, [], h => by cases h
  | d :: ds, u :: us, h => by
    obtain ⟨h1, h2⟩ := He.ba (show (rel d u && relDs rel ds us) = true from h)
    obtain ⟨v, r, q⟩ := hr d u h1
    obtain ⟨vs, rs, qs⟩ := relDs_ok hr h2
    exact ⟨v :: vs, .cons r rs, fun Z => .cons (q Z) (qs Z)⟩
theorem relDn_ok {K : PySem.W.Frag} : ∀ (n : Nat) (d : D) (u : Value), relDn K n d u = true → ∃ v, RelV v u ∧ ∀ Z, Dp K Z v d
  | 0, _, _, h => by cases h
  | n + 1, d, u, h => by
    unfold relDn at h
    split at h
    · exact ⟨.non, rfl, fun _ => .non⟩
    · rename_i b c
      have e : b = c := eq_of_beq h
      subst e
      exact ⟨.bl b, rfl, fun _ => .bl b⟩
    · rename_i i j t
      have e : i = j := of_decide_eq_true h
      subst e
      exact ⟨.int i, ⟨t, rfl⟩, fun _ => .int i⟩
    · rename_i x y t
      have e : x = y := of_decide_eq_true h
      subst e
      exact ⟨.str x, ⟨t, rfl⟩, fun _ => .str x⟩
    · rename_i ds a
      split at h
      · rename_i c dd its m sl q
        obtain ⟨h1, h⟩ := He.ba h
        obtain ⟨h2, h3⟩ := He.ba h
        obtain ⟨vs, rs, qs⟩ := relDs_ok (relDn_ok n) h3
        exact ⟨.ref a, rfl, fun Z => .tup (.inr ⟨_, its, m, q, congrArg Value.type (of_decide_eq_true h1), rfl, of_decide_eq_true h2, rs⟩) (qs Z)⟩
      · cases h
    · cases h
/-- a constant of the module; a name that stands for a built-in function -/
def conB (K : PySem.W.Frag) (q : Str × D) : Bool := match PySem.W.nsIn K mainGlobals q.1 with
  | some (some u) => relDn K 8 q.2 u
  | _ => false
def modB (K : PySem.W.Frag) (q : Str × String) : Bool := He.eqO (PySem.W.nsIn K mainGlobals q.1) (some (some (.builtin q.2)))
def exB (T : Tab) (K : PySem.W.Frag) : Bool := T.cons.all (conB K) && T.mods.all (modB K)
def faOf (rs : List Fd) (T : Tab) : List He.Fa := rs.map (fun r => .glo r.x) ++ T.blts.map fun q => .free q.1
def fnOf (rs : List Fd) : List He.DefD := rs.map fun r => ⟨(r.x, none), r.x, r.x, defArgs r.st, defBody r.st, defScope r.st, [], []⟩
def tabB (rs : List Fd) (T : Tab) : Bool := rs.all scB && (rs.all (fun r => okNm r.x) && (T.cons.all (fun q => okNm q.1) && (T.mods.all (fun q => okNm q.1) && T.blts.all fun q => decide (q.1 = (q.2.name : Str)))))
theorem lookup_mem {α : Type} {x : Str} {v : α} : ∀ {l : List (Str × α)}, l.lookup x = some v → (x, v) ∈ l
  | [], h => by cases h
  | (y, w) :: l, h => by
    rw [List.lookup_cons] at h
    cases q : (x == y) with
    | true => rw [q] at h; cases h; rw [beq_iff_eq.mp q]; exact List.mem_cons_self ..
    | false => rw [q] at h; exact List.mem_cons_of_mem _ (lookup_mem h)
/-- what the head must tell -/
structure Wd (rs : List Fd) (T : Tab) (K : PySem.W.Frag) (mg : Str → Option Value) : Prop where
  fd : ∀ r ∈ rs, ∃ fd, FunD K r.x r.x (defArgs r.st) (defBody r.st) (defScope r.st) [] [] (He.ga K r.x) fd
  glo : ∀ r ∈ rs, mg r.x = some (.ref (He.ga K r.x))
  con : ∀ q ∈ T.cons, ∃ u v, mg q.1 = some u ∧ RelV v u ∧ ∀ Z, Dp K Z v q.2
  mod : ∀ q ∈ T.mods, mg q.1 = some (.builtin q.2)
  blt : ∀ q ∈ T.blts, mg q.1 = none
theorem wd_of {rs : List Fd} {T : Tab} {w : World} {h h' : Heap} {K : PySem.W.Frag} {mg : Str → Option Value} (X : K.In h) (G : h.Ns mainGlobals mg) (c : He.SaysX (faOf rs T) (fnOf rs) [] [] (exB T) w h' K) : Wd rs T K mg := by
  have d : He.SaysD (faOf rs T) (fnOf rs) K := congrArg (fun z : He.AlT => z.1) c.t
  obtain ⟨e1, e2⟩ := He.ba (show (T.cons.all (conB K) && T.mods.all (modB K)) = true from c.more)
  refine ⟨fun r hr => ?_, fun r hr => ?_, fun q hq => ?_, fun q hq => ?_, fun q hq => ?_⟩
  · exact d.defs (d := ⟨(r.x, none), r.x, r.x, defArgs r.st, defBody r.st, defScope r.st, [], []⟩) (List.mem_map.mpr ⟨r, hr, rfl⟩)
  · exact He.glo_ok X G (d.facts (f := .glo r.x) (List.mem_append_left _ (List.mem_map.mpr ⟨r, hr, rfl⟩)))
  · have := List.all_eq_true.mp e1 q hq
    unfold conB at this
    split at this
    · rename_i u e
      obtain ⟨v, r, z⟩ := relDn_ok 8 _ _ this
      exact ⟨u, v, PySem.W.mg_of X G e, r, z⟩
    · cases this
  · have := List.all_eq_true.mp e2 q hq
    exact PySem.W.mg_of X G (He.eqO_ok this)
  · exact He.free_ok X G (d.facts (f := .free q.1) (List.mem_append_right _ (List.mem_map.mpr ⟨q, hq, rfl⟩)))
/-- the program's defs all keep what their evaluation says -/
theorem all_ok {P : Program} {w : World} {K : PySem.W.Frag} {mg : Str → Option Value} {base : Heap} {rs : List Fd} {T : Tab} {wf fuel : Nat} (W : Wd rs T K mg) (hT : tabB rs T = true) (hfn : T.fns = fnsFrom 0 rs) (hb : AllR BindOk rs) (hk : AllR (KwOk rs) T.kws) :
    ∀ (n i : Nat) (r : Fd), rs[i]? = some r → ∀ fd, FunD K r.x r.x (defArgs r.st) (defBody r.st) (defScope r.st) [] [] (He.ga K r.x) fd → FnG P w K mg base n (He.ga K r.x) fd r.ps (spF K r.fl.length (runF rs T wf fuel n i)) := by
  unfold tabB at hT
  simp only [Bool.and_eq_true] at hT
  obtain ⟨t1, t2, t3, t4, t5⟩ := hT
  intro n
  induction n with
  | zero =>
    intro i r hr fd F
    have no : ∀ {vs : List V} {H : Hp} {Q : VK} {E : XK}, spF K r.fl.length (runF rs T wf fuel 0 i) vs H Q E → False := fun h => by
      obtain ⟨_, _, _, _, _, _, _, _, _, e, _⟩ := h
      cases e
    exact ⟨fun vs H Q E h => (no h).elim, fun A _ _ outer s H _ args us _ vs _ Q E h => (no h).elim⟩
  | succ n ih =>
    intro i r hr fd F
    have hm := List.mem_of_getElem? hr
    obtain ⟨S, hl, hn⟩ := scB_ok (List.all_eq_true.mp t1 r hm)
    have e : runF rs T wf fuel (n + 1) i = callFn r.N.length (dSs (den T r.N (runF rs T wf fuel n) wf fuel) (defScope r.st) (defBody r.st)) := by
      show (match rs[i]? with | some r => _ | none => _) = _
      rw [hr]
    rw [e, hl]
    refine fn_ok F S fun cdv A hG outer s H E hroom => ?_
    have hroom0 : Room n (A.deeper (envOfC r.x (defScope r.st) s.heap.objs.size (He.ga K r.x) cdv)) := ⟨hroom.hd, hroom.dp, by have h1 := hroom.un; have h2 : (A.deeper (envOfC r.x (defScope r.st) s.heap.objs.size (He.ga K r.x) cdv)).in1.in1.units = (A.deeper (envOfC r.x (defScope r.st) s.heap.objs.size (He.ga K r.x) cdv)).units + 2 := rfl; omega⟩
    have ok : XOk T r.N (runF rs T wf fuel n) (cxOf CX0 P w K mg base r.N r.x (defScope r.st) (He.ga K r.x) cdv A outer s H E).nox := by
      refine ⟨rfl, S.nd, hn, rfl, S.kind, hroom0.units, hG, rfl, ?_, ?_, ?_, ?_, ?_, ?_⟩
      · intro x j fl h
        rw [hfn] at h
        obtain ⟨r', j', h1, h2, h3, h4⟩ := fns_get h
        have hm' := List.mem_of_getElem? h2
        obtain ⟨fd', F'⟩ := W.fd r' hm'
        have ej : j' = j := by omega
        rw [← h3, ← h4, ← ej]
        refine ⟨List.all_eq_true.mp t2 r' hm', _, fd', r'.ps, n, W.glo r' hm', F'.kp, F'.bindsN (hb.get r' hm'), ih j' r' h2 fd' F', hroom0⟩
      · intro x j fl m ks perm h hkw
        rw [hfn] at h
        obtain ⟨r', j', h1, h2, h3, h4⟩ := fns_get h
        have hm' := List.mem_of_getElem? h2
        obtain ⟨i0, r0, g1, g2, g3, g4, g5, g6, g7⟩ := hk.get _ hkw
        have ej : j' = j := by omega
        have ei : j' = i0 := g3 j' r' h2 h3
        subst ei
        rw [g1] at h2
        have er : r0 = r' := Option.some.inj h2
        subst er
        obtain ⟨fd', F'⟩ := W.fd r0 hm'
        rw [← h3, ← h4, ← ej]
        refine ⟨g4, g5, _, fd', r0.ps, n, W.glo r0 hm', F'.kp, ⟨fun s us ws _ hlen => ?_, fun r1 r2 => pick_rel r1 r2⟩, ih j' r0 g1 fd' F', hroom0⟩
        have hp : us.length = m ∧ ws.length = ks.length := by
          by_cases hh : us.length = m ∧ ws.length = ks.length
          · exact hh
          · unfold pick at hlen
            rw [if_neg hh] at hlen
            exact absurd (List.eq_nil_of_length_eq_zero hlen.symm) g7
        obtain ⟨oc, od, dV, kV, doc, pm, an, cd, ct, osl, rfl, lk, hcd, hD, hK⟩ := F'.ex
        rcases hD with ⟨_, rfl⟩ | ⟨e, _⟩
        · exact .of_eq (g6 kV doc pm an cd ct us ws hp.1 hp.2)
        · exact absurd rfl e
      · intro x j fl h h1
        rw [hfn] at h
        obtain ⟨r', j', g1, g2, g3, g4⟩ := fns_get h
        have hm' := List.mem_of_getElem? g2
        obtain ⟨fd', F'⟩ := W.fd r' hm'
        have ej : j' = j := by omega
        obtain ⟨_, hl', _⟩ := scB_ok (List.all_eq_true.mp t1 r' hm')
        have hf := ih j' r' g2 fd' F'
        rw [g4, h1] at hf
        rw [← g3, ← ej]
        exact ⟨List.all_eq_true.mp t2 r' hm', _, fd', r'.ps, n, by rw [← hl', g4]; exact h1, W.glo r' hm', F'.bindsN (hb.get r' hm'), hf, hroom⟩
      · intro x d h
        have hm' := lookup_mem h
        exact ⟨List.all_eq_true.mp t3 _ hm', W.con _ hm'⟩
      · intro x b h
        have hm' := lookup_mem h
        exact ⟨of_decide_eq_true (List.all_eq_true.mp t5 _ hm'), W.blt _ hm'⟩
      · intro x id h
        have hm' := lookup_mem h
        exact ⟨List.all_eq_true.mp t4 _ hm', W.mod _ hm'⟩
    exact dSs_ok (den_good fuel) ok (fun _ => rfl) _
end Ev
namespace Ev
open PySem PySem.Spec PyProof.Rows L2
/-! ## the law's end -/
theorem ints_da {K : PySem.W.Frag} {Z : Hp} : ∀ ns : List Int, DpAll K Z (ns.map V.int) (ns.map PyData.int)
  | [] => .nil
  | n :: ns => .cons (.int n) (ints_da ns)
theorem end_sp {K : PySem.W.Frag} {H : Hp} {a : Addr} {ns : List Int} {g : Fn} {E : XK} (hS : SqL K H a (ns.map V.int)) (e : g [.val (.list (ns.map PyData.int))] = some (.val (.bool true), [])) : spF K 1 g [.ref a] H (fun v _ => v = .bl true) E := by
  refine ⟨rfl, H, H, [.val (.list (ns.map PyData.int))], .val (.bool true), [], Same.refl _, Same.refl _, .val (.lst hS (ints_da ns)) .nil, e, fun v Z' H' _ _ _ _ q => ?_⟩
  cases q
  rfl
theorem law_end {l : PySem.W.OpenLaw} {q : Program} {loose : List Str} {XP : (Str → Option Value) → Heap → Prop} {d : DefRec} {rs : List Fd} {T : Tab} {wf fuel i n m : Nat} {r : Fd} {p : Str} (hT : tabB rs T = true) (hfn : T.fns = fnsFrom 0 rs) (hb : AllR BindOk rs) (hk : AllR (KwOk rs) T.kws)
    (hr : rs[i]? = some r) (hx : d.name = r.x) (hps : r.ps = [p]) (hfl : r.fl = [false]) (hn : l.most = some m) (hn2 : m ≤ sizeLine) (hdf : d.params.defaults = []) (hroom : Room n callerA)
    (main : ∀ ns : List Int, ns.length ≤ m → runF rs T wf fuel n i [.val (.list (ns.map PyData.int))] = some (.val (.bool true), [])) :
    PySem.W.WalkO q loose XP (He.hookX 4 (faOf rs T) (fnOf rs) [] [] (exB T)).says l.row.toRowW d [] (fun f vs => PySem.call f vs) := by
  refine walk_g (l := l) (n := m) (k := n) (x := p) hn hn2 hdf hroom ?_
  intro w mg fa h Y G hmg0
  obtain ⟨K, KX, c⟩ := Y
  have hm := List.mem_of_getElem? hr
  have W : Wd rs T K mg := wd_of KX G c
  obtain ⟨fd, F⟩ := W.fd r hm
  have e := W.glo r hm
  rw [hx, e] at hmg0
  cases hmg0
  have b := FunD.bindsA (ps := r.ps) F (hb.get r hm)
  refine ⟨K, fd, spF K r.fl.length (runF rs T wf fuel n i), KX, fun s u => ?_, fun H a ns hl _ hS => ?_, fun base _ _ => ?_⟩
  · have := b s [u] (by rw [hps]; rfl)
    rw [hps] at this
    exact this
  · rw [hfl]
    exact end_sp hS (main ns hl)
  · have := all_ok (P := l.prog) (w := w) (base := base) (wf := wf) (fuel := fuel) W hT hfn hb hk n i r hr fd F
    rw [hps] at this
    exact this
end Ev
namespace Ev
open PySem PySem.Spec PyProof.Rows L2
/-! ## evaluation, step by step (to be rewritten from the outside) -/
section
variable {env : En} {i : Nat} {α : Type}
theorem x_var : eVar i env = (match env[i]? with
  | some (.val d) => some (d, env)
  | some (.own ds) => some (.list ds, env.set i (.val (.list ds)))
  | some (.mat dss) => some (.list (dss.map PyData.list), env.set i (.val (.list (dss.map PyData.list))))
  | _ => none) := rfl
theorem x_C {d : D} : eC d env = some (d, env) := rfl
theorem x_op {g : D → D → Option D} {a b : Fx D} : eOp g a b env = (match a env with
  | some (x, e) => (match b e with
    | some (y, e2) => (match g x y with
      | some z => some (z, e2)
      | none => none)
    | none => none)
  | none => none) := by
  unfold eOp
  rcases a env with _ | ⟨x, e⟩
  · rfl
  · dsimp only [Option.bind]
    rcases b e with _ | ⟨y, e2⟩
    · rfl
    · dsimp only [Option.bind]
      cases g x y <;> rfl
theorem x_fz {f : Fx R} : eFz f env = (match f env with
  | some (.val d, e) => some (d, e)
  | some (.fresh ds, e) => some (.list ds, e)
  | some (.mat dss, e) => some (.list (dss.map PyData.list), e)
  | none => none) := by
  unfold eFz
  rcases f env with _ | ⟨r, e⟩
  · rfl
  · cases r <;> rfl
theorem x_rV {f : Fx D} : rV f env = (match f env with
  | some (d, e) => some (.val d, e)
  | none => none) := by
  unfold rV
  rcases f env with _ | ⟨r, e⟩ <;> rfl
theorem x_B {f : Fx D} : eB f env = (match f env with
  | some (.bool b, e) => some (b, e)
  | _ => none) := rfl
theorem x_chain {g g' : D → D → Option D} {a b c : Fx D} : eChain g g' a b c env = (match a env with
  | some (x, e) => (match b e with
    | some (y, e2) => (match g x y with
      | some (.bool t) => if t = true then (match c e2 with
        | some (z, e3) => (match g' y z with
          | some w => some (w, e3)
          | none => none)
        | none => none) else some (.bool false, e2)
      | _ => none)
    | none => none)
  | none => none) := by
  unfold eChain
  rcases a env with _ | ⟨x, e⟩
  · rfl
  · dsimp only [Option.bind]
    rcases b e with _ | ⟨y, e2⟩
    · rfl
    · dsimp only [Option.bind]
      rcases g x y with _ | d
      · rfl
      · cases d with
        | bool t =>
          cases t with
          | false => rfl
          | true =>
            simp only [if_true]
            rcases c e2 with _ | ⟨z, e3⟩
            · rfl
            · dsimp only [Option.bind]
              cases g' y z <;> rfl
        | _ => rfl
theorem x_tru {f : Fx D} : eTru f env = (match f env with
  | some (d, e) => (match truD d with
    | some b => some (b, e)
    | none => none)
  | none => none) := by
  unfold eTru
  rcases f env with _ | ⟨d, e⟩
  · rfl
  · dsimp only [Option.bind]
    cases truD d <;> rfl
theorem x_notT {f : Fx Bool} : eNotT f env = (match f env with
  | some (b, e) => some (!b, e)
  | none => none) := by
  unfold eNotT
  rcases f env with _ | ⟨d, e⟩ <;> rfl
theorem x_andT {f g : Fx Bool} : eAndT f g env = (match f env with
  | some (b, e) => if b = true then g e else some (false, e)
  | none => none) := by
  unfold eAndT
  rcases f env with _ | ⟨b, e⟩
  · rfl
  · cases b <;> rfl
theorem x_orT {f g : Fx Bool} : eOrT f g env = (match f env with
  | some (b, e) => if b = true then some (true, e) else g e
  | none => none) := by
  unfold eOrT
  rcases f env with _ | ⟨b, e⟩
  · rfl
  · cases b <;> rfl
theorem x_and {f g : Fx D} : eAnd f g env = (match f env with
  | some (.bool b, e) => if b = true then g e else some (.bool false, e)
  | _ => none) := by
  unfold eAnd
  rcases f env with _ | ⟨d, e⟩
  · rfl
  · cases d with
    | bool b => cases b <;> rfl
    | _ => rfl
theorem x_or {f g : Fx D} : eOr f g env = (match f env with
  | some (.bool b, e) => if b = true then some (.bool true, e) else g e
  | _ => none) := by
  unfold eOr
  rcases f env with _ | ⟨d, e⟩
  · rfl
  · cases d with
    | bool b => cases b <;> rfl
    | _ => rfl
theorem x_not {f : Fx D} : eNot f env = (match f env with
  | some (.bool b, e) => some (.bool (!b), e)
  | _ => none) := rfl
theorem x_neg {f : Fx D} : eNeg f env = (match f env with
  | some (.int i, e) => some (.int (-i), e)
  | _ => none) := rfl
theorem x_if {c : Fx Bool} {f g : Fx α} : eIf c f g env = (match c env with
  | some (b, e) => if b = true then f e else g e
  | none => none) := by
  unfold eIf
  rcases c env with _ | ⟨b, e⟩
  · rfl
  · cases b <;> rfl
theorem x_aNil : aNil env = some ([], env) := rfl
theorem x_aVal {f : Fx D} {g : Fx (List AR)} : aVal f g env = (match f env with
  | some (d, e) => (match g e with
    | some (as, e2) => some (.val d :: as, e2)
    | none => none)
  | none => none) := by
  unfold aVal
  rcases f env with _ | ⟨d, e⟩
  · rfl
  · dsimp only [Option.bind]
    rcases g e with _ | ⟨as, e2⟩ <;> rfl
theorem x_aSlot {g : Fx (List AR)} : aSlot i g env = (match env[i]? with
  | some (.val d) => (match g env with
    | some (as, e) => some (.val d :: as, e)
    | none => none)
  | some s => if isOwn s = true then (match g env with
    | some (as, e) => some (.slot i :: as, e)
    | none => none) else none
  | none => none) := by
  unfold aSlot
  rcases env[i]? with _ | s
  · rfl
  · cases s <;> (dsimp only; rcases g env with _ | ⟨as, e2⟩ <;> rfl)
theorem x_aTmp {f : Fx R} {g : Fx (List AR)} : aTmp f g env = (match f env with
  | some (.fresh ds, e) => (match g e with
    | some (as, e2) => some (.tmp ds :: as, e2)
    | none => none)
  | _ => none) := by
  unfold aTmp
  rcases f env with _ | ⟨r, e⟩
  · rfl
  · cases r with
    | val => rfl
    | fresh ds =>
      dsimp only
      rcases g e with _ | ⟨as, e2⟩ <;> rfl
    | mat => rfl
theorem x_aR {f : Fx R} {g : Fx (List AR)} : aR f g env = (match f env with
  | some (.fresh ds, e) => (match g e with
    | some (as, e2) => some (.tmp ds :: as, e2)
    | none => none)
  | some (.val d, e) => (match g e with
    | some (as, e2) => some (.val d :: as, e2)
    | none => none)
  | _ => none) := by
  unfold aR
  rcases f env with _ | ⟨r, e⟩
  · rfl
  · cases r with
    | val d =>
      dsimp only
      rcases g e with _ | ⟨as, e2⟩ <;> rfl
    | fresh ds =>
      dsimp only
      rcases g e with _ | ⟨as, e2⟩ <;> rfl
    | mat => rfl
theorem x_call {g : Fn} {f : Fx (List AR)} : eCall g f env = (match f env with
  | some (as, env1) => if natNodup (slotsOf as) = true then
      (match toAv env1 as with
      | some avs => (match g avs with
        | some (r, outs) => (match putOuts as outs env1 with
          | some e => some (r, e)
          | none => none)
        | none => none)
      | none => none) else none
  | none => none) := by
  unfold eCall
  rcases f env with _ | ⟨as, e⟩
  · rfl
  · dsimp only
    rcases toAv e as with _ | avs
    · rfl
    · dsimp only
      rcases g avs with _ | ⟨r, outs⟩
      · rfl
      · dsimp only
        rcases putOuts as outs e with _ | q <;> rfl
theorem x_callK {g : Fn} {n m : Nat} {perm : List Nat} {f fk : Fx (List D)} : eCallK g n m perm f fk env = (match f env with
  | some (ds, e) => (match fk e with
    | some (es, e2) => (match g ((pick n m perm ds es).map .val) with
      | some (r, []) => some (r, e2)
      | _ => none)
    | none => none)
  | none => none) := by
  unfold eCallK
  rcases f env with _ | ⟨ds, e⟩
  · rfl
  · dsimp only [Option.bind]
    rcases fk e with _ | ⟨es, e2⟩
    · rfl
    · rfl
theorem x_dNil : dNil env = some ([], env) := rfl
theorem x_dCons {f : Fx D} {g : Fx (List D)} : dCons f g env = (match f env with
  | some (d, e) => (match g e with
    | some (ds, e2) => some (d :: ds, e2)
    | none => none)
  | none => none) := by
  unfold dCons
  rcases f env with _ | ⟨d, e⟩
  · rfl
  · dsimp only [Option.bind]
    rcases g e with _ | ⟨as, e2⟩ <;> rfl
theorem x_tup {f : Fx (List D)} : eTup f env = (match f env with
  | some (ds, e) => if ds.length ≤ sizeLine then some (.tuple ds, e) else none
  | none => none) := rfl
theorem x_lst {f : Fx (List D)} : eLst f env = (match f env with
  | some (ds, e) => if ds.length ≤ sizeLine then some (.fresh ds, e) else none
  | none => none) := rfl
theorem x_itemN {f : Fx D} : eItemN i f env = (match env[i]? with
  | some (.val d) => (match f env with
    | some (k, e) => (match gItem d k with
      | some z => some (z, e)
      | none => none)
    | none => none)
  | some (.own _) => ownItem i (f env)
  | some (.par _) => ownItem i (f env)
  | _ => none) := by
  unfold eItemN
  rcases env[i]? with _ | s
  · rfl
  · cases s with
    | val d =>
      dsimp only
      rcases f env with _ | ⟨k, e⟩
      · rfl
      · dsimp only [Option.bind]
        cases gItem d k <;> rfl
    | _ => rfl
theorem x_ownItem {k : Int} {e : En} : ownItem i (some (.int k, e)) = (match e[i]? with
  | some (.own ds) => (match atI ds k with
    | some z => some (z, e)
    | none => none)
  | some (.par ds) => (match atI ds k with
    | some z => some (z, e)
    | none => none)
  | _ => none) := by
  unfold ownItem
  dsimp only
  rcases e[i]? with _ | s
  · rfl
  · cases s with
    | own ds =>
      dsimp only
      cases atI ds k <;> rfl
    | par ds =>
      dsimp only
      cases atI ds k <;> rfl
    | _ => rfl
theorem x_lenN : eLenN i env = (match env[i]? with
  | some (.val (.list ds)) => some (.int ds.length, env)
  | some (.val (.tuple ds)) => some (.int ds.length, env)
  | some (.val (.str z)) => if z.length ≤ sizeLine then some (.int z.length, env) else none
  | some (.own ds) => some (.int ds.length, env)
  | some (.par ds) => some (.int ds.length, env)
  | _ => none) := rfl
theorem x_blt {g : List D → Option D} {f : Fx (List D)} : eBlt g f env = (match f env with
  | some (ds, e) => (match g ds with
    | some z => some (z, e)
    | none => none)
  | none => none) := by
  unfold eBlt
  rcases f env with _ | ⟨ds, e⟩
  · rfl
  · dsimp only [Option.bind]
    cases g ds <;> rfl
theorem x_isi {t : String} {f : Fx D} : eIsi t f env = (match f env with
  | some (d, e) => (match isiD d t with
    | some b => some (.bool b, e)
    | none => none)
  | none => none) := by
  unfold eIsi
  rcases f env with _ | ⟨d, e⟩
  · rfl
  · dsimp only [Option.bind]
    cases isiD d t <;> rfl
theorem x_list {f : Fx D} : eList f env = (match f env with
  | some (d, e) => (match seqD d with
    | some ds => some (.fresh ds, e)
    | none => none)
  | none => none) := by
  unfold eList
  rcases f env with _ | ⟨d, e⟩
  · rfl
  · dsimp only [Option.bind]
    cases seqD d <;> rfl
theorem x_rgL1 {f : Fx D} : eRgL1 f env = (match f env with
  | some (.int j, e) => if rgB 0 j = true then some (.fresh (rangeD 0 (j - 0).toNat), e) else none
  | _ => none) := rfl
theorem x_rgL2 {f g : Fx D} : eRgL2 f g env = (match f env with
  | some (.int i, e) => (match g e with
    | some (.int j, e2) => if rgB i j = true then some (.fresh (rangeD i (j - i).toNat), e2) else none
    | _ => none)
  | _ => none) := rfl
theorem x_iSeq {f : Fx D} : iSeq f env = (match f env with
  | some (d, e) => (match seqD d with
    | some ds => some (ds, e)
    | none => none)
  | none => none) := by
  unfold iSeq
  rcases f env with _ | ⟨d, e⟩
  · rfl
  · dsimp only [Option.bind]
    cases seqD d <;> rfl
theorem x_iZip {f : Fx (List D)} : iZip f env = (match f env with
  | some (d, e) => (match zipOf d with
    | some ds => some (ds, e)
    | none => none)
  | none => none) := by
  unfold iZip
  rcases f env with _ | ⟨d, e⟩
  · rfl
  · dsimp only [Option.bind]
    cases zipOf d <;> rfl
theorem x_range1 {f : Fx D} : iRange1 f env = (match f env with
  | some (.int j, e) => some (rangeD 0 (j - 0).toNat, e)
  | _ => none) := rfl
theorem x_range2 {f g : Fx D} : iRange2 f g env = (match f env with
  | some (.int i, e) => (match g e with
    | some (.int j, e2) => some (rangeD i (j - i).toNat, e2)
    | _ => none)
  | _ => none) := rfl
theorem x_addR {f g : Fx D} : eAddR f g env = (match f env with
  | some (d, e) => (match g e with
    | some (d2, e2) => (match d, d2 with
      | .list xs, .list ys => if xs.length + ys.length ≤ sizeLine then some (.fresh (xs ++ ys), e2) else none
      | _, _ => none)
    | none => none)
  | none => none) := by
  unfold eAddR
  rcases f env with _ | ⟨d, e⟩
  · rfl
  · show (g e).bind _ = _
    dsimp only
    rcases g e with _ | ⟨d2, e2⟩
    · rfl
    · cases d <;> first | rfl | (cases d2 <;> rfl)
theorem x_slice {f : Fx D} {lo hi : Fx (Option Int)} : eSlice f lo hi env = (match f env with
  | some (d, e) => (match lo e with
    | some (a, e1) => (match hi e1 with
      | some (b, e2) => (match d with
        | .list ds => some (.fresh (cutD ds a b), e2)
        | .tuple ds => some (.val (.tuple (cutD ds a b)), e2)
        | _ => none)
      | none => none)
    | none => none)
  | none => none) := by
  unfold eSlice
  rcases f env with _ | ⟨d, e⟩
  · rfl
  · dsimp only [Option.bind]
    rcases lo e with _ | ⟨a, e1⟩
    · rfl
    · dsimp only [Option.bind]
      rcases hi e1 with _ | ⟨b, e2⟩
      · rfl
      · cases d <;> rfl
theorem x_partN : ePart none env = some (none, env) := rfl
theorem x_partS {f : Fx D} : ePart (some f) env = (match f env with
  | some (.int i, e) => some (some i, e)
  | _ => none) := rfl
theorem x_comp {it : Fx (List D)} {g : Gf} {c : Fx Bool} {f : Fx D} {vs : List Nat} : eComp it g c f vs env = (match it env with
  | some (ds, e) => (match compL g c f vs ds [] (wipeE e vs) with
    | some (r, e2) => some (.fresh r, e2)
    | none => none)
  | none => none) := by
  unfold eComp
  rcases it env with _ | ⟨ds, e⟩
  · rfl
  · dsimp only
    rcases compL g c f vs ds [] (wipeE e vs) with _ | ⟨r, e2⟩ <;> rfl
theorem x_skip : sSkip env = some (.nx, env) := rfl
theorem x_stuck : sStuck env = none := rfl
theorem x_break : sBreak env = some (.bk, env) := rfl
theorem x_cont : sCont env = some (.ct, env) := rfl
theorem x_seq {f g : Fx Fl} : sSeq f g env = (match f env with
  | some (.nx, e) => g e
  | some (.bk, e) => some (.bk, e)
  | some (.ct, e) => some (.ct, e)
  | some (.rt r, e) => some (.rt r, e)
  | none => none) := by
  unfold sSeq
  rcases f env with _ | ⟨l, e⟩
  · rfl
  · cases l <;> rfl
theorem x_sIf {c : Fx Bool} {f g : Fx Fl} : sIf c f g env = (match c env with
  | some (b, e) => if b = true then f e else g e
  | none => none) := by
  unfold sIf
  rcases c env with _ | ⟨b, e⟩
  · rfl
  · cases b <;> rfl
theorem x_sExpr {f : Fx R} : sExpr f env = (match f env with
  | some (_, e) => some (.nx, e)
  | none => none) := by
  unfold sExpr
  rcases f env with _ | ⟨b, e⟩ <;> rfl
theorem x_ret {f : Fx R} : sRet f env = (match f env with
  | some (r, e) => some (.rt r, e)
  | none => none) := by
  unfold sRet
  rcases f env with _ | ⟨b, e⟩ <;> rfl
theorem x_retN : sRetN env = some (.rt (.val .none), env) := rfl
theorem x_move : eMove i env = (match env[i]? with
  | some (.val d) => some (.val d, env)
  | some (.own ds) => some (.fresh ds, env.set i .no)
  | some (.mat dss) => some (.mat dss, env.set i .no)
  | _ => none) := rfl
theorem x_setRv {d : D} : setR i (.val d) env = (match env[i]? with
  | some s => if isPar s = true then none else some (env.set i (.val d))
  | none => none) := rfl
theorem x_setRf {ds : List D} : setR i (.fresh ds) env = (match env[i]? with
  | some s => if isPar s = true then none else some (env.set i (.own ds))
  | none => none) := rfl
theorem x_setRm {dss : List (List D)} : setR i (.mat dss) env = (match env[i]? with
  | some s => if isPar s = true then none else some (env.set i (.mat dss))
  | none => none) := rfl
theorem x_set {f : Fx R} : sSet i f env = (match f env with
  | some (r, e) => (match setR i r e with
    | some e2 => some (.nx, e2)
    | none => none)
  | none => none) := by
  unfold sSet
  rcases f env with _ | ⟨r, e⟩
  · rfl
  · dsimp only [Option.bind]
    cases setR i r e <;> rfl
theorem x_gN {d : D} : gN i d env = setR i (.val d) env := rfl
theorem x_gsNil : gsNil [] env = some env := rfl
theorem x_gsCons {g : Gf} {h : List D → En → Option En} {d : D} {ds : List D} : gsCons g h (d :: ds) env = (match g d env with
  | some e => h ds e
  | none => none) := by
  show (g d env).bind (h ds) = _
  cases g d env <;> rfl
theorem x_gTup {n : Nat} {g : List D → En → Option En} {ds : List D} : gTup n g (.tuple ds) env = if ds.length = n then g ds env else none := rfl
theorem x_gIx {f : Fx D} {d : D} : gIx i f d env = (match env[i]? with
  | some s => if isOwn s = true then (match f env with
    | some (.int k, e) => setAt i k d e
    | _ => none) else none
  | none => none) := rfl
theorem x_setAt {k : Int} {d : D} : setAt i k d env = (match env[i]? with
  | some (.own ds) => (match ixN ds.length k with
    | some j => some (env.set i (.own (ds.set j d)))
    | none => none)
  | some (.par ds) => (match ixN ds.length k with
    | some j => some (env.set i (.par (ds.set j d)))
    | none => none)
  | _ => none) := by
  unfold setAt
  rcases env[i]? with _ | s
  · rfl
  · cases s with
    | own ds =>
      dsimp only
      cases ixN ds.length k <;> rfl
    | par ds =>
      dsimp only
      cases ixN ds.length k <;> rfl
    | _ => rfl
theorem x_asg {f : Fx D} {g : Gf} : sAsg f g env = (match f env with
  | some (d, e) => (match g d e with
    | some e2 => some (.nx, e2)
    | none => none)
  | none => none) := by
  unfold sAsg
  rcases f env with _ | ⟨r, e⟩
  · rfl
  · dsimp only [Option.bind]
    cases g r e <;> rfl
theorem x_par {is : List Nat} {f : Fx (List AR)} : sPar is f env = (match f env with
  | some (as, e) => (match setMany is as e with
    | some e2 => some (.nx, e2)
    | none => none)
  | none => none) := by
  unfold sPar
  rcases f env with _ | ⟨r, e⟩
  · rfl
  · dsimp only [Option.bind]
    cases setMany is r e <;> rfl
theorem x_sm0 : setMany [] [] env = some env := rfl
theorem x_smV {is : List Nat} {d : D} {as : List AR} : setMany (i :: is) (.val d :: as) env = (match setR i (.val d) env with
  | some e => setMany is as e
  | none => none) := by
  show (setR i (.val d) env).bind (setMany is as) = _
  cases setR i (.val d) env <;> rfl
theorem x_smF {is : List Nat} {ds : List D} {as : List AR} : setMany (i :: is) (.tmp ds :: as) env = (match setR i (.fresh ds) env with
  | some e => setMany is as e
  | none => none) := by
  show (setR i (.fresh ds) env).bind (setMany is as) = _
  cases setR i (.fresh ds) env <;> rfl
theorem x_app {f : Fx D} : sApp i f env = (match env[i]? with
  | some s => if isOwn s = true then (match f env with
    | some (d, e) => (match appAt i d e with
      | some e2 => some (.nx, e2)
      | none => none)
    | none => none) else none
  | none => none) := by
  unfold sApp
  rcases env[i]? with _ | s
  · rfl
  · dsimp only
    rcases f env with _ | ⟨d, e⟩
    · rfl
    · dsimp only
      cases appAt i d e <;> rfl
theorem x_for {f : Fx (List D)} {g : Gf} {b : Fx Fl} : sFor f g b env = (match f env with
  | some (ds, e) => forL g b ds e
  | none => none) := rfl
theorem x_for0 {g : Gf} {b : Fx Fl} : forL g b [] env = some (.nx, env) := rfl
theorem x_for1 {g : Gf} {b : Fx Fl} {d : D} {ds : List D} : forL g b (d :: ds) env = (match g d env with
  | some e1 => (match b e1 with
    | some (.nx, e2) => forL g b ds e2
    | some (.ct, e2) => forL g b ds e2
    | some (.bk, e2) => some (.nx, e2)
    | some (.rt r, e2) => some (.rt r, e2)
    | none => none)
  | none => none) := rfl
theorem x_comp0 {g : Gf} {c : Fx Bool} {f : Fx D} {vs : List Nat} {acc : List D} : compL g c f vs [] acc env = some (acc, env) := rfl
theorem x_comp1 {g : Gf} {c : Fx Bool} {f : Fx D} {vs : List Nat} {acc : List D} {d : D} {ds : List D} : compL g c f vs (d :: ds) acc env = (match g d env with
  | some e1 => (match c e1 with
    | some (b, e2) => if b = true then (match f e2 with
      | some (y, e3) => if acc.length < sizeLine then compL g c f vs ds (acc ++ [y]) (wipeE e3 vs) else none
      | none => none) else compL g c f vs ds acc (wipeE e2 vs)
    | none => none)
  | none => none) := by
  show (match g d env with
    | some e1 => _
    | none => none) = _
  rcases g d env with _ | e1
  · rfl
  · dsimp only
    rcases c e1 with _ | ⟨b, e2⟩
    · rfl
    · cases b <;> rfl
theorem x_fn {n : Nat} {b : Fx Fl} {avs : List AV} : callFn n b avs = (match b (initE n avs) with
  | some (.rt r, e) => (match outsOf avs 0 e with
    | some o => some (r, o)
    | none => none)
  | some (.nx, e) => (match outsOf avs 0 e with
    | some o => some (.val .none, o)
    | none => none)
  | _ => none) := by
  unfold callFn
  rcases b (initE n avs) with _ | ⟨l, e⟩
  · rfl
  · cases l with
    | nx =>
      dsimp only
      cases outsOf avs 0 e <;> rfl
    | rt r =>
      dsimp only
      cases outsOf avs 0 e <;> rfl
    | _ => rfl
end
/-! ### operators -/
section
variable {x y : Int} {b c : Bool} {xs ys : List D} {d e : D}
theorem q_addI : gAdd (.int x) (.int y) = some (.int (x + y)) := rfl
theorem q_addT : gAdd (.tuple xs) (.tuple ys) = if xs.length + ys.length ≤ sizeLine then some (.tuple (xs ++ ys)) else none := rfl
theorem q_addL : gAdd (.list xs) (.list ys) = if xs.length + ys.length ≤ sizeLine then some (.list (xs ++ ys)) else none := rfl
theorem q_subI : gSub (.int x) (.int y) = some (.int (x - y)) := rfl
theorem q_mulI (h : mulOk x y = true) : gMul (.int x) (.int y) = some (.int (x * y)) := if_pos h
theorem q_modI (h : 0 < y) : gMod (.int x) (.int y) = some (.int (x % y)) := by
  show (if decide (y ≠ 0) = true then some (PyData.int (x.fmod y)) else none) = _
  rw [if_pos (decide_eq_true (by omega)), Int.fmod_eq_emod_of_nonneg _ (by omega)]
theorem q_fdivI (h : 0 < y) (h2 : y.natAbs.log2 < 9000) : gFdiv (.int x) (.int y) = some (.int (x / y)) := by
  show (if fdivOk x y = true then some (PyData.int (x.fdiv y)) else none) = _
  rw [if_pos (by unfold fdivOk; simp only [Bool.and_eq_true, decide_eq_true_eq]; exact ⟨by omega, h2⟩), Int.fdiv_eq_ediv_of_nonneg _ (by omega)]
theorem q_ltI : gLt (.int x) (.int y) = some (.bool (decide (x < y))) := rfl
theorem q_leI : gLe (.int x) (.int y) = some (.bool (decide (x ≤ y))) := rfl
theorem q_gtI : gGt (.int x) (.int y) = some (.bool (decide (y < x))) := rfl
theorem q_geI : gGe (.int x) (.int y) = some (.bool (decide (y ≤ x))) := rfl
theorem q_isN : gIs d .none = some (.bool (isNone d)) := rfl
theorem q_isNotN : gIsNot d .none = some (.bool (!isNone d)) := rfl
theorem q_isB {b c : Bool} : gIs (.bool b) (.bool c) = some (.bool (decide (b = c))) := rfl
theorem q_isNotB {b c : Bool} : gIsNot (.bool b) (.bool c) = some (.bool (!decide (b = c))) := rfl
theorem q_eqI : gEq (.int x) (.int y) = some (.bool (decide (x = y))) := by
  simp [gEq, eqOk, PyData.plain, PyData.plainAll, PyData.depth, PyData.eqv] <;> rfl
theorem q_neI : gNe (.int x) (.int y) = some (.bool (!decide (x = y))) := by
  simp [gNe, eqOk, PyData.plain, PyData.plainAll, PyData.depth, PyData.eqv] <;> rfl
theorem q_eqB : gEq (.bool b) (.bool c) = some (.bool (b == c)) := by
  simp [gEq, eqOk, PyData.plain, PyData.plainAll, PyData.depth, PyData.eqv]
theorem q_eqT0 : gEq (.tuple []) (.tuple []) = some (.bool true) := by
  simp [gEq, eqOk, PyData.plain, PyData.plainAll, PyData.depth, PyData.depthAll, PyData.eqv, PyData.eqvAll]
theorem q_eqT1 : gEq (.tuple (d :: xs)) (.tuple []) = some (.bool false) := by
  have h : eqOk (.tuple (d :: xs)) (.tuple []) = true := eqOk_iff.mpr ⟨by simp only [PyData.depth, PyData.depthAll]; omega, .inr rfl⟩
  unfold gEq
  rw [if_pos h]
  simp [PyData.eqv, PyData.eqvAll]
theorem q_neT0 : gNe (.tuple []) (.tuple []) = some (.bool false) := by
  simp [gNe, eqOk, PyData.plain, PyData.plainAll, PyData.depth, PyData.depthAll, PyData.eqv, PyData.eqvAll]
theorem q_neT1 : gNe (.tuple (d :: xs)) (.tuple []) = some (.bool true) := by
  have h : eqOk (.tuple (d :: xs)) (.tuple []) = true := eqOk_iff.mpr ⟨by simp only [PyData.depth, PyData.depthAll]; omega, .inr rfl⟩
  unfold gNe
  rw [if_pos h]
  simp [PyData.eqv, PyData.eqvAll]
theorem q_eqL0 : gEq (.list []) (.list []) = some (.bool true) := by
  simp [gEq, eqOk, PyData.plain, PyData.plainAll, PyData.depth, PyData.depthAll, PyData.eqv, PyData.eqvAll]
theorem q_eqL1 : gEq (.list (d :: xs)) (.list []) = some (.bool false) := by
  have h : eqOk (.list (d :: xs)) (.list []) = true := eqOk_iff.mpr ⟨by simp only [PyData.depth, PyData.depthAll]; omega, .inr rfl⟩
  unfold gEq
  rw [if_pos h]
  simp [PyData.eqv, PyData.eqvAll]
theorem q_neL0 : gNe (.list []) (.list []) = some (.bool false) := by
  simp [gNe, eqOk, PyData.plain, PyData.plainAll, PyData.depth, PyData.depthAll, PyData.eqv, PyData.eqvAll]
theorem q_neL1 : gNe (.list (d :: xs)) (.list []) = some (.bool true) := by
  have h : eqOk (.list (d :: xs)) (.list []) = true := eqOk_iff.mpr ⟨by simp only [PyData.depth, PyData.depthAll]; omega, .inr rfl⟩
  unfold gNe
  rw [if_pos h]
  simp [PyData.eqv, PyData.eqvAll]
theorem q_int : gInt [.int x] = some (.int x) := rfl
theorem q_abs : gAbs [.int x] = some (.int (if x < 0 then -x else x)) := rfl
theorem q_min2 : gMin [.int x, .int y] = some (.int (min x y)) := by
  show some (PyData.int (if y < x then y else x)) = _
  congr 2
  split <;> omega
theorem q_max2 : gMax [.int x, .int y] = some (.int (max x y)) := by
  show some (PyData.int (if y > x then y else x)) = _
  congr 2
  split <;> omega
theorem q_divmodW (h : 0 < y) (h2 : y.natAbs.log2 < 9000) : gDivmod [.int x, .int y] = some (.tuple [.int (x / y), .int (x % y)]) := by
  show (if (decide (0 < y) && decide (y.natAbs.log2 < 9000)) = true then _ else none) = _
  rw [if_pos (by simp only [Bool.and_eq_true, decide_eq_true_eq]; exact ⟨h, h2⟩)]
theorem log2_small {y : Int} {k : Nat} (h : y.natAbs < 2 ^ k) : y.natAbs.log2 ≤ k := by
  by_cases z : y.natAbs = 0
  · rw [z]; simp
  · exact Nat.le_of_lt ((Nat.log2_lt z).mpr h)
theorem q_divmod (h : 0 < y) (h2 : y < 1073741824) : gDivmod [.int x, .int y] = some (.tuple [.int (x / y), .int (x % y)]) :=
  q_divmodW h (Nat.lt_of_le_of_lt (log2_small (k := 30) (by omega)) (by decide))
theorem mulOk_lt {a b : Nat} (ha : x.natAbs < 2 ^ a) (hb : y.natAbs < 2 ^ b) (h : a + b < 1000000) : mulOk x y = true := by
  have lg : ∀ {n k : Nat}, n < 2 ^ k → n.log2 ≤ k := fun {n k} h => by
    by_cases z : n = 0
    · subst z; simp
    · exact Nat.le_of_lt ((Nat.log2_lt z).mpr h)
  have := lg ha
  have := lg hb
  exact decide_eq_true (by omega)
end
theorem q_at0 {d : D} {xs : List D} : atI (d :: xs) 0 = some d := by
  unfold atI ixN
  rw [if_pos (by omega), if_pos (by simp only [List.length_cons]; omega)]
  rfl
theorem q_at1 {d e : D} {xs : List D} : atI (d :: e :: xs) 1 = some e := by
  unfold atI ixN
  rw [if_pos (by omega), if_pos (by simp only [List.length_cons]; omega)]
  rfl
theorem q_at2 {d e f : D} {xs : List D} : atI (d :: e :: f :: xs) 2 = some f := by
  unfold atI ixN
  rw [if_pos (by omega), if_pos (by simp only [List.length_cons]; omega)]
  rfl
theorem q_at3 {d e f g : D} {xs : List D} : atI (d :: e :: f :: g :: xs) 3 = some g := by
  unfold atI ixN
  rw [if_pos (by omega), if_pos (by simp only [List.length_cons]; omega)]
  rfl
theorem q_ix0 {n : Nat} : ixN (n + 1) 0 = some 0 := by
  unfold ixN
  rw [if_pos (by omega), if_pos (by omega)]
  rfl
theorem q_ix1 {n : Nat} : ixN (n + 1 + 1) 1 = some 1 := by
  unfold ixN
  rw [if_pos (by omega), if_pos (by omega)]
  rfl
theorem q_ix2 {n : Nat} : ixN (n + 1 + 1 + 1) 2 = some 2 := by
  unfold ixN
  rw [if_pos (by omega), if_pos (by omega)]
  rfl
theorem q_sz : sizeLine = 16777216 := rfl
theorem q_ixN {n : Nat} {i : Int} (h0 : 0 ≤ i) (h1 : i < n) : ixN n i = some i.toNat := by
  unfold ixN
  rw [if_pos h0, if_pos h1]
end Ev
namespace Ev
open PySem PySem.Spec PyProof.Rows L2
/-! ## more single steps -/
theorem q_iteS {b : Bool} [Decidable (b = true)] {x y : D} {e : En} : (if b = true then some (x, e) else some (y, e)) = some (if b = true then x else y, e) := by cases b <;> simp
theorem q_iteT {b : Bool} [Decidable (b = true)] {x y : Bool} {e : En} : (if b = true then some (x, e) else some (y, e)) = some (if b = true then x else y, e) := by cases b <;> simp
theorem q_iteR {b : Bool} [Decidable (b = true)] {x y : R} {e : En} : (if b = true then some (x, e) else some (y, e)) = some (if b = true then x else y, e) := by cases b <;> simp
theorem q_iteV {b : Bool} [Decidable (b = true)] {x y : D} : (if b = true then R.val x else R.val y) = R.val (if b = true then x else y) := by cases b <;> simp
theorem q_iteBB {b x y : Bool} [Decidable (b = true)] : (if b = true then PyData.bool x else PyData.bool y) = PyData.bool (if b = true then x else y) := by cases b <;> simp
theorem q_iteII {b : Bool} [Decidable (b = true)] {x y : Int} : (if b = true then PyData.int x else PyData.int y) = PyData.int (if b = true then x else y) := by cases b <;> simp
theorem q_iteAnd {b c : Bool} [Decidable (b = true)] : (if b = true then c else false) = (b && c) := by cases b <;> simp
theorem q_iteOr {b c : Bool} [Decidable (b = true)] : (if b = true then true else c) = (b || c) := by cases b <;> simp
theorem q_iteNot {b : Bool} [Decidable (b = true)] : (if b = true then false else true) = !b := by cases b <;> simp
theorem q_iteCon {b : Bool} [Decidable (b = true)] {x y : D} {xs ys : List D} : (if b = true then x :: xs else y :: ys) = (if b = true then x else y) :: (if b = true then xs else ys) := by cases b <;> simp
theorem q_pa0 : isPar .no = false := rfl
theorem q_pa1 {d : D} : isPar (.val d) = false := rfl
theorem q_pa2 {ds : List D} : isPar (.own ds) = false := rfl
theorem q_pa3 {ds : List D} : isPar (.par ds) = true := rfl
theorem q_pa4 {dss : List (List D)} : isPar (.mat dss) = false := rfl
theorem q_ow4 {dss : List (List D)} : isOwn (.mat dss) = false := rfl
theorem q_ma0 : isMat .no = false := rfl
theorem q_ma1 {d : D} : isMat (.val d) = false := rfl
theorem q_ma2 {ds : List D} : isMat (.own ds) = false := rfl
theorem q_ma3 {ds : List D} : isMat (.par ds) = false := rfl
theorem q_ma4 {dss : List (List D)} : isMat (.mat dss) = true := rfl
theorem q_ow0 : isOwn .no = false := rfl
theorem q_ow1 {d : D} : isOwn (.val d) = false := rfl
theorem q_ow2 {ds : List D} : isOwn (.own ds) = true := rfl
theorem q_ow3 {ds : List D} : isOwn (.par ds) = true := rfl
theorem q_c0 : ((0 : Nat) : Int) = 0 := rfl
theorem q_c1 : ((1 : Nat) : Int) = 1 := rfl
theorem q_c2 : ((2 : Nat) : Int) = 2 := rfl
theorem q_c3 : ((3 : Nat) : Int) = 3 := rfl
theorem q_c4 : ((4 : Nat) : Int) = 4 := rfl
theorem q_c5 : ((5 : Nat) : Int) = 5 := rfl
theorem q_c6 : ((6 : Nat) : Int) = 6 := rfl
theorem q_c7 : ((7 : Nat) : Int) = 7 := rfl
theorem q_c8 : ((8 : Nat) : Int) = 8 := rfl
theorem q_c9 : ((9 : Nat) : Int) = 9 := rfl
theorem q_c10 : ((10 : Nat) : Int) = 10 := rfl
theorem q_c11 : ((11 : Nat) : Int) = 11 := rfl
theorem q_c12 : ((12 : Nat) : Int) = 12 := rfl
section
variable {x y z : D}
theorem q_all0 : gAll [.list []] = some (.bool true) := rfl
theorem q_all1 {a : Bool} : gAll [.list [.bool a]] = some (.bool a) := by cases a <;> rfl
theorem q_all2 {a b : Bool} : gAll [.list [.bool a, .bool b]] = some (.bool (a && b)) := by cases a <;> cases b <;> rfl
theorem q_all3 {a b c : Bool} : gAll [.list [.bool a, .bool b, .bool c]] = some (.bool (a && (b && c))) := by cases a <;> cases b <;> cases c <;> rfl
theorem eqv_none : PyData.eqv x .none = isNone x := by cases x <;> rfl
theorem q_inN2 : gIn .none (.tuple [x, y]) = some (.bool (isNone x || isNone y)) := by
  have h : inOk [x, y] .none = true := inOk_iff.mpr ⟨(by simp [PyData.depth]), .inl rfl⟩
  show (if inOk [x, y] .none = true then some (PyData.bool ([x, y].any fun y => PyData.eqv y .none)) else none) = _
  rw [if_pos h]
  simp only [List.any_cons, List.any_nil, eqv_none, Bool.or_false]
theorem q_inN0 : gIn .none (.tuple []) = some (.bool false) := by
  have h : inOk [] .none = true := inOk_iff.mpr ⟨(by simp [PyData.depth]), .inl rfl⟩
  show (if inOk [] .none = true then some (PyData.bool (([] : List D).any fun y => PyData.eqv y .none)) else none) = _
  rw [if_pos h]
  rfl
theorem q_02a : gNotIn (.int 0) (.tuple [.int 0, .int 2]) = some (.bool false) := by kernel_rfl
theorem q_02b : gNotIn (.int 2) (.tuple [.int 0, .int 2]) = some (.bool false) := by kernel_rfl
end
end Ev
namespace Ev
open PySem PySem.Spec PyProof.Rows L2
/-! ## step by step -/
theorem seq_nx {f g : Fx Fl} {e e1 : En} {r : Option (Fl × En)} (h1 : f e = some (.nx, e1)) (h2 : g e1 = r) : sSeq f g e = r := by
  rw [x_seq, h1]; exact h2
theorem seq_rt {f g : Fx Fl} {e e1 : En} {r : R} (h1 : f e = some (.rt r, e1)) : sSeq f g e = some (.rt r, e1) := by
  rw [x_seq, h1]
theorem fn_rt {n : Nat} {b : Fx Fl} {avs : List AV} {r : R} {e : En} {o : List (List D)} (h : b (initE n avs) = some (.rt r, e)) (ho : outsOf avs 0 e = some o) : callFn n b avs = some (r, o) := by
  unfold callFn
  rw [h]
  show (outsOf avs 0 e).map _ = _
  rw [ho]; rfl
theorem fn_nx {n : Nat} {b : Fx Fl} {avs : List AV} {e : En} {o : List (List D)} (h : b (initE n avs) = some (.nx, e)) (ho : outsOf avs 0 e = some o) : callFn n b avs = some (.val .none, o) := by
  unfold callFn
  rw [h]
  show (outsOf avs 0 e).map _ = _
  rw [ho]; rfl
theorem for_nx {f : Fx (List D)} {g : Gf} {b : Fx Fl} {e e1 : En} {ds : List D} {r : Option (Fl × En)} (h1 : f e = some (ds, e1)) (h2 : forL g b ds e1 = r) : sFor f g b e = r := by
  rw [x_for, h1]; exact h2
/-! ## more rules -/
section
variable {env : En}
theorem x_iEnum {f : Fx D} : iEnum f env = (match f env with
    | some (d, e) => (match seqD d with
      | some ds => some (enumD 0 ds, e)
      | none => none)
    | none => none) := by
  unfold iEnum
  cases f env with
  | none => rfl
  | some p => obtain ⟨d, e⟩ := p; cases h : seqD d <;> simp [h]
theorem x_range3 {f g h : Fx D} : iRange3 f g h env = (match f env with
  | some (.int i, e) => (match g e with
    | some (.int j, e2) => (match h e2 with
      | some (.int c, e3) => if rg3Ok i j c = true ∧ 0 ≤ Builtin.Range.rangeSize i j c then some (rangeC i c (Builtin.Range.rangeSize i j c).toNat, e3) else none
      | _ => none)
    | _ => none)
  | _ => none) := rfl
theorem x_comp2 {it : Fx (List D)} {g : Gf} {c : Fx Bool} {it1 : Fx (List D)} {g1 : Gf} {c1 : Fx Bool} {f : Fx D} {vs vs1 : List Nat} : eComp2 it g c it1 g1 c1 f vs vs1 env = (match it env with
  | some (ds, e) => (match compL2 g c it1 g1 c1 f vs vs1 ds [] (wipeE e vs) with
    | some (r, e2) => some (.fresh r, e2)
    | none => none)
  | none => none) := by
  unfold eComp2
  cases it env with
  | none => rfl
  | some p => obtain ⟨ds, e⟩ := p; cases h : compL2 g c it1 g1 c1 f vs vs1 ds [] (wipeE e vs) <;> simp [h]
theorem x_compN0 {g : Gf} {c : Fx Bool} {it1 : Fx (List D)} {g1 : Gf} {c1 : Fx Bool} {f : Fx D} {vs vs1 : List Nat} {acc : List D} : compL2 g c it1 g1 c1 f vs vs1 [] acc env = some (acc, env) := rfl
theorem x_compN1 {g : Gf} {c : Fx Bool} {it1 : Fx (List D)} {g1 : Gf} {c1 : Fx Bool} {f : Fx D} {vs vs1 : List Nat} {acc : List D} {d : D} {ds : List D} : compL2 g c it1 g1 c1 f vs vs1 (d :: ds) acc env = (match g d env with
    | some e1 => (match c e1 with
      | some (true, e2) => (match it1 e2 with
        | some (ds1, e3) => (match compL g1 c1 f vs1 ds1 acc (wipeE e3 vs1) with
          | some (acc2, e4) => compL2 g c it1 g1 c1 f vs vs1 ds acc2 (wipeE e4 vs)
          | none => none)
        | none => none)
      | some (false, e2) => compL2 g c it1 g1 c1 f vs vs1 ds acc (wipeE e2 vs)
      | none => none)
    | none => none) := rfl
theorem x_item2 {i : Nat} {f1 f2 : Fx D} : eItem2 i f1 f2 env = (match env[i]? with
  | some s => if isMat s = true then item2M i f1 f2 env else eOp gItem (eItemN i f1) f2 env
  | none => none) := rfl
theorem x_item2M {i : Nat} {f1 f2 : Fx D} : item2M i f1 f2 env = (match f1 env with
  | some (.int k, e1) => (match e1[i]? with
    | some (.mat dss) => (match atI dss k with
      | some ds => (match f2 (e1.set i .no) with
        | some (.int m, e2) => (match atI ds m with
          | some z => some (z, e2.set i (.mat dss))
          | none => none)
        | _ => none)
      | none => none)
    | _ => none)
  | _ => none) := rfl
theorem x_gIx2 {i : Nat} {f1 f2 : Fx D} {d : D} : gIx2 i f1 f2 d env = (match env[i]? with
  | some s => if isMat s = true then (match f1 env with
    | some (.int k, e1) => (match e1[i]? with
      | some (.mat dss) => (match ixN dss.length k with
        | some j => (match dss[j]? with
          | some ds => (match f2 (e1.set i .no) with
            | some (.int m, e2) => (match ixN ds.length m with
              | some l => some (e2.set i (.mat (dss.set j (ds.set l d))))
              | none => none)
            | _ => none)
          | none => none)
        | none => none)
      | _ => none)
    | _ => none) else none
  | none => none) := rfl
theorem x_compM {it : Fx (List D)} {g : Gf} {c : Fx Bool} {f : Fx R} {vs : List Nat} : eCompM it g c f vs env = (match it env with
  | some (ds, e) => (match compLM g c f vs ds [] (wipeE e vs) with
    | some (r, e2) => some (.mat r, e2)
    | none => none)
  | none => none) := by
  unfold eCompM
  cases it env with
  | none => rfl
  | some p => obtain ⟨ds, e⟩ := p; cases h : compLM g c f vs ds [] (wipeE e vs) <;> simp [h]
theorem q_repr {d : D} : gReprD [d] = if reprB d = true then some (.str (PyData.shown d)) else none := rfl
end
theorem x_callB {env : En} {g : Fn} {f : Fx (List AR)} : eCallB g f env = (match f env with
  | some (as, env1) => if slotsOf as = [] then eCall g f env else (match toAvB env1 as with
    | some avs => (match g avs with
      | some (.val d, []) => if scal d = true then some (.val d, env1) else none
      | _ => none)
    | none => none)
  | none => none) := rfl
theorem x_pop {i : Nat} {env : En} {f : Fx D} : ePop i f env = (match env[i]? with
  | some s => if isOwn s = true then (match f env with
    | some (.int k, e) => popAt i k e
    | _ => none) else none
  | none => none) := rfl
theorem x_dStar {env : En} {f : Fx D} {g : Fx (List D)} : dStar f g env = (match f env with
  | some (.tuple ds, e) => (match g e with
    | some (xs, e2) => some (ds ++ xs, e2)
    | none => none)
  | some (.list ds, e) => (match g e with
    | some (xs, e2) => some (ds ++ xs, e2)
    | none => none)
  | _ => none) := by
  unfold dStar
  rcases f env with _ | ⟨d, e⟩
  · rfl
  · cases d <;> first | rfl | (dsimp only; rcases g e with _ | ⟨xs, e2⟩ <;> rfl)
theorem x_seeAt {g : D → D → Option D} {x y : D} {e : En} : seeAt g x y e = (match g x y with
  | some z => if scal z = true then some (z, e) else none
  | none => none) := rfl
theorem x_see {g : D → D → Option D} {i : Nat} {f : Fx D} {env : En} : eSee g i f env = (match env[i]? with
  | some s => if isOwn s = true then (match f env with
      | some (y, e) => (match ownL e[i]? with
        | some ds => seeAt g (.list ds) y e
        | none => none)
      | none => none) else eOp g (eVar i) f env
  | none => none) := rfl
theorem x_seeR {g : D → D → Option D} {i : Nat} {f : Fx D} {env : En} : eSeeR g f i env = (match f env with
  | some (x, e) => (match ownL e[i]? with
    | some ds => seeAt g x (.list ds) e
    | none => eOp g f (eVar i) env)
  | none => none) := rfl
theorem x_rev {f : Fx D} {env : En} : eRev f env = (match f env with
  | some (.list ds, e) => some (.fresh ds.reverse, e)
  | some (.tuple ds, e) => some (.val (.tuple ds.reverse), e)
  | _ => none) := rfl
theorem x_idx {i : Nat} {f : Fx D} {env : En} : eIdx i f env = (match listL env[i]? with
  | some _ => (match f env with
    | some (.int n, e) => (match listL e[i]? with
      | some ds => (match (intsOf ds).bind fun ns => idxI ns n with
        | some j => some (.int (j : Nat), e)
        | none => none)
      | none => none)
    | _ => none)
  | none => none) := rfl
theorem q_ol1 {ds : List D} : ownL (some (.own ds)) = some ds := rfl
theorem q_ol2 {ds : List D} : ownL (some (.par ds)) = some ds := rfl
theorem q_ol3 {d : D} : ownL (some (.val d)) = none := rfl
theorem q_ll1 {ds : List D} : listL (some (.own ds)) = some ds := rfl
theorem q_ll2 {ds : List D} : listL (some (.par ds)) = some ds := rfl
theorem q_ll3 {ds : List D} : listL (some (.val (.list ds))) = some ds := rfl
theorem q_scB {b : Bool} : scal (.bool b) = true := rfl
theorem x_repL {f : Fx (List D)} {g : Fx D} {env : En} : eRepL f g env = (match f env with
  | some (ds, e) => (match g e with
    | some (.int k, e2) => if decide (0 ≤ k ∧ k ≤ 100000 ∧ ds.length ≤ 100) = true then some (.fresh (List.replicate k.toNat ds).flatten, e2) else none
    | _ => none)
  | none => none) := rfl
theorem x_sortK {g : Fn} {f : Fx D} {env : En} : eSortK g f env = (match f env with
  | some (.list ds, e) => (match keysOf g ds with
    | some ks => some (.list (sortK ks ds), e)
    | none => none)
  | some (.tuple ds, e) => (match keysOf g ds with
    | some ks => some (.list (sortK ks ds), e)
    | none => none)
  | _ => none) := rfl
theorem x_lenSet {f : Fx D} {env : En} : eLenSet f env = (match f env with
  | some (.tuple ds, e) => (match intsOf ds with
    | some ns => if decide (ns.length < 1000 ∧ ns.Nodup) = true then some (.int ns.length, e) else none
    | none => none)
  | _ => none) := rfl
theorem x_dct0 {env : En} : eDct0 env = some (.dict [], env) := rfl
theorem q_strI {i : Int} : gStr [.int i] = if i.natAbs.log2 < 1920 then some (.str (Str.ofString (toString i))) else none := rfl
theorem q_strB {b : Bool} : gStr [.bool b] = some (.str (if b then "True" else "False")) := rfl
theorem q_addBI {a : Bool} {j : Int} : gAdd (.bool a) (.int j) = some (.int (b01 a + j)) := rfl
theorem q_subBI {a : Bool} {j : Int} : gSub (.bool a) (.int j) = some (.int (b01 a - j)) := rfl
theorem q_subIB {i : Int} {b : Bool} : gSub (.int i) (.bool b) = some (.int (i - b01 b)) := rfl
theorem q_mulIB {i : Int} {b : Bool} : gMul (.int i) (.bool b) = some (.int (i * b01 b)) := rfl
end Ev
namespace Ev
local macro_rules
  | `(tactic| simp! only [$as,*]) => `(tactic| simp only [↓x_var, ↓x_C, ↓x_op, ↓x_fz, ↓x_rV, ↓x_B, ↓x_chain, ↓x_tru, ↓x_notT, ↓x_andT, ↓x_orT, ↓x_and, ↓x_or, ↓x_not, ↓x_neg, ↓x_if, ↓x_aNil, ↓x_aVal, ↓x_aSlot, ↓x_aTmp, ↓x_aR, ↓x_call, ↓x_callK, ↓x_dNil, ↓x_dCons, ↓x_tup, ↓x_lst, ↓x_itemN, ↓x_ownItem, ↓x_lenN, ↓x_blt, ↓x_isi, ↓x_list, ↓x_rgL1, ↓x_rgL2, ↓x_iSeq, ↓x_iZip, ↓x_range1, ↓x_range2, ↓x_addR, ↓x_slice, ↓x_partN, ↓x_partS, ↓x_comp, ↓x_skip, ↓x_stuck, ↓x_break, ↓x_cont, ↓x_seq, ↓x_sIf, ↓x_sExpr, ↓x_ret, ↓x_retN, ↓x_move, ↓x_setRv, ↓x_setRf, ↓x_setRm, ↓x_set, ↓x_gN, ↓x_gsNil, ↓x_gsCons, ↓x_gTup, ↓x_gIx, ↓x_setAt, ↓x_asg, ↓x_par, ↓x_sm0, ↓x_smV, ↓x_smF, ↓x_app, ↓x_for, ↓x_for0, ↓x_for1, ↓x_comp0, ↓x_comp1, ↓x_fn, ↓x_iEnum, ↓x_range3, ↓x_comp2, ↓x_compN0, ↓x_compN1, ↓x_item2, ↓x_item2M, ↓x_gIx2, ↓x_compM, ↓x_callB, ↓x_pop, ↓x_dStar, ↓x_seeAt, ↓x_see, ↓x_seeR, ↓x_rev, ↓x_idx, ↓x_repL, ↓x_sortK, ↓x_lenSet, ↓x_dct0, q_addI, q_addT, q_addL, q_subI, q_ltI, q_leI, q_gtI, q_geI, q_isN, q_isNotN, q_isB, q_isNotB, q_eqI, q_neI, q_eqB, q_eqT0, q_eqT1, q_neT0, q_neT1, q_eqL0, q_eqL1, q_neL0, q_neL1, q_int, q_abs, q_min2, q_max2, q_at0, q_at1, q_at2, q_at3, q_ix0, q_ix1, q_ix2, q_sz, q_iteS, q_iteT, q_iteR, q_iteV, q_iteBB, q_iteII, q_iteAnd, q_iteOr, q_iteNot, q_iteCon, q_pa0, q_pa1, q_pa2, q_pa3, q_pa4, q_ow4, q_ma0, q_ma1, q_ma2, q_ma3, q_ma4, q_ow0, q_ow1, q_ow2, q_ow3, q_c0, q_c1, q_c2, q_c3, q_c4, q_c5, q_c6, q_c7, q_c8, q_c9, q_c10, q_c11, q_c12, q_all0, q_all1, q_all2, q_all3, q_inN2, q_inN0, q_02a, q_02b, q_repr, q_ol1, q_ol2, q_ol3, q_ll1, q_ll2, q_ll3, q_scB, q_strI, q_strB, q_addBI, q_subBI, q_subIB, q_mulIB, List.getElem?_cons_zero, List.getElem?_cons_succ, List.set_cons_zero, List.set_cons_succ, wipeE, initE, outsOf, toAv, toAvB, scal, slotsOf, putOuts, natNodup, List.map_cons, List.map_nil, List.cons_append, List.nil_append, List.append_nil, List.replicate, List.length_cons, List.length_nil, isNone, isiD, seqD, gItem, truD, zipOf, zipD, pick, List.contains_nil, List.contains_cons, eq_self, List.cons_ne_nil, if_true, if_false, Bool.false_eq_true, Bool.true_eq_false, Bool.not_true, Bool.not_false, reduceIte, decide_true, decide_false, Nat.reduceAdd, Nat.reduceSub, Nat.zero_add, Nat.add_zero, and_self, true_and, and_true, Bool.and_true, Bool.true_and, Bool.or_false, Bool.false_or, Bool.or_true, Bool.true_or, Bool.and_false, Bool.false_and, Bool.or_self, Bool.and_self, Nat.sub_self, Option.map_some, Option.map_none, Nat.reduceBEq, Bool.not_eq_true, beq_self_eq_true, Nat.reduceLeDiff, Nat.reduceLT, Nat.reduceEqDiff, List.filterMap_cons, List.filterMap_nil, $as,*])
open PySem PySem.Spec PyProof.Rows L2
/-! ## loops -/
theorem compL_map {g : Gf} {c : Fx Bool} {f : Fx D} {vs : List Nat} {env : En} {p : D → Bool} {h : D → D} : ∀ (ds acc : List D), acc.length + ds.length ≤ sizeLine →
    (∀ d ∈ ds, ∃ e1 e2, g d env = some e1 ∧ c e1 = some (p d, e2) ∧ (p d = true → ∃ e3, f e2 = some (h d, e3) ∧ wipeE e3 vs = env) ∧ (p d = false → wipeE e2 vs = env)) →
    compL g c f vs ds acc env = some (acc ++ (ds.filter p).map h, env)
  | [], acc, _, _ => by simp only [x_comp0, List.filter_nil, List.map_nil, List.append_nil]
  | d :: ds, acc, hl, H => by
    obtain ⟨e1, e2, h1, h2, h3, h4⟩ := H d (List.mem_cons_self ..)
    have hl' : acc.length < sizeLine := by rw [List.length_cons] at hl; omega
    have ih := fun acc' (q : acc'.length + ds.length ≤ sizeLine) => compL_map (g := g) (c := c) (f := f) (vs := vs) (env := env) (p := p) (h := h) ds acc' q fun x hx => H x (List.mem_cons_of_mem _ hx)
    rw [x_comp1, h1]
    dsimp only
    rw [h2]
    dsimp only
    cases q : p d with
    | true =>
      obtain ⟨e3, h5, h6⟩ := h3 q
      rw [if_pos rfl, h5]
      dsimp only
      rw [if_pos hl', h6, ih _ (by rw [List.length_cons] at hl; rw [List.length_append, List.length_singleton]; omega), List.filter_cons_of_pos q, List.map_cons, List.append_assoc]
      rfl
    | false =>
      rw [if_neg (by decide), h4 q, ih _ (by rw [List.length_cons] at hl; omega), List.filter_cons_of_neg (by rw [q]; decide)]
theorem compL_all {g : Gf} {c : Fx Bool} {f : Fx D} {vs : List Nat} {env : En} {h : D → D} (ds acc : List D) (hl : acc.length + ds.length ≤ sizeLine)
    (H : ∀ d ∈ ds, ∃ e1 e2 e3, g d env = some e1 ∧ c e1 = some (true, e2) ∧ f e2 = some (h d, e3) ∧ wipeE e3 vs = env) : compL g c f vs ds acc env = some (acc ++ ds.map h, env) := by
  have := compL_map (p := fun _ => true) (h := h) ds acc hl fun d hd => by
    obtain ⟨e1, e2, e3, h1, h2, h3, h4⟩ := H d hd
    exact ⟨e1, e2, h1, h2, fun _ => ⟨e3, h3, h4⟩, fun z => by cases z⟩
  rw [List.filter_eq_self.mpr fun _ _ => rfl] at this
  exact this
theorem boolsOf_true : ∀ {ds : List D}, (∀ d ∈ ds, d = .bool true) → (boolsOf ds).map (fun bs => bs.all id) = some true
  | [], _ => rfl
  | d :: ds, h => by
    have e := h d (List.mem_cons_self ..)
    subst e
    have ih := boolsOf_true (ds := ds) fun x hx => h x (List.mem_cons_of_mem _ hx)
    cases q : boolsOf ds with
    | none => rw [q] at ih; cases ih
    | some bs =>
      rw [q] at ih
      show (boolsOf (.bool true :: ds)).map _ = _
      rw [show boolsOf (.bool true :: ds) = some (true :: bs) by simp [boolsOf, q]]
      exact ih
theorem gAll_true {ds : List D} (h : ∀ d ∈ ds, d = .bool true) : gAll [.list ds] = some (.bool true) := by
  have := boolsOf_true h
  show (boolsOf ds).map (fun bs => PyData.bool (bs.all id)) = _
  cases q : boolsOf ds with
  | none => rw [q] at this; cases this
  | some bs =>
    rw [q] at this
    have e : bs.all id = true := Option.some.inj this
    show some (PyData.bool (bs.all id)) = _
    rw [e]
theorem forL_inv {g : Gf} {b : Fx Fl} {I : En → Prop} : ∀ (ds : List D) (env : En), I env → (∀ d ∈ ds, ∀ e, I e → ∃ e1 e2, g d e = some e1 ∧ b e1 = some (.nx, e2) ∧ I e2) → ∃ e, forL g b ds env = some (.nx, e) ∧ I e
  | [], env, h, _ => ⟨env, rfl, h⟩
  | d :: ds, env, h, H => by
    obtain ⟨e1, e2, h1, h2, h3⟩ := H d (List.mem_cons_self ..) env h
    obtain ⟨e, h4, h5⟩ := forL_inv ds e2 h3 fun x hx => H x (List.mem_cons_of_mem _ hx)
    refine ⟨e, ?_, h5⟩
    rw [x_for1, h1]
    dsimp only
    rw [h2]
    exact h4
/-! ## the source of numbers -/
def Src (b : Nat) (ds : List D) : Prop := ∃ a m c : Int, ds = [.int a, .int m, .int c] ∧ 0 ≤ a ∧ 0 ≤ m ∧ m < 2147483629 ∧ 0 ≤ c ∧ c + b ≤ 1000000000
theorem Src.mono {b b' : Nat} {ds : List D} (h : Src b ds) (hb : b' ≤ b) : Src b' ds := by
  obtain ⟨a, m, c, e, h1, h2, h3, h4, h5⟩ := h
  exact ⟨a, m, c, e, h1, h2, h3, h4, by omega⟩
def takeC : Fx Fl := (sSeq (sIf (eB (eOp gGt (eItemN 0 (eC (.int 0))) (eC (.int 0)))) (sSeq (sAsg (eBlt gDivmod (dCons (eItemN 0 (eC (.int 0))) (dCons (eVar 1) dNil))) (gTup 2 (gsCons (gIx 0 (eC (.int 0))) (gsCons (gN 3) gsNil)))) (sRet (eMove 3))) sSkip) (sSeq (sAsg (eOp gAdd (eItemN 0 (eC (.int 2))) (eC (.int 1))) (gIx 0 (eC (.int 2)))) (sSeq (sSet 2 (rV (eOp gMod (eBlt gInt (dCons (eOp gAdd (eItemN 0 (eC (.int 1))) (eOp gMul (eC (.int 40093)) (eItemN 0 (eC (.int 2))))) dNil)) (eC (.int 2147483629))))) (sSeq (sAsg (eOp gMod (eBlt gInt (dCons (eOp gAdd (eOp gMul (eVar 2) (eOp gAdd (eOp gMod (eBlt gInt (dCons (eVar 2) dNil)) (eC (.int 4001))) (eC (.int 30029)))) (eOp gMul (eC (.int 17)) (eItemN 0 (eC (.int 2))))) dNil)) (eC (.int 2147483629))) (gIx 0 (eC (.int 1)))) (sRet (rV (eOp gMod (eBlt gInt (dCons (eOp gFdiv (eItemN 0 (eC (.int 1))) (eC (.int 523))) dNil)) (eVar 1))))))))
def Tk (g : Fn) : Prop := ∀ (b : Nat) (ds : List D) (k : Int), Src (b + 1) ds → 0 < k → k < 1073741824 → ∃ (v : Int) (ds' : List D), g [.own ds, .val (.int k)] = some (.val (.int v), [ds']) ∧ 0 ≤ v ∧ v < k ∧ Src b ds'
theorem take_ok : Tk (callFn 4 takeC) := by
  rintro b ds k ⟨a, m, c, rfl, ha, hm, hm2, hc, hcb⟩ hk hk2
  by_cases h0 : 0 < a
  · refine ⟨a % k, [.int (a / k), .int m, .int c], ?_, Int.emod_nonneg _ (by omega), Int.emod_lt_of_pos _ hk, a / k, m, c, rfl, Int.ediv_nonneg ha (by omega), hm, hm2, hc, by omega⟩
    simp! only [takeC, h0, decide_true, q_divmod hk hk2]
  · have e0 : a = 0 := by omega
    subst e0
    have b1 := Int.emod_nonneg (m + 40093 * (c + 1)) (b := 2147483629) (by omega)
    have b2 := Int.emod_lt_of_pos (m + 40093 * (c + 1)) (b := 2147483629) (by omega)
    have m1 : mulOk 40093 (c + 1) = true := mulOk_lt (a := 16) (b := 30) (by decide) (by omega) (by decide)
    have m2 : mulOk 17 (c + 1) = true := mulOk_lt (a := 5) (b := 30) (by decide) (by omega) (by decide)
    generalize hx : (m + 40093 * (c + 1)) % 2147483629 = x at b1 b2
    have b3 := Int.emod_nonneg x (b := 4001) (by omega)
    have b4 := Int.emod_lt_of_pos x (b := 4001) (by omega)
    have m3 : mulOk x (x % 4001 + 30029) = true := mulOk_lt (a := 32) (b := 32) (by omega) (by omega) (by decide)
    have b5 := Int.emod_nonneg (x * (x % 4001 + 30029) + 17 * (c + 1)) (b := 2147483629) (by omega)
    have b6 := Int.emod_lt_of_pos (x * (x % 4001 + 30029) + 17 * (c + 1)) (b := 2147483629) (by omega)
    refine ⟨((x * (x % 4001 + 30029) + 17 * (c + 1)) % 2147483629 / 523) % k, [.int 0, .int ((x * (x % 4001 + 30029) + 17 * (c + 1)) % 2147483629), .int (c + 1)], ?_, Int.emod_nonneg _ (by omega), Int.emod_lt_of_pos _ hk, 0, _, c + 1, rfl, by omega, b5, b6, by omega, by omega⟩
    simp! only [takeC, decide_false, q_mulI m1, q_mulI m2, q_mulI m3, hx, q_modI (y := 2147483629) (by decide), q_modI (y := 4001) (by decide), q_fdivI (y := 523) (by decide) (by decide), q_modI hk, Int.lt_irrefl]
def greatC (t : Fn) : Fx Fl := (sSeq (sSet 1 (rV (eC (.int 0)))) (sSeq (sFor (iRange1 (eC (.int 5))) (gN 2) (sSet 1 (rV (eOp gAdd (eOp gMul (eVar 1) (eC (.int 1000003))) (eFz (eCall t (aSlot 0 (aVal (eC (.int 1000003)) aNil)))))))) (sRet (eMove 1))))
def Nm (k : Nat) (z : Int) (g : Fn) : Prop := ∀ (b : Nat) (ds : List D), Src (b + k) ds → ∃ (v : Int) (ds' : List D), g [.own ds] = some (.val (.int v), [ds']) ∧ -z ≤ v ∧ v ≤ z ∧ Src b ds'
theorem range5 : rangeD 0 (5 - 0 : Int).toNat = [.int 0, .int 1, .int 2, .int 3, .int 4] := by rfl
def Gp (g : Fn) : Prop := ∀ (b : Nat) (ds : List D), Src (b + 5) ds → ∃ (v : Int) (ds' : List D), g [.own ds] = some (.val (.int v), [ds']) ∧ 0 ≤ v ∧ v ≤ 2 ^ 110 ∧ Src b ds'
theorem great_pos {t : Fn} (T : Tk t) : Gp (callFn 3 (greatC t)) := by
  intro b ds h
  obtain ⟨v1, d1, e1, p1, q1, s1⟩ := T _ ds 1000003 (h.mono (by omega : (b + 4) + 1 ≤ b + 5)) (by decide) (by decide)
  obtain ⟨v2, d2, e2, p2, q2, s2⟩ := T _ d1 1000003 (s1.mono (by omega : (b + 3) + 1 ≤ b + 4)) (by decide) (by decide)
  obtain ⟨v3, d3, e3, p3, q3, s3⟩ := T _ d2 1000003 (s2.mono (by omega : (b + 2) + 1 ≤ b + 3)) (by decide) (by decide)
  obtain ⟨v4, d4, e4, p4, q4, s4⟩ := T _ d3 1000003 (s3.mono (by omega : (b + 1) + 1 ≤ b + 2)) (by decide) (by decide)
  obtain ⟨v5, d5, e5, p5, q5, s5⟩ := T _ d4 1000003 (s4.mono (by omega : b + 1 ≤ b + 1)) (by decide) (by decide)
  have m1 : mulOk 0 1000003 = true := by decide +kernel
  have m2 : mulOk (0 * 1000003 + v1) 1000003 = true := mulOk_lt (a := 120) (b := 20) (by omega) (by decide) (by decide)
  have m3 : mulOk ((0 * 1000003 + v1) * 1000003 + v2) 1000003 = true := mulOk_lt (a := 120) (b := 20) (by omega) (by decide) (by decide)
  have m4 : mulOk (((0 * 1000003 + v1) * 1000003 + v2) * 1000003 + v3) 1000003 = true := mulOk_lt (a := 120) (b := 20) (by omega) (by decide) (by decide)
  have m5 : mulOk ((((0 * 1000003 + v1) * 1000003 + v2) * 1000003 + v3) * 1000003 + v4) 1000003 = true := mulOk_lt (a := 120) (b := 20) (by omega) (by decide) (by decide)
  refine ⟨((((0 * 1000003 + v1) * 1000003 + v2) * 1000003 + v3) * 1000003 + v4) * 1000003 + v5, d5, ?_, by omega, by omega, s5⟩
  simp! only [greatC, range5, e1, e2, e3, e4, e5, q_mulI m1, q_mulI m2, q_mulI m3, q_mulI m4, q_mulI m5]
def numberC (t gr : Fn) : Fx Fl := (sSeq (sSet 1 (eCall t (aSlot 0 (aVal (eC (.int 16)) aNil)))) (sSeq (sIf (eB (eOp gLt (eVar 1) (eC (.int 8)))) (sRet (rV (eOp gSub (eFz (eCall t (aSlot 0 (aVal (eC (.int 13)) aNil)))) (eC (.int 6))))) sSkip) (sSeq (sIf (eB (eOp gLt (eVar 1) (eC (.int 13)))) (sRet (rV (eOp gSub (eFz (eCall t (aSlot 0 (aVal (eC (.int 121)) aNil)))) (eC (.int 60))))) sSkip) (sSeq (sIf (eB (eOp gLt (eVar 1) (eC (.int 15)))) (sRet (rV (eOp gSub (eFz (eCall t (aSlot 0 (aVal (eC (.int 200003)) aNil)))) (eC (.int 100001))))) sSkip) (sSeq (sSet 2 (eCall gr (aSlot 0 aNil))) (sRet (eIf (eB (eOp gEq (eFz (eCall t (aSlot 0 (aVal (eC (.int 2)) aNil)))) (eC (.int 0)))) (eMove 2) (rV (eOp gSub (eC (.int 0)) (eVar 2))))))))))
theorem number_ok {t gr : Fn} (T : Tk t) (G : Nm 5 (2 ^ 110) gr) : Nm 7 (2 ^ 110) (callFn 3 (numberC t gr)) := by
  intro b ds h
  obtain ⟨v1, d1, e1, p1, q1, s1⟩ := T _ ds 16 (h.mono (by omega : (b + 6) + 1 ≤ b + 7)) (by decide) (by decide)
  by_cases c1 : v1 < 8
  · obtain ⟨v2, d2, e2, p2, q2, s2⟩ := T _ d1 13 (s1.mono (by omega : (b + 5) + 1 ≤ b + 6)) (by decide) (by decide)
    refine ⟨v2 - 6, d2, ?_, by omega, by omega, s2.mono (by omega)⟩
    simp! only [numberC, e1, e2, c1, decide_true]
  by_cases c2 : v1 < 13
  · obtain ⟨v2, d2, e2, p2, q2, s2⟩ := T _ d1 121 (s1.mono (by omega : (b + 5) + 1 ≤ b + 6)) (by decide) (by decide)
    refine ⟨v2 - 60, d2, ?_, by omega, by omega, s2.mono (by omega)⟩
    simp! only [numberC, e1, e2, c1, c2, decide_true, decide_false]
  by_cases c3 : v1 < 15
  · obtain ⟨v2, d2, e2, p2, q2, s2⟩ := T _ d1 200003 (s1.mono (by omega : (b + 5) + 1 ≤ b + 6)) (by decide) (by decide)
    refine ⟨v2 - 100001, d2, ?_, by omega, by omega, s2.mono (by omega)⟩
    simp! only [numberC, e1, e2, c1, c2, c3, decide_true, decide_false]
  obtain ⟨v2, d2, e2, p2, q2, s2⟩ := G (b + 1) d1 (s1.mono (by omega))
  obtain ⟨v3, d3, e3, p3, q3, s3⟩ := T b d2 2 s2 (by decide) (by decide)
  by_cases c4 : v3 = 0
  · refine ⟨v2, d3, ?_, p2, q2, s3⟩
    simp! only [numberC, e1, e2, e3, c1, c2, c3, c4, decide_true, decide_false]
  · refine ⟨0 - v2, d3, ?_, by omega, by omega, s3⟩
    simp! only [numberC, e1, e2, e3, c1, c2, c3, c4, decide_true, decide_false]
def sourceC (p q : Int) : Fx Fl := (sSeq (sSet 2 (rV (eOp gAdd (eC (.int p)) (eOp gMul (eC (.int q)) (eVar 1))))) (sSeq (sFor (iSeq (eFz (eSlice (eVar 0) (ePart none) (ePart (some (eC (.int 10))))))) (gN 3) (sSet 2 (rV (eOp gMod (eBlt gInt (dCons (eOp gAdd (eOp gAdd (eOp gMul (eVar 2) (eC (.int 30011))) (eOp gMod (eBlt gInt (dCons (eVar 3) dNil)) (eC (.int 1000000007)))) (eC (.int 3))) dNil)) (eC (.int 2147483629)))))) (sSeq (sSet 4 (eIf (eB (eOp gLt (eVar 1) (eLenN 0))) (rV (eBlt gInt (dCons (eItemN 0 (eVar 1)) dNil))) (rV (eC (.int 0))))) (sSeq (sSet 2 (rV (eOp gMod (eBlt gInt (dCons (eOp gAdd (eOp gAdd (eOp gMul (eVar 2) (eC (.int 59))) (eOp gMul (eOp gMod (eBlt gInt (dCons (eVar 4) dNil)) (eC (.int 1000000007))) (eC (.int 15013)))) (eC (.int 11))) dNil)) (eC (.int 2147483629))))) (sRet (eLst (dCons (eIf (eOrT (eB (eOp gLt (eVar 4) (eC (.int 0)))) (eB (eOp gGe (eVar 4) (eOp gPow (eC (.int 10)) (eC (.int 15)))))) (eBlt gAbs (dCons (eVar 4) dNil)) (eC (.int 0))) (dCons (eVar 2) (dCons (eC (.int 0)) dNil)))))))))
theorem cut_ints {ns : List Int} {a b : Option Int} : ∃ ms : List Int, cutD (ns.map PyData.int) a b = ms.map PyData.int := by
  unfold cutD
  refine ⟨(ns.drop (HT.sIx (ns.map PyData.int).length 0 a)).take (HT.sIx (ns.map PyData.int).length (ns.map PyData.int).length b - HT.sIx (ns.map PyData.int).length 0 a), ?_⟩
  rw [List.map_take, List.map_drop]
theorem q_pow15 : gPow (.int 10) (.int 15) = some (.int 1000000000000000) := by kernel_rfl
theorem source_ok {p q : Int} (hp : 0 ≤ p ∧ p < 2 ^ 40) (hq : 0 ≤ q ∧ q < 2 ^ 40) (ns : List Int) (t : Int) (ht : 0 ≤ t) (ht2 : t < 64) : ∃ ds', callFn 5 (sourceC p q) [.val (.list (ns.map PyData.int)), .val (.int t)] = some (.fresh ds', []) ∧ Src 100000000 ds' := by
  obtain ⟨ms, hms⟩ := cut_ints (ns := ns) (a := none) (b := some 10)
  have m1 : mulOk q t = true := mulOk_lt (a := 40) (b := 7) (by omega) (by omega) (by decide)
  have hqt : 0 ≤ q * t := Int.mul_nonneg hq.1 ht
  have hqt2 : q * t ≤ 2 ^ 40 * 64 := Int.le_trans (Int.mul_le_mul_of_nonneg_right (Int.le_of_lt hq.2) ht) (Int.mul_le_mul_of_nonneg_left (by omega) (by decide))
  obtain ⟨e, he, m, oth, rfl, hm, hm2⟩ := forL_inv (g := gN 3) (b := (sSet 2 (rV (eOp gMod (eBlt gInt (dCons (eOp gAdd (eOp gAdd (eOp gMul (eVar 2) (eC (.int 30011))) (eOp gMod (eBlt gInt (dCons (eVar 3) dNil)) (eC (.int 1000000007)))) (eC (.int 3))) dNil)) (eC (.int 2147483629))))))
    (I := fun e => ∃ (m : Int) (o : Sl), e = [.val (.list (ns.map PyData.int)), .val (.int t), .val (.int m), o, .no] ∧ (o = .no ∨ ∃ d, o = .val d) ∧ 0 ≤ m ∧ m < 2 ^ 60) (ms.map PyData.int) [.val (.list (ns.map PyData.int)), .val (.int t), .val (.int (p + q * t)), .no, .no]
    ⟨_, .no, rfl, .inl rfl, by omega, by omega⟩ (by
      rintro d hd e ⟨m, o, rfl, ho, hm, hm2⟩
      obtain ⟨i, _, rfl⟩ := List.mem_map.mp hd
      have m2 : mulOk m 30011 = true := mulOk_lt (a := 60) (b := 15) (by omega) (by decide) (by decide)
      refine ⟨[.val (.list (ns.map PyData.int)), .val (.int t), .val (.int m), .val (.int i), .no], _, ?_, ?_, ⟨(m * 30011 + i % 1000000007 + 3) % 2147483629, .val (.int i), rfl, .inr ⟨_, rfl⟩, Int.emod_nonneg _ (by omega), ?_⟩⟩
      · rcases ho with rfl | ⟨d, rfl⟩ <;> simp! only [x_C]
      · simp! only [q_mulI m2, q_modI (y := 2147483629) (by decide), q_modI (y := 1000000007) (by decide)]
      · have := Int.emod_lt_of_pos (m * 30011 + i % 1000000007 + 3) (b := 2147483629) (by omega)
        omega)
  obtain ⟨own, hown⟩ : ∃ own : Int, (t < (ns.map PyData.int).length ∧ atI (ns.map PyData.int) t = some (.int own)) ∨ (¬ t < (ns.map PyData.int).length ∧ own = 0) := by
    by_cases c : t < (ns.map PyData.int).length
    · have hi : t.toNat < ns.length := by rw [List.length_map] at c; omega
      refine ⟨ns[t.toNat], .inl ⟨c, ?_⟩⟩
      unfold atI
      rw [q_ixN ht c]
      show (ns.map PyData.int)[t.toNat]? = _
      rw [List.getElem?_map, List.getElem?_eq_getElem hi]
      rfl
    · exact ⟨0, .inr ⟨c, rfl⟩⟩
  have m3 : mulOk m 59 = true := mulOk_lt (a := 60) (b := 6) (by omega) (by decide) (by decide)
  have b1 := Int.emod_nonneg own (b := 1000000007) (by omega)
  have b2 := Int.emod_lt_of_pos own (b := 1000000007) (by omega)
  have m4 : mulOk (own % 1000000007) 15013 = true := mulOk_lt (a := 30) (b := 14) (by omega) (by decide) (by decide)
  have b3 := Int.emod_nonneg (m * 59 + own % 1000000007 * 15013 + 11) (b := 2147483629) (by omega)
  have b4 := Int.emod_lt_of_pos (m * 59 + own % 1000000007 * 15013 + 11) (b := 2147483629) (by omega)
  have fin : ∀ a : Int, 0 ≤ a → Src 100000000 [.int a, .int ((m * 59 + own % 1000000007 * 15013 + 11) % 2147483629), .int 0] := fun a ha => ⟨a, _, 0, rfl, ha, b3, b4, by omega, by omega⟩
  by_cases c1 : own < 0
  · refine ⟨_, ?_, fin (-own) (by omega)⟩
    rcases hown with ⟨c, ea⟩ | ⟨c, rfl⟩
    · simp! only [sourceC, hms, q_mulI m1, he, q_mulI m3, q_mulI m4, q_modI (y := 2147483629) (by decide), q_modI (y := 1000000007) (by decide), q_pow15, c1, c, ea]
    · simp! only [sourceC, hms, q_mulI m1, he, q_mulI m3, q_mulI m4, q_modI (y := 2147483629) (by decide), q_modI (y := 1000000007) (by decide), q_pow15, c1, c]
  by_cases c2 : 1000000000000000 ≤ own
  · refine ⟨_, ?_, fin own (by omega)⟩
    rcases hown with ⟨c, ea⟩ | ⟨c, rfl⟩
    · simp! only [sourceC, hms, q_mulI m1, he, q_mulI m3, q_mulI m4, q_modI (y := 2147483629) (by decide), q_modI (y := 1000000007) (by decide), q_pow15, c1, c2, c, ea]
    · simp! only [sourceC, hms, q_mulI m1, he, q_mulI m3, q_mulI m4, q_modI (y := 2147483629) (by decide), q_modI (y := 1000000007) (by decide), q_pow15, c1, c2, c]
  · refine ⟨_, ?_, fin 0 (by omega)⟩
    rcases hown with ⟨c, ea⟩ | ⟨c, rfl⟩
    · simp! only [sourceC, hms, q_mulI m1, he, q_mulI m3, q_mulI m4, q_modI (y := 2147483629) (by decide), q_modI (y := 1000000007) (by decide), q_pow15, c1, c2, c, ea]
    · simp! only [sourceC, hms, q_mulI m1, he, q_mulI m3, q_mulI m4, q_modI (y := 2147483629) (by decide), q_modI (y := 1000000007) (by decide), q_pow15, c1, c2, c]
end Ev
namespace K23
open PySem PySem.Spec PyProof.Rows L2 Ev
def top (i : Nat) : Stmt := PySem.Challenge.pw_soundlooks_k23_whole_what_stretches_and.main.body.getD i (.Pass ⟨0, 0, 0, 0⟩)
def r0 : Fd := ⟨"is_whole", ["value"], ["value"], [false], top 6⟩
def r1 : Fd := ⟨"are_wholes", ["value", "many"], ["value", "many", "each"], [false, false], top 7⟩
def r2 : Fd := ⟨"is_end", ["value"], ["value"], [false], top 10⟩
def r3 : Fd := ⟨"is_stretched", ["value"], ["value", "each"], [false], top 11⟩
def r4 : Fd := ⟨"is_held", ["stretch", "number"], ["stretch", "number"], [false, false], top 12⟩
def r5 : Fd := ⟨"is_rested", ["value"], ["value"], [false], top 16⟩
def r6 : Fd := ⟨"is_multiple", ["number", "many"], ["number", "many"], [false, false], top 17⟩
def r7 : Fd := ⟨"is_left", ["rest", "number"], ["rest", "number"], [false, false], top 18⟩
def r8 : Fd := ⟨"check_stretch", ["value"], ["value"], [false], top 20⟩
def r9 : Fd := ⟨"check_rest", ["value"], ["value"], [false], top 21⟩
def r10 : Fd := ⟨"check_whole", ["value"], ["value"], [false], top 22⟩
def r11 : Fd := ⟨"is_stretch", ["value"], ["value"], [false], top 24⟩
def r12 : Fd := ⟨"stretch_holds", ["stretch", "number"], ["stretch", "number"], [false, false], top 25⟩
def r13 : Fd := ⟨"is_rest", ["value"], ["value"], [false], top 27⟩
def r14 : Fd := ⟨"rest_holds", ["rest", "number"], ["rest", "number"], [false, false], top 28⟩
def r15 : Fd := ⟨"_law_source", ["_law_script", "_law_turn"], ["_law_script", "_law_turn", "_law_mixed", "_law_cell", "_law_own"], [false, false], top 30⟩
def r16 : Fd := ⟨"_law_take", ["_law_source_here", "_law_many"], ["_law_source_here", "_law_many", "_law_mixed", "_law_figure"], [true, false], top 31⟩
def r17 : Fd := ⟨"_law_pick", ["_law_source_here", "_law_some"], ["_law_source_here", "_law_some"], [true, false], top 32⟩
def r18 : Fd := ⟨"_law_great", ["_law_source_here"], ["_law_source_here", "_law_got", "_law_turn"], [true], top 33⟩
def r19 : Fd := ⟨"_law_number", ["_law_source_here"], ["_law_source_here", "_law_branch", "_law_got"], [true], top 34⟩
def r20 : Fd := ⟨"_law_stretch", ["_law_source_here"], ["_law_source_here", "_law_branch", "_law_low"], [true], top 35⟩
def r21 : Fd := ⟨"_law_near", ["_law_source_here", "_law_ends"], ["_law_source_here", "_law_ends", "_law_lots", "_law_low", "_law_branch", "_law_high", "_law_end"], [true, false], top 36⟩
def r22 : Fd := ⟨"_law_part", ["_law_source_here"], ["_law_source_here", "_law_twos", "_law_threes"], [true], top 37⟩
def r23 : Fd := ⟨"_law_rest", ["_law_source_here"], ["_law_source_here", "_law_branch", "_law_by"], [true], top 38⟩
def r24 : Fd := ⟨"_law_rest_near", ["_law_source_here", "_law_one"], ["_law_source_here", "_law_one", "_law_spot", "_law_by"], [true, false], top 39⟩
def r25 : Fd := ⟨"_law_is_whole", ["_law_thing"], ["_law_thing"], [false], top 40⟩
def r26 : Fd := ⟨"_law_same", ["_law_told", "_law_due"], ["_law_told", "_law_due", "_law_this", "_law_that"], [false, false], top 41⟩
def r27 : Fd := ⟨"_law_has", ["_law_one", "_law_count"], ["_law_one", "_law_count"], [false, false], top 42⟩
def r28 : Fd := ⟨"_law_rest_has", ["_law_one", "_law_count"], ["_law_one", "_law_count"], [false, false], top 43⟩
def r29 : Fd := ⟨"_law_beside", ["_law_ends"], ["_law_ends", "_law_lots", "_law_end"], [false], top 44⟩
def r30 : Fd := ⟨"_law_is_stretch", ["_law_thing"], ["_law_thing", "_law_end"], [false], top 45⟩
def r31 : Fd := ⟨"_law_is_rest", ["_law_thing"], ["_law_thing", "_law_part_here"], [false], top 46⟩
def r32 : Fd := ⟨"_law_odd", ["_law_source_here"], ["_law_source_here"], [true], top 47⟩
def r33 : Fd := ⟨"_law_bent", ["_law_source_here", "_law_thing"], ["_law_source_here", "_law_thing", "_law_branch", "_law_spot"], [true, false], top 48⟩
def r34 : Fd := ⟨"_law_value", ["_law_source_here"], ["_law_source_here", "_law_branch", "_law_thing"], [true], top 49⟩
def r35 : Fd := ⟨"_law_values_right", ["_law_source_here"], ["_law_source_here", "_law_turn", "_law_thing", "_law_due"], [true], top 50⟩
def r36 : Fd := ⟨"_law_stretches_right", ["_law_source_here"], ["_law_source_here", "_law_one", "_law_two", "_law_count", "_law_lots", "_law_apart", "_law_due", "_law_told"], [true], top 51⟩
def r37 : Fd := ⟨"_law_rests_right", ["_law_source_here"], ["_law_source_here", "_law_one", "_law_two", "_law_each", "_law_count", "_law_lots", "_law_apart", "_law_due", "_law_told"], [true], top 52⟩
def r38 : Fd := ⟨"_law_right", ["_law_source_here"], ["_law_source_here"], [true], top 53⟩
def r39 : Fd := ⟨"law", ["_law_script"], ["_law_script", "_law_turn"], [false], top 54⟩
def rs : List Fd := [r0, r1, r2, r3, r4, r5, r6, r7, r8, r9, r10, r11, r12, r13, r14, r15, r16, r17, r18, r19, r20, r21, r22, r23, r24, r25, r26, r27, r28, r29, r30, r31, r32, r33, r34, r35, r36, r37, r38, r39]
def tb : Tab := ⟨fnsFrom 0 rs, [("EMPTY_stretchwork", (.tuple [])), ("EMPTY_restwork", (.tuple [])), ("GRAIN", (.int 20160))], [("isinstance", .isinstance), ("int", .int), ("bool", .bool), ("tuple", .tuple), ("len", .len), ("all", .all), ("abs", .abs), ("divmod", .divmod), ("range", .range), ("min", .min), ("max", .max), ("zip", .zip), ("list", .list), ("str", .str)], [], [("is_stretch", 0, ["value"], [0]), ("is_rest", 0, ["value"], [0]), ("stretch_holds", 0, ["number", "stretch"], [1, 0]), ("rest_holds", 0, ["number", "rest"], [1, 0])], [], [], []⟩
abbrev wfl : Nat := 30000
abbrev fl : Nat := 60
abbrev run (n : Nat) : Nat → Fn := runF rs tb wfl fl n
abbrev F_is_whole (n : Nat) : Fn := run n 0
abbrev F_are_wholes (n : Nat) : Fn := run n 1
abbrev F_is_end (n : Nat) : Fn := run n 2
abbrev F_is_stretched (n : Nat) : Fn := run n 3
abbrev F_is_held (n : Nat) : Fn := run n 4
abbrev F_is_rested (n : Nat) : Fn := run n 5
abbrev F_is_multiple (n : Nat) : Fn := run n 6
abbrev F_is_left (n : Nat) : Fn := run n 7
abbrev F_check_stretch (n : Nat) : Fn := run n 8
abbrev F_check_rest (n : Nat) : Fn := run n 9
abbrev F_check_whole (n : Nat) : Fn := run n 10
abbrev F_is_stretch (n : Nat) : Fn := run n 11
abbrev F_stretch_holds (n : Nat) : Fn := run n 12
abbrev F_is_rest (n : Nat) : Fn := run n 13
abbrev F_rest_holds (n : Nat) : Fn := run n 14
abbrev F_law_source (n : Nat) : Fn := run n 15
abbrev F_law_take (n : Nat) : Fn := run n 16
abbrev F_law_pick (n : Nat) : Fn := run n 17
abbrev F_law_great (n : Nat) : Fn := run n 18
abbrev F_law_number (n : Nat) : Fn := run n 19
abbrev F_law_stretch (n : Nat) : Fn := run n 20
abbrev F_law_near (n : Nat) : Fn := run n 21
abbrev F_law_part (n : Nat) : Fn := run n 22
abbrev F_law_rest (n : Nat) : Fn := run n 23
abbrev F_law_rest_near (n : Nat) : Fn := run n 24
abbrev F_law_is_whole (n : Nat) : Fn := run n 25
abbrev F_law_same (n : Nat) : Fn := run n 26
abbrev F_law_has (n : Nat) : Fn := run n 27
abbrev F_law_rest_has (n : Nat) : Fn := run n 28
abbrev F_law_beside (n : Nat) : Fn := run n 29
abbrev F_law_is_stretch (n : Nat) : Fn := run n 30
abbrev F_law_is_rest (n : Nat) : Fn := run n 31
abbrev F_law_odd (n : Nat) : Fn := run n 32
abbrev F_law_bent (n : Nat) : Fn := run n 33
abbrev F_law_value (n : Nat) : Fn := run n 34
abbrev F_law_values_right (n : Nat) : Fn := run n 35
abbrev F_law_stretches_right (n : Nat) : Fn := run n 36
abbrev F_law_rests_right (n : Nat) : Fn := run n 37
abbrev F_law_right (n : Nat) : Fn := run n 38
abbrev F_law (n : Nat) : Fn := run n 39
theorem tb_ok : tabB rs tb = true := by kernel_rfl
theorem bd_ok : AllR BindOk rs := ⟨fun _ _ _ _ _ _ us hl => match us, hl with | [_], _ => rfl, fun _ _ _ _ _ _ us hl => match us, hl with | [_, _], _ => rfl, fun _ _ _ _ _ _ us hl => match us, hl with | [_], _ => rfl, fun _ _ _ _ _ _ us hl => match us, hl with | [_], _ => rfl, fun _ _ _ _ _ _ us hl => match us, hl with | [_, _], _ => rfl, fun _ _ _ _ _ _ us hl => match us, hl with | [_], _ => rfl, fun _ _ _ _ _ _ us hl => match us, hl with | [_, _], _ => rfl, fun _ _ _ _ _ _ us hl => match us, hl with | [_, _], _ => rfl, fun _ _ _ _ _ _ us hl => match us, hl with | [_], _ => rfl, fun _ _ _ _ _ _ us hl => match us, hl with | [_], _ => rfl, fun _ _ _ _ _ _ us hl => match us, hl with | [_], _ => rfl, fun _ _ _ _ _ _ us hl => match us, hl with | [_], _ => rfl, fun _ _ _ _ _ _ us hl => match us, hl with | [_, _], _ => rfl, fun _ _ _ _ _ _ us hl => match us, hl with | [_], _ => rfl, fun _ _ _ _ _ _ us hl => match us, hl with | [_, _], _ => rfl, fun _ _ _ _ _ _ us hl => match us, hl with | [_, _], _ => rfl, fun _ _ _ _ _ _ us hl => match us, hl with | [_, _], _ => rfl, fun _ _ _ _ _ _ us hl => match us, hl with | [_, _], _ => rfl, fun _ _ _ _ _ _ us hl => match us, hl with | [_], _ => rfl, fun _ _ _ _ _ _ us hl => match us, hl with | [_], _ => rfl, fun _ _ _ _ _ _ us hl => match us, hl with | [_], _ => rfl, fun _ _ _ _ _ _ us hl => match us, hl with | [_, _], _ => rfl, fun _ _ _ _ _ _ us hl => match us, hl with | [_], _ => rfl, fun _ _ _ _ _ _ us hl => match us, hl with | [_], _ => rfl, fun _ _ _ _ _ _ us hl => match us, hl with | [_, _], _ => rfl, fun _ _ _ _ _ _ us hl => match us, hl with | [_], _ => rfl, fun _ _ _ _ _ _ us hl => match us, hl with | [_, _], _ => rfl, fun _ _ _ _ _ _ us hl => match us, hl with | [_, _], _ => rfl, fun _ _ _ _ _ _ us hl => match us, hl with | [_, _], _ => rfl, fun _ _ _ _ _ _ us hl => match us, hl with | [_], _ => rfl, fun _ _ _ _ _ _ us hl => match us, hl with | [_], _ => rfl, fun _ _ _ _ _ _ us hl => match us, hl with | [_], _ => rfl, fun _ _ _ _ _ _ us hl => match us, hl with | [_], _ => rfl, fun _ _ _ _ _ _ us hl => match us, hl with | [_, _], _ => rfl, fun _ _ _ _ _ _ us hl => match us, hl with | [_], _ => rfl, fun _ _ _ _ _ _ us hl => match us, hl with | [_], _ => rfl, fun _ _ _ _ _ _ us hl => match us, hl with | [_], _ => rfl, fun _ _ _ _ _ _ us hl => match us, hl with | [_], _ => rfl, fun _ _ _ _ _ _ us hl => match us, hl with | [_], _ => rfl, fun _ _ _ _ _ _ us hl => match us, hl with | [_], _ => rfl, trivial⟩
theorem only {x : Str} (i : Nat) (h : (List.range rs.length).all (fun j => match rs[j]? with | some r => decide (r.x = x → j = i) | none => true) = true) (j : Nat) (r : Fd) (e : rs[j]? = some r) (hx : r.x = x) : j = i := by
  have hj : j < rs.length := (List.getElem?_eq_some_iff.mp e).1
  have q := List.all_eq_true.mp h j (List.mem_range.mpr hj)
  rw [e] at q
  exact of_decide_eq_true q hx
theorem kw_ok : AllR (KwOk rs) tb.kws := ⟨⟨11, r11, rfl, rfl, only 11 (by decide +kernel), rfl, by decide, fun _ _ _ _ _ _ us ws h1 h2 => (match us, ws, h1, h2 with | [], [_], _, _ => rfl), by decide⟩, ⟨13, r13, rfl, rfl, only 13 (by decide +kernel), rfl, by decide, fun _ _ _ _ _ _ us ws h1 h2 => (match us, ws, h1, h2 with | [], [_], _, _ => rfl), by decide⟩, ⟨12, r12, rfl, rfl, only 12 (by decide +kernel), rfl, by decide, fun _ _ _ _ _ _ us ws h1 h2 => (match us, ws, h1, h2 with | [], [_, _], _, _ => rfl), by decide⟩, ⟨14, r14, rfl, rfl, only 14 (by decide +kernel), rfl, by decide, fun _ _ _ _ _ _ us ws h1 h2 => (match us, ws, h1, h2 with | [], [_, _], _, _ => rfl), by decide⟩, trivial⟩
def loose0 : List PySem.Str := ["LookError", "InvalidNumber", "InvalidStretch", "InvalidRest", "is_whole", "are_wholes", "EMPTY_stretchwork", "is_end", "is_stretched", "is_held", "GRAIN", "EMPTY_restwork", "is_rested", "is_multiple", "is_left", "check_stretch", "check_rest", "check_whole", "is_stretch", "stretch_holds"]
def loose1 : List PySem.Str := ["is_rest", "rest_holds", "_law_source", "_law_take", "_law_pick", "_law_great", "_law_number", "_law_stretch", "_law_near", "_law_part", "_law_rest", "_law_rest_near", "_law_is_whole", "_law_same", "_law_has", "_law_rest_has", "_law_beside", "_law_is_stretch", "_law_is_rest", "_law_odd"]
def loose2 : List PySem.Str := ["_law_bent", "_law_value", "_law_values_right", "_law_stretches_right", "_law_rests_right", "_law_right"]
def loose : List PySem.Str := loose0 ++ loose1 ++ loose2
abbrev R : PySem.W.OpenRow := PySem.W.OpenLaw.row PySem.Challenge.rw_soundlooks_k23_whole_what_stretches_and
abbrev hk : PySem.W.Hook := He.hookX 4 (faOf rs tb) (fnOf rs) [] [] (exB tb)
def ob (s : PySem.W.SharedT) : He.AlX := He.obsX 4 (faOf rs tb) (fnOf rs) [] [] (exB tb) (HandSHeadRun.getT s)
theorem ob_eq (s : PySem.W.SharedT) : ob s = hk.obs s.abs := He.obsX_eq (HandSHeadRun.getT_eq s)
theorem runs (w : World) : HandSHeadRun.RunEq R (PySem.W.view R.prog [54]) hk ob 9000 loose w := by
  intro os
  kernel_rfl
end K23
namespace Ev
open PySem PySem.Spec PyProof.Rows L2
abbrev wfl : Nat := 30000
def k_is_whole_b : Fx Fl := (sRet (rV (eAnd (eIsi "int" (eVar 0)) (eNot (eIsi "bool" (eVar 0))))))
def k_is_whole : Fn := callFn 1 (k_is_whole_b)
def k_is_end_b (f_is_whole : Fn) : Fx Fl := (sRet (rV (eOr (eOp gIs (eVar 0) (eC .none)) (eFz (eCall f_is_whole (aVal (eVar 0) aNil))))))
def k_is_end (f_is_whole : Fn) : Fn := callFn 1 (k_is_end_b f_is_whole)
def k_is_stretched_b (f_is_end : Fn) : Fx Fl := (sSeq (sIf (eOrT (eNotT (eTru (eIsi "tuple" (eVar 0)))) (eOrT (eB (eOp gNotIn (eLenN 0) (eTup (dCons (eC (.int 0)) (dCons (eC (.int 2)) dNil))))) (eNotT (eTru (eBlt gAll (dCons (eFz (eComp (iSeq (eVar 0)) (gN 1) (fun env => some (true, env)) (eFz (eCall f_is_end (aVal (eVar 1) aNil))) [1])) dNil)))))) (sRet (rV (eC (.bool false)))) sSkip) (sRet (rV (eOr (eOp gIn (eC .none) (eVar 0)) (eOr (eOp gEq (eVar 0) (eC (.tuple []))) (eOp gLe (eItemN 0 (eC (.int 0))) (eItemN 0 (eC (.int 1)))))))))
def k_is_stretched (f_is_end : Fn) : Fn := callFn 2 (k_is_stretched_b f_is_end)
def k_is_held_b : Fx Fl := (sSeq (sIf (eB (eOp gEq (eVar 0) (eC (.tuple [])))) (sRet (rV (eC (.bool false)))) sSkip) (sRet (rV (eAnd (eOr (eOp gIs (eItemN 0 (eC (.int 0))) (eC .none)) (eOp gLe (eItemN 0 (eC (.int 0))) (eVar 1))) (eOr (eOp gIs (eItemN 0 (eC (.int 1))) (eC .none)) (eOp gLe (eVar 1) (eItemN 0 (eC (.int 1)))))))))
def k_is_held : Fn := callFn 2 (k_is_held_b)
def k_check_stretch_b (f_is_stretched : Fn) : Fx Fl := (sIf (eNotT (eTru (eFz (eCall f_is_stretched (aVal (eVar 0) aNil))))) sStuck sSkip)
def k_check_stretch (f_is_stretched : Fn) : Fn := callFn 1 (k_check_stretch_b f_is_stretched)
def k_check_whole_b (f_is_whole : Fn) : Fx Fl := (sIf (eNotT (eTru (eFz (eCall f_is_whole (aVal (eVar 0) aNil))))) sStuck sSkip)
def k_check_whole (f_is_whole : Fn) : Fn := callFn 1 (k_check_whole_b f_is_whole)
def k_stretch_holds_b (f_is_held f_check_stretch f_check_whole : Fn) : Fx Fl := (sSeq (sExpr (eCall f_check_stretch (aVal (eVar 0) aNil))) (sSeq (sExpr (eCall f_check_whole (aVal (eVar 1) aNil))) (sRet (eCall f_is_held (aVal (eVar 0) (aVal (eVar 1) aNil))))))
def k_stretch_holds (f_is_held f_check_stretch f_check_whole : Fn) : Fn := callFn 2 (k_stretch_holds_b f_is_held f_check_stretch f_check_whole)
def k__law_take_b : Fx Fl := (sSeq (sIf (eB (eOp gGt (eItemN 0 (eC (.int 0))) (eC (.int 0)))) (sSeq (sAsg (eBlt gDivmod (dCons (eItemN 0 (eC (.int 0))) (dCons (eVar 1) dNil))) (gTup 2 (gsCons (gIx 0 (eC (.int 0))) (gsCons (gN 3) gsNil)))) (sRet (eMove 3))) sSkip) (sSeq (sAsg (eOp gAdd (eItemN 0 (eC (.int 2))) (eC (.int 1))) (gIx 0 (eC (.int 2)))) (sSeq (sSet 2 (rV (eOp gMod (eBlt gInt (dCons (eOp gAdd (eItemN 0 (eC (.int 1))) (eOp gMul (eC (.int 40093)) (eItemN 0 (eC (.int 2))))) dNil)) (eC (.int 2147483629))))) (sSeq (sAsg (eOp gMod (eBlt gInt (dCons (eOp gAdd (eOp gMul (eVar 2) (eOp gAdd (eOp gMod (eBlt gInt (dCons (eVar 2) dNil)) (eC (.int 4001))) (eC (.int 30029)))) (eOp gMul (eC (.int 17)) (eItemN 0 (eC (.int 2))))) dNil)) (eC (.int 2147483629))) (gIx 0 (eC (.int 1)))) (sRet (rV (eOp gMod (eBlt gInt (dCons (eOp gFdiv (eItemN 0 (eC (.int 1))) (eC (.int 523))) dNil)) (eVar 1))))))))
def k__law_take : Fn := callFn 4 (k__law_take_b)
def k__law_pick_b (f__law_take : Fn) : Fx Fl := (sRet (rV (eItemN 1 (eFz (eCall f__law_take (aSlot 0 (aVal (eLenN 1) aNil)))))))
def k__law_pick (f__law_take : Fn) : Fn := callFn 2 (k__law_pick_b f__law_take)
def k__law_great_l1 (f__law_take : Fn) : Fx Fl := (sSet 1 (rV (eOp gAdd (eOp gMul (eVar 1) (eC (.int 1000003))) (eFz (eCall f__law_take (aSlot 0 (aVal (eC (.int 1000003)) aNil)))))))
def k__law_great_b (f__law_take : Fn) : Fx Fl := (sSeq (sSet 1 (rV (eC (.int 0)))) (sSeq (sFor (iRange1 (eC (.int 5))) (gN 2) (k__law_great_l1 f__law_take)) (sRet (eMove 1))))
def k__law_great (f__law_take : Fn) : Fn := callFn 3 (k__law_great_b f__law_take)
def k__law_number_b (f__law_take f__law_great : Fn) : Fx Fl := (sSeq (sSet 1 (eCall f__law_take (aSlot 0 (aVal (eC (.int 16)) aNil)))) (sSeq (sIf (eB (eOp gLt (eVar 1) (eC (.int 8)))) (sRet (rV (eOp gSub (eFz (eCall f__law_take (aSlot 0 (aVal (eC (.int 13)) aNil)))) (eC (.int 6))))) sSkip) (sSeq (sIf (eB (eOp gLt (eVar 1) (eC (.int 13)))) (sRet (rV (eOp gSub (eFz (eCall f__law_take (aSlot 0 (aVal (eC (.int 121)) aNil)))) (eC (.int 60))))) sSkip) (sSeq (sIf (eB (eOp gLt (eVar 1) (eC (.int 15)))) (sRet (rV (eOp gSub (eFz (eCall f__law_take (aSlot 0 (aVal (eC (.int 200003)) aNil)))) (eC (.int 100001))))) sSkip) (sSeq (sSet 2 (eCall f__law_great (aSlot 0 aNil))) (sRet (eIf (eB (eOp gEq (eFz (eCall f__law_take (aSlot 0 (aVal (eC (.int 2)) aNil)))) (eC (.int 0)))) (eMove 2) (rV (eOp gSub (eC (.int 0)) (eVar 2))))))))))
def k__law_number (f__law_take f__law_great : Fn) : Fn := callFn 3 (k__law_number_b f__law_take f__law_great)
def k__law_stretch_b (f__law_take f__law_number : Fn) : Fx Fl := (sSeq (sSet 1 (eCall f__law_take (aSlot 0 (aVal (eC (.int 14)) aNil)))) (sSeq (sIf (eB (eOp gLt (eVar 1) (eC (.int 2)))) (sRet (eIf (eB (eOp gEq (eVar 1) (eC (.int 0)))) (rV (eTup dNil)) (rV (eTup (dCons (eC .none) (dCons (eC .none) dNil)))))) sSkip) (sSeq (sSet 2 (eCall f__law_number (aSlot 0 aNil))) (sSeq (sIf (eB (eOp gLt (eVar 1) (eC (.int 6)))) (sRet (eIf (eB (eOp gLt (eVar 1) (eC (.int 4)))) (rV (eTup (dCons (eC .none) (dCons (eVar 2) dNil)))) (rV (eTup (dCons (eVar 2) (dCons (eC .none) dNil)))))) sSkip) (sSeq (sIf (eB (eOp gEq (eVar 1) (eC (.int 6)))) (sRet (rV (eTup (dCons (eVar 2) (dCons (eVar 2) dNil))))) sSkip) (sRet (rV (eTup (dCons (eVar 2) (dCons (eOp gAdd (eVar 2) (eFz (eCall f__law_take (aSlot 0 (aVal (eIf (eB (eOp gLt (eVar 1) (eC (.int 12)))) (eC (.int 12)) (eC (.int 100003))) aNil))))) dNil))))))))))
def k__law_stretch (f__law_take f__law_number : Fn) : Fn := callFn 3 (k__law_stretch_b f__law_take f__law_number)
def k__law_near_b (f__law_take f__law_pick f__law_stretch : Fn) : Fx Fl := (sSeq (sSet 2 (eComp (iSeq (eVar 1)) (gN 6) (eB (eOp gIsNot (eVar 6) (eC .none))) (eVar 6) [6])) (sSeq (sIf (eOrT (eB (eOp gEq (eVar 2) (eFz (eLst dNil)))) (eB (eOp gEq (eFz (eCall f__law_take (aSlot 0 (aVal (eC (.int 4)) aNil)))) (eC (.int 0))))) (sRet (eCall f__law_stretch (aSlot 0 aNil))) sSkip) (sSeq (sSet 3 (rV (eOp gSub (eOp gAdd (eFz (eCall f__law_pick (aSlot 0 (aVal (eVar 2) aNil)))) (eFz (eCall f__law_take (aSlot 0 (aVal (eC (.int 5)) aNil))))) (eC (.int 2))))) (sSeq (sSet 4 (eCall f__law_take (aSlot 0 (aVal (eC (.int 7)) aNil)))) (sSeq (sIf (eB (eOp gLt (eVar 4) (eC (.int 2)))) (sRet (eIf (eB (eOp gEq (eVar 4) (eC (.int 0)))) (rV (eTup (dCons (eC .none) (dCons (eVar 3) dNil)))) (rV (eTup (dCons (eVar 3) (dCons (eC .none) dNil)))))) sSkip) (sSeq (sSet 5 (eIf (eB (eOp gLt (eVar 4) (eC (.int 6)))) (rV (eOp gSub (eOp gAdd (eFz (eCall f__law_pick (aSlot 0 (aVal (eVar 2) aNil)))) (eFz (eCall f__law_take (aSlot 0 (aVal (eC (.int 5)) aNil))))) (eC (.int 2)))) (eMove 3))) (sRet (rV (eTup (dCons (eBlt gMin (dCons (eVar 3) (dCons (eVar 5) dNil))) (dCons (eBlt gMax (dCons (eVar 3) (dCons (eVar 5) dNil))) dNil)))))))))))
def k__law_near (f__law_take f__law_pick f__law_stretch : Fn) : Fn := callFn 7 (k__law_near_b f__law_take f__law_pick f__law_stretch)
def k__law_is_whole_b : Fx Fl := (sRet (rV (eAnd (eIsi "int" (eVar 0)) (eNot (eIsi "bool" (eVar 0))))))
def k__law_is_whole : Fn := callFn 1 (k__law_is_whole_b)
def k__law_same_b (f__law_is_whole f__law_same : Fn) : Fx Fl := (sSeq (sIf (eTru (eIsi "tuple" (eVar 1))) (sSeq (sIf (eOrT (eNotT (eTru (eIsi "tuple" (eVar 0)))) (eB (eOp gNe (eLenN 0) (eLenN 1)))) (sRet (rV (eC (.bool false)))) sSkip) (sRet (rV (eBlt gAll (dCons (eFz (eComp (iZip (dCons (eVar 0) (dCons (eVar 1) dNil))) (gTup 2 (gsCons (gN 2) (gsCons (gN 3) gsNil))) (fun env => some (true, env)) (eFz (eCall f__law_same (aVal (eVar 2) (aVal (eVar 3) aNil)))) [2, 3])) dNil))))) sSkip) (sSeq (sIf (eOrT (eB (eOp gIs (eVar 1) (eC .none))) (eB (eOp gIs (eVar 0) (eC .none)))) (sRet (rV (eAnd (eOp gIs (eVar 1) (eC .none)) (eOp gIs (eVar 0) (eC .none))))) sSkip) (sSeq (sIf (eOrT (eTru (eIsi "bool" (eVar 1))) (eTru (eIsi "bool" (eVar 0)))) (sRet (rV (eAnd (eIsi "bool" (eVar 1)) (eAnd (eIsi "bool" (eVar 0)) (eOp gEq (eVar 0) (eVar 1)))))) sSkip) (sRet (rV (eAnd (eFz (eCall f__law_is_whole (aVal (eVar 0) aNil))) (eOp gEq (eVar 0) (eVar 1))))))))
def k__law_same (f__law_is_whole f__law_same : Fn) : Fn := callFn 4 (k__law_same_b f__law_is_whole f__law_same)
def k__law_has_b : Fx Fl := (sRet (rV (eAnd (eOp gNe (eVar 0) (eTup dNil)) (eAnd (eOr (eOp gIs (eItemN 0 (eC (.int 0))) (eC .none)) (eOp gLe (eItemN 0 (eC (.int 0))) (eVar 1))) (eOr (eOp gIs (eItemN 0 (eC (.int 1))) (eC .none)) (eOp gLe (eVar 1) (eItemN 0 (eC (.int 1)))))))))
def k__law_has : Fn := callFn 2 (k__law_has_b)
def k__law_beside_b : Fx Fl := (sSeq (sSet 1 (eLst (dCons (eC (.int 0)) dNil))) (sSeq (sFor (iSeq (eVar 0)) (gN 2) (sIf (eB (eOp gIsNot (eVar 2) (eC .none))) (sSet 1 (rV (eOp gAdd (eVar 1) (eFz (eLst (dCons (eOp gSub (eVar 2) (eC (.int 1))) (dCons (eVar 2) (dCons (eOp gAdd (eVar 2) (eC (.int 1))) dNil)))))))) sSkip)) (sRet (eMove 1))))
def k__law_beside : Fn := callFn 3 (k__law_beside_b)
def k_are_wholes_e1 (f_is_whole : Fn) : Fx D := (eFz (eCall f_is_whole (aVal (eVar 2) aNil)))
def k_are_wholes_b (f_is_whole : Fn) : Fx Fl := (sRet (rV (eAnd (eIsi "tuple" (eVar 0)) (eAnd (eOp gEq (eLenN 0) (eVar 1)) (eBlt gAll (dCons (eFz (eComp (iSeq (eVar 0)) (gN 2) (fun env => some (true, env)) (k_are_wholes_e1 f_is_whole) [2])) dNil))))))
def k_are_wholes (f_is_whole : Fn) : Fn := callFn 3 (k_are_wholes_b f_is_whole)
def k_is_rested_b (f_are_wholes : Fn) : Fx Fl := (sSeq (sIf (eAndT (eTru (eIsi "tuple" (eVar 0))) (eB (eOp gEq (eVar 0) (eC (.tuple []))))) (sRet (rV (eC (.bool true)))) sSkip) (sSeq (sIf (eOrT (eNotT (eTru (eFz (eCall f_are_wholes (aVal (eVar 0) (aVal (eC (.int 2)) aNil)))))) (eB (eOp gLt (eItemN 0 (eC (.int 1))) (eC (.int 0))))) (sRet (rV (eC (.bool false)))) sSkip) (sRet (rV (eOr (eOp gEq (eItemN 0 (eC (.int 1))) (eC (.int 0))) (eAnd (eOp gEq (eOp gMod (eC (.int 20160)) (eItemN 0 (eC (.int 1)))) (eC (.int 0))) (eChain gLe gLt (eC (.int 0)) (eItemN 0 (eC (.int 0))) (eItemN 0 (eC (.int 1))))))))))
def k_is_rested (f_are_wholes : Fn) : Fn := callFn 1 (k_is_rested_b f_are_wholes)
def k_is_multiple_b : Fx Fl := (sRet (eIf (eB (eOp gEq (eVar 1) (eC (.int 0)))) (rV (eOp gEq (eVar 0) (eC (.int 0)))) (rV (eOp gEq (eOp gMod (eVar 0) (eVar 1)) (eC (.int 0))))))
def k_is_multiple : Fn := callFn 2 (k_is_multiple_b)
def k_is_left_b (f_is_multiple : Fn) : Fx Fl := (sRet (rV (eAnd (eOp gNe (eVar 0) (eC (.tuple []))) (eFz (eCall f_is_multiple (aVal (eOp gSub (eVar 1) (eItemN 0 (eC (.int 0)))) (aVal (eItemN 0 (eC (.int 1))) aNil)))))))
def k_is_left (f_is_multiple : Fn) : Fn := callFn 2 (k_is_left_b f_is_multiple)
def k_check_rest_b (f_is_rested : Fn) : Fx Fl := (sIf (eNotT (eTru (eFz (eCall f_is_rested (aVal (eVar 0) aNil))))) sStuck sSkip)
def k_check_rest (f_is_rested : Fn) : Fn := callFn 1 (k_check_rest_b f_is_rested)
def k_is_stretch_b (f_is_stretched : Fn) : Fx Fl := (sRet (eCall f_is_stretched (aVal (eVar 0) aNil)))
def k_is_stretch (f_is_stretched : Fn) : Fn := callFn 1 (k_is_stretch_b f_is_stretched)
def k_is_rest_b (f_is_rested : Fn) : Fx Fl := (sRet (eCall f_is_rested (aVal (eVar 0) aNil)))
def k_is_rest (f_is_rested : Fn) : Fn := callFn 1 (k_is_rest_b f_is_rested)
def k_rest_holds_b (f_is_left f_check_rest f_check_whole : Fn) : Fx Fl := (sSeq (sExpr (eCall f_check_rest (aVal (eVar 0) aNil))) (sSeq (sExpr (eCall f_check_whole (aVal (eVar 1) aNil))) (sRet (eCall f_is_left (aVal (eVar 0) (aVal (eVar 1) aNil))))))
def k_rest_holds (f_is_left f_check_rest f_check_whole : Fn) : Fn := callFn 2 (k_rest_holds_b f_is_left f_check_rest f_check_whole)
def k__law_part_b (f__law_pick : Fn) : Fx Fl := (sSeq (sSet 1 (eCall f__law_pick (aSlot 0 (aVal (eTup (dCons (eC (.int 1)) (dCons (eC (.int 1)) (dCons (eC (.int 2)) (dCons (eC (.int 2)) (dCons (eC (.int 4)) (dCons (eC (.int 4)) (dCons (eC (.int 8)) (dCons (eC (.int 16)) (dCons (eC (.int 32)) (dCons (eC (.int 64)) dNil))))))))))) aNil)))) (sSeq (sSet 2 (eCall f__law_pick (aSlot 0 (aVal (eTup (dCons (eC (.int 1)) (dCons (eC (.int 1)) (dCons (eC (.int 3)) (dCons (eC (.int 9)) dNil))))) aNil)))) (sRet (rV (eOp gMul (eOp gMul (eOp gMul (eVar 1) (eVar 2)) (eFz (eCall f__law_pick (aSlot 0 (aVal (eTup (dCons (eC (.int 1)) (dCons (eC (.int 1)) (dCons (eC (.int 1)) (dCons (eC (.int 5)) dNil))))) aNil))))) (eFz (eCall f__law_pick (aSlot 0 (aVal (eTup (dCons (eC (.int 1)) (dCons (eC (.int 1)) (dCons (eC (.int 1)) (dCons (eC (.int 7)) dNil))))) aNil)))))))))
def k__law_part (f__law_pick : Fn) : Fn := callFn 3 (k__law_part_b f__law_pick)
def k__law_rest_b (f__law_take f__law_number f__law_part : Fn) : Fx Fl := (sSeq (sSet 1 (eCall f__law_take (aSlot 0 (aVal (eC (.int 9)) aNil)))) (sSeq (sIf (eB (eOp gLt (eVar 1) (eC (.int 3)))) (sRet (eIf (eB (eOp gEq (eVar 1) (eC (.int 0)))) (rV (eTup dNil)) (rV (eTup (dCons (eFz (eCall f__law_number (aSlot 0 aNil))) (dCons (eC (.int 0)) dNil)))))) sSkip) (sSeq (sSet 2 (eCall f__law_part (aSlot 0 aNil))) (sRet (rV (eTup (dCons (eFz (eCall f__law_take (aSlot 0 (aVal (eVar 2) aNil)))) (dCons (eVar 2) dNil))))))))
def k__law_rest (f__law_take f__law_number f__law_part : Fn) : Fn := callFn 3 (k__law_rest_b f__law_take f__law_number f__law_part)
def k__law_rest_near_b (f__law_take f__law_pick f__law_part f__law_rest : Fn) : Fx Fl := (sSeq (sIf (eOrT (eB (eOp gEq (eVar 1) (eTup dNil))) (eB (eOp gEq (eFz (eCall f__law_take (aSlot 0 (aVal (eC (.int 4)) aNil)))) (eC (.int 0))))) (sRet (eCall f__law_rest (aSlot 0 aNil))) sSkip) (sSeq (sSet 2 (rV (eOp gAdd (eOp gAdd (eItemN 1 (eC (.int 0))) (eOp gMul (eItemN 1 (eC (.int 1))) (eOp gSub (eFz (eCall f__law_take (aSlot 0 (aVal (eC (.int 7)) aNil)))) (eC (.int 3))))) (eFz (eCall f__law_pick (aSlot 0 (aVal (eTup (dCons (eC (.int 0)) (dCons (eC (.int 0)) (dCons (eC (.int 0)) (dCons (eC (.int 1)) (dCons (eOp gFdiv (eItemN 1 (eC (.int 1))) (eC (.int 2))) dNil)))))) aNil))))))) (sSeq (sIf (eB (eOp gEq (eFz (eCall f__law_take (aSlot 0 (aVal (eC (.int 4)) aNil)))) (eC (.int 0)))) (sRet (rV (eTup (dCons (eVar 2) (dCons (eC (.int 0)) dNil))))) sSkip) (sSeq (sSet 3 (eCall f__law_part (aSlot 0 aNil))) (sRet (rV (eTup (dCons (eOp gMod (eBlt gInt (dCons (eVar 2) dNil)) (eVar 3)) (dCons (eVar 3) dNil)))))))))
def k__law_rest_near (f__law_take f__law_pick f__law_part f__law_rest : Fn) : Fn := callFn 4 (k__law_rest_near_b f__law_take f__law_pick f__law_part f__law_rest)
def k__law_rest_has_b : Fx Fl := (sRet (rV (eAnd (eOp gNe (eVar 0) (eTup dNil)) (eIf (eB (eOp gEq (eItemN 0 (eC (.int 1))) (eC (.int 0)))) (eOp gEq (eItemN 0 (eC (.int 0))) (eVar 1)) (eOp gEq (eOp gMod (eBlt gInt (dCons (eVar 1) dNil)) (eItemN 0 (eC (.int 1)))) (eItemN 0 (eC (.int 0))))))))
def k__law_rest_has : Fn := callFn 2 (k__law_rest_has_b)
def k__law_is_stretch_e1 (f__law_is_whole : Fn) : Fx D := (eOr (eOp gIs (eVar 1) (eC .none)) (eFz (eCall f__law_is_whole (aVal (eVar 1) aNil))))
def k__law_is_stretch_b (f__law_is_whole : Fn) : Fx Fl := (sSeq (sIf (eOrT (eNotT (eTru (eIsi "tuple" (eVar 0)))) (eB (eOp gNe (eLenN 0) (eC (.int 2))))) (sRet (rV (eAnd (eIsi "tuple" (eVar 0)) (eOp gEq (eLenN 0) (eC (.int 0)))))) sSkip) (sSeq (sIf (eNotT (eTru (eBlt gAll (dCons (eFz (eComp (iSeq (eVar 0)) (gN 1) (fun env => some (true, env)) (k__law_is_stretch_e1 f__law_is_whole) [1])) dNil)))) (sRet (rV (eC (.bool false)))) sSkip) (sRet (rV (eOr (eOp gIs (eItemN 0 (eC (.int 0))) (eC .none)) (eOr (eOp gIs (eItemN 0 (eC (.int 1))) (eC .none)) (eOp gLe (eItemN 0 (eC (.int 0))) (eItemN 0 (eC (.int 1))))))))))
def k__law_is_stretch (f__law_is_whole : Fn) : Fn := callFn 2 (k__law_is_stretch_b f__law_is_whole)
def k__law_is_rest_e1 (f__law_is_whole : Fn) : Fx D := (eFz (eCall f__law_is_whole (aVal (eVar 1) aNil)))
def k__law_is_rest_b (f__law_is_whole : Fn) : Fx Fl := (sSeq (sIf (eOrT (eNotT (eTru (eIsi "tuple" (eVar 0)))) (eB (eOp gNe (eLenN 0) (eC (.int 2))))) (sRet (rV (eAnd (eIsi "tuple" (eVar 0)) (eOp gEq (eLenN 0) (eC (.int 0)))))) sSkip) (sSeq (sIf (eNotT (eTru (eBlt gAll (dCons (eFz (eComp (iSeq (eVar 0)) (gN 1) (fun env => some (true, env)) (k__law_is_rest_e1 f__law_is_whole) [1])) dNil)))) (sRet (rV (eC (.bool false)))) sSkip) (sSeq (sIf (eB (eOp gLt (eItemN 0 (eC (.int 1))) (eC (.int 1)))) (sRet (rV (eOp gEq (eItemN 0 (eC (.int 1))) (eC (.int 0))))) sSkip) (sRet (rV (eAnd (eOp gEq (eOp gMod (eC (.int 20160)) (eItemN 0 (eC (.int 1)))) (eC (.int 0))) (eChain gLe gLt (eC (.int 0)) (eItemN 0 (eC (.int 0))) (eItemN 0 (eC (.int 1))))))))))
def k__law_is_rest (f__law_is_whole : Fn) : Fn := callFn 2 (k__law_is_rest_b f__law_is_whole)
def k__law_odd_b (f__law_pick : Fn) : Fx Fl := (sRet (eCall f__law_pick (aSlot 0 (aVal (eTup (dCons (eC .none) (dCons (eC (.bool true)) (dCons (eC (.bool false)) (dCons (eC (.int 0)) (dCons (eC (.int 1)) (dCons (eNeg (eC (.int 3))) (dCons (eOp gPow (eC (.int 10)) (eC (.int 30))) (dCons (eC (.str "")) (dCons (eC (.str "<")) (dCons (eC (.str "01")) (dCons (eTup dNil) (dCons (eTup (dCons (eC (.int 0)) dNil)) (dCons (eTup (dCons (eC (.int 0)) (dCons (eC (.int 1)) dNil))) (dCons (eTup (dCons (eC (.int 1)) (dCons (eC (.int 0)) dNil))) (dCons (eTup (dCons (eC (.int 4)) (dCons (eC (.int 3)) dNil))) (dCons (eTup (dCons (eC (.int 3)) (dCons (eC (.int 4)) dNil))) (dCons (eTup (dCons (eC .none) (dCons (eC .none) dNil))) (dCons (eTup (dCons (eC .none) (dCons (eC (.int 2)) dNil))) (dCons (eTup (dCons (eC (.int 2)) (dCons (eC .none) dNil))) (dCons (eTup (dCons (eC (.bool true)) (dCons (eC (.int 2)) dNil))) (dCons (eTup (dCons (eC (.int 0)) (dCons (eC (.bool true)) dNil))) (dCons (eTup (dCons (eC (.bool false)) (dCons (eC (.int 0)) dNil))) (dCons (eTup (dCons (eC (.int 1)) (dCons (eC (.int 2)) (dCons (eC (.int 3)) dNil)))) (dCons (eTup (dCons (eC (.int 0)) (dCons (eC (.int 20160)) dNil))) (dCons (eTup (dCons (eC (.int 20160)) (dCons (eC (.int 20160)) dNil))) (dCons (eTup (dCons (eC (.int 0)) (dCons (eC (.int 11)) dNil))) (dCons (eTup (dCons (eC (.int 7)) (dCons (eC (.int 7)) dNil))) (dCons (eTup (dCons (eNeg (eC (.int 1))) (dCons (eC (.int 4)) dNil))) (dCons (eTup (dCons (eC (.int 0)) (dCons (eNeg (eC (.int 4))) dNil))) (dCons (eTup (dCons (eC .none) (dCons (eC (.str "2")) dNil))) (dCons (eTup (dCons (eC (.str "0")) (dCons (eC (.int 2)) dNil))) (dCons (eTup (dCons (eTup dNil) (dCons (eTup dNil) dNil))) (dCons (eTup (dCons (eC (.int 0)) (dCons (eTup dNil) dNil))) (dCons (eFz (eLst dNil)) (dCons (eFz (eLst (dCons (eC (.int 0)) (dCons (eC (.int 1)) dNil)))) (dCons (eFz (eLst (dCons (eC .none) (dCons (eC .none) dNil)))) (dCons eDct0 (dCons (eTup (dCons (eTup (dCons (eC (.int 0)) (dCons (eC (.int 1)) dNil))) dNil)) dNil))))))))))))))))))))))))))))))))))))))) aNil))))
def k__law_odd (f__law_pick : Fn) : Fn := callFn 1 (k__law_odd_b f__law_pick)
def k__law_bent_b (f__law_take f__law_odd f__law_bent : Fn) : Fx Fl := (sSeq (sIf (eAndT (eTru (eIsi "tuple" (eVar 1))) (eAndT (eB (eOp gNe (eVar 1) (eTup dNil))) (eB (eOp gGt (eFz (eCall f__law_take (aSlot 0 (aVal (eC (.int 4)) aNil)))) (eC (.int 0)))))) (sSeq (sSet 3 (eCall f__law_take (aSlot 0 (aVal (eLenN 1) aNil)))) (sRet (rV (eOp gAdd (eOp gAdd (eFz (eSlice (eVar 1) (ePart none) (ePart (some (eVar 3))))) (eTup (dCons (eFz (eCall f__law_bent (aSlot 0 (aVal (eItemN 1 (eVar 3)) aNil)))) dNil))) (eFz (eSlice (eVar 1) (ePart (some (eOp gAdd (eVar 3) (eC (.int 1))))) (ePart none))))))) sSkip) (sSeq (sSet 2 (eCall f__law_take (aSlot 0 (aVal (eC (.int 9)) aNil)))) (sSeq (sIf (eAndT (eTru (eIsi "tuple" (eVar 1))) (eB (eOp gLt (eVar 2) (eC (.int 6))))) (sRet (rV (eOp gItem (eTup (dCons (eFz (eList (eVar 1))) (dCons (eFz (eSlice (eVar 1) (ePart none) (ePart (some (eNeg (eC (.int 1))))))) (dCons (eOp gAdd (eVar 1) (eFz (eSlice (eVar 1) (ePart (some (eNeg (eC (.int 1))))) (ePart none)))) (dCons (eFz (eRev (eVar 1))) (dCons (eFz (eSlice (eVar 1) (ePart (some (eC (.int 1)))) (ePart none))) (dCons (eOp gAdd (eFz (eSlice (eVar 1) (ePart none) (ePart (some (eC (.int 1)))))) (eVar 1)) dNil))))))) (eVar 2)))) sSkip) (sSeq (sIf (eAndT (eTru (eIsi "int" (eVar 1))) (eB (eOp gLt (eVar 2) (eC (.int 6))))) (sRet (rV (eOp gItem (eTup (dCons (eOp gAdd (eVar 1) (eC (.int 1))) (dCons (eOp gSub (eC (.int 0)) (eVar 1)) (dCons (eOp gMul (eC (.int 2)) (eVar 1)) (dCons (eOp gSub (eVar 1) (eC (.int 2))) (dCons (eOp gEq (eVar 1) (eC (.int 1))) (dCons (eBlt gStr (dCons (eVar 1) dNil)) dNil))))))) (eVar 2)))) sSkip) (sRet (eCall f__law_odd (aSlot 0 aNil)))))))
def k__law_bent (f__law_take f__law_odd f__law_bent : Fn) : Fn := callFn 4 (k__law_bent_b f__law_take f__law_odd f__law_bent)
def k__law_value_b (f__law_take f__law_stretch f__law_rest f__law_odd f__law_bent : Fn) : Fx Fl := (sSeq (sSet 1 (eCall f__law_take (aSlot 0 (aVal (eC (.int 7)) aNil)))) (sSeq (sIf (eB (eOp gEq (eVar 1) (eC (.int 0)))) (sRet (eCall f__law_odd (aSlot 0 aNil))) sSkip) (sSeq (sSet 2 (eIf (eB (eOp gLt (eVar 1) (eC (.int 4)))) (eCall f__law_stretch (aSlot 0 aNil)) (eCall f__law_rest (aSlot 0 aNil)))) (sRet (eIf (eOrT (eB (eOp gEq (eVar 1) (eC (.int 1)))) (eB (eOp gEq (eVar 1) (eC (.int 4))))) (eMove 2) (eCall f__law_bent (aSlot 0 (aVal (eVar 2) aNil))))))))
def k__law_value (f__law_take f__law_stretch f__law_rest f__law_odd f__law_bent : Fn) : Fn := callFn 3 (k__law_value_b f__law_take f__law_stretch f__law_rest f__law_odd f__law_bent)
def k__law_values_right_l1 (f_is_stretch f_is_rest f__law_same f__law_is_stretch f__law_is_rest f__law_value : Fn) : Fx Fl := (sSeq (sSet 2 (eCall f__law_value (aSlot 0 aNil))) (sSeq (sSet 3 (rV (eTup (dCons (eFz (eCall f__law_is_stretch (aVal (eVar 2) aNil))) (dCons (eFz (eCall f__law_is_stretch (aVal (eVar 2) aNil))) (dCons (eFz (eCall f__law_is_rest (aVal (eVar 2) aNil))) (dCons (eFz (eCall f__law_is_rest (aVal (eVar 2) aNil))) dNil))))))) (sIf (eNotT (eTru (eFz (eCall f__law_same (aVal (eTup (dCons (eFz (eCall f_is_stretch (aVal (eVar 2) aNil))) (dCons (eFz (eCallK f_is_stretch 0 1 [0] dNil (dCons (eVar 2) dNil))) (dCons (eFz (eCall f_is_rest (aVal (eVar 2) aNil))) (dCons (eFz (eCallK f_is_rest 0 1 [0] dNil (dCons (eVar 2) dNil))) dNil))))) (aVal (eVar 3) aNil)))))) (sRet (rV (eC (.bool false)))) sSkip)))
def k__law_values_right_b (f_is_stretch f_is_rest f__law_same f__law_is_stretch f__law_is_rest f__law_value : Fn) : Fx Fl := (sSeq (sFor (iRange1 (eC (.int 4))) (gN 1) (k__law_values_right_l1 f_is_stretch f_is_rest f__law_same f__law_is_stretch f__law_is_rest f__law_value)) (sRet (rV (eC (.bool true)))))
def k__law_values_right (f_is_stretch f_is_rest f__law_same f__law_is_stretch f__law_is_rest f__law_value : Fn) : Fn := callFn 4 (k__law_values_right_b f_is_stretch f_is_rest f__law_same f__law_is_stretch f__law_is_rest f__law_value)
def k__law_stretches_right_l1 (f_stretch_holds f__law_same f__law_has : Fn) : Fx Fl := (sSeq (sSet 6 (rV (eTup (dCons (eFz (eCall f__law_has (aVal (eVar 1) (aVal (eVar 3) aNil)))) (dCons (eFz (eCall f__law_has (aVal (eVar 2) (aVal (eVar 3) aNil)))) (dCons (eFz (eCall f__law_has (aVal (eVar 1) (aVal (eVar 3) aNil)))) dNil)))))) (sSeq (sSet 7 (rV (eTup (dCons (eFz (eCall f_stretch_holds (aVal (eVar 1) (aVal (eVar 3) aNil)))) (dCons (eFz (eCall f_stretch_holds (aVal (eVar 2) (aVal (eVar 3) aNil)))) (dCons (eFz (eCallK f_stretch_holds 0 2 [1, 0] dNil (dCons (eVar 3) (dCons (eVar 1) dNil)))) dNil)))))) (sSeq (sIf (eNotT (eTru (eFz (eCall f__law_same (aVal (eVar 7) (aVal (eVar 6) aNil)))))) (sRet (rV (eC (.bool false)))) sSkip) (sSet 5 (rV (eOr (eVar 5) (eOp gNe (eItemN 7 (eC (.int 0))) (eItemN 7 (eC (.int 1))))))))))
def k__law_stretches_right_b (f_stretch_holds f__law_number f__law_stretch f__law_near f__law_same f__law_has f__law_beside : Fn) : Fx Fl := (sSeq (sSet 1 (eCall f__law_stretch (aSlot 0 aNil))) (sSeq (sSet 2 (eCall f__law_near (aSlot 0 (aVal (eVar 1) aNil)))) (sSeq (sPar [4, 5] (aR (rV (eOp gAdd (eFz (eCall f__law_beside (aVal (eOp gAdd (eVar 1) (eVar 2)) aNil))) (eFz (eLst (dCons (eFz (eCall f__law_number (aSlot 0 aNil))) dNil))))) (aR (rV (eC (.bool false))) aNil))) (sSeq (sFor (iSeq (eVar 4)) (gN 3) (k__law_stretches_right_l1 f_stretch_holds f__law_same f__law_has)) (sRet (rV (eOp gEq (eVar 5) (eOp gNe (eVar 1) (eVar 2)))))))))
def k__law_stretches_right (f_stretch_holds f__law_number f__law_stretch f__law_near f__law_same f__law_has f__law_beside : Fn) : Fn := callFn 8 (k__law_stretches_right_b f_stretch_holds f__law_number f__law_stretch f__law_near f__law_same f__law_has f__law_beside)
def k__law_rests_right_l1 : Fx Fl := (sIf (eB (eOp gNe (eVar 3) (eTup dNil))) (sSet 5 (rV (eOp gAdd (eVar 5) (eFz (eLst (dCons (eItemN 3 (eC (.int 0))) (dCons (eOp gAdd (eItemN 3 (eC (.int 0))) (eItemN 3 (eC (.int 1)))) (dCons (eOp gSub (eItemN 3 (eC (.int 0))) (eItemN 3 (eC (.int 1)))) (dCons (eOp gAdd (eItemN 3 (eC (.int 0))) (eC (.int 1))) (dCons (eOp gAdd (eItemN 3 (eC (.int 0))) (eC (.int 20160))) dNil)))))))))) sSkip)
def k__law_rests_right_l2 (f_rest_holds f__law_same f__law_rest_has : Fn) : Fx Fl := (sSeq (sSet 7 (rV (eTup (dCons (eFz (eCall f__law_rest_has (aVal (eVar 1) (aVal (eVar 4) aNil)))) (dCons (eFz (eCall f__law_rest_has (aVal (eVar 2) (aVal (eVar 4) aNil)))) (dCons (eFz (eCall f__law_rest_has (aVal (eVar 1) (aVal (eVar 4) aNil)))) dNil)))))) (sSeq (sSet 8 (rV (eTup (dCons (eFz (eCall f_rest_holds (aVal (eVar 1) (aVal (eVar 4) aNil)))) (dCons (eFz (eCall f_rest_holds (aVal (eVar 2) (aVal (eVar 4) aNil)))) (dCons (eFz (eCallK f_rest_holds 0 2 [1, 0] dNil (dCons (eVar 4) (dCons (eVar 1) dNil)))) dNil)))))) (sSeq (sIf (eNotT (eTru (eFz (eCall f__law_same (aVal (eVar 8) (aVal (eVar 7) aNil)))))) (sRet (rV (eC (.bool false)))) sSkip) (sSet 6 (rV (eOr (eVar 6) (eOp gNe (eItemN 8 (eC (.int 0))) (eItemN 8 (eC (.int 1))))))))))
def k__law_rests_right_b (f_rest_holds f__law_number f__law_rest f__law_rest_near f__law_same f__law_rest_has : Fn) : Fx Fl := (sSeq (sSet 1 (eCall f__law_rest (aSlot 0 aNil))) (sSeq (sSet 2 (eCall f__law_rest_near (aSlot 0 (aVal (eVar 1) aNil)))) (sSeq (sPar [5, 6] (aR (eLst (dCons (eFz (eCall f__law_number (aSlot 0 aNil))) (dCons (eC (.int 0)) (dCons (eC (.int 1)) dNil)))) (aR (rV (eC (.bool false))) aNil))) (sSeq (sFor (iSeq (eTup (dCons (eVar 1) (dCons (eVar 2) dNil)))) (gN 3) k__law_rests_right_l1) (sSeq (sFor (iSeq (eVar 5)) (gN 4) (k__law_rests_right_l2 f_rest_holds f__law_same f__law_rest_has)) (sRet (rV (eOp gEq (eVar 6) (eOp gNe (eVar 1) (eVar 2))))))))))
def k__law_rests_right (f_rest_holds f__law_number f__law_rest f__law_rest_near f__law_same f__law_rest_has : Fn) : Fn := callFn 9 (k__law_rests_right_b f_rest_holds f__law_number f__law_rest f__law_rest_near f__law_same f__law_rest_has)
def k__law_right_v2_b (f__law_values_right f__law_stretches_right f__law_rests_right : Fn) : Fx Fl := (sRet (rV (eAnd (eFz (eCall f__law_values_right (aSlot 0 aNil))) (eAnd (eFz (eCall f__law_stretches_right (aSlot 0 aNil))) (eFz (eCall f__law_rests_right (aSlot 0 aNil)))))))
def k__law_right_v2 (f__law_values_right f__law_stretches_right f__law_rests_right : Fn) : Fn := callFn 1 (k__law_right_v2_b f__law_values_right f__law_stretches_right f__law_rests_right)
end Ev
namespace Ev
local macro_rules
  | `(tactic| simp! only [$as,*]) => `(tactic| simp only [↓x_var, ↓x_C, ↓x_op, ↓x_fz, ↓x_rV, ↓x_B, ↓x_chain, ↓x_tru, ↓x_notT, ↓x_andT, ↓x_orT, ↓x_and, ↓x_or, ↓x_not, ↓x_neg, ↓x_if, ↓x_aNil, ↓x_aVal, ↓x_aSlot, ↓x_aTmp, ↓x_aR, ↓x_call, ↓x_callK, ↓x_dNil, ↓x_dCons, ↓x_tup, ↓x_lst, ↓x_itemN, ↓x_ownItem, ↓x_lenN, ↓x_blt, ↓x_isi, ↓x_list, ↓x_rgL1, ↓x_rgL2, ↓x_iSeq, ↓x_iZip, ↓x_range1, ↓x_range2, ↓x_addR, ↓x_slice, ↓x_partN, ↓x_partS, ↓x_comp, ↓x_skip, ↓x_stuck, ↓x_break, ↓x_cont, ↓x_seq, ↓x_sIf, ↓x_sExpr, ↓x_ret, ↓x_retN, ↓x_move, ↓x_setRv, ↓x_setRf, ↓x_setRm, ↓x_set, ↓x_gN, ↓x_gsNil, ↓x_gsCons, ↓x_gTup, ↓x_gIx, ↓x_setAt, ↓x_asg, ↓x_par, ↓x_sm0, ↓x_smV, ↓x_smF, ↓x_app, ↓x_for, ↓x_for0, ↓x_for1, ↓x_comp0, ↓x_comp1, ↓x_fn, ↓x_iEnum, ↓x_range3, ↓x_comp2, ↓x_compN0, ↓x_compN1, ↓x_item2, ↓x_item2M, ↓x_gIx2, ↓x_compM, ↓x_callB, ↓x_pop, ↓x_dStar, ↓x_seeAt, ↓x_see, ↓x_seeR, ↓x_rev, ↓x_idx, ↓x_repL, ↓x_sortK, ↓x_lenSet, ↓x_dct0, q_addI, q_addT, q_addL, q_subI, q_ltI, q_leI, q_gtI, q_geI, q_isN, q_isNotN, q_isB, q_isNotB, q_eqI, q_neI, q_eqB, q_eqT0, q_eqT1, q_neT0, q_neT1, q_eqL0, q_eqL1, q_neL0, q_neL1, q_int, q_abs, q_min2, q_max2, q_at0, q_at1, q_at2, q_at3, q_ix0, q_ix1, q_ix2, q_sz, q_iteS, q_iteT, q_iteR, q_iteV, q_iteBB, q_iteII, q_iteAnd, q_iteOr, q_iteNot, q_iteCon, q_pa0, q_pa1, q_pa2, q_pa3, q_pa4, q_ow4, q_ma0, q_ma1, q_ma2, q_ma3, q_ma4, q_ow0, q_ow1, q_ow2, q_ow3, q_c0, q_c1, q_c2, q_c3, q_c4, q_c5, q_c6, q_c7, q_c8, q_c9, q_c10, q_c11, q_c12, q_all0, q_all1, q_all2, q_all3, q_inN2, q_inN0, q_02a, q_02b, q_repr, q_ol1, q_ol2, q_ol3, q_ll1, q_ll2, q_ll3, q_scB, q_strI, q_strB, q_addBI, q_subBI, q_subIB, q_mulIB, List.getElem?_cons_zero, List.getElem?_cons_succ, List.set_cons_zero, List.set_cons_succ, wipeE, initE, outsOf, toAv, toAvB, scal, slotsOf, putOuts, natNodup, List.map_cons, List.map_nil, List.cons_append, List.nil_append, List.append_nil, List.replicate, List.length_cons, List.length_nil, isNone, isiD, seqD, gItem, truD, zipOf, zipD, pick, List.contains_nil, List.contains_cons, eq_self, List.cons_ne_nil, if_true, if_false, Bool.false_eq_true, Bool.true_eq_false, Bool.not_true, Bool.not_false, reduceIte, decide_true, decide_false, Nat.reduceAdd, Nat.reduceSub, Nat.zero_add, Nat.add_zero, and_self, true_and, and_true, Bool.and_true, Bool.true_and, Bool.or_false, Bool.false_or, Bool.or_true, Bool.true_or, Bool.and_false, Bool.false_and, Bool.or_self, Bool.and_self, Nat.sub_self, Option.map_some, Option.map_none, Nat.reduceBEq, Bool.not_eq_true, beq_self_eq_true, Nat.reduceLeDiff, Nat.reduceLT, Nat.reduceEqDiff, List.filterMap_cons, List.filterMap_nil, $as,*])
open PySem PySem.Spec PyProof.Rows L2
theorem k_take_ok : Tk k__law_take := take_ok
theorem k_number_ok {t gr : Fn} (T : Tk t) (G : Nm 5 (2 ^ 110) gr) : Nm 7 (2 ^ 110) (k__law_number t gr) := number_ok T G
/-! ## stretches -/
abbrev EE := Option Int
abbrev SS := Option (EE × EE)
def eE : EE → D
  | none => .none
  | some i => .int i
def eS : SS → D
  | none => .tuple []
  | some (l, h) => .tuple [eE l, eE h]
def leE : EE → EE → Bool
  | none, _ => true
  | _, none => true
  | some l, some h => decide (l ≤ h)
def okS : SS → Bool
  | none => true
  | some (l, h) => leE l h
def hasS : SS → Int → Bool
  | none, _ => false
  | some (l, h), k => leE l (some k) && leE (some k) h
def highM : EE → EE → EE
  | none, b => b
  | a, none => a
  | some a, some b => some (min a b)
theorem eS_n : eS none = .tuple [] := rfl
theorem eS_s {l h : EE} : eS (some (l, h)) = .tuple [eE l, eE h] := rfl
theorem eS_i {b : Bool} {l h : EE} [Decidable (b = true)] : eS (if b = true then some (l, h) else none) = if b = true then .tuple [eE l, eE h] else .tuple [] := by cases b <;> simp [eS]
section
variable {f g h w : Fn}
theorem k_held_ok (a : SS) (k : Int) : k_is_held [.val (eS a), .val (.int k)] = some (.val (.bool (hasS a k)), []) := by
  rcases a with _ | ⟨_ | l, _ | h⟩ <;> simp! only [k_is_held, k_is_held_b, eS_n, eS_s, eS_i, eE, hasS, leE]
end
end Ev
namespace Ev
open PySem PySem.Spec PyProof.Rows L2
/-! ## bounds, differences: plain theory -/
def leB : EE → EE → Prop
  | _, none => True
  | none, some _ => False
  | some a, some b => a ≤ b
def plusE : EE → EE → EE
  | some a, some b => some (a + b)
  | _, _ => none
theorem leB_refl (a : EE) : leB a a := by cases a <;> simp [leB]
theorem leB_none (a : EE) : leB a none := by cases a <;> simp [leB]
/-! ### matrices of bounds, of n indexes -/
abbrev MF := Nat → Nat → EE
section
variable {n : Nat} {f g h : MF}
def rnd (k : Nat) (f : MF) : MF := fun i j => highM (f i j) (plusE (f i k) (f k j))
/-- noughts on the diagonal -/
def dz (n : Nat) (f : MF) : Prop := ∀ i < n, f i i = some 0
def tri (n k : Nat) (f : MF) : Prop := ∀ i < n, ∀ j < n, ∀ m < k, leB (f i j) (plusE (f i m) (f m j))
def closed (n : Nat) (f : MF) : Prop := dz n f ∧ tri n n f
def leM (n : Nat) (f g : MF) : Prop := ∀ i < n, ∀ j < n, leB (f i j) (g i j)
/-! ### the values held -/
def hold (n : Nat) (f : MF) (v : Nat → Int) : Prop := ∀ i < n, ∀ j < n, leB (some (v i - v j)) (f i j)
/-! ### one bound lowered -/
/-! ### numbers chosen one by one -/
/-- goes with the numbers before -/
def fits (f : MF) (m : Nat) (v : Nat → Int) : Prop := ∀ i < m, ∀ j < m, leB (some (v i - v j)) (f i j)
end
end Ev
namespace Ev
local macro_rules
  | `(tactic| simp! only [$as,*]) => `(tactic| simp only [↓x_var, ↓x_C, ↓x_op, ↓x_fz, ↓x_rV, ↓x_B, ↓x_chain, ↓x_tru, ↓x_notT, ↓x_andT, ↓x_orT, ↓x_and, ↓x_or, ↓x_not, ↓x_neg, ↓x_if, ↓x_aNil, ↓x_aVal, ↓x_aSlot, ↓x_aTmp, ↓x_aR, ↓x_call, ↓x_callK, ↓x_dNil, ↓x_dCons, ↓x_tup, ↓x_lst, ↓x_itemN, ↓x_ownItem, ↓x_lenN, ↓x_blt, ↓x_isi, ↓x_list, ↓x_rgL1, ↓x_rgL2, ↓x_iSeq, ↓x_iZip, ↓x_range1, ↓x_range2, ↓x_addR, ↓x_slice, ↓x_partN, ↓x_partS, ↓x_comp, ↓x_skip, ↓x_stuck, ↓x_break, ↓x_cont, ↓x_seq, ↓x_sIf, ↓x_sExpr, ↓x_ret, ↓x_retN, ↓x_move, ↓x_setRv, ↓x_setRf, ↓x_setRm, ↓x_set, ↓x_gN, ↓x_gsNil, ↓x_gsCons, ↓x_gTup, ↓x_gIx, ↓x_setAt, ↓x_asg, ↓x_par, ↓x_sm0, ↓x_smV, ↓x_smF, ↓x_app, ↓x_for, ↓x_for0, ↓x_for1, ↓x_comp0, ↓x_comp1, ↓x_fn, ↓x_iEnum, ↓x_range3, ↓x_comp2, ↓x_compN0, ↓x_compN1, ↓x_item2, ↓x_item2M, ↓x_gIx2, ↓x_compM, ↓x_callB, ↓x_pop, ↓x_dStar, ↓x_seeAt, ↓x_see, ↓x_seeR, ↓x_rev, ↓x_idx, ↓x_repL, ↓x_sortK, ↓x_lenSet, ↓x_dct0, q_addI, q_addT, q_addL, q_subI, q_ltI, q_leI, q_gtI, q_geI, q_isN, q_isNotN, q_isB, q_isNotB, q_eqI, q_neI, q_eqB, q_eqT0, q_eqT1, q_neT0, q_neT1, q_eqL0, q_eqL1, q_neL0, q_neL1, q_int, q_abs, q_min2, q_max2, q_at0, q_at1, q_at2, q_at3, q_ix0, q_ix1, q_ix2, q_sz, q_iteS, q_iteT, q_iteR, q_iteV, q_iteBB, q_iteII, q_iteAnd, q_iteOr, q_iteNot, q_iteCon, q_pa0, q_pa1, q_pa2, q_pa3, q_pa4, q_ow4, q_ma0, q_ma1, q_ma2, q_ma3, q_ma4, q_ow0, q_ow1, q_ow2, q_ow3, q_c0, q_c1, q_c2, q_c3, q_c4, q_c5, q_c6, q_c7, q_c8, q_c9, q_c10, q_c11, q_c12, q_all0, q_all1, q_all2, q_all3, q_inN2, q_inN0, q_02a, q_02b, q_repr, q_ol1, q_ol2, q_ol3, q_ll1, q_ll2, q_ll3, q_scB, q_strI, q_strB, q_addBI, q_subBI, q_subIB, q_mulIB, List.getElem?_cons_zero, List.getElem?_cons_succ, List.set_cons_zero, List.set_cons_succ, wipeE, initE, outsOf, toAv, toAvB, scal, slotsOf, putOuts, natNodup, List.map_cons, List.map_nil, List.cons_append, List.nil_append, List.append_nil, List.replicate, List.length_cons, List.length_nil, isNone, isiD, seqD, gItem, truD, zipOf, zipD, pick, List.contains_nil, List.contains_cons, eq_self, List.cons_ne_nil, if_true, if_false, Bool.false_eq_true, Bool.true_eq_false, Bool.not_true, Bool.not_false, reduceIte, decide_true, decide_false, Nat.reduceAdd, Nat.reduceSub, Nat.zero_add, Nat.add_zero, and_self, true_and, and_true, Bool.and_true, Bool.true_and, Bool.or_false, Bool.false_or, Bool.or_true, Bool.true_or, Bool.and_false, Bool.false_and, Bool.or_self, Bool.and_self, Nat.sub_self, Option.map_some, Option.map_none, Nat.reduceBEq, Bool.not_eq_true, beq_self_eq_true, Nat.reduceLeDiff, Nat.reduceLT, Nat.reduceEqDiff, List.filterMap_cons, List.filterMap_nil, $as,*])
open PySem PySem.Spec PyProof.Rows L2
section
variable {f g h w : Fn}
theorem k_check_stretch_ok (hs : ∀ a, f [.val (eS a)] = some (.val (.bool (okS a)), [])) {a : SS} (ha : okS a = true) : k_check_stretch f [.val (eS a)] = some (.val .none, []) := by
  simp! only [k_check_stretch, k_check_stretch_b, hs, ha]
theorem k_check_whole_ok (hs : ∀ i, f [.val (.int i)] = some (.val (.bool true), [])) (i : Int) : k_check_whole f [.val (.int i)] = some (.val .none, []) := by
  simp! only [k_check_whole, k_check_whole_b, hs]
theorem k_stretch_holds_ok (h1 : ∀ a k, f [.val (eS a), .val (.int k)] = some (.val (.bool (hasS a k)), [])) (h2 : ∀ a, okS a = true → g [.val (eS a)] = some (.val .none, [])) (h3 : ∀ i, h [.val (.int i)] = some (.val .none, [])) {a : SS} (ha : okS a = true) (k : Int) :
    k_stretch_holds f g h [.val (eS a), .val (.int k)] = some (.val (.bool (hasS a k)), []) := by
  simp! only [k_stretch_holds, k_stretch_holds_b, h1, h2 a ha, h3]
/-! ### the law's own -/
theorem k__law_has_ok (a : SS) (k : Int) : k__law_has [.val (eS a), .val (.int k)] = some (.val (.bool (hasS a k)), []) := by
  rcases a with _ | ⟨_ | l, _ | h⟩ <;> simp! only [k__law_has, k__law_has_b, eS_n, eS_s, eE, hasS, leE]
end
end Ev
namespace Ev
local macro_rules
  | `(tactic| simp! only [$as,*]) => `(tactic| simp only [↓x_var, ↓x_C, ↓x_op, ↓x_fz, ↓x_rV, ↓x_B, ↓x_chain, ↓x_tru, ↓x_notT, ↓x_andT, ↓x_orT, ↓x_and, ↓x_or, ↓x_not, ↓x_neg, ↓x_if, ↓x_aNil, ↓x_aVal, ↓x_aSlot, ↓x_aTmp, ↓x_aR, ↓x_call, ↓x_callK, ↓x_dNil, ↓x_dCons, ↓x_tup, ↓x_lst, ↓x_itemN, ↓x_ownItem, ↓x_lenN, ↓x_blt, ↓x_isi, ↓x_list, ↓x_rgL1, ↓x_rgL2, ↓x_iSeq, ↓x_iZip, ↓x_range1, ↓x_range2, ↓x_addR, ↓x_slice, ↓x_partN, ↓x_partS, ↓x_comp, ↓x_skip, ↓x_stuck, ↓x_break, ↓x_cont, ↓x_seq, ↓x_sIf, ↓x_sExpr, ↓x_ret, ↓x_retN, ↓x_move, ↓x_setRv, ↓x_setRf, ↓x_setRm, ↓x_set, ↓x_gN, ↓x_gsNil, ↓x_gsCons, ↓x_gTup, ↓x_gIx, ↓x_setAt, ↓x_asg, ↓x_par, ↓x_sm0, ↓x_smV, ↓x_smF, ↓x_app, ↓x_for, ↓x_for0, ↓x_for1, ↓x_comp0, ↓x_comp1, ↓x_fn, ↓x_iEnum, ↓x_range3, ↓x_comp2, ↓x_compN0, ↓x_compN1, ↓x_item2, ↓x_item2M, ↓x_gIx2, ↓x_compM, ↓x_callB, ↓x_pop, ↓x_dStar, ↓x_seeAt, ↓x_see, ↓x_seeR, ↓x_rev, ↓x_idx, ↓x_repL, ↓x_sortK, ↓x_lenSet, ↓x_dct0, q_addI, q_addT, q_addL, q_subI, q_ltI, q_leI, q_gtI, q_geI, q_isN, q_isNotN, q_isB, q_isNotB, q_eqI, q_neI, q_eqB, q_eqT0, q_eqT1, q_neT0, q_neT1, q_eqL0, q_eqL1, q_neL0, q_neL1, q_int, q_abs, q_min2, q_max2, q_at0, q_at1, q_at2, q_at3, q_ix0, q_ix1, q_ix2, q_sz, q_iteS, q_iteT, q_iteR, q_iteV, q_iteBB, q_iteII, q_iteAnd, q_iteOr, q_iteNot, q_iteCon, q_pa0, q_pa1, q_pa2, q_pa3, q_pa4, q_ow4, q_ma0, q_ma1, q_ma2, q_ma3, q_ma4, q_ow0, q_ow1, q_ow2, q_ow3, q_c0, q_c1, q_c2, q_c3, q_c4, q_c5, q_c6, q_c7, q_c8, q_c9, q_c10, q_c11, q_c12, q_all0, q_all1, q_all2, q_all3, q_inN2, q_inN0, q_02a, q_02b, q_repr, q_ol1, q_ol2, q_ol3, q_ll1, q_ll2, q_ll3, q_scB, q_strI, q_strB, q_addBI, q_subBI, q_subIB, q_mulIB, List.getElem?_cons_zero, List.getElem?_cons_succ, List.set_cons_zero, List.set_cons_succ, wipeE, initE, outsOf, toAv, toAvB, scal, slotsOf, putOuts, natNodup, List.map_cons, List.map_nil, List.cons_append, List.nil_append, List.append_nil, List.replicate, List.length_cons, List.length_nil, isNone, isiD, seqD, gItem, truD, zipOf, zipD, pick, List.contains_nil, List.contains_cons, eq_self, List.cons_ne_nil, if_true, if_false, Bool.false_eq_true, Bool.true_eq_false, Bool.not_true, Bool.not_false, reduceIte, decide_true, decide_false, Nat.reduceAdd, Nat.reduceSub, Nat.zero_add, Nat.add_zero, and_self, true_and, and_true, Bool.and_true, Bool.true_and, Bool.or_false, Bool.false_or, Bool.or_true, Bool.true_or, Bool.and_false, Bool.false_and, Bool.or_self, Bool.and_self, Nat.sub_self, Option.map_some, Option.map_none, Nat.reduceBEq, Bool.not_eq_true, beq_self_eq_true, Nat.reduceLeDiff, Nat.reduceLT, Nat.reduceEqDiff, List.filterMap_cons, List.filterMap_nil, $as,*])
open PySem PySem.Spec PyProof.Rows L2
/-- a slot that may be written -/
def Fr (s : Sl) : Prop := isPar s = false
/-! ### picking -/
theorem atI_mem {xs : List D} {v : Int} (h0 : 0 ≤ v) (h1 : v < xs.length) : ∃ d ∈ xs, atI xs v = some d := by
  have hi : v.toNat < xs.length := by omega
  refine ⟨xs[v.toNat], List.getElem_mem hi, ?_⟩
  unfold atI
  rw [q_ixN h0 h1]
  exact List.getElem?_eq_getElem hi
def Pk (g : Fn) : Prop := ∀ (b : Nat) (ds xs : List D), Src (b + 1) ds → xs ≠ [] → xs.length < 1000000 →
  (∃ d ∈ xs, ∃ ds', g [.own ds, .val (.list xs)] = some (.val d, [ds']) ∧ Src b ds') ∧ ∃ d ∈ xs, ∃ ds', g [.own ds, .val (.tuple xs)] = some (.val d, [ds']) ∧ Src b ds'
theorem k_pick_ok {t : Fn} (T : Tk t) : Pk (k__law_pick t) := by
  intro b ds xs h hx hl
  have hp : 0 < xs.length := List.length_pos_iff.mpr hx
  obtain ⟨v, d1, e1, p1, q1, s1⟩ := T _ ds xs.length h (by omega) (by omega)
  obtain ⟨d, hd, ha⟩ := atI_mem p1 q1
  refine ⟨⟨d, hd, d1, ?_, s1⟩, ⟨d, hd, d1, ?_, s1⟩⟩
  · simp! only [k__law_pick, k__law_pick_b, e1, ha]
  · simp! only [k__law_pick, k__law_pick_b, e1, ha]
/-! ### stretches drawn -/
def szE (z : Int) : EE → Prop
  | none => True
  | some i => -z ≤ i ∧ i ≤ z
def szS (z : Int) : SS → Prop
  | none => True
  | some (l, h) => szE z l ∧ szE z h
theorem szE.mono {z z' : Int} {x : EE} (h : szE z x) (hz : z ≤ z') : szE z' x := by
  cases x with
  | none => trivial
  | some i =>
    obtain ⟨h1, h2⟩ := h
    exact ⟨by omega, by omega⟩
theorem szS.mono {z z' : Int} {x : SS} (h : szS z x) (hz : z ≤ z') : szS z' x := by
  rcases x with _ | ⟨l, r⟩
  · trivial
  · exact ⟨h.1.mono hz, h.2.mono hz⟩
def St (k : Nat) (z : Int) (g : Fn) : Prop := ∀ (b : Nat) (ds : List D), Src (b + k) ds → ∃ (a : SS) (ds' : List D), g [.own ds] = some (.val (eS a), [ds']) ∧ okS a = true ∧ szS z a ∧ Src b ds'
theorem k_stretch_ok {t nu : Fn} (T : Tk t) (N : Nm 7 (2 ^ 110) nu) : St 9 (2 ^ 111) (k__law_stretch t nu) := by
  intro b ds h
  obtain ⟨v1, d1, e1, p1, q1, s1⟩ := T _ ds 14 (h.mono (by omega : (b + 8) + 1 ≤ b + 9)) (by decide) (by decide)
  by_cases c0 : v1 = 0
  · refine ⟨none, d1, ?_, rfl, trivial, s1.mono (by omega)⟩
    subst c0
    have c1 : (0 : Int) < 2 := by decide
    simp! only [k__law_stretch, k__law_stretch_b, e1, c1, eS_n, eS_s, eE]
  by_cases c1 : v1 < 2
  · refine ⟨some (none, none), d1, ?_, rfl, ⟨trivial, trivial⟩, s1.mono (by omega)⟩
    simp! only [k__law_stretch, k__law_stretch_b, e1, c0, c1, eS_n, eS_s, eE]
  obtain ⟨v2, d2, e2, p2, q2, s2⟩ := N (b + 1) d1 (s1.mono (by omega))
  by_cases c2 : v1 < 4
  · refine ⟨some (none, some v2), d2, ?_, rfl, ⟨trivial, by omega, by omega⟩, s2.mono (by omega)⟩
    have c3 : v1 < 6 := by omega
    simp! only [k__law_stretch, k__law_stretch_b, e1, e2, c1, c2, c3, eS_n, eS_s, eE]
  by_cases c3 : v1 < 6
  · refine ⟨some (some v2, none), d2, ?_, rfl, ⟨⟨by omega, by omega⟩, trivial⟩, s2.mono (by omega)⟩
    simp! only [k__law_stretch, k__law_stretch_b, e1, e2, c1, c2, c3, eS_n, eS_s, eE]
  by_cases c4 : v1 = 6
  · refine ⟨some (some v2, some v2), d2, ?_, decide_eq_true (Int.le_refl _), ⟨⟨by omega, by omega⟩, ⟨by omega, by omega⟩⟩, s2.mono (by omega)⟩
    subst c4
    simp! only [k__law_stretch, k__law_stretch_b, e1, e2, c1, c3, eS_n, eS_s, eE]
  by_cases c5 : v1 < 12
  · obtain ⟨v3, d3, e3, p3, q3, s3⟩ := T b d2 12 s2 (by decide) (by decide)
    refine ⟨some (some v2, some (v2 + v3)), d3, ?_, decide_eq_true (by omega), ⟨⟨by omega, by omega⟩, ⟨by omega, by omega⟩⟩, s3⟩
    simp! only [k__law_stretch, k__law_stretch_b, e1, e2, e3, c1, c3, c4, c5, eS_n, eS_s, eE]
  · obtain ⟨v3, d3, e3, p3, q3, s3⟩ := T b d2 100003 s2 (by decide) (by decide)
    refine ⟨some (some v2, some (v2 + v3)), d3, ?_, decide_eq_true (by omega), ⟨⟨by omega, by omega⟩, ⟨by omega, by omega⟩⟩, s3⟩
    simp! only [k__law_stretch, k__law_stretch_b, e1, e2, e3, c1, c3, c4, c5, eS_n, eS_s, eE]
/-- the numbers among some ends -/
def nums (es : List EE) : List Int := es.filterMap id
theorem nums_filter : ∀ es : List EE, ((es.map eE).filter fun d => !isNone d).map id = (nums es).map PyData.int
  | [] => rfl
  | none :: es => nums_filter es
  | some i :: es => congrArg (PyData.int i :: ·) (nums_filter es)
theorem nums_mem {es : List EE} {i : Int} (h : i ∈ nums es) : some i ∈ es := by
  obtain ⟨x, h1, h2⟩ := List.mem_filterMap.mp h
  cases x with
  | none => cases h2
  | some j => cases h2; exact h1
theorem nums_len (es : List EE) : (nums es).length ≤ es.length := List.length_filterMap_le ..
def Nr (k : Nat) (g : Fn) : Prop := ∀ (b : Nat) (ds : List D) (es : List EE) (z : Int), Src (b + k) ds → (∀ e ∈ es, szE z e) → 2 ^ 111 ≤ z → es.length ≤ 1000 →
  ∃ (a : SS) (ds' : List D), g [.own ds, .val (.tuple (es.map eE))] = some (.val (eS a), [ds']) ∧ okS a = true ∧ szS (z + 4) a ∧ Src b ds'
theorem k_near_ok {t p s : Fn} (T : Tk t) (P : Pk p) (S : St 9 (2 ^ 111) s) : Nr 10 (k__law_near t p s) := by
  intro b ds es z h hz hz2 hl
  have hc : compL (gN 6) (eB (eOp gIsNot (eVar 6) (eC .none))) (eVar 6) [6] (es.map eE) [] [.par ds, .val (.tuple (es.map eE)), .no, .no, .no, .no, .no] = some ((nums es).map PyData.int, [.par ds, .val (.tuple (es.map eE)), .no, .no, .no, .no, .no]) := by
    rw [compL_map (p := fun d => !isNone d) (h := id) (es.map eE) [] (by rw [List.length_map, List.length_nil, q_sz]; omega) fun d hd => ?_, nums_filter]
    · rfl
    · obtain ⟨e, _, rfl⟩ := List.mem_map.mp hd
      refine ⟨[.par ds, .val (.tuple (es.map eE)), .no, .no, .no, .no, .val (eE e)], [.par ds, .val (.tuple (es.map eE)), .no, .no, .no, .no, .val (eE e)], ?_, ?_, fun _ => ⟨[.par ds, .val (.tuple (es.map eE)), .no, .no, .no, .no, .val (eE e)], ?_, ?_⟩, fun _ => ?_⟩ <;> simp! only [id]
  have hn : ∀ d ∈ (nums es).map PyData.int, ∃ i : Int, d = .int i ∧ -z ≤ i ∧ i ≤ z := fun d hd => by
    obtain ⟨i, hi, rfl⟩ := List.mem_map.mp hd
    have := hz _ (nums_mem hi)
    exact ⟨i, rfl, this.1, this.2⟩
  have hnl : ((nums es).map PyData.int).length < 1000000 := by
    have := nums_len es
    rw [List.length_map]
    omega
  generalize (nums es).map PyData.int = ls at hc hn hnl
  cases ls with
  | nil =>
    obtain ⟨a, d1, e1, o1, z1, s1⟩ := S (b + 1) ds (h.mono (by omega))
    refine ⟨a, d1, ?_, o1, z1.mono (by omega), s1.mono (by omega)⟩
    simp! only [k__law_near, k__law_near_b, hc, e1]
  | cons l ls =>
    obtain ⟨v0, d0, e0, p0, q0, s0⟩ := T (b + 9) ds 4 h (by decide) (by decide)
    by_cases c0 : v0 = 0
    · obtain ⟨a, d1, e1, o1, z1, s1⟩ := S b d0 s0
      refine ⟨a, d1, ?_, o1, z1.mono (by omega), s1⟩
      subst c0
      simp! only [k__law_near, k__law_near_b, hc, e0, e1]
    obtain ⟨⟨x1, hx1, d1, e1, s1⟩, -⟩ := P (b + 8) d0 (l :: ls) s0 (by simp) hnl
    obtain ⟨i1, rfl, y1, w1⟩ := hn x1 hx1
    obtain ⟨v2, d2, e2, p2, q2, s2⟩ := T (b + 7) d1 5 s1 (by decide) (by decide)
    obtain ⟨v3, d3, e3, p3, q3, s3⟩ := T (b + 6) d2 7 s2 (by decide) (by decide)
    by_cases c1 : v3 = 0
    · refine ⟨some (none, some (i1 + v2 - 2)), d3, ?_, rfl, ⟨trivial, by omega, by omega⟩, s3.mono (by omega)⟩
      subst c1
      have c2 : (0 : Int) < 2 := by decide
      simp! only [k__law_near, k__law_near_b, hc, e0, e1, e2, e3, c0, c2, eS_s, eE]
    by_cases c2 : v3 < 2
    · refine ⟨some (some (i1 + v2 - 2), none), d3, ?_, rfl, ⟨⟨by omega, by omega⟩, trivial⟩, s3.mono (by omega)⟩
      simp! only [k__law_near, k__law_near_b, hc, e0, e1, e2, e3, c0, c1, c2, eS_s, eE]
    by_cases c3 : v3 < 6
    · obtain ⟨⟨x4, hx4, d4, e4, s4⟩, -⟩ := P (b + 5) d3 (l :: ls) s3 (by simp) hnl
      obtain ⟨i4, rfl, y4, w4⟩ := hn x4 hx4
      obtain ⟨v5, d5, e5, p5, q5, s5⟩ := T (b + 4) d4 5 s4 (by decide) (by decide)
      refine ⟨some (some (min (i1 + v2 - 2) (i4 + v5 - 2)), some (max (i1 + v2 - 2) (i4 + v5 - 2))), d5, ?_, decide_eq_true (by omega), ⟨⟨by omega, by omega⟩, ⟨by omega, by omega⟩⟩, s5.mono (by omega)⟩
      simp! only [k__law_near, k__law_near_b, hc, e0, e1, e2, e3, e4, e5, c0, c2, c3, eS_s, eE]
    · refine ⟨some (some (min (i1 + v2 - 2) (i1 + v2 - 2)), some (max (i1 + v2 - 2) (i1 + v2 - 2))), d3, ?_, decide_eq_true (by omega), ⟨⟨by omega, by omega⟩, ⟨by omega, by omega⟩⟩, s3.mono (by omega)⟩
      simp! only [k__law_near, k__law_near_b, hc, e0, e1, e2, e3, c0, c2, c3, eS_s, eE]
/-! ### the same -/
def gd : Nat → D → Bool
  | _, .none => true
  | _, .bool _ => true
  | _, .int _ => true
  | k + 1, .tuple xs => decide (xs.length ≤ 1000) && xs.all (gd k)
  | _, _ => false
def SameOk (k : Nat) (g : Fn) : Prop := ∀ d, gd k d = true → g [.val d, .val d] = some (.val (.bool true), [])
theorem zip_self : ∀ xs : List D, zipD xs xs = xs.map fun d => .tuple [d, d]
  | [] => rfl
  | d :: xs => congrArg (PyData.tuple [d, d] :: ·) (zip_self xs)
theorem k_same_flat {w f : Fn} (hw : ∀ i, w [.val (.int i)] = some (.val (.bool true), [])) : (k__law_same w f [.val .none, .val .none] = some (.val (.bool true), [])) ∧ (∀ b, k__law_same w f [.val (.bool b), .val (.bool b)] = some (.val (.bool true), [])) ∧ ∀ i, k__law_same w f [.val (.int i), .val (.int i)] = some (.val (.bool true), []) := by
  refine ⟨?_, fun b => ?_, fun i => ?_⟩
  · simp! only [k__law_same, k__law_same_b]
  · simp! only [k__law_same, k__law_same_b]
  · simp! only [k__law_same, k__law_same_b, hw]
theorem k_same_ok {w f : Fn} (hw : ∀ i, w [.val (.int i)] = some (.val (.bool true), [])) : SameOk 0 (k__law_same w f) := by
  obtain ⟨h1, h2, h3⟩ := k_same_flat (f := f) hw
  intro d hd
  cases d with
  | none => exact h1
  | bool b => exact h2 b
  | int i => exact h3 i
  | _ => cases hd
theorem k_same_up {w f : Fn} {k : Nat} (hw : ∀ i, w [.val (.int i)] = some (.val (.bool true), [])) (hf : SameOk k f) : SameOk (k + 1) (k__law_same w f) := by
  obtain ⟨h1, h2, h3⟩ := k_same_flat (f := f) hw
  intro d hd
  cases d with
  | none => exact h1
  | bool b => exact h2 b
  | int i => exact h3 i
  | tuple xs =>
    obtain ⟨hl, hx⟩ := He.ba (show (decide (xs.length ≤ 1000) && xs.all (gd k)) = true from hd)
    have hl := of_decide_eq_true hl
    have hc : compL (gTup 2 (gsCons (gN 2) (gsCons (gN 3) gsNil))) (fun env => some (true, env)) (eFz (eCall f (aVal (eVar 2) (aVal (eVar 3) aNil)))) [2, 3] (zipD xs xs) [] [.val (.tuple xs), .val (.tuple xs), .no, .no] = some ([] ++ (zipD xs xs).map (fun _ => .bool true), [.val (.tuple xs), .val (.tuple xs), .no, .no]) := by
      rw [zip_self]
      refine compL_all _ [] (by rw [List.length_map, List.length_nil, q_sz]; omega) fun d hd => ?_
      obtain ⟨e, he, rfl⟩ := List.mem_map.mp hd
      have := hf e (List.all_eq_true.mp hx e he)
      refine ⟨[.val (.tuple xs), .val (.tuple xs), .val e, .val e], [.val (.tuple xs), .val (.tuple xs), .val e, .val e], [.val (.tuple xs), .val (.tuple xs), .val e, .val e], ?_, rfl, ?_, ?_⟩ <;> simp! only [this]
    have ha : gAll [.list ((zipD xs xs).map (fun _ => .bool true))] = some (.bool true) := gAll_true fun d hd => by
      obtain ⟨_, _, rfl⟩ := List.mem_map.mp hd
      rfl
    simp! only [k__law_same, k__law_same_b, hc, ha]
  | _ => cases hd
/-! ### numbers beside the ends -/
end Ev
namespace Ev
local macro_rules
  | `(tactic| simp! only [$as,*]) => `(tactic| simp only [↓x_var, ↓x_C, ↓x_op, ↓x_fz, ↓x_rV, ↓x_B, ↓x_chain, ↓x_tru, ↓x_notT, ↓x_andT, ↓x_orT, ↓x_and, ↓x_or, ↓x_not, ↓x_neg, ↓x_if, ↓x_aNil, ↓x_aVal, ↓x_aSlot, ↓x_aTmp, ↓x_aR, ↓x_call, ↓x_callK, ↓x_dNil, ↓x_dCons, ↓x_tup, ↓x_lst, ↓x_itemN, ↓x_ownItem, ↓x_lenN, ↓x_blt, ↓x_isi, ↓x_list, ↓x_rgL1, ↓x_rgL2, ↓x_iSeq, ↓x_iZip, ↓x_range1, ↓x_range2, ↓x_addR, ↓x_slice, ↓x_partN, ↓x_partS, ↓x_comp, ↓x_skip, ↓x_stuck, ↓x_break, ↓x_cont, ↓x_seq, ↓x_sIf, ↓x_sExpr, ↓x_ret, ↓x_retN, ↓x_move, ↓x_setRv, ↓x_setRf, ↓x_setRm, ↓x_set, ↓x_gN, ↓x_gsNil, ↓x_gsCons, ↓x_gTup, ↓x_gIx, ↓x_setAt, ↓x_asg, ↓x_par, ↓x_sm0, ↓x_smV, ↓x_smF, ↓x_app, ↓x_for, ↓x_for0, ↓x_for1, ↓x_comp0, ↓x_comp1, ↓x_fn, ↓x_iEnum, ↓x_range3, ↓x_comp2, ↓x_compN0, ↓x_compN1, ↓x_item2, ↓x_item2M, ↓x_gIx2, ↓x_compM, ↓x_callB, ↓x_pop, ↓x_dStar, ↓x_seeAt, ↓x_see, ↓x_seeR, ↓x_rev, ↓x_idx, ↓x_repL, ↓x_sortK, ↓x_lenSet, ↓x_dct0, q_addI, q_addT, q_addL, q_subI, q_ltI, q_leI, q_gtI, q_geI, q_isN, q_isNotN, q_isB, q_isNotB, q_eqI, q_neI, q_eqB, q_eqT0, q_eqT1, q_neT0, q_neT1, q_eqL0, q_eqL1, q_neL0, q_neL1, q_int, q_abs, q_min2, q_max2, q_at0, q_at1, q_at2, q_at3, q_ix0, q_ix1, q_ix2, q_sz, q_iteS, q_iteT, q_iteR, q_iteV, q_iteBB, q_iteII, q_iteAnd, q_iteOr, q_iteNot, q_iteCon, q_pa0, q_pa1, q_pa2, q_pa3, q_pa4, q_ow4, q_ma0, q_ma1, q_ma2, q_ma3, q_ma4, q_ow0, q_ow1, q_ow2, q_ow3, q_c0, q_c1, q_c2, q_c3, q_c4, q_c5, q_c6, q_c7, q_c8, q_c9, q_c10, q_c11, q_c12, q_all0, q_all1, q_all2, q_all3, q_inN2, q_inN0, q_02a, q_02b, q_repr, q_ol1, q_ol2, q_ol3, q_ll1, q_ll2, q_ll3, q_scB, q_strI, q_strB, q_addBI, q_subBI, q_subIB, q_mulIB, List.getElem?_cons_zero, List.getElem?_cons_succ, List.set_cons_zero, List.set_cons_succ, wipeE, initE, outsOf, toAv, toAvB, scal, slotsOf, putOuts, natNodup, List.map_cons, List.map_nil, List.cons_append, List.nil_append, List.append_nil, List.replicate, List.length_cons, List.length_nil, isNone, isiD, seqD, gItem, truD, zipOf, zipD, pick, List.contains_nil, List.contains_cons, eq_self, List.cons_ne_nil, if_true, if_false, Bool.false_eq_true, Bool.true_eq_false, Bool.not_true, Bool.not_false, reduceIte, decide_true, decide_false, Nat.reduceAdd, Nat.reduceSub, Nat.zero_add, Nat.add_zero, and_self, true_and, and_true, Bool.and_true, Bool.true_and, Bool.or_false, Bool.false_or, Bool.or_true, Bool.true_or, Bool.and_false, Bool.false_and, Bool.or_self, Bool.and_self, Nat.sub_self, Option.map_some, Option.map_none, Nat.reduceBEq, Bool.not_eq_true, beq_self_eq_true, Nat.reduceLeDiff, Nat.reduceLT, Nat.reduceEqDiff, List.filterMap_cons, List.filterMap_nil, $as,*])
open PySem PySem.Spec PyProof.Rows L2
/-! ## matrices as data -/
@[reducible] def eRow (n : Nat) (r : Nat → EE) : D := .tuple ((List.range n).map fun j => eE (r j))
@[reducible] def eM (n : Nat) (f : MF) : D := .tuple ((List.range n).map fun i => eRow n (f i))
def eDf (n : Nat) : Option MF → D
  | none => .none
  | some f => eM n f
theorem atI_rng {α : Type} {n i : Nat} {F : Nat → α} (hi : i < n) : atI ((List.range n).map F) (i : Int) = some (F i) := by
  unfold atI
  rw [List.length_map, List.length_range, q_ixN (by omega) (by omega)]
  simp [hi]
theorem rangeD_rng (n : Nat) : rangeD 0 n = (List.range n).map fun k => .int (k : Int) := by
  unfold rangeD
  exact List.map_congr_left fun k _ => by rw [Int.zero_add]
/-! ## the program -/
section
variable {f g h w : Fn}
end
end Ev
namespace Ev
open PySem PySem.Spec PyProof.Rows L2
/-! ### laws of stretches -/
end Ev
namespace Ev
local macro_rules
  | `(tactic| simp! only [$as,*]) => `(tactic| simp only [↓x_var, ↓x_C, ↓x_op, ↓x_fz, ↓x_rV, ↓x_B, ↓x_chain, ↓x_tru, ↓x_notT, ↓x_andT, ↓x_orT, ↓x_and, ↓x_or, ↓x_not, ↓x_neg, ↓x_if, ↓x_aNil, ↓x_aVal, ↓x_aSlot, ↓x_aTmp, ↓x_aR, ↓x_call, ↓x_callK, ↓x_dNil, ↓x_dCons, ↓x_tup, ↓x_lst, ↓x_itemN, ↓x_ownItem, ↓x_lenN, ↓x_blt, ↓x_isi, ↓x_list, ↓x_rgL1, ↓x_rgL2, ↓x_iSeq, ↓x_iZip, ↓x_range1, ↓x_range2, ↓x_addR, ↓x_slice, ↓x_partN, ↓x_partS, ↓x_comp, ↓x_skip, ↓x_stuck, ↓x_break, ↓x_cont, ↓x_seq, ↓x_sIf, ↓x_sExpr, ↓x_ret, ↓x_retN, ↓x_move, ↓x_setRv, ↓x_setRf, ↓x_setRm, ↓x_set, ↓x_gN, ↓x_gsNil, ↓x_gsCons, ↓x_gTup, ↓x_gIx, ↓x_setAt, ↓x_asg, ↓x_par, ↓x_sm0, ↓x_smV, ↓x_smF, ↓x_app, ↓x_for, ↓x_for0, ↓x_for1, ↓x_comp0, ↓x_comp1, ↓x_fn, ↓x_iEnum, ↓x_range3, ↓x_comp2, ↓x_compN0, ↓x_compN1, ↓x_item2, ↓x_item2M, ↓x_gIx2, ↓x_compM, ↓x_callB, ↓x_pop, ↓x_dStar, ↓x_seeAt, ↓x_see, ↓x_seeR, ↓x_rev, ↓x_idx, ↓x_repL, ↓x_sortK, ↓x_lenSet, ↓x_dct0, q_addI, q_addT, q_addL, q_subI, q_ltI, q_leI, q_gtI, q_geI, q_isN, q_isNotN, q_isB, q_isNotB, q_eqI, q_neI, q_eqB, q_eqT0, q_eqT1, q_neT0, q_neT1, q_eqL0, q_eqL1, q_neL0, q_neL1, q_int, q_abs, q_min2, q_max2, q_at0, q_at1, q_at2, q_at3, q_ix0, q_ix1, q_ix2, q_sz, q_iteS, q_iteT, q_iteR, q_iteV, q_iteBB, q_iteII, q_iteAnd, q_iteOr, q_iteNot, q_iteCon, q_pa0, q_pa1, q_pa2, q_pa3, q_pa4, q_ow4, q_ma0, q_ma1, q_ma2, q_ma3, q_ma4, q_ow0, q_ow1, q_ow2, q_ow3, q_c0, q_c1, q_c2, q_c3, q_c4, q_c5, q_c6, q_c7, q_c8, q_c9, q_c10, q_c11, q_c12, q_all0, q_all1, q_all2, q_all3, q_inN2, q_inN0, q_02a, q_02b, q_repr, q_ol1, q_ol2, q_ol3, q_ll1, q_ll2, q_ll3, q_scB, q_strI, q_strB, q_addBI, q_subBI, q_subIB, q_mulIB, List.getElem?_cons_zero, List.getElem?_cons_succ, List.set_cons_zero, List.set_cons_succ, wipeE, initE, outsOf, toAv, toAvB, scal, slotsOf, putOuts, natNodup, List.map_cons, List.map_nil, List.cons_append, List.nil_append, List.append_nil, List.replicate, List.length_cons, List.length_nil, isNone, isiD, seqD, gItem, truD, zipOf, zipD, pick, List.contains_nil, List.contains_cons, eq_self, List.cons_ne_nil, if_true, if_false, Bool.false_eq_true, Bool.true_eq_false, Bool.not_true, Bool.not_false, reduceIte, decide_true, decide_false, Nat.reduceAdd, Nat.reduceSub, Nat.zero_add, Nat.add_zero, and_self, true_and, and_true, Bool.and_true, Bool.true_and, Bool.or_false, Bool.false_or, Bool.or_true, Bool.true_or, Bool.and_false, Bool.false_and, Bool.or_self, Bool.and_self, Nat.sub_self, Option.map_some, Option.map_none, Nat.reduceBEq, Bool.not_eq_true, beq_self_eq_true, Nat.reduceLeDiff, Nat.reduceLT, Nat.reduceEqDiff, List.filterMap_cons, List.filterMap_nil, $as,*])
open PySem PySem.Spec PyProof.Rows L2
theorem tr {P : Fn → Prop} {f g : Fn} (e : f = g) (h : P g) : P f := e ▸ h
def Rg (g : Fn) : Prop := ∀ ds, Src 100000000 ds → ∃ ds', g [.own ds] = some (.val (.bool true), [ds'])
def Sc (ns : List Int) (so : Fn) : Prop := ∀ t : Int, 0 ≤ t → t < 64 → ∃ ds', so [.val (.list (ns.map PyData.int)), .val (.int t)] = some (.fresh ds', []) ∧ Src 100000000 ds'
theorem source_sc {p q : Int} (hp : 0 ≤ p ∧ p < 2 ^ 40) (hq : 0 ≤ q ∧ q < 2 ^ 40) (ns : List Int) : Sc ns (callFn 5 (sourceC p q)) := fun t h0 h1 => source_ok hp hq ns t h0 h1
/-! ## k24: the checks -/
section
variable {wi jo me sa li lj lm ho ha : Fn}
end
section
variable {nu st nr be tw th nb : Fn}
end
/-! ## the law -/
def lawC (ri so : Fn) : Fx Fl := (sRet (rV (eBlt gAll (dCons (eFz (eComp (iRange1 (eBlt gMax (dCons (eC (.int 2)) (dCons (eBlt gMin (dCons (eLenN 0) (dCons (eC (.int 5)) dNil))) dNil)))) (gN 1) (fun env => some (true, env)) (eFz (eCall ri (aTmp (eCall so (aVal (eVar 0) (aVal (eVar 1) aNil))) aNil))) [1])) dNil))))
theorem law_ok {ri so : Fn} {ns : List Int} (hs : Sc ns so) (hr : Rg ri) : callFn 2 (lawC ri so) [.val (.list (ns.map PyData.int))] = some (.val (.bool true), []) := by
  have hm : ∃ m : Nat, max (2 : Int) (min ((ns.map PyData.int).length : Int) 5) = (m : Int) ∧ m ≤ 5 := ⟨(max (2 : Int) (min ((ns.map PyData.int).length : Int) 5)).toNat, by omega, by omega⟩
  obtain ⟨m, hm, hm5⟩ := hm
  have hc : compL (gN 1) (fun env => some (true, env)) (eFz (eCall ri (aTmp (eCall so (aVal (eVar 0) (aVal (eVar 1) aNil))) aNil))) [1] (rangeD 0 ((m : Int) - 0).toNat) [] [.val (.list (ns.map PyData.int)), .no] = some ([] ++ (rangeD 0 ((m : Int) - 0).toNat).map (fun _ => .bool true), [.val (.list (ns.map PyData.int)), .no]) := by
    refine compL_all _ [] ?_ fun d hd => ?_
    · unfold rangeD
      rw [List.length_map, List.length_range, List.length_nil, q_sz]
      omega
    · unfold rangeD at hd
      obtain ⟨k, hk, rfl⟩ := List.mem_map.mp hd
      have hk' := List.mem_range.mp hk
      obtain ⟨d1, e1, s1⟩ := hs (0 + (k : Nat)) (by omega) (by omega)
      obtain ⟨d2, e2⟩ := hr d1 s1
      refine ⟨[.val (.list (ns.map PyData.int)), .val (.int (0 + (k : Nat)))], [.val (.list (ns.map PyData.int)), .val (.int (0 + (k : Nat)))], [.val (.list (ns.map PyData.int)), .val (.int (0 + (k : Nat)))], ?_, rfl, ?_, ?_⟩
      · simp only [x_gN, x_setRv, List.getElem?_cons_zero, List.getElem?_cons_succ, q_pa0, List.set_cons_succ, List.set_cons_zero, Bool.false_eq_true, if_false]
      · simp only [x_fz, x_call, x_aTmp, x_aVal, x_aNil, x_var, List.getElem?_cons_zero, List.getElem?_cons_succ, natNodup, slotsOf, toAv, putOuts, Option.map_some, if_true, e1, e2]
      · rfl
  have ha : gAll [.list ((rangeD 0 ((m : Int) - 0).toNat).map (fun _ => .bool true))] = some (.bool true) := gAll_true fun d hd => by
    obtain ⟨_, _, rfl⟩ := List.mem_map.mp hd
    rfl
  simp! only [lawC, hm, hc, ha]
end Ev
namespace Ev
local macro_rules
  | `(tactic| simp! only [$as,*]) => `(tactic| simp only [↓x_var, ↓x_C, ↓x_op, ↓x_fz, ↓x_rV, ↓x_B, ↓x_chain, ↓x_tru, ↓x_notT, ↓x_andT, ↓x_orT, ↓x_and, ↓x_or, ↓x_not, ↓x_neg, ↓x_if, ↓x_aNil, ↓x_aVal, ↓x_aSlot, ↓x_aTmp, ↓x_aR, ↓x_call, ↓x_callK, ↓x_dNil, ↓x_dCons, ↓x_tup, ↓x_lst, ↓x_itemN, ↓x_ownItem, ↓x_lenN, ↓x_blt, ↓x_isi, ↓x_list, ↓x_rgL1, ↓x_rgL2, ↓x_iSeq, ↓x_iZip, ↓x_range1, ↓x_range2, ↓x_addR, ↓x_slice, ↓x_partN, ↓x_partS, ↓x_comp, ↓x_skip, ↓x_stuck, ↓x_break, ↓x_cont, ↓x_seq, ↓x_sIf, ↓x_sExpr, ↓x_ret, ↓x_retN, ↓x_move, ↓x_setRv, ↓x_setRf, ↓x_setRm, ↓x_set, ↓x_gN, ↓x_gsNil, ↓x_gsCons, ↓x_gTup, ↓x_gIx, ↓x_setAt, ↓x_asg, ↓x_par, ↓x_sm0, ↓x_smV, ↓x_smF, ↓x_app, ↓x_for, ↓x_for0, ↓x_for1, ↓x_comp0, ↓x_comp1, ↓x_fn, ↓x_iEnum, ↓x_range3, ↓x_comp2, ↓x_compN0, ↓x_compN1, ↓x_item2, ↓x_item2M, ↓x_gIx2, ↓x_compM, ↓x_callB, ↓x_pop, ↓x_dStar, ↓x_seeAt, ↓x_see, ↓x_seeR, ↓x_rev, ↓x_idx, ↓x_repL, ↓x_sortK, ↓x_lenSet, ↓x_dct0, q_addI, q_addT, q_addL, q_subI, q_ltI, q_leI, q_gtI, q_geI, q_isN, q_isNotN, q_isB, q_isNotB, q_eqI, q_neI, q_eqB, q_eqT0, q_eqT1, q_neT0, q_neT1, q_eqL0, q_eqL1, q_neL0, q_neL1, q_int, q_abs, q_min2, q_max2, q_at0, q_at1, q_at2, q_at3, q_ix0, q_ix1, q_ix2, q_sz, q_iteS, q_iteT, q_iteR, q_iteV, q_iteBB, q_iteII, q_iteAnd, q_iteOr, q_iteNot, q_iteCon, q_pa0, q_pa1, q_pa2, q_pa3, q_pa4, q_ow4, q_ma0, q_ma1, q_ma2, q_ma3, q_ma4, q_ow0, q_ow1, q_ow2, q_ow3, q_c0, q_c1, q_c2, q_c3, q_c4, q_c5, q_c6, q_c7, q_c8, q_c9, q_c10, q_c11, q_c12, q_all0, q_all1, q_all2, q_all3, q_inN2, q_inN0, q_02a, q_02b, q_repr, q_ol1, q_ol2, q_ol3, q_ll1, q_ll2, q_ll3, q_scB, q_strI, q_strB, q_addBI, q_subBI, q_subIB, q_mulIB, List.getElem?_cons_zero, List.getElem?_cons_succ, List.set_cons_zero, List.set_cons_succ, wipeE, initE, outsOf, toAv, toAvB, scal, slotsOf, putOuts, natNodup, List.map_cons, List.map_nil, List.cons_append, List.nil_append, List.append_nil, List.replicate, List.length_cons, List.length_nil, isNone, isiD, seqD, gItem, truD, zipOf, zipD, pick, List.contains_nil, List.contains_cons, eq_self, List.cons_ne_nil, if_true, if_false, Bool.false_eq_true, Bool.true_eq_false, Bool.not_true, Bool.not_false, reduceIte, decide_true, decide_false, Nat.reduceAdd, Nat.reduceSub, Nat.zero_add, Nat.add_zero, and_self, true_and, and_true, Bool.and_true, Bool.true_and, Bool.or_false, Bool.false_or, Bool.or_true, Bool.true_or, Bool.and_false, Bool.false_and, Bool.or_self, Bool.and_self, Nat.sub_self, Option.map_some, Option.map_none, Nat.reduceBEq, Bool.not_eq_true, beq_self_eq_true, Nat.reduceLeDiff, Nat.reduceLT, Nat.reduceEqDiff, List.filterMap_cons, List.filterMap_nil, $as,*])
open PySem PySem.Spec PyProof.Rows L2
/-! ## k28: guards -/
inductive Wd4 where
  | lt | le | eq | ne
def Wd4.s : Wd4 → Str
  | .lt => "<" | .le => "<=" | .eq => "==" | .ne => "!="
theorem eqv_eE : ∀ x y : EE, PyData.eqv (eE x) (eE y) = decide (x = y)
  | none, none => rfl
  | none, some _ => rfl
  | some _, none => rfl
  | some i, some j => by
    show (i == j) = _
    by_cases h : i = j
    · subst h; simp
    · simp [h]
theorem depth_eE (x : EE) : (eE x).depth = 0 := by cases x <;> rfl
theorem plain_eE (x : EE) : (eE x).plain = true := by cases x <;> rfl
theorem eqv_eS : ∀ a b : SS, PyData.eqv (eS a) (eS b) = decide (a = b)
  | none, none => rfl
  | none, some (_, _) => rfl
  | some (_, _), none => rfl
  | some (x, y), some (z, w) => by
    show PyData.eqv (.tuple [eE x, eE y]) (.tuple [eE z, eE w]) = _
    simp only [PyData.eqv, PyData.eqvAll, eqv_eE, Bool.and_true]
    by_cases h1 : x = z <;> by_cases h2 : y = w <;> simp [h1, h2]
theorem depth_eS (a : SS) : (eS a).depth ≤ 2 := by
  rcases a with _ | ⟨x, y⟩
  · simp [eS, PyData.depth, PyData.depthAll]
  · simp [eS, PyData.depth, PyData.depthAll, depth_eE]
theorem plain_eS (a : SS) : (eS a).plain = true := by
  rcases a with _ | ⟨x, y⟩
  · rfl
  · simp [eS, PyData.plain, PyData.plainAll, plain_eE]
/-! ### what they do -/
theorem eE_n : eE none = .none := rfl
theorem eE_s {i : Int} : eE (some i) = .int i := rfl
section
variable {f g h w : Fn}
/-! ### the law's own -/
end
end Ev
namespace Ev
open PySem PySem.Spec PyProof.Rows L2
/-! ## k28: laws of guards -/
end Ev
namespace Ev
local macro_rules
  | `(tactic| simp! only [$as,*]) => `(tactic| simp only [↓x_var, ↓x_C, ↓x_op, ↓x_fz, ↓x_rV, ↓x_B, ↓x_chain, ↓x_tru, ↓x_notT, ↓x_andT, ↓x_orT, ↓x_and, ↓x_or, ↓x_not, ↓x_neg, ↓x_if, ↓x_aNil, ↓x_aVal, ↓x_aSlot, ↓x_aTmp, ↓x_aR, ↓x_call, ↓x_callK, ↓x_dNil, ↓x_dCons, ↓x_tup, ↓x_lst, ↓x_itemN, ↓x_ownItem, ↓x_lenN, ↓x_blt, ↓x_isi, ↓x_list, ↓x_rgL1, ↓x_rgL2, ↓x_iSeq, ↓x_iZip, ↓x_range1, ↓x_range2, ↓x_addR, ↓x_slice, ↓x_partN, ↓x_partS, ↓x_comp, ↓x_skip, ↓x_stuck, ↓x_break, ↓x_cont, ↓x_seq, ↓x_sIf, ↓x_sExpr, ↓x_ret, ↓x_retN, ↓x_move, ↓x_setRv, ↓x_setRf, ↓x_setRm, ↓x_set, ↓x_gN, ↓x_gsNil, ↓x_gsCons, ↓x_gTup, ↓x_gIx, ↓x_setAt, ↓x_asg, ↓x_par, ↓x_sm0, ↓x_smV, ↓x_smF, ↓x_app, ↓x_for, ↓x_for0, ↓x_for1, ↓x_comp0, ↓x_comp1, ↓x_fn, ↓x_iEnum, ↓x_range3, ↓x_comp2, ↓x_compN0, ↓x_compN1, ↓x_item2, ↓x_item2M, ↓x_gIx2, ↓x_compM, ↓x_callB, ↓x_pop, ↓x_dStar, ↓x_seeAt, ↓x_see, ↓x_seeR, ↓x_rev, ↓x_idx, ↓x_repL, ↓x_sortK, ↓x_lenSet, ↓x_dct0, q_addI, q_addT, q_addL, q_subI, q_ltI, q_leI, q_gtI, q_geI, q_isN, q_isNotN, q_isB, q_isNotB, q_eqI, q_neI, q_eqB, q_eqT0, q_eqT1, q_neT0, q_neT1, q_eqL0, q_eqL1, q_neL0, q_neL1, q_int, q_abs, q_min2, q_max2, q_at0, q_at1, q_at2, q_at3, q_ix0, q_ix1, q_ix2, q_sz, q_iteS, q_iteT, q_iteR, q_iteV, q_iteBB, q_iteII, q_iteAnd, q_iteOr, q_iteNot, q_iteCon, q_pa0, q_pa1, q_pa2, q_pa3, q_pa4, q_ow4, q_ma0, q_ma1, q_ma2, q_ma3, q_ma4, q_ow0, q_ow1, q_ow2, q_ow3, q_c0, q_c1, q_c2, q_c3, q_c4, q_c5, q_c6, q_c7, q_c8, q_c9, q_c10, q_c11, q_c12, q_all0, q_all1, q_all2, q_all3, q_inN2, q_inN0, q_02a, q_02b, q_repr, q_ol1, q_ol2, q_ol3, q_ll1, q_ll2, q_ll3, q_scB, q_strI, q_strB, q_addBI, q_subBI, q_subIB, q_mulIB, List.getElem?_cons_zero, List.getElem?_cons_succ, List.set_cons_zero, List.set_cons_succ, wipeE, initE, outsOf, toAv, toAvB, scal, slotsOf, putOuts, natNodup, List.map_cons, List.map_nil, List.cons_append, List.nil_append, List.append_nil, List.replicate, List.length_cons, List.length_nil, isNone, isiD, seqD, gItem, truD, zipOf, zipD, pick, List.contains_nil, List.contains_cons, eq_self, List.cons_ne_nil, if_true, if_false, Bool.false_eq_true, Bool.true_eq_false, Bool.not_true, Bool.not_false, reduceIte, decide_true, decide_false, Nat.reduceAdd, Nat.reduceSub, Nat.zero_add, Nat.add_zero, and_self, true_and, and_true, Bool.and_true, Bool.true_and, Bool.or_false, Bool.false_or, Bool.or_true, Bool.true_or, Bool.and_false, Bool.false_and, Bool.or_self, Bool.and_self, Nat.sub_self, Option.map_some, Option.map_none, Nat.reduceBEq, Bool.not_eq_true, beq_self_eq_true, Nat.reduceLeDiff, Nat.reduceLT, Nat.reduceEqDiff, List.filterMap_cons, List.filterMap_nil, $as,*])
open PySem PySem.Spec PyProof.Rows L2
/-! ## all numbers of a small stretch -/
section
variable {f g h w : Fn}
/-! ### hulls -/
/-! ### pairs tried -/
end
end Ev
namespace Ev
local macro_rules
  | `(tactic| simp! only [$as,*]) => `(tactic| simp only [↓x_var, ↓x_C, ↓x_op, ↓x_fz, ↓x_rV, ↓x_B, ↓x_chain, ↓x_tru, ↓x_notT, ↓x_andT, ↓x_orT, ↓x_and, ↓x_or, ↓x_not, ↓x_neg, ↓x_if, ↓x_aNil, ↓x_aVal, ↓x_aSlot, ↓x_aTmp, ↓x_aR, ↓x_call, ↓x_callK, ↓x_dNil, ↓x_dCons, ↓x_tup, ↓x_lst, ↓x_itemN, ↓x_ownItem, ↓x_lenN, ↓x_blt, ↓x_isi, ↓x_list, ↓x_rgL1, ↓x_rgL2, ↓x_iSeq, ↓x_iZip, ↓x_range1, ↓x_range2, ↓x_addR, ↓x_slice, ↓x_partN, ↓x_partS, ↓x_comp, ↓x_skip, ↓x_stuck, ↓x_break, ↓x_cont, ↓x_seq, ↓x_sIf, ↓x_sExpr, ↓x_ret, ↓x_retN, ↓x_move, ↓x_setRv, ↓x_setRf, ↓x_setRm, ↓x_set, ↓x_gN, ↓x_gsNil, ↓x_gsCons, ↓x_gTup, ↓x_gIx, ↓x_setAt, ↓x_asg, ↓x_par, ↓x_sm0, ↓x_smV, ↓x_smF, ↓x_app, ↓x_for, ↓x_for0, ↓x_for1, ↓x_comp0, ↓x_comp1, ↓x_fn, ↓x_iEnum, ↓x_range3, ↓x_comp2, ↓x_compN0, ↓x_compN1, ↓x_item2, ↓x_item2M, ↓x_gIx2, ↓x_compM, ↓x_callB, ↓x_pop, ↓x_dStar, ↓x_seeAt, ↓x_see, ↓x_seeR, ↓x_rev, ↓x_idx, ↓x_repL, ↓x_sortK, ↓x_lenSet, ↓x_dct0, q_addI, q_addT, q_addL, q_subI, q_ltI, q_leI, q_gtI, q_geI, q_isN, q_isNotN, q_isB, q_isNotB, q_eqI, q_neI, q_eqB, q_eqT0, q_eqT1, q_neT0, q_neT1, q_eqL0, q_eqL1, q_neL0, q_neL1, q_int, q_abs, q_min2, q_max2, q_at0, q_at1, q_at2, q_at3, q_ix0, q_ix1, q_ix2, q_sz, q_iteS, q_iteT, q_iteR, q_iteV, q_iteBB, q_iteII, q_iteAnd, q_iteOr, q_iteNot, q_iteCon, q_pa0, q_pa1, q_pa2, q_pa3, q_pa4, q_ow4, q_ma0, q_ma1, q_ma2, q_ma3, q_ma4, q_ow0, q_ow1, q_ow2, q_ow3, q_c0, q_c1, q_c2, q_c3, q_c4, q_c5, q_c6, q_c7, q_c8, q_c9, q_c10, q_c11, q_c12, q_all0, q_all1, q_all2, q_all3, q_inN2, q_inN0, q_02a, q_02b, q_repr, q_ol1, q_ol2, q_ol3, q_ll1, q_ll2, q_ll3, q_scB, q_strI, q_strB, q_addBI, q_subBI, q_subIB, q_mulIB, List.getElem?_cons_zero, List.getElem?_cons_succ, List.set_cons_zero, List.set_cons_succ, wipeE, initE, outsOf, toAv, toAvB, scal, slotsOf, putOuts, natNodup, List.map_cons, List.map_nil, List.cons_append, List.nil_append, List.append_nil, List.replicate, List.length_cons, List.length_nil, isNone, isiD, seqD, gItem, truD, zipOf, zipD, pick, List.contains_nil, List.contains_cons, eq_self, List.cons_ne_nil, if_true, if_false, Bool.false_eq_true, Bool.true_eq_false, Bool.not_true, Bool.not_false, reduceIte, decide_true, decide_false, Nat.reduceAdd, Nat.reduceSub, Nat.zero_add, Nat.add_zero, and_self, true_and, and_true, Bool.and_true, Bool.true_and, Bool.or_false, Bool.false_or, Bool.or_true, Bool.true_or, Bool.and_false, Bool.false_and, Bool.or_self, Bool.and_self, Nat.sub_self, Option.map_some, Option.map_none, Nat.reduceBEq, Bool.not_eq_true, beq_self_eq_true, Nat.reduceLeDiff, Nat.reduceLT, Nat.reduceEqDiff, List.filterMap_cons, List.filterMap_nil, $as,*])
local macro_rules
  | `(tactic| dsimp! only [$as,*]) => `(tactic| simp only [↓x_var, ↓x_C, ↓x_op, ↓x_fz, ↓x_rV, ↓x_B, ↓x_chain, ↓x_tru, ↓x_notT, ↓x_andT, ↓x_orT, ↓x_and, ↓x_or, ↓x_not, ↓x_neg, ↓x_if, ↓x_aNil, ↓x_aVal, ↓x_aSlot, ↓x_aTmp, ↓x_aR, ↓x_call, ↓x_callK, ↓x_dNil, ↓x_dCons, ↓x_tup, ↓x_lst, ↓x_itemN, ↓x_ownItem, ↓x_lenN, ↓x_blt, ↓x_isi, ↓x_list, ↓x_rgL1, ↓x_rgL2, ↓x_iSeq, ↓x_iZip, ↓x_range1, ↓x_range2, ↓x_addR, ↓x_slice, ↓x_partN, ↓x_partS, ↓x_comp, ↓x_skip, ↓x_stuck, ↓x_break, ↓x_cont, ↓x_seq, ↓x_sIf, ↓x_sExpr, ↓x_ret, ↓x_retN, ↓x_move, ↓x_setRv, ↓x_setRf, ↓x_setRm, ↓x_set, ↓x_gN, ↓x_gsNil, ↓x_gsCons, ↓x_gTup, ↓x_gIx, ↓x_setAt, ↓x_asg, ↓x_par, ↓x_sm0, ↓x_smV, ↓x_smF, ↓x_app, ↓x_for, ↓x_for0, ↓x_for1, ↓x_comp0, ↓x_comp1, ↓x_fn, ↓x_iEnum, ↓x_range3, ↓x_comp2, ↓x_compN0, ↓x_compN1, ↓x_item2, ↓x_item2M, ↓x_gIx2, ↓x_compM, ↓x_callB, ↓x_pop, ↓x_dStar, ↓x_seeAt, ↓x_see, ↓x_seeR, ↓x_rev, ↓x_idx, ↓x_repL, ↓x_sortK, ↓x_lenSet, ↓x_dct0, q_addI, q_addT, q_addL, q_subI, q_ltI, q_leI, q_gtI, q_geI, q_isN, q_isNotN, q_isB, q_isNotB, q_eqI, q_neI, q_eqB, q_eqT0, q_eqT1, q_neT0, q_neT1, q_eqL0, q_eqL1, q_neL0, q_neL1, q_int, q_abs, q_min2, q_max2, q_at0, q_at1, q_at2, q_at3, q_ix0, q_ix1, q_ix2, q_sz, q_iteS, q_iteT, q_iteR, q_iteV, q_iteBB, q_iteII, q_iteAnd, q_iteOr, q_iteNot, q_iteCon, q_pa0, q_pa1, q_pa2, q_pa3, q_pa4, q_ow4, q_ma0, q_ma1, q_ma2, q_ma3, q_ma4, q_ow0, q_ow1, q_ow2, q_ow3, q_c0, q_c1, q_c2, q_c3, q_c4, q_c5, q_c6, q_c7, q_c8, q_c9, q_c10, q_c11, q_c12, q_all0, q_all1, q_all2, q_all3, q_inN2, q_inN0, q_02a, q_02b, q_repr, q_ol1, q_ol2, q_ol3, q_ll1, q_ll2, q_ll3, q_scB, q_strI, q_strB, q_addBI, q_subBI, q_subIB, q_mulIB, List.getElem?_cons_zero, List.getElem?_cons_succ, List.set_cons_zero, List.set_cons_succ, wipeE, initE, outsOf, toAv, toAvB, scal, slotsOf, putOuts, natNodup, List.map_cons, List.map_nil, List.cons_append, List.nil_append, List.append_nil, List.replicate, List.length_cons, List.length_nil, isNone, isiD, seqD, truD, zipOf, zipD, pick, List.contains_nil, List.contains_cons, eq_self, List.cons_ne_nil, if_true, if_false, Bool.false_eq_true, Bool.true_eq_false, Bool.not_true, Bool.not_false, reduceIte, decide_true, decide_false, Nat.reduceAdd, Nat.reduceSub, Nat.zero_add, Nat.add_zero, and_self, true_and, and_true, Bool.and_true, Bool.true_and, Bool.or_false, Bool.false_or, Bool.or_true, Bool.true_or, Bool.and_false, Bool.false_and, Bool.or_self, Bool.and_self, Nat.sub_self, Option.map_some, Option.map_none, Nat.reduceBEq, Bool.not_eq_true, beq_self_eq_true, Nat.reduceLeDiff, Nat.reduceLT, Nat.reduceEqDiff, List.filterMap_cons, List.filterMap_nil, $as,*])
open PySem PySem.Spec PyProof.Rows L2
/-! ### the checks -/
section
variable {gu sa al lg lt ho le : Fn}
end
end Ev
namespace Ev
local macro_rules
  | `(tactic| simp! only [$as,*]) => `(tactic| simp only [↓x_var, ↓x_C, ↓x_op, ↓x_fz, ↓x_rV, ↓x_B, ↓x_chain, ↓x_tru, ↓x_notT, ↓x_andT, ↓x_orT, ↓x_and, ↓x_or, ↓x_not, ↓x_neg, ↓x_if, ↓x_aNil, ↓x_aVal, ↓x_aSlot, ↓x_aTmp, ↓x_aR, ↓x_call, ↓x_callK, ↓x_dNil, ↓x_dCons, ↓x_tup, ↓x_lst, ↓x_itemN, ↓x_ownItem, ↓x_lenN, ↓x_blt, ↓x_isi, ↓x_list, ↓x_rgL1, ↓x_rgL2, ↓x_iSeq, ↓x_iZip, ↓x_range1, ↓x_range2, ↓x_addR, ↓x_slice, ↓x_partN, ↓x_partS, ↓x_comp, ↓x_skip, ↓x_stuck, ↓x_break, ↓x_cont, ↓x_seq, ↓x_sIf, ↓x_sExpr, ↓x_ret, ↓x_retN, ↓x_move, ↓x_setRv, ↓x_setRf, ↓x_setRm, ↓x_set, ↓x_gN, ↓x_gsNil, ↓x_gsCons, ↓x_gTup, ↓x_gIx, ↓x_setAt, ↓x_asg, ↓x_par, ↓x_sm0, ↓x_smV, ↓x_smF, ↓x_app, ↓x_for, ↓x_for0, ↓x_for1, ↓x_comp0, ↓x_comp1, ↓x_fn, ↓x_iEnum, ↓x_range3, ↓x_comp2, ↓x_compN0, ↓x_compN1, ↓x_item2, ↓x_item2M, ↓x_gIx2, ↓x_compM, ↓x_callB, ↓x_pop, ↓x_dStar, ↓x_seeAt, ↓x_see, ↓x_seeR, ↓x_rev, ↓x_idx, ↓x_repL, ↓x_sortK, ↓x_lenSet, ↓x_dct0, q_addI, q_addT, q_addL, q_subI, q_ltI, q_leI, q_gtI, q_geI, q_isN, q_isNotN, q_isB, q_isNotB, q_eqI, q_neI, q_eqB, q_eqT0, q_eqT1, q_neT0, q_neT1, q_eqL0, q_eqL1, q_neL0, q_neL1, q_int, q_abs, q_min2, q_max2, q_at0, q_at1, q_at2, q_at3, q_ix0, q_ix1, q_ix2, q_sz, q_iteS, q_iteT, q_iteR, q_iteV, q_iteBB, q_iteII, q_iteAnd, q_iteOr, q_iteNot, q_iteCon, q_pa0, q_pa1, q_pa2, q_pa3, q_pa4, q_ow4, q_ma0, q_ma1, q_ma2, q_ma3, q_ma4, q_ow0, q_ow1, q_ow2, q_ow3, q_c0, q_c1, q_c2, q_c3, q_c4, q_c5, q_c6, q_c7, q_c8, q_c9, q_c10, q_c11, q_c12, q_all0, q_all1, q_all2, q_all3, q_inN2, q_inN0, q_02a, q_02b, q_repr, q_ol1, q_ol2, q_ol3, q_ll1, q_ll2, q_ll3, q_scB, q_strI, q_strB, q_addBI, q_subBI, q_subIB, q_mulIB, List.getElem?_cons_zero, List.getElem?_cons_succ, List.set_cons_zero, List.set_cons_succ, wipeE, initE, outsOf, toAv, toAvB, scal, slotsOf, putOuts, natNodup, List.map_cons, List.map_nil, List.cons_append, List.nil_append, List.append_nil, List.replicate, List.length_cons, List.length_nil, isNone, isiD, seqD, gItem, truD, zipOf, zipD, pick, List.contains_nil, List.contains_cons, eq_self, List.cons_ne_nil, if_true, if_false, Bool.false_eq_true, Bool.true_eq_false, Bool.not_true, Bool.not_false, reduceIte, decide_true, decide_false, Nat.reduceAdd, Nat.reduceSub, Nat.zero_add, Nat.add_zero, and_self, true_and, and_true, Bool.and_true, Bool.true_and, Bool.or_false, Bool.false_or, Bool.or_true, Bool.true_or, Bool.and_false, Bool.false_and, Bool.or_self, Bool.and_self, Nat.sub_self, Option.map_some, Option.map_none, Nat.reduceBEq, Bool.not_eq_true, beq_self_eq_true, Nat.reduceLeDiff, Nat.reduceLT, Nat.reduceEqDiff, List.filterMap_cons, List.filterMap_nil, $as,*])
open PySem PySem.Spec PyProof.Rows L2
/-! ## loops over an index, with a way out -/
def LoopR (I : En → Prop) (J : R → En → Prop) (o : Option (Fl × En)) : Prop := (∃ e, o = some (.nx, e) ∧ I e) ∨ ∃ r e, o = some (.rt r, e) ∧ J r e
theorem forL_ixG {g : Gf} {b : Fx Fl} {F : Nat → D} {I : Nat → En → Prop} {J : R → En → Prop} : ∀ (m s : Nat) (env : En), I s env →
    (∀ k, s ≤ k → k < s + m → ∀ e, I k e → ∃ e1, g (F k) e = some e1 ∧ LoopR (I (k + 1)) J (b e1)) → LoopR (I (s + m)) J (forL g b ((List.range' s m).map F) env)
  | 0, s, env, h, _ => .inl ⟨env, rfl, h⟩
  | m + 1, s, env, h, H => by
    obtain ⟨e1, h1, h2⟩ := H s (Nat.le_refl _) (by omega) env h
    rw [List.range'_succ, List.map_cons, x_for1, h1]
    dsimp only
    rcases h2 with ⟨e2, h2, h3⟩ | ⟨r, e2, h2, h3⟩
    · rw [h2]
      have := forL_ixG (g := g) (b := b) (F := F) (I := I) (J := J) m (s + 1) e2 h3 fun k hk hk2 => H k (by omega) (by omega)
      rw [show s + 1 + m = s + (m + 1) by omega] at this
      exact this
    · rw [h2]
      exact .inr ⟨r, e2, rfl, h3⟩
theorem forL_ixR {g : Gf} {b : Fx Fl} {F : Nat → D} {I : Nat → En → Prop} {J : R → En → Prop} {n : Nat} {env : En} (h : I 0 env)
    (H : ∀ k < n, ∀ e, I k e → ∃ e1, g (F k) e = some e1 ∧ LoopR (I (k + 1)) J (b e1)) : LoopR (I n) J (forL g b ((List.range n).map F) env) := by
  have := forL_ixG (g := g) (b := b) (F := F) (I := I) (J := J) n 0 env h fun k _ hk => H k (by omega)
  rw [Nat.zero_add, ← List.range_eq_range'] at this
  exact this
theorem forL_ix {g : Gf} {b : Fx Fl} {F : Nat → D} {I : Nat → En → Prop} {n : Nat} {env : En} (h : I 0 env)
    (H : ∀ k < n, ∀ e, I k e → ∃ e1 e2, g (F k) e = some e1 ∧ b e1 = some (.nx, e2) ∧ I (k + 1) e2) : ∃ e, forL g b ((List.range n).map F) env = some (.nx, e) ∧ I n e := by
  rcases forL_ixR (g := g) (b := b) (F := F) (I := I) (J := fun _ _ => False) h fun k hk e he => by
    obtain ⟨e1, e2, h1, h2, h3⟩ := H k hk e he
    exact ⟨e1, h1, .inl ⟨e2, h2, h3⟩⟩ with q | ⟨_, _, _, z⟩
  · exact q
  · exact z.elim
section
variable {f g h w : Fn}
/-! ## the closing -/
/-! ## one bound lowered -/
/-! ## numbers chosen -/
/-- sizes -/
def szB (B : Int) (a : EE) : Prop := ∀ x, a = some x → -B ≤ x ∧ x ≤ B
end
end Ev
namespace Ev
local macro_rules
  | `(tactic| simp! only [$as,*]) => `(tactic| simp only [↓x_var, ↓x_C, ↓x_op, ↓x_fz, ↓x_rV, ↓x_B, ↓x_chain, ↓x_tru, ↓x_notT, ↓x_andT, ↓x_orT, ↓x_and, ↓x_or, ↓x_not, ↓x_neg, ↓x_if, ↓x_aNil, ↓x_aVal, ↓x_aSlot, ↓x_aTmp, ↓x_aR, ↓x_call, ↓x_callK, ↓x_dNil, ↓x_dCons, ↓x_tup, ↓x_lst, ↓x_itemN, ↓x_ownItem, ↓x_lenN, ↓x_blt, ↓x_isi, ↓x_list, ↓x_rgL1, ↓x_rgL2, ↓x_iSeq, ↓x_iZip, ↓x_range1, ↓x_range2, ↓x_addR, ↓x_slice, ↓x_partN, ↓x_partS, ↓x_comp, ↓x_skip, ↓x_stuck, ↓x_break, ↓x_cont, ↓x_seq, ↓x_sIf, ↓x_sExpr, ↓x_ret, ↓x_retN, ↓x_move, ↓x_setRv, ↓x_setRf, ↓x_setRm, ↓x_set, ↓x_gN, ↓x_gsNil, ↓x_gsCons, ↓x_gTup, ↓x_gIx, ↓x_setAt, ↓x_asg, ↓x_par, ↓x_sm0, ↓x_smV, ↓x_smF, ↓x_app, ↓x_for, ↓x_for0, ↓x_for1, ↓x_comp0, ↓x_comp1, ↓x_fn, ↓x_iEnum, ↓x_range3, ↓x_comp2, ↓x_compN0, ↓x_compN1, ↓x_item2, ↓x_item2M, ↓x_gIx2, ↓x_compM, ↓x_callB, ↓x_pop, ↓x_dStar, ↓x_seeAt, ↓x_see, ↓x_seeR, ↓x_rev, ↓x_idx, ↓x_repL, ↓x_sortK, ↓x_lenSet, ↓x_dct0, q_addI, q_addT, q_addL, q_subI, q_ltI, q_leI, q_gtI, q_geI, q_isN, q_isNotN, q_isB, q_isNotB, q_eqI, q_neI, q_eqB, q_eqT0, q_eqT1, q_neT0, q_neT1, q_eqL0, q_eqL1, q_neL0, q_neL1, q_int, q_abs, q_min2, q_max2, q_at0, q_at1, q_at2, q_at3, q_ix0, q_ix1, q_ix2, q_sz, q_iteS, q_iteT, q_iteR, q_iteV, q_iteBB, q_iteII, q_iteAnd, q_iteOr, q_iteNot, q_iteCon, q_pa0, q_pa1, q_pa2, q_pa3, q_pa4, q_ow4, q_ma0, q_ma1, q_ma2, q_ma3, q_ma4, q_ow0, q_ow1, q_ow2, q_ow3, q_c0, q_c1, q_c2, q_c3, q_c4, q_c5, q_c6, q_c7, q_c8, q_c9, q_c10, q_c11, q_c12, q_all0, q_all1, q_all2, q_all3, q_inN2, q_inN0, q_02a, q_02b, q_repr, q_ol1, q_ol2, q_ol3, q_ll1, q_ll2, q_ll3, q_scB, q_strI, q_strB, q_addBI, q_subBI, q_subIB, q_mulIB, List.getElem?_cons_zero, List.getElem?_cons_succ, List.set_cons_zero, List.set_cons_succ, wipeE, initE, outsOf, toAv, toAvB, scal, slotsOf, putOuts, natNodup, List.map_cons, List.map_nil, List.cons_append, List.nil_append, List.append_nil, List.replicate, List.length_cons, List.length_nil, isNone, isiD, seqD, gItem, truD, zipOf, zipD, pick, List.contains_nil, List.contains_cons, eq_self, List.cons_ne_nil, if_true, if_false, Bool.false_eq_true, Bool.true_eq_false, Bool.not_true, Bool.not_false, reduceIte, decide_true, decide_false, Nat.reduceAdd, Nat.reduceSub, Nat.zero_add, Nat.add_zero, and_self, true_and, and_true, Bool.and_true, Bool.true_and, Bool.or_false, Bool.false_or, Bool.or_true, Bool.true_or, Bool.and_false, Bool.false_and, Bool.or_self, Bool.and_self, Nat.sub_self, Option.map_some, Option.map_none, Nat.reduceBEq, Bool.not_eq_true, beq_self_eq_true, Nat.reduceLeDiff, Nat.reduceLT, Nat.reduceEqDiff, List.filterMap_cons, List.filterMap_nil, $as,*])
open PySem PySem.Spec PyProof.Rows L2
theorem k_great_pos {t : Fn} (T : Tk t) : Gp (k__law_great t) := great_pos T
end Ev
namespace Ev
local macro_rules
  | `(tactic| simp! only [$as,*]) => `(tactic| simp only [↓x_var, ↓x_C, ↓x_op, ↓x_fz, ↓x_rV, ↓x_B, ↓x_chain, ↓x_tru, ↓x_notT, ↓x_andT, ↓x_orT, ↓x_and, ↓x_or, ↓x_not, ↓x_neg, ↓x_if, ↓x_aNil, ↓x_aVal, ↓x_aSlot, ↓x_aTmp, ↓x_aR, ↓x_call, ↓x_callK, ↓x_dNil, ↓x_dCons, ↓x_tup, ↓x_lst, ↓x_itemN, ↓x_ownItem, ↓x_lenN, ↓x_blt, ↓x_isi, ↓x_list, ↓x_rgL1, ↓x_rgL2, ↓x_iSeq, ↓x_iZip, ↓x_range1, ↓x_range2, ↓x_addR, ↓x_slice, ↓x_partN, ↓x_partS, ↓x_comp, ↓x_skip, ↓x_stuck, ↓x_break, ↓x_cont, ↓x_seq, ↓x_sIf, ↓x_sExpr, ↓x_ret, ↓x_retN, ↓x_move, ↓x_setRv, ↓x_setRf, ↓x_setRm, ↓x_set, ↓x_gN, ↓x_gsNil, ↓x_gsCons, ↓x_gTup, ↓x_gIx, ↓x_setAt, ↓x_asg, ↓x_par, ↓x_sm0, ↓x_smV, ↓x_smF, ↓x_app, ↓x_for, ↓x_for0, ↓x_for1, ↓x_comp0, ↓x_comp1, ↓x_fn, ↓x_iEnum, ↓x_range3, ↓x_comp2, ↓x_compN0, ↓x_compN1, ↓x_item2, ↓x_item2M, ↓x_gIx2, ↓x_compM, ↓x_callB, ↓x_pop, ↓x_dStar, ↓x_seeAt, ↓x_see, ↓x_seeR, ↓x_rev, ↓x_idx, ↓x_repL, ↓x_sortK, ↓x_lenSet, ↓x_dct0, q_addI, q_addT, q_addL, q_subI, q_ltI, q_leI, q_gtI, q_geI, q_isN, q_isNotN, q_isB, q_isNotB, q_eqI, q_neI, q_eqB, q_eqT0, q_eqT1, q_neT0, q_neT1, q_eqL0, q_eqL1, q_neL0, q_neL1, q_int, q_abs, q_min2, q_max2, q_at0, q_at1, q_at2, q_at3, q_ix0, q_ix1, q_ix2, q_sz, q_iteS, q_iteT, q_iteR, q_iteV, q_iteBB, q_iteII, q_iteAnd, q_iteOr, q_iteNot, q_iteCon, q_pa0, q_pa1, q_pa2, q_pa3, q_pa4, q_ow4, q_ma0, q_ma1, q_ma2, q_ma3, q_ma4, q_ow0, q_ow1, q_ow2, q_ow3, q_c0, q_c1, q_c2, q_c3, q_c4, q_c5, q_c6, q_c7, q_c8, q_c9, q_c10, q_c11, q_c12, q_all0, q_all1, q_all2, q_all3, q_inN2, q_inN0, q_02a, q_02b, q_repr, q_ol1, q_ol2, q_ol3, q_ll1, q_ll2, q_ll3, q_scB, q_strI, q_strB, q_addBI, q_subBI, q_subIB, q_mulIB, List.getElem?_cons_zero, List.getElem?_cons_succ, List.set_cons_zero, List.set_cons_succ, wipeE, initE, outsOf, toAv, toAvB, scal, slotsOf, putOuts, natNodup, List.map_cons, List.map_nil, List.cons_append, List.nil_append, List.append_nil, List.replicate, List.length_cons, List.length_nil, isNone, isiD, seqD, gItem, truD, zipOf, zipD, pick, List.contains_nil, List.contains_cons, eq_self, List.cons_ne_nil, if_true, if_false, Bool.false_eq_true, Bool.true_eq_false, Bool.not_true, Bool.not_false, reduceIte, decide_true, decide_false, Nat.reduceAdd, Nat.reduceSub, Nat.zero_add, Nat.add_zero, and_self, true_and, and_true, Bool.and_true, Bool.true_and, Bool.or_false, Bool.false_or, Bool.or_true, Bool.true_or, Bool.and_false, Bool.false_and, Bool.or_self, Bool.and_self, Nat.sub_self, Option.map_some, Option.map_none, Nat.reduceBEq, Bool.not_eq_true, beq_self_eq_true, Nat.reduceLeDiff, Nat.reduceLT, Nat.reduceEqDiff, List.filterMap_cons, List.filterMap_nil, $as,*])
open PySem PySem.Spec PyProof.Rows L2
/-! ## k27: modulo -/
section
variable {f g h w p q : Fn}
end
end Ev
namespace Ev
local macro_rules
  | `(tactic| simp! only [$as,*]) => `(tactic| simp only [↓x_var, ↓x_C, ↓x_op, ↓x_fz, ↓x_rV, ↓x_B, ↓x_chain, ↓x_tru, ↓x_notT, ↓x_andT, ↓x_orT, ↓x_and, ↓x_or, ↓x_not, ↓x_neg, ↓x_if, ↓x_aNil, ↓x_aVal, ↓x_aSlot, ↓x_aTmp, ↓x_aR, ↓x_call, ↓x_callK, ↓x_dNil, ↓x_dCons, ↓x_tup, ↓x_lst, ↓x_itemN, ↓x_ownItem, ↓x_lenN, ↓x_blt, ↓x_isi, ↓x_list, ↓x_rgL1, ↓x_rgL2, ↓x_iSeq, ↓x_iZip, ↓x_range1, ↓x_range2, ↓x_addR, ↓x_slice, ↓x_partN, ↓x_partS, ↓x_comp, ↓x_skip, ↓x_stuck, ↓x_break, ↓x_cont, ↓x_seq, ↓x_sIf, ↓x_sExpr, ↓x_ret, ↓x_retN, ↓x_move, ↓x_setRv, ↓x_setRf, ↓x_setRm, ↓x_set, ↓x_gN, ↓x_gsNil, ↓x_gsCons, ↓x_gTup, ↓x_gIx, ↓x_setAt, ↓x_asg, ↓x_par, ↓x_sm0, ↓x_smV, ↓x_smF, ↓x_app, ↓x_for, ↓x_for0, ↓x_for1, ↓x_comp0, ↓x_comp1, ↓x_fn, ↓x_iEnum, ↓x_range3, ↓x_comp2, ↓x_compN0, ↓x_compN1, ↓x_item2, ↓x_item2M, ↓x_gIx2, ↓x_compM, ↓x_callB, ↓x_pop, ↓x_dStar, ↓x_seeAt, ↓x_see, ↓x_seeR, ↓x_rev, ↓x_idx, ↓x_repL, ↓x_sortK, ↓x_lenSet, ↓x_dct0, q_addI, q_addT, q_addL, q_subI, q_ltI, q_leI, q_gtI, q_geI, q_isN, q_isNotN, q_isB, q_isNotB, q_eqI, q_neI, q_eqB, q_eqT0, q_eqT1, q_neT0, q_neT1, q_eqL0, q_eqL1, q_neL0, q_neL1, q_int, q_abs, q_min2, q_max2, q_at0, q_at1, q_at2, q_at3, q_ix0, q_ix1, q_ix2, q_sz, q_iteS, q_iteT, q_iteR, q_iteV, q_iteBB, q_iteII, q_iteAnd, q_iteOr, q_iteNot, q_iteCon, q_pa0, q_pa1, q_pa2, q_pa3, q_pa4, q_ow4, q_ma0, q_ma1, q_ma2, q_ma3, q_ma4, q_ow0, q_ow1, q_ow2, q_ow3, q_c0, q_c1, q_c2, q_c3, q_c4, q_c5, q_c6, q_c7, q_c8, q_c9, q_c10, q_c11, q_c12, q_all0, q_all1, q_all2, q_all3, q_inN2, q_inN0, q_02a, q_02b, q_repr, q_ol1, q_ol2, q_ol3, q_ll1, q_ll2, q_ll3, q_scB, q_strI, q_strB, q_addBI, q_subBI, q_subIB, q_mulIB, List.getElem?_cons_zero, List.getElem?_cons_succ, List.set_cons_zero, List.set_cons_succ, wipeE, initE, outsOf, toAv, toAvB, scal, slotsOf, putOuts, natNodup, List.map_cons, List.map_nil, List.cons_append, List.nil_append, List.append_nil, List.replicate, List.length_cons, List.length_nil, isNone, isiD, seqD, gItem, truD, zipOf, zipD, pick, List.contains_nil, List.contains_cons, eq_self, List.cons_ne_nil, if_true, if_false, Bool.false_eq_true, Bool.true_eq_false, Bool.not_true, Bool.not_false, reduceIte, decide_true, decide_false, Nat.reduceAdd, Nat.reduceSub, Nat.zero_add, Nat.add_zero, and_self, true_and, and_true, Bool.and_true, Bool.true_and, Bool.or_false, Bool.false_or, Bool.or_true, Bool.true_or, Bool.and_false, Bool.false_and, Bool.or_self, Bool.and_self, Nat.sub_self, Option.map_some, Option.map_none, Nat.reduceBEq, Bool.not_eq_true, beq_self_eq_true, Nat.reduceLeDiff, Nat.reduceLT, Nat.reduceEqDiff, List.filterMap_cons, List.filterMap_nil, $as,*])
open PySem PySem.Spec PyProof.Rows L2
section
variable {f g h w : Fn}
/-! ## what differences are -/
end
end Ev
namespace Ev
local macro_rules
  | `(tactic| simp! only [$as,*]) => `(tactic| simp only [↓x_var, ↓x_C, ↓x_op, ↓x_fz, ↓x_rV, ↓x_B, ↓x_chain, ↓x_tru, ↓x_notT, ↓x_andT, ↓x_orT, ↓x_and, ↓x_or, ↓x_not, ↓x_neg, ↓x_if, ↓x_aNil, ↓x_aVal, ↓x_aSlot, ↓x_aTmp, ↓x_aR, ↓x_call, ↓x_callK, ↓x_dNil, ↓x_dCons, ↓x_tup, ↓x_lst, ↓x_itemN, ↓x_ownItem, ↓x_lenN, ↓x_blt, ↓x_isi, ↓x_list, ↓x_rgL1, ↓x_rgL2, ↓x_iSeq, ↓x_iZip, ↓x_range1, ↓x_range2, ↓x_addR, ↓x_slice, ↓x_partN, ↓x_partS, ↓x_comp, ↓x_skip, ↓x_stuck, ↓x_break, ↓x_cont, ↓x_seq, ↓x_sIf, ↓x_sExpr, ↓x_ret, ↓x_retN, ↓x_move, ↓x_setRv, ↓x_setRf, ↓x_setRm, ↓x_set, ↓x_gN, ↓x_gsNil, ↓x_gsCons, ↓x_gTup, ↓x_gIx, ↓x_setAt, ↓x_asg, ↓x_par, ↓x_sm0, ↓x_smV, ↓x_smF, ↓x_app, ↓x_for, ↓x_for0, ↓x_for1, ↓x_comp0, ↓x_comp1, ↓x_fn, ↓x_iEnum, ↓x_range3, ↓x_comp2, ↓x_compN0, ↓x_compN1, ↓x_item2, ↓x_item2M, ↓x_gIx2, ↓x_compM, ↓x_callB, ↓x_pop, ↓x_dStar, ↓x_seeAt, ↓x_see, ↓x_seeR, ↓x_rev, ↓x_idx, ↓x_repL, ↓x_sortK, ↓x_lenSet, ↓x_dct0, q_addI, q_addT, q_addL, q_subI, q_ltI, q_leI, q_gtI, q_geI, q_isN, q_isNotN, q_isB, q_isNotB, q_eqI, q_neI, q_eqB, q_eqT0, q_eqT1, q_neT0, q_neT1, q_eqL0, q_eqL1, q_neL0, q_neL1, q_int, q_abs, q_min2, q_max2, q_at0, q_at1, q_at2, q_at3, q_ix0, q_ix1, q_ix2, q_sz, q_iteS, q_iteT, q_iteR, q_iteV, q_iteBB, q_iteII, q_iteAnd, q_iteOr, q_iteNot, q_iteCon, q_pa0, q_pa1, q_pa2, q_pa3, q_pa4, q_ow4, q_ma0, q_ma1, q_ma2, q_ma3, q_ma4, q_ow0, q_ow1, q_ow2, q_ow3, q_c0, q_c1, q_c2, q_c3, q_c4, q_c5, q_c6, q_c7, q_c8, q_c9, q_c10, q_c11, q_c12, q_all0, q_all1, q_all2, q_all3, q_inN2, q_inN0, q_02a, q_02b, q_repr, q_ol1, q_ol2, q_ol3, q_ll1, q_ll2, q_ll3, q_scB, q_strI, q_strB, q_addBI, q_subBI, q_subIB, q_mulIB, List.getElem?_cons_zero, List.getElem?_cons_succ, List.set_cons_zero, List.set_cons_succ, wipeE, initE, outsOf, toAv, toAvB, scal, slotsOf, putOuts, natNodup, List.map_cons, List.map_nil, List.cons_append, List.nil_append, List.append_nil, List.replicate, List.length_cons, List.length_nil, isNone, isiD, seqD, gItem, truD, zipOf, zipD, pick, List.contains_nil, List.contains_cons, eq_self, List.cons_ne_nil, if_true, if_false, Bool.false_eq_true, Bool.true_eq_false, Bool.not_true, Bool.not_false, reduceIte, decide_true, decide_false, Nat.reduceAdd, Nat.reduceSub, Nat.zero_add, Nat.add_zero, and_self, true_and, and_true, Bool.and_true, Bool.true_and, Bool.or_false, Bool.false_or, Bool.or_true, Bool.true_or, Bool.and_false, Bool.false_and, Bool.or_self, Bool.and_self, Nat.sub_self, Option.map_some, Option.map_none, Nat.reduceBEq, Bool.not_eq_true, beq_self_eq_true, Nat.reduceLeDiff, Nat.reduceLT, Nat.reduceEqDiff, List.filterMap_cons, List.filterMap_nil, $as,*])
open PySem PySem.Spec PyProof.Rows L2
section
variable {f g h w : Fn}
/-! ## values held -/
end
end Ev
namespace Ev
local macro_rules
  | `(tactic| simp! only [$as,*]) => `(tactic| simp only [↓x_var, ↓x_C, ↓x_op, ↓x_fz, ↓x_rV, ↓x_B, ↓x_chain, ↓x_tru, ↓x_notT, ↓x_andT, ↓x_orT, ↓x_and, ↓x_or, ↓x_not, ↓x_neg, ↓x_if, ↓x_aNil, ↓x_aVal, ↓x_aSlot, ↓x_aTmp, ↓x_aR, ↓x_call, ↓x_callK, ↓x_dNil, ↓x_dCons, ↓x_tup, ↓x_lst, ↓x_itemN, ↓x_ownItem, ↓x_lenN, ↓x_blt, ↓x_isi, ↓x_list, ↓x_rgL1, ↓x_rgL2, ↓x_iSeq, ↓x_iZip, ↓x_range1, ↓x_range2, ↓x_addR, ↓x_slice, ↓x_partN, ↓x_partS, ↓x_comp, ↓x_skip, ↓x_stuck, ↓x_break, ↓x_cont, ↓x_seq, ↓x_sIf, ↓x_sExpr, ↓x_ret, ↓x_retN, ↓x_move, ↓x_setRv, ↓x_setRf, ↓x_setRm, ↓x_set, ↓x_gN, ↓x_gsNil, ↓x_gsCons, ↓x_gTup, ↓x_gIx, ↓x_setAt, ↓x_asg, ↓x_par, ↓x_sm0, ↓x_smV, ↓x_smF, ↓x_app, ↓x_for, ↓x_for0, ↓x_for1, ↓x_comp0, ↓x_comp1, ↓x_fn, ↓x_iEnum, ↓x_range3, ↓x_comp2, ↓x_compN0, ↓x_compN1, ↓x_item2, ↓x_item2M, ↓x_gIx2, ↓x_compM, ↓x_callB, ↓x_pop, ↓x_dStar, ↓x_seeAt, ↓x_see, ↓x_seeR, ↓x_rev, ↓x_idx, ↓x_repL, ↓x_sortK, ↓x_lenSet, ↓x_dct0, q_addI, q_addT, q_addL, q_subI, q_ltI, q_leI, q_gtI, q_geI, q_isN, q_isNotN, q_isB, q_isNotB, q_eqI, q_neI, q_eqB, q_eqT0, q_eqT1, q_neT0, q_neT1, q_eqL0, q_eqL1, q_neL0, q_neL1, q_int, q_abs, q_min2, q_max2, q_at0, q_at1, q_at2, q_at3, q_ix0, q_ix1, q_ix2, q_sz, q_iteS, q_iteT, q_iteR, q_iteV, q_iteBB, q_iteII, q_iteAnd, q_iteOr, q_iteNot, q_iteCon, q_pa0, q_pa1, q_pa2, q_pa3, q_pa4, q_ow4, q_ma0, q_ma1, q_ma2, q_ma3, q_ma4, q_ow0, q_ow1, q_ow2, q_ow3, q_c0, q_c1, q_c2, q_c3, q_c4, q_c5, q_c6, q_c7, q_c8, q_c9, q_c10, q_c11, q_c12, q_all0, q_all1, q_all2, q_all3, q_inN2, q_inN0, q_02a, q_02b, q_repr, q_ol1, q_ol2, q_ol3, q_ll1, q_ll2, q_ll3, q_scB, q_strI, q_strB, q_addBI, q_subBI, q_subIB, q_mulIB, List.getElem?_cons_zero, List.getElem?_cons_succ, List.set_cons_zero, List.set_cons_succ, wipeE, initE, outsOf, toAv, toAvB, scal, slotsOf, putOuts, natNodup, List.map_cons, List.map_nil, List.cons_append, List.nil_append, List.append_nil, List.replicate, List.length_cons, List.length_nil, isNone, isiD, seqD, gItem, truD, zipOf, zipD, pick, List.contains_nil, List.contains_cons, eq_self, List.cons_ne_nil, if_true, if_false, Bool.false_eq_true, Bool.true_eq_false, Bool.not_true, Bool.not_false, reduceIte, decide_true, decide_false, Nat.reduceAdd, Nat.reduceSub, Nat.zero_add, Nat.add_zero, and_self, true_and, and_true, Bool.and_true, Bool.true_and, Bool.or_false, Bool.false_or, Bool.or_true, Bool.true_or, Bool.and_false, Bool.false_and, Bool.or_self, Bool.and_self, Nat.sub_self, Option.map_some, Option.map_none, Nat.reduceBEq, Bool.not_eq_true, beq_self_eq_true, Nat.reduceLeDiff, Nat.reduceLT, Nat.reduceEqDiff, List.filterMap_cons, List.filterMap_nil, $as,*])
open PySem PySem.Spec PyProof.Rows L2
section
variable {f g h w : Fn}
/-! ## closings, plain -/
/-! ## values apart -/
/-- the numbers by which two indexes may be apart -/
def inB (o : Option MF) (a b : Nat) (N : Int) : Prop := match o with
  | none => False
  | some g => leB (some (-N)) (g b a) ∧ leB (some N) (g a b)
/-! ## the numbers between -/
/-! ## within, joined, met -/
end
end Ev
namespace Ev
local macro_rules
  | `(tactic| simp! only [$as,*]) => `(tactic| simp only [↓x_var, ↓x_C, ↓x_op, ↓x_fz, ↓x_rV, ↓x_B, ↓x_chain, ↓x_tru, ↓x_notT, ↓x_andT, ↓x_orT, ↓x_and, ↓x_or, ↓x_not, ↓x_neg, ↓x_if, ↓x_aNil, ↓x_aVal, ↓x_aSlot, ↓x_aTmp, ↓x_aR, ↓x_call, ↓x_callK, ↓x_dNil, ↓x_dCons, ↓x_tup, ↓x_lst, ↓x_itemN, ↓x_ownItem, ↓x_lenN, ↓x_blt, ↓x_isi, ↓x_list, ↓x_rgL1, ↓x_rgL2, ↓x_iSeq, ↓x_iZip, ↓x_range1, ↓x_range2, ↓x_addR, ↓x_slice, ↓x_partN, ↓x_partS, ↓x_comp, ↓x_skip, ↓x_stuck, ↓x_break, ↓x_cont, ↓x_seq, ↓x_sIf, ↓x_sExpr, ↓x_ret, ↓x_retN, ↓x_move, ↓x_setRv, ↓x_setRf, ↓x_setRm, ↓x_set, ↓x_gN, ↓x_gsNil, ↓x_gsCons, ↓x_gTup, ↓x_gIx, ↓x_setAt, ↓x_asg, ↓x_par, ↓x_sm0, ↓x_smV, ↓x_smF, ↓x_app, ↓x_for, ↓x_for0, ↓x_for1, ↓x_comp0, ↓x_comp1, ↓x_fn, ↓x_iEnum, ↓x_range3, ↓x_comp2, ↓x_compN0, ↓x_compN1, ↓x_item2, ↓x_item2M, ↓x_gIx2, ↓x_compM, ↓x_callB, ↓x_pop, ↓x_dStar, ↓x_seeAt, ↓x_see, ↓x_seeR, ↓x_rev, ↓x_idx, ↓x_repL, ↓x_sortK, ↓x_lenSet, ↓x_dct0, q_addI, q_addT, q_addL, q_subI, q_ltI, q_leI, q_gtI, q_geI, q_isN, q_isNotN, q_isB, q_isNotB, q_eqI, q_neI, q_eqB, q_eqT0, q_eqT1, q_neT0, q_neT1, q_eqL0, q_eqL1, q_neL0, q_neL1, q_int, q_abs, q_min2, q_max2, q_at0, q_at1, q_at2, q_at3, q_ix0, q_ix1, q_ix2, q_sz, q_iteS, q_iteT, q_iteR, q_iteV, q_iteBB, q_iteII, q_iteAnd, q_iteOr, q_iteNot, q_iteCon, q_pa0, q_pa1, q_pa2, q_pa3, q_pa4, q_ow4, q_ma0, q_ma1, q_ma2, q_ma3, q_ma4, q_ow0, q_ow1, q_ow2, q_ow3, q_c0, q_c1, q_c2, q_c3, q_c4, q_c5, q_c6, q_c7, q_c8, q_c9, q_c10, q_c11, q_c12, q_all0, q_all1, q_all2, q_all3, q_inN2, q_inN0, q_02a, q_02b, q_repr, q_ol1, q_ol2, q_ol3, q_ll1, q_ll2, q_ll3, q_scB, q_strI, q_strB, q_addBI, q_subBI, q_subIB, q_mulIB, List.getElem?_cons_zero, List.getElem?_cons_succ, List.set_cons_zero, List.set_cons_succ, wipeE, initE, outsOf, toAv, toAvB, scal, slotsOf, putOuts, natNodup, List.map_cons, List.map_nil, List.cons_append, List.nil_append, List.append_nil, List.replicate, List.length_cons, List.length_nil, isNone, isiD, seqD, gItem, truD, zipOf, zipD, pick, List.contains_nil, List.contains_cons, eq_self, List.cons_ne_nil, if_true, if_false, Bool.false_eq_true, Bool.true_eq_false, Bool.not_true, Bool.not_false, reduceIte, decide_true, decide_false, Nat.reduceAdd, Nat.reduceSub, Nat.zero_add, Nat.add_zero, and_self, true_and, and_true, Bool.and_true, Bool.true_and, Bool.or_false, Bool.false_or, Bool.or_true, Bool.true_or, Bool.and_false, Bool.false_and, Bool.or_self, Bool.and_self, Nat.sub_self, Option.map_some, Option.map_none, Nat.reduceBEq, Bool.not_eq_true, beq_self_eq_true, Nat.reduceLeDiff, Nat.reduceLT, Nat.reduceEqDiff, List.filterMap_cons, List.filterMap_nil, $as,*])
open PySem PySem.Spec PyProof.Rows L2
/-! ## the source of numbers, in general -/
def TkW (g : Fn) : Prop := ∀ (b : Nat) (ds : List D) (k : Int), Src (b + 1) ds → 0 < k → k.natAbs.log2 < 9000 → ∃ (v : Int) (ds' : List D), g [.own ds, .val (.int k)] = some (.val (.int v), [ds']) ∧ 0 ≤ v ∧ v < k ∧ Src b ds'
theorem TkW.tk {g : Fn} (h : TkW g) : Tk g := fun b ds k s h0 h1 => h b ds k s h0 (Nat.lt_of_le_of_lt (log2_small (k := 30) (by omega)) (by decide))
end Ev
namespace Ev
local macro_rules
  | `(tactic| simp! only [$as,*]) => `(tactic| simp only [↓x_var, ↓x_C, ↓x_op, ↓x_fz, ↓x_rV, ↓x_B, ↓x_chain, ↓x_tru, ↓x_notT, ↓x_andT, ↓x_orT, ↓x_and, ↓x_or, ↓x_not, ↓x_neg, ↓x_if, ↓x_aNil, ↓x_aVal, ↓x_aSlot, ↓x_aTmp, ↓x_aR, ↓x_call, ↓x_callK, ↓x_dNil, ↓x_dCons, ↓x_tup, ↓x_lst, ↓x_itemN, ↓x_ownItem, ↓x_lenN, ↓x_blt, ↓x_isi, ↓x_list, ↓x_rgL1, ↓x_rgL2, ↓x_iSeq, ↓x_iZip, ↓x_range1, ↓x_range2, ↓x_addR, ↓x_slice, ↓x_partN, ↓x_partS, ↓x_comp, ↓x_skip, ↓x_stuck, ↓x_break, ↓x_cont, ↓x_seq, ↓x_sIf, ↓x_sExpr, ↓x_ret, ↓x_retN, ↓x_move, ↓x_setRv, ↓x_setRf, ↓x_setRm, ↓x_set, ↓x_gN, ↓x_gsNil, ↓x_gsCons, ↓x_gTup, ↓x_gIx, ↓x_setAt, ↓x_asg, ↓x_par, ↓x_sm0, ↓x_smV, ↓x_smF, ↓x_app, ↓x_for, ↓x_for0, ↓x_for1, ↓x_comp0, ↓x_comp1, ↓x_fn, ↓x_iEnum, ↓x_range3, ↓x_comp2, ↓x_compN0, ↓x_compN1, ↓x_item2, ↓x_item2M, ↓x_gIx2, ↓x_compM, ↓x_callB, ↓x_pop, ↓x_dStar, ↓x_seeAt, ↓x_see, ↓x_seeR, ↓x_rev, ↓x_idx, ↓x_repL, ↓x_sortK, ↓x_lenSet, ↓x_dct0, q_addI, q_addT, q_addL, q_subI, q_ltI, q_leI, q_gtI, q_geI, q_isN, q_isNotN, q_isB, q_isNotB, q_eqI, q_neI, q_eqB, q_eqT0, q_eqT1, q_neT0, q_neT1, q_eqL0, q_eqL1, q_neL0, q_neL1, q_int, q_abs, q_min2, q_max2, q_at0, q_at1, q_at2, q_at3, q_ix0, q_ix1, q_ix2, q_sz, q_iteS, q_iteT, q_iteR, q_iteV, q_iteBB, q_iteII, q_iteAnd, q_iteOr, q_iteNot, q_iteCon, q_pa0, q_pa1, q_pa2, q_pa3, q_pa4, q_ow4, q_ma0, q_ma1, q_ma2, q_ma3, q_ma4, q_ow0, q_ow1, q_ow2, q_ow3, q_c0, q_c1, q_c2, q_c3, q_c4, q_c5, q_c6, q_c7, q_c8, q_c9, q_c10, q_c11, q_c12, q_all0, q_all1, q_all2, q_all3, q_inN2, q_inN0, q_02a, q_02b, q_repr, q_ol1, q_ol2, q_ol3, q_ll1, q_ll2, q_ll3, q_scB, q_strI, q_strB, q_addBI, q_subBI, q_subIB, q_mulIB, List.getElem?_cons_zero, List.getElem?_cons_succ, List.set_cons_zero, List.set_cons_succ, wipeE, initE, outsOf, toAv, toAvB, scal, slotsOf, putOuts, natNodup, List.map_cons, List.map_nil, List.cons_append, List.nil_append, List.append_nil, List.replicate, List.length_cons, List.length_nil, isNone, isiD, seqD, gItem, truD, zipOf, zipD, pick, List.contains_nil, List.contains_cons, eq_self, List.cons_ne_nil, if_true, if_false, Bool.false_eq_true, Bool.true_eq_false, Bool.not_true, Bool.not_false, reduceIte, decide_true, decide_false, Nat.reduceAdd, Nat.reduceSub, Nat.zero_add, Nat.add_zero, and_self, true_and, and_true, Bool.and_true, Bool.true_and, Bool.or_false, Bool.false_or, Bool.or_true, Bool.true_or, Bool.and_false, Bool.false_and, Bool.or_self, Bool.and_self, Nat.sub_self, Option.map_some, Option.map_none, Nat.reduceBEq, Bool.not_eq_true, beq_self_eq_true, Nat.reduceLeDiff, Nat.reduceLT, Nat.reduceEqDiff, List.filterMap_cons, List.filterMap_nil, $as,*])
open PySem PySem.Spec PyProof.Rows L2
/-! ## the laws of differences: their own closing -/
theorem fr_no : Fr .no := rfl
theorem fr_val {d : D} : Fr (.val d) := rfl
/-- one bound stored -/
def put (F : MF) (h t : Nat) (x : EE) : MF := fun i j => if i = h ∧ j = t then x else F i j
section
variable {n m : Nat}
/-- where the row h stands on its way -/
def part (F : MF) (k h t : Nat) : MF := fun i j => if i < h ∨ (i = h ∧ j < t) then rnd k F i j else F i j
end
end Ev
namespace Ev
local macro_rules
  | `(tactic| simp! only [$as,*]) => `(tactic| simp only [↓x_var, ↓x_C, ↓x_op, ↓x_fz, ↓x_rV, ↓x_B, ↓x_chain, ↓x_tru, ↓x_notT, ↓x_andT, ↓x_orT, ↓x_and, ↓x_or, ↓x_not, ↓x_neg, ↓x_if, ↓x_aNil, ↓x_aVal, ↓x_aSlot, ↓x_aTmp, ↓x_aR, ↓x_call, ↓x_callK, ↓x_dNil, ↓x_dCons, ↓x_tup, ↓x_lst, ↓x_itemN, ↓x_ownItem, ↓x_lenN, ↓x_blt, ↓x_isi, ↓x_list, ↓x_rgL1, ↓x_rgL2, ↓x_iSeq, ↓x_iZip, ↓x_range1, ↓x_range2, ↓x_addR, ↓x_slice, ↓x_partN, ↓x_partS, ↓x_comp, ↓x_skip, ↓x_stuck, ↓x_break, ↓x_cont, ↓x_seq, ↓x_sIf, ↓x_sExpr, ↓x_ret, ↓x_retN, ↓x_move, ↓x_setRv, ↓x_setRf, ↓x_setRm, ↓x_set, ↓x_gN, ↓x_gsNil, ↓x_gsCons, ↓x_gTup, ↓x_gIx, ↓x_setAt, ↓x_asg, ↓x_par, ↓x_sm0, ↓x_smV, ↓x_smF, ↓x_app, ↓x_for, ↓x_for0, ↓x_for1, ↓x_comp0, ↓x_comp1, ↓x_fn, ↓x_iEnum, ↓x_range3, ↓x_comp2, ↓x_compN0, ↓x_compN1, ↓x_item2, ↓x_item2M, ↓x_gIx2, ↓x_compM, ↓x_callB, ↓x_pop, ↓x_dStar, ↓x_seeAt, ↓x_see, ↓x_seeR, ↓x_rev, ↓x_idx, ↓x_repL, ↓x_sortK, ↓x_lenSet, ↓x_dct0, q_addI, q_addT, q_addL, q_subI, q_ltI, q_leI, q_gtI, q_geI, q_isN, q_isNotN, q_isB, q_isNotB, q_eqI, q_neI, q_eqB, q_eqT0, q_eqT1, q_neT0, q_neT1, q_eqL0, q_eqL1, q_neL0, q_neL1, q_int, q_abs, q_min2, q_max2, q_at0, q_at1, q_at2, q_at3, q_ix0, q_ix1, q_ix2, q_sz, q_iteS, q_iteT, q_iteR, q_iteV, q_iteBB, q_iteII, q_iteAnd, q_iteOr, q_iteNot, q_iteCon, q_pa0, q_pa1, q_pa2, q_pa3, q_pa4, q_ow4, q_ma0, q_ma1, q_ma2, q_ma3, q_ma4, q_ow0, q_ow1, q_ow2, q_ow3, q_c0, q_c1, q_c2, q_c3, q_c4, q_c5, q_c6, q_c7, q_c8, q_c9, q_c10, q_c11, q_c12, q_all0, q_all1, q_all2, q_all3, q_inN2, q_inN0, q_02a, q_02b, q_repr, q_ol1, q_ol2, q_ol3, q_ll1, q_ll2, q_ll3, q_scB, q_strI, q_strB, q_addBI, q_subBI, q_subIB, q_mulIB, List.getElem?_cons_zero, List.getElem?_cons_succ, List.set_cons_zero, List.set_cons_succ, wipeE, initE, outsOf, toAv, toAvB, scal, slotsOf, putOuts, natNodup, List.map_cons, List.map_nil, List.cons_append, List.nil_append, List.append_nil, List.replicate, List.length_cons, List.length_nil, isNone, isiD, seqD, gItem, truD, zipOf, zipD, pick, List.contains_nil, List.contains_cons, eq_self, List.cons_ne_nil, if_true, if_false, Bool.false_eq_true, Bool.true_eq_false, Bool.not_true, Bool.not_false, reduceIte, decide_true, decide_false, Nat.reduceAdd, Nat.reduceSub, Nat.zero_add, Nat.add_zero, and_self, true_and, and_true, Bool.and_true, Bool.true_and, Bool.or_false, Bool.false_or, Bool.or_true, Bool.true_or, Bool.and_false, Bool.false_and, Bool.or_self, Bool.and_self, Nat.sub_self, Option.map_some, Option.map_none, Nat.reduceBEq, Bool.not_eq_true, beq_self_eq_true, Nat.reduceLeDiff, Nat.reduceLT, Nat.reduceEqDiff, List.filterMap_cons, List.filterMap_nil, $as,*])
open PySem PySem.Spec PyProof.Rows L2
section
variable {f g h w : Fn}
/-! ## draws -/
theorem pk_tup {p : Fn} (P : Pk p) {b : Nat} {ds : List D} (xs : List D) (h : Src (b + 1) ds) (hx : xs ≠ []) (hl : xs.length < 1000000) : ∃ d ∈ xs, ∃ ds', p [.own ds, .val (.tuple xs)] = some (.val d, [ds']) ∧ Src b ds' := (P b ds xs h hx hl).2
theorem range1_rng {m : Nat} : rangeD 0 ((m : Int) - 0).toNat = (List.range m).map fun (k : Nat) => PyData.int (k : Int) := by
  rw [show ((m : Int) - 0).toNat = m by omega]; exact rangeD_rng _
end
end Ev
namespace Ev
local macro_rules
  | `(tactic| simp! only [$as,*]) => `(tactic| simp only [↓x_var, ↓x_C, ↓x_op, ↓x_fz, ↓x_rV, ↓x_B, ↓x_chain, ↓x_tru, ↓x_notT, ↓x_andT, ↓x_orT, ↓x_and, ↓x_or, ↓x_not, ↓x_neg, ↓x_if, ↓x_aNil, ↓x_aVal, ↓x_aSlot, ↓x_aTmp, ↓x_aR, ↓x_call, ↓x_callK, ↓x_dNil, ↓x_dCons, ↓x_tup, ↓x_lst, ↓x_itemN, ↓x_ownItem, ↓x_lenN, ↓x_blt, ↓x_isi, ↓x_list, ↓x_rgL1, ↓x_rgL2, ↓x_iSeq, ↓x_iZip, ↓x_range1, ↓x_range2, ↓x_addR, ↓x_slice, ↓x_partN, ↓x_partS, ↓x_comp, ↓x_skip, ↓x_stuck, ↓x_break, ↓x_cont, ↓x_seq, ↓x_sIf, ↓x_sExpr, ↓x_ret, ↓x_retN, ↓x_move, ↓x_setRv, ↓x_setRf, ↓x_setRm, ↓x_set, ↓x_gN, ↓x_gsNil, ↓x_gsCons, ↓x_gTup, ↓x_gIx, ↓x_setAt, ↓x_asg, ↓x_par, ↓x_sm0, ↓x_smV, ↓x_smF, ↓x_app, ↓x_for, ↓x_for0, ↓x_for1, ↓x_comp0, ↓x_comp1, ↓x_fn, ↓x_iEnum, ↓x_range3, ↓x_comp2, ↓x_compN0, ↓x_compN1, ↓x_item2, ↓x_item2M, ↓x_gIx2, ↓x_compM, ↓x_callB, ↓x_pop, ↓x_dStar, ↓x_seeAt, ↓x_see, ↓x_seeR, ↓x_rev, ↓x_idx, ↓x_repL, ↓x_sortK, ↓x_lenSet, ↓x_dct0, q_addI, q_addT, q_addL, q_subI, q_ltI, q_leI, q_gtI, q_geI, q_isN, q_isNotN, q_isB, q_isNotB, q_eqI, q_neI, q_eqB, q_eqT0, q_eqT1, q_neT0, q_neT1, q_eqL0, q_eqL1, q_neL0, q_neL1, q_int, q_abs, q_min2, q_max2, q_at0, q_at1, q_at2, q_at3, q_ix0, q_ix1, q_ix2, q_sz, q_iteS, q_iteT, q_iteR, q_iteV, q_iteBB, q_iteII, q_iteAnd, q_iteOr, q_iteNot, q_iteCon, q_pa0, q_pa1, q_pa2, q_pa3, q_pa4, q_ow4, q_ma0, q_ma1, q_ma2, q_ma3, q_ma4, q_ow0, q_ow1, q_ow2, q_ow3, q_c0, q_c1, q_c2, q_c3, q_c4, q_c5, q_c6, q_c7, q_c8, q_c9, q_c10, q_c11, q_c12, q_all0, q_all1, q_all2, q_all3, q_inN2, q_inN0, q_02a, q_02b, q_repr, q_ol1, q_ol2, q_ol3, q_ll1, q_ll2, q_ll3, q_scB, q_strI, q_strB, q_addBI, q_subBI, q_subIB, q_mulIB, List.getElem?_cons_zero, List.getElem?_cons_succ, List.set_cons_zero, List.set_cons_succ, wipeE, initE, outsOf, toAv, toAvB, scal, slotsOf, putOuts, natNodup, List.map_cons, List.map_nil, List.cons_append, List.nil_append, List.append_nil, List.replicate, List.length_cons, List.length_nil, isNone, isiD, seqD, gItem, truD, zipOf, zipD, pick, List.contains_nil, List.contains_cons, eq_self, List.cons_ne_nil, if_true, if_false, Bool.false_eq_true, Bool.true_eq_false, Bool.not_true, Bool.not_false, reduceIte, decide_true, decide_false, Nat.reduceAdd, Nat.reduceSub, Nat.zero_add, Nat.add_zero, and_self, true_and, and_true, Bool.and_true, Bool.true_and, Bool.or_false, Bool.false_or, Bool.or_true, Bool.true_or, Bool.and_false, Bool.false_and, Bool.or_self, Bool.and_self, Nat.sub_self, Option.map_some, Option.map_none, Nat.reduceBEq, Bool.not_eq_true, beq_self_eq_true, Nat.reduceLeDiff, Nat.reduceLT, Nat.reduceEqDiff, List.filterMap_cons, List.filterMap_nil, $as,*])
open PySem PySem.Spec PyProof.Rows L2
section
variable {f g h w : Fn}
end
end Ev
namespace Ev
local macro_rules
  | `(tactic| simp! only [$as,*]) => `(tactic| simp only [↓x_var, ↓x_C, ↓x_op, ↓x_fz, ↓x_rV, ↓x_B, ↓x_chain, ↓x_tru, ↓x_notT, ↓x_andT, ↓x_orT, ↓x_and, ↓x_or, ↓x_not, ↓x_neg, ↓x_if, ↓x_aNil, ↓x_aVal, ↓x_aSlot, ↓x_aTmp, ↓x_aR, ↓x_call, ↓x_callK, ↓x_dNil, ↓x_dCons, ↓x_tup, ↓x_lst, ↓x_itemN, ↓x_ownItem, ↓x_lenN, ↓x_blt, ↓x_isi, ↓x_list, ↓x_rgL1, ↓x_rgL2, ↓x_iSeq, ↓x_iZip, ↓x_range1, ↓x_range2, ↓x_addR, ↓x_slice, ↓x_partN, ↓x_partS, ↓x_comp, ↓x_skip, ↓x_stuck, ↓x_break, ↓x_cont, ↓x_seq, ↓x_sIf, ↓x_sExpr, ↓x_ret, ↓x_retN, ↓x_move, ↓x_setRv, ↓x_setRf, ↓x_setRm, ↓x_set, ↓x_gN, ↓x_gsNil, ↓x_gsCons, ↓x_gTup, ↓x_gIx, ↓x_setAt, ↓x_asg, ↓x_par, ↓x_sm0, ↓x_smV, ↓x_smF, ↓x_app, ↓x_for, ↓x_for0, ↓x_for1, ↓x_comp0, ↓x_comp1, ↓x_fn, ↓x_iEnum, ↓x_range3, ↓x_comp2, ↓x_compN0, ↓x_compN1, ↓x_item2, ↓x_item2M, ↓x_gIx2, ↓x_compM, ↓x_callB, ↓x_pop, ↓x_dStar, ↓x_seeAt, ↓x_see, ↓x_seeR, ↓x_rev, ↓x_idx, ↓x_repL, ↓x_sortK, ↓x_lenSet, ↓x_dct0, q_addI, q_addT, q_addL, q_subI, q_ltI, q_leI, q_gtI, q_geI, q_isN, q_isNotN, q_isB, q_isNotB, q_eqI, q_neI, q_eqB, q_eqT0, q_eqT1, q_neT0, q_neT1, q_eqL0, q_eqL1, q_neL0, q_neL1, q_int, q_abs, q_min2, q_max2, q_at0, q_at1, q_at2, q_at3, q_ix0, q_ix1, q_ix2, q_sz, q_iteS, q_iteT, q_iteR, q_iteV, q_iteBB, q_iteII, q_iteAnd, q_iteOr, q_iteNot, q_iteCon, q_pa0, q_pa1, q_pa2, q_pa3, q_pa4, q_ow4, q_ma0, q_ma1, q_ma2, q_ma3, q_ma4, q_ow0, q_ow1, q_ow2, q_ow3, q_c0, q_c1, q_c2, q_c3, q_c4, q_c5, q_c6, q_c7, q_c8, q_c9, q_c10, q_c11, q_c12, q_all0, q_all1, q_all2, q_all3, q_inN2, q_inN0, q_02a, q_02b, q_repr, q_ol1, q_ol2, q_ol3, q_ll1, q_ll2, q_ll3, q_scB, q_strI, q_strB, q_addBI, q_subBI, q_subIB, q_mulIB, List.getElem?_cons_zero, List.getElem?_cons_succ, List.set_cons_zero, List.set_cons_succ, wipeE, initE, outsOf, toAv, toAvB, scal, slotsOf, putOuts, natNodup, List.map_cons, List.map_nil, List.cons_append, List.nil_append, List.append_nil, List.replicate, List.length_cons, List.length_nil, isNone, isiD, seqD, gItem, truD, zipOf, zipD, pick, List.contains_nil, List.contains_cons, eq_self, List.cons_ne_nil, if_true, if_false, Bool.false_eq_true, Bool.true_eq_false, Bool.not_true, Bool.not_false, reduceIte, decide_true, decide_false, Nat.reduceAdd, Nat.reduceSub, Nat.zero_add, Nat.add_zero, and_self, true_and, and_true, Bool.and_true, Bool.true_and, Bool.or_false, Bool.false_or, Bool.or_true, Bool.true_or, Bool.and_false, Bool.false_and, Bool.or_self, Bool.and_self, Nat.sub_self, Option.map_some, Option.map_none, Nat.reduceBEq, Bool.not_eq_true, beq_self_eq_true, Nat.reduceLeDiff, Nat.reduceLT, Nat.reduceEqDiff, List.filterMap_cons, List.filterMap_nil, $as,*])
local macro_rules
  | `(tactic| dsimp! only [$as,*]) => `(tactic| simp only [↓x_var, ↓x_C, ↓x_op, ↓x_fz, ↓x_rV, ↓x_B, ↓x_chain, ↓x_tru, ↓x_notT, ↓x_andT, ↓x_orT, ↓x_and, ↓x_or, ↓x_not, ↓x_neg, ↓x_if, ↓x_aNil, ↓x_aVal, ↓x_aSlot, ↓x_aTmp, ↓x_aR, ↓x_call, ↓x_callK, ↓x_dNil, ↓x_dCons, ↓x_tup, ↓x_lst, ↓x_itemN, ↓x_ownItem, ↓x_lenN, ↓x_blt, ↓x_isi, ↓x_list, ↓x_rgL1, ↓x_rgL2, ↓x_iSeq, ↓x_iZip, ↓x_range1, ↓x_range2, ↓x_addR, ↓x_slice, ↓x_partN, ↓x_partS, ↓x_comp, ↓x_skip, ↓x_stuck, ↓x_break, ↓x_cont, ↓x_seq, ↓x_sIf, ↓x_sExpr, ↓x_ret, ↓x_retN, ↓x_move, ↓x_setRv, ↓x_setRf, ↓x_setRm, ↓x_set, ↓x_gN, ↓x_gsNil, ↓x_gsCons, ↓x_gTup, ↓x_gIx, ↓x_setAt, ↓x_asg, ↓x_par, ↓x_sm0, ↓x_smV, ↓x_smF, ↓x_app, ↓x_for, ↓x_for0, ↓x_for1, ↓x_comp0, ↓x_comp1, ↓x_fn, ↓x_iEnum, ↓x_range3, ↓x_comp2, ↓x_compN0, ↓x_compN1, ↓x_item2, ↓x_item2M, ↓x_gIx2, ↓x_compM, ↓x_callB, ↓x_pop, ↓x_dStar, ↓x_seeAt, ↓x_see, ↓x_seeR, ↓x_rev, ↓x_idx, ↓x_repL, ↓x_sortK, ↓x_lenSet, ↓x_dct0, q_addI, q_addT, q_addL, q_subI, q_ltI, q_leI, q_gtI, q_geI, q_isN, q_isNotN, q_isB, q_isNotB, q_eqI, q_neI, q_eqB, q_eqT0, q_eqT1, q_neT0, q_neT1, q_eqL0, q_eqL1, q_neL0, q_neL1, q_int, q_abs, q_min2, q_max2, q_at0, q_at1, q_at2, q_at3, q_ix0, q_ix1, q_ix2, q_sz, q_iteS, q_iteT, q_iteR, q_iteV, q_iteBB, q_iteII, q_iteAnd, q_iteOr, q_iteNot, q_iteCon, q_pa0, q_pa1, q_pa2, q_pa3, q_pa4, q_ow4, q_ma0, q_ma1, q_ma2, q_ma3, q_ma4, q_ow0, q_ow1, q_ow2, q_ow3, q_c0, q_c1, q_c2, q_c3, q_c4, q_c5, q_c6, q_c7, q_c8, q_c9, q_c10, q_c11, q_c12, q_all0, q_all1, q_all2, q_all3, q_inN2, q_inN0, q_02a, q_02b, q_repr, q_ol1, q_ol2, q_ol3, q_ll1, q_ll2, q_ll3, q_scB, q_strI, q_strB, q_addBI, q_subBI, q_subIB, q_mulIB, List.getElem?_cons_zero, List.getElem?_cons_succ, List.set_cons_zero, List.set_cons_succ, wipeE, initE, outsOf, toAv, toAvB, scal, slotsOf, putOuts, natNodup, List.map_cons, List.map_nil, List.cons_append, List.nil_append, List.append_nil, List.replicate, List.length_cons, List.length_nil, isNone, isiD, seqD, truD, zipOf, zipD, pick, List.contains_nil, List.contains_cons, eq_self, List.cons_ne_nil, if_true, if_false, Bool.false_eq_true, Bool.true_eq_false, Bool.not_true, Bool.not_false, reduceIte, decide_true, decide_false, Nat.reduceAdd, Nat.reduceSub, Nat.zero_add, Nat.add_zero, and_self, true_and, and_true, Bool.and_true, Bool.true_and, Bool.or_false, Bool.false_or, Bool.or_true, Bool.true_or, Bool.and_false, Bool.false_and, Bool.or_self, Bool.and_self, Nat.sub_self, Option.map_some, Option.map_none, Nat.reduceBEq, Bool.not_eq_true, beq_self_eq_true, Nat.reduceLeDiff, Nat.reduceLT, Nat.reduceEqDiff, List.filterMap_cons, List.filterMap_nil, $as,*])
open PySem PySem.Spec PyProof.Rows L2
section
variable {f g h w : Fn}
/-! ## holding, as a test -/
/-! ## what is asked of the arguments -/
end
end Ev
namespace Ev
local macro_rules
  | `(tactic| simp! only [$as,*]) => `(tactic| simp only [↓x_var, ↓x_C, ↓x_op, ↓x_fz, ↓x_rV, ↓x_B, ↓x_chain, ↓x_tru, ↓x_notT, ↓x_andT, ↓x_orT, ↓x_and, ↓x_or, ↓x_not, ↓x_neg, ↓x_if, ↓x_aNil, ↓x_aVal, ↓x_aSlot, ↓x_aTmp, ↓x_aR, ↓x_call, ↓x_callK, ↓x_dNil, ↓x_dCons, ↓x_tup, ↓x_lst, ↓x_itemN, ↓x_ownItem, ↓x_lenN, ↓x_blt, ↓x_isi, ↓x_list, ↓x_rgL1, ↓x_rgL2, ↓x_iSeq, ↓x_iZip, ↓x_range1, ↓x_range2, ↓x_addR, ↓x_slice, ↓x_partN, ↓x_partS, ↓x_comp, ↓x_skip, ↓x_stuck, ↓x_break, ↓x_cont, ↓x_seq, ↓x_sIf, ↓x_sExpr, ↓x_ret, ↓x_retN, ↓x_move, ↓x_setRv, ↓x_setRf, ↓x_setRm, ↓x_set, ↓x_gN, ↓x_gsNil, ↓x_gsCons, ↓x_gTup, ↓x_gIx, ↓x_setAt, ↓x_asg, ↓x_par, ↓x_sm0, ↓x_smV, ↓x_smF, ↓x_app, ↓x_for, ↓x_for0, ↓x_for1, ↓x_comp0, ↓x_comp1, ↓x_fn, ↓x_iEnum, ↓x_range3, ↓x_comp2, ↓x_compN0, ↓x_compN1, ↓x_item2, ↓x_item2M, ↓x_gIx2, ↓x_compM, ↓x_callB, ↓x_pop, ↓x_dStar, ↓x_seeAt, ↓x_see, ↓x_seeR, ↓x_rev, ↓x_idx, ↓x_repL, ↓x_sortK, ↓x_lenSet, ↓x_dct0, q_addI, q_addT, q_addL, q_subI, q_ltI, q_leI, q_gtI, q_geI, q_isN, q_isNotN, q_isB, q_isNotB, q_eqI, q_neI, q_eqB, q_eqT0, q_eqT1, q_neT0, q_neT1, q_eqL0, q_eqL1, q_neL0, q_neL1, q_int, q_abs, q_min2, q_max2, q_at0, q_at1, q_at2, q_at3, q_ix0, q_ix1, q_ix2, q_sz, q_iteS, q_iteT, q_iteR, q_iteV, q_iteBB, q_iteII, q_iteAnd, q_iteOr, q_iteNot, q_iteCon, q_pa0, q_pa1, q_pa2, q_pa3, q_pa4, q_ow4, q_ma0, q_ma1, q_ma2, q_ma3, q_ma4, q_ow0, q_ow1, q_ow2, q_ow3, q_c0, q_c1, q_c2, q_c3, q_c4, q_c5, q_c6, q_c7, q_c8, q_c9, q_c10, q_c11, q_c12, q_all0, q_all1, q_all2, q_all3, q_inN2, q_inN0, q_02a, q_02b, q_repr, q_ol1, q_ol2, q_ol3, q_ll1, q_ll2, q_ll3, q_scB, q_strI, q_strB, q_addBI, q_subBI, q_subIB, q_mulIB, List.getElem?_cons_zero, List.getElem?_cons_succ, List.set_cons_zero, List.set_cons_succ, wipeE, initE, outsOf, toAv, toAvB, scal, slotsOf, putOuts, natNodup, List.map_cons, List.map_nil, List.cons_append, List.nil_append, List.append_nil, List.replicate, List.length_cons, List.length_nil, isNone, isiD, seqD, gItem, truD, zipOf, zipD, pick, List.contains_nil, List.contains_cons, eq_self, List.cons_ne_nil, if_true, if_false, Bool.false_eq_true, Bool.true_eq_false, Bool.not_true, Bool.not_false, reduceIte, decide_true, decide_false, Nat.reduceAdd, Nat.reduceSub, Nat.zero_add, Nat.add_zero, and_self, true_and, and_true, Bool.and_true, Bool.true_and, Bool.or_false, Bool.false_or, Bool.or_true, Bool.true_or, Bool.and_false, Bool.false_and, Bool.or_self, Bool.and_self, Nat.sub_self, Option.map_some, Option.map_none, Nat.reduceBEq, Bool.not_eq_true, beq_self_eq_true, Nat.reduceLeDiff, Nat.reduceLT, Nat.reduceEqDiff, List.filterMap_cons, List.filterMap_nil, $as,*])
open PySem PySem.Spec PyProof.Rows L2
section
variable {f g h w : Fn}
/-! ## what repr can show -/
theorem shBs_all : ∀ {ds : List D}, (∀ d ∈ ds, shB d = true) → shBs ds = true
  | [], _ => rfl
  | d :: ds, h => by
    show (shB d && shBs ds) = true
    rw [h d (List.mem_cons_self ..), shBs_all fun x hx => h x (List.mem_cons_of_mem _ hx)]
    rfl
theorem ndss_le {k : Nat} : ∀ {ds : List D}, (∀ d ∈ ds, nds d ≤ k) → ndss ds ≤ ds.length * k
  | [], _ => by simp [ndss]
  | d :: ds, h => by
    have h1 := h d (List.mem_cons_self ..)
    have h2 := ndss_le fun x hx => h x (List.mem_cons_of_mem d hx)
    rw [List.length_cons, Nat.succ_mul]
    simp only [ndss]
    omega
theorem depths_le {k : Nat} : ∀ {ds : List D}, (∀ d ∈ ds, d.depth ≤ k) → PyData.depthAll ds ≤ k
  | [], _ => by simp [PyData.depthAll]
  | d :: ds, h => by
    have h1 := h d (List.mem_cons_self ..)
    have h2 := depths_le fun x hx => h x (List.mem_cons_of_mem d hx)
    simp only [PyData.depthAll]
    omega
/-- what is shown whole: how much, how deep -/
structure Shw (d : D) (n k : Nat) : Prop where
  s : shB d = true
  n : nds d ≤ n
  k : d.depth ≤ k
theorem Shw.rb {d : D} {n k : Nat} (h : Shw d n k) (hn : n ≤ 8000) (hk : k ≤ 40) : reprB d = true := by
  have := h.n
  have := h.k
  simp only [reprB, h.s, Bool.true_and, Bool.and_eq_true, decide_eq_true_eq]
  omega
theorem Shw.tup {ds : List D} {n k c : Nat} (h : ∀ d ∈ ds, Shw d n k) (hc : ds.length ≤ c) : Shw (.tuple ds) (1 + c * n) (1 + k) := by
  refine ⟨shBs_all fun d hd => (h d hd).s, ?_, ?_⟩
  · have := ndss_le fun d hd => (h d hd).n
    have := Nat.mul_le_mul_right n hc
    simp only [nds]
    omega
  · have := depths_le fun d hd => (h d hd).k
    simp only [PyData.depth]
    omega
theorem Shw.int {i : Int} (h : -(2 ^ 200) ≤ i ∧ i ≤ 2 ^ 200) : Shw (.int i) 1 1 := by
  refine ⟨?_, by simp [nds], by simp [PyData.depth]⟩
  show decide (i.natAbs.log2 < 1920) = true
  have : i.natAbs < 2 ^ 201 := by omega
  exact decide_eq_true (Nat.lt_of_le_of_lt (log2_small this) (by decide))
theorem Shw.non : Shw .none 1 1 := ⟨rfl, by simp [nds], by simp [PyData.depth]⟩
theorem Shw.bool {b : Bool} : Shw (.bool b) 1 1 := ⟨rfl, by simp [nds], by simp [PyData.depth]⟩
theorem Shw.mono {d : D} {n k n' k' : Nat} (h : Shw d n k) (hn : n ≤ n') (hk : k ≤ k') : Shw d n' k' := ⟨h.s, Nat.le_trans h.n hn, Nat.le_trans h.k hk⟩
theorem Shw.ee {B : Int} {x : EE} (h : szB B x) (hB : B ≤ 2 ^ 200) : Shw (eE x) 1 1 := by
  cases x with
  | none => exact .non
  | some i => exact .int (by have := h i rfl; omega)
/-! ## the law's own stretch of the numbers between, and the numbers about its ends -/
end
end Ev
namespace Ev
local macro_rules
  | `(tactic| simp! only [$as,*]) => `(tactic| simp only [↓x_var, ↓x_C, ↓x_op, ↓x_fz, ↓x_rV, ↓x_B, ↓x_chain, ↓x_tru, ↓x_notT, ↓x_andT, ↓x_orT, ↓x_and, ↓x_or, ↓x_not, ↓x_neg, ↓x_if, ↓x_aNil, ↓x_aVal, ↓x_aSlot, ↓x_aTmp, ↓x_aR, ↓x_call, ↓x_callK, ↓x_dNil, ↓x_dCons, ↓x_tup, ↓x_lst, ↓x_itemN, ↓x_ownItem, ↓x_lenN, ↓x_blt, ↓x_isi, ↓x_list, ↓x_rgL1, ↓x_rgL2, ↓x_iSeq, ↓x_iZip, ↓x_range1, ↓x_range2, ↓x_addR, ↓x_slice, ↓x_partN, ↓x_partS, ↓x_comp, ↓x_skip, ↓x_stuck, ↓x_break, ↓x_cont, ↓x_seq, ↓x_sIf, ↓x_sExpr, ↓x_ret, ↓x_retN, ↓x_move, ↓x_setRv, ↓x_setRf, ↓x_setRm, ↓x_set, ↓x_gN, ↓x_gsNil, ↓x_gsCons, ↓x_gTup, ↓x_gIx, ↓x_setAt, ↓x_asg, ↓x_par, ↓x_sm0, ↓x_smV, ↓x_smF, ↓x_app, ↓x_for, ↓x_for0, ↓x_for1, ↓x_comp0, ↓x_comp1, ↓x_fn, ↓x_iEnum, ↓x_range3, ↓x_comp2, ↓x_compN0, ↓x_compN1, ↓x_item2, ↓x_item2M, ↓x_gIx2, ↓x_compM, ↓x_callB, ↓x_pop, ↓x_dStar, ↓x_seeAt, ↓x_see, ↓x_seeR, ↓x_rev, ↓x_idx, ↓x_repL, ↓x_sortK, ↓x_lenSet, ↓x_dct0, q_addI, q_addT, q_addL, q_subI, q_ltI, q_leI, q_gtI, q_geI, q_isN, q_isNotN, q_isB, q_isNotB, q_eqI, q_neI, q_eqB, q_eqT0, q_eqT1, q_neT0, q_neT1, q_eqL0, q_eqL1, q_neL0, q_neL1, q_int, q_abs, q_min2, q_max2, q_at0, q_at1, q_at2, q_at3, q_ix0, q_ix1, q_ix2, q_sz, q_iteS, q_iteT, q_iteR, q_iteV, q_iteBB, q_iteII, q_iteAnd, q_iteOr, q_iteNot, q_iteCon, q_pa0, q_pa1, q_pa2, q_pa3, q_pa4, q_ow4, q_ma0, q_ma1, q_ma2, q_ma3, q_ma4, q_ow0, q_ow1, q_ow2, q_ow3, q_c0, q_c1, q_c2, q_c3, q_c4, q_c5, q_c6, q_c7, q_c8, q_c9, q_c10, q_c11, q_c12, q_all0, q_all1, q_all2, q_all3, q_inN2, q_inN0, q_02a, q_02b, q_repr, q_ol1, q_ol2, q_ol3, q_ll1, q_ll2, q_ll3, q_scB, q_strI, q_strB, q_addBI, q_subBI, q_subIB, q_mulIB, List.getElem?_cons_zero, List.getElem?_cons_succ, List.set_cons_zero, List.set_cons_succ, wipeE, initE, outsOf, toAv, toAvB, scal, slotsOf, putOuts, natNodup, List.map_cons, List.map_nil, List.cons_append, List.nil_append, List.append_nil, List.replicate, List.length_cons, List.length_nil, isNone, isiD, seqD, gItem, truD, zipOf, zipD, pick, List.contains_nil, List.contains_cons, eq_self, List.cons_ne_nil, if_true, if_false, Bool.false_eq_true, Bool.true_eq_false, Bool.not_true, Bool.not_false, reduceIte, decide_true, decide_false, Nat.reduceAdd, Nat.reduceSub, Nat.zero_add, Nat.add_zero, and_self, true_and, and_true, Bool.and_true, Bool.true_and, Bool.or_false, Bool.false_or, Bool.or_true, Bool.true_or, Bool.and_false, Bool.false_and, Bool.or_self, Bool.and_self, Nat.sub_self, Option.map_some, Option.map_none, Nat.reduceBEq, Bool.not_eq_true, beq_self_eq_true, Nat.reduceLeDiff, Nat.reduceLT, Nat.reduceEqDiff, List.filterMap_cons, List.filterMap_nil, $as,*])
open PySem PySem.Spec PyProof.Rows L2
section
variable {f g h w p q : Fn}
end
end Ev
namespace Ev
open PySem PySem.Spec PyProof.Rows L2
/-! ## k27: laws of modulo -/
/-! ### by one divisor -/
end Ev
namespace Ev
local macro_rules
  | `(tactic| simp! only [$as,*]) => `(tactic| simp only [↓x_var, ↓x_C, ↓x_op, ↓x_fz, ↓x_rV, ↓x_B, ↓x_chain, ↓x_tru, ↓x_notT, ↓x_andT, ↓x_orT, ↓x_and, ↓x_or, ↓x_not, ↓x_neg, ↓x_if, ↓x_aNil, ↓x_aVal, ↓x_aSlot, ↓x_aTmp, ↓x_aR, ↓x_call, ↓x_callK, ↓x_dNil, ↓x_dCons, ↓x_tup, ↓x_lst, ↓x_itemN, ↓x_ownItem, ↓x_lenN, ↓x_blt, ↓x_isi, ↓x_list, ↓x_rgL1, ↓x_rgL2, ↓x_iSeq, ↓x_iZip, ↓x_range1, ↓x_range2, ↓x_addR, ↓x_slice, ↓x_partN, ↓x_partS, ↓x_comp, ↓x_skip, ↓x_stuck, ↓x_break, ↓x_cont, ↓x_seq, ↓x_sIf, ↓x_sExpr, ↓x_ret, ↓x_retN, ↓x_move, ↓x_setRv, ↓x_setRf, ↓x_setRm, ↓x_set, ↓x_gN, ↓x_gsNil, ↓x_gsCons, ↓x_gTup, ↓x_gIx, ↓x_setAt, ↓x_asg, ↓x_par, ↓x_sm0, ↓x_smV, ↓x_smF, ↓x_app, ↓x_for, ↓x_for0, ↓x_for1, ↓x_comp0, ↓x_comp1, ↓x_fn, ↓x_iEnum, ↓x_range3, ↓x_comp2, ↓x_compN0, ↓x_compN1, ↓x_item2, ↓x_item2M, ↓x_gIx2, ↓x_compM, ↓x_callB, ↓x_pop, ↓x_dStar, ↓x_seeAt, ↓x_see, ↓x_seeR, ↓x_rev, ↓x_idx, ↓x_repL, ↓x_sortK, ↓x_lenSet, ↓x_dct0, q_addI, q_addT, q_addL, q_subI, q_ltI, q_leI, q_gtI, q_geI, q_isN, q_isNotN, q_isB, q_isNotB, q_eqI, q_neI, q_eqB, q_eqT0, q_eqT1, q_neT0, q_neT1, q_eqL0, q_eqL1, q_neL0, q_neL1, q_int, q_abs, q_min2, q_max2, q_at0, q_at1, q_at2, q_at3, q_ix0, q_ix1, q_ix2, q_sz, q_iteS, q_iteT, q_iteR, q_iteV, q_iteBB, q_iteII, q_iteAnd, q_iteOr, q_iteNot, q_iteCon, q_pa0, q_pa1, q_pa2, q_pa3, q_pa4, q_ow4, q_ma0, q_ma1, q_ma2, q_ma3, q_ma4, q_ow0, q_ow1, q_ow2, q_ow3, q_c0, q_c1, q_c2, q_c3, q_c4, q_c5, q_c6, q_c7, q_c8, q_c9, q_c10, q_c11, q_c12, q_all0, q_all1, q_all2, q_all3, q_inN2, q_inN0, q_02a, q_02b, q_repr, q_ol1, q_ol2, q_ol3, q_ll1, q_ll2, q_ll3, q_scB, q_strI, q_strB, q_addBI, q_subBI, q_subIB, q_mulIB, List.getElem?_cons_zero, List.getElem?_cons_succ, List.set_cons_zero, List.set_cons_succ, wipeE, initE, outsOf, toAv, toAvB, scal, slotsOf, putOuts, natNodup, List.map_cons, List.map_nil, List.cons_append, List.nil_append, List.append_nil, List.replicate, List.length_cons, List.length_nil, isNone, isiD, seqD, gItem, truD, zipOf, zipD, pick, List.contains_nil, List.contains_cons, eq_self, List.cons_ne_nil, if_true, if_false, Bool.false_eq_true, Bool.true_eq_false, Bool.not_true, Bool.not_false, reduceIte, decide_true, decide_false, Nat.reduceAdd, Nat.reduceSub, Nat.zero_add, Nat.add_zero, and_self, true_and, and_true, Bool.and_true, Bool.true_and, Bool.or_false, Bool.false_or, Bool.or_true, Bool.true_or, Bool.and_false, Bool.false_and, Bool.or_self, Bool.and_self, Nat.sub_self, Option.map_some, Option.map_none, Nat.reduceBEq, Bool.not_eq_true, beq_self_eq_true, Nat.reduceLeDiff, Nat.reduceLT, Nat.reduceEqDiff, List.filterMap_cons, List.filterMap_nil, $as,*])
open PySem PySem.Spec PyProof.Rows L2
/-! ## k27: the checks -/
theorem q_fm {x y : Int} (h : y ≠ 0) : gMod (.int x) (.int y) = some (.int (x.fmod y)) := by
  show (if decide (y ≠ 0) = true then _ else _) = _
  rw [if_pos (decide_eq_true h)]
theorem q_neS (a b : SS) : gNe (eS a) (eS b) = some (.bool (!decide (a = b))) := by
  have h : eqOk (eS a) (eS b) = true := eqOk_iff.mpr ⟨by have := depth_eS a; omega, .inl (plain_eS a)⟩
  unfold gNe
  rw [if_pos h, eqv_eS]
section
variable {f g h w : Fn}
/-! ### the law's own -/
end
end Ev
namespace Ev
local macro_rules
  | `(tactic| simp! only [$as,*]) => `(tactic| simp only [↓x_var, ↓x_C, ↓x_op, ↓x_fz, ↓x_rV, ↓x_B, ↓x_chain, ↓x_tru, ↓x_notT, ↓x_andT, ↓x_orT, ↓x_and, ↓x_or, ↓x_not, ↓x_neg, ↓x_if, ↓x_aNil, ↓x_aVal, ↓x_aSlot, ↓x_aTmp, ↓x_aR, ↓x_call, ↓x_callK, ↓x_dNil, ↓x_dCons, ↓x_tup, ↓x_lst, ↓x_itemN, ↓x_ownItem, ↓x_lenN, ↓x_blt, ↓x_isi, ↓x_list, ↓x_rgL1, ↓x_rgL2, ↓x_iSeq, ↓x_iZip, ↓x_range1, ↓x_range2, ↓x_addR, ↓x_slice, ↓x_partN, ↓x_partS, ↓x_comp, ↓x_skip, ↓x_stuck, ↓x_break, ↓x_cont, ↓x_seq, ↓x_sIf, ↓x_sExpr, ↓x_ret, ↓x_retN, ↓x_move, ↓x_setRv, ↓x_setRf, ↓x_setRm, ↓x_set, ↓x_gN, ↓x_gsNil, ↓x_gsCons, ↓x_gTup, ↓x_gIx, ↓x_setAt, ↓x_asg, ↓x_par, ↓x_sm0, ↓x_smV, ↓x_smF, ↓x_app, ↓x_for, ↓x_for0, ↓x_for1, ↓x_comp0, ↓x_comp1, ↓x_fn, ↓x_iEnum, ↓x_range3, ↓x_comp2, ↓x_compN0, ↓x_compN1, ↓x_item2, ↓x_item2M, ↓x_gIx2, ↓x_compM, ↓x_callB, ↓x_pop, ↓x_dStar, ↓x_seeAt, ↓x_see, ↓x_seeR, ↓x_rev, ↓x_idx, ↓x_repL, ↓x_sortK, ↓x_lenSet, ↓x_dct0, q_addI, q_addT, q_addL, q_subI, q_ltI, q_leI, q_gtI, q_geI, q_isN, q_isNotN, q_isB, q_isNotB, q_eqI, q_neI, q_eqB, q_eqT0, q_eqT1, q_neT0, q_neT1, q_eqL0, q_eqL1, q_neL0, q_neL1, q_int, q_abs, q_min2, q_max2, q_at0, q_at1, q_at2, q_at3, q_ix0, q_ix1, q_ix2, q_sz, q_iteS, q_iteT, q_iteR, q_iteV, q_iteBB, q_iteII, q_iteAnd, q_iteOr, q_iteNot, q_iteCon, q_pa0, q_pa1, q_pa2, q_pa3, q_pa4, q_ow4, q_ma0, q_ma1, q_ma2, q_ma3, q_ma4, q_ow0, q_ow1, q_ow2, q_ow3, q_c0, q_c1, q_c2, q_c3, q_c4, q_c5, q_c6, q_c7, q_c8, q_c9, q_c10, q_c11, q_c12, q_all0, q_all1, q_all2, q_all3, q_inN2, q_inN0, q_02a, q_02b, q_repr, q_ol1, q_ol2, q_ol3, q_ll1, q_ll2, q_ll3, q_scB, q_strI, q_strB, q_addBI, q_subBI, q_subIB, q_mulIB, List.getElem?_cons_zero, List.getElem?_cons_succ, List.set_cons_zero, List.set_cons_succ, wipeE, initE, outsOf, toAv, toAvB, scal, slotsOf, putOuts, natNodup, List.map_cons, List.map_nil, List.cons_append, List.nil_append, List.append_nil, List.replicate, List.length_cons, List.length_nil, isNone, isiD, seqD, gItem, truD, zipOf, zipD, pick, List.contains_nil, List.contains_cons, eq_self, List.cons_ne_nil, if_true, if_false, Bool.false_eq_true, Bool.true_eq_false, Bool.not_true, Bool.not_false, reduceIte, decide_true, decide_false, Nat.reduceAdd, Nat.reduceSub, Nat.zero_add, Nat.add_zero, and_self, true_and, and_true, Bool.and_true, Bool.true_and, Bool.or_false, Bool.false_or, Bool.or_true, Bool.true_or, Bool.and_false, Bool.false_and, Bool.or_self, Bool.and_self, Nat.sub_self, Option.map_some, Option.map_none, Nat.reduceBEq, Bool.not_eq_true, beq_self_eq_true, Nat.reduceLeDiff, Nat.reduceLT, Nat.reduceEqDiff, List.filterMap_cons, List.filterMap_nil, $as,*])
open PySem PySem.Spec PyProof.Rows L2
theorem szS.up {a : SS} {z : Int} (h : szS z a) (hz : z ≤ 2 ^ 200) : szS (2 ^ 200) a := h.mono hz
/-! ### for the glue -/
theorem gp_nm {g : Fn} (h : Gp g) : Nm 5 (2 ^ 110) g := fun b ds s => by
  obtain ⟨v, d, e, h1, h2, h3⟩ := h b ds s
  exact ⟨v, d, e, by omega, h2, h3⟩
end Ev
namespace Ev
local macro_rules
  | `(tactic| simp! only [$as,*]) => `(tactic| simp only [↓x_var, ↓x_C, ↓x_op, ↓x_fz, ↓x_rV, ↓x_B, ↓x_chain, ↓x_tru, ↓x_notT, ↓x_andT, ↓x_orT, ↓x_and, ↓x_or, ↓x_not, ↓x_neg, ↓x_if, ↓x_aNil, ↓x_aVal, ↓x_aSlot, ↓x_aTmp, ↓x_aR, ↓x_call, ↓x_callK, ↓x_dNil, ↓x_dCons, ↓x_tup, ↓x_lst, ↓x_itemN, ↓x_ownItem, ↓x_lenN, ↓x_blt, ↓x_isi, ↓x_list, ↓x_rgL1, ↓x_rgL2, ↓x_iSeq, ↓x_iZip, ↓x_range1, ↓x_range2, ↓x_addR, ↓x_slice, ↓x_partN, ↓x_partS, ↓x_comp, ↓x_skip, ↓x_stuck, ↓x_break, ↓x_cont, ↓x_seq, ↓x_sIf, ↓x_sExpr, ↓x_ret, ↓x_retN, ↓x_move, ↓x_setRv, ↓x_setRf, ↓x_setRm, ↓x_set, ↓x_gN, ↓x_gsNil, ↓x_gsCons, ↓x_gTup, ↓x_gIx, ↓x_setAt, ↓x_asg, ↓x_par, ↓x_sm0, ↓x_smV, ↓x_smF, ↓x_app, ↓x_for, ↓x_for0, ↓x_for1, ↓x_comp0, ↓x_comp1, ↓x_fn, ↓x_iEnum, ↓x_range3, ↓x_comp2, ↓x_compN0, ↓x_compN1, ↓x_item2, ↓x_item2M, ↓x_gIx2, ↓x_compM, ↓x_callB, ↓x_pop, ↓x_dStar, ↓x_seeAt, ↓x_see, ↓x_seeR, ↓x_rev, ↓x_idx, ↓x_repL, ↓x_sortK, ↓x_lenSet, ↓x_dct0, q_addI, q_addT, q_addL, q_subI, q_ltI, q_leI, q_gtI, q_geI, q_isN, q_isNotN, q_isB, q_isNotB, q_eqI, q_neI, q_eqB, q_eqT0, q_eqT1, q_neT0, q_neT1, q_eqL0, q_eqL1, q_neL0, q_neL1, q_int, q_abs, q_min2, q_max2, q_at0, q_at1, q_at2, q_at3, q_ix0, q_ix1, q_ix2, q_sz, q_iteS, q_iteT, q_iteR, q_iteV, q_iteBB, q_iteII, q_iteAnd, q_iteOr, q_iteNot, q_iteCon, q_pa0, q_pa1, q_pa2, q_pa3, q_pa4, q_ow4, q_ma0, q_ma1, q_ma2, q_ma3, q_ma4, q_ow0, q_ow1, q_ow2, q_ow3, q_c0, q_c1, q_c2, q_c3, q_c4, q_c5, q_c6, q_c7, q_c8, q_c9, q_c10, q_c11, q_c12, q_all0, q_all1, q_all2, q_all3, q_inN2, q_inN0, q_02a, q_02b, q_repr, q_ol1, q_ol2, q_ol3, q_ll1, q_ll2, q_ll3, q_scB, q_strI, q_strB, q_addBI, q_subBI, q_subIB, q_mulIB, List.getElem?_cons_zero, List.getElem?_cons_succ, List.set_cons_zero, List.set_cons_succ, wipeE, initE, outsOf, toAv, toAvB, scal, slotsOf, putOuts, natNodup, List.map_cons, List.map_nil, List.cons_append, List.nil_append, List.append_nil, List.replicate, List.length_cons, List.length_nil, isNone, isiD, seqD, gItem, truD, zipOf, zipD, pick, List.contains_nil, List.contains_cons, eq_self, List.cons_ne_nil, if_true, if_false, Bool.false_eq_true, Bool.true_eq_false, Bool.not_true, Bool.not_false, reduceIte, decide_true, decide_false, Nat.reduceAdd, Nat.reduceSub, Nat.zero_add, Nat.add_zero, and_self, true_and, and_true, Bool.and_true, Bool.true_and, Bool.or_false, Bool.false_or, Bool.or_true, Bool.true_or, Bool.and_false, Bool.false_and, Bool.or_self, Bool.and_self, Nat.sub_self, Option.map_some, Option.map_none, Nat.reduceBEq, Bool.not_eq_true, beq_self_eq_true, Nat.reduceLeDiff, Nat.reduceLT, Nat.reduceEqDiff, List.filterMap_cons, List.filterMap_nil, $as,*])
open PySem PySem.Spec PyProof.Rows L2
section
variable {f g h w : Fn}
/-! ## a comprehension of tests that draw -/
/-! ## values apart, asked from outside -/
/-! ## what is told of two indexes -/
/-! ## the whole law -/
end
end Ev
namespace Ev
local macro_rules
  | `(tactic| simp! only [$as,*]) => `(tactic| simp only [↓x_var, ↓x_C, ↓x_op, ↓x_fz, ↓x_rV, ↓x_B, ↓x_chain, ↓x_tru, ↓x_notT, ↓x_andT, ↓x_orT, ↓x_and, ↓x_or, ↓x_not, ↓x_neg, ↓x_if, ↓x_aNil, ↓x_aVal, ↓x_aSlot, ↓x_aTmp, ↓x_aR, ↓x_call, ↓x_callK, ↓x_dNil, ↓x_dCons, ↓x_tup, ↓x_lst, ↓x_itemN, ↓x_ownItem, ↓x_lenN, ↓x_blt, ↓x_isi, ↓x_list, ↓x_rgL1, ↓x_rgL2, ↓x_iSeq, ↓x_iZip, ↓x_range1, ↓x_range2, ↓x_addR, ↓x_slice, ↓x_partN, ↓x_partS, ↓x_comp, ↓x_skip, ↓x_stuck, ↓x_break, ↓x_cont, ↓x_seq, ↓x_sIf, ↓x_sExpr, ↓x_ret, ↓x_retN, ↓x_move, ↓x_setRv, ↓x_setRf, ↓x_setRm, ↓x_set, ↓x_gN, ↓x_gsNil, ↓x_gsCons, ↓x_gTup, ↓x_gIx, ↓x_setAt, ↓x_asg, ↓x_par, ↓x_sm0, ↓x_smV, ↓x_smF, ↓x_app, ↓x_for, ↓x_for0, ↓x_for1, ↓x_comp0, ↓x_comp1, ↓x_fn, ↓x_iEnum, ↓x_range3, ↓x_comp2, ↓x_compN0, ↓x_compN1, ↓x_item2, ↓x_item2M, ↓x_gIx2, ↓x_compM, ↓x_callB, ↓x_pop, ↓x_dStar, ↓x_seeAt, ↓x_see, ↓x_seeR, ↓x_rev, ↓x_idx, ↓x_repL, ↓x_sortK, ↓x_lenSet, ↓x_dct0, q_addI, q_addT, q_addL, q_subI, q_ltI, q_leI, q_gtI, q_geI, q_isN, q_isNotN, q_isB, q_isNotB, q_eqI, q_neI, q_eqB, q_eqT0, q_eqT1, q_neT0, q_neT1, q_eqL0, q_eqL1, q_neL0, q_neL1, q_int, q_abs, q_min2, q_max2, q_at0, q_at1, q_at2, q_at3, q_ix0, q_ix1, q_ix2, q_sz, q_iteS, q_iteT, q_iteR, q_iteV, q_iteBB, q_iteII, q_iteAnd, q_iteOr, q_iteNot, q_iteCon, q_pa0, q_pa1, q_pa2, q_pa3, q_pa4, q_ow4, q_ma0, q_ma1, q_ma2, q_ma3, q_ma4, q_ow0, q_ow1, q_ow2, q_ow3, q_c0, q_c1, q_c2, q_c3, q_c4, q_c5, q_c6, q_c7, q_c8, q_c9, q_c10, q_c11, q_c12, q_all0, q_all1, q_all2, q_all3, q_inN2, q_inN0, q_02a, q_02b, q_repr, q_ol1, q_ol2, q_ol3, q_ll1, q_ll2, q_ll3, q_scB, q_strI, q_strB, q_addBI, q_subBI, q_subIB, q_mulIB, List.getElem?_cons_zero, List.getElem?_cons_succ, List.set_cons_zero, List.set_cons_succ, wipeE, initE, outsOf, toAv, toAvB, scal, slotsOf, putOuts, natNodup, List.map_cons, List.map_nil, List.cons_append, List.nil_append, List.append_nil, List.replicate, List.length_cons, List.length_nil, isNone, isiD, seqD, gItem, truD, zipOf, zipD, pick, List.contains_nil, List.contains_cons, eq_self, List.cons_ne_nil, if_true, if_false, Bool.false_eq_true, Bool.true_eq_false, Bool.not_true, Bool.not_false, reduceIte, decide_true, decide_false, Nat.reduceAdd, Nat.reduceSub, Nat.zero_add, Nat.add_zero, and_self, true_and, and_true, Bool.and_true, Bool.true_and, Bool.or_false, Bool.false_or, Bool.or_true, Bool.true_or, Bool.and_false, Bool.false_and, Bool.or_self, Bool.and_self, Nat.sub_self, Option.map_some, Option.map_none, Nat.reduceBEq, Bool.not_eq_true, beq_self_eq_true, Nat.reduceLeDiff, Nat.reduceLT, Nat.reduceEqDiff, List.filterMap_cons, List.filterMap_nil, $as,*])
open PySem PySem.Spec PyProof.Rows L2
section
variable {f g h w : Fn}
/-! ## a comprehension over a grid -/
/-! ## do differences hold values -/
/-! ## what is asked from outside -/
/-! ## the law's own draws about differences -/
/-! ## one put in the place of another -/
end
end Ev
namespace Ev
local macro_rules
  | `(tactic| simp! only [$as,*]) => `(tactic| simp only [↓x_var, ↓x_C, ↓x_op, ↓x_fz, ↓x_rV, ↓x_B, ↓x_chain, ↓x_tru, ↓x_notT, ↓x_andT, ↓x_orT, ↓x_and, ↓x_or, ↓x_not, ↓x_neg, ↓x_if, ↓x_aNil, ↓x_aVal, ↓x_aSlot, ↓x_aTmp, ↓x_aR, ↓x_call, ↓x_callK, ↓x_dNil, ↓x_dCons, ↓x_tup, ↓x_lst, ↓x_itemN, ↓x_ownItem, ↓x_lenN, ↓x_blt, ↓x_isi, ↓x_list, ↓x_rgL1, ↓x_rgL2, ↓x_iSeq, ↓x_iZip, ↓x_range1, ↓x_range2, ↓x_addR, ↓x_slice, ↓x_partN, ↓x_partS, ↓x_comp, ↓x_skip, ↓x_stuck, ↓x_break, ↓x_cont, ↓x_seq, ↓x_sIf, ↓x_sExpr, ↓x_ret, ↓x_retN, ↓x_move, ↓x_setRv, ↓x_setRf, ↓x_setRm, ↓x_set, ↓x_gN, ↓x_gsNil, ↓x_gsCons, ↓x_gTup, ↓x_gIx, ↓x_setAt, ↓x_asg, ↓x_par, ↓x_sm0, ↓x_smV, ↓x_smF, ↓x_app, ↓x_for, ↓x_for0, ↓x_for1, ↓x_comp0, ↓x_comp1, ↓x_fn, ↓x_iEnum, ↓x_range3, ↓x_comp2, ↓x_compN0, ↓x_compN1, ↓x_item2, ↓x_item2M, ↓x_gIx2, ↓x_compM, ↓x_callB, ↓x_pop, ↓x_dStar, ↓x_seeAt, ↓x_see, ↓x_seeR, ↓x_rev, ↓x_idx, ↓x_repL, ↓x_sortK, ↓x_lenSet, ↓x_dct0, q_addI, q_addT, q_addL, q_subI, q_ltI, q_leI, q_gtI, q_geI, q_isN, q_isNotN, q_isB, q_isNotB, q_eqI, q_neI, q_eqB, q_eqT0, q_eqT1, q_neT0, q_neT1, q_eqL0, q_eqL1, q_neL0, q_neL1, q_int, q_abs, q_min2, q_max2, q_at0, q_at1, q_at2, q_at3, q_ix0, q_ix1, q_ix2, q_sz, q_iteS, q_iteT, q_iteR, q_iteV, q_iteBB, q_iteII, q_iteAnd, q_iteOr, q_iteNot, q_iteCon, q_pa0, q_pa1, q_pa2, q_pa3, q_pa4, q_ow4, q_ma0, q_ma1, q_ma2, q_ma3, q_ma4, q_ow0, q_ow1, q_ow2, q_ow3, q_c0, q_c1, q_c2, q_c3, q_c4, q_c5, q_c6, q_c7, q_c8, q_c9, q_c10, q_c11, q_c12, q_all0, q_all1, q_all2, q_all3, q_inN2, q_inN0, q_02a, q_02b, q_repr, q_ol1, q_ol2, q_ol3, q_ll1, q_ll2, q_ll3, q_scB, q_strI, q_strB, q_addBI, q_subBI, q_subIB, q_mulIB, List.getElem?_cons_zero, List.getElem?_cons_succ, List.set_cons_zero, List.set_cons_succ, wipeE, initE, outsOf, toAv, toAvB, scal, slotsOf, putOuts, natNodup, List.map_cons, List.map_nil, List.cons_append, List.nil_append, List.append_nil, List.replicate, List.length_cons, List.length_nil, isNone, isiD, seqD, gItem, truD, zipOf, zipD, pick, List.contains_nil, List.contains_cons, eq_self, List.cons_ne_nil, if_true, if_false, Bool.false_eq_true, Bool.true_eq_false, Bool.not_true, Bool.not_false, reduceIte, decide_true, decide_false, Nat.reduceAdd, Nat.reduceSub, Nat.zero_add, Nat.add_zero, and_self, true_and, and_true, Bool.and_true, Bool.true_and, Bool.or_false, Bool.false_or, Bool.or_true, Bool.true_or, Bool.and_false, Bool.false_and, Bool.or_self, Bool.and_self, Nat.sub_self, Option.map_some, Option.map_none, Nat.reduceBEq, Bool.not_eq_true, beq_self_eq_true, Nat.reduceLeDiff, Nat.reduceLT, Nat.reduceEqDiff, List.filterMap_cons, List.filterMap_nil, $as,*])
open PySem PySem.Spec PyProof.Rows L2
section
variable {f g h w : Fn}
/-! ## values near values -/
/-! ## one bound put in -/
/-! ## where bounds are passed -/
end
end Ev
namespace Ev
local macro_rules
  | `(tactic| simp! only [$as,*]) => `(tactic| simp only [↓x_var, ↓x_C, ↓x_op, ↓x_fz, ↓x_rV, ↓x_B, ↓x_chain, ↓x_tru, ↓x_notT, ↓x_andT, ↓x_orT, ↓x_and, ↓x_or, ↓x_not, ↓x_neg, ↓x_if, ↓x_aNil, ↓x_aVal, ↓x_aSlot, ↓x_aTmp, ↓x_aR, ↓x_call, ↓x_callK, ↓x_dNil, ↓x_dCons, ↓x_tup, ↓x_lst, ↓x_itemN, ↓x_ownItem, ↓x_lenN, ↓x_blt, ↓x_isi, ↓x_list, ↓x_rgL1, ↓x_rgL2, ↓x_iSeq, ↓x_iZip, ↓x_range1, ↓x_range2, ↓x_addR, ↓x_slice, ↓x_partN, ↓x_partS, ↓x_comp, ↓x_skip, ↓x_stuck, ↓x_break, ↓x_cont, ↓x_seq, ↓x_sIf, ↓x_sExpr, ↓x_ret, ↓x_retN, ↓x_move, ↓x_setRv, ↓x_setRf, ↓x_setRm, ↓x_set, ↓x_gN, ↓x_gsNil, ↓x_gsCons, ↓x_gTup, ↓x_gIx, ↓x_setAt, ↓x_asg, ↓x_par, ↓x_sm0, ↓x_smV, ↓x_smF, ↓x_app, ↓x_for, ↓x_for0, ↓x_for1, ↓x_comp0, ↓x_comp1, ↓x_fn, ↓x_iEnum, ↓x_range3, ↓x_comp2, ↓x_compN0, ↓x_compN1, ↓x_item2, ↓x_item2M, ↓x_gIx2, ↓x_compM, ↓x_callB, ↓x_pop, ↓x_dStar, ↓x_seeAt, ↓x_see, ↓x_seeR, ↓x_rev, ↓x_idx, ↓x_repL, ↓x_sortK, ↓x_lenSet, ↓x_dct0, q_addI, q_addT, q_addL, q_subI, q_ltI, q_leI, q_gtI, q_geI, q_isN, q_isNotN, q_isB, q_isNotB, q_eqI, q_neI, q_eqB, q_eqT0, q_eqT1, q_neT0, q_neT1, q_eqL0, q_eqL1, q_neL0, q_neL1, q_int, q_abs, q_min2, q_max2, q_at0, q_at1, q_at2, q_at3, q_ix0, q_ix1, q_ix2, q_sz, q_iteS, q_iteT, q_iteR, q_iteV, q_iteBB, q_iteII, q_iteAnd, q_iteOr, q_iteNot, q_iteCon, q_pa0, q_pa1, q_pa2, q_pa3, q_pa4, q_ow4, q_ma0, q_ma1, q_ma2, q_ma3, q_ma4, q_ow0, q_ow1, q_ow2, q_ow3, q_c0, q_c1, q_c2, q_c3, q_c4, q_c5, q_c6, q_c7, q_c8, q_c9, q_c10, q_c11, q_c12, q_all0, q_all1, q_all2, q_all3, q_inN2, q_inN0, q_02a, q_02b, q_repr, q_ol1, q_ol2, q_ol3, q_ll1, q_ll2, q_ll3, q_scB, q_strI, q_strB, q_addBI, q_subBI, q_subIB, q_mulIB, List.getElem?_cons_zero, List.getElem?_cons_succ, List.set_cons_zero, List.set_cons_succ, wipeE, initE, outsOf, toAv, toAvB, scal, slotsOf, putOuts, natNodup, List.map_cons, List.map_nil, List.cons_append, List.nil_append, List.append_nil, List.replicate, List.length_cons, List.length_nil, isNone, isiD, seqD, gItem, truD, zipOf, zipD, pick, List.contains_nil, List.contains_cons, eq_self, List.cons_ne_nil, if_true, if_false, Bool.false_eq_true, Bool.true_eq_false, Bool.not_true, Bool.not_false, reduceIte, decide_true, decide_false, Nat.reduceAdd, Nat.reduceSub, Nat.zero_add, Nat.add_zero, and_self, true_and, and_true, Bool.and_true, Bool.true_and, Bool.or_false, Bool.false_or, Bool.or_true, Bool.true_or, Bool.and_false, Bool.false_and, Bool.or_self, Bool.and_self, Nat.sub_self, Option.map_some, Option.map_none, Nat.reduceBEq, Bool.not_eq_true, beq_self_eq_true, Nat.reduceLeDiff, Nat.reduceLT, Nat.reduceEqDiff, List.filterMap_cons, List.filterMap_nil, $as,*])
open PySem PySem.Spec PyProof.Rows L2
section
variable {f g h w : Fn}
/-! ## bounds raised -/
/-! ## differences beside differences -/
end
end Ev
namespace Ev
open PySem PySem.Spec PyProof.Rows L2
section
variable {f g h w : Fn}
/-! ## plain: joined, met, within -/
/-! ## what repr shows of differences -/
theorem Shw.list {ds : List D} {n k c : Nat} (h : ∀ d ∈ ds, Shw d n k) (hc : ds.length ≤ c) : Shw (.list ds) (1 + c * n) (1 + k) := by
  refine ⟨shBs_all fun d hd => (h d hd).s, ?_, ?_⟩
  · have := ndss_le fun d hd => (h d hd).n
    have := Nat.mul_le_mul_right n hc
    simp only [nds]
    omega
  · have := depths_le fun d hd => (h d hd).k
    simp only [PyData.depth]
    omega
end
end Ev
namespace Ev
local macro_rules
  | `(tactic| simp! only [$as,*]) => `(tactic| simp only [↓x_var, ↓x_C, ↓x_op, ↓x_fz, ↓x_rV, ↓x_B, ↓x_chain, ↓x_tru, ↓x_notT, ↓x_andT, ↓x_orT, ↓x_and, ↓x_or, ↓x_not, ↓x_neg, ↓x_if, ↓x_aNil, ↓x_aVal, ↓x_aSlot, ↓x_aTmp, ↓x_aR, ↓x_call, ↓x_callK, ↓x_dNil, ↓x_dCons, ↓x_tup, ↓x_lst, ↓x_itemN, ↓x_ownItem, ↓x_lenN, ↓x_blt, ↓x_isi, ↓x_list, ↓x_rgL1, ↓x_rgL2, ↓x_iSeq, ↓x_iZip, ↓x_range1, ↓x_range2, ↓x_addR, ↓x_slice, ↓x_partN, ↓x_partS, ↓x_comp, ↓x_skip, ↓x_stuck, ↓x_break, ↓x_cont, ↓x_seq, ↓x_sIf, ↓x_sExpr, ↓x_ret, ↓x_retN, ↓x_move, ↓x_setRv, ↓x_setRf, ↓x_setRm, ↓x_set, ↓x_gN, ↓x_gsNil, ↓x_gsCons, ↓x_gTup, ↓x_gIx, ↓x_setAt, ↓x_asg, ↓x_par, ↓x_sm0, ↓x_smV, ↓x_smF, ↓x_app, ↓x_for, ↓x_for0, ↓x_for1, ↓x_comp0, ↓x_comp1, ↓x_fn, ↓x_iEnum, ↓x_range3, ↓x_comp2, ↓x_compN0, ↓x_compN1, ↓x_item2, ↓x_item2M, ↓x_gIx2, ↓x_compM, ↓x_callB, ↓x_pop, ↓x_dStar, ↓x_seeAt, ↓x_see, ↓x_seeR, ↓x_rev, ↓x_idx, ↓x_repL, ↓x_sortK, ↓x_lenSet, ↓x_dct0, q_addI, q_addT, q_addL, q_subI, q_ltI, q_leI, q_gtI, q_geI, q_isN, q_isNotN, q_isB, q_isNotB, q_eqI, q_neI, q_eqB, q_eqT0, q_eqT1, q_neT0, q_neT1, q_eqL0, q_eqL1, q_neL0, q_neL1, q_int, q_abs, q_min2, q_max2, q_at0, q_at1, q_at2, q_at3, q_ix0, q_ix1, q_ix2, q_sz, q_iteS, q_iteT, q_iteR, q_iteV, q_iteBB, q_iteII, q_iteAnd, q_iteOr, q_iteNot, q_iteCon, q_pa0, q_pa1, q_pa2, q_pa3, q_pa4, q_ow4, q_ma0, q_ma1, q_ma2, q_ma3, q_ma4, q_ow0, q_ow1, q_ow2, q_ow3, q_c0, q_c1, q_c2, q_c3, q_c4, q_c5, q_c6, q_c7, q_c8, q_c9, q_c10, q_c11, q_c12, q_all0, q_all1, q_all2, q_all3, q_inN2, q_inN0, q_02a, q_02b, q_repr, q_ol1, q_ol2, q_ol3, q_ll1, q_ll2, q_ll3, q_scB, q_strI, q_strB, q_addBI, q_subBI, q_subIB, q_mulIB, List.getElem?_cons_zero, List.getElem?_cons_succ, List.set_cons_zero, List.set_cons_succ, wipeE, initE, outsOf, toAv, toAvB, scal, slotsOf, putOuts, natNodup, List.map_cons, List.map_nil, List.cons_append, List.nil_append, List.append_nil, List.replicate, List.length_cons, List.length_nil, isNone, isiD, seqD, gItem, truD, zipOf, zipD, pick, List.contains_nil, List.contains_cons, eq_self, List.cons_ne_nil, if_true, if_false, Bool.false_eq_true, Bool.true_eq_false, Bool.not_true, Bool.not_false, reduceIte, decide_true, decide_false, Nat.reduceAdd, Nat.reduceSub, Nat.zero_add, Nat.add_zero, and_self, true_and, and_true, Bool.and_true, Bool.true_and, Bool.or_false, Bool.false_or, Bool.or_true, Bool.true_or, Bool.and_false, Bool.false_and, Bool.or_self, Bool.and_self, Nat.sub_self, Option.map_some, Option.map_none, Nat.reduceBEq, Bool.not_eq_true, beq_self_eq_true, Nat.reduceLeDiff, Nat.reduceLT, Nat.reduceEqDiff, List.filterMap_cons, List.filterMap_nil, $as,*])
open PySem PySem.Spec PyProof.Rows L2
section
variable {f g h w : Fn}
/-! ## joined and met, the program's -/
/-! ## the law's own -/
/-! ## points -/
end
end Ev
namespace Ev
local macro_rules
  | `(tactic| simp! only [$as,*]) => `(tactic| simp only [↓x_var, ↓x_C, ↓x_op, ↓x_fz, ↓x_rV, ↓x_B, ↓x_chain, ↓x_tru, ↓x_notT, ↓x_andT, ↓x_orT, ↓x_and, ↓x_or, ↓x_not, ↓x_neg, ↓x_if, ↓x_aNil, ↓x_aVal, ↓x_aSlot, ↓x_aTmp, ↓x_aR, ↓x_call, ↓x_callK, ↓x_dNil, ↓x_dCons, ↓x_tup, ↓x_lst, ↓x_itemN, ↓x_ownItem, ↓x_lenN, ↓x_blt, ↓x_isi, ↓x_list, ↓x_rgL1, ↓x_rgL2, ↓x_iSeq, ↓x_iZip, ↓x_range1, ↓x_range2, ↓x_addR, ↓x_slice, ↓x_partN, ↓x_partS, ↓x_comp, ↓x_skip, ↓x_stuck, ↓x_break, ↓x_cont, ↓x_seq, ↓x_sIf, ↓x_sExpr, ↓x_ret, ↓x_retN, ↓x_move, ↓x_setRv, ↓x_setRf, ↓x_setRm, ↓x_set, ↓x_gN, ↓x_gsNil, ↓x_gsCons, ↓x_gTup, ↓x_gIx, ↓x_setAt, ↓x_asg, ↓x_par, ↓x_sm0, ↓x_smV, ↓x_smF, ↓x_app, ↓x_for, ↓x_for0, ↓x_for1, ↓x_comp0, ↓x_comp1, ↓x_fn, ↓x_iEnum, ↓x_range3, ↓x_comp2, ↓x_compN0, ↓x_compN1, ↓x_item2, ↓x_item2M, ↓x_gIx2, ↓x_compM, ↓x_callB, ↓x_pop, ↓x_dStar, ↓x_seeAt, ↓x_see, ↓x_seeR, ↓x_rev, ↓x_idx, ↓x_repL, ↓x_sortK, ↓x_lenSet, ↓x_dct0, q_addI, q_addT, q_addL, q_subI, q_ltI, q_leI, q_gtI, q_geI, q_isN, q_isNotN, q_isB, q_isNotB, q_eqI, q_neI, q_eqB, q_eqT0, q_eqT1, q_neT0, q_neT1, q_eqL0, q_eqL1, q_neL0, q_neL1, q_int, q_abs, q_min2, q_max2, q_at0, q_at1, q_at2, q_at3, q_ix0, q_ix1, q_ix2, q_sz, q_iteS, q_iteT, q_iteR, q_iteV, q_iteBB, q_iteII, q_iteAnd, q_iteOr, q_iteNot, q_iteCon, q_pa0, q_pa1, q_pa2, q_pa3, q_pa4, q_ow4, q_ma0, q_ma1, q_ma2, q_ma3, q_ma4, q_ow0, q_ow1, q_ow2, q_ow3, q_c0, q_c1, q_c2, q_c3, q_c4, q_c5, q_c6, q_c7, q_c8, q_c9, q_c10, q_c11, q_c12, q_all0, q_all1, q_all2, q_all3, q_inN2, q_inN0, q_02a, q_02b, q_repr, q_ol1, q_ol2, q_ol3, q_ll1, q_ll2, q_ll3, q_scB, q_strI, q_strB, q_addBI, q_subBI, q_subIB, q_mulIB, List.getElem?_cons_zero, List.getElem?_cons_succ, List.set_cons_zero, List.set_cons_succ, wipeE, initE, outsOf, toAv, toAvB, scal, slotsOf, putOuts, natNodup, List.map_cons, List.map_nil, List.cons_append, List.nil_append, List.append_nil, List.replicate, List.length_cons, List.length_nil, isNone, isiD, seqD, gItem, truD, zipOf, zipD, pick, List.contains_nil, List.contains_cons, eq_self, List.cons_ne_nil, if_true, if_false, Bool.false_eq_true, Bool.true_eq_false, Bool.not_true, Bool.not_false, reduceIte, decide_true, decide_false, Nat.reduceAdd, Nat.reduceSub, Nat.zero_add, Nat.add_zero, and_self, true_and, and_true, Bool.and_true, Bool.true_and, Bool.or_false, Bool.false_or, Bool.or_true, Bool.true_or, Bool.and_false, Bool.false_and, Bool.or_self, Bool.and_self, Nat.sub_self, Option.map_some, Option.map_none, Nat.reduceBEq, Bool.not_eq_true, beq_self_eq_true, Nat.reduceLeDiff, Nat.reduceLT, Nat.reduceEqDiff, List.filterMap_cons, List.filterMap_nil, $as,*])
open PySem PySem.Spec PyProof.Rows L2
section
end
end Ev
namespace Ev
open PySem PySem.Spec PyProof.Rows L2
section
/-! ## the closing is the greatest closed one below -/
end
end Ev
namespace Ev
local macro_rules
  | `(tactic| simp! only [$as,*]) => `(tactic| simp only [↓x_var, ↓x_C, ↓x_op, ↓x_fz, ↓x_rV, ↓x_B, ↓x_chain, ↓x_tru, ↓x_notT, ↓x_andT, ↓x_orT, ↓x_and, ↓x_or, ↓x_not, ↓x_neg, ↓x_if, ↓x_aNil, ↓x_aVal, ↓x_aSlot, ↓x_aTmp, ↓x_aR, ↓x_call, ↓x_callK, ↓x_dNil, ↓x_dCons, ↓x_tup, ↓x_lst, ↓x_itemN, ↓x_ownItem, ↓x_lenN, ↓x_blt, ↓x_isi, ↓x_list, ↓x_rgL1, ↓x_rgL2, ↓x_iSeq, ↓x_iZip, ↓x_range1, ↓x_range2, ↓x_addR, ↓x_slice, ↓x_partN, ↓x_partS, ↓x_comp, ↓x_skip, ↓x_stuck, ↓x_break, ↓x_cont, ↓x_seq, ↓x_sIf, ↓x_sExpr, ↓x_ret, ↓x_retN, ↓x_move, ↓x_setRv, ↓x_setRf, ↓x_setRm, ↓x_set, ↓x_gN, ↓x_gsNil, ↓x_gsCons, ↓x_gTup, ↓x_gIx, ↓x_setAt, ↓x_asg, ↓x_par, ↓x_sm0, ↓x_smV, ↓x_smF, ↓x_app, ↓x_for, ↓x_for0, ↓x_for1, ↓x_comp0, ↓x_comp1, ↓x_fn, ↓x_iEnum, ↓x_range3, ↓x_comp2, ↓x_compN0, ↓x_compN1, ↓x_item2, ↓x_item2M, ↓x_gIx2, ↓x_compM, ↓x_callB, ↓x_pop, ↓x_dStar, ↓x_seeAt, ↓x_see, ↓x_seeR, ↓x_rev, ↓x_idx, ↓x_repL, ↓x_sortK, ↓x_lenSet, ↓x_dct0, q_addI, q_addT, q_addL, q_subI, q_ltI, q_leI, q_gtI, q_geI, q_isN, q_isNotN, q_isB, q_isNotB, q_eqI, q_neI, q_eqB, q_eqT0, q_eqT1, q_neT0, q_neT1, q_eqL0, q_eqL1, q_neL0, q_neL1, q_int, q_abs, q_min2, q_max2, q_at0, q_at1, q_at2, q_at3, q_ix0, q_ix1, q_ix2, q_sz, q_iteS, q_iteT, q_iteR, q_iteV, q_iteBB, q_iteII, q_iteAnd, q_iteOr, q_iteNot, q_iteCon, q_pa0, q_pa1, q_pa2, q_pa3, q_pa4, q_ow4, q_ma0, q_ma1, q_ma2, q_ma3, q_ma4, q_ow0, q_ow1, q_ow2, q_ow3, q_c0, q_c1, q_c2, q_c3, q_c4, q_c5, q_c6, q_c7, q_c8, q_c9, q_c10, q_c11, q_c12, q_all0, q_all1, q_all2, q_all3, q_inN2, q_inN0, q_02a, q_02b, q_repr, q_ol1, q_ol2, q_ol3, q_ll1, q_ll2, q_ll3, q_scB, q_strI, q_strB, q_addBI, q_subBI, q_subIB, q_mulIB, List.getElem?_cons_zero, List.getElem?_cons_succ, List.set_cons_zero, List.set_cons_succ, wipeE, initE, outsOf, toAv, toAvB, scal, slotsOf, putOuts, natNodup, List.map_cons, List.map_nil, List.cons_append, List.nil_append, List.append_nil, List.replicate, List.length_cons, List.length_nil, isNone, isiD, seqD, gItem, truD, zipOf, zipD, pick, List.contains_nil, List.contains_cons, eq_self, List.cons_ne_nil, if_true, if_false, Bool.false_eq_true, Bool.true_eq_false, Bool.not_true, Bool.not_false, reduceIte, decide_true, decide_false, Nat.reduceAdd, Nat.reduceSub, Nat.zero_add, Nat.add_zero, and_self, true_and, and_true, Bool.and_true, Bool.true_and, Bool.or_false, Bool.false_or, Bool.or_true, Bool.true_or, Bool.and_false, Bool.false_and, Bool.or_self, Bool.and_self, Nat.sub_self, Option.map_some, Option.map_none, Nat.reduceBEq, Bool.not_eq_true, beq_self_eq_true, Nat.reduceLeDiff, Nat.reduceLT, Nat.reduceEqDiff, List.filterMap_cons, List.filterMap_nil, $as,*])
open PySem PySem.Spec PyProof.Rows L2
section
variable {f g h w : Fn}
/-! ## the law's own -/
end
end Ev
namespace Ev
local macro_rules
  | `(tactic| simp! only [$as,*]) => `(tactic| simp only [↓x_var, ↓x_C, ↓x_op, ↓x_fz, ↓x_rV, ↓x_B, ↓x_chain, ↓x_tru, ↓x_notT, ↓x_andT, ↓x_orT, ↓x_and, ↓x_or, ↓x_not, ↓x_neg, ↓x_if, ↓x_aNil, ↓x_aVal, ↓x_aSlot, ↓x_aTmp, ↓x_aR, ↓x_call, ↓x_callK, ↓x_dNil, ↓x_dCons, ↓x_tup, ↓x_lst, ↓x_itemN, ↓x_ownItem, ↓x_lenN, ↓x_blt, ↓x_isi, ↓x_list, ↓x_rgL1, ↓x_rgL2, ↓x_iSeq, ↓x_iZip, ↓x_range1, ↓x_range2, ↓x_addR, ↓x_slice, ↓x_partN, ↓x_partS, ↓x_comp, ↓x_skip, ↓x_stuck, ↓x_break, ↓x_cont, ↓x_seq, ↓x_sIf, ↓x_sExpr, ↓x_ret, ↓x_retN, ↓x_move, ↓x_setRv, ↓x_setRf, ↓x_setRm, ↓x_set, ↓x_gN, ↓x_gsNil, ↓x_gsCons, ↓x_gTup, ↓x_gIx, ↓x_setAt, ↓x_asg, ↓x_par, ↓x_sm0, ↓x_smV, ↓x_smF, ↓x_app, ↓x_for, ↓x_for0, ↓x_for1, ↓x_comp0, ↓x_comp1, ↓x_fn, ↓x_iEnum, ↓x_range3, ↓x_comp2, ↓x_compN0, ↓x_compN1, ↓x_item2, ↓x_item2M, ↓x_gIx2, ↓x_compM, ↓x_callB, ↓x_pop, ↓x_dStar, ↓x_seeAt, ↓x_see, ↓x_seeR, ↓x_rev, ↓x_idx, ↓x_repL, ↓x_sortK, ↓x_lenSet, ↓x_dct0, q_addI, q_addT, q_addL, q_subI, q_ltI, q_leI, q_gtI, q_geI, q_isN, q_isNotN, q_isB, q_isNotB, q_eqI, q_neI, q_eqB, q_eqT0, q_eqT1, q_neT0, q_neT1, q_eqL0, q_eqL1, q_neL0, q_neL1, q_int, q_abs, q_min2, q_max2, q_at0, q_at1, q_at2, q_at3, q_ix0, q_ix1, q_ix2, q_sz, q_iteS, q_iteT, q_iteR, q_iteV, q_iteBB, q_iteII, q_iteAnd, q_iteOr, q_iteNot, q_iteCon, q_pa0, q_pa1, q_pa2, q_pa3, q_pa4, q_ow4, q_ma0, q_ma1, q_ma2, q_ma3, q_ma4, q_ow0, q_ow1, q_ow2, q_ow3, q_c0, q_c1, q_c2, q_c3, q_c4, q_c5, q_c6, q_c7, q_c8, q_c9, q_c10, q_c11, q_c12, q_all0, q_all1, q_all2, q_all3, q_inN2, q_inN0, q_02a, q_02b, q_repr, q_ol1, q_ol2, q_ol3, q_ll1, q_ll2, q_ll3, q_scB, q_strI, q_strB, q_addBI, q_subBI, q_subIB, q_mulIB, List.getElem?_cons_zero, List.getElem?_cons_succ, List.set_cons_zero, List.set_cons_succ, wipeE, initE, outsOf, toAv, toAvB, scal, slotsOf, putOuts, natNodup, List.map_cons, List.map_nil, List.cons_append, List.nil_append, List.append_nil, List.replicate, List.length_cons, List.length_nil, isNone, isiD, seqD, gItem, truD, zipOf, zipD, pick, List.contains_nil, List.contains_cons, eq_self, List.cons_ne_nil, if_true, if_false, Bool.false_eq_true, Bool.true_eq_false, Bool.not_true, Bool.not_false, reduceIte, decide_true, decide_false, Nat.reduceAdd, Nat.reduceSub, Nat.zero_add, Nat.add_zero, and_self, true_and, and_true, Bool.and_true, Bool.true_and, Bool.or_false, Bool.false_or, Bool.or_true, Bool.true_or, Bool.and_false, Bool.false_and, Bool.or_self, Bool.and_self, Nat.sub_self, Option.map_some, Option.map_none, Nat.reduceBEq, Bool.not_eq_true, beq_self_eq_true, Nat.reduceLeDiff, Nat.reduceLT, Nat.reduceEqDiff, List.filterMap_cons, List.filterMap_nil, $as,*])
open PySem PySem.Spec PyProof.Rows L2
section
variable {f g h w : Fn}
end
end Ev
namespace Ev
open PySem PySem.Spec PyProof.Rows L2
/-! ## k43, plain: a slot forgotten -/
def vput (v : Nat → Int) (s : Nat) (x : Int) : Nat → Int := fun j => if j = s then x else v j
theorem vput_s {v : Nat → Int} {s : Nat} {x : Int} : vput v s x s = x := if_pos rfl
theorem vput_ne {v : Nat → Int} {s j : Nat} {x : Int} (h : j ≠ s) : vput v s x j = v j := if_neg h
/-! ## a slot set from another -/
end Ev
namespace Ev
local macro_rules
  | `(tactic| simp! only [$as,*]) => `(tactic| simp only [↓x_var, ↓x_C, ↓x_op, ↓x_fz, ↓x_rV, ↓x_B, ↓x_chain, ↓x_tru, ↓x_notT, ↓x_andT, ↓x_orT, ↓x_and, ↓x_or, ↓x_not, ↓x_neg, ↓x_if, ↓x_aNil, ↓x_aVal, ↓x_aSlot, ↓x_aTmp, ↓x_aR, ↓x_call, ↓x_callK, ↓x_dNil, ↓x_dCons, ↓x_tup, ↓x_lst, ↓x_itemN, ↓x_ownItem, ↓x_lenN, ↓x_blt, ↓x_isi, ↓x_list, ↓x_rgL1, ↓x_rgL2, ↓x_iSeq, ↓x_iZip, ↓x_range1, ↓x_range2, ↓x_addR, ↓x_slice, ↓x_partN, ↓x_partS, ↓x_comp, ↓x_skip, ↓x_stuck, ↓x_break, ↓x_cont, ↓x_seq, ↓x_sIf, ↓x_sExpr, ↓x_ret, ↓x_retN, ↓x_move, ↓x_setRv, ↓x_setRf, ↓x_setRm, ↓x_set, ↓x_gN, ↓x_gsNil, ↓x_gsCons, ↓x_gTup, ↓x_gIx, ↓x_setAt, ↓x_asg, ↓x_par, ↓x_sm0, ↓x_smV, ↓x_smF, ↓x_app, ↓x_for, ↓x_for0, ↓x_for1, ↓x_comp0, ↓x_comp1, ↓x_fn, ↓x_iEnum, ↓x_range3, ↓x_comp2, ↓x_compN0, ↓x_compN1, ↓x_item2, ↓x_item2M, ↓x_gIx2, ↓x_compM, ↓x_callB, ↓x_pop, ↓x_dStar, ↓x_seeAt, ↓x_see, ↓x_seeR, ↓x_rev, ↓x_idx, ↓x_repL, ↓x_sortK, ↓x_lenSet, ↓x_dct0, q_addI, q_addT, q_addL, q_subI, q_ltI, q_leI, q_gtI, q_geI, q_isN, q_isNotN, q_isB, q_isNotB, q_eqI, q_neI, q_eqB, q_eqT0, q_eqT1, q_neT0, q_neT1, q_eqL0, q_eqL1, q_neL0, q_neL1, q_int, q_abs, q_min2, q_max2, q_at0, q_at1, q_at2, q_at3, q_ix0, q_ix1, q_ix2, q_sz, q_iteS, q_iteT, q_iteR, q_iteV, q_iteBB, q_iteII, q_iteAnd, q_iteOr, q_iteNot, q_iteCon, q_pa0, q_pa1, q_pa2, q_pa3, q_pa4, q_ow4, q_ma0, q_ma1, q_ma2, q_ma3, q_ma4, q_ow0, q_ow1, q_ow2, q_ow3, q_c0, q_c1, q_c2, q_c3, q_c4, q_c5, q_c6, q_c7, q_c8, q_c9, q_c10, q_c11, q_c12, q_all0, q_all1, q_all2, q_all3, q_inN2, q_inN0, q_02a, q_02b, q_repr, q_ol1, q_ol2, q_ol3, q_ll1, q_ll2, q_ll3, q_scB, q_strI, q_strB, q_addBI, q_subBI, q_subIB, q_mulIB, List.getElem?_cons_zero, List.getElem?_cons_succ, List.set_cons_zero, List.set_cons_succ, wipeE, initE, outsOf, toAv, toAvB, scal, slotsOf, putOuts, natNodup, List.map_cons, List.map_nil, List.cons_append, List.nil_append, List.append_nil, List.replicate, List.length_cons, List.length_nil, isNone, isiD, seqD, gItem, truD, zipOf, zipD, pick, List.contains_nil, List.contains_cons, eq_self, List.cons_ne_nil, if_true, if_false, Bool.false_eq_true, Bool.true_eq_false, Bool.not_true, Bool.not_false, reduceIte, decide_true, decide_false, Nat.reduceAdd, Nat.reduceSub, Nat.zero_add, Nat.add_zero, and_self, true_and, and_true, Bool.and_true, Bool.true_and, Bool.or_false, Bool.false_or, Bool.or_true, Bool.true_or, Bool.and_false, Bool.false_and, Bool.or_self, Bool.and_self, Nat.sub_self, Option.map_some, Option.map_none, Nat.reduceBEq, Bool.not_eq_true, beq_self_eq_true, Nat.reduceLeDiff, Nat.reduceLT, Nat.reduceEqDiff, List.filterMap_cons, List.filterMap_nil, $as,*])
local macro_rules
  | `(tactic| dsimp! only [$as,*]) => `(tactic| simp only [↓x_var, ↓x_C, ↓x_op, ↓x_fz, ↓x_rV, ↓x_B, ↓x_chain, ↓x_tru, ↓x_notT, ↓x_andT, ↓x_orT, ↓x_and, ↓x_or, ↓x_not, ↓x_neg, ↓x_if, ↓x_aNil, ↓x_aVal, ↓x_aSlot, ↓x_aTmp, ↓x_aR, ↓x_call, ↓x_callK, ↓x_dNil, ↓x_dCons, ↓x_tup, ↓x_lst, ↓x_itemN, ↓x_ownItem, ↓x_lenN, ↓x_blt, ↓x_isi, ↓x_list, ↓x_rgL1, ↓x_rgL2, ↓x_iSeq, ↓x_iZip, ↓x_range1, ↓x_range2, ↓x_addR, ↓x_slice, ↓x_partN, ↓x_partS, ↓x_comp, ↓x_skip, ↓x_stuck, ↓x_break, ↓x_cont, ↓x_seq, ↓x_sIf, ↓x_sExpr, ↓x_ret, ↓x_retN, ↓x_move, ↓x_setRv, ↓x_setRf, ↓x_setRm, ↓x_set, ↓x_gN, ↓x_gsNil, ↓x_gsCons, ↓x_gTup, ↓x_gIx, ↓x_setAt, ↓x_asg, ↓x_par, ↓x_sm0, ↓x_smV, ↓x_smF, ↓x_app, ↓x_for, ↓x_for0, ↓x_for1, ↓x_comp0, ↓x_comp1, ↓x_fn, ↓x_iEnum, ↓x_range3, ↓x_comp2, ↓x_compN0, ↓x_compN1, ↓x_item2, ↓x_item2M, ↓x_gIx2, ↓x_compM, ↓x_callB, ↓x_pop, ↓x_dStar, ↓x_seeAt, ↓x_see, ↓x_seeR, ↓x_rev, ↓x_idx, ↓x_repL, ↓x_sortK, ↓x_lenSet, ↓x_dct0, q_addI, q_addT, q_addL, q_subI, q_ltI, q_leI, q_gtI, q_geI, q_isN, q_isNotN, q_isB, q_isNotB, q_eqI, q_neI, q_eqB, q_eqT0, q_eqT1, q_neT0, q_neT1, q_eqL0, q_eqL1, q_neL0, q_neL1, q_int, q_abs, q_min2, q_max2, q_at0, q_at1, q_at2, q_at3, q_ix0, q_ix1, q_ix2, q_sz, q_iteS, q_iteT, q_iteR, q_iteV, q_iteBB, q_iteII, q_iteAnd, q_iteOr, q_iteNot, q_iteCon, q_pa0, q_pa1, q_pa2, q_pa3, q_pa4, q_ow4, q_ma0, q_ma1, q_ma2, q_ma3, q_ma4, q_ow0, q_ow1, q_ow2, q_ow3, q_c0, q_c1, q_c2, q_c3, q_c4, q_c5, q_c6, q_c7, q_c8, q_c9, q_c10, q_c11, q_c12, q_all0, q_all1, q_all2, q_all3, q_inN2, q_inN0, q_02a, q_02b, q_repr, q_ol1, q_ol2, q_ol3, q_ll1, q_ll2, q_ll3, q_scB, q_strI, q_strB, q_addBI, q_subBI, q_subIB, q_mulIB, List.getElem?_cons_zero, List.getElem?_cons_succ, List.set_cons_zero, List.set_cons_succ, wipeE, initE, outsOf, toAv, toAvB, scal, slotsOf, putOuts, natNodup, List.map_cons, List.map_nil, List.cons_append, List.nil_append, List.append_nil, List.replicate, List.length_cons, List.length_nil, isNone, isiD, seqD, truD, zipOf, zipD, pick, List.contains_nil, List.contains_cons, eq_self, List.cons_ne_nil, if_true, if_false, Bool.false_eq_true, Bool.true_eq_false, Bool.not_true, Bool.not_false, reduceIte, decide_true, decide_false, Nat.reduceAdd, Nat.reduceSub, Nat.zero_add, Nat.add_zero, and_self, true_and, and_true, Bool.and_true, Bool.true_and, Bool.or_false, Bool.false_or, Bool.or_true, Bool.true_or, Bool.and_false, Bool.false_and, Bool.or_self, Bool.and_self, Nat.sub_self, Option.map_some, Option.map_none, Nat.reduceBEq, Bool.not_eq_true, beq_self_eq_true, Nat.reduceLeDiff, Nat.reduceLT, Nat.reduceEqDiff, List.filterMap_cons, List.filterMap_nil, $as,*])
open PySem PySem.Spec PyProof.Rows L2
section
variable {f g h w : Fn}
/-! ## a comprehension in surroundings that may change -/
/-! ## a slot set -/
/-! ## slots kept -/
abbrev Ixs := Nat → Option Nat
def kp (c : MF) (ix : Ixs) : MF := fun i j => if i = j then some 0 else match ix i, ix j with
  | some a, some b => c a b
  | _, _ => none
/-- slots that a lot names -/
structure LotOk (m k : Nat) (ix : Ixs) : Prop where
  k20 : k ≤ 20
  z : ix 0 = some 0
  lt : ∀ j < k + 1, ∀ a, ix j = some a → a < m + 1
  pos : ∀ j < k, ∀ a, ix (j + 1) = some a → 1 ≤ a
  ne : ∀ i < k, ∀ j < i, ∀ a, ix (i + 1) = some a → ix (j + 1) ≠ some a
/-! ## a slot forgotten -/
/-! ## arguments -/
end
end Ev
namespace Ev
local macro_rules
  | `(tactic| simp! only [$as,*]) => `(tactic| simp only [↓x_var, ↓x_C, ↓x_op, ↓x_fz, ↓x_rV, ↓x_B, ↓x_chain, ↓x_tru, ↓x_notT, ↓x_andT, ↓x_orT, ↓x_and, ↓x_or, ↓x_not, ↓x_neg, ↓x_if, ↓x_aNil, ↓x_aVal, ↓x_aSlot, ↓x_aTmp, ↓x_aR, ↓x_call, ↓x_callK, ↓x_dNil, ↓x_dCons, ↓x_tup, ↓x_lst, ↓x_itemN, ↓x_ownItem, ↓x_lenN, ↓x_blt, ↓x_isi, ↓x_list, ↓x_rgL1, ↓x_rgL2, ↓x_iSeq, ↓x_iZip, ↓x_range1, ↓x_range2, ↓x_addR, ↓x_slice, ↓x_partN, ↓x_partS, ↓x_comp, ↓x_skip, ↓x_stuck, ↓x_break, ↓x_cont, ↓x_seq, ↓x_sIf, ↓x_sExpr, ↓x_ret, ↓x_retN, ↓x_move, ↓x_setRv, ↓x_setRf, ↓x_setRm, ↓x_set, ↓x_gN, ↓x_gsNil, ↓x_gsCons, ↓x_gTup, ↓x_gIx, ↓x_setAt, ↓x_asg, ↓x_par, ↓x_sm0, ↓x_smV, ↓x_smF, ↓x_app, ↓x_for, ↓x_for0, ↓x_for1, ↓x_comp0, ↓x_comp1, ↓x_fn, ↓x_iEnum, ↓x_range3, ↓x_comp2, ↓x_compN0, ↓x_compN1, ↓x_item2, ↓x_item2M, ↓x_gIx2, ↓x_compM, ↓x_callB, ↓x_pop, ↓x_dStar, ↓x_seeAt, ↓x_see, ↓x_seeR, ↓x_rev, ↓x_idx, ↓x_repL, ↓x_sortK, ↓x_lenSet, ↓x_dct0, q_addI, q_addT, q_addL, q_subI, q_ltI, q_leI, q_gtI, q_geI, q_isN, q_isNotN, q_isB, q_isNotB, q_eqI, q_neI, q_eqB, q_eqT0, q_eqT1, q_neT0, q_neT1, q_eqL0, q_eqL1, q_neL0, q_neL1, q_int, q_abs, q_min2, q_max2, q_at0, q_at1, q_at2, q_at3, q_ix0, q_ix1, q_ix2, q_sz, q_iteS, q_iteT, q_iteR, q_iteV, q_iteBB, q_iteII, q_iteAnd, q_iteOr, q_iteNot, q_iteCon, q_pa0, q_pa1, q_pa2, q_pa3, q_pa4, q_ow4, q_ma0, q_ma1, q_ma2, q_ma3, q_ma4, q_ow0, q_ow1, q_ow2, q_ow3, q_c0, q_c1, q_c2, q_c3, q_c4, q_c5, q_c6, q_c7, q_c8, q_c9, q_c10, q_c11, q_c12, q_all0, q_all1, q_all2, q_all3, q_inN2, q_inN0, q_02a, q_02b, q_repr, q_ol1, q_ol2, q_ol3, q_ll1, q_ll2, q_ll3, q_scB, q_strI, q_strB, q_addBI, q_subBI, q_subIB, q_mulIB, List.getElem?_cons_zero, List.getElem?_cons_succ, List.set_cons_zero, List.set_cons_succ, wipeE, initE, outsOf, toAv, toAvB, scal, slotsOf, putOuts, natNodup, List.map_cons, List.map_nil, List.cons_append, List.nil_append, List.append_nil, List.replicate, List.length_cons, List.length_nil, isNone, isiD, seqD, gItem, truD, zipOf, zipD, pick, List.contains_nil, List.contains_cons, eq_self, List.cons_ne_nil, if_true, if_false, Bool.false_eq_true, Bool.true_eq_false, Bool.not_true, Bool.not_false, reduceIte, decide_true, decide_false, Nat.reduceAdd, Nat.reduceSub, Nat.zero_add, Nat.add_zero, and_self, true_and, and_true, Bool.and_true, Bool.true_and, Bool.or_false, Bool.false_or, Bool.or_true, Bool.true_or, Bool.and_false, Bool.false_and, Bool.or_self, Bool.and_self, Nat.sub_self, Option.map_some, Option.map_none, Nat.reduceBEq, Bool.not_eq_true, beq_self_eq_true, Nat.reduceLeDiff, Nat.reduceLT, Nat.reduceEqDiff, List.filterMap_cons, List.filterMap_nil, $as,*])
open PySem PySem.Spec PyProof.Rows L2
section
variable {f g h w : Fn}
/-! ## bounds raised -/
end
end Ev
namespace Ev
open PySem PySem.Spec PyProof.Rows L2
section
/-! ## what is closed stays closed, what is greater stays greater -/
def leO (n : Nat) (x y : Option MF) : Prop := ∀ c, x = some c → ∃ d, y = some d ∧ leM n c d
theorem leO.some {n : Nat} {c d : MF} (h : leM n c d) : leO n (some c) (some d) := fun c' e => by cases e; exact ⟨d, rfl, h⟩
/-! ### kept, forgotten, set -/
end
end Ev
namespace Ev
local macro_rules
  | `(tactic| simp! only [$as,*]) => `(tactic| simp only [↓x_var, ↓x_C, ↓x_op, ↓x_fz, ↓x_rV, ↓x_B, ↓x_chain, ↓x_tru, ↓x_notT, ↓x_andT, ↓x_orT, ↓x_and, ↓x_or, ↓x_not, ↓x_neg, ↓x_if, ↓x_aNil, ↓x_aVal, ↓x_aSlot, ↓x_aTmp, ↓x_aR, ↓x_call, ↓x_callK, ↓x_dNil, ↓x_dCons, ↓x_tup, ↓x_lst, ↓x_itemN, ↓x_ownItem, ↓x_lenN, ↓x_blt, ↓x_isi, ↓x_list, ↓x_rgL1, ↓x_rgL2, ↓x_iSeq, ↓x_iZip, ↓x_range1, ↓x_range2, ↓x_addR, ↓x_slice, ↓x_partN, ↓x_partS, ↓x_comp, ↓x_skip, ↓x_stuck, ↓x_break, ↓x_cont, ↓x_seq, ↓x_sIf, ↓x_sExpr, ↓x_ret, ↓x_retN, ↓x_move, ↓x_setRv, ↓x_setRf, ↓x_setRm, ↓x_set, ↓x_gN, ↓x_gsNil, ↓x_gsCons, ↓x_gTup, ↓x_gIx, ↓x_setAt, ↓x_asg, ↓x_par, ↓x_sm0, ↓x_smV, ↓x_smF, ↓x_app, ↓x_for, ↓x_for0, ↓x_for1, ↓x_comp0, ↓x_comp1, ↓x_fn, ↓x_iEnum, ↓x_range3, ↓x_comp2, ↓x_compN0, ↓x_compN1, ↓x_item2, ↓x_item2M, ↓x_gIx2, ↓x_compM, ↓x_callB, ↓x_pop, ↓x_dStar, ↓x_seeAt, ↓x_see, ↓x_seeR, ↓x_rev, ↓x_idx, ↓x_repL, ↓x_sortK, ↓x_lenSet, ↓x_dct0, q_addI, q_addT, q_addL, q_subI, q_ltI, q_leI, q_gtI, q_geI, q_isN, q_isNotN, q_isB, q_isNotB, q_eqI, q_neI, q_eqB, q_eqT0, q_eqT1, q_neT0, q_neT1, q_eqL0, q_eqL1, q_neL0, q_neL1, q_int, q_abs, q_min2, q_max2, q_at0, q_at1, q_at2, q_at3, q_ix0, q_ix1, q_ix2, q_sz, q_iteS, q_iteT, q_iteR, q_iteV, q_iteBB, q_iteII, q_iteAnd, q_iteOr, q_iteNot, q_iteCon, q_pa0, q_pa1, q_pa2, q_pa3, q_pa4, q_ow4, q_ma0, q_ma1, q_ma2, q_ma3, q_ma4, q_ow0, q_ow1, q_ow2, q_ow3, q_c0, q_c1, q_c2, q_c3, q_c4, q_c5, q_c6, q_c7, q_c8, q_c9, q_c10, q_c11, q_c12, q_all0, q_all1, q_all2, q_all3, q_inN2, q_inN0, q_02a, q_02b, q_repr, q_ol1, q_ol2, q_ol3, q_ll1, q_ll2, q_ll3, q_scB, q_strI, q_strB, q_addBI, q_subBI, q_subIB, q_mulIB, List.getElem?_cons_zero, List.getElem?_cons_succ, List.set_cons_zero, List.set_cons_succ, wipeE, initE, outsOf, toAv, toAvB, scal, slotsOf, putOuts, natNodup, List.map_cons, List.map_nil, List.cons_append, List.nil_append, List.append_nil, List.replicate, List.length_cons, List.length_nil, isNone, isiD, seqD, gItem, truD, zipOf, zipD, pick, List.contains_nil, List.contains_cons, eq_self, List.cons_ne_nil, if_true, if_false, Bool.false_eq_true, Bool.true_eq_false, Bool.not_true, Bool.not_false, reduceIte, decide_true, decide_false, Nat.reduceAdd, Nat.reduceSub, Nat.zero_add, Nat.add_zero, and_self, true_and, and_true, Bool.and_true, Bool.true_and, Bool.or_false, Bool.false_or, Bool.or_true, Bool.true_or, Bool.and_false, Bool.false_and, Bool.or_self, Bool.and_self, Nat.sub_self, Option.map_some, Option.map_none, Nat.reduceBEq, Bool.not_eq_true, beq_self_eq_true, Nat.reduceLeDiff, Nat.reduceLT, Nat.reduceEqDiff, List.filterMap_cons, List.filterMap_nil, $as,*])
local macro_rules
  | `(tactic| dsimp! only [$as,*]) => `(tactic| simp only [↓x_var, ↓x_C, ↓x_op, ↓x_fz, ↓x_rV, ↓x_B, ↓x_chain, ↓x_tru, ↓x_notT, ↓x_andT, ↓x_orT, ↓x_and, ↓x_or, ↓x_not, ↓x_neg, ↓x_if, ↓x_aNil, ↓x_aVal, ↓x_aSlot, ↓x_aTmp, ↓x_aR, ↓x_call, ↓x_callK, ↓x_dNil, ↓x_dCons, ↓x_tup, ↓x_lst, ↓x_itemN, ↓x_ownItem, ↓x_lenN, ↓x_blt, ↓x_isi, ↓x_list, ↓x_rgL1, ↓x_rgL2, ↓x_iSeq, ↓x_iZip, ↓x_range1, ↓x_range2, ↓x_addR, ↓x_slice, ↓x_partN, ↓x_partS, ↓x_comp, ↓x_skip, ↓x_stuck, ↓x_break, ↓x_cont, ↓x_seq, ↓x_sIf, ↓x_sExpr, ↓x_ret, ↓x_retN, ↓x_move, ↓x_setRv, ↓x_setRf, ↓x_setRm, ↓x_set, ↓x_gN, ↓x_gsNil, ↓x_gsCons, ↓x_gTup, ↓x_gIx, ↓x_setAt, ↓x_asg, ↓x_par, ↓x_sm0, ↓x_smV, ↓x_smF, ↓x_app, ↓x_for, ↓x_for0, ↓x_for1, ↓x_comp0, ↓x_comp1, ↓x_fn, ↓x_iEnum, ↓x_range3, ↓x_comp2, ↓x_compN0, ↓x_compN1, ↓x_item2, ↓x_item2M, ↓x_gIx2, ↓x_compM, ↓x_callB, ↓x_pop, ↓x_dStar, ↓x_seeAt, ↓x_see, ↓x_seeR, ↓x_rev, ↓x_idx, ↓x_repL, ↓x_sortK, ↓x_lenSet, ↓x_dct0, q_addI, q_addT, q_addL, q_subI, q_ltI, q_leI, q_gtI, q_geI, q_isN, q_isNotN, q_isB, q_isNotB, q_eqI, q_neI, q_eqB, q_eqT0, q_eqT1, q_neT0, q_neT1, q_eqL0, q_eqL1, q_neL0, q_neL1, q_int, q_abs, q_min2, q_max2, q_at0, q_at1, q_at2, q_at3, q_ix0, q_ix1, q_ix2, q_sz, q_iteS, q_iteT, q_iteR, q_iteV, q_iteBB, q_iteII, q_iteAnd, q_iteOr, q_iteNot, q_iteCon, q_pa0, q_pa1, q_pa2, q_pa3, q_pa4, q_ow4, q_ma0, q_ma1, q_ma2, q_ma3, q_ma4, q_ow0, q_ow1, q_ow2, q_ow3, q_c0, q_c1, q_c2, q_c3, q_c4, q_c5, q_c6, q_c7, q_c8, q_c9, q_c10, q_c11, q_c12, q_all0, q_all1, q_all2, q_all3, q_inN2, q_inN0, q_02a, q_02b, q_repr, q_ol1, q_ol2, q_ol3, q_ll1, q_ll2, q_ll3, q_scB, q_strI, q_strB, q_addBI, q_subBI, q_subIB, q_mulIB, List.getElem?_cons_zero, List.getElem?_cons_succ, List.set_cons_zero, List.set_cons_succ, wipeE, initE, outsOf, toAv, toAvB, scal, slotsOf, putOuts, natNodup, List.map_cons, List.map_nil, List.cons_append, List.nil_append, List.append_nil, List.replicate, List.length_cons, List.length_nil, isNone, isiD, seqD, truD, zipOf, zipD, pick, List.contains_nil, List.contains_cons, eq_self, List.cons_ne_nil, if_true, if_false, Bool.false_eq_true, Bool.true_eq_false, Bool.not_true, Bool.not_false, reduceIte, decide_true, decide_false, Nat.reduceAdd, Nat.reduceSub, Nat.zero_add, Nat.add_zero, and_self, true_and, and_true, Bool.and_true, Bool.true_and, Bool.or_false, Bool.false_or, Bool.or_true, Bool.true_or, Bool.and_false, Bool.false_and, Bool.or_self, Bool.and_self, Nat.sub_self, Option.map_some, Option.map_none, Nat.reduceBEq, Bool.not_eq_true, beq_self_eq_true, Nat.reduceLeDiff, Nat.reduceLT, Nat.reduceEqDiff, List.filterMap_cons, List.filterMap_nil, $as,*])
open PySem PySem.Spec PyProof.Rows L2
section
variable {f g h w : Fn}
/-! ## loops with continue -/
/-! ## a number that fits at a slot -/
structure FI (n : Nat) (c : MF) (v : Nat → Int) (s : Nat) (P : Nat → Nat → Prop) (lo hi : EE) : Prop where
  lo1 : ∀ i y, P i s → i < n → i ≠ s → c i s = some y → ∃ l, lo = some l ∧ v i - y ≤ l
  lo2 : ∀ l, lo = some l → ∃ i y, i < n ∧ i ≠ s ∧ c i s = some y ∧ l = v i - y
  hi1 : ∀ j y, P s j → j < n → j ≠ s → c s j = some y → ∃ h, hi = some h ∧ h ≤ v j + y
  hi2 : ∀ h, hi = some h → ∃ j y, j < n ∧ j ≠ s ∧ c s j = some y ∧ h = v j + y
  ok : ∀ i j, P i j → i < n → j < n → i ≠ j → i ≠ s → j ≠ s → leB (some (v i - v j)) (c i j)
theorem FI.keep {n : Nat} {c : MF} {v : Nat → Int} {s : Nat} {P P' : Nat → Nat → Prop} {lo hi : EE} (F : FI n c v s P lo hi) {a b : Nat} (hp : ∀ i j, P' i j → P i j ∨ (i = a ∧ j = b)) (hz : a = b ∨ c a b = none ∨ (a ≠ s ∧ b ≠ s ∧ leB (some (v a - v b)) (c a b))) : FI n c v s P' lo hi := by
  refine ⟨fun i y p hi ne e => ?_, F.lo2, fun j y p hj ne e => ?_, F.hi2, fun i j p hi hj ne n1 n2 => ?_⟩
  · rcases hp i s p with p | ⟨rfl, rfl⟩
    · exact F.lo1 i y p hi ne e
    · rcases hz with z | z | z
      · exact absurd z ne
      · rw [z] at e; cases e
      · exact absurd rfl z.2.1
  · rcases hp s j p with p | ⟨rfl, rfl⟩
    · exact F.hi1 j y p hj ne e
    · rcases hz with z | z | z
      · exact absurd z.symm ne
      · rw [z] at e; cases e
      · exact absurd rfl z.1
  · rcases hp i j p with p | ⟨rfl, rfl⟩
    · exact F.ok i j p hi hj ne n1 n2
    · rcases hz with z | z | z
      · exact absurd z ne
      · rw [z]; exact leB_none _
      · exact z.2.2
def loS (lo : EE) (x : Int) : EE := match lo with
  | none => some x
  | some l => some (max l x)
theorem FI.low {n : Nat} {c : MF} {v : Nat → Int} {s : Nat} {P P' : Nat → Nat → Prop} {lo hi : EE} (F : FI n c v s P lo hi) {a : Nat} {y : Int} (hp : ∀ i j, P' i j → P i j ∨ (i = a ∧ j = s)) (ha : a < n) (ne : a ≠ s) (e : c a s = some y) : FI n c v s P' (loS lo (v a - y)) hi := by
  refine ⟨fun i z p hi ni ei => ?_, fun l el => ?_, fun j z p hj nj ej => ?_, F.hi2, fun i j p hi hj nij n1 n2 => ?_⟩
  · rcases hp i s p with p | ⟨rfl, -⟩
    · obtain ⟨l, rfl, hl⟩ := F.lo1 i z p hi ni ei
      exact ⟨_, rfl, by omega⟩
    · rw [e] at ei; cases ei
      cases lo with
      | none => exact ⟨_, rfl, by omega⟩
      | some l => exact ⟨_, rfl, by omega⟩
  · cases lo with
    | none => cases el; exact ⟨a, y, ha, ne, e, rfl⟩
    | some l0 =>
      cases el
      rcases Int.le_total l0 (v a - y) with q | q
      · rw [Int.max_eq_right q]; exact ⟨a, y, ha, ne, e, rfl⟩
      · rw [Int.max_eq_left q]; exact F.lo2 l0 rfl
  · rcases hp s j p with p | ⟨rfl, -⟩
    · exact F.hi1 j z p hj nj ej
    · exact absurd rfl ne
  · rcases hp i j p with p | ⟨-, rfl⟩
    · exact F.ok i j p hi hj nij n1 n2
    · exact absurd rfl n2
def loHi (lo hi : EE) : Bool := match lo, hi with
  | some l, some h => decide (l ≤ h)
  | _, _ => true
theorem FI.fin {n : Nat} {c : MF} {v : Nat → Int} {s : Nat} {P : Nat → Nat → Prop} {lo hi : EE} (F : FI n c v s P lo hi) (hp : ∀ i < n, ∀ j < n, P i j) (hs : s < n) (hc : dz n c) : loHi lo hi = true ↔ ∃ x, hold n c (vput v s x) := by
  constructor
  · intro q
    obtain ⟨x, x1, x2⟩ : ∃ x, (∀ l, lo = some l → l ≤ x) ∧ ∀ h, hi = some h → x ≤ h := by
      cases lo with
      | some l =>
        refine ⟨l, fun l' e => by cases e; exact Int.le_refl _, fun h e => ?_⟩
        subst e
        exact of_decide_eq_true q
      | none =>
        cases hi with
        | some h => exact ⟨h, (fun l e => by cases e), fun h' e => by cases e; exact Int.le_refl _⟩
        | none => exact ⟨0, (fun l e => by cases e), fun h e => by cases e⟩
    refine ⟨x, fun i hi' j hj => ?_⟩
    by_cases e : i = j
    · subst e; rw [hc i hi', Int.sub_self]; exact leB_refl _
    · by_cases e1 : i = s
      · subst e1
        rw [vput_s, vput_ne (Ne.symm e)]
        cases q : c i j with
        | none => exact leB_none _
        | some y =>
          obtain ⟨h, e2, h2⟩ := F.hi1 j y (hp i hi' j hj) hj (Ne.symm e) q
          have := x2 h e2
          simp only [leB]; omega
      · by_cases e2 : j = s
        · subst e2
          rw [vput_s, vput_ne e1]
          cases q : c i j with
          | none => exact leB_none _
          | some y =>
            obtain ⟨l, e2, h2⟩ := F.lo1 i y (hp i hi' j hj) hi' e q
            have := x1 l e2
            simp only [leB]; omega
        · rw [vput_ne e1, vput_ne e2]; exact F.ok i j (hp i hi' j hj) hi' hj e e1 e2
  · rintro ⟨x, hx⟩
    cases lo with
    | none => rfl
    | some l =>
      cases hi with
      | none => rfl
      | some h =>
        obtain ⟨i, y, i1, i2, i3, rfl⟩ := F.lo2 l rfl
        obtain ⟨j, z, j1, j2, j3, rfl⟩ := F.hi2 h rfl
        have a := hx i i1 s hs
        have b := hx s hs j j1
        rw [vput_s, vput_ne i2, i3] at a
        rw [vput_s, vput_ne j2, j3] at b
        simp only [leB] at a b
        exact decide_eq_true (by omega)
end
end Ev
namespace Ev
local macro_rules
  | `(tactic| simp! only [$as,*]) => `(tactic| simp only [↓x_var, ↓x_C, ↓x_op, ↓x_fz, ↓x_rV, ↓x_B, ↓x_chain, ↓x_tru, ↓x_notT, ↓x_andT, ↓x_orT, ↓x_and, ↓x_or, ↓x_not, ↓x_neg, ↓x_if, ↓x_aNil, ↓x_aVal, ↓x_aSlot, ↓x_aTmp, ↓x_aR, ↓x_call, ↓x_callK, ↓x_dNil, ↓x_dCons, ↓x_tup, ↓x_lst, ↓x_itemN, ↓x_ownItem, ↓x_lenN, ↓x_blt, ↓x_isi, ↓x_list, ↓x_rgL1, ↓x_rgL2, ↓x_iSeq, ↓x_iZip, ↓x_range1, ↓x_range2, ↓x_addR, ↓x_slice, ↓x_partN, ↓x_partS, ↓x_comp, ↓x_skip, ↓x_stuck, ↓x_break, ↓x_cont, ↓x_seq, ↓x_sIf, ↓x_sExpr, ↓x_ret, ↓x_retN, ↓x_move, ↓x_setRv, ↓x_setRf, ↓x_setRm, ↓x_set, ↓x_gN, ↓x_gsNil, ↓x_gsCons, ↓x_gTup, ↓x_gIx, ↓x_setAt, ↓x_asg, ↓x_par, ↓x_sm0, ↓x_smV, ↓x_smF, ↓x_app, ↓x_for, ↓x_for0, ↓x_for1, ↓x_comp0, ↓x_comp1, ↓x_fn, ↓x_iEnum, ↓x_range3, ↓x_comp2, ↓x_compN0, ↓x_compN1, ↓x_item2, ↓x_item2M, ↓x_gIx2, ↓x_compM, ↓x_callB, ↓x_pop, ↓x_dStar, ↓x_seeAt, ↓x_see, ↓x_seeR, ↓x_rev, ↓x_idx, ↓x_repL, ↓x_sortK, ↓x_lenSet, ↓x_dct0, q_addI, q_addT, q_addL, q_subI, q_ltI, q_leI, q_gtI, q_geI, q_isN, q_isNotN, q_isB, q_isNotB, q_eqI, q_neI, q_eqB, q_eqT0, q_eqT1, q_neT0, q_neT1, q_eqL0, q_eqL1, q_neL0, q_neL1, q_int, q_abs, q_min2, q_max2, q_at0, q_at1, q_at2, q_at3, q_ix0, q_ix1, q_ix2, q_sz, q_iteS, q_iteT, q_iteR, q_iteV, q_iteBB, q_iteII, q_iteAnd, q_iteOr, q_iteNot, q_iteCon, q_pa0, q_pa1, q_pa2, q_pa3, q_pa4, q_ow4, q_ma0, q_ma1, q_ma2, q_ma3, q_ma4, q_ow0, q_ow1, q_ow2, q_ow3, q_c0, q_c1, q_c2, q_c3, q_c4, q_c5, q_c6, q_c7, q_c8, q_c9, q_c10, q_c11, q_c12, q_all0, q_all1, q_all2, q_all3, q_inN2, q_inN0, q_02a, q_02b, q_repr, q_ol1, q_ol2, q_ol3, q_ll1, q_ll2, q_ll3, q_scB, q_strI, q_strB, q_addBI, q_subBI, q_subIB, q_mulIB, List.getElem?_cons_zero, List.getElem?_cons_succ, List.set_cons_zero, List.set_cons_succ, wipeE, initE, outsOf, toAv, toAvB, scal, slotsOf, putOuts, natNodup, List.map_cons, List.map_nil, List.cons_append, List.nil_append, List.append_nil, List.replicate, List.length_cons, List.length_nil, isNone, isiD, seqD, gItem, truD, zipOf, zipD, pick, List.contains_nil, List.contains_cons, eq_self, List.cons_ne_nil, if_true, if_false, Bool.false_eq_true, Bool.true_eq_false, Bool.not_true, Bool.not_false, reduceIte, decide_true, decide_false, Nat.reduceAdd, Nat.reduceSub, Nat.zero_add, Nat.add_zero, and_self, true_and, and_true, Bool.and_true, Bool.true_and, Bool.or_false, Bool.false_or, Bool.or_true, Bool.true_or, Bool.and_false, Bool.false_and, Bool.or_self, Bool.and_self, Nat.sub_self, Option.map_some, Option.map_none, Nat.reduceBEq, Bool.not_eq_true, beq_self_eq_true, Nat.reduceLeDiff, Nat.reduceLT, Nat.reduceEqDiff, List.filterMap_cons, List.filterMap_nil, $as,*])
open PySem PySem.Spec PyProof.Rows L2
section
variable {f g h w : Fn}
/-! ## the law's own: a slot forgotten, set, slots kept -/
/-! ## a lot of slots -/
structure LtOk (m : Nat) (ls : List Nat) (qs : List (Option Nat)) : Prop where
  nd : ls.Nodup
  rg : ∀ a ∈ ls, 1 ≤ a ∧ a < m + 1
  rq : ∀ a : Nat, some a ∈ qs → 1 ≤ a ∧ a < m + 1 ∧ a ∉ ls
  dq : ∀ i j a : Nat, j < i → qs[i]? = some (some a) → qs[j]? ≠ some (some a)
theorem snoc_get {α : Type} {l : List α} {x y : α} {i : Nat} (h : (l ++ [x])[i]? = some y) : l[i]? = some y ∨ (i = l.length ∧ y = x) := by
  by_cases c : i < l.length
  · rw [List.getElem?_append_left c] at h; exact .inl h
  · rw [List.getElem?_append_right (by omega)] at h
    cases q : i - l.length with
    | zero => rw [q] at h; simp at h; exact .inr ⟨by omega, h.symm⟩
    | succ n => rw [q] at h; simp at h
theorem LtOk.free {m : Nat} {ls : List Nat} {qs : List (Option Nat)} (h : LtOk m ls qs) : LtOk m ls (qs ++ [none]) := by
  refine ⟨h.nd, h.rg, fun a ha => ?_, fun i j a ji e1 e2 => ?_⟩
  · rcases List.mem_append.mp ha with ha | ha
    · exact h.rq a ha
    · cases List.mem_singleton.mp ha
  · rcases snoc_get e1 with e1 | ⟨-, e⟩
    · rcases snoc_get e2 with e2 | ⟨-, e⟩
      · exact h.dq i j a ji e1 e2
      · cases e
    · cases e
theorem LtOk.take {m : Nat} {ls : List Nat} {qs : List (Option Nat)} (h : LtOk m ls qs) {j a : Nat} (e : ls[j]? = some a) : LtOk m (ls.eraseIdx j) (qs ++ [some a]) := by
  have ha : a ∈ ls := List.mem_of_getElem? e
  have hn : a ∉ ls.eraseIdx j := fun z => by
    obtain ⟨i, hi, ne, q⟩ := List.mem_eraseIdx_iff_getElem.mp z
    obtain ⟨hj, q2⟩ := List.getElem?_eq_some_iff.mp e
    exact ne ((List.getElem_inj h.nd).mp (q.trans q2.symm))
  refine ⟨h.nd.sublist (List.eraseIdx_sublist ..), fun b hb => h.rg b ((List.eraseIdx_sublist ..).subset hb), fun b hb => ?_, fun i k b ki e1 e2 => ?_⟩
  · rcases List.mem_append.mp hb with hb | hb
    · obtain ⟨x, y, z⟩ := h.rq b hb
      exact ⟨x, y, fun q => z ((List.eraseIdx_sublist ..).subset q)⟩
    · cases List.mem_singleton.mp hb
      exact ⟨(h.rg a ha).1, (h.rg a ha).2, hn⟩
  · rcases snoc_get e1 with e1 | ⟨i1, e1⟩
    · rcases snoc_get e2 with e2 | ⟨k2, -⟩
      · exact h.dq i k b ki e1 e2
      · have := (List.getElem?_eq_some_iff.mp e1).1; omega
    · cases e1
      rcases snoc_get e2 with e2 | ⟨k2, -⟩
      · exact (h.rq a (List.mem_of_getElem? e2)).2.2 ha
      · omega
end
end Ev
namespace Ev
local macro_rules
  | `(tactic| simp! only [$as,*]) => `(tactic| simp only [↓x_var, ↓x_C, ↓x_op, ↓x_fz, ↓x_rV, ↓x_B, ↓x_chain, ↓x_tru, ↓x_notT, ↓x_andT, ↓x_orT, ↓x_and, ↓x_or, ↓x_not, ↓x_neg, ↓x_if, ↓x_aNil, ↓x_aVal, ↓x_aSlot, ↓x_aTmp, ↓x_aR, ↓x_call, ↓x_callK, ↓x_dNil, ↓x_dCons, ↓x_tup, ↓x_lst, ↓x_itemN, ↓x_ownItem, ↓x_lenN, ↓x_blt, ↓x_isi, ↓x_list, ↓x_rgL1, ↓x_rgL2, ↓x_iSeq, ↓x_iZip, ↓x_range1, ↓x_range2, ↓x_addR, ↓x_slice, ↓x_partN, ↓x_partS, ↓x_comp, ↓x_skip, ↓x_stuck, ↓x_break, ↓x_cont, ↓x_seq, ↓x_sIf, ↓x_sExpr, ↓x_ret, ↓x_retN, ↓x_move, ↓x_setRv, ↓x_setRf, ↓x_setRm, ↓x_set, ↓x_gN, ↓x_gsNil, ↓x_gsCons, ↓x_gTup, ↓x_gIx, ↓x_setAt, ↓x_asg, ↓x_par, ↓x_sm0, ↓x_smV, ↓x_smF, ↓x_app, ↓x_for, ↓x_for0, ↓x_for1, ↓x_comp0, ↓x_comp1, ↓x_fn, ↓x_iEnum, ↓x_range3, ↓x_comp2, ↓x_compN0, ↓x_compN1, ↓x_item2, ↓x_item2M, ↓x_gIx2, ↓x_compM, ↓x_callB, ↓x_pop, ↓x_dStar, ↓x_seeAt, ↓x_see, ↓x_seeR, ↓x_rev, ↓x_idx, ↓x_repL, ↓x_sortK, ↓x_lenSet, ↓x_dct0, q_addI, q_addT, q_addL, q_subI, q_ltI, q_leI, q_gtI, q_geI, q_isN, q_isNotN, q_isB, q_isNotB, q_eqI, q_neI, q_eqB, q_eqT0, q_eqT1, q_neT0, q_neT1, q_eqL0, q_eqL1, q_neL0, q_neL1, q_int, q_abs, q_min2, q_max2, q_at0, q_at1, q_at2, q_at3, q_ix0, q_ix1, q_ix2, q_sz, q_iteS, q_iteT, q_iteR, q_iteV, q_iteBB, q_iteII, q_iteAnd, q_iteOr, q_iteNot, q_iteCon, q_pa0, q_pa1, q_pa2, q_pa3, q_pa4, q_ow4, q_ma0, q_ma1, q_ma2, q_ma3, q_ma4, q_ow0, q_ow1, q_ow2, q_ow3, q_c0, q_c1, q_c2, q_c3, q_c4, q_c5, q_c6, q_c7, q_c8, q_c9, q_c10, q_c11, q_c12, q_all0, q_all1, q_all2, q_all3, q_inN2, q_inN0, q_02a, q_02b, q_repr, q_ol1, q_ol2, q_ol3, q_ll1, q_ll2, q_ll3, q_scB, q_strI, q_strB, q_addBI, q_subBI, q_subIB, q_mulIB, List.getElem?_cons_zero, List.getElem?_cons_succ, List.set_cons_zero, List.set_cons_succ, wipeE, initE, outsOf, toAv, toAvB, scal, slotsOf, putOuts, natNodup, List.map_cons, List.map_nil, List.cons_append, List.nil_append, List.append_nil, List.replicate, List.length_cons, List.length_nil, isNone, isiD, seqD, gItem, truD, zipOf, zipD, pick, List.contains_nil, List.contains_cons, eq_self, List.cons_ne_nil, if_true, if_false, Bool.false_eq_true, Bool.true_eq_false, Bool.not_true, Bool.not_false, reduceIte, decide_true, decide_false, Nat.reduceAdd, Nat.reduceSub, Nat.zero_add, Nat.add_zero, and_self, true_and, and_true, Bool.and_true, Bool.true_and, Bool.or_false, Bool.false_or, Bool.or_true, Bool.true_or, Bool.and_false, Bool.false_and, Bool.or_self, Bool.and_self, Nat.sub_self, Option.map_some, Option.map_none, Nat.reduceBEq, Bool.not_eq_true, beq_self_eq_true, Nat.reduceLeDiff, Nat.reduceLT, Nat.reduceEqDiff, List.filterMap_cons, List.filterMap_nil, $as,*])
open PySem PySem.Spec PyProof.Rows L2
section
variable {f g h w : Fn}
/-! ## cuts -/
/-! ## what is held -/
end
end Ev
namespace Ev
local macro_rules
  | `(tactic| simp! only [$as,*]) => `(tactic| simp only [↓x_var, ↓x_C, ↓x_op, ↓x_fz, ↓x_rV, ↓x_B, ↓x_chain, ↓x_tru, ↓x_notT, ↓x_andT, ↓x_orT, ↓x_and, ↓x_or, ↓x_not, ↓x_neg, ↓x_if, ↓x_aNil, ↓x_aVal, ↓x_aSlot, ↓x_aTmp, ↓x_aR, ↓x_call, ↓x_callK, ↓x_dNil, ↓x_dCons, ↓x_tup, ↓x_lst, ↓x_itemN, ↓x_ownItem, ↓x_lenN, ↓x_blt, ↓x_isi, ↓x_list, ↓x_rgL1, ↓x_rgL2, ↓x_iSeq, ↓x_iZip, ↓x_range1, ↓x_range2, ↓x_addR, ↓x_slice, ↓x_partN, ↓x_partS, ↓x_comp, ↓x_skip, ↓x_stuck, ↓x_break, ↓x_cont, ↓x_seq, ↓x_sIf, ↓x_sExpr, ↓x_ret, ↓x_retN, ↓x_move, ↓x_setRv, ↓x_setRf, ↓x_setRm, ↓x_set, ↓x_gN, ↓x_gsNil, ↓x_gsCons, ↓x_gTup, ↓x_gIx, ↓x_setAt, ↓x_asg, ↓x_par, ↓x_sm0, ↓x_smV, ↓x_smF, ↓x_app, ↓x_for, ↓x_for0, ↓x_for1, ↓x_comp0, ↓x_comp1, ↓x_fn, ↓x_iEnum, ↓x_range3, ↓x_comp2, ↓x_compN0, ↓x_compN1, ↓x_item2, ↓x_item2M, ↓x_gIx2, ↓x_compM, ↓x_callB, ↓x_pop, ↓x_dStar, ↓x_seeAt, ↓x_see, ↓x_seeR, ↓x_rev, ↓x_idx, ↓x_repL, ↓x_sortK, ↓x_lenSet, ↓x_dct0, q_addI, q_addT, q_addL, q_subI, q_ltI, q_leI, q_gtI, q_geI, q_isN, q_isNotN, q_isB, q_isNotB, q_eqI, q_neI, q_eqB, q_eqT0, q_eqT1, q_neT0, q_neT1, q_eqL0, q_eqL1, q_neL0, q_neL1, q_int, q_abs, q_min2, q_max2, q_at0, q_at1, q_at2, q_at3, q_ix0, q_ix1, q_ix2, q_sz, q_iteS, q_iteT, q_iteR, q_iteV, q_iteBB, q_iteII, q_iteAnd, q_iteOr, q_iteNot, q_iteCon, q_pa0, q_pa1, q_pa2, q_pa3, q_pa4, q_ow4, q_ma0, q_ma1, q_ma2, q_ma3, q_ma4, q_ow0, q_ow1, q_ow2, q_ow3, q_c0, q_c1, q_c2, q_c3, q_c4, q_c5, q_c6, q_c7, q_c8, q_c9, q_c10, q_c11, q_c12, q_all0, q_all1, q_all2, q_all3, q_inN2, q_inN0, q_02a, q_02b, q_repr, q_ol1, q_ol2, q_ol3, q_ll1, q_ll2, q_ll3, q_scB, q_strI, q_strB, q_addBI, q_subBI, q_subIB, q_mulIB, List.getElem?_cons_zero, List.getElem?_cons_succ, List.set_cons_zero, List.set_cons_succ, wipeE, initE, outsOf, toAv, toAvB, scal, slotsOf, putOuts, natNodup, List.map_cons, List.map_nil, List.cons_append, List.nil_append, List.append_nil, List.replicate, List.length_cons, List.length_nil, isNone, isiD, seqD, gItem, truD, zipOf, zipD, pick, List.contains_nil, List.contains_cons, eq_self, List.cons_ne_nil, if_true, if_false, Bool.false_eq_true, Bool.true_eq_false, Bool.not_true, Bool.not_false, reduceIte, decide_true, decide_false, Nat.reduceAdd, Nat.reduceSub, Nat.zero_add, Nat.add_zero, and_self, true_and, and_true, Bool.and_true, Bool.true_and, Bool.or_false, Bool.false_or, Bool.or_true, Bool.true_or, Bool.and_false, Bool.false_and, Bool.or_self, Bool.and_self, Nat.sub_self, Option.map_some, Option.map_none, Nat.reduceBEq, Bool.not_eq_true, beq_self_eq_true, Nat.reduceLeDiff, Nat.reduceLT, Nat.reduceEqDiff, List.filterMap_cons, List.filterMap_nil, $as,*])
open PySem PySem.Spec PyProof.Rows L2
section
variable {f g h w : Fn}
/-! ## sizes -/
/-! ## a slot -/
/-! ## the law's round -/
end
end Ev
namespace Ev
local macro_rules
  | `(tactic| simp! only [$as,*]) => `(tactic| simp only [↓x_var, ↓x_C, ↓x_op, ↓x_fz, ↓x_rV, ↓x_B, ↓x_chain, ↓x_tru, ↓x_notT, ↓x_andT, ↓x_orT, ↓x_and, ↓x_or, ↓x_not, ↓x_neg, ↓x_if, ↓x_aNil, ↓x_aVal, ↓x_aSlot, ↓x_aTmp, ↓x_aR, ↓x_call, ↓x_callK, ↓x_dNil, ↓x_dCons, ↓x_tup, ↓x_lst, ↓x_itemN, ↓x_ownItem, ↓x_lenN, ↓x_blt, ↓x_isi, ↓x_list, ↓x_rgL1, ↓x_rgL2, ↓x_iSeq, ↓x_iZip, ↓x_range1, ↓x_range2, ↓x_addR, ↓x_slice, ↓x_partN, ↓x_partS, ↓x_comp, ↓x_skip, ↓x_stuck, ↓x_break, ↓x_cont, ↓x_seq, ↓x_sIf, ↓x_sExpr, ↓x_ret, ↓x_retN, ↓x_move, ↓x_setRv, ↓x_setRf, ↓x_setRm, ↓x_set, ↓x_gN, ↓x_gsNil, ↓x_gsCons, ↓x_gTup, ↓x_gIx, ↓x_setAt, ↓x_asg, ↓x_par, ↓x_sm0, ↓x_smV, ↓x_smF, ↓x_app, ↓x_for, ↓x_for0, ↓x_for1, ↓x_comp0, ↓x_comp1, ↓x_fn, ↓x_iEnum, ↓x_range3, ↓x_comp2, ↓x_compN0, ↓x_compN1, ↓x_item2, ↓x_item2M, ↓x_gIx2, ↓x_compM, ↓x_callB, ↓x_pop, ↓x_dStar, ↓x_seeAt, ↓x_see, ↓x_seeR, ↓x_rev, ↓x_idx, ↓x_repL, ↓x_sortK, ↓x_lenSet, ↓x_dct0, q_addI, q_addT, q_addL, q_subI, q_ltI, q_leI, q_gtI, q_geI, q_isN, q_isNotN, q_isB, q_isNotB, q_eqI, q_neI, q_eqB, q_eqT0, q_eqT1, q_neT0, q_neT1, q_eqL0, q_eqL1, q_neL0, q_neL1, q_int, q_abs, q_min2, q_max2, q_at0, q_at1, q_at2, q_at3, q_ix0, q_ix1, q_ix2, q_sz, q_iteS, q_iteT, q_iteR, q_iteV, q_iteBB, q_iteII, q_iteAnd, q_iteOr, q_iteNot, q_iteCon, q_pa0, q_pa1, q_pa2, q_pa3, q_pa4, q_ow4, q_ma0, q_ma1, q_ma2, q_ma3, q_ma4, q_ow0, q_ow1, q_ow2, q_ow3, q_c0, q_c1, q_c2, q_c3, q_c4, q_c5, q_c6, q_c7, q_c8, q_c9, q_c10, q_c11, q_c12, q_all0, q_all1, q_all2, q_all3, q_inN2, q_inN0, q_02a, q_02b, q_repr, q_ol1, q_ol2, q_ol3, q_ll1, q_ll2, q_ll3, q_scB, q_strI, q_strB, q_addBI, q_subBI, q_subIB, q_mulIB, List.getElem?_cons_zero, List.getElem?_cons_succ, List.set_cons_zero, List.set_cons_succ, wipeE, initE, outsOf, toAv, toAvB, scal, slotsOf, putOuts, natNodup, List.map_cons, List.map_nil, List.cons_append, List.nil_append, List.append_nil, List.replicate, List.length_cons, List.length_nil, isNone, isiD, seqD, gItem, truD, zipOf, zipD, pick, List.contains_nil, List.contains_cons, eq_self, List.cons_ne_nil, if_true, if_false, Bool.false_eq_true, Bool.true_eq_false, Bool.not_true, Bool.not_false, reduceIte, decide_true, decide_false, Nat.reduceAdd, Nat.reduceSub, Nat.zero_add, Nat.add_zero, and_self, true_and, and_true, Bool.and_true, Bool.true_and, Bool.or_false, Bool.false_or, Bool.or_true, Bool.true_or, Bool.and_false, Bool.false_and, Bool.or_self, Bool.and_self, Nat.sub_self, Option.map_some, Option.map_none, Nat.reduceBEq, Bool.not_eq_true, beq_self_eq_true, Nat.reduceLeDiff, Nat.reduceLT, Nat.reduceEqDiff, List.filterMap_cons, List.filterMap_nil, $as,*])
open PySem PySem.Spec PyProof.Rows L2
section
variable {f g h w : Fn}
/-! ## k44: the law's own looks -/
/-! ## all that is made -/
abbrev pr (n : Nat) (x : Option MF) : D := .tuple [.int n, eDf (n + 1) x]
end
end Ev
namespace Ev
local macro_rules
  | `(tactic| simp! only [$as,*]) => `(tactic| simp only [↓x_var, ↓x_C, ↓x_op, ↓x_fz, ↓x_rV, ↓x_B, ↓x_chain, ↓x_tru, ↓x_notT, ↓x_andT, ↓x_orT, ↓x_and, ↓x_or, ↓x_not, ↓x_neg, ↓x_if, ↓x_aNil, ↓x_aVal, ↓x_aSlot, ↓x_aTmp, ↓x_aR, ↓x_call, ↓x_callK, ↓x_dNil, ↓x_dCons, ↓x_tup, ↓x_lst, ↓x_itemN, ↓x_ownItem, ↓x_lenN, ↓x_blt, ↓x_isi, ↓x_list, ↓x_rgL1, ↓x_rgL2, ↓x_iSeq, ↓x_iZip, ↓x_range1, ↓x_range2, ↓x_addR, ↓x_slice, ↓x_partN, ↓x_partS, ↓x_comp, ↓x_skip, ↓x_stuck, ↓x_break, ↓x_cont, ↓x_seq, ↓x_sIf, ↓x_sExpr, ↓x_ret, ↓x_retN, ↓x_move, ↓x_setRv, ↓x_setRf, ↓x_setRm, ↓x_set, ↓x_gN, ↓x_gsNil, ↓x_gsCons, ↓x_gTup, ↓x_gIx, ↓x_setAt, ↓x_asg, ↓x_par, ↓x_sm0, ↓x_smV, ↓x_smF, ↓x_app, ↓x_for, ↓x_for0, ↓x_for1, ↓x_comp0, ↓x_comp1, ↓x_fn, ↓x_iEnum, ↓x_range3, ↓x_comp2, ↓x_compN0, ↓x_compN1, ↓x_item2, ↓x_item2M, ↓x_gIx2, ↓x_compM, ↓x_callB, ↓x_pop, ↓x_dStar, ↓x_seeAt, ↓x_see, ↓x_seeR, ↓x_rev, ↓x_idx, ↓x_repL, ↓x_sortK, ↓x_lenSet, ↓x_dct0, q_addI, q_addT, q_addL, q_subI, q_ltI, q_leI, q_gtI, q_geI, q_isN, q_isNotN, q_isB, q_isNotB, q_eqI, q_neI, q_eqB, q_eqT0, q_eqT1, q_neT0, q_neT1, q_eqL0, q_eqL1, q_neL0, q_neL1, q_int, q_abs, q_min2, q_max2, q_at0, q_at1, q_at2, q_at3, q_ix0, q_ix1, q_ix2, q_sz, q_iteS, q_iteT, q_iteR, q_iteV, q_iteBB, q_iteII, q_iteAnd, q_iteOr, q_iteNot, q_iteCon, q_pa0, q_pa1, q_pa2, q_pa3, q_pa4, q_ow4, q_ma0, q_ma1, q_ma2, q_ma3, q_ma4, q_ow0, q_ow1, q_ow2, q_ow3, q_c0, q_c1, q_c2, q_c3, q_c4, q_c5, q_c6, q_c7, q_c8, q_c9, q_c10, q_c11, q_c12, q_all0, q_all1, q_all2, q_all3, q_inN2, q_inN0, q_02a, q_02b, q_repr, q_ol1, q_ol2, q_ol3, q_ll1, q_ll2, q_ll3, q_scB, q_strI, q_strB, q_addBI, q_subBI, q_subIB, q_mulIB, List.getElem?_cons_zero, List.getElem?_cons_succ, List.set_cons_zero, List.set_cons_succ, wipeE, initE, outsOf, toAv, toAvB, scal, slotsOf, putOuts, natNodup, List.map_cons, List.map_nil, List.cons_append, List.nil_append, List.append_nil, List.replicate, List.length_cons, List.length_nil, isNone, isiD, seqD, gItem, truD, zipOf, zipD, pick, List.contains_nil, List.contains_cons, eq_self, List.cons_ne_nil, if_true, if_false, Bool.false_eq_true, Bool.true_eq_false, Bool.not_true, Bool.not_false, reduceIte, decide_true, decide_false, Nat.reduceAdd, Nat.reduceSub, Nat.zero_add, Nat.add_zero, and_self, true_and, and_true, Bool.and_true, Bool.true_and, Bool.or_false, Bool.false_or, Bool.or_true, Bool.true_or, Bool.and_false, Bool.false_and, Bool.or_self, Bool.and_self, Nat.sub_self, Option.map_some, Option.map_none, Nat.reduceBEq, Bool.not_eq_true, beq_self_eq_true, Nat.reduceLeDiff, Nat.reduceLT, Nat.reduceEqDiff, List.filterMap_cons, List.filterMap_nil, $as,*])
open PySem PySem.Spec PyProof.Rows L2
section
variable {f g h w : Fn}
/-! ## k44: the round -/
end
end Ev
set_option exponentiation.threshold 1000000
namespace Ev
local macro_rules
  | `(tactic| simp! only [$as,*]) => `(tactic| simp only [↓x_var, ↓x_C, ↓x_op, ↓x_fz, ↓x_rV, ↓x_B, ↓x_chain, ↓x_tru, ↓x_notT, ↓x_andT, ↓x_orT, ↓x_and, ↓x_or, ↓x_not, ↓x_neg, ↓x_if, ↓x_aNil, ↓x_aVal, ↓x_aSlot, ↓x_aTmp, ↓x_aR, ↓x_call, ↓x_callK, ↓x_dNil, ↓x_dCons, ↓x_tup, ↓x_lst, ↓x_itemN, ↓x_ownItem, ↓x_lenN, ↓x_blt, ↓x_isi, ↓x_list, ↓x_rgL1, ↓x_rgL2, ↓x_iSeq, ↓x_iZip, ↓x_range1, ↓x_range2, ↓x_addR, ↓x_slice, ↓x_partN, ↓x_partS, ↓x_comp, ↓x_skip, ↓x_stuck, ↓x_break, ↓x_cont, ↓x_seq, ↓x_sIf, ↓x_sExpr, ↓x_ret, ↓x_retN, ↓x_move, ↓x_setRv, ↓x_setRf, ↓x_setRm, ↓x_set, ↓x_gN, ↓x_gsNil, ↓x_gsCons, ↓x_gTup, ↓x_gIx, ↓x_setAt, ↓x_asg, ↓x_par, ↓x_sm0, ↓x_smV, ↓x_smF, ↓x_app, ↓x_for, ↓x_for0, ↓x_for1, ↓x_comp0, ↓x_comp1, ↓x_fn, ↓x_iEnum, ↓x_range3, ↓x_comp2, ↓x_compN0, ↓x_compN1, ↓x_item2, ↓x_item2M, ↓x_gIx2, ↓x_compM, ↓x_callB, ↓x_pop, ↓x_dStar, ↓x_seeAt, ↓x_see, ↓x_seeR, ↓x_rev, ↓x_idx, ↓x_repL, ↓x_sortK, ↓x_lenSet, ↓x_dct0, q_addI, q_addT, q_addL, q_subI, q_ltI, q_leI, q_gtI, q_geI, q_isN, q_isNotN, q_isB, q_isNotB, q_eqI, q_neI, q_eqB, q_eqT0, q_eqT1, q_neT0, q_neT1, q_eqL0, q_eqL1, q_neL0, q_neL1, q_int, q_abs, q_min2, q_max2, q_at0, q_at1, q_at2, q_at3, q_ix0, q_ix1, q_ix2, q_sz, q_iteS, q_iteT, q_iteR, q_iteV, q_iteBB, q_iteII, q_iteAnd, q_iteOr, q_iteNot, q_iteCon, q_pa0, q_pa1, q_pa2, q_pa3, q_pa4, q_ow4, q_ma0, q_ma1, q_ma2, q_ma3, q_ma4, q_ow0, q_ow1, q_ow2, q_ow3, q_c0, q_c1, q_c2, q_c3, q_c4, q_c5, q_c6, q_c7, q_c8, q_c9, q_c10, q_c11, q_c12, q_all0, q_all1, q_all2, q_all3, q_inN2, q_inN0, q_02a, q_02b, q_repr, q_ol1, q_ol2, q_ol3, q_ll1, q_ll2, q_ll3, q_scB, q_strI, q_strB, q_addBI, q_subBI, q_subIB, q_mulIB, List.getElem?_cons_zero, List.getElem?_cons_succ, List.set_cons_zero, List.set_cons_succ, wipeE, initE, outsOf, toAv, toAvB, scal, slotsOf, putOuts, natNodup, List.map_cons, List.map_nil, List.cons_append, List.nil_append, List.append_nil, List.replicate, List.length_cons, List.length_nil, isNone, isiD, seqD, gItem, truD, zipOf, zipD, pick, List.contains_nil, List.contains_cons, eq_self, List.cons_ne_nil, if_true, if_false, Bool.false_eq_true, Bool.true_eq_false, Bool.not_true, Bool.not_false, reduceIte, decide_true, decide_false, Nat.reduceAdd, Nat.reduceSub, Nat.zero_add, Nat.add_zero, and_self, true_and, and_true, Bool.and_true, Bool.true_and, Bool.or_false, Bool.false_or, Bool.or_true, Bool.true_or, Bool.and_false, Bool.false_and, Bool.or_self, Bool.and_self, Nat.sub_self, Option.map_some, Option.map_none, Nat.reduceBEq, Bool.not_eq_true, beq_self_eq_true, Nat.reduceLeDiff, Nat.reduceLT, Nat.reduceEqDiff, List.filterMap_cons, List.filterMap_nil, $as,*])
open PySem PySem.Spec PyProof.Rows L2
section
variable {f g h w : Fn}
/-! ## looks at data of any kind -/
def intB : D → Bool
  | .int _ => true
  | _ => false
def endB : D → Bool
  | .none => true
  | .int _ => true
  | _ => false
theorem q_neTT (xs : List D) : gNe (.tuple xs) (.tuple []) = some (.bool (!xs.isEmpty)) := by
  cases xs with
  | nil => exact q_neT0
  | cons a l => exact q_neT1
theorem asR {n : Nat} {xs : List D} (h : xs.length = n) : (List.range n).map (fun j => xs.getD j .none) = xs := by
  subst h
  refine List.ext_getElem (by rw [List.length_map, List.length_range]) fun i h1 h2 => ?_
  rw [List.getElem_map, List.getElem_range]
  simp [List.getD, h2]
abbrev FWhlD (f : Fn) : Prop := ∀ d : D, f [.val d] = some (.val (.bool (intB d)), [])
theorem k_is_whole_any : FWhlD k_is_whole := fun d => by
  cases d <;> simp! only [k_is_whole, k_is_whole_b, intB]
abbrev FEndD (f : Fn) : Prop := ∀ d : D, f [.val d] = some (.val (.bool (endB d)), [])
theorem k_is_end_any (H : FWhlD f) : FEndD (k_is_end f) := fun d => by
  have e := H d
  cases d <;> simp only [intB] at e <;> simp! only [k_is_end, k_is_end_b, endB, e]
theorem ex_rng {n : Nat} {xs : List D} (h : xs.length = n) : ∃ F : Nat → D, xs = (List.range n).map F := ⟨_, (asR h).symm⟩
/-! ## the law's own look -/
/-! ## differences without bounds -/
end
end Ev
set_option exponentiation.threshold 1000000
namespace Ev
local macro_rules
  | `(tactic| simp! only [$as,*]) => `(tactic| simp only [↓x_var, ↓x_C, ↓x_op, ↓x_fz, ↓x_rV, ↓x_B, ↓x_chain, ↓x_tru, ↓x_notT, ↓x_andT, ↓x_orT, ↓x_and, ↓x_or, ↓x_not, ↓x_neg, ↓x_if, ↓x_aNil, ↓x_aVal, ↓x_aSlot, ↓x_aTmp, ↓x_aR, ↓x_call, ↓x_callK, ↓x_dNil, ↓x_dCons, ↓x_tup, ↓x_lst, ↓x_itemN, ↓x_ownItem, ↓x_lenN, ↓x_blt, ↓x_isi, ↓x_list, ↓x_rgL1, ↓x_rgL2, ↓x_iSeq, ↓x_iZip, ↓x_range1, ↓x_range2, ↓x_addR, ↓x_slice, ↓x_partN, ↓x_partS, ↓x_comp, ↓x_skip, ↓x_stuck, ↓x_break, ↓x_cont, ↓x_seq, ↓x_sIf, ↓x_sExpr, ↓x_ret, ↓x_retN, ↓x_move, ↓x_setRv, ↓x_setRf, ↓x_setRm, ↓x_set, ↓x_gN, ↓x_gsNil, ↓x_gsCons, ↓x_gTup, ↓x_gIx, ↓x_setAt, ↓x_asg, ↓x_par, ↓x_sm0, ↓x_smV, ↓x_smF, ↓x_app, ↓x_for, ↓x_for0, ↓x_for1, ↓x_comp0, ↓x_comp1, ↓x_fn, ↓x_iEnum, ↓x_range3, ↓x_comp2, ↓x_compN0, ↓x_compN1, ↓x_item2, ↓x_item2M, ↓x_gIx2, ↓x_compM, ↓x_callB, ↓x_pop, ↓x_dStar, ↓x_seeAt, ↓x_see, ↓x_seeR, ↓x_rev, ↓x_idx, ↓x_repL, ↓x_sortK, ↓x_lenSet, ↓x_dct0, q_addI, q_addT, q_addL, q_subI, q_ltI, q_leI, q_gtI, q_geI, q_isN, q_isNotN, q_isB, q_isNotB, q_eqI, q_neI, q_eqB, q_eqT0, q_eqT1, q_neT0, q_neT1, q_eqL0, q_eqL1, q_neL0, q_neL1, q_int, q_abs, q_min2, q_max2, q_at0, q_at1, q_at2, q_at3, q_ix0, q_ix1, q_ix2, q_sz, q_iteS, q_iteT, q_iteR, q_iteV, q_iteBB, q_iteII, q_iteAnd, q_iteOr, q_iteNot, q_iteCon, q_pa0, q_pa1, q_pa2, q_pa3, q_pa4, q_ow4, q_ma0, q_ma1, q_ma2, q_ma3, q_ma4, q_ow0, q_ow1, q_ow2, q_ow3, q_c0, q_c1, q_c2, q_c3, q_c4, q_c5, q_c6, q_c7, q_c8, q_c9, q_c10, q_c11, q_c12, q_all0, q_all1, q_all2, q_all3, q_inN2, q_inN0, q_02a, q_02b, q_repr, q_ol1, q_ol2, q_ol3, q_ll1, q_ll2, q_ll3, q_scB, q_strI, q_strB, q_addBI, q_subBI, q_subIB, q_mulIB, List.getElem?_cons_zero, List.getElem?_cons_succ, List.set_cons_zero, List.set_cons_succ, wipeE, initE, outsOf, toAv, toAvB, scal, slotsOf, putOuts, natNodup, List.map_cons, List.map_nil, List.cons_append, List.nil_append, List.append_nil, List.replicate, List.length_cons, List.length_nil, isNone, isiD, seqD, gItem, truD, zipOf, zipD, pick, List.contains_nil, List.contains_cons, eq_self, List.cons_ne_nil, if_true, if_false, Bool.false_eq_true, Bool.true_eq_false, Bool.not_true, Bool.not_false, reduceIte, decide_true, decide_false, Nat.reduceAdd, Nat.reduceSub, Nat.zero_add, Nat.add_zero, and_self, true_and, and_true, Bool.and_true, Bool.true_and, Bool.or_false, Bool.false_or, Bool.or_true, Bool.true_or, Bool.and_false, Bool.false_and, Bool.or_self, Bool.and_self, Nat.sub_self, Option.map_some, Option.map_none, Nat.reduceBEq, Bool.not_eq_true, beq_self_eq_true, Nat.reduceLeDiff, Nat.reduceLT, Nat.reduceEqDiff, List.filterMap_cons, List.filterMap_nil, $as,*])
open PySem PySem.Spec PyProof.Rows L2
section
variable {f g h w : Fn}
/-! ## how long and how deep tuples are -/
theorem cut_sub {xs : List D} {a b : Option Int} : (∀ x ∈ cutD xs a b, x ∈ xs) ∧ (cutD xs a b).length ≤ xs.length := by
  unfold cutD
  refine ⟨fun x m => List.mem_of_mem_drop (List.mem_of_mem_take m), ?_⟩
  rw [List.length_take, List.length_drop]
  omega
/-! ## odd values -/
/-! ## values bent at any place -/
theorem at_get {xs : List D} {i : Nat} (hi : i < xs.length) : ∃ x ∈ xs, atI xs (i : Int) = some x ∧ ∀ y : D, cutD xs none (some (i : Int)) ++ [y] ++ cutD xs (some ((i : Int) + 1)) none = xs.set i y := by
  obtain ⟨F, hF⟩ := ex_rng (xs := xs) rfl
  have a1 := atI_rng (F := F) hi
  rw [← hF] at a1
  refine ⟨F i, ?_, a1, fun y => ?_⟩
  · rw [hF]
    exact List.mem_map.mpr ⟨i, List.mem_range.mpr hi, rfl⟩
  · have c1 : cutD xs none (some (i : Int)) = xs.take i := by
      unfold cutD
      rw [HT.sIx_none, HT.sIx_nat, List.drop_zero, Nat.min_eq_left (by omega), Nat.sub_zero]
    have c2 : cutD xs (some ((i : Int) + 1)) none = xs.drop (i + 1) := by
      unfold cutD
      rw [show (i : Int) + 1 = ((i + 1 : Nat) : Int) by omega, HT.sIx_nat, HT.sIx_none, Nat.min_eq_left (by omega)]
      exact List.take_of_length_le (by rw [List.length_drop]; omega)
    rw [c1, c2, List.append_assoc, List.singleton_append]
    exact (List.set_eq_take_append_cons_drop ..).symm ▸ (if_pos hi).symm
end
end Ev
namespace Ev
open PySem PySem.Spec PyProof.Rows L2
/-! ## rests -/
abbrev RR := Option (Int × Int)
def eR : RR → D
  | none => .tuple []
  | some (r, m) => .tuple [.int r, .int m]
theorem eR_n : eR none = .tuple [] := rfl
theorem eR_s {r m : Int} : eR (some (r, m)) = .tuple [.int r, .int m] := rfl
def okR : RR → Bool
  | none => true
  | some (r, m) => decide (m = 0 ∨ (0 < m ∧ 20160 % m = 0 ∧ 0 ≤ r ∧ r < m))
def hasR : RR → Int → Bool
  | none, _ => false
  | some (r, m), k => decide (m ∣ k - r)
/-! ### divisibility -/
theorem ok_r {r m : Int} (h : okR (some (r, m)) = true) : m = 0 ∨ (0 < m ∧ m ∣ 20160 ∧ 0 ≤ r ∧ r < m) := by
  rcases of_decide_eq_true h with h | ⟨h1, h2, h3⟩
  · exact .inl h
  · exact .inr ⟨h1, Int.dvd_of_emod_eq_zero h2, h3⟩
theorem ok_of {r m : Int} (h : m = 0 ∨ (0 < m ∧ m ∣ 20160 ∧ 0 ≤ r ∧ r < m)) : okR (some (r, m)) = true := decide_eq_true (by
  rcases h with h | ⟨h1, h2, h3⟩
  · exact .inl h
  · exact .inr ⟨h1, Int.emod_eq_zero_of_dvd h2, h3⟩)
theorem ok_nn {r m : Int} (h : okR (some (r, m)) = true) : 0 ≤ m ∧ m ≤ 20160 := by
  rcases ok_r h with rfl | ⟨h1, h2, -⟩
  · omega
  · exact ⟨by omega, Int.le_of_dvd (by decide) h2⟩
/-! ### within -/
/-! ### ranks -/
end Ev
namespace Ev
local macro_rules
  | `(tactic| simp! only [$as,*]) => `(tactic| simp only [↓x_var, ↓x_C, ↓x_op, ↓x_fz, ↓x_rV, ↓x_B, ↓x_chain, ↓x_tru, ↓x_notT, ↓x_andT, ↓x_orT, ↓x_and, ↓x_or, ↓x_not, ↓x_neg, ↓x_if, ↓x_aNil, ↓x_aVal, ↓x_aSlot, ↓x_aTmp, ↓x_aR, ↓x_call, ↓x_callK, ↓x_dNil, ↓x_dCons, ↓x_tup, ↓x_lst, ↓x_itemN, ↓x_ownItem, ↓x_lenN, ↓x_blt, ↓x_isi, ↓x_list, ↓x_rgL1, ↓x_rgL2, ↓x_iSeq, ↓x_iZip, ↓x_range1, ↓x_range2, ↓x_addR, ↓x_slice, ↓x_partN, ↓x_partS, ↓x_comp, ↓x_skip, ↓x_stuck, ↓x_break, ↓x_cont, ↓x_seq, ↓x_sIf, ↓x_sExpr, ↓x_ret, ↓x_retN, ↓x_move, ↓x_setRv, ↓x_setRf, ↓x_setRm, ↓x_set, ↓x_gN, ↓x_gsNil, ↓x_gsCons, ↓x_gTup, ↓x_gIx, ↓x_setAt, ↓x_asg, ↓x_par, ↓x_sm0, ↓x_smV, ↓x_smF, ↓x_app, ↓x_for, ↓x_for0, ↓x_for1, ↓x_comp0, ↓x_comp1, ↓x_fn, ↓x_iEnum, ↓x_range3, ↓x_comp2, ↓x_compN0, ↓x_compN1, ↓x_item2, ↓x_item2M, ↓x_gIx2, ↓x_compM, ↓x_callB, ↓x_pop, ↓x_dStar, ↓x_seeAt, ↓x_see, ↓x_seeR, ↓x_rev, ↓x_idx, ↓x_repL, ↓x_sortK, ↓x_lenSet, ↓x_dct0, q_addI, q_addT, q_addL, q_subI, q_ltI, q_leI, q_gtI, q_geI, q_isN, q_isNotN, q_isB, q_isNotB, q_eqI, q_neI, q_eqB, q_eqT0, q_eqT1, q_neT0, q_neT1, q_eqL0, q_eqL1, q_neL0, q_neL1, q_int, q_abs, q_min2, q_max2, q_at0, q_at1, q_at2, q_at3, q_ix0, q_ix1, q_ix2, q_sz, q_iteS, q_iteT, q_iteR, q_iteV, q_iteBB, q_iteII, q_iteAnd, q_iteOr, q_iteNot, q_iteCon, q_pa0, q_pa1, q_pa2, q_pa3, q_pa4, q_ow4, q_ma0, q_ma1, q_ma2, q_ma3, q_ma4, q_ow0, q_ow1, q_ow2, q_ow3, q_c0, q_c1, q_c2, q_c3, q_c4, q_c5, q_c6, q_c7, q_c8, q_c9, q_c10, q_c11, q_c12, q_all0, q_all1, q_all2, q_all3, q_inN2, q_inN0, q_02a, q_02b, q_repr, q_ol1, q_ol2, q_ol3, q_ll1, q_ll2, q_ll3, q_scB, q_strI, q_strB, q_addBI, q_subBI, q_subIB, q_mulIB, List.getElem?_cons_zero, List.getElem?_cons_succ, List.set_cons_zero, List.set_cons_succ, wipeE, initE, outsOf, toAv, toAvB, scal, slotsOf, putOuts, natNodup, List.map_cons, List.map_nil, List.cons_append, List.nil_append, List.append_nil, List.replicate, List.length_cons, List.length_nil, isNone, isiD, seqD, gItem, truD, zipOf, zipD, pick, List.contains_nil, List.contains_cons, eq_self, List.cons_ne_nil, if_true, if_false, Bool.false_eq_true, Bool.true_eq_false, Bool.not_true, Bool.not_false, reduceIte, decide_true, decide_false, Nat.reduceAdd, Nat.reduceSub, Nat.zero_add, Nat.add_zero, and_self, true_and, and_true, Bool.and_true, Bool.true_and, Bool.or_false, Bool.false_or, Bool.or_true, Bool.true_or, Bool.and_false, Bool.false_and, Bool.or_self, Bool.and_self, Nat.sub_self, Option.map_some, Option.map_none, Nat.reduceBEq, Bool.not_eq_true, beq_self_eq_true, Nat.reduceLeDiff, Nat.reduceLT, Nat.reduceEqDiff, List.filterMap_cons, List.filterMap_nil, $as,*])
open PySem PySem.Spec PyProof.Rows L2
/-! ## rests: what the functions do -/
theorem depth_eR (a : RR) : (eR a).depth ≤ 2 := by
  rcases a with _ | ⟨x, y⟩
  · simp [eR, PyData.depth, PyData.depthAll]
  · simp [eR, PyData.depth, PyData.depthAll]
theorem eqv_eR : ∀ a b : RR, PyData.eqv (eR a) (eR b) = decide (a = b)
  | none, none => rfl
  | none, some (_, _) => rfl
  | some (_, _), none => rfl
  | some (x, y), some (z, w) => by
    show PyData.eqv (.tuple [.int x, .int y]) (.tuple [.int z, .int w]) = _
    simp only [PyData.eqv, PyData.eqvAll, Bool.and_true]
    by_cases h1 : x = z <;> by_cases h2 : y = w <;> simp [h1, h2]
theorem plain_eR (a : RR) : (eR a).plain = true := by
  rcases a with _ | ⟨x, y⟩
  · rfl
  · simp [eR, PyData.plain, PyData.plainAll]
theorem q_neR (a b : RR) : gNe (eR a) (eR b) = some (.bool (!decide (a = b))) := by
  have h : eqOk (eR a) (eR b) = true := eqOk_iff.mpr ⟨by have := depth_eR a; omega, .inl (plain_eR a)⟩
  unfold gNe
  rw [if_pos h, eqv_eR]
section
variable {f g h w : Fn}
theorem k_multiple_ok (x : Int) {m : Int} (h : 0 ≤ m) : k_is_multiple [.val (.int x), .val (.int m)] = some (.val (.bool (decide (m ∣ x))), []) := by
  by_cases c : m = 0
  · subst c
    have e : decide ((0 : Int) ∣ x) = decide (x = 0) := decide_eq_decide.mpr Int.zero_dvd
    rw [e]
    simp! only [k_is_multiple, k_is_multiple_b]
  · have e : decide (m ∣ x) = decide (x % m = 0) := decide_eq_decide.mpr Int.dvd_iff_emod_eq_zero
    rw [e]
    simp! only [k_is_multiple, k_is_multiple_b, c, q_modI (show 0 < m by omega)]
abbrev MulF (f : Fn) : Prop := ∀ x m : Int, 0 ≤ m → f [.val (.int x), .val (.int m)] = some (.val (.bool (decide (m ∣ x))), [])
abbrev LeftF (f : Fn) : Prop := ∀ (a : RR) (k : Int), okR a = true → f [.val (eR a), .val (.int k)] = some (.val (.bool (hasR a k)), [])
abbrev ChkR (f : Fn) : Prop := ∀ a : RR, okR a = true → f [.val (eR a)] = some (.val .none, [])
theorem k_left_ok' (h1 : MulF f) : LeftF (k_is_left f) := fun a k ha => by
  rcases a with _ | ⟨r, m⟩
  · simp! only [k_is_left, k_is_left_b, eR_n, hasR]
  · simp! only [k_is_left, k_is_left_b, eR_s, hasR, h1 _ _ (ok_nn ha).1]
theorem k_rcheck_ok (h1 : ∀ a, okR a = true → f [.val (eR a)] = some (.val (.bool true), [])) : ChkR (k_check_rest f) := fun a ha => by
  simp! only [k_check_rest, k_check_rest_b, h1 a ha]
/-! ### the law's own -/
theorem has_law {r m k : Int} (h : okR (some (r, m)) = true) : hasR (some (r, m)) k = if m = 0 then decide (r = k) else decide (k % m = r) := by
  show decide (m ∣ k - r) = _
  split
  · rename_i c; subst c
    exact decide_eq_decide.mpr ⟨fun h => by have := Int.zero_dvd.mp h; omega, fun h => by rw [h]; simp⟩
  · rename_i c
    rcases ok_r h with rfl | ⟨h1, -, h3, h4⟩
    · exact absurd rfl c
    · refine decide_eq_decide.mpr ⟨fun h => ?_, fun h => ?_⟩
      · have h8 := Int.emod_eq_zero_of_dvd h
        have h9 : k % m = r % m := (Int.emod_eq_emod_iff_emod_sub_eq_zero).mpr h8
        rw [h9, Int.emod_eq_of_lt h3 h4]
      · rw [← h]; exact Int.dvd_self_sub_emod
theorem k__law_rhas_ok : LeftF k__law_rest_has := fun a k ha => by
  rcases a with _ | ⟨r, m⟩
  · simp! only [k__law_rest_has, k__law_rest_has_b, eR_n, hasR]
  · rw [has_law ha]
    by_cases c : m = 0
    · simp! only [k__law_rest_has, k__law_rest_has_b, eR_s, c]
    · have : 0 < m := by have := ok_nn ha; omega
      simp! only [k__law_rest_has, k__law_rest_has_b, eR_s, c, q_modI this]
end
end Ev
namespace Ev
local macro_rules
  | `(tactic| simp! only [$as,*]) => `(tactic| simp only [↓x_var, ↓x_C, ↓x_op, ↓x_fz, ↓x_rV, ↓x_B, ↓x_chain, ↓x_tru, ↓x_notT, ↓x_andT, ↓x_orT, ↓x_and, ↓x_or, ↓x_not, ↓x_neg, ↓x_if, ↓x_aNil, ↓x_aVal, ↓x_aSlot, ↓x_aTmp, ↓x_aR, ↓x_call, ↓x_callK, ↓x_dNil, ↓x_dCons, ↓x_tup, ↓x_lst, ↓x_itemN, ↓x_ownItem, ↓x_lenN, ↓x_blt, ↓x_isi, ↓x_list, ↓x_rgL1, ↓x_rgL2, ↓x_iSeq, ↓x_iZip, ↓x_range1, ↓x_range2, ↓x_addR, ↓x_slice, ↓x_partN, ↓x_partS, ↓x_comp, ↓x_skip, ↓x_stuck, ↓x_break, ↓x_cont, ↓x_seq, ↓x_sIf, ↓x_sExpr, ↓x_ret, ↓x_retN, ↓x_move, ↓x_setRv, ↓x_setRf, ↓x_setRm, ↓x_set, ↓x_gN, ↓x_gsNil, ↓x_gsCons, ↓x_gTup, ↓x_gIx, ↓x_setAt, ↓x_asg, ↓x_par, ↓x_sm0, ↓x_smV, ↓x_smF, ↓x_app, ↓x_for, ↓x_for0, ↓x_for1, ↓x_comp0, ↓x_comp1, ↓x_fn, ↓x_iEnum, ↓x_range3, ↓x_comp2, ↓x_compN0, ↓x_compN1, ↓x_item2, ↓x_item2M, ↓x_gIx2, ↓x_compM, ↓x_callB, ↓x_pop, ↓x_dStar, ↓x_seeAt, ↓x_see, ↓x_seeR, ↓x_rev, ↓x_idx, ↓x_repL, ↓x_sortK, ↓x_lenSet, ↓x_dct0, q_addI, q_addT, q_addL, q_subI, q_ltI, q_leI, q_gtI, q_geI, q_isN, q_isNotN, q_isB, q_isNotB, q_eqI, q_neI, q_eqB, q_eqT0, q_eqT1, q_neT0, q_neT1, q_eqL0, q_eqL1, q_neL0, q_neL1, q_int, q_abs, q_min2, q_max2, q_at0, q_at1, q_at2, q_at3, q_ix0, q_ix1, q_ix2, q_sz, q_iteS, q_iteT, q_iteR, q_iteV, q_iteBB, q_iteII, q_iteAnd, q_iteOr, q_iteNot, q_iteCon, q_pa0, q_pa1, q_pa2, q_pa3, q_pa4, q_ow4, q_ma0, q_ma1, q_ma2, q_ma3, q_ma4, q_ow0, q_ow1, q_ow2, q_ow3, q_c0, q_c1, q_c2, q_c3, q_c4, q_c5, q_c6, q_c7, q_c8, q_c9, q_c10, q_c11, q_c12, q_all0, q_all1, q_all2, q_all3, q_inN2, q_inN0, q_02a, q_02b, q_repr, q_ol1, q_ol2, q_ol3, q_ll1, q_ll2, q_ll3, q_scB, q_strI, q_strB, q_addBI, q_subBI, q_subIB, q_mulIB, List.getElem?_cons_zero, List.getElem?_cons_succ, List.set_cons_zero, List.set_cons_succ, wipeE, initE, outsOf, toAv, toAvB, scal, slotsOf, putOuts, natNodup, List.map_cons, List.map_nil, List.cons_append, List.nil_append, List.append_nil, List.replicate, List.length_cons, List.length_nil, isNone, isiD, seqD, gItem, truD, zipOf, zipD, pick, List.contains_nil, List.contains_cons, eq_self, List.cons_ne_nil, if_true, if_false, Bool.false_eq_true, Bool.true_eq_false, Bool.not_true, Bool.not_false, reduceIte, decide_true, decide_false, Nat.reduceAdd, Nat.reduceSub, Nat.zero_add, Nat.add_zero, and_self, true_and, and_true, Bool.and_true, Bool.true_and, Bool.or_false, Bool.false_or, Bool.or_true, Bool.true_or, Bool.and_false, Bool.false_and, Bool.or_self, Bool.and_self, Nat.sub_self, Option.map_some, Option.map_none, Nat.reduceBEq, Bool.not_eq_true, beq_self_eq_true, Nat.reduceLeDiff, Nat.reduceLT, Nat.reduceEqDiff, List.filterMap_cons, List.filterMap_nil, $as,*])
local macro_rules
  | `(tactic| dsimp! only [$as,*]) => `(tactic| simp only [↓x_var, ↓x_C, ↓x_op, ↓x_fz, ↓x_rV, ↓x_B, ↓x_chain, ↓x_tru, ↓x_notT, ↓x_andT, ↓x_orT, ↓x_and, ↓x_or, ↓x_not, ↓x_neg, ↓x_if, ↓x_aNil, ↓x_aVal, ↓x_aSlot, ↓x_aTmp, ↓x_aR, ↓x_call, ↓x_callK, ↓x_dNil, ↓x_dCons, ↓x_tup, ↓x_lst, ↓x_itemN, ↓x_ownItem, ↓x_lenN, ↓x_blt, ↓x_isi, ↓x_list, ↓x_rgL1, ↓x_rgL2, ↓x_iSeq, ↓x_iZip, ↓x_range1, ↓x_range2, ↓x_addR, ↓x_slice, ↓x_partN, ↓x_partS, ↓x_comp, ↓x_skip, ↓x_stuck, ↓x_break, ↓x_cont, ↓x_seq, ↓x_sIf, ↓x_sExpr, ↓x_ret, ↓x_retN, ↓x_move, ↓x_setRv, ↓x_setRf, ↓x_setRm, ↓x_set, ↓x_gN, ↓x_gsNil, ↓x_gsCons, ↓x_gTup, ↓x_gIx, ↓x_setAt, ↓x_asg, ↓x_par, ↓x_sm0, ↓x_smV, ↓x_smF, ↓x_app, ↓x_for, ↓x_for0, ↓x_for1, ↓x_comp0, ↓x_comp1, ↓x_fn, ↓x_iEnum, ↓x_range3, ↓x_comp2, ↓x_compN0, ↓x_compN1, ↓x_item2, ↓x_item2M, ↓x_gIx2, ↓x_compM, ↓x_callB, ↓x_pop, ↓x_dStar, ↓x_seeAt, ↓x_see, ↓x_seeR, ↓x_rev, ↓x_idx, ↓x_repL, ↓x_sortK, ↓x_lenSet, ↓x_dct0, q_addI, q_addT, q_addL, q_subI, q_ltI, q_leI, q_gtI, q_geI, q_isN, q_isNotN, q_isB, q_isNotB, q_eqI, q_neI, q_eqB, q_eqT0, q_eqT1, q_neT0, q_neT1, q_eqL0, q_eqL1, q_neL0, q_neL1, q_int, q_abs, q_min2, q_max2, q_at0, q_at1, q_at2, q_at3, q_ix0, q_ix1, q_ix2, q_sz, q_iteS, q_iteT, q_iteR, q_iteV, q_iteBB, q_iteII, q_iteAnd, q_iteOr, q_iteNot, q_iteCon, q_pa0, q_pa1, q_pa2, q_pa3, q_pa4, q_ow4, q_ma0, q_ma1, q_ma2, q_ma3, q_ma4, q_ow0, q_ow1, q_ow2, q_ow3, q_c0, q_c1, q_c2, q_c3, q_c4, q_c5, q_c6, q_c7, q_c8, q_c9, q_c10, q_c11, q_c12, q_all0, q_all1, q_all2, q_all3, q_inN2, q_inN0, q_02a, q_02b, q_repr, q_ol1, q_ol2, q_ol3, q_ll1, q_ll2, q_ll3, q_scB, q_strI, q_strB, q_addBI, q_subBI, q_subIB, q_mulIB, List.getElem?_cons_zero, List.getElem?_cons_succ, List.set_cons_zero, List.set_cons_succ, wipeE, initE, outsOf, toAv, toAvB, scal, slotsOf, putOuts, natNodup, List.map_cons, List.map_nil, List.cons_append, List.nil_append, List.append_nil, List.replicate, List.length_cons, List.length_nil, isNone, isiD, seqD, truD, zipOf, zipD, pick, List.contains_nil, List.contains_cons, eq_self, List.cons_ne_nil, if_true, if_false, Bool.false_eq_true, Bool.true_eq_false, Bool.not_true, Bool.not_false, reduceIte, decide_true, decide_false, Nat.reduceAdd, Nat.reduceSub, Nat.zero_add, Nat.add_zero, and_self, true_and, and_true, Bool.and_true, Bool.true_and, Bool.or_false, Bool.false_or, Bool.or_true, Bool.true_or, Bool.and_false, Bool.false_and, Bool.or_self, Bool.and_self, Nat.sub_self, Option.map_some, Option.map_none, Nat.reduceBEq, Bool.not_eq_true, beq_self_eq_true, Nat.reduceLeDiff, Nat.reduceLT, Nat.reduceEqDiff, List.filterMap_cons, List.filterMap_nil, $as,*])
open PySem PySem.Spec PyProof.Rows L2
/-! ## rests: the law's own -/
section
variable {f g h w : Fn}
end
end Ev
namespace Ev
local macro_rules
  | `(tactic| simp! only [$as,*]) => `(tactic| simp only [↓x_var, ↓x_C, ↓x_op, ↓x_fz, ↓x_rV, ↓x_B, ↓x_chain, ↓x_tru, ↓x_notT, ↓x_andT, ↓x_orT, ↓x_and, ↓x_or, ↓x_not, ↓x_neg, ↓x_if, ↓x_aNil, ↓x_aVal, ↓x_aSlot, ↓x_aTmp, ↓x_aR, ↓x_call, ↓x_callK, ↓x_dNil, ↓x_dCons, ↓x_tup, ↓x_lst, ↓x_itemN, ↓x_ownItem, ↓x_lenN, ↓x_blt, ↓x_isi, ↓x_list, ↓x_rgL1, ↓x_rgL2, ↓x_iSeq, ↓x_iZip, ↓x_range1, ↓x_range2, ↓x_addR, ↓x_slice, ↓x_partN, ↓x_partS, ↓x_comp, ↓x_skip, ↓x_stuck, ↓x_break, ↓x_cont, ↓x_seq, ↓x_sIf, ↓x_sExpr, ↓x_ret, ↓x_retN, ↓x_move, ↓x_setRv, ↓x_setRf, ↓x_setRm, ↓x_set, ↓x_gN, ↓x_gsNil, ↓x_gsCons, ↓x_gTup, ↓x_gIx, ↓x_setAt, ↓x_asg, ↓x_par, ↓x_sm0, ↓x_smV, ↓x_smF, ↓x_app, ↓x_for, ↓x_for0, ↓x_for1, ↓x_comp0, ↓x_comp1, ↓x_fn, ↓x_iEnum, ↓x_range3, ↓x_comp2, ↓x_compN0, ↓x_compN1, ↓x_item2, ↓x_item2M, ↓x_gIx2, ↓x_compM, ↓x_callB, ↓x_pop, ↓x_dStar, ↓x_seeAt, ↓x_see, ↓x_seeR, ↓x_rev, ↓x_idx, ↓x_repL, ↓x_sortK, ↓x_lenSet, ↓x_dct0, q_addI, q_addT, q_addL, q_subI, q_ltI, q_leI, q_gtI, q_geI, q_isN, q_isNotN, q_isB, q_isNotB, q_eqI, q_neI, q_eqB, q_eqT0, q_eqT1, q_neT0, q_neT1, q_eqL0, q_eqL1, q_neL0, q_neL1, q_int, q_abs, q_min2, q_max2, q_at0, q_at1, q_at2, q_at3, q_ix0, q_ix1, q_ix2, q_sz, q_iteS, q_iteT, q_iteR, q_iteV, q_iteBB, q_iteII, q_iteAnd, q_iteOr, q_iteNot, q_iteCon, q_pa0, q_pa1, q_pa2, q_pa3, q_pa4, q_ow4, q_ma0, q_ma1, q_ma2, q_ma3, q_ma4, q_ow0, q_ow1, q_ow2, q_ow3, q_c0, q_c1, q_c2, q_c3, q_c4, q_c5, q_c6, q_c7, q_c8, q_c9, q_c10, q_c11, q_c12, q_all0, q_all1, q_all2, q_all3, q_inN2, q_inN0, q_02a, q_02b, q_repr, q_ol1, q_ol2, q_ol3, q_ll1, q_ll2, q_ll3, q_scB, q_strI, q_strB, q_addBI, q_subBI, q_subIB, q_mulIB, List.getElem?_cons_zero, List.getElem?_cons_succ, List.set_cons_zero, List.set_cons_succ, wipeE, initE, outsOf, toAv, toAvB, scal, slotsOf, putOuts, natNodup, List.map_cons, List.map_nil, List.cons_append, List.nil_append, List.append_nil, List.replicate, List.length_cons, List.length_nil, isNone, isiD, seqD, gItem, truD, zipOf, zipD, pick, List.contains_nil, List.contains_cons, eq_self, List.cons_ne_nil, if_true, if_false, Bool.false_eq_true, Bool.true_eq_false, Bool.not_true, Bool.not_false, reduceIte, decide_true, decide_false, Nat.reduceAdd, Nat.reduceSub, Nat.zero_add, Nat.add_zero, and_self, true_and, and_true, Bool.and_true, Bool.true_and, Bool.or_false, Bool.false_or, Bool.or_true, Bool.true_or, Bool.and_false, Bool.false_and, Bool.or_self, Bool.and_self, Nat.sub_self, Option.map_some, Option.map_none, Nat.reduceBEq, Bool.not_eq_true, beq_self_eq_true, Nat.reduceLeDiff, Nat.reduceLT, Nat.reduceEqDiff, List.filterMap_cons, List.filterMap_nil, $as,*])
open PySem PySem.Spec PyProof.Rows L2
/-! ## rests drawn -/
def szR (z : Int) : RR → Prop
  | none => True
  | some (r, _) => -z ≤ r ∧ r ≤ z
theorem szR.mono {z z' : Int} {a : RR} (h : szR z a) (hz : z ≤ z') : szR z' a := by
  rcases a with _ | ⟨r, m⟩
  · trivial
  · exact ⟨by have := h.1; omega, by have := h.2; omega⟩
def Pa (g : Fn) : Prop := ∀ (b : Nat) (ds : List D), Src (b + 4) ds → ∃ (p : Int) (ds' : List D), g [.own ds] = some (.val (.int p), [ds']) ∧ 0 < p ∧ p ∣ 20160 ∧ p ≤ 20160 ∧ Src b ds'
def Rst (k : Nat) (g : Fn) : Prop := ∀ (b : Nat) (ds : List D), Src (b + k) ds → ∃ (a : RR) (ds' : List D), g [.own ds] = some (.val (eR a), [ds']) ∧ okR a = true ∧ szR (2 ^ 111) a ∧ Src b ds'
def Rnr (k : Nat) (g : Fn) : Prop := ∀ (b : Nat) (ds : List D) (o : RR) (z : Int), Src (b + k) ds → okR o = true → szR z o → 2 ^ 111 ≤ z → ∃ (a : RR) (ds' : List D), g [.own ds, .val (eR o)] = some (.val (eR a), [ds']) ∧ okR a = true ∧ szR (z + 400000) a ∧ Src b ds'
theorem pick_tup {p : Fn} (P : Pk p) {b : Nat} {ds : List D} {xs : List D} (h : Src (b + 1) ds) (hx : xs ≠ []) (hl : xs.length < 1000000) : ∃ d ∈ xs, ∃ ds', p [.own ds, .val (.tuple xs)] = some (.val d, [ds']) ∧ Src b ds' := (P b ds xs h hx hl).2
theorem k_part_ok {p : Fn} (P : Pk p) : Pa (k__law_part p) := by
  intro b ds h
  obtain ⟨d1, h1, s1, e1, g1⟩ := pick_tup P (b := b + 3) (xs := [.int 1, .int 1, .int 2, .int 2, .int 4, .int 4, .int 8, .int 16, .int 32, .int 64]) h (by simp) (by simp)
  obtain ⟨d2, h2, s2, e2, g2⟩ := pick_tup P (b := b + 2) (xs := [.int 1, .int 1, .int 3, .int 9]) g1 (by simp) (by simp)
  obtain ⟨d3, h3, s3, e3, g3⟩ := pick_tup P (b := b + 1) (xs := [.int 1, .int 1, .int 1, .int 5]) g2 (by simp) (by simp)
  obtain ⟨d4, h4, s4, e4, g4⟩ := pick_tup P (b := b) (xs := [.int 1, .int 1, .int 1, .int 7]) g3 (by simp) (by simp)
  have f1 : ∃ t ∈ [(1 : Int), 2, 4, 8, 16, 32, 64], d1 = .int t := by simp only [List.mem_cons, List.not_mem_nil, or_false] at h1; rcases h1 with rfl | rfl | rfl | rfl | rfl | rfl | rfl | rfl | rfl | rfl <;> exact ⟨_, by decide, rfl⟩
  have f2 : ∃ t ∈ [(1 : Int), 3, 9], d2 = .int t := by simp only [List.mem_cons, List.not_mem_nil, or_false] at h2; rcases h2 with rfl | rfl | rfl | rfl <;> exact ⟨_, by decide, rfl⟩
  have f3 : ∃ t ∈ [(1 : Int), 5], d3 = .int t := by simp only [List.mem_cons, List.not_mem_nil, or_false] at h3; rcases h3 with rfl | rfl | rfl | rfl <;> exact ⟨_, by decide, rfl⟩
  have f4 : ∃ t ∈ [(1 : Int), 7], d4 = .int t := by simp only [List.mem_cons, List.not_mem_nil, or_false] at h4; rcases h4 with rfl | rfl | rfl | rfl <;> exact ⟨_, by decide, rfl⟩
  obtain ⟨t1, m1, rfl⟩ := f1
  obtain ⟨t2, m2, rfl⟩ := f2
  obtain ⟨t3, m3, rfl⟩ := f3
  obtain ⟨t4, m4, rfl⟩ := f4
  have all : ([(1 : Int), 2, 4, 8, 16, 32, 64].all fun t1 => [(1 : Int), 3, 9].all fun t2 => [(1 : Int), 5].all fun t3 => [(1 : Int), 7].all fun t4 => decide (0 < t1 * t2 * t3 * t4 ∧ 20160 % (t1 * t2 * t3 * t4) = 0 ∧ t1 * t2 * t3 * t4 ≤ 20160) && (mulOk t1 t2 && (mulOk (t1 * t2) t3 && mulOk (t1 * t2 * t3) t4))) = true := by decide +kernel
  have q := List.all_eq_true.mp (List.all_eq_true.mp (List.all_eq_true.mp (List.all_eq_true.mp all t1 m1) t2 m2) t3 m3) t4 m4
  obtain ⟨q1, q2⟩ := andB q
  obtain ⟨q2, q3⟩ := andB q2
  obtain ⟨q3, q4⟩ := andB q3
  obtain ⟨r1, r2, r3⟩ := of_decide_eq_true q1
  refine ⟨t1 * t2 * t3 * t4, s4, ?_, r1, Int.dvd_of_emod_eq_zero r2, r3, g4⟩
  simp! only [k__law_part, k__law_part_b, e1, e2, e3, e4, q_mulI q2, q_mulI q3, q_mulI q4]
theorem ok_mk {x g : Int} (h1 : 0 < g) (h2 : g ∣ 20160) : okR (some (x % g, g)) = true := ok_of (.inr ⟨h1, h2, Int.emod_nonneg _ (by omega), Int.emod_lt_of_pos _ h1⟩)
theorem k_rest_ok {t nu pa : Fn} (T : Tk t) (N : Nm 7 (2 ^ 110) nu) (P : Pa pa) : Rst 8 (k__law_rest t nu pa) := by
  intro b ds h
  obtain ⟨v1, d1, e1, p1, q1, s1⟩ := T (b + 7) ds 9 h (by decide) (by decide)
  by_cases c1 : v1 < 3
  · by_cases c0 : v1 = 0
    · refine ⟨none, d1, ?_, rfl, trivial, s1.mono (by omega)⟩
      subst c0
      simp! only [k__law_rest, k__law_rest_b, e1, eR_n]
      rfl
    · obtain ⟨v, d2, e2, z1, z2, s2⟩ := N b d1 s1
      refine ⟨some (v, 0), d2, ?_, ok_of (.inl rfl), ⟨by omega, by omega⟩, s2⟩
      simp! only [k__law_rest, k__law_rest_b, e1, e2, c0, c1, eR_s]
  · obtain ⟨p, d2, e2, z1, z2, z3, s2⟩ := P (b + 3) d1 s1
    obtain ⟨v, d3, e3, p3, q3, s3⟩ := T (b + 2) d2 p s2 z1 (by omega)
    refine ⟨some (v, p), d3, ?_, ok_of (.inr ⟨z1, z2, p3, q3⟩), ⟨by omega, by omega⟩, s3.mono (by omega)⟩
    simp! only [k__law_rest, k__law_rest_b, e1, e2, e3, c1, eR_s]
theorem k_rnear_ok {t p pa re : Fn} (T : Tk t) (P : Pk p) (A : Pa pa) (R : Rst 8 re) : Rnr 16 (k__law_rest_near t p pa re) := by
  intro b ds o z h ho hz hz2
  rcases o with _ | ⟨r, m⟩
  · obtain ⟨a, d1, e1, oa, za, s1⟩ := R (b + 8) ds h
    refine ⟨a, d1, ?_, oa, za.mono (by omega), s1.mono (by omega)⟩
    simp! only [k__law_rest_near, k__law_rest_near_b, eR_n, e1]
  obtain ⟨v1, d1, e1, p1, q1, s1⟩ := T (b + 15) ds 4 h (by decide) (by decide)
  by_cases c1 : v1 = 0
  · obtain ⟨a, d2, e2, oa, za, s2⟩ := R (b + 7) d1 s1
    refine ⟨a, d2, ?_, oa, za.mono (by omega), s2.mono (by omega)⟩
    simp! only [k__law_rest_near, k__law_rest_near_b, eR_s, e1, c1, e2]
  obtain ⟨v2, d2, e2, p2, q2, s2⟩ := T (b + 14) d1 7 s1 (by decide) (by decide)
  obtain ⟨x, hx, d3, e3, s3⟩ := pick_tup P (b := b + 13) (xs := [.int 0, .int 0, .int 0, .int 1, .int (m / 2)]) s2 (by simp) (by simp)
  obtain ⟨v4, d4, e4, p4, q4, s4⟩ := T (b + 12) d3 4 s3 (by decide) (by decide)
  have hm := ok_nn ho
  have hx2 : ∃ k : Int, x = .int k ∧ 0 ≤ k ∧ k ≤ 20160 := by
    simp only [List.mem_cons, List.not_mem_nil, or_false] at hx
    rcases hx with rfl | rfl | rfl | rfl | rfl
    · exact ⟨0, rfl, by omega, by omega⟩
    · exact ⟨0, rfl, by omega, by omega⟩
    · exact ⟨0, rfl, by omega, by omega⟩
    · exact ⟨1, rfl, by omega, by omega⟩
    · exact ⟨m / 2, rfl, by omega, by omega⟩
  obtain ⟨k, rfl, k1, k2⟩ := hx2
  have hmul : mulOk m (v2 - 3) = true := mulOk_lt (a := 20) (b := 4) (by omega) (by omega) (by decide)
  have hfd : gFdiv (.int m) (.int 2) = some (.int (m / 2)) := q_fdivI (by decide) (by decide)
  have hb : -60480 ≤ m * (v2 - 3) ∧ m * (v2 - 3) ≤ 60480 := by
    have : v2 = 0 ∨ v2 = 1 ∨ v2 = 2 ∨ v2 = 3 ∨ v2 = 4 ∨ v2 = 5 ∨ v2 = 6 := by omega
    rcases this with rfl | rfl | rfl | rfl | rfl | rfl | rfl <;> omega
  have hz1 := hz.1
  have hz3 := hz.2
  by_cases c4 : v4 = 0
  · refine ⟨some (r + m * (v2 - 3) + k, 0), d4, ?_, ok_of (.inl rfl), ⟨by omega, by omega⟩, s4.mono (by omega)⟩
    simp! only [k__law_rest_near, k__law_rest_near_b, eR_s, e1, c1, e2, hfd, q_mulI hmul, e3, e4, c4]
  · obtain ⟨p, d5, e5, y1, y2, y3, s5⟩ := A (b + 8) d4 s4
    have b1 := Int.emod_nonneg (r + m * (v2 - 3) + k) (b := p) (by omega)
    have b2 := Int.emod_lt_of_pos (r + m * (v2 - 3) + k) y1
    refine ⟨some ((r + m * (v2 - 3) + k) % p, p), d5, ?_, ok_mk y1 y2, ⟨by omega, by omega⟩, s5.mono (by omega)⟩
    simp! only [k__law_rest_near, k__law_rest_near_b, eR_s, e1, c1, e2, hfd, q_mulI hmul, e3, e4, c4, e5, q_modI y1]
/-! ## ranks -/
section
variable {f g h w : Fn}
/-! ## k33 -/
end
end Ev
namespace Ev
local macro_rules
  | `(tactic| simp! only [$as,*]) => `(tactic| simp only [↓x_var, ↓x_C, ↓x_op, ↓x_fz, ↓x_rV, ↓x_B, ↓x_chain, ↓x_tru, ↓x_notT, ↓x_andT, ↓x_orT, ↓x_and, ↓x_or, ↓x_not, ↓x_neg, ↓x_if, ↓x_aNil, ↓x_aVal, ↓x_aSlot, ↓x_aTmp, ↓x_aR, ↓x_call, ↓x_callK, ↓x_dNil, ↓x_dCons, ↓x_tup, ↓x_lst, ↓x_itemN, ↓x_ownItem, ↓x_lenN, ↓x_blt, ↓x_isi, ↓x_list, ↓x_rgL1, ↓x_rgL2, ↓x_iSeq, ↓x_iZip, ↓x_range1, ↓x_range2, ↓x_addR, ↓x_slice, ↓x_partN, ↓x_partS, ↓x_comp, ↓x_skip, ↓x_stuck, ↓x_break, ↓x_cont, ↓x_seq, ↓x_sIf, ↓x_sExpr, ↓x_ret, ↓x_retN, ↓x_move, ↓x_setRv, ↓x_setRf, ↓x_setRm, ↓x_set, ↓x_gN, ↓x_gsNil, ↓x_gsCons, ↓x_gTup, ↓x_gIx, ↓x_setAt, ↓x_asg, ↓x_par, ↓x_sm0, ↓x_smV, ↓x_smF, ↓x_app, ↓x_for, ↓x_for0, ↓x_for1, ↓x_comp0, ↓x_comp1, ↓x_fn, ↓x_iEnum, ↓x_range3, ↓x_comp2, ↓x_compN0, ↓x_compN1, ↓x_item2, ↓x_item2M, ↓x_gIx2, ↓x_compM, ↓x_callB, ↓x_pop, ↓x_dStar, ↓x_seeAt, ↓x_see, ↓x_seeR, ↓x_rev, ↓x_idx, ↓x_repL, ↓x_sortK, ↓x_lenSet, ↓x_dct0, q_addI, q_addT, q_addL, q_subI, q_ltI, q_leI, q_gtI, q_geI, q_isN, q_isNotN, q_isB, q_isNotB, q_eqI, q_neI, q_eqB, q_eqT0, q_eqT1, q_neT0, q_neT1, q_eqL0, q_eqL1, q_neL0, q_neL1, q_int, q_abs, q_min2, q_max2, q_at0, q_at1, q_at2, q_at3, q_ix0, q_ix1, q_ix2, q_sz, q_iteS, q_iteT, q_iteR, q_iteV, q_iteBB, q_iteII, q_iteAnd, q_iteOr, q_iteNot, q_iteCon, q_pa0, q_pa1, q_pa2, q_pa3, q_pa4, q_ow4, q_ma0, q_ma1, q_ma2, q_ma3, q_ma4, q_ow0, q_ow1, q_ow2, q_ow3, q_c0, q_c1, q_c2, q_c3, q_c4, q_c5, q_c6, q_c7, q_c8, q_c9, q_c10, q_c11, q_c12, q_all0, q_all1, q_all2, q_all3, q_inN2, q_inN0, q_02a, q_02b, q_repr, q_ol1, q_ol2, q_ol3, q_ll1, q_ll2, q_ll3, q_scB, q_strI, q_strB, q_addBI, q_subBI, q_subIB, q_mulIB, List.getElem?_cons_zero, List.getElem?_cons_succ, List.set_cons_zero, List.set_cons_succ, wipeE, initE, outsOf, toAv, toAvB, scal, slotsOf, putOuts, natNodup, List.map_cons, List.map_nil, List.cons_append, List.nil_append, List.append_nil, List.replicate, List.length_cons, List.length_nil, isNone, isiD, seqD, gItem, truD, zipOf, zipD, pick, List.contains_nil, List.contains_cons, eq_self, List.cons_ne_nil, if_true, if_false, Bool.false_eq_true, Bool.true_eq_false, Bool.not_true, Bool.not_false, reduceIte, decide_true, decide_false, Nat.reduceAdd, Nat.reduceSub, Nat.zero_add, Nat.add_zero, and_self, true_and, and_true, Bool.and_true, Bool.true_and, Bool.or_false, Bool.false_or, Bool.or_true, Bool.true_or, Bool.and_false, Bool.false_and, Bool.or_self, Bool.and_self, Nat.sub_self, Option.map_some, Option.map_none, Nat.reduceBEq, Bool.not_eq_true, beq_self_eq_true, Nat.reduceLeDiff, Nat.reduceLT, Nat.reduceEqDiff, List.filterMap_cons, List.filterMap_nil, $as,*])
open PySem PySem.Spec PyProof.Rows L2
end Ev
set_option exponentiation.threshold 1000000
namespace Ev
local macro_rules
  | `(tactic| simp! only [$as,*]) => `(tactic| simp only [↓x_var, ↓x_C, ↓x_op, ↓x_fz, ↓x_rV, ↓x_B, ↓x_chain, ↓x_tru, ↓x_notT, ↓x_andT, ↓x_orT, ↓x_and, ↓x_or, ↓x_not, ↓x_neg, ↓x_if, ↓x_aNil, ↓x_aVal, ↓x_aSlot, ↓x_aTmp, ↓x_aR, ↓x_call, ↓x_callK, ↓x_dNil, ↓x_dCons, ↓x_tup, ↓x_lst, ↓x_itemN, ↓x_ownItem, ↓x_lenN, ↓x_blt, ↓x_isi, ↓x_list, ↓x_rgL1, ↓x_rgL2, ↓x_iSeq, ↓x_iZip, ↓x_range1, ↓x_range2, ↓x_addR, ↓x_slice, ↓x_partN, ↓x_partS, ↓x_comp, ↓x_skip, ↓x_stuck, ↓x_break, ↓x_cont, ↓x_seq, ↓x_sIf, ↓x_sExpr, ↓x_ret, ↓x_retN, ↓x_move, ↓x_setRv, ↓x_setRf, ↓x_setRm, ↓x_set, ↓x_gN, ↓x_gsNil, ↓x_gsCons, ↓x_gTup, ↓x_gIx, ↓x_setAt, ↓x_asg, ↓x_par, ↓x_sm0, ↓x_smV, ↓x_smF, ↓x_app, ↓x_for, ↓x_for0, ↓x_for1, ↓x_comp0, ↓x_comp1, ↓x_fn, ↓x_iEnum, ↓x_range3, ↓x_comp2, ↓x_compN0, ↓x_compN1, ↓x_item2, ↓x_item2M, ↓x_gIx2, ↓x_compM, ↓x_callB, ↓x_pop, ↓x_dStar, ↓x_seeAt, ↓x_see, ↓x_seeR, ↓x_rev, ↓x_idx, ↓x_repL, ↓x_sortK, ↓x_lenSet, ↓x_dct0, q_addI, q_addT, q_addL, q_subI, q_ltI, q_leI, q_gtI, q_geI, q_isN, q_isNotN, q_isB, q_isNotB, q_eqI, q_neI, q_eqB, q_eqT0, q_eqT1, q_neT0, q_neT1, q_eqL0, q_eqL1, q_neL0, q_neL1, q_int, q_abs, q_min2, q_max2, q_at0, q_at1, q_at2, q_at3, q_ix0, q_ix1, q_ix2, q_sz, q_iteS, q_iteT, q_iteR, q_iteV, q_iteBB, q_iteII, q_iteAnd, q_iteOr, q_iteNot, q_iteCon, q_pa0, q_pa1, q_pa2, q_pa3, q_pa4, q_ow4, q_ma0, q_ma1, q_ma2, q_ma3, q_ma4, q_ow0, q_ow1, q_ow2, q_ow3, q_c0, q_c1, q_c2, q_c3, q_c4, q_c5, q_c6, q_c7, q_c8, q_c9, q_c10, q_c11, q_c12, q_all0, q_all1, q_all2, q_all3, q_inN2, q_inN0, q_02a, q_02b, q_repr, q_ol1, q_ol2, q_ol3, q_ll1, q_ll2, q_ll3, q_scB, q_strI, q_strB, q_addBI, q_subBI, q_subIB, q_mulIB, List.getElem?_cons_zero, List.getElem?_cons_succ, List.set_cons_zero, List.set_cons_succ, wipeE, initE, outsOf, toAv, toAvB, scal, slotsOf, putOuts, natNodup, List.map_cons, List.map_nil, List.cons_append, List.nil_append, List.append_nil, List.replicate, List.length_cons, List.length_nil, isNone, isiD, seqD, gItem, truD, zipOf, zipD, pick, List.contains_nil, List.contains_cons, eq_self, List.cons_ne_nil, if_true, if_false, Bool.false_eq_true, Bool.true_eq_false, Bool.not_true, Bool.not_false, reduceIte, decide_true, decide_false, Nat.reduceAdd, Nat.reduceSub, Nat.zero_add, Nat.add_zero, and_self, true_and, and_true, Bool.and_true, Bool.true_and, Bool.or_false, Bool.false_or, Bool.or_true, Bool.true_or, Bool.and_false, Bool.false_and, Bool.or_self, Bool.and_self, Nat.sub_self, Option.map_some, Option.map_none, Nat.reduceBEq, Bool.not_eq_true, beq_self_eq_true, Nat.reduceLeDiff, Nat.reduceLT, Nat.reduceEqDiff, List.filterMap_cons, List.filterMap_nil, $as,*])
open PySem PySem.Spec PyProof.Rows L2
section
variable {f g h w : Fn}
/-! ## stretches and rests among data of any kind -/
def leEB : D → D → Bool
  | .int a, .int b => decide (a ≤ b)
  | _, _ => true
def strB : D → Bool
  | .tuple [] => true
  | .tuple [x, y] => endB x && (endB y && leEB x y)
  | _ => false
def w2B : D → Bool
  | .tuple [x, y] => intB x && intB y
  | _ => false
def rsB (r m : Int) : Bool := decide (0 ≤ m) && (decide (m = 0) || (decide ((20160 : Int).fmod m = 0) && (decide (0 ≤ r) && decide (r < m))))
def rs2B : D → D → Bool
  | .int r, .int m => rsB r m
  | _, _ => false
def restB : D → Bool
  | .tuple [] => true
  | .tuple [x, y] => rs2B x y
  | _ => false
theorem q_notin02 {n : Nat} : gNotIn (.int (n : Nat)) (.tuple [.int 0, .int 2]) = some (.bool (decide (n ≠ 0 ∧ n ≠ 2))) := by
  have h : inOk [.int 0, .int 2] (.int (n : Nat)) = true := inOk_iff.mpr ⟨Nat.le_trans (Nat.min_le_right ..) (by simp [PyData.depth]), .inl rfl⟩
  show (if inOk [.int 0, .int 2] (.int (n : Nat)) = true then some (PyData.bool (![PyData.int 0, .int 2].any fun y => PyData.eqv y (.int (n : Nat)))) else none) = _
  rw [if_pos h]
  congr 2
  simp only [List.any_cons, List.any_nil, PyData.eqv, Bool.or_false]
  by_cases a : n = 0
  · subst a; rfl
  · by_cases b : n = 2
    · subst b; rfl
    · have a' : ((0 : Int) == (n : Nat)) = false := beq_eq_false_iff_ne.mpr (by omega)
      have b' : ((2 : Int) == (n : Nat)) = false := beq_eq_false_iff_ne.mpr (by omega)
      rw [a', b', decide_eq_true ⟨a, b⟩]
      rfl
theorem strB_no {xs : List D} (h0 : xs.length ≠ 0) (h2 : xs.length ≠ 2) : strB (.tuple xs) = false := by
  match xs with
  | [] => exact absurd rfl h0
  | [_] => rfl
  | [_, _] => exact absurd rfl h2
  | _ :: _ :: _ :: _ => rfl
theorem restB_no {xs : List D} (h0 : xs.length ≠ 0) (h2 : xs.length ≠ 2) : restB (.tuple xs) = false := by
  match xs with
  | [] => exact absurd rfl h0
  | [_] => rfl
  | [_, _] => exact absurd rfl h2
  | _ :: _ :: _ :: _ => rfl
theorem w2B_no {xs : List D} (h2 : xs.length ≠ 2) : w2B (.tuple xs) = false := by
  match xs with
  | [] => rfl
  | [_] => rfl
  | [_, _] => exact absurd rfl h2
  | _ :: _ :: _ :: _ => rfl
theorem two_of {xs : List D} (h : xs.length = 2) : ∃ x y, xs = [x, y] ∧ atI xs 0 = some x ∧ atI xs 1 = some y := by
  match xs, h with
  | [x, y], _ => exact ⟨x, y, rfl, rfl, rfl⟩
abbrev FStrD (f : Fn) : Prop := ∀ d : D, f [.val d] = some (.val (.bool (strB d)), [])
theorem ge_all2 {a b : Bool} : gAll [.list [.bool a, .bool b]] = some (.bool (a && b)) := by cases a <;> cases b <;> rfl
theorem ge_all0 : gAll [.list []] = some (.bool true) := rfl
theorem end_kind {x : D} (h : endB x = true) : x = .none ∨ ∃ i, x = .int i := by
  cases x <;> first | exact .inl rfl | exact .inr ⟨_, rfl⟩ | cases h
theorem k_is_stretched_any (H : FEndD f) : FStrD (k_is_stretched f) := fun d => by
  cases d with
  | tuple xs =>
    have hn := q_notin02 (n := xs.length)
    by_cases h0 : xs.length = 0
    · have : xs = [] := List.length_eq_zero_iff.mp h0
      subst this
      rw [decide_eq_false (by simp)] at hn
      have i0 : gIn .none (.tuple []) = some (.bool false) := by kernel_rfl
      have hn : gNotIn (.int 0) (.tuple [.int 0, .int 2]) = some (.bool false) := hn
      simp! only [k_is_stretched, k_is_stretched_b, strB, hn, ge_all0, i0, q_eqT0]
    · by_cases h2 : xs.length = 2
      · obtain ⟨x, y, hxs, a0, a1⟩ := two_of h2
        rw [decide_eq_false fun z => z.2 h2] at hn
        have e1 := H x
        have e2 := H y
        have hc : compL (gN 1) (fun env => some (true, env)) (eFz (eCall f (aVal (eVar 1) aNil))) [1] xs [] [.val (.tuple xs), .no] = some ([.bool (endB x), .bool (endB y)], [.val (.tuple xs), .no]) := by
          generalize PyData.tuple xs = T
          subst hxs
          simp! only [e1, e2]
        have e3 := ge_all2 (a := endB x) (b := endB y)
        have gi : gIn .none (.tuple xs) = some (.bool (isNone x || isNone y)) := by subst hxs; exact q_inN2
        have gq : gEq (.tuple xs) (.tuple []) = some (.bool false) := by subst hxs; exact q_eqT1
        rw [show strB (.tuple xs) = (endB x && (endB y && leEB x y)) by rw [hxs]; rfl]
        clear hxs
        by_cases c : endB x = true ∧ endB y = true
        · obtain ⟨c1, c2⟩ := c
          rw [c1, c2] at e3 hc ⊢
          rcases end_kind c1 with rfl | ⟨i, rfl⟩
          · simp! only [k_is_stretched, k_is_stretched_b, hn, hc, e3, gi, leEB]
          · rcases end_kind c2 with rfl | ⟨j, rfl⟩
            · simp! only [k_is_stretched, k_is_stretched_b, hn, hc, e3, gi, leEB]
            · simp! only [k_is_stretched, k_is_stretched_b, hn, hc, e3, gi, gq, a0, a1, leEB]
        · have z : (endB x && endB y) = false := Bool.eq_false_iff.mpr fun q => c (by simpa using q)
          have z2 : (endB x && (endB y && leEB x y)) = false := by rw [← Bool.and_assoc, z]; rfl
          rw [z2]
          rw [z] at e3
          generalize endB x = bx at *
          generalize endB y = bY at *
          simp! only [k_is_stretched, k_is_stretched_b, hn, hc, e3]
      · rw [strB_no h0 h2]
        rw [decide_eq_true ⟨h0, h2⟩] at hn
        simp! only [k_is_stretched, k_is_stretched_b, hn]
  | none => simp! only [k_is_stretched, k_is_stretched_b, strB]
  | bool b => simp! only [k_is_stretched, k_is_stretched_b, strB]
  | int b => simp! only [k_is_stretched, k_is_stretched_b, strB]
  | str b => simp! only [k_is_stretched, k_is_stretched_b, strB]
  | list b => simp! only [k_is_stretched, k_is_stretched_b, strB]
  | dict b => simp! only [k_is_stretched, k_is_stretched_b, strB]
theorem ne2 {n : Nat} : gNe (.int (n : Nat)) (.int 2) = some (.bool (!decide (n = 2))) := by
  rw [q_neI]
  congr 3
  exact decide_eq_decide.mpr (by omega)
theorem eq2 {n : Nat} : gEq (.int (n : Nat)) (.int 2) = some (.bool (decide (n = 2))) := by
  rw [q_eqI]
  congr 2
  exact decide_eq_decide.mpr (by omega)
theorem eq0 {n : Nat} : gEq (.int (n : Nat)) (.int 0) = some (.bool (decide (n = 0))) := by
  rw [q_eqI]
  congr 2
  exact decide_eq_decide.mpr (by omega)
theorem k__law_is_stretch_any (H : FWhlD f) : FStrD (k__law_is_stretch f) := fun d => by
  cases d with
  | tuple xs =>
    by_cases h2 : xs.length = 2
    · obtain ⟨x, y, hxs, a0, a1⟩ := two_of h2
      have hn := ne2 (n := xs.length)
      rw [decide_eq_true h2] at hn
      have hc : compL (gN 1) (fun env => some (true, env)) (k__law_is_stretch_e1 f) [1] xs [] [.val (.tuple xs), .no] = some ([.bool (endB x), .bool (endB y)], [.val (.tuple xs), .no]) := by
        generalize PyData.tuple xs = T
        have b1 : ∀ z : D, k__law_is_stretch_e1 f [.val T, .val z] = some (.bool (endB z), [.val T, .val z]) := fun z => by
          have hz := H z
          cases z <;> simp only [intB] at hz <;> simp! only [k__law_is_stretch_e1, endB, hz]
        subst hxs
        generalize k__law_is_stretch_e1 f = FE at *
        simp! only [b1]
      have e3 := ge_all2 (a := endB x) (b := endB y)
      rw [show strB (.tuple xs) = (endB x && (endB y && leEB x y)) by rw [hxs]; rfl]
      clear hxs
      by_cases c : endB x = true ∧ endB y = true
      · obtain ⟨c1, c2⟩ := c
        rw [c1, c2] at e3 hc ⊢
        rcases end_kind c1 with rfl | ⟨i, rfl⟩
        · simp! only [k__law_is_stretch, k__law_is_stretch_b, hn, hc, e3, a0, leEB]
        · rcases end_kind c2 with rfl | ⟨j, rfl⟩
          · simp! only [k__law_is_stretch, k__law_is_stretch_b, hn, hc, e3, a0, a1, leEB]
          · simp! only [k__law_is_stretch, k__law_is_stretch_b, hn, hc, e3, a0, a1, leEB]
      · have z : (endB x && endB y) = false := Bool.eq_false_iff.mpr fun q => c (by simpa using q)
        have z2 : (endB x && (endB y && leEB x y)) = false := by rw [← Bool.and_assoc, z]; rfl
        rw [z2]
        rw [z] at e3
        generalize endB x = bx at *
        generalize endB y = bY at *
        simp! only [k__law_is_stretch, k__law_is_stretch_b, hn, hc, e3]
    · have hn := ne2 (n := xs.length)
      rw [decide_eq_false h2] at hn
      have h0 := eq0 (n := xs.length)
      by_cases c : xs.length = 0
      · have : xs = [] := List.length_eq_zero_iff.mp c
        subst this
        have hn : gNe (.int 0) (.int 2) = some (.bool true) := hn
        have h0 : gEq (.int 0) (.int 0) = some (.bool true) := h0
        simp! only [k__law_is_stretch, k__law_is_stretch_b, hn, h0, strB]
      · rw [strB_no c h2]
        rw [decide_eq_false c] at h0
        simp! only [k__law_is_stretch, k__law_is_stretch_b, hn, h0]
  | none => simp! only [k__law_is_stretch, k__law_is_stretch_b, strB]
  | bool b => simp! only [k__law_is_stretch, k__law_is_stretch_b, strB]
  | int b => simp! only [k__law_is_stretch, k__law_is_stretch_b, strB]
  | str b => simp! only [k__law_is_stretch, k__law_is_stretch_b, strB]
  | list b => simp! only [k__law_is_stretch, k__law_is_stretch_b, strB]
  | dict b => simp! only [k__law_is_stretch, k__law_is_stretch_b, strB]
abbrev FW2 (f : Fn) : Prop := ∀ d : D, f [.val d, .val (.int 2)] = some (.val (.bool (w2B d)), [])
theorem k_are_wholes_any2 (H : FWhlD f) : FW2 (k_are_wholes f) := fun d => by
  cases d with
  | tuple xs =>
    by_cases h2 : xs.length = 2
    · obtain ⟨x, y, hxs, a0, a1⟩ := two_of h2
      have hn := eq2 (n := xs.length)
      rw [decide_eq_true h2] at hn
      have e1 := H x
      have e2 := H y
      have e3 := ge_all2 (a := intB x) (b := intB y)
      have hc : compL (gN 2) (fun env => some (true, env)) (k_are_wholes_e1 f) [2] xs [] [.val (.tuple xs), .val (.int 2), .no] = some ([.bool (intB x), .bool (intB y)], [.val (.tuple xs), .val (.int 2), .no]) := by
        generalize PyData.tuple xs = T
        subst hxs
        simp! only [k_are_wholes_e1, e1, e2]
      rw [show w2B (.tuple xs) = (intB x && intB y) by rw [hxs]; rfl]
      clear hxs
      generalize intB x = a at *
      generalize intB y = b at *
      simp! only [k_are_wholes, k_are_wholes_b, hn, hc, e3]
    · have hn := eq2 (n := xs.length)
      rw [decide_eq_false h2] at hn
      rw [w2B_no h2]
      simp! only [k_are_wholes, k_are_wholes_b, hn]
  | none => simp! only [k_are_wholes, k_are_wholes_b, w2B]
  | bool b => simp! only [k_are_wholes, k_are_wholes_b, w2B]
  | int b => simp! only [k_are_wholes, k_are_wholes_b, w2B]
  | str b => simp! only [k_are_wholes, k_are_wholes_b, w2B]
  | list b => simp! only [k_are_wholes, k_are_wholes_b, w2B]
  | dict b => simp! only [k_are_wholes, k_are_wholes_b, w2B]
abbrev FRstD (f : Fn) : Prop := ∀ d : D, f [.val d] = some (.val (.bool (restB d)), [])
theorem rs2B_w {x y : D} (h : (intB x && intB y) = false) : rs2B x y = false := by
  cases x <;> cases y <;> first | rfl | cases h
theorem int_kind {x : D} (h : intB x = true) : ∃ i, x = .int i := by
  cases x <;> first | exact ⟨_, rfl⟩ | cases h
theorem k_is_rested_any (H : FW2 f) : FRstD (k_is_rested f) := fun d => by
  have e := H d
  cases d with
  | tuple xs =>
    by_cases h0 : xs = []
    · subst h0
      simp! only [k_is_rested, k_is_rested_b, q_eqT0, restB]
    · have hq : gEq (.tuple xs) (.tuple []) = some (.bool false) := by
        cases xs with
        | nil => exact absurd rfl h0
        | cons a l => exact q_eqT1
      by_cases h2 : xs.length = 2
      · obtain ⟨x, y, hxs, a0, a1⟩ := two_of h2
        rw [show w2B (.tuple xs) = (intB x && intB y) by rw [hxs]; rfl] at e
        rw [show restB (.tuple xs) = rs2B x y by rw [hxs]; rfl]
        clear hxs
        cases c : (intB x && intB y) with
        | false =>
          rw [c] at e
          rw [rs2B_w c]
          simp! only [k_is_rested, k_is_rested_b, hq, e]
        | true =>
          rw [c] at e
          rw [Bool.and_eq_true] at c
          obtain ⟨r, rfl⟩ := int_kind c.1
          obtain ⟨m, rfl⟩ := int_kind c.2
          show _ = some (R.val (.bool (rsB r m)), [])
          unfold rsB
          by_cases m0 : m < 0
          · rw [show decide (0 ≤ m) = false from decide_eq_false (by omega), Bool.false_and]
            simp! only [k_is_rested, k_is_rested_b, hq, e, a0, a1, m0]
          · rw [show decide (0 ≤ m) = true from decide_eq_true (by omega), Bool.true_and]
            by_cases mz : m = 0
            · subst mz
              simp! only [k_is_rested, k_is_rested_b, hq, e, a0, a1, Int.lt_irrefl]
            · have fm := q_fm (x := 20160) mz
              rw [show decide (m = 0) = false from decide_eq_false mz, Bool.false_or]
              by_cases d0 : (20160 : Int).fmod m = 0
              · by_cases r0 : (0 : Int) ≤ r
                · simp! only [k_is_rested, k_is_rested_b, hq, e, a0, a1, m0, mz, fm, d0, r0]
                · simp! only [k_is_rested, k_is_rested_b, hq, e, a0, a1, m0, mz, fm, d0, r0]
              · simp! only [k_is_rested, k_is_rested_b, hq, e, a0, a1, m0, mz, fm, d0]
      · rw [w2B_no h2] at e
        rw [restB_no (fun z => h0 (List.length_eq_zero_iff.mp z)) h2]
        simp! only [k_is_rested, k_is_rested_b, hq, e]
  | none => simp only [w2B] at e; simp! only [k_is_rested, k_is_rested_b, restB, e]
  | bool b => simp only [w2B] at e; simp! only [k_is_rested, k_is_rested_b, restB, e]
  | int b => simp only [w2B] at e; simp! only [k_is_rested, k_is_rested_b, restB, e]
  | str b => simp only [w2B] at e; simp! only [k_is_rested, k_is_rested_b, restB, e]
  | list b => simp only [w2B] at e; simp! only [k_is_rested, k_is_rested_b, restB, e]
  | dict b => simp only [w2B] at e; simp! only [k_is_rested, k_is_rested_b, restB, e]
theorem k__law_is_rest_any (H : FWhlD f) : FRstD (k__law_is_rest f) := fun d => by
  cases d with
  | tuple xs =>
    by_cases h2 : xs.length = 2
    · obtain ⟨x, y, hxs, a0, a1⟩ := two_of h2
      have hn := ne2 (n := xs.length)
      rw [decide_eq_true h2] at hn
      have e1 := H x
      have e2 := H y
      have hc : compL (gN 1) (fun env => some (true, env)) (k__law_is_rest_e1 f) [1] xs [] [.val (.tuple xs), .no] = some ([.bool (intB x), .bool (intB y)], [.val (.tuple xs), .no]) := by
        generalize PyData.tuple xs = T
        subst hxs
        simp! only [k__law_is_rest_e1, e1, e2]
      have e3 := ge_all2 (a := intB x) (b := intB y)
      rw [show restB (.tuple xs) = rs2B x y by rw [hxs]; rfl]
      clear hxs
      cases c : (intB x && intB y) with
      | false =>
        rw [c] at e3
        rw [rs2B_w c]
        generalize intB x = a at *
        generalize intB y = b at *
        simp! only [k__law_is_rest, k__law_is_rest_b, hn, hc, e3]
      | true =>
        rw [Bool.and_eq_true] at c
        rw [c.1, c.2] at e3 hc
        obtain ⟨r, rfl⟩ := int_kind c.1
        obtain ⟨m, rfl⟩ := int_kind c.2
        show _ = some (R.val (.bool (rsB r m)), [])
        unfold rsB
        by_cases m1 : m < 1
        · by_cases mz : m = 0
          · subst mz
            simp! only [k__law_is_rest, k__law_is_rest_b, hn, hc, e3, a0, a1, m1, Int.le_refl]
          · rw [show decide (0 ≤ m) = false from decide_eq_false (by omega), Bool.false_and]
            simp! only [k__law_is_rest, k__law_is_rest_b, hn, hc, e3, a0, a1, m1, mz]
        · have mz : m ≠ 0 := by omega
          rw [show decide (0 ≤ m) = true from decide_eq_true (by omega), Bool.true_and]
          have fm := q_fm (x := 20160) mz
          rw [show decide (m = 0) = false from decide_eq_false mz, Bool.false_or]
          by_cases d0 : (20160 : Int).fmod m = 0
          · by_cases r0 : (0 : Int) ≤ r
            · simp! only [k__law_is_rest, k__law_is_rest_b, hn, hc, e3, a0, a1, m1, fm, d0, r0]
            · simp! only [k__law_is_rest, k__law_is_rest_b, hn, hc, e3, a0, a1, m1, fm, d0, r0]
          · simp! only [k__law_is_rest, k__law_is_rest_b, hn, hc, e3, a0, a1, m1, fm, d0]
    · have hn := ne2 (n := xs.length)
      rw [decide_eq_false h2] at hn
      have h0 := eq0 (n := xs.length)
      by_cases c : xs.length = 0
      · have : xs = [] := List.length_eq_zero_iff.mp c
        subst this
        have hn : gNe (.int 0) (.int 2) = some (.bool true) := hn
        have h0 : gEq (.int 0) (.int 0) = some (.bool true) := h0
        simp! only [k__law_is_rest, k__law_is_rest_b, hn, h0, restB]
      · rw [restB_no c h2]
        rw [decide_eq_false c] at h0
        simp! only [k__law_is_rest, k__law_is_rest_b, hn, h0]
  | none => simp! only [k__law_is_rest, k__law_is_rest_b, restB]
  | bool b => simp! only [k__law_is_rest, k__law_is_rest_b, restB]
  | int b => simp! only [k__law_is_rest, k__law_is_rest_b, restB]
  | str b => simp! only [k__law_is_rest, k__law_is_rest_b, restB]
  | list b => simp! only [k__law_is_rest, k__law_is_rest_b, restB]
  | dict b => simp! only [k__law_is_rest, k__law_is_rest_b, restB]
theorem strB_eS (a : SS) : strB (eS a) = okS a := by
  rcases a with _ | ⟨x, y⟩
  · rfl
  · cases x <;> cases y <;> rfl
theorem restB_eR {a : RR} (h : okR a = true) : restB (eR a) = true := by
  rcases a with _ | ⟨r, m⟩
  · rfl
  · have h : decide (m = 0 ∨ (0 < m ∧ 20160 % m = 0 ∧ 0 ≤ r ∧ r < m)) = true := h
    have h := of_decide_eq_true h
    show rsB r m = true
    unfold rsB
    rcases h with rfl | ⟨h1, h2, h3, h4⟩
    · rfl
    · rw [Int.fmod_eq_emod_of_nonneg _ (by omega), h2]
      simp [show 0 ≤ m by omega, h3, h4]
end
end Ev
set_option exponentiation.threshold 1000000
namespace Ev
local macro_rules
  | `(tactic| simp! only [$as,*]) => `(tactic| simp only [↓x_var, ↓x_C, ↓x_op, ↓x_fz, ↓x_rV, ↓x_B, ↓x_chain, ↓x_tru, ↓x_notT, ↓x_andT, ↓x_orT, ↓x_and, ↓x_or, ↓x_not, ↓x_neg, ↓x_if, ↓x_aNil, ↓x_aVal, ↓x_aSlot, ↓x_aTmp, ↓x_aR, ↓x_call, ↓x_callK, ↓x_dNil, ↓x_dCons, ↓x_tup, ↓x_lst, ↓x_itemN, ↓x_ownItem, ↓x_lenN, ↓x_blt, ↓x_isi, ↓x_list, ↓x_rgL1, ↓x_rgL2, ↓x_iSeq, ↓x_iZip, ↓x_range1, ↓x_range2, ↓x_addR, ↓x_slice, ↓x_partN, ↓x_partS, ↓x_comp, ↓x_skip, ↓x_stuck, ↓x_break, ↓x_cont, ↓x_seq, ↓x_sIf, ↓x_sExpr, ↓x_ret, ↓x_retN, ↓x_move, ↓x_setRv, ↓x_setRf, ↓x_setRm, ↓x_set, ↓x_gN, ↓x_gsNil, ↓x_gsCons, ↓x_gTup, ↓x_gIx, ↓x_setAt, ↓x_asg, ↓x_par, ↓x_sm0, ↓x_smV, ↓x_smF, ↓x_app, ↓x_for, ↓x_for0, ↓x_for1, ↓x_comp0, ↓x_comp1, ↓x_fn, ↓x_iEnum, ↓x_range3, ↓x_comp2, ↓x_compN0, ↓x_compN1, ↓x_item2, ↓x_item2M, ↓x_gIx2, ↓x_compM, ↓x_callB, ↓x_pop, ↓x_dStar, ↓x_seeAt, ↓x_see, ↓x_seeR, ↓x_rev, ↓x_idx, ↓x_repL, ↓x_sortK, ↓x_lenSet, ↓x_dct0, q_addI, q_addT, q_addL, q_subI, q_ltI, q_leI, q_gtI, q_geI, q_isN, q_isNotN, q_isB, q_isNotB, q_eqI, q_neI, q_eqB, q_eqT0, q_eqT1, q_neT0, q_neT1, q_eqL0, q_eqL1, q_neL0, q_neL1, q_int, q_abs, q_min2, q_max2, q_at0, q_at1, q_at2, q_at3, q_ix0, q_ix1, q_ix2, q_sz, q_iteS, q_iteT, q_iteR, q_iteV, q_iteBB, q_iteII, q_iteAnd, q_iteOr, q_iteNot, q_iteCon, q_pa0, q_pa1, q_pa2, q_pa3, q_pa4, q_ow4, q_ma0, q_ma1, q_ma2, q_ma3, q_ma4, q_ow0, q_ow1, q_ow2, q_ow3, q_c0, q_c1, q_c2, q_c3, q_c4, q_c5, q_c6, q_c7, q_c8, q_c9, q_c10, q_c11, q_c12, q_all0, q_all1, q_all2, q_all3, q_inN2, q_inN0, q_02a, q_02b, q_repr, q_ol1, q_ol2, q_ol3, q_ll1, q_ll2, q_ll3, q_scB, q_strI, q_strB, q_addBI, q_subBI, q_subIB, q_mulIB, List.getElem?_cons_zero, List.getElem?_cons_succ, List.set_cons_zero, List.set_cons_succ, wipeE, initE, outsOf, toAv, toAvB, scal, slotsOf, putOuts, natNodup, List.map_cons, List.map_nil, List.cons_append, List.nil_append, List.append_nil, List.replicate, List.length_cons, List.length_nil, isNone, isiD, seqD, gItem, truD, zipOf, zipD, pick, List.contains_nil, List.contains_cons, eq_self, List.cons_ne_nil, if_true, if_false, Bool.false_eq_true, Bool.true_eq_false, Bool.not_true, Bool.not_false, reduceIte, decide_true, decide_false, Nat.reduceAdd, Nat.reduceSub, Nat.zero_add, Nat.add_zero, and_self, true_and, and_true, Bool.and_true, Bool.true_and, Bool.or_false, Bool.false_or, Bool.or_true, Bool.true_or, Bool.and_false, Bool.false_and, Bool.or_self, Bool.and_self, Nat.sub_self, Option.map_some, Option.map_none, Nat.reduceBEq, Bool.not_eq_true, beq_self_eq_true, Nat.reduceLeDiff, Nat.reduceLT, Nat.reduceEqDiff, List.filterMap_cons, List.filterMap_nil, $as,*])
open PySem PySem.Spec PyProof.Rows L2
section
variable {f g h w : Fn}
/-! ## k23: odd values, bent stretches and rests -/
abbrev LAny (k : Nat) (f : Fn) : Prop := ∀ (b : Nat) (ds : List D), Src (b + k) ds → ∃ (d : D) (ds' : List D), f [.own ds] = some (.val d, [ds']) ∧ Src b ds'
theorem k__law_odd_ok {p : Fn} (P : Pk p) : LAny 1 (k__law_odd p) := fun b ds hs => by
  have q30 : gPow (.int 10) (.int 30) = some (.int 1000000000000000000000000000000) := by kernel_rfl
  obtain ⟨d, hd, ds', e, s⟩ := pk_tup P [.none, .bool true, .bool false, .int 0, .int 1, .int (-3), .int 1000000000000000000000000000000, .str "", .str "<", .str "01", .tuple [], .tuple [.int 0], .tuple [.int 0, .int 1], .tuple [.int 1, .int 0], .tuple [.int 4, .int 3],
    .tuple [.int 3, .int 4], .tuple [.none, .none], .tuple [.none, .int 2], .tuple [.int 2, .none], .tuple [.bool true, .int 2], .tuple [.int 0, .bool true], .tuple [.bool false, .int 0], .tuple [.int 1, .int 2, .int 3],
    .tuple [.int 0, .int 20160], .tuple [.int 20160, .int 20160], .tuple [.int 0, .int 11], .tuple [.int 7, .int 7], .tuple [.int (-1), .int 4], .tuple [.int 0, .int (-4)], .tuple [.none, .str "2"], .tuple [.str "0", .int 2],
    .tuple [.tuple [], .tuple []], .tuple [.int 0, .tuple []], .list [], .list [.int 0, .int 1], .list [.none, .none], .dict [], .tuple [.tuple [.int 0, .int 1]]] hs (by simp) (by simp)
  refine ⟨d, ds', ?_, s⟩
  simp! only [k__law_odd, k__law_odd_b, q30, e]
/-- an end, not too great -/
def smE : D → Prop
  | .none => True
  | .int i => i.natAbs < 2 ^ 1900
  | _ => False
abbrev LBn0 (f : Fn) : Prop := ∀ (b : Nat) (ds : List D) (d : D), smE d → Src (b + 3) ds → ∃ (d' : D) (ds' : List D), f [.own ds, .val d] = some (.val d', [ds']) ∧ Src b ds'
abbrev LBn1 (f : Fn) : Prop := ∀ (b : Nat) (ds : List D) (xs : List D), xs.length ≤ 2 → (∀ x ∈ xs, smE x) → Src (b + 6) ds → ∃ (d' : D) (ds' : List D), f [.own ds, .val (.tuple xs)] = some (.val d', [ds']) ∧ Src b ds'
theorem log_lt {i : Int} {n : Nat} (h : i.natAbs < 2 ^ n) (hn : 0 < n) : i.natAbs.log2 < n := by
  by_cases z : i.natAbs = 0
  · rw [z]; exact hn
  · exact (Nat.log2_lt z).mpr h
theorem k_bentA_0 {dr od be : Fn} (T : Tk dr) (OD : LAny 1 od) : LBn0 (k__law_bent dr od be) := fun b ds d hd hs => by
  cases d with
  | none =>
    obtain ⟨y, d1, e1, p1, q1, s1⟩ := T (b + 2) ds 9 hs (by decide) (by decide)
    obtain ⟨r, d2, e2, s2⟩ := OD (b + 1) d1 s1
    exact ⟨r, d2, by simp! only [k__law_bent, k__law_bent_b, e1, e2], s2.mono (by omega)⟩
  | int i =>
    have hi : i.natAbs < 2 ^ 1900 := hd
    obtain ⟨y, d1, e1, p1, q1, s1⟩ := T (b + 2) ds 9 hs (by decide) (by decide)
    by_cases c : y < 6
    · have m1 := q_mulI (x := 2) (y := i) (decide_eq_true (by
        have h1 := log_lt hi (by decide)
        have h2 : (2 : Int).natAbs.log2 = 1 := by decide +kernel
        omega))
      have st : gStr [.int i] = some (.str (Str.ofString (toString i))) := by
        rw [q_strI]
        exact if_pos (Nat.lt_trans (log_lt hi (by decide)) (by decide))
      obtain ⟨r, hr, er⟩ := atI_mem (xs := [.int (i + 1), .int (0 - i), .int (2 * i), .int (i - 2), .bool (decide (i = 1)), .str (Str.ofString (toString i))]) p1 (by simpa using c)
      refine ⟨r, d1, ?_, s1.mono (by omega)⟩
      generalize Str.ofString (toString i) = tx at *
      simp! only [k__law_bent, k__law_bent_b, e1, c, m1, st, er]
    · obtain ⟨r, d2, e2, s2⟩ := OD (b + 1) d1 s1
      exact ⟨r, d2, by simp! only [k__law_bent, k__law_bent_b, e1, c, e2], s2.mono (by omega)⟩
  | bool i => cases hd
  | str i => cases hd
  | list i => cases hd
  | tuple i => cases hd
  | dict i => cases hd
theorem k_bentA_1 {dr od be : Fn} (T : Tk dr) (OD : LAny 1 od) (B : LBn0 be) : LBn1 (k__law_bent dr od be) := fun b ds xs len ok hs => by
  have hne := q_neTT xs
  have s1 := cut_sub (xs := xs) (a := none) (b := some (-1))
  have s2 := cut_sub (xs := xs) (a := some (-1)) (b := none)
  have s3 := cut_sub (xs := xs) (a := none) (b := some 1)
  have a1 : gAdd (.tuple xs) (.tuple (cutD xs (some (-1)) none)) = some (.tuple (xs ++ cutD xs (some (-1)) none)) := if_pos (by rw [q_sz]; omega)
  have a2 : gAdd (.tuple (cutD xs none (some 1))) (.tuple xs) = some (.tuple (cutD xs none (some 1) ++ xs)) := if_pos (by rw [q_sz]; omega)
  by_cases e : xs = []
  · rw [show xs.isEmpty = true by rw [e]; rfl] at hne
    obtain ⟨y, d1, e1, p1, q1, s1⟩ := T (b + 2) ds 9 (hs.mono (by omega)) (by decide) (by decide)
    by_cases c : y < 6
    · obtain ⟨r, hr, er⟩ := atI_mem (xs := [PyData.list xs, .tuple (cutD xs none (some (-1))), .tuple (xs ++ cutD xs (some (-1)) none), .tuple xs.reverse, .tuple (cutD xs (some 1) none), .tuple (cutD xs none (some 1) ++ xs)]) p1 (by simpa using c)
      exact ⟨r, d1, by simp! only [k__law_bent, k__law_bent_b, hne, e1, c, a1, a2, er], s1.mono (by omega)⟩
    · obtain ⟨r, d2, e2, s2⟩ := OD (b + 1) d1 s1
      exact ⟨r, d2, by simp! only [k__law_bent, k__law_bent_b, hne, e1, c, e2], s2.mono (by omega)⟩
  · rw [show xs.isEmpty = false by cases xs with | nil => exact absurd rfl e | cons => rfl] at hne
    have hp : 0 < xs.length := List.length_pos_iff.mpr e
    obtain ⟨z, d0, e0, p0, q0, s0⟩ := T (b + 5) ds 4 hs (by decide) (by decide)
    by_cases cz : 0 < z
    · obtain ⟨v, d1, e1, p1, q1, s1⟩ := T (b + 4) d0 xs.length s0 (by omega) (by omega)
      obtain ⟨i, rfl⟩ := Int.eq_ofNat_of_zero_le p1
      have hi : i < xs.length := by omega
      obtain ⟨x, mx, ax, hset⟩ := at_get hi
      obtain ⟨r, d2, e2, s2⟩ := B b d1 x (ok x mx) (s1.mono (by omega))
      have w1 := (cut_sub (xs := xs) (a := none) (b := some (i : Int))).2
      have w2 := (cut_sub (xs := xs) (a := some ((i : Int) + 1)) (b := none)).2
      have g1 : gAdd (.tuple (cutD xs none (some (i : Int)))) (.tuple [r]) = some (.tuple (cutD xs none (some (i : Int)) ++ [r])) := if_pos (by rw [List.length_singleton, q_sz]; omega)
      have g2 : gAdd (.tuple (cutD xs none (some (i : Int)) ++ [r])) (.tuple (cutD xs (some ((i : Int) + 1)) none)) = some (.tuple (cutD xs none (some (i : Int)) ++ [r] ++ cutD xs (some ((i : Int) + 1)) none)) := if_pos (by
        rw [List.length_append, List.length_singleton, q_sz]; omega)
      rw [hset r] at g2
      exact ⟨.tuple (xs.set i r), d2, by simp! only [k__law_bent, k__law_bent_b, hne, e0, cz, e1, ax, e2, g1, g2], s2⟩
    · obtain ⟨y, d1, e1, p1, q1, s1⟩ := T (b + 2) d0 9 (s0.mono (by omega)) (by decide) (by decide)
      by_cases c : y < 6
      · obtain ⟨r, hr, er⟩ := atI_mem (xs := [PyData.list xs, .tuple (cutD xs none (some (-1))), .tuple (xs ++ cutD xs (some (-1)) none), .tuple xs.reverse, .tuple (cutD xs (some 1) none), .tuple (cutD xs none (some 1) ++ xs)]) p1 (by simpa using c)
        exact ⟨r, d1, by simp! only [k__law_bent, k__law_bent_b, hne, e0, cz, e1, c, a1, a2, er], s1.mono (by omega)⟩
      · obtain ⟨r, d2, e2, s2⟩ := OD (b + 1) d1 s1
        exact ⟨r, d2, by simp! only [k__law_bent, k__law_bent_b, hne, e0, cz, e1, c, e2], s2.mono (by omega)⟩
theorem small_i {i z : Int} (h : -z ≤ i ∧ i ≤ z) (hz : z ≤ 2 ^ 200) : i.natAbs < 2 ^ 1900 := by
  have : i.natAbs ≤ 2 ^ 200 := by
    have e : ((2 ^ 200 : Nat) : Int) = (2 : Int) ^ 200 := by norm_cast
    omega
  exact Nat.lt_of_le_of_lt this (Nat.pow_lt_pow_right (by decide) (by decide))
theorem sm_eS {a : SS} {z : Int} (h : szS z a) (hz : z ≤ 2 ^ 200) : ∃ xs : List D, eS a = .tuple xs ∧ xs.length ≤ 2 ∧ ∀ x ∈ xs, smE x := by
  have one : ∀ x : EE, szE z x → smE (eE x) := fun x hx => by
    cases x with
    | none => trivial
    | some i => exact small_i hx hz
  rcases a with _ | ⟨x, y⟩
  · exact ⟨[], rfl, by decide, fun x m => by cases m⟩
  · refine ⟨[eE x, eE y], rfl, Nat.le_refl _, fun v m => ?_⟩
    simp only [List.mem_cons, List.not_mem_nil, or_false] at m
    rcases m with rfl | rfl
    · exact one x h.1
    · exact one y h.2
theorem sm_eR {a : RR} {z : Int} (ok : okR a = true) (h : szR z a) (hz : z ≤ 2 ^ 200) : ∃ xs : List D, eR a = .tuple xs ∧ xs.length ≤ 2 ∧ ∀ x ∈ xs, smE x := by
  rcases a with _ | ⟨r, m⟩
  · exact ⟨[], rfl, by decide, fun x m => by cases m⟩
  · refine ⟨[.int r, .int m], rfl, Nat.le_refl _, fun v q => ?_⟩
    simp only [List.mem_cons, List.not_mem_nil, or_false] at q
    have ok : decide (m = 0 ∨ (0 < m ∧ 20160 % m = 0 ∧ 0 ≤ r ∧ r < m)) = true := ok
    have ok := of_decide_eq_true ok
    rcases q with rfl | rfl
    · exact small_i h hz
    · have : m.natAbs ≤ 20160 := by
        rcases ok with rfl | ⟨h1, h2, _⟩
        · decide
        · have := Int.le_of_dvd (by decide) (Int.dvd_of_emod_eq_zero h2)
          omega
      exact Nat.lt_of_le_of_lt this (Nat.lt_of_lt_of_le (show 20160 < 2 ^ 16 by decide) (Nat.pow_le_pow_right (by decide) (by decide)))
theorem k__law_value_ok {ta st re od be : Fn} (T : Tk ta) (S : St 9 (2 ^ 111) st) (R : Rst 8 re) (OD : LAny 1 od) (B : LBn1 be) : LAny 16 (k__law_value ta st re od be) := fun b ds hs => by
  obtain ⟨y, d1, e1, p1, q1, s1⟩ := T (b + 15) ds 7 hs (by decide) (by decide)
  by_cases y0 : y = 0
  · subst y0
    obtain ⟨r, d2, e2, s2⟩ := OD (b + 1) d1 (s1.mono (by omega))
    exact ⟨r, d2, by simp! only [k__law_value, k__law_value_b, e1, e2], s2.mono (by omega)⟩
  · by_cases y4 : y < 4
    · obtain ⟨a, d2, e2, ok, sz, s2⟩ := S (b + 6) d1 s1
      obtain ⟨xs, ex, len, sm⟩ := sm_eS sz (by decide)
      by_cases y1 : y = 1
      · subst y1
        refine ⟨eS a, d2, ?_, s2.mono (by omega)⟩
        generalize eS a = da at *
        simp! only [k__law_value, k__law_value_b, e1, e2, y0, y4]
      · obtain ⟨r, d3, e3, s3⟩ := B b d2 xs len sm s2
        rw [← ex] at e3
        refine ⟨r, d3, ?_, s3⟩
        generalize eS a = da at *
        have c4 : ¬ y = 4 := by omega
        simp! only [k__law_value, k__law_value_b, e1, e2, e3, y0, y1, y4, c4]
    · obtain ⟨a, d2, e2, ok, sz, s2⟩ := R (b + 7) d1 s1
      obtain ⟨xs, ex, len, sm⟩ := sm_eR ok sz (by decide)
      by_cases c4 : y = 4
      · subst c4
        refine ⟨eR a, d2, ?_, s2.mono (by omega)⟩
        generalize eR a = da at *
        simp! only [k__law_value, k__law_value_b, e1, e2, Int.reduceEq, Int.reduceLT]
      · obtain ⟨r, d3, e3, s3⟩ := B b d2 xs len sm (s2.mono (by omega))
        rw [← ex] at e3
        refine ⟨r, d3, ?_, s3⟩
        generalize eR a = da at *
        have y1 : ¬ y = 1 := by omega
        simp! only [k__law_value, k__law_value_b, e1, e2, e3, y0, y1, y4, c4]
/-! ## the law's look at values -/
abbrev LYes (k : Nat) (f : Fn) : Prop := ∀ (b : Nat) (ds : List D), Src (b + k) ds → ∃ ds', f [.own ds] = some (.val (.bool true), [ds']) ∧ Src b ds'
theorem k_is_stretch_any (H : FStrD f) : FStrD (k_is_stretch f) := fun d => by
  have e := H d
  simp! only [k_is_stretch, k_is_stretch_b, e]
theorem k_is_rest_any (H : FRstD f) : FRstD (k_is_rest f) := fun d => by
  have e := H d
  simp! only [k_is_rest, k_is_rest_b, e]
theorem k__law_values_right_ok {si ri sa ls lr va : Fn} (SI : FStrD si) (RI : FRstD ri) (SA : SameOk 3 sa) (LS : FStrD ls) (LR : FRstD lr) (VA : LAny 16 va) : LYes 100 (k__law_values_right si ri sa ls lr va) := fun b ds hs => by
  obtain ⟨e, he, d', s1, s2, s3, rfl, -, -, -, s⟩ := forL_ix (g := gN 1) (b := k__law_values_right_l1 si ri sa ls lr va) (F := fun (i : Nat) => PyData.int (i : Int)) (n := 4)
    (I := fun i e => ∃ (d : List D) (s1 s2 s3 : Sl), e = [.par d, s1, s2, s3] ∧ Fr s1 ∧ Fr s2 ∧ Fr s3 ∧ Src (b + 20 * (5 - i)) d) (env := [.par ds, .no, .no, .no]) ⟨ds, _, _, _, rfl, rfl, rfl, rfl, hs⟩ (by
      rintro i hi e ⟨d, s1, s2, s3, rfl, f1, f2, f3, s0⟩
      have n1 : isPar s1 = false := f1
      have n2 : isPar s2 = false := f2
      have n3 : isPar s3 = false := f3
      obtain ⟨x, d', e1, s'⟩ := VA (b + 20 * (5 - (i + 1))) d (s0.mono (by omega))
      have x1 := SI x
      have x2 := RI x
      have x3 := LS x
      have x4 := LR x
      generalize strB x = u at *
      generalize restB x = v at *
      have x5 := SA (.tuple [.bool u, .bool u, .bool v, .bool v]) rfl
      exact ⟨[.par d, .val (.int (i : Int)), s2, s3], [.par d', .val (.int (i : Int)), .val x, .val (.tuple [.bool u, .bool u, .bool v, .bool v])], by simp! only [n1], by simp! only [k__law_values_right_l1, e1, n2, n3, x1, x2, x3, x4, x5], d', _, _, _, rfl, fr_val, fr_val, fr_val, s'⟩)
  have r4 : rangeD 0 ((4 : Int) - 0).toNat = (List.range 4).map fun (i : Nat) => PyData.int (i : Int) := range1_rng (m := 4)
  refine ⟨d', ?_, s.mono (by omega)⟩
  generalize (List.range 4).map (fun (i : Nat) => PyData.int (i : Int)) = RR at *
  simp! only [k__law_values_right, k__law_values_right_b, r4, he]
end
end Ev
set_option exponentiation.threshold 1000000
namespace Ev
open PySem PySem.Spec PyProof.Rows L2
section
variable {f g h w : Fn}
/-! ## numbers beside ends tell stretches apart -/
def bs1 : EE → List Int
  | none => []
  | some i => [i - 1, i, i + 1]
def bsL (es : List EE) : List Int := es.flatMap bs1
def endsS : SS → List EE
  | none => []
  | some (x, y) => [x, y]
theorem bs_mem {es : List EE} {i k : Int} (h : some i ∈ es) (hk : k = i - 1 ∨ k = i ∨ k = i + 1) : k ∈ bsL es := List.mem_flatMap.mpr ⟨_, h, by
  show k ∈ [i - 1, i, i + 1]
  simp only [List.mem_cons, List.not_mem_nil, or_false]
  exact hk⟩
theorem hs_yes {x y : EE} {k : Int} (h1 : ∀ i, x = some i → i ≤ k) (h2 : ∀ j, y = some j → k ≤ j) : hasS (some (x, y)) k = true := by
  show (leE x (some k) && leE (some k) y) = true
  have a : leE x (some k) = true := by
    cases x with
    | none => rfl
    | some i => exact decide_eq_true (h1 i rfl)
  have b : leE (some k) y = true := by
    cases y with
    | none => rfl
    | some j => exact decide_eq_true (h2 j rfl)
  rw [a, b]; rfl
theorem hs_lo {i k : Int} {y : EE} (h : k < i) : hasS (some (some i, y)) k = false := by
  show (decide (i ≤ k) && leE (some k) y) = false
  rw [decide_eq_false (by omega)]; rfl
theorem hs_hi {j k : Int} {x : EE} (h : j < k) : hasS (some (x, some j)) k = false := by
  show (leE x (some k) && decide (k ≤ j)) = false
  rw [decide_eq_false (by omega : ¬ k ≤ j), Bool.and_false]
theorem ok_le {i j : Int} (h : okS (some (some i, some j)) = true) : i ≤ j := of_decide_eq_true h
theorem apart1 {a b : Bool} (h1 : a = true) (h2 : b = false) : a ≠ b := by rw [h1, h2]; decide
theorem apart2 {a b : Bool} (h1 : a = false) (h2 : b = true) : a ≠ b := by rw [h1, h2]; decide
theorem one_has {x y : EE} (h : okS (some (x, y)) = true) : ∃ k ∈ 0 :: bsL [x, y], hasS (some (x, y)) k = true := by
  cases x with
  | none =>
    cases y with
    | none => exact ⟨0, List.mem_cons_self .., rfl⟩
    | some j => exact ⟨j, List.mem_cons_of_mem _ (bs_mem (by simp) (.inr (.inl rfl))), hs_yes (fun i e => by cases e) fun m e => by cases e; exact Int.le_refl _⟩
  | some i => exact ⟨i, List.mem_cons_of_mem _ (bs_mem (by simp) (.inr (.inl rfl))), hs_yes (fun i e => by cases e; exact Int.le_refl _) fun m e => by subst e; exact ok_le h⟩
/-- no low end beside one -/
theorem none_tell {y u : EE} {j : Int} (h2 : okS (some (some j, u)) = true) : ∃ k, (k = j - 1 ∨ y = some k) ∧ hasS (some (none, y)) k = true ∧ hasS (some (some j, u)) k = false := by
  by_cases c : ∃ m, y = some m ∧ m < j - 1
  · obtain ⟨m, rfl, hm⟩ := c
    exact ⟨m, .inr rfl, hs_yes (fun i e => by cases e) fun q e => by cases e; exact Int.le_refl _, hs_lo (by omega)⟩
  · exact ⟨j - 1, .inl rfl, hs_yes (fun i e => by cases e) fun q e => Int.not_lt.mp fun z => c ⟨q, e, z⟩, hs_lo (by omega)⟩
theorem low_tell {x y z u : EE} (h1 : okS (some (x, y)) = true) (h2 : okS (some (z, u)) = true) (hne : x ≠ z) : ∃ k ∈ bsL [x, y, z, u], hasS (some (x, y)) k ≠ hasS (some (z, u)) k := by
  cases x with
  | none =>
    cases z with
    | none => exact absurd rfl hne
    | some j =>
      obtain ⟨k, hk, q1, q2⟩ := none_tell (y := y) h2
      refine ⟨k, ?_, apart1 q1 q2⟩
      rcases hk with rfl | rfl
      · exact bs_mem (i := j) (by simp) (.inl rfl)
      · exact bs_mem (i := k) (by simp) (.inr (.inl rfl))
  | some i =>
    cases z with
    | none =>
      obtain ⟨k, hk, q1, q2⟩ := none_tell (y := u) h1
      refine ⟨k, ?_, apart2 q2 q1⟩
      rcases hk with rfl | rfl
      · exact bs_mem (i := i) (by simp) (.inl rfl)
      · exact bs_mem (i := k) (by simp) (.inr (.inl rfl))
    | some j =>
      have hij : i ≠ j := fun z => hne (by rw [z])
      by_cases c : i < j
      · exact ⟨i, bs_mem (by simp) (.inr (.inl rfl)), apart1 (hs_yes (fun q e => by cases e; exact Int.le_refl _) fun m e => by subst e; exact ok_le h1) (hs_lo c)⟩
      · exact ⟨j, bs_mem (by simp) (.inr (.inl rfl)), apart2 (hs_lo (by omega)) (hs_yes (fun q e => by cases e; exact Int.le_refl _) fun m e => by subst e; exact ok_le h2)⟩
theorem high_tell {x y u : EE} (h1 : okS (some (x, y)) = true) (h2 : okS (some (x, u)) = true) (hne : y ≠ u) : ∃ k ∈ bsL [x, y, x, u], hasS (some (x, y)) k ≠ hasS (some (x, u)) k := by
  have lo : ∀ {v : EE} {j : Int}, okS (some (x, v)) = true → v = some j → ∀ i, x = some i → i ≤ j := fun h e i ex => by subst e ex; exact ok_le h
  cases y with
  | none =>
    cases u with
    | none => exact absurd rfl hne
    | some j => exact ⟨j + 1, bs_mem (i := j) (by simp) (.inr (.inr rfl)), apart1 (hs_yes (fun i e => by have := lo h2 rfl i e; omega) fun m e => by cases e) (hs_hi (by omega))⟩
  | some m =>
    cases u with
    | none => exact ⟨m + 1, bs_mem (i := m) (by simp) (.inr (.inr rfl)), apart2 (hs_hi (by omega)) (hs_yes (fun i e => by have := lo h1 rfl i e; omega) fun m e => by cases e)⟩
    | some j =>
      have hmj : m ≠ j := fun z => hne (by rw [z])
      by_cases c : m < j
      · exact ⟨j, bs_mem (by simp) (.inr (.inl rfl)), apart2 (hs_hi c) (hs_yes (fun i e => lo h2 rfl i e) fun q e => by cases e; exact Int.le_refl _)⟩
      · exact ⟨m, bs_mem (by simp) (.inr (.inl rfl)), apart1 (hs_yes (fun i e => lo h1 rfl i e) fun q e => by cases e; exact Int.le_refl _) (hs_hi (by omega))⟩
theorem tellS {a b : SS} (h1 : okS a = true) (h2 : okS b = true) (hne : a ≠ b) : ∃ k ∈ 0 :: bsL (endsS a ++ endsS b), hasS a k ≠ hasS b k := by
  rcases a with _ | ⟨x, y⟩
  · rcases b with _ | ⟨z, u⟩
    · exact absurd rfl hne
    · obtain ⟨k, m, q⟩ := one_has h2
      exact ⟨k, m, by rw [q]; exact Bool.false_ne_true⟩
  · rcases b with _ | ⟨z, u⟩
    · obtain ⟨k, m, q⟩ := one_has h1
      exact ⟨k, m, by rw [q]; exact Bool.false_ne_true.symm⟩
    · by_cases c : x = z
      · subst c
        obtain ⟨k, m, q⟩ := high_tell h1 h2 fun e => hne (by rw [e])
        exact ⟨k, List.mem_cons_of_mem _ m, q⟩
      · obtain ⟨k, m, q⟩ := low_tell h1 h2 c
        exact ⟨k, List.mem_cons_of_mem _ m, q⟩
theorem any_tell {α : Type} {p q : α → Bool} {L : List α} (same : Bool) (h1 : same = true → ∀ k ∈ L, p k = q k) (h2 : same = false → ∃ k ∈ L, p k ≠ q k) : (L.any fun k => p k != q k) = !same := by
  cases same with
  | true =>
    show _ = false
    refine Bool.eq_false_iff.mpr fun z => ?_
    obtain ⟨k, m, e⟩ := List.any_eq_true.mp z
    rw [h1 rfl k m] at e
    simp at e
  | false =>
    show _ = true
    obtain ⟨k, m, e⟩ := h2 rfl
    exact List.any_eq_true.mpr ⟨k, m, by simpa using e⟩
/-! ## rests are told apart -/
def rl : RR → List Int
  | none => []
  | some (r, m) => [r, r + m, r - m, r + 1, r + 20160]
theorem okR_c {r m : Int} (h : okR (some (r, m)) = true) : m = 0 ∨ (0 < m ∧ 0 ≤ r ∧ r < m) := by
  have h : decide (m = 0 ∨ (0 < m ∧ 20160 % m = 0 ∧ 0 ≤ r ∧ r < m)) = true := h
  rcases of_decide_eq_true h with h | ⟨h1, _, h2, h3⟩
  · exact .inl h
  · exact .inr ⟨h1, h2, h3⟩
theorem tellR {a b : RR} (h1 : okR a = true) (h2 : okR b = true) (hne : a ≠ b) : ∃ k ∈ rl a ++ rl b, hasR a k ≠ hasR b k := by
  rcases a with _ | ⟨r, m⟩
  · rcases b with _ | ⟨s, n⟩
    · exact absurd rfl hne
    · exact ⟨s, by simp [rl], by simp [hasR]⟩
  · rcases b with _ | ⟨s, n⟩
    · exact ⟨r, by simp [rl], by simp [hasR]⟩
    · refine Classical.byContradiction fun no => ?_
      have all : ∀ k ∈ rl (some (r, m)) ++ rl (some (s, n)), hasR (some (r, m)) k = hasR (some (s, n)) k := fun k mk => Classical.byContradiction fun z => no ⟨k, mk, z⟩
      have e1 := all r (by simp [rl])
      have e2 := all s (by simp [rl])
      have e3 := all (r + m) (by simp [rl])
      have e4 := all (s + n) (by simp [rl])
      simp only [hasR, decide_eq_decide] at e1 e2 e3 e4
      have d1 : n ∣ r - s := e1.mp (by rw [Int.sub_self]; exact Int.dvd_zero _)
      have d2 : m ∣ s - r := e2.mpr (by rw [Int.sub_self]; exact Int.dvd_zero _)
      have d3 : n ∣ m := by
        have q : n ∣ r + m - s := e3.mp (by rw [show r + m - r = m by omega]; exact Int.dvd_refl _)
        have := Int.dvd_sub q d1
        rwa [show r + m - s - (r - s) = m by omega] at this
      have d4 : m ∣ n := by
        have q : m ∣ s + n - r := e4.mpr (by rw [show s + n - s = n by omega]; exact Int.dvd_refl _)
        have := Int.dvd_sub q d2
        rwa [show s + n - r - (s - r) = n by omega] at this
      have cm := okR_c h1
      have cn := okR_c h2
      have mn : m = n := Int.dvd_antisymm (by omega) (by omega) d4 d3
      subst mn
      have rs : r = s := by
        rcases cm with rfl | ⟨c1, c2, c3⟩
        · have := Int.zero_dvd.mp d2; omega
        · rcases cn with z | ⟨_, c5, c6⟩
          · omega
          · obtain ⟨t, ht⟩ := d2
            have : t = 0 := by
              rcases Int.lt_trichotomy t 0 with q | q | q
              · have := Int.mul_le_mul_of_nonneg_left (show t ≤ -1 by omega) (Int.le_of_lt c1)
                omega
              · exact q
              · have := Int.mul_le_mul_of_nonneg_left (show 1 ≤ t by omega) (Int.le_of_lt c1)
                omega
            subst this
            omega
      subst rs
      exact hne rfl
end
end Ev
set_option exponentiation.threshold 1000000
namespace Ev
local macro_rules
  | `(tactic| simp! only [$as,*]) => `(tactic| simp only [↓x_var, ↓x_C, ↓x_op, ↓x_fz, ↓x_rV, ↓x_B, ↓x_chain, ↓x_tru, ↓x_notT, ↓x_andT, ↓x_orT, ↓x_and, ↓x_or, ↓x_not, ↓x_neg, ↓x_if, ↓x_aNil, ↓x_aVal, ↓x_aSlot, ↓x_aTmp, ↓x_aR, ↓x_call, ↓x_callK, ↓x_dNil, ↓x_dCons, ↓x_tup, ↓x_lst, ↓x_itemN, ↓x_ownItem, ↓x_lenN, ↓x_blt, ↓x_isi, ↓x_list, ↓x_rgL1, ↓x_rgL2, ↓x_iSeq, ↓x_iZip, ↓x_range1, ↓x_range2, ↓x_addR, ↓x_slice, ↓x_partN, ↓x_partS, ↓x_comp, ↓x_skip, ↓x_stuck, ↓x_break, ↓x_cont, ↓x_seq, ↓x_sIf, ↓x_sExpr, ↓x_ret, ↓x_retN, ↓x_move, ↓x_setRv, ↓x_setRf, ↓x_setRm, ↓x_set, ↓x_gN, ↓x_gsNil, ↓x_gsCons, ↓x_gTup, ↓x_gIx, ↓x_setAt, ↓x_asg, ↓x_par, ↓x_sm0, ↓x_smV, ↓x_smF, ↓x_app, ↓x_for, ↓x_for0, ↓x_for1, ↓x_comp0, ↓x_comp1, ↓x_fn, ↓x_iEnum, ↓x_range3, ↓x_comp2, ↓x_compN0, ↓x_compN1, ↓x_item2, ↓x_item2M, ↓x_gIx2, ↓x_compM, ↓x_callB, ↓x_pop, ↓x_dStar, ↓x_seeAt, ↓x_see, ↓x_seeR, ↓x_rev, ↓x_idx, ↓x_repL, ↓x_sortK, ↓x_lenSet, ↓x_dct0, q_addI, q_addT, q_addL, q_subI, q_ltI, q_leI, q_gtI, q_geI, q_isN, q_isNotN, q_isB, q_isNotB, q_eqI, q_neI, q_eqB, q_eqT0, q_eqT1, q_neT0, q_neT1, q_eqL0, q_eqL1, q_neL0, q_neL1, q_int, q_abs, q_min2, q_max2, q_at0, q_at1, q_at2, q_at3, q_ix0, q_ix1, q_ix2, q_sz, q_iteS, q_iteT, q_iteR, q_iteV, q_iteBB, q_iteII, q_iteAnd, q_iteOr, q_iteNot, q_iteCon, q_pa0, q_pa1, q_pa2, q_pa3, q_pa4, q_ow4, q_ma0, q_ma1, q_ma2, q_ma3, q_ma4, q_ow0, q_ow1, q_ow2, q_ow3, q_c0, q_c1, q_c2, q_c3, q_c4, q_c5, q_c6, q_c7, q_c8, q_c9, q_c10, q_c11, q_c12, q_all0, q_all1, q_all2, q_all3, q_inN2, q_inN0, q_02a, q_02b, q_repr, q_ol1, q_ol2, q_ol3, q_ll1, q_ll2, q_ll3, q_scB, q_strI, q_strB, q_addBI, q_subBI, q_subIB, q_mulIB, List.getElem?_cons_zero, List.getElem?_cons_succ, List.set_cons_zero, List.set_cons_succ, wipeE, initE, outsOf, toAv, toAvB, scal, slotsOf, putOuts, natNodup, List.map_cons, List.map_nil, List.cons_append, List.nil_append, List.append_nil, List.replicate, List.length_cons, List.length_nil, isNone, isiD, seqD, gItem, truD, zipOf, zipD, pick, List.contains_nil, List.contains_cons, eq_self, List.cons_ne_nil, if_true, if_false, Bool.false_eq_true, Bool.true_eq_false, Bool.not_true, Bool.not_false, reduceIte, decide_true, decide_false, Nat.reduceAdd, Nat.reduceSub, Nat.zero_add, Nat.add_zero, and_self, true_and, and_true, Bool.and_true, Bool.true_and, Bool.or_false, Bool.false_or, Bool.or_true, Bool.true_or, Bool.and_false, Bool.false_and, Bool.or_self, Bool.and_self, Nat.sub_self, Option.map_some, Option.map_none, Nat.reduceBEq, Bool.not_eq_true, beq_self_eq_true, Nat.reduceLeDiff, Nat.reduceLT, Nat.reduceEqDiff, List.filterMap_cons, List.filterMap_nil, $as,*])
open PySem PySem.Spec PyProof.Rows L2
section
variable {f g h w : Fn}
/-! ## numbers beside ends -/
def OwL (s : Sl) (L : List Int) : Prop := s = .own (L.map PyData.int) ∨ s = .val (.list (L.map PyData.int))
abbrev bsBody : Fx Fl := sIf (eB (eOp gIsNot (eVar 2) (eC .none))) (sSet 1 (rV (eOp gAdd (eVar 1) (eFz (eLst (dCons (eOp gSub (eVar 2) (eC (.int 1))) (dCons (eVar 2) (dCons (eOp gAdd (eVar 2) (eC (.int 1))) dNil)))))))) sSkip
theorem add_ints {A B : List Int} (h : A.length + B.length ≤ 1000) : gAdd (.list (A.map PyData.int)) (.list (B.map PyData.int)) = some (.list ((A ++ B).map PyData.int)) := by
  rw [q_addL, List.map_append]
  exact if_pos (by rw [List.length_map, List.length_map, q_sz]; omega)
theorem bes_loopE {a0 : D} : ∀ (es : List EE) (L : List Int) (s1 s2 : Sl), OwL s1 L → Fr s2 → L.length + 3 * es.length ≤ 900 → ∃ t1 t2, forL (gN 2) bsBody (es.map eE) [.val a0, s1, s2] = some (.nx, [.val a0, t1, t2]) ∧ OwL t1 (L ++ bsL es)
  | [], L, s1, s2, h1, _, _ => ⟨s1, s2, rfl, by rw [show bsL [] = [] from rfl, List.append_nil]; exact h1⟩
  | e :: es, L, s1, s2, h1, f2, hl => by
    have n2 : isPar s2 = false := f2
    rw [List.length_cons] at hl
    cases e with
    | none =>
      obtain ⟨t1, t2, ih, o⟩ := bes_loopE (a0 := a0) es L s1 (.val .none) h1 fr_val (by omega)
      refine ⟨t1, t2, ?_, o⟩
      have n1 : isPar s1 = false := by rcases h1 with rfl | rfl <;> rfl
      rw [List.map_cons, eE_n, x_for1, show gN 2 .none [.val a0, s1, s2] = some [.val a0, s1, .val .none] by simp! only [n2]]
      dsimp only
      rw [show bsBody [.val a0, s1, .val .none] = some (.nx, [.val a0, s1, .val .none]) by simp! only [bsBody]]
      exact ih
    | some i =>
      obtain ⟨t1, t2, ih, o⟩ := bes_loopE (a0 := a0) es (L ++ [i - 1, i, i + 1]) (.val (.list ((L ++ [i - 1, i, i + 1]).map PyData.int))) (.val (.int i)) (.inr rfl) fr_val (by rw [List.length_append]; simp only [List.length_cons, List.length_nil]; omega)
      refine ⟨t1, t2, ?_, by rw [List.append_assoc] at o; exact o⟩
      have ad := add_ints (A := L) (B := [i - 1, i, i + 1]) (by simp only [List.length_cons, List.length_nil]; omega)
      have ad : gAdd (.list (L.map PyData.int)) (.list [.int (i - 1), .int i, .int (i + 1)]) = some (.list ((L ++ [i - 1, i, i + 1]).map PyData.int)) := ad
      rw [List.map_cons, eE_s, x_for1, show gN 2 (.int i) [.val a0, s1, s2] = some [.val a0, s1, .val (.int i)] by simp! only [n2]]
      dsimp only
      unfold OwL at h1
      generalize (L ++ [i - 1, i, i + 1]).map PyData.int = M at *
      generalize L.map PyData.int = LL at *
      have st : bsBody [.val a0, s1, .val (.int i)] = some (.nx, [.val a0, .val (.list M), .val (.int i)]) := by
        rcases h1 with rfl | rfl
        · simp! only [bsBody, ad]
        · simp! only [bsBody, ad]
      rw [st]
      exact ih
abbrev LBsd (f : Fn) : Prop := ∀ es : List EE, es.length ≤ 100 → ∃ r, f [.val (.tuple (es.map eE))] = some (r, []) ∧ (r = .fresh ((0 :: bsL es).map PyData.int) ∨ r = .val (.list ((0 :: bsL es).map PyData.int)))
theorem k__law_beside_any : LBsd k__law_beside := fun es hl => by
  obtain ⟨t1, t2, he, o⟩ := bes_loopE (a0 := .tuple (es.map eE)) es [0] (.own [.int 0]) .no (.inl rfl) fr_no (by simp only [List.length_cons, List.length_nil]; omega)
  rw [List.singleton_append] at o
  unfold OwL at o
  have he : forL (gN 2) (sIf (eB (eOp gIsNot (eVar 2) (eC .none))) (sSet 1 (rV (eOp gAdd (eVar 1) (eFz (eLst (dCons (eOp gSub (eVar 2) (eC (.int 1))) (dCons (eVar 2) (dCons (eOp gAdd (eVar 2) (eC (.int 1))) dNil)))))))) sSkip) (es.map eE) [.val (.tuple (es.map eE)), .own [.int 0], .no] = some (.nx, [.val (.tuple (es.map eE)), t1, t2]) := he
  generalize (0 :: bsL es).map PyData.int = M at *
  generalize es.map eE = E at *
  rcases o with rfl | rfl
  · exact ⟨.fresh M, by simp! only [k__law_beside, k__law_beside_b, he], .inl rfl⟩
  · exact ⟨.val (.list M), by simp! only [k__law_beside, k__law_beside_b, he], .inr rfl⟩
theorem neBB {a b : Bool} : gNe (.bool a) (.bool b) = some (.bool (a != b)) := by cases a <;> cases b <;> rfl
theorem eqBB {a b : Bool} : gEq (.bool a) (.bool b) = some (.bool (a == b)) := by cases a <;> cases b <;> rfl
abbrev s23 (d : List D) (a b : D) (s3 s4 : Sl) (u : Bool) (s6 s7 : Sl) : En := [.par d, .val a, .val b, s3, s4, .val (.bool u), s6, s7]
theorem str_loop {ho sa ha : Fn} (HO : ∀ (a : SS) (k : Int), okS a = true → ho [.val (eS a), .val (.int k)] = some (.val (.bool (hasS a k)), [])) (SA : SameOk 3 sa) (HA : ∀ (a : SS) (k : Int), ha [.val (eS a), .val (.int k)] = some (.val (.bool (hasS a k)), [])) {a b : SS} (oa : okS a = true) (ob : okS b = true) {d : List D} {s4 : Sl} : ∀ (L : List Int) (u : Bool) (s3 s6 s7 : Sl), Fr s3 → Fr s6 → Fr s7 →
    ∃ t3 t6 t7, forL (gN 3) (k__law_stretches_right_l1 ho sa ha) (L.map PyData.int) (s23 d (eS a) (eS b) s3 s4 u s6 s7) = some (.nx, s23 d (eS a) (eS b) t3 s4 (u || L.any fun k => hasS a k != hasS b k) t6 t7)
  | [], u, s3, s6, s7, _, _, _ => ⟨s3, s6, s7, by rw [List.any_nil, Bool.or_false]; rfl⟩
  | k :: L, u, s3, s6, s7, f3, f6, f7 => by
    have n3 : isPar s3 = false := f3
    have n6 : isPar s6 = false := f6
    have n7 : isPar s7 = false := f7
    have x1 := HA a k
    have x2 := HA b k
    have y1 := HO a k oa
    have y2 := HO b k ob
    have sm := SA (.tuple [.bool (hasS a k), .bool (hasS b k), .bool (hasS a k)]) rfl
    obtain ⟨t3, t6, t7, ih⟩ := str_loop HO SA HA oa ob (d := d) (s4 := s4) L (u || (hasS a k != hasS b k)) (.val (.int k)) (.val (.tuple [.bool (hasS a k), .bool (hasS b k), .bool (hasS a k)])) (.val (.tuple [.bool (hasS a k), .bool (hasS b k), .bool (hasS a k)])) fr_val fr_val fr_val
    refine ⟨t3, t6, t7, ?_⟩
    rw [List.any_cons, ← Bool.or_assoc]
    have st : k__law_stretches_right_l1 ho sa ha (s23 d (eS a) (eS b) (.val (.int k)) s4 u s6 s7) = some (.nx, s23 d (eS a) (eS b) (.val (.int k)) s4 (u || (hasS a k != hasS b k)) (.val (.tuple [.bool (hasS a k), .bool (hasS b k), .bool (hasS a k)])) (.val (.tuple [.bool (hasS a k), .bool (hasS b k), .bool (hasS a k)]))) := by
      generalize hasS a k = p at *
      generalize hasS b k = q at *
      generalize eS a = dA at *
      generalize eS b = dB at *
      have nb := neBB (a := p) (b := q)
      cases u
      · rw [Bool.false_or]
        simp! only [k__law_stretches_right_l1, s23, n6, n7, x1, x2, y1, y2, sm, nb]
      · rw [Bool.true_or]
        simp! only [k__law_stretches_right_l1, s23, n6, n7, x1, x2, y1, y2, sm]
    have hg : gN 3 (.int k) (s23 d (eS a) (eS b) s3 s4 u s6 s7) = some (s23 d (eS a) (eS b) (.val (.int k)) s4 u s6 s7) := by
      generalize eS a = dA
      generalize eS b = dB
      simp! only [s23, n3]
    rw [List.map_cons, x_for1, hg]
    dsimp only
    rw [st]
    exact ih
theorem eS_ends (a b : SS) : gAdd (eS a) (eS b) = some (.tuple ((endsS a ++ endsS b).map eE)) := by
  rcases a with _ | ⟨x, y⟩ <;> rcases b with _ | ⟨z, u⟩ <;> rfl
theorem ends_len (a b : SS) : (endsS a ++ endsS b).length ≤ 4 := by
  rcases a with _ | ⟨x, y⟩ <;> rcases b with _ | ⟨z, u⟩ <;> simp [endsS]
theorem k__law_stretches_right_ok {ho nu st ne sa ha be : Fn} (HO : ∀ (a : SS) (k : Int), okS a = true → ho [.val (eS a), .val (.int k)] = some (.val (.bool (hasS a k)), [])) (N : Nm 7 (2 ^ 110) nu) (S : St 9 (2 ^ 111) st) (NE : Nr 10 ne) (SA : SameOk 3 sa) (HA : ∀ (a : SS) (k : Int), ha [.val (eS a), .val (.int k)] = some (.val (.bool (hasS a k)), [])) (BE : LBsd be) : LYes 100 (k__law_stretches_right ho nu st ne sa ha be) := fun b ds hs => by
  obtain ⟨a, d1, e1, oa, za, s1⟩ := S (b + 50) ds (hs.mono (by omega))
  obtain ⟨c, d2, e2, oc, zc, s2⟩ : ∃ (c : SS) (d2 : List D), ne [.own d1, .val (eS a)] = some (.val (eS c), [d2]) ∧ okS c = true ∧ szS (2 ^ 111 + 4) c ∧ Src (b + 20) d2 := by
    rcases a with _ | ⟨x, y⟩
    · exact NE (b + 20) d1 [] (2 ^ 111) (s1.mono (by omega)) (fun e m => by cases m) (Int.le_refl _) (by decide)
    · exact NE (b + 20) d1 [x, y] (2 ^ 111) (s1.mono (by omega)) (fun e m => by
        simp only [List.mem_cons, List.not_mem_nil, or_false] at m
        rcases m with rfl | rfl
        · exact za.1
        · exact za.2) (Int.le_refl _) (by simp)
  obtain ⟨z, d3, e3, p3, q3, s3⟩ := N (b + 5) d2 (s2.mono (by omega))
  obtain ⟨r, e4, hr⟩ := BE (endsS a ++ endsS c) (by have := ends_len a c; omega)
  have ee := eS_ends a c
  have lb : (bsL (endsS a ++ endsS c)).length ≤ 12 := by
    have : ∀ es : List EE, (bsL es).length ≤ 3 * es.length := fun es => by
      induction es with
      | nil => exact Nat.le_refl _
      | cons e es ih =>
        show (bs1 e ++ bsL es).length ≤ _
        rw [List.length_append, List.length_cons]
        have : (bs1 e).length ≤ 3 := by cases e <;> simp [bs1]
        omega
    have := this (endsS a ++ endsS c)
    have := ends_len a c
    omega
  have ad := add_ints (A := 0 :: bsL (endsS a ++ endsS c)) (B := [z]) (by simp only [List.length_cons, List.length_nil]; omega)
  obtain ⟨t3, t6, t7, he⟩ := str_loop HO SA HA oa oc (d := d3) (s4 := .val (.list ((0 :: bsL (endsS a ++ endsS c) ++ [z]).map PyData.int))) (0 :: bsL (endsS a ++ endsS c) ++ [z]) false .no .no .no fr_no fr_no fr_no
  have tell := any_tell (p := hasS a) (q := hasS c) (L := 0 :: bsL (endsS a ++ endsS c) ++ [z]) (decide (a = c)) (fun q k _ => by rw [of_decide_eq_true q]) fun q => by
    obtain ⟨k, m, w⟩ := tellS oa oc (of_decide_eq_false q)
    exact ⟨k, List.mem_append_left _ m, w⟩
  rw [Bool.false_or, tell] at he
  have ns := q_neS a c
  have eb := eqBB (a := !decide (a = c)) (b := !decide (a = c))
  rw [show ((!decide (a = c)) == (!decide (a = c))) = true by simp] at eb
  refine ⟨d3, ?_, s3.mono (by omega)⟩
  have ad : gAdd (.list ((0 :: bsL (endsS a ++ endsS c)).map PyData.int)) (.list [.int z]) = some (.list ((0 :: bsL (endsS a ++ endsS c) ++ [z]).map PyData.int)) := ad
  generalize (0 :: bsL (endsS a ++ endsS c) ++ [z]).map PyData.int = M at *
  generalize (0 :: bsL (endsS a ++ endsS c)).map PyData.int = M0 at *
  generalize (endsS a ++ endsS c).map eE = EE0 at *
  generalize (!decide (a = c)) = tt at *
  generalize eS a = dA at *
  generalize eS c = dC at *
  have he : forL (gN 3) (k__law_stretches_right_l1 ho sa ha) M [.par d3, .val dA, .val dC, .no, .val (.list M), .val (.bool false), .no, .no] = some (.nx, [.par d3, .val dA, .val dC, t3, .val (.list M), .val (.bool tt), t6, t7]) := he
  rcases hr with rfl | rfl
  · simp! only [k__law_stretches_right, k__law_stretches_right_b, e1, e2, e3, e4, ee, ad, he, ns, eb]
  · simp! only [k__law_stretches_right, k__law_stretches_right_b, e1, e2, e3, e4, ee, ad, he, ns, eb]
/-! ## rests -/
abbrev r23 (d : List D) (a b : D) (s3 s4 s5 : Sl) (u : Bool) (s7 s8 : Sl) : En := [.par d, .val a, .val b, s3, s4, s5, .val (.bool u), s7, s8]
theorem rst_lots {d : List D} {a b : D} {s3 : Sl} (f3 : Fr s3) (o : RR) {L : List Int} {s5 : Sl} (h5 : OwL s5 L) (hl : L.length ≤ 500) : ∃ t5, gN 3 (eR o) (r23 d a b s3 .no s5 false .no .no) = some (r23 d a b (.val (eR o)) .no s5 false .no .no) ∧ k__law_rests_right_l1 (r23 d a b (.val (eR o)) .no s5 false .no .no) = some (.nx, r23 d a b (.val (eR o)) .no t5 false .no .no) ∧ OwL t5 (L ++ rl o) := by
  have n3 : isPar s3 = false := f3
  rcases o with _ | ⟨r, m⟩
  · refine ⟨s5, ?_, ?_, by rw [show rl none = [] from rfl, List.append_nil]; exact h5⟩
    · rw [eR_n]
      simp! only [r23, n3]
    · rw [eR_n]
      have q := q_neT0
      rcases h5 with rfl | rfl
      · simp! only [r23, k__law_rests_right_l1, q]
      · simp! only [r23, k__law_rests_right_l1, q]
  · have ad := add_ints (A := L) (B := rl (some (r, m))) (by show L.length + 5 ≤ 1000; omega)
    have ad : gAdd (.list (L.map PyData.int)) (.list [.int r, .int (r + m), .int (r - m), .int (r + 1), .int (r + 20160)]) = some (.list ((L ++ rl (some (r, m))).map PyData.int)) := ad
    refine ⟨.val (.list ((L ++ rl (some (r, m))).map PyData.int)), ?_, ?_, .inr rfl⟩
    · rw [eR_s]
      simp! only [r23, n3]
    · rw [eR_s]
      have q := q_neT1 (d := .int r) (xs := [.int m])
      generalize (L ++ rl (some (r, m))).map PyData.int = M at *
      rcases h5 with rfl | rfl
      · generalize L.map PyData.int = LL at *
        simp! only [r23, k__law_rests_right_l1, q, ad]
      · generalize L.map PyData.int = LL at *
        simp! only [r23, k__law_rests_right_l1, q, ad]
theorem rst_loop {ho sa ha : Fn} (HO : LeftF ho) (SA : SameOk 3 sa) (HA : LeftF ha) {a b : RR} (oa : okR a = true) (ob : okR b = true) {d : List D} {s3 s5 : Sl} : ∀ (L : List Int) (u : Bool) (s4 s7 s8 : Sl), Fr s4 → Fr s7 → Fr s8 →
    ∃ t4 t7 t8, forL (gN 4) (k__law_rests_right_l2 ho sa ha) (L.map PyData.int) (r23 d (eR a) (eR b) s3 s4 s5 u s7 s8) = some (.nx, r23 d (eR a) (eR b) s3 t4 s5 (u || L.any fun k => hasR a k != hasR b k) t7 t8)
  | [], u, s4, s7, s8, _, _, _ => ⟨s4, s7, s8, by rw [List.any_nil, Bool.or_false]; rfl⟩
  | k :: L, u, s4, s7, s8, f4, f7, f8 => by
    have n4 : isPar s4 = false := f4
    have n7 : isPar s7 = false := f7
    have n8 : isPar s8 = false := f8
    have x1 := HA a k oa
    have x2 := HA b k ob
    have y1 := HO a k oa
    have y2 := HO b k ob
    have sm := SA (.tuple [.bool (hasR a k), .bool (hasR b k), .bool (hasR a k)]) rfl
    obtain ⟨t4, t7, t8, ih⟩ := rst_loop HO SA HA oa ob (d := d) (s3 := s3) (s5 := s5) L (u || (hasR a k != hasR b k)) (.val (.int k)) (.val (.tuple [.bool (hasR a k), .bool (hasR b k), .bool (hasR a k)])) (.val (.tuple [.bool (hasR a k), .bool (hasR b k), .bool (hasR a k)])) fr_val fr_val fr_val
    refine ⟨t4, t7, t8, ?_⟩
    rw [List.any_cons, ← Bool.or_assoc]
    have st : k__law_rests_right_l2 ho sa ha (r23 d (eR a) (eR b) s3 (.val (.int k)) s5 u s7 s8) = some (.nx, r23 d (eR a) (eR b) s3 (.val (.int k)) s5 (u || (hasR a k != hasR b k)) (.val (.tuple [.bool (hasR a k), .bool (hasR b k), .bool (hasR a k)])) (.val (.tuple [.bool (hasR a k), .bool (hasR b k), .bool (hasR a k)]))) := by
      generalize hasR a k = p at *
      generalize hasR b k = q at *
      generalize eR a = dA at *
      generalize eR b = dB at *
      have nb := neBB (a := p) (b := q)
      cases u
      · rw [Bool.false_or]
        simp! only [k__law_rests_right_l2, r23, n7, n8, x1, x2, y1, y2, sm, nb]
      · rw [Bool.true_or]
        simp! only [k__law_rests_right_l2, r23, n7, n8, x1, x2, y1, y2, sm]
    have hg : gN 4 (.int k) (r23 d (eR a) (eR b) s3 s4 s5 u s7 s8) = some (r23 d (eR a) (eR b) s3 (.val (.int k)) s5 u s7 s8) := by
      generalize eR a = dA
      generalize eR b = dB
      simp! only [r23, n4]
    rw [List.map_cons, x_for1, hg]
    dsimp only
    rw [st]
    exact ih
theorem k__law_rests_right_ok {ho nu re rn sa ha : Fn} (HO : LeftF ho) (N : Nm 7 (2 ^ 110) nu) (R : Rst 8 re) (RN : Rnr 16 rn) (SA : SameOk 3 sa) (HA : LeftF ha) : LYes 100 (k__law_rests_right ho nu re rn sa ha) := fun b ds hs => by
  obtain ⟨a, d1, e1, oa, za, s1⟩ := R (b + 50) ds (hs.mono (by omega))
  obtain ⟨c, d2, e2, oc, s2⟩ : ∃ (c : RR) (d2 : List D), rn [.own d1, .val (eR a)] = some (.val (eR c), [d2]) ∧ okR c = true ∧ Src (b + 20) d2 := by
    obtain ⟨c, d2, x1, x2, x3⟩ := RN (b + 20) d1 a (2 ^ 111) (s1.mono (by omega)) oa za (Int.le_refl _)
    exact ⟨c, d2, x1, x2, x3.2⟩
  obtain ⟨z, d3, e3, p3, q3, s3⟩ := N (b + 5) d2 (s2.mono (by omega))
  obtain ⟨t5, g1, b1, o1⟩ := rst_lots (d := d3) (a := eR a) (b := eR c) fr_no a (L := [z, 0, 1]) (s5 := .own [.int z, .int 0, .int 1]) (.inl rfl) (by show 3 ≤ 500; decide)
  have la : (rl a).length ≤ 5 := by rcases a with _ | ⟨r, m⟩ <;> simp [rl]
  obtain ⟨u5, g2, b2, o2⟩ := rst_lots (d := d3) (a := eR a) (b := eR c) (fr_val (d := eR a)) c (L := [z, 0, 1] ++ rl a) (s5 := t5) o1 (by rw [List.length_append]; simp only [List.length_cons, List.length_nil]; omega)
  have lp : forL (gN 3) k__law_rests_right_l1 [eR a, eR c] (r23 d3 (eR a) (eR c) .no .no (.own [.int z, .int 0, .int 1]) false .no .no) = some (.nx, r23 d3 (eR a) (eR c) (.val (eR c)) .no u5 false .no .no) := by
    rw [x_for1, g1]
    dsimp only
    rw [b1]
    dsimp only
    rw [x_for1, g2]
    dsimp only
    rw [b2]
    rfl
  clear g1 g2 b1 b2
  obtain ⟨t4, t7, t8, he⟩ := rst_loop HO SA HA oa oc (d := d3) (s3 := .val (eR c)) (s5 := .val (.list (([z, 0, 1] ++ rl a ++ rl c).map PyData.int))) ([z, 0, 1] ++ rl a ++ rl c) false .no .no .no fr_no fr_no fr_no
  have tell := any_tell (p := hasR a) (q := hasR c) (L := [z, 0, 1] ++ rl a ++ rl c) (decide (a = c)) (fun q k _ => by rw [of_decide_eq_true q]) fun q => by
    obtain ⟨k, m, w⟩ := tellR oa oc (of_decide_eq_false q)
    exact ⟨k, by rw [List.append_assoc]; exact List.mem_append_right _ m, w⟩
  rw [Bool.false_or, tell] at he
  have ns := q_neR a c
  have eb := eqBB (a := !decide (a = c)) (b := !decide (a = c))
  rw [show ((!decide (a = c)) == (!decide (a = c))) = true by simp] at eb
  refine ⟨d3, ?_, s3.mono (by omega)⟩
  unfold OwL at o2
  generalize ([z, 0, 1] ++ rl a ++ rl c).map PyData.int = M at *
  generalize (!decide (a = c)) = tt at *
  have it : ∀ s5 : Sl, s5 = .own M ∨ s5 = .val (.list M) → iSeq (eVar 5) (r23 d3 (eR a) (eR c) (.val (eR c)) .no s5 false .no .no) = some (M, r23 d3 (eR a) (eR c) (.val (eR c)) .no (.val (.list M)) false .no .no) := fun s5 q => by
    generalize eR a = dA
    generalize eR c = dC
    rcases q with rfl | rfl
    · simp! only [r23]
    · simp! only [r23]
  refine fn_rt (b := k__law_rests_right_b ho nu re rn sa ha) (e := r23 d3 (eR a) (eR c) (.val (eR c)) t4 (.val (.list M)) tt t7 t8) ?_ rfl
  unfold k__law_rests_right_b
  refine seq_nx (e1 := [.par d1, .val (eR a), .no, .no, .no, .no, .no, .no, .no]) (by
    generalize eR a = dA at *
    simp! only [e1]) ?_
  refine seq_nx (e1 := [.par d2, .val (eR a), .val (eR c), .no, .no, .no, .no, .no, .no]) (by
    generalize eR a = dA at *
    generalize eR c = dC at *
    simp! only [e2]) ?_
  refine seq_nx (e1 := r23 d3 (eR a) (eR c) .no .no (.own [.int z, .int 0, .int 1]) false .no .no) (by
    generalize eR a = dA at *
    generalize eR c = dC at *
    simp! only [r23, e3]) ?_
  refine seq_nx (for_nx (e1 := r23 d3 (eR a) (eR c) .no .no (.own [.int z, .int 0, .int 1]) false .no .no) (ds := [eR a, eR c]) (by
    generalize eR a = dA at *
    generalize eR c = dC at *
    simp! only [r23]) lp) ?_
  refine seq_nx (for_nx (e1 := r23 d3 (eR a) (eR c) (.val (eR c)) .no (.val (.list M)) false .no .no) (ds := M) (it u5 o2) he) ?_
  generalize eR a = dA at *
  generalize eR c = dC at *
  simp! only [r23, ns, eb]
theorem str_of (H : FStrD f) : ∀ a : SS, f [.val (eS a)] = some (.val (.bool (okS a)), []) := fun a => by
  rw [← strB_eS]
  exact H _
theorem rst_of (H : FRstD f) : ∀ a : RR, okR a = true → f [.val (eR a)] = some (.val (.bool true), []) := fun a h => by
  have := H (eR a)
  rwa [restB_eR h] at this
theorem k_rholds_any (h1 : LeftF f) (h2 : ChkR g) (h3 : ∀ i : Int, h [.val (.int i)] = some (.val .none, [])) : LeftF (k_rest_holds f g h) := fun a k ha => by
  simp! only [k_rest_holds, k_rest_holds_b, h1 a k ha, h2 a ha, h3]
theorem k__law_right2_ok {va st re : Fn} (V : LYes 100 va) (S : LYes 100 st) (R : LYes 100 re) : Rg (k__law_right_v2 va st re) := fun ds hs => by
  obtain ⟨d1, e1, s1⟩ := V 300 ds (hs.mono (by omega))
  obtain ⟨d2, e2, s2⟩ := S 200 d1 (s1.mono (by omega))
  obtain ⟨d3, e3, s3⟩ := R 100 d2 (s2.mono (by omega))
  exact ⟨d3, by simp! only [k__law_right_v2, k__law_right_v2_b, e1, e2, e3]⟩
end
end Ev
namespace K23
open PySem PySem.Spec PyProof.Rows L2 Ev
/-- is_whole -/
theorem d0 (C : Nat → Fn) : dSs (den tb r0.N C wfl fl) (defScope r0.st) (defBody r0.st) = k_is_whole_b := by kernel_rfl
theorem u_is_whole (n : Nat) : run (n + 1) 0 = k_is_whole := congrArg (callFn 1) (d0 (run n))
/-- are_wholes -/
theorem d1 (C : Nat → Fn) : dSs (den tb r1.N C wfl fl) (defScope r1.st) (defBody r1.st) = k_are_wholes_b (C 0) := by kernel_rfl
theorem u_are_wholes (n : Nat) : run (n + 1) 1 = k_are_wholes (run n 0) := congrArg (callFn 3) (d1 (run n))
/-- is_end -/
theorem d2 (C : Nat → Fn) : dSs (den tb r2.N C wfl fl) (defScope r2.st) (defBody r2.st) = k_is_end_b (C 0) := by kernel_rfl
theorem u_is_end (n : Nat) : run (n + 1) 2 = k_is_end (run n 0) := congrArg (callFn 1) (d2 (run n))
/-- is_stretched -/
theorem d3 (C : Nat → Fn) : dSs (den tb r3.N C wfl fl) (defScope r3.st) (defBody r3.st) = k_is_stretched_b (C 2) := by kernel_rfl
theorem u_is_stretched (n : Nat) : run (n + 1) 3 = k_is_stretched (run n 2) := congrArg (callFn 2) (d3 (run n))
/-- is_held -/
theorem d4 (C : Nat → Fn) : dSs (den tb r4.N C wfl fl) (defScope r4.st) (defBody r4.st) = k_is_held_b := by kernel_rfl
theorem u_is_held (n : Nat) : run (n + 1) 4 = k_is_held := congrArg (callFn 2) (d4 (run n))
/-- is_rested -/
theorem d5 (C : Nat → Fn) : dSs (den tb r5.N C wfl fl) (defScope r5.st) (defBody r5.st) = k_is_rested_b (C 1) := by kernel_rfl
theorem u_is_rested (n : Nat) : run (n + 1) 5 = k_is_rested (run n 1) := congrArg (callFn 1) (d5 (run n))
/-- is_multiple -/
theorem d6 (C : Nat → Fn) : dSs (den tb r6.N C wfl fl) (defScope r6.st) (defBody r6.st) = k_is_multiple_b := by kernel_rfl
theorem u_is_multiple (n : Nat) : run (n + 1) 6 = k_is_multiple := congrArg (callFn 2) (d6 (run n))
/-- is_left -/
theorem d7 (C : Nat → Fn) : dSs (den tb r7.N C wfl fl) (defScope r7.st) (defBody r7.st) = k_is_left_b (C 6) := by kernel_rfl
theorem u_is_left (n : Nat) : run (n + 1) 7 = k_is_left (run n 6) := congrArg (callFn 2) (d7 (run n))
/-- check_stretch -/
theorem d8 (C : Nat → Fn) : dSs (den tb r8.N C wfl fl) (defScope r8.st) (defBody r8.st) = k_check_stretch_b (C 3) := by kernel_rfl
theorem u_check_stretch (n : Nat) : run (n + 1) 8 = k_check_stretch (run n 3) := congrArg (callFn 1) (d8 (run n))
/-- check_rest -/
theorem d9 (C : Nat → Fn) : dSs (den tb r9.N C wfl fl) (defScope r9.st) (defBody r9.st) = k_check_rest_b (C 5) := by kernel_rfl
theorem u_check_rest (n : Nat) : run (n + 1) 9 = k_check_rest (run n 5) := congrArg (callFn 1) (d9 (run n))
/-- check_whole -/
theorem d10 (C : Nat → Fn) : dSs (den tb r10.N C wfl fl) (defScope r10.st) (defBody r10.st) = k_check_whole_b (C 0) := by kernel_rfl
theorem u_check_whole (n : Nat) : run (n + 1) 10 = k_check_whole (run n 0) := congrArg (callFn 1) (d10 (run n))
/-- is_stretch -/
theorem d11 (C : Nat → Fn) : dSs (den tb r11.N C wfl fl) (defScope r11.st) (defBody r11.st) = k_is_stretch_b (C 3) := by kernel_rfl
theorem u_is_stretch (n : Nat) : run (n + 1) 11 = k_is_stretch (run n 3) := congrArg (callFn 1) (d11 (run n))
/-- stretch_holds -/
theorem d12 (C : Nat → Fn) : dSs (den tb r12.N C wfl fl) (defScope r12.st) (defBody r12.st) = k_stretch_holds_b (C 4) (C 8) (C 10) := by kernel_rfl
theorem u_stretch_holds (n : Nat) : run (n + 1) 12 = k_stretch_holds (run n 4) (run n 8) (run n 10) := congrArg (callFn 2) (d12 (run n))
/-- is_rest -/
theorem d13 (C : Nat → Fn) : dSs (den tb r13.N C wfl fl) (defScope r13.st) (defBody r13.st) = k_is_rest_b (C 5) := by kernel_rfl
theorem u_is_rest (n : Nat) : run (n + 1) 13 = k_is_rest (run n 5) := congrArg (callFn 1) (d13 (run n))
/-- rest_holds -/
theorem d14 (C : Nat → Fn) : dSs (den tb r14.N C wfl fl) (defScope r14.st) (defBody r14.st) = k_rest_holds_b (C 7) (C 9) (C 10) := by kernel_rfl
theorem u_rest_holds (n : Nat) : run (n + 1) 14 = k_rest_holds (run n 7) (run n 9) (run n 10) := congrArg (callFn 2) (d14 (run n))
/-- _law_source -/
theorem d15 (C : Nat → Fn) : dSs (den tb r15.N C wfl fl) (defScope r15.st) (defBody r15.st) = sourceC 610231 9176 := by kernel_rfl
theorem u_law_source (n : Nat) : run (n + 1) 15 = callFn 5 (sourceC 610231 9176) := congrArg (callFn 5) (d15 (run n))
/-- _law_take -/
theorem d16 (C : Nat → Fn) : dSs (den tb r16.N C wfl fl) (defScope r16.st) (defBody r16.st) = k__law_take_b := by kernel_rfl
theorem u_law_take (n : Nat) : run (n + 1) 16 = k__law_take := congrArg (callFn 4) (d16 (run n))
/-- _law_pick -/
theorem d17 (C : Nat → Fn) : dSs (den tb r17.N C wfl fl) (defScope r17.st) (defBody r17.st) = k__law_pick_b (C 16) := by kernel_rfl
theorem u_law_pick (n : Nat) : run (n + 1) 17 = k__law_pick (run n 16) := congrArg (callFn 2) (d17 (run n))
/-- _law_great -/
theorem d18 (C : Nat → Fn) : dSs (den tb r18.N C wfl fl) (defScope r18.st) (defBody r18.st) = k__law_great_b (C 16) := by kernel_rfl
theorem u_law_great (n : Nat) : run (n + 1) 18 = k__law_great (run n 16) := congrArg (callFn 3) (d18 (run n))
/-- _law_number -/
theorem d19 (C : Nat → Fn) : dSs (den tb r19.N C wfl fl) (defScope r19.st) (defBody r19.st) = k__law_number_b (C 16) (C 18) := by kernel_rfl
theorem u_law_number (n : Nat) : run (n + 1) 19 = k__law_number (run n 16) (run n 18) := congrArg (callFn 3) (d19 (run n))
/-- _law_stretch -/
theorem d20 (C : Nat → Fn) : dSs (den tb r20.N C wfl fl) (defScope r20.st) (defBody r20.st) = k__law_stretch_b (C 16) (C 19) := by kernel_rfl
theorem u_law_stretch (n : Nat) : run (n + 1) 20 = k__law_stretch (run n 16) (run n 19) := congrArg (callFn 3) (d20 (run n))
/-- _law_near -/
theorem d21 (C : Nat → Fn) : dSs (den tb r21.N C wfl fl) (defScope r21.st) (defBody r21.st) = k__law_near_b (C 16) (C 17) (C 20) := by kernel_rfl
theorem u_law_near (n : Nat) : run (n + 1) 21 = k__law_near (run n 16) (run n 17) (run n 20) := congrArg (callFn 7) (d21 (run n))
/-- _law_part -/
theorem d22 (C : Nat → Fn) : dSs (den tb r22.N C wfl fl) (defScope r22.st) (defBody r22.st) = k__law_part_b (C 17) := by kernel_rfl
theorem u_law_part (n : Nat) : run (n + 1) 22 = k__law_part (run n 17) := congrArg (callFn 3) (d22 (run n))
/-- _law_rest -/
theorem d23 (C : Nat → Fn) : dSs (den tb r23.N C wfl fl) (defScope r23.st) (defBody r23.st) = k__law_rest_b (C 16) (C 19) (C 22) := by kernel_rfl
theorem u_law_rest (n : Nat) : run (n + 1) 23 = k__law_rest (run n 16) (run n 19) (run n 22) := congrArg (callFn 3) (d23 (run n))
/-- _law_rest_near -/
theorem d24 (C : Nat → Fn) : dSs (den tb r24.N C wfl fl) (defScope r24.st) (defBody r24.st) = k__law_rest_near_b (C 16) (C 17) (C 22) (C 23) := by kernel_rfl
theorem u_law_rest_near (n : Nat) : run (n + 1) 24 = k__law_rest_near (run n 16) (run n 17) (run n 22) (run n 23) := congrArg (callFn 4) (d24 (run n))
/-- _law_is_whole -/
theorem d25 (C : Nat → Fn) : dSs (den tb r25.N C wfl fl) (defScope r25.st) (defBody r25.st) = k__law_is_whole_b := by kernel_rfl
theorem u_law_is_whole (n : Nat) : run (n + 1) 25 = k__law_is_whole := congrArg (callFn 1) (d25 (run n))
/-- _law_same -/
theorem d26 (C : Nat → Fn) : dSs (den tb r26.N C wfl fl) (defScope r26.st) (defBody r26.st) = k__law_same_b (C 25) (C 26) := by kernel_rfl
theorem u_law_same (n : Nat) : run (n + 1) 26 = k__law_same (run n 25) (run n 26) := congrArg (callFn 4) (d26 (run n))
/-- _law_has -/
theorem d27 (C : Nat → Fn) : dSs (den tb r27.N C wfl fl) (defScope r27.st) (defBody r27.st) = k__law_has_b := by kernel_rfl
theorem u_law_has (n : Nat) : run (n + 1) 27 = k__law_has := congrArg (callFn 2) (d27 (run n))
/-- _law_rest_has -/
theorem d28 (C : Nat → Fn) : dSs (den tb r28.N C wfl fl) (defScope r28.st) (defBody r28.st) = k__law_rest_has_b := by kernel_rfl
theorem u_law_rest_has (n : Nat) : run (n + 1) 28 = k__law_rest_has := congrArg (callFn 2) (d28 (run n))
/-- _law_beside -/
theorem d29 (C : Nat → Fn) : dSs (den tb r29.N C wfl fl) (defScope r29.st) (defBody r29.st) = k__law_beside_b := by kernel_rfl
theorem u_law_beside (n : Nat) : run (n + 1) 29 = k__law_beside := congrArg (callFn 3) (d29 (run n))
/-- _law_is_stretch -/
theorem d30 (C : Nat → Fn) : dSs (den tb r30.N C wfl fl) (defScope r30.st) (defBody r30.st) = k__law_is_stretch_b (C 25) := by kernel_rfl
theorem u_law_is_stretch (n : Nat) : run (n + 1) 30 = k__law_is_stretch (run n 25) := congrArg (callFn 2) (d30 (run n))
/-- _law_is_rest -/
theorem d31 (C : Nat → Fn) : dSs (den tb r31.N C wfl fl) (defScope r31.st) (defBody r31.st) = k__law_is_rest_b (C 25) := by kernel_rfl
theorem u_law_is_rest (n : Nat) : run (n + 1) 31 = k__law_is_rest (run n 25) := congrArg (callFn 2) (d31 (run n))
/-- _law_odd -/
theorem d32 (C : Nat → Fn) : dSs (den tb r32.N C wfl fl) (defScope r32.st) (defBody r32.st) = k__law_odd_b (C 17) := by kernel_rfl
theorem u_law_odd (n : Nat) : run (n + 1) 32 = k__law_odd (run n 17) := congrArg (callFn 1) (d32 (run n))
/-- _law_bent -/
theorem d33 (C : Nat → Fn) : dSs (den tb r33.N C wfl fl) (defScope r33.st) (defBody r33.st) = k__law_bent_b (C 16) (C 32) (C 33) := by kernel_rfl
theorem u_law_bent (n : Nat) : run (n + 1) 33 = k__law_bent (run n 16) (run n 32) (run n 33) := congrArg (callFn 4) (d33 (run n))
/-- _law_value -/
theorem d34 (C : Nat → Fn) : dSs (den tb r34.N C wfl fl) (defScope r34.st) (defBody r34.st) = k__law_value_b (C 16) (C 20) (C 23) (C 32) (C 33) := by kernel_rfl
theorem u_law_value (n : Nat) : run (n + 1) 34 = k__law_value (run n 16) (run n 20) (run n 23) (run n 32) (run n 33) := congrArg (callFn 3) (d34 (run n))
/-- _law_values_right -/
theorem d35 (C : Nat → Fn) : dSs (den tb r35.N C wfl fl) (defScope r35.st) (defBody r35.st) = k__law_values_right_b (C 11) (C 13) (C 26) (C 30) (C 31) (C 34) := by kernel_rfl
theorem u_law_values_right (n : Nat) : run (n + 1) 35 = k__law_values_right (run n 11) (run n 13) (run n 26) (run n 30) (run n 31) (run n 34) := congrArg (callFn 4) (d35 (run n))
/-- _law_stretches_right -/
theorem d36 (C : Nat → Fn) : dSs (den tb r36.N C wfl fl) (defScope r36.st) (defBody r36.st) = k__law_stretches_right_b (C 12) (C 19) (C 20) (C 21) (C 26) (C 27) (C 29) := by kernel_rfl
theorem u_law_stretches_right (n : Nat) : run (n + 1) 36 = k__law_stretches_right (run n 12) (run n 19) (run n 20) (run n 21) (run n 26) (run n 27) (run n 29) := congrArg (callFn 8) (d36 (run n))
/-- _law_rests_right -/
theorem d37 (C : Nat → Fn) : dSs (den tb r37.N C wfl fl) (defScope r37.st) (defBody r37.st) = k__law_rests_right_b (C 14) (C 19) (C 23) (C 24) (C 26) (C 28) := by kernel_rfl
theorem u_law_rests_right (n : Nat) : run (n + 1) 37 = k__law_rests_right (run n 14) (run n 19) (run n 23) (run n 24) (run n 26) (run n 28) := congrArg (callFn 9) (d37 (run n))
/-- _law_right -/
theorem d38 (C : Nat → Fn) : dSs (den tb r38.N C wfl fl) (defScope r38.st) (defBody r38.st) = k__law_right_v2_b (C 35) (C 36) (C 37) := by kernel_rfl
theorem u_law_right (n : Nat) : run (n + 1) 38 = k__law_right_v2 (run n 35) (run n 36) (run n 37) := congrArg (callFn 1) (d38 (run n))
/-- law -/
def c39 (C : Nat → Fn) : Fx Fl := (sRet (rV (eBlt gAll (dCons (eFz (eComp (iRange1 (eBlt gMax (dCons (eC (.int 2)) (dCons (eBlt gMin (dCons (eLenN 0) (dCons (eC (.int 5)) dNil))) dNil)))) (gN 1) (fun env => some (true, env)) (eFz (eCall (C 38) (aTmp (eCall (C 15) (aVal (eVar 0) (aVal (eVar 1) aNil))) aNil))) [1])) dNil))))
theorem d39 (C : Nat → Fn) : dSs (den tb r39.N C wfl fl) (defScope r39.st) (defBody r39.st) = c39 C := by kernel_rfl
theorem u_39 (n : Nat) : run (n + 1) 39 = callFn 2 (c39 (run n)) := congrArg (callFn 2) (d39 (run n))
theorem g_is_whole (zz : Nat) : (FWhlD) (F_is_whole (zz + 1)) := tr (P := FWhlD) (u_is_whole (zz)) (k_is_whole_any)
theorem g_is_end (zz : Nat) : (FEndD) (F_is_end (zz + 2)) := tr (P := FEndD) (u_is_end (zz + 1)) (k_is_end_any (g_is_whole zz))
theorem g_is_stretched (zz : Nat) : (FStrD) (F_is_stretched (zz + 3)) := tr (P := FStrD) (u_is_stretched (zz + 2)) (k_is_stretched_any (g_is_end zz))
theorem g_is_stretch (zz : Nat) : (FStrD) (F_is_stretch (zz + 4)) := tr (P := FStrD) (u_is_stretch (zz + 3)) (k_is_stretch_any (g_is_stretched zz))
theorem g_are_wholes (zz : Nat) : (FW2) (F_are_wholes (zz + 2)) := tr (P := FW2) (u_are_wholes (zz + 1)) (k_are_wholes_any2 (g_is_whole zz))
theorem g_is_rested (zz : Nat) : (FRstD) (F_is_rested (zz + 3)) := tr (P := FRstD) (u_is_rested (zz + 2)) (k_is_rested_any (g_are_wholes zz))
theorem g_is_rest (zz : Nat) : (FRstD) (F_is_rest (zz + 4)) := tr (P := FRstD) (u_is_rest (zz + 3)) (k_is_rest_any (g_is_rested zz))
theorem g__law_is_whole (zz : Nat) : (FWhlD) (F_law_is_whole (zz + 1)) := tr (P := FWhlD) (u_law_is_whole (zz)) (k_is_whole_any)
theorem g__law_same_k : ∀ k n : Nat, SameOk k (F_law_same (n + k + 2))
  | 0, n => fun d h => (congrFun (u_law_same (n + 1)) _).trans (k_same_ok (fun i => g__law_is_whole n (.int i)) d h)
  | k + 1, n => fun d h => (congrFun (u_law_same (n + k + 2)) _).trans (k_same_up (fun i => g__law_is_whole (n + k + 1) (.int i)) (g__law_same_k k n) d h)
theorem g__law_same (n : Nat) : SameOk 3 (F_law_same (n + 5)) := g__law_same_k 3 n
theorem g__law_is_stretch (zz : Nat) : (FStrD) (F_law_is_stretch (zz + 2)) := tr (P := FStrD) (u_law_is_stretch (zz + 1)) (k__law_is_stretch_any (g__law_is_whole zz))
theorem g__law_is_rest (zz : Nat) : (FRstD) (F_law_is_rest (zz + 2)) := tr (P := FRstD) (u_law_is_rest (zz + 1)) (k__law_is_rest_any (g__law_is_whole zz))
theorem g__law_take (zz : Nat) : (Tk) (F_law_take (zz + 1)) := tr (P := Tk) (u_law_take (zz)) (k_take_ok)
theorem g__law_great (zz : Nat) : (Gp) (F_law_great (zz + 2)) := tr (P := Gp) (u_law_great (zz + 1)) (k_great_pos (g__law_take zz))
theorem g__law_number (zz : Nat) : (Nm 7 (2 ^ 110)) (F_law_number (zz + 3)) := tr (P := Nm 7 (2 ^ 110)) (u_law_number (zz + 2)) (k_number_ok (g__law_take (zz + 1)) (gp_nm (g__law_great zz)))
theorem g__law_stretch (zz : Nat) : (St 9 (2 ^ 111)) (F_law_stretch (zz + 4)) := tr (P := St 9 (2 ^ 111)) (u_law_stretch (zz + 3)) (k_stretch_ok (g__law_take (zz + 2)) (g__law_number zz))
theorem g__law_pick (zz : Nat) : (Pk) (F_law_pick (zz + 2)) := tr (P := Pk) (u_law_pick (zz + 1)) (k_pick_ok (g__law_take zz))
theorem g__law_part (zz : Nat) : (Pa) (F_law_part (zz + 3)) := tr (P := Pa) (u_law_part (zz + 2)) (k_part_ok (g__law_pick zz))
theorem g__law_rest (zz : Nat) : (Rst 8) (F_law_rest (zz + 4)) := tr (P := Rst 8) (u_law_rest (zz + 3)) (k_rest_ok (g__law_take (zz + 2)) (g__law_number zz) (g__law_part zz))
theorem g__law_odd (zz : Nat) : (LAny 1) (F_law_odd (zz + 3)) := tr (P := LAny 1) (u_law_odd (zz + 2)) (k__law_odd_ok (g__law_pick zz))
theorem g__law_bent0 (zz : Nat) : LBn0 (F_law_bent (zz + 4)) := tr (P := LBn0) (u_law_bent (zz + 3)) (k_bentA_0 (g__law_take (zz + 2)) (g__law_odd zz))
theorem g__law_bent (zz : Nat) : LBn1 (F_law_bent (zz + 5)) := tr (P := LBn1) (u_law_bent (zz + 4)) (k_bentA_1 (g__law_take (zz + 3)) (g__law_odd (zz + 1)) (g__law_bent0 zz))
theorem g__law_value (zz : Nat) : (LAny 16) (F_law_value (zz + 6)) := tr (P := LAny 16) (u_law_value (zz + 5)) (k__law_value_ok (g__law_take (zz + 4)) (g__law_stretch (zz + 1)) (g__law_rest (zz + 1)) (g__law_odd (zz + 2)) (g__law_bent zz))
theorem g__law_values_right (zz : Nat) : (LYes 100) (F_law_values_right (zz + 7)) := tr (P := LYes 100) (u_law_values_right (zz + 6)) (k__law_values_right_ok (g_is_stretch (zz + 2)) (g_is_rest (zz + 2)) (g__law_same (zz + 1)) (g__law_is_stretch (zz + 4)) (g__law_is_rest (zz + 4)) (g__law_value zz))
theorem g_is_held (zz : Nat) : (fun f => ∀ (a : SS) (k : Int), f [.val (eS a), .val (.int k)] = some (.val (.bool (hasS a k)), [])) (F_is_held (zz + 1)) := tr (P := fun f => ∀ (a : SS) (k : Int), f [.val (eS a), .val (.int k)] = some (.val (.bool (hasS a k)), [])) (u_is_held (zz)) (k_held_ok)
theorem g_check_stretch (zz : Nat) : (fun f => ∀ a : SS, okS a = true → f [.val (eS a)] = some (.val .none, [])) (F_check_stretch (zz + 4)) := tr (P := fun f => ∀ a : SS, okS a = true → f [.val (eS a)] = some (.val .none, [])) (u_check_stretch (zz + 3)) (fun a h => k_check_stretch_ok (str_of (g_is_stretched zz)) h)
theorem g_check_whole (zz : Nat) : (fun f => ∀ i : Int, f [.val (.int i)] = some (.val .none, [])) (F_check_whole (zz + 2)) := tr (P := fun f => ∀ i : Int, f [.val (.int i)] = some (.val .none, [])) (u_check_whole (zz + 1)) (k_check_whole_ok (fun i => (g_is_whole zz) (.int i)))
theorem g_stretch_holds (zz : Nat) : (fun f => ∀ (a : SS) (k : Int), okS a = true → f [.val (eS a), .val (.int k)] = some (.val (.bool (hasS a k)), [])) (F_stretch_holds (zz + 5)) := tr (P := fun f => ∀ (a : SS) (k : Int), okS a = true → f [.val (eS a), .val (.int k)] = some (.val (.bool (hasS a k)), [])) (u_stretch_holds (zz + 4)) (fun a k h => k_stretch_holds_ok (g_is_held (zz + 3)) (g_check_stretch zz) (g_check_whole (zz + 2)) h k)
theorem g__law_near (zz : Nat) : (Nr 10) (F_law_near (zz + 5)) := tr (P := Nr 10) (u_law_near (zz + 4)) (k_near_ok (g__law_take (zz + 3)) (g__law_pick (zz + 2)) (g__law_stretch zz))
theorem g__law_has (zz : Nat) : (fun f => ∀ (a : SS) (k : Int), f [.val (eS a), .val (.int k)] = some (.val (.bool (hasS a k)), [])) (F_law_has (zz + 1)) := tr (P := fun f => ∀ (a : SS) (k : Int), f [.val (eS a), .val (.int k)] = some (.val (.bool (hasS a k)), [])) (u_law_has (zz)) (k__law_has_ok)
theorem g__law_beside (zz : Nat) : (LBsd) (F_law_beside (zz + 1)) := tr (P := LBsd) (u_law_beside (zz)) (k__law_beside_any)
theorem g__law_stretches_right (zz : Nat) : (LYes 100) (F_law_stretches_right (zz + 6)) := tr (P := LYes 100) (u_law_stretches_right (zz + 5)) (k__law_stretches_right_ok (g_stretch_holds zz) (g__law_number (zz + 2)) (g__law_stretch (zz + 1)) (g__law_near zz) (g__law_same zz) (g__law_has (zz + 4)) (g__law_beside (zz + 4)))
theorem g_is_multiple (zz : Nat) : (MulF) (F_is_multiple (zz + 1)) := tr (P := MulF) (u_is_multiple (zz)) (fun x m h => k_multiple_ok x h)
theorem g_is_left (zz : Nat) : (LeftF) (F_is_left (zz + 2)) := tr (P := LeftF) (u_is_left (zz + 1)) (k_left_ok' (g_is_multiple zz))
theorem g_check_rest (zz : Nat) : (ChkR) (F_check_rest (zz + 4)) := tr (P := ChkR) (u_check_rest (zz + 3)) (k_rcheck_ok (rst_of (g_is_rested zz)))
theorem g_rest_holds (zz : Nat) : (LeftF) (F_rest_holds (zz + 5)) := tr (P := LeftF) (u_rest_holds (zz + 4)) (k_rholds_any (g_is_left (zz + 2)) (g_check_rest zz) (g_check_whole (zz + 2)))
theorem g__law_rest_near (zz : Nat) : (Rnr 16) (F_law_rest_near (zz + 5)) := tr (P := Rnr 16) (u_law_rest_near (zz + 4)) (k_rnear_ok (g__law_take (zz + 3)) (g__law_pick (zz + 2)) (g__law_part (zz + 1)) (g__law_rest zz))
theorem g__law_rest_has (zz : Nat) : (LeftF) (F_law_rest_has (zz + 1)) := tr (P := LeftF) (u_law_rest_has (zz)) (k__law_rhas_ok)
theorem g__law_rests_right (zz : Nat) : (LYes 100) (F_law_rests_right (zz + 6)) := tr (P := LYes 100) (u_law_rests_right (zz + 5)) (k__law_rests_right_ok (g_rest_holds zz) (g__law_number (zz + 2)) (g__law_rest (zz + 1)) (g__law_rest_near zz) (g__law_same zz) (g__law_rest_has (zz + 4)))
theorem g__law_right (zz : Nat) : (Rg) (F_law_right (zz + 8)) := tr (P := Rg) (u_law_right (zz + 7)) (k__law_right2_ok (g__law_values_right zz) (g__law_stretches_right (zz + 1)) (g__law_rests_right (zz + 1)))
theorem law_true (ns : List Int) (h : ns.length ≤ 63) : F_law 30 [.val (.list (ns.map PyData.int))] = some (.val (.bool true), []) :=
  (congrFun (u_39 29) _).trans (law_ok (ri := F_law_right 29) (so := F_law_source 29) (tr (P := Sc ns) (u_law_source 28) (source_sc (by decide) (by decide) ns)) (g__law_right 21))
end K23
open PySem PySem.W PySem.Calls PyProof.Rows in
theorem PySem.Challenge.cw_soundlooks_k23_whole_what_stretches_and_holds : PySem.Challenge.rw_soundlooks_k23_whole_what_stretches_and.Holds := by
  w_on; o_law
  refine HandSHeadRun.head_any (r := OpenLaw.row PySem.Challenge.rw_soundlooks_k23_whole_what_stretches_and) (q := view (OpenLaw.row PySem.Challenge.rw_soundlooks_k23_whole_what_stretches_and).prog [54]) (H := K23.hk) (ob := K23.ob) (M := 9000) (loose := K23.loose) (d := HandSHeadRun.topDef (OpenLaw.row PySem.Challenge.rw_soundlooks_k23_whole_what_stretches_and).prog 54) (kwd := []) K23.ob_eq
    (by kernel_rfl) (fun s => by kernel_rfl) K23.runs (by kernel_rfl) (by kernel_rfl) (by kernel_rfl) (by rfl) (by first | assumption | decide +kernel) (by decide +kernel) ⟨rfl, rfl, rfl, rfl, rfl, by decide +kernel⟩ ?hw ?hc
  case hw => w_witness2
  case hc =>
    exact Ev.law_end (l := PySem.Challenge.rw_soundlooks_k23_whole_what_stretches_and) (i := 39) (n := 30) (m := 63) (r := K23.r39) (p := "_law_script") K23.tb_ok rfl K23.bd_ok K23.kw_ok rfl (by kernel_rfl) rfl rfl rfl (by decide) (by kernel_rfl) ⟨rfl, by decide, by decide⟩ K23.law_true
