import PyProof.Rows.All
import Wide.All
import OpenK.AllK
import Wide.FinOn
import HandS.ForMost
import HandS.Wide
import HandS.WideBits
import HandS.Gcd
import HandS.IsInst
import HandS.Zip
import HandS.SortInts
import HandS.Defaults
import KE.DataEq
import PyProof.Rows.RuleB_bool
import HandS.TupAny
import HandS.TupMul
import KE.KMathG
import HandS.Conv
import PyProof.LongRange
import PyProof.ListRange
import HandS.Style
import KE.GoesEnum
import KE.GoesMore
import KE.KMathGC
import HandS.RaiseMore
import HandS.Star
import HandS.Ends
import HandS.HeadEnd
import PyProof.ReprLen
import PyProof.ReprRoads
import PyProof.StrLawsRepr
import HandS.HeadHook4
import KE.KStateDown
import Lean
import HandS.Head0
import HandS.Head1
import HandS.Head2
import HandS.Head3
import PySem.Challenge.RW_soundlooks_k32_whole_quotients_modulo_gu
set_option Elab.async false
set_option linter.all false
set_option maxRecDepth 100000
set_option maxHeartbeats 0
namespace Ev
open PySem PySem.Spec PyProof.Rows L2
/-! ## data, slots -/
abbrev D := PyData
inductive Sl where
  | no | val (d : D) | own (ds : List D) | par (ds : List D) | mat (dss : List (List D))
inductive R where
  | val (d : D) | fresh (ds : List D) | mat (dss : List (List D))
inductive AV where
  | val (d : D) | own (ds : List D)
abbrev En := List Sl
section
variable (K : PySem.W.Frag)
/-- a new list of new lists: its rows, all apart -/
inductive RowsOk (F Z H : Hp) : List V → List (List D) → List Addr → Prop where
  | nil : RowsOk F Z H [] [] []
  | cons {b : Addr} {ws us : List V} {ds : List D} {dss : List (List D)} {bs : List Addr} : H b = some (.lst ws) → F b = none → Z b = none → DpAll K Z ws ds → b ∉ bs → RowsOk F Z H us dss bs → RowsOk F Z H (.ref b :: us) (ds :: dss) (b :: bs)
inductive SlOk (F Z H : Hp) (pa : Nat → Option Addr) (i : Nat) : Option V → Sl → Prop where
  | no (o : Option V) : SlOk F Z H pa i o .no
  | val {v : V} {d : D} : Dp K Z v d → SlOk F Z H pa i (some v) (.val d)
  | own {a : Addr} {us : List V} {ds : List D} : H a = some (.lst us) → F a = none → Z a = none → DpAll K Z us ds → SlOk F Z H pa i (some (.ref a)) (.own ds)
  | par {a : Addr} {us : List V} {ds : List D} : pa i = some a → H a = some (.lst us) → F a = none → Z a = none → DpAll K Z us ds → SlOk F Z H pa i (some (.ref a)) (.par ds)
  | mat {a : Addr} {us : List V} {dss : List (List D)} {bs : List Addr} : H a = some (.lst us) → F a = none → Z a = none → RowsOk K F Z H us dss bs → a ∉ bs → SlOk F Z H pa i (some (.ref a)) (.mat dss)
end
/-- what a slot owns -/
def Ow (H : Hp) : Option V → Sl → Addr → Prop
  | some (.ref a), .own _, b => b = a
  | some (.ref a), .par _, b => b = a
  | some (.ref a), .mat _, b => b = a ∨ ∃ us, H a = some (.lst us) ∧ V.ref b ∈ us
  | _, _, _ => False
theorem Ow.no {H : Hp} {o : Option V} {a : Addr} (h : Ow H o .no a) : False := by
  cases o with
  | none => exact h
  | some v => cases v <;> exact h
theorem Ow.val {H : Hp} {o : Option V} {d : D} {a : Addr} (h : Ow H o (.val d) a) : False := by
  cases o with
  | none => exact h
  | some v => cases v <;> exact h
theorem Ow.own {H : Hp} {o : Option V} {ds : List D} {a : Addr} (h : Ow H o (.own ds) a) : o = some (.ref a) := by
  cases o with
  | none => exact h.elim
  | some v => cases v <;> first | exact (show _ = _ from h) ▸ rfl | exact h.elim
theorem Ow.par {H : Hp} {o : Option V} {ds : List D} {a : Addr} (h : Ow H o (.par ds) a) : o = some (.ref a) := by
  cases o with
  | none => exact h.elim
  | some v => cases v <;> first | exact (show _ = _ from h) ▸ rfl | exact h.elim
theorem RowsOk.mono {K : PySem.W.Frag} {F Z H F' Z' H' : Hp} {us : List V} {dss : List (List D)} {bs : List Addr} (h : RowsOk K F Z H us dss bs) (hd : ∀ ws ds, DpAll K Z ws ds → DpAll K Z' ws ds) (hh : ∀ a ∈ bs, ∀ u, H a = some u → H' a = some u) (ff : ∀ a ∈ bs, F a = none → F' a = none) (nw : ∀ a ∈ bs, Z' a = Z a) : RowsOk K F' Z' H' us dss bs := by
  induction h with
  | nil => exact .nil
  | cons h1 h2 h3 h4 h5 _ ih =>
    exact .cons (hh _ (List.mem_cons_self ..) _ h1) (ff _ (List.mem_cons_self ..) h2) ((nw _ (List.mem_cons_self ..)).trans h3) (hd _ _ h4) h5 (ih (fun a m => hh a (List.mem_cons_of_mem _ m)) (fun a m => ff a (List.mem_cons_of_mem _ m)) fun a m => nw a (List.mem_cons_of_mem _ m))
theorem RowsOk.mem {K : PySem.W.Frag} {F Z H : Hp} {us : List V} {dss : List (List D)} {bs : List Addr} (h : RowsOk K F Z H us dss bs) {a : Addr} (m : a ∈ bs) : V.ref a ∈ us ∧ (∃ ws, H a = some (.lst ws)) ∧ F a = none ∧ Z a = none := by
  induction h with
  | nil => cases m
  | cons h1 h2 h3 _ _ _ ih =>
    rcases List.mem_cons.mp m with rfl | m
    · exact ⟨List.mem_cons_self .., ⟨_, h1⟩, h2, h3⟩
    · obtain ⟨q1, q2⟩ := ih m
      exact ⟨List.mem_cons_of_mem _ q1, q2⟩
theorem RowsOk.ref {K : PySem.W.Frag} {F Z H : Hp} {us : List V} {dss : List (List D)} {bs : List Addr} (h : RowsOk K F Z H us dss bs) {a : Addr} (m : V.ref a ∈ us) : a ∈ bs := by
  induction h with
  | nil => cases m
  | cons _ _ _ _ _ _ ih =>
    rcases List.mem_cons.mp m with e | m
    · cases e; exact List.mem_cons_self ..
    · exact List.mem_cons_of_mem _ (ih m)
mutual
theorem Dp.mono {K : PySem.W.Frag} {Z Z' : Hp} (s : Same Z Z') : ∀ (d : D) (v : V), Dp K Z v d → Dp K Z' v d
  | .none, _, h => by cases h; exact .non
  | .bool b, _, h => by cases h; exact .bl b
  | .int i, _, h => by cases h; exact .int i
  | .str x, _, h => by cases h; exact .str x
  | .list ds, _, h => by
    cases h with
    | lst hs ha => exact .lst (s.seq hs) (DpAll.mono s ds _ ha)
  | .tuple ds, _, h => by
    cases h with
    | tup hs ha =>
      refine .tup ?_ (DpAll.mono s ds _ ha)
      rcases hs with (h | ⟨o, h⟩) | h
      · exact .inl (.inl (s _ _ h))
      · exact .inl (.inr ⟨o, s _ _ h⟩)
      · exact .inr h
  | .dict _, _, h => by cases h
theorem DpAll.mono {K : PySem.W.Frag} {Z Z' : Hp} (s : Same Z Z') : ∀ (ds : List D) (vs : List V), DpAll K Z vs ds → DpAll K Z' vs ds
  | [], _, h => by cases h; exact .nil
  | d :: ds, _, h => by
    cases h with
    | cons h1 h2 => exact .cons (Dp.mono s d _ h1) (DpAll.mono s ds _ h2)
end
theorem da_length {K : PySem.W.Frag} {Z : Hp} : ∀ {vs : List V} {ds : List D}, DpAll K Z vs ds → vs.length = ds.length
  | _, _, .nil => rfl
  | _, _, .cons _ h => congrArg Nat.succ (da_length h)
theorem da_get {K : PySem.W.Frag} {Z : Hp} : ∀ {vs : List V} {ds : List D} {i : Nat} {d : D}, DpAll K Z vs ds → ds[i]? = some d → ∃ v, vs[i]? = some v ∧ Dp K Z v d
  | _, _, _, _, .nil, e => by simp at e
  | _, _, 0, d, .cons h _, e => by simp at e; subst e; exact ⟨_, rfl, h⟩
  | _, _, i + 1, d, .cons _ t, e => by
    obtain ⟨v, h1, h2⟩ := da_get (i := i) (d := d) t (by simpa using e)
    exact ⟨v, by simpa using h1, h2⟩
theorem da_getV {K : PySem.W.Frag} {Z : Hp} {vs : List V} {ds : List D} {i : Nat} {v : V} (h : DpAll K Z vs ds) (e : vs[i]? = some v) : ∃ d, ds[i]? = some d ∧ Dp K Z v d := by
  have hl := da_length h
  have hi : i < vs.length := (List.getElem?_eq_some_iff.mp e).1
  obtain ⟨w, h1, h2⟩ := da_get (i := i) (d := ds[i]'(by omega)) h (by simp [show i < ds.length by omega])
  rw [e] at h1; cases h1
  exact ⟨_, by simp [show i < ds.length by omega], h2⟩
theorem da_append {K : PySem.W.Frag} {Z : Hp} : ∀ {vs ws : List V} {ds es : List D}, DpAll K Z vs ds → DpAll K Z ws es → DpAll K Z (vs ++ ws) (ds ++ es)
  | _, _, _, _, .nil, h => h
  | _, _, _, _, .cons a b, h => .cons a (da_append b h)
theorem da_take {K : PySem.W.Frag} {Z : Hp} : ∀ {vs : List V} {ds : List D} (n : Nat), DpAll K Z vs ds → DpAll K Z (vs.take n) (ds.take n)
  | _, _, 0, _ => .nil
  | _, _, _ + 1, .nil => .nil
  | _, _, n + 1, .cons a b => .cons a (da_take n b)
theorem da_drop {K : PySem.W.Frag} {Z : Hp} : ∀ {vs : List V} {ds : List D} (n : Nat), DpAll K Z vs ds → DpAll K Z (vs.drop n) (ds.drop n)
  | _, _, 0, h => h
  | _, _, _ + 1, .nil => .nil
  | _, _, n + 1, .cons _ b => da_drop n b
theorem da_set {K : PySem.W.Frag} {Z : Hp} {v : V} {d : D} (q : Dp K Z v d) : ∀ {vs : List V} {ds : List D} (i : Nat), DpAll K Z vs ds → DpAll K Z (vs.set i v) (ds.set i d)
  | _, _, _, .nil => .nil
  | _, _, 0, .cons _ b => .cons q b
  | _, _, i + 1, .cons a b => .cons a (da_set q i b)
theorem da_reverse {K : PySem.W.Frag} {Z : Hp} : ∀ {vs : List V} {ds : List D}, DpAll K Z vs ds → DpAll K Z vs.reverse ds.reverse
  | _, _, .nil => .nil
  | _, _, .cons a b => by
    rw [List.reverse_cons, List.reverse_cons]
    exact da_append (da_reverse b) (.cons a .nil)
/-! ## the state -/
/-- Z, the frozen part, grows; what stands in the frame F is not newly frozen -/
structure Gr (F Z Z' : Hp) : Prop where
  zz : Same Z Z'
  nf : ∀ b, F b ≠ none → Z' b = Z b
theorem Gr.refl (F Z : Hp) : Gr F Z Z := ⟨Same.refl _, fun _ _ => rfl⟩
theorem Gr.trans {F Z Z1 Z2 : Hp} (a : Gr F Z Z1) (b : Gr F Z1 Z2) : Gr F Z Z2 := ⟨a.zz.trans b.zz, fun c h => (b.nf c h).trans (a.nf c h)⟩
/-- new objects that are frozen at once -/
structure Alc (Z H Z' H' : Hp) : Prop where
  zz : Same Z Z'
  hh : Same H H'
  zh : Same Z' H'
  nw : ∀ b, H b ≠ none → Z' b = Z b
theorem Alc.refl {Z H : Hp} (h : Same Z H) : Alc Z H Z H := ⟨Same.refl _, Same.refl _, h, fun _ _ => rfl⟩
theorem Alc.trans {Z H Z1 H1 Z2 H2 : Hp} (a : Alc Z H Z1 H1) (b : Alc Z1 H1 Z2 H2) : Alc Z H Z2 H2 :=
  ⟨a.zz.trans b.zz, a.hh.trans b.hh, b.zh, fun c h => (b.nw c (by
    cases q : H c with
    | none => exact absurd q h
    | some o => rw [a.hh c o q]; exact fun z => nomatch z)).trans (a.nw c h)⟩
theorem upd_none {H : Hp} {p : Addr} {o : HO} (h : H p = none) : Same H (upd H p o) := fun b u e => by
  rw [upd_ne (ne_of_none e h)]; exact e
theorem Same.none {Z H : Hp} (s : Same Z H) {p : Addr} (h : H p = none) : Z p = none := s.free h
theorem Alc.new {Z H : Hp} {p : Addr} {o : HO} (zh : Same Z H) (h : H p = none) : Alc Z H (upd Z p o) (upd H p o) := by
  refine ⟨upd_none (zh.free h), upd_none h, fun b u e => ?_, fun b hb => ?_⟩
  · by_cases q : b = p
    · subst q; rw [upd_same] at e ⊢; exact e
    · rw [upd_ne q] at e ⊢; exact zh b u e
  · exact upd_ne (fun q => hb (by rw [q]; exact h))
structure Wst (K : PySem.W.Frag) (F Z H : Hp) (pa : Nat → Option Addr) (σ : L2.St) (env : En) : Prop where
  fh : Same F H
  zh : Same Z H
  len : σ.length = env.length
  sl : ∀ (i : Nat) (o : Option V) (s : Sl), σ[i]? = some o → env[i]? = some s → SlOk K F Z H pa i o s
  dj : ∀ (i j : Nat) (o o' : Option V) (s s' : Sl) (a : Addr), i ≠ j → σ[i]? = some o → env[i]? = some s → σ[j]? = some o' → env[j]? = some s' → Ow H o s a → Ow H o' s' a → False
section
variable {K : PySem.W.Frag} {F Z Z' H H' : Hp} {pa : Nat → Option Addr} {σ : L2.St} {env : En}
theorem SlOk.mono {i : Nat} {o : Option V} {s : Sl} (h : SlOk K F Z H pa i o s) (zz : Same Z Z') (hh : ∀ a u, Ow H o s a → H a = some u → H' a = some u) (nw : ∀ a, Ow H o s a → Z' a = Z a) : SlOk K F Z' H' pa i o s := by
  cases h with
  | no => exact .no _
  | val d => exact .val (Dp.mono zz _ _ d)
  | own a b c d => exact .own (hh _ _ rfl a) b ((nw _ rfl).trans c) (DpAll.mono zz _ _ d)
  | par p a b c d => exact .par p (hh _ _ rfl a) b ((nw _ rfl).trans c) (DpAll.mono zz _ _ d)
  | mat a b c d e => exact .mat (hh _ _ (.inl rfl) a) b ((nw _ (.inl rfl)).trans c) (d.mono (fun ws ds => DpAll.mono zz ds ws) (fun x m u => hh x u (.inr ⟨_, a, (d.mem m).1⟩)) (fun _ _ h => h) fun x m => nw x (.inr ⟨_, a, (d.mem m).1⟩)) e
theorem SlOk.at_ {i : Nat} {o : Option V} {s : Sl} {a : Addr} (h : SlOk K F Z H pa i o s) (e : Ow H o s a) : ∃ us, H a = some (.lst us) ∧ F a = none ∧ Z a = none := by
  cases h with
  | no => exact e.no.elim
  | val d => exact e.val.elim
  | own h1 h2 h3 h4 => cases e.own; exact ⟨_, h1, h2, h3⟩
  | par h0 h1 h2 h3 h4 => cases e.par; exact ⟨_, h1, h2, h3⟩
  | mat h1 h2 h3 h4 h5 =>
    rcases e with rfl | ⟨us, e1, e2⟩
    · exact ⟨_, h1, h2, h3⟩
    · rw [h1] at e1; cases e1
      obtain ⟨_, ⟨ws, q1⟩, q2, q3⟩ := h4.mem (h4.ref e2)
      exact ⟨_, q1, q2, q3⟩
/-- what a slot owns behind a step it owned ahead of it -/
theorem SlOk.back {i : Nat} {o : Option V} {s : Sl} {a : Addr} (h : SlOk K F Z H pa i o s) (hh : ∀ a u, Ow H o s a → H a = some u → H' a = some u) (e : Ow H' o s a) : Ow H o s a := by
  cases h with
  | no => exact e.no.elim
  | val d => exact e.val.elim
  | own h1 h2 h3 h4 => exact e
  | par h0 h1 h2 h3 h4 => exact e
  | mat h1 h2 h3 h4 h5 =>
    rcases e with rfl | ⟨us, e1, e2⟩
    · exact .inl rfl
    · rw [hh _ _ (.inl rfl) h1] at e1; cases e1
      exact .inr ⟨_, h1, e2⟩
theorem Wst.alc (W : Wst K F Z H pa σ env) (a : Alc Z H Z' H') : Wst K F Z' H' pa σ env := by
  refine ⟨W.fh.trans a.hh, a.zh, W.len, fun i o s e1 e2 => ?_, fun i j o o' s s' b ne e1 e2 e3 e4 o1 o2 => ?_⟩
  · have q := W.sl i o s e1 e2
    refine q.mono a.zz (fun b u _ h => a.hh b u h) fun b hb => ?_
    obtain ⟨us, h1, _, _⟩ := q.at_ hb
    exact a.nw b (by rw [h1]; exact fun z => nomatch z)
  · exact W.dj i j o o' s s' b ne e1 e2 e3 e4 ((W.sl i o s e1 e2).back (fun b u _ h => a.hh b u h) o1) ((W.sl j o' s' e3 e4).back (fun b u _ h => a.hh b u h) o2)
theorem Alc.gr (a : Alc Z H Z' H') (f : Same F H) : Gr F Z Z' := ⟨a.zz, fun b hb => a.nw b fun z => hb (f.free z)⟩
/-- a smaller frame -/
theorem Wst.frame {F1 : Hp} (W : Wst K F1 Z H pa σ env) (f : Same F F1) : Wst K F Z H pa σ env := by
  refine ⟨f.trans W.fh, W.zh, W.len, fun i o s e1 e2 => ?_, W.dj⟩
  cases W.sl i o s e1 e2 with
  | no => exact .no _
  | val d => exact .val d
  | own a b c d => exact .own a (f.free b) c d
  | par p a b c d => exact .par p a (f.free b) c d
  | mat a b c d e => exact .mat a (f.free b) c (d.mono (fun _ _ h => h) (fun _ _ _ h => h) (fun _ _ h => f.free h) fun _ _ => rfl) e
theorem Gr.frame {F1 : Hp} (g : Gr F1 Z Z') (f : Same F F1) : Gr F Z Z' := ⟨g.zz, fun b hb => g.nf b fun z => hb (f.free z)⟩
/-- a greater frame: one object more, which is no slot's own -/
theorem Wst.frameUp {p : Addr} {o : HO} (W : Wst K F Z H pa σ env) (hp : H p = some o) (hn : ∀ (i : Nat) (v : Option V) (s : Sl), σ[i]? = some v → env[i]? = some s → ¬ Ow H v s p) : Wst K (upd F p o) Z H pa σ env := by
  refine ⟨fun b u e => ?_, W.zh, W.len, fun i v s e1 e2 => ?_, W.dj⟩
  · by_cases q : b = p
    · subst q; rw [upd_same] at e; cases e; exact hp
    · rw [upd_ne q] at e; exact W.fh b u e
  · have nn := hn i _ _ e1 e2
    cases W.sl i v s e1 e2 with
    | no => exact .no _
    | val d => exact .val d
    | own a b c d => exact .own a (by rw [upd_ne (fun q => nn (by rw [← q]; exact rfl))]; exact b) c d
    | par z a b c d => exact .par z a (by rw [upd_ne (fun q => nn (by rw [← q]; exact rfl))]; exact b) c d
    | mat a b c d e => exact .mat a (by rw [upd_ne (fun q => nn (by rw [← q]; exact .inl rfl))]; exact b) c (d.mono (fun _ _ h => h) (fun _ _ _ h => h) (fun x m h => by rw [upd_ne (fun q => nn (by rw [← q]; exact .inr ⟨_, a, (d.mem m).1⟩))]; exact h) fun _ _ => rfl) e
theorem same_upd_none {p : Addr} {o : HO} (h : F p = none) : Same F (upd F p o) := upd_none h
/-- a slot set to a frozen value -/
theorem Wst.set {i : Nat} {v : V} {d : D} (W : Wst K F Z H pa σ env) (h : Dp K Z v d) : Wst K F Z H pa (σ.set i (some v)) (env.set i (.val d)) := by
  refine ⟨W.fh, W.zh, by simp [W.len], fun j o s e1 e2 => ?_, fun j k o o' s s' a ne e1 e2 e3 e4 o1 o2 => ?_⟩
  · by_cases hj : i = j
    · subst hj
      by_cases hl : i < σ.length
      · rw [List.getElem?_set_self hl] at e1
        rw [List.getElem?_set_self (by rw [← W.len]; exact hl)] at e2
        cases e1; cases e2
        exact .val h
      · rw [List.getElem?_eq_none (by simpa using hl)] at e1; cases e1
    · rw [List.getElem?_set_ne hj] at e1 e2
      exact W.sl j o s e1 e2
  · have key : ∀ {j : Nat} {o : Option V} {s : Sl}, (σ.set i (some v))[j]? = some o → (env.set i (.val d))[j]? = some s → Ow H o s a → σ[j]? = some o ∧ env[j]? = some s := by
      intro j o s e1 e2 o1
      by_cases hj : i = j
      · subst hj
        by_cases hl : i < σ.length
        · rw [List.getElem?_set_self (by rw [← W.len]; exact hl)] at e2
          cases e2
          exact o1.val.elim
        · rw [List.getElem?_eq_none (by simpa using hl)] at e1; cases e1
      · rw [List.getElem?_set_ne hj] at e1 e2
        exact ⟨e1, e2⟩
    obtain ⟨a1, a2⟩ := key e1 e2 o1
    obtain ⟨b1, b2⟩ := key e3 e4 o2
    exact W.dj j k o o' s s' a ne a1 a2 b1 b2 o1 o2
end
end Ev
namespace Ev
open PySem PySem.Spec PyProof.Rows L2
/-! ## readings by evaluation -/
def RkOk (K : PySem.W.Frag) (F Z H : Hp) (σ : L2.St) (env : En) (v : V) : R → Prop
  | .val d => Dp K Z v d
  | .fresh ds => ∃ p us, v = .ref p ∧ H p = some (.lst us) ∧ Z p = none ∧ F p = none ∧ DpAll K Z us ds ∧ ∀ (i : Nat) (o : Option V) (s : Sl), σ[i]? = some o → env[i]? = some s → ¬ Ow H o s p
  | .mat dss => ∃ p us bs, v = .ref p ∧ H p = some (.lst us) ∧ Z p = none ∧ F p = none ∧ RowsOk K F Z H us dss bs ∧ p ∉ bs ∧ ∀ q, (q = p ∨ q ∈ bs) → ∀ (i : Nat) (o : Option V) (s : Sl), σ[i]? = some o → env[i]? = some s → ¬ Ow H o s q
abbrev Fx (α : Type) := En → Option (α × En)
/-- an expression that gives a datum -/
def tE (K : PySem.W.Frag) (f : Fx D) : TE := fun σ H Q => ∃ F pa Z env d env', Wst K F Z H pa σ env ∧ f env = some (d, env') ∧
  ∀ v Z' H', Gr F Z Z' → Wst K F Z' H' pa σ env' → Dp K Z' v d → Q v H'
/-- an expression that gives a datum or a new list -/
def tR (K : PySem.W.Frag) (f : Fx R) : TE := fun σ H Q => ∃ F pa Z env r env', Wst K F Z H pa σ env ∧ f env = some (r, env') ∧
  ∀ v Z' H', Gr F Z Z' → Wst K F Z' H' pa σ env' → RkOk K F Z' H' σ env' v r → Q v H'
/-- a test -/
def tT (K : PySem.W.Frag) (f : Fx Bool) : TT := fun σ H Q => ∃ F pa Z env b env', Wst K F Z H pa σ env ∧ f env = some (b, env') ∧
  ∀ Z' H', Gr F Z Z' → Wst K F Z' H' pa σ env' → Q b H'
theorem PE.imp {X : Cx} {e : Expr} {t t' : TE} (h : PE X e t) (m : ∀ σ H Q, t' σ H Q → t σ H Q) : PE X e t' := ⟨fun pins s σ H Q I q => h.run pins s σ H Q I (m σ H Q q)⟩
theorem PT.imp {X : Cx} {e : Expr} {t t' : TT} (h : PT X e t) (m : ∀ σ H Q, t' σ H Q → t σ H Q) : PT X e t' := ⟨fun pins s σ H Q I q => h.run pins s σ H Q I (m σ H Q q)⟩
theorem PW.imp {X : Cx} {e : Expr} {t t' : TT} (h : PW X e t) (m : ∀ σ H Q, t' σ H Q → t σ H Q) : PW X e t' := ⟨fun w pins s σ H Q I q => h.run w pins s σ H Q I (m σ H Q q)⟩
theorem PS.imp {X : Cx} {e : Stmt} {t t' : TS} (h : PS X e t) (m : ∀ D σ H, t' D σ H → t D σ H) : PS X e t' := ⟨fun pins s σ H D I q => h.run pins s σ H D I (m D σ H q)⟩
theorem PSs.imp {X : Cx} {e : List Stmt} {t t' : TS} (h : PSs X e t) (m : ∀ D σ H, t' D σ H → t D σ H) : PSs X e t' := ⟨fun pins s σ H D I q => h.run pins s σ H D I (m D σ H q)⟩
theorem PA.imp {X : Cx} {e : List Expr} {t t' : TA} (h : PA X e t) (m : ∀ σ H Q, t' σ H Q → t σ H Q) : PA X e t' := ⟨fun pos pins s σ H Q I q => h.run pos pins s σ H Q I (m σ H Q q)⟩
/-! ### slots read -/
def eVar (i : Nat) : Fx D := fun env => match env[i]? with
  | some (.val d) => some (d, env)
  | some (.own ds) => some (.list ds, env.set i (.val (.list ds)))
  | some (.mat dss) => some (.list (dss.map PyData.list), env.set i (.val (.list (dss.map PyData.list))))
  | _ => none
/-- what a slot owns is frozen for good -/
theorem Wst.frzTo {K : PySem.W.Frag} {F Z Z' H : Hp} {pa : Nat → Option Addr} {σ : L2.St} {env : En} {i : Nat} {d : D} {v : V} {s : Sl} {own : Addr → Prop}
    (W : Wst K F Z H pa σ env) (h0 : σ[i]? = some (some v)) (he : env[i]? = some s) (zz : Same Z Z') (zh : Same Z' H) (nw : ∀ b, ¬ own b → Z' b = Z b) (hs : ∀ b, own b → Ow H (some v) s b) (dp : Dp K Z' v d) :
    Gr F Z Z' ∧ Wst K F Z' H pa σ (env.set i (.val d)) := by
  have hi : i < env.length := (List.getElem?_eq_some_iff.mp he).1
  have nw' : ∀ b, ¬ Ow H (some v) s b → Z' b = Z b := fun b hb => nw b fun z => hb (hs b z)
  have key : ∀ {j : Nat} {o : Option V} {s1 : Sl} {b : Addr}, (env.set i (.val d))[j]? = some s1 → Ow H o s1 b → env[j]? = some s1 ∧ i ≠ j := by
    intro j o s1 b e2 o1
    by_cases hj : i = j
    · subst hj
      rw [List.getElem?_set_self hi] at e2; cases e2
      exact o1.val.elim
    · rw [List.getElem?_set_ne hj] at e2; exact ⟨e2, hj⟩
  refine ⟨⟨zz, fun b hb => nw' b fun q => ?_⟩, ⟨W.fh, zh, by simp [W.len], fun j o s1 e1 e2 => ?_, fun j k o o' s1 s' b ne e1 e2 e3 e4 o1 o2 => ?_⟩⟩
  · obtain ⟨_, _, q2, _⟩ := (W.sl i _ s h0 he).at_ q
    exact hb q2
  · by_cases hj : i = j
    · subst hj
      rw [h0] at e1; cases e1
      rw [List.getElem?_set_self hi] at e2; cases e2
      exact .val dp
    · rw [List.getElem?_set_ne hj] at e2
      exact (W.sl j o s1 e1 e2).mono zz (fun _ _ _ q => q) fun b hb => nw' b fun q => W.dj j i o _ s1 s b (Ne.symm hj) e1 e2 h0 he hb q
  · exact W.dj j k o o' s1 s' b ne e1 (key e2 o1).1 e3 (key e4 o2).1 o1 o2
/-- rows that are frozen -/
def zAdd (Z H : Hp) (l : List Addr) : Hp := fun b => if b ∈ l then H b else Z b
theorem zAdd_in {Z H : Hp} {l : List Addr} {b : Addr} (h : b ∈ l) : zAdd Z H l b = H b := if_pos h
theorem zAdd_out {Z H : Hp} {l : List Addr} {b : Addr} (h : b ∉ l) : zAdd Z H l b = Z b := if_neg h
theorem zAdd_zh {Z H : Hp} {l : List Addr} (zh : Same Z H) : Same (zAdd Z H l) H := fun b u e => by
  by_cases h : b ∈ l
  · rw [zAdd_in h] at e; exact e
  · rw [zAdd_out h] at e; exact zh b u e
theorem zAdd_zz {Z H : Hp} {l : List Addr} (zh : Same Z H) : Same Z (zAdd Z H l) := fun b u e => by
  by_cases h : b ∈ l
  · rw [zAdd_in h]; exact zh b u e
  · rw [zAdd_out h]; exact e
theorem rows_da {K : PySem.W.Frag} {F Z H : Hp} {l : List Addr} (zh : Same Z H) {us : List V} {dss : List (List D)} {bs : List Addr} (h : RowsOk K F Z H us dss bs) (hl : ∀ b ∈ bs, b ∈ l) : DpAll K (zAdd Z H l) us (dss.map PyData.list) := by
  induction h with
  | nil => exact .nil
  | cons h1 h2 h3 h4 h5 _ ih =>
    refine .cons (.lst (SqL.of ?_) (DpAll.mono (zAdd_zz zh) _ _ h4)) (ih fun b m => hl b (List.mem_cons_of_mem _ m))
    rw [zAdd_in (hl _ (List.mem_cons_self ..))]
    exact h1
theorem mat_dp {K : PySem.W.Frag} {F Z H : Hp} {a : Addr} (zh : Same Z H) {us : List V} {dss : List (List D)} {bs : List Addr} (ha : H a = some (.lst us)) (h : RowsOk K F Z H us dss bs) : Dp K (zAdd Z H (a :: bs)) (.ref a) (.list (dss.map PyData.list)) :=
  .lst (SqL.of (by rw [zAdd_in (List.mem_cons_self ..)]; exact ha)) (rows_da zh h fun b m => List.mem_cons_of_mem _ m)
/-- an own list is frozen for good -/
theorem Wst.frz {K : PySem.W.Frag} {F Z H : Hp} {pa : Nat → Option Addr} {σ : L2.St} {env : En} {i : Nat} {ds : List D} {a : Addr} {us : List V}
    (W : Wst K F Z H pa σ env) (h0 : σ[i]? = some (some (.ref a))) (he : env[i]? = some (.own ds)) (h1 : H a = some (.lst us)) (h2 : F a = none) (h3 : Z a = none) (h4 : DpAll K Z us ds) :
    Gr F Z (upd Z a (.lst us)) ∧ Wst K F (upd Z a (.lst us)) H pa σ (env.set i (.val (.list ds))) ∧ Dp K (upd Z a (.lst us)) (.ref a) (.list ds) := by
  have zz : Same Z (upd Z a (.lst us)) := upd_none h3
  have dp : Dp K (upd Z a (.lst us)) (.ref a) (.list ds) := .lst (SqL.of upd_same) (DpAll.mono zz _ _ h4)
  have z' : Same (upd Z a (.lst us)) H := fun b u e => by
    by_cases q : b = a
    · subst q; rw [upd_same] at e; cases e; exact h1
    · rw [upd_ne q] at e; exact W.zh b u e
  obtain ⟨g, w⟩ := W.frzTo (Z' := upd Z a (.lst us)) (own := fun b => b = a) h0 he zz z' (fun b hb => upd_ne hb) (fun b e => e) dp
  exact ⟨g, w, dp⟩
theorem Wst.get {K : PySem.W.Frag} {F Z H : Hp} {pa : Nat → Option Addr} {σ : L2.St} {env : En} {i : Nat} {s : Sl} (W : Wst K F Z H pa σ env) (he : env[i]? = some s) : ∃ o, σ[i]? = some o ∧ SlOk K F Z H pa i o s := by
  have hi : i < env.length := (List.getElem?_eq_some_iff.mp he).1
  have e : σ[i]? = some (σ[i]'(by rw [W.len]; exact hi)) := by simp [W.len, hi]
  exact ⟨_, e, W.sl i _ s e he⟩
section
variable {X : Cx}
theorem s_var {i : Nat} {x : Str} {pos : Pos} (h : PE X (.Name x pos) (tVar i)) : PE X (.Name x pos) (tE X.K (eVar i)) := by
  refine PE.imp h fun σ H Q ⟨F, pa, Z, env, d, env', W, e, k⟩ => ?_
  unfold eVar at e
  cases he : env[i]? with
  | none => rw [he] at e; cases e
  | some s =>
    rw [he] at e
    obtain ⟨o, eo, so⟩ := W.get he
    cases so with
    | no => cases e
    | par => cases e
    | val dp => cases e; exact ⟨_, eo, k _ _ _ (.refl ..) W dp⟩
    | own h1 h2 h3 h4 =>
      cases e
      obtain ⟨g, W', dp⟩ := W.frz eo he h1 h2 h3 h4
      exact ⟨_, eo, k _ _ _ g W' dp⟩
    | @mat a us dss bs h1 h2 h3 h4 h5 =>
      cases e
      have dp := mat_dp W.zh h1 h4
      obtain ⟨g, w⟩ := W.frzTo (own := fun b => b ∈ a :: bs) eo he (zAdd_zz W.zh) (zAdd_zh W.zh) (fun b hb => zAdd_out hb) (fun b m => (List.mem_cons.mp m).elim .inl fun m => .inr ⟨_, h1, (h4.mem m).1⟩) dp
      exact ⟨_, eo, k _ _ _ g w dp⟩
def eC (d : D) : Fx D := fun env => some (d, env)
theorem s_const {e : Expr} {v : V} {d : D} (h : PE X e (tC v)) (q : ∀ Z, Dp X.K Z v d) : PE X e (tE X.K (eC d)) := by
  refine PE.imp h fun σ H Q ⟨F, pa, Z, env, d', env', W, e, k⟩ => ?_
  cases e
  exact k _ _ _ (.refl ..) W (q _)
/-- a new list, frozen -/
def fzR : R × En → D × En
  | (.val d, e) => (d, e)
  | (.fresh ds, e) => (.list ds, e)
  | (.mat dss, e) => (.list (dss.map PyData.list), e)
def eFz (f : Fx R) : Fx D := fun env => (f env).map fzR
def rV (f : Fx D) : Fx R := fun env => (f env).map fun p => (.val p.1, p.2)
/-- objects that no slot owns are frozen -/
theorem Wst.frzN {K : PySem.W.Frag} {F Z Z' H : Hp} {pa : Nat → Option Addr} {σ : L2.St} {env : En} (W : Wst K F Z H pa σ env) (zz : Same Z Z') (zh : Same Z' H) (nw : ∀ (i : Nat) (o : Option V) (s : Sl), σ[i]? = some o → env[i]? = some s → ∀ b, Ow H o s b → Z' b = Z b) : Wst K F Z' H pa σ env :=
  ⟨W.fh, zh, W.len, fun j o s e1 e2 => (W.sl j o s e1 e2).mono zz (fun _ _ _ q => q) fun b hb => nw j o s e1 e2 b hb, W.dj⟩
theorem Wst.frzNew {K : PySem.W.Frag} {F Z H : Hp} {pa : Nat → Option Addr} {σ : L2.St} {env : En} {v : V} {r : R} (W : Wst K F Z H pa σ env) (h : RkOk K F Z H σ env v r) :
    ∃ Z', Gr F Z Z' ∧ Wst K F Z' H pa σ env ∧ Dp K Z' v (fzR (r, env)).1 := by
  cases r with
  | val d => exact ⟨Z, .refl .., W, h⟩
  | fresh ds =>
    obtain ⟨p, us, rfl, h1, h3, h2, h4, h5⟩ := h
    have zz : Same Z (upd Z p (.lst us)) := upd_none h3
    refine ⟨upd Z p (.lst us), ⟨zz, fun b hb => upd_ne fun q => hb (by rw [q]; exact h2)⟩, W.frzN zz (fun b u e => ?_) (fun j o s e1 e2 b hb => upd_ne fun q => ?_), .lst (SqL.of upd_same) (DpAll.mono zz _ _ h4)⟩
    · by_cases q : b = p
      · subst q; rw [upd_same] at e; cases e; exact h1
      · rw [upd_ne q] at e; exact W.zh b u e
    · subst q
      exact h5 j o s e1 e2 hb
  | mat dss =>
    obtain ⟨p, us, bs, rfl, h1, h3, h2, h4, h5, h6⟩ := h
    refine ⟨zAdd Z H (p :: bs), ⟨zAdd_zz W.zh, fun b hb => zAdd_out fun m => ?_⟩, W.frzN (zAdd_zz W.zh) (zAdd_zh W.zh) (fun j o s e1 e2 b hb => zAdd_out fun m => ?_), mat_dp W.zh h1 h4⟩
    · rcases List.mem_cons.mp m with rfl | m
      · exact hb h2
      · exact hb (h4.mem m).2.2.1
    · exact h6 b (List.mem_cons.mp m) j o s e1 e2 hb
theorem s_fz {e : Expr} {f : Fx R} (h : PE X e (tR X.K f)) : PE X e (tE X.K (eFz f)) := by
  refine PE.imp h fun σ H Q ⟨F, pa, Z, env, d, env', W, e, k⟩ => ?_
  unfold eFz at e
  cases hf : f env with
  | none => rw [hf] at e; cases e
  | some p =>
    obtain ⟨r, env1⟩ := p
    rw [hf] at e
    have e2 : fzR (r, env1) = (d, env') := Option.some.inj e
    refine ⟨F, pa, Z, env, r, env1, W, hf, fun v Z' H' g W' q => ?_⟩
    obtain ⟨Z2, g2, W2, dp⟩ := W'.frzNew q
    have e3 : (fzR (r, env1)).1 = d := by rw [e2]
    have e4 : env1 = env' := by
      have : (fzR (r, env1)).2 = env' := by rw [e2]
      cases r <;> exact this
    subst e4
    exact k v Z2 H' (g.trans g2) W2 (e3 ▸ dp)
theorem s_rV {e : Expr} {f : Fx D} (h : PE X e (tE X.K f)) : PE X e (tR X.K (rV f)) := by
  refine PE.imp h fun σ H Q ⟨F, pa, Z, env, d, env', W, e, k⟩ => ?_
  unfold rV at e
  cases hf : f env with
  | none => rw [hf] at e; cases e
  | some p =>
    obtain ⟨d1, env1⟩ := p
    rw [hf] at e
    cases e
    exact ⟨F, pa, Z, env, d1, env1, W, hf, fun v Z' H' g W' q => k v Z' H' g W' q⟩
/-! ### operators by values -/
/-- r is right for the datum function g -/
def Imp2 (K : PySem.W.Frag) (r : R2) (g : D → D → Option D) : Prop := ∀ (Z H : Hp) (x y : V) (d e z : D) (Q : VK), Same Z H → Dp K Z x d → Dp K Z y e → g d e = some z →
  (∀ v Z' H', Alc Z H Z' H' → Dp K Z' v z → Q v H') → r x y H Q
def Op2 (X : Cx) (f : Value → Value → Sem Value) (g : D → D → Option D) : Prop := ∃ r, OpR X f r ∧ Imp2 X.K r g
def eOp (g : D → D → Option D) (f1 f2 : Fx D) : Fx D := fun env => (f1 env).bind fun p => (f2 p.2).bind fun q => (g p.1 q.1).map fun z => (z, q.2)
theorem eOp_some {g : D → D → Option D} {f1 f2 : Fx D} {env env' : En} {z : D} (h : eOp g f1 f2 env = some (z, env')) : ∃ d env1 e, f1 env = some (d, env1) ∧ f2 env1 = some (e, env') ∧ g d e = some z := by
  unfold eOp at h
  cases h1 : f1 env with
  | none => rw [h1] at h; cases h
  | some p =>
    rw [h1, Option.bind_some] at h
    cases h2 : f2 p.2 with
    | none => rw [h2] at h; cases h
    | some q =>
      rw [h2, Option.bind_some] at h
      cases h3 : g p.1 q.1 with
      | none => rw [h3] at h; cases h
      | some w =>
        rw [h3] at h
        cases h
        exact ⟨p.1, p.2, q.1, rfl, h2, h3⟩
theorem tOp_of {K : PySem.W.Frag} {r : R2} {g : D → D → Option D} {f1 f2 : Fx D} (hi : Imp2 K r g) {σ : L2.St} {H : Hp} {Q : VK} (h : tE K (eOp g f1 f2) σ H Q) : tOp r (tE K f1) (tE K f2) σ H Q := by
  obtain ⟨F, pa, Z, env, z, env', W, e, k⟩ := h
  obtain ⟨d, env1, e1, h1, h2, h3⟩ := eOp_some e
  refine ⟨F, pa, Z, env, d, env1, W, h1, fun x Z1 H1 g1 W1 q1 => ⟨F, pa, Z1, env1, e1, env', W1, h2, fun y Z2 H2 g2 W2 q2 => ?_⟩⟩
  exact hi Z2 H2 x y d e1 z Q W2.zh (Dp.mono g2.zz _ _ q1) q2 h3 fun v Z3 H3 a q => k v Z3 H3 ((g1.trans g2).trans (a.gr W2.fh)) (W2.alc a) q
variable {a b c : Expr} {fa fb fc : Fx D} {pos : Pos}
theorem s_bin {op : Operator} {g : D → D → Option D} (ho : Op2 X (binaryOp op) g) (ha : PE X a (tE X.K fa)) (hb : PE X b (tE X.K fb)) : PE X (.BinOp a op b pos) (tE X.K (eOp g fa fb)) := by
  obtain ⟨r, hr, hi⟩ := ho
  exact PE.imp (pe_op hr ha hb) fun σ H Q h => tOp_of hi h
theorem s_cmp {op : CmpOp} {g : D → D → Option D} (ho : Op2 X (compareOp op) g) (ha : PE X a (tE X.K fa)) (hb : PE X b (tE X.K fb)) (hm : behindInMarks op b = false) : PE X (.Compare a [op] [b] pos) (tE X.K (eOp g fa fb)) := by
  obtain ⟨r, hr, hi⟩ := ho
  exact PE.imp (pe_cmpR hr ha hb hm) fun σ H Q h => tOp_of hi h
/-- a datum that is a bool, as a test -/
def eB (f : Fx D) : Fx Bool := fun env => match f env with
  | some (.bool b, e) => some (b, e)
  | _ => none
theorem eB_some {f : Fx D} {env env' : En} {b : Bool} (h : eB f env = some (b, env')) : f env = some (.bool b, env') := by
  unfold eB at h
  split at h
  · rename_i b' e' q
    cases h
    exact q
  · cases h
theorem tB_of {K : PySem.W.Frag} {f : Fx D} {σ : L2.St} {H : Hp} {Q : Bool → Hp → Prop} (h : tT K (eB f) σ H Q) : tE K f σ H fun x H' => ∃ k, x = .bl k ∧ Q k H' := by
  obtain ⟨F, pa, Z, env, b, env', W, e, k⟩ := h
  refine ⟨F, pa, Z, env, _, env', W, eB_some e, fun v Z' H' g W' q => ?_⟩
  cases q
  exact ⟨b, rfl, k Z' H' g W'⟩
theorem s_cmpT {op : CmpOp} {g : D → D → Option D} (ho : Op2 X (compareOp op) g) (ha : PE X a (tE X.K fa)) (hb : PE X b (tE X.K fb)) (hm : behindInMarks op b = false) : PT X (.Compare a [op] [b] pos) (tT X.K (eB (eOp g fa fb))) := by
  obtain ⟨r, hr, hi⟩ := ho
  exact PT.imp (pt_cmpR hr ha hb hm) fun σ H Q h => tOp_of hi (tB_of h)
def eChain (g g' : D → D → Option D) (f1 f2 f3 : Fx D) : Fx D := fun env => (f1 env).bind fun p => (f2 p.2).bind fun q => match g p.1 q.1 with
  | some (.bool true) => (f3 q.2).bind fun r => (g' q.1 r.1).map fun z => (z, r.2)
  | some (.bool false) => some (.bool false, q.2)
  | _ => none
theorem tChain_of {K : PySem.W.Frag} {r r' : R2} {g g' : D → D → Option D} {f1 f2 f3 : Fx D} (hi : Imp2 K r g) (hi' : Imp2 K r' g') {σ : L2.St} {H : Hp} {Q : VK} (h : tE K (eChain g g' f1 f2 f3) σ H Q) : tChain r r' (tE K f1) (tE K f2) (tE K f3) σ H Q := by
  obtain ⟨F, pa, Z, env, z, env', W, e, k⟩ := h
  unfold eChain at e
  cases h1 : f1 env with
  | none => rw [h1] at e; cases e
  | some p =>
    obtain ⟨d1, env1⟩ := p
    rw [h1, Option.bind_some] at e
    cases h2 : f2 env1 with
    | none => simp only [h2] at e; cases e
    | some q =>
      obtain ⟨d2, env2⟩ := q
      simp only [h2, Option.bind_some] at e
      refine ⟨F, pa, Z, env, d1, env1, W, h1, fun x Z1 H1 g1 W1 q1 => ⟨F, pa, Z1, env1, d2, env2, W1, h2, fun y Z2 H2 g2 W2 q2 => ?_⟩⟩
      cases h3 : g d1 d2 with
      | none => rw [h3] at e; cases e
      | some w =>
        rw [h3] at e
        cases w with
        | bool bb =>
          refine hi Z2 H2 x y d1 d2 _ _ W2.zh (Dp.mono g2.zz _ _ q1) q2 h3 fun v Z3 H3 al q => ?_
          cases q
          have W3 := W2.alc al
          have g3 := (g1.trans g2).trans (al.gr W2.fh)
          refine ⟨bb, rfl, ?_⟩
          cases bb with
          | false =>
            cases e
            exact iteF (k _ Z3 H3 g3 W3 (.bl false))
          | true =>
            cases h4 : f3 env2 with
            | none => simp only [h4] at e; cases e
            | some u =>
              obtain ⟨d3, env3⟩ := u
              simp only [h4, Option.bind_some] at e
              cases h5 : g' d2 d3 with
              | none => rw [h5] at e; cases e
              | some zz =>
                rw [h5] at e
                cases e
                refine iteT ⟨F, pa, Z3, env2, d3, _, W3, h4, fun w Z4 H4 g4 W4 q4 => ?_⟩
                exact hi' Z4 H4 y w d2 d3 z Q W4.zh (Dp.mono (al.zz.trans g4.zz) _ _ q2) q4 h5 fun v Z5 H5 a q => k v Z5 H5 ((g3.trans g4).trans (a.gr W4.fh)) (W4.alc a) q
        | _ => cases e
theorem s_chain {op op' : CmpOp} {g g' : D → D → Option D} (ho : Op2 X (compareOp op) g) (ho' : Op2 X (compareOp op') g') (ha : PE X a (tE X.K fa)) (hb : PE X b (tE X.K fb)) (hc : PE X c (tE X.K fc)) (hm : lastMarks [op, op'] [b, c] = false) :
    PE X (.Compare a [op, op'] [b, c] pos) (tE X.K (eChain g g' fa fb fc)) := by
  obtain ⟨r, hr, hi⟩ := ho
  obtain ⟨r', hr', hi'⟩ := ho'
  exact PE.imp (pe_chain hr hr' ha hb hc hm) fun σ H Q h => tChain_of hi hi' h
theorem s_chainT {op op' : CmpOp} {g g' : D → D → Option D} (ho : Op2 X (compareOp op) g) (ho' : Op2 X (compareOp op') g') (ha : PE X a (tE X.K fa)) (hb : PE X b (tE X.K fb)) (hc : PE X c (tE X.K fc)) (hm : lastMarks [op, op'] [b, c] = false) :
    PT X (.Compare a [op, op'] [b, c] pos) (tT X.K (eB (eChain g g' fa fb fc))) := by
  obtain ⟨r, hr, hi⟩ := ho
  obtain ⟨r', hr', hi'⟩ := ho'
  exact PT.imp (pt_chain hr hr' ha hb hc hm) fun σ H Q h => tChain_of hi hi' (tB_of h)
/-! ### tests -/
/-- a datum's truth -/
def truD : D → Option Bool
  | .none => some false
  | .bool b => some b
  | .int i => some (i != 0)
  | .str x => if x.length ≤ sizeLine then some ((x.length : Int) != 0) else none
  | .list ds => some (!ds.isEmpty)
  | .tuple ds => some (!ds.isEmpty)
  | .dict _ => none
def eTru (f : Fx D) : Fx Bool := fun env => (f env).bind fun p => (truD p.1).map fun b => (b, p.2)
theorem da_isEmpty {K : PySem.W.Frag} {Z : Hp} {vs : List V} {ds : List D} (h : DpAll K Z vs ds) : vs.isEmpty = ds.isEmpty := by
  cases h <;> rfl
theorem Same.sqT {K : PySem.W.Frag} {H H' : Hp} {a : Addr} {xs : List V} (e : Same H H') (h : SqT K H a xs) : SqT K H' a xs := by
  rcases h with (h | ⟨o, h⟩) | h
  · exact .inl (.inl (e _ _ h))
  · exact .inl (.inr ⟨o, e _ _ h⟩)
  · exact .inr h
theorem truV_of {K : PySem.W.Frag} {Z H : Hp} {v : V} {d : D} {b : Bool} (zh : Same Z H) (h : Dp K Z v d) (e : truD d = some b) : TruV K v H b := by
  cases h with
  | non => cases e; rfl
  | bl b => cases e; rfl
  | int i => cases e; rfl
  | str x =>
    have e2 : (if x.length ≤ sizeLine then some ((x.length : Int) != 0) else none) = some b := e
    by_cases q : x.length ≤ sizeLine
    · rw [if_pos q] at e2; cases e2; exact ⟨q, rfl⟩
    · rw [if_neg q] at e2; cases e2
  | lst hs ha => cases e; exact .inl ⟨_, zh.seq hs, by rw [da_isEmpty ha]⟩
  | tup hs ha => cases e; exact .inr (.inl ⟨_, Same.sqT zh hs, by rw [da_isEmpty ha]⟩)
theorem s_tru (ha : PE X a (tE X.K fa)) (he : ∀ whole, isTrue a X.env whole = (do let v ← whole; standAt a.pos; holding [v] (truthy v))) : PT X a (tT X.K (eTru fa)) := by
  refine PT.imp (pt_truth ha he) fun σ H Q ⟨F, pa, Z, env, b, env', W, e, k⟩ => ?_
  unfold eTru at e
  cases h1 : fa env with
  | none => rw [h1] at e; cases e
  | some p =>
    obtain ⟨d, env1⟩ := p
    rw [h1, Option.bind_some] at e
    cases h2 : truD d with
    | none => simp only [h2] at e; cases e
    | some bb =>
      simp only [h2] at e
      cases e
      exact ⟨F, pa, Z, env, d, _, W, h1, fun v Z' H' g W' q => ⟨b, truV_of W'.zh q h2, k Z' H' g W'⟩⟩
def eNotT (f : Fx Bool) : Fx Bool := fun env => (f env).map fun p => (!p.1, p.2)
theorem s_notT {f : Fx Bool} (h : PT X a (tT X.K f)) : PT X (.UnaryOp .Not a pos) (tT X.K (eNotT f)) := by
  refine PT.imp (pt_not h) fun σ H Q ⟨F, pa, Z, env, b, env', W, e, k⟩ => ?_
  unfold eNotT at e
  cases h1 : f env with
  | none => rw [h1] at e; cases e
  | some p =>
    rw [h1] at e
    cases e
    exact ⟨F, pa, Z, env, p.1, p.2, W, h1, fun Z' H' g W' => k Z' H' g W'⟩
def eAndT (f g : Fx Bool) : Fx Bool := fun env => match f env with
  | some (true, e) => g e
  | some (false, e) => some (false, e)
  | none => none
def eOrT (f g : Fx Bool) : Fx Bool := fun env => match f env with
  | some (false, e) => g e
  | some (true, e) => some (true, e)
  | none => none
theorem s_and1 {f : Fx Bool} (h : PT X a (tT X.K f)) : PW X (.BoolOp .And [a] pos) (tT X.K f) := pw_and1 h
theorem s_or1 {f : Fx Bool} (h : PT X a (tT X.K f)) : PW X (.BoolOp .Or [a] pos) (tT X.K f) := pw_or1 h
theorem s_andT {f g : Fx Bool} {rest : List Expr} (h : PT X a (tT X.K f)) (h2 : PW X (.BoolOp .And (b :: rest) pos) (tT X.K g)) : PW X (.BoolOp .And (a :: b :: rest) pos) (tT X.K (eAndT f g)) := by
  refine PW.imp (pw_and h h2) fun σ H Q ⟨F, pa, Z, env, bb, env', W, e, k⟩ => ?_
  unfold eAndT at e
  cases h1 : f env with
  | none => rw [h1] at e; cases e
  | some p =>
    obtain ⟨b1, env1⟩ := p
    rw [h1] at e
    refine ⟨F, pa, Z, env, b1, env1, W, h1, fun Z' H' g1 W' => ?_⟩
    cases b1 with
    | false => cases e; exact iteF (k Z' H' g1 W')
    | true => exact iteT ⟨F, pa, Z', env1, bb, env', W', e, fun Z2 H2 g2 W2 => k Z2 H2 (g1.trans g2) W2⟩
theorem s_orT {f g : Fx Bool} {rest : List Expr} (h : PT X a (tT X.K f)) (h2 : PW X (.BoolOp .Or (b :: rest) pos) (tT X.K g)) : PW X (.BoolOp .Or (a :: b :: rest) pos) (tT X.K (eOrT f g)) := by
  refine PW.imp (pw_or h h2) fun σ H Q ⟨F, pa, Z, env, bb, env', W, e, k⟩ => ?_
  unfold eOrT at e
  cases h1 : f env with
  | none => rw [h1] at e; cases e
  | some p =>
    obtain ⟨b1, env1⟩ := p
    rw [h1] at e
    refine ⟨F, pa, Z, env, b1, env1, W, h1, fun Z' H' g1 W' => ?_⟩
    cases b1 with
    | true => cases e; exact iteT (k Z' H' g1 W')
    | false => exact iteF ⟨F, pa, Z', env1, bb, env', W', e, fun Z2 H2 g2 W2 => k Z2 H2 (g1.trans g2) W2⟩
/-! ### and, or, not, if as values -/
def eAnd (f g : Fx D) : Fx D := fun env => match f env with
  | some (.bool true, e) => g e
  | some (.bool false, e) => some (.bool false, e)
  | _ => none
def eOr (f g : Fx D) : Fx D := fun env => match f env with
  | some (.bool false, e) => g e
  | some (.bool true, e) => some (.bool true, e)
  | _ => none
theorem s_and {rest : List Expr} (h : PE X a (tE X.K fa)) (h2 : PE X (.BoolOp .And (b :: rest) pos) (tE X.K fb)) : PE X (.BoolOp .And (a :: b :: rest) pos) (tE X.K (eAnd fa fb)) := by
  refine PE.imp (pe_and h h2) fun σ H Q ⟨F, pa, Z, env, d, env', W, e, k⟩ => ?_
  unfold eAnd at e
  split at e
  · rename_i e1 h1
    refine ⟨F, pa, Z, env, _, e1, W, h1, fun v Z' H' g1 W' q => ?_⟩
    cases q
    exact ⟨true, rfl, iteT ⟨F, pa, Z', e1, d, env', W', e, fun v Z2 H2 g2 W2 q2 => k v Z2 H2 (g1.trans g2) W2 q2⟩⟩
  · rename_i e1 h1
    cases e
    refine ⟨F, pa, Z, env, _, _, W, h1, fun v Z' H' g1 W' q => ?_⟩
    cases q
    exact ⟨false, rfl, iteF (k _ Z' H' g1 W' (.bl false))⟩
  · cases e
theorem s_or {rest : List Expr} (h : PE X a (tE X.K fa)) (h2 : PE X (.BoolOp .Or (b :: rest) pos) (tE X.K fb)) : PE X (.BoolOp .Or (a :: b :: rest) pos) (tE X.K (eOr fa fb)) := by
  refine PE.imp (pe_or h h2) fun σ H Q ⟨F, pa, Z, env, d, env', W, e, k⟩ => ?_
  unfold eOr at e
  split at e
  · rename_i e1 h1
    refine ⟨F, pa, Z, env, _, e1, W, h1, fun v Z' H' g1 W' q => ?_⟩
    cases q
    exact ⟨false, rfl, iteF ⟨F, pa, Z', e1, d, env', W', e, fun v Z2 H2 g2 W2 q2 => k v Z2 H2 (g1.trans g2) W2 q2⟩⟩
  · rename_i e1 h1
    cases e
    refine ⟨F, pa, Z, env, _, _, W, h1, fun v Z' H' g1 W' q => ?_⟩
    cases q
    exact ⟨true, rfl, iteT (k _ Z' H' g1 W' (.bl true))⟩
  · cases e
def eNot (f : Fx D) : Fx D := fun env => match f env with
  | some (.bool b, e) => some (.bool (!b), e)
  | _ => none
theorem s_not (h : PE X a (tE X.K fa)) : PE X (.UnaryOp .Not a pos) (tE X.K (eNot fa)) := by
  refine PE.imp (pe_not h) fun σ H Q ⟨F, pa, Z, env, d, env', W, e, k⟩ => ?_
  unfold eNot at e
  split at e
  · rename_i b e1 h1
    cases e
    refine ⟨F, pa, Z, env, _, _, W, h1, fun v Z' H' g1 W' q => ?_⟩
    cases q
    exact ⟨b, rfl, k _ Z' H' g1 W' (.bl _)⟩
  · cases e
def eNeg (f : Fx D) : Fx D := fun env => match f env with
  | some (.int i, e) => some (.int (-i), e)
  | _ => none
theorem s_neg (h : PE X a (tE X.K fa)) : PE X (.UnaryOp .USub a pos) (tE X.K (eNeg fa)) := by
  refine PE.imp (pe_un un_neg h) fun σ H Q ⟨F, pa, Z, env, d, env', W, e, k⟩ => ?_
  unfold eNeg at e
  split at e
  · rename_i i e1 h1
    cases e
    refine ⟨F, pa, Z, env, _, _, W, h1, fun v Z' H' g1 W' q => ?_⟩
    cases q
    exact ⟨i, rfl, k _ Z' H' g1 W' (.int _)⟩
  · cases e
def eIf {α : Type} (c : Fx Bool) (f g : Fx α) : Fx α := fun env => match c env with
  | some (true, e) => f e
  | some (false, e) => g e
  | none => none
theorem s_ifE {ft : Fx Bool} (hc : PT X c (tT X.K ft)) (ha : PE X a (tE X.K fa)) (hb : PE X b (tE X.K fb)) : PE X (.IfExp c a b pos) (tE X.K (eIf ft fa fb)) := by
  refine PE.imp (pe_ifExp hc ha hb) fun σ H Q ⟨F, pa, Z, env, d, env', W, e, k⟩ => ?_
  unfold eIf at e
  split at e
  · rename_i e1 h1
    refine ⟨F, pa, Z, env, _, e1, W, h1, fun Z' H' g1 W' => ?_⟩
    exact iteT ⟨F, pa, Z', e1, d, env', W', e, fun v Z2 H2 g2 W2 q2 => k v Z2 H2 (g1.trans g2) W2 q2⟩
  · rename_i e1 h1
    refine ⟨F, pa, Z, env, _, e1, W, h1, fun Z' H' g1 W' => ?_⟩
    exact iteF ⟨F, pa, Z', e1, d, env', W', e, fun v Z2 H2 g2 W2 q2 => k v Z2 H2 (g1.trans g2) W2 q2⟩
  · cases e
end
end Ev
namespace Ev
open PySem PySem.Spec PyProof.Rows L2
/-! ## operators -/
theorem Imp2.or {K : PySem.W.Frag} {r r' : R2} {g g' h : D → D → Option D} (a : Imp2 K r g) (b : Imp2 K r' g') (e : ∀ x y z, h x y = some z → g x y = some z ∨ g' x y = some z) : Imp2 K (fun x y H Q => r x y H Q ∨ r' x y H Q) h :=
  fun Z H x y d1 d2 z Q zh q1 q2 hz k => (e _ _ _ hz).elim (fun q => .inl (a Z H x y d1 d2 z Q zh q1 q2 q k)) fun q => .inr (b Z H x y d1 d2 z Q zh q1 q2 q k)
theorem Op2.or {X : Cx} {f : Value → Value → Sem Value} {g g' h : D → D → Option D} (a : Op2 X f g) (b : Op2 X f g') (e : ∀ x y z, h x y = some z → g x y = some z ∨ g' x y = some z) : Op2 X f h :=
  let ⟨r, h1, h2⟩ := a; let ⟨r', h1', h2'⟩ := b; ⟨_, h1.or h1', h2.or h2' e⟩
/-- an operator of two ints whose answer is a scalar v (as a datum w) -/
def gI (C : Int → Int → Bool) (g : Int → Int → D) : D → D → Option D
  | .int i, .int j => if C i j = true then some (g i j) else none
  | _, _ => none
theorem gI_some {C : Int → Int → Bool} {g : Int → Int → D} {d e z : D} (h : gI C g d e = some z) : ∃ i j, d = .int i ∧ e = .int j ∧ C i j = true ∧ z = g i j := by
  unfold gI at h
  split at h
  · rename_i i j
    by_cases q : C i j = true
    · rw [if_pos q] at h; cases h; exact ⟨i, j, rfl, rfl, q, rfl⟩
    · rw [if_neg q] at h; cases h
  · cases h
theorem imp_rI {K : PySem.W.Frag} {C : Int → Int → Prop} {c : Int → Int → Bool} {g : Int → Int → Int} (hc : ∀ i j, c i j = true → C i j) : Imp2 K (rI C fun i j => .int (g i j)) (gI c fun i j => .int (g i j)) := by
  intro Z H x y d e z Q zh q1 q2 hz k
  obtain ⟨i, j, rfl, rfl, h, rfl⟩ := gI_some hz
  cases q1; cases q2
  exact ⟨i, j, rfl, rfl, hc i j h, k _ Z H (.refl zh) (.int _)⟩
theorem imp_rI0 {K : PySem.W.Frag} {g : Int → Int → Int} : Imp2 K (rI0 fun i j => .int (g i j)) (gI (fun _ _ => true) fun i j => .int (g i j)) := by
  intro Z H x y d e z Q zh q1 q2 hz k
  obtain ⟨i, j, rfl, rfl, h, rfl⟩ := gI_some hz
  cases q1; cases q2
  exact ⟨i, j, rfl, rfl, k _ Z H (.refl zh) (.int _)⟩
theorem imp_rB0 {K : PySem.W.Frag} {g : Int → Int → Bool} : Imp2 K (rI0 fun i j => .bl (g i j)) (gI (fun _ _ => true) fun i j => .bool (g i j)) := by
  intro Z H x y d e z Q zh q1 q2 hz k
  obtain ⟨i, j, rfl, rfl, h, rfl⟩ := gI_some hz
  cases q1; cases q2
  exact ⟨i, j, rfl, rfl, k _ Z H (.refl zh) (.bl _)⟩
def gAddS : D → D → Option D
  | .str a, .str b => if a.length + b.length ≤ sizeLine then some (.str (a ++ b)) else none
  | _, _ => none
def gAddT : D → D → Option D
  | .tuple xs, .tuple ys => if xs.length + ys.length ≤ sizeLine then some (.tuple (xs ++ ys)) else none
  | _, _ => none
def gAddL : D → D → Option D
  | .list xs, .list ys => if xs.length + ys.length ≤ sizeLine then some (.list (xs ++ ys)) else none
  | _, _ => none
def gAdd : D → D → Option D
  | .int i, .int j => some (.int (i + j))
  | .str a, .str b => if a.length + b.length ≤ sizeLine then some (.str (a ++ b)) else none
  | .tuple xs, .tuple ys => if xs.length + ys.length ≤ sizeLine then some (.tuple (xs ++ ys)) else none
  | .list xs, .list ys => if xs.length + ys.length ≤ sizeLine then some (.list (xs ++ ys)) else none
  | _, _ => none
section
variable {X : Cx}
theorem o_addS : Op2 X (binaryOp .Add) gAddS := ⟨_, op_add_str, by
  intro Z H x y d e z Q zh q1 q2 hz k
  cases q1 <;> (try (cases hz; done))
  cases q2 <;> (try (cases hz; done))
  rename_i a b
  have hz' : (if a.length + b.length ≤ sizeLine then some (PyData.str (a ++ b)) else none) = some z := hz
  by_cases h : a.length + b.length ≤ sizeLine
  · rw [if_pos h] at hz'; cases hz'
    exact ⟨a, b, rfl, rfl, h, k _ Z H (.refl zh) (.str _)⟩
  · rw [if_neg h] at hz'; cases hz'⟩
theorem o_addT : Op2 X (binaryOp .Add) gAddT := ⟨_, op_catA, by
  intro Z H x y d e z Q zh q1 q2 hz k
  cases q1 <;> (try (cases hz; done))
  cases q2 <;> (try (cases hz; done))
  rename_i a us ds hs ha b us' ds' hs' ha'
  have hz' : (if ds.length + ds'.length ≤ sizeLine then some (PyData.tuple (ds ++ ds')) else none) = some z := hz
  by_cases h : ds.length + ds'.length ≤ sizeLine
  · rw [if_pos h] at hz'; cases hz'
    have l1 := da_length ha
    have l2 := da_length ha'
    refine ⟨a, b, us, us', rfl, rfl, Same.sqT zh hs, Same.sqT zh hs', by omega, fun e => ?_, fun _ e => ?_, fun _ _ p hp => ?_⟩
    · subst e; cases ha
      exact k _ Z H (.refl zh) (.tup hs' ha')
    · subst e; cases ha'
      rw [List.append_nil] at k
      exact k _ Z H (.refl zh) (.tup hs ha)
    · have al := Alc.new (o := .tup (us ++ us')) zh hp
      exact k _ _ _ al (.tup (SqT.of upd_same) (DpAll.mono al.zz _ _ (da_append ha ha')))
  · rw [if_neg h] at hz'; cases hz'⟩
theorem op_catL : OpR X (binaryOp .Add) (fun x y H Q => ∃ a b xs ys, x = .ref a ∧ y = .ref b ∧ SqL X.K H a xs ∧ SqL X.K H b ys ∧ xs.length + ys.length ≤ sizeLine ∧ ∀ p, H p = none → Q (.ref p) (upd H p (.lst (xs ++ ys)))) := by
  intro pins s σ H x y v u Q I rx ry h
  obtain ⟨l, b, xs, ys, rfl, rfl, ha, hb, hz, q⟩ := h
  cases rx
  cases ry
  obtain ⟨its, r, pl, _⟩ := I.list ha
  obtain ⟨its2, r2, pl2, _⟩ := I.list hb
  obtain ⟨⟨cls, dd, data, sl⟩, ho, hc, n, hd⟩ := pl.isList
  obtain ⟨⟨cls2, dd2, data2, sl2⟩, ho2, hc2, n2, hd2⟩ := pl2.isList
  simp only at hc hd hc2 hd2
  subst hc hd hc2 hd2
  have e : its.toArray ++ its2.toArray = (its ++ its2).toArray := by simp
  have h1 := r.length
  have h2 := r2.length
  refine concat_meets ⟨_, ho, rfl⟩ ⟨_, ho2, rfl⟩ noFill_list_add seq_list_add PySem.F.slot_list_add PySem.F.entry_list_add (PySem.F.args_list_add_2 _ _) (list_addW l b its.toArray its2.toArray n n2 dd dd2 sl sl2 (by rw [List.size_toArray, List.size_toArray]; omega)) ⟨ho, ho2, ?_⟩
  rw [e]
  exact ⟨.ref _, _, I.lnew (t' := s.toks) (r.append r2) (by rw [List.length_append]; omega), rfl, q _ I.fresh⟩
theorem o_addL : Op2 X (binaryOp .Add) gAddL := ⟨_, op_catL, by
  intro Z H x y d e z Q zh q1 q2 hz k
  cases q1 <;> (try (cases hz; done))
  cases q2 <;> (try (cases hz; done))
  rename_i a us ds hs ha b us' ds' hs' ha'
  have hz' : (if ds.length + ds'.length ≤ sizeLine then some (PyData.list (ds ++ ds')) else none) = some z := hz
  by_cases h : ds.length + ds'.length ≤ sizeLine
  · rw [if_pos h] at hz'; cases hz'
    have l1 := da_length ha
    have l2 := da_length ha'
    refine ⟨a, b, us, us', rfl, rfl, zh.seq hs, zh.seq hs', by omega, fun p hp => ?_⟩
    have al := Alc.new (o := .lst (us ++ us')) zh hp
    exact k _ _ _ al (.lst (SqL.of upd_same) (DpAll.mono al.zz _ _ (da_append ha ha')))
  · rw [if_neg h] at hz'; cases hz'⟩
theorem o_add : Op2 X (binaryOp .Add) gAdd := by
  refine Op2.or (Op2.or ⟨_, op_add, imp_rI0⟩ o_addS (h := fun d e => match d, e with | .int i, .int j => some (.int (i + j)) | .str a, .str b => gAddS (.str a) (.str b) | _, _ => none) fun x y z h => ?_)
    (Op2.or o_addT o_addL (h := fun d e => match d, e with | .tuple i, .tuple j => gAddT (.tuple i) (.tuple j) | .list i, .list j => gAddL (.list i) (.list j) | _, _ => none) fun x y z h => ?_) fun x y z h => ?_
  · cases x <;> cases y <;> first | (cases h; done) | exact .inl h | exact .inr h
  · cases x <;> cases y <;> first | (cases h; done) | exact .inl h | exact .inr h
  · cases x <;> cases y <;> first | (cases h; done) | exact .inl h | exact .inr h
def gSubI : D → D → Option D := gI (fun _ _ => true) fun i j => .int (i - j)
theorem o_subI : Op2 X (binaryOp .Sub) gSubI := ⟨_, op_sub, imp_rI0⟩
def b01 (b : Bool) : Int := if b = true then 1 else 0
def gSubB : D → D → Option D
  | .bool a, .bool b => some (.int (b01 a - b01 b))
  | _, _ => none
theorem op_subB : OpR X (binaryOp .Sub) (fun x y H Q => ∃ a b, x = .bl a ∧ y = .bl b ∧ Q (.int (b01 a - b01 b)) H) := by
  intro pins s σ H x y u v Q I rx ry h
  obtain ⟨a, b, rfl, rfl, q⟩ := h
  cases rx
  cases ry
  exact PyProof.Rows.sub_bool ⟨.int _, H, I.tok _, ⟨_, by cases a <;> cases b <;> rfl⟩, q⟩
theorem o_subB : Op2 X (binaryOp .Sub) gSubB := ⟨_, op_subB, by
  intro Z H x y d e z Q zh h1 h2 hg k
  unfold gSubB at hg
  split at hg
  · cases hg
    cases h1
    cases h2
    exact ⟨_, _, rfl, rfl, k _ Z H (.refl zh) (.int _)⟩
  · cases hg⟩
def gSub (d e : D) : Option D := match d, e with
  | .bool a, .bool b => some (.int (b01 a - b01 b))
  | d, e => gSubI d e
theorem o_sub : Op2 X (binaryOp .Sub) gSub := Op2.or o_subI o_subB fun x y z h => by
  unfold gSub at h
  split at h
  · exact .inr h
  · exact .inl h
/-- together less than a million bits -/
def mulOk (i j : Int) : Bool := decide (i.natAbs.log2 + j.natAbs.log2 < 1000000)
theorem mulOk_of {i j : Int} (h : mulOk i j = true) : CMulW i j := by
  have h2 : i.natAbs.log2 + j.natAbs.log2 < 1000000 := of_decide_eq_true h
  exact h2
def gMulI : D → D → Option D := gI mulOk fun i j => .int (i * j)
def gMulT : D → D → Option D
  | .tuple xs, .int k => if xs ≠ [] ∧ 2 ≤ k ∧ k ≤ 1000 ∧ xs.length ≤ 1000 then some (.tuple (List.replicate k.toNat xs).flatten) else none
  | _, _ => none
def gMul : D → D → Option D
  | .int i, .int j => if mulOk i j = true then some (.int (i * j)) else none
  | .tuple xs, .int k => if xs ≠ [] ∧ 2 ≤ k ∧ k ≤ 1000 ∧ xs.length ≤ 1000 then some (.tuple (List.replicate k.toNat xs).flatten) else none
  | _, _ => none
theorem da_rep {K : PySem.W.Frag} {Z : Hp} {vs : List V} {ds : List D} (h : DpAll K Z vs ds) : ∀ n : Nat, DpAll K Z (List.replicate n vs).flatten (List.replicate n ds).flatten
  | 0 => .nil
  | n + 1 => by
    rw [List.replicate_succ, List.replicate_succ, List.flatten_cons, List.flatten_cons]
    exact da_append h (da_rep h n)
theorem o_mulT : Op2 X (binaryOp .Mult) gMulT := ⟨_, op_repT, by
  intro Z H x y d e z Q zh q1 q2 hz k
  cases q1 <;> (try (cases hz; done))
  cases q2 <;> (try (cases hz; done))
  rename_i a us ds hs ha n
  have hz' : (if ds ≠ [] ∧ 2 ≤ n ∧ n ≤ 1000 ∧ ds.length ≤ 1000 then some (PyData.tuple (List.replicate n.toNat ds).flatten) else none) = some z := hz
  by_cases h : ds ≠ [] ∧ 2 ≤ n ∧ n ≤ 1000 ∧ ds.length ≤ 1000
  · rw [if_pos h] at hz'; cases hz'
    have l1 := da_length ha
    refine ⟨a, n, us, rfl, rfl, Same.sqT zh hs, fun e => ?_, h.2.1, h.2.2.1, by omega, fun p hp => ?_⟩
    · subst e; cases ha; exact h.1 rfl
    · have al := Alc.new (o := .tup (List.replicate n.toNat us).flatten) zh hp
      exact k _ _ _ al (.tup (SqT.of upd_same) (DpAll.mono al.zz _ _ (da_rep ha _)))
  · rw [if_neg h] at hz'; cases hz'⟩
theorem o_mul : Op2 X (binaryOp .Mult) gMul := by
  refine Op2.or (g := gMulI) ⟨_, op_mulW, imp_rI fun i j h => mulOk_of h⟩ o_mulT fun x y z h => ?_
  cases x <;> cases y <;> first | (cases h; done) | exact .inl h | exact .inr h
def fdivOk (_ j : Int) : Bool := decide (j ≠ 0) && decide (j.natAbs.log2 < 9000)
def gFdiv : D → D → Option D := gI fdivOk fun i j => .int (i.fdiv j)
theorem op_fdivA : OpR X (binaryOp .FloorDiv) (rI (fun _ j => j ≠ 0 ∧ j.natAbs.log2 < 9000) fun i j => .int (i.fdiv j)) := opI fun _ _ _ _ _ _ _ hc q => floordiv_int hc.1 q (.inl (PyProof.noPylong_of_log2 hc.2))
theorem o_fdiv : Op2 X (binaryOp .FloorDiv) gFdiv := ⟨_, op_fdivA, imp_rI fun i j h => by
  unfold fdivOk at h
  simp only [Bool.and_eq_true, decide_eq_true_eq] at h
  exact h⟩
def gMod : D → D → Option D := gI (fun _ j => decide (j ≠ 0)) fun i j => .int (i.fmod j)
theorem o_mod : Op2 X (binaryOp .Mod) gMod := ⟨_, op_modN, imp_rI fun i j h => of_decide_eq_true h⟩
def powOk (i j : Int) : Bool := decide (0 ≤ j) && (decide (j ≤ 1000000) && decide (i.natAbs < 2 ^ 64))
theorem powOk_of {i j : Int} (h : powOk i j = true) : CPow i j := by
  unfold powOk at h
  simp only [Bool.and_eq_true, decide_eq_true_eq] at h
  exact ⟨h.1, h.2.1, h.2.2⟩
def gPow : D → D → Option D := gI powOk fun i j => .int (i ^ j.toNat)
theorem o_pow : Op2 X (binaryOp .Pow) gPow := ⟨_, op_pow, imp_rI fun i j h => powOk_of h⟩
def gShl : D → D → Option D := gI powOk fun i j => .int (i * 2 ^ j.toNat)
theorem o_shl : Op2 X (binaryOp .LShift) gShl := ⟨_, op_shl, imp_rI fun i j h => powOk_of h⟩
/-! ### comparisons -/
def gS (g : Str → Str → Bool) : D → D → Option D
  | .str a, .str b => some (.bool (g a b))
  | _, _ => none
theorem imp_S {K : PySem.W.Frag} {g : Str → Str → Bool} : Imp2 K (fun x y H Q => ∃ i j, x = .str i ∧ y = .str j ∧ Q (.bl (g i j)) H) (gS g) := by
  intro Z H x y d e z Q zh q1 q2 hz k
  cases q1 <;> (try (cases hz; done))
  cases q2 <;> (try (cases hz; done))
  cases hz
  exact ⟨_, _, rfl, rfl, k _ Z H (.refl zh) (.bl _)⟩
def strLt (a b : Str) : Bool := decide (a.cps.toList < b.cps.toList)
def gCmp (gi : Int → Int → Bool) (gs : Str → Str → Bool) : D → D → Option D
  | .int i, .int j => some (.bool (gi i j))
  | .str i, .str j => some (.bool (gs i j))
  | _, _ => none
theorem o_cmp {op : CmpOp} {gi : Int → Int → Bool} {gs : Str → Str → Bool} (h1 : OpR X (compareOp op) (rI0 fun i j => .bl (gi i j))) (h2 : OpR X (compareOp op) (fun x y H Q => ∃ i j, x = .str i ∧ y = .str j ∧ Q (.bl (gs i j)) H)) : Op2 X (compareOp op) (gCmp gi gs) := by
  refine Op2.or (g := gI (fun _ _ => true) fun i j => .bool (gi i j)) (g' := gS gs) ⟨_, h1, imp_rB0⟩ ⟨_, h2, imp_S⟩ fun x y z h => ?_
  cases x <;> cases y <;> first | (cases h; done) | exact .inl h | exact .inr h
def gLt : D → D → Option D := gCmp (fun i j => decide (i < j)) strLt
def gLe : D → D → Option D := gCmp (fun i j => decide (i ≤ j)) fun a b => !strLt b a
def gGt : D → D → Option D := gCmp (fun i j => decide (j < i)) fun a b => strLt b a
def gGe : D → D → Option D := gCmp (fun i j => decide (j ≤ i)) fun a b => !strLt a b
theorem o_lt : Op2 X (compareOp .Lt) gLt := o_cmp op_lt op_lt_str
theorem o_le : Op2 X (compareOp .LtE) gLe := o_cmp op_le op_le_str
theorem o_gt : Op2 X (compareOp .Gt) gGt := o_cmp op_gt op_gt_str
theorem o_ge : Op2 X (compareOp .GtE) gGe := o_cmp op_ge op_ge_str
mutual
theorem Dp.plain {K : PySem.W.Frag} {H : Hp} : ∀ (d : D) (v : V), Dp K H v d → d.plain = true
  | .none, _, _ => rfl
  | .bool _, _, _ => rfl
  | .int _, _, _ => rfl
  | .str _, _, _ => rfl
  | .list xs, _, h => by
    cases h with
    | lst _ ha =>
      simp only [PyData.plain]
      exact DpAll.plain xs _ ha
  | .tuple xs, _, h => by
    cases h with
    | tup _ ha =>
      simp only [PyData.plain]
      exact DpAll.plain xs _ ha
  | .dict _, _, h => by cases h
theorem DpAll.plain {K : PySem.W.Frag} {H : Hp} : ∀ (ds : List D) (vs : List V), DpAll K H vs ds → PyData.plainAll ds = true
  | [], _, _ => rfl
  | d :: ds, _, h => by
    cases h with
    | cons h1 h2 => simp only [PyData.plainAll, Dp.plain d _ h1, DpAll.plain ds _ h2, Bool.and_self]
end
def eqOk (d e : D) : Bool := decide (min d.depth e.depth ≤ 64)
def gEq (d e : D) : Option D := if eqOk d e = true then some (.bool (PyData.eqv d e)) else none
def gNe (d e : D) : Option D := if eqOk d e = true then some (.bool (!PyData.eqv d e)) else none
theorem op_eqP (hu : X.A.units + 64 < cLine) : OpR X (compareOp .Eq) (fun x y H Q => ∃ d e, Dp X.K H x d ∧ Dp X.K H y e ∧ min d.depth e.depth ≤ 64 ∧ Q (.bl (PyData.eqv d e)) H) := by
  intro pins s σ H x y v u Q I rx ry ⟨d, e, hd, he, hm, q⟩
  obtain ⟨as, r1⟩ := Dp.reads I d x v hd rx
  obtain ⟨bs, r2⟩ := Dp.reads I e y u he ry
  exact SeqAt.eq_plain r1 r2 (Dp.plain _ _ hd) (Dp.plain _ _ he) (by omega) ⟨.bl _, H, I, rfl, q⟩
theorem op_neP (hu : X.A.units + 64 < cLine) : OpR X (compareOp .NotEq) (fun x y H Q => ∃ d e, Dp X.K H x d ∧ Dp X.K H y e ∧ min d.depth e.depth ≤ 64 ∧ Q (.bl (!PyData.eqv d e)) H) := by
  intro pins s σ H x y v u Q I rx ry ⟨d, e, hd, he, hm, q⟩
  obtain ⟨as, r1⟩ := Dp.reads I d x v hd rx
  obtain ⟨bs, r2⟩ := Dp.reads I e y u he ry
  exact SeqAt.ne_plain r1 r2 (Dp.plain _ _ hd) (Dp.plain _ _ he) (by omega) ⟨.bl _, H, I, rfl, q⟩
theorem o_eq (hu : X.A.units + 64 < cLine) : Op2 X (compareOp .Eq) gEq := ⟨_, op_eqP hu, by
  intro Z H x y d e z Q zh q1 q2 hz k
  unfold gEq eqOk at hz
  by_cases h : min d.depth e.depth ≤ 64
  · rw [if_pos (decide_eq_true h)] at hz
    cases hz
    exact ⟨d, e, Dp.mono zh _ _ q1, Dp.mono zh _ _ q2, h, k _ Z H (.refl zh) (.bl _)⟩
  · rw [if_neg (by simpa using h)] at hz; cases hz⟩
theorem o_ne (hu : X.A.units + 64 < cLine) : Op2 X (compareOp .NotEq) gNe := ⟨_, op_neP hu, by
  intro Z H x y d e z Q zh q1 q2 hz k
  unfold gNe eqOk at hz
  by_cases h : min d.depth e.depth ≤ 64
  · rw [if_pos (decide_eq_true h)] at hz
    cases hz
    exact ⟨d, e, Dp.mono zh _ _ q1, Dp.mono zh _ _ q2, h, k _ Z H (.refl zh) (.bl _)⟩
  · rw [if_neg (by simpa using h)] at hz; cases hz⟩
def isNone : D → Bool
  | .none => true
  | _ => false
def gIs (d e : D) : Option D := match e with
  | .none => some (.bool (isNone d))
  | _ => none
def gIsNot (d e : D) : Option D := match e with
  | .none => some (.bool (!isNone d))
  | _ => none
theorem isNone_of {K : PySem.W.Frag} {Z : Hp} {x : V} {d : D} (h : Dp K Z x d) : isNone d = decide (x = .non) := by
  cases h <;> simp [isNone]
theorem o_is : Op2 X (compareOp .Is) gIs := ⟨_, op_isN, by
  intro Z H x y d e z Q zh q1 q2 hz k
  cases q2 <;> (try (cases hz; done))
  cases hz
  exact ⟨rfl, k _ Z H (.refl zh) (by rw [isNone_of q1]; exact .bl _)⟩⟩
theorem o_isnot : Op2 X (compareOp .IsNot) gIsNot := ⟨_, op_notN, by
  intro Z H x y d e z Q zh q1 q2 hz k
  cases q2 <;> (try (cases hz; done))
  cases hz
  exact ⟨rfl, k _ Z H (.refl zh) (by rw [isNone_of q1]; exact .bl _)⟩⟩
def inOk (xs : List D) (d : D) : Bool := decide (min (PyData.depthAll xs) d.depth ≤ 62)
def gIn (d e : D) : Option D := match e with
  | .list xs => if inOk xs d = true then some (.bool (xs.any fun y => PyData.eqv y d)) else none
  | .tuple xs => if inOk xs d = true then some (.bool (xs.any fun y => PyData.eqv y d)) else none
  | _ => none
def gNotIn (d e : D) : Option D := match e with
  | .list xs => if inOk xs d = true then some (.bool (!xs.any fun y => PyData.eqv y d)) else none
  | .tuple xs => if inOk xs d = true then some (.bool (!xs.any fun y => PyData.eqv y d)) else none
  | _ => none
theorem op_inP (hu : X.A.units + 64 < cLine) : OpR X (compareOp .In) (fun x y H Q => ∃ d e z, Dp X.K H x d ∧ Dp X.K H y e ∧ gIn d e = some z ∧ ∀ b, z = .bool b → Q (.bl b) H) := by
  intro pins s σ H x y v u Q I rx ry ⟨d, e, z, hd, he, hz, q⟩
  obtain ⟨as, r1⟩ := Dp.reads I d x v hd rx
  obtain ⟨bs, r2⟩ := Dp.reads I e y u he ry
  unfold gIn at hz
  have pe := Dp.plain _ _ he
  have pd := Dp.plain _ _ hd
  split at hz
  · rename_i xs
    by_cases h : inOk xs d = true
    · rw [if_pos h] at hz; cases hz
      have h2 := of_decide_eq_true h
      exact SeqAt.in_list_data r2 r1 (by simpa [PyData.plain] using pe) pd (by omega) ⟨.bl _, H, I, rfl, q _ rfl⟩
    · rw [if_neg h] at hz; cases hz
  · rename_i xs
    by_cases h : inOk xs d = true
    · rw [if_pos h] at hz; cases hz
      have h2 := of_decide_eq_true h
      exact SeqAt.in_tuple_data r2 r1 (by simpa [PyData.plain] using pe) pd (by omega) ⟨.bl _, H, I, rfl, q _ rfl⟩
    · rw [if_neg h] at hz; cases hz
  · cases hz
theorem op_notInP (hu : X.A.units + 64 < cLine) : OpR X (compareOp .NotIn) (fun x y H Q => ∃ d e z, Dp X.K H x d ∧ Dp X.K H y e ∧ gNotIn d e = some z ∧ ∀ b, z = .bool b → Q (.bl b) H) := by
  intro pins s σ H x y v u Q I rx ry ⟨d, e, z, hd, he, hz, q⟩
  obtain ⟨as, r1⟩ := Dp.reads I d x v hd rx
  obtain ⟨bs, r2⟩ := Dp.reads I e y u he ry
  unfold gNotIn at hz
  have pe := Dp.plain _ _ he
  have pd := Dp.plain _ _ hd
  split at hz
  · rename_i xs
    by_cases h : inOk xs d = true
    · rw [if_pos h] at hz; cases hz
      have h2 := of_decide_eq_true h
      exact SeqAt.notIn_list_data r2 r1 (by simpa [PyData.plain] using pe) pd (by omega) ⟨.bl _, H, I, rfl, q _ rfl⟩
    · rw [if_neg h] at hz; cases hz
  · rename_i xs
    by_cases h : inOk xs d = true
    · rw [if_pos h] at hz; cases hz
      have h2 := of_decide_eq_true h
      exact SeqAt.notIn_tuple_data r2 r1 (by simpa [PyData.plain] using pe) pd (by omega) ⟨.bl _, H, I, rfl, q _ rfl⟩
    · rw [if_neg h] at hz; cases hz
  · cases hz
theorem gIn_bool {d e z : D} (h : gIn d e = some z) : ∃ b, z = .bool b := by
  unfold gIn at h
  split at h
  · split at h <;> cases h; exact ⟨_, rfl⟩
  · split at h <;> cases h; exact ⟨_, rfl⟩
  · cases h
theorem gNotIn_bool {d e z : D} (h : gNotIn d e = some z) : ∃ b, z = .bool b := by
  unfold gNotIn at h
  split at h
  · split at h <;> cases h; exact ⟨_, rfl⟩
  · split at h <;> cases h; exact ⟨_, rfl⟩
  · cases h
theorem o_in (hu : X.A.units + 64 < cLine) : Op2 X (compareOp .In) gIn := ⟨_, op_inP hu, by
  intro Z H x y d e z Q zh q1 q2 hz k
  obtain ⟨b, rfl⟩ := gIn_bool hz
  exact ⟨d, e, _, Dp.mono zh _ _ q1, Dp.mono zh _ _ q2, hz, fun c hc => by cases hc; exact k _ Z H (.refl zh) (.bl _)⟩⟩
theorem o_notin (hu : X.A.units + 64 < cLine) : Op2 X (compareOp .NotIn) gNotIn := ⟨_, op_notInP hu, by
  intro Z H x y d e z Q zh q1 q2 hz k
  obtain ⟨b, rfl⟩ := gNotIn_bool hz
  exact ⟨d, e, _, Dp.mono zh _ _ q1, Dp.mono zh _ _ q2, hz, fun c hc => by cases hc; exact k _ Z H (.refl zh) (.bl _)⟩⟩
end
end Ev
namespace Ev
open PySem PySem.Spec PyProof.Rows L2
/-! ## arguments -/
inductive AR where
  | val (d : D) | slot (i : Nat) | tmp (ds : List D)
def tmps : List V → List AR → List Addr
  | .ref p :: vs, .tmp _ :: as => p :: tmps vs as
  | _ :: vs, _ :: as => tmps vs as
  | _, _ => []
inductive ArsOk (K : PySem.W.Frag) (F Z H : Hp) (σ : L2.St) (env : En) : List V → List AR → Prop where
  | nil : ArsOk K F Z H σ env [] []
  | val {v : V} {d : D} {vs : List V} {as : List AR} : Dp K Z v d → ArsOk K F Z H σ env vs as → ArsOk K F Z H σ env (v :: vs) (.val d :: as)
  | slot {v : V} {i : Nat} {vs : List V} {as : List AR} : σ[i]? = some (some v) → ArsOk K F Z H σ env vs as → ArsOk K F Z H σ env (v :: vs) (.slot i :: as)
  | tmp {p : Addr} {us : List V} {ds : List D} {vs : List V} {as : List AR} : H p = some (.lst us) → Z p = none → F p = none → DpAll K Z us ds →
      (∀ (i : Nat) (o : Option V) (s : Sl), σ[i]? = some o → env[i]? = some s → ¬ Ow H o s p) → p ∉ tmps vs as → ArsOk K F Z H σ env vs as → ArsOk K F Z H σ env (.ref p :: vs) (.tmp ds :: as)
def tAa (K : PySem.W.Frag) (f : Fx (List AR)) : TA := fun σ H Q => ∃ F pa Z env as env', Wst K F Z H pa σ env ∧ f env = some (as, env') ∧
  ∀ vs Z' H', Gr F Z Z' → Wst K F Z' H' pa σ env' → ArsOk K F Z' H' σ env' vs as → Q vs H'
def aNil : Fx (List AR) := fun env => some ([], env)
def aVal (f : Fx D) (g : Fx (List AR)) : Fx (List AR) := fun env => (f env).bind fun p => (g p.2).map fun q => (.val p.1 :: q.1, q.2)
def isOwn : Sl → Bool
  | .own _ => true
  | .par _ => true
  | _ => false
theorem Wst.own_at {K : PySem.W.Frag} {F Z H : Hp} {pa : Nat → Option Addr} {σ : L2.St} {env : En} {i : Nat} {s : Sl} (W : Wst K F Z H pa σ env) (e : env[i]? = some s) (h : isOwn s = true) : ∃ v, σ[i]? = some (some v) := by
  obtain ⟨o, eo, so⟩ := W.get e
  cases so with
  | no => cases h
  | val => cases h
  | own => exact ⟨_, eo⟩
  | par => exact ⟨_, eo⟩
  | mat => cases h
def aSlot (i : Nat) (g : Fx (List AR)) : Fx (List AR) := fun env => match env[i]? with
  | some (.val d) => (g env).map fun q => (.val d :: q.1, q.2)
  | some s => if isOwn s = true then (g env).map fun q => (.slot i :: q.1, q.2) else none
  | none => none
def aTmp (f : Fx R) (g : Fx (List AR)) : Fx (List AR) := fun env => match f env with
  | some (.fresh ds, e) => (g e).map fun q => (.tmp ds :: q.1, q.2)
  | _ => none
theorem ArsOk.tmpF {K : PySem.W.Frag} {F Z H : Hp} {σ : L2.St} {env : En} : ∀ {vs : List V} {as : List AR}, ArsOk K F Z H σ env vs as → ∀ p ∈ tmps vs as, F p = none
  | _, _, .nil, p, h => by cases h
  | _, _, .val (v := v) _ t, p, h => t.tmpF p (by cases v <;> exact h)
  | _, _, .slot (v := v) _ t, p, h => t.tmpF p (by cases v <;> exact h)
  | _, _, .tmp (p := p0) _ _ f _ _ _ t, p, h => by
    rcases List.mem_cons.mp (show p ∈ p0 :: tmps _ _ from h) with rfl | h
    · exact f
    · exact t.tmpF p h
theorem ArsOk.frame {K : PySem.W.Frag} {F F1 Z H : Hp} {σ : L2.St} {env : En} (s : Same F F1) : ∀ {vs : List V} {as : List AR}, ArsOk K F1 Z H σ env vs as → ArsOk K F Z H σ env vs as
  | _, _, .nil => .nil
  | _, _, .val a t => .val a (t.frame s)
  | _, _, .slot a t => .slot a (t.frame s)
  | _, _, .tmp a b c d e f t => .tmp a b (s.free c) d e f (t.frame s)
section
variable {X : Cx} {e : Expr} {es : List Expr}
theorem s_aNil : PA X [] (tAa X.K aNil) := by
  refine PA.imp pa_nil fun σ H Q ⟨F, pa, Z, env, as, env', W, h, k⟩ => ?_
  cases h
  exact k [] Z H (.refl ..) W .nil
theorem s_aVal {f : Fx D} {g : Fx (List AR)} (h1 : PE X e (tE X.K f)) (h2 : PA X es (tAa X.K g)) (hs : starEach (e :: es) X.env = (false, eval e X.env) :: starEach es X.env) : PA X (e :: es) (tAa X.K (aVal f g)) := by
  refine PA.imp (pa_cons h1 h2 hs) fun σ H Q ⟨F, pa, Z, env, as, env', W, h, k⟩ => ?_
  unfold aVal at h
  cases e1 : f env with
  | none => rw [e1] at h; cases h
  | some p =>
    obtain ⟨d, env1⟩ := p
    rw [e1, Option.bind_some] at h
    cases e2 : g env1 with
    | none => simp only [e2] at h; cases h
    | some q =>
      obtain ⟨as', env2⟩ := q
      simp only [e2] at h
      cases h
      exact ⟨F, pa, Z, env, d, env1, W, e1, fun v Z1 H1 g1 W1 q1 => ⟨F, pa, Z1, env1, as', _, W1, e2, fun vs Z2 H2 g2 W2 q2 => k (v :: vs) Z2 H2 (g1.trans g2) W2 (.val (Dp.mono g2.zz _ _ q1) q2)⟩⟩
theorem s_aSlot {i : Nat} {g : Fx (List AR)} (h1 : PE X e (tVar i)) (h2 : PA X es (tAa X.K g)) (hs : starEach (e :: es) X.env = (false, eval e X.env) :: starEach es X.env)
    : PA X (e :: es) (tAa X.K (aSlot i g)) := by
  refine PA.imp (pa_cons h1 h2 hs) fun σ H Q ⟨F, pa, Z, env, as, env', W, h, k⟩ => ?_
  unfold aSlot at h
  split at h
  · rename_i d e1
    obtain ⟨o, eo, so⟩ := W.get e1
    cases so with
    | @val v _ dp =>
      cases e3 : g env with
      | none => rw [e3] at h; cases h
      | some q =>
        rw [e3] at h
        cases h
        exact ⟨v, eo, F, pa, Z, env, q.1, q.2, W, e3, fun vs Z2 H2 g2 W2 q2 => k (v :: vs) Z2 H2 g2 W2 (.val (Dp.mono g2.zz _ _ dp) q2)⟩
  · rename_i sl _ e1
    cases e2 : isOwn sl with
    | false => rw [e2, if_neg Bool.false_ne_true] at h; cases h
    | true =>
      rw [if_pos e2] at h
      obtain ⟨v, hv⟩ := W.own_at e1 e2
      cases e3 : g env with
      | none => rw [e3] at h; cases h
      | some q =>
        rw [e3] at h
        cases h
        exact ⟨v, hv, F, pa, Z, env, q.1, q.2, W, e3, fun vs Z2 H2 g2 W2 q2 => k (v :: vs) Z2 H2 g2 W2 (.slot hv q2)⟩
  · cases h
theorem s_aTmp {f : Fx R} {g : Fx (List AR)} (h1 : PE X e (tR X.K f)) (h2 : PA X es (tAa X.K g)) (hs : starEach (e :: es) X.env = (false, eval e X.env) :: starEach es X.env) : PA X (e :: es) (tAa X.K (aTmp f g)) := by
  refine PA.imp (pa_cons h1 h2 hs) fun σ H Q ⟨F, pa, Z, env, as, env', W, h, k⟩ => ?_
  unfold aTmp at h
  split at h
  · rename_i ds env1 e1
    cases e2 : g env1 with
    | none => rw [e2] at h; cases h
    | some q =>
      rw [e2] at h
      cases h
      refine ⟨F, pa, Z, env, _, env1, W, e1, fun v Z1 H1 g1 W1 q1 => ?_⟩
      obtain ⟨p, us, rfl, hp, zp, fp, da, no⟩ := q1
      have sf : Same F (upd F p (.lst us)) := upd_none fp
      refine ⟨upd F p (.lst us), pa, Z1, env1, q.1, q.2, W1.frameUp hp no, e2, fun vs Z2 H2 g2 W2 q2 => ?_⟩
      have g2' : Gr F Z1 Z2 := g2.frame sf
      refine k (.ref p :: vs) Z2 H2 (g1.trans g2') (W2.frame sf) (.tmp (W2.fh p _ upd_same) ?_ fp (DpAll.mono g2.zz _ _ da) (fun i o s a1 a2 a3 => ?_) (fun hm => ?_) (q2.frame sf))
      · exact (g2.nf p (by rw [upd_same]; exact fun z => nomatch z)).trans zp
      · obtain ⟨us', b1, b2, b3⟩ := (W2.sl i o s a1 a2).at_ a3
        rw [upd_same] at b2; cases b2
      · have := q2.tmpF p hm
        rw [upd_same] at this; cases this
  · cases h
end
end Ev
namespace Ev
open PySem PySem.Spec PyProof.Rows L2
/-! ## own defs -/
def ownAdr : List V → List AV → List Addr
  | .ref a :: vs, .own _ :: as => a :: ownAdr vs as
  | _ :: vs, _ :: as => ownAdr vs as
  | _, _ => []
inductive AvOk (K : PySem.W.Frag) (F Z H : Hp) : List V → List AV → Prop where
  | nil : AvOk K F Z H [] []
  | val {v : V} {d : D} {vs : List V} {as : List AV} : Dp K Z v d → AvOk K F Z H vs as → AvOk K F Z H (v :: vs) (.val d :: as)
  | own {a : Addr} {us : List V} {ds : List D} {vs : List V} {as : List AV} : H a = some (.lst us) → F a = none → Z a = none → DpAll K Z us ds → a ∉ ownAdr vs as → AvOk K F Z H vs as → AvOk K F Z H (.ref a :: vs) (.own ds :: as)
theorem AvOk.length {K : PySem.W.Frag} {F Z H : Hp} : ∀ {vs : List V} {as : List AV}, AvOk K F Z H vs as → vs.length = as.length
  | _, _, .nil => rfl
  | _, _, .val _ t => congrArg Nat.succ t.length
  | _, _, .own _ _ _ _ _ t => congrArg Nat.succ t.length
/-- what stands at the lists handed in, behind the call -/
inductive OutOk (K : PySem.W.Frag) (Z H : Hp) : List Addr → List (List D) → Prop where
  | nil : OutOk K Z H [] []
  | cons {a : Addr} {us : List V} {ds : List D} {as : List Addr} {os : List (List D)} : H a = some (.lst us) → Z a = none → DpAll K Z us ds → OutOk K Z H as os → OutOk K Z H (a :: as) (ds :: os)
theorem OutOk.mem {K : PySem.W.Frag} {Z H : Hp} : ∀ {as : List Addr} {os : List (List D)}, OutOk K Z H as os → ∀ a ∈ as, Z a = none ∧ ∃ us, H a = some (.lst us)
  | _, _, .nil, a, h => by cases h
  | _, _, .cons (a := a0) h1 h2 _ t, a, h => by
    rcases List.mem_cons.mp h with rfl | h
    · exact ⟨h2, _, h1⟩
    · exact t.mem a h
def RtOk (K : PySem.W.Frag) (F Z H : Hp) (own : List Addr) (v : V) : R → Prop
  | .val d => Dp K Z v d
  | .fresh ds => ∃ p us, v = .ref p ∧ H p = some (.lst us) ∧ Z p = none ∧ F p = none ∧ p ∉ own ∧ DpAll K Z us ds
  | .mat dss => ∃ p us bs, v = .ref p ∧ H p = some (.lst us) ∧ Z p = none ∧ F p = none ∧ RowsOk K F Z H us dss bs ∧ p ∉ bs ∧ ∀ q, (q = p ∨ q ∈ bs) → q ∉ own
abbrev Fn := List AV → Option (R × List (List D))
/-- the promise of a def that answers as g does -/
def spF (K : PySem.W.Frag) (np : Nat) (g : Fn) : Sp := fun vs H Q _ => vs.length = np ∧ ∃ F Z avs r outs, Same F H ∧ Same Z H ∧ AvOk K F Z H vs avs ∧ g avs = some (r, outs) ∧
  ∀ v Z' H', Gr F Z Z' → Same F H' → Same Z' H' → OutOk K Z' H' (ownAdr vs avs) outs → RtOk K F Z' H' (ownAdr vs avs) v r → Q v H'
/-- the values handed in, as they stand at the call -/
def toAv (env : En) : List AR → Option (List AV)
  | [] => some []
  | .val d :: as => (toAv env as).map fun r => .val d :: r
  | .tmp ds :: as => (toAv env as).map fun r => .own ds :: r
  | .slot i :: as => match env[i]? with
    | some (.own ds) => (toAv env as).map fun r => .own ds :: r
    | some (.par ds) => (toAv env as).map fun r => .own ds :: r
    | _ => none
def slotsOf : List AR → List Nat
  | [] => []
  | .slot i :: as => i :: slotsOf as
  | _ :: as => slotsOf as
def putOuts : List AR → List (List D) → En → Option En
  | [], [], env => some env
  | .val _ :: as, os, env => putOuts as os env
  | .tmp _ :: as, _ :: os, env => putOuts as os env
  | .slot i :: as, o :: os, env => match env[i]? with
    | some (.own _) => putOuts as os (env.set i (.own o))
    | some (.par _) => putOuts as os (env.set i (.par o))
    | _ => none
  | _, _, _ => none
def natNodup : List Nat → Bool
  | [] => true
  | n :: ns => !ns.contains n && natNodup ns
theorem natNodup_ok : ∀ {l : List Nat}, natNodup l = true → l.Nodup
  | [], _ => .nil
  | n :: ns, h => by
    unfold natNodup at h
    simp only [Bool.and_eq_true, Bool.not_eq_true', List.contains_eq_mem, decide_eq_false_iff_not] at h
    exact List.nodup_cons.mpr ⟨h.1, natNodup_ok h.2⟩
def eCall (g : Fn) (f : Fx (List AR)) : Fx R := fun env => match f env with
  | some (as, env1) => if natNodup (slotsOf as) = true then
      match toAv env1 as with
      | some avs => match g avs with
        | some (r, outs) => (putOuts as outs env1).map fun e => (r, e)
        | none => none
      | none => none
    else none
  | none => none
section
variable {K : PySem.W.Frag} {F Z H : Hp} {pa : Nat → Option Addr} {σ : L2.St} {env : En}
/-- the frame of a call: all but the lists handed in -/
def minus (H : Hp) (l : List Addr) : Hp := fun b => if b ∈ l then none else H b
theorem minus_in {l : List Addr} {b : Addr} (h : b ∈ l) : minus H l b = none := if_pos h
theorem minus_out {l : List Addr} {b : Addr} (h : b ∉ l) : minus H l b = H b := if_neg h
theorem minus_same {l : List Addr} : Same (minus H l) H := fun b o e => by
  by_cases h : b ∈ l
  · rw [minus_in h] at e; cases e
  · rw [minus_out h] at e; exact e
/-- the lists handed in: slots' own, or temporaries -/
theorem ars_adr (W : Wst K F Z H pa σ env) : ∀ {vs : List V} {as : List AR} {avs : List AV}, ArsOk K F Z H σ env vs as → toAv env as = some avs →
    ∀ a ∈ ownAdr vs avs, (∃ i ∈ slotsOf as, ∃ s, σ[i]? = some (some (.ref a)) ∧ env[i]? = some s ∧ Ow H (some (.ref a)) s a) ∨ a ∈ tmps vs as
  | _, _, avs, .nil, h, a, ha => by cases h; cases ha
  | _, _, avs, .val (v := v) (d := d) (vs := vs) (as := as) _ t, h, a, ha => by
    cases e : toAv env as with
    | none => simp only [toAv, e] at h; cases h
    | some r =>
      simp only [toAv, e] at h; cases h
      have ha' : a ∈ ownAdr vs r := by cases v <;> exact ha
      rcases ars_adr W t e a ha' with q | q
      · exact .inl q
      · exact .inr (by cases v <;> exact q)
  | _, _, avs, .tmp (p := p) (ds := ds) (vs := vs) (as := as) _ _ _ _ _ _ t, h, a, ha => by
    cases e : toAv env as with
    | none => simp only [toAv, e] at h; cases h
    | some r =>
      simp only [toAv, e] at h; cases h
      rcases List.mem_cons.mp (show a ∈ p :: ownAdr vs r from ha) with rfl | ha
      · exact .inr (List.mem_cons_self ..)
      · rcases ars_adr W t e a ha with q | q
        · exact .inl q
        · exact .inr (List.mem_cons_of_mem _ q)
  | _, _, avs, .slot (v := v) (i := i) (vs := vs) (as := as) hv t, h, a, ha => by
    have key : ∀ (s : Sl) (ds : List D), env[i]? = some s → (∀ b, Ow H (some (.ref b)) s b) → (toAv env as).map (fun r => AV.own ds :: r) = some avs → ((∃ k ∈ slotsOf (.slot i :: as), ∃ s, σ[k]? = some (some (.ref a)) ∧ env[k]? = some s ∧ Ow H (some (.ref a)) s a) ∨ a ∈ tmps vs as) := fun s ds es ow h => by
      cases e : toAv env as with
      | none => rw [e] at h; cases h
      | some r =>
        rw [e] at h; cases h
        cases v with
        | ref b =>
          rcases List.mem_cons.mp (show a ∈ b :: ownAdr vs r from ha) with rfl | ha
          · exact .inl ⟨i, List.mem_cons_self .., s, hv, es, ow _⟩
          · rcases ars_adr W t e a ha with ⟨j, hj, q⟩ | q
            · exact .inl ⟨j, List.mem_cons_of_mem _ hj, q⟩
            · exact .inr q
        | _ =>
          rcases ars_adr W t e a ha with ⟨j, hj, q⟩ | q
          · exact .inl ⟨j, List.mem_cons_of_mem _ hj, q⟩
          · exact .inr q
    have fin : (∃ k ∈ slotsOf (.slot i :: as), ∃ s, σ[k]? = some (some (.ref a)) ∧ env[k]? = some s ∧ Ow H (some (.ref a)) s a) ∨ a ∈ tmps vs as := by
      unfold toAv at h
      split at h
      · rename_i ds es; exact key _ ds es (fun _ => rfl) h
      · rename_i ds es; exact key _ ds es (fun _ => rfl) h
      · cases h
    rcases fin with q | q
    · exact .inl q
    · exact .inr (by cases v <;> exact q)
theorem tmps_not_own : ∀ {vs : List V} {as : List AR}, ArsOk K F Z H σ env vs as → ∀ p ∈ tmps vs as, (∃ us, H p = some (.lst us)) ∧ Z p = none ∧ F p = none ∧ ∀ (i : Nat) (o : Option V) (s : Sl), σ[i]? = some o → env[i]? = some s → ¬ Ow H o s p
  | _, _, .nil, p, h => by cases h
  | _, _, .val (v := v) _ t, p, h => tmps_not_own t p (by cases v <;> exact h)
  | _, _, .slot (v := v) _ t, p, h => tmps_not_own t p (by cases v <;> exact h)
  | _, _, .tmp (p := p0) a b c d e f t, p, h => by
    rcases List.mem_cons.mp (show p ∈ p0 :: tmps _ _ from h) with rfl | h
    · exact ⟨⟨_, a⟩, b, c, e⟩
    · exact tmps_not_own t p h
theorem ars_av (W : Wst K F Z H pa σ env) (Fc : Hp) : ∀ {vs : List V} {as : List AR} {avs : List AV}, ArsOk K F Z H σ env vs as → toAv env as = some avs → (slotsOf as).Nodup → (∀ a ∈ ownAdr vs avs, Fc a = none) → AvOk K Fc Z H vs avs
  | _, _, avs, .nil, h, _, _ => by cases h; exact .nil
  | _, _, avs, .val (v := v) (d := d) (vs := vs) (as := as) q t, h, nd, hF => by
    cases e : toAv env as with
    | none => simp only [toAv, e] at h; cases h
    | some r =>
      simp only [toAv, e] at h; cases h
      exact .val q (ars_av W Fc t e nd fun a ha => hF a (by cases v <;> exact ha))
  | _, _, avs, .tmp (p := p) (ds := ds) (vs := vs) (as := as) h1 h2 h3 h4 h5 h6 t, h, nd, hF => by
    cases e : toAv env as with
    | none => simp only [toAv, e] at h; cases h
    | some r =>
      simp only [toAv, e] at h; cases h
      refine .own h1 (hF p (List.mem_cons_self ..)) h2 h4 (fun hm => ?_) (ars_av W Fc t e nd fun a ha => hF a (List.mem_cons_of_mem _ ha))
      rcases ars_adr W t e p hm with ⟨i, _, s, q1, q2, q3⟩ | q
      · exact h5 i _ s q1 q2 q3
      · exact h6 q
  | _, _, avs, .slot (v := v) (i := i) (vs := vs) (as := as) hv t, h, nd, hF => by
    have nd' := List.nodup_cons.mp (show (i :: slotsOf as).Nodup from nd)
    have key : ∀ (s : Sl) (a : Addr) (us : List V) (ds : List D), v = .ref a → env[i]? = some s → Ow H (some (.ref a)) s a → H a = some (.lst us) → Z a = none → DpAll K Z us ds → (toAv env as).map (fun r => AV.own ds :: r) = some avs → AvOk K Fc Z H (v :: vs) avs := fun s a us ds ev es ow h1 h2 h3 h => by
      subst ev
      cases e : toAv env as with
      | none => rw [e] at h; cases h
      | some r =>
        rw [e] at h; cases h
        refine .own h1 (hF a (List.mem_cons_self ..)) h2 h3 (fun hm => ?_) (ars_av W Fc t e nd'.2 fun b hb => hF b (List.mem_cons_of_mem _ hb))
        rcases ars_adr W t e a hm with ⟨j, hj, s', q1, q2, q3⟩ | q
        · exact W.dj i j _ _ s s' a (fun z => nd'.1 (z ▸ hj)) hv es q1 q2 ow q3
        · exact (tmps_not_own t a q).2.2.2 i _ s hv es ow
    unfold toAv at h
    split at h
    · rename_i ds es
      cases W.sl i _ _ hv es with
      | own h1 h2 h3 h4 => exact key _ _ _ ds rfl es rfl h1 h3 h4 h
    · rename_i ds es
      cases W.sl i _ _ hv es with
      | par h0 h1 h2 h3 h4 => exact key _ _ _ ds rfl es rfl h1 h3 h4 h
    · cases h
/-- the slots behind a call -/
theorem put_spec {Z' H' : Hp} : ∀ {vs : List V} {as : List AR} {avs : List AV} {outs : List (List D)} {env0 env2 : En}, ArsOk K F Z H σ env vs as → toAv env as = some avs → OutOk K Z' H' (ownAdr vs avs) outs → (∀ i ∈ slotsOf as, ∃ v, σ[i]? = some (some v)) →
    (∀ i ∈ slotsOf as, ∃ a, σ[i]? = some (some (.ref a))) → putOuts as outs env0 = some env2 → env2.length = env0.length ∧ ∀ (j : Nat) (s : Sl), env2[j]? = some s → (env0[j]? = some s ∧ j ∉ slotsOf as) ∨
      ∃ a us ds s0, σ[j]? = some (some (.ref a)) ∧ env0[j]? = some s0 ∧ ((s = .own ds ∧ ∃ d0, s0 = .own d0) ∨ (s = .par ds ∧ ∃ d0, s0 = .par d0)) ∧ H' a = some (.lst us) ∧ Z' a = none ∧ DpAll K Z' us ds
  | _, _, avs, outs, env0, env2, .nil, h, ho, _, _, hp => by
    cases h
    cases ho
    cases hp
    exact ⟨rfl, fun j s e => .inl ⟨e, fun z => by cases z⟩⟩
  | _, _, avs, outs, env0, env2, .val (v := v) (vs := vs) (as := as) _ t, h, ho, hs, hr, hp => by
    cases e : toAv env as with
    | none => simp only [toAv, e] at h; cases h
    | some r =>
      simp only [toAv, e] at h; cases h
      exact put_spec (as := as) t e (by cases v <;> exact ho) hs hr (show putOuts as outs env0 = some env2 from hp)
  | _, _, avs, outs, env0, env2, .tmp (p := p) (vs := vs) (as := as) _ _ _ _ _ _ t, h, ho, hs, hr, hp => by
    cases e : toAv env as with
    | none => simp only [toAv, e] at h; cases h
    | some r =>
      simp only [toAv, e] at h; cases h
      cases (show OutOk K Z' H' (p :: ownAdr vs r) outs from ho) with
      | @cons _ _ _ _ os _ _ _ ho' => exact put_spec (as := as) t e ho' hs hr (show putOuts as os env0 = some env2 from hp)
  | _, _, avs, outs, env0, env2, .slot (v := v) (i := i) (vs := vs) (as := as) hv t, h, ho, hs, hr, hp => by
    obtain ⟨a, ha⟩ := hr i (List.mem_cons_self ..)
    rw [hv] at ha
    have ev : v = .ref a := Option.some.inj (Option.some.inj ha)
    subst ev
    have main : ∀ (ds0 : List D), (toAv env as).map (fun r => AV.own ds0 :: r) = some avs → env2.length = env0.length ∧ ∀ (j : Nat) (s : Sl), env2[j]? = some s → (env0[j]? = some s ∧ j ∉ slotsOf (.slot i :: as)) ∨
      ∃ a us ds s0, σ[j]? = some (some (.ref a)) ∧ env0[j]? = some s0 ∧ ((s = .own ds ∧ ∃ d0, s0 = .own d0) ∨ (s = .par ds ∧ ∃ d0, s0 = .par d0)) ∧ H' a = some (.lst us) ∧ Z' a = none ∧ DpAll K Z' us ds := fun ds0 h => by
      cases e : toAv env as with
      | none => rw [e] at h; cases h
      | some r =>
        rw [e] at h; cases h
        cases (show OutOk K Z' H' (a :: ownAdr vs r) outs from ho) with
        | @cons _ us o _ os h1 h2 h3 ho' =>
          have step : ∀ (s1 s1' : Sl), env0[i]? = some s1' → ((s1 = .own o ∧ ∃ d0, s1' = .own d0) ∨ (s1 = .par o ∧ ∃ d0, s1' = .par d0)) → putOuts as os (env0.set i s1) = some env2 → env2.length = env0.length ∧ ∀ (j : Nat) (s : Sl), env2[j]? = some s → (env0[j]? = some s ∧ j ∉ slotsOf (.slot i :: as)) ∨
              ∃ a us ds s0, σ[j]? = some (some (.ref a)) ∧ env0[j]? = some s0 ∧ ((s = .own ds ∧ ∃ d0, s0 = .own d0) ∨ (s = .par ds ∧ ∃ d0, s0 = .par d0)) ∧ H' a = some (.lst us) ∧ Z' a = none ∧ DpAll K Z' us ds := fun s1 s1' e1 k1 hp => by
            have hi : i < env0.length := (List.getElem?_eq_some_iff.mp e1).1
            obtain ⟨l, q⟩ := put_spec t e ho' (fun j hj => hs j (List.mem_cons_of_mem _ hj)) (fun j hj => hr j (List.mem_cons_of_mem _ hj)) hp
            refine ⟨by rw [l, List.length_set], fun j s es => ?_⟩
            rcases q j s es with ⟨q1, q2⟩ | ⟨a', us', ds', s0, q1, q2, q3, q4⟩
            · by_cases hj : i = j
              · subst hj
                rw [List.getElem?_set_self hi] at q1; cases q1
                exact .inr ⟨a, us, o, s1', hv, e1, k1, h1, h2, h3⟩
              · rw [List.getElem?_set_ne hj] at q1
                exact .inl ⟨q1, fun z => (List.mem_cons.mp (show j ∈ i :: slotsOf as from z)).elim (fun z => hj z.symm) q2⟩
            · by_cases hj : i = j
              · subst hj
                rw [List.getElem?_set_self hi] at q2; cases q2
                refine .inr ⟨a', us', ds', s1', q1, e1, ?_, q4⟩
                rcases k1 with ⟨z1, z2⟩ | ⟨z1, z2⟩
                · rcases q3 with ⟨z3, _⟩ | ⟨_, _, z4⟩
                  · exact .inl ⟨z3, z2⟩
                  · rw [z1] at z4; cases z4
                · rcases q3 with ⟨_, _, z4⟩ | ⟨z3, _⟩
                  · rw [z1] at z4; cases z4
                  · exact .inr ⟨z3, z2⟩
              · rw [List.getElem?_set_ne hj] at q2
                exact .inr ⟨a', us', ds', s0, q1, q2, q3, q4⟩
          unfold putOuts at hp
          split at hp
          · rename_i d0 e1; exact step _ _ e1 (.inl ⟨rfl, _, rfl⟩) hp
          · rename_i d0 e1; exact step _ _ e1 (.inr ⟨rfl, _, rfl⟩) hp
          · cases hp
    unfold toAv at h
    split at h
    · exact main _ h
    · exact main _ h
    · cases h
theorem slots_ref (W : Wst K F Z H pa σ env) : ∀ {vs : List V} {as : List AR} {avs : List AV}, ArsOk K F Z H σ env vs as → toAv env as = some avs → ∀ i ∈ slotsOf as, ∃ a, σ[i]? = some (some (.ref a)) ∧ a ∈ ownAdr vs avs
  | _, _, _, .nil, _, i, hi => by cases hi
  | _, _, avs, .val (v := v) (vs := vs) (as := as) _ t, h, i, hi => by
    cases e : toAv env as with
    | none => simp only [toAv, e] at h; cases h
    | some r =>
      simp only [toAv, e] at h; cases h
      obtain ⟨a, h1, h2⟩ := slots_ref W t e i hi
      exact ⟨a, h1, by cases v <;> exact h2⟩
  | _, _, avs, .tmp (p := p) (vs := vs) (as := as) _ _ _ _ _ _ t, h, i, hi => by
    cases e : toAv env as with
    | none => simp only [toAv, e] at h; cases h
    | some r =>
      simp only [toAv, e] at h; cases h
      obtain ⟨a, h1, h2⟩ := slots_ref W t e i hi
      exact ⟨a, h1, List.mem_cons_of_mem _ h2⟩
  | _, _, avs, .slot (v := v) (i := j) (vs := vs) (as := as) hv t, h, i, hi => by
    have main : ∀ (a : Addr) (ds0 : List D), v = .ref a → (toAv env as).map (fun r => AV.own ds0 :: r) = some avs → ∃ a, σ[i]? = some (some (.ref a)) ∧ a ∈ ownAdr (v :: vs) avs := fun a ds0 ev h => by
      subst ev
      cases e : toAv env as with
      | none => rw [e] at h; cases h
      | some r =>
        rw [e] at h; cases h
        rcases List.mem_cons.mp (show i ∈ j :: slotsOf as from hi) with rfl | hi
        · exact ⟨a, hv, List.mem_cons_self ..⟩
        · obtain ⟨b, h1, h2⟩ := slots_ref W t e i hi
          exact ⟨b, h1, List.mem_cons_of_mem _ h2⟩
    unfold toAv at h
    split at h
    · rename_i ds es
      cases W.sl j _ _ hv es with
      | own => exact main _ _ rfl h
    · rename_i ds es
      cases W.sl j _ _ hv es with
      | par => exact main _ _ rfl h
    · cases h
theorem Ow.kind {H H' : Hp} {o : Option V} {s s0 : Sl} {a : Addr} (h : Ow H o s a) (k : ((∃ ds, s = .own ds) ∧ ∃ d0, s0 = .own d0) ∨ ((∃ ds, s = .par ds) ∧ ∃ d0, s0 = .par d0)) : Ow H' o s0 a := by
  rcases k with ⟨⟨_, rfl⟩, _, rfl⟩ | ⟨⟨_, rfl⟩, _, rfl⟩
  · cases h.own; exact rfl
  · cases h.par; exact rfl
/-- THE STATE BEHIND A CALL -/
theorem Wst.after {Z' H' : Hp} {vs : List V} {as : List AR} {avs : List AV} {outs : List (List D)} {env2 : En} (W : Wst K F Z H pa σ env) (A : ArsOk K F Z H σ env vs as) (ha : toAv env as = some avs) (g : Gr (minus H (ownAdr vs avs)) Z Z') (f : Same (minus H (ownAdr vs avs)) H')
    (zh : Same Z' H') (o : OutOk K Z' H' (ownAdr vs avs) outs) (hp : putOuts as outs env = some env2) : Gr F Z Z' ∧ Wst K F Z' H' pa σ env2 := by
  have sr := slots_ref W A ha
  obtain ⟨hl, sp⟩ := put_spec A ha o (fun i hi => let ⟨a, h, _⟩ := sr i hi; ⟨_, h⟩) (fun i hi => let ⟨a, h, _⟩ := sr i hi; ⟨a, h⟩) hp
  have adr : ∀ a ∈ ownAdr vs avs, F a = none ∧ Z a = none := fun a h => by
    rcases ars_adr W A ha a h with ⟨i, _, s, q1, q2, q3⟩ | q
    · obtain ⟨_, _, z1, z2⟩ := (W.sl i _ s q1 q2).at_ q3
      exact ⟨z1, z2⟩
    · obtain ⟨_, z1, z2, _⟩ := tmps_not_own A a q
      exact ⟨z2, z1⟩
  have ff : Same F (minus H (ownAdr vs avs)) := fun b u e => by
    rw [minus_out fun z => by rw [(adr b z).1] at e; cases e]
    exact W.fh b u e
  have nin0 : ∀ {j : Nat} {o : Option V} {s : Sl} {b : Addr}, j ∉ slotsOf as → σ[j]? = some o → env[j]? = some s → Ow H o s b → b ∉ ownAdr vs avs := fun {j o s b} q2 e1 q1 hb hm => by
    rcases ars_adr W A ha b hm with ⟨k, hk, s', r1, r2, r3⟩ | q
    · exact W.dj j k o _ s s' b (fun z => q2 (z ▸ hk)) e1 q1 r1 r2 hb r3
    · exact (tmps_not_own A b q).2.2.2 j o s e1 q1 hb
  have kept : ∀ {j : Nat} {o : Option V} {s : Sl}, j ∉ slotsOf as → σ[j]? = some o → env[j]? = some s → ∀ b u, Ow H o s b → H b = some u → H' b = some u := fun {j o s} q2 e1 q1 b u hb hu => f b u (by
    rw [minus_out (nin0 q2 e1 q1 hb)]; exact hu)
  have kind : ∀ {j : Nat} {o : Option V} {s : Sl} {a : Addr}, σ[j]? = some o → env2[j]? = some s → Ow H' o s a → ∃ s0, env[j]? = some s0 ∧ Ow H o s0 a := fun {j o s a} e1 e2 e3 => by
    rcases sp j s e2 with ⟨q1, q2⟩ | ⟨b, us, ds, s0, q1, q2, q3, _⟩
    · exact ⟨s, q1, (W.sl j o s e1 q1).back (kept q2 e1 q1) e3⟩
    · refine ⟨s0, q2, e3.kind ?_⟩
      rcases q3 with ⟨z1, z2⟩ | ⟨z1, z2⟩
      · exact .inl ⟨⟨_, z1⟩, z2⟩
      · exact .inr ⟨⟨_, z1⟩, z2⟩
  refine ⟨g.frame ff, ff.trans f, zh, by rw [W.len, hl], fun i o s e1 e2 => ?_, fun i j o o' s s' a ne e1 e2 e3 e4 o1 o2 => ?_⟩
  · rcases sp i s e2 with ⟨q1, q2⟩ | ⟨a, us, ds, s0, q1, q2, q3, h1, h2, h3⟩
    · have so := W.sl i o s e1 q1
      refine so.mono g.zz (kept q2 e1 q1) fun b hb => g.nf b ?_
      obtain ⟨us, h1, _⟩ := so.at_ hb
      rw [minus_out (nin0 q2 e1 q1 hb), h1]
      exact fun z => nomatch z
    · rw [q1] at e1; cases e1
      have so := W.sl i _ s0 q1 q2
      rcases q3 with ⟨rfl, d0, rfl⟩ | ⟨rfl, d0, rfl⟩
      · cases so with
        | own b1 b2 b3 b4 => exact .own h1 b2 h2 h3
      · cases so with
        | par b0 b1 b2 b3 b4 => exact .par b0 h1 b2 h2 h3
  · obtain ⟨s0, r1, r2⟩ := kind e1 e2 o1
    obtain ⟨s0', r3, r4⟩ := kind e3 e4 o2
    exact W.dj i j o o' s0 s0' a ne e1 r1 e3 r3 r2 r4
end
/-- the reading of a call -/
theorem tCall_of {K : PySem.W.Frag} {np : Nat} {g : Fn} {f : Fx (List AR)} {E : XK} {σ : L2.St} {H : Hp} {Q : VK} (hl : ∀ env as env', f env = some (as, env') → as.length = np) (h : tR K (eCall g f) σ H Q) : tCall (spF K np g) [] E (tAa K f) σ H Q := by
  obtain ⟨F, pa, Z, env, r, env', W, e, k⟩ := h
  unfold eCall at e
  split at e
  · rename_i as env1 e1
    by_cases nd : natNodup (slotsOf as) = true
    · rw [if_pos nd] at e
      split at e
      · rename_i avs e2
        split at e
        · rename_i r' outs e3
          cases e4 : putOuts as outs env1 with
          | none => rw [e4] at e; cases e
          | some env2 =>
            rw [e4] at e
            cases e
            refine ⟨F, pa, Z, env, as, env1, W, e1, fun vs Z1 H1 g1 W1 A => ?_⟩
            show spF K np g (vs ++ []) H1 Q E
            rw [List.append_nil]
            have av := ars_av W1 (minus H1 (ownAdr vs avs)) A e2 (natNodup_ok nd) fun a ha => minus_in ha
            have vl : vs.length = np := by
              rw [← hl _ _ _ e1]
              have : ∀ {vs : List V} {as : List AR}, ArsOk K F Z1 H1 σ env1 vs as → vs.length = as.length := by
                intro vs as A
                induction A with
                | nil => rfl
                | val _ _ ih => exact congrArg Nat.succ ih
                | slot _ _ ih => exact congrArg Nat.succ ih
                | tmp _ _ _ _ _ _ _ ih => exact congrArg Nat.succ ih
              exact this A
            refine ⟨vl, minus H1 (ownAdr vs avs), Z1, avs, r, outs, minus_same, W1.zh, av, e3, fun v Z2 H2 g2 f2 z2 o2 rt => ?_⟩
            obtain ⟨g3, W3⟩ := W1.after A e2 g2 f2 z2 o2 e4
            refine k v Z2 H2 (g1.trans g3) W3 ?_
            -- what a slot owns stood before the call
            have old : ∀ p, H1 p = none → ∀ (i : Nat) (o : Option V) (s : Sl), σ[i]? = some o → env'[i]? = some s → ¬ Ow H2 o s p := fun p h3 i o s q1 q2 q3 => by
              have sr := slots_ref W1 A e2
              obtain ⟨hl, sp⟩ := put_spec A e2 o2 (fun i hi => let ⟨a, h, _⟩ := sr i hi; ⟨_, h⟩) (fun i hi => let ⟨a, h, _⟩ := sr i hi; ⟨a, h⟩) e4
              have : ∃ s0, env1[i]? = some s0 ∧ Ow H1 o s0 p := by
                rcases sp i s q2 with ⟨w1, w2⟩ | ⟨b, us', ds', s0, w1, w2, w3, _⟩
                · refine ⟨s, w1, (W1.sl i o s q1 w1).back (fun b u hb hu => f2 b u ?_) q3⟩
                  rw [minus_out]
                  · exact hu
                  · intro hm
                    rcases ars_adr W1 A e2 b hm with ⟨k, hk, s', r1, r2, r3⟩ | q
                    · exact W1.dj i k o _ s s' b (fun z => w2 (z ▸ hk)) q1 w1 r1 r2 hb r3
                    · exact (tmps_not_own A b q).2.2.2 i o s q1 w1 hb
                · refine ⟨s0, w2, q3.kind ?_⟩
                  rcases w3 with ⟨z1, z2⟩ | ⟨z1, z2⟩
                  · exact .inl ⟨⟨_, z1⟩, z2⟩
                  · exact .inr ⟨⟨_, z1⟩, z2⟩
              obtain ⟨s0, w1, w2⟩ := this
              obtain ⟨us0, w3, _⟩ := (W1.sl i o s0 q1 w1).at_ w2
              rw [h3] at w3; cases w3
            cases r with
            | val d => exact rt
            | fresh ds =>
              obtain ⟨p, us, rfl, h1, h2, h3, h4, h5⟩ := rt
              rw [minus_out h4] at h3
              exact ⟨p, us, rfl, h1, h2, W1.fh.free h3, h5, old p h3⟩
            | mat dss =>
              obtain ⟨p, us, bs, rfl, h1, h2, h3, h4, h5, h6⟩ := rt
              rw [minus_out (h6 p (.inl rfl))] at h3
              have hb : ∀ b ∈ bs, H1 b = none := fun b m => by
                have := (h4.mem m).2.2.1
                rw [minus_out (h6 b (.inr m))] at this
                exact this
              refine ⟨p, us, bs, rfl, h1, h2, W1.fh.free h3, h4.mono (fun _ _ h => h) (fun _ _ _ h => h) (fun b m _ => W1.fh.free (hb b m)) (fun _ _ => rfl), h5, fun q hq => old q ?_⟩
              rcases hq with rfl | hq
              · exact h3
              · exact hb q hq
        · cases e
      · cases e
    · rw [if_neg nd] at e; cases e
  · cases e
end Ev
namespace Ev
open PySem PySem.Spec PyProof.Rows L2
/-! ## statements -/
inductive Fl where
  | nx | bk | ct | rt (r : R)
def FlOk (K : PySem.W.Frag) (F : Hp) (pa : Nat → Option Addr) (Z : Hp) (D : Ends) (env' : En) : Fl → Prop
  | .nx => ∀ σ' Z' H', Gr F Z Z' → Wst K F Z' H' pa σ' env' → D.nx σ' H'
  | .bk => ∀ σ' Z' H', Gr F Z Z' → Wst K F Z' H' pa σ' env' → D.bk σ' H'
  | .ct => ∀ σ' Z' H', Gr F Z Z' → Wst K F Z' H' pa σ' env' → D.ct σ' H'
  | .rt r => ∀ v σ' Z' H', Gr F Z Z' → Wst K F Z' H' pa σ' env' → RkOk K F Z' H' σ' env' v r → D.rt v H'
theorem FlOk.gr {K : PySem.W.Frag} {F : Hp} {pa : Nat → Option Addr} {Z Z1 : Hp} {D : Ends} {env' : En} (g : Gr F Z Z1) : ∀ {fl : Fl}, FlOk K F pa Z D env' fl → FlOk K F pa Z1 D env' fl
  | .nx, h => fun σ' Z' H' g1 W => h σ' Z' H' (g.trans g1) W
  | .bk, h => fun σ' Z' H' g1 W => h σ' Z' H' (g.trans g1) W
  | .ct, h => fun σ' Z' H' g1 W => h σ' Z' H' (g.trans g1) W
  | .rt r, h => fun v σ' Z' H' g1 W q => h v σ' Z' H' (g.trans g1) W q
def tS (K : PySem.W.Frag) (f : Fx Fl) : TS := fun D σ H => ∃ F pa Z env fl env', Wst K F Z H pa σ env ∧ f env = some (fl, env') ∧ FlOk K F pa Z D env' fl
section
variable {X : Cx} {st : Stmt} {e : Expr} {pos : Pos}
def sSkip : Fx Fl := fun env => some (.nx, env)
def sStuck : Fx Fl := fun _ => none
theorem s_skip (h : PS X st tNext) : PS X st (tS X.K sSkip) := by
  refine PS.imp h fun D σ H ⟨F, pa, Z, env, fl, env', W, e, k⟩ => ?_
  cases e
  exact k σ Z H (.refl ..) W
theorem s_stuck : PS X st (tS X.K sStuck) := ⟨fun _ _ _ _ _ _ ⟨_, _, _, _, _, _, _, e, _⟩ => nomatch e⟩
def sBreak : Fx Fl := fun env => some (.bk, env)
theorem s_break : PS X (.Break pos) (tS X.K sBreak) := by
  refine PS.imp ps_break fun D σ H ⟨F, pa, Z, env, fl, env', W, e, k⟩ => ?_
  cases e
  exact k σ Z H (.refl ..) W
def sCont : Fx Fl := fun env => some (.ct, env)
theorem s_cont : PS X (.Continue pos) (tS X.K sCont) := by
  refine PS.imp ps_continue fun D σ H ⟨F, pa, Z, env, fl, env', W, e, k⟩ => ?_
  cases e
  exact k σ Z H (.refl ..) W
def sSeq (f g : Fx Fl) : Fx Fl := fun env => match f env with
  | some (.nx, e) => g e
  | r => r
theorem s_nil : PSs X [] (tS X.K sSkip) := by
  refine PSs.imp pss_nil fun D σ H ⟨F, pa, Z, env, fl, env', W, e, k⟩ => ?_
  cases e
  exact k σ Z H (.refl ..) W
theorem s_one {f : Fx Fl} (h : PS X st (tS X.K f)) : PSs X [st] (tS X.K f) := pss_one h
theorem s_cons {f g : Fx Fl} {rest : List Stmt} (h1 : PS X st (tS X.K f)) (h2 : PSs X rest (tS X.K g)) : PSs X (st :: rest) (tS X.K (sSeq f g)) := by
  refine PSs.imp (pss_cons h1 h2) fun D σ H ⟨F, pa, Z, env, fl, env', W, e, k⟩ => ?_
  unfold sSeq at e
  split at e
  · rename_i e1 h1
    exact ⟨F, pa, Z, env, .nx, e1, W, h1, fun σ' Z' H' g1 W1 => ⟨F, pa, Z', e1, fl, env', W1, e, k.gr g1⟩⟩
  · rename_i r hn
    refine ⟨F, pa, Z, env, fl, env', W, e, ?_⟩
    cases fl with
    | nx => exact absurd e (hn _)
    | bk => exact k
    | ct => exact k
    | rt r => exact k
def sIf (c : Fx Bool) (f g : Fx Fl) : Fx Fl := fun env => match c env with
  | some (true, e) => f e
  | some (false, e) => g e
  | none => none
theorem s_if {c : Expr} {a b : List Stmt} {fc : Fx Bool} {f g : Fx Fl} (hc : PT X c (tT X.K fc)) (ha : PSs X a (tS X.K f)) (hb : PSs X b (tS X.K g)) : PS X (.If c a b pos) (tS X.K (sIf fc f g)) := by
  refine PS.imp (ps_if hc ha hb) fun D σ H ⟨F, pa, Z, env, fl, env', W, e, k⟩ => ?_
  unfold sIf at e
  split at e
  · rename_i e1 h1
    exact ⟨F, pa, Z, env, _, e1, W, h1, fun Z' H' g1 W1 => iteT ⟨F, pa, Z', e1, fl, env', W1, e, k.gr g1⟩⟩
  · rename_i e1 h1
    exact ⟨F, pa, Z, env, _, e1, W, h1, fun Z' H' g1 W1 => iteF ⟨F, pa, Z', e1, fl, env', W1, e, k.gr g1⟩⟩
  · cases e
def sExpr (f : Fx R) : Fx Fl := fun env => (f env).map fun p => (.nx, p.2)
theorem s_expr {f : Fx R} (h : PE X e (tR X.K f)) (hs : swapsWith e none pos.line X.env = pure false) : PS X (.Expr e pos) (tS X.K (sExpr f)) := by
  refine PS.imp (ps_expr h hs) fun D σ H ⟨F, pa, Z, env, fl, env', W, e, k⟩ => ?_
  unfold sExpr at e
  cases h1 : f env with
  | none => rw [h1] at e; cases e
  | some p =>
    rw [h1] at e
    cases e
    exact ⟨F, pa, Z, env, p.1, p.2, W, h1, fun v Z' H' g1 W1 _ => k σ Z' H' g1 W1⟩
def sRet (f : Fx R) : Fx Fl := fun env => (f env).map fun p => (.rt p.1, p.2)
theorem s_ret {f : Fx R} (h : PE X e (tR X.K f)) : PS X (.Return (some e) pos) (tS X.K (sRet f)) := by
  refine PS.imp (ps_ret h) fun D σ H ⟨F, pa, Z, env, fl, env', W, e, k⟩ => ?_
  unfold sRet at e
  cases h1 : f env with
  | none => rw [h1] at e; cases e
  | some p =>
    rw [h1] at e
    cases e
    exact ⟨F, pa, Z, env, p.1, p.2, W, h1, fun v Z' H' g1 W1 q => k v σ Z' H' g1 W1 q⟩
def sRetN : Fx Fl := fun env => some (.rt (.val .none), env)
theorem s_retN : PS X (.Return none pos) (tS X.K sRetN) := by
  refine PS.imp ps_retN fun D σ H ⟨F, pa, Z, env, fl, env', W, e, k⟩ => ?_
  cases e
  exact k .non σ Z H (.refl ..) W .non
/-- a slot's own list moved out -/
def eMove (i : Nat) : Fx R := fun env => match env[i]? with
  | some (.val d) => some (.val d, env)
  | some (.own ds) => some (.fresh ds, env.set i .no)
  | some (.mat dss) => some (.mat dss, env.set i .no)
  | _ => none
theorem Wst.move {K : PySem.W.Frag} {F Z H : Hp} {pa : Nat → Option Addr} {σ : L2.St} {env : En} {i : Nat} (W : Wst K F Z H pa σ env) : Wst K F Z H pa σ (env.set i .no) := by
  have key : ∀ {j : Nat} {o : Option V} {s : Sl}, σ[j]? = some o → (env.set i .no)[j]? = some s → (j = i ∧ s = .no) ∨ (j ≠ i ∧ env[j]? = some s) := fun {j o s} e1 e2 => by
    by_cases hj : i = j
    · subst hj
      by_cases hl : i < env.length
      · rw [List.getElem?_set_self hl] at e2; cases e2; exact .inl ⟨rfl, rfl⟩
      · rw [List.getElem?_eq_none (by simpa using hl)] at e2; cases e2
    · rw [List.getElem?_set_ne hj] at e2; exact .inr ⟨Ne.symm hj, e2⟩
  refine ⟨W.fh, W.zh, by simp [W.len], fun j o s e1 e2 => ?_, fun j k o o' s s' a ne e1 e2 e3 e4 o1 o2 => ?_⟩
  · rcases key e1 e2 with ⟨_, rfl⟩ | ⟨_, q⟩
    · exact .no _
    · exact W.sl j o s e1 q
  · rcases key e1 e2 with ⟨_, rfl⟩ | ⟨_, q⟩
    · exact o1.no.elim
    · rcases key e3 e4 with ⟨_, rfl⟩ | ⟨_, q'⟩
      · exact o2.no.elim
      · exact W.dj j k o o' s s' a ne e1 q e3 q' o1 o2
theorem s_move {i : Nat} {x : Str} (h : PE X (.Name x pos) (tVar i)) : PE X (.Name x pos) (tR X.K (eMove i)) := by
  refine PE.imp h fun σ H Q ⟨F, pa, Z, env, d, env', W, e, k⟩ => ?_
  unfold eMove at e
  cases he : env[i]? with
  | none => rw [he] at e; cases e
  | some s =>
    rw [he] at e
    obtain ⟨o, eo, so⟩ := W.get he
    cases so with
    | no => cases e
    | par => cases e
    | val dp => cases e; exact ⟨_, eo, k _ _ _ (.refl ..) W dp⟩
    | @own a us ds h1 h2 h3 h4 =>
      cases e
      refine ⟨_, eo, k _ _ _ (.refl ..) W.move ⟨a, us, rfl, h1, h3, h2, h4, fun j o' s' e1 e2 e3 => ?_⟩⟩
      by_cases hj : i = j
      · subst hj
        have hi : i < env.length := (List.getElem?_eq_some_iff.mp he).1
        rw [List.getElem?_set_self hi] at e2; cases e2
        exact e3.no.elim
      · rw [List.getElem?_set_ne hj] at e2
        exact W.dj i j _ o' _ s' a hj eo he e1 e2 rfl e3
    | @mat a us dss bs h1 h2 h3 h4 h5 =>
      cases e
      refine ⟨_, eo, k _ _ _ (.refl ..) W.move ⟨a, us, bs, rfl, h1, h3, h2, h4, h5, fun q hq j o' s' e1 e2 e3 => ?_⟩⟩
      by_cases hj : i = j
      · subst hj
        have hi : i < env.length := (List.getElem?_eq_some_iff.mp he).1
        rw [List.getElem?_set_self hi] at e2; cases e2
        exact e3.no.elim
      · rw [List.getElem?_set_ne hj] at e2
        exact W.dj i j _ o' _ s' q hj eo he e1 e2 (hq.elim .inl fun m => .inr ⟨us, h1, (h4.mem m).1⟩) e3
/-! ### stores -/
def isPar : Sl → Bool
  | .par _ => true
  | _ => false
def setR (i : Nat) (r : R) (env : En) : Option En := match env[i]? with
  | some s => if isPar s = true then none else some (env.set i (match r with | .val d => .val d | .fresh ds => .own ds | .mat dss => .mat dss))
  | none => none
theorem Wst.setNew {K : PySem.W.Frag} {F Z H : Hp} {pa : Nat → Option Addr} {σ : L2.St} {env : En} {i : Nat} {v : V} {s' : Sl} (W : Wst K F Z H pa σ env) (so : SlOk K F Z H pa i (some v) s')
    (h5 : ∀ q, Ow H (some v) s' q → ∀ (i : Nat) (o : Option V) (s : Sl), σ[i]? = some o → env[i]? = some s → ¬ Ow H o s q) : Wst K F Z H pa (σ.set i (some v)) (env.set i s') := by
  have key : ∀ {j : Nat} {o : Option V} {s : Sl}, (σ.set i (some v))[j]? = some o → (env.set i s')[j]? = some s → (j = i ∧ o = some v ∧ s = s') ∨ (j ≠ i ∧ σ[j]? = some o ∧ env[j]? = some s) := fun {j o s} e1 e2 => by
    by_cases hj : i = j
    · subst hj
      by_cases hl : i < env.length
      · rw [List.getElem?_set_self hl] at e2; cases e2
        rw [List.getElem?_set_self (by rw [W.len]; exact hl)] at e1; cases e1
        exact .inl ⟨rfl, rfl, rfl⟩
      · rw [List.getElem?_eq_none (by simpa using hl)] at e2; cases e2
    · rw [List.getElem?_set_ne hj] at e1 e2; exact .inr ⟨Ne.symm hj, e1, e2⟩
  refine ⟨W.fh, W.zh, by simp [W.len], fun j o s e1 e2 => ?_, fun j k o o' s s' a ne e1 e2 e3 e4 o1 o2 => ?_⟩
  · rcases key e1 e2 with ⟨rfl, rfl, rfl⟩ | ⟨_, q1, q2⟩
    · exact so
    · exact W.sl j o s q1 q2
  · rcases key e1 e2 with ⟨rfl, rfl, rfl⟩ | ⟨_, q1, q2⟩
    · rcases key e3 e4 with ⟨rfl, _, _⟩ | ⟨_, q3, q4⟩
      · exact ne rfl
      · exact h5 a o1 k o' _ q3 q4 o2
    · rcases key e3 e4 with ⟨rfl, rfl, rfl⟩ | ⟨_, q3, q4⟩
      · exact h5 a o2 j o _ q1 q2 o1
      · exact W.dj j k o o' _ _ a ne q1 q2 q3 q4 o1 o2
theorem Wst.setR {K : PySem.W.Frag} {F Z H : Hp} {pa : Nat → Option Addr} {σ : L2.St} {env env' : En} {i : Nat} {v : V} {r : R} (W : Wst K F Z H pa σ env) (q : RkOk K F Z H σ env v r) (e : Ev.setR i r env = some env') : Wst K F Z H pa (σ.set i (some v)) env' := by
  unfold Ev.setR at e
  split at e
  · rename_i s hs
    cases hp : isPar s with
    | true => rw [hp, if_pos rfl] at e; cases e
    | false =>
      rw [hp, if_neg Bool.false_ne_true] at e
      cases r with
      | val d => cases e; exact W.set q
      | fresh ds =>
        cases e
        obtain ⟨p, us, rfl, h1, h2, h3, h4, h5⟩ := q
        exact W.setNew (.own h1 h3 h2 h4) fun q hq => by
          cases hq.own
          exact h5
      | mat dss =>
        cases e
        obtain ⟨p, us, bs, rfl, h1, h2, h3, h4, h5, h6⟩ := q
        refine W.setNew (.mat h1 h3 h2 h4 h5) fun q hq => h6 q ?_
        rcases hq with rfl | ⟨us', e1, e2⟩
        · exact .inl rfl
        · rw [h1] at e1; cases e1
          exact .inr (h4.ref e2)
  · cases e
def sSet (i : Nat) (f : Fx R) : Fx Fl := fun env => (f env).bind fun p => (setR i p.1 p.2).map fun e => (.nx, e)
theorem s_setG {st : Stmt} {i : Nat} {f : Fx R} {te : TE} (h : PS X st (tAsg te (L2.gName i))) (hi : ∀ σ H Q, tR X.K f σ H Q → te σ H Q) : PS X st (tS X.K (sSet i f)) := by
  refine PS.imp h fun D σ H ⟨F, pa, Z, env, fl, env', W, e, k⟩ => ?_
  unfold sSet at e
  cases h1 : f env with
  | none => rw [h1] at e; cases e
  | some p =>
    rw [h1, Option.bind_some] at e
    cases h2 : Ev.setR i p.1 p.2 with
    | none => rw [h2] at e; cases e
    | some env2 =>
      rw [h2] at e
      cases e
      exact hi σ H _ ⟨F, pa, Z, env, p.1, p.2, W, h1, fun v Z' H' g1 W1 q => k _ Z' H' g1 (W1.setR q h2)⟩
/-! ### targets -/
abbrev Gf := D → En → Option En
/-- the target that stores at the slots sl alone -/
def tG (K : PySem.W.Frag) (sl : List Nat) (g : Gf) : TG := fun v σ H Q => ∃ F pa Z env d env', Wst K F Z H pa σ env ∧ Dp K Z v d ∧ g d env = some env' ∧
  ∀ σ' Z' H', Gr F Z Z' → Wst K F Z' H' pa σ' env' → σ'.length = σ.length → (∀ j, j ∉ sl → σ'[j]? = σ[j]?) → Q σ' H'
theorem PG.imp {e : Expr} {t t' : TG} (h : PG X e t) (m : ∀ v σ H Q, t' v σ H Q → t v σ H Q) : PG X e t' := ⟨fun pins s σ H v u Q I r q => h.run pins s σ H v u Q I r (m v σ H Q q)⟩
theorem PGs.imp {e : List Expr} {t t' : TGs} (h : PGs X e t) (m : ∀ v σ H Q, t' v σ H Q → t v σ H Q) : PGs X e t' := ⟨fun pins s σ H v u Q I r q => h.run pins s σ H v u Q I r (m v σ H Q q)⟩
def gN (i : Nat) : Gf := fun d env => setR i (.val d) env
theorem s_gn {i : Nat} {x : Str} (h : PG X (.Name x pos) (L2.gName i)) : PG X (.Name x pos) (tG X.K [i] (gN i)) := by
  refine PG.imp h fun v σ H Q ⟨F, pa, Z, env, d, env', W, q, e, k⟩ => ?_
  refine k _ Z H (.refl ..) (W.setR (r := .val d) q e) (by simp) fun j hj => ?_
  rw [List.getElem?_set_ne (fun z => hj (by simp [z]))]
def tGs (K : PySem.W.Frag) (sl : List Nat) (g : List D → En → Option En) : TGs := fun vs σ H Q => ∃ F pa Z env ds env', Wst K F Z H pa σ env ∧ DpAll K Z vs ds ∧ g ds env = some env' ∧
  ∀ σ' Z' H', Gr F Z Z' → Wst K F Z' H' pa σ' env' → σ'.length = σ.length → (∀ j, j ∉ sl → σ'[j]? = σ[j]?) → Q σ' H'
def gsNil : List D → En → Option En
  | [], env => some env
  | _, _ => none
def gsCons (g : Gf) (h : List D → En → Option En) : List D → En → Option En
  | d :: ds, env => (g d env).bind (h ds)
  | _, _ => none
theorem s_gsNil : PGs X [] (tGs X.K [] gsNil) := by
  refine PGs.imp pgs_nil fun vs σ H Q ⟨F, pa, Z, env, ds, env', W, q, e, k⟩ => ?_
  cases ds with
  | nil =>
    cases e
    cases q
    exact ⟨rfl, k σ Z H (.refl ..) W rfl fun _ _ => rfl⟩
  | cons => cases e
theorem s_gsCons {e : Expr} {es : List Expr} {sl sl' : List Nat} {g : Gf} {h : List D → En → Option En} (h1 : PG X e (tG X.K sl g)) (h2 : PGs X es (tGs X.K sl' h)) (hs : (assignEach (e :: es) X.env).map (·.2) = assign e X.env :: (assignEach es X.env).map (·.2)) :
    PGs X (e :: es) (tGs X.K (sl ++ sl') (gsCons g h)) := by
  refine PGs.imp (pgs_cons h1 h2 hs) fun vs σ H Q ⟨F, pa, Z, env, ds, env', W, q, e, k⟩ => ?_
  cases ds with
  | nil => cases e
  | cons d ds =>
    cases q with
    | @cons v vs _ _ q1 q2 =>
      have e' : (g d env).bind (h ds) = some env' := e
      cases e1 : g d env with
      | none => rw [e1] at e'; cases e'
      | some env1 =>
        rw [e1, Option.bind_some] at e'
        exact ⟨v, vs, rfl, F, pa, Z, env, d, env1, W, q1, e1, fun σ' Z' H' g1 W1 l1 k1 => ⟨F, pa, Z', env1, ds, env', W1, DpAll.mono g1.zz _ _ q2, e', fun σ2 Z2 H2 g2 W2 l2 k2 =>
          k σ2 Z2 H2 (g1.trans g2) W2 (l2.trans l1) fun j hj => by
            rw [List.mem_append, not_or] at hj
            rw [k2 j hj.2, k1 j hj.1]⟩⟩
def gTup (n : Nat) (g : List D → En → Option En) : Gf := fun d env => match d with
  | .tuple ds => if ds.length = n then g ds env else none
  | _ => none
theorem s_gTup {es : List Expr} {k n : Nat} {sl : List Nat} {g : List D → En → Option En} (hc : X.calm = true) (h : PGs X es (tGs X.K sl g)) (hn : (assignEach es X.env).length = n) (hst : (assignEach es X.env).findIdx? (·.1) = none) :
    PG X (.Tuple es k pos) (tG X.K sl (gTup n g)) := by
  refine PG.imp (pg_tup hc h hn hst) fun v σ H Q ⟨F, pa, Z, env, d, env', W, q, e, k⟩ => ?_
  cases q with
  | @tup a us ds hs ha =>
    have e' : (if ds.length = n then g ds env else none) = some env' := e
    by_cases hl : ds.length = n
    · rw [if_pos hl] at e'
      exact ⟨a, us, rfl, Same.sqT W.zh hs, by rw [da_length ha, hl], F, pa, Z, env, ds, env', W, ha, e', k⟩
    · rw [if_neg hl] at e'; cases e'
  | _ => cases e
/-- a store to an item of a slot's own list -/
def setAt (i : Nat) (k : Int) (d : D) (env : En) : Option En := match env[i]? with
  | some (.own ds) => (ixN ds.length k).map fun j => env.set i (.own (ds.set j d))
  | some (.par ds) => (ixN ds.length k).map fun j => env.set i (.par (ds.set j d))
  | _ => none
/-- the list at an own slot is changed -/
theorem Wst.chg {K : PySem.W.Frag} {F Z H : Hp} {pa : Nat → Option Addr} {σ : L2.St} {env : En} {i : Nat} {a : Addr} {us : List V} {ds : List D} {s s' : Sl} (W : Wst K F Z H pa σ env) (e1 : σ[i]? = some (some (.ref a))) (e2 : env[i]? = some s)
    (hs : (s' = .own ds ∧ ∃ d0, s = .own d0) ∨ (s' = .par ds ∧ ∃ d0, s = .par d0)) (q : DpAll K Z us ds) : Wst K F Z (upd H a (.lst us)) pa σ (env.set i s') := by
  have hi : i < env.length := (List.getElem?_eq_some_iff.mp e2).1
  have ow : Ow H (some (.ref a)) s a := by rcases hs with ⟨_, _, rfl⟩ | ⟨_, _, rfl⟩ <;> exact rfl
  obtain ⟨us0, b1, b2, b3⟩ := (W.sl i _ s e1 e2).at_ ow
  have key : ∀ {j : Nat} {s1 : Sl}, (env.set i s')[j]? = some s1 → (j = i ∧ s1 = s') ∨ (j ≠ i ∧ env[j]? = some s1) := fun {j s1} e => by
    by_cases hj : i = j
    · subst hj
      rw [List.getElem?_set_self hi] at e; cases e; exact .inl ⟨rfl, rfl⟩
    · rw [List.getElem?_set_ne hj] at e; exact .inr ⟨Ne.symm hj, e⟩
  have ow' : ∀ H' o b, Ow H' o s' b → Ow H o s b := fun H' o b h => h.kind (by
    rcases hs with ⟨h1, h2⟩ | ⟨h1, h2⟩
    · exact .inl ⟨⟨_, h1⟩, h2⟩
    · exact .inr ⟨⟨_, h1⟩, h2⟩)
  have kept : ∀ {j : Nat} {o : Option V} {s1 : Sl}, j ≠ i → σ[j]? = some o → env[j]? = some s1 → ∀ b u, Ow H o s1 b → H b = some u → upd H a (.lst us) b = some u := fun {j o s1} hj q1 q2 b u hb hu => by
    rw [upd_ne (fun z => by subst z; exact W.dj j i o _ s1 s _ hj q1 q2 e1 e2 hb ow)]
    exact hu
  have up : ∀ b o, Same b H → b a = none → Same b (upd H a o) := fun b o f n c u e => by
    rw [upd_ne (fun z => by subst z; rw [n] at e; cases e)]; exact f c u e
  refine ⟨up F _ W.fh b2, up Z _ W.zh b3, by simp [W.len], fun j o s1 q1 q2 => ?_, fun j k o o' s1 s1' b ne q1 q2 q3 q4 o1 o2 => ?_⟩
  · rcases key q2 with ⟨rfl, rfl⟩ | ⟨hj, q2⟩
    · rw [e1] at q1; cases q1
      rcases hs with ⟨rfl, d0, rfl⟩ | ⟨rfl, d0, rfl⟩
      · exact .own upd_same b2 b3 q
      · cases W.sl j _ _ e1 e2 with
        | par z0 z1 z2 z3 z4 => exact .par z0 upd_same b2 b3 q
    · exact (W.sl j o s1 q1 q2).mono (Same.refl _) (kept hj q1 q2) fun _ _ => rfl
  · have back : ∀ {j : Nat} {o : Option V} {s1 : Sl}, σ[j]? = some o → (env.set i s')[j]? = some s1 → Ow (upd H a (.lst us)) o s1 b → ∃ s0, env[j]? = some s0 ∧ Ow H o s0 b := fun {j o s1} r1 r2 r3 => by
      rcases key r2 with ⟨rfl, rfl⟩ | ⟨hj, r2⟩
      · exact ⟨s, e2, ow' _ _ _ r3⟩
      · exact ⟨s1, r2, (W.sl j o s1 r1 r2).back (kept hj r1 r2) r3⟩
    obtain ⟨t1, t2, t3⟩ := back q1 q2 o1
    obtain ⟨t1', t2', t3'⟩ := back q3 q4 o2
    exact W.dj j k o o' t1 t1' b ne q1 t2 q3 t2' t3 t3'
def gIx (i : Nat) (f : Fx D) : Gf := fun d env => match env[i]? with
  | some s => if isOwn s = true then (match f env with
      | some (.int k, e) => setAt i k d e
      | _ => none) else none
  | none => none
theorem Wst.own_ref {K : PySem.W.Frag} {F Z H : Hp} {pa : Nat → Option Addr} {σ : L2.St} {env : En} {i : Nat} {s : Sl} (W : Wst K F Z H pa σ env) (e : env[i]? = some s) (h : isOwn s = true) :
    ∃ a us ds, σ[i]? = some (some (.ref a)) ∧ (s = .own ds ∨ s = .par ds) ∧ H a = some (.lst us) ∧ DpAll K Z us ds := by
  obtain ⟨o, eo, so⟩ := W.get e
  cases so with
  | no => cases h
  | val => cases h
  | own h1 _ _ h4 => exact ⟨_, _, _, eo, .inl rfl, h1, h4⟩
  | par _ h1 _ _ h4 => exact ⟨_, _, _, eo, .inr rfl, h1, h4⟩
  | mat => cases h
theorem s_gIx {i : Nat} {x : Str} {ie : Expr} {f : Fx D} {np : Pos} (ho : PE X (.Name x np) (tVar i)) (hi : PE X ie (tE X.K f))
    (ha : ∀ v, assign (.Subscript (.Name x np) ie pos) X.env v = (do
      let ov ← holding [v] (eval (.Name x np) X.env)
      let iv ← holding [v, ov] (eval ie X.env)
      standAt pos
      holding [v, ov, iv] (setItem ov iv v)
      release [v, ov, iv] [])) : PG X (.Subscript (.Name x np) ie pos) (tG X.K [] (gIx i f)) := by
  refine PG.imp (pg_sub ho hi set_list ha) fun v σ H Q ⟨F, pa, Z, env, d, env', W, q, e, k⟩ => ?_
  unfold gIx at e
  cases e0 : env[i]? with
  | none => rw [e0] at e; cases e
  | some s0 =>
    rw [e0] at e
    dsimp only at e
    cases ow : isOwn s0 with
    | false => rw [ow, if_neg Bool.false_ne_true] at e; cases e
    | true =>
      rw [ow, if_pos rfl] at e
      obtain ⟨a, us0, ds0, ea, _⟩ := W.own_ref e0 ow
      split at e
      · rename_i n env1 h1
        refine ⟨_, ea, F, pa, Z, env, _, env1, W, h1, fun iv Z1 H1 g1 W1 q1 => ?_⟩
        cases q1
        have fin : ∀ (s : Sl) (us : List V) (ds : List D) (s' : List D → Sl), env1[i]? = some s → ((s = .own ds ∧ s' = .own) ∨ (s = .par ds ∧ s' = .par)) → H1 a = some (.lst us) → DpAll X.K Z1 us ds → (ixN ds.length n).map (fun j => env1.set i (s' (ds.set j d))) = some env' →
            rSetL (.ref a) (.int n) v H1 fun H3 => Q σ H3 := fun s us ds s' es hs hH da e => by
          cases hj : ixN ds.length n with
          | none => rw [hj] at e; cases e
          | some j =>
            rw [hj] at e
            cases e
            refine ⟨a, us, n, j, rfl, rfl, hH, by rw [da_length da]; exact hj, ?_⟩
            refine k σ Z1 _ g1 (W1.chg ea es ?_ (da_set (Dp.mono g1.zz _ _ q) j da)) rfl fun _ _ => rfl
            rcases hs with ⟨h1, h2⟩ | ⟨h1, h2⟩
            · exact .inl ⟨by rw [h2], _, h1⟩
            · exact .inr ⟨by rw [h2], _, h1⟩
        unfold setAt at e
        split at e
        · rename_i ds es
          cases W1.sl i _ _ ea es with
          | own b1 b2 b3 b4 => exact fin _ _ ds .own es (.inl ⟨rfl, rfl⟩) b1 b4 e
        · rename_i ds es
          cases W1.sl i _ _ ea es with
          | par b0 b1 b2 b3 b4 => exact fin _ _ ds .par es (.inr ⟨rfl, rfl⟩) b1 b4 e
        · cases e
      · cases e
/-- target = value -/
def sAsg (f : Fx D) (g : Gf) : Fx Fl := fun env => (f env).bind fun p => (g p.1 p.2).map fun e => (.nx, e)
theorem s_asg {tg : Expr} {f : Fx D} {sl : List Nat} {g : Gf} (he : PE X e (tE X.K f)) (hg : PG X tg (tG X.K sl g)) (hs : swapsWithSole [tg] e pos.line X.env = pure false) (hw : swappedStores [tg] e X.env = pure none)
    (h1 : (assignEach [tg] X.env).map (·.2) = [assign tg X.env]) : PS X (.Assign [tg] e pos) (tS X.K (sAsg f g)) := by
  refine PS.imp (ps_asg he hg hs hw h1) fun D σ H ⟨F, pa, Z, env, fl, env', W, e, k⟩ => ?_
  unfold sAsg at e
  cases e1 : f env with
  | none => rw [e1] at e; cases e
  | some p =>
    rw [e1, Option.bind_some] at e
    cases e2 : g p.1 p.2 with
    | none => rw [e2] at e; cases e
    | some env2 =>
      rw [e2] at e
      cases e
      exact ⟨F, pa, Z, env, p.1, p.2, W, e1, fun v Z' H' g1 W1 q => ⟨F, pa, Z', p.2, p.1, _, W1, q, e2, fun σ' Z2 H2 g2 W2 _ _ => k σ' Z2 H2 (g1.trans g2) W2⟩⟩
/-- x.append(e) -/
def appAt (i : Nat) (d : D) (env : En) : Option En := match env[i]? with
  | some (.own ds) => if ds.length < sizeLine then some (env.set i (.own (ds ++ [d]))) else none
  | some (.par ds) => if ds.length < sizeLine then some (env.set i (.par (ds ++ [d]))) else none
  | _ => none
def sApp (i : Nat) (f : Fx D) : Fx Fl := fun env => match env[i]? with
  | some s => if isOwn s = true then (match f env with
      | some (d, e) => (appAt i d e).map fun e2 => (.nx, e2)
      | none => none) else none
  | none => none
theorem s_app {i : Nat} {x : Str} {ie : Expr} {f : Fx D} {np ap : Pos} {cp : Pos} (ho : PE X (.Name x np) (tVar i)) (hi : PE X ie (tE X.K f)) (hse : starEach [ie] X.env = (false, eval ie X.env) :: starEach [] X.env)
    (hline : (ap.endLine == cp.line) = true)
    (hs : swapsWith (.Call (.Attribute (.Name x np) "append" ap) [ie] [] cp) none pos.line X.env = pure false) : PS X (.Expr (.Call (.Attribute (.Name x np) "append" ap) [ie] [] cp) pos) (tS X.K (sApp i f)) := by
  refine PS.imp (ps_expr (pe_bm PySem.F.plainAttrs_list PySem.F.slot_list_append PySem.F.type_list_append mt_append ho (pa_cons hi pa_nil hse) rfl (by rw [hse]; rfl) hline hse) hs) fun DD σ H ⟨F, pa, Z, env, fl, env', W, e, k⟩ => ?_
  unfold sApp at e
  cases e0 : env[i]? with
  | none => rw [e0] at e; cases e
  | some s0 =>
    rw [e0] at e
    dsimp only at e
    cases ow : isOwn s0 with
    | false => rw [ow, if_neg Bool.false_ne_true] at e; cases e
    | true =>
      rw [ow, if_pos rfl] at e
      obtain ⟨a, us0, ds0, ea, _, hH0, _⟩ := W.own_ref e0 ow
      split at e
      · rename_i d env1 h1
        cases e2 : appAt i d env1 with
        | none => rw [e2] at e; cases e
        | some env2 =>
          rw [e2] at e
          cases e
          refine ⟨_, ea, Or.inl ⟨rfl, _, SqL.of hH0⟩, F, pa, Z, env, d, env1, W, h1, fun y Z1 H1 g1 W1 q1 => ?_⟩
          have fin : ∀ (s : Sl) (us : List V) (ds : List D) (s' : List D → Sl), env1[i]? = some s → ((s = .own ds ∧ s' = .own) ∨ (s = .par ds ∧ s' = .par)) → H1 a = some (.lst us) → DpAll X.K Z1 us ds → (if ds.length < sizeLine then some (env1.set i (s' (ds ++ [d]))) else none) = some env' →
              ∃ l xs' y', V.ref a = .ref l ∧ [y] = [y'] ∧ H1 l = some (.lst xs') ∧ xs'.length < sizeLine ∧ DD.nx σ (upd H1 l (.lst (xs' ++ [y']))) := fun s us ds s' es hs hH da e => by
            by_cases hl : ds.length < sizeLine
            · rw [if_pos hl] at e
              cases e
              refine ⟨a, us, y, rfl, rfl, hH, by rw [da_length da]; exact hl, ?_⟩
              refine k σ Z1 _ g1 (W1.chg ea es ?_ (da_append da (.cons q1 .nil)))
              rcases hs with ⟨h1, h2⟩ | ⟨h1, h2⟩
              · exact .inl ⟨by rw [h2], _, h1⟩
              · exact .inr ⟨by rw [h2], _, h1⟩
            · rw [if_neg hl] at e; cases e
          unfold appAt at e2
          split at e2
          · rename_i ds es
            cases W1.sl i _ _ ea es with
            | own b1 b2 b3 b4 => exact fin _ _ ds .own es (.inl ⟨rfl, rfl⟩) b1 b4 e2
          · rename_i ds es
            cases W1.sl i _ _ ea es with
            | par b0 b1 b2 b3 b4 => exact fin _ _ ds .par es (.inr ⟨rfl, rfl⟩) b1 b4 e2
          · cases e2
      · cases e
end
end Ev
namespace Ev
open PySem PySem.Spec PyProof.Rows L2
/-! ## while, for -/
def sWhile (c : Fx Bool) (b : Fx Fl) : Nat → Fx Fl
  | 0 => fun _ => none
  | n + 1 => fun env => match c env with
    | some (true, e1) => (match b e1 with
      | some (.nx, e2) => sWhile c b n e2
      | some (.ct, e2) => sWhile c b n e2
      | some (.bk, e2) => some (.nx, e2)
      | some (.rt r, e2) => some (.rt r, e2)
      | none => none)
    | some (false, e1) => some (.nx, e1)
    | none => none
section
variable {X : Cx} {st : Stmt} {e : Expr} {pos : Pos}
theorem s_while {c : Expr} {body : List Stmt} {fc : Fx Bool} {fb : Fx Fl} {n : Nat} (hp : PassesOwn (model X.prog X.w) X.A X.env X.xe) (hc : PT X c (tT X.K fc)) (hb : PSs X body (tS X.K fb)) : PS X (.While c body [] pos) (tS X.K (sWhile fc fb n)) := by
  refine PS.imp (ps_while hp hc hb) fun DD σ H ⟨F, pa, Z, env, fl, env', W, e, k⟩ => ?_
  refine ⟨fun m σ H => ∃ Z1 env1, Gr F Z Z1 ∧ Wst X.K F Z1 H pa σ env1 ∧ sWhile fc fb m env1 = some (fl, env'), ⟨n, Z, env, .refl .., W, e⟩, ?_⟩
  rintro m σ H ⟨Z1, env1, g1, W1, e1⟩
  cases m with
  | zero => cases e1
  | succ m =>
    unfold sWhile at e1
    split at e1
    · rename_i env2 h2
      refine ⟨F, pa, Z1, env1, true, env2, W1, h2, fun Z2 H2 g2 W2 => iteT ?_⟩
      split at e1
      · rename_i env3 h3
        refine ⟨fun σ' H' => ∃ Z1 env1, Gr F Z Z1 ∧ Wst X.K F Z1 H' pa σ' env1 ∧ sWhile fc fb m env1 = some (fl, env'), fun σ' H' q => ⟨m, Nat.lt_succ_self m, q⟩, F, pa, Z2, env2, .nx, env3, W2, h3, fun σ3 Z3 H3 g3 W3 => ?_⟩
        exact ⟨Z3, env3, (g1.trans g2).trans g3, W3, e1⟩
      · rename_i env3 h3
        refine ⟨fun σ' H' => ∃ Z1 env1, Gr F Z Z1 ∧ Wst X.K F Z1 H' pa σ' env1 ∧ sWhile fc fb m env1 = some (fl, env'), fun σ' H' q => ⟨m, Nat.lt_succ_self m, q⟩, F, pa, Z2, env2, .ct, env3, W2, h3, fun σ3 Z3 H3 g3 W3 => ?_⟩
        exact ⟨Z3, env3, (g1.trans g2).trans g3, W3, e1⟩
      · rename_i env3 h3
        cases e1
        refine ⟨fun _ _ => False, fun _ _ z => z.elim, F, pa, Z2, env2, .bk, _, W2, h3, fun σ3 Z3 H3 g3 W3 => ?_⟩
        exact k σ3 Z3 H3 ((g1.trans g2).trans g3) W3
      · rename_i r env3 h3
        cases e1
        refine ⟨fun _ _ => False, fun _ _ z => z.elim, F, pa, Z2, env2, .rt r, _, W2, h3, fun v σ3 Z3 H3 g3 W3 q => ?_⟩
        exact k v σ3 Z3 H3 ((g1.trans g2).trans g3) W3 q
      · cases e1
    · rename_i env2 h2
      cases e1
      exact ⟨F, pa, Z1, env1, false, _, W1, h2, fun Z2 H2 g2 W2 => iteF (k σ Z2 H2 (g1.trans g2) W2)⟩
    · cases e1
/-! ### what is walked -/
/-- the items of the walk J are those of ds, from the frozen part Z1 on -/
def ItOk (K : PySem.W.Frag) (Z1 : Hp) (J : It) (ds : List D) : Prop := ∀ (Z H : Hp), Same Z1 Z → Same Z H → ∀ i : Nat,
  (∀ d, ds[i]? = some d → J.go i H ∧ ∀ x H2, J.yld i H x H2 → ∃ Z2, Alc Z H Z2 H2 ∧ Dp K Z2 x d) ∧ (ds.length ≤ i → J.stop i H)
def tI (K : PySem.W.Frag) (f : Fx (List D)) : TI := fun σ H R => ∃ F pa Z env ds env', Wst K F Z H pa σ env ∧ f env = some (ds, env') ∧
  ∀ J Z' H', Gr F Z Z' → Wst K F Z' H' pa σ env' → ItOk K Z' J ds → R J H'
theorem PI.imp {tg iter : Expr} {t t' : TI} (h : PI X tg iter t) (m : ∀ σ H R, t' σ H R → t σ H R) : PI X tg iter t' := ⟨fun pins s σ H R I q => h.run pins s σ H R I (m σ H R q)⟩
def forL (g : Gf) (b : Fx Fl) : List D → Fx Fl
  | [] => fun env => some (.nx, env)
  | d :: ds => fun env => match g d env with
    | some e1 => (match b e1 with
      | some (.nx, e2) => forL g b ds e2
      | some (.ct, e2) => forL g b ds e2
      | some (.bk, e2) => some (.nx, e2)
      | some (.rt r, e2) => some (.rt r, e2)
      | none => none)
    | none => none
def sFor (f : Fx (List D)) (g : Gf) (b : Fx Fl) : Fx Fl := fun env => match f env with
  | some (ds, e) => forL g b ds e
  | none => none
theorem s_for {tg iter : Expr} {body : List Stmt} {f : Fx (List D)} {sl : List Nat} {g : Gf} {fb : Fx Fl} (hp : PassesOwn (model X.prog X.w) X.A X.env X.xe) (hc : X.calm = true) (hi : PI X tg iter (tI X.K f)) (hg : PG X tg (tG X.K sl g)) (hb : PSs X body (tS X.K fb))
    (hs : ∀ x, foldedSetIterable iter X.env x = pure x) : PS X (.For tg iter body [] pos) (tS X.K (sFor f g fb)) := by
  refine PS.imp (ps_for hp hc hi hg hb hs) fun DD σ H ⟨F, pa, Z, env, fl, env', W, e, k⟩ => ?_
  unfold sFor at e
  split at e
  · rename_i ds env1 h1
    refine ⟨F, pa, Z, env, ds, env1, W, h1, fun J Z1 H1 g1 W1 io => ?_⟩
    refine ⟨fun i m σ H => m = ds.length - i ∧ ∃ Z2 env2, Gr F Z1 Z2 ∧ Wst X.K F Z2 H pa σ env2 ∧ forL g fb (ds.drop i) env2 = some (fl, env'), ⟨_, rfl, Z1, env1, .refl .., W1, by rw [List.drop_zero]; exact e⟩, ?_⟩
    rintro i m σ H ⟨rfl, Z2, env2, g2, W2, e2⟩
    obtain ⟨io1, io2⟩ := io Z2 H g2.zz W2.zh i
    by_cases hi : i < ds.length
    · rw [List.drop_eq_getElem_cons hi] at e2
      obtain ⟨jg, jy⟩ := io1 ds[i] (by simp [hi])
      unfold forL at e2
      split at e2
      · rename_i env3 h3
        have again : ∀ σ' H', (∃ Z2 env2, Gr F Z1 Z2 ∧ Wst X.K F Z2 H' pa σ' env2 ∧ forL g fb (ds.drop (i + 1)) env2 = some (fl, env')) →
            ∃ m', m' < ds.length - i ∧ m' = ds.length - (i + 1) ∧ ∃ Z2 env2, Gr F Z1 Z2 ∧ Wst X.K F Z2 H' pa σ' env2 ∧ forL g fb (ds.drop (i + 1)) env2 = some (fl, env') := fun σ' H' q => ⟨_, by omega, rfl, q⟩
        split at e2
        · rename_i env4 h4
          refine .inr ⟨jg, fun σ' H' => ∃ Z2 env2, Gr F Z1 Z2 ∧ Wst X.K F Z2 H' pa σ' env2 ∧ forL g fb (ds.drop (i + 1)) env2 = some (fl, env'), again, fun x H2 y => ?_⟩
          obtain ⟨Z3, al, dp⟩ := jy x H2 y
          refine ⟨F, pa, Z3, env2, _, env3, W2.alc al, dp, h3, fun σ5 Z5 H5 g5 W5 _ _ => ⟨F, pa, Z5, env3, .nx, env4, W5, h4, fun σ6 Z6 H6 g6 W6 => ?_⟩⟩
          exact ⟨Z6, env4, ((g2.trans (al.gr W2.fh)).trans g5).trans g6, W6, e2⟩
        · rename_i env4 h4
          refine .inr ⟨jg, fun σ' H' => ∃ Z2 env2, Gr F Z1 Z2 ∧ Wst X.K F Z2 H' pa σ' env2 ∧ forL g fb (ds.drop (i + 1)) env2 = some (fl, env'), again, fun x H2 y => ?_⟩
          obtain ⟨Z3, al, dp⟩ := jy x H2 y
          refine ⟨F, pa, Z3, env2, _, env3, W2.alc al, dp, h3, fun σ5 Z5 H5 g5 W5 _ _ => ⟨F, pa, Z5, env3, .ct, env4, W5, h4, fun σ6 Z6 H6 g6 W6 => ?_⟩⟩
          exact ⟨Z6, env4, ((g2.trans (al.gr W2.fh)).trans g5).trans g6, W6, e2⟩
        · rename_i env4 h4
          cases e2
          refine .inr ⟨jg, fun _ _ => False, fun _ _ z => z.elim, fun x H2 y => ?_⟩
          obtain ⟨Z3, al, dp⟩ := jy x H2 y
          refine ⟨F, pa, Z3, env2, _, env3, W2.alc al, dp, h3, fun σ5 Z5 H5 g5 W5 _ _ => ⟨F, pa, Z5, env3, .bk, _, W5, h4, fun σ6 Z6 H6 g6 W6 => ?_⟩⟩
          exact k σ6 Z6 H6 (g1.trans (((g2.trans (al.gr W2.fh)).trans g5).trans g6)) W6
        · rename_i r env4 h4
          cases e2
          refine .inr ⟨jg, fun _ _ => False, fun _ _ z => z.elim, fun x H2 y => ?_⟩
          obtain ⟨Z3, al, dp⟩ := jy x H2 y
          refine ⟨F, pa, Z3, env2, _, env3, W2.alc al, dp, h3, fun σ5 Z5 H5 g5 W5 _ _ => ⟨F, pa, Z5, env3, .rt r, _, W5, h4, fun v σ6 Z6 H6 g6 W6 q => ?_⟩⟩
          exact k v σ6 Z6 H6 (g1.trans (((g2.trans (al.gr W2.fh)).trans g5).trans g6)) W6 q
        · cases e2
      · cases e2
    · rw [List.drop_eq_nil_of_le (by omega)] at e2
      cases e2
      exact .inl ⟨io2 (by omega), k σ Z2 H (g1.trans g2) W2⟩
  · cases e
/-! ### lists and tuples walked -/
def seqD : D → Option (List D)
  | .list ds => some ds
  | .tuple ds => some ds
  | _ => none
def iSeq (f : Fx D) : Fx (List D) := fun env => (f env).bind fun p => (seqD p.1).map fun ds => (ds, p.2)
/-- a list or a tuple, walked -/
theorem pi_either {tg l : Expr} {tl : TE} (hl : PE X l tl) : PI X tg l (fun σ H R => tl σ H fun x H1 => (∃ a, x = .ref a ∧ (∃ xs, SqL X.K H1 a xs) ∧ R (Itl X.K a) H1) ∨ (∃ a, x = .ref a ∧ (∃ xs, SqT X.K H1 a xs) ∧ R (Itt X.K a) H1)) := by
  constructor
  intro pins s σ H R I h
  refine wpAny_mono (hl.run pins s σ H _ I h) ?_ fun _ _ z => z
  rintro v s1 ⟨x, H1, I1, r1, ⟨a, rfl, ⟨xs, hq⟩, q⟩ | ⟨a, rfl, ⟨xs, hq⟩, q⟩⟩
  · have Y : wpAny (model X.prog X.w) X.A (pyIter v) (PIE X pins σ tg R) X.xe s1 := by
      cases r1
      obtain ⟨its, _, p, _⟩ := I1.list hq
      refine wpAny_pyIter_list p.isList ⟨_, [_], _, _, H1, rfl, ?_, turn_list a _, ⟨_, Heap.get?_push_size _ rfl, rfl, rfl⟩, ?_, q⟩
      · exact I1.kept (t' := s1.toks) fun b o z => Heap.get?_push_of_some _ z
      · intro b hb
        rw [List.mem_singleton] at hb
        rw [hb]
        exact I1.fpOk (Nat.le_refl _) I1.fresh
    exact Y
  · have Y : wpAny (model X.prog X.w) X.A (pyIter v) (PIE X pins σ tg R) X.xe s1 := by
      cases r1
      obtain ⟨its, _, p, _⟩ := I1.tuple hq
      refine wpAny_pyIter_tuple (show s1.heap.IsTuple a its.toArray from p) ⟨_, [_], _, _, H1, rfl, ?_, turn_tuple a _, ⟨_, Heap.get?_push_size _ rfl, rfl, rfl⟩, ?_, q⟩
      · exact I1.kept (t' := s1.toks) fun b o z => Heap.get?_push_of_some _ z
      · intro b hb
        rw [List.mem_singleton] at hb
        rw [hb]
        exact I1.fpOk (Nat.le_refl _) I1.fresh
    exact Y
theorem s_iSeq {tg : Expr} {f : Fx D} (h : PE X e (tE X.K f)) : PI X tg e (tI X.K (iSeq f)) := by
  refine PI.imp (pi_either h) fun σ H R ⟨F, pa, Z, env, ds, env', W, e, k⟩ => ?_
  unfold iSeq at e
  cases h1 : f env with
  | none => rw [h1] at e; cases e
  | some p =>
    rw [h1, Option.bind_some] at e
    cases h2 : seqD p.1 with
    | none => rw [h2] at e; cases e
    | some ds' =>
      rw [h2] at e
      cases e
      refine ⟨F, pa, Z, env, p.1, p.2, W, h1, fun v Z1 H1 g1 W1 q => ?_⟩
      generalize p.1 = d at q h2
      cases q with
      | @lst a us ds hs ha =>
        cases h2
        refine .inl ⟨a, rfl, ⟨us, W1.zh.seq hs⟩, k _ Z1 H1 g1 W1 fun Z2 H2 z1 z2 i => ⟨fun d hd => ?_, fun hi => ⟨us, z2.seq (z1.seq hs), by rw [da_length ha]; exact hi⟩⟩⟩
        obtain ⟨v, hv, dv⟩ := da_get ha hd
        have hq := z2.seq (z1.seq hs)
        refine ⟨⟨us, v, hq, hv⟩, fun x H3 ⟨e3, y⟩ => ?_⟩
        subst e3
        have : us[i]? = some x := y us hq
        rw [hv] at this; cases this
        exact ⟨Z2, .refl z2, Dp.mono z1 _ _ dv⟩
      | @tup a us ds hs ha =>
        cases h2
        refine .inr ⟨a, rfl, ⟨us, Same.sqT W1.zh hs⟩, k _ Z1 H1 g1 W1 fun Z2 H2 z1 z2 i => ⟨fun d hd => ?_, fun hi => ⟨us, Same.sqT z2 (Same.sqT z1 hs), by rw [da_length ha]; exact hi⟩⟩⟩
        obtain ⟨v, hv, dv⟩ := da_get ha hd
        have hq := Same.sqT z2 (Same.sqT z1 hs)
        refine ⟨⟨us, v, hq, hv⟩, fun x H3 ⟨e3, y⟩ => ?_⟩
        subst e3
        have : us[i]? = some x := y us hq
        rw [hv] at this; cases this
        exact ⟨Z2, .refl z2, Dp.mono z1 _ _ dv⟩
      | _ => cases h2
end
end Ev
namespace Ev
open PySem PySem.Spec PyProof.Rows L2
/-! ## comprehensions -/
def wipeE (env : En) : List Nat → En
  | [] => env
  | v :: vs => (wipeE env vs).set v .no
theorem wipeE_length (env : En) : ∀ vs : List Nat, (wipeE env vs).length = env.length
  | [] => rfl
  | v :: vs => by unfold wipeE; rw [List.length_set, wipeE_length env vs]
theorem wipeE_in {env : En} {i : Nat} {s : Sl} : ∀ {vs : List Nat}, i ∈ vs → (wipeE env vs)[i]? = some s → s = .no
  | [], h, _ => by cases h
  | v :: vs, h, e => by
    unfold wipeE at e
    by_cases hv : v = i
    · subst hv
      by_cases hl : v < (wipeE env vs).length
      · rw [List.getElem?_set_self hl] at e; cases e; rfl
      · rw [List.getElem?_eq_none (by simpa using hl)] at e; cases e
    · rw [List.getElem?_set_ne hv] at e
      exact wipeE_in ((List.mem_cons.mp h).resolve_left fun z => hv z.symm) e
theorem wipeE_out {env : En} {i : Nat} : ∀ {vs : List Nat}, i ∉ vs → (wipeE env vs)[i]? = env[i]?
  | [], _ => rfl
  | v :: vs, h => by
    unfold wipeE
    rw [List.mem_cons, not_or] at h
    rw [List.getElem?_set_ne (fun z => h.1 z.symm)]
    exact wipeE_out h.2
theorem wipe_out' {σ : L2.St} {i : Nat} : ∀ {vs : List Nat}, i ∉ vs → (wipe σ vs)[i]? = σ[i]?
  | [], _ => rfl
  | v :: vs, h => by
    unfold wipe
    rw [List.mem_cons, not_or] at h
    rw [List.getElem?_set_ne (fun z => h.1 z.symm)]
    exact wipe_out' h.2
section
variable {K : PySem.W.Frag} {F Z H : Hp} {pa : Nat → Option Addr} {σ σ' : L2.St} {env : En} {vs : List Nat}
/-- the slots vs forgotten, on whatever side -/
theorem Wst.wipeTo (W : Wst K F Z H pa σ env) (hl : σ'.length = σ.length) (hs : ∀ i, i ∉ vs → σ'[i]? = σ[i]?) : Wst K F Z H pa σ' (wipeE env vs) := by
  have key : ∀ {i : Nat} {o : Option V} {s : Sl}, σ'[i]? = some o → (wipeE env vs)[i]? = some s → s = .no ∨ (σ[i]? = some o ∧ env[i]? = some s) := fun {i o s} e1 e2 => by
    by_cases h : i ∈ vs
    · exact .inl (wipeE_in h e2)
    · rw [wipeE_out h] at e2
      rw [hs i h] at e1
      exact .inr ⟨e1, e2⟩
  refine ⟨W.fh, W.zh, by rw [hl, W.len, wipeE_length], fun i o s e1 e2 => ?_, fun i j o o' s s' a ne e1 e2 e3 e4 o1 o2 => ?_⟩
  · rcases key e1 e2 with rfl | ⟨q1, q2⟩
    · exact .no _
    · exact W.sl i o s q1 q2
  · rcases key e1 e2 with rfl | ⟨q1, q2⟩
    · exact o1.no.elim
    · rcases key e3 e4 with rfl | ⟨q3, q4⟩
      · exact o2.no.elim
      · exact W.dj i j o o' s s' a ne q1 q2 q3 q4 o1 o2
theorem Wst.wiped (W : Wst K F Z H pa σ env) : Wst K F Z H pa (wipe σ vs) (wipeE env vs) := W.wipeTo (wipe_length σ vs) fun _ h => wipe_out' h
/-- the frame's object p is changed -/
theorem Wst.updF {p : Addr} {o o' : HO} (W : Wst K (upd F p o) Z H pa σ env) (hz : Z p = none) : Wst K (upd F p o') Z (upd H p o') pa σ env := by
  have nown : ∀ {i : Nat} {v : Option V} {s : Sl} {a : Addr}, σ[i]? = some v → env[i]? = some s → Ow H v s a → a ≠ p := fun {i v s a} e1 e2 e3 z => by
    obtain ⟨_, _, q, _⟩ := (W.sl i v s e1 e2).at_ e3
    rw [z, upd_same] at q; cases q
  have kept : ∀ {i : Nat} {v : Option V} {s : Sl}, σ[i]? = some v → env[i]? = some s → ∀ b u, Ow H v s b → H b = some u → upd H p o' b = some u := fun e1 e2 b u hb hu => by
    rw [upd_ne (nown e1 e2 hb)]; exact hu
  refine ⟨fun b u e => ?_, fun b u e => ?_, W.len, fun i v s e1 e2 => ?_, fun i j v v' s s' b ne e1 e2 e3 e4 o1 o2 => W.dj i j v v' s s' b ne e1 e2 e3 e4 ((W.sl i v s e1 e2).back (kept e1 e2) o1) ((W.sl j v' s' e3 e4).back (kept e3 e4) o2)⟩
  · by_cases q : b = p
    · subst q; rw [upd_same] at e ⊢; exact e
    · rw [upd_ne q] at e ⊢; exact W.fh b u (by rw [upd_ne q]; exact e)
  · rw [upd_ne (fun q => by subst q; rw [hz] at e; cases e)]; exact W.zh b u e
  · have so := (W.sl i v s e1 e2).mono (Same.refl Z) (kept e1 e2) fun _ _ => rfl
    have nn : ∀ a, Ow H v s a → upd F p o a = none → upd F p o' a = none := fun a ha h => by
      rw [upd_ne (nown e1 e2 ha)] at h ⊢; exact h
    have bk : ∀ {a}, Ow (upd H p o') v s a → Ow H v s a := fun h => (W.sl i v s e1 e2).back (kept e1 e2) h
    cases so with
    | no => exact .no _
    | val d => exact .val d
    | own h1 h2 h3 h4 => exact .own h1 (nn _ (bk rfl) h2) h3 h4
    | par h0 h1 h2 h3 h4 => exact .par h0 h1 (nn _ (bk rfl) h2) h3 h4
    | mat h1 h2 h3 h4 h5 => exact .mat h1 (nn _ (bk (.inl rfl)) h2) h3 (h4.mono (fun _ _ h => h) (fun _ _ _ h => h) (fun a m h => nn _ (bk (.inr ⟨_, h1, (h4.mem m).1⟩)) h) fun _ _ => rfl) h5
end
/-- one turn behind another: what is kept, the state behind the last -/
def compL (g : Gf) (c : Fx Bool) (f : Fx D) (vs : List Nat) : List D → List D → Fx (List D)
  | [], acc => fun env => some (acc, env)
  | d :: ds, acc => fun env => match g d env with
    | some e1 => (match c e1 with
      | some (true, e2) => (match f e2 with
        | some (y, e3) => if acc.length < sizeLine then compL g c f vs ds (acc ++ [y]) (wipeE e3 vs) else none
        | none => none)
      | some (false, e2) => compL g c f vs ds acc (wipeE e2 vs)
      | none => none)
    | none => none
def eComp (it : Fx (List D)) (g : Gf) (c : Fx Bool) (f : Fx D) (vs : List Nat) : Fx R := fun env => match it env with
  | some (ds, e) => (compL g c f vs ds [] (wipeE e vs)).map fun p => (.fresh p.1, p.2)
  | none => none
theorem tLc_of {K : PySem.W.Frag} {it : Fx (List D)} {sl : List Nat} {g : Gf} {c : Fx Bool} {f : Fx D} {vs : List Nat} (hsl : ∀ i ∈ sl, i ∈ vs) {σ : L2.St} {H : Hp} {Q : VK} (h : tR K (eComp it g c f vs) σ H Q) :
    tLc (tI K it) (tG K sl g) (tT K c) (tE K f) vs σ H Q := by
  obtain ⟨F, pa, Z, env, r, env', W, e, k⟩ := h
  unfold eComp at e
  split at e
  · rename_i ds env1 h1
    cases h2 : compL g c f vs ds [] (wipeE env1 vs) with
    | none => rw [h2] at e; cases e
    | some q =>
      obtain ⟨res, env2⟩ := q
      rw [h2] at e
      cases e
      refine ⟨F, pa, Z, env, ds, env1, W, h1, fun J Z1 H1 g1 W1 io p hp => ?_⟩
      have fp : F p = none := W1.fh.free hp
      have zp : Z1 p = none := W1.zh.free hp
      -- the invariant: the turn, what is made so far
      refine ⟨fun i m H => m = ds.length - i ∧ ∃ Z2 env3 us acc, Gr F Z1 Z2 ∧ Z2 p = none ∧ H p = some (.lst us) ∧ DpAll K Z2 us acc ∧ Wst K (upd F p (.lst us)) Z2 H pa (wipe σ vs) env3 ∧ wipeE env3 vs = env3 ∧ compL g c f vs (ds.drop i) acc env3 = some (res, env2),
        ⟨_, rfl, Z1, wipeE env1 vs, [], [], .refl .., zp, upd_same, .nil, ?_, ?_, by rw [List.drop_zero]; exact h2⟩, ?_⟩
      · have W2 : Wst K (upd F p (.lst [])) Z1 (upd H1 p (.lst [])) pa σ env1 := by
          have al : Alc Z1 H1 Z1 (upd H1 p (.lst [])) := ⟨Same.refl _, upd_none hp, fun b u e => by rw [upd_ne (fun z => by subst z; rw [zp] at e; cases e)]; exact W1.zh b u e, fun _ _ => rfl⟩
          refine (W1.alc al).frameUp upd_same fun i o s e1 e2 e3 => ?_
          obtain ⟨us, b1, _⟩ := (W1.sl i o s e1 e2).at_ ((W1.sl i o s e1 e2).back (fun b u _ h => al.hh b u h) e3)
          rw [hp] at b1; cases b1
        exact W2.wiped
      · have wi : ∀ (vs ws : List Nat) (env : En), (∀ v ∈ vs, v ∈ ws) → wipeE (wipeE env ws) vs = wipeE env ws := by
          intro vs ws env hs
          refine List.ext_getElem? fun i => ?_
          by_cases hi : i ∈ vs
          · have hl : (wipeE (wipeE env ws) vs).length = (wipeE env ws).length := wipeE_length _ _
            by_cases hb : i < (wipeE env ws).length
            · have e1 : (wipeE (wipeE env ws) vs)[i]? = some ((wipeE (wipeE env ws) vs)[i]'(by rw [hl]; exact hb)) := by simp [hl, hb]
              have e2 : (wipeE env ws)[i]? = some ((wipeE env ws)[i]) := by simp [hb]
              rw [e1, e2, wipeE_in hi e1, wipeE_in (hs i hi) e2]
            · rw [List.getElem?_eq_none (by omega), List.getElem?_eq_none (by omega)]
          · rw [wipeE_out hi]
        exact wi vs vs env1 fun _ h => h
      · rintro i m H ⟨rfl, Z2, env3, us, acc, g2, z2, hH, da, W2, wz, e2⟩
        obtain ⟨io1, io2⟩ := io Z2 H g2.zz W2.zh i
        by_cases hi : i < ds.length
        · rw [List.drop_eq_getElem_cons hi] at e2
          obtain ⟨jg, jy⟩ := io1 ds[i] (by simp [hi])
          refine .inr ⟨jg, fun H' => ∃ Z2 env3 us acc, Gr F Z1 Z2 ∧ Z2 p = none ∧ H' p = some (.lst us) ∧ DpAll K Z2 us acc ∧ Wst K (upd F p (.lst us)) Z2 H' pa (wipe σ vs) env3 ∧ wipeE env3 vs = env3 ∧ compL g c f vs (ds.drop (i + 1)) acc env3 = some (res, env2),
            fun H' q => ⟨ds.length - (i + 1), by omega, rfl, q⟩, fun x H2 y => ?_⟩
          obtain ⟨Z3, al, dp⟩ := jy x H2 y
          unfold compL at e2
          split at e2
          · rename_i env4 h4
            have W3 := W2.alc al
            have sf : Same F (upd F p (.lst us)) := upd_none fp
            refine ⟨_, pa, Z3, env3, _, env4, W3, dp, h4, fun σ5 Z5 H5 g5 W5 l5 k5 => ⟨?_, ?_⟩⟩
            · refine List.ext_getElem? fun j => ?_
              by_cases hj : j ∈ vs
              · have wn : ∀ (σ : L2.St) (vs : List Nat), j ∈ vs → j < σ.length → (wipe σ vs)[j]? = some none := by
                  intro σ vs
                  induction vs with
                  | nil => intro h; cases h
                  | cons v vs ih =>
                    intro h hl
                    unfold wipe
                    by_cases hv : v = j
                    · subst hv; rw [List.getElem?_set_self (by rw [wipe_length]; exact hl)]
                    · rw [List.getElem?_set_ne hv]
                      exact ih ((List.mem_cons.mp h).resolve_left fun z => hv z.symm) hl
                have hlen : (wipe σ vs).length = σ.length := wipe_length σ vs
                by_cases hb : j < σ.length
                · rw [wn σ5 vs hj (by rw [l5, hlen]; exact hb), wn σ vs hj hb]
                · rw [List.getElem?_eq_none (by rw [wipe_length, l5, hlen]; omega), List.getElem?_eq_none (by rw [hlen]; omega)]
              · rw [wipe_out' hj, k5 j (fun z => hj (hsl j z))]
            · have l5' : (wipe σ vs).length = σ5.length := l5.symm
              have s5 : ∀ i, i ∉ vs → (wipe σ vs)[i]? = σ5[i]? := fun i h => (k5 i fun z => h (hsl i z)).symm
              have wi2 : ∀ (env : En), wipeE (wipeE env vs) vs = wipeE env vs := by
                intro env
                refine List.ext_getElem? fun i => ?_
                by_cases hi : i ∈ vs
                · have hl : (wipeE (wipeE env vs) vs).length = (wipeE env vs).length := wipeE_length _ _
                  by_cases hb : i < (wipeE env vs).length
                  · have e1 : (wipeE (wipeE env vs) vs)[i]? = some ((wipeE (wipeE env vs) vs)[i]'(by rw [hl]; exact hb)) := by simp [hl, hb]
                    have e2 : (wipeE env vs)[i]? = some ((wipeE env vs)[i]) := by simp [hb]
                    rw [e1, e2, wipeE_in hi e1, wipeE_in hi e2]
                  · rw [List.getElem?_eq_none (by omega), List.getElem?_eq_none (by omega)]
                · rw [wipeE_out hi]
              have gz : ∀ {Z : Hp}, Gr (upd F p (.lst us)) Z5 Z → Z p = none := fun {Z} g => by
                rw [g.nf p (by rw [upd_same]; exact fun z => nomatch z), g5.nf p (by rw [upd_same]; exact fun z => nomatch z)]
                by_cases q : Z3 p = none
                · exact q
                · have : Z3 p = Z2 p := al.nw p (by rw [hH]; exact fun z => nomatch z)
                  rw [this]; exact z2
              split at e2
              · rename_i env5 h5
                refine ⟨_, pa, Z5, env4, true, env5, W5, h5, fun Z6 H6 g6 W6 => iteT ?_⟩
                split at e2
                · rename_i yy env6 h6
                  refine ⟨_, pa, Z6, env5, yy, env6, W6, h6, fun v Z7 H7 g7 W7 q7 => ?_⟩
                  by_cases hl : acc.length < sizeLine
                  · rw [if_pos hl] at e2
                    have g37 : Gr (upd F p (.lst us)) Z5 Z7 := g6.trans g7
                    have p7 : H7 p = some (.lst us) := W7.fh p _ upd_same
                    have zz : Same Z2 Z7 := al.zz.trans (g5.zz.trans g37.zz)
                    refine ⟨us, p7, by rw [da_length da]; exact hl, Z7, wipeE env6 vs, us ++ [v], acc ++ [yy], ?_, gz g37, upd_same, da_append (DpAll.mono zz _ _ da) (.cons q7 .nil), (W7.wipeTo l5' s5).updF (gz g37), wi2 _, e2⟩
                    exact g2.trans (((al.gr W2.fh).trans (g5.trans g37)).frame sf)
                  · rw [if_neg hl] at e2; cases e2
                · cases e2
              · rename_i env5 h5
                refine ⟨_, pa, Z5, env4, false, env5, W5, h5, fun Z6 H6 g6 W6 => iteF ?_⟩
                have zz : Same Z2 Z6 := al.zz.trans (g5.zz.trans g6.zz)
                exact ⟨Z6, wipeE env5 vs, us, acc, g2.trans (((al.gr W2.fh).trans (g5.trans g6)).frame sf), gz g6, W6.fh p _ upd_same, DpAll.mono zz _ _ da, W6.wipeTo l5' s5, wi2 _, e2⟩
              · cases e2
          · cases e2
        · rw [List.drop_eq_nil_of_le (by omega)] at e2
          cases e2
          have sf : Same F (upd F p (.lst us)) := upd_none fp
          have W3 := (W2.frame sf).wipeTo (σ' := σ) (vs := vs) (wipe_length σ vs).symm fun i h => (wipe_out' h).symm
          rw [wz] at W3
          refine .inl ⟨io2 (by omega), k _ Z2 H (g1.trans g2) W3 ⟨p, us, rfl, hH, z2, fp, da, fun i o s q1 q2 q3 => ?_⟩⟩
          by_cases hj : i ∈ vs
          · rw [← wz] at q2
            rw [wipeE_in hj q2] at q3
            exact q3.no
          · obtain ⟨_, _, z, _⟩ := (W2.sl i o s (by rw [wipe_out' hj]; exact q1) q2).at_ q3
            rw [upd_same] at z; cases z
  · cases e
section
variable {X : Cx}
theorem s_comp {elt tg iter : Expr} {ifs : List Expr} {scope : Scope} {own : List (Str × Nat)} {pos : Pos} {it : Fx (List D)} {sl : List Nat} {g : Gf} {c : Fx Bool} {f : Fx D} (hc : X.calm = true) (hN : X.N.Nodup) (hi : PI X tg iter (tI X.K it)) (ok : BlkOk X.N X.env.scope scope own)
    (hsl : ∀ i ∈ sl, i ∈ own.map (·.2))
    (hg : ∀ (s : Shared) (H : Hp) (C : Addr) (cl : List (Str × Addr)) (fp : List Addr), PG (X.blk s H scope (compEnvC scope cl C X.env) fp) tg (tG X.K sl g))
    (ht : ∀ (s : Shared) (H : Hp) (C : Addr) (cl : List (Str × Addr)) (fp : List Addr), PTs (X.blk s H scope (compEnvC scope cl C X.env) fp) ifs (tT X.K c))
    (he : ∀ (s : Shared) (H : Hp) (C : Addr) (cl : List (Str × Addr)) (fp : List Addr), PE (X.blk s H scope (compEnvC scope cl C X.env) fp) elt (tE X.K f)) (hs : ∀ x, foldedSetIterable iter X.env x = pure x) :
    PE X (.ListComp elt [⟨tg, iter, ifs, 0⟩] scope pos) (tR X.K (eComp it g c f (own.map (·.2)))) :=
  PE.imp (pe_lc hc hN hi ok hg ht he hs) fun σ H Q h => tLc_of hsl h
theorem s_setComp {i : Nat} {y : Str} {py : Pos} {elt tg iter : Expr} {ifs : List Expr} {scope : Scope} {own : List (Str × Nat)} {pos spos : Pos} {it : Fx (List D)} {sl : List Nat} {g : Gf} {c : Fx Bool} {f : Fx D} (hc : X.calm = true) (hN : X.N.Nodup) (hy : X.N[i]? = some y) (hyl : X.env.scope.names.lookup y = some .local)
    (hsw : swapsWith (.ListComp elt [⟨tg, iter, ifs, 0⟩] scope pos) (some (.Name y py)) spos.line X.env = pure true) (hi : PI X tg iter (tI X.K it)) (ok : BlkOk X.N X.env.scope scope own)
    (hsl : ∀ i ∈ sl, i ∈ own.map (·.2))
    (hg : ∀ (s : Shared) (H : Hp) (C : Addr) (cl : List (Str × Addr)) (fp : List Addr), PG (X.blk s H scope (compEnvC scope cl C X.env) fp) tg (tG X.K sl g))
    (ht : ∀ (s : Shared) (H : Hp) (C : Addr) (cl : List (Str × Addr)) (fp : List Addr), PTs (X.blk s H scope (compEnvC scope cl C X.env) fp) ifs (tT X.K c))
    (he : ∀ (s : Shared) (H : Hp) (C : Addr) (cl : List (Str × Addr)) (fp : List Addr), PE (X.blk s H scope (compEnvC scope cl C X.env) fp) elt (tE X.K f)) (hs : ∀ x, foldedSetIterable iter X.env x = pure x) :
    PS X (.Assign [.Name y py] (.ListComp elt [⟨tg, iter, ifs, 0⟩] scope pos) spos) (tS X.K (sSet i (eComp it g c f (own.map (·.2))))) :=
  s_setG (ps_setLc hc hN hy hyl hsw hi ok hg ht he hs) fun σ H Q h => tLc_of hsl h
end
end Ev
namespace Ev
open PySem PySem.Spec PyProof.Rows L2
/-! ## a def -/
def initE (n : Nat) (avs : List AV) : En := avs.map (fun a => match a with | .val d => Sl.val d | .own ds => Sl.par ds) ++ List.replicate (n - avs.length) Sl.no
def outsOf : List AV → Nat → En → Option (List (List D))
  | [], _, _ => some []
  | .val _ :: as, n, env => outsOf as (n + 1) env
  | .own _ :: as, n, env => match env[n]? with
    | some (.par ds) => (outsOf as (n + 1) env).map fun r => ds :: r
    | _ => none
def callFn (n : Nat) (body : Fx Fl) : Fn := fun avs => match body (initE n avs) with
  | some (.rt r, env) => (outsOf avs 0 env).map fun o => (r, o)
  | some (.nx, env) => (outsOf avs 0 env).map fun o => (.val .none, o)
  | _ => none
section
variable {K : PySem.W.Frag} {F Z H : Hp}
theorem AvOk.get_val : ∀ {vs : List V} {as : List AV} {i : Nat} {v : V} {d : D}, AvOk K F Z H vs as → vs[i]? = some v → as[i]? = some (.val d) → Dp K Z v d
  | _, _, _, _, _, .nil, e, _ => by simp at e
  | _, _, 0, _, _, .val h _, e, e' => by simp at e e'; rw [← e, ← e']; exact h
  | _, _, 0, _, _, .own .., e, e' => by simp at e'
  | _, _, i + 1, _, _, .val _ t, e, e' => t.get_val (i := i) (by simpa using e) (by simpa using e')
  | _, _, i + 1, _, _, .own _ _ _ _ _ t, e, e' => t.get_val (i := i) (by simpa using e) (by simpa using e')
theorem AvOk.get_own : ∀ {vs : List V} {as : List AV} {i : Nat} {v : V} {ds : List D}, AvOk K F Z H vs as → vs[i]? = some v → as[i]? = some (.own ds) → ∃ a us, v = .ref a ∧ H a = some (.lst us) ∧ F a = none ∧ Z a = none ∧ DpAll K Z us ds ∧ a ∈ ownAdr vs as
  | _, _, _, _, _, .nil, e, _ => by simp at e
  | _, _, 0, _, _, .val h _, e, e' => by simp at e'
  | _, _, 0, _, _, .own (a := a) h1 h2 h3 h4 _ _, e, e' => by simp at e e'; rw [← e, ← e']; exact ⟨a, _, rfl, h1, h2, h3, h4, List.mem_cons_self ..⟩
  | _, _, i + 1, _, _, .val (v := v) _ t, e, e' => by
    obtain ⟨a, us, h1, h2, h3, h4, h5, h6⟩ := t.get_own (i := i) (by simpa using e) (by simpa using e')
    exact ⟨a, us, h1, h2, h3, h4, h5, by cases v <;> exact h6⟩
  | _, _, i + 1, _, _, .own _ _ _ _ _ t, e, e' => by
    obtain ⟨a, us, h1, h2, h3, h4, h5, h6⟩ := t.get_own (i := i) (by simpa using e) (by simpa using e')
    exact ⟨a, us, h1, h2, h3, h4, h5, List.mem_cons_of_mem _ h6⟩
theorem AvOk.own_ne : ∀ {vs : List V} {as : List AV} {i j : Nat} {a : Addr} {ds es : List D}, AvOk K F Z H vs as → i < j → vs[i]? = some (.ref a) → as[i]? = some (.own ds) → vs[j]? = some (.ref a) → as[j]? = some (.own es) → False
  | _, _, _, _, _, _, _, .nil, _, e, _, _, _ => by simp at e
  | _, _, 0, 0, _, _, _, _, h, _, _, _, _ => by omega
  | _, _, 0, j + 1, _, _, _, .val .., _, _, e, _, _ => by simp at e
  | _, _, 0, j + 1, a, ds, es, .own (a := b) _ _ _ _ n t, _, e1, _, e3, e4 => by
    have e1' : b = a := by simpa using e1
    subst e1'
    obtain ⟨c, _, q, _, _, _, _, hm⟩ := t.get_own (i := j) (by simpa using e3) (by simpa using e4)
    cases q
    exact n hm
  | _, _, i + 1, j + 1, _, _, _, .val _ t, h, e1, e2, e3, e4 => t.own_ne (i := i) (j := j) (by omega) (by simpa using e1) (by simpa using e2) (by simpa using e3) (by simpa using e4)
  | _, _, i + 1, j + 1, _, _, _, .own _ _ _ _ _ t, h, e1, e2, e3, e4 => t.own_ne (i := i) (j := j) (by omega) (by simpa using e1) (by simpa using e2) (by simpa using e3) (by simpa using e4)
  | _, _, i + 1, 0, _, _, _, _, h, _, _, _, _ => by omega
def paOf (vs : List V) (avs : List AV) (i : Nat) : Option Addr := match vs[i]?, avs[i]? with
  | some (.ref a), some (.own _) => some a
  | _, _ => none
theorem init_get {n i : Nat} {avs : List AV} {s : Sl} (e : (initE n avs)[i]? = some s) : s = .no ∨ ∃ av, avs[i]? = some av ∧ s = (match av with | .val d => Sl.val d | .own ds => Sl.par ds) := by
  unfold initE at e
  by_cases h : i < avs.length
  · rw [List.getElem?_append_left (by simpa using h), List.getElem?_map] at e
    cases q : avs[i]? with
    | none => rw [q] at e; cases e
    | some av => rw [q] at e; cases e; exact .inr ⟨av, rfl, rfl⟩
  · rw [List.getElem?_append_right (by simpa using h)] at e
    rw [List.getElem?_replicate] at e
    split at e
    · cases e; exact .inl rfl
    · cases e
theorem start_get {N : List Str} {vs : List V} {i : Nat} {v : V} (h : vs[i]? = some v) : (L2.start N vs)[i]? = some (some v) := by
  have hi : i < vs.length := (List.getElem?_eq_some_iff.mp h).1
  unfold L2.start
  rw [List.getElem?_append_left (by simpa using hi), List.getElem?_map, h]
  rfl
theorem Wst.start {N : List Str} {vs : List V} {avs : List AV} (f : Same F H) (z : Same Z H) (A : AvOk K F Z H vs avs) (hl : vs.length ≤ N.length) : Wst K F Z H (paOf vs avs) (L2.start N vs) (initE N.length avs) := by
  have la := A.length
  have sv : ∀ {i : Nat} {o : Option V} {av : AV}, (L2.start N vs)[i]? = some o → avs[i]? = some av → ∃ v, vs[i]? = some v ∧ o = some v := fun {i o av} e q => by
    have hi : i < vs.length := by rw [la]; exact (List.getElem?_eq_some_iff.mp q).1
    have e1 : vs[i]? = some vs[i] := by simp [hi]
    rw [start_get e1] at e
    exact ⟨_, e1, (Option.some.inj e).symm⟩
  refine ⟨f, z, ?_, fun i o s e1 e2 => ?_, fun i j o o' s s' a ne e1 e2 e3 e4 o1 o2 => ?_⟩
  · unfold L2.start initE
    simp
    omega
  · rcases init_get e2 with rfl | ⟨av, q, rfl⟩
    · exact .no _
    · obtain ⟨v, hv, rfl⟩ := sv e1 q
      cases av with
      | val d => exact .val (A.get_val hv q)
      | own ds =>
        obtain ⟨a, us, rfl, h1, h2, h3, h4, h5⟩ := A.get_own hv q
        refine .par ?_ h1 h2 h3 h4
        unfold paOf
        rw [hv, q]
  · have key : ∀ {i : Nat} {o : Option V} {s : Sl}, (L2.start N vs)[i]? = some o → (initE N.length avs)[i]? = some s → Ow H o s a → ∃ ds, vs[i]? = some (.ref a) ∧ avs[i]? = some (.own ds) := fun {i o s} e1 e2 e3 => by
      rcases init_get e2 with rfl | ⟨av, q, rfl⟩
      · exact e3.no.elim
      · obtain ⟨v, hv, ev⟩ := sv e1 q
        cases ev
        cases av with
        | val d => exact e3.val.elim
        | own ds =>
          cases e3.par
          exact ⟨ds, hv, q⟩
    obtain ⟨ds, a1, a2⟩ := key e1 e2 o1
    obtain ⟨es, b1, b2⟩ := key e3 e4 o2
    rcases Nat.lt_or_gt_of_ne ne with h | h
    · exact A.own_ne h a1 a2 b1 b2
    · exact A.own_ne h b1 b2 a1 a2
theorem outs_ok {Z' H' : Hp} {pa : Nat → Option Addr} {σ' : L2.St} {env' : En} (W : Wst K F Z' H' pa σ' env') : ∀ {vs : List V} {avs : List AV} {n : Nat} {outs : List (List D)}, AvOk K F Z H vs avs → (∀ i a ds, vs[i]? = some (.ref a) → avs[i]? = some (.own ds) → pa (n + i) = some a) →
    outsOf avs n env' = some outs → OutOk K Z' H' (ownAdr vs avs) outs ∧ ∀ a ∈ ownAdr vs avs, ∃ (j : Nat) (s : Sl), σ'[j]? = some (some (.ref a)) ∧ env'[j]? = some s ∧ Ow H' (some (.ref a)) s a
  | _, _, n, outs, .nil, _, e => by cases e; exact ⟨.nil, fun a h => by cases h⟩
  | _, _, n, outs, .val (v := v) (vs := vs) (as := as) _ t, hp, e => by
    have := outs_ok W (n := n + 1) t (fun i a ds e1 e2 => by rw [show n + 1 + i = n + (i + 1) by omega]; exact hp (i + 1) a ds (by simpa using e1) (by simpa using e2)) (show outsOf as (n + 1) env' = some outs from e)
    cases v <;> exact this
  | _, _, n, outs, .own (a := a) (ds := ds) (vs := vs) (as := as) _ _ _ _ _ t, hp, e => by
    unfold outsOf at e
    split at e
    · rename_i es e1
      cases e2 : outsOf as (n + 1) env' with
      | none => rw [e2] at e; cases e
      | some r =>
        rw [e2] at e; cases e
        obtain ⟨h1, h2⟩ := outs_ok W (n := n + 1) t (fun i a ds e1 e2 => by rw [show n + 1 + i = n + (i + 1) by omega]; exact hp (i + 1) a ds (by simpa using e1) (by simpa using e2)) e2
        obtain ⟨o, eo, so⟩ := W.get e1
        cases so with
        | @par b us _ b0 b1 b2 b3 b4 =>
          have q := hp 0 a ds rfl rfl
          rw [Nat.add_zero, b0] at q
          have q' : b = a := Option.some.inj q
          subst q'
          refine ⟨.cons b1 b3 b4 h1, fun c hc => ?_⟩
          rcases List.mem_cons.mp (show c ∈ b :: ownAdr vs as from hc) with rfl | hc
          · exact ⟨n, _, eo, e1, rfl⟩
          · exact h2 c hc
    · cases e
end
end Ev
namespace Ev
open PySem PySem.Spec PyProof.Rows L2
/-! ## plain arguments, displays -/
def tAd (K : PySem.W.Frag) (f : Fx (List D)) : TA := fun σ H Q => ∃ F pa Z env ds env', Wst K F Z H pa σ env ∧ f env = some (ds, env') ∧
  ∀ vs Z' H', Gr F Z Z' → Wst K F Z' H' pa σ env' → DpAll K Z' vs ds → Q vs H'
def dNil : Fx (List D) := fun env => some ([], env)
def dCons (f : Fx D) (g : Fx (List D)) : Fx (List D) := fun env => (f env).bind fun p => (g p.2).map fun q => (p.1 :: q.1, q.2)
section
variable {X : Cx} {e : Expr} {es : List Expr} {pos : Pos}
theorem s_dNil : PA X [] (tAd X.K dNil) := by
  refine PA.imp pa_nil fun σ H Q ⟨F, pa, Z, env, ds, env', W, h, k⟩ => ?_
  cases h
  exact k [] Z H (.refl ..) W .nil
theorem s_dCons {f : Fx D} {g : Fx (List D)} (h1 : PE X e (tE X.K f)) (h2 : PA X es (tAd X.K g)) (hs : starEach (e :: es) X.env = (false, eval e X.env) :: starEach es X.env) : PA X (e :: es) (tAd X.K (dCons f g)) := by
  refine PA.imp (pa_cons h1 h2 hs) fun σ H Q ⟨F, pa, Z, env, ds, env', W, h, k⟩ => ?_
  unfold dCons at h
  cases e1 : f env with
  | none => rw [e1] at h; cases h
  | some p =>
    rw [e1, Option.bind_some] at h
    cases e2 : g p.2 with
    | none => rw [e2] at h; cases h
    | some q =>
      rw [e2] at h
      cases h
      exact ⟨F, pa, Z, env, p.1, p.2, W, e1, fun v Z1 H1 g1 W1 q1 => ⟨F, pa, Z1, p.2, q.1, q.2, W1, e2, fun vs Z2 H2 g2 W2 q2 => k (v :: vs) Z2 H2 (g1.trans g2) W2 (.cons (Dp.mono g2.zz _ _ q1) q2)⟩⟩
def eTup (f : Fx (List D)) : Fx D := fun env => match f env with
  | some (ds, e) => if ds.length ≤ sizeLine then some (.tuple ds, e) else none
  | none => none
theorem s_tup {f : Fx (List D)} {k : Nat} (h : PA X es (tAd X.K f)) : PE X (.Tuple es k pos) (tE X.K (eTup f)) := by
  refine PE.imp (pe_tup h) fun σ H Q ⟨F, pa, Z, env, d, env', W, e, k⟩ => ?_
  unfold eTup at e
  split at e
  · rename_i ds env1 e1
    by_cases hl : ds.length ≤ sizeLine
    · rw [if_pos hl] at e
      cases e
      refine ⟨F, pa, Z, env, ds, _, W, e1, fun vs Z1 H1 g1 W1 q1 => ⟨by rw [da_length q1]; exact hl, fun p hp => ?_⟩⟩
      have al := Alc.new (o := .tup vs) W1.zh hp
      exact k _ _ _ (g1.trans (al.gr W1.fh)) (W1.alc al) (.tup (SqT.of upd_same) (DpAll.mono al.zz _ _ q1))
    · rw [if_neg hl] at e; cases e
  · cases e
/-- a new list at p, not yet frozen -/
theorem Wst.newL {K : PySem.W.Frag} {F Z H : Hp} {pa : Nat → Option Addr} {σ : L2.St} {env : En} {p : Addr} {us : List V} {ds : List D} (W : Wst K F Z H pa σ env) (hp : H p = none) (q : DpAll K Z us ds) :
    Wst K F Z (upd H p (.lst us)) pa σ env ∧ RkOk K F Z (upd H p (.lst us)) σ env (.ref p) (.fresh ds) := by
  have zp := W.zh.free hp
  have al : Alc Z H Z (upd H p (.lst us)) := ⟨Same.refl _, upd_none hp, fun b u e => by rw [upd_ne (fun z => by subst z; rw [zp] at e; cases e)]; exact W.zh b u e, fun _ _ => rfl⟩
  refine ⟨W.alc al, p, us, rfl, upd_same, zp, W.fh.free hp, q, fun i o s e1 e2 e3 => ?_⟩
  obtain ⟨us', b1, _⟩ := (W.sl i o s e1 e2).at_ ((W.sl i o s e1 e2).back (fun b u _ h => upd_none hp b u h) e3)
  rw [hp] at b1; cases b1
def eLst (f : Fx (List D)) : Fx R := fun env => match f env with
  | some (ds, e) => if ds.length ≤ sizeLine then some (.fresh ds, e) else none
  | none => none
theorem s_lst {f : Fx (List D)} (h : PA X es (tAd X.K f)) : PE X (.List es pos) (tR X.K (eLst f)) := by
  refine PE.imp (pe_lst h) fun σ H Q ⟨F, pa, Z, env, d, env', W, e, k⟩ => ?_
  unfold eLst at e
  split at e
  · rename_i ds env1 e1
    by_cases hl : ds.length ≤ sizeLine
    · rw [if_pos hl] at e
      cases e
      refine ⟨F, pa, Z, env, ds, _, W, e1, fun vs Z1 H1 g1 W1 q1 => ⟨by rw [da_length q1]; exact hl, fun p hp => ?_⟩⟩
      obtain ⟨W2, rk⟩ := W1.newL hp q1
      exact k _ _ _ g1 W2 rk
    · rw [if_neg hl] at e; cases e
  · cases e
/-- a list and a list: a new list -/
def eAddR (f g : Fx D) : Fx R := fun env => (f env).bind fun p => (g p.2).bind fun q => match p.1, q.1 with
  | .list xs, .list ys => if xs.length + ys.length ≤ sizeLine then some (.fresh (xs ++ ys), q.2) else none
  | _, _ => none
theorem s_addR {a b : Expr} {fa fb : Fx D} (ha : PE X a (tE X.K fa)) (hb : PE X b (tE X.K fb)) : PE X (.BinOp a .Add b pos) (tR X.K (eAddR fa fb)) := by
  refine PE.imp (pe_op op_catL ha hb) fun σ H Q ⟨F, pa, Z, env, r, env', W, e, k⟩ => ?_
  unfold eAddR at e
  cases e1 : fa env with
  | none => rw [e1] at e; cases e
  | some p =>
    rw [e1, Option.bind_some] at e
    cases e2 : fb p.2 with
    | none => rw [e2] at e; cases e
    | some q =>
      rw [e2, Option.bind_some] at e
      refine ⟨F, pa, Z, env, p.1, p.2, W, e1, fun v Z1 H1 g1 W1 q1 => ⟨F, pa, Z1, p.2, q.1, q.2, W1, e2, fun u Z2 H2 g2 W2 q2 => ?_⟩⟩
      generalize p.1 = d at q1 e
      generalize q.1 = d2 at q2 e
      have q3 := Dp.mono g2.zz _ _ q1
      cases q3 <;> (try (cases e; done))
      cases q2 <;> (try (cases e; done))
      rename_i b us ds hs da b2 us2 ds2 hs2 da2
      have e' : (if ds.length + ds2.length ≤ sizeLine then some (R.fresh (ds ++ ds2), q.2) else none) = some (r, env') := e
      by_cases h : ds.length + ds2.length ≤ sizeLine
      · rw [if_pos h] at e'; cases e'
        have l1 := da_length da
        have l2 := da_length da2
        refine ⟨b, b2, us, us2, rfl, rfl, W2.zh.seq hs, W2.zh.seq hs2, by omega, fun p hp => ?_⟩
        obtain ⟨W4, rk⟩ := W2.newL hp (da_append da da2)
        exact k _ Z2 _ (g1.trans g2) W4 rk
      · rw [if_neg h] at e'; cases e'
/-! ### items, slices -/
def gItem : D → D → Option D
  | .list ds, .int i => atI ds i
  | .tuple ds, .int i => atI ds i
  | .str z, .int i => if z.length ≤ sizeLine then (atI z.cps.toList i).map fun c => .str ⟨#[c]⟩ else none
  | _, _ => none
theorem atI_da {K : PySem.W.Frag} {Z : Hp} {vs : List V} {ds : List D} {i : Int} {d : D} (h : DpAll K Z vs ds) (e : atI ds i = some d) : ∃ v, atI vs i = some v ∧ Dp K Z v d := by
  unfold atI at e ⊢
  rw [da_length h]
  cases q : ixN ds.length i with
  | none => rw [q] at e; cases e
  | some j => rw [q, Option.bind_some] at e; exact da_get h e
theorem imp_item {K : PySem.W.Frag} : Imp2 K (rIx K) gItem := by
  intro Z H x y d e z Q zh q1 q2 hz k
  cases q2 <;> (try (cases q1 <;> (cases hz; done)))
  rename_i i
  cases q1 <;> (try (cases hz; done))
  · rename_i s
    have hz' : (if s.length ≤ sizeLine then (atI s.cps.toList i).map fun c => PyData.str ⟨#[c]⟩ else none) = some z := hz
    by_cases hl : s.length ≤ sizeLine
    · rw [if_pos hl] at hz'
      cases ea : atI s.cps.toList i with
      | none => rw [ea] at hz'; cases hz'
      | some c =>
        rw [ea] at hz'; cases hz'
        exact .inr (.inr ⟨s, i, c, rfl, rfl, hl, ea, k _ Z H (.refl zh) (.str _)⟩)
    · rw [if_neg hl] at hz'; cases hz'
  · rename_i a us ds hs ha
    obtain ⟨v, ev, dv⟩ := atI_da ha (show atI ds i = some z from hz)
    exact .inl ⟨a, us, i, v, rfl, rfl, zh.seq hs, ev, k v Z H (.refl zh) dv⟩
  · rename_i a us ds hs ha
    obtain ⟨v, ev, dv⟩ := atI_da ha (show atI ds i = some z from hz)
    exact .inr (.inl ⟨a, us, i, v, rfl, rfl, Same.sqT zh hs, ev, k v Z H (.refl zh) dv⟩)
theorem s_item {a b : Expr} {fa fb : Fx D} (ha : PE X a (tE X.K fa)) (hb : PE X b (tE X.K fb)) (hs : PlainIx b) : PE X (.Subscript a b pos) (tE X.K (eOp gItem fa fb)) :=
  PE.imp (pe_ix ix_seq ha hb hs) fun σ H Q h => tOp_of imp_item h
/-- x[e], x a slot's own list or any datum -/
def ownItem (i : Nat) : Option (D × En) → Option (D × En)
  | some (.int k, e) => (match e[i]? with
    | some (.own ds) => (atI ds k).map fun z => (z, e)
    | some (.par ds) => (atI ds k).map fun z => (z, e)
    | _ => none)
  | _ => none
def eItemN (i : Nat) (f : Fx D) : Fx D := fun env => match env[i]? with
  | some (.val d) => (f env).bind fun p => (gItem d p.1).map fun z => (z, p.2)
  | some (.own _) => ownItem i (f env)
  | some (.par _) => ownItem i (f env)
  | _ => none
theorem own_item {i : Nat} {fb : Fx D} {σ : L2.St} {H : Hp} {Q : VK} {F : Hp} {pa : Nat → Option Addr} {Z : Hp} {env env' : En} {d : D} {s : Sl} (W : Wst X.K F Z H pa σ env) (e0 : env[i]? = some s) (ow : isOwn s = true) (e : ownItem i (fb env) = some (d, env'))
    (k : ∀ (v : V) (Z' H' : Hp), Gr F Z Z' → Wst X.K F Z' H' pa σ env' → Dp X.K Z' v d → Q v H') : tOp (rIx X.K) (tVar i) (tE X.K fb) σ H Q := by
  obtain ⟨a, us0, ds0, ea, _⟩ := W.own_ref e0 ow
  unfold ownItem at e
  split at e
  · rename_i n env1 e1
    have fin : ∀ (s' : Sl) (ds : List D), env1[i]? = some s' → (s' = .own ds ∨ s' = .par ds) → (atI ds n).map (fun z => (z, env1)) = some (d, env') → tOp (rIx X.K) (tVar i) (tE X.K fb) σ H Q := fun s' ds es hs e => by
      cases e2 : atI ds n with
      | none => rw [e2] at e; cases e
      | some z =>
        rw [e2] at e
        cases e
        refine ⟨_, ea, F, pa, Z, env, _, _, W, e1, fun y Z1 H1 g1 W1 q1 => ?_⟩
        cases q1
        have so := W1.sl i _ _ ea es
        have : ∃ us, H1 a = some (.lst us) ∧ DpAll X.K Z1 us ds := by
          rcases hs with rfl | rfl
          · cases so with
            | own h1 _ _ h4 => exact ⟨_, h1, h4⟩
          · cases so with
            | par _ h1 _ _ h4 => exact ⟨_, h1, h4⟩
        obtain ⟨us, hH, da⟩ := this
        obtain ⟨v, ev, dv⟩ := atI_da da e2
        exact .inl ⟨a, us, n, v, rfl, rfl, SqL.of hH, ev, k v Z1 H1 g1 W1 dv⟩
    split at e
    · rename_i ds es; exact fin _ ds es (.inl rfl) e
    · rename_i ds es; exact fin _ ds es (.inr rfl) e
    · cases e
  · cases e
theorem s_itemN {i : Nat} {x : Str} {np : Pos} {b : Expr} {fb : Fx D} (ho : PE X (.Name x np) (tVar i)) (hb : PE X b (tE X.K fb)) (hs : PlainIx b) : PE X (.Subscript (.Name x np) b pos) (tE X.K (eItemN i fb)) := by
  refine PE.imp (pe_ix ix_seq ho hb hs) fun σ H Q ⟨F, pa, Z, env, d, env', W, e, k⟩ => ?_
  unfold eItemN at e
  split at e
  · rename_i d0 e0
    obtain ⟨o, eo, so⟩ := W.get e0
    cases so with
    | @val v _ dp =>
      cases e1 : fb env with
      | none => rw [e1] at e; cases e
      | some p =>
        rw [e1, Option.bind_some] at e
        cases e2 : gItem d0 p.1 with
        | none => rw [e2] at e; cases e
        | some z =>
          rw [e2] at e
          cases e
          refine ⟨v, eo, F, pa, Z, env, p.1, p.2, W, e1, fun y Z1 H1 g1 W1 q1 => ?_⟩
          exact imp_item Z1 H1 v y d0 p.1 d Q W1.zh (Dp.mono g1.zz _ _ dp) q1 e2 fun v Z2 H2 a q => k v Z2 H2 (g1.trans (a.gr W1.fh)) (W1.alc a) q
  · rename_i ds e0; exact own_item W e0 rfl e k
  · rename_i ds e0; exact own_item W e0 rfl e k
  · cases e
def eLenN (i : Nat) : Fx D := fun env => match env[i]? with
  | some (.val (.list ds)) => some (.int ds.length, env)
  | some (.val (.tuple ds)) => some (.int ds.length, env)
  | some (.val (.str z)) => if z.length ≤ sizeLine then some (.int z.length, env) else none
  | some (.own ds) => some (.int ds.length, env)
  | some (.par ds) => some (.int ds.length, env)
  | _ => none
def gLen : List D → Option D
  | [.list ds] => some (.int ds.length)
  | [.tuple ds] => some (.int ds.length)
  | [.str z] => if z.length ≤ sizeLine then some (.int z.length) else none
  | _ => none
/-! ### slices -/
def cutD (xs : List D) (lo hi : Option Int) : List D := (xs.drop (HT.sIx xs.length 0 lo)).take (HT.sIx xs.length xs.length hi - HT.sIx xs.length 0 lo)
theorem cut_da {K : PySem.W.Frag} {Z : Hp} {vs : List V} {ds : List D} (h : DpAll K Z vs ds) (lo hi : Option Int) : DpAll K Z (cutV vs lo hi) (cutD ds lo hi) := by
  unfold cutV cutD
  rw [da_length h]
  exact da_take _ (da_drop _ h)
def ePart : Option (Fx D) → Fx (Option Int)
  | none => fun env => some (none, env)
  | some f => fun env => match f env with
    | some (.int i, e) => some (some i, e)
    | _ => none
def tPt (K : PySem.W.Frag) (f : Fx (Option Int)) : TO := fun σ H Q => ∃ F pa Z env o env', Wst K F Z H pa σ env ∧ f env = some (o, env') ∧ ∀ Z' H', Gr F Z Z' → Wst K F Z' H' pa σ env' → Q o H'
theorem PO.imp {e : Option Expr} {t t' : TO} (h : PO X e t) (m : ∀ σ H Q, t' σ H Q → t σ H Q) : PO X e t' := ⟨fun pins s σ H Q I q => h.run pins s σ H Q I (m σ H Q q)⟩
theorem s_ptN : PO X none (tPt X.K (ePart none)) := by
  refine PO.imp po_none fun σ H Q ⟨F, pa, Z, env, o, env', W, e, k⟩ => ?_
  cases e
  exact k Z H (.refl ..) W
theorem s_ptS {f : Fx D} (h : PE X e (tE X.K f)) : PO X (some e) (tPt X.K (ePart (some f))) := by
  refine PO.imp (po_some h) fun σ H Q ⟨F, pa, Z, env, o, env', W, e, k⟩ => ?_
  unfold ePart at e
  dsimp only at e
  split at e
  · rename_i i e1 h1
    cases e
    refine ⟨F, pa, Z, env, _, _, W, h1, fun v Z' H' g1 W1 q => ?_⟩
    cases q
    exact ⟨i, rfl, k Z' H' g1 W1⟩
  · cases e
def eSlice (f : Fx D) (lo hi : Fx (Option Int)) : Fx R := fun env => (f env).bind fun p => (lo p.2).bind fun q => (hi q.2).bind fun r => match p.1 with
  | .list ds => some (.fresh (cutD ds q.1 r.1), r.2)
  | .tuple ds => some (.val (.tuple (cutD ds q.1 r.1)), r.2)
  | _ => none
theorem cut_whole {K : PySem.W.Frag} {ds : List D} {lo hi : Option Int} (h : HT.sIx ds.length 0 lo = 0 ∧ HT.sIx ds.length ds.length hi = ds.length) : cutD ds lo hi = ds := by
  unfold cutD
  rw [h.1, h.2]
  simp
theorem s_slice {a : Expr} {lo hi : Option Expr} {fa : Fx D} {fl fh : Fx (Option Int)} {p2 : Pos} (ha : PE X a (tE X.K fa)) (hl : PO X lo (tPt X.K fl)) (hh : PO X hi (tPt X.K fh)) : PE X (.Subscript a (.Slice lo hi none p2) pos) (tR X.K (eSlice fa fl fh)) := by
  refine PE.imp (pe_slice (SlR.or sl_list sl_tupA) ha hl hh) fun σ H Q ⟨F, pa, Z, env, r, env', W, e, k⟩ => ?_
  unfold eSlice at e
  cases e1 : fa env with
  | none => rw [e1] at e; cases e
  | some p =>
    rw [e1, Option.bind_some] at e
    cases e2 : fl p.2 with
    | none => rw [e2] at e; cases e
    | some q =>
      rw [e2, Option.bind_some] at e
      cases e3 : fh q.2 with
      | none => rw [e3] at e; cases e
      | some t =>
        rw [e3, Option.bind_some] at e
        refine ⟨F, pa, Z, env, p.1, p.2, W, e1, fun v Z1 H1 g1 W1 q1 => ⟨F, pa, Z1, p.2, q.1, q.2, W1, e2, fun Z2 H2 g2 W2 => ⟨F, pa, Z2, q.2, t.1, t.2, W2, e3, fun Z3 H3 g3 W3 => ?_⟩⟩⟩
        generalize p.1 = d at q1 e
        have q3 := Dp.mono (g2.zz.trans g3.zz) _ _ q1
        have gg := (g1.trans g2).trans g3
        cases q3 with
        | @lst b us ds hs da =>
          cases e
          refine .inl ⟨b, us, rfl, W3.zh.seq hs, fun p hp => ?_⟩
          obtain ⟨W4, rk⟩ := W3.newL hp (cut_da da q.1 t.1)
          exact k _ Z3 _ gg W4 rk
        | @tup b us ds hs da =>
          cases e
          have hl := da_length da
          refine .inr ⟨b, us, rfl, Same.sqT W3.zh hs, fun hw => ?_, fun _ p hp => ?_⟩
          · rw [hl] at hw
            exact k _ Z3 H3 gg W3 (show Dp X.K Z3 (.ref b) (.tuple (cutD ds q.1 t.1)) by rw [cut_whole (K := X.K) hw]; exact .tup hs da)
          · have al := Alc.new (o := .tup (cutV us q.1 t.1)) W3.zh hp
            exact k _ _ _ (gg.trans (al.gr W3.fh)) (W3.alc al) (.tup (SqT.of upd_same) (DpAll.mono al.zz _ _ (cut_da da q.1 t.1)))
        | _ => cases e
end
end Ev
namespace Ev
open PySem PySem.Spec PyProof.Rows L2
/-! ## built-ins -/
def ImpA (K : PySem.W.Frag) (r : List V → Hp → VK → Prop) (g : List D → Option D) : Prop := ∀ (Z H : Hp) (vs : List V) (ds : List D) (z : D) (Q : VK), Same Z H → DpAll K Z vs ds → g ds = some z →
  (∀ v Z' H', Alc Z H Z' H' → Dp K Z' v z → Q v H') → r vs H Q
def CallD (X : Cx) (f : Value) (g : List D → Option D) : Prop := ∃ r, CallR X f r ∧ ImpA X.K r g
theorem CallD.or {X : Cx} {f : Value} {g g' h : List D → Option D} (a : CallD X f g) (b : CallD X f g') (e : ∀ x z, h x = some z → g x = some z ∨ g' x = some z) : CallD X f h :=
  let ⟨r, h1, h2⟩ := a; let ⟨r', h1', h2'⟩ := b
  ⟨_, h1.or h1', fun Z H vs ds z Q zh q hz k => (e _ _ hz).elim (fun q' => .inl (h2 Z H vs ds z Q zh q q' k)) fun q' => .inr (h2' Z H vs ds z Q zh q q' k)⟩
def eBlt (g : List D → Option D) (f : Fx (List D)) : Fx D := fun env => (f env).bind fun p => (g p.1).map fun z => (z, p.2)
theorem tCB_of {K : PySem.W.Frag} {r : List V → Hp → VK → Prop} {g : List D → Option D} {f : Fx (List D)} (hi : ImpA K r g) {σ : L2.St} {H : Hp} {Q : VK} (h : tE K (eBlt g f) σ H Q) : tCB r (tAd K f) σ H Q := by
  obtain ⟨F, pa, Z, env, z, env', W, e, k⟩ := h
  unfold eBlt at e
  cases e1 : f env with
  | none => rw [e1] at e; cases e
  | some p =>
    rw [e1, Option.bind_some] at e
    cases e2 : g p.1 with
    | none => rw [e2] at e; cases e
    | some w =>
      rw [e2] at e
      cases e
      exact ⟨F, pa, Z, env, p.1, p.2, W, e1, fun vs Z1 H1 g1 W1 q => hi Z1 H1 vs p.1 z Q W1.zh q e2 fun v Z2 H2 a q2 => k v Z2 H2 (g1.trans (a.gr W1.fh)) (W1.alc a) q2⟩
/-- ints -/
def intsOf : List D → Option (List Int)
  | [] => some []
  | .int i :: ds => (intsOf ds).map fun r => i :: r
  | _ => none
theorem intsOf_da {K : PySem.W.Frag} {Z : Hp} : ∀ {vs : List V} {ds : List D} {ns : List Int}, DpAll K Z vs ds → intsOf ds = some ns → vs = ns.map V.int
  | _, _, _, .nil, e => by cases e; rfl
  | _, _, ns, .cons (d := d) (ds := ds) h t, e => by
    cases d with
    | int i =>
      cases e1 : intsOf ds with
      | none => rw [intsOf, e1] at e; cases e
      | some r =>
        rw [intsOf, e1] at e; cases e
        cases h
        rw [List.map_cons, intsOf_da t e1]
    | _ => cases e
def boolsOf : List D → Option (List Bool)
  | [] => some []
  | .bool b :: ds => (boolsOf ds).map fun r => b :: r
  | _ => none
theorem boolsOf_da {K : PySem.W.Frag} {Z : Hp} : ∀ {vs : List V} {ds : List D} {bs : List Bool}, DpAll K Z vs ds → boolsOf ds = some bs → vs = bs.map V.bl
  | _, _, _, .nil, e => by cases e; rfl
  | _, _, ns, .cons (d := d) (ds := ds) h t, e => by
    cases d with
    | bool i =>
      cases e1 : boolsOf ds with
      | none => rw [boolsOf, e1] at e; cases e
      | some r =>
        rw [boolsOf, e1] at e; cases e
        cases h
        rw [List.map_cons, boolsOf_da t e1]
    | _ => cases e
section
variable {X : Cx} {e : Expr} {es : List Expr} {p pos : Pos} {x : Str}
theorem s_callB {id : String} {g : List D → Option D} {f : Fx (List D)} (hc : CallD X (.builtin id) g) (hg : Gl X x) (hm : X.mg x = none) (hv : bootBuiltins x = some (.builtin id)) (ha : PA X (e :: es) (tAd X.K f)) (hn : x ≠ "__name__") (hdb : (x == ("__debug__" : Str)) = false)
    (he : starEach (e :: es) X.env = (false, eval e X.env) :: starEach es X.env) (hpl : (backTo pos (starEach es X.env)).any (·.1) = false) : PE X (.Call (.Name x p) (e :: es) [] pos) (tE X.K (eBlt g f)) := by
  obtain ⟨r, h1, h2⟩ := hc
  exact PE.imp (pe_callB h1 hg hm hv ha hn hdb he hpl) fun σ H Q h => tCB_of h2 h
theorem s_callT {T : String} {g : List D → Option D} {f : Fx (List D)} (hc : CallD X (.type T) g) (hg : Gl X x) (hm : X.mg x = none) (hv : bootBuiltins x = some (.type T)) (ha : PA X (e :: es) (tAd X.K f)) (hn : x ≠ "__name__") (hdb : (x == ("__debug__" : Str)) = false)
    (he : starEach (e :: es) X.env = (false, eval e X.env) :: starEach es X.env) (hpl : (backTo pos (starEach es X.env)).any (·.1) = false) : PE X (.Call (.Name x p) (e :: es) [] pos) (tE X.K (eBlt g f)) := by
  obtain ⟨r, h1, h2⟩ := hc
  exact PE.imp (pe_callTy h1 hg hm hv ha hn hdb he hpl) fun σ H Q h => tCB_of h2 h
theorem s_callG {id : String} {g : List D → Option D} {f : Fx (List D)} (hc : CallD X (.builtin id) g) (hg : Gl X x) (hm : X.mg x = some (.builtin id)) (ha : PA X (e :: es) (tAd X.K f)) (hdb : (x == ("__debug__" : Str)) = false)
    (he : starEach (e :: es) X.env = (false, eval e X.env) :: starEach es X.env) (hpl : (backTo pos (starEach es X.env)).any (·.1) = false) : PE X (.Call (.Name x p) (e :: es) [] pos) (tE X.K (eBlt g f)) := by
  obtain ⟨r, h1, h2⟩ := hc
  exact PE.imp (pe_callBfun h1 hg hm ha hdb he hpl) fun σ H Q h => tCB_of h2 h
theorem c_len : CallD X (.builtin "len") gLen := ⟨_, call_len_seq.or call_len_str, by
  intro Z H vs ds z Q zh q hz k
  cases q with
  | nil => cases hz
  | @cons v vs d ds h1 h2 =>
    cases h2 with
    | cons => cases h1 <;> cases hz
    | nil =>
      cases h1 with
      | lst hs ha => cases hz; exact .inl ⟨_, _, rfl, .inl (zh.seq hs), by rw [da_length ha]; exact k _ Z H (.refl zh) (.int _)⟩
      | tup hs ha => cases hz; exact .inl ⟨_, _, rfl, .inr (Same.sqT zh hs), by rw [da_length ha]; exact k _ Z H (.refl zh) (.int _)⟩
      | str z =>
        have hz' : (if z.length ≤ sizeLine then some (PyData.int z.length) else none) = some _ := hz
        by_cases hl : z.length ≤ sizeLine
        · rw [if_pos hl] at hz'; cases hz'; exact .inr ⟨z, rfl, hl, k _ Z H (.refl zh) (.int _)⟩
        · rw [if_neg hl] at hz'; cases hz'
      | _ => cases hz⟩
theorem s_lenN {i : Nat} {y : Str} {np : Pos} (ho : PE X (.Name y np) (tVar i)) (hg : Gl X "len") (hm : X.mg "len" = none) (he : starEach [.Name y np] X.env = (false, eval (.Name y np) X.env) :: starEach [] X.env) : PE X (.Call (.Name "len" p) [.Name y np] [] pos) (tE X.K (eLenN i)) := by
  refine PE.imp (pe_callB (call_len_seq.or call_len_str) hg hm PySem.boot_len (pa_cons ho pa_nil he) (by decide) (by decide) he rfl) fun σ H Q ⟨F, pa, Z, env, d, env', W, e, k⟩ => ?_
  unfold eLenN at e
  split at e
  · rename_i ds e0
    cases e
    obtain ⟨o, eo, so⟩ := W.get e0
    cases so with
    | val dp => cases dp with
      | lst hs ha => exact ⟨_, eo, .inl ⟨_, _, rfl, .inl (W.zh.seq hs), by rw [da_length ha]; exact k _ Z H (.refl ..) W (.int _)⟩⟩
  · rename_i ds e0
    cases e
    obtain ⟨o, eo, so⟩ := W.get e0
    cases so with
    | val dp => cases dp with
      | tup hs ha => exact ⟨_, eo, .inl ⟨_, _, rfl, .inr (Same.sqT W.zh hs), by rw [da_length ha]; exact k _ Z H (.refl ..) W (.int _)⟩⟩
  · rename_i z e0
    by_cases hl : z.length ≤ sizeLine
    · rw [if_pos hl] at e
      cases e
      obtain ⟨o, eo, so⟩ := W.get e0
      cases so with
      | val dp => cases dp; exact ⟨_, eo, .inr ⟨z, rfl, hl, k _ Z H (.refl ..) W (.int _)⟩⟩
    · rw [if_neg hl] at e; cases e
  · rename_i ds e0
    cases e
    obtain ⟨o, eo, so⟩ := W.get e0
    cases so with
    | own h1 _ _ h4 => exact ⟨_, eo, .inl ⟨_, _, rfl, .inl (SqL.of h1), by rw [da_length h4]; exact k _ Z H (.refl ..) W (.int _)⟩⟩
  · rename_i ds e0
    cases e
    obtain ⟨o, eo, so⟩ := W.get e0
    cases so with
    | par _ h1 _ _ h4 => exact ⟨_, eo, .inl ⟨_, _, rfl, .inl (SqL.of h1), by rw [da_length h4]; exact k _ Z H (.refl ..) W (.int _)⟩⟩
  · cases e
/-! ### ints -/
def g1I (f : Int → D) : List D → Option D
  | [.int i] => some (f i)
  | _ => none
theorem one_int {K : PySem.W.Frag} {Z : Hp} {vs : List V} {ds : List D} {f : Int → D} {z : D} (q : DpAll K Z vs ds) (h : g1I f ds = some z) : ∃ i, vs = [.int i] ∧ z = f i := by
  unfold g1I at h
  split at h
  · rename_i i
    cases h
    cases q with
    | cons h1 h2 => cases h1; cases h2; exact ⟨i, rfl, rfl⟩
  · cases h
def g2I (c : Int → Int → Bool) (f : Int → Int → D) : List D → Option D
  | [.int i, .int j] => if c i j = true then some (f i j) else none
  | _ => none
theorem two_int {K : PySem.W.Frag} {Z : Hp} {vs : List V} {ds : List D} {c : Int → Int → Bool} {f : Int → Int → D} {z : D} (q : DpAll K Z vs ds) (h : g2I c f ds = some z) : ∃ i j, vs = [.int i, .int j] ∧ c i j = true ∧ z = f i j := by
  unfold g2I at h
  split at h
  · rename_i i j
    by_cases hc : c i j = true
    · rw [if_pos hc] at h
      cases h
      cases q with
      | cons h1 h2 =>
        cases h2 with
        | cons h3 h4 => cases h1; cases h3; cases h4; exact ⟨i, j, rfl, hc, rfl⟩
    · rw [if_neg hc] at h; cases h
  · cases h
def gAbs : List D → Option D := g1I fun i => .int (if i < 0 then -i else i)
theorem c_abs : CallD X (.builtin "abs") gAbs := ⟨_, call_abs, by
  intro Z H vs ds z Q zh q hz k
  obtain ⟨i, rfl, rfl⟩ := one_int q hz
  exact ⟨i, rfl, k _ Z H (.refl zh) (.int _)⟩⟩
def gInt : List D → Option D := g1I fun i => .int i
theorem c_int : CallD X (.type "int") gInt := ⟨_, call_int1, by
  intro Z H vs ds z Q zh q hz k
  obtain ⟨i, rfl, rfl⟩ := one_int q hz
  exact .inl ⟨i, rfl, k _ Z H (.refl zh) (.int _)⟩⟩
def gMin2 : List D → Option D := g2I (fun _ _ => true) fun i j => .int (if j < i then j else i)
theorem c_min2 (hc : X.calm = true) : CallD X (.builtin "min") gMin2 := ⟨_, call_min2 hc, by
  intro Z H vs ds z Q zh q hz k
  obtain ⟨i, j, rfl, _, rfl⟩ := two_int q hz
  exact ⟨i, j, rfl, k _ Z H (.refl zh) (.int _)⟩⟩
def gMax2 : List D → Option D := g2I (fun _ _ => true) fun i j => .int (if j > i then j else i)
theorem c_max2 (hc : X.calm = true) : CallD X (.builtin "max") gMax2 := ⟨_, call_max2 hc, by
  intro Z H vs ds z Q zh q hz k
  obtain ⟨i, j, rfl, _, rfl⟩ := two_int q hz
  exact ⟨i, j, rfl, k _ Z H (.refl zh) (.int _)⟩⟩
def minL : List Int → Option Int
  | [] => none
  | n :: ns => some (ns.foldl min n)
def maxL : List Int → Option Int
  | [] => none
  | n :: ns => some (ns.foldl max n)
theorem foldl_min_le : ∀ (ns : List Int) (n : Int), ns.foldl min n ≤ n ∧ (∀ y ∈ ns, ns.foldl min n ≤ y) ∧ (ns.foldl min n = n ∨ ns.foldl min n ∈ ns)
  | [], n => ⟨Int.le_refl _, fun _ h => (by cases h), .inl rfl⟩
  | m :: ns, n => by
    obtain ⟨h1, h2, h3⟩ := foldl_min_le ns (min n m)
    rw [List.foldl_cons]
    refine ⟨by omega, fun y hy => ?_, ?_⟩
    · rcases List.mem_cons.mp hy with rfl | hy
      · omega
      · exact h2 y hy
    · rcases h3 with h | h
      · rw [h]
        by_cases q : n ≤ m
        · exact .inl (by omega)
        · exact .inr (by rw [show min n m = m by omega]; exact List.mem_cons_self ..)
      · exact .inr (List.mem_cons_of_mem _ h)
theorem foldl_max_le : ∀ (ns : List Int) (n : Int), n ≤ ns.foldl max n ∧ (∀ y ∈ ns, y ≤ ns.foldl max n) ∧ (ns.foldl max n = n ∨ ns.foldl max n ∈ ns)
  | [], n => ⟨Int.le_refl _, fun _ h => (by cases h), .inl rfl⟩
  | m :: ns, n => by
    obtain ⟨h1, h2, h3⟩ := foldl_max_le ns (max n m)
    rw [List.foldl_cons]
    refine ⟨by omega, fun y hy => ?_, ?_⟩
    · rcases List.mem_cons.mp hy with rfl | hy
      · omega
      · exact h2 y hy
    · rcases h3 with h | h
      · rw [h]
        by_cases q : m ≤ n
        · exact .inl (by omega)
        · exact .inr (by rw [show max n m = m by omega]; exact List.mem_cons_self ..)
      · exact .inr (List.mem_cons_of_mem _ h)
theorem minL_eq {ns : List Int} {m : Int} (h1 : m ∈ ns) (h2 : ∀ y ∈ ns, m ≤ y) : minL ns = some m := by
  cases ns with
  | nil => cases h1
  | cons n ns =>
    obtain ⟨a, b, c⟩ := foldl_min_le ns n
    have : ns.foldl min n = m := by
      have q1 : ns.foldl min n ≤ m := (List.mem_cons.mp h1).elim (fun e => by rw [e]; exact a) (b m)
      have q2 : m ≤ ns.foldl min n := c.elim (fun e => by rw [e]; exact h2 n (List.mem_cons_self ..)) fun e => h2 _ (List.mem_cons_of_mem _ e)
      omega
    rw [minL, this]
theorem maxL_eq {ns : List Int} {m : Int} (h1 : m ∈ ns) (h2 : ∀ y ∈ ns, y ≤ m) : maxL ns = some m := by
  cases ns with
  | nil => cases h1
  | cons n ns =>
    obtain ⟨a, b, c⟩ := foldl_max_le ns n
    have : ns.foldl max n = m := by
      have q1 : m ≤ ns.foldl max n := (List.mem_cons.mp h1).elim (fun e => by rw [e]; exact a) (b m)
      have q2 : ns.foldl max n ≤ m := c.elim (fun e => by rw [e]; exact h2 n (List.mem_cons_self ..)) fun e => h2 _ (List.mem_cons_of_mem _ e)
      omega
    rw [maxL, this]
def gL1 (f : List Int → Option D) : List D → Option D
  | [.list ds] => (intsOf ds).bind f
  | _ => none
theorem one_ints {K : PySem.W.Frag} {Z : Hp} {vs : List V} {ds : List D} {f : List Int → Option D} {z : D} (q : DpAll K Z vs ds) (h : gL1 f ds = some z) : ∃ a ns, vs = [.ref a] ∧ SqL K Z a (ns.map V.int) ∧ f ns = some z := by
  unfold gL1 at h
  split at h
  · rename_i ds
    cases e : intsOf ds with
    | none => rw [e] at h; cases h
    | some ns =>
      rw [e, Option.bind_some] at h
      cases q with
      | cons h1 h2 =>
        cases h2
        cases h1 with
        | @lst a us _ hs ha => exact ⟨a, ns, rfl, by rw [← intsOf_da ha e]; exact hs, h⟩
  · cases h
def gMinL : List D → Option D := gL1 fun ns => (minL ns).map fun n => .int n
theorem c_minL (hc : X.calm = true) : CallD X (.builtin "min") gMinL := ⟨_, cr_min hc, by
  intro Z H vs ds z Q zh q hz k
  obtain ⟨a, ns, rfl, hs, hf⟩ := one_ints q hz
  cases e : minL ns with
  | none => rw [e] at hf; cases hf
  | some n =>
    rw [e] at hf; cases hf
    refine ⟨a, ns, rfl, zh.seq hs, ?_, fun m h1 h2 => ?_⟩
    · cases ns with
      | nil => cases e
      | cons => simp
    · rw [minL_eq h1 h2] at e; cases e
      exact k _ Z H (.refl zh) (.int _)⟩
def gMaxL : List D → Option D := gL1 fun ns => (maxL ns).map fun n => .int n
theorem c_maxL (hc : X.calm = true) : CallD X (.builtin "max") gMaxL := ⟨_, cr_max hc, by
  intro Z H vs ds z Q zh q hz k
  obtain ⟨a, ns, rfl, hs, hf⟩ := one_ints q hz
  cases e : maxL ns with
  | none => rw [e] at hf; cases hf
  | some n =>
    rw [e] at hf; cases hf
    refine ⟨a, ns, rfl, zh.seq hs, ?_, fun m h1 h2 => ?_⟩
    · cases ns with
      | nil => cases e
      | cons => simp
    · rw [maxL_eq h1 h2] at e; cases e
      exact k _ Z H (.refl zh) (.int _)⟩
def gMin : List D → Option D
  | [a] => gMinL [a]
  | ds => gMin2 ds
def gMax : List D → Option D
  | [a] => gMaxL [a]
  | ds => gMax2 ds
theorem c_min (hc : X.calm = true) : CallD X (.builtin "min") gMin := (c_minL hc).or (c_min2 hc) fun x z h => by
  unfold gMin at h
  split at h
  · exact .inl h
  · exact .inr h
theorem c_max (hc : X.calm = true) : CallD X (.builtin "max") gMax := (c_maxL hc).or (c_max2 hc) fun x z h => by
  unfold gMax at h
  split at h
  · exact .inl h
  · exact .inr h
def gSum : List D → Option D := gL1 fun ns => some (.int ns.sum)
theorem c_sum (hc : X.calm = true) : CallD X (.builtin "sum") gSum := ⟨_, cr_sum hc, by
  intro Z H vs ds z Q zh q hz k
  obtain ⟨a, ns, rfl, hs, hf⟩ := one_ints q hz
  cases hf
  exact ⟨a, ns, rfl, zh.seq hs, k _ Z H (.refl zh) (.int _)⟩⟩
def gB1 (f : List Bool → D) : List D → Option D
  | [.list ds] => (boolsOf ds).map f
  | _ => none
theorem one_bools {K : PySem.W.Frag} {Z : Hp} {vs : List V} {ds : List D} {f : List Bool → D} {z : D} (q : DpAll K Z vs ds) (h : gB1 f ds = some z) : ∃ a bs, vs = [.ref a] ∧ SqL K Z a (bs.map V.bl) ∧ z = f bs := by
  unfold gB1 at h
  split at h
  · rename_i ds
    cases e : boolsOf ds with
    | none => rw [e] at h; cases h
    | some bs =>
      rw [e] at h; cases h
      cases q with
      | cons h1 h2 =>
        cases h2
        cases h1 with
        | @lst a us _ hs ha => exact ⟨a, bs, rfl, by rw [← boolsOf_da ha e]; exact hs, rfl⟩
  · cases h
def gAll : List D → Option D := gB1 fun bs => .bool (bs.all id)
def gAny : List D → Option D := gB1 fun bs => .bool (bs.any id)
theorem c_all (hc : X.calm = true) : CallD X (.builtin "all") gAll := ⟨_, cr_all hc, by
  intro Z H vs ds z Q zh q hz k
  obtain ⟨a, bs, rfl, hs, rfl⟩ := one_bools q hz
  exact ⟨a, bs, rfl, zh.seq hs, k _ Z H (.refl zh) (.bl _)⟩⟩
theorem c_any (hc : X.calm = true) : CallD X (.builtin "any") gAny := ⟨_, cr_any hc, by
  intro Z H vs ds z Q zh q hz k
  obtain ⟨a, bs, rfl, hs, rfl⟩ := one_bools q hz
  exact ⟨a, bs, rfl, zh.seq hs, k _ Z H (.refl zh) (.bl _)⟩⟩
def gDivmod : List D → Option D := g2I (fun _ j => decide (0 < j) && decide (j.natAbs.log2 < 9000)) fun i j => .tuple [.int (i / j), .int (i % j)]
theorem c_divmod : CallD X (.builtin "divmod") gDivmod := ⟨_, call_divmodW, by
  intro Z H vs ds z Q zh q hz k
  obtain ⟨i, j, rfl, hc, rfl⟩ := two_int q hz
  simp only [Bool.and_eq_true, decide_eq_true_eq] at hc
  refine ⟨i, j, rfl, ⟨hc.1, PyProof.noPylong_of_log2 hc.2⟩, fun p hp => ?_⟩
  have al := Alc.new (o := .tup [.int (i / j), .int (i % j)]) zh hp
  exact k _ _ _ al (.tup (SqT.of upd_same) (.cons (.int _) (.cons (.int _) .nil)))⟩
def gTuple : List D → Option D
  | [.list ds] => some (.tuple ds)
  | [.tuple ds] => some (.tuple ds)
  | _ => none
theorem c_tuple : CallD X (.type "tuple") gTuple := ⟨_, call_tuple_of, by
  intro Z H vs ds z Q zh q hz k
  unfold gTuple at hz
  split at hz
  · cases hz
    cases q with
    | cons h1 h2 =>
      cases h2
      cases h1 with
      | @lst a us _ hs ha =>
        refine ⟨a, us, rfl, .inl ⟨zh.seq hs, fun l hl => ?_⟩⟩
        have al := Alc.new (o := .tup us) zh hl
        exact k _ _ _ al (.tup (SqT.of upd_same) (DpAll.mono al.zz _ _ ha))
  · cases hz
    cases q with
    | cons h1 h2 =>
      cases h2
      cases h1 with
      | @tup a us _ hs ha => exact ⟨a, us, rfl, .inr ⟨Same.sqT zh hs, k _ Z H (.refl zh) (.tup hs ha)⟩⟩
  · cases hz⟩
def gGcd2 : List D → Option D := g2I (fun _ _ => true) fun i j => .int (Nat.gcd i.natAbs j.natAbs)
theorem c_gcd2 : CallD X (.builtin "math.gcd") gGcd2 := ⟨_, cr_gcd, by
  intro Z H vs ds z Q zh q hz k
  obtain ⟨i, j, rfl, _, rfl⟩ := two_int q hz
  exact ⟨i, j, rfl, k _ Z H (.refl zh) (.int _)⟩⟩
theorem args_gcd3 (a b c : Value) : argsOk "math.gcd" ⟨[a, b, c], []⟩ := by unfold argsOk; kernel_rfl
theorem run_gcd3 (a : Int) (t : Tok) (b : Int) (u : Tok) (c : Int) (v : Tok) :
    Gives (Builtin.«math.gcd» ⟨[.int a t, .int b u, .int c v], []⟩) (.int (((((Nat.gcd 0 a.natAbs).gcd b.natAbs).gcd c.natAbs : Nat) : Int))) :=
  .of_wp fun M A E s Q h => by obtain ⟨hp, g, d, tk, os⟩ := s; wp_walk; exact ⟨_, rfl, h⟩
def gcd3 (a b c : Int) : Nat := (a.natAbs.gcd b.natAbs).gcd c.natAbs
theorem cr_gcd3 : CallR X (.builtin "math.gcd") (fun vs H Q => ∃ a b c : Int, vs = [.int a, .int b, .int c] ∧ Q (.int ((gcd3 a b c : Nat) : Int)) H) := by
  intro pins s σ H vs us Q I r h
  obtain ⟨a, b, c, rfl, q⟩ := h
  cases r with
  | cons r1 rr =>
    cases rr with
    | cons r2 rr =>
      cases rr with
      | cons r3 rr =>
        cases rr
        obtain ⟨t, rfl⟩ := r1
        obtain ⟨u, rfl⟩ := r2
        obtain ⟨v, rfl⟩ := r3
        have g := run_gcd3 a t b u c v
        rw [Nat.gcd_zero_left] at g
        exact PySem.call_function_meets PySem.W.MGF.kind_gcd PySem.W.MGF.plain_gcd PySem.W.MGF.entry_gcd (args_gcd3 _ _ _) g.meets ⟨.int _, H, I.tok _, ⟨_, rfl⟩, q⟩
def gGcd3 : List D → Option D
  | [.int a, .int b, .int c] => some (.int (gcd3 a b c : Nat))
  | _ => none
theorem c_gcd3 : CallD X (.builtin "math.gcd") gGcd3 := ⟨_, cr_gcd3, by
  intro Z H vs ds z Q zh q hz k
  unfold gGcd3 at hz
  split at hz
  · cases hz
    cases q with
    | cons h1 h2 =>
      cases h2 with
      | cons h3 h4 =>
        cases h4 with
        | cons h5 h6 =>
          cases h6; cases h1; cases h3; cases h5
          exact ⟨_, _, _, rfl, k _ Z H (.refl zh) (.int _)⟩
  · cases hz⟩
def gGcd : List D → Option D
  | [.int a, .int b, .int c] => some (.int (gcd3 a b c : Nat))
  | ds => gGcd2 ds
theorem c_gcd : CallD X (.builtin "math.gcd") gGcd := c_gcd3.or c_gcd2 fun x z h => by
  unfold gGcd at h
  split at h
  · exact .inl h
  · exact .inr h
end
end Ev
namespace Ev
open PySem PySem.Spec PyProof.Rows L2
/-! ## ranges of great numbers -/
theorem turn_long {P : Program} {w : World} {K : PySem.W.Frag} {tg : Expr} (q : Addr) (lo : Int) (n : Nat) :
    Turn P w K tg (Itr lo n) [q] q (fun i h => IsLongIter h q (lo + (i : Nat) * 1) ((n : Int) - (i : Nat)) 1) where
  mem := List.mem_singleton.mpr rfl
  obj := fun i h st b hb => by
    cases List.mem_singleton.mp hb
    refine ⟨_, st, fun v z => ?_⟩
    have z2 : Data.fields _ = Data.cell v := z
    cases z2
  keep := fun i h h2 st k => k q (List.mem_singleton.mpr rfl) _ st
  item := by
    intro X hP hw hK hc i pins s σ H E I hf st hg
    subst hP hw hK
    obtain ⟨a0, a1, a2, a3, a4, a5⟩ := hf q (List.mem_singleton.mpr rfl)
    have wk := Walks.longrange (prog := X.prog) (w := X.w) (I.ok.hd hc) q lo 1 n
    refine wk.item i s _ _ hg st fun v h2 tk hv st2 kk => ?_
    obtain ⟨t, rfl⟩ := hv
    have I2 : Inv X pins σ H { s with heap := h2, toks := tk } := I.turned (fun b o hb e => kk b o (by simpa using hb) e) a0 a1 a3 a4 a5
    exact ⟨_, rfl, go_of (s := { s with heap := h2, toks := tk }) (n := "longrange_iterator") st2 rfl rfl (by decide) ⟨.int (lo + i), H, I2, ⟨t, by rw [Int.mul_one]⟩, ⟨rfl, rfl⟩, st2, fun b hb => (hf b hb).1⟩⟩
  done := by
    intro X hP hw hK hc i pins s σ H E I hf st hg
    subst hP hw hK
    obtain ⟨a0, a1, a2, a3, a4, a5⟩ := hf q (List.mem_singleton.mpr rfl)
    have hn : n ≤ i := hg
    exact wpAny_pyNext_long_end (I.ok.hd hc) st (by omega) fun h2 eb => ⟨rfl, I.turned (t' := s.toks) (fun b o hb e => eb b o hb e) a0 a1 a3 a4 a5⟩
  self := fun _ _ _ _ _ st h => wpAny_pyIter_longiter st h
def iRg (tr : L2.St → Hp → (Int → Int → Hp → Prop) → Prop) : TI := fun σ H R => tr σ H fun a b H1 => R (Itr a (b - a).toNat) H1
theorem pi_rg {X : Cx} {tg e : Expr} {tr : L2.St → Hp → (Int → Int → Hp → Prop) → Prop} (he : PRg X e tr) : PI X tg e (iRg tr) := by
  refine ⟨fun pins s σ H R I h => ?_⟩
  refine thn (he pins s σ H _ I h) fun u s1 hx => ?_
  obtain ⟨r, a, b, t, w1, v, H1, eu, hr, I1, q⟩ := hx
  subst eu
  have hn : Builtin.Range.rangeSize a b 1 = (((b - a).toNat : Nat) : Int) := rangeSize_nat a b
  cases hs : Builtin.Range.small a b 1 with
  | true =>
    refine wpAny_pyIter_range hr hs ?_
    refine pi_one (tk := s1.toks) I1 _ (turn_range _ a (b - a).toNat) ?_ q
    rw [hn]
    show IsRangeIter _ _ (a + ((0 : Nat) : Int) * 1) ((((b - a).toNat : Nat) : Int) - ((0 : Nat) : Int)) 1
    rw [show a + ((0 : Nat) : Int) * 1 = a by omega, show (((b - a).toNat : Nat) : Int) - ((0 : Nat) : Int) = (((b - a).toNat : Nat) : Int) by omega]
    exact Heap.get?_push_size _ rfl
  | false =>
    refine wpAny_pyIter_longrange hr hs ?_
    refine pi_one (tk := s1.toks) I1 _ (turn_long _ a (b - a).toNat) ?_ q
    rw [hn]
    show IsLongIter _ _ (a + ((0 : Nat) : Int) * 1) ((((b - a).toNat : Nat) : Int) - ((0 : Nat) : Int)) 1
    rw [show a + ((0 : Nat) : Int) * 1 = a by omega, show (((b - a).toNat : Nat) : Int) - ((0 : Nat) : Int) = (((b - a).toNat : Nat) : Int) by omega]
    exact Heap.get?_push_size _ rfl
end Ev
namespace PySem
section
variable {prog : Program} {w : World} {A : Around} {E : Value → Shared → Prop} {s : Shared}
/-- a list takes up a range of great numbers -/
theorem ev_extend_long {R : Result → Shared → Prop} {g : Addr} {x y z : Int} {t1 t2 t3 : Tok} {k : Nat} (hA : A.handled = none) (hg : IsRange s.heap g x y z t1 t2 t3) (hb : Builtin.Range.small x y z = false)
    (hk : Builtin.Range.rangeSize x y z = k) (hm : k ≤ 2 ^ 24) (L : Addr) (res : Value) (c0 : Nat) (hL : s.heap.get? L = some { cls := .type "list", data := .seq #[] c0 })
    (hR : ∀ h2 tk acc c2, (∀ b o, b ≠ L → s.heap.get? b = some o → h2.get? b = some o) → h2.get? L = some { cls := .type "list", dict := none, data := .seq acc c2, slots := #[] } → ItemsOf (fun i v => ∃ t, v = .int (x + i * z) t) acc k → R (.ok (.ret res)) { s with heap := h2, toks := tk }) :
    wpAny (model prog w) A.in1 (Builtin.List.listExtendWith (.ref L) (.ref g) res) (fun fin s2 => match fin with | .done f => R (.ok f) s2 | .again c => c.quiet = true ∧ codeAny (model prog w) A c R s2) (fun e s2 => R (.error e) s2) s := by
  have ne1 : L ≠ g := fun e => by rw [e, hg] at hL; simp at hL
  have lt1 : L < s.heap.objs.size := Heap.lt_size hL
  have ne2 : L ≠ s.heap.objs.size := Nat.ne_of_lt lt1
  have nm : L ∉ [s.heap.objs.size] := fun q => ne2 (List.mem_singleton.mp q)
  have wk := (Walks.longrange (prog := prog) (w := w) (A := A.in1) hA s.heap.objs.size x z k).toS
  have key : ∀ (h : Heap) (c1 tk : Nat), IsLongIter h s.heap.objs.size (x + ((0 : Nat) : Int) * z) ((k : Int) - ((0 : Nat) : Int)) z → (∀ b o, b ≠ L → s.heap.get? b = some o → h.get? b = some o) → h.get? L = some { cls := .type "list", data := .seq #[] c1 } →
      codeAny (model prog w) A (.builtin "list.extend.loop" ⟨[.ref L, .ref s.heap.objs.size, res], []⟩) R { s with heap := h, toks := tk } := by
    intro h c1 tk it kp h1
    refine codeAny_extend_loopS wk (by rw [sizeLine_eq]; omega) L nm res k 0 _ #[] c1 rfl (Nat.zero_le _) it h1 (ItemsOf.nil _) fun s2 acc c2 mv h3 ha => ?_
    rw [Moved.eq_with mv]
    refine hR s2.heap s2.toks acc c2 (fun b o nb e => mv.heap b o (fun q => ?_) (kp b o nb e)) h3 ha
    rcases List.mem_cons.mp q with q2 | q2
    · exact nb q2
    · exact absurd (Heap.lt_size e) (by rw [List.mem_singleton.mp q2]; exact Nat.lt_irrefl _)
  unfold Builtin.List.listExtendWith
  refine wpAny_bind (wpAny_typeOf (T := "range") ⟨_, hg, rfl⟩ ?_)
  have d1 : Builtin.List.listSameRef (.ref L) (.ref g) = false := by simp [Builtin.List.listSameRef, ne1]
  have d2 : (Value.type "range" == Value.type "list") = false ∧ (Value.type "range" == Value.type "tuple") = false := ⟨by decide, by decide⟩
  simp only [d1, d2.1, d2.2, Bool.or_false, Bool.false_eq_true, if_false]
  refine wpAny_bind (wpAny_pyIter_longrange hg hb ?_)
  refine wpAny_bind (wpAny_holding (wpAny_hint_range (n := k) (Heap.get?_push_of_some _ hg) hk hm ?_))
  have i1 : IsLongIter (s.heap.push { cls := .type "longrange_iterator", data := .fields #[rawInt x, rawInt (Builtin.Range.rangeSize x y z), rawInt z] }) s.heap.objs.size (x + ((0 : Nat) : Int) * z) ((k : Int) - ((0 : Nat) : Int)) z := by
    show IsLongIter _ _ _ _ _
    rw [hk]
    simpa using Heap.get?_push_size _ rfl
  have g1 := Heap.get?_push_of_some { cls := .type "longrange_iterator", data := .fields #[rawInt x, rawInt (Builtin.Range.rangeSize x y z), rawInt z] } hL
  refine wpAny_ite_split (fun _ => ?_) (fun _ => wpAny_pure ⟨plainId_quiet F.plain_extend_loop _, key _ c0 _ i1 (fun b o _ e => Heap.get?_push_of_some _ e) g1⟩)
  refine wpAny_bind (wpAny_rule (wpAny_bind ?_))
  show wpAny _ _ (updateSeq L (·.push .none) >>= fun _ => updateSeq L (·.pop)) _ _ _
  refine wpAny_bind (wpAny_updateSeq g1 rfl ?_)
  have g2 := Heap.get?_update_self (Obj.mapSeq (·.push Value.none)) g1 rfl
  refine wpAny_updateSeq (hz := by seq_fits) g2 rfl ?_
  have g3 := Heap.get?_update_self (Obj.mapSeq (·.pop)) g2 rfl
  refine wpAny_pure ⟨plainId_quiet F.plain_extend_loop _, key _ _ _ ?_ (fun b o nb e => ?_) g3⟩
  · exact (Heap.get?_update_other _ _ ne2).trans ((Heap.get?_update_other _ _ ne2).trans i1)
  · exact (Heap.get?_update_other _ _ (Ne.symm nb)).trans ((Heap.get?_update_other _ _ (Ne.symm nb)).trans (Heap.get?_push_of_some _ e))
theorem ev_init_long {R : Result → Shared → Prop} {g : Addr} {x y z : Int} {t1 t2 t3 : Tok} {k : Nat} (hA : A.handled = none) (hg : IsRange s.heap g x y z t1 t2 t3) (hb : Builtin.Range.small x y z = false)
    (hk : Builtin.Range.rangeSize x y z = k) (hm : k ≤ 2 ^ 24) (L : Addr) (hL : s.heap.get? L = some { cls := .type "list", data := .seq #[] })
    (hR : ∀ h2 tk acc c2, (∀ b o, b ≠ L → s.heap.get? b = some o → h2.get? b = some o) → h2.get? L = some { cls := .type "list", dict := none, data := .seq acc c2, slots := #[] } → ItemsOf (fun i v => ∃ t, v = .int (x + i * z) t) acc k → R (.ok (.ret .none)) { s with heap := h2, toks := tk }) :
    wpAny (model prog w) A.in1 (Builtin.«list.__init__» ⟨[.ref L, .ref g], []⟩) (fun fin s2 => match fin with | .done f => R (.ok f) s2 | .again c => c.quiet = true ∧ codeAny (model prog w) A c R s2) (fun e s2 => R (.error e) s2) s := by
  have ne1 : L ≠ g := fun e => by rw [e, hg] at hL; simp at hL
  show wpAny _ _ (do let was ← Builtin.List.listItems (.ref L); Builtin.List.listUpdate (.ref L) (fun _ => #[]); letGo was.toList.reverse; Builtin.List.listExtendWith (.ref L) (.ref g) .none) _ _ s
  refine wpAny_bind ?_
  unfold Builtin.List.listItems
  refine wpAny_bind (wpAny_seqItems hL rfl (wpAny_pure ?_))
  show wpAny _ _ (updateSeq L (fun _ => #[]) >>= fun _ => letGo (#[] : Array Value).toList.reverse >>= fun _ => Builtin.List.listExtendWith (.ref L) (.ref g) .none) _ _ s
  refine wpAny_bind (wpAny_updateSeq hL rfl ?_)
  have g2 := Heap.get?_update_self (Obj.mapSeq (fun _ => (#[] : Array Value))) hL rfl
  have oth : ∀ b o, b ≠ L → s.heap.get? b = some o → (s.heap.update L (Obj.mapSeq (fun _ => (#[] : Array Value)))).get? b = some o := fun b o nb e => (Heap.get?_update_other _ _ (Ne.symm nb)).trans e
  refine wpAny_bind (wpAny_letGo ?_)
  refine ev_extend_long hA (oth g _ (Ne.symm ne1) hg) hb hk hm L .none _ g2 fun h2 tk acc c2 kp h3 ha => ?_
  exact hR h2 tk acc c2 (fun b o nb e => kp b o nb (oth b o nb e)) h3 ha
end
section
variable {prog : Program} {w : World} {A : Around} {E : Value → Shared → Prop} {s : Shared}
theorem ev_list_long {Q : Value → Shared → Prop} {g : Addr} {x y z : Int} {t1 t2 t3 : Tok} {k : Nat} (hA : A.handled = none) (hg : IsRange s.heap g x y z t1 t2 t3) (hb : Builtin.Range.small x y z = false)
    (hk : Builtin.Range.rangeSize x y z = k) (hm : k ≤ 2 ^ 24)
    (hQ : ∀ h2 tk acc c2, (∀ b o, s.heap.get? b = some o → h2.get? b = some o) → h2.get? s.heap.objs.size = some { cls := .type "list", dict := none, data := .seq acc c2, slots := #[] } → ItemsOf (fun i v => ∃ t, v = .int (x + i * z) t) acc k → Q (.ref s.heap.objs.size) { s with heap := h2, toks := tk }) :
    wpAny (model prog w) A (call (.type "list") [.ref g]) Q E s := by
  refine callType_codes (Q₁ := fun obj s1 => obj = .ref s.heap.objs.size ∧ s1 = { s with heap := s.heap.push { cls := .type "list", data := .seq #[] } }) F.called_list (F.typeCall_list_1 _) F.entry_list_init (code_list_new _ ⟨rfl, rfl⟩) fun obj s1 h1 => ?_
  obtain ⟨rfl, rfl⟩ := h1
  have hL : (s.heap.push { cls := .type "list", data := .seq #[] }).get? s.heap.objs.size = some { cls := .type "list", data := .seq #[] } := Heap.get?_push_size _ rfl
  refine ⟨⟨_, hL, rfl⟩, F.args_list_init_2 _ _, ev_init_long (A := A.in1) hA (Heap.get?_push_of_some _ hg) hb hk hm _ hL fun h2 tk acc c2 kp h3 ha => ?_⟩
  exact ⟨rfl, hQ h2 tk acc c2 (fun b o e => kp b o (Nat.ne_of_lt (Heap.lt_size e)) (Heap.get?_push_of_some _ e)) h3 ha⟩
end
end PySem
namespace Ev
open PySem PySem.Spec PyProof.Rows L2
/-- a list of a range, of numbers of any size -/
def tLr (te : L2.St → Hp → (Int → Int → Hp → Prop) → Prop) : TE := fun σ H Q => te σ H fun a b H1 => (b - a).toNat ≤ 2 ^ 24 ∧ ∀ q, H1 q = none → Q (.ref q) (upd H1 q (.lst (rgV a b)))
theorem pe_lr {X : Cx} {e : Expr} {te : L2.St → Hp → (Int → Int → Hp → Prop) → Prop} {p pos : Pos} (hc : X.calm = true) (hg : Gl X "list") (hm : X.mg "list" = none) (he : PRg X e te) (na : starEach [e] X.env = (false, eval e X.env) :: starEach [] X.env) : PE X (.Call (.Name "list" p) [e] [] pos) (tLr te) := by
  refine ⟨fun pins s σ H Q I h => ?_⟩
  refine Call_ (ld_blt I hg hm boot_list (PyProof.Rows.callWith_type1 (args_cons (thn (he pins s σ H _ I h) fun x s1 hx => args_nil ?_) na) na))
  obtain ⟨r, a, b, t, u, v, H1, ex, hr, I1, ok, q⟩ := hx
  subst ex
  have fin : ∀ (h2 : Heap) (tk : Nat) (acc : Array Value) (c2 : Nat), (∀ b o, s1.heap.get? b = some o → h2.get? b = some o) → h2.get? s1.heap.objs.size = some { cls := .type "list", dict := none, data := .seq acc c2, slots := #[] } → ItemsOf (fun i v => ∃ t, v = .int (a + i * 1) t) acc (b - a).toNat →
      EP X pins σ Q (.ref s1.heap.objs.size) { s1 with heap := h2, toks := tk } := fun h2 tk acc c2 kp e2 hi => by
    refine ⟨.ref s1.heap.objs.size, upd H1 s1.heap.objs.size (.lst (rgV a b)), I1.laid kp (Nat.le_refl _) (show ObjOk X.prog X.w _ _ _ (.lst (rgV a b)) from ⟨?_, acc.toList, c2, vals_rg hi, ?_⟩), rfl, q _ (I1.hok.fresh (Nat.le_refl _))⟩
    · rw [rgV_length, sizeLine_eq]; omega
    · rw [Array.toArray_toList]; exact e2
  cases hs : Builtin.Range.small a b 1 with
  | true => exact call_list_range (n := (b - a).toNat) (I1.ok.hd hc) hr hs (rangeSize_nat a b) ok fin
  | false => exact ev_list_long (k := (b - a).toNat) (I1.ok.hd hc) hr hs (rangeSize_nat a b) ok fin
end Ev
namespace Ev
open PySem PySem.Spec PyProof.Rows L2
/-! ## isinstance -/
def tyOfD : D → String
  | .none => "NoneType"
  | .bool _ => "bool"
  | .int _ => "int"
  | .str _ => "str"
  | .list _ => "list"
  | .tuple _ => "tuple"
  | .dict _ => "dict"
def isiD (d : D) (T : String) : Option Bool := match T with
  | "int" => some (match d with | .int _ => true | .bool _ => true | _ => false)
  | "bool" => some (match d with | .bool _ => true | _ => false)
  | "tuple" => some (match d with | .tuple _ => true | _ => false)
  | "list" => some (match d with | .list _ => true | _ => false)
  | "str" => some (match d with | .str _ => true | _ => false)
  | "dict" => some (match d with | .dict _ => true | _ => false)
  | _ => none
theorem kit_tab : ∀ t ∈ ["NoneType", "bool", "int", "str", "list", "tuple"], ∀ T ∈ ["int", "bool", "tuple", "list", "str", "dict"], kitB t T = some (decide (t = T) || (decide (t = "bool") && decide (T = "int"))) := by decide +kernel
theorem isiD_kit {d : D} {T : String} {b : Bool} (hd : d.plain = true) (h : isiD d T = some b) : kitB (tyOfD d) T = some b := by
  have key : ∀ T ∈ ["int", "bool", "tuple", "list", "str", "dict"], isiD d T = some b → kitB (tyOfD d) T = some b := by
    intro T hT h
    have hm : tyOfD d ∈ ["NoneType", "bool", "int", "str", "list", "tuple"] := by cases d <;> first | (simp [tyOfD]; done) | (cases hd)
    rw [kit_tab _ hm T hT]
    simp only [List.mem_cons, List.mem_nil_iff, or_false, List.not_mem_nil] at hT
    rcases hT with rfl | rfl | rfl | rfl | rfl | rfl <;> (cases d <;> (cases h; first | rfl | (cases hd)))
  unfold isiD at h
  split at h <;> first | (cases h; done) | exact key _ (by simp) h
theorem tyX_of {K : PySem.W.Frag} {Z : Hp} {v : V} {d : D} (h : Dp K Z v d) : TyX K Z v (.type (tyOfD d)) := by
  cases h with
  | non => exact .base .non
  | bl b => exact .base (.bl b)
  | int i => exact .base (.int i)
  | str x => exact .base (.str x)
  | lst hs ha =>
    rcases hs with (h | ⟨o, h⟩) | ⟨o, its, n, h1, h2, _⟩
    · exact .base (.lst h)
    · exact .base (.frz h)
    · exact .kList h1 h2
  | tup hs ha =>
    rcases hs with (h | ⟨o, h⟩) | ⟨o, its, n, h1, h2, _⟩
    · exact .base (.tup h)
    · exact .fTuple h
    · exact .kTuple h1 h2
def eIsi (T : String) (f : Fx D) : Fx D := fun env => (f env).bind fun p => (isiD p.1 T).map fun b => (.bool b, p.2)
section
variable {X : Cx} {e a b c : Expr} {es : List Expr} {p pos : Pos} {x : Str}
theorem s_isi {T : String} {y : Str} {p2 : Pos} {f : Fx D} (h : PE X e (tE X.K f)) (hg : Gl X "isinstance") (hm : X.mg "isinstance" = none) (hg2 : Gl X y) (hm2 : X.mg y = none) (hv : bootBuiltins y = some (.type T)) (hn : y ≠ "__name__") (hdb : (y == ("__debug__" : Str)) = false)
    (he : starEach [e, .Name y p2] X.env = (false, eval e X.env) :: starEach [.Name y p2] X.env) : PE X (.Call (.Name "isinstance" p) [e, .Name y p2] [] pos) (tE X.K (eIsi T f)) := by
  refine PE.imp (pe_callB call_isi hg hm (by decide +kernel) (pa_cons h (pa_cons (pe_bltn (v := .ty T) hg2 hm2 hv rfl hn hdb) pa_nil rfl) he) (by decide) (by decide) he rfl) fun σ H Q ⟨F, pa, Z, env, d, env', W, e, k⟩ => ?_
  unfold eIsi at e
  cases e1 : f env with
  | none => rw [e1] at e; cases e
  | some q =>
    rw [e1, Option.bind_some] at e
    cases e2 : isiD q.1 T with
    | none => rw [e2] at e; cases e
    | some bb =>
      rw [e2] at e
      cases e
      exact ⟨F, pa, Z, env, q.1, q.2, W, e1, fun v Z1 H1 g1 W1 q1 => ⟨v, .ty T, _, _, bb, rfl, .ty T, tyX_of (Dp.mono W1.zh _ _ q1), kit_ty (isiD_kit (Dp.plain _ _ q1) e2), k _ Z1 H1 g1 W1 (.bl bb)⟩⟩
/-! ### list(x) -/
def eList (f : Fx D) : Fx R := fun env => (f env).bind fun p => (seqD p.1).map fun ds => (.fresh ds, p.2)
theorem s_list {f : Fx D} (h : PE X e (tE X.K f)) (hg : Gl X "list") (hm : X.mg "list" = none) (he : starEach [e] X.env = (false, eval e X.env) :: starEach [] X.env) : PE X (.Call (.Name "list" p) [e] [] pos) (tR X.K (eList f)) := by
  refine PE.imp (pe_callTy call_list_of hg hm (by decide +kernel) (pa_cons h pa_nil he) (by decide) (by decide) he rfl) fun σ H Q ⟨F, pa, Z, env, r, env', W, e, k⟩ => ?_
  unfold eList at e
  cases e1 : f env with
  | none => rw [e1] at e; cases e
  | some q =>
    rw [e1, Option.bind_some] at e
    cases e2 : seqD q.1 with
    | none => rw [e2] at e; cases e
    | some ds =>
      rw [e2] at e
      cases e
      refine ⟨F, pa, Z, env, q.1, q.2, W, e1, fun v Z1 H1 g1 W1 q1 => ?_⟩
      generalize q.1 = d at q1 e2
      cases q1 with
      | @lst a us ds' hs ha =>
        cases e2
        refine ⟨a, us, rfl, .inl (W1.zh.seq hs), fun l hl => ?_⟩
        obtain ⟨W2, rk⟩ := W1.newL hl ha
        exact k _ Z1 _ g1 W2 rk
      | @tup a us ds' hs ha =>
        cases e2
        refine ⟨a, us, rfl, .inr (Same.sqT W1.zh hs), fun l hl => ?_⟩
        obtain ⟨W2, rk⟩ := W1.newL hl ha
        exact k _ Z1 _ g1 W2 rk
      | _ => cases e2
theorem s_ifR {ft : Fx Bool} {fa fb : Fx R} (hc : PT X c (tT X.K ft)) (ha : PE X a (tR X.K fa)) (hb : PE X b (tR X.K fb)) : PE X (.IfExp c a b pos) (tR X.K (eIf ft fa fb)) := by
  refine PE.imp (pe_ifExp hc ha hb) fun σ H Q ⟨F, pa, Z, env, d, env', W, e, k⟩ => ?_
  unfold eIf at e
  split at e
  · rename_i e1 h1
    refine ⟨F, pa, Z, env, _, e1, W, h1, fun Z' H' g1 W' => ?_⟩
    exact iteT ⟨F, pa, Z', e1, d, env', W', e, fun v Z2 H2 g2 W2 q2 => k v Z2 H2 (g1.trans g2) W2 q2⟩
  · rename_i e1 h1
    refine ⟨F, pa, Z, env, _, e1, W, h1, fun Z' H' g1 W' => ?_⟩
    exact iteF ⟨F, pa, Z', e1, d, env', W', e, fun v Z2 H2 g2 W2 q2 => k v Z2 H2 (g1.trans g2) W2 q2⟩
  · cases e
/-! ### range -/
def in62 (i : Int) : Bool := decide (-(2 ^ 62) ≤ i) && decide (i < 2 ^ 62)
theorem in62_of {i : Int} (h : in62 i = true) : -(2 ^ 62) ≤ i ∧ i < 2 ^ 62 := by
  unfold in62 at h
  simpa only [Bool.and_eq_true, decide_eq_true_eq] using h
def rangeD (lo : Int) (n : Nat) : List D := (List.range n).map fun k => .int (lo + (k : Nat))
theorem range_it (K : PySem.W.Frag) (Z1 : Hp) (lo : Int) (n : Nat) : ItOk K Z1 (Itr lo n) (rangeD lo n) := by
  intro Z H _ zh i
  refine ⟨fun d hd => ?_, fun hi => (show n ≤ i by simpa [rangeD] using hi)⟩
  unfold rangeD at hd
  rw [List.getElem?_map] at hd
  cases e : (List.range n)[i]? with
  | none => rw [e] at hd; cases hd
  | some k =>
    rw [e] at hd; cases hd
    obtain ⟨hk, ek⟩ := List.getElem?_eq_some_iff.mp e
    rw [List.getElem_range] at ek
    subst ek
    refine ⟨show i < n by simpa using hk, fun x H2 ⟨e1, e2⟩ => ?_⟩
    subst e1 e2
    exact ⟨Z, .refl zh, .int _⟩
def iRange1 (f : Fx D) : Fx (List D) := fun env => match f env with
  | some (.int j, e) => some (rangeD 0 (j - 0).toNat, e)
  | _ => none
theorem s_range1 {tg : Expr} {f : Fx D} (h : PE X e (tE X.K f)) (hg : Gl X "range") (hm : X.mg "range" = none) (he : starEach [e] X.env = [(false, eval e X.env)]) : PI X tg (.Call (.Name "range" p) [e] [] pos) (tI X.K (iRange1 f)) := by
  refine PI.imp (pi_rg (prg_1 hg hm h he)) fun σ H R ⟨F, pa, Z, env, ds, env', W, e, k⟩ => ?_
  unfold iRange1 at e
  split at e
  · rename_i j env1 e1
    cases e
    refine ⟨F, pa, Z, env, _, _, W, e1, fun v Z1 H1 g1 W1 q1 => ?_⟩
    cases q1
    exact ⟨j, rfl, k _ Z1 H1 g1 W1 (range_it _ _ _ _)⟩
  · cases e
def iRange2 (f g : Fx D) : Fx (List D) := fun env => match f env with
  | some (.int i, e) => (match g e with
    | some (.int j, e2) => some (rangeD i (j - i).toNat, e2)
    | _ => none)
  | _ => none
theorem s_range2 {tg : Expr} {fa fb : Fx D} (h : PE X a (tE X.K fa)) (h2 : PE X b (tE X.K fb)) (hg : Gl X "range") (hm : X.mg "range" = none) (he : starEach [a, b] X.env = [(false, eval a X.env), (false, eval b X.env)]) (he2 : starEach [b] X.env = [(false, eval b X.env)]) :
    PI X tg (.Call (.Name "range" p) [a, b] [] pos) (tI X.K (iRange2 fa fb)) := by
  refine PI.imp (pi_rg (prg_2 hg hm h h2 (by rw [he, he2]) he2 (by rw [he2]; rfl))) fun σ H R ⟨F, pa, Z, env, ds, env', W, e, k⟩ => ?_
  unfold iRange2 at e
  split at e
  · rename_i i env1 e1
    split at e
    · rename_i j env2 e2
      cases e
      refine ⟨F, pa, Z, env, _, _, W, e1, fun v Z1 H1 g1 W1 q1 => ⟨F, pa, Z1, _, _, _, W1, e2, fun v2 Z2 H2 g2 W2 q2 => ?_⟩⟩
      cases q1
      cases q2
      exact ⟨i, j, rfl, rfl, k _ Z2 H2 (g1.trans g2) W2 (range_it _ _ _ _)⟩
    · cases e
  · cases e
/-! ### list(range(..)) -/
def rgB (a b : Int) : Bool := decide ((b - a).toNat ≤ 2 ^ 24)
theorem rgB_ok {a b : Int} (h : rgB a b = true) : (b - a).toNat ≤ 2 ^ 24 := of_decide_eq_true h
theorem rg_da {K : PySem.W.Frag} {Z : Hp} (a b : Int) : DpAll K Z (rgV a b) (rangeD a (b - a).toNat) := by
  unfold rgV rangeD
  generalize List.range (b - a).toNat = l
  induction l with
  | nil => exact .nil
  | cons x l ih => exact .cons (.int _) ih
def eRgL1 (f : Fx D) : Fx R := fun env => match f env with
  | some (.int j, e) => if rgB 0 j = true then some (.fresh (rangeD 0 (j - 0).toNat), e) else none
  | _ => none
def eRgL2 (f g : Fx D) : Fx R := fun env => match f env with
  | some (.int i, e) => (match g e with
    | some (.int j, e2) => if rgB i j = true then some (.fresh (rangeD i (j - i).toNat), e2) else none
    | _ => none)
  | _ => none
theorem s_listRg1 {b : Expr} {q : Pos} {p2 : Pos} {f : Fx D} (hc : X.calm = true) (h : PE X b (tE X.K f)) (hg : Gl X "list") (hm : X.mg "list" = none) (hg2 : Gl X "range") (hm2 : X.mg "range" = none) (hb : starEach [b] X.env = [(false, eval b X.env)]) :
    PE X (.Call (.Name "list" p) [.Call (.Name "range" p2) [b] [] q] [] pos) (tR X.K (eRgL1 f)) := by
  refine PE.imp (pe_lr hc hg hm (prg_1 hg2 hm2 h hb) rfl) fun σ H Q ⟨F, pa, Z, env, r, env', W, e, k⟩ => ?_
  unfold eRgL1 at e
  split at e
  · rename_i j env1 e1
    by_cases hj : rgB 0 j = true
    · rw [if_pos hj] at e
      cases e
      refine ⟨F, pa, Z, env, _, _, W, e1, fun v Z1 H1 g1 W1 q1 => ?_⟩
      cases q1
      refine ⟨j, rfl, rgB_ok hj, fun l hl => ?_⟩
      obtain ⟨W2, rk⟩ := W1.newL hl (rg_da 0 j)
      exact k _ Z1 _ g1 W2 rk
    · rw [if_neg hj] at e; cases e
  · cases e
theorem s_listRg2 {b c : Expr} {q : Pos} {p2 : Pos} {f g : Fx D} (hc : X.calm = true) (h : PE X b (tE X.K f)) (h2 : PE X c (tE X.K g)) (hg : Gl X "list") (hm : X.mg "list" = none) (hg2 : Gl X "range") (hm2 : X.mg "range" = none)
    (hb : starEach [b, c] X.env = (false, eval b X.env) :: starEach [c] X.env) (hb2 : starEach [c] X.env = [(false, eval c X.env)]) :
    PE X (.Call (.Name "list" p) [.Call (.Name "range" p2) [b, c] [] q] [] pos) (tR X.K (eRgL2 f g)) := by
  refine PE.imp (pe_lr hc hg hm (prg_2 hg2 hm2 h h2 hb hb2 (by rw [hb2]; rfl)) rfl) fun σ H Q ⟨F, pa, Z, env, r, env', W, e, k⟩ => ?_
  unfold eRgL2 at e
  split at e
  · rename_i i env1 e1
    split at e
    · rename_i j env2 e2
      by_cases hj : rgB i j = true
      · rw [if_pos hj] at e
        cases e
        refine ⟨F, pa, Z, env, _, _, W, e1, fun v Z1 H1 g1 W1 q1 => ⟨F, pa, Z1, _, _, _, W1, e2, fun v2 Z2 H2 g2 W2 q2 => ?_⟩⟩
        cases q1
        cases q2
        refine ⟨i, j, rfl, rfl, rgB_ok hj, fun l hl => ?_⟩
        obtain ⟨W3, rk⟩ := W2.newL hl (rg_da i j)
        exact k _ Z2 _ (g1.trans g2) W3 rk
      · rw [if_neg hj] at e; cases e
    · cases e
  · cases e
/-! ### zip -/
def zipD : List D → List D → List D
  | a :: as, b :: bs => .tuple [a, b] :: zipD as bs
  | _, _ => []
theorem zipD_get : ∀ {as bs : List D} {i : Nat} {d : D}, (zipD as bs)[i]? = some d → ∃ a b, as[i]? = some a ∧ bs[i]? = some b ∧ d = .tuple [a, b]
  | [], _, _, _, h => by simp [zipD] at h
  | _ :: _, [], _, _, h => by simp [zipD] at h
  | a :: as, b :: bs, 0, d, h => by simp [zipD] at h; exact ⟨a, b, rfl, rfl, h.symm⟩
  | a :: as, b :: bs, i + 1, d, h => by
    obtain ⟨a', b', h1, h2, h3⟩ := zipD_get (as := as) (bs := bs) (i := i) (d := d) (by simpa [zipD] using h)
    exact ⟨a', b', by simpa using h1, by simpa using h2, h3⟩
theorem zipD_len : ∀ (as bs : List D), (zipD as bs).length = min as.length bs.length
  | [], _ => by simp [zipD]
  | _ :: _, [] => by simp [zipD]
  | a :: as, b :: bs => by
    simp only [zipD, List.length_cons, zipD_len as bs]
    omega
def zipOf : List D → Option (List D)
  | [.list as, .list bs] => some (zipD as bs)
  | [.tuple as, .tuple bs] => some (zipD as bs)
  | _ => none
def iZip (f : Fx (List D)) : Fx (List D) := fun env => (f env).bind fun p => (zipOf p.1).map fun ds => (ds, p.2)
theorem s_zip {e2 : Expr} {elts : List Expr} {kk : Nat} {tpos : Pos} {f : Fx (List D)} (h : PA X [e, e2] (tAd X.K f)) (hg : Gl X "zip") (hm : X.mg "zip" = none) (hs : starEach [e, e2] X.env = (false, eval e X.env) :: starEach [e2] X.env) (hpl : (backTo pos (starEach [e2] X.env)).any (·.1) = false) :
    PI X (.Tuple elts kk tpos) (.Call (.Name "zip" p) [e, e2] [] pos) (tI X.K (iZip f)) := by
  refine PI.imp (RZ.pi_zipA hg hm h hs hpl) fun σ H R ⟨F, pa, Z, env, ds, env', W, e, k⟩ => ?_
  unfold iZip at e
  cases e1 : f env with
  | none => rw [e1] at e; cases e
  | some q =>
    rw [e1, Option.bind_some] at e
    cases e3 : zipOf q.1 with
    | none => rw [e3] at e; cases e
    | some zs =>
      rw [e3] at e
      cases e
      refine ⟨F, pa, Z, env, q.1, q.2, W, e1, fun vs Z1 H1 g1 W1 q1 => ?_⟩
      generalize q.1 = dd at q1 e3
      have pair : ∀ {Z H : Hp} {T : Addr} {x y : V} {a b : D}, Same Z H → H T = none → Dp X.K Z x a → Dp X.K Z y b → ∃ Z2, Alc Z H Z2 (upd H T (.tup [x, y])) ∧ Dp X.K Z2 (.ref T) (.tuple [a, b]) := fun {Z H T x y a b} zh hT d1 d2 => by
        have al := Alc.new (o := .tup [x, y]) zh hT
        exact ⟨_, al, .tup (SqT.of upd_same) (.cons (Dp.mono al.zz _ _ d1) (.cons (Dp.mono al.zz _ _ d2) .nil))⟩
      unfold zipOf at e3
      split at e3
      · rename_i as bs
        cases e3
        cases q1 with
        | cons h1 h2 =>
          cases h2 with
          | cons h3 h4 =>
            cases h4
            cases h1 with
            | @lst a us _ hsa ha =>
              cases h3 with
              | @lst b us' _ hsb hb =>
                refine ⟨a, b, us, us', rfl, .inl ⟨W1.zh.seq hsa, W1.zh.seq hsb, k _ Z1 H1 g1 W1 fun Z H z1 zh i => ⟨fun d hd => ?_, fun hi => ?_⟩⟩⟩
                · obtain ⟨da, db, hA, hB, rfl⟩ := zipD_get hd
                  obtain ⟨va, ea, qa⟩ := da_get ha hA
                  obtain ⟨vb, eb, qb⟩ := da_get hb hB
                  have sa := zh.seq (z1.seq hsa)
                  have sb := zh.seq (z1.seq hsb)
                  refine ⟨⟨us, us', va, vb, sa, sb, ea, eb⟩, fun x H2 ⟨T, x1, y1, ex, hT, eH, y1', y2'⟩ => ?_⟩
                  subst ex eH
                  have t1 := y1' us sa
                  have t2 := y2' us' sb
                  rw [ea] at t1; rw [eb] at t2
                  cases t1; cases t2
                  exact pair zh hT (Dp.mono z1 _ _ qa) (Dp.mono z1 _ _ qb)
                · rw [zipD_len] at hi
                  exact ⟨us, us', zh.seq (z1.seq hsa), zh.seq (z1.seq hsb), by rw [da_length ha, da_length hb]; omega⟩
      · rename_i as bs
        cases e3
        cases q1 with
        | cons h1 h2 =>
          cases h2 with
          | cons h3 h4 =>
            cases h4
            cases h1 with
            | @tup a us _ hsa ha =>
              cases h3 with
              | @tup b us' _ hsb hb =>
                refine ⟨a, b, us, us', rfl, .inr ⟨Same.sqT W1.zh hsa, Same.sqT W1.zh hsb, k _ Z1 H1 g1 W1 fun Z H z1 zh i => ⟨fun d hd => ?_, fun hi => ?_⟩⟩⟩
                · obtain ⟨da, db, hA, hB, rfl⟩ := zipD_get hd
                  obtain ⟨va, ea, qa⟩ := da_get ha hA
                  obtain ⟨vb, eb, qb⟩ := da_get hb hB
                  have sa := Same.sqT zh (Same.sqT z1 hsa)
                  have sb := Same.sqT zh (Same.sqT z1 hsb)
                  refine ⟨⟨us, us', va, vb, sa, sb, ea, eb⟩, fun x H2 ⟨T, x1, y1, ex, hT, eH, y1', y2'⟩ => ?_⟩
                  subst ex eH
                  have t1 := y1' us sa
                  have t2 := y2' us' sb
                  rw [ea] at t1; rw [eb] at t2
                  cases t1; cases t2
                  exact pair zh hT (Dp.mono z1 _ _ qa) (Dp.mono z1 _ _ qb)
                · rw [zipD_len] at hi
                  exact ⟨us, us', Same.sqT zh (Same.sqT z1 hsa), Same.sqT zh (Same.sqT z1 hsb), by rw [da_length ha, da_length hb]; omega⟩
      · cases e3
end
end Ev
namespace Ev
open PySem PySem.Spec PyProof.Rows L2
/-! ## a, b = x, y -/
def aR (f : Fx R) (g : Fx (List AR)) : Fx (List AR) := fun env => match f env with
  | some (.fresh ds, e) => (g e).map fun q => (.tmp ds :: q.1, q.2)
  | some (.val d, e) => (g e).map fun q => (.val d :: q.1, q.2)
  | _ => none
section
variable {X : Cx} {e : Expr} {es : List Expr} {p pos : Pos} {x : Str}
theorem s_aR {f : Fx R} {g : Fx (List AR)} (h1 : PE X e (tR X.K f)) (h2 : PA X es (tAa X.K g)) (hs : starEach (e :: es) X.env = (false, eval e X.env) :: starEach es X.env) : PA X (e :: es) (tAa X.K (aR f g)) := by
  refine PA.imp (pa_cons h1 h2 hs) fun σ H Q ⟨F, pa, Z, env, as, env', W, h, k⟩ => ?_
  unfold aR at h
  split at h
  · rename_i ds env1 e1
    cases e2 : g env1 with
    | none => rw [e2] at h; cases h
    | some q =>
      rw [e2] at h
      cases h
      refine ⟨F, pa, Z, env, _, env1, W, e1, fun v Z1 H1 g1 W1 q1 => ?_⟩
      obtain ⟨p, us, rfl, hp, zp, fp, da, no⟩ := q1
      have sf : Same F (upd F p (.lst us)) := upd_none fp
      refine ⟨upd F p (.lst us), pa, Z1, env1, q.1, q.2, W1.frameUp hp no, e2, fun vs Z2 H2 g2 W2 q2 => ?_⟩
      have g2' : Gr F Z1 Z2 := g2.frame sf
      refine k (.ref p :: vs) Z2 H2 (g1.trans g2') (W2.frame sf) (.tmp (W2.fh p _ upd_same) ?_ fp (DpAll.mono g2.zz _ _ da) (fun i o s a1 a2 a3 => ?_) (fun hm => ?_) (q2.frame sf))
      · exact (g2.nf p (by rw [upd_same]; exact fun z => nomatch z)).trans zp
      · obtain ⟨us', b1, b2, b3⟩ := (W2.sl i o s a1 a2).at_ a3
        rw [upd_same] at b2; cases b2
      · have := q2.tmpF p hm
        rw [upd_same] at this; cases this
  · rename_i d env1 e1
    cases e2 : g env1 with
    | none => rw [e2] at h; cases h
    | some q =>
      rw [e2] at h
      cases h
      exact ⟨F, pa, Z, env, _, env1, W, e1, fun v Z1 H1 g1 W1 q1 => ⟨F, pa, Z1, env1, q.1, q.2, W1, e2, fun vs Z2 H2 g2 W2 q2 => k (v :: vs) Z2 H2 (g1.trans g2) W2 (.val (Dp.mono g2.zz _ _ q1) q2)⟩⟩
  · cases h
end
theorem ArsOk.reslot {K : PySem.W.Frag} {F Z H : Hp} {σ σ' : L2.St} {env env' : En} : ∀ {vs : List V} {as : List AR}, ArsOk K F Z H σ env vs as → slotsOf as = [] →
    (∀ p ∈ tmps vs as, ∀ (i : Nat) (o : Option V) (s : Sl), σ'[i]? = some o → env'[i]? = some s → ¬ Ow H o s p) → ArsOk K F Z H σ' env' vs as
  | _, _, .nil, _, _ => .nil
  | _, _, .val (v := v) d t, h, k => .val d (t.reslot h fun p hp => k p (by cases v <;> exact hp))
  | _, _, .slot _ _, h, _ => by cases h
  | _, _, .tmp a b c d e f t, h, k => .tmp a b c d (k _ (List.mem_cons_self ..)) f (t.reslot h fun p hp => k p (List.mem_cons_of_mem _ hp))
def setMany : List Nat → List AR → En → Option En
  | [], [], env => some env
  | i :: is, .val d :: as, env => (setR i (.val d) env).bind (setMany is as)
  | i :: is, .tmp ds :: as, env => (setR i (.fresh ds) env).bind (setMany is as)
  | _, _, _ => none
def setManyV : List Nat → List V → L2.St → L2.St
  | i :: is, v :: vs, σ => setManyV is vs (σ.set i (some v))
  | _, _, σ => σ
theorem setMany_slots : ∀ {is : List Nat} {as : List AR} {env env2 : En}, setMany is as env = some env2 → slotsOf as = []
  | [], [], _, _, _ => rfl
  | [], _ :: _, _, _, h => by simp [setMany] at h
  | _ :: _, [], _, _, h => by simp [setMany] at h
  | i :: is, .slot _ :: as, _, _, h => by simp [setMany] at h
  | i :: is, .val d :: as, env, env2, h => by
    have h' : (setR i (.val d) env).bind (setMany is as) = some env2 := h
    cases e : setR i (.val d) env with
    | none => rw [e] at h'; cases h'
    | some env1 => rw [e, Option.bind_some] at h'; exact setMany_slots (as := as) h'
  | i :: is, .tmp d :: as, env, env2, h => by
    have h' : (setR i (.fresh d) env).bind (setMany is as) = some env2 := h
    cases e : setR i (.fresh d) env with
    | none => rw [e] at h'; cases h'
    | some env1 => rw [e, Option.bind_some] at h'; exact setMany_slots (as := as) h'
theorem setR_own {K : PySem.W.Frag} {F Z H : Hp} {pa : Nat → Option Addr} {σ : L2.St} {env env1 : En} {i : Nat} {v : V} {r : R} {q : Addr} (W : Wst K F Z H pa σ env) (e : setR i r env = some env1) (hv : ∀ ds, r = .fresh ds → v ≠ .ref q) (hm : ∀ dss, r ≠ .mat dss)
    (no : ∀ (i : Nat) (o : Option V) (s : Sl), σ[i]? = some o → env[i]? = some s → ¬ Ow H o s q) : ∀ (j : Nat) (o : Option V) (s : Sl), (σ.set i (some v))[j]? = some o → env1[j]? = some s → ¬ Ow H o s q := by
  unfold setR at e
  split at e
  · rename_i s0 hs0
    cases hp : isPar s0 with
    | true => rw [hp, if_pos rfl] at e; cases e
    | false =>
      rw [hp, if_neg Bool.false_ne_true] at e
      cases e
      intro j o s e1 e2 e3
      have hi : i < env.length := (List.getElem?_eq_some_iff.mp hs0).1
      by_cases hj : i = j
      · subst hj
        rw [List.getElem?_set_self (by rw [W.len]; exact hi)] at e1
        rw [List.getElem?_set_self hi] at e2
        cases e1; cases e2
        cases r with
        | val d => exact e3.val
        | fresh ds => exact hv ds rfl (Option.some.inj e3.own)
        | mat dss => exact hm dss rfl
      · rw [List.getElem?_set_ne hj] at e1 e2
        exact no j o s e1 e2 e3
  · cases e
theorem Wst.setMany {K : PySem.W.Frag} {F Z H : Hp} {pa : Nat → Option Addr} : ∀ {is : List Nat} {vs : List V} {as : List AR} {σ : L2.St} {env env2 : En}, Wst K F Z H pa σ env → ArsOk K F Z H σ env vs as → Ev.setMany is as env = some env2 → Wst K F Z H pa (setManyV is vs σ) env2
  | [], _, [], _, _, _, W, A, h => by cases A; cases h; exact W
  | [], _, _ :: _, _, _, _, _, _, h => by simp [Ev.setMany] at h
  | _ :: _, _, [], _, _, _, _, _, h => by simp [Ev.setMany] at h
  | i :: is, _, .slot _ :: as, _, _, _, _, _, h => by simp [Ev.setMany] at h
  | i :: is, _, .val d :: as, σ, env, env2, W, A, h => by
    have h' : (Ev.setR i (.val d) env).bind (Ev.setMany is as) = some env2 := h
    cases e : Ev.setR i (.val d) env with
    | none => rw [e] at h'; cases h'
    | some env1 =>
      rw [e, Option.bind_some] at h'
      cases A with
      | @val v _ vs _ q t =>
        have W1 := W.setR (r := .val d) (v := v) q e
        show Wst K F Z H pa (setManyV is vs (σ.set i (some v))) env2
        refine Wst.setMany W1 (t.reslot (setMany_slots h') fun p hp => ?_) h'
        have no := (tmps_not_own t p hp).2.2.2
        exact setR_own W e (fun ds z => by cases z) (fun _ z => nomatch z) no
  | i :: is, _, .tmp d :: as, σ, env, env2, W, A, h => by
    have h' : (Ev.setR i (.fresh d) env).bind (Ev.setMany is as) = some env2 := h
    cases e : Ev.setR i (.fresh d) env with
    | none => rw [e] at h'; cases h'
    | some env1 =>
      rw [e, Option.bind_some] at h'
      cases A with
      | @tmp p us _ vs _ h1 h2 h3 h4 h5 h6 t =>
        have W1 := W.setR (r := .fresh d) (v := .ref p) ⟨p, us, rfl, h1, h2, h3, h4, h5⟩ e
        show Wst K F Z H pa (setManyV is vs (σ.set i (some (.ref p)))) env2
        refine Wst.setMany W1 (t.reslot (setMany_slots h') fun q hq => ?_) h'
        have no := (tmps_not_own t q hq).2.2.2
        exact setR_own W e (fun ds _ z => h6 (by cases z; exact hq)) (fun _ z => nomatch z) no
def sPar (is : List Nat) (f : Fx (List AR)) : Fx Fl := fun env => (f env).bind fun p => (setMany is p.1 p.2).map fun e => (.nx, e)
theorem ars_len {K : PySem.W.Frag} {F Z H : Hp} {σ : L2.St} {env : En} {vs : List V} {as : List AR} (A : ArsOk K F Z H σ env vs as) : vs.length = as.length := by
  induction A with
  | nil => rfl
  | val _ _ ih => exact congrArg Nat.succ ih
  | slot _ _ ih => exact congrArg Nat.succ ih
  | tmp _ _ _ _ _ _ _ ih => exact congrArg Nat.succ ih
theorem setMany_len : ∀ {is : List Nat} {as : List AR} {env env2 : En}, setMany is as env = some env2 → as.length = is.length
  | [], [], _, _, _ => rfl
  | [], _ :: _, _, _, h => by simp [setMany] at h
  | _ :: _, [], _, _, h => by simp [setMany] at h
  | i :: is, .slot _ :: as, _, _, h => by simp [setMany] at h
  | i :: is, .val d :: as, env, env2, h => by
    have h' : (setR i (.val d) env).bind (setMany is as) = some env2 := h
    cases e : setR i (.val d) env with
    | none => rw [e] at h'; cases h'
    | some env1 => rw [e, Option.bind_some] at h'; exact congrArg Nat.succ (setMany_len h')
  | i :: is, .tmp d :: as, env, env2, h => by
    have h' : (setR i (.fresh d) env).bind (setMany is as) = some env2 := h
    cases e : setR i (.fresh d) env with
    | none => rw [e] at h'; cases h'
    | some env1 => rw [e, Option.bind_some] at h'; exact congrArg Nat.succ (setMany_len h')
theorem par_core {K : PySem.W.Frag} {is : List Nat} {f : Fx (List AR)} {DD : Ends} {σ : L2.St} {H : Hp} (h : tS K (sPar is f) DD σ H) : tAa K f σ H fun vs H1 => vs.length = is.length ∧ DD.nx (setManyV is vs σ) H1 := by
  obtain ⟨F, pa, Z, env, fl, env', W, e, k⟩ := h
  unfold sPar at e
  cases e1 : f env with
  | none => rw [e1] at e; cases e
  | some q =>
    rw [e1, Option.bind_some] at e
    cases e2 : setMany is q.1 q.2 with
    | none => rw [e2] at e; cases e
    | some env2 =>
      rw [e2] at e
      cases e
      exact ⟨F, pa, Z, env, q.1, q.2, W, e1, fun vs Z1 H1 g1 W1 A => ⟨by rw [ars_len A, setMany_len e2], k _ Z1 H1 g1 (W1.setMany A e2)⟩⟩
theorem tAa_mono {K : PySem.W.Frag} {f : Fx (List AR)} {σ : L2.St} {H : Hp} {Q Q' : List V → Hp → Prop} (h : tAa K f σ H Q) (m : ∀ vs H', Q vs H' → Q' vs H') : tAa K f σ H Q' := by
  obtain ⟨F, pa, Z, env, as, env', W, e, k⟩ := h
  exact ⟨F, pa, Z, env, as, env', W, e, fun vs Z' H' g1 W1 A => m _ _ (k vs Z' H' g1 W1 A)⟩
/-- the answer of swappedStores in a def's body -/
def swNames (sc : Scope) (ts : List Expr) (line : Nat) : List Str := ts.filterMap fun
  | .Name id pos => if sc.names.lookup id == some .local && pos.line == line then some id else none
  | _ => none
def swGood (sc : Scope) (ts vs : List Expr) : Bool :=
  (!(!(ts.length == 2 || ts.length == 3) || vs.length != ts.length)) && (!vs.any fun | .Starred .. => true | _ => false) &&
  (!((swNames sc ts ((ts.head?.map (·.pos.line)).getD 0)).length != ts.length || (swNames sc ts ((ts.head?.map (·.pos.line)).getD 0)).eraseDups.length != (swNames sc ts ((ts.head?.map (·.pos.line)).getD 0)).length)) && !vs.all (foldedForSure 8) && !vs.all (constantsAlone 8)
/-- not swapped, for sure -/
def swNone (sc : Scope) (ts vs : List Expr) : Bool :=
  (!(ts.length == 2 || ts.length == 3) || vs.length != ts.length) || (vs.any fun | .Starred .. => true | _ => false) ||
  ((swNames sc ts ((ts.head?.map (·.pos.line)).getD 0)).length != ts.length || (swNames sc ts ((ts.head?.map (·.pos.line)).getD 0)).eraseDups.length != (swNames sc ts ((ts.head?.map (·.pos.line)).getD 0)).length) || vs.all (foldedForSure 8)
theorem swapped_good {env : Env} {ts vs : List Expr} {k k2 : Nat} {p p2 : Pos} (hk : env.scope.kind = .function) (h : swGood env.scope ts vs = true) :
    swappedStores [.Tuple ts k p] (.Tuple vs k2 p2) env = pure (some (swNames env.scope ts ((ts.head?.map (·.pos.line)).getD 0))) := by
  have hb : env.blockKind = .function := by unfold Env.blockKind; rw [hk]; rfl
  unfold swGood at h
  simp only [Bool.and_eq_true, Bool.not_eq_true'] at h
  obtain ⟨⟨⟨⟨h1, h2⟩, h3⟩, h4⟩, h5⟩ := h
  unfold swappedStores
  simp only [hb]
  have e0 : (!(ts.length == 2 || ts.length == 3) || vs.length != ts.length || (ScopeKind.function != ScopeKind.function)) = false := by
    rw [h1]; rfl
  rw [if_neg (by rw [e0]; exact Bool.false_ne_true)]
  refine Eq.trans (if_neg fun z => Bool.false_ne_true (h2.symm.trans z)) ?_
  refine Eq.trans (if_neg fun z => Bool.false_ne_true (h3.symm.trans z)) ?_
  refine Eq.trans (if_neg fun z => Bool.false_ne_true (h4.symm.trans z)) ?_
  exact if_neg fun z => Bool.false_ne_true (h5.symm.trans z)
theorem swapped_none {env : Env} {ts vs : List Expr} {k k2 : Nat} {p p2 : Pos} (hk : env.scope.kind = .function) (h : swNone env.scope ts vs = true) : swappedStores [.Tuple ts k p] (.Tuple vs k2 p2) env = pure none := by
  have hb : env.blockKind = .function := by unfold Env.blockKind; rw [hk]; rfl
  unfold swappedStores
  simp only [hb]
  by_cases h1 : (!(ts.length == 2 || ts.length == 3) || vs.length != ts.length) = true
  · exact if_pos (by rw [h1]; rfl)
  · have h1' := Bool.eq_false_iff.mpr h1
    have e0 : (!(ts.length == 2 || ts.length == 3) || vs.length != ts.length || (ScopeKind.function != ScopeKind.function)) = false := by
      rw [h1']; rfl
    rw [if_neg (by rw [e0]; exact Bool.false_ne_true)]
    by_cases h2 : (vs.any fun | .Starred .. => true | _ => false) = true
    · exact if_pos h2
    · refine Eq.trans (if_neg fun z => h2 z) ?_
      by_cases h3 : ((swNames env.scope ts ((ts.head?.map (·.pos.line)).getD 0)).length != ts.length || (swNames env.scope ts ((ts.head?.map (·.pos.line)).getD 0)).eraseDups.length != (swNames env.scope ts ((ts.head?.map (·.pos.line)).getD 0)).length) = true
      · exact if_pos h3
      · refine Eq.trans (if_neg fun z => h3 z) ?_
        have h4 : vs.all (foldedForSure 8) = true := by
          unfold swNone at h
          rw [h1', Bool.eq_false_iff.mpr h2, Bool.eq_false_iff.mpr h3] at h
          exact h
        exact if_pos h4
theorem swapped_other {env : Env} {tg e : Expr} (h : (match tg, e with | .Tuple _ _ _, .Tuple _ _ _ => false | .List _ _, _ => false | _, _ => true) = true) : swappedStores [tg] e env = pure none := by
  unfold swappedStores
  cases tg <;> cases e <;> first | rfl | (cases h)
section
variable {X : Cx} {pos : Pos} {x y z : Str}
theorem s_par2 {i j : Nat} {a b : Expr} {f : Fx (List AR)} {px py pt p2 : Pos} {kt k2 : Nat} (hc : X.calm = true) (hk : X.env.scope.kind = .function) (hN : X.N.Nodup) (hi : X.N[i]? = some x) (hj : X.N[j]? = some y) (hij : i ≠ j) (hx : X.env.scope.names.lookup x = some .local) (hy : X.env.scope.names.lookup y = some .local)
    (ha : PA X [a, b] (tAa X.K f)) (hg : swGood X.env.scope [.Name x px, .Name y py] [a, b] = true) (hn : swNames X.env.scope [.Name x px, .Name y py] px.line = [x, y]) : PS X (.Assign [.Tuple [.Name x px, .Name y py] kt pt] (.Tuple [a, b] k2 p2) pos) (tS X.K (sPar [i, j] f)) := by
  have hw : swappedStores [.Tuple [.Name x px, .Name y py] kt pt] (.Tuple [a, b] k2 p2) X.env = pure (some [x, y]) := by
    rw [swapped_good hk hg]
    exact congrArg (fun q => pure (some q)) hn
  refine PS.imp (ps_par hc hN hi hj hij hx hy ha hw rfl) fun DD σ H h => ?_
  refine tAa_mono (par_core h) fun vs H' ⟨hl, q⟩ => ?_
  match vs, hl with
  | [v, w], _ => exact ⟨v, w, rfl, q⟩
theorem s_par3 {i j l : Nat} {a b c : Expr} {f : Fx (List AR)} {px py pz pt p2 : Pos} {kt k2 : Nat} (hc : X.calm = true) (hk : X.env.scope.kind = .function) (hN : X.N.Nodup) (hi : X.N[i]? = some x) (hj : X.N[j]? = some y) (hl : X.N[l]? = some z) (hij : i ≠ j) (hil : i ≠ l) (hjl : j ≠ l) (hx : X.env.scope.names.lookup x = some .local) (hy : X.env.scope.names.lookup y = some .local) (hz : X.env.scope.names.lookup z = some .local)
    (ha : PA X [a, b, c] (tAa X.K f)) (hg : swGood X.env.scope [.Name x px, .Name y py, .Name z pz] [a, b, c] = true) (hn : swNames X.env.scope [.Name x px, .Name y py, .Name z pz] px.line = [x, y, z]) : PS X (.Assign [.Tuple [.Name x px, .Name y py, .Name z pz] kt pt] (.Tuple [a, b, c] k2 p2) pos) (tS X.K (sPar [i, j, l] f)) := by
  have hw : swappedStores [.Tuple [.Name x px, .Name y py, .Name z pz] kt pt] (.Tuple [a, b, c] k2 p2) X.env = pure (some [x, y, z]) := by
    rw [swapped_good hk hg]
    exact congrArg (fun q => pure (some q)) hn
  refine PS.imp (ps_par3 hc hN hi hj hl hij hil hjl hx hy hz ha hw rfl) fun DD σ H h => ?_
  refine tAa_mono (par_core h) fun vs H' ⟨hl, q⟩ => ?_
  match vs, hl with
  | [u, v, w], _ => exact ⟨u, v, w, rfl, q⟩
end
/-! ## calls with keywords -/
/-- the arguments, positional ones us and keywords' ones ws, by places -/
def pick {α : Type} (n m : Nat) (perm : List Nat) (us ws : List α) : List α := if us.length = n ∧ ws.length = m then perm.filterMap fun i => (us ++ ws)[i]? else []
theorem pick_rel {G : V → Value → Prop} {n m : Nat} {perm : List Nat} {vs zs : List V} {us ws : List Value} (h1 : Paired G vs us) (h2 : Paired G zs ws) : Paired G (pick n m perm vs zs) (pick n m perm us ws) := by
  unfold pick
  rw [Paired.length h1, Paired.length h2]
  by_cases h : us.length = n ∧ ws.length = m
  · rw [if_pos h, if_pos h]
    have app : ∀ {a c : List V} {b d : List Value}, Paired G a b → Paired G c d → Paired G (a ++ c) (b ++ d) := by
      intro a c b d h1 h2
      induction h1 with
      | nil => exact h2
      | cons r _ ih => exact .cons r ih
    have ha := app h1 h2
    have get : ∀ {a : List V} {b : List Value}, Paired G a b → ∀ i : Nat, (a[i]? = none ∧ b[i]? = none) ∨ ∃ x y, a[i]? = some x ∧ b[i]? = some y ∧ G x y := by
      intro a b h
      induction h with
      | nil => exact fun i => .inl ⟨rfl, rfl⟩
      | cons r _ ih =>
        intro i
        cases i with
        | zero => exact .inr ⟨_, _, rfl, rfl, r⟩
        | succ i =>
          have := ih i
          simp only [List.getElem?_cons_succ]
          exact this
    induction perm with
    | nil => exact .nil
    | cons i perm ih =>
      rcases get ha i with ⟨e1, e2⟩ | ⟨x, y, e1, e2, r⟩
      · rw [List.filterMap_cons, List.filterMap_cons, e1, e2]; exact ih
      · rw [List.filterMap_cons, List.filterMap_cons, e1, e2]; exact .cons r ih
  · rw [if_neg h, if_neg h]; exact .nil
theorem pick_da {K : PySem.W.Frag} {Z : Hp} {n m : Nat} {perm : List Nat} {vs zs : List V} {ds es : List D} (h1 : DpAll K Z vs ds) (h2 : DpAll K Z zs es) : DpAll K Z (pick n m perm vs zs) (pick n m perm ds es) := by
  unfold pick
  rw [da_length h1, da_length h2]
  by_cases h : ds.length = n ∧ es.length = m
  · rw [if_pos h, if_pos h]
    have ha := da_append h1 h2
    have hl := da_length ha
    induction perm with
    | nil => exact .nil
    | cons i perm ih =>
      rw [List.filterMap_cons, List.filterMap_cons]
      cases e : (ds ++ es)[i]? with
      | none =>
        have : (vs ++ zs)[i]? = none := by
          rw [List.getElem?_eq_none_iff] at e ⊢
          omega
        rw [this]; exact ih
      | some d =>
        obtain ⟨v, e1, q⟩ := da_get ha e
        rw [e1]; exact .cons q ih
  · rw [if_neg h, if_neg h]; exact .nil
def eCallK (g : Fn) (n m : Nat) (perm : List Nat) (f fk : Fx (List D)) : Fx R := fun env => (f env).bind fun p => (fk p.2).bind fun q => match g ((pick n m perm p.1 q.1).map .val) with
  | some (r, []) => some (r, q.2)
  | _ => none
theorem vals_av {K : PySem.W.Frag} {F Z H : Hp} : ∀ {vs : List V} {ds : List D}, DpAll K Z vs ds → AvOk K F Z H vs (ds.map .val)
  | _, _, .nil => .nil
  | _, _, .cons h t => .val h (vals_av t)
theorem vals_adr : ∀ (vs : List V) (ds : List D), ownAdr vs (ds.map AV.val) = []
  | [], [] => rfl
  | [], _ :: _ => rfl
  | v :: _, [] => by cases v <;> rfl
  | v :: vs, d :: ds => by
    have := vals_adr vs ds
    cases v <;> exact this
def tKd (K : PySem.W.Frag) (f : Fx (List D)) : TA := tAd K f
theorem tCallK_of {K : PySem.W.Frag} {np n m : Nat} {perm : List Nat} {g : Fn} {f fk : Fx (List D)} {E : XK} {σ : L2.St} {H : Hp} {Q : VK} (hp : perm.length = np) (hv : ∀ i ∈ perm, i < n + m)
    (h : tR K (eCallK g n m perm f fk) σ H Q) (h1 : ∀ env ds env', f env = some (ds, env') → ds.length = n) (h2 : ∀ env ds env', fk env = some (ds, env') → ds.length = m) : tCallK (spF K np g) (pick n m perm) E (tAd K f) (tAd K fk) σ H Q := by
  obtain ⟨F, pa, Z, env, r, env', W, e, k⟩ := h
  unfold eCallK at e
  cases e1 : f env with
  | none => rw [e1] at e; cases e
  | some p =>
    rw [e1, Option.bind_some] at e
    cases e2 : fk p.2 with
    | none => rw [e2] at e; cases e
    | some q =>
      rw [e2, Option.bind_some] at e
      split at e
      · rename_i r' e3
        cases e
        refine ⟨F, pa, Z, env, p.1, p.2, W, e1, fun vs Z1 H1 g1 W1 q1 => ⟨F, pa, Z1, p.2, q.1, q.2, W1, e2, fun zs Z2 H2 g2 W2 q2 => ?_⟩⟩
        have da := pick_da (n := n) (m := m) (perm := perm) (DpAll.mono g2.zz _ _ q1) q2
        have l1 := h1 _ _ _ e1
        have l2 := h2 _ _ _ e2
        have pl : ∀ perm : List Nat, (∀ i ∈ perm, i < n + m) → (perm.filterMap fun i => (vs ++ zs)[i]?).length = perm.length := by
          intro perm hv
          induction perm with
          | nil => rfl
          | cons i perm ih =>
            have hi : i < (vs ++ zs).length := by
              rw [List.length_append, da_length q1, da_length q2, l1, l2]
              exact hv i (List.mem_cons_self ..)
            rw [List.filterMap_cons, show (vs ++ zs)[i]? = some (vs ++ zs)[i] by simp [hi]]
            exact congrArg Nat.succ (ih fun j hj => hv j (List.mem_cons_of_mem _ hj))
        refine ⟨?_, H2, Z2, (pick n m perm p.1 q.1).map .val, r, [], Same.refl _, W2.zh, vals_av da, e3, fun v Z3 H3 g3 f3 z3 o3 rt => ?_⟩
        · unfold pick
          rw [if_pos ⟨by rw [da_length q1, l1], by rw [da_length q2, l2]⟩, pl perm hv, hp]
        · have al : Alc Z2 H2 Z3 H3 := ⟨g3.zz, f3, z3, g3.nf⟩
          have W3 := W2.alc al
          refine k v Z3 H3 ((g1.trans g2).trans (al.gr W2.fh)) W3 ?_
          cases r with
          | val d => exact rt
          | fresh ds =>
            obtain ⟨pp, us, rfl, b1, b2, b3, b4, b5⟩ := rt
            refine ⟨pp, us, rfl, b1, b2, W2.fh.free b3, b5, fun i o s q1 q2 q3 => ?_⟩
            obtain ⟨us', c1, _⟩ := (W2.sl i o s q1 q2).at_ ((W2.sl i o s q1 q2).back (fun b u _ h => f3 b u h) q3)
            rw [b3] at c1; cases c1
          | mat dss =>
            obtain ⟨pp, us, bs, rfl, b1, b2, b3, b4, b5, b6⟩ := rt
            refine ⟨pp, us, bs, rfl, b1, b2, W2.fh.free b3, b4.mono (fun _ _ h => h) (fun _ _ _ h => h) (fun a m h => W2.fh.free h) (fun _ _ => rfl), b5, fun q hq i o s q1 q2 q3 => ?_⟩
            obtain ⟨us', c1, _⟩ := (W2.sl i o s q1 q2).at_ ((W2.sl i o s q1 q2).back (fun b u _ h => f3 b u h) q3)
            rcases hq with rfl | hq
            · rw [b3] at c1; cases c1
            · rw [(b4.mem hq).2.2.1] at c1; cases c1
      · cases e
end Ev
namespace Ev
open PySem PySem.Spec PyProof.Rows L2
open AutoSeq1 (wpAny_loadPart')
/-! ## enumerate over a tuple -/
theorem enum_newT (l : Addr) (items : Array Value) :
    Meets (Builtin.«enumerate.__new__» ⟨[.type "enumerate", .ref l], []⟩) (fun _ R s => s.heap.IsTuple l items ∧
      R (.ok (.ret (.ref (s.heap.push { cls := .type "tuple_iterator", data := .fields #[.ref l, .int 0 0] }).objs.size)))
        { s with heap := (s.heap.push { cls := .type "tuple_iterator", data := .fields #[.ref l, .int 0 0] }).push { cls := .type "enumerate", data := .fields #[.none, .bool false, .ref s.heap.objs.size, rawInt 0, .none, .none] } }) :=
  .of_wp fun prog w A R s h => by
    obtain ⟨hp, g, d, tk, os⟩ := s; obtain ⟨hT, h⟩ := h
    have hsub := sub_enumerate
    obtain ⟨ol, hol, hcl, nl, hdl⟩ := id hT
    wp_walk using wpAny_loadPart' hol
    refine wpAny_stack_any fun st => wpAny_pure ?_
    split
    · rename_i c _ _ _ _ _
      cases (c == Value.type "enumerate")
      · wp_walk using wpAny_loadPart' hol, wpAny_pyIter_tuple hT
        exact ⟨_, rfl, h⟩
      · wp_walk using wpAny_loadPart' hol, wpAny_pyIter_tuple hT
        exact ⟨_, rfl, h⟩
    · wp_walk using wpAny_loadPart' hol, wpAny_pyIter_tuple hT
      exact ⟨_, rfl, h⟩
section
variable {prog : Program} {w : World} {A : Around} {E : Value → Shared → Prop} {s : Shared}
theorem enum_callT {l : Addr} {items : Array Value} {Q : Value → Shared → Prop} (hL : s.heap.IsTuple l items)
    (h : ∀ h', IsEnum h' (s.heap.objs.size + 1) s.heap.objs.size 0 .none → h'.IsTupleIter s.heap.objs.size l 0 → h'.objs.size = s.heap.objs.size + 2 →
      (∀ b o, s.heap.get? b = some o → h'.get? b = some o) → Q (.ref (s.heap.objs.size + 1)) { s with heap := h' }) :
    wpAny (model prog w) A (call (.type "enumerate") [.ref l]) Q E s := by
  refine callType_new F.called_enumerate (by decide) (F.typeCall_enumerate_1 _) (F.newCall_enumerate_1 _) (fun obj => F.args_object_init_2 obj _) F.entry_enumerate_new
    (enum_newT l items) ⟨hL, ?_⟩
  have hz : (s.heap.push { cls := .type "tuple_iterator", data := .fields #[.ref l, .int 0 0] }).objs.size = s.heap.objs.size + 1 := Heap.size_push ..
  show _ ∧ _
  rw [hz]
  have he : IsEnum ((s.heap.push { cls := .type "tuple_iterator", data := .fields #[.ref l, .int 0 0] }).push
      { cls := .type "enumerate", data := .fields #[.none, .bool false, .ref s.heap.objs.size, rawInt 0, .none, .none] }) (s.heap.objs.size + 1) s.heap.objs.size 0 .none := by
    have := Heap.get?_push_size (s.heap.push { cls := .type "tuple_iterator", data := .fields #[.ref l, .int 0 0] })
      (o := { cls := .type "enumerate", data := .fields #[.none, .bool false, .ref s.heap.objs.size, rawInt 0, .none, .none] }) rfl
    rw [hz] at this; exact this
  refine ⟨⟨_, he, rfl⟩, h _ he ⟨_, Heap.get?_push_of_some _ (Heap.get?_push_size _ rfl), rfl, rfl⟩ (by rw [Heap.size_push, hz]) fun b o x => Heap.get?_push_of_some _ (Heap.get?_push_of_some _ x)⟩
end
/-- the tuple at a as it stands at each turn, each item in a new pair -/
def IteT (K : PySem.W.Frag) (a : Addr) : It :=
  ⟨fun i H => ∃ (xs : List V) (x : V), SqT K H a xs ∧ xs[i]? = some x, fun i H v H' => ∃ T x, v = .ref T ∧ H T = none ∧ H' = upd H T (.tup [.int (i : Nat), x]) ∧ ∀ xs, SqT K H a xs → xs[i]? = some x, fun i H => ∃ xs : List V, SqT K H a xs ∧ xs.length ≤ i⟩
theorem turn_enumT {P : Program} {w : World} {K : PySem.W.Frag} {elts : List Expr} {kk : Nat} {tpos : Pos} (a e it : Addr) :
    Turn P w K (.Tuple elts kk tpos) (IteT K a) [e, it] e (fun i h => (∃ old, IsEnum h e it ((i : Nat) : Int) old) ∧ h.IsTupleIter it a i ∧ e ≠ it ∧ a ≠ it ∧ a ≠ e) where
  mem := by simp
  obj := fun i h st b hb => by
    obtain ⟨⟨old, he⟩, ⟨o, ho, hc, hd⟩, _⟩ := st
    have e' : b = e ∨ b = it := by simpa using hb
    rcases e' with z | z
    · rw [z]; exact ⟨_, he, fun v q => nomatch q⟩
    · rw [z]; exact ⟨o, ho, fun v q => by rw [hd] at q; cases q⟩
  keep := fun i h h' st k => let ⟨⟨old, he⟩, hi, hne⟩ := st; ⟨⟨old, k e (by simp) _ he⟩, hi.at fun o q => k it (by simp) o q, hne⟩
  item := by
    intro X hP hw hK hc i pins s σ H E I hf st hg
    subst hP hw hK
    obtain ⟨⟨old, he⟩, hit, hne, hai, hae⟩ := st
    obtain ⟨xs, x, hq, hx⟩ := hg
    obtain ⟨its, rv, p, hz⟩ := I.tuple hq
    obtain ⟨u, hu, ru⟩ := rv.get hx
    have hel : e < s.heap.objs.size := Heap.lt_size he
    have hil : it < s.heap.objs.size := by obtain ⟨_, q, _⟩ := hit; exact Heap.lt_size q
    have hlt : i < its.toArray.size := by
      have := (List.getElem?_eq_some_iff.mp hu).1
      simpa using this
    have hiT : s.heap.IsTuple a its.toArray := p
    have hh : X.A.in1.handled = none := by
      have := I.ok.hd hc
      exact this
    refine wpAny_pyNext_enum_itemD (Draws.tuple hh it a hai its.toArray) he ⟨hit, hiT⟩ hlt hne (by simp [hne, hae.symm]) fun x' h' tk hP' ho hs' hT hsz hk => ?_
    have ex : x' = u := by
      have h1 : its.toArray[i]? = some u := by simpa using hu
      rw [h1] at hP'
      exact (Option.some.inj hP').symm
    subst ex
    refine ⟨_, rfl, wpAny_letOwnedTupleGo_enum (s := { s with heap := h', toks := tk + 1 }) ho fun h'' he' sb => ?_⟩
    have hT2 : h''.get? s.heap.objs.size = some { cls := .type "tuple", data := .seq #[.int i tk, x'] } := (sb.2 _ (Nat.ne_of_gt hel)).trans hT
    have new : ObjOk X.prog X.w (upd H s.heap.objs.size (.tup [.int (i : Nat), x])) h'' s.heap.objs.size (.tup [.int (i : Nat), x]) :=
      ⟨by show 2 ≤ sizeLine; decide, [.int i tk, x'], .cons ⟨_, rfl⟩ (.cons ru .nil), ⟨_, hT2, rfl, _, rfl⟩⟩
    have I1 : Inv X pins σ (upd H s.heap.objs.size (.tup [.int (i : Nat), x])) { s with heap := h'', toks := tk + 1 } :=
      I.turnedNew (ch := [e, it]) (fun b ob hb q => (sb.2 b (fun z => hb (by simp [z]))).trans (hk b ob (fun z => hb (by simp [z])) (fun z => hb (by simp [z])) q)) hf (Nat.le_refl _) new
    refine ⟨.ref s.heap.objs.size, _, I1, rfl, ⟨_, x, rfl, I.hok.fresh (Nat.le_refl _), rfl, fun ys hy => by rw [I.tuple_inj hy hq]; exact hx⟩, ⟨⟨x', ?_⟩, hs'.1.at fun o q => (sb.2 it (Ne.symm hne)).trans q, hne, hai, hae⟩, fun b hb => ?_⟩
    · have e1 : ((i + 1 : Nat) : Int) = (i : Int) + 1 := by omega
      rw [e1]; exact he'
    · have hb' : b < s.heap.objs.size := by
        have e' : b = e ∨ b = it := by simpa using hb
        rcases e' with z | z
        · rw [z]; exact hel
        · rw [z]; exact hil
      rw [upd_ne (Nat.ne_of_lt hb')]
      exact (hf b hb).1
  done := by
    intro X hP hw hK hc i pins s σ H E I hf st hg
    subst hP hw hK
    obtain ⟨⟨old, he⟩, hit, hne, hai, hae⟩ := st
    obtain ⟨xs, hq, hx⟩ := hg
    obtain ⟨its, rv, p, hz⟩ := I.tuple hq
    obtain ⟨f0, f1, f2, f3, f4, f5⟩ := hf it (by simp)
    have hl := rv.length
    have hiT : s.heap.IsTuple a its.toArray := p
    have hh : X.A.in1.handled = none := I.ok.hd hc
    have hn : its.toArray[i]? = none := by simp; omega
    have DD : Draws X.prog X.w X.A.in1 it [it, a] i (fun _ _ => False) (fun j h => j = i ∧ h.IsTupleIter it a i ∧ h.IsTuple a its.toArray) :=
      ⟨fun j h st => let ⟨o, ho, _⟩ := st.2.1; ⟨o, ho⟩, fun j h h' st hk => ⟨st.1, st.2.1.at fun o e => hk it (by simp) o e, st.2.2.at fun o e => hk a (by simp) o e⟩,
        fun j s Q E hj st _ => absurd st.1 (by omega), fun s Q E st hE => wpAny_nextOf_tuple_end hh st.2.1 st.2.2 hn hE⟩
    exact wpAny_pyNext_enum_endD DD he ⟨rfl, hit, hiT⟩ fun h' eb => ⟨rfl, I.turned (t' := s.toks) (fun b o hb q => eb b o hb q) f0 f1 f3 f4 f5⟩
  self := fun A i s Q E st h => let ⟨⟨_, he⟩, _⟩ := st; wpAny_pyIter_enum he h
def iEnumA (K : PySem.W.Frag) (te : TE) : TI := fun σ H R => te σ H fun v H1 => ∃ a, v = .ref a ∧ ((∃ xs, SqL K H1 a xs ∧ R (Ite K a) H1) ∨ (∃ xs, SqT K H1 a xs ∧ R (IteT K a) H1))
theorem pi_enumA {X : Cx} {e : Expr} {te : TE} {p pos tpos : Pos} {elts : List Expr} {kk : Nat} (hg : Gl X "enumerate") (hm : X.mg "enumerate" = none) (he : PE X e te) (hs : starEach [e] X.env = [(false, eval e X.env)] := by rfl) :
    PI X (.Tuple elts kk tpos) (.Call (.Name "enumerate" p) [e] [] pos) (iEnumA X.K te) := by
  refine ⟨fun pins s σ H R I h => ?_⟩
  refine Call_ (ld_blt I hg hm PyProof.Rows.boot_enumerate (PyProof.Rows.callWith_type1 (PyProof.Rows.args_cons (thn (he.run pins s σ H _ I h) fun u s1 ⟨v, H1, I1, r1, q1⟩ => PyProof.Rows.args_nil ?_) hs) hs rfl))
  obtain ⟨a, ex, q⟩ := q1
  subst ex
  cases r1
  have fp : ∀ b, b ∈ [s1.heap.objs.size + 1, s1.heap.objs.size] → FpOk X pins H1 b := fun b hb => by
    have e' : b = s1.heap.objs.size + 1 ∨ b = s1.heap.objs.size := by simpa using hb
    have hle : s1.heap.objs.size ≤ b := by
      rcases e' with z | z
      · rw [z]; exact Nat.le_add_right _ _
      · rw [z]; exact Nat.le_refl _
    exact I1.fpOk hle (I1.hok.fresh hle)
  rcases q with ⟨xs, hq, q⟩ | ⟨xs, hq, q⟩
  · obtain ⟨its, rv, p', hz⟩ := I1.list hq
    refine call_enumerate_list p'.isList fun h' he hit hsz hk => wpAny_pyIter_enum he ?_
    have I2 : Inv X pins σ H1 { s1 with heap := h' } := I1.kept (t' := s1.toks) hk
    exact ⟨s1.heap.objs.size + 1, [s1.heap.objs.size + 1, s1.heap.objs.size], _, _, H1, rfl, I2, turn_enum a (s1.heap.objs.size + 1) s1.heap.objs.size, ⟨⟨.none, he⟩, hit, Nat.succ_ne_self _⟩, fp, q⟩
  · obtain ⟨its, rv, p', hz⟩ := I1.tuple hq
    have hT : s1.heap.IsTuple a its.toArray := p'
    have hal : a < s1.heap.objs.size := by obtain ⟨_, z, _⟩ := hT; exact Heap.lt_size z
    refine enum_callT hT fun h' he hit hsz hk => wpAny_pyIter_enum he ?_
    have I2 : Inv X pins σ H1 { s1 with heap := h' } := I1.kept (t' := s1.toks) hk
    exact ⟨s1.heap.objs.size + 1, [s1.heap.objs.size + 1, s1.heap.objs.size], _, _, H1, rfl, I2, turn_enumT a (s1.heap.objs.size + 1) s1.heap.objs.size, ⟨⟨.none, he⟩, hit, Nat.succ_ne_self _, Nat.ne_of_lt hal, Nat.ne_of_lt (Nat.lt_succ_of_lt hal)⟩, fp, q⟩
def enumD : Nat → List D → List D
  | _, [] => []
  | n, d :: ds => .tuple [.int (n : Nat), d] :: enumD (n + 1) ds
theorem enumD_get : ∀ {ds : List D} {n i : Nat} {d : D}, (enumD n ds)[i]? = some d → ∃ a, ds[i]? = some a ∧ d = .tuple [.int ((n + i : Nat)), a]
  | [], _, _, _, h => by simp [enumD] at h
  | a :: as, n, 0, d, h => by simp [enumD] at h; exact ⟨a, rfl, h.symm⟩
  | a :: as, n, i + 1, d, h => by
    obtain ⟨b, h1, h2⟩ := enumD_get (ds := as) (n := n + 1) (i := i) (d := d) (by simpa [enumD] using h)
    exact ⟨b, by simpa using h1, by rw [h2, show n + 1 + i = n + (i + 1) by omega]⟩
theorem enumD_len : ∀ (ds : List D) (n : Nat), (enumD n ds).length = ds.length
  | [], _ => rfl
  | _ :: ds, n => congrArg Nat.succ (enumD_len ds (n + 1))
def iEnum (f : Fx D) : Fx (List D) := fun env => (f env).bind fun p => (seqD p.1).map fun ds => (enumD 0 ds, p.2)
theorem s_enum {X : Cx} {e : Expr} {f : Fx D} {p pos tpos : Pos} {elts : List Expr} {kk : Nat} (h : PE X e (tE X.K f)) (hg : Gl X "enumerate") (hm : X.mg "enumerate" = none) (hs : starEach [e] X.env = [(false, eval e X.env)]) :
    PI X (.Tuple elts kk tpos) (.Call (.Name "enumerate" p) [e] [] pos) (tI X.K (iEnum f)) := by
  refine PI.imp (pi_enumA hg hm h hs) fun σ H R ⟨F, pa, Z, env, ds, env', W, e, k⟩ => ?_
  unfold iEnum at e
  cases e1 : f env with
  | none => rw [e1] at e; cases e
  | some q =>
    rw [e1, Option.bind_some] at e
    cases e3 : seqD q.1 with
    | none => rw [e3] at e; cases e
    | some zs =>
      rw [e3] at e
      cases e
      refine ⟨F, pa, Z, env, q.1, q.2, W, e1, fun vs Z1 H1 g1 W1 q1 => ?_⟩
      generalize q.1 = dd at q1 e3
      have pair : ∀ {Z H : Hp} {T : Addr} {i : Int} {y : V} {b : D}, Same Z H → H T = none → Dp X.K Z y b → ∃ Z2, Alc Z H Z2 (upd H T (.tup [.int i, y])) ∧ Dp X.K Z2 (.ref T) (.tuple [.int i, b]) := fun {Z H T i y b} zh hT d2 => by
        have al := Alc.new (o := .tup [.int i, y]) zh hT
        exact ⟨_, al, .tup (SqT.of upd_same) (.cons (.int i) (.cons (Dp.mono al.zz _ _ d2) .nil))⟩
      cases q1 with
      | @lst a us ds' hsa ha =>
        cases e3
        refine ⟨a, rfl, .inl ⟨us, W1.zh.seq hsa, k _ Z1 H1 g1 W1 fun Z H z1 zh i => ⟨fun d hd => ?_, fun hi => ?_⟩⟩⟩
        · obtain ⟨da, hA, rfl⟩ := enumD_get hd
          obtain ⟨va, ea, qa⟩ := da_get ha hA
          have sa := zh.seq (z1.seq hsa)
          refine ⟨⟨us, va, sa, ea⟩, fun x H2 ⟨T, x1, ex, hT, eH, y1'⟩ => ?_⟩
          subst ex eH
          have t1 := y1' us sa
          rw [ea] at t1
          cases t1
          rw [Nat.zero_add]
          exact pair zh hT (Dp.mono z1 _ _ qa)
        · rw [enumD_len] at hi
          exact ⟨us, zh.seq (z1.seq hsa), by rw [da_length ha]; exact hi⟩
      | @tup a us ds' hsa ha =>
        cases e3
        refine ⟨a, rfl, .inr ⟨us, Same.sqT W1.zh hsa, k _ Z1 H1 g1 W1 fun Z H z1 zh i => ⟨fun d hd => ?_, fun hi => ?_⟩⟩⟩
        · obtain ⟨da, hA, rfl⟩ := enumD_get hd
          obtain ⟨va, ea, qa⟩ := da_get ha hA
          have sa := Same.sqT zh (Same.sqT z1 hsa)
          refine ⟨⟨us, va, sa, ea⟩, fun x H2 ⟨T, x1, ex, hT, eH, y1'⟩ => ?_⟩
          subst ex eH
          have t1 := y1' us sa
          rw [ea] at t1
          cases t1
          rw [Nat.zero_add]
          exact pair zh hT (Dp.mono z1 _ _ qa)
        · rw [enumD_len] at hi
          exact ⟨us, Same.sqT zh (Same.sqT z1 hsa), by rw [da_length ha]; exact hi⟩
      | _ => cases e3
end Ev
namespace Ev
open PySem PySem.Spec PyProof.Rows L2
theorem andB {a b : Bool} (h : (a && b) = true) : a = true ∧ b = true := by simpa using h
/-! ## sorted -/
section
variable {X : Cx}
theorem isPair_inj {h : Heap} {v : Value} {x y x' y' : Int} (a : Srt.IsPair h v x y) (b : Srt.IsPair h v x' y') : x = x' ∧ y = y' := by
  obtain ⟨p, o, t, u, n, rfl, h1, h2, h3⟩ := a
  obtain ⟨p', o', t', u', n', e, h1', h2', h3'⟩ := b
  cases e
  rw [h1] at h1'
  cases h1'
  rw [h3] at h3'
  cases h3'
  exact ⟨rfl, rfl⟩
def tupAt (K : PySem.W.Frag) (H : Hp) (y : V) (p : Int × Int) : Prop := ∃ t, y = .ref t ∧ SqT K H t [.int p.1, .int p.2]
def lexLe (p q : Int × Int) : Bool := !SrtO.lexB q p
def rSortedP (K : PySem.W.Frag) : List V → Hp → VK → Prop := fun vs H Q => ∃ (a : Addr) (ys : List V) (ks : List (Int × Int)), vs = [V.ref a] ∧ SqL K H a ys ∧ ys.length = ks.length ∧ (∀ (i : Nat) (y : V) (p : Int × Int), ys[i]? = some y → ks[i]? = some p → tupAt K H y p) ∧
  ∀ (zs : List V) (ks' : List (Int × Int)) (p : Addr), zs.length = ks'.length → (∀ (i : Nat) (y : V) (p : Int × Int), zs[i]? = some y → ks'[i]? = some p → ∃ j : Nat, ys[j]? = some y ∧ ks[j]? = some p) → ks'.Perm ks → ks'.Pairwise (fun p q => lexLe p q = true) → H p = none → Q (.ref p) (upd H p (.lst zs))
theorem cr_sortedP : CallR X (.builtin "sorted") (rSortedP X.K) := by
  intro pins s σ H vs us Q I r h
  obtain ⟨a, ys, ks, rfl, hs, hl, ht, q⟩ := h
  obtain ⟨its, rv, pl, hz⟩ := I.list hs
  rw [Vals.ref1 r]
  have hli : ys.length = its.length := rv.length
  obtain ⟨b1, b2⟩ := refs_back rv fun x m => by
    obtain ⟨i, hi⟩ := List.mem_iff_getElem?.mp m
    have hk : i < ks.length := by have := (List.getElem?_eq_some_iff.mp hi).1; omega
    obtain ⟨t, e, _⟩ := ht i x ks[i] hi (List.getElem?_eq_getElem hk)
    exact ⟨t, e⟩
  have pr : ∀ (i : Nat) (v : Value) (p : Int × Int), its[i]? = some v → ks[i]? = some p → Srt.IsPair s.heap v p.1 p.2 ∧ tupAt X.K H (backV v) p := fun i v p hv hp => by
    have hb : ys[i]? = some (backV v) := by rw [b1, List.getElem?_map, hv]; rfl
    obtain ⟨t, et, hq⟩ := ht i _ p hb hp
    obtain ⟨a', ea⟩ := b2 v (List.mem_of_getElem? hv)
    subst ea
    have : a' = t := by cases et; rfl
    subst this
    obtain ⟨its2, r2, hT, _⟩ := I.tuple hq
    obtain ⟨u1, u2, rfl, ri, rj⟩ := vals2 r2
    obtain ⟨t1, rfl⟩ := ri
    obtain ⟨t2, rfl⟩ := rj
    obtain ⟨o, ho, hc, n, hd⟩ := hT
    exact ⟨⟨a', o, t1, t2, n, rfl, ho, hc, hd⟩, a', rfl, hq⟩
  have hk : ∀ v : Value, ∃ p : Int × Int, (∃ p : Int × Int, Srt.IsPair s.heap v p.1 p.2) → Srt.IsPair s.heap v p.1 p.2 := fun v => by
    by_cases c : ∃ p : Int × Int, Srt.IsPair s.heap v p.1 p.2
    · obtain ⟨p, hp⟩ := c
      exact ⟨p, fun _ => hp⟩
    · exact ⟨(0, 0), fun z => absurd z c⟩
  obtain ⟨k, hk⟩ := Classical.axiomOfChoice hk
  have kp : ∀ (i : Nat) (v : Value) (p : Int × Int), its[i]? = some v → ks[i]? = some p → k v = p := fun i v p hv hp => by
    have h1 := (pr i v p hv hp).1
    have h2 := hk v ⟨p, h1⟩
    obtain ⟨e1, e2⟩ := isPair_inj h2 h1
    exact Prod.ext e1 e2
  have hmap : its.map k = ks := by
    refine List.ext_getElem? fun i => ?_
    rw [List.getElem?_map]
    by_cases hi : i < its.length
    · have e1 := List.getElem?_eq_getElem hi
      have hi2 : i < ks.length := by omega
      have e2 := List.getElem?_eq_getElem hi2
      rw [e1, e2, Option.map_some, kp i _ _ e1 e2]
    · rw [List.getElem?_eq_none (by omega), List.getElem?_eq_none (by omega)]
      rfl
  have tm : ∀ v ∈ its, Srt.IsPair s.heap v (k v).1 (k v).2 ∧ tupAt X.K H (backV v) (k v) := fun v hv => by
    obtain ⟨i, hi⟩ := List.mem_iff_getElem?.mp hv
    have hk2 : i < ks.length := by have := (List.getElem?_eq_some_iff.mp hi).1; omega
    have e2 := List.getElem?_eq_getElem hk2
    rw [kp i v _ hi e2]
    exact pr i v _ hi e2
  refine SrtO.sorted_ord (SrtO.swo_lex k) pl.isList (by rw [← hli]; exact hz) (fun h2 h₁ a' ha' kk => ?_) fun out h1 h2 => ?_
  · refine SrtO.pairs_sortableO (s := { s with heap := h₁ }) (by omega) (fun v hm => (tm v hm).1.keeps fun b o e _ => (kk b o e).2) fun o e => ?_
    have e' : some o = some (seqObj "list" its.toArray 0) := e.symm.trans ha'
    cases e'
    intro c
    exact absurd (Value.type.inj c) (by decide)
  · obtain ⟨ep, he'⟩ := PyProof.Rows.sortedAll_at s.heap its out.toArray
    have hmem : ∀ v ∈ out, v ∈ its := fun v hv => h2.perm.mem_iff.mp hv
    have h3 : ∀ u ∈ out, ∃ a, u = Value.ref a := fun u hu => b2 u (hmem u hu)
    have hlo : out.length = its.length := h2.len
    have hlen : (out.map backV).length ≤ sizeLine := by rw [List.length_map, hlo, ← hli]; exact hz
    refine ⟨.ref _, upd H (s.heap.objs.size + 1) (.lst (out.map backV)), I.laid (t' := s.toks) (fun _ _ => PyProof.Rows.sortedAll_old) (Nat.le_succ _) ⟨hlen, out, ep, vals_back h3, he'⟩, rfl, q (out.map backV) (out.map k) _ (by rw [List.length_map, List.length_map]) (fun i y p hy hp => ?_) ?_ ?_ (I.hok.fresh (Nat.le_succ _))⟩
    · rw [List.getElem?_map] at hy hp
      cases e : out[i]? with
      | none => rw [e] at hy; cases hy
      | some v =>
        rw [e] at hy hp
        cases hy; cases hp
        obtain ⟨j, hj⟩ := List.mem_iff_getElem?.mp (hmem v (List.mem_of_getElem? e))
        have hk2 : j < ks.length := by have := (List.getElem?_eq_some_iff.mp hj).1; omega
        have e2 := List.getElem?_eq_getElem hk2
        refine ⟨j, ?_, ?_⟩
        · rw [b1, List.getElem?_map, hj]; rfl
        · rw [e2, kp j v _ hj e2]
    · rw [← hmap]
      exact h2.perm.map k
    · refine List.pairwise_map.mpr (h1.imp fun {x y} h => ?_)
      show (!SrtO.lexB (k y) (k x)) = true
      have h' : SrtO.lexB (k y) (k x) = false := h
      rw [h']
      rfl
end
def sortI (ns : List Int) : List Int := ns.mergeSort fun i j => decide (i ≤ j)
theorem sortI_perm (ns : List Int) : (sortI ns).Perm ns := List.mergeSort_perm ..
theorem sortI_le (ns : List Int) : (sortI ns).Pairwise (· ≤ ·) :=
  (List.pairwise_mergeSort (le := fun i j => decide (i ≤ j)) (fun a b c h1 h2 => decide_eq_true (Int.le_trans (of_decide_eq_true h1) (of_decide_eq_true h2))) (fun a b => by
    by_cases h : a ≤ b
    · simp [h]
    · simp [h]; omega) ns).imp fun h => of_decide_eq_true h
theorem sortI_uniq {ns ns' : List Int} (h1 : ns'.Perm ns) (h2 : ns'.Pairwise (· ≤ ·)) : ns' = sortI ns :=
  List.Perm.eq_of_pairwise (fun a b _ _ h1 h2 => Int.le_antisymm h1 h2) h2 (sortI_le ns) (h1.trans (sortI_perm ns).symm)
def sortP (ps : List (Int × Int)) : List (Int × Int) := ps.mergeSort lexLe
theorem lexLe_iff {p q : Int × Int} : lexLe p q = true ↔ p.1 < q.1 ∨ (p.1 = q.1 ∧ p.2 ≤ q.2) := by
  unfold lexLe
  rw [Bool.not_eq_true', SrtO.lexB_no]
  omega
theorem sortP_perm (ps : List (Int × Int)) : (sortP ps).Perm ps := List.mergeSort_perm ..
theorem sortP_le (ps : List (Int × Int)) : (sortP ps).Pairwise (fun p q => lexLe p q = true) :=
  List.pairwise_mergeSort (le := lexLe) (fun a b c h1 h2 => by rw [lexLe_iff] at h1 h2 ⊢; omega) (fun a b => by
    cases h : lexLe a b with
    | true => rfl
    | false =>
      have : ¬ (lexLe a b = true) := by rw [h]; decide
      rw [lexLe_iff] at this
      show (false || lexLe b a) = true
      rw [Bool.false_or, lexLe_iff]
      omega) ps
theorem sortP_uniq {ps ps' : List (Int × Int)} (h1 : ps'.Perm ps) (h2 : ps'.Pairwise (fun p q => lexLe p q = true)) : ps' = sortP ps :=
  List.Perm.eq_of_pairwise (fun a b _ _ h1 h2 => by rw [lexLe_iff] at h1 h2; exact Prod.ext (by omega) (by omega)) h2 (sortP_le ps) (h1.trans (sortP_perm ps).symm)
/-- pairs of ints -/
def pairsOf : List D → Option (List (Int × Int))
  | [] => some []
  | .tuple [.int i, .int j] :: ds => (pairsOf ds).map ((i, j) :: ·)
  | _ => none
def eP2 (p : Int × Int) : D := .tuple [.int p.1, .int p.2]
theorem pairsOf_eq : ∀ {ds : List D} {ps : List (Int × Int)}, pairsOf ds = some ps → ds = ps.map eP2
  | [], ps, h => by cases h; rfl
  | d :: ds, ps, h => by
    unfold pairsOf at h
    split at h
    · rename_i e; cases e
    · rename_i i j ds' e
      cases e
      cases h2 : pairsOf ds with
      | none => rw [h2] at h; cases h
      | some qs =>
        rw [h2] at h
        cases h
        rw [pairsOf_eq h2]
        rfl
    · cases h
def gSorted : List D → Option D
  | [.list ds] => (match intsOf ds with
    | some ns => some (.list ((sortI ns).map .int))
    | none => (match pairsOf ds with
      | some ps => some (.list ((sortP ps).map eP2))
      | none => none))
  | _ => none
section
variable {X : Cx}
def gSortedI : List D → Option D
  | [.list ds] => (intsOf ds).map fun ns => .list ((sortI ns).map .int)
  | _ => none
def gSortedP : List D → Option D
  | [.list ds] => (pairsOf ds).map fun ps => .list ((sortP ps).map eP2)
  | _ => none
theorem ints_daS {K : PySem.W.Frag} {Z : Hp} : ∀ ns : List Int, DpAll K Z (ns.map V.int) (ns.map PyData.int)
  | [] => .nil
  | n :: ns => .cons (.int n) (ints_daS ns)
theorem c_sortedI : CallD X (.builtin "sorted") gSortedI := ⟨_, cr_sortedI, by
  intro Z H vs ds z Q zh q hz k
  unfold gSortedI at hz
  split at hz
  · rename_i ds'
    cases q with
    | cons h1 h2 =>
      cases h2
      cases h1 with
      | @lst a us _ hs ha =>
        cases e : intsOf ds' with
        | none => rw [e] at hz; cases hz
        | some ns =>
          rw [e] at hz
          cases hz
          have e2 := intsOf_da ha e
          subst e2
          refine ⟨a, ns, rfl, zh.seq hs, fun ns' p h1 h2 hp => ?_⟩
          have e3 := sortI_uniq h1 h2
          subst e3
          have al := Alc.new (o := .lst ((sortI ns).map V.int)) zh hp
          exact k _ _ _ al (.lst (SqL.of upd_same) (ints_daS _))
  · cases hz⟩
theorem tups_da {K : PySem.W.Frag} {Z : Hp} : ∀ (zs : List V) (ks : List (Int × Int)), zs.length = ks.length → (∀ (i : Nat) (y : V) (p : Int × Int), zs[i]? = some y → ks[i]? = some p → tupAt K Z y p) → DpAll K Z zs (ks.map eP2)
  | [], [], _, _ => .nil
  | [], _ :: _, h, _ => by simp at h
  | _ :: _, [], h, _ => by simp at h
  | z :: zs, p :: ks, h, ht => by
    obtain ⟨t, rfl, hq⟩ := ht 0 z p rfl rfl
    exact .cons (.tup hq (.cons (.int _) (.cons (.int _) .nil))) (tups_da zs ks (by simpa using h) fun i y q a b => ht (i + 1) y q (by simpa using a) (by simpa using b))
theorem tupAt.of {K : PySem.W.Frag} {Z : Hp} {v : V} {p : Int × Int} (h : Dp K Z v (eP2 p)) : tupAt K Z v p := by
  cases h with
  | @tup a us _ hs ha =>
    cases ha with
    | cons h1 h2 =>
      cases h2 with
      | cons h3 h4 =>
        cases h4; cases h1; cases h3
        exact ⟨a, rfl, hs⟩
theorem tupAt.mono {K : PySem.W.Frag} {Z Z' : Hp} (s : Same Z Z') {v : V} {p : Int × Int} (h : tupAt K Z v p) : tupAt K Z' v p := by
  obtain ⟨t, e, hq⟩ := h
  exact ⟨t, e, Same.sqT s hq⟩
theorem c_sortedP : CallD X (.builtin "sorted") gSortedP := ⟨_, cr_sortedP, by
  intro Z H vs ds z Q zh q hz k
  unfold gSortedP at hz
  split at hz
  · rename_i ds'
    cases q with
    | cons h1 h2 =>
      cases h2
      cases h1 with
      | @lst a us _ hs ha =>
        cases e : pairsOf ds' with
        | none => rw [e] at hz; cases hz
        | some ps =>
          rw [e] at hz
          cases hz
          have e2 := pairsOf_eq e
          subst e2
          refine ⟨a, us, ps, rfl, zh.seq hs, by rw [da_length ha, List.length_map], fun i y p hy hp => ?_, fun zs ks' p h0 h1 h2 h3 hp => ?_⟩
          · obtain ⟨d, ed, qd⟩ := da_getV ha hy
            rw [List.getElem?_map, hp] at ed
            cases ed
            exact (tupAt.of qd).mono zh
          · have e3 := sortP_uniq h2 h3
            subst e3
            have al := Alc.new (o := .lst zs) zh hp
            -- what zs holds is frozen already
            have fz : ∀ (i : Nat) (y : V) (q : Int × Int), zs[i]? = some y → (sortP ps)[i]? = some q → tupAt X.K Z y q := fun i y q hy hq => by
              obtain ⟨j, j1, j2⟩ := h1 i y q hy hq
              obtain ⟨d, ed, qd⟩ := da_getV ha j1
              rw [List.getElem?_map, j2] at ed
              cases ed
              exact tupAt.of qd
            exact k _ _ _ al (.lst (SqL.of upd_same) (tups_da zs _ h0 fun i y q a b => (fz i y q a b).mono al.zz))
  · cases hz⟩
end
section
variable {X : Cx}
/-! ## lcm -/
def lcmOk (i j : Int) : Bool := decide (i.natAbs < 2 ^ 64) && decide (j.natAbs < 2 ^ 64)
def gLcm : List D → Option D := g2I lcmOk fun i j => .int (Nat.lcm i.natAbs j.natAbs)
theorem cr_lcm : CallR X (.builtin "math.lcm") (fun vs H Q => ∃ a b : Int, vs = [.int a, .int b] ∧ a.natAbs < 2 ^ 64 ∧ b.natAbs < 2 ^ 64 ∧ Q (.int ((Nat.lcm a.natAbs b.natAbs : Nat) : Int)) H) := by
  intro pins s σ H vs us Q I r h
  obtain ⟨a, b, rfl, ha, hb, q⟩ := h
  obtain ⟨t, u, rfl⟩ := Vals.int2 r
  exact PySem.W.mc_lcm ha hb fun _ => ⟨.int _, H, I.tok _, ⟨_, rfl⟩, q⟩
theorem c_lcm : CallD X (.builtin "math.lcm") gLcm := ⟨_, cr_lcm, by
  intro Z H vs ds z Q zh q hz k
  obtain ⟨i, j, rfl, hc, rfl⟩ := two_int q hz
  obtain ⟨c1, c2⟩ := andB hc
  exact ⟨i, j, rfl, of_decide_eq_true c1, of_decide_eq_true c2, k _ Z H (.refl zh) (.int _)⟩⟩
/-! ## repr of ints, True, False, None -/
def gRepr : List D → Option D
  | [.int i] => if i.natAbs.log2 < 1920 then some (.str (toString i)) else none
  | [.bool b] => some (.str (if b = true then "True" else "False"))
  | [.none] => some (.str "None")
  | _ => none
theorem cr_repr : CallR X (.builtin "repr") (fun vs H Q => (∃ i : Int, vs = [.int i] ∧ i.natAbs.log2 < 1920 ∧ Q (.str (toString i)) H) ∨ (∃ b, vs = [.bl b] ∧ Q (.str (if b = true then "True" else "False")) H) ∨ (vs = [.non] ∧ Q (.str "None") H)) := by
  intro pins s σ H vs us Q I r h
  rcases h with ⟨i, rfl, hz, q⟩ | ⟨b, rfl, q⟩ | ⟨rfl, q⟩
  · obtain ⟨u, rfl, t, rfl⟩ := vals1 r
    exact PySem.P.repr_of_int hz ⟨.str _, H, I.tok _, ⟨_, rfl⟩, q⟩
  · obtain ⟨u, rfl, ru⟩ := vals1 r
    cases ru
    exact PySem.P.repr_of_bool ⟨.str _, H, I.tok _, ⟨_, rfl⟩, by cases b <;> exact q⟩
  · obtain ⟨u, rfl, ru⟩ := vals1 r
    cases ru
    exact PySem.P.repr_of_none ⟨.str _, H, I.tok _, ⟨_, rfl⟩, q⟩
theorem c_repr : CallD X (.builtin "repr") gRepr := ⟨_, cr_repr, by
  intro Z H vs ds z Q zh q hz k
  unfold gRepr at hz
  split at hz
  · split at hz
    · cases hz
      cases q with
      | cons h1 h2 =>
        cases h2; cases h1
        exact .inl ⟨_, rfl, by assumption, k _ Z H (.refl zh) (.str _)⟩
    · cases hz
  · cases hz
    cases q with
    | cons h1 h2 =>
      cases h2; cases h1
      exact .inr (.inl ⟨_, rfl, k _ Z H (.refl zh) (.str _)⟩)
  · cases hz
    cases q with
    | cons h1 h2 =>
      cases h2; cases h1
      exact .inr (.inr ⟨rfl, k _ Z H (.refl zh) (.str _)⟩)
  · cases hz⟩
theorem c_sorted : CallD X (.builtin "sorted") gSorted := c_sortedI.or c_sortedP fun x z h => by
  unfold gSorted at h
  split at h
  · rename_i ds
    split at h
    · rename_i ns e
      cases h
      left
      show (intsOf ds).map _ = _
      rw [e]; rfl
    · split at h
      · rename_i ps e
        cases h
        right
        show (pairsOf ds).map _ = _
        rw [e]; rfl
      · cases h
  · cases h
/-! ## range with a step -/
def rg3Ok (i j c : Int) : Bool := decide (c ≠ 0) && (decide (c.natAbs < 1073741824) && Builtin.Range.small i j c)
def rangeC (i c : Int) (n : Nat) : List D := (List.range n).map fun k => .int (i + (k : Nat) * c)
def iRange3 (f g h : Fx D) : Fx (List D) := fun env => match f env with
  | some (.int i, e) => (match g e with
    | some (.int j, e2) => (match h e2 with
      | some (.int c, e3) => if rg3Ok i j c = true ∧ 0 ≤ Builtin.Range.rangeSize i j c then some (rangeC i c (Builtin.Range.rangeSize i j c).toNat, e3) else none
      | _ => none)
    | _ => none)
  | _ => none
theorem rangeC_it (K : PySem.W.Frag) (Z1 : Hp) (lo c : Int) (n : Nat) : ItOk K Z1 (Itc lo c n) (rangeC lo c n) := by
  intro Z H _ zh i
  refine ⟨fun d hd => ?_, fun hi => (show n ≤ i by simpa [rangeC] using hi)⟩
  unfold rangeC at hd
  rw [List.getElem?_map] at hd
  cases e : (List.range n)[i]? with
  | none => rw [e] at hd; cases hd
  | some k =>
    rw [e] at hd; cases hd
    obtain ⟨hk, ek⟩ := List.getElem?_eq_some_iff.mp e
    rw [List.getElem_range] at ek
    subst ek
    refine ⟨show i < n by simpa using hk, fun x H2 ⟨e1, e2⟩ => ?_⟩
    subst e1 e2
    exact ⟨Z, .refl zh, .int _⟩
theorem s_range3 {tg a b c : Expr} {p pos : Pos} {fa fb fc : Fx D} (h1 : PE X a (tE X.K fa)) (h2 : PE X b (tE X.K fb)) (h3 : PE X c (tE X.K fc)) (hg : Gl X "range") (hm : X.mg "range" = none)
    (s1 : starEach [a, b, c] X.env = (false, eval a X.env) :: starEach [b, c] X.env) (s2 : starEach [b, c] X.env = (false, eval b X.env) :: starEach [c] X.env) (s3 : starEach [c] X.env = (false, eval c X.env) :: starEach [] X.env) :
    PI X tg (.Call (.Name "range" p) [a, b, c] [] pos) (tI X.K (iRange3 fa fb fc)) := by
  refine PI.imp (pi_range3 hg hm (pa_cons h1 (pa_cons h2 (pa_cons h3 pa_nil s3) s2) s1) s1 (by rw [s2, s3]; rfl)) fun σ H R ⟨F, pa, Z, env, ds, env', W, e, k⟩ => ?_
  unfold iRange3 at e
  split at e
  · rename_i i env1 e1
    split at e
    · rename_i j env2 e2
      split at e
      · rename_i c env3 e3
        split at e
        · rename_i hc
          cases e
          obtain ⟨c1, c2⟩ := andB hc.1
          obtain ⟨c2, c3⟩ := andB c2
          refine ⟨F, pa, Z, env, _, _, W, e1, fun v Z1 H1 g1 W1 q1 => ?_⟩
          cases q1
          refine ⟨F, pa, Z1, _, _, _, W1, e2, fun v Z2 H2 g2 W2 q2 => ?_⟩
          cases q2
          refine ⟨F, pa, Z2, _, _, _, W2, e3, fun v Z3 H3 g3 W3 q3 => ?_⟩
          cases q3
          refine ⟨i, j, c, (Builtin.Range.rangeSize i j c).toNat, rfl, ⟨of_decide_eq_true c1, of_decide_eq_true c2, c3, by omega⟩, k _ Z3 H3 ((g1.trans g2).trans g3) W3 (rangeC_it _ _ _ _ _)⟩
        · cases e
      · cases e
    · cases e
  · cases e
end
end Ev
namespace Ev
open PySem PySem.Spec PyProof.Rows L2
/-! ## comprehensions of two clauses -/
theorem wipeE_idem (vs ws : List Nat) (env : En) (hs : ∀ v ∈ vs, v ∈ ws) : wipeE (wipeE env ws) vs = wipeE env ws := by
  refine List.ext_getElem? fun i => ?_
  by_cases hi : i ∈ vs
  · have hl : (wipeE (wipeE env ws) vs).length = (wipeE env ws).length := wipeE_length _ _
    by_cases hb : i < (wipeE env ws).length
    · have e1 : (wipeE (wipeE env ws) vs)[i]? = some ((wipeE (wipeE env ws) vs)[i]'(by rw [hl]; exact hb)) := by simp [hl, hb]
      have e2 : (wipeE env ws)[i]? = some ((wipeE env ws)[i]) := by simp [hb]
      rw [e1, e2, wipeE_in hi e1, wipeE_in (hs i hi) e2]
    · rw [List.getElem?_eq_none (by omega), List.getElem?_eq_none (by omega)]
  · rw [wipeE_out hi]
theorem wipe_in' {σ : L2.St} {j : Nat} : ∀ {vs : List Nat}, j ∈ vs → j < σ.length → (wipe σ vs)[j]? = some none
  | [], h, _ => by cases h
  | v :: vs, h, hl => by
    unfold wipe
    by_cases hv : v = j
    · subst hv; rw [List.getElem?_set_self (by rw [wipe_length]; exact hl)]
    · rw [List.getElem?_set_ne hv]
      exact wipe_in' ((List.mem_cons.mp h).resolve_left fun z => hv z.symm) hl
theorem wipe_same {σ σ5 : L2.St} {vs sl : List Nat} (hsl : ∀ i ∈ sl, i ∈ vs) (l5 : σ5.length = (wipe σ vs).length) (k5 : ∀ i, i ∉ sl → σ5[i]? = (wipe σ vs)[i]?) : wipe σ5 vs = wipe σ vs := by
  refine List.ext_getElem? fun j => ?_
  have hlen : (wipe σ vs).length = σ.length := wipe_length σ vs
  by_cases hj : j ∈ vs
  · by_cases hb : j < σ.length
    · rw [wipe_in' hj (by rw [l5, hlen]; exact hb), wipe_in' hj hb]
    · rw [List.getElem?_eq_none (by rw [wipe_length, l5, hlen]; omega), List.getElem?_eq_none (by rw [hlen]; omega)]
  · rw [wipe_out' hj, k5 j (fun z => hj (hsl j z))]
/-- what holds between two turns -/
def LcI (K : PySem.W.Frag) (F : Hp) (pa : Nat → Option Addr) (p : Addr) (τ : L2.St) (vs : List Nat) (Z1 : Hp) (R : List D → En → Prop) (H : Hp) : Prop :=
  ∃ Z2 env3 us acc, Gr F Z1 Z2 ∧ Z2 p = none ∧ H p = some (.lst us) ∧ DpAll K Z2 us acc ∧ Wst K (upd F p (.lst us)) Z2 H pa τ env3 ∧ wipeE env3 vs = env3 ∧ R acc env3
theorem lcIn_of {K : PySem.W.Frag} {sl : List Nat} {g : Gf} {c : Fx Bool} {f : Fx D} {vs : List Nat} (hsl : ∀ i ∈ sl, i ∈ vs) {F : Hp} {pa : Nat → Option Addr} {p : Addr} (fp : F p = none) {ds : List D} {J : It} {Z1 : Hp} (io : ItOk K Z1 J ds) {σ : L2.St} {Nx : Hp → Prop} {res : List D} {env2 : En} {H4 : Hp}
    (fin : ∀ H, LcI K F pa p (wipe σ vs) vs Z1 (fun acc e => acc = res ∧ e = env2) H → Nx H) (st : LcI K F pa p (wipe σ vs) vs Z1 (fun acc e => compL g c f vs ds acc e = some (res, env2)) H4) :
    ∃ W1 : Nat → Nat → Hp → Prop, (∃ m, W1 0 m H4) ∧ ∀ j k H, W1 j k H →
      (J.stop j H ∧ Nx H) ∨ (J.go j H ∧ ∃ Nx1 : Hp → Prop, (∀ H', Nx1 H' → ∃ k', k' < k ∧ W1 (j + 1) k' H') ∧ ∀ x H', J.yld j H x H' → tG K sl g x (wipe σ vs) H' fun σ3 H5 => wipe σ3 vs = wipe σ vs ∧ tT K c σ3 H5 fun b H6 =>
        if b = true then tE K f σ3 H6 fun y H7 => ∃ acc, H7 p = some (.lst acc) ∧ acc.length < sizeLine ∧ Nx1 (upd H7 p (.lst (acc ++ [y]))) else Nx1 H6) := by
  refine ⟨fun i m H => m = ds.length - i ∧ LcI K F pa p (wipe σ vs) vs Z1 (fun acc e => compL g c f vs (ds.drop i) acc e = some (res, env2)) H, ⟨_, rfl, by simpa using st⟩, ?_⟩
  rintro i m H ⟨rfl, Z2, env3, us, acc, g2, z2, hH, da, W2, wz, e2⟩
  obtain ⟨io1, io2⟩ := io Z2 H g2.zz W2.zh i
  by_cases hi : i < ds.length
  · rw [List.drop_eq_getElem_cons hi] at e2
    obtain ⟨jg, jy⟩ := io1 ds[i] (by simp [hi])
    refine .inr ⟨jg, fun H' => LcI K F pa p (wipe σ vs) vs Z1 (fun acc e => compL g c f vs (ds.drop (i + 1)) acc e = some (res, env2)) H', fun H' q => ⟨ds.length - (i + 1), by omega, rfl, q⟩, fun x H2 y => ?_⟩
    obtain ⟨Z3, al, dp⟩ := jy x H2 y
    unfold compL at e2
    split at e2
    · rename_i env4 h4
      have W3 := W2.alc al
      have sf : Same F (upd F p (.lst us)) := upd_none fp
      refine ⟨_, pa, Z3, env3, _, env4, W3, dp, h4, fun σ5 Z5 H5 g5 W5 l5 k5 => ⟨wipe_same hsl l5 k5, ?_⟩⟩
      have l5' : (wipe σ vs).length = σ5.length := l5.symm
      have s5 : ∀ i, i ∉ vs → (wipe σ vs)[i]? = σ5[i]? := fun i h => (k5 i fun z => h (hsl i z)).symm
      have gz : ∀ {Z : Hp}, Gr (upd F p (.lst us)) Z5 Z → Z p = none := fun {Z} g => by
        rw [g.nf p (by rw [upd_same]; exact fun z => nomatch z), g5.nf p (by rw [upd_same]; exact fun z => nomatch z)]
        by_cases q : Z3 p = none
        · exact q
        · have : Z3 p = Z2 p := al.nw p (by rw [hH]; exact fun z => nomatch z)
          rw [this]; exact z2
      split at e2
      · rename_i env5 h5
        refine ⟨_, pa, Z5, env4, true, env5, W5, h5, fun Z6 H6 g6 W6 => iteT ?_⟩
        split at e2
        · rename_i yy env6 h6
          refine ⟨_, pa, Z6, env5, yy, env6, W6, h6, fun v Z7 H7 g7 W7 q7 => ?_⟩
          by_cases hl : acc.length < sizeLine
          · rw [if_pos hl] at e2
            have g37 : Gr (upd F p (.lst us)) Z5 Z7 := g6.trans g7
            have p7 : H7 p = some (.lst us) := W7.fh p _ upd_same
            have zz : Same Z2 Z7 := al.zz.trans (g5.zz.trans g37.zz)
            refine ⟨us, p7, by rw [da_length da]; exact hl, Z7, wipeE env6 vs, us ++ [v], acc ++ [yy], ?_, gz g37, upd_same, da_append (DpAll.mono zz _ _ da) (.cons q7 .nil), (W7.wipeTo l5' s5).updF (gz g37), wipeE_idem _ _ _ fun _ h => h, e2⟩
            exact g2.trans (((al.gr W2.fh).trans (g5.trans g37)).frame sf)
          · rw [if_neg hl] at e2; cases e2
        · cases e2
      · rename_i env5 h5
        refine ⟨_, pa, Z5, env4, false, env5, W5, h5, fun Z6 H6 g6 W6 => iteF ?_⟩
        have zz : Same Z2 Z6 := al.zz.trans (g5.zz.trans g6.zz)
        exact ⟨Z6, wipeE env5 vs, us, acc, g2.trans (((al.gr W2.fh).trans (g5.trans g6)).frame sf), gz g6, W6.fh p _ upd_same, DpAll.mono zz _ _ da, W6.wipeTo l5' s5, wipeE_idem _ _ _ fun _ h => h, e2⟩
      · cases e2
    · cases e2
  · rw [List.drop_eq_nil_of_le (by omega)] at e2
    cases e2
    exact .inl ⟨io2 (by omega), fin H ⟨Z2, _, us, _, g2, z2, hH, da, W2, wz, rfl, rfl⟩⟩
def compL2 (g : Gf) (c : Fx Bool) (it1 : Fx (List D)) (g1 : Gf) (c1 : Fx Bool) (f : Fx D) (vs vs1 : List Nat) : List D → List D → Fx (List D)
  | [], acc => fun env => some (acc, env)
  | d :: ds, acc => fun env => match g d env with
    | some e1 => (match c e1 with
      | some (true, e2) => (match it1 e2 with
        | some (ds1, e3) => (match compL g1 c1 f vs1 ds1 acc (wipeE e3 vs1) with
          | some (acc2, e4) => compL2 g c it1 g1 c1 f vs vs1 ds acc2 (wipeE e4 vs)
          | none => none)
        | none => none)
      | some (false, e2) => compL2 g c it1 g1 c1 f vs vs1 ds acc (wipeE e2 vs)
      | none => none)
    | none => none
def eComp2 (it : Fx (List D)) (g : Gf) (c : Fx Bool) (it1 : Fx (List D)) (g1 : Gf) (c1 : Fx Bool) (f : Fx D) (vs vs1 : List Nat) : Fx R := fun env => match it env with
  | some (ds, e) => (compL2 g c it1 g1 c1 f vs vs1 ds [] (wipeE e vs)).map fun p => (.fresh p.1, p.2)
  | none => none
theorem tLc2_of {K : PySem.W.Frag} {it it1 : Fx (List D)} {sl sl1 : List Nat} {g g1 : Gf} {c c1 : Fx Bool} {f : Fx D} {vs vs1 : List Nat} (hsl : ∀ i ∈ sl, i ∈ vs) (hsl1 : ∀ i ∈ sl1, i ∈ vs1) (hvv : ∀ i ∈ vs1, i ∈ vs) {σ : L2.St} {H : Hp} {Q : VK} (h : tR K (eComp2 it g c it1 g1 c1 f vs vs1) σ H Q) :
    tLc2 (tI K it) (tG K sl g) (tT K c) (tI K it1) (tG K sl1 g1) (tT K c1) (tE K f) vs vs1 σ H Q := by
  obtain ⟨F, pa, Z, env, r, env', W, e, k⟩ := h
  unfold eComp2 at e
  split at e
  · rename_i ds env1 h1
    cases h2 : compL2 g c it1 g1 c1 f vs vs1 ds [] (wipeE env1 vs) with
    | none => rw [h2] at e; cases e
    | some q =>
      obtain ⟨res, env2⟩ := q
      rw [h2] at e
      cases e
      refine ⟨F, pa, Z, env, ds, env1, W, h1, fun J Z1 H1 g1' W1 io p hp => ?_⟩
      have fp : F p = none := W1.fh.free hp
      have zp : Z1 p = none := W1.zh.free hp
      refine ⟨fun i m H => m = ds.length - i ∧ LcI K F pa p (wipe σ vs) vs Z1 (fun acc e => compL2 g c it1 g1 c1 f vs vs1 (ds.drop i) acc e = some (res, env2)) H,
        ⟨_, rfl, Z1, wipeE env1 vs, [], [], .refl .., zp, upd_same, .nil, ?_, wipeE_idem _ _ _ fun _ h => h, by rw [List.drop_zero]; exact h2⟩, ?_⟩
      · have W2 : Wst K (upd F p (.lst [])) Z1 (upd H1 p (.lst [])) pa σ env1 := by
          have al : Alc Z1 H1 Z1 (upd H1 p (.lst [])) := ⟨Same.refl _, upd_none hp, fun b u e => by rw [upd_ne (fun z => by subst z; rw [zp] at e; cases e)]; exact W1.zh b u e, fun _ _ => rfl⟩
          refine (W1.alc al).frameUp upd_same fun i o s e1 e2 e3 => ?_
          obtain ⟨us, b1, _⟩ := (W1.sl i o s e1 e2).at_ ((W1.sl i o s e1 e2).back (fun b u _ h => al.hh b u h) e3)
          rw [hp] at b1; cases b1
        exact W2.wiped
      · rintro i m H ⟨rfl, Z2, env3, us, acc, g2, z2, hH, da, W2, wz, e2⟩
        obtain ⟨io1, io2⟩ := io Z2 H g2.zz W2.zh i
        by_cases hi : i < ds.length
        · rw [List.drop_eq_getElem_cons hi] at e2
          obtain ⟨jg, jy⟩ := io1 ds[i] (by simp [hi])
          refine .inr ⟨jg, fun H' => LcI K F pa p (wipe σ vs) vs Z1 (fun acc e => compL2 g c it1 g1 c1 f vs vs1 (ds.drop (i + 1)) acc e = some (res, env2)) H', fun H' q => ⟨ds.length - (i + 1), by omega, rfl, q⟩, fun x H2 y => ?_⟩
          obtain ⟨Z3, al, dp⟩ := jy x H2 y
          unfold compL2 at e2
          split at e2
          · rename_i env4 h4
            have W3 := W2.alc al
            have sf : Same F (upd F p (.lst us)) := upd_none fp
            refine ⟨_, pa, Z3, env3, _, env4, W3, dp, h4, fun σ5 Z5 H5 g5 W5 l5 k5 => ⟨wipe_same hsl l5 k5, ?_⟩⟩
            have l5' : (wipe σ vs).length = σ5.length := l5.symm
            have s5 : ∀ i, i ∉ vs → (wipe σ vs)[i]? = σ5[i]? := fun i h => (k5 i fun z => h (hsl i z)).symm
            have gz : ∀ {Z : Hp}, Gr (upd F p (.lst us)) Z5 Z → Z p = none := fun {Z} g => by
              rw [g.nf p (by rw [upd_same]; exact fun z => nomatch z), g5.nf p (by rw [upd_same]; exact fun z => nomatch z)]
              by_cases q : Z3 p = none
              · exact q
              · have : Z3 p = Z2 p := al.nw p (by rw [hH]; exact fun z => nomatch z)
                rw [this]; exact z2
            split at e2
            · rename_i env5 h5
              refine ⟨_, pa, Z5, env4, true, env5, W5, h5, fun Z6 H6 g6 W6 => iteT ?_⟩
              split at e2
              · rename_i ds1 env6 h6
                refine ⟨_, pa, Z6, env5, ds1, env6, W6, h6, fun J1 Z7 H7 g7 W7 io7 => ?_⟩
                cases h8 : compL g1 c1 f vs1 ds1 acc (wipeE env6 vs1) with
                | none => rw [h8] at e2; cases e2
                | some q =>
                  obtain ⟨acc2, env8⟩ := q
                  rw [h8] at e2
                  have g37 : Gr (upd F p (.lst us)) Z5 Z7 := g6.trans g7
                  have g17 : Gr F Z1 Z7 := g2.trans (((al.gr W2.fh).trans (g5.trans g37)).frame sf)
                  have zz : Same Z2 Z7 := al.zz.trans (g5.zz.trans g37.zz)
                  refine lcIn_of hsl1 fp io7 (res := acc2) (env2 := env8) (fun H8 q8 => ?_) ⟨Z7, wipeE env6 vs1, us, acc, .refl .., gz g37, W7.fh p _ upd_same, DpAll.mono zz _ _ da, W7.wiped, wipeE_idem _ _ _ fun _ h => h, h8⟩
                  obtain ⟨Z9, env9, us9, acc9, g9, z9, hH9, da9, W9, wz9, rfl, rfl⟩ := q8
                  refine ⟨Z9, wipeE env9 vs, us9, acc9, g17.trans g9, z9, hH9, da9, ?_, wipeE_idem _ _ _ fun _ h => h, e2⟩
                  refine W9.wipeTo (by rw [wipe_length σ5]; exact l5') fun i h => ?_
                  rw [s5 i h, wipe_out' (fun z => h (hvv i z))]
              · cases e2
            · rename_i env5 h5
              refine ⟨_, pa, Z5, env4, false, env5, W5, h5, fun Z6 H6 g6 W6 => iteF ?_⟩
              have zz : Same Z2 Z6 := al.zz.trans (g5.zz.trans g6.zz)
              exact ⟨Z6, wipeE env5 vs, us, acc, g2.trans (((al.gr W2.fh).trans (g5.trans g6)).frame sf), gz g6, W6.fh p _ upd_same, DpAll.mono zz _ _ da, W6.wipeTo l5' s5, wipeE_idem _ _ _ fun _ h => h, e2⟩
            · cases e2
          · cases e2
        · rw [List.drop_eq_nil_of_le (by omega)] at e2
          cases e2
          have sf : Same F (upd F p (.lst us)) := upd_none fp
          have W3 := (W2.frame sf).wipeTo (σ' := σ) (vs := vs) (wipe_length σ vs).symm fun i h => (wipe_out' h).symm
          rw [wz] at W3
          refine .inl ⟨io2 (by omega), k _ Z2 H (g1'.trans g2) W3 ⟨p, us, rfl, hH, z2, fp, da, fun i o s q1 q2 q3 => ?_⟩⟩
          by_cases hj : i ∈ vs
          · rw [← wz] at q2
            rw [wipeE_in hj q2] at q3
            exact q3.no.elim
          · obtain ⟨_, _, z, _⟩ := (W2.sl i o s (by rw [wipe_out' hj]; exact q1) q2).at_ q3
            rw [upd_same] at z; cases z
  · cases e
section
variable {X : Cx}
theorem s_comp2 {elt tg iter tg1 iter1 : Expr} {ifs ifs1 : List Expr} {scope : Scope} {own : List (Str × Nat)} {vs1 : List Nat} {pos : Pos} {it it1 : Fx (List D)} {sl sl1 : List Nat} {g g1 : Gf} {c c1 : Fx Bool} {f : Fx D} (hc : X.calm = true) (hN : X.N.Nodup) (hi : PI X tg iter (tI X.K it)) (ok : BlkOk X.N X.env.scope scope own)
    (hsl : ∀ i ∈ sl, i ∈ own.map (·.2)) (hsl1 : ∀ i ∈ sl1, i ∈ vs1) (hv : ∀ i ∈ vs1, i ∈ own.map (·.2))
    (hg : ∀ (s : Shared) (H : Hp) (C : Addr) (cl : List (Str × Addr)) (fp : List Addr), PG (X.blk s H scope (compEnvC scope cl C X.env) fp) tg (tG X.K sl g))
    (ht : ∀ (s : Shared) (H : Hp) (C : Addr) (cl : List (Str × Addr)) (fp : List Addr), PTs (X.blk s H scope (compEnvC scope cl C X.env) fp) ifs (tT X.K c))
    (hi1 : ∀ (s : Shared) (H : Hp) (C : Addr) (cl : List (Str × Addr)) (fp : List Addr), PI (X.blk s H scope (compEnvC scope cl C X.env) fp) tg1 iter1 (tI X.K it1))
    (hg1 : ∀ (s : Shared) (H : Hp) (C : Addr) (cl : List (Str × Addr)) (fp : List Addr), PG (X.blk s H scope (compEnvC scope cl C X.env) fp) tg1 (tG X.K sl1 g1))
    (ht1 : ∀ (s : Shared) (H : Hp) (C : Addr) (cl : List (Str × Addr)) (fp : List Addr), PTs (X.blk s H scope (compEnvC scope cl C X.env) fp) ifs1 (tT X.K c1))
    (he : ∀ (s : Shared) (H : Hp) (C : Addr) (cl : List (Str × Addr)) (fp : List Addr), PE (X.blk s H scope (compEnvC scope cl C X.env) fp) elt (tE X.K f)) (hs : ∀ x, foldedSetIterable iter X.env x = pure x) (hs1 : ∀ env x, foldedSetIterable iter1 env x = pure x) :
    PE X (.ListComp elt [⟨tg, iter, ifs, 0⟩, ⟨tg1, iter1, ifs1, 0⟩] scope pos) (tR X.K (eComp2 it g c it1 g1 c1 f (own.map (·.2)) vs1)) :=
  PE.imp (pe_lc2 hc hN hi ok hv hg ht hi1 hg1 ht1 he hs hs1) fun σ H Q h => tLc2_of hsl hsl1 hv h
theorem s_setComp2 {i : Nat} {y : Str} {py : Pos} {elt tg iter tg1 iter1 : Expr} {ifs ifs1 : List Expr} {scope : Scope} {own : List (Str × Nat)} {vs1 : List Nat} {pos spos : Pos} {it it1 : Fx (List D)} {sl sl1 : List Nat} {g g1 : Gf} {c c1 : Fx Bool} {f : Fx D} (hc : X.calm = true) (hN : X.N.Nodup) (hy : X.N[i]? = some y) (hyl : X.env.scope.names.lookup y = some .local)
    (hsw : swapsWith (.ListComp elt [⟨tg, iter, ifs, 0⟩, ⟨tg1, iter1, ifs1, 0⟩] scope pos) (some (.Name y py)) spos.line X.env = pure true) (hi : PI X tg iter (tI X.K it)) (ok : BlkOk X.N X.env.scope scope own)
    (hsl : ∀ i ∈ sl, i ∈ own.map (·.2)) (hsl1 : ∀ i ∈ sl1, i ∈ vs1) (hv : ∀ i ∈ vs1, i ∈ own.map (·.2))
    (hg : ∀ (s : Shared) (H : Hp) (C : Addr) (cl : List (Str × Addr)) (fp : List Addr), PG (X.blk s H scope (compEnvC scope cl C X.env) fp) tg (tG X.K sl g))
    (ht : ∀ (s : Shared) (H : Hp) (C : Addr) (cl : List (Str × Addr)) (fp : List Addr), PTs (X.blk s H scope (compEnvC scope cl C X.env) fp) ifs (tT X.K c))
    (hi1 : ∀ (s : Shared) (H : Hp) (C : Addr) (cl : List (Str × Addr)) (fp : List Addr), PI (X.blk s H scope (compEnvC scope cl C X.env) fp) tg1 iter1 (tI X.K it1))
    (hg1 : ∀ (s : Shared) (H : Hp) (C : Addr) (cl : List (Str × Addr)) (fp : List Addr), PG (X.blk s H scope (compEnvC scope cl C X.env) fp) tg1 (tG X.K sl1 g1))
    (ht1 : ∀ (s : Shared) (H : Hp) (C : Addr) (cl : List (Str × Addr)) (fp : List Addr), PTs (X.blk s H scope (compEnvC scope cl C X.env) fp) ifs1 (tT X.K c1))
    (he : ∀ (s : Shared) (H : Hp) (C : Addr) (cl : List (Str × Addr)) (fp : List Addr), PE (X.blk s H scope (compEnvC scope cl C X.env) fp) elt (tE X.K f)) (hs : ∀ x, foldedSetIterable iter X.env x = pure x) (hs1 : ∀ env x, foldedSetIterable iter1 env x = pure x) :
    PS X (.Assign [.Name y py] (.ListComp elt [⟨tg, iter, ifs, 0⟩, ⟨tg1, iter1, ifs1, 0⟩] scope pos) spos) (tS X.K (sSet i (eComp2 it g c it1 g1 c1 f (own.map (·.2)) vs1))) :=
  s_setG (ps_setLc2 hc hN hy hyl hsw hi ok hv hg ht hi1 hg1 ht1 he hs hs1) fun σ H Q h => tLc2_of hsl hsl1 hv h
end
end Ev
namespace Ev
open PySem PySem.Spec PyProof.Rows L2
/-! ## matrices: a new list of new lists -/
theorem ne_mem {a b : Addr} {l : List Addr} (m : a ∈ l) (h : b ∉ l) : a ≠ b := fun z => h (z ▸ m)
section
variable {K : PySem.W.Frag} {F Z H : Hp}
theorem RowsOk.length {us : List V} {dss : List (List D)} {bs : List Addr} (h : RowsOk K F Z H us dss bs) : us.length = dss.length := by
  induction h with
  | nil => rfl
  | cons _ _ _ _ _ _ ih => exact congrArg Nat.succ ih
theorem RowsOk.get {us : List V} {dss : List (List D)} {bs : List Addr} (h : RowsOk K F Z H us dss bs) : ∀ {j : Nat} {ds : List D}, dss[j]? = some ds → ∃ b ws, us[j]? = some (.ref b) ∧ b ∈ bs ∧ H b = some (.lst ws) ∧ F b = none ∧ Z b = none ∧ DpAll K Z ws ds := by
  induction h with
  | nil => intro j ds e; simp at e
  | @cons b ws us ds dss bs h1 h2 h3 h4 h5 _ ih =>
    intro j d e
    cases j with
    | zero => simp at e; subst e; exact ⟨b, ws, rfl, List.mem_cons_self .., h1, h2, h3, h4⟩
    | succ j =>
      obtain ⟨b', ws', e1, e2, e3⟩ := ih (j := j) (by simpa using e)
      exact ⟨b', ws', by simpa using e1, List.mem_cons_of_mem _ e2, e3⟩
theorem RowsOk.snoc {us : List V} {dss : List (List D)} {bs : List Addr} {q : Addr} {ws : List V} {ds : List D} (h : RowsOk K F Z H us dss bs) (h1 : H q = some (.lst ws)) (h2 : F q = none) (h3 : Z q = none) (h4 : DpAll K Z ws ds) (h5 : q ∉ bs) : RowsOk K F Z H (us ++ [.ref q]) (dss ++ [ds]) (bs ++ [q]) := by
  induction h with
  | nil => exact .cons h1 h2 h3 h4 (fun z => by cases z) .nil
  | cons a1 a2 a3 a4 a5 _ ih =>
    rw [List.mem_cons, not_or] at h5
    refine .cons a1 a2 a3 a4 (fun m => ?_) (ih h5.2)
    rcases List.mem_append.mp m with m | m
    · exact a5 m
    · rw [List.mem_singleton] at m; exact h5.1 m.symm
/-- a row is changed -/
theorem RowsOk.chg {us : List V} {dss : List (List D)} {bs : List Addr} (h : RowsOk K F Z H us dss bs) : ∀ {j : Nat} {b : Addr} {ws : List V} {ds : List D}, us[j]? = some (.ref b) → DpAll K Z ws ds → RowsOk K F Z (upd H b (.lst ws)) us (dss.set j ds) bs := by
  induction h with
  | nil => intro j b ws ds e _; simp at e
  | @cons c ws0 us ds0 dss bs h1 h2 h3 h4 h5 h6 ih =>
    intro j b ws ds e q
    cases j with
    | zero =>
      have e' : c = b := by simpa using e
      subst e'
      refine .cons upd_same h2 h3 q h5 (h6.mono (fun _ _ h => h) (fun a m u hu => ?_) (fun _ _ h => h) fun _ _ => rfl)
      rw [upd_ne (ne_mem m h5)]; exact hu
    | succ j =>
      have e' : us[j]? = some (.ref b) := by simpa using e
      have ne : c ≠ b := fun z => h5 (z ▸ h6.ref (List.mem_of_getElem? e'))
      exact .cons (by rw [upd_ne ne]; exact h1) h2 h3 h4 h5 (ih e' q)
theorem upd_comm {a b : Addr} {x y : HO} (h : a ≠ b) : upd (upd H a x) b y = upd (upd H b y) a x := by
  funext c
  by_cases ha : c = a
  · subst ha; rw [upd_ne h, upd_same, upd_same]
  · by_cases hb : c = b
    · subst hb; rw [upd_same, upd_ne ha, upd_same]
    · rw [upd_ne hb, upd_ne ha, upd_ne ha, upd_ne hb]
end
theorem wipeE_twice (env : En) (vs : List Nat) : wipeE (wipeE env vs) vs = wipeE env vs := by
  refine List.ext_getElem? fun i => ?_
  by_cases hi : i ∈ vs
  · have hl : (wipeE (wipeE env vs) vs).length = (wipeE env vs).length := wipeE_length _ _
    by_cases hb : i < (wipeE env vs).length
    · have e1 : (wipeE (wipeE env vs) vs)[i]? = some ((wipeE (wipeE env vs) vs)[i]'(by rw [hl]; exact hb)) := by simp [hl, hb]
      have e2 : (wipeE env vs)[i]? = some ((wipeE env vs)[i]) := by simp [hb]
      rw [e1, e2, wipeE_in hi e1, wipeE_in hi e2]
    · rw [List.getElem?_eq_none (by omega), List.getElem?_eq_none (by omega)]
  · rw [wipeE_out hi]
def compLM (g : Gf) (c : Fx Bool) (f : Fx R) (vs : List Nat) : List D → List (List D) → Fx (List (List D))
  | [], acc => fun env => some (acc, env)
  | d :: ds, acc => fun env => match g d env with
    | some e1 => (match c e1 with
      | some (true, e2) => (match f e2 with
        | some (.fresh y, e3) => if acc.length < sizeLine then compLM g c f vs ds (acc ++ [y]) (wipeE e3 vs) else none
        | _ => none)
      | some (false, e2) => compLM g c f vs ds acc (wipeE e2 vs)
      | none => none)
    | none => none
def eCompM (it : Fx (List D)) (g : Gf) (c : Fx Bool) (f : Fx R) (vs : List Nat) : Fx R := fun env => match it env with
  | some (ds, e) => (compLM g c f vs ds [] (wipeE e vs)).map fun p => (.mat p.1, p.2)
  | none => none
theorem tLcM_of {K : PySem.W.Frag} {it : Fx (List D)} {sl : List Nat} {g : Gf} {c : Fx Bool} {f : Fx R} {vs : List Nat} (hsl : ∀ i ∈ sl, i ∈ vs) {σ : L2.St} {H : Hp} {Q : VK} (h : tR K (eCompM it g c f vs) σ H Q) :
    tLc (tI K it) (tG K sl g) (tT K c) (tR K f) vs σ H Q := by
  obtain ⟨F, pa, Z, env, r, env', W, e, k⟩ := h
  unfold eCompM at e
  split at e
  · rename_i ds env1 h1
    cases h2 : compLM g c f vs ds [] (wipeE env1 vs) with
    | none => rw [h2] at e; cases e
    | some q =>
      obtain ⟨res, env2⟩ := q
      rw [h2] at e
      cases e
      refine ⟨F, pa, Z, env, ds, env1, W, h1, fun J Z1 H1 g1 W1 io p hp => ?_⟩
      have fp : F p = none := W1.fh.free hp
      have zp : Z1 p = none := W1.zh.free hp
      -- the rows made so far stand in the frame G
      let Inv : Nat → Hp → Prop := fun i H => ∃ Z2 env3 us acc bs G, Gr F Z1 Z2 ∧ Same F G ∧ G p = none ∧ Z2 p = none ∧ H p = some (.lst us) ∧ RowsOk K F Z2 H us acc bs ∧ p ∉ bs ∧ (∀ b ∈ bs, G b = H b) ∧ Wst K (upd G p (.lst us)) Z2 H pa (wipe σ vs) env3 ∧ wipeE env3 vs = env3 ∧ compLM g c f vs (ds.drop i) acc env3 = some (res, env2)
      refine ⟨fun i m H => m = ds.length - i ∧ Inv i H,
        ⟨_, rfl, Z1, wipeE env1 vs, [], [], [], F, .refl .., Same.refl _, fp, zp, upd_same, .nil, (fun z => by cases z), (fun b z => by cases z), ?_, wipeE_twice _ _, by rw [List.drop_zero]; exact h2⟩, ?_⟩
      · have W2 : Wst K (upd F p (.lst [])) Z1 (upd H1 p (.lst [])) pa σ env1 := by
          have al : Alc Z1 H1 Z1 (upd H1 p (.lst [])) := ⟨Same.refl _, upd_none hp, fun b u e => by rw [upd_ne (fun z => by subst z; rw [zp] at e; cases e)]; exact W1.zh b u e, fun _ _ => rfl⟩
          refine (W1.alc al).frameUp upd_same fun i o s e1 e2 e3 => ?_
          obtain ⟨us, b1, _⟩ := (W1.sl i o s e1 e2).at_ ((W1.sl i o s e1 e2).back (fun b u _ h => al.hh b u h) e3)
          rw [hp] at b1; cases b1
        exact W2.wiped
      · rintro i m H ⟨rfl, Z2, env3, us, acc, bs, G, g2, fg, gp, z2, hH, ro, pb, gb, W2, wz, e2⟩
        obtain ⟨io1, io2⟩ := io Z2 H g2.zz W2.zh i
        have sf : Same F (upd G p (.lst us)) := fg.trans (upd_none gp)
        by_cases hi : i < ds.length
        · rw [List.drop_eq_getElem_cons hi] at e2
          obtain ⟨jg, jy⟩ := io1 ds[i] (by simp [hi])
          refine .inr ⟨jg, Inv (i + 1), fun H' q => ⟨ds.length - (i + 1), by omega, rfl, q⟩, fun x H2 y => ?_⟩
          obtain ⟨Z3, al, dp⟩ := jy x H2 y
          unfold compLM at e2
          split at e2
          · rename_i env4 h4
            have W3 := W2.alc al
            refine ⟨_, pa, Z3, env3, _, env4, W3, dp, h4, fun σ5 Z5 H5 g5 W5 l5 k5 => ⟨?_, ?_⟩⟩
            · refine List.ext_getElem? fun j => ?_
              by_cases hj : j ∈ vs
              · have hlen : (wipe σ vs).length = σ.length := wipe_length σ vs
                by_cases hb : j < σ.length
                · rw [wipe_in' hj (by rw [l5, hlen]; exact hb), wipe_in' hj hb]
                · rw [List.getElem?_eq_none (by rw [wipe_length, l5, hlen]; omega), List.getElem?_eq_none (by rw [hlen]; omega)]
              · rw [wipe_out' hj, k5 j (fun z => hj (hsl j z))]
            · have l5' : (wipe σ vs).length = σ5.length := l5.symm
              have s5 : ∀ i, i ∉ vs → (wipe σ vs)[i]? = σ5[i]? := fun i h => (k5 i fun z => h (hsl i z)).symm
              -- what stands in the frame is not newly frozen
              have keepZ : ∀ {Z : Hp} {b : Addr}, Gr (upd G p (.lst us)) Z5 Z → (b = p ∨ b ∈ bs) → Z b = Z2 b := fun {Z b} g hb => by
                have ne : upd G p (.lst us) b ≠ none := by
                  rcases hb with rfl | hb
                  · rw [upd_same]; exact fun z => nomatch z
                  · rw [upd_ne (ne_mem hb pb), gb b hb]
                    obtain ⟨_, ⟨ws, q⟩, _⟩ := ro.mem hb
                    rw [q]; exact fun z => nomatch z
                rw [g.nf b ne, g5.nf b ne]
                refine al.nw b ?_
                rcases hb with rfl | hb
                · rw [hH]; exact fun z => nomatch z
                · obtain ⟨_, ⟨ws, q⟩, _⟩ := ro.mem hb
                  rw [q]; exact fun z => nomatch z
              have rows : ∀ {Z' H' : Hp}, Same Z2 Z' → Gr (upd G p (.lst us)) Z5 Z' → Same (upd G p (.lst us)) H' → RowsOk K F Z' H' us acc bs := fun {Z' H'} zz gg hh =>
                ro.mono (fun ws ds => DpAll.mono zz ds ws) (fun b m u hu => hh b u (by rw [upd_ne (ne_mem m pb), gb b m]; exact hu)) (fun _ _ h => h) fun b m => keepZ gg (.inr m)
              split at e2
              · rename_i env5 h5
                refine ⟨_, pa, Z5, env4, true, env5, W5, h5, fun Z6 H6 g6 W6 => iteT ?_⟩
                split at e2
                · rename_i yy env6 h6
                  refine ⟨_, pa, Z6, env5, _, env6, W6, h6, fun v Z7 H7 g7 W7 q7 => ?_⟩
                  by_cases hl : acc.length < sizeLine
                  · rw [if_pos hl] at e2
                    obtain ⟨q, ws, rfl, hq, zq, fq, da, no⟩ := q7
                    have g37 : Gr (upd G p (.lst us)) Z5 Z7 := g6.trans g7
                    have p7 : H7 p = some (.lst us) := W7.fh p _ upd_same
                    have zz : Same Z2 Z7 := al.zz.trans (g5.zz.trans g37.zz)
                    have qp : q ≠ p := fun z => by rw [z, upd_same] at fq; cases fq
                    have gq : G q = none := by rw [upd_ne qp] at fq; exact fq
                    have qb : q ∉ bs := fun m => by
                      obtain ⟨_, ⟨w0, z⟩, _⟩ := ro.mem m
                      rw [← gb q m, gq] at z; cases z
                    have z7 : Z7 p = none := (keepZ g37 (.inl rfl)).trans z2
                    refine ⟨us, p7, by rw [ro.length]; exact hl, Z7, wipeE env6 vs, us ++ [.ref q], acc ++ [yy], bs ++ [q], upd G q (.lst ws), ?_, fg.trans (upd_none gq), by rw [upd_ne (Ne.symm qp)]; exact gp, z7, upd_same, ?_, ?_, ?_, ?_, wipeE_twice _ _, e2⟩
                    · exact g2.trans (((al.gr W2.fh).trans (g5.trans g37)).frame sf)
                    · refine RowsOk.snoc (ws := ws) ?_ (by rw [upd_ne qp]; exact hq) (fg.free gq) zq da qb
                      exact (rows zz g37 W7.fh).mono (fun _ _ h => h) (fun b m u hu => by rw [upd_ne (ne_mem m pb)]; exact hu) (fun _ _ h => h) fun _ _ => rfl
                    · intro m
                      rcases List.mem_append.mp m with m | m
                      · exact pb m
                      · rw [List.mem_singleton] at m; exact qp m.symm
                    · intro b m
                      rcases List.mem_append.mp m with m | m
                      · have bp : b ≠ p := fun z => pb (z ▸ m)
                        have bq : b ≠ q := fun z => qb (z ▸ m)
                        obtain ⟨_, ⟨w0, z⟩, _⟩ := ro.mem m
                        rw [upd_ne bq, upd_ne bp, gb b m, z]
                        exact (W7.fh b _ (by rw [upd_ne bp, gb b m]; exact z)).symm
                      · rw [List.mem_singleton] at m; subst m
                        rw [upd_same, upd_ne qp]; exact hq.symm
                    · have W8 := W7.frameUp hq no
                      rw [upd_comm (Ne.symm qp)] at W8
                      exact (W8.wipeTo l5' s5).updF z7
                  · rw [if_neg hl] at e2; cases e2
                · cases e2
              · rename_i env5 h5
                refine ⟨_, pa, Z5, env4, false, env5, W5, h5, fun Z6 H6 g6 W6 => iteF ?_⟩
                have zz : Same Z2 Z6 := al.zz.trans (g5.zz.trans g6.zz)
                have ne : ∀ b ∈ bs, G b = H6 b := fun b m => by
                  have bp : b ≠ p := fun z => pb (z ▸ m)
                  obtain ⟨_, ⟨w0, z⟩, _⟩ := ro.mem m
                  rw [gb b m, z]
                  exact (W6.fh b _ (by rw [upd_ne bp, gb b m]; exact z)).symm
                exact ⟨Z6, wipeE env5 vs, us, acc, bs, G, g2.trans (((al.gr W2.fh).trans (g5.trans g6)).frame sf), fg, gp, (keepZ g6 (.inl rfl)).trans z2, W6.fh p _ upd_same, rows zz g6 W6.fh, pb, ne, W6.wipeTo l5' s5, wipeE_twice _ _, e2⟩
              · cases e2
          · cases e2
        · rw [List.drop_eq_nil_of_le (by omega)] at e2
          cases e2
          have W3 := (W2.frame sf).wipeTo (σ' := σ) (vs := vs) (wipe_length σ vs).symm fun i h => (wipe_out' h).symm
          rw [wz] at W3
          refine .inl ⟨io2 (by omega), k _ Z2 H (g1.trans g2) W3 ⟨p, us, bs, rfl, hH, z2, fp, ro, pb, fun q hq i o s q1 q2 q3 => ?_⟩⟩
          by_cases hj : i ∈ vs
          · rw [← wz] at q2
            rw [wipeE_in hj q2] at q3
            exact q3.no
          · obtain ⟨_, _, z, _⟩ := (W2.sl i o s (by rw [wipe_out' hj]; exact q1) q2).at_ q3
            rcases hq with rfl | hq
            · rw [upd_same] at z; cases z
            · obtain ⟨_, ⟨w0, z0⟩, _⟩ := ro.mem hq
              rw [upd_ne (ne_mem hq pb), gb q hq, z0] at z; cases z
  · cases e
/-! ### items of items -/
/-- x[a][b], x a matrix -/
def item2M (i : Nat) (f1 f2 : Fx D) : Fx D := fun env => match f1 env with
  | some (.int k, e1) => (match e1[i]? with
    | some (.mat dss) => (match atI dss k with
      | some ds => (match f2 (e1.set i .no) with
        | some (.int m, e2) => (match atI ds m with
          | some z => some (z, e2.set i (.mat dss))
          | none => none)
        | _ => none)
      | none => none)
    | _ => none)
  | _ => none
def isMat : Sl → Bool
  | .mat _ => true
  | _ => false
def eItem2 (i : Nat) (f1 f2 : Fx D) : Fx D := fun env => match env[i]? with
  | some s => if isMat s = true then item2M i f1 f2 env else eOp gItem (eItemN i f1) f2 env
  | none => none
section
variable {K : PySem.W.Frag} {F Z H : Hp} {pa : Nat → Option Addr} {σ : L2.St} {env : En}
/-- the frame with a matrix in it -/
def fAdd (F H : Hp) (l : List Addr) : Hp := fun b => if b ∈ l then H b else F b
theorem fAdd_in {l : List Addr} {b : Addr} (h : b ∈ l) : fAdd F H l b = H b := if_pos h
theorem fAdd_out {l : List Addr} {b : Addr} (h : b ∉ l) : fAdd F H l b = F b := if_neg h
theorem fAdd_sf {l : List Addr} (h : ∀ b ∈ l, F b = none) : Same F (fAdd F H l) := fun b u e => by
  by_cases m : b ∈ l
  · rw [h b m] at e; cases e
  · rw [fAdd_out m]; exact e
/-- a matrix's slot set aside -/
theorem Wst.aside {i : Nat} {a : Addr} {us : List V} {dss : List (List D)} {bs : List Addr} (W : Wst K F Z H pa σ env) (e1 : σ[i]? = some (some (.ref a))) (e2 : env[i]? = some (.mat dss)) (h1 : H a = some (.lst us)) (h2 : F a = none) (h4 : RowsOk K F Z H us dss bs) :
    Wst K (fAdd F H (a :: bs)) Z H pa σ (env.set i .no) := by
  have W1 := W.move (i := i)
  have hi : i < env.length := (List.getElem?_eq_some_iff.mp e2).1
  refine ⟨fun b u e => ?_, W.zh, W1.len, fun j o s q1 q2 => ?_, W1.dj⟩
  · by_cases m : b ∈ a :: bs
    · rw [fAdd_in m] at e; exact e
    · rw [fAdd_out m] at e; exact W.fh b u e
  · have so := W1.sl j o s q1 q2
    have ff : ∀ b, Ow H o s b → F b = none → fAdd F H (a :: bs) b = none := fun b hb hf => by
      rw [fAdd_out fun m => ?_]
      · exact hf
      · by_cases hj : i = j
        · subst hj
          rw [List.getElem?_set_self hi] at q2; cases q2
          exact hb.no
        · rw [List.getElem?_set_ne hj] at q2
          exact W.dj i j _ o _ s b hj e1 e2 q1 q2 ((List.mem_cons.mp m).elim .inl fun m => .inr ⟨us, h1, (h4.mem m).1⟩) hb
    cases so with
    | no => exact .no _
    | val d => exact .val d
    | own z1 z2 z3 z4 => exact .own z1 (ff _ rfl z2) z3 z4
    | par z0 z1 z2 z3 z4 => exact .par z0 z1 (ff _ rfl z2) z3 z4
    | mat z1 z2 z3 z4 z5 => exact .mat z1 (ff _ (.inl rfl) z2) z3 (z4.mono (fun _ _ h => h) (fun _ _ _ h => h) (fun b m h => ff b (.inr ⟨_, z1, (z4.mem m).1⟩) h) fun _ _ => rfl) z5
/-- and put back -/
theorem Wst.putM {i : Nat} {a : Addr} {us : List V} {dss : List (List D)} {bs : List Addr} {Z' H' : Hp} {env2 : En} (h1 : H a = some (.lst us)) (h2 : F a = none) (h3 : Z a = none) (h4 : RowsOk K F Z H us dss bs) (h5 : a ∉ bs) (g : Gr (fAdd F H (a :: bs)) Z Z')
    (e1 : σ[i]? = some (some (.ref a))) (W : Wst K (fAdd F H (a :: bs)) Z' H' pa σ env2) : Gr F Z Z' ∧ H' a = some (.lst us) ∧ Z' a = none ∧ RowsOk K F Z' H' us dss bs ∧ Wst K F Z' H' pa σ (env2.set i (.mat dss)) := by
  have sf : Same F (fAdd F H (a :: bs)) := fAdd_sf fun b m => (List.mem_cons.mp m).elim (fun z => z ▸ h2) fun m => (h4.mem m).2.2.1
  have some_ : ∀ b ∈ a :: bs, ∃ ws, H b = some (.lst ws) := fun b m => (List.mem_cons.mp m).elim (fun z => ⟨us, z ▸ h1⟩) fun m => (h4.mem m).2.1
  have hh : ∀ b ∈ a :: bs, ∀ u, H b = some u → H' b = some u := fun b m u hu => W.fh b u (by rw [fAdd_in m]; exact hu)
  have nz : ∀ b ∈ a :: bs, Z' b = Z b := fun b m => g.nf b (by
    obtain ⟨ws, q⟩ := some_ b m
    rw [fAdd_in m, q]; exact fun z => nomatch z)
  have r1 := hh a (List.mem_cons_self ..) _ h1
  have r2 := (nz a (List.mem_cons_self ..)).trans h3
  have r3 : RowsOk K F Z' H' us dss bs := h4.mono (fun ws ds => DpAll.mono g.zz ds ws) (fun b m => hh b (List.mem_cons_of_mem _ m)) (fun _ _ h => h) fun b m => nz b (List.mem_cons_of_mem _ m)
  refine ⟨g.frame sf, r1, r2, r3, ?_⟩
  have Wf := W.frame sf
  have key := Wf.setNew (i := i) (v := .ref a) (s' := .mat dss) (.mat r1 h2 r2 r3 h5) fun q hq j o s q1 q2 q3 => by
    obtain ⟨_, _, z, _⟩ := (W.sl j o s q1 q2).at_ q3
    have m : q ∈ a :: bs := by
      rcases hq with rfl | ⟨us', w1, w2⟩
      · exact List.mem_cons_self ..
      · rw [r1] at w1; cases w1
        exact List.mem_cons_of_mem _ (r3.ref w2)
    obtain ⟨ws, w⟩ := some_ q m
    rw [fAdd_in m, w] at z; cases z
  have es : σ.set i (some (.ref a)) = σ := by
    refine List.ext_getElem? fun j => ?_
    by_cases hj : i = j
    · subst hj
      rw [List.getElem?_set_self (List.getElem?_eq_some_iff.mp e1).1]; exact e1.symm
    · rw [List.getElem?_set_ne hj]
  rw [es] at key
  exact key
theorem isMat_some {s : Sl} (h : isMat s = true) : ∃ dss, s = .mat dss := by
  cases s <;> first | exact ⟨_, rfl⟩ | cases h
end
section
variable {X : Cx} {pos : Pos}
theorem item2_of {K : PySem.W.Frag} {i : Nat} {f1 f2 : Fx D} {σ : L2.St} {H : Hp} {Q : VK} (h : tE K (item2M i f1 f2) σ H Q) (s0 : ∀ {F pa Z env}, Wst K F Z H pa σ env → ∀ s, env[i]? = some s → True) :
    (∃ F pa Z env, Wst K F Z H pa σ env ∧ ∃ dss, env[i]? = some (.mat dss)) → tOp (rIx K) (tOp (rIx K) (tVar i) (tE K f1)) (tE K f2) σ H Q := by
  rintro ⟨F0, pa0, Z0, env0, W0, dss0, e0⟩
  obtain ⟨F, pa, Z, env, d, env', W, e, k⟩ := h
  obtain ⟨o, eo, so0⟩ := W0.get e0
  cases so0 with
  | @mat a us0 _ bs0 _ _ _ _ _ =>
    unfold item2M at e
    split at e
    · rename_i kk env1 q1
      split at e
      · rename_i dss q2
        split at e
        · rename_i ds q3
          split at e
          · rename_i m env2 q4
            cases q5 : atI ds m with
            | none => rw [q5] at e; cases e
            | some z =>
              rw [q5] at e
              cases e
              refine ⟨_, eo, F, pa, Z, env, _, env1, W, q1, fun y Z1 H1 g1 W1 y1 => ?_⟩
              cases y1
              cases W1.sl i _ _ eo q2 with
              | @mat _ us _ bs z1 z2 z3 z4 z5 =>
                unfold atI at q3
                cases hj : ixN dss.length kk with
                | none => rw [hj] at q3; cases q3
                | some j =>
                  rw [hj, Option.bind_some] at q3
                  obtain ⟨b, ws, b1, b2, b3, b4, b5, b6⟩ := z4.get q3
                  refine .inl ⟨a, us, kk, .ref b, rfl, rfl, SqL.of z1, by unfold atI; rw [z4.length, hj]; exact b1, ?_⟩
                  refine ⟨_, pa, Z1, _, _, env2, W1.aside eo q2 z1 z2 z4, q4, fun y2 Z2 H2 g2 W2 y3 => ?_⟩
                  cases y3
                  obtain ⟨r0, r1, r2, r3, r4⟩ := Wst.putM z1 z2 z3 z4 z5 g2 eo W2
                  have hb : H2 b = some (.lst ws) := W2.fh b _ (by rw [fAdd_in (List.mem_cons_of_mem _ b2)]; exact b3)
                  obtain ⟨v, ev, dv⟩ := atI_da (DpAll.mono r0.zz _ _ b6) q5
                  exact .inl ⟨b, ws, m, v, rfl, rfl, SqL.of hb, ev, k v Z2 H2 (g1.trans r0) r4 dv⟩
          · cases e
        · cases e
      · cases e
    · cases e
theorem s_item2 {i : Nat} {x : Str} {np p1 : Pos} {a b : Expr} {f1 f2 : Fx D} (ho : PE X (.Name x np) (tVar i)) (ha : PE X a (tE X.K f1)) (hb : PE X b (tE X.K f2)) (hs : PlainIx a) (hs2 : PlainIx b) :
    PE X (.Subscript (.Subscript (.Name x np) a p1) b pos) (tE X.K (eItem2 i f1 f2)) := by
  have A := pe_ix ix_seq (pe_ix (pos := p1) ix_seq ho ha hs) hb hs2 (pos := pos)
  have B := s_item (pos := pos) (s_itemN (pos := p1) ho ha hs) hb hs2
  refine ⟨fun pins s σ H Q I h => ?_⟩
  obtain ⟨F, pa, Z, env, d, env', W, e, k⟩ := h
  unfold eItem2 at e
  split at e
  · rename_i s0 e0
    by_cases hm : isMat s0 = true
    · rw [if_pos hm] at e
      obtain ⟨dss, rfl⟩ := isMat_some hm
      exact A.run pins s σ H Q I (item2_of ⟨F, pa, Z, env, d, env', W, e, k⟩ (fun _ _ _ => trivial) ⟨F, pa, Z, env, W, dss, e0⟩)
    · rw [if_neg hm] at e
      exact B.run pins s σ H Q I ⟨F, pa, Z, env, d, env', W, e, k⟩
  · cases e
/-- x[a][b] = d, x a matrix -/
def gIx2 (i : Nat) (f1 f2 : Fx D) : Gf := fun d env => match env[i]? with
  | some s => if isMat s = true then (match f1 env with
    | some (.int k, e1) => (match e1[i]? with
      | some (.mat dss) => (match ixN dss.length k with
        | some j => (match dss[j]? with
          | some ds => (match f2 (e1.set i .no) with
            | some (.int m, e2) => (match ixN ds.length m with
              | some l => some (e2.set i (.mat (dss.set j (ds.set l d))))
              | none => none)
            | _ => none)
          | none => none)
        | none => none)
      | _ => none)
    | _ => none) else none
  | none => none
/-- a row of a matrix is changed -/
theorem Wst.chgM {K : PySem.W.Frag} {F Z H : Hp} {pa : Nat → Option Addr} {σ : L2.St} {env : En} {i j : Nat} {a b : Addr} {us ws : List V} {dss : List (List D)} {bs : List Addr} {ds : List D} (W : Wst K F Z H pa σ env) (e1 : σ[i]? = some (some (.ref a))) (e2 : env[i]? = some (.mat dss))
    (h1 : H a = some (.lst us)) (h2 : F a = none) (h3 : Z a = none) (h4 : RowsOk K F Z H us dss bs) (h5 : a ∉ bs) (hb : us[j]? = some (.ref b)) (q : DpAll K Z ws ds) : Wst K F Z (upd H b (.lst ws)) pa σ (env.set i (.mat (dss.set j ds))) := by
  have hi : i < env.length := (List.getElem?_eq_some_iff.mp e2).1
  have mb : b ∈ bs := h4.ref (List.mem_of_getElem? hb)
  obtain ⟨_, ⟨w0, b1⟩, b2, b3⟩ := h4.mem mb
  have ow : Ow H (some (.ref a)) (.mat dss) b := .inr ⟨us, h1, List.mem_of_getElem? hb⟩
  have ab : a ≠ b := fun z => h5 (z ▸ mb)
  have key : ∀ {j' : Nat} {s1 : Sl}, (env.set i (.mat (dss.set j ds)))[j']? = some s1 → (j' = i ∧ s1 = .mat (dss.set j ds)) ∨ (j' ≠ i ∧ env[j']? = some s1) := fun {j' s1} e => by
    by_cases hj : i = j'
    · subst hj
      rw [List.getElem?_set_self hi] at e; cases e; exact .inl ⟨rfl, rfl⟩
    · rw [List.getElem?_set_ne hj] at e; exact .inr ⟨Ne.symm hj, e⟩
  have kept : ∀ {j' : Nat} {o : Option V} {s1 : Sl}, j' ≠ i → σ[j']? = some o → env[j']? = some s1 → ∀ c u, Ow H o s1 c → H c = some u → upd H b (.lst ws) c = some u := fun {j' o s1} hj q1 q2 c u hc hu => by
    rw [upd_ne (fun z => by subst z; exact W.dj j' i o _ s1 _ _ hj q1 q2 e1 e2 hc ow)]
    exact hu
  have up : ∀ c o, Same c H → c b = none → Same c (upd H b o) := fun c o f n x u e => by
    rw [upd_ne (fun z => by subst z; rw [n] at e; cases e)]; exact f x u e
  refine ⟨up F _ W.fh b2, up Z _ W.zh b3, by simp [W.len], fun j' o s1 q1 q2 => ?_, fun j' k o o' s1 s1' c ne q1 q2 q3 q4 o1 o2 => ?_⟩
  · rcases key q2 with ⟨rfl, rfl⟩ | ⟨hj, q2⟩
    · rw [e1] at q1; cases q1
      exact .mat (by rw [upd_ne ab]; exact h1) h2 h3 (h4.chg hb q) h5
    · exact (W.sl j' o s1 q1 q2).mono (Same.refl _) (kept hj q1 q2) fun _ _ => rfl
  · have back : ∀ {j' : Nat} {o : Option V} {s1 : Sl}, σ[j']? = some o → (env.set i (.mat (dss.set j ds)))[j']? = some s1 → Ow (upd H b (.lst ws)) o s1 c → ∃ s0, env[j']? = some s0 ∧ Ow H o s0 c := fun {j' o s1} r1 r2 r3 => by
      rcases key r2 with ⟨rfl, rfl⟩ | ⟨hj, r2⟩
      · rw [e1] at r1; cases r1
        refine ⟨_, e2, ?_⟩
        rcases r3 with rfl | ⟨us', w1, w2⟩
        · exact .inl rfl
        · rw [upd_ne ab] at w1
          exact .inr ⟨us', w1, w2⟩
      · exact ⟨s1, r2, (W.sl j' o s1 r1 r2).back (kept hj r1 r2) r3⟩
    obtain ⟨t1, t2, t3⟩ := back q1 q2 o1
    obtain ⟨t1', t2', t3'⟩ := back q3 q4 o2
    exact W.dj j' k o o' t1 t1' c ne q1 t2 q3 t2' t3 t3'
theorem s_gIx2 {i : Nat} {x : Str} {ie ie2 : Expr} {f1 f2 : Fx D} {np p1 : Pos} (ho : PE X (.Name x np) (tVar i)) (h1 : PE X ie (tE X.K f1)) (h2 : PE X ie2 (tE X.K f2)) (hs : PlainIx ie)
    (ha : ∀ v, assign (.Subscript (.Subscript (.Name x np) ie p1) ie2 pos) X.env v = (do
      let ov ← holding [v] (eval (.Subscript (.Name x np) ie p1) X.env)
      let iv ← holding [v, ov] (eval ie2 X.env)
      standAt pos
      holding [v, ov, iv] (setItem ov iv v)
      release [v, ov, iv] [])) : PG X (.Subscript (.Subscript (.Name x np) ie p1) ie2 pos) (tG X.K [] (gIx2 i f1 f2)) := by
  refine PG.imp (pg_sub (pe_ix (pos := p1) ix_seq ho h1 hs) h2 set_list ha) fun v σ H Q ⟨F, pa, Z, env, d, env', W, q, e, k⟩ => ?_
  unfold gIx2 at e
  split at e
  · rename_i s0 e0
    by_cases hm : isMat s0 = true
    · rw [if_pos hm] at e
      obtain ⟨dss0, rfl⟩ := isMat_some hm
      obtain ⟨o, eo, so0⟩ := W.get e0
      cases so0 with
      | @mat a us0 _ bs0 _ _ _ _ _ =>
        split at e
        · rename_i kk env1 q1
          split at e
          · rename_i dss q2
            split at e
            · rename_i j hj
              split at e
              · rename_i ds q3
                split at e
                · rename_i m env2 q4
                  cases q5 : ixN ds.length m with
                  | none => rw [q5] at e; cases e
                  | some l =>
                    rw [q5] at e
                    cases e
                    refine ⟨_, eo, F, pa, Z, env, _, env1, W, q1, fun y Z1 H1 g1 W1 y1 => ?_⟩
                    cases y1
                    cases W1.sl i _ _ eo q2 with
                    | @mat _ us _ bs z1 z2 z3 z4 z5 =>
                      obtain ⟨b, ws, b1, b2, b3, b4, b5, b6⟩ := z4.get q3
                      refine .inl ⟨a, us, kk, .ref b, rfl, rfl, SqL.of z1, by unfold atI; rw [z4.length, hj]; exact b1, ?_⟩
                      refine ⟨_, pa, Z1, _, _, env2, W1.aside eo q2 z1 z2 z4, q4, fun y2 Z2 H2 g2 W2 y3 => ?_⟩
                      cases y3
                      obtain ⟨r0, r1, r2, r3, r4⟩ := Wst.putM z1 z2 z3 z4 z5 g2 eo W2
                      have hb : H2 b = some (.lst ws) := W2.fh b _ (by rw [fAdd_in (List.mem_cons_of_mem _ b2)]; exact b3)
                      have hi2 : i < env2.length := by rw [← W2.len]; exact (List.getElem?_eq_some_iff.mp eo).1
                      have b6' := DpAll.mono r0.zz _ _ b6
                      refine ⟨b, ws, m, l, rfl, rfl, hb, by rw [da_length b6']; exact q5, ?_⟩
                      have W5 := r4.chgM eo (by rw [List.getElem?_set_self hi2]) r1 z2 r2 r3 z5 b1 (da_set (Dp.mono (g1.zz.trans r0.zz) _ _ q) l b6')
                      rw [List.set_set] at W5
                      exact k σ Z2 _ (g1.trans r0) W5 rfl fun _ _ => rfl
                · cases e
              · cases e
            · cases e
          · cases e
        · cases e
    · rw [if_neg hm] at e; cases e
  · cases e
theorem s_setCompM {i : Nat} {y : Str} {py : Pos} {elt tg iter : Expr} {ifs : List Expr} {scope : Scope} {own : List (Str × Nat)} {pos spos : Pos} {it : Fx (List D)} {sl : List Nat} {g : Gf} {c : Fx Bool} {f : Fx R} (hc : X.calm = true) (hN : X.N.Nodup) (hy : X.N[i]? = some y) (hyl : X.env.scope.names.lookup y = some .local)
    (hsw : swapsWith (.ListComp elt [⟨tg, iter, ifs, 0⟩] scope pos) (some (.Name y py)) spos.line X.env = pure true) (hi : PI X tg iter (tI X.K it)) (ok : BlkOk X.N X.env.scope scope own)
    (hsl : ∀ i ∈ sl, i ∈ own.map (·.2))
    (hg : ∀ (s : Shared) (H : Hp) (C : Addr) (cl : List (Str × Addr)) (fp : List Addr), PG (X.blk s H scope (compEnvC scope cl C X.env) fp) tg (tG X.K sl g))
    (ht : ∀ (s : Shared) (H : Hp) (C : Addr) (cl : List (Str × Addr)) (fp : List Addr), PTs (X.blk s H scope (compEnvC scope cl C X.env) fp) ifs (tT X.K c))
    (he : ∀ (s : Shared) (H : Hp) (C : Addr) (cl : List (Str × Addr)) (fp : List Addr), PE (X.blk s H scope (compEnvC scope cl C X.env) fp) elt (tR X.K f)) (hs : ∀ x, foldedSetIterable iter X.env x = pure x) :
    PS X (.Assign [.Name y py] (.ListComp elt [⟨tg, iter, ifs, 0⟩] scope pos) spos) (tS X.K (sSet i (eCompM it g c f (own.map (·.2))))) :=
  s_setG (ps_setLc hc hN hy hyl hsw hi ok hg ht he hs) fun σ H Q h => tLcM_of hsl h
end
end Ev
namespace Ev
open PySem PySem.Spec PyProof.Rows L2
/-! ## x.pop(i), x a list of its own -/
def popAt (i : Nat) (n : Int) (env : En) : Option (D × En) := match env[i]? with
  | some (.own ds) => if ds.length ≤ 100000000 then (ixN ds.length n).bind fun j => (ds[j]?).map fun d => (d, env.set i (.own (ds.eraseIdx j))) else none
  | _ => none
def ePop (i : Nat) (f : Fx D) : Fx D := fun env => match env[i]? with
  | some s => if isOwn s = true then (match f env with
      | some (.int k, e) => popAt i k e
      | _ => none) else none
  | none => none
theorem da_erase {K : PySem.W.Frag} {Z : Hp} : ∀ {vs : List V} {ds : List D} (j : Nat), DpAll K Z vs ds → DpAll K Z (vs.eraseIdx j) (ds.eraseIdx j)
  | [], [], _, h => by simpa using h
  | v :: vs, d :: ds, 0, h => by cases h with | cons h1 h2 => simpa using h2
  | v :: vs, d :: ds, j + 1, h => by
    cases h with
    | cons h1 h2 => simpa using DpAll.cons h1 (da_erase j h2)
section
variable {X : Cx}
theorem e_pop {i : Nat} {x : Str} {ie : Expr} {f : Fx D} {np ap cp : Pos} (ho : PE X (.Name x np) (tVar i)) (hi : PE X ie (tE X.K f)) (hse : starEach [ie] X.env = (false, eval ie X.env) :: starEach [] X.env)
    (hline : (ap.endLine == cp.line) = true) : PE X (.Call (.Attribute (.Name x np) "pop" ap) [ie] [] cp) (tE X.K (ePop i f)) := by
  refine PE.imp (pe_bm PySem.F.plainAttrs_list PySem.F.slot_list_pop PySem.F.type_list_pop mt_popAt ho (pa_cons hi pa_nil hse) rfl (by rw [hse]; rfl) hline hse) fun σ H Q ⟨F, pa, Z, env, d, env', W, e, k⟩ => ?_
  unfold ePop at e
  cases e0 : env[i]? with
  | none => rw [e0] at e; cases e
  | some s0 =>
    rw [e0] at e
    dsimp only at e
    cases ow : isOwn s0 with
    | false => rw [ow, if_neg Bool.false_ne_true] at e; cases e
    | true =>
      rw [ow, if_pos rfl] at e
      obtain ⟨a, us0, ds0, ea, _, hH0, _⟩ := W.own_ref e0 ow
      split at e
      · rename_i n env1 h1
        refine ⟨_, ea, Or.inl ⟨rfl, _, SqL.of hH0⟩, F, pa, Z, env, _, env1, W, h1, fun y Z1 H1 g1 W1 q1 => ?_⟩
        cases q1
        unfold popAt at e
        split at e
        · rename_i ds es
          by_cases hl : ds.length ≤ 100000000
          · rw [if_pos hl] at e
            cases hj : ixN ds.length n with
            | none => rw [hj] at e; cases e
            | some j =>
              rw [hj] at e
              obtain ⟨k1, k2, k3, k4⟩ := ixN_seq hj
              have e : (ds[j]?).map (fun d => (d, env1.set i (.own (ds.eraseIdx j)))) = some (d, env') := e
              cases hd : ds[j]? with
              | none => rw [hd] at e; cases e
              | some d0 =>
                rw [hd] at e
                cases e
                cases W1.sl i _ _ ea es with
                | own b1 b2 b3 b4 =>
                  rename_i us
                  obtain ⟨y', hy, qy⟩ := da_get b4 hd
                  refine ⟨a, us, n, j, y', rfl, rfl, b1, by omega, by omega, by rw [da_length b4]; exact k1, hy, ?_⟩
                  exact k y' Z1 _ g1 (W1.chg ea es (.inl ⟨rfl, _, rfl⟩) (da_erase j b4)) qy
          · rw [if_neg hl] at e; cases e
        · cases e
      · cases e
/-- a list's or tuple's items in a list written out -/
def dStar (f : Fx D) (g : Fx (List D)) : Fx (List D) := fun env => match f env with
  | some (.tuple ds, e) => (g e).map fun q => (ds ++ q.1, q.2)
  | some (.list ds, e) => (g e).map fun q => (ds ++ q.1, q.2)
  | _ => none
theorem s_dStar {e : Expr} {es : List Expr} {p : Pos} {f : Fx D} {g : Fx (List D)} (h1 : PE X e (tE X.K f)) (h2 : PA X es (tAd X.K g)) : PA X (.Starred e p :: es) (tAd X.K (dStar f g)) := by
  refine PA.imp (StX.pa_star h1 h2 rfl) fun σ H Q ⟨F, pa, Z, env, ds, env', W, h, k⟩ => ?_
  unfold dStar at h
  split at h
  · rename_i xs e1 h0
    cases e2 : g e1 with
    | none => rw [e2] at h; cases h
    | some q =>
      rw [e2] at h
      cases h
      refine ⟨F, pa, Z, env, _, e1, W, h0, fun v Z1 H1 g1 W1 q1 => ?_⟩
      cases q1 with
      | tup hs ha => exact ⟨_, _, rfl, .inl (Same.sqT (show Same Z1 H1 from W1.zh) hs), F, pa, Z1, e1, q.1, q.2, W1, e2, fun vs Z2 H2 g2 W2 q2 => k _ Z2 H2 (g1.trans g2) W2 (da_append (DpAll.mono g2.zz _ _ ha) q2)⟩
  · rename_i xs e1 h0
    cases e2 : g e1 with
    | none => rw [e2] at h; cases h
    | some q =>
      rw [e2] at h
      cases h
      refine ⟨F, pa, Z, env, _, e1, W, h0, fun v Z1 H1 g1 W1 q1 => ?_⟩
      cases q1 with
      | lst hs ha => exact ⟨_, _, rfl, .inr ((show Same Z1 H1 from W1.zh).seq hs), F, pa, Z1, e1, q.1, q.2, W1, e2, fun vs Z2 H2 g2 W2 q2 => k _ Z2 H2 (g1.trans g2) W2 (da_append (DpAll.mono g2.zz _ _ ha) q2)⟩
  · cases h
end
end Ev
namespace Ev
open PySem PySem.Spec PyProof.Rows L2
/-! ## calls where no repr runs around -/
/-- nothing is being shown around -/
abbrev NoG (A : Around) : Prop := A.guards = some []
structure FnG (P : Program) (w : World) (K : PySem.W.Frag) (mg : Str → Option Value) (base : Heap) (k : Nat) (f : Addr) (fd : FuncData) (ps : List Str) (sp : Sp) : Prop where
  len : ∀ vs H Q E, sp vs H Q E → vs.length = ps.length
  run : ∀ (A : Around), NoG A → Room k A → ∀ (outer : List Env) (s : Shared) (H : Hp), Env0 P w K mg base A outer s H → ∀ (args : Args) (us : List Value), BindsTo s fd args (ps.zip us) → ∀ (vs : List V), Vals vs us →
    ∀ (Q : VK) (E : XK), sp vs H Q E → codeAny (model P w) A (.call (.ref f) args) (CR CX0 outer P w H s Q E) s
section
variable {X : Cx} {k : Nat} {f : Addr} {fd : FuncData} {ps : List Str} {sp : Sp} {E : XK} {x : Str} {p pos : Pos} {e : Expr} {es : List Expr} {t tk : TA}
/-- a call's result, in the caller -/
theorem cr_back {pins : List (Addr × Obj)} {σ : L2.St} {H : Hp} {s : Shared} {Q : VK} (I : Inv X pins σ H s) (hx : Passes CX0 X E) : ∀ (r : Result) (s' : Shared), CR CX0 X.stack X.prog X.w H s Q E r s' → (match r with
    | .ok (.ret u) => EP X pins σ Q u s'
    | .ok _ => False
    | .error e => X.xe e s')
  | .ok (.ret _), _, h => I.after h
  | .ok .next, _, h => h.elim
  | .ok .brk, _, h => h.elim
  | .ok .cont, _, h => h.elim
  | .error e, s', h => hx pins σ H s e s' I h
theorem run_g {pins : List (Addr × Obj)} {σ : L2.St} {H : Hp} {s : Shared} {Q : VK} {us zs : List Value} {kw : List (Str × Value)} {vs : List V} (F : FnG X.prog X.w X.K X.mg X.base k f fd ps sp) (hG : NoG X.A) (hr : Room k X.A) (hx : Passes CX0 X E) (I : Inv X pins σ H s)
    (b : BindsTo s fd ⟨us, kw⟩ (ps.zip zs)) (r : Vals vs zs) (h : sp vs H Q E) : wpAny (model X.prog X.w) X.A (call (.ref f) us kw) (EP X pins σ Q) X.xe s := by
  refine wpAny_call (codeAny_mono (F.run X.A hG hr X.stack s H I.env0 _ zs b vs r Q E h) fun r s' q => ?_)
  have := cr_back I hx r s' q
  cases r with
  | error e => exact this
  | ok fl => cases fl <;> first | exact this | exact this.elim
theorem g_call (F : FnG X.prog X.w X.K X.mg X.base k f fd ps sp) (hG : NoG X.A) (hr : Room k X.A) (hg : Gl X x) (hm : X.mg x = some (.ref f)) (hk : PySem.W.keepIn X.K (.ref f) = true) (hb : Binds X.K fd ps []) (hx : Passes CX0 X E)
    (ha : PA X (e :: es) t) (hdb : (x == ("__debug__" : Str)) = false) (he : starEach (e :: es) X.env = (false, eval e X.env) :: starEach es X.env) (hpl : (backTo pos (starEach es X.env)).any (·.1) = false) :
    PE X (.Call (.Name x p) (e :: es) [] pos) (tCall sp [] E t) := by
  constructor
  intro pins s σ H Q I h
  refine wpAny_Call_Name_kw (ld_glob I hg hm (PySem.W.callWith_K (h₀ := X.base) I.ok.mod.kin hk ?_ he hpl) hdb)
  refine wpAny_mono (ha.run pos pins s σ H _ I h) ?_ fun _ _ z => z
  rintro us s1 ⟨vs, H1, I1, r, q⟩
  refine ⟨I1.kIn, ?_⟩
  rw [List.append_nil] at q
  have b := hb s1 us I1.kIn (by rw [List.append_nil, ← r.length]; exact F.len _ _ _ _ q)
  rw [List.append_nil] at b
  exact run_g F hG hr hx I1 b r q
theorem g_call0 (F : FnG X.prog X.w X.K X.mg X.base k f fd ps sp) (hG : NoG X.A) (hr : Room k X.A) (hg : Gl X x) (hm : X.mg x = some (.ref f)) (hk : PySem.W.keepIn X.K (.ref f) = true) (hb : Binds X.K fd ps []) (hx : Passes CX0 X E)
    (hdb : (x == ("__debug__" : Str)) = false) : PE X (.Call (.Name x p) [] [] pos) (tCall sp [] E tNil) := by
  constructor
  intro pins s σ H Q I h
  have q : sp [] H Q E := h
  have b := hb s [] I.kIn (F.len _ _ _ _ q)
  exact wpAny_Call_Name_kw (ld_glob I hg hm (PySem.W.callWith_K0 I.kIn hk (run_g F hG hr hx I b .nil q)) hdb)
section
variable {ks : List Str} {kws : List Keyword} {g : List Value → List Value → List Value} {gV : List V → List V → List V}
theorem run_gk {pins : List (Addr × Obj)} {σ : L2.St} {H : Hp} {s : Shared} {Q : VK} {us ws : List Value} {vs zs : List V} (F : FnG X.prog X.w X.K X.mg X.base k f fd ps sp) (hG : NoG X.A) (hr : Room k X.A) (hb : KBinds X.K fd ps ks g gV) (hx : Passes CX0 X E)
    (I : Inv X pins σ H s) (r : Vals vs us) (rz : Vals zs ws) (h : sp (gV vs zs) H Q E) : wpAny (model X.prog X.w) X.A (call (.ref f) us (ks.zip ws)) (EP X pins σ Q) X.xe s := by
  have r2 := hb.rel r rz
  exact run_g F hG hr hx I (hb.to s us ws I.kIn (by rw [← r2.length]; exact F.len _ _ _ _ h)) r2 h
theorem g_callK (F : FnG X.prog X.w X.K X.mg X.base k f fd ps sp) (hG : NoG X.A) (hr : Room k X.A) (hg : Gl X x) (hm : X.mg x = some (.ref f)) (hk : PySem.W.keepIn X.K (.ref f) = true) (hb : KBinds X.K fd ps ks g gV) (hx : Passes CX0 X E)
    (ha : PA X (e :: es) t) (hkw : PK X kws tk) (hall : (backToKw pos (keywordEach kws X.env)).all (·.1.isSome) = true) (hks : (backToKw pos (keywordEach kws X.env)).filterMap (·.1) = ks)
    (hdb : (x == ("__debug__" : Str)) = false) (he : starEach (e :: es) X.env = (false, eval e X.env) :: starEach es X.env)
    (hpl : ((backTo pos (starEach (e :: es) X.env)).any (·.1) || (backToKw pos (keywordEach kws X.env)).any (·.1.isNone)) = false) :
    PE X (.Call (.Name x p) (e :: es) kws pos) (tCallK sp gV E t tk) := by
  constructor
  intro pins s σ H Q I h
  refine wpAny_Call_Name_kw (ld_glob I hg hm (PySem.W.callWith_KW (h₀ := X.base) I.ok.mod.kin hk hall ?_ hpl he) hdb)
  refine wpAny_mono (ha.run pos pins s σ H _ I h) ?_ fun _ _ z => z
  rintro us s1 ⟨vs, H1, I1, r, q⟩
  refine wpAny_mono (hkw.run pos pins s1 σ H1 _ I1 q) ?_ fun _ _ z => z
  rintro ws s2 ⟨zs, H2, I2, rz, q2⟩
  refine ⟨I2.kIn, ?_⟩
  rw [hks]
  exact run_gk F hG hr hb hx I2 r rz q2
/-- f(k = e, ..), keywords alone -/
theorem g_callK0 (F : FnG X.prog X.w X.K X.mg X.base k f fd ps sp) (hG : NoG X.A) (hr : Room k X.A) (hg : Gl X x) (hm : X.mg x = some (.ref f)) (hk : PySem.W.keepIn X.K (.ref f) = true) (hb : KBinds X.K fd ps ks g gV) (hx : Passes CX0 X E)
    (hkw : PK X kws tk) (hall : (backToKw pos (keywordEach kws X.env)).all (·.1.isSome) = true) (hks : (backToKw pos (keywordEach kws X.env)).filterMap (·.1) = ks)
    (hdb : (x == ("__debug__" : Str)) = false) (hpl : ((backTo pos (starEach [] X.env)).any (·.1) || (backToKw pos (keywordEach kws X.env)).any (·.1.isNone)) = false) :
    PE X (.Call (.Name x p) [] kws pos) (tCallK sp gV E tNil tk) := by
  constructor
  intro pins s σ H Q I h
  refine wpAny_Call_Name_kw (ld_glob I hg hm (PySem.W.callWith_KW0 (h₀ := X.base) I.ok.mod.kin hk hall ?_ hpl) hdb)
  refine wpAny_mono (hkw.run pos pins s σ H _ I h) ?_ fun _ _ z => z
  rintro ws s2 ⟨zs, H2, I2, rz, q2⟩
  refine ⟨I2.kIn, ?_⟩
  rw [hks]
  exact run_gk F hG hr hb hx I2 .nil rz q2
end
end
/-! ## a def's body -/
section
variable {P : Program} {w : World} {K : PySem.W.Frag} {mg : Str → Option Value} {base : Heap} {k : Nat} {f : Addr} {ps : List Str} {sp : Sp}
theorem g_of {name qual : Str} {params : Arguments} {body : List Stmt} {scope : Scope} {dV kV doc pm cdv ct oc : Value} {an od : Option Addr} {osl : Array (Option Value)} {N : List Str}
    (lk : K.lookup f = some ⟨oc, od, .func (PySem.W.fnOf name qual params body scope dV kV doc pm an cdv ct), osl⟩) (hcd : PySem.W.codeIn K cdv qual = true) (S : FnScope N ps scope) (len : ∀ vs H Q E, sp vs H Q E → vs.length = ps.length)
    (hb : ∀ (A : Around), NoG A → ∀ (outer : List Env) (s : Shared) (H : Hp) (vs : List V) (Q : VK) (E : XK), Room k (A.deeper (envOfC qual scope s.heap.objs.size f cdv)) → sp vs H Q E →
      ∃ t, PSs (cxOf CX0 P w K mg base N qual scope f cdv A outer s H E) body t ∧ t { nx := fun _ H' => Q .non H', rt := Q } (L2.start N vs) H) :
    FnG P w K mg base (k + 1) f (PySem.W.fnOf name qual params body scope dV kV doc pm an cdv ct) ps sp := by
  constructor
  · exact len
  · intro A hG hr outer s H e0 args us b vs r Q E hsp
    have inK : K.In s.heap := e0.mod.kin.keeps fun b o e => (e0.bs b o e).1
    have nl : s.heap.NoLimit := e0.mod.nolimit.keeps fun b o e => (e0.bs b o e).1
    have kinds : ∀ y ∈ ps.zip us, scope.names.lookup y.1 = some .local ∨ (scope.names.lookup y.1 = some .cell ∧ ((cellsFrom (s.heap.objs.size + 1) scope.names []).lookup y.1).isSome = true) := by
      rintro ⟨n, v⟩ hy
      refine (S.par n (List.of_mem_zip hy).1).imp (fun q => q) fun q => ⟨q, PySem.W.cellsFrom_some _ _ _ (.inl q)⟩
    refine codeAny_call_function hr.depth (inK _ _ lk) rfl S.co S.gen rfl (PySem.W.codeRec_of inK hcd) (b _ _ _ _ (wpAny_newFunctionEnv_cells S.kind kinds ?_))
    rintro env rfl s1 x
    refine ⟨nl.keeps x.toInCall.keep, codeAny_func ?_⟩
    obtain ⟨t, ht, hq⟩ := hb A hG outer s H vs Q E (hr.deeper _) hsp
    have I : Inv (cxOf CX0 P w K mg base N qual scope f cdv A outer s H E) [] (L2.start N vs) H s1 := inv_start S hr.hd e0 (len _ _ _ _ hsp) r x
    have fin : ∀ {σ' : L2.St} {H' : Hp} {v : V} {u : Value} {s' : Shared}, Inv (cxOf CX0 P w K mg base N qual scope f cdv A outer s H E) [] σ' H' s' → RelV v u → Q v H' → CE outer P w H s Q u s' := fun J rv q => ⟨_, _, J.os, J.bare, J.base, J.hok, rv, q⟩
    refine wpAny_mono (ht.run [] s1 (L2.start N vs) H _ I hq) ?_ fun _ _ z => z
    intro fl s' hs
    cases fl with
    | ret u => obtain ⟨v, σ', H', J, rv, q⟩ := hs; exact fin J rv q
    | next => obtain ⟨σ', H', J, q⟩ := hs; exact fin (v := V.non) (u := Value.none) J rfl q
    | brk => obtain ⟨_, _, _, q⟩ := hs; exact q.elim
    | cont => obtain ⟨_, _, _, q⟩ := hs; exact q.elim
end
end Ev
namespace Ev
open PySem PySem.Spec PyProof.Rows L2
/-! ## the law's call -/
section
variable {P : Program} {w : World} {K : PySem.W.Frag} {mg mb : Str → Option Value} {k : Nat} {fa a : Addr} {fd : FuncData} {x : Str} {sp : Sp} {s₁ : Shared} {vs : List Value} {ns : List Int}
/-- what the law's end wants of the call -/
abbrev LawEnd (s₁ : Shared) (r : Result) (s' : Shared) : Prop := r = .ok (.ret (.bool true)) ∧ OldK s₁.heap s'.heap ∧ s'.os = s₁.os ∧ AllBare s'.gens
/-- the heap in which at most the script at a is tracked -/
structure Start (P : Program) (w : World) (K : PySem.W.Frag) (a : Addr) (s : Shared) (H : Hp) : Prop where
  only : Only H
  ok : HOk P w H s.heap
  at_ : ∀ b, H b ≠ none → b = a
  nk : H a ≠ none → K.lookup a = none
theorem law_run {H : Hp} (S : Start P w K a s₁ H) (KX : K.In s₁.heap) (hns : s₁.heap.Ns mainGlobals mg) (hb : s₁.heap.Ns builtinsNs mb) (hbb : ∀ x : Str, x ≠ "__name__" → mb x = bootBuiltins x) (hlim : s₁.heap.NoLimit) (hg : s₁.gens = #[])
    (ha : s₁.heap.get? a = some { cls := .type "list", data := .seq vs.toArray }) (hr : Room k callerA) (F : ∀ base : Heap, K.In base → base.Ns mainGlobals mg → FnG P w K mg base k fa fd [x] sp) (hbind : BindsTo s₁ fd ⟨[.ref a], []⟩ [(x, .ref a)])
    (hsp : sp [.ref a] H (fun v _ => v = .bl true) fun _ _ _ => False) : codeAny (model P w) callerA (.call (.ref fa) ⟨[.ref a], []⟩) (LawEnd s₁) s₁ := by
  -- what is no list at a stands in the base
  have inB : ∀ {b : Addr} {o : Obj}, s₁.heap.get? b = some o → H b = none → (hidT s₁.heap H).get? b = some o := fun e n => hidT_get e n
  have nsB : ∀ {b : Addr} {m : Str → Option Value}, s₁.heap.Ns b m → (hidT s₁.heap H).Ns b m := by
    rintro b m ⟨o, es, ep, e, d, r⟩
    refine ⟨o, es, ep, inB e ?_, d, r⟩
    cases q : H b with
    | none => rfl
    | some u =>
      obtain rfl := S.at_ b (by rw [q]; exact fun z => nomatch z)
      rw [ha] at e; cases e
      cases (show Data.seq vs.toArray _ = Data.dict es ep from d)
  have kB : K.In (hidT s₁.heap H) := fun b o e => by
    refine inB (KX b o e) ?_
    cases q : H b with
    | none => rfl
    | some u =>
      have nn : H b ≠ none := by rw [q]; exact fun z => nomatch z
      obtain rfl := S.at_ b nn
      rw [S.nk nn] at e; cases e
  have limB : (hidT s₁.heap H).NoLimit := hlim.elim fun mc h => ⟨mc, nsB h.1, h.2⟩
  have e0 : Env0 P w K mg (hidT s₁.heap H) callerA [] s₁ H :=
    { frames := rfl, mod := ⟨kB, nsB hns, ⟨mb, nsB hb, hbb⟩, limB⟩, bs := fun b o e => of_hidT e, bsz := Nat.le_of_eq (hidT_size _ _), funs := trivial, frf := (fun b hb => absurd (show b ∈ ([] : List Addr) from hb) (by simp)), hok := S.ok, bare := .of_eq hg }
  refine codeAny_mono ((F _ kB (nsB hns)).run callerA rfl hr [] s₁ H e0 ⟨[.ref a], []⟩ [.ref a] hbind [.ref a] (.cons rfl .nil) _ _ hsp) fun r s' h => ?_
  cases r with
  | error e =>
    exact False.elim h
  | ok fl =>
    cases fl with
    | ret u =>
      obtain ⟨v, H', os, bare, un, ok', rv, q⟩ := h
      cases (show v = .bl true from q)
      cases (show u = Value.bool true from rv)
      refine ⟨rfl, .of_keep fun b o e => ?_, os, bare⟩
      rcases S.only b with z | ⟨ob, xs, z⟩
      · exact un.keep b o e z (fun m => absurd (show b ∈ ([] : List Addr) from m) (by simp)) (by simp)
      · have e1 := (S.ok b _ z).1
        have e2 := (ok' b _ (un.frzs b ob _ z)).1
        rw [e] at e1; cases e1
        exact e2
    | _ => exact False.elim h
theorem law_callG (KX : K.In s₁.heap) (hns : s₁.heap.Ns mainGlobals mg) (hb : s₁.heap.Ns builtinsNs mb) (hbb : ∀ x : Str, x ≠ "__name__" → mb x = bootBuiltins x) (hlim : s₁.heap.NoLimit) (hg : s₁.gens = #[])
    (ha : s₁.heap.get? a = some { cls := .type "list", data := .seq vs.toArray }) (hi : IntsAre vs ns) (hl : ns.length ≤ sizeLine) (hr : Room k callerA) (F : ∀ base : Heap, K.In base → base.Ns mainGlobals mg → FnG P w K mg base k fa fd [x] sp)
    (hbind : BindsTo s₁ fd ⟨[.ref a], []⟩ [(x, .ref a)]) (hsp : ∀ H : Hp, Only H → SqL K H a (ns.map V.int) → sp [.ref a] H (fun v _ => v = .bl true) fun _ _ _ => False) : codeAny (model P w) callerA (.call (.ref fa) ⟨[.ref a], []⟩) (LawEnd s₁) s₁ := by
  have rv := vals_ints hi
  cases hk : K.lookup a with
  | some o =>
    have e := KX a o hk
    rw [ha] at e; cases e
    have S : Start P w K a s₁ (fun _ => none) := ⟨fun _ => .inl rfl, (fun b u z => by cases (show (none : Option HO) = some u from z)), (fun b z => absurd rfl z), fun z => absurd rfl z⟩
    exact law_run S KX hns hb hbb hlim hg ha hr F hbind (hsp _ S.only (.inr ⟨_, vs.toArray, _, hk, rfl, rfl, rfl, by rw [List.size_toArray, hi.length]; exact hl, by simpa using rv⟩))
  | none =>
    let o : HO := .frz { cls := .type "list", data := .seq vs.toArray } (.lst (ns.map V.int))
    let H0 : Hp := fun b => if b = a then some o else none
    have at0 : H0 a = some o := if_pos rfl
    have ne0 : ∀ b, b ≠ a → H0 b = none := fun b h => if_neg h
    have S : Start P w K a s₁ H0 := by
      refine ⟨fun b => ?_, fun b u z => ?_, fun b z => Classical.byContradiction fun h => z (ne0 b h), fun _ => hk⟩
      · by_cases h : b = a
        · subst h; exact .inr ⟨_, _, at0⟩
        · exact .inl (ne0 b h)
      · by_cases h : b = a
        · subst h
          rw [at0] at z; cases z
          exact ⟨ha, by rw [List.length_map]; exact hl, vs, _, rv, ha⟩
        · rw [ne0 b h] at z; cases z
    exact law_run S KX hns hb hbb hlim hg ha hr F hbind (hsp H0 S.only (.inl (.inr ⟨_, at0⟩)))
end
theorem walk_g {l : PySem.W.OpenLaw} {n k : Nat} {q : Program} {loose : List Str} {XP : (Str → Option Value) → Heap → Prop} {YP : World → Heap → Prop} {d : DefRec} {x : Str} (hn : l.most = some n) (hn2 : n ≤ sizeLine) (hdf : d.params.defaults = []) (hr : Room k callerA)
    (F : ∀ (w : World) (mg : Str → Option Value) (fa : Addr) (h : Heap), YP w h → h.Ns mainGlobals mg → mg d.name = some (.ref fa) →
      ∃ (K : PySem.W.Frag) (fd : FuncData) (sp : Sp), K.In h ∧ (∀ (s : Shared) (u : Value), BindsTo s fd ⟨[u], []⟩ [(x, u)]) ∧
        (∀ (H : Hp) (a : Addr) (ns : List Int), ns.length ≤ n → Only H → SqL K H a (ns.map V.int) → sp [.ref a] H (fun v _ => v = .bl true) fun _ _ _ => False) ∧
        ∀ base : Heap, K.In base → base.Ns mainGlobals mg → FnG l.prog w K mg base k fa fd [x] sp) :
    PySem.W.WalkO q loose XP YP l.row.toRowW d [] (fun f vs => PySem.call f vs) := by
  refine Att.attach_call hn hdf ?_
  intro w s₀ s₁ mg mb fa o pm cd doc a vs ns G Y ho hd hcd hmg hobj hints hlen hg
  obtain ⟨K, fd, sp, KX, hb, hsp, hF⟩ := F w mg fa _ Y G.T.g hmg
  exact law_callG KX G.T.g G.T.b G.T.builtins G.T.nolimit hg hobj hints (Nat.le_trans hlen hn2) hr hF (hb s₁ _) fun H hO hS => hsp H a ns hlen hO hS
/-! ## a def -/
theorem fn_ok {P : Program} {w : World} {K : PySem.W.Frag} {mg : Str → Option Value} {base : Heap} {x qual : Str} {params : Arguments} {body : List Stmt} {scope : Scope} {dvs : List V} {kws : List (Str × V)} {f : Addr} {fd : FuncData} {N ps : List Str} {k : Nat} {fb : Fx Fl}
    (F : FunD K x qual params body scope dvs kws f fd) (S : FnScope N ps scope)
    (hb : ∀ (cdv : Value) (A : Around), NoG A → ∀ (outer : List Env) (s : Shared) (H : Hp) (E : XK), Room k (A.deeper (envOfC qual scope s.heap.objs.size f cdv)) → PSs (cxOf CX0 P w K mg base N qual scope f cdv A outer s H E).nox body (tS K fb)) :
    FnG P w K mg base (k + 1) f fd ps (spF K ps.length (callFn N.length fb)) := by
  obtain ⟨oc, od, dV, kV, doc, pm, an, cdv, ct, osl, rfl, lk, hcd, _, _⟩ := F.ex
  refine g_of lk hcd S (fun vs H Q E h => h.1) fun A hG outer s H vs Q E hr h => ?_
  refine ⟨tS K fb, (hb cdv A hG outer s H E hr).nox, ?_⟩
  obtain ⟨hl, F0, Z, avs, r, outs, hf, hz, A0, e, k0⟩ := h
  have hn : vs.length ≤ N.length := by
    rw [hl, ← S.pre, List.length_take]
    omega
  have W := Wst.start (N := N) hf hz A0 hn
  have la := A0.length
  have hpa : ∀ i a ds, vs[i]? = some (.ref a) → avs[i]? = some (.own ds) → paOf vs avs (0 + i) = some a := fun i a ds e1 e2 => by
    unfold paOf
    rw [Nat.zero_add, e1, e2]
  have fin : ∀ (fl : Fl) (r0 : R) (env' : En) (o : List (List D)), outsOf avs 0 env' = some o → some (r0, o) = some (r, outs) → ∀ v σ' Z' H', Gr F0 Z Z' → Wst K F0 Z' H' (paOf vs avs) σ' env' → RkOk K F0 Z' H' σ' env' v r0 → Q v H' := fun fl r0 env' o eo er v σ' Z' H' g1 W1 q => by
    cases er
    obtain ⟨h1, h2⟩ := outs_ok W1 A0 hpa eo
    refine k0 v Z' H' g1 W1.fh W1.zh h1 ?_
    cases r with
    | val d => exact q
    | fresh ds =>
      obtain ⟨p, us, rfl, b1, b2, b3, b4, b5⟩ := q
      refine ⟨p, us, rfl, b1, b2, b3, fun hm => ?_, b4⟩
      obtain ⟨j, s', c1, c2, c3⟩ := h2 p hm
      exact b5 j _ s' c1 c2 c3
    | mat dss =>
      obtain ⟨p, us, bs, rfl, b1, b2, b3, b4, b5, b6⟩ := q
      refine ⟨p, us, bs, rfl, b1, b2, b3, b4, b5, fun q hq hm => ?_⟩
      obtain ⟨j, s', c1, c2, c3⟩ := h2 q hm
      exact b6 q hq j _ s' c1 c2 c3
  unfold callFn at e
  split at e
  · rename_i r0 env' eb
    cases eo : outsOf avs 0 env' with
    | none => rw [eo] at e; cases e
    | some o =>
      rw [eo] at e
      exact ⟨F0, _, Z, _, _, env', W, eb, fin (.rt r0) r0 env' o eo e⟩
  · rename_i env' eb
    cases eo : outsOf avs 0 env' with
    | none => rw [eo] at e; cases e
    | some o =>
      rw [eo] at e
      exact ⟨F0, _, Z, _, _, env', W, eb, fun σ' Z' H' g1 W1 => fin .nx (.val .none) env' o eo e .non σ' Z' H' g1 W1 .non⟩
  · cases e
end Ev
namespace Ev
open PySem PySem.Spec PyProof.Rows L2
/-! ## repr of data -/
mutual
def shB : D → Bool
  | .none => true
  | .bool _ => true
  | .int i => decide (i.natAbs.log2 < 1920)
  | .str x => x.cps.toList.all fun c => decide (c < 16 ^ 8)
  | .list ds => shBs ds
  | .tuple ds => shBs ds
  | .dict _ => false
def shBs : List D → Bool
  | [] => true
  | d :: ds => shB d && shBs ds
end
mutual
/-- how much there is to be shown -/
def nds : D → Nat
  | .none => 1
  | .bool _ => 1
  | .int _ => 1
  | .str x => 1 + x.length
  | .list ds => 1 + ndss ds
  | .tuple ds => 1 + ndss ds
  | .dict _ => 1
def ndss : List D → Nat
  | [] => 0
  | d :: ds => nds d + ndss ds
end
theorem len_toS (i : Int) (h : i.natAbs.log2 < 1920) : (Str.ofString (toString i)).length ≤ 1921 := int_text_len_1921 h
mutual
theorem shown_len : ∀ d : D, shB d = true → (PyData.shown d).length + 2 ≤ 2000 * nds d
  | .none, _ => by show (Str.ofString "None").length + 2 ≤ 2000 * 1; decide
  | .bool b, _ => by cases b <;> (show (Str.ofString _).length + 2 ≤ 2000 * 1; decide)
  | .int i, h => by
    have := len_toS i (of_decide_eq_true h)
    show (Str.ofString (toString i)).length + 2 ≤ 2000 * 1
    omega
  | .str x, h => by
    have h' : (x.cps.toList.all fun c => decide (c < 16 ^ 8)) = true := h
    have := PySem.StrLaws.reprText_len x fun c hc => of_decide_eq_true (List.all_eq_true.mp h' c hc)
    show (reprText x).length + 2 ≤ 2000 * (1 + x.length)
    omega
  | .list ds, h => by
    have e := listText_len_le (PyData.shownAll ds)
    have q := shown_lens ds h
    show (listText (PyData.shownAll ds)).length + 2 ≤ 2000 * (1 + ndss ds)
    omega
  | .tuple ds, h => by
    have e := tupleText_len_le (PyData.shownAll ds)
    have q := shown_lens ds h
    show (tupleText (PyData.shownAll ds)).length + 2 ≤ 2000 * (1 + ndss ds)
    omega
  | .dict _, h => by cases h
theorem shown_lens : ∀ ds : List D, shBs ds = true → ((PyData.shownAll ds).map (·.length)).sum + 2 * (PyData.shownAll ds).length ≤ 2000 * ndss ds
  | [], _ => by simp only [PyData.shownAll]; exact Nat.zero_le _
  | d :: ds, h => by
    obtain ⟨h1, h2⟩ := andB (show (shB d && shBs ds) = true from h)
    have a := shown_len d h1
    have b := shown_lens ds h2
    simp only [PyData.shownAll, List.map_cons, List.sum_cons, List.length_cons, ndss]
    omega
end
mutual
theorem shB_showable : ∀ d : D, shB d = true → PyData.showable d = true ∧ PyData.hasDict d = false
  | .none, _ => ⟨by simp only [PyData.showable], by simp only [PyData.hasDict]⟩
  | .bool b, _ => ⟨by simp only [PyData.showable], by simp only [PyData.hasDict]⟩
  | .int i, h => ⟨by simp only [PyData.showable]; exact h, by simp only [PyData.hasDict]⟩
  | .str x, h => ⟨by simp only [PyData.showable], by simp only [PyData.hasDict]⟩
  | .list ds, h => by
    obtain ⟨a, b⟩ := shBs_showable ds h
    exact ⟨by simp only [PyData.showable]; exact a, by simp only [PyData.hasDict]; exact b⟩
  | .tuple ds, h => by
    obtain ⟨a, b⟩ := shBs_showable ds h
    exact ⟨by simp only [PyData.showable]; exact a, by simp only [PyData.hasDict]; exact b⟩
  | .dict _, h => by cases h
theorem shBs_showable : ∀ ds : List D, shBs ds = true → PyData.showableAll ds = true ∧ PyData.hasDictAll ds = false
  | [], _ => ⟨by simp only [PyData.showableAll], by simp only [PyData.hasDictAll]⟩
  | d :: ds, h => by
    obtain ⟨h1, h2⟩ := andB (show (shB d && shBs ds) = true from h)
    obtain ⟨a1, a2⟩ := shB_showable d h1
    obtain ⟨b1, b2⟩ := shBs_showable ds h2
    exact ⟨by simp only [PyData.showableAll, a1, b1, Bool.and_self], by simp only [PyData.hasDictAll, a2, b2, Bool.or_self]⟩
end
def reprB (d : D) : Bool := shB d && (decide (nds d ≤ 8000) && decide (d.depth ≤ 40))
def gReprD : List D → Option D
  | [d] => if reprB d = true then some (.str (PyData.shown d)) else none
  | _ => none
section
variable {X : Cx}
theorem cr_reprD (hG : NoG X.A) (hu : X.A.units + 64 < cLine) : CallR X (.builtin "repr") (fun vs H Q => ∃ v d, vs = [v] ∧ Dp X.K H v d ∧ reprB d = true ∧ Q (.str (PyData.shown d)) H) := by
  intro pins s σ H vs us Q I r h
  obtain ⟨v, d, rfl, dp, hb, q⟩ := h
  obtain ⟨u, rfl, ru⟩ := vals1 r
  unfold reprB at hb
  simp only [Bool.and_eq_true, decide_eq_true_eq] at hb
  obtain ⟨h1, h2, h3⟩ := hb
  obtain ⟨as, rd⟩ := dp.reads I d v u ru
  obtain ⟨s1, s2⟩ := shB_showable d h1
  have hl : (PyData.shown d).length ≤ sizeLine := by
    have := shown_len d h1
    have e : sizeLine = 16777216 := rfl
    omega
  have fin : ∀ t, EP X pins σ Q (.str (PyData.shown d) t) { s with toks := s.toks + 1 } := fun t => ⟨.str _, H, I.tok _, ⟨_, rfl⟩, q⟩
  cases dp with
  | non => cases ru; exact PySem.P.repr_of_none (fin _)
  | bl b =>
    cases ru
    exact PySem.P.repr_of_bool (by cases b <;> exact fin _)
  | int i =>
    obtain ⟨t, rfl⟩ := ru
    exact PySem.P.repr_of_int (of_decide_eq_true h1) (fin _)
  | str x =>
    obtain ⟨t, rfl⟩ := ru
    exact PySem.P.repr_of_str (fin _) hl
  | lst hs ha =>
    cases ru
    exact repr_of_reads' rd s1 (PyData.noDict_hsm s2) hG (by omega) (fun b o e => e) (fun h' u tk hk => ⟨.str _, H, I.kept (t' := tk) hk, ⟨_, rfl⟩, q⟩) hl
  | tup hs ha =>
    cases ru
    exact repr_of_reads' rd s1 (PyData.noDict_hsm s2) hG (by omega) (fun b o e => e) (fun h' u tk hk => ⟨.str _, H, I.kept (t' := tk) hk, ⟨_, rfl⟩, q⟩) hl
theorem c_reprD (hG : NoG X.A) (hu : X.A.units + 64 < cLine) : CallD X (.builtin "repr") gReprD := ⟨_, cr_reprD hG hu, by
  intro Z H vs ds z Q zh q hz k
  unfold gReprD at hz
  split at hz
  · rename_i d
    split at hz
    · rename_i hb
      cases hz
      cases q with
      | cons h1 h2 =>
        cases h2
        exact ⟨_, d, rfl, Dp.mono zh _ _ h1, hb, k _ Z H (.refl zh) (.str _)⟩
    · cases hz
  · cases hz⟩
end
end Ev
namespace Ev
open PySem PySem.Spec PyProof.Rows L2
/-! ## own lists lent to a def that only reads them -/
def scal : D → Bool
  | .none => true
  | .bool _ => true
  | .int _ => true
  | .str _ => true
  | _ => false
theorem scal_dp {K : PySem.W.Frag} {Z Z' : Hp} {v : V} {d : D} (h : scal d = true) (q : Dp K Z v d) : Dp K Z' v d := by
  cases q with
  | non => exact .non
  | bl b => exact .bl b
  | int i => exact .int i
  | str x => exact .str x
  | lst => cases h
  | tup => cases h
def toAvB (env : En) : List AR → Option (List AV)
  | [] => some []
  | .val d :: as => (match toAvB env as with
    | some r => some (.val d :: r)
    | none => none)
  | .tmp _ :: _ => none
  | .slot i :: as => (match env[i]? with
    | some (.own ds) => (match toAvB env as with
      | some r => some (.val (.list ds) :: r)
      | none => none)
    | some (.par ds) => (match toAvB env as with
      | some r => some (.val (.list ds) :: r)
      | none => none)
    | _ => none)
/-- a call that answers with a number, a text, a truth or None -/
def eCallB (g : Fn) (f : Fx (List AR)) : Fx R := fun env => match f env with
  | some (as, env1) => if slotsOf as = [] then eCall g f env else (match toAvB env1 as with
    | some avs => (match g avs with
      | some (.val d, []) => if scal d = true then some (.val d, env1) else none
      | _ => none)
    | none => none)
  | none => none
section
variable {K : PySem.W.Frag} {F Z H : Hp} {pa : Nat → Option Addr} {σ : L2.St} {env : En}
/-- the heap frozen for the call alone: with all that a list stands at -/
theorem lent_av (W : Wst K F Z H pa σ env) {Zs : Hp} (zz : Same Z Zs) (hz : ∀ a us, H a = some (.lst us) → Zs a = some (.lst us)) : ∀ {vs : List V} {as : List AR} {avs : List AV}, ArsOk K F Z H σ env vs as → toAvB env as = some avs → ∀ (Fc : Hp), AvOk K Fc Zs H vs avs ∧ ownAdr vs avs = []
  | _, _, avs, .nil, h, Fc => by cases h; exact ⟨.nil, rfl⟩
  | _, _, avs, .tmp _ _ _ _ _ _ _, h, Fc => by cases h
  | _, _, avs, .val (v := v) (d := d) (vs := vs) (as := as) q t, h, Fc => by
    cases e : toAvB env as with
    | none => simp only [toAvB, e] at h; cases h
    | some r =>
      simp only [toAvB, e] at h; cases h
      obtain ⟨a, b⟩ := lent_av W zz hz t e Fc
      exact ⟨.val (Dp.mono zz _ _ q) a, by cases v <;> exact b⟩
  | _, _, avs, .slot (v := v) (i := i) (vs := vs) (as := as) hv t, h, Fc => by
    have fin : ∀ (a : Addr) (us : List V) (ds : List D), v = .ref a → H a = some (.lst us) → DpAll K Z us ds → (match toAvB env as with | some r => some (AV.val (.list ds) :: r) | none => none) = some avs → AvOk K Fc Zs H (v :: vs) avs ∧ ownAdr (v :: vs) avs = [] := fun a us ds ev h1 h4 h => by
      subst ev
      cases e : toAvB env as with
      | none => rw [e] at h; cases h
      | some r =>
        rw [e] at h; cases h
        obtain ⟨b1, b2⟩ := lent_av W zz hz t e Fc
        exact ⟨.val (.lst (SqL.of (hz a us h1)) (DpAll.mono zz _ _ h4)) b1, b2⟩
    unfold toAvB at h
    split at h
    · rename_i ds es
      cases W.sl i _ _ hv es with
      | own h1 h2 h3 h4 => exact fin _ _ ds rfl h1 h4 h
    · rename_i ds es
      cases W.sl i _ _ hv es with
      | par h0 h1 h2 h3 h4 => exact fin _ _ ds rfl h1 h4 h
    · cases h
end
theorem tCallB_of {K : PySem.W.Frag} {np : Nat} {g : Fn} {f : Fx (List AR)} {E : XK} {σ : L2.St} {H : Hp} {Q : VK} (hl : ∀ env as env', f env = some (as, env') → as.length = np) (h : tR K (eCallB g f) σ H Q) : tCall (spF K np g) [] E (tAa K f) σ H Q := by
  have h0 := h
  obtain ⟨F, pa, Z, env, r, env', W, e, k⟩ := h
  unfold eCallB at e
  split at e
  · rename_i as env1 e1
    split at e
    · exact tCall_of hl ⟨F, pa, Z, env, r, env', W, e, k⟩
    split at e
    · rename_i avs e2
      split at e
      · rename_i d e3
        by_cases hs : scal d = true
        · rw [if_pos hs] at e
          cases e
          refine ⟨F, pa, Z, env, as, _, W, e1, fun vs Z1 H1 g1 W1 A => ?_⟩
          show spF K np g (vs ++ []) H1 Q E
          rw [List.append_nil]
          obtain ⟨av, oa⟩ := lent_av W1 (Zs := H1) W1.zh (fun _ _ h => h) A e2 H1
          refine ⟨by rw [← hl _ _ _ e1]; exact ars_len A, H1, H1, avs, .val d, [], Same.refl _, Same.refl _, av, e3, fun v Z2 H2 g2 f2 z2 o2 rt => ?_⟩
          have al : Alc Z1 H1 Z1 H2 := ⟨Same.refl _, f2, W1.zh.trans f2, fun _ _ => rfl⟩
          exact k v Z1 H2 g1 (W1.alc al) (scal_dp hs rt)
        · rw [if_neg hs] at e; cases e
      · cases e
    · cases e
  · cases e
end Ev
namespace Ev
open PySem PySem.Spec PyProof.Rows L2
/-! ## an own list compared where it stands -/
def seeAt (g : D → D → Option D) (x y : D) (e : En) : Option (D × En) := match g x y with
  | some z => if scal z = true then some (z, e) else none
  | none => none
theorem seeAt_some {g : D → D → Option D} {x y z : D} {e e2 : En} (h : seeAt g x y e = some (z, e2)) : g x y = some z ∧ scal z = true ∧ e2 = e := by
  unfold seeAt at h
  cases q : g x y with
  | none => rw [q] at h; cases h
  | some w =>
    rw [q] at h
    dsimp only at h
    by_cases c : scal w = true
    · rw [if_pos c] at h; cases h; exact ⟨rfl, c, rfl⟩
    · rw [if_neg c] at h; cases h
def ownL : Option Sl → Option (List D)
  | some (.own ds) => some ds
  | some (.par ds) => some ds
  | _ => none
def eSee (g : D → D → Option D) (i : Nat) (f : Fx D) : Fx D := fun env => match env[i]? with
  | some s => if isOwn s = true then (match f env with
      | some (y, e) => (match ownL e[i]? with
        | some ds => seeAt g (.list ds) y e
        | none => none)
      | none => none) else eOp g (eVar i) f env
  | none => none
def eSeeR (g : D → D → Option D) (f : Fx D) (i : Nat) : Fx D := fun env => match f env with
  | some (x, e) => (match ownL e[i]? with
    | some ds => seeAt g x (.list ds) e
    | none => eOp g f (eVar i) env)
  | none => none
section
variable {X : Cx}
theorem ownL_at {K : PySem.W.Frag} {F Z H : Hp} {pa : Nat → Option Addr} {σ : L2.St} {env : En} {i : Nat} {ds : List D} (W : Wst K F Z H pa σ env) (e : ownL env[i]? = some ds) :
    ∃ a us, σ[i]? = some (some (.ref a)) ∧ H a = some (.lst us) ∧ DpAll K Z us ds := by
  cases q : env[i]? with
  | none => rw [q] at e; cases e
  | some s =>
    rw [q] at e
    obtain ⟨o, eo, so⟩ := W.get q
    cases s with
    | own xs => cases e; cases so with | own h1 h2 h3 h4 => exact ⟨_, _, eo, h1, h4⟩
    | par xs => cases e; cases so with | par h0 h1 h2 h3 h4 => exact ⟨_, _, eo, h1, h4⟩
    | no => cases e
    | val _ => cases e
    | mat _ => cases e
theorem isOwn_ref {K : PySem.W.Frag} {F Z H : Hp} {pa : Nat → Option Addr} {σ : L2.St} {env : En} {i : Nat} {s : Sl} (W : Wst K F Z H pa σ env) (q : env[i]? = some s) (h : isOwn s = true) : ∃ a, σ[i]? = some (some (.ref a)) := by
  obtain ⟨o, eo, so⟩ := W.get q
  cases s with
  | own xs => cases so; exact ⟨_, eo⟩
  | par xs => cases so; exact ⟨_, eo⟩
  | no => cases h
  | val _ => cases h
  | mat _ => cases h
theorem tSee_of {r : R2} {g : D → D → Option D} {i : Nat} {x : Str} {np : Pos} {fb : Fx D} (hi : Imp2 X.K r g) {σ : L2.St} {H : Hp} {Q : VK} (h : tE X.K (eSee g i fb) σ H Q) : tOp r (tVar i) (tE X.K fb) σ H Q := by
  obtain ⟨F, pa, Z, env, z, env', W, e, k⟩ := h
  unfold eSee at e
  cases e0 : env[i]? with
  | none => rw [e0] at e; cases e
  | some s0 =>
    rw [e0] at e
    dsimp only at e
    cases ow : isOwn s0 with
    | false =>
      rw [ow, if_neg Bool.false_ne_true] at e
      obtain ⟨d, env1, e1, h1, h2, h3⟩ := eOp_some e
      unfold eVar at h1
      rw [e0] at h1
      obtain ⟨o, eo, so⟩ := W.get e0
      have fin : ∀ (Z1 : Hp) (x : V), σ[i]? = some (some x) → Gr F Z Z1 → Wst X.K F Z1 H pa σ env1 → Dp X.K Z1 x d → tOp r (tVar i) (tE X.K fb) σ H Q := fun Z1 x ex g1 W1 q1 =>
        ⟨x, ex, F, pa, Z1, env1, e1, env', W1, h2, fun y Z2 H2 g2 W2 q2 => hi Z2 H2 x y d e1 z Q W2.zh (Dp.mono g2.zz _ _ q1) q2 h3 fun v Z3 H3 a q => k v Z3 H3 ((g1.trans g2).trans (a.gr W2.fh)) (W2.alc a) q⟩
      cases so with
      | no => cases h1
      | par => cases ow
      | val dp => cases h1; exact fin _ _ eo (.refl ..) W dp
      | own => cases ow
      | @mat a us dss bs m1 m2 m3 m4 m5 =>
        cases h1
        have dp := mat_dp W.zh m1 m4
        obtain ⟨g, w⟩ := W.frzTo (own := fun b => b ∈ a :: bs) eo e0 (zAdd_zz W.zh) (zAdd_zh W.zh) (fun b hb => zAdd_out hb) (fun b m => (List.mem_cons.mp m).elim .inl fun m => .inr ⟨_, m1, (m4.mem m).1⟩) dp
        exact fin _ _ eo g w dp
    | true =>
      rw [ow, if_pos rfl] at e
      obtain ⟨a, ea⟩ := isOwn_ref W e0 ow
      cases e1 : fb env with
      | none => rw [e1] at e; cases e
      | some p =>
        obtain ⟨y, env1⟩ := p
        rw [e1] at e
        dsimp only at e
        cases e2 : ownL env1[i]? with
        | none => rw [e2] at e; cases e
        | some ds =>
          rw [e2] at e
          obtain ⟨h3, sc, rfl⟩ := seeAt_some e
          refine ⟨_, ea, F, pa, Z, env, y, env', W, e1, fun v Z1 H1 g1 W1 q1 => ?_⟩
          obtain ⟨a', us, ea', h1, h4⟩ := ownL_at W1 e2
          rw [ea] at ea'
          cases ea'
          refine hi H1 H1 (.ref a) v (.list ds) y z Q (Same.refl _) (.lst (SqL.of h1) (DpAll.mono W1.zh _ _ h4)) (Dp.mono W1.zh _ _ q1) h3 fun w Z3 H3 al q => ?_
          have al' : Alc Z1 H1 Z1 H3 := ⟨Same.refl _, al.hh, W1.zh.trans al.hh, fun _ _ => rfl⟩
          exact k w Z1 H3 g1 (W1.alc al') (scal_dp sc q)
theorem tSeeR_of {r : R2} {g : D → D → Option D} {i : Nat} {fa : Fx D} (hi : Imp2 X.K r g) {σ : L2.St} {H : Hp} {Q : VK} (h : tE X.K (eSeeR g fa i) σ H Q) : tOp r (tE X.K fa) (tVar i) σ H Q := by
  obtain ⟨F, pa, Z, env, z, env', W, e, k⟩ := h
  unfold eSeeR at e
  cases e1 : fa env with
  | none => rw [e1] at e; cases e
  | some p =>
    obtain ⟨x, env1⟩ := p
    rw [e1] at e
    dsimp only at e
    cases e2 : ownL env1[i]? with
    | some ds =>
      rw [e2] at e
      obtain ⟨h3, sc, rfl⟩ := seeAt_some e
      refine ⟨F, pa, Z, env, x, env', W, e1, fun v Z1 H1 g1 W1 q1 => ?_⟩
      obtain ⟨a, us, ea, h1, h4⟩ := ownL_at W1 e2
      refine ⟨_, ea, ?_⟩
      refine hi H1 H1 v (.ref a) x (.list ds) z Q (Same.refl _) (Dp.mono W1.zh _ _ q1) (.lst (SqL.of h1) (DpAll.mono W1.zh _ _ h4)) h3 fun w Z3 H3 al q => ?_
      have al' : Alc Z1 H1 Z1 H3 := ⟨Same.refl _, al.hh, W1.zh.trans al.hh, fun _ _ => rfl⟩
      exact k w Z1 H3 g1 (W1.alc al') (scal_dp sc q)
    | none =>
      rw [e2] at e
      dsimp only at e
      obtain ⟨d, env2, y, h1, h2, h3⟩ := eOp_some e
      rw [e1] at h1
      cases h1
      refine ⟨F, pa, Z, env, x, env1, W, e1, fun v Z1 H1 g1 W1 q1 => ?_⟩
      unfold eVar at h2
      cases e0 : env1[i]? with
      | none => rw [e0] at h2; cases h2
      | some s0 =>
        rw [e0] at h2 e2
        obtain ⟨o, eo, so⟩ := W1.get e0
        have fin : ∀ (Z2 : Hp) (u : V), σ[i]? = some (some u) → Gr F Z1 Z2 → Wst X.K F Z2 H1 pa σ env' → Dp X.K Z2 u y → tVar i σ H1 fun y H2 => r v y H2 Q := fun Z2 u eu g2 W2 q2 =>
          ⟨u, eu, hi Z2 H1 v u x y z Q W2.zh (Dp.mono g2.zz _ _ q1) q2 h3 fun w Z3 H3 a q => k w Z3 H3 ((g1.trans g2).trans (a.gr W2.fh)) (W2.alc a) q⟩
        cases so with
        | no => cases h2
        | par => cases e2
        | val dp => cases h2; exact fin _ _ eo (.refl ..) W1 dp
        | own => cases e2
        | @mat a us dss bs m1 m2 m3 m4 m5 =>
          cases h2
          have dp := mat_dp W1.zh m1 m4
          obtain ⟨g, w⟩ := W1.frzTo (own := fun b => b ∈ a :: bs) eo e0 (zAdd_zz W1.zh) (zAdd_zh W1.zh) (fun b hb => zAdd_out hb) (fun b m => (List.mem_cons.mp m).elim .inl fun m => .inr ⟨_, m1, (m4.mem m).1⟩) dp
          exact fin _ _ eo g w dp
variable {a b : Expr} {fa fb : Fx D} {pos : Pos}
theorem s_see {op : CmpOp} {g : D → D → Option D} {i : Nat} (ho : Op2 X (compareOp op) g) (ha : PE X a (tVar i)) (hb : PE X b (tE X.K fb)) (hm : behindInMarks op b = false) : PE X (.Compare a [op] [b] pos) (tE X.K (eSee g i fb)) := by
  obtain ⟨r, hr, hi⟩ := ho
  exact PE.imp (pe_cmpR hr ha hb hm) fun σ H Q h => tSee_of (x := "") (np := pos) hi h
theorem s_seeT {op : CmpOp} {g : D → D → Option D} {i : Nat} (ho : Op2 X (compareOp op) g) (ha : PE X a (tVar i)) (hb : PE X b (tE X.K fb)) (hm : behindInMarks op b = false) : PT X (.Compare a [op] [b] pos) (tT X.K (eB (eSee g i fb))) := by
  obtain ⟨r, hr, hi⟩ := ho
  exact PT.imp (pt_cmpR hr ha hb hm) fun σ H Q h => tSee_of (x := "") (np := pos) hi (tB_of h)
theorem s_seeR {op : CmpOp} {g : D → D → Option D} {i : Nat} (ho : Op2 X (compareOp op) g) (ha : PE X a (tE X.K fa)) (hb : PE X b (tVar i)) (hm : behindInMarks op b = false) : PE X (.Compare a [op] [b] pos) (tE X.K (eSeeR g fa i)) := by
  obtain ⟨r, hr, hi⟩ := ho
  exact PE.imp (pe_cmpR hr ha hb hm) fun σ H Q h => tSeeR_of hi h
theorem s_seeRT {op : CmpOp} {g : D → D → Option D} {i : Nat} (ho : Op2 X (compareOp op) g) (ha : PE X a (tE X.K fa)) (hb : PE X b (tVar i)) (hm : behindInMarks op b = false) : PT X (.Compare a [op] [b] pos) (tT X.K (eB (eSeeR g fa i))) := by
  obtain ⟨r, hr, hi⟩ := ho
  exact PT.imp (pt_cmpR hr ha hb hm) fun σ H Q h => tSeeR_of hi (tB_of h)
/-! ## xs[::-1] -/
def eRev (f : Fx D) : Fx R := fun env => match f env with
  | some (.list ds, e) => some (.fresh ds.reverse, e)
  | _ => none
theorem s_rev {k : Nat} {p1 p2 p3 : Pos} (ha : PE X a (tE X.K fa)) : PE X (.Subscript a (.Slice none none (some (.UnaryOp .USub (.Constant (.int 1) k p1) p2)) p3) pos) (tR X.K (eRev fa)) := by
  refine PE.imp (pe_revL ha) fun σ H Q ⟨F, pa, Z, env, r, env', W, e, k⟩ => ?_
  unfold eRev at e
  split at e
  · rename_i ds e1 h0
    cases e
    refine ⟨F, pa, Z, env, _, _, W, h0, fun v Z1 H1 g1 W1 q1 => ?_⟩
    cases q1 with
    | lst hs ha =>
      refine ⟨_, _, rfl, (show Same Z1 H1 from W1.zh).seq hs, fun p hp => ?_⟩
      obtain ⟨W2, rk⟩ := W1.newL hp (da_reverse ha)
      exact k _ _ _ g1 W2 rk
  · cases e
/-! ## xs.index(n), a list of ints -/
def idxI : List Int → Int → Option Nat
  | [], _ => none
  | m :: ms, n => if m = n then some 0 else (idxI ms n).map (· + 1)
theorem idxI_some : ∀ {ns : List Int} {n : Int} {j : Nat}, idxI ns n = some j → ns[j]? = some n ∧ ∀ m z, m < j → ns[m]? = some z → z ≠ n
  | [], n, j, h => by cases h
  | a :: ns, n, j, h => by
    unfold idxI at h
    by_cases c : a = n
    · rw [if_pos c] at h; cases h
      exact ⟨by rw [c]; rfl, fun m z hm => by omega⟩
    · rw [if_neg c] at h
      cases q : idxI ns n with
      | none => rw [q] at h; cases h
      | some i =>
        rw [q] at h; cases h
        obtain ⟨h1, h2⟩ := idxI_some q
        refine ⟨by simpa using h1, fun m z hm hz => ?_⟩
        cases m with
        | zero => simp at hz; rw [← hz]; exact c
        | succ m => exact h2 m z (by simp at hm; omega) (by simpa using hz)
def listL : Option Sl → Option (List D)
  | some (.own ds) => some ds
  | some (.par ds) => some ds
  | some (.val (.list ds)) => some ds
  | _ => none
def eIdx (i : Nat) (f : Fx D) : Fx D := fun env => match listL env[i]? with
  | some _ => (match f env with
    | some (.int n, e) => (match listL e[i]? with
      | some ds => (match (intsOf ds).bind fun ns => idxI ns n with
        | some j => some (.int (j : Nat), e)
        | none => none)
      | none => none)
    | _ => none)
  | none => none
theorem listL_at {K : PySem.W.Frag} {F Z H : Hp} {pa : Nat → Option Addr} {σ : L2.St} {env : En} {i : Nat} {ds : List D} (W : Wst K F Z H pa σ env) (e : listL env[i]? = some ds) :
    ∃ a us, σ[i]? = some (some (.ref a)) ∧ SqL K H a us ∧ DpAll K Z us ds := by
  cases q : env[i]? with
  | none => rw [q] at e; cases e
  | some s =>
    rw [q] at e
    obtain ⟨o, eo, so⟩ := W.get q
    cases s with
    | own xs => cases e; cases so with | own h1 h2 h3 h4 => exact ⟨_, _, eo, SqL.of h1, h4⟩
    | par xs => cases e; cases so with | par h0 h1 h2 h3 h4 => exact ⟨_, _, eo, SqL.of h1, h4⟩
    | no => cases e
    | mat _ => cases e
    | val d =>
      cases so with
      | val dp =>
        cases d with
        | list xs =>
          cases e
          cases dp with
          | lst hs ha => exact ⟨_, _, eo, (show Same Z H from W.zh).seq hs, ha⟩
        | _ => cases e
theorem e_idx {i : Nat} {x : Str} {ie : Expr} {f : Fx D} {np ap cp : Pos} (ho : PE X (.Name x np) (tVar i)) (hi : PE X ie (tE X.K f)) (hse : starEach [ie] X.env = (false, eval ie X.env) :: starEach [] X.env)
    (hline : (ap.endLine == cp.line) = true) : PE X (.Call (.Attribute (.Name x np) "index" ap) [ie] [] cp) (tE X.K (eIdx i f)) := by
  refine PE.imp (pe_bm PySem.F.plainAttrs_list PySem.F.slot_list_index PySem.F.type_list_index mt_index ho (pa_cons hi pa_nil hse) rfl (by rw [hse]; rfl) hline hse) fun σ H Q ⟨F, pa, Z, env, d, env', W, e, k⟩ => ?_
  unfold eIdx at e
  cases e0 : listL env[i]? with
  | none => rw [e0] at e; cases e
  | some ds0 =>
    rw [e0] at e
    dsimp only at e
    obtain ⟨a, us0, ea, hH0, _⟩ := listL_at W e0
    split at e
    · rename_i n env1 h1
      refine ⟨_, ea, Or.inl ⟨rfl, _, hH0⟩, F, pa, Z, env, _, env1, W, h1, fun y Z1 H1 g1 W1 q1 => ?_⟩
      cases q1
      split at e
      · rename_i ds h2
        obtain ⟨a', us, ea', hH, hd⟩ := listL_at W1 h2
        rw [ea] at ea'
        cases ea'
        split at e
        · rename_i j h3
          cases e
          cases h4 : intsOf ds with
          | none => rw [h4] at h3; cases h3
          | some ns =>
            rw [h4] at h3
            have h3 : idxI ns n = some j := h3
            obtain ⟨k1, k2⟩ := idxI_some h3
            have eu := intsOf_da hd h4
            subst eu
            refine ⟨a, _, .int n, j, .int n, rfl, rfl, hH, rfl, ?_, by simp [k1], by simp [eqV], fun m z' hm hz => ?_, k _ Z1 H1 g1 W1 (.int _)⟩
            · rw [List.all_eq_true]
              intro v hv
              obtain ⟨m, -, rfl⟩ := List.mem_map.mp hv
              rfl
            · rw [List.getElem?_map] at hz
              cases q : ns[m]? with
              | none => rw [q] at hz; cases hz
              | some w =>
                rw [q] at hz
                cases hz
                have := k2 m w hm q
                simpa [eqV] using this
        · cases e
      · cases e
    · cases e
end
end Ev
namespace Ev
open PySem PySem.Spec PyProof.Rows L2
/-! ## from the text to its evaluation -/
inductive Blt where
  | len | abs | int | min | max | all | any | sum | divmod | tuple | isinstance | list | range | zip | bool | str | dict | enumerate | sorted | repr
  deriving DecidableEq
def Blt.name : Blt → String
  | .len => "len" | .abs => "abs" | .int => "int" | .min => "min" | .max => "max" | .all => "all" | .any => "any" | .sum => "sum" | .divmod => "divmod" | .tuple => "tuple" | .isinstance => "isinstance" | .list => "list" | .range => "range" | .zip => "zip"
  | .bool => "bool" | .str => "str" | .dict => "dict" | .enumerate => "enumerate" | .sorted => "sorted" | .repr => "repr"
def Blt.ty : Blt → Option String
  | .int => some "int" | .bool => some "bool" | .tuple => some "tuple" | .list => some "list" | .str => some "str" | .dict => some "dict"
  | _ => none
/-- a built-in function on plain data -/
def Blt.fn : Blt → Option (List D → Option D)
  | .len => some gLen | .abs => some gAbs | .min => some gMin | .max => some gMax | .all => some gAll | .any => some gAny | .sum => some gSum | .divmod => some gDivmod | .sorted => some gSorted | .repr => some gReprD
  | _ => none
/-- a built-in type called on plain data -/
def Blt.tyFn : Blt → Option (List D → Option D)
  | .int => some gInt | .tuple => some gTuple
  | _ => none
structure Tab where
  fns : List (Str × Nat × List Bool)
  cons : List (Str × D)
  blts : List (Str × Blt)
  mods : List (Str × String)
  kws : List (Str × Nat × List Str × List Nat)
  mats : List Str
  bors : List Str
def modFn : String → Option (List D → Option D)
  | "math.gcd" => some gGcd
  | "math.lcm" => some gLcm
  | _ => none
def okNm (x : Str) : Bool := !(x == ("__debug__" : Str)) && !(x == ("__classdict__" : Str)) && !(x == ("__name__" : Str))
structure XOk (T : Tab) (N : List Str) (C : Nat → Fn) (X : Cx) : Prop where
  names : X.N = N
  nd : X.N.Nodup
  nm : ∀ x ∈ X.N, okNm x = true
  calm : X.calm = true
  kind : X.env.scope.kind = .function
  units : X.A.units + 64 < cLine
  grd : NoG X.A
  xe : X.xe = fun _ _ => False
  fn : ∀ x i fl, T.fns.lookup x = some (i, fl) → okNm x = true ∧ ∃ f fd ps k, X.mg x = some (.ref f) ∧ PySem.W.keepIn X.K (.ref f) = true ∧ Binds X.K fd ps [] ∧ FnG X.prog X.w X.K X.mg X.base k f fd ps (spF X.K fl.length (C i)) ∧ Room k X.A
  kw : ∀ x i fl n ks perm, T.fns.lookup x = some (i, fl) → (x, n, ks, perm) ∈ T.kws → perm.length = fl.length ∧ (∀ j ∈ perm, j < n + ks.length) ∧ ∃ f fd ps k, X.mg x = some (.ref f) ∧ PySem.W.keepIn X.K (.ref f) = true ∧
    KBinds X.K fd ps ks (pick n ks.length perm) (pick n ks.length perm) ∧ FnG X.prog X.w X.K X.mg X.base k f fd ps (spF X.K fl.length (C i)) ∧ Room k X.A
  con : ∀ x d, T.cons.lookup x = some d → okNm x = true ∧ ∃ u v, X.mg x = some u ∧ RelV v u ∧ ∀ Z, Dp X.K Z v d
  blt : ∀ x b, T.blts.lookup x = some b → x = (b.name : Str) ∧ X.mg x = none
  mod : ∀ x id, T.mods.lookup x = some id → okNm x = true ∧ X.mg x = some (.builtin id)
def stuck {α : Type} : Fx α := fun _ => none
structure Den where
  E : Scope → Expr → Fx D
  R : Scope → Expr → Fx R
  T : Scope → Expr → Fx Bool
  S : Scope → Stmt → Fx Fl
section
variable (T : Tab) (N : List Str) (C : Nat → Fn) (wf : Nat)
def nameIx : List Str → Str → Option Nat
  | [], _ => none
  | y :: ys, x => if y = x then some 0 else (nameIx ys x).map (· + 1)
/-- names whose slots are stored to -/
def storeIx (sc : Scope) (x : Str) : Option Nat := match nameIx N x with
  | some i => (match sc.names.lookup x with
    | some .local => some i
    | some .cell => some i
    | _ => none)
  | none => none
def namesIx (sc : Scope) : List Expr → Option (List Nat)
  | [] => some []
  | .Name x _ :: es => (match storeIx N sc x, namesIx sc es with
    | some i, some r => some (i :: r)
    | _, _ => none)
  | _ :: _ => none
def slot (sc : Scope) (x : Str) : Option Nat := match nameIx N x with
  | some i => (match sc.names.lookup x with
    | some .local => some i
    | some .cell => some i
    | some .free => some i
    | _ => none)
  | none => none
def isGl (sc : Scope) (x : Str) : Bool := match sc.names.lookup x with
  | some .globalImplicit => true
  | _ => false
def dName (sc : Scope) (x : Str) : Fx D := match slot N sc x with
  | some i => eVar i
  | none => if isGl sc x = true then (match T.cons.lookup x with
    | some v => eC v
    | none => stuck) else stuck
def opOf : Operator → Option (D → D → Option D)
  | .Add => some gAdd | .Sub => some gSub | .Mult => some gMul | .FloorDiv => some gFdiv | .Mod => some gMod | .Pow => some gPow | .LShift => some gShl
  | _ => none
def cmpOf : CmpOp → (D → D → Option D)
  | .Eq => gEq | .NotEq => gNe | .Lt => gLt | .LtE => gLe | .Gt => gGt | .GtE => gGe | .Is => gIs | .IsNot => gIsNot | .In => gIn | .NotIn => gNotIn
def isStar : Expr → Bool
  | .Starred _ _ => true
  | _ => false
def plIx : Expr → Bool
  | .Name _ _ => true | .Constant _ _ _ => true | .BinOp _ _ _ _ => true | .UnaryOp _ _ _ => true | .Call _ _ _ _ => true | .Subscript _ _ _ => true | .IfExp _ _ _ _ => true
  | _ => false
def dD (d : Den) (sc : Scope) : List Expr → Fx (List D)
  | [] => dNil
  | e :: es => if isStar e = true then stuck else dCons (d.E sc e) (dD d sc es)
/-- what a list written out holds: things, and the items of starred ones -/
def dDs (d : Den) (sc : Scope) : List Expr → Fx (List D)
  | [] => dNil
  | e :: es => (match e with
    | .Starred a _ => dStar (d.E sc a) (dDs d sc es)
    | _ => dCons (d.E sc e) (dDs d sc es))
/-- arguments of an own def: fl tells which parameters are lists that it changes -/
def dA1 (d : Den) (sc : Scope) (e : Expr) (g : Fx (List AR)) : Fx (List AR) := match e with
  | .Name x _ => (match slot N sc x with
    | some i => aSlot i g
    | none => stuck)
  | e => if isStar e = true then stuck else aTmp (d.R sc e) g
def dA (d : Den) (sc : Scope) : List Bool → List Expr → Fx (List AR)
  | fl, [] => (match fl with
    | [] => aNil
    | _ => stuck)
  | fl, e :: es => (match fl with
    | [] => stuck
    | b :: fl => if b = true then dA1 N d sc e (dA d sc fl es) else (if isStar e = true then stuck else aVal (d.E sc e) (dA d sc fl es)))
def dRs (d : Den) (sc : Scope) : List Expr → Fx (List AR)
  | [] => aNil
  | e :: es => if isStar e = true then stuck else aR (d.R sc e) (dRs d sc es)
def dAndT (d : Den) (sc : Scope) : List Expr → Fx Bool
  | [] => stuck
  | [a] => d.T sc a
  | a :: b :: r => eAndT (d.T sc a) (dAndT d sc (b :: r))
def dOrT (d : Den) (sc : Scope) : List Expr → Fx Bool
  | [] => stuck
  | [a] => d.T sc a
  | a :: b :: r => eOrT (d.T sc a) (dOrT d sc (b :: r))
def dAnd (d : Den) (sc : Scope) : List Expr → Fx D
  | [] => stuck
  | [a] => d.E sc a
  | a :: b :: r => eAnd (d.E sc a) (dAnd d sc (b :: r))
def dOr (d : Den) (sc : Scope) : List Expr → Fx D
  | [] => stuck
  | [a] => d.E sc a
  | a :: b :: r => eOr (d.E sc a) (dOr d sc (b :: r))
/-- what a for walks -/
def dRange (d : Den) (sc : Scope) (args : List Expr) : Fx (List D) := match args with
  | [a] => if isStar a = true then stuck else iRange1 (d.E sc a)
  | [a, b] => if isStar a = true ∨ isStar b = true then stuck else iRange2 (d.E sc a) (d.E sc b)
  | [a, b, c] => if isStar a = true ∨ isStar b = true ∨ isStar c = true then stuck else iRange3 (d.E sc a) (d.E sc b) (d.E sc c)
  | _ => stuck
def isTup : Expr → Bool
  | .Tuple _ _ _ => true
  | _ => false
def dZip (d : Den) (sc : Scope) (tg : Expr) (args : List Expr) : Fx (List D) := if isTup tg = true then (match args with
  | [a, b] => if isStar a = true ∨ isStar b = true then stuck else iZip (dD d sc [a, b])
  | _ => stuck) else stuck
def dEnum (d : Den) (sc : Scope) (tg : Expr) (args : List Expr) : Fx (List D) := if isTup tg = true then (match args with
  | [a] => if isStar a = true then stuck else iEnum (d.E sc a)
  | _ => stuck) else stuck
def dI (d : Den) (sc : Scope) (tg : Expr) (e : Expr) : Fx (List D) := match e with
  | .Call (.Name x _) args [] _ => if isGl sc x = true then (match T.blts.lookup x with
    | some .range => dRange d sc args
    | some .zip => dZip d sc tg args
    | some .enumerate => dEnum d sc tg args
    | _ => iSeq (d.E sc e)) else stuck
  | .Set _ _ _ => stuck
  | _ => iSeq (d.E sc e)
/-- targets: a name, or a tuple of names, items and such tuples (two levels) -/
def dG0 (d : Den) (sc : Scope) : Expr → List Nat × Gf
  | .Name x _ => (match slot N sc x with
    | some i => (match sc.names.lookup x with
      | some .free => ([], fun _ _ => none)
      | _ => ([i], gN i))
    | none => ([], fun _ _ => none))
  | .Subscript (.Name x _) ie _ => (match slot N sc x with
    | some i => if plIx ie = true then ([], gIx i (d.E sc ie)) else ([], fun _ _ => none)
    | none => ([], fun _ _ => none))
  | _ => ([], fun _ _ => none)
def dGs (g : Expr → List Nat × Gf) : List Expr → List Nat × (List D → En → Option En)
  | [] => ([], gsNil)
  | e :: es => if isStar e = true then ([], fun _ _ => none) else ((g e).1 ++ (dGs g es).1, gsCons (g e).2 (dGs g es).2)
def dG1 (d : Den) (sc : Scope) : Expr → List Nat × Gf
  | .Tuple es _ _ => ((dGs (dG0 N d sc) es).1, gTup es.length (dGs (dG0 N d sc) es).2)
  | e => dG0 N d sc e
def dG (d : Den) (sc : Scope) : Expr → List Nat × Gf
  | .Tuple es _ _ => ((dGs (dG1 N d sc) es).1, gTup es.length (dGs (dG1 N d sc) es).2)
  | e => dG0 N d sc e
/-- the names that a comprehension's block has of its own -/
def ownOf (scope : Scope) : List (Str × Nat) := scope.names.filterMap fun y => match y.2 with
  | .local => (nameIx N y.1).map fun i => (y.1, i)
  | .cell => (nameIx N y.1).map fun i => (y.1, i)
  | _ => none
def subB (a b : List Nat) : Bool := a.all fun i => b.contains i
def dIfs (d : Den) (sc : Scope) : List Expr → Fx Bool
  | [] => fun env => some (true, env)
  | [c] => d.T sc c
  | _ => stuck
def notSet : Expr → Bool
  | .Set _ _ _ => false
  | _ => true
def dComp (d : Den) (sc : Scope) (elt : Expr) (gens : List Comprehension) (scope : Scope) : Fx R := match gens with
  | [⟨tg, iter, ifs, 0⟩] => if notSet iter = true ∧ blkC N sc scope (ownOf N scope) = true ∧ subB (dG N d (relS scope sc) tg).1 ((ownOf N scope).map (·.2)) = true then
      eComp (dI T d sc tg iter) (dG N d (relS scope sc) tg).2 (dIfs d (relS scope sc) ifs) (d.E (relS scope sc) elt) ((ownOf N scope).map (·.2)) else stuck
  | [⟨tg, iter, ifs, 0⟩, ⟨tg1, iter1, ifs1, 0⟩] => if notSet iter = true ∧ blkC N sc scope (ownOf N scope) = true ∧ subB (dG N d (relS scope sc) tg).1 ((ownOf N scope).map (·.2)) = true ∧ notSet iter1 = true ∧ subB (dG N d (relS scope sc) tg1).1 ((ownOf N scope).map (·.2)) = true then
      eComp2 (dI T d sc tg iter) (dG N d (relS scope sc) tg).2 (dIfs d (relS scope sc) ifs) (dI T d (relS scope sc) tg1 iter1) (dG N d (relS scope sc) tg1).2 (dIfs d (relS scope sc) ifs1) (d.E (relS scope sc) elt) ((ownOf N scope).map (·.2)) (dG N d (relS scope sc) tg1).1 else stuck
  | _ => stuck
/-- a new list of new lists -/
def dCompM (d : Den) (sc : Scope) (elt : Expr) (gens : List Comprehension) (scope : Scope) : Fx R := match gens with
  | [⟨tg, iter, ifs, 0⟩] => if notSet iter = true ∧ blkC N sc scope (ownOf N scope) = true ∧ subB (dG N d (relS scope sc) tg).1 ((ownOf N scope).map (·.2)) = true then
      eCompM (dI T d sc tg iter) (dG N d (relS scope sc) tg).2 (dIfs d (relS scope sc) ifs) (d.R (relS scope sc) elt) ((ownOf N scope).map (·.2)) else stuck
  | _ => stuck
def kwNames (kws : List Keyword) : List (Option Str) := kws.map fun | ⟨n, _, _⟩ => n
def kwVals (kws : List Keyword) : List Expr := kws.map fun | ⟨_, v, _⟩ => v
def findKw (x : Str) (n : Nat) (ks : List (Option Str)) : Option (List Str × List Nat) := match T.kws.find? fun q => decide (q.1 = x) && (decide (q.2.1 = n) && decide (q.2.2.1.map some = ks)) with
  | some q => some q.2.2
  | none => none
/-- a list of its own that a def lends -/
def isBor : Expr → Bool
  | .Name x _ => T.bors.contains x
  | _ => false
def dCall (d : Den) (sc : Scope) (x : Str) (args : List Expr) (kws : List Keyword) : Option (Fx R) := match T.fns.lookup x with
  | some (i, fl) => (match kws with
    | [] => some (if args.length = fl.length then (if args.any (isBor T) = true then eCallB (C i) (dA N d sc (List.zipWith (fun b e => b || isBor T e) fl args) args) else eCall (C i) (dA N d sc fl args)) else stuck)
    | _ => (match findKw T x args.length (kwNames kws) with
      | some (ks, perm) => some (eCallK (C i) args.length ks.length perm (dD d sc args) (dD d sc (kwVals kws)))
      | none => some stuck))
  | none => none
/-- a range as an argument -/
def rgArgs (sc : Scope) : Expr → Option (List Expr)
  | .Call (.Name y _) args [] _ => if isGl sc y = true then (match T.blts.lookup y with
    | some .range => some args
    | _ => none) else none
  | _ => none
def dList (d : Den) (sc : Scope) (a : Expr) : Fx R := match rgArgs T sc a with
  | some [b] => if isStar b = true then stuck else eRgL1 (d.E sc b)
  | some [b, c] => if isStar b = true ∨ isStar c = true then stuck else eRgL2 (d.E sc b) (d.E sc c)
  | some _ => stuck
  | none => eList (d.E sc a)
/-- a list of two or more, written out -/
def isLst2 : Expr → Bool
  | .List (_ :: _ :: _) _ => true
  | _ => false
/-- the law's table tells whether a list added is a new list -/
def freshL : Bool := (T.blts.lookup ("dict" : Str)).isSome
def isRev : Expr → Bool
  | .Slice none none (some (.UnaryOp .USub (.Constant (.int 1) _ _) _)) _ => true
  | _ => false
def stepR (d : Den) (sc : Scope) (e : Expr) : Fx R := match e with
  | .BinOp a .Add b _ => if (freshL T && isLst2 b) = true then eAddR (d.E sc a) (d.E sc b) else rV (d.E sc e)
  | .List es _ => eLst (dDs d sc es)
  | .ListComp elt gens scope _ => dComp T N d sc elt gens scope
  | .Call (.Name x _) args kws _ => if isGl sc x = true then (match dCall T N C d sc x args kws with
    | some f => f
    | none => (match T.blts.lookup x, args, kws with
      | some .list, [a], [] => if isStar a = true then stuck else dList T d sc a
      | _, _, _ => rV (d.E sc e))) else stuck
  | .Subscript a (.Slice lo hi none _) _ => eSlice (d.E sc a) (ePart (lo.map (d.E sc))) (ePart (hi.map (d.E sc)))
  | .Subscript a s _ => if isRev s = true then eRev (d.E sc a) else rV (d.E sc e)
  | .IfExp c a b _ => eIf (d.T sc c) (d.R sc a) (d.R sc b)
  | .Name x _ => (match slot N sc x with
    | some i => eMove i
    | none => rV (d.E sc e))
  | _ => rV (d.E sc e)
def dCmpR (d : Den) (sc : Scope) (a : Expr) (op : CmpOp) : Expr → Fx D
  | .Name x p => if T.bors.contains x = true then (match slot N sc x with
    | some i => eSeeR (cmpOf op) (d.E sc a) i
    | none => stuck) else eOp (cmpOf op) (d.E sc a) (d.E sc (.Name x p))
  | b => eOp (cmpOf op) (d.E sc a) (d.E sc b)
/-- one thing compared with one; lists that a def lends are not frozen -/
def dCmp (d : Den) (sc : Scope) (a : Expr) (op : CmpOp) (b : Expr) : Fx D := match a with
  | .Name x _ => if T.bors.contains x = true then (match slot N sc x with
    | some i => eSee (cmpOf op) i (d.E sc b)
    | none => stuck) else dCmpR T N d sc a op b
  | _ => dCmpR T N d sc a op b
def stepE (d : Den) (sc : Scope) (e : Expr) : Fx D := match e with
  | .Name x _ => dName T N sc x
  | .Constant c _ _ => (match c with
    | .none => eC .none
    | .bool b => eC (.bool b)
    | .int i => eC (.int i)
    | .str s => eC (.str s)
    | _ => stuck)
  | .BinOp a op b _ => (match opOf op with
    | some g => eOp g (d.E sc a) (d.E sc b)
    | none => stuck)
  | .UnaryOp .Not a _ => eNot (d.E sc a)
  | .UnaryOp .USub a _ => eNeg (d.E sc a)
  | .BoolOp .And es _ => dAnd d sc es
  | .BoolOp .Or es _ => dOr d sc es
  | .Compare a [op] [b] _ => if behindInMarks op b = false then dCmp T N d sc a op b else stuck
  | .Compare a [op, op'] [b, c] _ => if behindInMarks op' c = false then eChain (cmpOf op) (cmpOf op') (d.E sc a) (d.E sc b) (d.E sc c) else stuck
  | .IfExp c a b _ => eIf (d.T sc c) (d.E sc a) (d.E sc b)
  | .Tuple es _ _ => eTup (dD d sc es)
  | .List _ _ => eFz (d.R sc e)
  | .ListComp _ _ _ _ => eFz (d.R sc e)
  | .Subscript a s _ => (match s with
    | .Slice _ _ none _ => eFz (d.R sc e)
    | _ => if plIx s = true then (match a with
      | .Subscript (.Name x _) s1 _ => if (T.mats.contains x && plIx s1) = true then (match slot N sc x with
        | some i => eItem2 i (d.E sc s1) (d.E sc s)
        | none => stuck) else eOp gItem (d.E sc a) (d.E sc s)
      | .Name x _ => (match slot N sc x with
        | some i => eItemN i (d.E sc s)
        | none => eOp gItem (d.E sc a) (d.E sc s))
      | _ => eOp gItem (d.E sc a) (d.E sc s)) else if isRev s = true then eFz (d.R sc e) else stuck)
  | .Call (.Name x _) args kws _ => if isGl sc x = true then (match T.fns.lookup x with
    | some _ => eFz (d.R sc e)
    | none => (match kws with
      | [] => (match T.blts.lookup x with
        | some .len => (match args with
          | [.Name y p] => (match slot N sc y with
            | some i => eLenN i
            | none => eBlt gLen (dD d sc args))
          | _ :: _ => eBlt gLen (dD d sc args)
          | [] => stuck)
        | some .isinstance => (match args with
          | [a, .Name y _] => if isStar a = true then stuck else (if isGl sc y = true then (match (T.blts.lookup y).bind Blt.ty with
            | some ty => eIsi ty (d.E sc a)
            | none => stuck) else stuck)
          | _ => stuck)
        | some .list => eFz (d.R sc e)
        | some b => (match args with
          | [] => stuck
          | _ :: _ => (match b.fn with
            | some g => eBlt g (dD d sc args)
            | none => (match b.tyFn with
              | some g => eBlt g (dD d sc args)
              | none => stuck)))
        | none => (match (T.mods.lookup x).bind modFn, args with
          | some g, _ :: _ => eBlt g (dD d sc args)
          | _, _ => stuck))
      | _ => stuck)) else stuck
  | .Call (.Attribute (.Name x _) m ap) [a] [] cp => if m = ("pop" : Str) ∧ (ap.endLine == cp.line) = true ∧ isStar a = false then (match slot N sc x with
    | some i => ePop i (d.E sc a)
    | none => stuck) else if m = ("index" : Str) ∧ (ap.endLine == cp.line) = true ∧ isStar a = false then (match slot N sc x with
    | some i => eIdx i (d.E sc a)
    | none => stuck) else stuck
  | _ => stuck
def stepT (d : Den) (sc : Scope) (e : Expr) : Fx Bool := match e with
  | .UnaryOp .Not a _ => eNotT (d.T sc a)
  | .BoolOp .And es _ => dAndT d sc es
  | .BoolOp .Or es _ => dOrT d sc es
  | .Compare a [op] [b] _ => if behindInMarks op b = false then eB (dCmp T N d sc a op b) else stuck
  | .Compare a [op, op'] [b, c] _ => if behindInMarks op' c = false then eB (eChain (cmpOf op) (cmpOf op') (d.E sc a) (d.E sc b) (d.E sc c)) else stuck
  | .Name _ _ => eTru (d.E sc e)
  | .Call _ _ _ _ => eTru (d.E sc e)
  | .Subscript _ _ _ => eTru (d.E sc e)
  | .Constant _ _ _ => eTru (d.E sc e)
  | _ => stuck
def dSs (d : Den) (sc : Scope) : List Stmt → Fx Fl
  | [] => sSkip
  | [s] => d.S sc s
  | s :: t :: r => sSeq (d.S sc s) (dSs d sc (t :: r))
def locIx (sc : Scope) (x : Str) : Option Nat := match sc.names.lookup x with
  | some .local => nameIx N x
  | _ => none
def tupSafe : Expr → Expr → Bool
  | .Tuple _ _ _, .Tuple _ _ _ => false
  | .Tuple _ _ _, _ => true
  | .Subscript _ _ _, _ => true
  | _, _ => false
def noLc : Expr → Bool
  | .ListComp _ _ _ _ => false
  | .SetComp _ _ _ _ => false
  | .DictComp _ _ _ _ _ => false
  | _ => true
def isNew : Expr → Bool
  | .List _ _ => true
  | .ListComp _ _ _ _ => true
  | _ => false
/-- a, b, .. = x, y, .. through a tuple; new lists stay own -/
def dTupA (d : Den) (sc : Scope) (ts vs : List Expr) (kt : Nat) (pt : Pos) (k2 : Nat) (p2 : Pos) : Fx Fl := if vs.any isNew = true ∧ ts.length ≤ 1000 then (match namesIx N sc ts with
    | some is => sPar is (dRs d sc vs)
    | none => sStuck) else sAsg (d.E sc (.Tuple vs k2 p2)) (dG N d sc (.Tuple ts kt pt)).2
def stepS (d : Den) (sc : Scope) (st : Stmt) : Fx Fl := match st with
  | .Pass _ => sSkip
  | .Break _ => sBreak
  | .Continue _ => sCont
  | .Return none _ => sRetN
  | .Return (some e) _ => sRet (d.R sc e)
  | .If c a b _ => sIf (d.T sc c) (dSs d sc a) (dSs d sc b)
  | .While c b [] _ => sWhile (d.T sc c) (dSs d sc b) wf
  | .For tg it b [] _ => if notSet it = true then sFor (dI T d sc tg it) (dG N d sc tg).2 (dSs d sc b) else sStuck
  | .Expr (.Constant (.str _) _ _) _ => sSkip
  | .Expr (.Call (.Attribute (.Name x _) m ap) [a] [] cp) _ => if m = ("append" : Str) ∧ (ap.endLine == cp.line) = true ∧ isStar a = false then (match slot N sc x with
    | some i => sApp i (d.E sc a)
    | none => sStuck) else sStuck
  | .Expr e _ => if noLc e = true then sExpr (d.R sc e) else sStuck
  | .Assign [.Name x px] e sp => (match nameIx N x with
    | some i => (match sc.names.lookup x with
      | some k => if k = .local ∨ k = .cell then (match e with
        | .ListComp elt gens scope lp => if k = .local ∧ (px.line == lp.line) = true ∧ (scope.names.any fun (n, k) => n == x && (k == .local || k == .cell)) = false then sSet i (if T.mats.contains x = true then dCompM T N d sc elt gens scope else dComp T N d sc elt gens scope) else sStuck
        | _ => if noLc e = true then sSet i (d.R sc e) else sStuck) else sStuck
      | none => sStuck)
    | none => sStuck)
  | .Assign [.Tuple [.Name x px, .Name y py] kt pt] (.Tuple [a, b] k2 p2) sp => (match locIx N sc x, locIx N sc y with
    | some i, some j => if i ≠ j ∧ swGood sc [.Name x px, .Name y py] [a, b] = true ∧ swNames sc [.Name x px, .Name y py] px.line = [x, y] then sPar [i, j] (dRs d sc [a, b]) else if swNone sc [.Name x px, .Name y py] [a, b] = true then dTupA N d sc [.Name x px, .Name y py] [a, b] kt pt k2 p2 else sStuck
    | _, _ => if swNone sc [.Name x px, .Name y py] [a, b] = true then dTupA N d sc [.Name x px, .Name y py] [a, b] kt pt k2 p2 else sStuck)
  | .Assign [.Tuple [.Name x px, .Name y py, .Name z pz] kt pt] (.Tuple [a, b, c] k2 p2) sp => (match locIx N sc x, locIx N sc y, locIx N sc z with
    | some i, some j, some l => if i ≠ j ∧ i ≠ l ∧ j ≠ l ∧ swGood sc [.Name x px, .Name y py, .Name z pz] [a, b, c] = true ∧ swNames sc [.Name x px, .Name y py, .Name z pz] px.line = [x, y, z] then sPar [i, j, l] (dRs d sc [a, b, c]) else if swNone sc [.Name x px, .Name y py, .Name z pz] [a, b, c] = true then dTupA N d sc [.Name x px, .Name y py, .Name z pz] [a, b, c] kt pt k2 p2 else sStuck
    | _, _, _ => if swNone sc [.Name x px, .Name y py, .Name z pz] [a, b, c] = true then dTupA N d sc [.Name x px, .Name y py, .Name z pz] [a, b, c] kt pt k2 p2 else sStuck)
  | .Assign [.Subscript (.Subscript (.Name x px) a p1) b p2] e sp => if (T.mats.contains x && plIx a && plIx b && noLc e) = true then (match slot N sc x with
    | some i => sAsg (d.E sc e) (gIx2 i (d.E sc a) (d.E sc b))
    | none => sStuck) else sStuck
  | .Assign [tg] e _ => if tupSafe tg e = true ∧ noLc e = true then sAsg (d.E sc e) (dG N d sc tg).2 else
      (match tg, e with
      | .Tuple ts kt pt, .Tuple vs k2 p2 => if swNone sc ts vs = true then dTupA N d sc ts vs kt pt k2 p2 else sStuck
      | _, _ => sStuck)
  | _ => sStuck
def den : Nat → Den
  | 0 => ⟨fun _ _ => stuck, fun _ _ => stuck, fun _ _ => stuck, fun _ _ => stuck⟩
  | n + 1 => ⟨stepE T N (den n), stepR T N C (den n), stepT T N (den n), stepS T N wf (den n)⟩
end
end Ev
namespace Ev
open PySem PySem.Spec PyProof.Rows L2
theorem e_stuck {X : Cx} {e : Expr} : PE X e (tE X.K stuck) := ⟨fun _ _ _ _ _ _ ⟨_, _, _, _, _, _, _, e, _⟩ => nomatch e⟩
theorem r_stuck {X : Cx} {e : Expr} : PE X e (tR X.K stuck) := ⟨fun _ _ _ _ _ _ ⟨_, _, _, _, _, _, _, e, _⟩ => nomatch e⟩
theorem t_stuck {X : Cx} {e : Expr} : PT X e (tT X.K stuck) := ⟨fun _ _ _ _ _ _ ⟨_, _, _, _, _, _, _, e, _⟩ => nomatch e⟩
theorem w_stuck {X : Cx} {e : Expr} : PW X e (tT X.K stuck) := ⟨fun _ _ _ _ _ _ _ ⟨_, _, _, _, _, _, _, e, _⟩ => nomatch e⟩
theorem a_stuck {X : Cx} {e : List Expr} : PA X e (tAa X.K stuck) := ⟨fun _ _ _ _ _ _ _ ⟨_, _, _, _, _, _, _, e, _⟩ => nomatch e⟩
theorem d_stuck {X : Cx} {e : List Expr} : PA X e (tAd X.K stuck) := ⟨fun _ _ _ _ _ _ _ ⟨_, _, _, _, _, _, _, e, _⟩ => nomatch e⟩
theorem i_stuck {X : Cx} {tg e : Expr} : PI X tg e (tI X.K stuck) := ⟨fun _ _ _ _ _ _ ⟨_, _, _, _, _, _, _, e, _⟩ => nomatch e⟩
theorem g_stuck {X : Cx} {e : Expr} {sl : List Nat} : PG X e (tG X.K sl fun _ _ => none) := ⟨fun _ _ _ _ _ _ _ _ _ ⟨_, _, _, _, _, _, _, _, e, _⟩ => nomatch e⟩
theorem gs_stuck {X : Cx} {e : List Expr} {sl : List Nat} : PGs X e (tGs X.K sl fun _ _ => none) := ⟨fun _ _ _ _ _ _ _ _ _ ⟨_, _, _, _, _, _, _, _, e, _⟩ => nomatch e⟩
theorem nameIx_get : ∀ {N : List Str} {x : Str} {i : Nat}, nameIx N x = some i → N[i]? = some x
  | [], _, _, h => by cases h
  | y :: ys, x, i, h => by
    unfold nameIx at h
    by_cases q : y = x
    · rw [if_pos q] at h; cases h; rw [q]; rfl
    · rw [if_neg q] at h
      cases e : nameIx ys x with
      | none => rw [e] at h; cases h
      | some j =>
        rw [e] at h; cases h
        rw [List.getElem?_cons_succ]
        exact nameIx_get e
theorem okNm_deb {x : Str} (h : okNm x = true) : (x == ("__debug__" : Str)) = false ∧ (x == ("__classdict__" : Str)) = false ∧ x ≠ "__name__" := by
  unfold okNm at h
  simp only [Bool.and_eq_true, Bool.not_eq_true'] at h
  exact ⟨h.1.1, h.1.2, by
    have := h.2
    intro z
    rw [z] at this
    simp at this⟩
section
variable {T : Tab} {N : List Str} {C : Nat → Fn} {wf : Nat} {X : Cx}
theorem slot_ok (ok : XOk T N C X) {x : Str} {i : Nat} (h : slot N X.env.scope x = some i) : X.N[i]? = some x ∧ Vis X.env.scope x := by
  unfold slot at h
  split at h
  · rename_i j hj
    have hn := nameIx_get hj
    rw [← ok.names] at hn
    split at h <;> first | (cases h; done) | (rename_i hk; cases h; exact ⟨hn, by first | exact .inl hk | exact .inr (.inl hk) | exact .inr (.inr hk)⟩)
  · cases h
theorem slot_pv (ok : XOk T N C X) {x : Str} {i : Nat} {pos : Pos} (h : slot N X.env.scope x = some i) : PE X (.Name x pos) (tVar i) := by
  obtain ⟨h1, h2⟩ := slot_ok ok h
  obtain ⟨d1, d2, _⟩ := okNm_deb (ok.nm x (List.mem_of_getElem? h1))
  exact pe_var h1 h2 d1 d2
theorem isGl_ok {x : Str} (h : isGl X.env.scope x = true) : Gl X x := by
  unfold isGl at h
  split at h
  · assumption
  · cases h
theorem dName_ok (ok : XOk T N C X) {x : Str} {pos : Pos} : PE X (.Name x pos) (tE X.K (dName T N X.env.scope x)) := by
  unfold dName
  split
  · rename_i i hi
    exact s_var (slot_pv ok hi)
  · split
    · rename_i hg
      split
      · rename_i v hv
        obtain ⟨hn, u, w, h1, h2, h3⟩ := ok.con x v hv
        exact s_const (pe_glob (isGl_ok hg) h1 h2 (okNm_deb hn).1) h3
      · exact e_stuck
    · exact e_stuck
theorem star_of {e : Expr} (h : isStar e = false) (es : List Expr) (env : Env) : starEach (e :: es) env = (false, eval e env) :: starEach es env := by
  cases e <;> first | rfl | (cases h)
theorem plIx_ok {b : Expr} (h : plIx b = true) : PlainIx b := by
  cases b <;> first | (cases h; done) | exact fun _ _ => rfl
theorem op_ok (ok : XOk T N C X) {op : Operator} {g : D → D → Option D} (h : opOf op = some g) : Op2 X (binaryOp op) g := by
  cases op <;> first | (cases h; done) | (cases h; first | exact o_add | exact o_sub | exact o_mul | exact o_fdiv | exact o_mod | exact o_pow | exact o_shl)
theorem cmp_ok (ok : XOk T N C X) (op : CmpOp) : Op2 X (compareOp op) (cmpOf op) := by
  cases op <;> first | exact o_eq ok.units | exact o_ne ok.units | exact o_lt | exact o_le | exact o_gt | exact o_ge | exact o_is | exact o_isnot | exact o_in ok.units | exact o_notin ok.units
structure Good (T : Tab) (N : List Str) (C : Nat → Fn) (d : Den) : Prop where
  gE : ∀ X, XOk T N C X → ∀ e, PE X e (tE X.K (d.E X.env.scope e))
  gR : ∀ X, XOk T N C X → ∀ e, PE X e (tR X.K (d.R X.env.scope e))
  gT : ∀ X, XOk T N C X → ∀ e, PT X e (tT X.K (d.T X.env.scope e))
  gS : ∀ X, XOk T N C X → (∀ x, X.fn x = true) → ∀ st, PS X st (tS X.K (d.S X.env.scope st))
variable {d : Den}
theorem bf {b : Bool} (h : ¬ b = true) : b = false := Bool.eq_false_iff.mpr h
theorem dD_ok (G : Good T N C d) (ok : XOk T N C X) : ∀ es : List Expr, PA X es (tAd X.K (dD d X.env.scope es))
  | [] => s_dNil
  | e :: es => by
    unfold dD
    split
    · exact d_stuck
    · rename_i h
      exact s_dCons (G.gE X ok e) (dD_ok G ok es) (star_of (bf h) es _)
theorem dDs_ok (G : Good T N C d) (ok : XOk T N C X) : ∀ es : List Expr, PA X es (tAd X.K (dDs d X.env.scope es))
  | [] => s_dNil
  | e :: es => by
    have ih := dDs_ok G ok es
    cases e <;> first
      | exact s_dStar (G.gE X ok _) ih
      | exact s_dCons (G.gE X ok _) ih rfl
theorem dRs_ok (G : Good T N C d) (ok : XOk T N C X) : ∀ es : List Expr, PA X es (tAa X.K (dRs d X.env.scope es))
  | [] => s_aNil
  | e :: es => by
    unfold dRs
    split
    · exact a_stuck
    · rename_i h
      exact s_aR (G.gR X ok e) (dRs_ok G ok es) (star_of (bf h) es _)
theorem dA1_ok (G : Good T N C d) (ok : XOk T N C X) {e : Expr} {es : List Expr} {g : Fx (List AR)} (h : PA X es (tAa X.K g)) : PA X (e :: es) (tAa X.K (dA1 N d X.env.scope e g)) := by
  unfold dA1
  split
  · split
    · rename_i i hi
      exact s_aSlot (slot_pv ok hi) h rfl
    · exact a_stuck
  · split
    · exact a_stuck
    · rename_i hs
      exact s_aTmp (G.gR X ok _) h (star_of (bf hs) _ _)
theorem dA_ok (G : Good T N C d) (ok : XOk T N C X) : ∀ (fl : List Bool) (es : List Expr), PA X es (tAa X.K (dA N d X.env.scope fl es))
  | fl, [] => by
    unfold dA
    split
    · exact s_aNil
    · exact a_stuck
  | fl, e :: es => by
    unfold dA
    split
    · exact a_stuck
    · rename_i b fl
      split
      · exact dA1_ok G ok (dA_ok G ok fl es)
      · split
        · exact a_stuck
        · rename_i h
          exact s_aVal (G.gE X ok e) (dA_ok G ok fl es) (star_of (bf h) es _)
theorem dA1_cases (d : Den) (sc : Scope) (e : Expr) (g : Fx (List AR)) : dA1 N d sc e g = stuck ∨ (∃ i, dA1 N d sc e g = aSlot i g) ∨ ∃ f, dA1 N d sc e g = aTmp f g := by
  cases e with
  | Name x p =>
    show (match slot N sc x with | some i => aSlot i g | none => stuck) = stuck ∨ (∃ i, (match slot N sc x with | some i => aSlot i g | none => stuck) = aSlot i g) ∨ ∃ f, (match slot N sc x with | some i => aSlot i g | none => stuck) = aTmp f g
    cases slot N sc x with
    | none => exact .inl rfl
    | some i => exact .inr (.inl ⟨i, rfl⟩)
  | Starred a p => exact .inl rfl
  | _ => exact .inr (.inr ⟨_, rfl⟩)
theorem dA_len : ∀ (d : Den) (sc : Scope) (fl : List Bool) (es : List Expr) (env env' : En) (as : List AR), dA N d sc fl es env = some (as, env') → as.length = es.length := by
  intro d sc fl es
  induction es generalizing fl with
  | nil =>
    intro env env' as h
    cases fl with
    | nil => cases h; rfl
    | cons b fl => cases h
  | cons e es ih =>
    intro env env' as h
    cases fl with
    | nil => cases h
    | cons b fl =>
      have v1 : ∀ (f : Fx D), aVal f (dA N d sc fl es) env = some (as, env') → as.length = (e :: es).length := fun f h => by
        unfold aVal at h
        cases e1 : f env with
        | none => rw [e1] at h; cases h
        | some p =>
          rw [e1, Option.bind_some] at h
          cases e2 : dA N d sc fl es p.2 with
          | none => rw [e2] at h; cases h
          | some q => rw [e2] at h; cases h; exact congrArg Nat.succ (ih fl _ _ _ e2)
      have v2 : ∀ i, aSlot i (dA N d sc fl es) env = some (as, env') → as.length = (e :: es).length := fun i h => by
        unfold aSlot at h
        split at h
        · cases e2 : dA N d sc fl es env with
          | none => rw [e2] at h; cases h
          | some q => rw [e2] at h; cases h; exact congrArg Nat.succ (ih fl _ _ _ e2)
        · split at h
          · cases e2 : dA N d sc fl es env with
            | none => rw [e2] at h; cases h
            | some q => rw [e2] at h; cases h; exact congrArg Nat.succ (ih fl _ _ _ e2)
          · cases h
        · cases h
      have v3 : ∀ (f : Fx R), aTmp f (dA N d sc fl es) env = some (as, env') → as.length = (e :: es).length := fun f h => by
        unfold aTmp at h
        split at h
        · rename_i ds e1 _
          cases e2 : dA N d sc fl es e1 with
          | none => rw [e2] at h; cases h
          | some q => rw [e2] at h; cases h; exact congrArg Nat.succ (ih fl _ _ _ e2)
        · cases h
      unfold dA at h
      dsimp only at h
      split at h
      · rcases dA1_cases (N := N) d sc e (dA N d sc fl es) with z | ⟨i, z⟩ | ⟨f, z⟩
        · rw [z] at h; cases h
        · rw [z] at h; exact v2 _ h
        · rw [z] at h; exact v3 _ h
      · split at h
        · cases h
        · exact v1 _ h
theorem dD_len : ∀ (d : Den) (sc : Scope) (es : List Expr) (env env' : En) (as : List D), dD d sc es env = some (as, env') → as.length = es.length := by
  intro d sc es
  induction es with
  | nil => intro env env' as h; cases h; rfl
  | cons e es ih =>
    intro env env' as h
    unfold dD at h
    split at h
    · cases h
    · unfold dCons at h
      cases e1 : d.E sc e env with
      | none => rw [e1] at h; cases h
      | some p =>
        rw [e1, Option.bind_some] at h
        cases e2 : dD d sc es p.2 with
        | none => rw [e2] at h; cases h
        | some q => rw [e2] at h; cases h; exact congrArg Nat.succ (ih _ _ _ e2)
theorem dAndT_ok (G : Good T N C d) (ok : XOk T N C X) {pos : Pos} : ∀ es : List Expr, PW X (.BoolOp .And es pos) (tT X.K (dAndT d X.env.scope es))
  | [] => w_stuck
  | [a] => s_and1 (G.gT X ok a)
  | a :: b :: r => s_andT (G.gT X ok a) (dAndT_ok G ok (b :: r))
theorem dOrT_ok (G : Good T N C d) (ok : XOk T N C X) {pos : Pos} : ∀ es : List Expr, PW X (.BoolOp .Or es pos) (tT X.K (dOrT d X.env.scope es))
  | [] => w_stuck
  | [a] => s_or1 (G.gT X ok a)
  | a :: b :: r => s_orT (G.gT X ok a) (dOrT_ok G ok (b :: r))
theorem dAnd_ok (G : Good T N C d) (ok : XOk T N C X) {pos : Pos} : ∀ es : List Expr, PE X (.BoolOp .And es pos) (tE X.K (dAnd d X.env.scope es))
  | [] => e_stuck
  | [a] => pe_one (G.gE X ok a)
  | a :: b :: r => s_and (G.gE X ok a) (dAnd_ok G ok (b :: r))
theorem dOr_ok (G : Good T N C d) (ok : XOk T N C X) {pos : Pos} : ∀ es : List Expr, PE X (.BoolOp .Or es pos) (tE X.K (dOr d X.env.scope es))
  | [] => e_stuck
  | [a] => pe_one (G.gE X ok a)
  | a :: b :: r => s_or (G.gE X ok a) (dOr_ok G ok (b :: r))
theorem blt_ok (ok : XOk T N C X) {x : Str} {b : Blt} (h : T.blts.lookup x = some b) : x = (b.name : Str) ∧ X.mg x = none := ok.blt x b h
theorem dRange_ok (G : Good T N C d) (ok : XOk T N C X) {tg : Expr} {args : List Expr} {p pos : Pos} (hg : Gl X "range") (hm : X.mg "range" = none) : PI X tg (.Call (.Name "range" p) args [] pos) (tI X.K (dRange d X.env.scope args)) := by
  match args with
  | [] => exact i_stuck
  | [a] =>
    show PI X tg _ (tI X.K (if isStar a = true then stuck else iRange1 (d.E X.env.scope a)))
    split
    · exact i_stuck
    · rename_i hs
      exact s_range1 (G.gE X ok _) hg hm (star_of (bf hs) [] _)
  | [a, b] =>
    show PI X tg _ (tI X.K (if isStar a = true ∨ isStar b = true then stuck else iRange2 (d.E X.env.scope a) (d.E X.env.scope b)))
    split
    · exact i_stuck
    · rename_i hs
      rw [not_or] at hs
      exact s_range2 (G.gE X ok _) (G.gE X ok _) hg hm (by rw [star_of (bf hs.1), star_of (bf hs.2)]; rfl) (star_of (bf hs.2) [] _)
  | [a, b, c] =>
    show PI X tg _ (tI X.K (if isStar a = true ∨ isStar b = true ∨ isStar c = true then stuck else iRange3 (d.E X.env.scope a) (d.E X.env.scope b) (d.E X.env.scope c)))
    split
    · exact i_stuck
    · rename_i hs
      rw [not_or, not_or] at hs
      exact s_range3 (G.gE X ok _) (G.gE X ok _) (G.gE X ok _) hg hm (star_of (bf hs.1) _ _) (star_of (bf hs.2.1) _ _) (star_of (bf hs.2.2) _ _)
  | _ :: _ :: _ :: _ :: _ => exact i_stuck
theorem dEnum_ok (G : Good T N C d) (ok : XOk T N C X) {tg : Expr} {args : List Expr} {p pos : Pos} (hg : Gl X "enumerate") (hm : X.mg "enumerate" = none) : PI X tg (.Call (.Name "enumerate" p) args [] pos) (tI X.K (dEnum d X.env.scope tg args)) := by
  unfold dEnum
  split
  · rename_i ht
    cases tg <;> (try (cases ht; done))
    match args with
    | [] => exact i_stuck
    | [a] =>
      show PI X _ _ (tI X.K (if isStar a = true then stuck else iEnum (d.E X.env.scope a)))
      split
      · exact i_stuck
      · rename_i hs
        exact s_enum (G.gE X ok _) hg hm (star_of (bf hs) [] _)
    | _ :: _ :: _ => exact i_stuck
  · exact i_stuck
theorem dZip_ok (G : Good T N C d) (ok : XOk T N C X) {tg : Expr} {args : List Expr} {p pos : Pos} (hg : Gl X "zip") (hm : X.mg "zip" = none) : PI X tg (.Call (.Name "zip" p) args [] pos) (tI X.K (dZip d X.env.scope tg args)) := by
  unfold dZip
  split
  · rename_i ht
    cases tg <;> (try (cases ht; done))
    match args with
    | [] => exact i_stuck
    | [_] => exact i_stuck
    | [a, b] =>
      show PI X _ _ (tI X.K (if isStar a = true ∨ isStar b = true then stuck else iZip (dD d X.env.scope [a, b])))
      split
      · exact i_stuck
      · rename_i hs
        rw [not_or] at hs
        exact s_zip (dD_ok G ok [_, _]) hg hm (star_of (bf hs.1) [_] _) (by rw [star_of (bf hs.2)]; rfl)
    | _ :: _ :: _ :: _ => exact i_stuck
  · exact i_stuck
theorem dI_ok (G : Good T N C d) (ok : XOk T N C X) (tg e : Expr) : PI X tg e (tI X.K (dI T d X.env.scope tg e)) := by
  unfold dI
  split
  · rename_i x p args pos
    split
    · rename_i hg
      split
      · rename_i hb
        obtain ⟨hx, hm⟩ := blt_ok ok hb
        subst hx
        exact dRange_ok G ok (isGl_ok hg) hm
      · rename_i hb
        obtain ⟨hx, hm⟩ := blt_ok ok hb
        subst hx
        exact dZip_ok G ok (isGl_ok hg) hm
      · rename_i hb
        obtain ⟨hx, hm⟩ := blt_ok ok hb
        subst hx
        exact dEnum_ok G ok (isGl_ok hg) hm
      · exact s_iSeq (G.gE X ok _)
    · exact i_stuck
  · exact i_stuck
  · exact s_iSeq (G.gE X ok _)
/-- the names of the slots S may be stored -/
def Sto (N : List Str) (X : Cx) (S : List Nat) : Prop := ∀ x i, nameIx N x = some i → i ∈ S → Loc X.env.scope x → X.fn x = true ∨ X.env.scope.names.lookup x = some .local
theorem slot_ix {sc : Scope} {x : Str} {i : Nat} (h : slot N sc x = some i) : nameIx N x = some i := by
  unfold slot at h
  split at h
  · rename_i j hj
    split at h <;> first | (cases h; done) | (cases h; exact hj)
  · cases h
theorem dG0_ok (G : Good T N C d) (ok : XOk T N C X) {S : List Nat} (hfn : Sto N X S) (e : Expr) (hS : ∀ i ∈ (dG0 N d X.env.scope e).1, i ∈ S) : PG X e (tG X.K (dG0 N d X.env.scope e).1 (dG0 N d X.env.scope e).2) := by
  unfold dG0 at hS ⊢
  split
  · rename_i x p
    cases hs : slot N X.env.scope x with
    | none => exact g_stuck
    | some i =>
      obtain ⟨h1, h2⟩ := slot_ok ok hs
      simp only [hs] at hS
      dsimp only
      split
      · exact g_stuck
      · rename_i hnf
        have hl : Loc X.env.scope x := by
          rcases h2 with h | h | h
          · exact .inl h
          · exact .inr h
          · exact absurd h hnf
        have hi : i ∈ S := by
          apply hS
          split
          · rename_i z; exact absurd z hnf
          · simp
        exact s_gn (pg_name ok.nd h1 hl (hfn x i (slot_ix hs) hi hl))
  · rename_i x np ie pos
    cases hs : slot N X.env.scope x with
    | none => exact g_stuck
    | some i =>
      dsimp only
      split
      · rename_i hp
        exact s_gIx (slot_pv ok hs) (G.gE X ok _) (fun _ => by cases ie <;> first | rfl | (cases hp))
      · exact g_stuck
  · exact g_stuck
theorem dGs_ok {g : Expr → List Nat × Gf} {S : List Nat} (hg : ∀ e, (∀ i ∈ (g e).1, i ∈ S) → PG X e (tG X.K (g e).1 (g e).2)) : ∀ es : List Expr, (∀ i ∈ (dGs g es).1, i ∈ S) → PGs X es (tGs X.K (dGs g es).1 (dGs g es).2)
  | [], _ => s_gsNil
  | e :: es, hS => by
    unfold dGs at hS ⊢
    split
    · exact gs_stuck
    · rename_i h
      rw [if_neg h] at hS
      exact s_gsCons (hg e fun i hi => hS i (List.mem_append_left _ hi)) (dGs_ok hg es fun i hi => hS i (List.mem_append_right _ hi)) (by cases e <;> first | rfl | exact absurd rfl h)
theorem each_len : ∀ (es : List Expr) (env : Env), (assignEach es env).length = es.length
  | [], _ => rfl
  | e :: es, env => by
    have ih := each_len es env
    cases e <;> exact congrArg Nat.succ ih
theorem each_star {g : Expr → List Nat × Gf} : ∀ (es : List Expr) (env : Env), (es.any isStar) = false → (assignEach es env).findIdx? (·.1) = none
  | [], _, _ => rfl
  | e :: es, env, h => by
    rw [List.any_cons, Bool.or_eq_false_iff] at h
    have ih := each_star (g := g) es env h.2
    have : assignEach (e :: es) env = (false, assign e env) :: assignEach es env := by
      cases e <;> first | rfl | (cases h.1)
    rw [this, List.findIdx?_cons, ih]
    rfl
theorem dGs_star {g : Expr → List Nat × Gf} : ∀ (es : List Expr), (es.any isStar) = true → ∀ ds env, ds.length = es.length → (dGs g es).2 ds env = none
  | [], h, _, _, _ => by cases h
  | e :: es, h, ds, env, hl => by
    unfold dGs
    split
    · rfl
    · rename_i hs
      rw [List.any_cons, bf hs, Bool.false_or] at h
      cases ds with
      | nil => cases hl
      | cons d ds =>
        show ((g e).2 d env).bind ((dGs g es).2 ds) = none
        cases (g e).2 d env with
        | none => rfl
        | some e1 => exact dGs_star es h ds e1 (Nat.succ.inj hl)
theorem gtup_ok {g : Expr → List Nat × Gf} {S : List Nat} (ok : XOk T N C X) (hg : ∀ e, (∀ i ∈ (g e).1, i ∈ S) → PG X e (tG X.K (g e).1 (g e).2)) {es : List Expr} {k : Nat} {pos : Pos} (hS : ∀ i ∈ (dGs g es).1, i ∈ S) : PG X (.Tuple es k pos) (tG X.K (dGs g es).1 (gTup es.length (dGs g es).2)) := by
  cases h : es.any isStar with
  | false => exact s_gTup ok.calm (dGs_ok hg es hS) (each_len es _) (each_star (g := g) es _ h)
  | true =>
    refine ⟨fun pins s σ H v u Q I r ⟨F, pa, Z, env, d, env', W, q, e, k⟩ => ?_⟩
    exfalso
    unfold gTup at e
    split at e
    · split at e
      · rename_i hl
        rw [dGs_star es h _ _ hl] at e; cases e
      · cases e
    · cases e
theorem dG1_ok (G : Good T N C d) (ok : XOk T N C X) {S : List Nat} (hfn : Sto N X S) (e : Expr) (hS : ∀ i ∈ (dG1 N d X.env.scope e).1, i ∈ S) : PG X e (tG X.K (dG1 N d X.env.scope e).1 (dG1 N d X.env.scope e).2) := by
  cases e <;> first | exact gtup_ok ok (dG0_ok G ok hfn) hS | exact dG0_ok G ok hfn _ hS
theorem dG_ok (G : Good T N C d) (ok : XOk T N C X) {S : List Nat} (hfn : Sto N X S) (e : Expr) (hS : ∀ i ∈ (dG N d X.env.scope e).1, i ∈ S) : PG X e (tG X.K (dG N d X.env.scope e).1 (dG N d X.env.scope e).2) := by
  cases e <;> first | exact gtup_ok ok (dG1_ok G ok hfn) hS | exact dG0_ok G ok hfn _ hS
/-- the context of a comprehension's block -/
theorem XOk.blk (ok : XOk T N C X) {s : Shared} {H : Hp} {scope : Scope} {cl : List (Str × Addr)} {Cc : Addr} {fp : List Addr} (hk : scope.kind = .function) : XOk T N C (X.blk s H scope (compEnvC scope cl Cc X.env) fp) :=
  ⟨ok.names, ok.nd, ok.nm, ok.calm, hk, ok.units, ok.grd, rfl, ok.fn, ok.kw, ok.con, ok.blt, ok.mod⟩
theorem subB_ok {a b : List Nat} (h : subB a b = true) : ∀ i ∈ a, i ∈ b := fun i hi => by
  have := List.all_eq_true.mp h i hi
  simpa using this
theorem blk_sto (ok : XOk T N C X) {s : Shared} {H : Hp} {scope : Scope} {cl : List (Str × Addr)} {Cc : Addr} {fp : List Addr} (hu : ∀ y ∈ scope.names, scope.names.lookup y.1 = some y.2) : Sto N (X.blk s H scope (compEnvC scope cl Cc X.env) fp) ((ownOf N scope).map (·.2)) := by
  intro x i hx hi _
  obtain ⟨q, hq, e⟩ := List.mem_map.mp hi
  unfold ownOf at hq
  obtain ⟨y, hy, ey⟩ := List.mem_filterMap.mp hq
  have key : (nameIx N y.1).map (fun i => (y.1, i)) = some q → y.1 = x := fun h => by
    cases e1 : nameIx N y.1 with
    | none => rw [e1] at h; cases h
    | some j =>
      rw [e1] at h; cases h
      have a1 := nameIx_get e1
      have a2 := nameIx_get hx
      have e' : j = i := e
      subst e'
      rw [a1] at a2
      exact Option.some.inj a2
  have lk := hu y hy
  split at ey
  · rename_i hk
    have := key ey
    subst this
    rw [hk] at lk
    right
    exact lookup_relS_keep (sc := X.env.scope) (by decide) lk
  · rename_i hk
    have := key ey
    subst this
    rw [hk] at lk
    left
    show (scope.names.lookup y.1 == some .cell) = true
    rw [lk]; rfl
  · cases ey
theorem dIfs_ok (G : Good T N C d) (ok : XOk T N C X) : ∀ ifs : List Expr, PTs X ifs (tT X.K (dIfs d X.env.scope ifs))
  | [] => by
    refine ⟨fun pins s σ H Q I ⟨F, pa, Z, env, b, env', W, e, k⟩ => ?_⟩
    cases e
    exact pts_nil.run pins s σ H Q I (k Z H (.refl ..) W)
  | [c] => pts_one (G.gT X ok c)
  | _ :: _ :: _ => ⟨fun _ _ _ _ _ _ ⟨_, _, _, _, _, _, _, e, _⟩ => nomatch e⟩
theorem folded_ok {e : Expr} (h : notSet e = true) (env : Env) : ∀ x, foldedSetIterable e env x = pure x := by
  cases e <;> first | exact fun _ => rfl | (cases h)
theorem dComp_ok (G : Good T N C d) (ok : XOk T N C X) (elt : Expr) (gens : List Comprehension) (scope : Scope) (pos : Pos) : PE X (.ListComp elt gens scope pos) (tR X.K (dComp T N d X.env.scope elt gens scope)) := by
  unfold dComp
  split
  · rename_i tg iter ifs
    split
    · rename_i h
      obtain ⟨h1, h2, h3⟩ := h
      rw [← ok.names] at h2
      have bo := blkOk_by h2
      rw [ok.names] at bo
      have bo' : BlkOk X.N X.env.scope scope (ownOf N scope) := by rw [ok.names]; exact bo
      refine s_comp ok.calm ok.nd (dI_ok G ok tg iter) bo' (subB_ok h3) (fun s H Cc cl fp => ?_) (fun s H Cc cl fp => ?_) (fun s H Cc cl fp => ?_) (folded_ok h1 _)
      · exact dG_ok G (ok.blk (s := s) (H := H) (cl := cl) (Cc := Cc) (fp := fp) bo.kind) (blk_sto ok bo.uniq) tg (subB_ok h3)
      · exact dIfs_ok G (ok.blk (s := s) (H := H) (cl := cl) (Cc := Cc) (fp := fp) bo.kind) ifs
      · exact G.gE _ (ok.blk (s := s) (H := H) (cl := cl) (Cc := Cc) (fp := fp) bo.kind) elt
    · exact r_stuck
  · rename_i tg iter ifs tg1 iter1 ifs1
    split
    · rename_i h
      obtain ⟨h1, h2, h3, h4, h5⟩ := h
      rw [← ok.names] at h2
      have bo := blkOk_by h2
      rw [ok.names] at bo
      have bo' : BlkOk X.N X.env.scope scope (ownOf N scope) := by rw [ok.names]; exact bo
      refine s_comp2 ok.calm ok.nd (dI_ok G ok tg iter) bo' (subB_ok h3) (fun _ h => h) (subB_ok h5) (fun s H Cc cl fp => ?_) (fun s H Cc cl fp => ?_) (fun s H Cc cl fp => ?_) (fun s H Cc cl fp => ?_) (fun s H Cc cl fp => ?_) (fun s H Cc cl fp => ?_) (folded_ok h1 _) (folded_ok h4)
      · exact dG_ok G (ok.blk (s := s) (H := H) (cl := cl) (Cc := Cc) (fp := fp) bo.kind) (blk_sto ok bo.uniq) tg (subB_ok h3)
      · exact dIfs_ok G (ok.blk (s := s) (H := H) (cl := cl) (Cc := Cc) (fp := fp) bo.kind) ifs
      · exact dI_ok G (ok.blk (s := s) (H := H) (cl := cl) (Cc := Cc) (fp := fp) bo.kind) tg1 iter1
      · exact dG_ok G (ok.blk (s := s) (H := H) (cl := cl) (Cc := Cc) (fp := fp) bo.kind) (blk_sto ok bo.uniq) tg1 (subB_ok h5)
      · exact dIfs_ok G (ok.blk (s := s) (H := H) (cl := cl) (Cc := Cc) (fp := fp) bo.kind) ifs1
      · exact G.gE _ (ok.blk (s := s) (H := H) (cl := cl) (Cc := Cc) (fp := fp) bo.kind) elt
    · exact r_stuck
  · exact r_stuck
end
end Ev
namespace Ev
open PySem PySem.Spec PyProof.Rows L2
/-! ## the steps are right -/
theorem PK.imp {X : Cx} {kws : List Keyword} {t t' : TA} (h : PK X kws t) (m : ∀ σ H Q, t' σ H Q → t σ H Q) : PK X kws t' := ⟨fun pos pins s σ H Q I q => h.run pos pins s σ H Q I (m σ H Q q)⟩
section
variable {T : Tab} {N : List Str} {C : Nat → Fn} {wf : Nat} {X : Cx} {d : Den}
theorem kw_all {kws : List Keyword} {ks : List Str} {pos : Pos} {env : Env} (h : kwNames kws = ks.map some) : (backToKw pos (keywordEach kws env)).all (·.1.isSome) = true ∧ (backToKw pos (keywordEach kws env)).filterMap (·.1) = ks ∧ (backToKw pos (keywordEach kws env)).any (·.1.isNone) = false := by
  induction kws generalizing ks with
  | nil =>
    cases ks with
    | nil => exact ⟨rfl, rfl, rfl⟩
    | cons => cases h
  | cons kw kws ih =>
    obtain ⟨n, v, kp⟩ := kw
    cases ks with
    | nil => cases h
    | cons k ks =>
      have h1 : n = some k := (List.cons.inj h).1
      have h2 : kwNames kws = ks.map some := (List.cons.inj h).2
      subst h1
      obtain ⟨a, b, c⟩ := ih h2
      refine ⟨?_, ?_, ?_⟩
      · show (true && (backToKw pos (keywordEach kws env)).all (·.1.isSome)) = true
        rw [a]; rfl
      · show k :: (backToKw pos (keywordEach kws env)).filterMap (·.1) = k :: ks
        rw [b]
      · show (false || (backToKw pos (keywordEach kws env)).any (·.1.isNone)) = false
        rw [c]; rfl
theorem dK_ok (G : Good T N C d) (ok : XOk T N C X) : ∀ kws : List Keyword, PK X kws (tAd X.K (dD d X.env.scope (kwVals kws)))
  | [] => by
    refine PK.imp pk_nil fun σ H Q ⟨F, pa, Z, env, ds, env', W, h, k⟩ => ?_
    cases h
    exact k [] Z H (.refl ..) W .nil
  | ⟨n, v, kp⟩ :: kws => by
    show PK X _ (tAd X.K (if isStar v = true then stuck else dCons (d.E X.env.scope v) (dD d X.env.scope (kwVals kws))))
    split
    · exact ⟨fun _ _ _ _ _ _ _ ⟨_, _, _, _, _, _, _, e, _⟩ => nomatch e⟩
    · refine PK.imp (pk_cons (G.gE X ok v) (dK_ok G ok kws)) fun σ H Q ⟨F, pa, Z, env, ds, env', W, h, k⟩ => ?_
      unfold dCons at h
      cases e1 : d.E X.env.scope v env with
      | none => rw [e1] at h; cases h
      | some p =>
        rw [e1, Option.bind_some] at h
        cases e2 : dD d X.env.scope (kwVals kws) p.2 with
        | none => rw [e2] at h; cases h
        | some q =>
          rw [e2] at h
          cases h
          exact ⟨F, pa, Z, env, p.1, p.2, W, e1, fun v Z1 H1 g1 W1 q1 => ⟨F, pa, Z1, p.2, q.1, q.2, W1, e2, fun vs Z2 H2 g2 W2 q2 => k (v :: vs) Z2 H2 (g1.trans g2) W2 (.cons (Dp.mono g2.zz _ _ q1) q2)⟩⟩
theorem no_star {d : Den} {sc : Scope} {pos : Pos} {env : Env} : ∀ {es : List Expr} {ev : En} {r : List D × En}, dD d sc es ev = some r → (backTo pos (starEach es env)).any (·.1) = false
  | [], _, _, _ => rfl
  | e :: es, ev, r, h => by
    unfold dD at h
    split at h
    · cases h
    · rename_i hs
      rw [star_of (bf hs)]
      unfold dCons at h
      cases e1 : d.E sc e ev with
      | none => rw [e1] at h; cases h
      | some p =>
        rw [e1, Option.bind_some] at h
        cases e2 : dD d sc es p.2 with
        | none => rw [e2] at h; cases h
        | some q =>
          show (false || (backTo pos (starEach es env)).any (·.1)) = false
          rw [no_star e2]; rfl
/-- a reading that holds only where the evaluation goes on -/
theorem PE.when {e : Expr} {f : Fx R} {P : Prop} (h : P → PE X e (tR X.K f)) (w : ∀ env r, f env = some r → P) : PE X e (tR X.K f) :=
  ⟨fun pins s σ H Q I q => by
    obtain ⟨F, pa, Z, env, r, env', W, e, k⟩ := id q
    exact (h (w _ _ e)).run pins s σ H Q I q⟩
theorem PE.whenE {e : Expr} {f : Fx D} {P : Prop} (h : P → PE X e (tE X.K f)) (w : ∀ env r, f env = some r → P) : PE X e (tE X.K f) :=
  ⟨fun pins s σ H Q I q => by
    obtain ⟨F, pa, Z, env, r, env', W, e, k⟩ := id q
    exact (h (w _ _ e)).run pins s σ H Q I q⟩
theorem stars_of : ∀ {es : List Expr} {env : Env} {pos : Pos}, (backTo pos (starEach es env)).any (·.1) = false → ∀ e r, es = e :: r → starEach (e :: r) env = (false, eval e env) :: starEach r env ∧ (backTo pos (starEach r env)).any (·.1) = false := by
    intro es env pos h e r he
    subst he
    cases hs : isStar e with
    | true =>
      cases e <;> (try (cases hs; done))
      have : ((true : Bool) || (backTo pos (starEach r env)).any (·.1)) = false := h
      cases this
    | false =>
      rw [star_of hs] at h
      have h' : ((false : Bool) || (backTo pos (starEach r env)).any (·.1)) = false := h
      exact ⟨star_of hs r env, by simpa using h'⟩
theorem findKw_ok {x : Str} {n : Nat} {kn : List (Option Str)} {ks : List Str} {perm : List Nat} (h : findKw T x n kn = some (ks, perm)) : (x, n, ks, perm) ∈ T.kws ∧ kn = ks.map some := by
  unfold findKw at h
  split at h
  · rename_i q hq
    have h1 := List.find?_some hq
    have h2 := List.mem_of_find?_eq_some hq
    simp only [Bool.and_eq_true, decide_eq_true_eq] at h1
    obtain ⟨a, b, c⟩ := h1
    obtain ⟨q1, q2, q3, q4⟩ := q
    cases h
    cases a; cases b
    exact ⟨h2, c.symm⟩
  · cases h
theorem dA_star {d : Den} {pos : Pos} : ∀ (fl : List Bool) (es : List Expr) (env : En) (r : List AR × En), dA N d X.env.scope fl es env = some r → (backTo pos (starEach es X.env)).any (·.1) = false := by
  intro fl es
  induction es generalizing fl with
  | nil => intro _ _ _; rfl
  | cons e es ih =>
    intro env r h
    cases fl with
    | nil => cases h
    | cons b fl =>
      cases hs : isStar e with
      | true =>
        exfalso
        cases e <;> (try (cases hs; done))
        cases b <;> cases h
      | false =>
        rw [star_of hs]
        show (false || (backTo pos (starEach es X.env)).any (·.1)) = false
        rw [Bool.false_or]
        unfold dA at h
        dsimp only at h
        split at h
        · rcases dA1_cases (N := N) d X.env.scope e (dA N d X.env.scope fl es) with z | ⟨i, z⟩ | ⟨f, z⟩
          · rw [z] at h; cases h
          · rw [z] at h
            unfold aSlot at h
            split at h
            · cases e2 : dA N d X.env.scope fl es env with
              | none => rw [e2] at h; cases h
              | some q => exact ih fl _ _ e2
            · split at h
              · cases e2 : dA N d X.env.scope fl es env with
                | none => rw [e2] at h; cases h
                | some q => exact ih fl _ _ e2
              · cases h
            · cases h
          · rw [z] at h
            unfold aTmp at h
            split at h
            · rename_i ds e1 _
              cases e2 : dA N d X.env.scope fl es e1 with
              | none => rw [e2] at h; cases h
              | some q => exact ih fl _ _ e2
            · cases h
        · rw [if_neg (by rw [hs]; exact Bool.false_ne_true)] at h
          unfold aVal at h
          cases e1 : d.E X.env.scope e env with
          | none => rw [e1] at h; cases h
          | some p =>
            rw [e1, Option.bind_some] at h
            cases e2 : dA N d X.env.scope fl es p.2 with
            | none => rw [e2] at h; cases h
            | some q => exact ih fl _ _ e2
theorem dCall_ok (G : Good T N C d) (ok : XOk T N C X) {x : Str} {p pos : Pos} {args : List Expr} {kws : List Keyword} {f : Fx R} (hg : Gl X x) (h : dCall T N C d X.env.scope x args kws = some f) : PE X (.Call (.Name x p) args kws pos) (tR X.K f) := by
  unfold dCall at h
  split at h
  · rename_i i fl hf
    obtain ⟨hn, ff, fd, ps, k, h1, h2, h3, h4, h5⟩ := ok.fn x i fl hf
    have hdb := (okNm_deb hn).1
    cases kws with
    | nil =>
      dsimp only at h
      cases h
      split
      · rename_i hl
        split
        · -- lists lent
          have lz : (List.zipWith (fun b e => b || isBor T e) fl args).length = fl.length := by rw [List.length_zipWith, hl, Nat.min_self]
          cases args with
          | nil =>
            refine PE.imp (g_call0 h4 ok.grd h5 hg h1 h2 h3 pass0 hdb) fun σ H Q q => ?_
            have q2 := tCallB_of (E := E0) (np := fl.length) (fun env as env' e => by rw [dA_len d _ _ _ _ _ _ e]; exact hl) q
            obtain ⟨F, pa, Z, env, as, env', W, e, kk⟩ := q2
            cases fl with
            | nil => cases e; exact kk [] Z H (.refl ..) W .nil
            | cons => cases hl
          | cons e es =>
            refine PE.when (P := (backTo pos (starEach (e :: es) X.env)).any (·.1) = false) (fun hst => ?_) ?_
            · obtain ⟨s1, s2⟩ := stars_of hst e es rfl
              refine PE.imp (g_call h4 ok.grd h5 hg h1 h2 h3 pass0 (dA_ok G ok (List.zipWith (fun b e => b || isBor T e) fl (e :: es)) (e :: es)) hdb s1 s2) fun σ H Q q => ?_
              exact tCallB_of (fun env as env' e => by rw [dA_len d _ _ _ _ _ _ e]; exact hl) q
            · intro env r hr
              unfold eCallB at hr
              split at hr
              · rename_i as env1 ea
                exact dA_star _ _ _ _ ea
              · cases hr
        cases args with
        | nil =>
          refine PE.imp (g_call0 h4 ok.grd h5 hg h1 h2 h3 pass0 hdb) fun σ H Q q => ?_
          have q2 := tCall_of (E := E0) (np := fl.length) (fun env as env' e => by rw [dA_len d _ _ _ _ _ _ e]; exact hl) q
          obtain ⟨F, pa, Z, env, as, env', W, e, kk⟩ := q2
          cases fl with
          | nil => cases e; exact kk [] Z H (.refl ..) W .nil
          | cons => cases hl
        | cons e es =>
          -- no star stands ahead
          refine PE.when (P := (backTo pos (starEach (e :: es) X.env)).any (·.1) = false) (fun hst => ?_) ?_
          · obtain ⟨s1, s2⟩ := stars_of hst e es rfl
            refine PE.imp (g_call h4 ok.grd h5 hg h1 h2 h3 pass0 (dA_ok G ok fl (e :: es)) hdb s1 s2) fun σ H Q q => ?_
            exact tCall_of (fun env as env' e => by rw [dA_len d _ _ _ _ _ _ e]; exact hl) q
          · intro env r hr
            unfold eCall at hr
            split at hr
            · rename_i as env1 ea
              exact dA_star _ _ _ _ ea
            · cases hr
      · exact r_stuck
    | cons kw kws =>
      dsimp only at h
      split at h
      · rename_i ks perm hk
        cases h
        obtain ⟨km, kn⟩ := findKw_ok hk
        obtain ⟨pl, pv, ff, fd, ps, k, h1, h2, h3, h4, h5⟩ := ok.kw x i fl _ ks perm hf km
        obtain ⟨a1, a2, a3⟩ := kw_all (pos := pos) (env := X.env) kn
        have kl : (kwVals (kw :: kws)).length = ks.length := by
          have := congrArg List.length kn
          simpa [kwNames, kwVals] using this
        have rd : ∀ {σ : L2.St} {H : Hp} {Q : VK}, tR X.K (eCallK (C i) args.length ks.length perm (dD d X.env.scope args) (dD d X.env.scope (kwVals (kw :: kws)))) σ H Q →
            tCallK (spF X.K fl.length (C i)) (pick args.length ks.length perm) E0 (tAd X.K (dD d X.env.scope args)) (tAd X.K (dD d X.env.scope (kwVals (kw :: kws)))) σ H Q := fun q =>
          tCallK_of pl pv q (fun env ds env' e => dD_len d _ _ _ _ _ e) fun env ds env' e => by rw [dD_len d _ _ _ _ _ e]; exact kl
        cases args with
        | nil =>
          refine PE.imp (g_callK0 h4 ok.grd h5 hg h1 h2 h3 pass0 (dK_ok G ok (kw :: kws)) a1 a2 hdb (by rw [a3]; rfl)) fun σ H Q q => ?_
          obtain ⟨F, pa, Z, env, as, env', W, e, kk⟩ := rd q
          cases e
          exact kk [] Z H (.refl ..) W .nil
        | cons e es =>
          refine PE.when (P := (backTo pos (starEach (e :: es) X.env)).any (·.1) = false) (fun hst => ?_) ?_
          · obtain ⟨s1, s2⟩ := stars_of hst e es rfl
            exact PE.imp (g_callK h4 ok.grd h5 hg h1 h2 h3 pass0 (dD_ok G ok (e :: es)) (dK_ok G ok (kw :: kws)) a1 a2 hdb s1 (by rw [hst, a3]; rfl)) fun σ H Q q => rd q
          · intro env r hr
            unfold eCallK at hr
            cases e1 : dD d X.env.scope (e :: es) env with
            | none => rw [e1] at hr; cases hr
            | some p => exact no_star e1
      · cases h; exact r_stuck
  · cases h
theorem blt_name (b : Blt) : (b.name : Str) ≠ "__name__" ∧ ((b.name : Str) == ("__debug__" : Str)) = false := by
  cases b <;> exact ⟨by decide +kernel, by decide +kernel⟩
theorem blt_boot {b : Blt} {g : List D → Option D} (h : b.fn = some g) : bootBuiltins (b.name : Str) = some (.builtin b.name) := by
  cases b <;> first | (cases h; done) | decide +kernel
theorem blt_call (hc : X.calm = true) (hG : NoG X.A) (hu : X.A.units + 64 < cLine) {b : Blt} {g : List D → Option D} (h : b.fn = some g) : CallD X (.builtin b.name) g := by
  cases b <;> first | (cases h; done) | (cases h; first | exact c_len | exact c_abs | exact c_min hc | exact c_max hc | exact c_all hc | exact c_any hc | exact c_sum hc | exact c_divmod | exact c_sorted | exact c_reprD hG hu)
theorem blt_bootT {b : Blt} {g : List D → Option D} (h : b.tyFn = some g) : bootBuiltins (b.name : Str) = some (.type b.name) := by
  cases b <;> first | (cases h; done) | decide +kernel
theorem blt_callT {b : Blt} {g : List D → Option D} (h : b.tyFn = some g) : CallD X (.type b.name) g := by
  cases b <;> first | (cases h; done) | (cases h; first | exact c_int | exact c_tuple)
theorem blt_bootTy {b : Blt} {t : String} (h : b.ty = some t) : bootBuiltins (b.name : Str) = some (.type t) := by
  cases b <;> first | (cases h; done) | (cases h; decide +kernel)
theorem mod_call {id : String} {g : List D → Option D} (h : modFn id = some g) : CallD X (.builtin id) g := by
  unfold modFn at h
  split at h
  · cases h; exact c_gcd
  · cases h; exact c_lcm
  · cases h
/-- a built-in function called -/
theorem callB_ok (G : Good T N C d) (ok : XOk T N C X) {x : Str} {id : String} {g : List D → Option D} {p pos : Pos} {e : Expr} {es : List Expr} (hc : CallD X (.builtin id) g) (hg : Gl X x) (hm : X.mg x = none) (hv : bootBuiltins x = some (.builtin id)) (hn : x ≠ "__name__") (hdb : (x == ("__debug__" : Str)) = false) :
    PE X (.Call (.Name x p) (e :: es) [] pos) (tE X.K (eBlt g (dD d X.env.scope (e :: es)))) := by
  refine PE.whenE (P := (backTo pos (starEach (e :: es) X.env)).any (·.1) = false) (fun hst => ?_) ?_
  · obtain ⟨s1, s2⟩ := stars_of hst e es rfl
    exact s_callB hc hg hm hv (dD_ok G ok (e :: es)) hn hdb s1 s2
  · intro env r hr
    unfold eBlt at hr
    cases e1 : dD d X.env.scope (e :: es) env with
    | none => rw [e1] at hr; cases hr
    | some p => exact no_star e1
theorem callT_ok (G : Good T N C d) (ok : XOk T N C X) {x : Str} {id : String} {g : List D → Option D} {p pos : Pos} {e : Expr} {es : List Expr} (hc : CallD X (.type id) g) (hg : Gl X x) (hm : X.mg x = none) (hv : bootBuiltins x = some (.type id)) (hn : x ≠ "__name__") (hdb : (x == ("__debug__" : Str)) = false) :
    PE X (.Call (.Name x p) (e :: es) [] pos) (tE X.K (eBlt g (dD d X.env.scope (e :: es)))) := by
  refine PE.whenE (P := (backTo pos (starEach (e :: es) X.env)).any (·.1) = false) (fun hst => ?_) ?_
  · obtain ⟨s1, s2⟩ := stars_of hst e es rfl
    exact s_callT hc hg hm hv (dD_ok G ok (e :: es)) hn hdb s1 s2
  · intro env r hr
    unfold eBlt at hr
    cases e1 : dD d X.env.scope (e :: es) env with
    | none => rw [e1] at hr; cases hr
    | some p => exact no_star e1
theorem callM_ok (G : Good T N C d) (ok : XOk T N C X) {x : Str} {id : String} {g : List D → Option D} {p pos : Pos} {e : Expr} {es : List Expr} (hc : CallD X (.builtin id) g) (hg : Gl X x) (hm : X.mg x = some (.builtin id)) (hdb : (x == ("__debug__" : Str)) = false) :
    PE X (.Call (.Name x p) (e :: es) [] pos) (tE X.K (eBlt g (dD d X.env.scope (e :: es)))) := by
  refine PE.whenE (P := (backTo pos (starEach (e :: es) X.env)).any (·.1) = false) (fun hst => ?_) ?_
  · obtain ⟨s1, s2⟩ := stars_of hst e es rfl
    exact s_callG hc hg hm (dD_ok G ok (e :: es)) hdb s1 s2
  · intro env r hr
    unfold eBlt at hr
    cases e1 : dD d X.env.scope (e :: es) env with
    | none => rw [e1] at hr; cases hr
    | some p => exact no_star e1
theorem part_ok (G : Good T N C d) (ok : XOk T N C X) (o : Option Expr) : PO X o (tPt X.K (ePart (o.map (d.E X.env.scope)))) := by
  cases o with
  | none => exact s_ptN
  | some e => exact s_ptS (G.gE X ok e)
theorem rgArgs_some {e : Expr} {as : List Expr} (h : rgArgs T X.env.scope e = some as) : ∃ y p pos, e = .Call (.Name y p) as [] pos ∧ isGl X.env.scope y = true ∧ T.blts.lookup y = some .range := by
  unfold rgArgs at h
  split at h
  · split at h
    · rename_i hg
      split at h
      · rename_i hb
        cases h
        exact ⟨_, _, _, rfl, hg, hb⟩
      · cases h
    · cases h
  · cases h
theorem dList_ok (G : Good T N C d) (ok : XOk T N C X) {a : Expr} {p pos : Pos} (hg : Gl X "list") (hm : X.mg "list" = none) (hs : ¬ isStar a = true) : PE X (.Call (.Name "list" p) [a] [] pos) (tR X.K (dList T d X.env.scope a)) := by
  unfold dList
  split
  · rename_i b hr
    obtain ⟨y, p2, q, rfl, h1, h2⟩ := rgArgs_some hr
    obtain ⟨hx, hm2⟩ := ok.blt _ _ h2
    subst hx
    split
    · exact r_stuck
    · rename_i hb
      exact s_listRg1 ok.calm (G.gE X ok _) hg hm (isGl_ok h1) hm2 (star_of (bf hb) [] _)
  · rename_i b c hr
    obtain ⟨y, p2, q, rfl, h1, h2⟩ := rgArgs_some hr
    obtain ⟨hx, hm2⟩ := ok.blt _ _ h2
    subst hx
    split
    · exact r_stuck
    · rename_i hb
      rw [not_or] at hb
      exact s_listRg2 ok.calm (G.gE X ok _) (G.gE X ok _) hg hm (isGl_ok h1) hm2 (star_of (bf hb.1) _ _) (star_of (bf hb.2) [] _)
  · exact r_stuck
  · exact s_list (G.gE X ok _) hg hm (star_of (bf hs) [] _)
theorem isRev_ok {s : Expr} (h : isRev s = true) : ∃ k p1 p2 p3, s = .Slice none none (some (.UnaryOp .USub (.Constant (.int 1) k p1) p2)) p3 := by
  unfold isRev at h
  split at h
  · exact ⟨_, _, _, _, rfl⟩
  · cases h
theorem dCmpR_ok (G : Good T N C d) (ok : XOk T N C X) {a b : Expr} {op : CmpOp} {pos : Pos} (h : behindInMarks op b = false) : PE X (.Compare a [op] [b] pos) (tE X.K (dCmpR T N d X.env.scope a op b)) := by
  have dflt := s_cmp (pos := pos) (cmp_ok ok op) (G.gE X ok a) (G.gE X ok b) h
  cases b <;> (try exact dflt)
  rename_i x p
  show PE X _ (tE X.K (if T.bors.contains x = true then (match slot N X.env.scope x with | some i => eSeeR (cmpOf op) (d.E X.env.scope a) i | none => stuck) else eOp (cmpOf op) (d.E X.env.scope a) (d.E X.env.scope (.Name x p))))
  split
  · split
    · rename_i i hi; exact s_seeR (cmp_ok ok op) (G.gE X ok a) (slot_pv ok hi) h
    · exact e_stuck
  · exact dflt
theorem dCmp_ok (G : Good T N C d) (ok : XOk T N C X) {a b : Expr} {op : CmpOp} {pos : Pos} (h : behindInMarks op b = false) : PE X (.Compare a [op] [b] pos) (tE X.K (dCmp T N d X.env.scope a op b)) := by
  have dflt := dCmpR_ok G ok (a := a) (pos := pos) h
  cases a <;> (try exact dflt)
  rename_i x p
  show PE X _ (tE X.K (if T.bors.contains x = true then (match slot N X.env.scope x with | some i => eSee (cmpOf op) i (d.E X.env.scope b) | none => stuck) else dCmpR T N d X.env.scope (.Name x p) op b))
  split
  · split
    · rename_i i hi; exact s_see (cmp_ok ok op) (slot_pv ok hi) (G.gE X ok b) h
    · exact e_stuck
  · exact dflt
theorem dCmpRT_ok (G : Good T N C d) (ok : XOk T N C X) {a b : Expr} {op : CmpOp} {pos : Pos} (h : behindInMarks op b = false) : PT X (.Compare a [op] [b] pos) (tT X.K (eB (dCmpR T N d X.env.scope a op b))) := by
  have dflt := s_cmpT (pos := pos) (cmp_ok ok op) (G.gE X ok a) (G.gE X ok b) h
  cases b <;> (try exact dflt)
  rename_i x p
  show PT X _ (tT X.K (eB (if T.bors.contains x = true then (match slot N X.env.scope x with | some i => eSeeR (cmpOf op) (d.E X.env.scope a) i | none => stuck) else eOp (cmpOf op) (d.E X.env.scope a) (d.E X.env.scope (.Name x p)))))
  split
  · split
    · rename_i i hi; exact s_seeRT (cmp_ok ok op) (G.gE X ok a) (slot_pv ok hi) h
    · exact t_stuck
  · exact dflt
theorem dCmpT_ok (G : Good T N C d) (ok : XOk T N C X) {a b : Expr} {op : CmpOp} {pos : Pos} (h : behindInMarks op b = false) : PT X (.Compare a [op] [b] pos) (tT X.K (eB (dCmp T N d X.env.scope a op b))) := by
  have dflt := dCmpRT_ok G ok (a := a) (pos := pos) h
  cases a <;> (try exact dflt)
  rename_i x p
  show PT X _ (tT X.K (eB (if T.bors.contains x = true then (match slot N X.env.scope x with | some i => eSee (cmpOf op) i (d.E X.env.scope b) | none => stuck) else dCmpR T N d X.env.scope (.Name x p) op b)))
  split
  · split
    · rename_i i hi; exact s_seeT (cmp_ok ok op) (slot_pv ok hi) (G.gE X ok b) h
    · exact t_stuck
  · exact dflt
theorem stepR_ok (G : Good T N C d) (ok : XOk T N C X) (e : Expr) : PE X e (tR X.K (stepR T N C d X.env.scope e)) := by
  have dflt : PE X e (tR X.K (rV (d.E X.env.scope e))) := s_rV (G.gE X ok e)
  cases e <;> (try exact dflt)
  case List es pos => exact s_lst (dDs_ok G ok es)
  case ListComp elt gens scope pos => exact dComp_ok G ok elt gens scope pos
  case BinOp a op b pos =>
    cases op <;> (try exact dflt)
    show PE X _ (tR X.K (if (freshL T && isLst2 b) = true then eAddR (d.E X.env.scope a) (d.E X.env.scope b) else rV (d.E X.env.scope (.BinOp a .Add b pos))))
    split
    · exact s_addR (G.gE X ok a) (G.gE X ok b)
    · exact dflt
  case IfExp c a b pos => exact s_ifR (G.gT X ok c) (G.gR X ok a) (G.gR X ok b)
  case Name x pos =>
    show PE X _ (tR X.K (match slot N X.env.scope x with | some i => eMove i | none => rV (d.E X.env.scope (.Name x pos))))
    split
    · rename_i i hi; exact s_move (slot_pv ok hi)
    · exact dflt
  case Subscript a s pos =>
    have rv : PE X (.Subscript a s pos) (tR X.K (if isRev s = true then eRev (d.E X.env.scope a) else rV (d.E X.env.scope (.Subscript a s pos)))) := by
      split
      · rename_i h
        obtain ⟨k, p1, p2, p3, rfl⟩ := isRev_ok h
        exact s_rev (G.gE X ok a)
      · exact dflt
    cases s <;> (try exact rv)
    rename_i lo hi st p2
    cases st with
    | none => exact s_slice (G.gE X ok a) (part_ok G ok lo) (part_ok G ok hi)
    | some _ => exact rv
  case Call fn args kws pos =>
    cases fn <;> (try exact dflt)
    rename_i x p
    unfold stepR
    dsimp only
    split
    · rename_i hg
      split
      · rename_i f hf; exact dCall_ok G ok (isGl_ok hg) hf
      · split
        · rename_i hb _
          obtain ⟨hx, hm⟩ := ok.blt _ _ hb
          subst hx
          split
          · exact r_stuck
          · rename_i hs
            exact dList_ok G ok (isGl_ok hg) hm hs
        · exact dflt
    · exact r_stuck
theorem stepT_ok (G : Good T N C d) (ok : XOk T N C X) (e : Expr) : PT X e (tT X.K (stepT T N d X.env.scope e)) := by
  cases e <;> (try exact t_stuck)
  case UnaryOp op a pos =>
    cases op <;> (try exact t_stuck)
    exact s_notT (G.gT X ok a)
  case BoolOp op es pos =>
    cases op
    · exact (dAndT_ok G ok es).pt
    · exact (dOrT_ok G ok es).pt
  case Compare a ops bs pos =>
    match ops, bs with
    | [op], [b] =>
      show PT X _ (tT X.K (if behindInMarks op b = false then eB (dCmp T N d X.env.scope a op b) else stuck))
      split
      · rename_i h; exact dCmpT_ok G ok h
      · exact t_stuck
    | [op, op'], [b, c] =>
      show PT X _ (tT X.K (if behindInMarks op' c = false then eB (eChain (cmpOf op) (cmpOf op') (d.E X.env.scope a) (d.E X.env.scope b) (d.E X.env.scope c)) else stuck))
      split
      · rename_i h; exact s_chainT (cmp_ok ok op) (cmp_ok ok op') (G.gE X ok a) (G.gE X ok b) (G.gE X ok c) h
      · exact t_stuck
    | [], [] => exact t_stuck
    | [], _ :: _ => exact t_stuck
    | [_], [] => exact t_stuck
    | [_], _ :: _ :: _ => exact t_stuck
    | [_, _], [] => exact t_stuck
    | [_, _], [_] => exact t_stuck
    | [_, _], _ :: _ :: _ :: _ => exact t_stuck
    | _ :: _ :: _ :: _, [] => exact t_stuck
    | _ :: _ :: _ :: _, _ :: _ => exact t_stuck
  case Name x pos => exact s_tru (G.gE X ok _) (fun _ => rfl)
  case Call f a k pos => exact s_tru (G.gE X ok _) (fun _ => rfl)
  case Subscript a b pos => exact s_tru (G.gE X ok _) (fun _ => rfl)
  case Constant c k pos => exact s_tru (G.gE X ok _) (fun _ => rfl)
theorem stepE_ok (G : Good T N C d) (ok : XOk T N C X) (e : Expr) : PE X e (tE X.K (stepE T N d X.env.scope e)) := by
  cases e <;> (try exact e_stuck)
  case Name x pos => exact dName_ok ok
  case Constant c k pos =>
    cases c <;> (try exact e_stuck)
    · exact s_const pe_non fun _ => .non
    · exact s_const pe_bl fun _ => .bl _
    · exact s_const pe_int fun _ => .int _
    · exact s_const pe_str fun _ => .str _
  case BinOp a op b pos =>
    show PE X _ (tE X.K (match opOf op with | some g => eOp g (d.E X.env.scope a) (d.E X.env.scope b) | none => stuck))
    split
    · rename_i g hg; exact s_bin (op_ok ok hg) (G.gE X ok a) (G.gE X ok b)
    · exact e_stuck
  case UnaryOp op a pos =>
    cases op <;> first | exact s_not (G.gE X ok a) | exact s_neg (G.gE X ok a) | exact e_stuck
  case BoolOp op es pos =>
    cases op
    · exact dAnd_ok G ok es
    · exact dOr_ok G ok es
  case Compare a ops bs pos =>
    match ops, bs with
    | [op], [b] =>
      show PE X _ (tE X.K (if behindInMarks op b = false then dCmp T N d X.env.scope a op b else stuck))
      split
      · rename_i h; exact dCmp_ok G ok h
      · exact e_stuck
    | [op, op'], [b, c] =>
      show PE X _ (tE X.K (if behindInMarks op' c = false then eChain (cmpOf op) (cmpOf op') (d.E X.env.scope a) (d.E X.env.scope b) (d.E X.env.scope c) else stuck))
      split
      · rename_i h; exact s_chain (cmp_ok ok op) (cmp_ok ok op') (G.gE X ok a) (G.gE X ok b) (G.gE X ok c) h
      · exact e_stuck
    | [], [] => exact e_stuck
    | [], _ :: _ => exact e_stuck
    | [_], [] => exact e_stuck
    | [_], _ :: _ :: _ => exact e_stuck
    | [_, _], [] => exact e_stuck
    | [_, _], [_] => exact e_stuck
    | [_, _], _ :: _ :: _ :: _ => exact e_stuck
    | _ :: _ :: _ :: _, [] => exact e_stuck
    | _ :: _ :: _ :: _, _ :: _ => exact e_stuck
  case IfExp c a b pos => exact s_ifE (G.gT X ok c) (G.gE X ok a) (G.gE X ok b)
  case Tuple es k pos => exact s_tup (dD_ok G ok es)
  case List es pos => exact s_fz (G.gR X ok _)
  case ListComp elt gens scope pos => exact s_fz (G.gR X ok _)
  case Subscript a s pos =>
    have it : plIx s = true → PE X (.Subscript a s pos) (tE X.K (match a with
      | .Subscript (.Name x _) s1 _ => if (T.mats.contains x && plIx s1) = true then (match slot N X.env.scope x with
        | some i => eItem2 i (d.E X.env.scope s1) (d.E X.env.scope s)
        | none => stuck) else eOp gItem (d.E X.env.scope a) (d.E X.env.scope s)
      | .Name x _ => (match slot N X.env.scope x with
        | some i => eItemN i (d.E X.env.scope s)
        | none => eOp gItem (d.E X.env.scope a) (d.E X.env.scope s))
      | _ => eOp gItem (d.E X.env.scope a) (d.E X.env.scope s))) := fun h => by
      cases a <;> (try exact s_item (G.gE X ok _) (G.gE X ok s) (plIx_ok h))
      case Subscript o s1 p1 =>
        cases o <;> (try exact s_item (G.gE X ok _) (G.gE X ok s) (plIx_ok h))
        rename_i x p
        show PE X _ (tE X.K (if (T.mats.contains x && plIx s1) = true then (match slot N X.env.scope x with
          | some i => eItem2 i (d.E X.env.scope s1) (d.E X.env.scope s)
          | none => stuck) else eOp gItem (d.E X.env.scope (.Subscript (.Name x p) s1 p1)) (d.E X.env.scope s)))
        split
        · rename_i hc
          obtain ⟨h1, h2⟩ := andB hc
          split
          · rename_i i hi; exact s_item2 (slot_pv ok hi) (G.gE X ok s1) (G.gE X ok s) (plIx_ok h2) (plIx_ok h)
          · exact e_stuck
        · exact s_item (G.gE X ok _) (G.gE X ok s) (plIx_ok h)
      rename_i x p
      show PE X _ (tE X.K (match slot N X.env.scope x with
        | some i => eItemN i (d.E X.env.scope s)
        | none => eOp gItem (d.E X.env.scope (.Name x p)) (d.E X.env.scope s)))
      split
      · rename_i i hi; exact s_itemN (slot_pv ok hi) (G.gE X ok s) (plIx_ok h)
      · exact s_item (G.gE X ok _) (G.gE X ok s) (plIx_ok h)
    cases s <;> first | exact it rfl | exact e_stuck | skip
    rename_i lo hi st p2
    cases st with
    | none => exact s_fz (G.gR X ok _)
    | some st =>
      show PE X _ (tE X.K (if isRev (.Slice lo hi (some st) p2) = true then eFz (d.R X.env.scope (.Subscript a (.Slice lo hi (some st) p2) pos)) else stuck))
      split
      · exact s_fz (G.gR X ok _)
      · exact e_stuck
  case Call fn args kws pos =>
    cases fn <;> (try exact e_stuck)
    case Attribute o m ap =>
      cases o <;> (try exact e_stuck)
      rename_i x np
      match args, kws with
      | [a], [] =>
        show PE X _ (tE X.K (if m = ("pop" : Str) ∧ (ap.endLine == pos.line) = true ∧ isStar a = false then (match slot N X.env.scope x with
          | some i => ePop i (d.E X.env.scope a)
          | none => stuck) else if m = ("index" : Str) ∧ (ap.endLine == pos.line) = true ∧ isStar a = false then (match slot N X.env.scope x with
          | some i => eIdx i (d.E X.env.scope a)
          | none => stuck) else stuck))
        split
        · rename_i h
          obtain ⟨rfl, h2, h3⟩ := h
          split
          · rename_i i hi
            exact e_pop (slot_pv ok hi) (G.gE X ok a) (star_of h3 [] _) h2
          · exact e_stuck
        · split
          · rename_i h
            obtain ⟨rfl, h2, h3⟩ := h
            split
            · rename_i i hi
              exact e_idx (slot_pv ok hi) (G.gE X ok a) (star_of h3 [] _) h2
            · exact e_stuck
          · exact e_stuck
      | [], _ => exact e_stuck
      | _ :: _ :: _, _ => exact e_stuck
      | [_], _ :: _ => exact e_stuck
    rename_i x p
    unfold stepE
    dsimp only
    split
    · rename_i hg
      have hgl := isGl_ok hg
      split
      · exact s_fz (G.gR X ok _)
      · split
        · split
          · rename_i hb
            obtain ⟨hx, hm⟩ := ok.blt _ _ hb
            subst hx
            split
            · rename_i y p2
              split
              · rename_i i hi; exact s_lenN (slot_pv ok hi) hgl hm rfl
              · exact callB_ok G ok c_len hgl hm PySem.boot_len (blt_name .len).1 (blt_name .len).2
            · exact callB_ok G ok c_len hgl hm PySem.boot_len (blt_name .len).1 (blt_name .len).2
            · exact e_stuck
          · rename_i hb
            obtain ⟨hx, hm⟩ := ok.blt _ _ hb
            subst hx
            split
            · rename_i a y p2
              split
              · exact e_stuck
              · rename_i hs
                split
                · rename_i hg2
                  split
                  · rename_i ty hty
                    cases hb2 : T.blts.lookup y with
                    | none => rw [hb2] at hty; cases hty
                    | some b2 =>
                      rw [hb2, Option.bind_some] at hty
                      obtain ⟨hx2, hm2⟩ := ok.blt _ _ hb2
                      subst hx2
                      exact s_isi (G.gE X ok a) hgl hm (isGl_ok hg2) hm2 (blt_bootTy hty) (blt_name b2).1 (blt_name b2).2 (star_of (bf hs) [_] _)
                  · exact e_stuck
                · exact e_stuck
            · exact e_stuck
          · exact s_fz (G.gR X ok _)
          · rename_i b _ _ _ hb
            obtain ⟨hx, hm⟩ := ok.blt _ _ hb
            subst hx
            split
            · exact e_stuck
            · split
              · rename_i g hgb; exact callB_ok G ok (blt_call ok.calm ok.grd ok.units hgb) hgl hm (blt_boot hgb) (blt_name b).1 (blt_name b).2
              · split
                · rename_i g hgb; exact callT_ok G ok (blt_callT hgb) hgl hm (blt_bootT hgb) (blt_name b).1 (blt_name b).2
                · exact e_stuck
          · split
            · rename_i g _ _ hgm
              cases hmd : T.mods.lookup x with
              | none => rw [hmd] at hgm; cases hgm
              | some id =>
                rw [hmd, Option.bind_some] at hgm
                obtain ⟨hn, hm⟩ := ok.mod x id hmd
                exact callM_ok G ok (mod_call hgm) hgl hm (okNm_deb hn).1
            · exact e_stuck
        · exact e_stuck
    · exact e_stuck
end
end Ev
namespace Ev
open PySem PySem.Spec PyProof.Rows L2
/-! ## a, b, c, d = .., through a tuple -/
def gMany : List Nat → TGs
  | [] => gNil
  | i :: is => gCons (L2.gName i) (gMany is)
theorem gMany_of : ∀ {is : List Nat} {vs : List V} {σ : L2.St} {H : Hp} {Q : L2.St → Hp → Prop}, vs.length = is.length → Q (setManyV is vs σ) H → gMany is vs σ H Q
  | [], [], _, _, _, _, q => ⟨rfl, q⟩
  | [], _ :: _, _, _, _, h, _ => by cases h
  | _ :: _, [], _, _, _, h, _ => by cases h
  | i :: is, v :: vs, σ, H, Q, h, q => ⟨v, vs, rfl, gMany_of (is := is) (vs := vs) (Nat.succ.inj h) q⟩
section
variable {X : Cx}
theorem storeIx_pg {x : Str} {p : Pos} {i : Nat} (hN : X.N.Nodup) (hf : ∀ x, X.fn x = true) (h : storeIx X.N X.env.scope x = some i) : PG X (.Name x p) (L2.gName i) := by
  unfold storeIx at h
  split at h
  · rename_i j hj
    have hn := nameIx_get hj
    split at h
    · rename_i hk; cases h; exact pg_name hN hn (.inl hk) (.inl (hf x))
    · rename_i hk; cases h; exact pg_name hN hn (.inr hk) (.inl (hf x))
    · cases h
  · cases h
theorem namesIx_pg (hN : X.N.Nodup) (hf : ∀ x, X.fn x = true) : ∀ {ts : List Expr} {is : List Nat}, namesIx X.N X.env.scope ts = some is → PGs X ts (gMany is) ∧ (assignEach ts X.env).length = ts.length ∧ ts.length = is.length ∧ (assignEach ts X.env).findIdx? (·.1) = none
  | [], is, h => by cases h; exact ⟨pgs_nil, rfl, rfl, rfl⟩
  | e :: es, is, h => by
    cases e with
    | Name x p =>
      have h' : (match storeIx X.N X.env.scope x, namesIx X.N X.env.scope es with
        | some i, some r => some (i :: r)
        | _, _ => none) = some is := h
      cases e1 : storeIx X.N X.env.scope x with
      | none => rw [e1] at h'; cases h'
      | some i =>
        cases e2 : namesIx X.N X.env.scope es with
        | none => rw [e1, e2] at h'; cases h'
        | some r =>
          rw [e1, e2] at h'
          cases h'
          obtain ⟨a, b, c, d⟩ := namesIx_pg hN hf e2
          refine ⟨pgs_cons (storeIx_pg hN hf e1) a rfl, congrArg Nat.succ b, congrArg Nat.succ c, ?_⟩
          show ((false, assign (.Name x p) X.env) :: assignEach es X.env).findIdx? (·.1) = none
          rw [List.findIdx?_cons, d]
          rfl
    | _ => cases h
theorem s_parT {ts es : List Expr} {is : List Nat} {f : Fx (List AR)} {kt k2 : Nat} {pt p2 pos : Pos} (hc : X.calm = true) (hk : X.env.scope.kind = .function) (hN : X.N.Nodup) (hf : ∀ x, X.fn x = true) (hi : namesIx X.N X.env.scope ts = some is) (hl : ts.length ≤ 1000)
    (ha : PA X es (tAa X.K f)) (hw : swNone X.env.scope ts es = true) : PS X (.Assign [.Tuple ts kt pt] (.Tuple es k2 p2) pos) (tS X.K (sPar is f)) := by
  obtain ⟨g, l1, l2, st⟩ := namesIx_pg hN hf hi
  have ps := ps_asg (pos := pos) (pe_tup (pos := p2) (x1 := k2) ha) (pg_tup (pos := pt) (k := kt) hc g l1 st) rfl (swapped_none hk hw) rfl
  refine PS.imp ps fun D σ H ⟨F, pa, Z, env, fl, env', W, e, k⟩ => ?_
  unfold sPar at e
  cases e1 : f env with
  | none => rw [e1] at e; cases e
  | some q =>
    rw [e1, Option.bind_some] at e
    cases e2 : setMany is q.1 q.2 with
    | none => rw [e2] at e; cases e
    | some env2 =>
      rw [e2] at e
      cases e
      refine ⟨F, pa, Z, env, q.1, q.2, W, e1, fun vs Z1 H1 g1 W1 A => ?_⟩
      have lv : vs.length = is.length := by rw [ars_len A, setMany_len e2]
      have sz : sizeLine = 16777216 := rfl
      refine ⟨by omega, fun p hp => ⟨p, vs, rfl, SqT.of upd_same, by rw [lv, l2], gMany_of lv ?_⟩⟩
      have zp := W1.zh.free hp
      have al : Alc Z1 H1 Z1 (upd H1 p (.tup vs)) := ⟨Same.refl _, upd_none hp, fun b u e => by rw [upd_ne (fun z => by subst z; rw [zp] at e; cases e)]; exact W1.zh b u e, fun _ _ => rfl⟩
      exact k _ Z1 _ g1 ((W1.setMany A e2).alc al)
end
end Ev
namespace Ev
open PySem PySem.Spec PyProof.Rows L2
section
variable {T : Tab} {N : List Str} {C : Nat → Fn} {wf : Nat} {X : Cx} {d : Den}
theorem ss_stuck {st : Stmt} : PS X st (tS X.K sStuck) := s_stuck
theorem dSs_ok (G : Good T N C d) (ok : XOk T N C X) (hf : ∀ x, X.fn x = true) : ∀ ss : List Stmt, PSs X ss (tS X.K (dSs d X.env.scope ss))
  | [] => s_nil
  | [s] => s_one (G.gS X ok hf s)
  | s :: t :: r => s_cons (G.gS X ok hf s) (dSs_ok G ok hf (t :: r))
theorem passes (ok : XOk T N C X) : PassesOwn (model X.prog X.w) X.A X.env X.xe := by rw [ok.xe]; exact PassesOwn.never
theorem noLc_sw {e : Expr} (h : noLc e = true) (t : Option Expr) (l : Nat) (env : Env) : swapsWith e t l env = pure false := by
  cases e <;> first | rfl | (cases h)
theorem sto_all (hf : ∀ x, X.fn x = true) (S : List Nat) : Sto N X S := fun x _ _ _ _ => .inl (hf x)
theorem asg_ok (G : Good T N C d) (ok : XOk T N C X) (hf : ∀ x, X.fn x = true) {tg e : Expr} {pos : Pos} (hl : noLc e = true) (hw : swappedStores [tg] e X.env = pure none) (hn : isStar tg = false) : PS X (.Assign [tg] e pos) (tS X.K (sAsg (d.E X.env.scope e) (dG N d X.env.scope tg).2)) :=
  s_asg (G.gE X ok e) (dG_ok G ok (sto_all hf (dG N d X.env.scope tg).1) tg fun _ h => h) (noLc_sw hl (some tg) _ _) hw (by cases tg <;> first | rfl | (cases hn))
theorem setComp_ok (G : Good T N C d) (ok : XOk T N C X) {i : Nat} {x : Str} {px sp pos : Pos} {elt : Expr} {gens : List Comprehension} {scope : Scope} (hi : nameIx N x = some i) (hk : X.env.scope.names.lookup x = some .local) (hl : (px.line == pos.line) = true)
    (ha : (scope.names.any fun (n, k) => n == x && (k == .local || k == .cell)) = false) : PS X (.Assign [.Name x px] (.ListComp elt gens scope pos) sp) (tS X.K (sSet i (dComp T N d X.env.scope elt gens scope))) := by
  have hst : PS X (.Assign [.Name x px] (.ListComp elt gens scope pos) sp) (tS X.K (sSet i stuck)) := ⟨fun _ _ _ _ _ _ ⟨_, _, _, _, _, _, _, e, _⟩ => nomatch e⟩
  unfold dComp
  split
  · rename_i tg iter ifs
    split
    · rename_i h
      obtain ⟨h1, h2, h3⟩ := h
      rw [← ok.names] at h2
      have bo := blkOk_by h2
      rw [ok.names] at bo
      have bo' : BlkOk X.N X.env.scope scope (ownOf N scope) := by rw [ok.names]; exact bo
      have hn := nameIx_get hi
      rw [← ok.names] at hn
      refine s_setComp ok.calm ok.nd hn hk (sw_true ok.kind hk hl ha) (dI_ok G ok tg iter) bo' (subB_ok h3) (fun s H Cc cl fp => ?_) (fun s H Cc cl fp => ?_) (fun s H Cc cl fp => ?_) (folded_ok h1 _)
      · exact dG_ok G (ok.blk (s := s) (H := H) (cl := cl) (Cc := Cc) (fp := fp) bo.kind) (blk_sto ok bo.uniq) tg (subB_ok h3)
      · exact dIfs_ok G (ok.blk (s := s) (H := H) (cl := cl) (Cc := Cc) (fp := fp) bo.kind) ifs
      · exact G.gE _ (ok.blk (s := s) (H := H) (cl := cl) (Cc := Cc) (fp := fp) bo.kind) elt
    · exact hst
  · rename_i tg iter ifs tg1 iter1 ifs1
    split
    · rename_i h
      obtain ⟨h1, h2, h3, h4, h5⟩ := h
      rw [← ok.names] at h2
      have bo := blkOk_by h2
      rw [ok.names] at bo
      have bo' : BlkOk X.N X.env.scope scope (ownOf N scope) := by rw [ok.names]; exact bo
      have hn := nameIx_get hi
      rw [← ok.names] at hn
      refine s_setComp2 ok.calm ok.nd hn hk (sw_true ok.kind hk hl ha) (dI_ok G ok tg iter) bo' (subB_ok h3) (fun _ h => h) (subB_ok h5) (fun s H Cc cl fp => ?_) (fun s H Cc cl fp => ?_) (fun s H Cc cl fp => ?_) (fun s H Cc cl fp => ?_) (fun s H Cc cl fp => ?_) (fun s H Cc cl fp => ?_) (folded_ok h1 _) (folded_ok h4)
      · exact dG_ok G (ok.blk (s := s) (H := H) (cl := cl) (Cc := Cc) (fp := fp) bo.kind) (blk_sto ok bo.uniq) tg (subB_ok h3)
      · exact dIfs_ok G (ok.blk (s := s) (H := H) (cl := cl) (Cc := Cc) (fp := fp) bo.kind) ifs
      · exact dI_ok G (ok.blk (s := s) (H := H) (cl := cl) (Cc := Cc) (fp := fp) bo.kind) tg1 iter1
      · exact dG_ok G (ok.blk (s := s) (H := H) (cl := cl) (Cc := Cc) (fp := fp) bo.kind) (blk_sto ok bo.uniq) tg1 (subB_ok h5)
      · exact dIfs_ok G (ok.blk (s := s) (H := H) (cl := cl) (Cc := Cc) (fp := fp) bo.kind) ifs1
      · exact G.gE _ (ok.blk (s := s) (H := H) (cl := cl) (Cc := Cc) (fp := fp) bo.kind) elt
    · exact hst
  · exact hst
theorem setCompM_ok (G : Good T N C d) (ok : XOk T N C X) {i : Nat} {x : Str} {px sp pos : Pos} {elt : Expr} {gens : List Comprehension} {scope : Scope} (hi : nameIx N x = some i) (hk : X.env.scope.names.lookup x = some .local) (hl : (px.line == pos.line) = true)
    (ha : (scope.names.any fun (n, k) => n == x && (k == .local || k == .cell)) = false) : PS X (.Assign [.Name x px] (.ListComp elt gens scope pos) sp) (tS X.K (sSet i (dCompM T N d X.env.scope elt gens scope))) := by
  have hst : PS X (.Assign [.Name x px] (.ListComp elt gens scope pos) sp) (tS X.K (sSet i stuck)) := ⟨fun _ _ _ _ _ _ ⟨_, _, _, _, _, _, _, e, _⟩ => nomatch e⟩
  unfold dCompM
  split
  · rename_i tg iter ifs
    split
    · rename_i h
      obtain ⟨h1, h2, h3⟩ := h
      rw [← ok.names] at h2
      have bo := blkOk_by h2
      rw [ok.names] at bo
      have bo' : BlkOk X.N X.env.scope scope (ownOf N scope) := by rw [ok.names]; exact bo
      have hn := nameIx_get hi
      rw [← ok.names] at hn
      refine s_setCompM ok.calm ok.nd hn hk (sw_true ok.kind hk hl ha) (dI_ok G ok tg iter) bo' (subB_ok h3) (fun s H Cc cl fp => ?_) (fun s H Cc cl fp => ?_) (fun s H Cc cl fp => ?_) (folded_ok h1 _)
      · exact dG_ok G (ok.blk (s := s) (H := H) (cl := cl) (Cc := Cc) (fp := fp) bo.kind) (blk_sto ok bo.uniq) tg (subB_ok h3)
      · exact dIfs_ok G (ok.blk (s := s) (H := H) (cl := cl) (Cc := Cc) (fp := fp) bo.kind) ifs
      · exact G.gR _ (ok.blk (s := s) (H := H) (cl := cl) (Cc := Cc) (fp := fp) bo.kind) elt
    · exact hst
  · exact hst
theorem tupA_ok (G : Good T N C d) (ok : XOk T N C X) (hf : ∀ x, X.fn x = true) {ts vs : List Expr} {kt : _} {pt : Pos} {k2 : _} {p2 sp : Pos} (h : swNone X.env.scope ts vs = true) : PS X (.Assign [.Tuple ts kt pt] (.Tuple vs k2 p2) sp) (tS X.K (dTupA N d X.env.scope ts vs kt pt k2 p2)) := by
  unfold dTupA
  split
  · rename_i hq
    split
    · rename_i is hi
      rw [← ok.names] at hi
      exact s_parT ok.calm ok.kind ok.nd hf hi hq.2 (dRs_ok G ok vs) h
    · exact ss_stuck
  · exact asg_ok G ok hf rfl (swapped_none ok.kind h) rfl
theorem locIx_ok (ok : XOk T N C X) {x : Str} {i : Nat} (h : locIx N X.env.scope x = some i) : X.N[i]? = some x ∧ X.env.scope.names.lookup x = some .local := by
  unfold locIx at h
  split at h
  · rename_i hk
    have := nameIx_get h
    rw [← ok.names] at this
    exact ⟨this, hk⟩
  · cases h
theorem stepS_ok (G : Good T N C d) (ok : XOk T N C X) (hf : ∀ x, X.fn x = true) (st : Stmt) : PS X st (tS X.K (stepS T N wf d X.env.scope st)) := by
  unfold stepS
  split
  · exact s_skip ps_pass
  · exact s_break
  · exact s_cont
  · exact s_retN
  · exact s_ret (G.gR X ok _)
  · exact s_if (G.gT X ok _) (dSs_ok G ok hf _) (dSs_ok G ok hf _)
  · exact s_while (passes ok) (G.gT X ok _) (dSs_ok G ok hf _)
  · split
    · rename_i h
      exact s_for (passes ok) ok.calm (dI_ok G ok _ _) (dG_ok G ok (sto_all hf _) _ fun _ h => h) (dSs_ok G ok hf _) (folded_ok h _)
    · exact ss_stuck
  · exact s_skip ps_doc
  · rename_i x np m ap a cp sp
    split
    · rename_i h
      obtain ⟨rfl, h2, h3⟩ := h
      split
      · rename_i i hi
        exact s_app (slot_pv ok hi) (G.gE X ok a) (star_of h3 [] _) h2 rfl
      · exact ss_stuck
    · exact ss_stuck
  · split
    · rename_i h
      exact s_expr (G.gR X ok _) (noLc_sw h none _ _)
    · exact ss_stuck
  · rename_i x px e sp
    split
    · rename_i i hi
      have hn := nameIx_get hi
      rw [← ok.names] at hn
      split
      · rename_i k hk
        split
        · rename_i hkk
          have hl : Loc X.env.scope x := by
            rcases hkk with rfl | rfl
            · exact .inl hk
            · exact .inr hk
          split
          · split
            · rename_i h
              obtain ⟨rfl, h2, h3⟩ := h
              split
              · exact setCompM_ok G ok hi hk h2 h3
              · exact setComp_ok G ok hi hk h2 h3
            · exact ss_stuck
          · split
            · rename_i h
              exact s_setG (ps_set ok.nd hn hl (G.gR X ok e) (noLc_sw h _ _ _) (.inl (hf x))) fun σ H Q q => q
            · exact ss_stuck
        · exact ss_stuck
      · exact ss_stuck
    · exact ss_stuck
  · rename_i x px y py kt pt a b k2 p2 sp
    split
    · rename_i i j hi hj
      split
      · rename_i h
        obtain ⟨h1, h2, h3⟩ := h
        exact s_par2 ok.calm ok.kind ok.nd (locIx_ok ok hi).1 (locIx_ok ok hj).1 h1 (locIx_ok ok hi).2 (locIx_ok ok hj).2 (dRs_ok G ok [a, b]) h2 h3
      · split
        · rename_i h
          exact tupA_ok G ok hf h
        · exact ss_stuck
    · split
      · rename_i h
        exact tupA_ok G ok hf h
      · exact ss_stuck
  · rename_i x px y py z pz kt pt a b c k2 p2 sp
    split
    · rename_i i j l hi hj hl
      split
      · rename_i h
        obtain ⟨h1, h2, h3, h4, h5⟩ := h
        exact s_par3 ok.calm ok.kind ok.nd (locIx_ok ok hi).1 (locIx_ok ok hj).1 (locIx_ok ok hl).1 h1 h2 h3 (locIx_ok ok hi).2 (locIx_ok ok hj).2 (locIx_ok ok hl).2 (dRs_ok G ok [a, b, c]) h4 h5
      · split
        · rename_i h
          exact tupA_ok G ok hf h
        · exact ss_stuck
    · split
      · rename_i h
        exact tupA_ok G ok hf h
      · exact ss_stuck
  · rename_i x px a p1 b p2 e sp
    split
    · rename_i h
      obtain ⟨h, h4⟩ := andB h
      obtain ⟨h, h3⟩ := andB h
      obtain ⟨h1, h2⟩ := andB h
      split
      · rename_i i hi
        exact s_asg (G.gE X ok e) (s_gIx2 (slot_pv ok hi) (G.gE X ok a) (G.gE X ok b) (plIx_ok h2) (fun _ => by cases b <;> first | rfl | (cases h3))) (noLc_sw h4 (some (.Subscript (.Subscript (.Name x px) a p1) b p2)) sp.line X.env) (swapped_other (by cases e <;> first | rfl | (cases h4))) rfl
      · exact ss_stuck
    · exact ss_stuck
  · rename_i tg e sp _ _ _ _
    split
    · rename_i h
      refine asg_ok G ok hf h.2 (swapped_other ?_) ?_
      · have h1 := h.1
        cases tg <;> cases e <;> first | rfl | (cases h1)
      · have h1 := h.1
        cases tg <;> first | rfl | (cases h1)
    · split
      · split
        · rename_i h
          exact tupA_ok G ok hf h
        · exact ss_stuck
      · exact ss_stuck
  · exact ss_stuck
theorem den_good : ∀ n : Nat, Good T N C (den T N C wf n)
  | 0 => ⟨fun _ _ _ => e_stuck, fun _ _ _ => r_stuck, fun _ _ _ => t_stuck, fun _ _ _ _ => ss_stuck⟩
  | n + 1 => ⟨fun _ ok e => stepE_ok (den_good n) ok e, fun _ ok e => stepR_ok (den_good n) ok e, fun _ ok e => stepT_ok (den_good n) ok e, fun _ ok hf st => stepS_ok (den_good n) ok hf st⟩
end
end Ev
namespace Ev
open PySem PySem.Spec PyProof.Rows L2
/-! ## a program's defs -/
structure Fd where
  x : Str
  ps : List Str
  N : List Str
  fl : List Bool
  st : Stmt
def fnsFrom : Nat → List Fd → List (Str × Nat × List Bool)
  | _, [] => []
  | n, r :: rs => (r.x, n, r.fl) :: fnsFrom (n + 1) rs
def runF (rs : List Fd) (T : Tab) (wf fuel : Nat) : Nat → Nat → Fn
  | 0, _ => fun _ => none
  | n + 1, i => match rs[i]? with
    | some r => callFn r.N.length (dSs (den T r.N (runF rs T wf fuel n) wf fuel) (defScope r.st) (defBody r.st))
    | none => fun _ => none
theorem fns_get : ∀ {rs : List Fd} {n : Nat} {x : Str} {i : Nat} {fl : List Bool}, (fnsFrom n rs).lookup x = some (i, fl) → ∃ r j, i = n + j ∧ rs[j]? = some r ∧ r.x = x ∧ r.fl = fl
  | [], _, _, _, _, h => by cases h
  | r :: rs, n, x, i, fl, h => by
    unfold fnsFrom at h
    rw [List.lookup_cons] at h
    cases q : (x == r.x) with
    | true =>
      rw [q] at h
      cases h
      exact ⟨r, 0, rfl, rfl, (beq_iff_eq.mp q).symm, rfl⟩
    | false =>
      rw [q] at h
      obtain ⟨r', j, h1, h2, h3, h4⟩ := fns_get h
      exact ⟨r', j + 1, by omega, h2, h3, h4⟩
def scB (r : Fd) : Bool := decide ((defScope r.st).kind = .function) && (!(defScope r.st).isCoroutine && (!(defScope r.st).isGenerator && (decide r.N.Nodup && (decide (r.N.take r.ps.length = r.ps) &&
  (r.ps.all (fun x => decide ((defScope r.st).names.lookup x = some .local) || decide ((defScope r.st).names.lookup x = some .cell)) && ((defScope r.st).names.all (fun y => !decide (y.2 = .free)) && (decide (r.fl.length = r.ps.length) && r.N.all okNm)))))))
theorem scB_ok {r : Fd} (h : scB r = true) : FnScope r.N r.ps (defScope r.st) ∧ r.fl.length = r.ps.length ∧ ∀ x ∈ r.N, okNm x = true := by
  unfold scB at h
  simp only [Bool.and_eq_true, decide_eq_true_eq, Bool.not_eq_true', List.all_eq_true, Bool.or_eq_true] at h
  obtain ⟨h1, h2, h3, h4, h5, h6, h7, h8, h9⟩ := h
  exact ⟨⟨h1, h2, h3, h4, h5, h6, fun y hy => of_decide_eq_false (h7 y hy)⟩, h8, h9⟩
def BindOk (r : Fd) : Prop := ∀ (kV doc pm : Value) (an : Option Addr) (cdv ct : Value) (us : List Value), us.length = r.ps.length → bindArgs (PySem.W.fnOf r.x r.x (defArgs r.st) (defBody r.st) (defScope r.st) .none kV doc pm an cdv ct) ⟨us, []⟩ = pure (r.ps.zip us)
def KBindOk (r : Fd) (n : Nat) (ks : List Str) (perm : List Nat) : Prop := ∀ (kV doc pm : Value) (an : Option Addr) (cdv ct : Value) (us ws : List Value), us.length = n → ws.length = ks.length →
  bindArgs (PySem.W.fnOf r.x r.x (defArgs r.st) (defBody r.st) (defScope r.st) .none kV doc pm an cdv ct) ⟨us, ks.zip ws⟩ = pure (r.ps.zip (pick n ks.length perm us ws))
def AllR {α : Type} (p : α → Prop) : List α → Prop
  | [] => True
  | r :: rs => p r ∧ AllR p rs
theorem AllR.get {α : Type} {p : α → Prop} : ∀ {rs : List α}, AllR p rs → ∀ r ∈ rs, p r
  | [], _, _, h => by cases h
  | r :: rs, a, s, h => by
    rcases List.mem_cons.mp h with rfl | h
    · exact a.1
    · exact AllR.get a.2 s h
def KwOk (rs : List Fd) (q : Str × Nat × List Str × List Nat) : Prop := ∃ i, ∃ r, rs[i]? = some r ∧ r.x = q.1 ∧ (∀ (j : Nat) (r' : Fd), rs[j]? = some r' → r'.x = q.1 → j = i) ∧ q.2.2.2.length = r.fl.length ∧ (∀ j ∈ q.2.2.2, j < q.2.1 + q.2.2.1.length) ∧ KBindOk r q.2.1 q.2.2.1 q.2.2.2 ∧ r.ps ≠ []
/-! ## what the heap has -/
def relDs (rel : D → Value → Bool) : List D → List Value → Bool
  | [], [] => true
  | d :: ds, u :: us => rel d u && relDs rel ds us
  | _, _ => false
def relDn (K : PySem.W.Frag) : Nat → D → Value → Bool
  | 0, _, _ => false
  | n + 1, d, u => match d, u with
    | .none, .none => true
    | .bool b, .bool c => b == c
    | .int i, .int j _ => decide (i = j)
    | .str x, .str y _ => decide (x = y)
    | .tuple ds, .ref a => (match K.lookup a with
      | some ⟨.type c, _, .seq its _, _⟩ => decide (c = "tuple") && (decide (its.size ≤ sizeLine) && relDs (relDn K n) ds its.toList)
      | _ => false)
    | _, _ => false
theorem relDs_ok {K : PySem.W.Frag} {rel : D → Value → Bool} (hr : ∀ d u, rel d u = true → ∃ v, RelV v u ∧ ∀ Z, Dp K Z v d) : ∀ {ds : List D} {us : List Value}, relDs rel ds us = true → ∃ vs, Vals vs us ∧ ∀ Z, DpAll K Z vs ds
  | [], [], _ => ⟨[], .nil, fun _ => .nil⟩
  | [], _ :: _, h => by cases h
  | _ :: _, [], h => by cases h
  | d :: ds, u :: us, h => by
    obtain ⟨h1, h2⟩ := He.ba (show (rel d u && relDs rel ds us) = true from h)
    obtain ⟨v, r, q⟩ := hr d u h1
    obtain ⟨vs, rs, qs⟩ := relDs_ok hr h2
    exact ⟨v :: vs, .cons r rs, fun Z => .cons (q Z) (qs Z)⟩
theorem relDn_ok {K : PySem.W.Frag} : ∀ (n : Nat) (d : D) (u : Value), relDn K n d u = true → ∃ v, RelV v u ∧ ∀ Z, Dp K Z v d
  | 0, _, _, h => by cases h
  | n + 1, d, u, h => by
    unfold relDn at h
    split at h
    · exact ⟨.non, rfl, fun _ => .non⟩
    · rename_i b c
      have e : b = c := eq_of_beq h
      subst e
      exact ⟨.bl b, rfl, fun _ => .bl b⟩
    · rename_i i j t
      have e : i = j := of_decide_eq_true h
      subst e
      exact ⟨.int i, ⟨t, rfl⟩, fun _ => .int i⟩
    · rename_i x y t
      have e : x = y := of_decide_eq_true h
      subst e
      exact ⟨.str x, ⟨t, rfl⟩, fun _ => .str x⟩
    · rename_i ds a
      split at h
      · rename_i c dd its m sl q
        obtain ⟨h1, h⟩ := He.ba h
        obtain ⟨h2, h3⟩ := He.ba h
        obtain ⟨vs, rs, qs⟩ := relDs_ok (relDn_ok n) h3
        exact ⟨.ref a, rfl, fun Z => .tup (.inr ⟨_, its, m, q, congrArg Value.type (of_decide_eq_true h1), rfl, of_decide_eq_true h2, rs⟩) (qs Z)⟩
      · cases h
    · cases h
/-- a constant of the module; a name that stands for a built-in function -/
def conB (K : PySem.W.Frag) (q : Str × D) : Bool := match PySem.W.nsIn K mainGlobals q.1 with
  | some (some u) => relDn K 8 q.2 u
  | _ => false
def modB (K : PySem.W.Frag) (q : Str × String) : Bool := He.eqO (PySem.W.nsIn K mainGlobals q.1) (some (some (.builtin q.2)))
def exB (T : Tab) (K : PySem.W.Frag) : Bool := T.cons.all (conB K) && T.mods.all (modB K)
def faOf (rs : List Fd) (T : Tab) : List He.Fa := rs.map (fun r => .glo r.x) ++ T.blts.map fun q => .free q.1
def fnOf (rs : List Fd) : List He.DefD := rs.map fun r => ⟨(r.x, none), r.x, r.x, defArgs r.st, defBody r.st, defScope r.st, [], []⟩
def tabB (rs : List Fd) (T : Tab) : Bool := rs.all scB && (rs.all (fun r => okNm r.x) && (T.cons.all (fun q => okNm q.1) && (T.mods.all (fun q => okNm q.1) && T.blts.all fun q => decide (q.1 = (q.2.name : Str)))))
theorem lookup_mem {α : Type} {x : Str} {v : α} : ∀ {l : List (Str × α)}, l.lookup x = some v → (x, v) ∈ l
  | [], h => by cases h
  | (y, w) :: l, h => by
    rw [List.lookup_cons] at h
    cases q : (x == y) with
    | true => rw [q] at h; cases h; rw [beq_iff_eq.mp q]; exact List.mem_cons_self ..
    | false => rw [q] at h; exact List.mem_cons_of_mem _ (lookup_mem h)
/-- what the head must tell -/
structure Wd (rs : List Fd) (T : Tab) (K : PySem.W.Frag) (mg : Str → Option Value) : Prop where
  fd : ∀ r ∈ rs, ∃ fd, FunD K r.x r.x (defArgs r.st) (defBody r.st) (defScope r.st) [] [] (He.ga K r.x) fd
  glo : ∀ r ∈ rs, mg r.x = some (.ref (He.ga K r.x))
  con : ∀ q ∈ T.cons, ∃ u v, mg q.1 = some u ∧ RelV v u ∧ ∀ Z, Dp K Z v q.2
  mod : ∀ q ∈ T.mods, mg q.1 = some (.builtin q.2)
  blt : ∀ q ∈ T.blts, mg q.1 = none
theorem wd_of {rs : List Fd} {T : Tab} {w : World} {h h' : Heap} {K : PySem.W.Frag} {mg : Str → Option Value} (X : K.In h) (G : h.Ns mainGlobals mg) (c : He.SaysX (faOf rs T) (fnOf rs) [] [] (exB T) w h' K) : Wd rs T K mg := by
  have d : He.SaysD (faOf rs T) (fnOf rs) K := congrArg (fun z : He.AlT => z.1) c.t
  obtain ⟨e1, e2⟩ := He.ba (show (T.cons.all (conB K) && T.mods.all (modB K)) = true from c.more)
  refine ⟨fun r hr => ?_, fun r hr => ?_, fun q hq => ?_, fun q hq => ?_, fun q hq => ?_⟩
  · exact d.defs (d := ⟨(r.x, none), r.x, r.x, defArgs r.st, defBody r.st, defScope r.st, [], []⟩) (List.mem_map.mpr ⟨r, hr, rfl⟩)
  · exact He.glo_ok X G (d.facts (f := .glo r.x) (List.mem_append_left _ (List.mem_map.mpr ⟨r, hr, rfl⟩)))
  · have := List.all_eq_true.mp e1 q hq
    unfold conB at this
    split at this
    · rename_i u e
      obtain ⟨v, r, z⟩ := relDn_ok 8 _ _ this
      exact ⟨u, v, PySem.W.mg_of X G e, r, z⟩
    · cases this
  · have := List.all_eq_true.mp e2 q hq
    exact PySem.W.mg_of X G (He.eqO_ok this)
  · exact He.free_ok X G (d.facts (f := .free q.1) (List.mem_append_right _ (List.mem_map.mpr ⟨q, hq, rfl⟩)))
/-- the program's defs all keep what their evaluation says -/
theorem all_ok {P : Program} {w : World} {K : PySem.W.Frag} {mg : Str → Option Value} {base : Heap} {rs : List Fd} {T : Tab} {wf fuel : Nat} (W : Wd rs T K mg) (hT : tabB rs T = true) (hfn : T.fns = fnsFrom 0 rs) (hb : AllR BindOk rs) (hk : AllR (KwOk rs) T.kws) :
    ∀ (n i : Nat) (r : Fd), rs[i]? = some r → ∀ fd, FunD K r.x r.x (defArgs r.st) (defBody r.st) (defScope r.st) [] [] (He.ga K r.x) fd → FnG P w K mg base n (He.ga K r.x) fd r.ps (spF K r.fl.length (runF rs T wf fuel n i)) := by
  unfold tabB at hT
  simp only [Bool.and_eq_true] at hT
  obtain ⟨t1, t2, t3, t4, t5⟩ := hT
  intro n
  induction n with
  | zero =>
    intro i r hr fd F
    have no : ∀ {vs : List V} {H : Hp} {Q : VK} {E : XK}, spF K r.fl.length (runF rs T wf fuel 0 i) vs H Q E → False := fun h => by
      obtain ⟨_, _, _, _, _, _, _, _, _, e, _⟩ := h
      cases e
    exact ⟨fun vs H Q E h => (no h).elim, fun A _ _ outer s H _ args us _ vs _ Q E h => (no h).elim⟩
  | succ n ih =>
    intro i r hr fd F
    have hm := List.mem_of_getElem? hr
    obtain ⟨S, hl, hn⟩ := scB_ok (List.all_eq_true.mp t1 r hm)
    have e : runF rs T wf fuel (n + 1) i = callFn r.N.length (dSs (den T r.N (runF rs T wf fuel n) wf fuel) (defScope r.st) (defBody r.st)) := by
      show (match rs[i]? with | some r => _ | none => _) = _
      rw [hr]
    rw [e, hl]
    refine fn_ok F S fun cdv A hG outer s H E hroom => ?_
    have ok : XOk T r.N (runF rs T wf fuel n) (cxOf CX0 P w K mg base r.N r.x (defScope r.st) (He.ga K r.x) cdv A outer s H E).nox := by
      refine ⟨rfl, S.nd, hn, rfl, S.kind, hroom.units, hG, rfl, ?_, ?_, ?_, ?_, ?_⟩
      · intro x j fl h
        rw [hfn] at h
        obtain ⟨r', j', h1, h2, h3, h4⟩ := fns_get h
        have hm' := List.mem_of_getElem? h2
        obtain ⟨fd', F'⟩ := W.fd r' hm'
        have ej : j' = j := by omega
        rw [← h3, ← h4, ← ej]
        refine ⟨List.all_eq_true.mp t2 r' hm', _, fd', r'.ps, n, W.glo r' hm', F'.kp, F'.bindsN (hb.get r' hm'), ih j' r' h2 fd' F', hroom⟩
      · intro x j fl m ks perm h hkw
        rw [hfn] at h
        obtain ⟨r', j', h1, h2, h3, h4⟩ := fns_get h
        have hm' := List.mem_of_getElem? h2
        obtain ⟨i0, r0, g1, g2, g3, g4, g5, g6, g7⟩ := hk.get _ hkw
        have ej : j' = j := by omega
        have ei : j' = i0 := g3 j' r' h2 h3
        subst ei
        rw [g1] at h2
        have er : r0 = r' := Option.some.inj h2
        subst er
        obtain ⟨fd', F'⟩ := W.fd r0 hm'
        rw [← h3, ← h4, ← ej]
        refine ⟨g4, g5, _, fd', r0.ps, n, W.glo r0 hm', F'.kp, ⟨fun s us ws _ hlen => ?_, fun r1 r2 => pick_rel r1 r2⟩, ih j' r0 g1 fd' F', hroom⟩
        have hp : us.length = m ∧ ws.length = ks.length := by
          by_cases hh : us.length = m ∧ ws.length = ks.length
          · exact hh
          · unfold pick at hlen
            rw [if_neg hh] at hlen
            exact absurd (List.eq_nil_of_length_eq_zero hlen.symm) g7
        obtain ⟨oc, od, dV, kV, doc, pm, an, cd, ct, osl, rfl, lk, hcd, hD, hK⟩ := F'.ex
        rcases hD with ⟨_, rfl⟩ | ⟨e, _⟩
        · exact .of_eq (g6 kV doc pm an cd ct us ws hp.1 hp.2)
        · exact absurd rfl e
      · intro x d h
        have hm' := lookup_mem h
        exact ⟨List.all_eq_true.mp t3 _ hm', W.con _ hm'⟩
      · intro x b h
        have hm' := lookup_mem h
        exact ⟨of_decide_eq_true (List.all_eq_true.mp t5 _ hm'), W.blt _ hm'⟩
      · intro x id h
        have hm' := lookup_mem h
        exact ⟨List.all_eq_true.mp t4 _ hm', W.mod _ hm'⟩
    exact dSs_ok (den_good fuel) ok (fun _ => rfl) _
end Ev
namespace Ev
open PySem PySem.Spec PyProof.Rows L2
/-! ## the law's end -/
theorem ints_da {K : PySem.W.Frag} {Z : Hp} : ∀ ns : List Int, DpAll K Z (ns.map V.int) (ns.map PyData.int)
  | [] => .nil
  | n :: ns => .cons (.int n) (ints_da ns)
theorem end_sp {K : PySem.W.Frag} {H : Hp} {a : Addr} {ns : List Int} {g : Fn} {E : XK} (hS : SqL K H a (ns.map V.int)) (e : g [.val (.list (ns.map PyData.int))] = some (.val (.bool true), [])) : spF K 1 g [.ref a] H (fun v _ => v = .bl true) E := by
  refine ⟨rfl, H, H, [.val (.list (ns.map PyData.int))], .val (.bool true), [], Same.refl _, Same.refl _, .val (.lst hS (ints_da ns)) .nil, e, fun v Z' H' _ _ _ _ q => ?_⟩
  cases q
  rfl
theorem law_end {l : PySem.W.OpenLaw} {q : Program} {loose : List Str} {XP : (Str → Option Value) → Heap → Prop} {d : DefRec} {rs : List Fd} {T : Tab} {wf fuel i n m : Nat} {r : Fd} {p : Str} (hT : tabB rs T = true) (hfn : T.fns = fnsFrom 0 rs) (hb : AllR BindOk rs) (hk : AllR (KwOk rs) T.kws)
    (hr : rs[i]? = some r) (hx : d.name = r.x) (hps : r.ps = [p]) (hfl : r.fl = [false]) (hn : l.most = some m) (hn2 : m ≤ sizeLine) (hdf : d.params.defaults = []) (hroom : Room n callerA)
    (main : ∀ ns : List Int, ns.length ≤ m → runF rs T wf fuel n i [.val (.list (ns.map PyData.int))] = some (.val (.bool true), [])) :
    PySem.W.WalkO q loose XP (He.hookX 4 (faOf rs T) (fnOf rs) [] [] (exB T)).says l.row.toRowW d [] (fun f vs => PySem.call f vs) := by
  refine walk_g (l := l) (n := m) (k := n) (x := p) hn hn2 hdf hroom ?_
  intro w mg fa h Y G hmg0
  obtain ⟨K, KX, c⟩ := Y
  have hm := List.mem_of_getElem? hr
  have W : Wd rs T K mg := wd_of KX G c
  obtain ⟨fd, F⟩ := W.fd r hm
  have e := W.glo r hm
  rw [hx, e] at hmg0
  cases hmg0
  have b := FunD.bindsA (ps := r.ps) F (hb.get r hm)
  refine ⟨K, fd, spF K r.fl.length (runF rs T wf fuel n i), KX, fun s u => ?_, fun H a ns hl _ hS => ?_, fun base _ _ => ?_⟩
  · have := b s [u] (by rw [hps]; rfl)
    rw [hps] at this
    exact this
  · rw [hfl]
    exact end_sp hS (main ns hl)
  · have := all_ok (P := l.prog) (w := w) (base := base) (wf := wf) (fuel := fuel) W hT hfn hb hk n i r hr fd F
    rw [hps] at this
    exact this
end Ev
namespace Ev
open PySem PySem.Spec PyProof.Rows L2
/-! ## evaluation, step by step (to be rewritten from the outside) -/
section
variable {env : En} {i : Nat} {α : Type}
theorem x_var : eVar i env = (match env[i]? with
  | some (.val d) => some (d, env)
  | some (.own ds) => some (.list ds, env.set i (.val (.list ds)))
  | some (.mat dss) => some (.list (dss.map PyData.list), env.set i (.val (.list (dss.map PyData.list))))
  | _ => none) := rfl
theorem x_C {d : D} : eC d env = some (d, env) := rfl
theorem x_op {g : D → D → Option D} {a b : Fx D} : eOp g a b env = (match a env with
  | some (x, e) => (match b e with
    | some (y, e2) => (match g x y with
      | some z => some (z, e2)
      | none => none)
    | none => none)
  | none => none) := by
  unfold eOp
  rcases a env with _ | ⟨x, e⟩
  · rfl
  · dsimp only [Option.bind]
    rcases b e with _ | ⟨y, e2⟩
    · rfl
    · dsimp only [Option.bind]
      cases g x y <;> rfl
theorem x_fz {f : Fx R} : eFz f env = (match f env with
  | some (.val d, e) => some (d, e)
  | some (.fresh ds, e) => some (.list ds, e)
  | some (.mat dss, e) => some (.list (dss.map PyData.list), e)
  | none => none) := by
  unfold eFz
  rcases f env with _ | ⟨r, e⟩
  · rfl
  · cases r <;> rfl
theorem x_rV {f : Fx D} : rV f env = (match f env with
  | some (d, e) => some (.val d, e)
  | none => none) := by
  unfold rV
  rcases f env with _ | ⟨r, e⟩ <;> rfl
theorem x_B {f : Fx D} : eB f env = (match f env with
  | some (.bool b, e) => some (b, e)
  | _ => none) := rfl
theorem x_chain {g g' : D → D → Option D} {a b c : Fx D} : eChain g g' a b c env = (match a env with
  | some (x, e) => (match b e with
    | some (y, e2) => (match g x y with
      | some (.bool t) => if t = true then (match c e2 with
        | some (z, e3) => (match g' y z with
          | some w => some (w, e3)
          | none => none)
        | none => none) else some (.bool false, e2)
      | _ => none)
    | none => none)
  | none => none) := by
  unfold eChain
  rcases a env with _ | ⟨x, e⟩
  · rfl
  · dsimp only [Option.bind]
    rcases b e with _ | ⟨y, e2⟩
    · rfl
    · dsimp only [Option.bind]
      rcases g x y with _ | d
      · rfl
      · cases d with
        | bool t =>
          cases t with
          | false => rfl
          | true =>
            simp only [if_true]
            rcases c e2 with _ | ⟨z, e3⟩
            · rfl
            · dsimp only [Option.bind]
              cases g' y z <;> rfl
        | _ => rfl
theorem x_tru {f : Fx D} : eTru f env = (match f env with
  | some (d, e) => (match truD d with
    | some b => some (b, e)
    | none => none)
  | none => none) := by
  unfold eTru
  rcases f env with _ | ⟨d, e⟩
  · rfl
  · dsimp only [Option.bind]
    cases truD d <;> rfl
theorem x_notT {f : Fx Bool} : eNotT f env = (match f env with
  | some (b, e) => some (!b, e)
  | none => none) := by
  unfold eNotT
  rcases f env with _ | ⟨d, e⟩ <;> rfl
theorem x_andT {f g : Fx Bool} : eAndT f g env = (match f env with
  | some (b, e) => if b = true then g e else some (false, e)
  | none => none) := by
  unfold eAndT
  rcases f env with _ | ⟨b, e⟩
  · rfl
  · cases b <;> rfl
theorem x_orT {f g : Fx Bool} : eOrT f g env = (match f env with
  | some (b, e) => if b = true then some (true, e) else g e
  | none => none) := by
  unfold eOrT
  rcases f env with _ | ⟨b, e⟩
  · rfl
  · cases b <;> rfl
theorem x_and {f g : Fx D} : eAnd f g env = (match f env with
  | some (.bool b, e) => if b = true then g e else some (.bool false, e)
  | _ => none) := by
  unfold eAnd
  rcases f env with _ | ⟨d, e⟩
  · rfl
  · cases d with
    | bool b => cases b <;> rfl
    | _ => rfl
theorem x_or {f g : Fx D} : eOr f g env = (match f env with
  | some (.bool b, e) => if b = true then some (.bool true, e) else g e
  | _ => none) := by
  unfold eOr
  rcases f env with _ | ⟨d, e⟩
  · rfl
  · cases d with
    | bool b => cases b <;> rfl
    | _ => rfl
theorem x_not {f : Fx D} : eNot f env = (match f env with
  | some (.bool b, e) => some (.bool (!b), e)
  | _ => none) := rfl
theorem x_neg {f : Fx D} : eNeg f env = (match f env with
  | some (.int i, e) => some (.int (-i), e)
  | _ => none) := rfl
theorem x_if {c : Fx Bool} {f g : Fx α} : eIf c f g env = (match c env with
  | some (b, e) => if b = true then f e else g e
  | none => none) := by
  unfold eIf
  rcases c env with _ | ⟨b, e⟩
  · rfl
  · cases b <;> rfl
theorem x_aNil : aNil env = some ([], env) := rfl
theorem x_aVal {f : Fx D} {g : Fx (List AR)} : aVal f g env = (match f env with
  | some (d, e) => (match g e with
    | some (as, e2) => some (.val d :: as, e2)
    | none => none)
  | none => none) := by
  unfold aVal
  rcases f env with _ | ⟨d, e⟩
  · rfl
  · dsimp only [Option.bind]
    rcases g e with _ | ⟨as, e2⟩ <;> rfl
theorem x_aSlot {g : Fx (List AR)} : aSlot i g env = (match env[i]? with
  | some (.val d) => (match g env with
    | some (as, e) => some (.val d :: as, e)
    | none => none)
  | some s => if isOwn s = true then (match g env with
    | some (as, e) => some (.slot i :: as, e)
    | none => none) else none
  | none => none) := by
  unfold aSlot
  rcases env[i]? with _ | s
  · rfl
  · cases s <;> (dsimp only; rcases g env with _ | ⟨as, e2⟩ <;> rfl)
theorem x_aTmp {f : Fx R} {g : Fx (List AR)} : aTmp f g env = (match f env with
  | some (.fresh ds, e) => (match g e with
    | some (as, e2) => some (.tmp ds :: as, e2)
    | none => none)
  | _ => none) := by
  unfold aTmp
  rcases f env with _ | ⟨r, e⟩
  · rfl
  · cases r with
    | val => rfl
    | fresh ds =>
      dsimp only
      rcases g e with _ | ⟨as, e2⟩ <;> rfl
    | mat => rfl
theorem x_aR {f : Fx R} {g : Fx (List AR)} : aR f g env = (match f env with
  | some (.fresh ds, e) => (match g e with
    | some (as, e2) => some (.tmp ds :: as, e2)
    | none => none)
  | some (.val d, e) => (match g e with
    | some (as, e2) => some (.val d :: as, e2)
    | none => none)
  | _ => none) := by
  unfold aR
  rcases f env with _ | ⟨r, e⟩
  · rfl
  · cases r with
    | val d =>
      dsimp only
      rcases g e with _ | ⟨as, e2⟩ <;> rfl
    | fresh ds =>
      dsimp only
      rcases g e with _ | ⟨as, e2⟩ <;> rfl
    | mat => rfl
theorem x_call {g : Fn} {f : Fx (List AR)} : eCall g f env = (match f env with
  | some (as, env1) => if natNodup (slotsOf as) = true then
      (match toAv env1 as with
      | some avs => (match g avs with
        | some (r, outs) => (match putOuts as outs env1 with
          | some e => some (r, e)
          | none => none)
        | none => none)
      | none => none) else none
  | none => none) := by
  unfold eCall
  rcases f env with _ | ⟨as, e⟩
  · rfl
  · dsimp only
    rcases toAv e as with _ | avs
    · rfl
    · dsimp only
      rcases g avs with _ | ⟨r, outs⟩
      · rfl
      · dsimp only
        rcases putOuts as outs e with _ | q <;> rfl
theorem x_callK {g : Fn} {n m : Nat} {perm : List Nat} {f fk : Fx (List D)} : eCallK g n m perm f fk env = (match f env with
  | some (ds, e) => (match fk e with
    | some (es, e2) => (match g ((pick n m perm ds es).map .val) with
      | some (r, []) => some (r, e2)
      | _ => none)
    | none => none)
  | none => none) := by
  unfold eCallK
  rcases f env with _ | ⟨ds, e⟩
  · rfl
  · dsimp only [Option.bind]
    rcases fk e with _ | ⟨es, e2⟩
    · rfl
    · rfl
theorem x_dNil : dNil env = some ([], env) := rfl
theorem x_dCons {f : Fx D} {g : Fx (List D)} : dCons f g env = (match f env with
  | some (d, e) => (match g e with
    | some (ds, e2) => some (d :: ds, e2)
    | none => none)
  | none => none) := by
  unfold dCons
  rcases f env with _ | ⟨d, e⟩
  · rfl
  · dsimp only [Option.bind]
    rcases g e with _ | ⟨as, e2⟩ <;> rfl
theorem x_tup {f : Fx (List D)} : eTup f env = (match f env with
  | some (ds, e) => if ds.length ≤ sizeLine then some (.tuple ds, e) else none
  | none => none) := rfl
theorem x_lst {f : Fx (List D)} : eLst f env = (match f env with
  | some (ds, e) => if ds.length ≤ sizeLine then some (.fresh ds, e) else none
  | none => none) := rfl
theorem x_itemN {f : Fx D} : eItemN i f env = (match env[i]? with
  | some (.val d) => (match f env with
    | some (k, e) => (match gItem d k with
      | some z => some (z, e)
      | none => none)
    | none => none)
  | some (.own _) => ownItem i (f env)
  | some (.par _) => ownItem i (f env)
  | _ => none) := by
  unfold eItemN
  rcases env[i]? with _ | s
  · rfl
  · cases s with
    | val d =>
      dsimp only
      rcases f env with _ | ⟨k, e⟩
      · rfl
      · dsimp only [Option.bind]
        cases gItem d k <;> rfl
    | _ => rfl
theorem x_ownItem {k : Int} {e : En} : ownItem i (some (.int k, e)) = (match e[i]? with
  | some (.own ds) => (match atI ds k with
    | some z => some (z, e)
    | none => none)
  | some (.par ds) => (match atI ds k with
    | some z => some (z, e)
    | none => none)
  | _ => none) := by
  unfold ownItem
  dsimp only
  rcases e[i]? with _ | s
  · rfl
  · cases s with
    | own ds =>
      dsimp only
      cases atI ds k <;> rfl
    | par ds =>
      dsimp only
      cases atI ds k <;> rfl
    | _ => rfl
theorem x_lenN : eLenN i env = (match env[i]? with
  | some (.val (.list ds)) => some (.int ds.length, env)
  | some (.val (.tuple ds)) => some (.int ds.length, env)
  | some (.val (.str z)) => if z.length ≤ sizeLine then some (.int z.length, env) else none
  | some (.own ds) => some (.int ds.length, env)
  | some (.par ds) => some (.int ds.length, env)
  | _ => none) := rfl
theorem x_blt {g : List D → Option D} {f : Fx (List D)} : eBlt g f env = (match f env with
  | some (ds, e) => (match g ds with
    | some z => some (z, e)
    | none => none)
  | none => none) := by
  unfold eBlt
  rcases f env with _ | ⟨ds, e⟩
  · rfl
  · dsimp only [Option.bind]
    cases g ds <;> rfl
theorem x_isi {t : String} {f : Fx D} : eIsi t f env = (match f env with
  | some (d, e) => (match isiD d t with
    | some b => some (.bool b, e)
    | none => none)
  | none => none) := by
  unfold eIsi
  rcases f env with _ | ⟨d, e⟩
  · rfl
  · dsimp only [Option.bind]
    cases isiD d t <;> rfl
theorem x_list {f : Fx D} : eList f env = (match f env with
  | some (d, e) => (match seqD d with
    | some ds => some (.fresh ds, e)
    | none => none)
  | none => none) := by
  unfold eList
  rcases f env with _ | ⟨d, e⟩
  · rfl
  · dsimp only [Option.bind]
    cases seqD d <;> rfl
theorem x_rgL1 {f : Fx D} : eRgL1 f env = (match f env with
  | some (.int j, e) => if rgB 0 j = true then some (.fresh (rangeD 0 (j - 0).toNat), e) else none
  | _ => none) := rfl
theorem x_rgL2 {f g : Fx D} : eRgL2 f g env = (match f env with
  | some (.int i, e) => (match g e with
    | some (.int j, e2) => if rgB i j = true then some (.fresh (rangeD i (j - i).toNat), e2) else none
    | _ => none)
  | _ => none) := rfl
theorem x_iSeq {f : Fx D} : iSeq f env = (match f env with
  | some (d, e) => (match seqD d with
    | some ds => some (ds, e)
    | none => none)
  | none => none) := by
  unfold iSeq
  rcases f env with _ | ⟨d, e⟩
  · rfl
  · dsimp only [Option.bind]
    cases seqD d <;> rfl
theorem x_iZip {f : Fx (List D)} : iZip f env = (match f env with
  | some (d, e) => (match zipOf d with
    | some ds => some (ds, e)
    | none => none)
  | none => none) := by
  unfold iZip
  rcases f env with _ | ⟨d, e⟩
  · rfl
  · dsimp only [Option.bind]
    cases zipOf d <;> rfl
theorem x_range1 {f : Fx D} : iRange1 f env = (match f env with
  | some (.int j, e) => some (rangeD 0 (j - 0).toNat, e)
  | _ => none) := rfl
theorem x_range2 {f g : Fx D} : iRange2 f g env = (match f env with
  | some (.int i, e) => (match g e with
    | some (.int j, e2) => some (rangeD i (j - i).toNat, e2)
    | _ => none)
  | _ => none) := rfl
theorem x_addR {f g : Fx D} : eAddR f g env = (match f env with
  | some (d, e) => (match g e with
    | some (d2, e2) => (match d, d2 with
      | .list xs, .list ys => if xs.length + ys.length ≤ sizeLine then some (.fresh (xs ++ ys), e2) else none
      | _, _ => none)
    | none => none)
  | none => none) := by
  unfold eAddR
  rcases f env with _ | ⟨d, e⟩
  · rfl
  · show (g e).bind _ = _
    dsimp only
    rcases g e with _ | ⟨d2, e2⟩
    · rfl
    · cases d <;> first | rfl | (cases d2 <;> rfl)
theorem x_slice {f : Fx D} {lo hi : Fx (Option Int)} : eSlice f lo hi env = (match f env with
  | some (d, e) => (match lo e with
    | some (a, e1) => (match hi e1 with
      | some (b, e2) => (match d with
        | .list ds => some (.fresh (cutD ds a b), e2)
        | .tuple ds => some (.val (.tuple (cutD ds a b)), e2)
        | _ => none)
      | none => none)
    | none => none)
  | none => none) := by
  unfold eSlice
  rcases f env with _ | ⟨d, e⟩
  · rfl
  · dsimp only [Option.bind]
    rcases lo e with _ | ⟨a, e1⟩
    · rfl
    · dsimp only [Option.bind]
      rcases hi e1 with _ | ⟨b, e2⟩
      · rfl
      · cases d <;> rfl
theorem x_partN : ePart none env = some (none, env) := rfl
theorem x_partS {f : Fx D} : ePart (some f) env = (match f env with
  | some (.int i, e) => some (some i, e)
  | _ => none) := rfl
theorem x_comp {it : Fx (List D)} {g : Gf} {c : Fx Bool} {f : Fx D} {vs : List Nat} : eComp it g c f vs env = (match it env with
  | some (ds, e) => (match compL g c f vs ds [] (wipeE e vs) with
    | some (r, e2) => some (.fresh r, e2)
    | none => none)
  | none => none) := by
  unfold eComp
  rcases it env with _ | ⟨ds, e⟩
  · rfl
  · dsimp only
    rcases compL g c f vs ds [] (wipeE e vs) with _ | ⟨r, e2⟩ <;> rfl
theorem x_skip : sSkip env = some (.nx, env) := rfl
theorem x_stuck : sStuck env = none := rfl
theorem x_break : sBreak env = some (.bk, env) := rfl
theorem x_cont : sCont env = some (.ct, env) := rfl
theorem x_seq {f g : Fx Fl} : sSeq f g env = (match f env with
  | some (.nx, e) => g e
  | some (.bk, e) => some (.bk, e)
  | some (.ct, e) => some (.ct, e)
  | some (.rt r, e) => some (.rt r, e)
  | none => none) := by
  unfold sSeq
  rcases f env with _ | ⟨l, e⟩
  · rfl
  · cases l <;> rfl
theorem x_sIf {c : Fx Bool} {f g : Fx Fl} : sIf c f g env = (match c env with
  | some (b, e) => if b = true then f e else g e
  | none => none) := by
  unfold sIf
  rcases c env with _ | ⟨b, e⟩
  · rfl
  · cases b <;> rfl
theorem x_sExpr {f : Fx R} : sExpr f env = (match f env with
  | some (_, e) => some (.nx, e)
  | none => none) := by
  unfold sExpr
  rcases f env with _ | ⟨b, e⟩ <;> rfl
theorem x_ret {f : Fx R} : sRet f env = (match f env with
  | some (r, e) => some (.rt r, e)
  | none => none) := by
  unfold sRet
  rcases f env with _ | ⟨b, e⟩ <;> rfl
theorem x_retN : sRetN env = some (.rt (.val .none), env) := rfl
theorem x_move : eMove i env = (match env[i]? with
  | some (.val d) => some (.val d, env)
  | some (.own ds) => some (.fresh ds, env.set i .no)
  | some (.mat dss) => some (.mat dss, env.set i .no)
  | _ => none) := rfl
theorem x_setRv {d : D} : setR i (.val d) env = (match env[i]? with
  | some s => if isPar s = true then none else some (env.set i (.val d))
  | none => none) := rfl
theorem x_setRf {ds : List D} : setR i (.fresh ds) env = (match env[i]? with
  | some s => if isPar s = true then none else some (env.set i (.own ds))
  | none => none) := rfl
theorem x_setRm {dss : List (List D)} : setR i (.mat dss) env = (match env[i]? with
  | some s => if isPar s = true then none else some (env.set i (.mat dss))
  | none => none) := rfl
theorem x_set {f : Fx R} : sSet i f env = (match f env with
  | some (r, e) => (match setR i r e with
    | some e2 => some (.nx, e2)
    | none => none)
  | none => none) := by
  unfold sSet
  rcases f env with _ | ⟨r, e⟩
  · rfl
  · dsimp only [Option.bind]
    cases setR i r e <;> rfl
theorem x_gN {d : D} : gN i d env = setR i (.val d) env := rfl
theorem x_gsNil : gsNil [] env = some env := rfl
theorem x_gsCons {g : Gf} {h : List D → En → Option En} {d : D} {ds : List D} : gsCons g h (d :: ds) env = (match g d env with
  | some e => h ds e
  | none => none) := by
  show (g d env).bind (h ds) = _
  cases g d env <;> rfl
theorem x_gTup {n : Nat} {g : List D → En → Option En} {ds : List D} : gTup n g (.tuple ds) env = if ds.length = n then g ds env else none := rfl
theorem x_gIx {f : Fx D} {d : D} : gIx i f d env = (match env[i]? with
  | some s => if isOwn s = true then (match f env with
    | some (.int k, e) => setAt i k d e
    | _ => none) else none
  | none => none) := rfl
theorem x_setAt {k : Int} {d : D} : setAt i k d env = (match env[i]? with
  | some (.own ds) => (match ixN ds.length k with
    | some j => some (env.set i (.own (ds.set j d)))
    | none => none)
  | some (.par ds) => (match ixN ds.length k with
    | some j => some (env.set i (.par (ds.set j d)))
    | none => none)
  | _ => none) := by
  unfold setAt
  rcases env[i]? with _ | s
  · rfl
  · cases s with
    | own ds =>
      dsimp only
      cases ixN ds.length k <;> rfl
    | par ds =>
      dsimp only
      cases ixN ds.length k <;> rfl
    | _ => rfl
theorem x_asg {f : Fx D} {g : Gf} : sAsg f g env = (match f env with
  | some (d, e) => (match g d e with
    | some e2 => some (.nx, e2)
    | none => none)
  | none => none) := by
  unfold sAsg
  rcases f env with _ | ⟨r, e⟩
  · rfl
  · dsimp only [Option.bind]
    cases g r e <;> rfl
theorem x_par {is : List Nat} {f : Fx (List AR)} : sPar is f env = (match f env with
  | some (as, e) => (match setMany is as e with
    | some e2 => some (.nx, e2)
    | none => none)
  | none => none) := by
  unfold sPar
  rcases f env with _ | ⟨r, e⟩
  · rfl
  · dsimp only [Option.bind]
    cases setMany is r e <;> rfl
theorem x_sm0 : setMany [] [] env = some env := rfl
theorem x_smV {is : List Nat} {d : D} {as : List AR} : setMany (i :: is) (.val d :: as) env = (match setR i (.val d) env with
  | some e => setMany is as e
  | none => none) := by
  show (setR i (.val d) env).bind (setMany is as) = _
  cases setR i (.val d) env <;> rfl
theorem x_smF {is : List Nat} {ds : List D} {as : List AR} : setMany (i :: is) (.tmp ds :: as) env = (match setR i (.fresh ds) env with
  | some e => setMany is as e
  | none => none) := by
  show (setR i (.fresh ds) env).bind (setMany is as) = _
  cases setR i (.fresh ds) env <;> rfl
theorem x_app {f : Fx D} : sApp i f env = (match env[i]? with
  | some s => if isOwn s = true then (match f env with
    | some (d, e) => (match appAt i d e with
      | some e2 => some (.nx, e2)
      | none => none)
    | none => none) else none
  | none => none) := by
  unfold sApp
  rcases env[i]? with _ | s
  · rfl
  · dsimp only
    rcases f env with _ | ⟨d, e⟩
    · rfl
    · dsimp only
      cases appAt i d e <;> rfl
theorem x_for {f : Fx (List D)} {g : Gf} {b : Fx Fl} : sFor f g b env = (match f env with
  | some (ds, e) => forL g b ds e
  | none => none) := rfl
theorem x_for0 {g : Gf} {b : Fx Fl} : forL g b [] env = some (.nx, env) := rfl
theorem x_for1 {g : Gf} {b : Fx Fl} {d : D} {ds : List D} : forL g b (d :: ds) env = (match g d env with
  | some e1 => (match b e1 with
    | some (.nx, e2) => forL g b ds e2
    | some (.ct, e2) => forL g b ds e2
    | some (.bk, e2) => some (.nx, e2)
    | some (.rt r, e2) => some (.rt r, e2)
    | none => none)
  | none => none) := rfl
theorem x_comp0 {g : Gf} {c : Fx Bool} {f : Fx D} {vs : List Nat} {acc : List D} : compL g c f vs [] acc env = some (acc, env) := rfl
theorem x_comp1 {g : Gf} {c : Fx Bool} {f : Fx D} {vs : List Nat} {acc : List D} {d : D} {ds : List D} : compL g c f vs (d :: ds) acc env = (match g d env with
  | some e1 => (match c e1 with
    | some (b, e2) => if b = true then (match f e2 with
      | some (y, e3) => if acc.length < sizeLine then compL g c f vs ds (acc ++ [y]) (wipeE e3 vs) else none
      | none => none) else compL g c f vs ds acc (wipeE e2 vs)
    | none => none)
  | none => none) := by
  show (match g d env with
    | some e1 => _
    | none => none) = _
  rcases g d env with _ | e1
  · rfl
  · dsimp only
    rcases c e1 with _ | ⟨b, e2⟩
    · rfl
    · cases b <;> rfl
theorem x_fn {n : Nat} {b : Fx Fl} {avs : List AV} : callFn n b avs = (match b (initE n avs) with
  | some (.rt r, e) => (match outsOf avs 0 e with
    | some o => some (r, o)
    | none => none)
  | some (.nx, e) => (match outsOf avs 0 e with
    | some o => some (.val .none, o)
    | none => none)
  | _ => none) := by
  unfold callFn
  rcases b (initE n avs) with _ | ⟨l, e⟩
  · rfl
  · cases l with
    | nx =>
      dsimp only
      cases outsOf avs 0 e <;> rfl
    | rt r =>
      dsimp only
      cases outsOf avs 0 e <;> rfl
    | _ => rfl
end
/-! ### operators -/
section
variable {x y : Int} {b c : Bool} {xs ys : List D} {d e : D}
theorem q_addI : gAdd (.int x) (.int y) = some (.int (x + y)) := rfl
theorem q_addT : gAdd (.tuple xs) (.tuple ys) = if xs.length + ys.length ≤ sizeLine then some (.tuple (xs ++ ys)) else none := rfl
theorem q_addL : gAdd (.list xs) (.list ys) = if xs.length + ys.length ≤ sizeLine then some (.list (xs ++ ys)) else none := rfl
theorem q_subI : gSub (.int x) (.int y) = some (.int (x - y)) := rfl
theorem q_mulI (h : mulOk x y = true) : gMul (.int x) (.int y) = some (.int (x * y)) := if_pos h
theorem q_modI (h : 0 < y) : gMod (.int x) (.int y) = some (.int (x % y)) := by
  show (if decide (y ≠ 0) = true then some (PyData.int (x.fmod y)) else none) = _
  rw [if_pos (decide_eq_true (by omega)), Int.fmod_eq_emod_of_nonneg _ (by omega)]
theorem q_fdivI (h : 0 < y) (h2 : y.natAbs.log2 < 9000) : gFdiv (.int x) (.int y) = some (.int (x / y)) := by
  show (if fdivOk x y = true then some (PyData.int (x.fdiv y)) else none) = _
  rw [if_pos (by unfold fdivOk; simp only [Bool.and_eq_true, decide_eq_true_eq]; exact ⟨by omega, h2⟩), Int.fdiv_eq_ediv_of_nonneg _ (by omega)]
theorem q_ltI : gLt (.int x) (.int y) = some (.bool (decide (x < y))) := rfl
theorem q_leI : gLe (.int x) (.int y) = some (.bool (decide (x ≤ y))) := rfl
theorem q_gtI : gGt (.int x) (.int y) = some (.bool (decide (y < x))) := rfl
theorem q_geI : gGe (.int x) (.int y) = some (.bool (decide (y ≤ x))) := rfl
theorem q_isN : gIs d .none = some (.bool (isNone d)) := rfl
theorem q_isNotN : gIsNot d .none = some (.bool (!isNone d)) := rfl
theorem q_eqI : gEq (.int x) (.int y) = some (.bool (decide (x = y))) := by
  simp [gEq, eqOk, PyData.depth, PyData.eqv] <;> rfl
theorem q_neI : gNe (.int x) (.int y) = some (.bool (!decide (x = y))) := by
  simp [gNe, eqOk, PyData.depth, PyData.eqv] <;> rfl
theorem q_eqB : gEq (.bool b) (.bool c) = some (.bool (b == c)) := by
  simp [gEq, eqOk, PyData.depth, PyData.eqv]
theorem q_eqT0 : gEq (.tuple []) (.tuple []) = some (.bool true) := by
  simp [gEq, eqOk, PyData.depth, PyData.depthAll, PyData.eqv, PyData.eqvAll]
theorem q_eqT1 : gEq (.tuple (d :: xs)) (.tuple []) = some (.bool false) := by
  have h : eqOk (.tuple (d :: xs)) (.tuple []) = true := decide_eq_true (by simp only [PyData.depth, PyData.depthAll]; omega)
  unfold gEq
  rw [if_pos h]
  simp [PyData.eqv, PyData.eqvAll]
theorem q_neT0 : gNe (.tuple []) (.tuple []) = some (.bool false) := by
  simp [gNe, eqOk, PyData.depth, PyData.depthAll, PyData.eqv, PyData.eqvAll]
theorem q_neT1 : gNe (.tuple (d :: xs)) (.tuple []) = some (.bool true) := by
  have h : eqOk (.tuple (d :: xs)) (.tuple []) = true := decide_eq_true (by simp only [PyData.depth, PyData.depthAll]; omega)
  unfold gNe
  rw [if_pos h]
  simp [PyData.eqv, PyData.eqvAll]
theorem q_eqL0 : gEq (.list []) (.list []) = some (.bool true) := by
  simp [gEq, eqOk, PyData.depth, PyData.depthAll, PyData.eqv, PyData.eqvAll]
theorem q_eqL1 : gEq (.list (d :: xs)) (.list []) = some (.bool false) := by
  have h : eqOk (.list (d :: xs)) (.list []) = true := decide_eq_true (by simp only [PyData.depth, PyData.depthAll]; omega)
  unfold gEq
  rw [if_pos h]
  simp [PyData.eqv, PyData.eqvAll]
theorem q_neL0 : gNe (.list []) (.list []) = some (.bool false) := by
  simp [gNe, eqOk, PyData.depth, PyData.depthAll, PyData.eqv, PyData.eqvAll]
theorem q_neL1 : gNe (.list (d :: xs)) (.list []) = some (.bool true) := by
  have h : eqOk (.list (d :: xs)) (.list []) = true := decide_eq_true (by simp only [PyData.depth, PyData.depthAll]; omega)
  unfold gNe
  rw [if_pos h]
  simp [PyData.eqv, PyData.eqvAll]
theorem q_int : gInt [.int x] = some (.int x) := rfl
theorem q_abs : gAbs [.int x] = some (.int (if x < 0 then -x else x)) := rfl
theorem q_min2 : gMin [.int x, .int y] = some (.int (min x y)) := by
  show some (PyData.int (if y < x then y else x)) = _
  congr 2
  split <;> omega
theorem q_max2 : gMax [.int x, .int y] = some (.int (max x y)) := by
  show some (PyData.int (if y > x then y else x)) = _
  congr 2
  split <;> omega
theorem q_divmodW (h : 0 < y) (h2 : y.natAbs.log2 < 9000) : gDivmod [.int x, .int y] = some (.tuple [.int (x / y), .int (x % y)]) := by
  show (if (decide (0 < y) && decide (y.natAbs.log2 < 9000)) = true then _ else none) = _
  rw [if_pos (by simp only [Bool.and_eq_true, decide_eq_true_eq]; exact ⟨h, h2⟩)]
theorem log2_small {y : Int} {k : Nat} (h : y.natAbs < 2 ^ k) : y.natAbs.log2 ≤ k := by
  by_cases z : y.natAbs = 0
  · rw [z]; simp
  · exact Nat.le_of_lt ((Nat.log2_lt z).mpr h)
theorem q_divmod (h : 0 < y) (h2 : y < 1073741824) : gDivmod [.int x, .int y] = some (.tuple [.int (x / y), .int (x % y)]) :=
  q_divmodW h (Nat.lt_of_le_of_lt (log2_small (k := 30) (by omega)) (by decide))
theorem mulOk_lt {a b : Nat} (ha : x.natAbs < 2 ^ a) (hb : y.natAbs < 2 ^ b) (h : a + b < 1000000) : mulOk x y = true := by
  have lg : ∀ {n k : Nat}, n < 2 ^ k → n.log2 ≤ k := fun {n k} h => by
    by_cases z : n = 0
    · subst z; simp
    · exact Nat.le_of_lt ((Nat.log2_lt z).mpr h)
  have := lg ha
  have := lg hb
  exact decide_eq_true (by omega)
end
theorem q_at0 {d : D} {xs : List D} : atI (d :: xs) 0 = some d := by
  unfold atI ixN
  rw [if_pos (by omega), if_pos (by simp only [List.length_cons]; omega)]
  rfl
theorem q_at1 {d e : D} {xs : List D} : atI (d :: e :: xs) 1 = some e := by
  unfold atI ixN
  rw [if_pos (by omega), if_pos (by simp only [List.length_cons]; omega)]
  rfl
theorem q_at2 {d e f : D} {xs : List D} : atI (d :: e :: f :: xs) 2 = some f := by
  unfold atI ixN
  rw [if_pos (by omega), if_pos (by simp only [List.length_cons]; omega)]
  rfl
theorem q_at3 {d e f g : D} {xs : List D} : atI (d :: e :: f :: g :: xs) 3 = some g := by
  unfold atI ixN
  rw [if_pos (by omega), if_pos (by simp only [List.length_cons]; omega)]
  rfl
theorem q_ix0 {n : Nat} : ixN (n + 1) 0 = some 0 := by
  unfold ixN
  rw [if_pos (by omega), if_pos (by omega)]
  rfl
theorem q_ix1 {n : Nat} : ixN (n + 1 + 1) 1 = some 1 := by
  unfold ixN
  rw [if_pos (by omega), if_pos (by omega)]
  rfl
theorem q_ix2 {n : Nat} : ixN (n + 1 + 1 + 1) 2 = some 2 := by
  unfold ixN
  rw [if_pos (by omega), if_pos (by omega)]
  rfl
theorem q_sz : sizeLine = 16777216 := rfl
theorem q_ixN {n : Nat} {i : Int} (h0 : 0 ≤ i) (h1 : i < n) : ixN n i = some i.toNat := by
  unfold ixN
  rw [if_pos h0, if_pos h1]
end Ev
namespace Ev
open PySem PySem.Spec PyProof.Rows L2
/-! ## more single steps -/
theorem q_iteS {b : Bool} [Decidable (b = true)] {x y : D} {e : En} : (if b = true then some (x, e) else some (y, e)) = some (if b = true then x else y, e) := by cases b <;> simp
theorem q_iteT {b : Bool} [Decidable (b = true)] {x y : Bool} {e : En} : (if b = true then some (x, e) else some (y, e)) = some (if b = true then x else y, e) := by cases b <;> simp
theorem q_iteR {b : Bool} [Decidable (b = true)] {x y : R} {e : En} : (if b = true then some (x, e) else some (y, e)) = some (if b = true then x else y, e) := by cases b <;> simp
theorem q_iteV {b : Bool} [Decidable (b = true)] {x y : D} : (if b = true then R.val x else R.val y) = R.val (if b = true then x else y) := by cases b <;> simp
theorem q_iteBB {b x y : Bool} [Decidable (b = true)] : (if b = true then PyData.bool x else PyData.bool y) = PyData.bool (if b = true then x else y) := by cases b <;> simp
theorem q_iteII {b : Bool} [Decidable (b = true)] {x y : Int} : (if b = true then PyData.int x else PyData.int y) = PyData.int (if b = true then x else y) := by cases b <;> simp
theorem q_iteAnd {b c : Bool} [Decidable (b = true)] : (if b = true then c else false) = (b && c) := by cases b <;> simp
theorem q_iteOr {b c : Bool} [Decidable (b = true)] : (if b = true then true else c) = (b || c) := by cases b <;> simp
theorem q_iteNot {b : Bool} [Decidable (b = true)] : (if b = true then false else true) = !b := by cases b <;> simp
theorem q_iteCon {b : Bool} [Decidable (b = true)] {x y : D} {xs ys : List D} : (if b = true then x :: xs else y :: ys) = (if b = true then x else y) :: (if b = true then xs else ys) := by cases b <;> simp
theorem q_pa0 : isPar .no = false := rfl
theorem q_pa1 {d : D} : isPar (.val d) = false := rfl
theorem q_pa2 {ds : List D} : isPar (.own ds) = false := rfl
theorem q_pa3 {ds : List D} : isPar (.par ds) = true := rfl
theorem q_pa4 {dss : List (List D)} : isPar (.mat dss) = false := rfl
theorem q_ow4 {dss : List (List D)} : isOwn (.mat dss) = false := rfl
theorem q_ma0 : isMat .no = false := rfl
theorem q_ma1 {d : D} : isMat (.val d) = false := rfl
theorem q_ma2 {ds : List D} : isMat (.own ds) = false := rfl
theorem q_ma3 {ds : List D} : isMat (.par ds) = false := rfl
theorem q_ma4 {dss : List (List D)} : isMat (.mat dss) = true := rfl
theorem q_ow0 : isOwn .no = false := rfl
theorem q_ow1 {d : D} : isOwn (.val d) = false := rfl
theorem q_ow2 {ds : List D} : isOwn (.own ds) = true := rfl
theorem q_ow3 {ds : List D} : isOwn (.par ds) = true := rfl
theorem q_c0 : ((0 : Nat) : Int) = 0 := rfl
theorem q_c1 : ((1 : Nat) : Int) = 1 := rfl
theorem q_c2 : ((2 : Nat) : Int) = 2 := rfl
theorem q_c3 : ((3 : Nat) : Int) = 3 := rfl
theorem q_c4 : ((4 : Nat) : Int) = 4 := rfl
theorem q_c5 : ((5 : Nat) : Int) = 5 := rfl
theorem q_c6 : ((6 : Nat) : Int) = 6 := rfl
theorem q_c7 : ((7 : Nat) : Int) = 7 := rfl
theorem q_c8 : ((8 : Nat) : Int) = 8 := rfl
theorem q_c9 : ((9 : Nat) : Int) = 9 := rfl
theorem q_c10 : ((10 : Nat) : Int) = 10 := rfl
theorem q_c11 : ((11 : Nat) : Int) = 11 := rfl
theorem q_c12 : ((12 : Nat) : Int) = 12 := rfl
section
variable {x y z : D}
theorem q_all0 : gAll [.list []] = some (.bool true) := rfl
theorem q_all1 {a : Bool} : gAll [.list [.bool a]] = some (.bool a) := by cases a <;> rfl
theorem q_all2 {a b : Bool} : gAll [.list [.bool a, .bool b]] = some (.bool (a && b)) := by cases a <;> cases b <;> rfl
theorem q_all3 {a b c : Bool} : gAll [.list [.bool a, .bool b, .bool c]] = some (.bool (a && (b && c))) := by cases a <;> cases b <;> cases c <;> rfl
theorem eqv_none : PyData.eqv x .none = isNone x := by cases x <;> rfl
theorem q_inN2 : gIn .none (.tuple [x, y]) = some (.bool (isNone x || isNone y)) := by
  have h : inOk [x, y] .none = true := decide_eq_true (by simp [PyData.depth])
  show (if inOk [x, y] .none = true then some (PyData.bool ([x, y].any fun y => PyData.eqv y .none)) else none) = _
  rw [if_pos h]
  simp only [List.any_cons, List.any_nil, eqv_none, Bool.or_false]
theorem q_inN0 : gIn .none (.tuple []) = some (.bool false) := by
  have h : inOk [] .none = true := decide_eq_true (by simp [PyData.depth])
  show (if inOk [] .none = true then some (PyData.bool (([] : List D).any fun y => PyData.eqv y .none)) else none) = _
  rw [if_pos h]
  rfl
theorem q_02a : gNotIn (.int 0) (.tuple [.int 0, .int 2]) = some (.bool false) := by kernel_rfl
theorem q_02b : gNotIn (.int 2) (.tuple [.int 0, .int 2]) = some (.bool false) := by kernel_rfl
end
end Ev
namespace Ev
open PySem PySem.Spec PyProof.Rows L2
/-! ## step by step -/
theorem seq_nx {f g : Fx Fl} {e e1 : En} {r : Option (Fl × En)} (h1 : f e = some (.nx, e1)) (h2 : g e1 = r) : sSeq f g e = r := by
  rw [x_seq, h1]; exact h2
theorem seq_rt {f g : Fx Fl} {e e1 : En} {r : R} (h1 : f e = some (.rt r, e1)) : sSeq f g e = some (.rt r, e1) := by
  rw [x_seq, h1]
theorem fn_rt {n : Nat} {b : Fx Fl} {avs : List AV} {r : R} {e : En} {o : List (List D)} (h : b (initE n avs) = some (.rt r, e)) (ho : outsOf avs 0 e = some o) : callFn n b avs = some (r, o) := by
  unfold callFn
  rw [h]
  show (outsOf avs 0 e).map _ = _
  rw [ho]; rfl
theorem fn_nx {n : Nat} {b : Fx Fl} {avs : List AV} {e : En} {o : List (List D)} (h : b (initE n avs) = some (.nx, e)) (ho : outsOf avs 0 e = some o) : callFn n b avs = some (.val .none, o) := by
  unfold callFn
  rw [h]
  show (outsOf avs 0 e).map _ = _
  rw [ho]; rfl
theorem for_nx {f : Fx (List D)} {g : Gf} {b : Fx Fl} {e e1 : En} {ds : List D} {r : Option (Fl × En)} (h1 : f e = some (ds, e1)) (h2 : forL g b ds e1 = r) : sFor f g b e = r := by
  rw [x_for, h1]; exact h2
/-! ## more rules -/
section
variable {env : En}
theorem x_iEnum {f : Fx D} : iEnum f env = (match f env with
    | some (d, e) => (match seqD d with
      | some ds => some (enumD 0 ds, e)
      | none => none)
    | none => none) := by
  unfold iEnum
  cases f env with
  | none => rfl
  | some p => obtain ⟨d, e⟩ := p; cases h : seqD d <;> simp [h]
theorem x_range3 {f g h : Fx D} : iRange3 f g h env = (match f env with
  | some (.int i, e) => (match g e with
    | some (.int j, e2) => (match h e2 with
      | some (.int c, e3) => if rg3Ok i j c = true ∧ 0 ≤ Builtin.Range.rangeSize i j c then some (rangeC i c (Builtin.Range.rangeSize i j c).toNat, e3) else none
      | _ => none)
    | _ => none)
  | _ => none) := rfl
theorem x_comp2 {it : Fx (List D)} {g : Gf} {c : Fx Bool} {it1 : Fx (List D)} {g1 : Gf} {c1 : Fx Bool} {f : Fx D} {vs vs1 : List Nat} : eComp2 it g c it1 g1 c1 f vs vs1 env = (match it env with
  | some (ds, e) => (match compL2 g c it1 g1 c1 f vs vs1 ds [] (wipeE e vs) with
    | some (r, e2) => some (.fresh r, e2)
    | none => none)
  | none => none) := by
  unfold eComp2
  cases it env with
  | none => rfl
  | some p => obtain ⟨ds, e⟩ := p; cases h : compL2 g c it1 g1 c1 f vs vs1 ds [] (wipeE e vs) <;> simp [h]
theorem x_compN0 {g : Gf} {c : Fx Bool} {it1 : Fx (List D)} {g1 : Gf} {c1 : Fx Bool} {f : Fx D} {vs vs1 : List Nat} {acc : List D} : compL2 g c it1 g1 c1 f vs vs1 [] acc env = some (acc, env) := rfl
theorem x_compN1 {g : Gf} {c : Fx Bool} {it1 : Fx (List D)} {g1 : Gf} {c1 : Fx Bool} {f : Fx D} {vs vs1 : List Nat} {acc : List D} {d : D} {ds : List D} : compL2 g c it1 g1 c1 f vs vs1 (d :: ds) acc env = (match g d env with
    | some e1 => (match c e1 with
      | some (true, e2) => (match it1 e2 with
        | some (ds1, e3) => (match compL g1 c1 f vs1 ds1 acc (wipeE e3 vs1) with
          | some (acc2, e4) => compL2 g c it1 g1 c1 f vs vs1 ds acc2 (wipeE e4 vs)
          | none => none)
        | none => none)
      | some (false, e2) => compL2 g c it1 g1 c1 f vs vs1 ds acc (wipeE e2 vs)
      | none => none)
    | none => none) := rfl
theorem x_item2 {i : Nat} {f1 f2 : Fx D} : eItem2 i f1 f2 env = (match env[i]? with
  | some s => if isMat s = true then item2M i f1 f2 env else eOp gItem (eItemN i f1) f2 env
  | none => none) := rfl
theorem x_item2M {i : Nat} {f1 f2 : Fx D} : item2M i f1 f2 env = (match f1 env with
  | some (.int k, e1) => (match e1[i]? with
    | some (.mat dss) => (match atI dss k with
      | some ds => (match f2 (e1.set i .no) with
        | some (.int m, e2) => (match atI ds m with
          | some z => some (z, e2.set i (.mat dss))
          | none => none)
        | _ => none)
      | none => none)
    | _ => none)
  | _ => none) := rfl
theorem x_gIx2 {i : Nat} {f1 f2 : Fx D} {d : D} : gIx2 i f1 f2 d env = (match env[i]? with
  | some s => if isMat s = true then (match f1 env with
    | some (.int k, e1) => (match e1[i]? with
      | some (.mat dss) => (match ixN dss.length k with
        | some j => (match dss[j]? with
          | some ds => (match f2 (e1.set i .no) with
            | some (.int m, e2) => (match ixN ds.length m with
              | some l => some (e2.set i (.mat (dss.set j (ds.set l d))))
              | none => none)
            | _ => none)
          | none => none)
        | none => none)
      | _ => none)
    | _ => none) else none
  | none => none) := rfl
theorem x_compM {it : Fx (List D)} {g : Gf} {c : Fx Bool} {f : Fx R} {vs : List Nat} : eCompM it g c f vs env = (match it env with
  | some (ds, e) => (match compLM g c f vs ds [] (wipeE e vs) with
    | some (r, e2) => some (.mat r, e2)
    | none => none)
  | none => none) := by
  unfold eCompM
  cases it env with
  | none => rfl
  | some p => obtain ⟨ds, e⟩ := p; cases h : compLM g c f vs ds [] (wipeE e vs) <;> simp [h]
theorem q_repr {d : D} : gReprD [d] = if reprB d = true then some (.str (PyData.shown d)) else none := rfl
end
theorem x_callB {env : En} {g : Fn} {f : Fx (List AR)} : eCallB g f env = (match f env with
  | some (as, env1) => if slotsOf as = [] then eCall g f env else (match toAvB env1 as with
    | some avs => (match g avs with
      | some (.val d, []) => if scal d = true then some (.val d, env1) else none
      | _ => none)
    | none => none)
  | none => none) := rfl
theorem x_pop {i : Nat} {env : En} {f : Fx D} : ePop i f env = (match env[i]? with
  | some s => if isOwn s = true then (match f env with
    | some (.int k, e) => popAt i k e
    | _ => none) else none
  | none => none) := rfl
theorem x_dStar {env : En} {f : Fx D} {g : Fx (List D)} : dStar f g env = (match f env with
  | some (.tuple ds, e) => (match g e with
    | some (xs, e2) => some (ds ++ xs, e2)
    | none => none)
  | some (.list ds, e) => (match g e with
    | some (xs, e2) => some (ds ++ xs, e2)
    | none => none)
  | _ => none) := by
  unfold dStar
  rcases f env with _ | ⟨d, e⟩
  · rfl
  · cases d <;> first | rfl | (dsimp only; rcases g e with _ | ⟨xs, e2⟩ <;> rfl)
theorem x_seeAt {g : D → D → Option D} {x y : D} {e : En} : seeAt g x y e = (match g x y with
  | some z => if scal z = true then some (z, e) else none
  | none => none) := rfl
theorem x_see {g : D → D → Option D} {i : Nat} {f : Fx D} {env : En} : eSee g i f env = (match env[i]? with
  | some s => if isOwn s = true then (match f env with
      | some (y, e) => (match ownL e[i]? with
        | some ds => seeAt g (.list ds) y e
        | none => none)
      | none => none) else eOp g (eVar i) f env
  | none => none) := rfl
theorem x_seeR {g : D → D → Option D} {i : Nat} {f : Fx D} {env : En} : eSeeR g f i env = (match f env with
  | some (x, e) => (match ownL e[i]? with
    | some ds => seeAt g x (.list ds) e
    | none => eOp g f (eVar i) env)
  | none => none) := rfl
theorem x_rev {f : Fx D} {env : En} : eRev f env = (match f env with
  | some (.list ds, e) => some (.fresh ds.reverse, e)
  | _ => none) := rfl
theorem x_idx {i : Nat} {f : Fx D} {env : En} : eIdx i f env = (match listL env[i]? with
  | some _ => (match f env with
    | some (.int n, e) => (match listL e[i]? with
      | some ds => (match (intsOf ds).bind fun ns => idxI ns n with
        | some j => some (.int (j : Nat), e)
        | none => none)
      | none => none)
    | _ => none)
  | none => none) := rfl
theorem q_ol1 {ds : List D} : ownL (some (.own ds)) = some ds := rfl
theorem q_ol2 {ds : List D} : ownL (some (.par ds)) = some ds := rfl
theorem q_ol3 {d : D} : ownL (some (.val d)) = none := rfl
theorem q_ll1 {ds : List D} : listL (some (.own ds)) = some ds := rfl
theorem q_ll2 {ds : List D} : listL (some (.par ds)) = some ds := rfl
theorem q_ll3 {ds : List D} : listL (some (.val (.list ds))) = some ds := rfl
theorem q_scB {b : Bool} : scal (.bool b) = true := rfl
end Ev
namespace Ev
local macro_rules
  | `(tactic| simp! only [$as,*]) => `(tactic| simp only [↓x_var, ↓x_C, ↓x_op, ↓x_fz, ↓x_rV, ↓x_B, ↓x_chain, ↓x_tru, ↓x_notT, ↓x_andT, ↓x_orT, ↓x_and, ↓x_or, ↓x_not, ↓x_neg, ↓x_if, ↓x_aNil, ↓x_aVal, ↓x_aSlot, ↓x_aTmp, ↓x_aR, ↓x_call, ↓x_callK, ↓x_dNil, ↓x_dCons, ↓x_tup, ↓x_lst, ↓x_itemN, ↓x_ownItem, ↓x_lenN, ↓x_blt, ↓x_isi, ↓x_list, ↓x_rgL1, ↓x_rgL2, ↓x_iSeq, ↓x_iZip, ↓x_range1, ↓x_range2, ↓x_addR, ↓x_slice, ↓x_partN, ↓x_partS, ↓x_comp, ↓x_skip, ↓x_stuck, ↓x_break, ↓x_cont, ↓x_seq, ↓x_sIf, ↓x_sExpr, ↓x_ret, ↓x_retN, ↓x_move, ↓x_setRv, ↓x_setRf, ↓x_setRm, ↓x_set, ↓x_gN, ↓x_gsNil, ↓x_gsCons, ↓x_gTup, ↓x_gIx, ↓x_setAt, ↓x_asg, ↓x_par, ↓x_sm0, ↓x_smV, ↓x_smF, ↓x_app, ↓x_for, ↓x_for0, ↓x_for1, ↓x_comp0, ↓x_comp1, ↓x_fn, ↓x_iEnum, ↓x_range3, ↓x_comp2, ↓x_compN0, ↓x_compN1, ↓x_item2, ↓x_item2M, ↓x_gIx2, ↓x_compM, ↓x_callB, ↓x_pop, ↓x_dStar, ↓x_seeAt, ↓x_see, ↓x_seeR, ↓x_rev, ↓x_idx, q_addI, q_addT, q_addL, q_subI, q_ltI, q_leI, q_gtI, q_geI, q_isN, q_isNotN, q_eqI, q_neI, q_eqB, q_eqT0, q_eqT1, q_neT0, q_neT1, q_eqL0, q_eqL1, q_neL0, q_neL1, q_int, q_abs, q_min2, q_max2, q_at0, q_at1, q_at2, q_at3, q_ix0, q_ix1, q_ix2, q_sz, q_iteS, q_iteT, q_iteR, q_iteV, q_iteBB, q_iteII, q_iteAnd, q_iteOr, q_iteNot, q_iteCon, q_pa0, q_pa1, q_pa2, q_pa3, q_pa4, q_ow4, q_ma0, q_ma1, q_ma2, q_ma3, q_ma4, q_ow0, q_ow1, q_ow2, q_ow3, q_c0, q_c1, q_c2, q_c3, q_c4, q_c5, q_c6, q_c7, q_c8, q_c9, q_c10, q_c11, q_c12, q_all0, q_all1, q_all2, q_all3, q_inN2, q_inN0, q_02a, q_02b, q_repr, q_ol1, q_ol2, q_ol3, q_ll1, q_ll2, q_ll3, q_scB, List.getElem?_cons_zero, List.getElem?_cons_succ, List.set_cons_zero, List.set_cons_succ, wipeE, initE, outsOf, toAv, toAvB, scal, slotsOf, putOuts, natNodup, List.map_cons, List.map_nil, List.cons_append, List.nil_append, List.append_nil, List.replicate, List.length_cons, List.length_nil, isNone, isiD, seqD, gItem, truD, zipOf, zipD, pick, List.contains_nil, List.contains_cons, eq_self, List.cons_ne_nil, if_true, if_false, Bool.false_eq_true, Bool.true_eq_false, Bool.not_true, Bool.not_false, reduceIte, decide_true, decide_false, Nat.reduceAdd, Nat.reduceSub, Nat.zero_add, Nat.add_zero, and_self, true_and, and_true, Bool.and_true, Bool.true_and, Bool.or_false, Bool.false_or, Bool.or_true, Bool.true_or, Bool.and_false, Bool.false_and, Bool.or_self, Bool.and_self, Nat.sub_self, Option.map_some, Option.map_none, Nat.reduceBEq, Bool.not_eq_true, beq_self_eq_true, Nat.reduceLeDiff, Nat.reduceLT, Nat.reduceEqDiff, List.filterMap_cons, List.filterMap_nil, $as,*])
open PySem PySem.Spec PyProof.Rows L2
/-! ## loops -/
theorem compL_map {g : Gf} {c : Fx Bool} {f : Fx D} {vs : List Nat} {env : En} {p : D → Bool} {h : D → D} : ∀ (ds acc : List D), acc.length + ds.length ≤ sizeLine →
    (∀ d ∈ ds, ∃ e1 e2, g d env = some e1 ∧ c e1 = some (p d, e2) ∧ (p d = true → ∃ e3, f e2 = some (h d, e3) ∧ wipeE e3 vs = env) ∧ (p d = false → wipeE e2 vs = env)) →
    compL g c f vs ds acc env = some (acc ++ (ds.filter p).map h, env)
  | [], acc, _, _ => by simp only [x_comp0, List.filter_nil, List.map_nil, List.append_nil]
  | d :: ds, acc, hl, H => by
    obtain ⟨e1, e2, h1, h2, h3, h4⟩ := H d (List.mem_cons_self ..)
    have hl' : acc.length < sizeLine := by rw [List.length_cons] at hl; omega
    have ih := fun acc' (q : acc'.length + ds.length ≤ sizeLine) => compL_map (g := g) (c := c) (f := f) (vs := vs) (env := env) (p := p) (h := h) ds acc' q fun x hx => H x (List.mem_cons_of_mem _ hx)
    rw [x_comp1, h1]
    dsimp only
    rw [h2]
    dsimp only
    cases q : p d with
    | true =>
      obtain ⟨e3, h5, h6⟩ := h3 q
      rw [if_pos rfl, h5]
      dsimp only
      rw [if_pos hl', h6, ih _ (by rw [List.length_cons] at hl; rw [List.length_append, List.length_singleton]; omega), List.filter_cons_of_pos q, List.map_cons, List.append_assoc]
      rfl
    | false =>
      rw [if_neg (by decide), h4 q, ih _ (by rw [List.length_cons] at hl; omega), List.filter_cons_of_neg (by rw [q]; decide)]
theorem compL_all {g : Gf} {c : Fx Bool} {f : Fx D} {vs : List Nat} {env : En} {h : D → D} (ds acc : List D) (hl : acc.length + ds.length ≤ sizeLine)
    (H : ∀ d ∈ ds, ∃ e1 e2 e3, g d env = some e1 ∧ c e1 = some (true, e2) ∧ f e2 = some (h d, e3) ∧ wipeE e3 vs = env) : compL g c f vs ds acc env = some (acc ++ ds.map h, env) := by
  have := compL_map (p := fun _ => true) (h := h) ds acc hl fun d hd => by
    obtain ⟨e1, e2, e3, h1, h2, h3, h4⟩ := H d hd
    exact ⟨e1, e2, h1, h2, fun _ => ⟨e3, h3, h4⟩, fun z => by cases z⟩
  rw [List.filter_eq_self.mpr fun _ _ => rfl] at this
  exact this
theorem boolsOf_true : ∀ {ds : List D}, (∀ d ∈ ds, d = .bool true) → (boolsOf ds).map (fun bs => bs.all id) = some true
  | [], _ => rfl
  | d :: ds, h => by
    have e := h d (List.mem_cons_self ..)
    subst e
    have ih := boolsOf_true (ds := ds) fun x hx => h x (List.mem_cons_of_mem _ hx)
    cases q : boolsOf ds with
    | none => rw [q] at ih; cases ih
    | some bs =>
      rw [q] at ih
      show (boolsOf (.bool true :: ds)).map _ = _
      rw [show boolsOf (.bool true :: ds) = some (true :: bs) by simp [boolsOf, q]]
      exact ih
theorem gAll_true {ds : List D} (h : ∀ d ∈ ds, d = .bool true) : gAll [.list ds] = some (.bool true) := by
  have := boolsOf_true h
  show (boolsOf ds).map (fun bs => PyData.bool (bs.all id)) = _
  cases q : boolsOf ds with
  | none => rw [q] at this; cases this
  | some bs =>
    rw [q] at this
    have e : bs.all id = true := Option.some.inj this
    show some (PyData.bool (bs.all id)) = _
    rw [e]
theorem forL_inv {g : Gf} {b : Fx Fl} {I : En → Prop} : ∀ (ds : List D) (env : En), I env → (∀ d ∈ ds, ∀ e, I e → ∃ e1 e2, g d e = some e1 ∧ b e1 = some (.nx, e2) ∧ I e2) → ∃ e, forL g b ds env = some (.nx, e) ∧ I e
  | [], env, h, _ => ⟨env, rfl, h⟩
  | d :: ds, env, h, H => by
    obtain ⟨e1, e2, h1, h2, h3⟩ := H d (List.mem_cons_self ..) env h
    obtain ⟨e, h4, h5⟩ := forL_inv ds e2 h3 fun x hx => H x (List.mem_cons_of_mem _ hx)
    refine ⟨e, ?_, h5⟩
    rw [x_for1, h1]
    dsimp only
    rw [h2]
    exact h4
/-! ## the source of numbers -/
def Src (b : Nat) (ds : List D) : Prop := ∃ a m c : Int, ds = [.int a, .int m, .int c] ∧ 0 ≤ a ∧ 0 ≤ m ∧ m < 2147483629 ∧ 0 ≤ c ∧ c + b ≤ 1000000000
theorem Src.mono {b b' : Nat} {ds : List D} (h : Src b ds) (hb : b' ≤ b) : Src b' ds := by
  obtain ⟨a, m, c, e, h1, h2, h3, h4, h5⟩ := h
  exact ⟨a, m, c, e, h1, h2, h3, h4, by omega⟩
def takeC : Fx Fl := (sSeq (sIf (eB (eOp gGt (eItemN 0 (eC (.int 0))) (eC (.int 0)))) (sSeq (sAsg (eBlt gDivmod (dCons (eItemN 0 (eC (.int 0))) (dCons (eVar 1) dNil))) (gTup 2 (gsCons (gIx 0 (eC (.int 0))) (gsCons (gN 3) gsNil)))) (sRet (eMove 3))) sSkip) (sSeq (sAsg (eOp gAdd (eItemN 0 (eC (.int 2))) (eC (.int 1))) (gIx 0 (eC (.int 2)))) (sSeq (sSet 2 (rV (eOp gMod (eBlt gInt (dCons (eOp gAdd (eItemN 0 (eC (.int 1))) (eOp gMul (eC (.int 40093)) (eItemN 0 (eC (.int 2))))) dNil)) (eC (.int 2147483629))))) (sSeq (sAsg (eOp gMod (eBlt gInt (dCons (eOp gAdd (eOp gMul (eVar 2) (eOp gAdd (eOp gMod (eBlt gInt (dCons (eVar 2) dNil)) (eC (.int 4001))) (eC (.int 30029)))) (eOp gMul (eC (.int 17)) (eItemN 0 (eC (.int 2))))) dNil)) (eC (.int 2147483629))) (gIx 0 (eC (.int 1)))) (sRet (rV (eOp gMod (eBlt gInt (dCons (eOp gFdiv (eItemN 0 (eC (.int 1))) (eC (.int 523))) dNil)) (eVar 1))))))))
def Tk (g : Fn) : Prop := ∀ (b : Nat) (ds : List D) (k : Int), Src (b + 1) ds → 0 < k → k < 1073741824 → ∃ (v : Int) (ds' : List D), g [.own ds, .val (.int k)] = some (.val (.int v), [ds']) ∧ 0 ≤ v ∧ v < k ∧ Src b ds'
theorem take_ok : Tk (callFn 4 takeC) := by
  rintro b ds k ⟨a, m, c, rfl, ha, hm, hm2, hc, hcb⟩ hk hk2
  by_cases h0 : 0 < a
  · refine ⟨a % k, [.int (a / k), .int m, .int c], ?_, Int.emod_nonneg _ (by omega), Int.emod_lt_of_pos _ hk, a / k, m, c, rfl, Int.ediv_nonneg ha (by omega), hm, hm2, hc, by omega⟩
    simp! only [takeC, h0, decide_true, q_divmod hk hk2]
  · have e0 : a = 0 := by omega
    subst e0
    have b1 := Int.emod_nonneg (m + 40093 * (c + 1)) (b := 2147483629) (by omega)
    have b2 := Int.emod_lt_of_pos (m + 40093 * (c + 1)) (b := 2147483629) (by omega)
    have m1 : mulOk 40093 (c + 1) = true := mulOk_lt (a := 16) (b := 30) (by decide) (by omega) (by decide)
    have m2 : mulOk 17 (c + 1) = true := mulOk_lt (a := 5) (b := 30) (by decide) (by omega) (by decide)
    generalize hx : (m + 40093 * (c + 1)) % 2147483629 = x at b1 b2
    have b3 := Int.emod_nonneg x (b := 4001) (by omega)
    have b4 := Int.emod_lt_of_pos x (b := 4001) (by omega)
    have m3 : mulOk x (x % 4001 + 30029) = true := mulOk_lt (a := 32) (b := 32) (by omega) (by omega) (by decide)
    have b5 := Int.emod_nonneg (x * (x % 4001 + 30029) + 17 * (c + 1)) (b := 2147483629) (by omega)
    have b6 := Int.emod_lt_of_pos (x * (x % 4001 + 30029) + 17 * (c + 1)) (b := 2147483629) (by omega)
    refine ⟨((x * (x % 4001 + 30029) + 17 * (c + 1)) % 2147483629 / 523) % k, [.int 0, .int ((x * (x % 4001 + 30029) + 17 * (c + 1)) % 2147483629), .int (c + 1)], ?_, Int.emod_nonneg _ (by omega), Int.emod_lt_of_pos _ hk, 0, _, c + 1, rfl, by omega, b5, b6, by omega, by omega⟩
    simp! only [takeC, decide_false, q_mulI m1, q_mulI m2, q_mulI m3, hx, q_modI (y := 2147483629) (by decide), q_modI (y := 4001) (by decide), q_fdivI (y := 523) (by decide) (by decide), q_modI hk, Int.lt_irrefl]
def greatC (t : Fn) : Fx Fl := (sSeq (sSet 1 (rV (eC (.int 0)))) (sSeq (sFor (iRange1 (eC (.int 5))) (gN 2) (sSet 1 (rV (eOp gAdd (eOp gMul (eVar 1) (eC (.int 1000003))) (eFz (eCall t (aSlot 0 (aVal (eC (.int 1000003)) aNil)))))))) (sRet (eMove 1))))
def Nm (k : Nat) (z : Int) (g : Fn) : Prop := ∀ (b : Nat) (ds : List D), Src (b + k) ds → ∃ (v : Int) (ds' : List D), g [.own ds] = some (.val (.int v), [ds']) ∧ -z ≤ v ∧ v ≤ z ∧ Src b ds'
theorem range5 : rangeD 0 (5 - 0 : Int).toNat = [.int 0, .int 1, .int 2, .int 3, .int 4] := by rfl
def Gp (g : Fn) : Prop := ∀ (b : Nat) (ds : List D), Src (b + 5) ds → ∃ (v : Int) (ds' : List D), g [.own ds] = some (.val (.int v), [ds']) ∧ 0 ≤ v ∧ v ≤ 2 ^ 110 ∧ Src b ds'
theorem great_pos {t : Fn} (T : Tk t) : Gp (callFn 3 (greatC t)) := by
  intro b ds h
  obtain ⟨v1, d1, e1, p1, q1, s1⟩ := T _ ds 1000003 (h.mono (by omega : (b + 4) + 1 ≤ b + 5)) (by decide) (by decide)
  obtain ⟨v2, d2, e2, p2, q2, s2⟩ := T _ d1 1000003 (s1.mono (by omega : (b + 3) + 1 ≤ b + 4)) (by decide) (by decide)
  obtain ⟨v3, d3, e3, p3, q3, s3⟩ := T _ d2 1000003 (s2.mono (by omega : (b + 2) + 1 ≤ b + 3)) (by decide) (by decide)
  obtain ⟨v4, d4, e4, p4, q4, s4⟩ := T _ d3 1000003 (s3.mono (by omega : (b + 1) + 1 ≤ b + 2)) (by decide) (by decide)
  obtain ⟨v5, d5, e5, p5, q5, s5⟩ := T _ d4 1000003 (s4.mono (by omega : b + 1 ≤ b + 1)) (by decide) (by decide)
  have m1 : mulOk 0 1000003 = true := by decide +kernel
  have m2 : mulOk (0 * 1000003 + v1) 1000003 = true := mulOk_lt (a := 120) (b := 20) (by omega) (by decide) (by decide)
  have m3 : mulOk ((0 * 1000003 + v1) * 1000003 + v2) 1000003 = true := mulOk_lt (a := 120) (b := 20) (by omega) (by decide) (by decide)
  have m4 : mulOk (((0 * 1000003 + v1) * 1000003 + v2) * 1000003 + v3) 1000003 = true := mulOk_lt (a := 120) (b := 20) (by omega) (by decide) (by decide)
  have m5 : mulOk ((((0 * 1000003 + v1) * 1000003 + v2) * 1000003 + v3) * 1000003 + v4) 1000003 = true := mulOk_lt (a := 120) (b := 20) (by omega) (by decide) (by decide)
  refine ⟨((((0 * 1000003 + v1) * 1000003 + v2) * 1000003 + v3) * 1000003 + v4) * 1000003 + v5, d5, ?_, by omega, by omega, s5⟩
  simp! only [greatC, range5, e1, e2, e3, e4, e5, q_mulI m1, q_mulI m2, q_mulI m3, q_mulI m4, q_mulI m5]
def numberC (t gr : Fn) : Fx Fl := (sSeq (sSet 1 (eCall t (aSlot 0 (aVal (eC (.int 16)) aNil)))) (sSeq (sIf (eB (eOp gLt (eVar 1) (eC (.int 8)))) (sRet (rV (eOp gSub (eFz (eCall t (aSlot 0 (aVal (eC (.int 13)) aNil)))) (eC (.int 6))))) sSkip) (sSeq (sIf (eB (eOp gLt (eVar 1) (eC (.int 13)))) (sRet (rV (eOp gSub (eFz (eCall t (aSlot 0 (aVal (eC (.int 121)) aNil)))) (eC (.int 60))))) sSkip) (sSeq (sIf (eB (eOp gLt (eVar 1) (eC (.int 15)))) (sRet (rV (eOp gSub (eFz (eCall t (aSlot 0 (aVal (eC (.int 200003)) aNil)))) (eC (.int 100001))))) sSkip) (sSeq (sSet 2 (eCall gr (aSlot 0 aNil))) (sRet (eIf (eB (eOp gEq (eFz (eCall t (aSlot 0 (aVal (eC (.int 2)) aNil)))) (eC (.int 0)))) (eMove 2) (rV (eOp gSub (eC (.int 0)) (eVar 2))))))))))
theorem number_ok {t gr : Fn} (T : Tk t) (G : Nm 5 (2 ^ 110) gr) : Nm 7 (2 ^ 110) (callFn 3 (numberC t gr)) := by
  intro b ds h
  obtain ⟨v1, d1, e1, p1, q1, s1⟩ := T _ ds 16 (h.mono (by omega : (b + 6) + 1 ≤ b + 7)) (by decide) (by decide)
  by_cases c1 : v1 < 8
  · obtain ⟨v2, d2, e2, p2, q2, s2⟩ := T _ d1 13 (s1.mono (by omega : (b + 5) + 1 ≤ b + 6)) (by decide) (by decide)
    refine ⟨v2 - 6, d2, ?_, by omega, by omega, s2.mono (by omega)⟩
    simp! only [numberC, e1, e2, c1, decide_true]
  by_cases c2 : v1 < 13
  · obtain ⟨v2, d2, e2, p2, q2, s2⟩ := T _ d1 121 (s1.mono (by omega : (b + 5) + 1 ≤ b + 6)) (by decide) (by decide)
    refine ⟨v2 - 60, d2, ?_, by omega, by omega, s2.mono (by omega)⟩
    simp! only [numberC, e1, e2, c1, c2, decide_true, decide_false]
  by_cases c3 : v1 < 15
  · obtain ⟨v2, d2, e2, p2, q2, s2⟩ := T _ d1 200003 (s1.mono (by omega : (b + 5) + 1 ≤ b + 6)) (by decide) (by decide)
    refine ⟨v2 - 100001, d2, ?_, by omega, by omega, s2.mono (by omega)⟩
    simp! only [numberC, e1, e2, c1, c2, c3, decide_true, decide_false]
  obtain ⟨v2, d2, e2, p2, q2, s2⟩ := G (b + 1) d1 (s1.mono (by omega))
  obtain ⟨v3, d3, e3, p3, q3, s3⟩ := T b d2 2 s2 (by decide) (by decide)
  by_cases c4 : v3 = 0
  · refine ⟨v2, d3, ?_, p2, q2, s3⟩
    simp! only [numberC, e1, e2, e3, c1, c2, c3, c4, decide_true, decide_false]
  · refine ⟨0 - v2, d3, ?_, by omega, by omega, s3⟩
    simp! only [numberC, e1, e2, e3, c1, c2, c3, c4, decide_true, decide_false]
def sourceC (p q : Int) : Fx Fl := (sSeq (sSet 2 (rV (eOp gAdd (eC (.int p)) (eOp gMul (eC (.int q)) (eVar 1))))) (sSeq (sFor (iSeq (eFz (eSlice (eVar 0) (ePart none) (ePart (some (eC (.int 10))))))) (gN 3) (sSet 2 (rV (eOp gMod (eBlt gInt (dCons (eOp gAdd (eOp gAdd (eOp gMul (eVar 2) (eC (.int 30011))) (eOp gMod (eBlt gInt (dCons (eVar 3) dNil)) (eC (.int 1000000007)))) (eC (.int 3))) dNil)) (eC (.int 2147483629)))))) (sSeq (sSet 4 (eIf (eB (eOp gLt (eVar 1) (eLenN 0))) (rV (eBlt gInt (dCons (eItemN 0 (eVar 1)) dNil))) (rV (eC (.int 0))))) (sSeq (sSet 2 (rV (eOp gMod (eBlt gInt (dCons (eOp gAdd (eOp gAdd (eOp gMul (eVar 2) (eC (.int 59))) (eOp gMul (eOp gMod (eBlt gInt (dCons (eVar 4) dNil)) (eC (.int 1000000007))) (eC (.int 15013)))) (eC (.int 11))) dNil)) (eC (.int 2147483629))))) (sRet (eLst (dCons (eIf (eOrT (eB (eOp gLt (eVar 4) (eC (.int 0)))) (eB (eOp gGe (eVar 4) (eOp gPow (eC (.int 10)) (eC (.int 15)))))) (eBlt gAbs (dCons (eVar 4) dNil)) (eC (.int 0))) (dCons (eVar 2) (dCons (eC (.int 0)) dNil)))))))))
theorem cut_ints {ns : List Int} {a b : Option Int} : ∃ ms : List Int, cutD (ns.map PyData.int) a b = ms.map PyData.int := by
  unfold cutD
  refine ⟨(ns.drop (HT.sIx (ns.map PyData.int).length 0 a)).take (HT.sIx (ns.map PyData.int).length (ns.map PyData.int).length b - HT.sIx (ns.map PyData.int).length 0 a), ?_⟩
  rw [List.map_take, List.map_drop]
theorem q_pow15 : gPow (.int 10) (.int 15) = some (.int 1000000000000000) := by kernel_rfl
theorem source_ok {p q : Int} (hp : 0 ≤ p ∧ p < 2 ^ 40) (hq : 0 ≤ q ∧ q < 2 ^ 40) (ns : List Int) (t : Int) (ht : 0 ≤ t) (ht2 : t < 64) : ∃ ds', callFn 5 (sourceC p q) [.val (.list (ns.map PyData.int)), .val (.int t)] = some (.fresh ds', []) ∧ Src 100000000 ds' := by
  obtain ⟨ms, hms⟩ := cut_ints (ns := ns) (a := none) (b := some 10)
  have m1 : mulOk q t = true := mulOk_lt (a := 40) (b := 7) (by omega) (by omega) (by decide)
  have hqt : 0 ≤ q * t := Int.mul_nonneg hq.1 ht
  have hqt2 : q * t ≤ 2 ^ 40 * 64 := Int.le_trans (Int.mul_le_mul_of_nonneg_right (Int.le_of_lt hq.2) ht) (Int.mul_le_mul_of_nonneg_left (by omega) (by decide))
  obtain ⟨e, he, m, oth, rfl, hm, hm2⟩ := forL_inv (g := gN 3) (b := (sSet 2 (rV (eOp gMod (eBlt gInt (dCons (eOp gAdd (eOp gAdd (eOp gMul (eVar 2) (eC (.int 30011))) (eOp gMod (eBlt gInt (dCons (eVar 3) dNil)) (eC (.int 1000000007)))) (eC (.int 3))) dNil)) (eC (.int 2147483629))))))
    (I := fun e => ∃ (m : Int) (o : Sl), e = [.val (.list (ns.map PyData.int)), .val (.int t), .val (.int m), o, .no] ∧ (o = .no ∨ ∃ d, o = .val d) ∧ 0 ≤ m ∧ m < 2 ^ 60) (ms.map PyData.int) [.val (.list (ns.map PyData.int)), .val (.int t), .val (.int (p + q * t)), .no, .no]
    ⟨_, .no, rfl, .inl rfl, by omega, by omega⟩ (by
      rintro d hd e ⟨m, o, rfl, ho, hm, hm2⟩
      obtain ⟨i, _, rfl⟩ := List.mem_map.mp hd
      have m2 : mulOk m 30011 = true := mulOk_lt (a := 60) (b := 15) (by omega) (by decide) (by decide)
      refine ⟨[.val (.list (ns.map PyData.int)), .val (.int t), .val (.int m), .val (.int i), .no], _, ?_, ?_, ⟨(m * 30011 + i % 1000000007 + 3) % 2147483629, .val (.int i), rfl, .inr ⟨_, rfl⟩, Int.emod_nonneg _ (by omega), ?_⟩⟩
      · rcases ho with rfl | ⟨d, rfl⟩ <;> simp! only [x_C]
      · simp! only [q_mulI m2, q_modI (y := 2147483629) (by decide), q_modI (y := 1000000007) (by decide)]
      · have := Int.emod_lt_of_pos (m * 30011 + i % 1000000007 + 3) (b := 2147483629) (by omega)
        omega)
  obtain ⟨own, hown⟩ : ∃ own : Int, (t < (ns.map PyData.int).length ∧ atI (ns.map PyData.int) t = some (.int own)) ∨ (¬ t < (ns.map PyData.int).length ∧ own = 0) := by
    by_cases c : t < (ns.map PyData.int).length
    · have hi : t.toNat < ns.length := by rw [List.length_map] at c; omega
      refine ⟨ns[t.toNat], .inl ⟨c, ?_⟩⟩
      unfold atI
      rw [q_ixN ht c]
      show (ns.map PyData.int)[t.toNat]? = _
      rw [List.getElem?_map, List.getElem?_eq_getElem hi]
      rfl
    · exact ⟨0, .inr ⟨c, rfl⟩⟩
  have m3 : mulOk m 59 = true := mulOk_lt (a := 60) (b := 6) (by omega) (by decide) (by decide)
  have b1 := Int.emod_nonneg own (b := 1000000007) (by omega)
  have b2 := Int.emod_lt_of_pos own (b := 1000000007) (by omega)
  have m4 : mulOk (own % 1000000007) 15013 = true := mulOk_lt (a := 30) (b := 14) (by omega) (by decide) (by decide)
  have b3 := Int.emod_nonneg (m * 59 + own % 1000000007 * 15013 + 11) (b := 2147483629) (by omega)
  have b4 := Int.emod_lt_of_pos (m * 59 + own % 1000000007 * 15013 + 11) (b := 2147483629) (by omega)
  have fin : ∀ a : Int, 0 ≤ a → Src 100000000 [.int a, .int ((m * 59 + own % 1000000007 * 15013 + 11) % 2147483629), .int 0] := fun a ha => ⟨a, _, 0, rfl, ha, b3, b4, by omega, by omega⟩
  by_cases c1 : own < 0
  · refine ⟨_, ?_, fin (-own) (by omega)⟩
    rcases hown with ⟨c, ea⟩ | ⟨c, rfl⟩
    · simp! only [sourceC, hms, q_mulI m1, he, q_mulI m3, q_mulI m4, q_modI (y := 2147483629) (by decide), q_modI (y := 1000000007) (by decide), q_pow15, c1, c, ea]
    · simp! only [sourceC, hms, q_mulI m1, he, q_mulI m3, q_mulI m4, q_modI (y := 2147483629) (by decide), q_modI (y := 1000000007) (by decide), q_pow15, c1, c]
  by_cases c2 : 1000000000000000 ≤ own
  · refine ⟨_, ?_, fin own (by omega)⟩
    rcases hown with ⟨c, ea⟩ | ⟨c, rfl⟩
    · simp! only [sourceC, hms, q_mulI m1, he, q_mulI m3, q_mulI m4, q_modI (y := 2147483629) (by decide), q_modI (y := 1000000007) (by decide), q_pow15, c1, c2, c, ea]
    · simp! only [sourceC, hms, q_mulI m1, he, q_mulI m3, q_mulI m4, q_modI (y := 2147483629) (by decide), q_modI (y := 1000000007) (by decide), q_pow15, c1, c2, c]
  · refine ⟨_, ?_, fin 0 (by omega)⟩
    rcases hown with ⟨c, ea⟩ | ⟨c, rfl⟩
    · simp! only [sourceC, hms, q_mulI m1, he, q_mulI m3, q_mulI m4, q_modI (y := 2147483629) (by decide), q_modI (y := 1000000007) (by decide), q_pow15, c1, c2, c, ea]
    · simp! only [sourceC, hms, q_mulI m1, he, q_mulI m3, q_mulI m4, q_modI (y := 2147483629) (by decide), q_modI (y := 1000000007) (by decide), q_pow15, c1, c2, c]
end Ev
namespace Ev
open PySem PySem.Spec PyProof.Rows L2
abbrev wfl : Nat := 30000
def k_is_whole_b : Fx Fl := (sRet (rV (eAnd (eIsi "int" (eVar 0)) (eNot (eIsi "bool" (eVar 0))))))
def k_is_whole : Fn := callFn 1 (k_is_whole_b)
def k_check_whole_b (f_is_whole : Fn) : Fx Fl := (sIf (eNotT (eTru (eFz (eCall f_is_whole (aVal (eVar 0) aNil))))) sStuck sSkip)
def k_check_whole (f_is_whole : Fn) : Fn := callFn 1 (k_check_whole_b f_is_whole)
def k__law_take_b : Fx Fl := (sSeq (sIf (eB (eOp gGt (eItemN 0 (eC (.int 0))) (eC (.int 0)))) (sSeq (sAsg (eBlt gDivmod (dCons (eItemN 0 (eC (.int 0))) (dCons (eVar 1) dNil))) (gTup 2 (gsCons (gIx 0 (eC (.int 0))) (gsCons (gN 3) gsNil)))) (sRet (eMove 3))) sSkip) (sSeq (sAsg (eOp gAdd (eItemN 0 (eC (.int 2))) (eC (.int 1))) (gIx 0 (eC (.int 2)))) (sSeq (sSet 2 (rV (eOp gMod (eBlt gInt (dCons (eOp gAdd (eItemN 0 (eC (.int 1))) (eOp gMul (eC (.int 40093)) (eItemN 0 (eC (.int 2))))) dNil)) (eC (.int 2147483629))))) (sSeq (sAsg (eOp gMod (eBlt gInt (dCons (eOp gAdd (eOp gMul (eVar 2) (eOp gAdd (eOp gMod (eBlt gInt (dCons (eVar 2) dNil)) (eC (.int 4001))) (eC (.int 30029)))) (eOp gMul (eC (.int 17)) (eItemN 0 (eC (.int 2))))) dNil)) (eC (.int 2147483629))) (gIx 0 (eC (.int 1)))) (sRet (rV (eOp gMod (eBlt gInt (dCons (eOp gFdiv (eItemN 0 (eC (.int 1))) (eC (.int 523))) dNil)) (eVar 1))))))))
def k__law_take : Fn := callFn 4 (k__law_take_b)
def k__law_pick_b (f__law_take : Fn) : Fx Fl := (sRet (rV (eItemN 1 (eFz (eCall f__law_take (aSlot 0 (aVal (eLenN 1) aNil)))))))
def k__law_pick (f__law_take : Fn) : Fn := callFn 2 (k__law_pick_b f__law_take)
def k__law_great_l1 (f__law_take : Fn) : Fx Fl := (sSet 1 (rV (eOp gAdd (eOp gMul (eVar 1) (eC (.int 1000003))) (eFz (eCall f__law_take (aSlot 0 (aVal (eC (.int 1000003)) aNil)))))))
def k__law_great_b (f__law_take : Fn) : Fx Fl := (sSeq (sSet 1 (rV (eC (.int 0)))) (sSeq (sFor (iRange1 (eC (.int 5))) (gN 2) (k__law_great_l1 f__law_take)) (sRet (eMove 1))))
def k__law_great (f__law_take : Fn) : Fn := callFn 3 (k__law_great_b f__law_take)
def k__law_number_b (f__law_take f__law_great : Fn) : Fx Fl := (sSeq (sSet 1 (eCall f__law_take (aSlot 0 (aVal (eC (.int 16)) aNil)))) (sSeq (sIf (eB (eOp gLt (eVar 1) (eC (.int 8)))) (sRet (rV (eOp gSub (eFz (eCall f__law_take (aSlot 0 (aVal (eC (.int 13)) aNil)))) (eC (.int 6))))) sSkip) (sSeq (sIf (eB (eOp gLt (eVar 1) (eC (.int 13)))) (sRet (rV (eOp gSub (eFz (eCall f__law_take (aSlot 0 (aVal (eC (.int 121)) aNil)))) (eC (.int 60))))) sSkip) (sSeq (sIf (eB (eOp gLt (eVar 1) (eC (.int 15)))) (sRet (rV (eOp gSub (eFz (eCall f__law_take (aSlot 0 (aVal (eC (.int 200003)) aNil)))) (eC (.int 100001))))) sSkip) (sSeq (sSet 2 (eCall f__law_great (aSlot 0 aNil))) (sRet (eIf (eB (eOp gEq (eFz (eCall f__law_take (aSlot 0 (aVal (eC (.int 2)) aNil)))) (eC (.int 0)))) (eMove 2) (rV (eOp gSub (eC (.int 0)) (eVar 2))))))))))
def k__law_number (f__law_take f__law_great : Fn) : Fn := callFn 3 (k__law_number_b f__law_take f__law_great)
def k__law_is_whole_b : Fx Fl := (sRet (rV (eAnd (eIsi "int" (eVar 0)) (eNot (eIsi "bool" (eVar 0))))))
def k__law_is_whole : Fn := callFn 1 (k__law_is_whole_b)
def k__law_same_b (f__law_is_whole f__law_same : Fn) : Fx Fl := (sSeq (sIf (eTru (eIsi "tuple" (eVar 1))) (sSeq (sIf (eOrT (eNotT (eTru (eIsi "tuple" (eVar 0)))) (eB (eOp gNe (eLenN 0) (eLenN 1)))) (sRet (rV (eC (.bool false)))) sSkip) (sRet (rV (eBlt gAll (dCons (eFz (eComp (iZip (dCons (eVar 0) (dCons (eVar 1) dNil))) (gTup 2 (gsCons (gN 2) (gsCons (gN 3) gsNil))) (fun env => some (true, env)) (eFz (eCall f__law_same (aVal (eVar 2) (aVal (eVar 3) aNil)))) [2, 3])) dNil))))) sSkip) (sSeq (sIf (eOrT (eB (eOp gIs (eVar 1) (eC .none))) (eB (eOp gIs (eVar 0) (eC .none)))) (sRet (rV (eAnd (eOp gIs (eVar 1) (eC .none)) (eOp gIs (eVar 0) (eC .none))))) sSkip) (sSeq (sIf (eOrT (eTru (eIsi "bool" (eVar 1))) (eTru (eIsi "bool" (eVar 0)))) (sRet (rV (eAnd (eIsi "bool" (eVar 1)) (eAnd (eIsi "bool" (eVar 0)) (eOp gEq (eVar 0) (eVar 1)))))) sSkip) (sRet (rV (eAnd (eFz (eCall f__law_is_whole (aVal (eVar 0) aNil))) (eOp gEq (eVar 0) (eVar 1))))))))
def k__law_same (f__law_is_whole f__law_same : Fn) : Fn := callFn 4 (k__law_same_b f__law_is_whole f__law_same)
def k_are_wholes_e1 (f_is_whole : Fn) : Fx D := (eFz (eCall f_is_whole (aVal (eVar 2) aNil)))
def k_are_wholes_b (f_is_whole : Fn) : Fx Fl := (sRet (rV (eAnd (eIsi "tuple" (eVar 0)) (eAnd (eOp gEq (eLenN 0) (eVar 1)) (eBlt gAll (dCons (eFz (eComp (iSeq (eVar 0)) (gN 2) (fun env => some (true, env)) (k_are_wholes_e1 f_is_whole) [2])) dNil))))))
def k_are_wholes (f_is_whole : Fn) : Fn := callFn 3 (k_are_wholes_b f_is_whole)
def k_is_rested_b (f_are_wholes : Fn) : Fx Fl := (sSeq (sIf (eAndT (eTru (eIsi "tuple" (eVar 0))) (eB (eOp gEq (eVar 0) (eC (.tuple []))))) (sRet (rV (eC (.bool true)))) sSkip) (sSeq (sIf (eOrT (eNotT (eTru (eFz (eCall f_are_wholes (aVal (eVar 0) (aVal (eC (.int 2)) aNil)))))) (eB (eOp gLt (eItemN 0 (eC (.int 1))) (eC (.int 0))))) (sRet (rV (eC (.bool false)))) sSkip) (sRet (rV (eOr (eOp gEq (eItemN 0 (eC (.int 1))) (eC (.int 0))) (eAnd (eOp gEq (eOp gMod (eC (.int 20160)) (eItemN 0 (eC (.int 1)))) (eC (.int 0))) (eChain gLe gLt (eC (.int 0)) (eItemN 0 (eC (.int 0))) (eItemN 0 (eC (.int 1))))))))))
def k_is_rested (f_are_wholes : Fn) : Fn := callFn 1 (k_is_rested_b f_are_wholes)
def k_is_multiple_b : Fx Fl := (sRet (eIf (eB (eOp gEq (eVar 1) (eC (.int 0)))) (rV (eOp gEq (eVar 0) (eC (.int 0)))) (rV (eOp gEq (eOp gMod (eVar 0) (eVar 1)) (eC (.int 0))))))
def k_is_multiple : Fn := callFn 2 (k_is_multiple_b)
def k_is_left_b (f_is_multiple : Fn) : Fx Fl := (sRet (rV (eAnd (eOp gNe (eVar 0) (eC (.tuple []))) (eFz (eCall f_is_multiple (aVal (eOp gSub (eVar 1) (eItemN 0 (eC (.int 0)))) (aVal (eItemN 0 (eC (.int 1))) aNil)))))))
def k_is_left (f_is_multiple : Fn) : Fn := callFn 2 (k_is_left_b f_is_multiple)
def k_check_rest_b (f_is_rested : Fn) : Fx Fl := (sIf (eNotT (eTru (eFz (eCall f_is_rested (aVal (eVar 0) aNil))))) sStuck sSkip)
def k_check_rest (f_is_rested : Fn) : Fn := callFn 1 (k_check_rest_b f_is_rested)
def k_rest_holds_b (f_is_left f_check_rest f_check_whole : Fn) : Fx Fl := (sSeq (sExpr (eCall f_check_rest (aVal (eVar 0) aNil))) (sSeq (sExpr (eCall f_check_whole (aVal (eVar 1) aNil))) (sRet (eCall f_is_left (aVal (eVar 0) (aVal (eVar 1) aNil))))))
def k_rest_holds (f_is_left f_check_rest f_check_whole : Fn) : Fn := callFn 2 (k_rest_holds_b f_is_left f_check_rest f_check_whole)
def k__law_part_b (f__law_pick : Fn) : Fx Fl := (sSeq (sSet 1 (eCall f__law_pick (aSlot 0 (aVal (eTup (dCons (eC (.int 1)) (dCons (eC (.int 1)) (dCons (eC (.int 2)) (dCons (eC (.int 2)) (dCons (eC (.int 4)) (dCons (eC (.int 4)) (dCons (eC (.int 8)) (dCons (eC (.int 16)) (dCons (eC (.int 32)) (dCons (eC (.int 64)) dNil))))))))))) aNil)))) (sSeq (sSet 2 (eCall f__law_pick (aSlot 0 (aVal (eTup (dCons (eC (.int 1)) (dCons (eC (.int 1)) (dCons (eC (.int 3)) (dCons (eC (.int 9)) dNil))))) aNil)))) (sRet (rV (eOp gMul (eOp gMul (eOp gMul (eVar 1) (eVar 2)) (eFz (eCall f__law_pick (aSlot 0 (aVal (eTup (dCons (eC (.int 1)) (dCons (eC (.int 1)) (dCons (eC (.int 1)) (dCons (eC (.int 5)) dNil))))) aNil))))) (eFz (eCall f__law_pick (aSlot 0 (aVal (eTup (dCons (eC (.int 1)) (dCons (eC (.int 1)) (dCons (eC (.int 1)) (dCons (eC (.int 7)) dNil))))) aNil)))))))))
def k__law_part (f__law_pick : Fn) : Fn := callFn 3 (k__law_part_b f__law_pick)
def k__law_rest_b (f__law_take f__law_number f__law_part : Fn) : Fx Fl := (sSeq (sSet 1 (eCall f__law_take (aSlot 0 (aVal (eC (.int 9)) aNil)))) (sSeq (sIf (eB (eOp gLt (eVar 1) (eC (.int 3)))) (sRet (eIf (eB (eOp gEq (eVar 1) (eC (.int 0)))) (rV (eTup dNil)) (rV (eTup (dCons (eFz (eCall f__law_number (aSlot 0 aNil))) (dCons (eC (.int 0)) dNil)))))) sSkip) (sSeq (sSet 2 (eCall f__law_part (aSlot 0 aNil))) (sRet (rV (eTup (dCons (eFz (eCall f__law_take (aSlot 0 (aVal (eVar 2) aNil)))) (dCons (eVar 2) dNil))))))))
def k__law_rest (f__law_take f__law_number f__law_part : Fn) : Fn := callFn 3 (k__law_rest_b f__law_take f__law_number f__law_part)
def k__law_rest_near_b (f__law_take f__law_pick f__law_part f__law_rest : Fn) : Fx Fl := (sSeq (sIf (eOrT (eB (eOp gEq (eVar 1) (eTup dNil))) (eB (eOp gEq (eFz (eCall f__law_take (aSlot 0 (aVal (eC (.int 4)) aNil)))) (eC (.int 0))))) (sRet (eCall f__law_rest (aSlot 0 aNil))) sSkip) (sSeq (sSet 2 (rV (eOp gAdd (eOp gAdd (eItemN 1 (eC (.int 0))) (eOp gMul (eItemN 1 (eC (.int 1))) (eOp gSub (eFz (eCall f__law_take (aSlot 0 (aVal (eC (.int 7)) aNil)))) (eC (.int 3))))) (eFz (eCall f__law_pick (aSlot 0 (aVal (eTup (dCons (eC (.int 0)) (dCons (eC (.int 0)) (dCons (eC (.int 0)) (dCons (eC (.int 1)) (dCons (eOp gFdiv (eItemN 1 (eC (.int 1))) (eC (.int 2))) dNil)))))) aNil))))))) (sSeq (sIf (eB (eOp gEq (eFz (eCall f__law_take (aSlot 0 (aVal (eC (.int 4)) aNil)))) (eC (.int 0)))) (sRet (rV (eTup (dCons (eVar 2) (dCons (eC (.int 0)) dNil))))) sSkip) (sSeq (sSet 3 (eCall f__law_part (aSlot 0 aNil))) (sRet (rV (eTup (dCons (eOp gMod (eBlt gInt (dCons (eVar 2) dNil)) (eVar 3)) (dCons (eVar 3) dNil)))))))))
def k__law_rest_near (f__law_take f__law_pick f__law_part f__law_rest : Fn) : Fn := callFn 4 (k__law_rest_near_b f__law_take f__law_pick f__law_part f__law_rest)
def k__law_rest_has_b : Fx Fl := (sRet (rV (eAnd (eOp gNe (eVar 0) (eTup dNil)) (eIf (eB (eOp gEq (eItemN 0 (eC (.int 1))) (eC (.int 0)))) (eOp gEq (eItemN 0 (eC (.int 0))) (eVar 1)) (eOp gEq (eOp gMod (eBlt gInt (dCons (eVar 1) dNil)) (eItemN 0 (eC (.int 1)))) (eItemN 0 (eC (.int 0))))))))
def k__law_rest_has : Fn := callFn 2 (k__law_rest_has_b)
def k_is_between_b (f_is_whole : Fn) : Fx Fl := (sRet (rV (eAnd (eFz (eCall f_is_whole (aVal (eVar 0) aNil))) (eChain gLe gLe (eVar 1) (eVar 0) (eVar 2)))))
def k_is_between (f_is_whole : Fn) : Fn := callFn 3 (k_is_between_b f_is_whole)
def k_check_width_b (f_is_between : Fn) : Fx Fl := (sIf (eNotT (eTru (eFz (eCall f_is_between (aVal (eVar 0) (aVal (eC (.int 1)) (aVal (eC (.int 16)) aNil))))))) sStuck sSkip)
def k_check_width (f_is_between : Fn) : Fn := callFn 1 (k_check_width_b f_is_between)
def k_check_guard_b : Fx Fl := (sIf (eOrT (eNotT (eTru (eIsi "str" (eVar 0)))) (eB (eOp gNotIn (eVar 0) (eC (.tuple [(.str "<"), (.str "<="), (.str "=="), (.str "!=")]))))) sStuck sSkip)
def k_check_guard : Fn := callFn 1 (k_check_guard_b)
def k__law_lets_b : Fx Fl := (sSeq (sIf (eB (eOp gEq (eVar 0) (eC (.str "<")))) (sRet (rV (eOp gLt (eVar 1) (eVar 2)))) sSkip) (sSeq (sIf (eB (eOp gEq (eVar 0) (eC (.str "<=")))) (sRet (rV (eOp gLe (eVar 1) (eVar 2)))) sSkip) (sRet (eIf (eB (eOp gEq (eVar 0) (eC (.str "==")))) (rV (eOp gEq (eVar 1) (eVar 2))) (rV (eOp gNe (eVar 1) (eVar 2)))))))
def k__law_lets : Fn := callFn 3 (k__law_lets_b)
def k_rest_by_b : Fx Fl := (sRet (eIf (eB (eOp gEq (eVar 1) (eC (.int 0)))) (rV (eTup (dCons (eVar 0) (dCons (eC (.int 0)) dNil)))) (rV (eTup (dCons (eOp gMod (eVar 0) (eVar 1)) (dCons (eVar 1) dNil))))))
def k_rest_by : Fn := callFn 2 (k_rest_by_b)
def k_number_with_l1 : Fx Fl := (sSet 2 (rV (eOp gAdd (eVar 2) (eItemN 0 (eC (.int 1))))))
def k_number_with_b_w (w : Nat) (f_is_left : Fn) : Fx Fl := (sSeq (sSet 2 (rV (eItemN 0 (eC (.int 0))))) (sSeq (sWhile (eNotT (eTru (eFz (eCall f_is_left (aVal (eVar 1) (aVal (eVar 2) aNil)))))) k_number_with_l1 w) (sRet (eMove 2))))
def k_number_with_b (f_is_left : Fn) : Fx Fl := k_number_with_b_w wfl f_is_left
def k_number_with (f_is_left : Fn) : Fn := callFn 3 (k_number_with_b f_is_left)
def k_met_rest_b (f_rest_by f_is_multiple f_number_with : Fn) : Fx Fl := (sSeq (sIf (eOrT (eB (eOp gEq (eVar 0) (eC (.tuple [])))) (eOrT (eB (eOp gEq (eVar 1) (eC (.tuple [])))) (eNotT (eTru (eFz (eCall f_is_multiple (aVal (eOp gSub (eItemN 0 (eC (.int 0))) (eItemN 1 (eC (.int 0)))) (aVal (eBlt gGcd (dCons (eItemN 0 (eC (.int 1))) (dCons (eItemN 1 (eC (.int 1))) dNil))) aNil)))))))) (sRet (rV (eC (.tuple [])))) sSkip) (sSeq (sIf (eOrT (eB (eOp gEq (eItemN 0 (eC (.int 1))) (eC (.int 0)))) (eB (eOp gEq (eItemN 1 (eC (.int 1))) (eC (.int 0))))) (sRet (eIf (eB (eOp gEq (eItemN 0 (eC (.int 1))) (eC (.int 0)))) (eMove 0) (eMove 1))) sSkip) (sRet (eCall f_rest_by (aVal (eFz (eCall f_number_with (aVal (eVar 0) (aVal (eVar 1) aNil)))) (aVal (eBlt gLcm (dCons (eItemN 0 (eC (.int 1))) (dCons (eItemN 1 (eC (.int 1))) dNil))) aNil))))))
def k_met_rest (f_rest_by f_is_multiple f_number_with : Fn) : Fn := callFn 2 (k_met_rest_b f_rest_by f_is_multiple f_number_with)
def k_check_rests_b (f_check_rest : Fn) : Fx Fl := (sSeq (sExpr (eCall f_check_rest (aVal (eVar 0) aNil))) (sExpr (eCall f_check_rest (aVal (eVar 1) aNil))))
def k_check_rests (f_check_rest : Fn) : Fn := callFn 2 (k_check_rests_b f_check_rest)
def k__law_common_l1 : Fx Fl := (sPar [0, 1] (aR (eMove 1) (aR (rV (eOp gMod (eBlt gInt (dCons (eVar 0) dNil)) (eVar 1))) aNil)))
def k__law_common_b_w (w : Nat) : Fx Fl := (sSeq (sPar [0, 1] (aR (rV (eBlt gAbs (dCons (eVar 0) dNil))) (aR (rV (eBlt gAbs (dCons (eVar 1) dNil))) aNil))) (sSeq (sWhile (eB (eOp gNe (eVar 1) (eC (.int 0)))) k__law_common_l1 w) (sRet (eMove 0))))
def k__law_common_b : Fx Fl := k__law_common_b_w wfl
def k__law_common : Fn := callFn 2 (k__law_common_b)
def k__law_least_l1 (f__law_common : Fn) : Fx Fl := (sSet 1 (eCall f__law_common (aVal (eVar 1) (aVal (eOp gSub (eVar 2) (eItemN 0 (eC (.int 0)))) aNil))))
def k__law_least_b (f__law_common : Fn) : Fx Fl := (sSeq (sIf (eB (eOp gEq (eVar 0) (eFz (eLst dNil)))) (sRet (rV (eTup dNil))) sSkip) (sSeq (sSet 1 (rV (eC (.int 0)))) (sSeq (sFor (iSeq (eVar 0)) (gN 2) (k__law_least_l1 f__law_common)) (sSeq (sIf (eB (eOp gEq (eVar 1) (eC (.int 0)))) (sRet (rV (eTup (dCons (eItemN 0 (eC (.int 0))) (dCons (eC (.int 0)) dNil))))) sSkip) (sSeq (sSet 1 (eCall f__law_common (aVal (eVar 1) (aVal (eC (.int 20160)) aNil)))) (sRet (rV (eTup (dCons (eOp gMod (eBlt gInt (dCons (eItemN 0 (eC (.int 0))) dNil)) (eVar 1)) (dCons (eVar 1) dNil))))))))))
def k__law_least (f__law_common : Fn) : Fn := callFn 3 (k__law_least_b f__law_common)
def k__law_rest_meet_b (f__law_rest_has f__law_common : Fn) : Fx Fl := (sSeq (sIf (eOrT (eB (eOp gEq (eVar 0) (eTup dNil))) (eB (eOp gEq (eVar 1) (eTup dNil)))) (sRet (rV (eTup dNil))) sSkip) (sSeq (sAsg (eIf (eB (eOp gLe (eItemN 0 (eC (.int 1))) (eItemN 1 (eC (.int 1))))) (eTup (dCons (eVar 0) (dCons (eVar 1) dNil))) (eTup (dCons (eVar 1) (dCons (eVar 0) dNil)))) (gTup 2 (gsCons (gN 4) (gsCons (gN 5) gsNil)))) (sSeq (sIf (eB (eOp gEq (eItemN 4 (eC (.int 1))) (eC (.int 0)))) (sRet (eIf (eTru (eFz (eCall f__law_rest_has (aVal (eVar 5) (aVal (eItemN 4 (eC (.int 0))) aNil))))) (eMove 4) (rV (eTup dNil)))) sSkip) (sSeq (sSet 2 (rV (eOp gFdiv (eItemN 4 (eC (.int 1))) (eFz (eCall f__law_common (aVal (eItemN 4 (eC (.int 1))) (aVal (eItemN 5 (eC (.int 1))) aNil))))))) (sSeq (sSet 3 (eComp (iRange3 (eItemN 5 (eC (.int 0))) (eOp gAdd (eItemN 5 (eC (.int 0))) (eOp gMul (eItemN 5 (eC (.int 1))) (eVar 2))) (eItemN 5 (eC (.int 1)))) (gN 6) (eTru (eFz (eCall f__law_rest_has (aVal (eVar 4) (aVal (eVar 6) aNil))))) (eVar 6) [6])) (sRet (eIf (eB (eOp gNe (eVar 3) (eFz (eLst dNil)))) (rV (eTup (dCons (eItemN 3 (eC (.int 0))) (dCons (eOp gMul (eItemN 5 (eC (.int 1))) (eVar 2)) dNil)))) (rV (eTup dNil)))))))))
def k__law_rest_meet (f__law_rest_has f__law_common : Fn) : Fn := callFn 7 (k__law_rest_meet_b f__law_rest_has f__law_common)
def k__law_rest_some_b (f__law_number : Fn) : Fx Fl := (sRet (rV (eOp gAdd (eItemN 1 (eC (.int 0))) (eOp gMul (eItemN 1 (eC (.int 1))) (eFz (eCall f__law_number (aSlot 0 aNil)))))))
def k__law_rest_some (f__law_number : Fn) : Fn := callFn 2 (k__law_rest_some_b f__law_number)
def k_is_only_nought_b : Fx Fl := (sRet (rV (eOp gEq (eVar 0) (eTup (dCons (eC (.int 0)) (dCons (eC (.int 0)) dNil))))))
def k_is_only_nought : Fn := callFn 1 (k_is_only_nought_b)
def k_quotient_rest_b (f_rest_by f_is_multiple f_is_only_nought : Fn) : Fx Fl := (sSeq (sIf (eOrT (eB (eOp gEq (eVar 0) (eC (.tuple [])))) (eOrT (eB (eOp gEq (eVar 1) (eC (.tuple [])))) (eTru (eFz (eCall f_is_only_nought (aVal (eVar 1) aNil)))))) (sRet (rV (eC (.tuple [])))) sSkip) (sSeq (sIf (eTru (eFz (eCall f_is_only_nought (aVal (eVar 0) aNil)))) (sRet (eMove 0)) sSkip) (sSeq (sIf (eAndT (eB (eOp gEq (eItemN 1 (eC (.int 1))) (eC (.int 0)))) (eTru (eFz (eCall f_is_multiple (aVal (eItemN 0 (eC (.int 1))) (aVal (eItemN 1 (eC (.int 0))) aNil)))))) (sRet (eCall f_rest_by (aVal (eOp gFdiv (eItemN 0 (eC (.int 0))) (eItemN 1 (eC (.int 0)))) (aVal (eBlt gAbs (dCons (eOp gFdiv (eItemN 0 (eC (.int 1))) (eItemN 1 (eC (.int 0)))) dNil)) aNil)))) sSkip) (sRet (rV (eC (.tuple [(.int 0), (.int 1)])))))))
def k_quotient_rest (f_rest_by f_is_multiple f_is_only_nought : Fn) : Fn := callFn 2 (k_quotient_rest_b f_rest_by f_is_multiple f_is_only_nought)
def k_modulo_rest_b (f_rest_by f_is_multiple f_is_only_nought : Fn) : Fx Fl := (sSeq (sIf (eOrT (eB (eOp gEq (eVar 0) (eC (.tuple [])))) (eOrT (eB (eOp gEq (eVar 1) (eC (.tuple [])))) (eTru (eFz (eCall f_is_only_nought (aVal (eVar 1) aNil)))))) (sRet (rV (eC (.tuple [])))) sSkip) (sSeq (sIf (eAndT (eB (eOp gEq (eItemN 1 (eC (.int 1))) (eC (.int 0)))) (eTru (eFz (eCall f_is_multiple (aVal (eItemN 0 (eC (.int 1))) (aVal (eItemN 1 (eC (.int 0))) aNil)))))) (sRet (rV (eTup (dCons (eOp gMod (eItemN 0 (eC (.int 0))) (eItemN 1 (eC (.int 0)))) (dCons (eC (.int 0)) dNil))))) sSkip) (sRet (eCall f_rest_by (aVal (eItemN 0 (eC (.int 0))) (aVal (eBlt gGcd (dCons (eItemN 0 (eC (.int 1))) (dCons (eItemN 1 (eC (.int 0))) (dCons (eItemN 1 (eC (.int 1))) dNil)))) aNil))))))
def k_modulo_rest (f_rest_by f_is_multiple f_is_only_nought : Fn) : Fn := callFn 2 (k_modulo_rest_b f_rest_by f_is_multiple f_is_only_nought)
def k_wrapped_rest_b (f_modulo_rest : Fn) : Fx Fl := (sRet (eCall f_modulo_rest (aVal (eVar 0) (aVal (eTup (dCons (eOp gShl (eC (.int 1)) (eVar 1)) (dCons (eC (.int 0)) dNil))) aNil))))
def k_wrapped_rest (f_modulo_rest : Fn) : Fn := callFn 2 (k_wrapped_rest_b f_modulo_rest)
def k_guarded_rests_b (f_met_rest : Fn) : Fx Fl := (sSeq (sIf (eOrT (eB (eOp gEq (eVar 1) (eC (.tuple [])))) (eB (eOp gEq (eVar 2) (eC (.tuple []))))) (sRet (rV (eTup (dCons (eC (.tuple [])) (dCons (eC (.tuple [])) dNil))))) sSkip) (sSeq (sIf (eB (eOp gEq (eVar 0) (eC (.str "==")))) (sRet (rV (eOp gMul (eTup (dCons (eFz (eCall f_met_rest (aVal (eVar 1) (aVal (eVar 2) aNil)))) dNil)) (eC (.int 2))))) sSkip) (sSeq (sSet 3 (rV (eAnd (eOp gEq (eItemN 1 (eC (.int 1))) (eC (.int 0))) (eOp gEq (eVar 1) (eVar 2))))) (sRet (eIf (eAndT (eB (eOp gEq (eVar 0) (eC (.str "!=")))) (eTru (eVar 3))) (rV (eTup (dCons (eC (.tuple [])) (dCons (eC (.tuple [])) dNil)))) (rV (eTup (dCons (eVar 1) (dCons (eVar 2) dNil)))))))))
def k_guarded_rests (f_met_rest : Fn) : Fn := callFn 4 (k_guarded_rests_b f_met_rest)
def k_rest_quotient_b (f_quotient_rest f_check_rests : Fn) : Fx Fl := (sSeq (sExpr (eCall f_check_rests (aVal (eVar 0) (aVal (eVar 1) aNil)))) (sRet (eCall f_quotient_rest (aVal (eVar 0) (aVal (eVar 1) aNil)))))
def k_rest_quotient (f_quotient_rest f_check_rests : Fn) : Fn := callFn 2 (k_rest_quotient_b f_quotient_rest f_check_rests)
def k_rest_modulo_b (f_modulo_rest f_check_rests : Fn) : Fx Fl := (sSeq (sExpr (eCall f_check_rests (aVal (eVar 0) (aVal (eVar 1) aNil)))) (sRet (eCall f_modulo_rest (aVal (eVar 0) (aVal (eVar 1) aNil)))))
def k_rest_modulo (f_modulo_rest f_check_rests : Fn) : Fn := callFn 2 (k_rest_modulo_b f_modulo_rest f_check_rests)
def k_rest_wrapped_b (f_wrapped_rest f_check_rest f_check_width : Fn) : Fx Fl := (sSeq (sExpr (eCall f_check_rest (aVal (eVar 0) aNil))) (sSeq (sExpr (eCall f_check_width (aVal (eVar 1) aNil))) (sRet (eCall f_wrapped_rest (aVal (eVar 0) (aVal (eVar 1) aNil))))))
def k_rest_wrapped (f_wrapped_rest f_check_rest f_check_width : Fn) : Fn := callFn 2 (k_rest_wrapped_b f_wrapped_rest f_check_rest f_check_width)
def k_rest_guarded_b (f_guarded_rests f_check_rests f_check_guard : Fn) : Fx Fl := (sSeq (sExpr (eCall f_check_guard (aVal (eVar 0) aNil))) (sSeq (sExpr (eCall f_check_rests (aVal (eVar 1) (aVal (eVar 2) aNil)))) (sRet (eCall f_guarded_rests (aVal (eVar 0) (aVal (eVar 1) (aVal (eVar 2) aNil)))))))
def k_rest_guarded (f_guarded_rests f_check_rests f_check_guard : Fn) : Fn := callFn 3 (k_rest_guarded_b f_guarded_rests f_check_rests f_check_guard)
def k__law_over_v2_b (f__law_least : Fn) : Fx Fl := (sSeq (sIf (eOrT (eB (eOp gEq (eVar 0) (eTup dNil))) (eOrT (eB (eOp gEq (eVar 1) (eTup dNil))) (eB (eOp gEq (eVar 1) (eTup (dCons (eC (.int 0)) (dCons (eC (.int 0)) dNil))))))) (sRet (rV (eTup dNil))) sSkip) (sSeq (sIf (eAndT (eB (eOp gEq (eItemN 1 (eC (.int 1))) (eC (.int 0)))) (eB (eOp gEq (eOp gMod (eBlt gInt (dCons (eItemN 0 (eC (.int 1))) dNil)) (eItemN 1 (eC (.int 0)))) (eC (.int 0))))) (sRet (eCall f__law_least (aVal (eFz (eLst (dCons (eOp gFdiv (eItemN 0 (eC (.int 0))) (eItemN 1 (eC (.int 0)))) (dCons (eOp gFdiv (eOp gAdd (eItemN 0 (eC (.int 0))) (eItemN 0 (eC (.int 1)))) (eItemN 1 (eC (.int 0)))) dNil)))) aNil))) sSkip) (sRet (eIf (eB (eOp gEq (eVar 0) (eTup (dCons (eC (.int 0)) (dCons (eC (.int 0)) dNil))))) (rV (eTup (dCons (eC (.int 0)) (dCons (eC (.int 0)) dNil)))) (rV (eTup (dCons (eC (.int 0)) (dCons (eC (.int 1)) dNil))))))))
def k__law_over_v2 (f__law_least : Fn) : Fn := callFn 2 (k__law_over_v2_b f__law_least)
def k__law_left_v2_b (f__law_common : Fn) : Fx Fl := (sSeq (sIf (eOrT (eB (eOp gEq (eVar 0) (eTup dNil))) (eOrT (eB (eOp gEq (eVar 1) (eTup dNil))) (eB (eOp gEq (eVar 1) (eTup (dCons (eC (.int 0)) (dCons (eC (.int 0)) dNil))))))) (sRet (rV (eTup dNil))) sSkip) (sSeq (sIf (eAndT (eB (eOp gEq (eItemN 1 (eC (.int 1))) (eC (.int 0)))) (eB (eOp gEq (eOp gMod (eBlt gInt (dCons (eItemN 0 (eC (.int 1))) dNil)) (eItemN 1 (eC (.int 0)))) (eC (.int 0))))) (sRet (rV (eTup (dCons (eOp gMod (eBlt gInt (dCons (eItemN 0 (eC (.int 0))) dNil)) (eItemN 1 (eC (.int 0)))) (dCons (eC (.int 0)) dNil))))) sSkip) (sSeq (sSet 2 (eCall f__law_common (aVal (eFz (eCall f__law_common (aVal (eItemN 0 (eC (.int 1))) (aVal (eItemN 1 (eC (.int 0))) aNil)))) (aVal (eItemN 1 (eC (.int 1))) aNil)))) (sRet (rV (eTup (dCons (eOp gMod (eBlt gInt (dCons (eItemN 0 (eC (.int 0))) dNil)) (eVar 2)) (dCons (eVar 2) dNil))))))))
def k__law_left_v2 (f__law_common : Fn) : Fn := callFn 3 (k__law_left_v2_b f__law_common)
def k__law_guarded_v2_b (f__law_rest_meet : Fn) : Fx Fl := (sSeq (sIf (eOrT (eB (eOp gEq (eVar 1) (eTup dNil))) (eOrT (eB (eOp gEq (eVar 2) (eTup dNil))) (eAndT (eB (eOp gEq (eVar 0) (eC (.str "!=")))) (eAndT (eB (eOp gEq (eVar 1) (eVar 2))) (eB (eOp gEq (eItemN 1 (eC (.int 1))) (eC (.int 0)))))))) (sRet (rV (eTup (dCons (eTup dNil) (dCons (eTup dNil) dNil))))) sSkip) (sSeq (sIf (eB (eOp gEq (eVar 0) (eC (.str "==")))) (sRet (rV (eOp gMul (eTup (dCons (eFz (eCall f__law_rest_meet (aVal (eVar 1) (aVal (eVar 2) aNil)))) dNil)) (eC (.int 2))))) sSkip) (sRet (rV (eTup (dCons (eVar 1) (dCons (eVar 2) dNil)))))))
def k__law_guarded_v2 (f__law_rest_meet : Fn) : Fn := callFn 3 (k__law_guarded_v2_b f__law_rest_meet)
def k__law_beside_v2_b (f__law_take f__law_part f__law_rest_near f__law_common : Fn) : Fx Fl := (sSeq (sIf (eOrT (eB (eOp gEq (eVar 1) (eTup dNil))) (eB (eOp gEq (eFz (eCall f__law_take (aSlot 0 (aVal (eC (.int 2)) aNil)))) (eC (.int 0))))) (sRet (eCall f__law_rest_near (aSlot 0 (aVal (eVar 1) aNil)))) sSkip) (sSeq (sSet 2 (eCall f__law_common (aVal (eItemN 1 (eC (.int 1))) (aVal (eFz (eCall f__law_part (aSlot 0 aNil))) aNil)))) (sRet (rV (eTup (dCons (eIf (eB (eOp gEq (eFz (eCall f__law_take (aSlot 0 (aVal (eC (.int 2)) aNil)))) (eC (.int 0)))) (eVar 2) (eOp gSub (eC (.int 0)) (eVar 2))) (dCons (eC (.int 0)) dNil)))))))
def k__law_beside_v2 (f__law_take f__law_part f__law_rest_near f__law_common : Fn) : Fn := callFn 3 (k__law_beside_v2_b f__law_take f__law_part f__law_rest_near f__law_common)
def k__law_two_right_v9_b (f_rest_quotient f_rest_modulo f__law_same f__law_over f__law_left : Fn) : Fx Fl := (sSeq (sSet 2 (rV (eTup (dCons (eFz (eCall f__law_over (aVal (eVar 0) (aVal (eVar 1) aNil)))) (dCons (eFz (eCall f__law_left (aVal (eVar 0) (aVal (eVar 1) aNil)))) dNil))))) (sSeq (sIf (eNotT (eTru (eFz (eCall f__law_same (aVal (eTup (dCons (eFz (eCall f_rest_quotient (aVal (eVar 0) (aVal (eVar 1) aNil)))) (dCons (eFz (eCall f_rest_modulo (aVal (eVar 0) (aVal (eVar 1) aNil)))) dNil))) (aVal (eVar 2) aNil)))))) (sRet (rV (eC (.bool false)))) sSkip) (sRet (eCall f__law_same (aVal (eTup (dCons (eFz (eCallK f_rest_quotient 0 2 [1, 0] dNil (dCons (eVar 1) (dCons (eVar 0) dNil)))) (dCons (eFz (eCallK f_rest_modulo 0 2 [1, 0] dNil (dCons (eVar 1) (dCons (eVar 0) dNil)))) dNil))) (aVal (eVar 2) aNil))))))
def k__law_two_right_v9 (f_rest_quotient f_rest_modulo f__law_same f__law_over f__law_left : Fn) : Fn := callFn 3 (k__law_two_right_v9_b f_rest_quotient f_rest_modulo f__law_same f__law_over f__law_left)
def k__law_guards_right_l1 (f_rest_holds f__law_same f__law_lets : Fn) : Fx Fl := (sSeq (sSet 8 (rV (eTup (dCons (eFz (eCall f_rest_holds (aVal (eItemN 5 (eC (.int 0))) (aVal (eVar 6) aNil)))) (dCons (eFz (eCall f_rest_holds (aVal (eItemN 5 (eC (.int 1))) (aVal (eVar 7) aNil)))) dNil))))) (sIf (eAndT (eTru (eFz (eCall f__law_lets (aVal (eVar 3) (aVal (eVar 6) (aVal (eVar 7) aNil)))))) (eNotT (eTru (eFz (eCall f__law_same (aVal (eVar 8) (aVal (eTup (dCons (eC (.bool true)) (dCons (eC (.bool true)) dNil))) aNil))))))) (sRet (rV (eC (.bool false)))) sSkip))
def k__law_guards_right_l2 (f_rest_holds f_rest_guarded f__law_same f__law_lets f__law_guarded : Fn) : Fx Fl := (sSeq (sSet 4 (eCall f__law_guarded (aVal (eVar 3) (aVal (eVar 0) (aVal (eVar 1) aNil))))) (sSeq (sSet 5 (eCall f_rest_guarded (aVal (eVar 3) (aVal (eVar 0) (aVal (eVar 1) aNil))))) (sSeq (sIf (eNotT (eTru (eFz (eCall f__law_same (aVal (eTup (dCons (eVar 5) (dCons (eFz (eCallK f_rest_guarded 0 3 [2, 1, 0] dNil (dCons (eVar 1) (dCons (eVar 0) (dCons (eVar 3) dNil))))) dNil))) (aVal (eTup (dCons (eVar 4) (dCons (eVar 4) dNil))) aNil)))))) (sRet (rV (eC (.bool false)))) sSkip) (sFor (iSeq (eVar 2)) (gTup 2 (gsCons (gN 6) (gsCons (gN 7) gsNil))) (k__law_guards_right_l1 f_rest_holds f__law_same f__law_lets)))))
def k__law_guards_right_b (f_rest_holds f_rest_guarded f__law_same f__law_lets f__law_guarded : Fn) : Fx Fl := (sSeq (sFor (iSeq (eTup (dCons (eC (.str "<")) (dCons (eC (.str "<=")) (dCons (eC (.str "==")) (dCons (eC (.str "!=")) dNil)))))) (gN 3) (k__law_guards_right_l2 f_rest_holds f_rest_guarded f__law_same f__law_lets f__law_guarded)) (sRet (rV (eC (.bool true)))))
def k__law_guards_right (f_rest_holds f_rest_guarded f__law_same f__law_lets f__law_guarded : Fn) : Fn := callFn 9 (k__law_guards_right_b f_rest_holds f_rest_guarded f__law_same f__law_lets f__law_guarded)
def k__law_held_right_v4_b (f_rest_holds f_rest_quotient f_rest_modulo f__law_same : Fn) : Fx Fl := (sSeq (sIf (eB (eOp gEq (eVar 3) (eC (.int 0)))) (sRet (rV (eC (.bool true)))) sSkip) (sSeq (sSet 4 (rV (eTup (dCons (eFz (eCall f_rest_holds (aVal (eFz (eCall f_rest_quotient (aVal (eVar 0) (aVal (eVar 1) aNil)))) (aVal (eOp gFdiv (eVar 2) (eVar 3)) aNil)))) (dCons (eFz (eCall f_rest_holds (aVal (eFz (eCall f_rest_modulo (aVal (eVar 0) (aVal (eVar 1) aNil)))) (aVal (eOp gMod (eBlt gInt (dCons (eVar 2) dNil)) (eVar 3)) aNil)))) dNil))))) (sRet (eCall f__law_same (aVal (eVar 4) (aVal (eTup (dCons (eC (.bool true)) (dCons (eC (.bool true)) dNil))) aNil))))))
def k__law_held_right_v4 (f_rest_holds f_rest_quotient f_rest_modulo f__law_same : Fn) : Fn := callFn 5 (k__law_held_right_v4_b f_rest_holds f_rest_quotient f_rest_modulo f__law_same)
def k__law_wrapped_right_v2_l1 : Fx Fl := (sSet 3 (rV (eOp gMul (eVar 3) (eC (.int 2)))))
def k__law_wrapped_right_v2_e1 (f_rest_holds f__law_same : Fn) : Fx D := (eFz (eCall f__law_same (aVal (eFz (eCall f_rest_holds (aVal (eVar 5) (aVal (eOp gMod (eBlt gInt (dCons (eVar 7) dNil)) (eVar 3)) aNil)))) (aVal (eC (.bool true)) aNil))))
def k__law_wrapped_right_v2_b (f_rest_holds f_rest_modulo f_rest_wrapped f__law_same f__law_left : Fn) : Fx Fl := (sSeq (sSet 3 (rV (eC (.int 1)))) (sSeq (sFor (iRange1 (eVar 1)) (gN 4) k__law_wrapped_right_v2_l1) (sSeq (sAsg (eTup (dCons (eFz (eCall f_rest_wrapped (aVal (eVar 0) (aVal (eVar 1) aNil)))) (dCons (eFz (eCall f__law_left (aVal (eVar 0) (aVal (eTup (dCons (eVar 3) (dCons (eC (.int 0)) dNil))) aNil)))) dNil))) (gTup 2 (gsCons (gN 5) (gsCons (gN 6) gsNil)))) (sSeq (sIf (eNotT (eTru (eFz (eCall f__law_same (aVal (eTup (dCons (eVar 5) (dCons (eFz (eCallK f_rest_wrapped 0 2 [1, 0] dNil (dCons (eVar 1) (dCons (eVar 0) dNil)))) (dCons (eFz (eCall f_rest_modulo (aVal (eVar 0) (aVal (eTup (dCons (eVar 3) (dCons (eC (.int 0)) dNil))) aNil)))) dNil)))) (aVal (eOp gMul (eTup (dCons (eVar 6) dNil)) (eC (.int 3))) aNil)))))) (sRet (rV (eC (.bool false)))) sSkip) (sRet (rV (eBlt gAll (dCons (eFz (eComp (iSeq (eVar 2)) (gN 7) (fun env => some (true, env)) (k__law_wrapped_right_v2_e1 f_rest_holds f__law_same) [7])) dNil))))))))
def k__law_wrapped_right_v2 (f_rest_holds f_rest_modulo f_rest_wrapped f__law_same f__law_left : Fn) : Fn := callFn 8 (k__law_wrapped_right_v2_b f_rest_holds f_rest_modulo f_rest_wrapped f__law_same f__law_left)
def k__law_right_v10_l1 (f__law_rest_some : Fn) : Fx Fl := (sApp 4 (eTup (dCons (eFz (eCall f__law_rest_some (aSlot 0 (aVal (eVar 2) aNil)))) (dCons (eFz (eCall f__law_rest_some (aSlot 0 (aVal (eVar 1) aNil)))) dNil))))
def k__law_right_v10_e1 (f__law_held_right : Fn) : Fx D := (eFz (eCall f__law_held_right (aVal (eVar 2) (aVal (eVar 1) (aVal (eVar 6) (aVal (eVar 7) aNil))))))
def k__law_right_v10_e2 (f__law_held_right : Fn) : Fx D := (eFz (eCall f__law_held_right (aVal (eVar 1) (aVal (eVar 2) (aVal (eVar 7) (aVal (eVar 6) aNil))))))
def k__law_right_v10_b (f__law_take f__law_rest f__law_rest_some f__law_rest_has f__law_beside f__law_two_right f__law_guards_right f__law_held_right f__law_wrapped_right : Fn) : Fx Fl := (sSeq (sPar [2, 3, 4] (aR (eCall f__law_rest (aSlot 0 aNil)) (aR (rV (eOp gAdd (eC (.int 1)) (eFz (eCall f__law_take (aSlot 0 (aVal (eC (.int 16)) aNil)))))) (aR (eLst dNil) aNil)))) (sSeq (sSet 1 (eCall f__law_beside (aSlot 0 (aVal (eVar 2) aNil)))) (sSeq (sIf (eAndT (eB (eOp gNe (eVar 2) (eTup dNil))) (eB (eOp gNe (eVar 1) (eTup dNil)))) (sSeq (sFor (iRange1 (eC (.int 4))) (gN 5) (k__law_right_v10_l1 f__law_rest_some)) (sSeq (sApp 4 (eTup (dCons (eItemN 2 (eC (.int 0))) (dCons (eItemN 1 (eC (.int 0))) dNil)))) (sApp 4 (eIf (eTru (eFz (eCall f__law_rest_has (aVal (eVar 1) (aVal (eItemN 2 (eC (.int 0))) aNil))))) (eTup (dCons (eItemN 2 (eC (.int 0))) (dCons (eItemN 2 (eC (.int 0))) dNil))) (eTup (dCons (eOp gSub (eItemN 2 (eC (.int 0))) (eItemN 2 (eC (.int 1)))) (dCons (eOp gAdd (eItemN 1 (eC (.int 0))) (eItemN 1 (eC (.int 1)))) dNil))))))) sSkip) (sSeq (sIf (eOrT (eNotT (eTru (eFz (eCall f__law_two_right (aVal (eVar 2) (aVal (eVar 1) aNil)))))) (eOrT (eNotT (eTru (eFz (eCall f__law_two_right (aVal (eVar 1) (aVal (eVar 2) aNil)))))) (eNotT (eTru (eFz (eCall f__law_guards_right (aVal (eVar 2) (aVal (eVar 1) (aVal (eVar 4) aNil))))))))) (sRet (rV (eC (.bool false)))) sSkip) (sSeq (sIf (eNotT (eTru (eBlt gAll (dCons (eFz (eComp (iSeq (eVar 4)) (gTup 2 (gsCons (gN 6) (gsCons (gN 7) gsNil))) (fun env => some (true, env)) (k__law_right_v10_e1 f__law_held_right) [6, 7])) dNil)))) (sRet (rV (eC (.bool false)))) sSkip) (sSeq (sIf (eNotT (eTru (eBlt gAll (dCons (eFz (eComp (iSeq (eVar 4)) (gTup 2 (gsCons (gN 6) (gsCons (gN 7) gsNil))) (fun env => some (true, env)) (k__law_right_v10_e2 f__law_held_right) [6, 7])) dNil)))) (sRet (rV (eC (.bool false)))) sSkip) (sRet (eCall f__law_wrapped_right (aVal (eVar 2) (aVal (eVar 3) (aVal (eFz (eComp (iSeq (eVar 4)) (gTup 2 (gsCons (gN 6) (gsCons (gN 7) gsNil))) (fun env => some (true, env)) (eVar 6) [6, 7])) aNil)))))))))))
def k__law_right_v10 (f__law_take f__law_rest f__law_rest_some f__law_rest_has f__law_beside f__law_two_right f__law_guards_right f__law_held_right f__law_wrapped_right : Fn) : Fn := callFn 8 (k__law_right_v10_b f__law_take f__law_rest f__law_rest_some f__law_rest_has f__law_beside f__law_two_right f__law_guards_right f__law_held_right f__law_wrapped_right)
end Ev
namespace Ev
local macro_rules
  | `(tactic| simp! only [$as,*]) => `(tactic| simp only [↓x_var, ↓x_C, ↓x_op, ↓x_fz, ↓x_rV, ↓x_B, ↓x_chain, ↓x_tru, ↓x_notT, ↓x_andT, ↓x_orT, ↓x_and, ↓x_or, ↓x_not, ↓x_neg, ↓x_if, ↓x_aNil, ↓x_aVal, ↓x_aSlot, ↓x_aTmp, ↓x_aR, ↓x_call, ↓x_callK, ↓x_dNil, ↓x_dCons, ↓x_tup, ↓x_lst, ↓x_itemN, ↓x_ownItem, ↓x_lenN, ↓x_blt, ↓x_isi, ↓x_list, ↓x_rgL1, ↓x_rgL2, ↓x_iSeq, ↓x_iZip, ↓x_range1, ↓x_range2, ↓x_addR, ↓x_slice, ↓x_partN, ↓x_partS, ↓x_comp, ↓x_skip, ↓x_stuck, ↓x_break, ↓x_cont, ↓x_seq, ↓x_sIf, ↓x_sExpr, ↓x_ret, ↓x_retN, ↓x_move, ↓x_setRv, ↓x_setRf, ↓x_setRm, ↓x_set, ↓x_gN, ↓x_gsNil, ↓x_gsCons, ↓x_gTup, ↓x_gIx, ↓x_setAt, ↓x_asg, ↓x_par, ↓x_sm0, ↓x_smV, ↓x_smF, ↓x_app, ↓x_for, ↓x_for0, ↓x_for1, ↓x_comp0, ↓x_comp1, ↓x_fn, ↓x_iEnum, ↓x_range3, ↓x_comp2, ↓x_compN0, ↓x_compN1, ↓x_item2, ↓x_item2M, ↓x_gIx2, ↓x_compM, ↓x_callB, ↓x_pop, ↓x_dStar, ↓x_seeAt, ↓x_see, ↓x_seeR, ↓x_rev, ↓x_idx, q_addI, q_addT, q_addL, q_subI, q_ltI, q_leI, q_gtI, q_geI, q_isN, q_isNotN, q_eqI, q_neI, q_eqB, q_eqT0, q_eqT1, q_neT0, q_neT1, q_eqL0, q_eqL1, q_neL0, q_neL1, q_int, q_abs, q_min2, q_max2, q_at0, q_at1, q_at2, q_at3, q_ix0, q_ix1, q_ix2, q_sz, q_iteS, q_iteT, q_iteR, q_iteV, q_iteBB, q_iteII, q_iteAnd, q_iteOr, q_iteNot, q_iteCon, q_pa0, q_pa1, q_pa2, q_pa3, q_pa4, q_ow4, q_ma0, q_ma1, q_ma2, q_ma3, q_ma4, q_ow0, q_ow1, q_ow2, q_ow3, q_c0, q_c1, q_c2, q_c3, q_c4, q_c5, q_c6, q_c7, q_c8, q_c9, q_c10, q_c11, q_c12, q_all0, q_all1, q_all2, q_all3, q_inN2, q_inN0, q_02a, q_02b, q_repr, q_ol1, q_ol2, q_ol3, q_ll1, q_ll2, q_ll3, q_scB, List.getElem?_cons_zero, List.getElem?_cons_succ, List.set_cons_zero, List.set_cons_succ, wipeE, initE, outsOf, toAv, toAvB, scal, slotsOf, putOuts, natNodup, List.map_cons, List.map_nil, List.cons_append, List.nil_append, List.append_nil, List.replicate, List.length_cons, List.length_nil, isNone, isiD, seqD, gItem, truD, zipOf, zipD, pick, List.contains_nil, List.contains_cons, eq_self, List.cons_ne_nil, if_true, if_false, Bool.false_eq_true, Bool.true_eq_false, Bool.not_true, Bool.not_false, reduceIte, decide_true, decide_false, Nat.reduceAdd, Nat.reduceSub, Nat.zero_add, Nat.add_zero, and_self, true_and, and_true, Bool.and_true, Bool.true_and, Bool.or_false, Bool.false_or, Bool.or_true, Bool.true_or, Bool.and_false, Bool.false_and, Bool.or_self, Bool.and_self, Nat.sub_self, Option.map_some, Option.map_none, Nat.reduceBEq, Bool.not_eq_true, beq_self_eq_true, Nat.reduceLeDiff, Nat.reduceLT, Nat.reduceEqDiff, List.filterMap_cons, List.filterMap_nil, $as,*])
open PySem PySem.Spec PyProof.Rows L2
theorem k_take_ok : Tk k__law_take := take_ok
theorem k_number_ok {t gr : Fn} (T : Tk t) (G : Nm 5 (2 ^ 110) gr) : Nm 7 (2 ^ 110) (k__law_number t gr) := number_ok T G
/-! ## stretches -/
abbrev EE := Option Int
abbrev SS := Option (EE × EE)
def eE : EE → D
  | none => .none
  | some i => .int i
def eS : SS → D
  | none => .tuple []
  | some (l, h) => .tuple [eE l, eE h]
def leE : EE → EE → Bool
  | none, _ => true
  | _, none => true
  | some l, some h => decide (l ≤ h)
def okS : SS → Bool
  | none => true
  | some (l, h) => leE l h
def hasS : SS → Int → Bool
  | none, _ => false
  | some (l, h), k => leE l (some k) && leE (some k) h
section
variable {f g h w : Fn}
theorem k_whole_ok (i : Int) : k_is_whole [.val (.int i)] = some (.val (.bool true), []) := rfl
end
end Ev
namespace Ev
local macro_rules
  | `(tactic| simp! only [$as,*]) => `(tactic| simp only [↓x_var, ↓x_C, ↓x_op, ↓x_fz, ↓x_rV, ↓x_B, ↓x_chain, ↓x_tru, ↓x_notT, ↓x_andT, ↓x_orT, ↓x_and, ↓x_or, ↓x_not, ↓x_neg, ↓x_if, ↓x_aNil, ↓x_aVal, ↓x_aSlot, ↓x_aTmp, ↓x_aR, ↓x_call, ↓x_callK, ↓x_dNil, ↓x_dCons, ↓x_tup, ↓x_lst, ↓x_itemN, ↓x_ownItem, ↓x_lenN, ↓x_blt, ↓x_isi, ↓x_list, ↓x_rgL1, ↓x_rgL2, ↓x_iSeq, ↓x_iZip, ↓x_range1, ↓x_range2, ↓x_addR, ↓x_slice, ↓x_partN, ↓x_partS, ↓x_comp, ↓x_skip, ↓x_stuck, ↓x_break, ↓x_cont, ↓x_seq, ↓x_sIf, ↓x_sExpr, ↓x_ret, ↓x_retN, ↓x_move, ↓x_setRv, ↓x_setRf, ↓x_setRm, ↓x_set, ↓x_gN, ↓x_gsNil, ↓x_gsCons, ↓x_gTup, ↓x_gIx, ↓x_setAt, ↓x_asg, ↓x_par, ↓x_sm0, ↓x_smV, ↓x_smF, ↓x_app, ↓x_for, ↓x_for0, ↓x_for1, ↓x_comp0, ↓x_comp1, ↓x_fn, ↓x_iEnum, ↓x_range3, ↓x_comp2, ↓x_compN0, ↓x_compN1, ↓x_item2, ↓x_item2M, ↓x_gIx2, ↓x_compM, ↓x_callB, ↓x_pop, ↓x_dStar, ↓x_seeAt, ↓x_see, ↓x_seeR, ↓x_rev, ↓x_idx, q_addI, q_addT, q_addL, q_subI, q_ltI, q_leI, q_gtI, q_geI, q_isN, q_isNotN, q_eqI, q_neI, q_eqB, q_eqT0, q_eqT1, q_neT0, q_neT1, q_eqL0, q_eqL1, q_neL0, q_neL1, q_int, q_abs, q_min2, q_max2, q_at0, q_at1, q_at2, q_at3, q_ix0, q_ix1, q_ix2, q_sz, q_iteS, q_iteT, q_iteR, q_iteV, q_iteBB, q_iteII, q_iteAnd, q_iteOr, q_iteNot, q_iteCon, q_pa0, q_pa1, q_pa2, q_pa3, q_pa4, q_ow4, q_ma0, q_ma1, q_ma2, q_ma3, q_ma4, q_ow0, q_ow1, q_ow2, q_ow3, q_c0, q_c1, q_c2, q_c3, q_c4, q_c5, q_c6, q_c7, q_c8, q_c9, q_c10, q_c11, q_c12, q_all0, q_all1, q_all2, q_all3, q_inN2, q_inN0, q_02a, q_02b, q_repr, q_ol1, q_ol2, q_ol3, q_ll1, q_ll2, q_ll3, q_scB, List.getElem?_cons_zero, List.getElem?_cons_succ, List.set_cons_zero, List.set_cons_succ, wipeE, initE, outsOf, toAv, toAvB, scal, slotsOf, putOuts, natNodup, List.map_cons, List.map_nil, List.cons_append, List.nil_append, List.append_nil, List.replicate, List.length_cons, List.length_nil, isNone, isiD, seqD, gItem, truD, zipOf, zipD, pick, List.contains_nil, List.contains_cons, eq_self, List.cons_ne_nil, if_true, if_false, Bool.false_eq_true, Bool.true_eq_false, Bool.not_true, Bool.not_false, reduceIte, decide_true, decide_false, Nat.reduceAdd, Nat.reduceSub, Nat.zero_add, Nat.add_zero, and_self, true_and, and_true, Bool.and_true, Bool.true_and, Bool.or_false, Bool.false_or, Bool.or_true, Bool.true_or, Bool.and_false, Bool.false_and, Bool.or_self, Bool.and_self, Nat.sub_self, Option.map_some, Option.map_none, Nat.reduceBEq, Bool.not_eq_true, beq_self_eq_true, Nat.reduceLeDiff, Nat.reduceLT, Nat.reduceEqDiff, List.filterMap_cons, List.filterMap_nil, $as,*])
open PySem PySem.Spec PyProof.Rows L2
section
variable {f g h w : Fn}
theorem k_check_whole_ok (hs : ∀ i, f [.val (.int i)] = some (.val (.bool true), [])) (i : Int) : k_check_whole f [.val (.int i)] = some (.val .none, []) := by
  simp! only [k_check_whole, k_check_whole_b, hs]
/-! ### the law's own -/
end
end Ev
namespace Ev
local macro_rules
  | `(tactic| simp! only [$as,*]) => `(tactic| simp only [↓x_var, ↓x_C, ↓x_op, ↓x_fz, ↓x_rV, ↓x_B, ↓x_chain, ↓x_tru, ↓x_notT, ↓x_andT, ↓x_orT, ↓x_and, ↓x_or, ↓x_not, ↓x_neg, ↓x_if, ↓x_aNil, ↓x_aVal, ↓x_aSlot, ↓x_aTmp, ↓x_aR, ↓x_call, ↓x_callK, ↓x_dNil, ↓x_dCons, ↓x_tup, ↓x_lst, ↓x_itemN, ↓x_ownItem, ↓x_lenN, ↓x_blt, ↓x_isi, ↓x_list, ↓x_rgL1, ↓x_rgL2, ↓x_iSeq, ↓x_iZip, ↓x_range1, ↓x_range2, ↓x_addR, ↓x_slice, ↓x_partN, ↓x_partS, ↓x_comp, ↓x_skip, ↓x_stuck, ↓x_break, ↓x_cont, ↓x_seq, ↓x_sIf, ↓x_sExpr, ↓x_ret, ↓x_retN, ↓x_move, ↓x_setRv, ↓x_setRf, ↓x_setRm, ↓x_set, ↓x_gN, ↓x_gsNil, ↓x_gsCons, ↓x_gTup, ↓x_gIx, ↓x_setAt, ↓x_asg, ↓x_par, ↓x_sm0, ↓x_smV, ↓x_smF, ↓x_app, ↓x_for, ↓x_for0, ↓x_for1, ↓x_comp0, ↓x_comp1, ↓x_fn, ↓x_iEnum, ↓x_range3, ↓x_comp2, ↓x_compN0, ↓x_compN1, ↓x_item2, ↓x_item2M, ↓x_gIx2, ↓x_compM, ↓x_callB, ↓x_pop, ↓x_dStar, ↓x_seeAt, ↓x_see, ↓x_seeR, ↓x_rev, ↓x_idx, q_addI, q_addT, q_addL, q_subI, q_ltI, q_leI, q_gtI, q_geI, q_isN, q_isNotN, q_eqI, q_neI, q_eqB, q_eqT0, q_eqT1, q_neT0, q_neT1, q_eqL0, q_eqL1, q_neL0, q_neL1, q_int, q_abs, q_min2, q_max2, q_at0, q_at1, q_at2, q_at3, q_ix0, q_ix1, q_ix2, q_sz, q_iteS, q_iteT, q_iteR, q_iteV, q_iteBB, q_iteII, q_iteAnd, q_iteOr, q_iteNot, q_iteCon, q_pa0, q_pa1, q_pa2, q_pa3, q_pa4, q_ow4, q_ma0, q_ma1, q_ma2, q_ma3, q_ma4, q_ow0, q_ow1, q_ow2, q_ow3, q_c0, q_c1, q_c2, q_c3, q_c4, q_c5, q_c6, q_c7, q_c8, q_c9, q_c10, q_c11, q_c12, q_all0, q_all1, q_all2, q_all3, q_inN2, q_inN0, q_02a, q_02b, q_repr, q_ol1, q_ol2, q_ol3, q_ll1, q_ll2, q_ll3, q_scB, List.getElem?_cons_zero, List.getElem?_cons_succ, List.set_cons_zero, List.set_cons_succ, wipeE, initE, outsOf, toAv, toAvB, scal, slotsOf, putOuts, natNodup, List.map_cons, List.map_nil, List.cons_append, List.nil_append, List.append_nil, List.replicate, List.length_cons, List.length_nil, isNone, isiD, seqD, gItem, truD, zipOf, zipD, pick, List.contains_nil, List.contains_cons, eq_self, List.cons_ne_nil, if_true, if_false, Bool.false_eq_true, Bool.true_eq_false, Bool.not_true, Bool.not_false, reduceIte, decide_true, decide_false, Nat.reduceAdd, Nat.reduceSub, Nat.zero_add, Nat.add_zero, and_self, true_and, and_true, Bool.and_true, Bool.true_and, Bool.or_false, Bool.false_or, Bool.or_true, Bool.true_or, Bool.and_false, Bool.false_and, Bool.or_self, Bool.and_self, Nat.sub_self, Option.map_some, Option.map_none, Nat.reduceBEq, Bool.not_eq_true, beq_self_eq_true, Nat.reduceLeDiff, Nat.reduceLT, Nat.reduceEqDiff, List.filterMap_cons, List.filterMap_nil, $as,*])
open PySem PySem.Spec PyProof.Rows L2
theorem forL_cnt {g : Gf} {b : Fx Fl} {I : Nat → En → Prop} : ∀ (ds : List D) (n : Nat) (env : En), I n env → (∀ d ∈ ds, ∀ m e, m < n + ds.length → I m e → ∃ e1 e2, g d e = some e1 ∧ b e1 = some (.nx, e2) ∧ I (m + 1) e2) → ∃ e, forL g b ds env = some (.nx, e) ∧ I (n + ds.length) e
  | [], n, env, h, _ => ⟨env, rfl, h⟩
  | d :: ds, n, env, h, H => by
    obtain ⟨e1, e2, h1, h2, h3⟩ := H d (List.mem_cons_self ..) n env (by rw [List.length_cons]; omega) h
    obtain ⟨e, h4, h5⟩ := forL_cnt ds (n + 1) e2 h3 fun x hx m e hm => H x (List.mem_cons_of_mem _ hx) m e (by rw [List.length_cons]; omega)
    refine ⟨e, ?_, by rw [List.length_cons, show n + (ds.length + 1) = n + 1 + ds.length by omega]; exact h5⟩
    rw [x_for1, h1]
    dsimp only
    rw [h2]
    exact h4
/-- a slot that may be written -/
def Fr (s : Sl) : Prop := isPar s = false
/-! ### picking -/
theorem atI_mem {xs : List D} {v : Int} (h0 : 0 ≤ v) (h1 : v < xs.length) : ∃ d ∈ xs, atI xs v = some d := by
  have hi : v.toNat < xs.length := by omega
  refine ⟨xs[v.toNat], List.getElem_mem hi, ?_⟩
  unfold atI
  rw [q_ixN h0 h1]
  exact List.getElem?_eq_getElem hi
def Pk (g : Fn) : Prop := ∀ (b : Nat) (ds xs : List D), Src (b + 1) ds → xs ≠ [] → xs.length < 1000000 →
  (∃ d ∈ xs, ∃ ds', g [.own ds, .val (.list xs)] = some (.val d, [ds']) ∧ Src b ds') ∧ ∃ d ∈ xs, ∃ ds', g [.own ds, .val (.tuple xs)] = some (.val d, [ds']) ∧ Src b ds'
theorem k_pick_ok {t : Fn} (T : Tk t) : Pk (k__law_pick t) := by
  intro b ds xs h hx hl
  have hp : 0 < xs.length := List.length_pos_iff.mpr hx
  obtain ⟨v, d1, e1, p1, q1, s1⟩ := T _ ds xs.length h (by omega) (by omega)
  obtain ⟨d, hd, ha⟩ := atI_mem p1 q1
  refine ⟨⟨d, hd, d1, ?_, s1⟩, ⟨d, hd, d1, ?_, s1⟩⟩
  · simp! only [k__law_pick, k__law_pick_b, e1, ha]
  · simp! only [k__law_pick, k__law_pick_b, e1, ha]
/-! ### stretches drawn -/
def szE (z : Int) : EE → Prop
  | none => True
  | some i => -z ≤ i ∧ i ≤ z
def szS (z : Int) : SS → Prop
  | none => True
  | some (l, h) => szE z l ∧ szE z h
theorem szE.mono {z z' : Int} {x : EE} (h : szE z x) (hz : z ≤ z') : szE z' x := by
  cases x with
  | none => trivial
  | some i =>
    obtain ⟨h1, h2⟩ := h
    exact ⟨by omega, by omega⟩
theorem szS.mono {z z' : Int} {x : SS} (h : szS z x) (hz : z ≤ z') : szS z' x := by
  rcases x with _ | ⟨l, r⟩
  · trivial
  · exact ⟨h.1.mono hz, h.2.mono hz⟩
def St (k : Nat) (z : Int) (g : Fn) : Prop := ∀ (b : Nat) (ds : List D), Src (b + k) ds → ∃ (a : SS) (ds' : List D), g [.own ds] = some (.val (eS a), [ds']) ∧ okS a = true ∧ szS z a ∧ Src b ds'
/-! ### the same -/
def gd : Nat → D → Bool
  | _, .none => true
  | _, .bool _ => true
  | _, .int _ => true
  | k + 1, .tuple xs => decide (xs.length ≤ 1000) && xs.all (gd k)
  | _, _ => false
def SameOk (k : Nat) (g : Fn) : Prop := ∀ d, gd k d = true → g [.val d, .val d] = some (.val (.bool true), [])
theorem zip_self : ∀ xs : List D, zipD xs xs = xs.map fun d => .tuple [d, d]
  | [] => rfl
  | d :: xs => congrArg (PyData.tuple [d, d] :: ·) (zip_self xs)
theorem k_same_flat {w f : Fn} (hw : ∀ i, w [.val (.int i)] = some (.val (.bool true), [])) : (k__law_same w f [.val .none, .val .none] = some (.val (.bool true), [])) ∧ (∀ b, k__law_same w f [.val (.bool b), .val (.bool b)] = some (.val (.bool true), [])) ∧ ∀ i, k__law_same w f [.val (.int i), .val (.int i)] = some (.val (.bool true), []) := by
  refine ⟨?_, fun b => ?_, fun i => ?_⟩
  · simp! only [k__law_same, k__law_same_b]
  · simp! only [k__law_same, k__law_same_b]
  · simp! only [k__law_same, k__law_same_b, hw]
theorem k_same_ok {w f : Fn} (hw : ∀ i, w [.val (.int i)] = some (.val (.bool true), [])) : SameOk 0 (k__law_same w f) := by
  obtain ⟨h1, h2, h3⟩ := k_same_flat (f := f) hw
  intro d hd
  cases d with
  | none => exact h1
  | bool b => exact h2 b
  | int i => exact h3 i
  | _ => cases hd
theorem k_same_up {w f : Fn} {k : Nat} (hw : ∀ i, w [.val (.int i)] = some (.val (.bool true), [])) (hf : SameOk k f) : SameOk (k + 1) (k__law_same w f) := by
  obtain ⟨h1, h2, h3⟩ := k_same_flat (f := f) hw
  intro d hd
  cases d with
  | none => exact h1
  | bool b => exact h2 b
  | int i => exact h3 i
  | tuple xs =>
    obtain ⟨hl, hx⟩ := He.ba (show (decide (xs.length ≤ 1000) && xs.all (gd k)) = true from hd)
    have hl := of_decide_eq_true hl
    have hc : compL (gTup 2 (gsCons (gN 2) (gsCons (gN 3) gsNil))) (fun env => some (true, env)) (eFz (eCall f (aVal (eVar 2) (aVal (eVar 3) aNil)))) [2, 3] (zipD xs xs) [] [.val (.tuple xs), .val (.tuple xs), .no, .no] = some ([] ++ (zipD xs xs).map (fun _ => .bool true), [.val (.tuple xs), .val (.tuple xs), .no, .no]) := by
      rw [zip_self]
      refine compL_all _ [] (by rw [List.length_map, List.length_nil, q_sz]; omega) fun d hd => ?_
      obtain ⟨e, he, rfl⟩ := List.mem_map.mp hd
      have := hf e (List.all_eq_true.mp hx e he)
      refine ⟨[.val (.tuple xs), .val (.tuple xs), .val e, .val e], [.val (.tuple xs), .val (.tuple xs), .val e, .val e], [.val (.tuple xs), .val (.tuple xs), .val e, .val e], ?_, rfl, ?_, ?_⟩ <;> simp! only [this]
    have ha : gAll [.list ((zipD xs xs).map (fun _ => .bool true))] = some (.bool true) := gAll_true fun d hd => by
      obtain ⟨_, _, rfl⟩ := List.mem_map.mp hd
      rfl
    simp! only [k__law_same, k__law_same_b, hc, ha]
  | _ => cases hd
/-! ### numbers beside the ends -/
end Ev
namespace Ev
open PySem PySem.Spec PyProof.Rows L2
theorem gd_tup (k : Nat) (xs : List D) (hl : xs.length ≤ 1000) (h : ∀ d ∈ xs, gd k d = true) : gd (k + 1) (.tuple xs) = true := by
  show (decide (xs.length ≤ 1000) && xs.all (gd k)) = true
  simp only [hl, decide_true, Bool.true_and, List.all_eq_true]
  exact h
theorem all_nil {p : D → Prop} : ∀ d ∈ ([] : List D), p d := fun _ h => by cases h
theorem all_cons {p : D → Prop} {x : D} {xs : List D} (h : p x) (t : ∀ d ∈ xs, p d) : ∀ d ∈ x :: xs, p d := fun d hd => by
  rcases List.mem_cons.mp hd with rfl | hd
  · exact h
  · exact t d hd
/-! ### laws of stretches -/
end Ev
namespace Ev
local macro_rules
  | `(tactic| simp! only [$as,*]) => `(tactic| simp only [↓x_var, ↓x_C, ↓x_op, ↓x_fz, ↓x_rV, ↓x_B, ↓x_chain, ↓x_tru, ↓x_notT, ↓x_andT, ↓x_orT, ↓x_and, ↓x_or, ↓x_not, ↓x_neg, ↓x_if, ↓x_aNil, ↓x_aVal, ↓x_aSlot, ↓x_aTmp, ↓x_aR, ↓x_call, ↓x_callK, ↓x_dNil, ↓x_dCons, ↓x_tup, ↓x_lst, ↓x_itemN, ↓x_ownItem, ↓x_lenN, ↓x_blt, ↓x_isi, ↓x_list, ↓x_rgL1, ↓x_rgL2, ↓x_iSeq, ↓x_iZip, ↓x_range1, ↓x_range2, ↓x_addR, ↓x_slice, ↓x_partN, ↓x_partS, ↓x_comp, ↓x_skip, ↓x_stuck, ↓x_break, ↓x_cont, ↓x_seq, ↓x_sIf, ↓x_sExpr, ↓x_ret, ↓x_retN, ↓x_move, ↓x_setRv, ↓x_setRf, ↓x_setRm, ↓x_set, ↓x_gN, ↓x_gsNil, ↓x_gsCons, ↓x_gTup, ↓x_gIx, ↓x_setAt, ↓x_asg, ↓x_par, ↓x_sm0, ↓x_smV, ↓x_smF, ↓x_app, ↓x_for, ↓x_for0, ↓x_for1, ↓x_comp0, ↓x_comp1, ↓x_fn, ↓x_iEnum, ↓x_range3, ↓x_comp2, ↓x_compN0, ↓x_compN1, ↓x_item2, ↓x_item2M, ↓x_gIx2, ↓x_compM, ↓x_callB, ↓x_pop, ↓x_dStar, ↓x_seeAt, ↓x_see, ↓x_seeR, ↓x_rev, ↓x_idx, q_addI, q_addT, q_addL, q_subI, q_ltI, q_leI, q_gtI, q_geI, q_isN, q_isNotN, q_eqI, q_neI, q_eqB, q_eqT0, q_eqT1, q_neT0, q_neT1, q_eqL0, q_eqL1, q_neL0, q_neL1, q_int, q_abs, q_min2, q_max2, q_at0, q_at1, q_at2, q_at3, q_ix0, q_ix1, q_ix2, q_sz, q_iteS, q_iteT, q_iteR, q_iteV, q_iteBB, q_iteII, q_iteAnd, q_iteOr, q_iteNot, q_iteCon, q_pa0, q_pa1, q_pa2, q_pa3, q_pa4, q_ow4, q_ma0, q_ma1, q_ma2, q_ma3, q_ma4, q_ow0, q_ow1, q_ow2, q_ow3, q_c0, q_c1, q_c2, q_c3, q_c4, q_c5, q_c6, q_c7, q_c8, q_c9, q_c10, q_c11, q_c12, q_all0, q_all1, q_all2, q_all3, q_inN2, q_inN0, q_02a, q_02b, q_repr, q_ol1, q_ol2, q_ol3, q_ll1, q_ll2, q_ll3, q_scB, List.getElem?_cons_zero, List.getElem?_cons_succ, List.set_cons_zero, List.set_cons_succ, wipeE, initE, outsOf, toAv, toAvB, scal, slotsOf, putOuts, natNodup, List.map_cons, List.map_nil, List.cons_append, List.nil_append, List.append_nil, List.replicate, List.length_cons, List.length_nil, isNone, isiD, seqD, gItem, truD, zipOf, zipD, pick, List.contains_nil, List.contains_cons, eq_self, List.cons_ne_nil, if_true, if_false, Bool.false_eq_true, Bool.true_eq_false, Bool.not_true, Bool.not_false, reduceIte, decide_true, decide_false, Nat.reduceAdd, Nat.reduceSub, Nat.zero_add, Nat.add_zero, and_self, true_and, and_true, Bool.and_true, Bool.true_and, Bool.or_false, Bool.false_or, Bool.or_true, Bool.true_or, Bool.and_false, Bool.false_and, Bool.or_self, Bool.and_self, Nat.sub_self, Option.map_some, Option.map_none, Nat.reduceBEq, Bool.not_eq_true, beq_self_eq_true, Nat.reduceLeDiff, Nat.reduceLT, Nat.reduceEqDiff, List.filterMap_cons, List.filterMap_nil, $as,*])
open PySem PySem.Spec PyProof.Rows L2
theorem tr {P : Fn → Prop} {f g : Fn} (e : f = g) (h : P g) : P f := e ▸ h
def Rg (g : Fn) : Prop := ∀ ds, Src 100000000 ds → ∃ ds', g [.own ds] = some (.val (.bool true), [ds'])
def Sc (ns : List Int) (so : Fn) : Prop := ∀ t : Int, 0 ≤ t → t < 64 → ∃ ds', so [.val (.list (ns.map PyData.int)), .val (.int t)] = some (.fresh ds', []) ∧ Src 100000000 ds'
theorem source_sc {p q : Int} (hp : 0 ≤ p ∧ p < 2 ^ 40) (hq : 0 ≤ q ∧ q < 2 ^ 40) (ns : List Int) : Sc ns (callFn 5 (sourceC p q)) := fun t h0 h1 => source_ok hp hq ns t h0 h1
/-! ## k24: the checks -/
section
variable {wi jo me sa li lj lm ho ha : Fn}
end
section
variable {nu st nr be tw th nb : Fn}
end
/-! ## the law -/
def lawC (ri so : Fn) : Fx Fl := (sRet (rV (eBlt gAll (dCons (eFz (eComp (iRange1 (eBlt gMax (dCons (eC (.int 2)) (dCons (eBlt gMin (dCons (eLenN 0) (dCons (eC (.int 5)) dNil))) dNil)))) (gN 1) (fun env => some (true, env)) (eFz (eCall ri (aTmp (eCall so (aVal (eVar 0) (aVal (eVar 1) aNil))) aNil))) [1])) dNil))))
theorem law_ok {ri so : Fn} {ns : List Int} (hs : Sc ns so) (hr : Rg ri) : callFn 2 (lawC ri so) [.val (.list (ns.map PyData.int))] = some (.val (.bool true), []) := by
  have hm : ∃ m : Nat, max (2 : Int) (min ((ns.map PyData.int).length : Int) 5) = (m : Int) ∧ m ≤ 5 := ⟨(max (2 : Int) (min ((ns.map PyData.int).length : Int) 5)).toNat, by omega, by omega⟩
  obtain ⟨m, hm, hm5⟩ := hm
  have hc : compL (gN 1) (fun env => some (true, env)) (eFz (eCall ri (aTmp (eCall so (aVal (eVar 0) (aVal (eVar 1) aNil))) aNil))) [1] (rangeD 0 ((m : Int) - 0).toNat) [] [.val (.list (ns.map PyData.int)), .no] = some ([] ++ (rangeD 0 ((m : Int) - 0).toNat).map (fun _ => .bool true), [.val (.list (ns.map PyData.int)), .no]) := by
    refine compL_all _ [] ?_ fun d hd => ?_
    · unfold rangeD
      rw [List.length_map, List.length_range, List.length_nil, q_sz]
      omega
    · unfold rangeD at hd
      obtain ⟨k, hk, rfl⟩ := List.mem_map.mp hd
      have hk' := List.mem_range.mp hk
      obtain ⟨d1, e1, s1⟩ := hs (0 + (k : Nat)) (by omega) (by omega)
      obtain ⟨d2, e2⟩ := hr d1 s1
      refine ⟨[.val (.list (ns.map PyData.int)), .val (.int (0 + (k : Nat)))], [.val (.list (ns.map PyData.int)), .val (.int (0 + (k : Nat)))], [.val (.list (ns.map PyData.int)), .val (.int (0 + (k : Nat)))], ?_, rfl, ?_, ?_⟩
      · simp only [x_gN, x_setRv, List.getElem?_cons_zero, List.getElem?_cons_succ, q_pa0, List.set_cons_succ, List.set_cons_zero, Bool.false_eq_true, if_false]
      · simp only [x_fz, x_call, x_aTmp, x_aVal, x_aNil, x_var, List.getElem?_cons_zero, List.getElem?_cons_succ, natNodup, slotsOf, toAv, putOuts, Option.map_some, if_true, e1, e2]
      · rfl
  have ha : gAll [.list ((rangeD 0 ((m : Int) - 0).toNat).map (fun _ => .bool true))] = some (.bool true) := gAll_true fun d hd => by
    obtain ⟨_, _, rfl⟩ := List.mem_map.mp hd
    rfl
  simp! only [lawC, hm, hc, ha]
end Ev
namespace Ev
local macro_rules
  | `(tactic| simp! only [$as,*]) => `(tactic| simp only [↓x_var, ↓x_C, ↓x_op, ↓x_fz, ↓x_rV, ↓x_B, ↓x_chain, ↓x_tru, ↓x_notT, ↓x_andT, ↓x_orT, ↓x_and, ↓x_or, ↓x_not, ↓x_neg, ↓x_if, ↓x_aNil, ↓x_aVal, ↓x_aSlot, ↓x_aTmp, ↓x_aR, ↓x_call, ↓x_callK, ↓x_dNil, ↓x_dCons, ↓x_tup, ↓x_lst, ↓x_itemN, ↓x_ownItem, ↓x_lenN, ↓x_blt, ↓x_isi, ↓x_list, ↓x_rgL1, ↓x_rgL2, ↓x_iSeq, ↓x_iZip, ↓x_range1, ↓x_range2, ↓x_addR, ↓x_slice, ↓x_partN, ↓x_partS, ↓x_comp, ↓x_skip, ↓x_stuck, ↓x_break, ↓x_cont, ↓x_seq, ↓x_sIf, ↓x_sExpr, ↓x_ret, ↓x_retN, ↓x_move, ↓x_setRv, ↓x_setRf, ↓x_setRm, ↓x_set, ↓x_gN, ↓x_gsNil, ↓x_gsCons, ↓x_gTup, ↓x_gIx, ↓x_setAt, ↓x_asg, ↓x_par, ↓x_sm0, ↓x_smV, ↓x_smF, ↓x_app, ↓x_for, ↓x_for0, ↓x_for1, ↓x_comp0, ↓x_comp1, ↓x_fn, ↓x_iEnum, ↓x_range3, ↓x_comp2, ↓x_compN0, ↓x_compN1, ↓x_item2, ↓x_item2M, ↓x_gIx2, ↓x_compM, ↓x_callB, ↓x_pop, ↓x_dStar, ↓x_seeAt, ↓x_see, ↓x_seeR, ↓x_rev, ↓x_idx, q_addI, q_addT, q_addL, q_subI, q_ltI, q_leI, q_gtI, q_geI, q_isN, q_isNotN, q_eqI, q_neI, q_eqB, q_eqT0, q_eqT1, q_neT0, q_neT1, q_eqL0, q_eqL1, q_neL0, q_neL1, q_int, q_abs, q_min2, q_max2, q_at0, q_at1, q_at2, q_at3, q_ix0, q_ix1, q_ix2, q_sz, q_iteS, q_iteT, q_iteR, q_iteV, q_iteBB, q_iteII, q_iteAnd, q_iteOr, q_iteNot, q_iteCon, q_pa0, q_pa1, q_pa2, q_pa3, q_pa4, q_ow4, q_ma0, q_ma1, q_ma2, q_ma3, q_ma4, q_ow0, q_ow1, q_ow2, q_ow3, q_c0, q_c1, q_c2, q_c3, q_c4, q_c5, q_c6, q_c7, q_c8, q_c9, q_c10, q_c11, q_c12, q_all0, q_all1, q_all2, q_all3, q_inN2, q_inN0, q_02a, q_02b, q_repr, q_ol1, q_ol2, q_ol3, q_ll1, q_ll2, q_ll3, q_scB, List.getElem?_cons_zero, List.getElem?_cons_succ, List.set_cons_zero, List.set_cons_succ, wipeE, initE, outsOf, toAv, toAvB, scal, slotsOf, putOuts, natNodup, List.map_cons, List.map_nil, List.cons_append, List.nil_append, List.append_nil, List.replicate, List.length_cons, List.length_nil, isNone, isiD, seqD, gItem, truD, zipOf, zipD, pick, List.contains_nil, List.contains_cons, eq_self, List.cons_ne_nil, if_true, if_false, Bool.false_eq_true, Bool.true_eq_false, Bool.not_true, Bool.not_false, reduceIte, decide_true, decide_false, Nat.reduceAdd, Nat.reduceSub, Nat.zero_add, Nat.add_zero, and_self, true_and, and_true, Bool.and_true, Bool.true_and, Bool.or_false, Bool.false_or, Bool.or_true, Bool.true_or, Bool.and_false, Bool.false_and, Bool.or_self, Bool.and_self, Nat.sub_self, Option.map_some, Option.map_none, Nat.reduceBEq, Bool.not_eq_true, beq_self_eq_true, Nat.reduceLeDiff, Nat.reduceLT, Nat.reduceEqDiff, List.filterMap_cons, List.filterMap_nil, $as,*])
open PySem PySem.Spec PyProof.Rows L2
/-! ## k28: guards -/
inductive Wd4 where
  | lt | le | eq | ne
def Wd4.s : Wd4 → Str
  | .lt => "<" | .le => "<=" | .eq => "==" | .ne => "!="
theorem q_w1 : gEq (.str "<") (.str "<") = some (.bool true) := by kernel_rfl
theorem q_w2 : gEq (.str "<=") (.str "<") = some (.bool false) := by kernel_rfl
theorem q_w3 : gEq (.str "==") (.str "<") = some (.bool false) := by kernel_rfl
theorem q_w4 : gEq (.str "!=") (.str "<") = some (.bool false) := by kernel_rfl
theorem q_w6 : gEq (.str "<=") (.str "<=") = some (.bool true) := by kernel_rfl
theorem q_w7 : gEq (.str "==") (.str "<=") = some (.bool false) := by kernel_rfl
theorem q_w8 : gEq (.str "!=") (.str "<=") = some (.bool false) := by kernel_rfl
theorem q_w9 : gEq (.str "<") (.str "==") = some (.bool false) := by kernel_rfl
theorem q_w10 : gEq (.str "<=") (.str "==") = some (.bool false) := by kernel_rfl
theorem q_w11 : gEq (.str "==") (.str "==") = some (.bool true) := by kernel_rfl
theorem q_w12 : gEq (.str "!=") (.str "==") = some (.bool false) := by kernel_rfl
theorem q_w13 : gEq (.str "<") (.str "!=") = some (.bool false) := by kernel_rfl
theorem q_w14 : gEq (.str "<=") (.str "!=") = some (.bool false) := by kernel_rfl
theorem q_w15 : gEq (.str "==") (.str "!=") = some (.bool false) := by kernel_rfl
theorem q_w16 : gEq (.str "!=") (.str "!=") = some (.bool true) := by kernel_rfl
theorem q_g1 : gNotIn (.str "<") (.tuple [(.str "<"), (.str "<="), (.str "=="), (.str "!=")]) = some (.bool false) := by kernel_rfl
theorem q_g2 : gNotIn (.str "<=") (.tuple [(.str "<"), (.str "<="), (.str "=="), (.str "!=")]) = some (.bool false) := by kernel_rfl
theorem q_g3 : gNotIn (.str "==") (.tuple [(.str "<"), (.str "<="), (.str "=="), (.str "!=")]) = some (.bool false) := by kernel_rfl
theorem q_g4 : gNotIn (.str "!=") (.tuple [(.str "<"), (.str "<="), (.str "=="), (.str "!=")]) = some (.bool false) := by kernel_rfl
theorem eqv_eE : ∀ x y : EE, PyData.eqv (eE x) (eE y) = decide (x = y)
  | none, none => rfl
  | none, some _ => rfl
  | some _, none => rfl
  | some i, some j => by
    show (i == j) = _
    by_cases h : i = j
    · subst h; simp
    · simp [h]
theorem depth_eE (x : EE) : (eE x).depth = 0 := by cases x <;> rfl
theorem q_neE (x y : EE) : gNe (eE x) (eE y) = some (.bool (!decide (x = y))) := by
  have h : eqOk (eE x) (eE y) = true := decide_eq_true (by rw [depth_eE]; omega)
  unfold gNe
  rw [if_pos h, eqv_eE]
/-! ### what they do -/
section
variable {f g h w : Fn}
theorem k_check_guard_ok (w : Wd4) : k_check_guard [.val (.str w.s)] = some (.val .none, []) := by
  cases w <;> simp! only [k_check_guard, k_check_guard_b, Wd4.s, q_g1, q_g2, q_g3, q_g4]
/-! ### the law's own -/
def letsB (w : Wd4) (x y : Int) : Bool := match w with
  | .lt => decide (x < y)
  | .le => decide (x ≤ y)
  | .eq => decide (x = y)
  | .ne => !decide (x = y)
theorem k_lets_ok (w : Wd4) (x y : Int) : k__law_lets [.val (.str w.s), .val (.int x), .val (.int y)] = some (.val (.bool (letsB w x y)), []) := by
  cases w <;> simp! only [k__law_lets, k__law_lets_b, Wd4.s, q_w1, q_w2, q_w3, q_w4, q_w6, q_w7, q_w8, q_w11, q_w12, letsB]
end
end Ev
namespace Ev
open PySem PySem.Spec PyProof.Rows L2
/-! ## k28: laws of guards -/
end Ev
namespace Ev
local macro_rules
  | `(tactic| simp! only [$as,*]) => `(tactic| simp only [↓x_var, ↓x_C, ↓x_op, ↓x_fz, ↓x_rV, ↓x_B, ↓x_chain, ↓x_tru, ↓x_notT, ↓x_andT, ↓x_orT, ↓x_and, ↓x_or, ↓x_not, ↓x_neg, ↓x_if, ↓x_aNil, ↓x_aVal, ↓x_aSlot, ↓x_aTmp, ↓x_aR, ↓x_call, ↓x_callK, ↓x_dNil, ↓x_dCons, ↓x_tup, ↓x_lst, ↓x_itemN, ↓x_ownItem, ↓x_lenN, ↓x_blt, ↓x_isi, ↓x_list, ↓x_rgL1, ↓x_rgL2, ↓x_iSeq, ↓x_iZip, ↓x_range1, ↓x_range2, ↓x_addR, ↓x_slice, ↓x_partN, ↓x_partS, ↓x_comp, ↓x_skip, ↓x_stuck, ↓x_break, ↓x_cont, ↓x_seq, ↓x_sIf, ↓x_sExpr, ↓x_ret, ↓x_retN, ↓x_move, ↓x_setRv, ↓x_setRf, ↓x_setRm, ↓x_set, ↓x_gN, ↓x_gsNil, ↓x_gsCons, ↓x_gTup, ↓x_gIx, ↓x_setAt, ↓x_asg, ↓x_par, ↓x_sm0, ↓x_smV, ↓x_smF, ↓x_app, ↓x_for, ↓x_for0, ↓x_for1, ↓x_comp0, ↓x_comp1, ↓x_fn, ↓x_iEnum, ↓x_range3, ↓x_comp2, ↓x_compN0, ↓x_compN1, ↓x_item2, ↓x_item2M, ↓x_gIx2, ↓x_compM, ↓x_callB, ↓x_pop, ↓x_dStar, ↓x_seeAt, ↓x_see, ↓x_seeR, ↓x_rev, ↓x_idx, q_addI, q_addT, q_addL, q_subI, q_ltI, q_leI, q_gtI, q_geI, q_isN, q_isNotN, q_eqI, q_neI, q_eqB, q_eqT0, q_eqT1, q_neT0, q_neT1, q_eqL0, q_eqL1, q_neL0, q_neL1, q_int, q_abs, q_min2, q_max2, q_at0, q_at1, q_at2, q_at3, q_ix0, q_ix1, q_ix2, q_sz, q_iteS, q_iteT, q_iteR, q_iteV, q_iteBB, q_iteII, q_iteAnd, q_iteOr, q_iteNot, q_iteCon, q_pa0, q_pa1, q_pa2, q_pa3, q_pa4, q_ow4, q_ma0, q_ma1, q_ma2, q_ma3, q_ma4, q_ow0, q_ow1, q_ow2, q_ow3, q_c0, q_c1, q_c2, q_c3, q_c4, q_c5, q_c6, q_c7, q_c8, q_c9, q_c10, q_c11, q_c12, q_all0, q_all1, q_all2, q_all3, q_inN2, q_inN0, q_02a, q_02b, q_repr, q_ol1, q_ol2, q_ol3, q_ll1, q_ll2, q_ll3, q_scB, List.getElem?_cons_zero, List.getElem?_cons_succ, List.set_cons_zero, List.set_cons_succ, wipeE, initE, outsOf, toAv, toAvB, scal, slotsOf, putOuts, natNodup, List.map_cons, List.map_nil, List.cons_append, List.nil_append, List.append_nil, List.replicate, List.length_cons, List.length_nil, isNone, isiD, seqD, gItem, truD, zipOf, zipD, pick, List.contains_nil, List.contains_cons, eq_self, List.cons_ne_nil, if_true, if_false, Bool.false_eq_true, Bool.true_eq_false, Bool.not_true, Bool.not_false, reduceIte, decide_true, decide_false, Nat.reduceAdd, Nat.reduceSub, Nat.zero_add, Nat.add_zero, and_self, true_and, and_true, Bool.and_true, Bool.true_and, Bool.or_false, Bool.false_or, Bool.or_true, Bool.true_or, Bool.and_false, Bool.false_and, Bool.or_self, Bool.and_self, Nat.sub_self, Option.map_some, Option.map_none, Nat.reduceBEq, Bool.not_eq_true, beq_self_eq_true, Nat.reduceLeDiff, Nat.reduceLT, Nat.reduceEqDiff, List.filterMap_cons, List.filterMap_nil, $as,*])
open PySem PySem.Spec PyProof.Rows L2
/-! ## all numbers of a small stretch -/
section
variable {f g h w : Fn}
/-! ### hulls -/
/-! ### pairs tried -/
end
end Ev
namespace Ev
local macro_rules
  | `(tactic| simp! only [$as,*]) => `(tactic| simp only [↓x_var, ↓x_C, ↓x_op, ↓x_fz, ↓x_rV, ↓x_B, ↓x_chain, ↓x_tru, ↓x_notT, ↓x_andT, ↓x_orT, ↓x_and, ↓x_or, ↓x_not, ↓x_neg, ↓x_if, ↓x_aNil, ↓x_aVal, ↓x_aSlot, ↓x_aTmp, ↓x_aR, ↓x_call, ↓x_callK, ↓x_dNil, ↓x_dCons, ↓x_tup, ↓x_lst, ↓x_itemN, ↓x_ownItem, ↓x_lenN, ↓x_blt, ↓x_isi, ↓x_list, ↓x_rgL1, ↓x_rgL2, ↓x_iSeq, ↓x_iZip, ↓x_range1, ↓x_range2, ↓x_addR, ↓x_slice, ↓x_partN, ↓x_partS, ↓x_comp, ↓x_skip, ↓x_stuck, ↓x_break, ↓x_cont, ↓x_seq, ↓x_sIf, ↓x_sExpr, ↓x_ret, ↓x_retN, ↓x_move, ↓x_setRv, ↓x_setRf, ↓x_setRm, ↓x_set, ↓x_gN, ↓x_gsNil, ↓x_gsCons, ↓x_gTup, ↓x_gIx, ↓x_setAt, ↓x_asg, ↓x_par, ↓x_sm0, ↓x_smV, ↓x_smF, ↓x_app, ↓x_for, ↓x_for0, ↓x_for1, ↓x_comp0, ↓x_comp1, ↓x_fn, ↓x_iEnum, ↓x_range3, ↓x_comp2, ↓x_compN0, ↓x_compN1, ↓x_item2, ↓x_item2M, ↓x_gIx2, ↓x_compM, ↓x_callB, ↓x_pop, ↓x_dStar, ↓x_seeAt, ↓x_see, ↓x_seeR, ↓x_rev, ↓x_idx, q_addI, q_addT, q_addL, q_subI, q_ltI, q_leI, q_gtI, q_geI, q_isN, q_isNotN, q_eqI, q_neI, q_eqB, q_eqT0, q_eqT1, q_neT0, q_neT1, q_eqL0, q_eqL1, q_neL0, q_neL1, q_int, q_abs, q_min2, q_max2, q_at0, q_at1, q_at2, q_at3, q_ix0, q_ix1, q_ix2, q_sz, q_iteS, q_iteT, q_iteR, q_iteV, q_iteBB, q_iteII, q_iteAnd, q_iteOr, q_iteNot, q_iteCon, q_pa0, q_pa1, q_pa2, q_pa3, q_pa4, q_ow4, q_ma0, q_ma1, q_ma2, q_ma3, q_ma4, q_ow0, q_ow1, q_ow2, q_ow3, q_c0, q_c1, q_c2, q_c3, q_c4, q_c5, q_c6, q_c7, q_c8, q_c9, q_c10, q_c11, q_c12, q_all0, q_all1, q_all2, q_all3, q_inN2, q_inN0, q_02a, q_02b, q_repr, q_ol1, q_ol2, q_ol3, q_ll1, q_ll2, q_ll3, q_scB, List.getElem?_cons_zero, List.getElem?_cons_succ, List.set_cons_zero, List.set_cons_succ, wipeE, initE, outsOf, toAv, toAvB, scal, slotsOf, putOuts, natNodup, List.map_cons, List.map_nil, List.cons_append, List.nil_append, List.append_nil, List.replicate, List.length_cons, List.length_nil, isNone, isiD, seqD, gItem, truD, zipOf, zipD, pick, List.contains_nil, List.contains_cons, eq_self, List.cons_ne_nil, if_true, if_false, Bool.false_eq_true, Bool.true_eq_false, Bool.not_true, Bool.not_false, reduceIte, decide_true, decide_false, Nat.reduceAdd, Nat.reduceSub, Nat.zero_add, Nat.add_zero, and_self, true_and, and_true, Bool.and_true, Bool.true_and, Bool.or_false, Bool.false_or, Bool.or_true, Bool.true_or, Bool.and_false, Bool.false_and, Bool.or_self, Bool.and_self, Nat.sub_self, Option.map_some, Option.map_none, Nat.reduceBEq, Bool.not_eq_true, beq_self_eq_true, Nat.reduceLeDiff, Nat.reduceLT, Nat.reduceEqDiff, List.filterMap_cons, List.filterMap_nil, $as,*])
local macro_rules
  | `(tactic| dsimp! only [$as,*]) => `(tactic| simp only [↓x_var, ↓x_C, ↓x_op, ↓x_fz, ↓x_rV, ↓x_B, ↓x_chain, ↓x_tru, ↓x_notT, ↓x_andT, ↓x_orT, ↓x_and, ↓x_or, ↓x_not, ↓x_neg, ↓x_if, ↓x_aNil, ↓x_aVal, ↓x_aSlot, ↓x_aTmp, ↓x_aR, ↓x_call, ↓x_callK, ↓x_dNil, ↓x_dCons, ↓x_tup, ↓x_lst, ↓x_itemN, ↓x_ownItem, ↓x_lenN, ↓x_blt, ↓x_isi, ↓x_list, ↓x_rgL1, ↓x_rgL2, ↓x_iSeq, ↓x_iZip, ↓x_range1, ↓x_range2, ↓x_addR, ↓x_slice, ↓x_partN, ↓x_partS, ↓x_comp, ↓x_skip, ↓x_stuck, ↓x_break, ↓x_cont, ↓x_seq, ↓x_sIf, ↓x_sExpr, ↓x_ret, ↓x_retN, ↓x_move, ↓x_setRv, ↓x_setRf, ↓x_setRm, ↓x_set, ↓x_gN, ↓x_gsNil, ↓x_gsCons, ↓x_gTup, ↓x_gIx, ↓x_setAt, ↓x_asg, ↓x_par, ↓x_sm0, ↓x_smV, ↓x_smF, ↓x_app, ↓x_for, ↓x_for0, ↓x_for1, ↓x_comp0, ↓x_comp1, ↓x_fn, ↓x_iEnum, ↓x_range3, ↓x_comp2, ↓x_compN0, ↓x_compN1, ↓x_item2, ↓x_item2M, ↓x_gIx2, ↓x_compM, ↓x_callB, ↓x_pop, ↓x_dStar, ↓x_seeAt, ↓x_see, ↓x_seeR, ↓x_rev, ↓x_idx, q_addI, q_addT, q_addL, q_subI, q_ltI, q_leI, q_gtI, q_geI, q_isN, q_isNotN, q_eqI, q_neI, q_eqB, q_eqT0, q_eqT1, q_neT0, q_neT1, q_eqL0, q_eqL1, q_neL0, q_neL1, q_int, q_abs, q_min2, q_max2, q_at0, q_at1, q_at2, q_at3, q_ix0, q_ix1, q_ix2, q_sz, q_iteS, q_iteT, q_iteR, q_iteV, q_iteBB, q_iteII, q_iteAnd, q_iteOr, q_iteNot, q_iteCon, q_pa0, q_pa1, q_pa2, q_pa3, q_pa4, q_ow4, q_ma0, q_ma1, q_ma2, q_ma3, q_ma4, q_ow0, q_ow1, q_ow2, q_ow3, q_c0, q_c1, q_c2, q_c3, q_c4, q_c5, q_c6, q_c7, q_c8, q_c9, q_c10, q_c11, q_c12, q_all0, q_all1, q_all2, q_all3, q_inN2, q_inN0, q_02a, q_02b, q_repr, q_ol1, q_ol2, q_ol3, q_ll1, q_ll2, q_ll3, q_scB, List.getElem?_cons_zero, List.getElem?_cons_succ, List.set_cons_zero, List.set_cons_succ, wipeE, initE, outsOf, toAv, toAvB, scal, slotsOf, putOuts, natNodup, List.map_cons, List.map_nil, List.cons_append, List.nil_append, List.append_nil, List.replicate, List.length_cons, List.length_nil, isNone, isiD, seqD, truD, zipOf, zipD, pick, List.contains_nil, List.contains_cons, eq_self, List.cons_ne_nil, if_true, if_false, Bool.false_eq_true, Bool.true_eq_false, Bool.not_true, Bool.not_false, reduceIte, decide_true, decide_false, Nat.reduceAdd, Nat.reduceSub, Nat.zero_add, Nat.add_zero, and_self, true_and, and_true, Bool.and_true, Bool.true_and, Bool.or_false, Bool.false_or, Bool.or_true, Bool.true_or, Bool.and_false, Bool.false_and, Bool.or_self, Bool.and_self, Nat.sub_self, Option.map_some, Option.map_none, Nat.reduceBEq, Bool.not_eq_true, beq_self_eq_true, Nat.reduceLeDiff, Nat.reduceLT, Nat.reduceEqDiff, List.filterMap_cons, List.filterMap_nil, $as,*])
open PySem PySem.Spec PyProof.Rows L2
/-! ### the checks -/
section
variable {gu sa al lg lt ho le : Fn}
end
end Ev
namespace Ev
local macro_rules
  | `(tactic| simp! only [$as,*]) => `(tactic| simp only [↓x_var, ↓x_C, ↓x_op, ↓x_fz, ↓x_rV, ↓x_B, ↓x_chain, ↓x_tru, ↓x_notT, ↓x_andT, ↓x_orT, ↓x_and, ↓x_or, ↓x_not, ↓x_neg, ↓x_if, ↓x_aNil, ↓x_aVal, ↓x_aSlot, ↓x_aTmp, ↓x_aR, ↓x_call, ↓x_callK, ↓x_dNil, ↓x_dCons, ↓x_tup, ↓x_lst, ↓x_itemN, ↓x_ownItem, ↓x_lenN, ↓x_blt, ↓x_isi, ↓x_list, ↓x_rgL1, ↓x_rgL2, ↓x_iSeq, ↓x_iZip, ↓x_range1, ↓x_range2, ↓x_addR, ↓x_slice, ↓x_partN, ↓x_partS, ↓x_comp, ↓x_skip, ↓x_stuck, ↓x_break, ↓x_cont, ↓x_seq, ↓x_sIf, ↓x_sExpr, ↓x_ret, ↓x_retN, ↓x_move, ↓x_setRv, ↓x_setRf, ↓x_setRm, ↓x_set, ↓x_gN, ↓x_gsNil, ↓x_gsCons, ↓x_gTup, ↓x_gIx, ↓x_setAt, ↓x_asg, ↓x_par, ↓x_sm0, ↓x_smV, ↓x_smF, ↓x_app, ↓x_for, ↓x_for0, ↓x_for1, ↓x_comp0, ↓x_comp1, ↓x_fn, ↓x_iEnum, ↓x_range3, ↓x_comp2, ↓x_compN0, ↓x_compN1, ↓x_item2, ↓x_item2M, ↓x_gIx2, ↓x_compM, ↓x_callB, ↓x_pop, ↓x_dStar, ↓x_seeAt, ↓x_see, ↓x_seeR, ↓x_rev, ↓x_idx, q_addI, q_addT, q_addL, q_subI, q_ltI, q_leI, q_gtI, q_geI, q_isN, q_isNotN, q_eqI, q_neI, q_eqB, q_eqT0, q_eqT1, q_neT0, q_neT1, q_eqL0, q_eqL1, q_neL0, q_neL1, q_int, q_abs, q_min2, q_max2, q_at0, q_at1, q_at2, q_at3, q_ix0, q_ix1, q_ix2, q_sz, q_iteS, q_iteT, q_iteR, q_iteV, q_iteBB, q_iteII, q_iteAnd, q_iteOr, q_iteNot, q_iteCon, q_pa0, q_pa1, q_pa2, q_pa3, q_pa4, q_ow4, q_ma0, q_ma1, q_ma2, q_ma3, q_ma4, q_ow0, q_ow1, q_ow2, q_ow3, q_c0, q_c1, q_c2, q_c3, q_c4, q_c5, q_c6, q_c7, q_c8, q_c9, q_c10, q_c11, q_c12, q_all0, q_all1, q_all2, q_all3, q_inN2, q_inN0, q_02a, q_02b, q_repr, q_ol1, q_ol2, q_ol3, q_ll1, q_ll2, q_ll3, q_scB, List.getElem?_cons_zero, List.getElem?_cons_succ, List.set_cons_zero, List.set_cons_succ, wipeE, initE, outsOf, toAv, toAvB, scal, slotsOf, putOuts, natNodup, List.map_cons, List.map_nil, List.cons_append, List.nil_append, List.append_nil, List.replicate, List.length_cons, List.length_nil, isNone, isiD, seqD, gItem, truD, zipOf, zipD, pick, List.contains_nil, List.contains_cons, eq_self, List.cons_ne_nil, if_true, if_false, Bool.false_eq_true, Bool.true_eq_false, Bool.not_true, Bool.not_false, reduceIte, decide_true, decide_false, Nat.reduceAdd, Nat.reduceSub, Nat.zero_add, Nat.add_zero, and_self, true_and, and_true, Bool.and_true, Bool.true_and, Bool.or_false, Bool.false_or, Bool.or_true, Bool.true_or, Bool.and_false, Bool.false_and, Bool.or_self, Bool.and_self, Nat.sub_self, Option.map_some, Option.map_none, Nat.reduceBEq, Bool.not_eq_true, beq_self_eq_true, Nat.reduceLeDiff, Nat.reduceLT, Nat.reduceEqDiff, List.filterMap_cons, List.filterMap_nil, $as,*])
open PySem PySem.Spec PyProof.Rows L2
theorem k_great_pos {t : Fn} (T : Tk t) : Gp (k__law_great t) := great_pos T
end Ev
namespace Ev
local macro_rules
  | `(tactic| simp! only [$as,*]) => `(tactic| simp only [↓x_var, ↓x_C, ↓x_op, ↓x_fz, ↓x_rV, ↓x_B, ↓x_chain, ↓x_tru, ↓x_notT, ↓x_andT, ↓x_orT, ↓x_and, ↓x_or, ↓x_not, ↓x_neg, ↓x_if, ↓x_aNil, ↓x_aVal, ↓x_aSlot, ↓x_aTmp, ↓x_aR, ↓x_call, ↓x_callK, ↓x_dNil, ↓x_dCons, ↓x_tup, ↓x_lst, ↓x_itemN, ↓x_ownItem, ↓x_lenN, ↓x_blt, ↓x_isi, ↓x_list, ↓x_rgL1, ↓x_rgL2, ↓x_iSeq, ↓x_iZip, ↓x_range1, ↓x_range2, ↓x_addR, ↓x_slice, ↓x_partN, ↓x_partS, ↓x_comp, ↓x_skip, ↓x_stuck, ↓x_break, ↓x_cont, ↓x_seq, ↓x_sIf, ↓x_sExpr, ↓x_ret, ↓x_retN, ↓x_move, ↓x_setRv, ↓x_setRf, ↓x_setRm, ↓x_set, ↓x_gN, ↓x_gsNil, ↓x_gsCons, ↓x_gTup, ↓x_gIx, ↓x_setAt, ↓x_asg, ↓x_par, ↓x_sm0, ↓x_smV, ↓x_smF, ↓x_app, ↓x_for, ↓x_for0, ↓x_for1, ↓x_comp0, ↓x_comp1, ↓x_fn, ↓x_iEnum, ↓x_range3, ↓x_comp2, ↓x_compN0, ↓x_compN1, ↓x_item2, ↓x_item2M, ↓x_gIx2, ↓x_compM, ↓x_callB, ↓x_pop, ↓x_dStar, ↓x_seeAt, ↓x_see, ↓x_seeR, ↓x_rev, ↓x_idx, q_addI, q_addT, q_addL, q_subI, q_ltI, q_leI, q_gtI, q_geI, q_isN, q_isNotN, q_eqI, q_neI, q_eqB, q_eqT0, q_eqT1, q_neT0, q_neT1, q_eqL0, q_eqL1, q_neL0, q_neL1, q_int, q_abs, q_min2, q_max2, q_at0, q_at1, q_at2, q_at3, q_ix0, q_ix1, q_ix2, q_sz, q_iteS, q_iteT, q_iteR, q_iteV, q_iteBB, q_iteII, q_iteAnd, q_iteOr, q_iteNot, q_iteCon, q_pa0, q_pa1, q_pa2, q_pa3, q_pa4, q_ow4, q_ma0, q_ma1, q_ma2, q_ma3, q_ma4, q_ow0, q_ow1, q_ow2, q_ow3, q_c0, q_c1, q_c2, q_c3, q_c4, q_c5, q_c6, q_c7, q_c8, q_c9, q_c10, q_c11, q_c12, q_all0, q_all1, q_all2, q_all3, q_inN2, q_inN0, q_02a, q_02b, q_repr, q_ol1, q_ol2, q_ol3, q_ll1, q_ll2, q_ll3, q_scB, List.getElem?_cons_zero, List.getElem?_cons_succ, List.set_cons_zero, List.set_cons_succ, wipeE, initE, outsOf, toAv, toAvB, scal, slotsOf, putOuts, natNodup, List.map_cons, List.map_nil, List.cons_append, List.nil_append, List.append_nil, List.replicate, List.length_cons, List.length_nil, isNone, isiD, seqD, gItem, truD, zipOf, zipD, pick, List.contains_nil, List.contains_cons, eq_self, List.cons_ne_nil, if_true, if_false, Bool.false_eq_true, Bool.true_eq_false, Bool.not_true, Bool.not_false, reduceIte, decide_true, decide_false, Nat.reduceAdd, Nat.reduceSub, Nat.zero_add, Nat.add_zero, and_self, true_and, and_true, Bool.and_true, Bool.true_and, Bool.or_false, Bool.false_or, Bool.or_true, Bool.true_or, Bool.and_false, Bool.false_and, Bool.or_self, Bool.and_self, Nat.sub_self, Option.map_some, Option.map_none, Nat.reduceBEq, Bool.not_eq_true, beq_self_eq_true, Nat.reduceLeDiff, Nat.reduceLT, Nat.reduceEqDiff, List.filterMap_cons, List.filterMap_nil, $as,*])
open PySem PySem.Spec PyProof.Rows L2
/-! ## k27: modulo -/
section
variable {f g h w p q : Fn}
end
end Ev
namespace Ev
local macro_rules
  | `(tactic| simp! only [$as,*]) => `(tactic| simp only [↓x_var, ↓x_C, ↓x_op, ↓x_fz, ↓x_rV, ↓x_B, ↓x_chain, ↓x_tru, ↓x_notT, ↓x_andT, ↓x_orT, ↓x_and, ↓x_or, ↓x_not, ↓x_neg, ↓x_if, ↓x_aNil, ↓x_aVal, ↓x_aSlot, ↓x_aTmp, ↓x_aR, ↓x_call, ↓x_callK, ↓x_dNil, ↓x_dCons, ↓x_tup, ↓x_lst, ↓x_itemN, ↓x_ownItem, ↓x_lenN, ↓x_blt, ↓x_isi, ↓x_list, ↓x_rgL1, ↓x_rgL2, ↓x_iSeq, ↓x_iZip, ↓x_range1, ↓x_range2, ↓x_addR, ↓x_slice, ↓x_partN, ↓x_partS, ↓x_comp, ↓x_skip, ↓x_stuck, ↓x_break, ↓x_cont, ↓x_seq, ↓x_sIf, ↓x_sExpr, ↓x_ret, ↓x_retN, ↓x_move, ↓x_setRv, ↓x_setRf, ↓x_setRm, ↓x_set, ↓x_gN, ↓x_gsNil, ↓x_gsCons, ↓x_gTup, ↓x_gIx, ↓x_setAt, ↓x_asg, ↓x_par, ↓x_sm0, ↓x_smV, ↓x_smF, ↓x_app, ↓x_for, ↓x_for0, ↓x_for1, ↓x_comp0, ↓x_comp1, ↓x_fn, ↓x_iEnum, ↓x_range3, ↓x_comp2, ↓x_compN0, ↓x_compN1, ↓x_item2, ↓x_item2M, ↓x_gIx2, ↓x_compM, ↓x_callB, ↓x_pop, ↓x_dStar, ↓x_seeAt, ↓x_see, ↓x_seeR, ↓x_rev, ↓x_idx, q_addI, q_addT, q_addL, q_subI, q_ltI, q_leI, q_gtI, q_geI, q_isN, q_isNotN, q_eqI, q_neI, q_eqB, q_eqT0, q_eqT1, q_neT0, q_neT1, q_eqL0, q_eqL1, q_neL0, q_neL1, q_int, q_abs, q_min2, q_max2, q_at0, q_at1, q_at2, q_at3, q_ix0, q_ix1, q_ix2, q_sz, q_iteS, q_iteT, q_iteR, q_iteV, q_iteBB, q_iteII, q_iteAnd, q_iteOr, q_iteNot, q_iteCon, q_pa0, q_pa1, q_pa2, q_pa3, q_pa4, q_ow4, q_ma0, q_ma1, q_ma2, q_ma3, q_ma4, q_ow0, q_ow1, q_ow2, q_ow3, q_c0, q_c1, q_c2, q_c3, q_c4, q_c5, q_c6, q_c7, q_c8, q_c9, q_c10, q_c11, q_c12, q_all0, q_all1, q_all2, q_all3, q_inN2, q_inN0, q_02a, q_02b, q_repr, q_ol1, q_ol2, q_ol3, q_ll1, q_ll2, q_ll3, q_scB, List.getElem?_cons_zero, List.getElem?_cons_succ, List.set_cons_zero, List.set_cons_succ, wipeE, initE, outsOf, toAv, toAvB, scal, slotsOf, putOuts, natNodup, List.map_cons, List.map_nil, List.cons_append, List.nil_append, List.append_nil, List.replicate, List.length_cons, List.length_nil, isNone, isiD, seqD, gItem, truD, zipOf, zipD, pick, List.contains_nil, List.contains_cons, eq_self, List.cons_ne_nil, if_true, if_false, Bool.false_eq_true, Bool.true_eq_false, Bool.not_true, Bool.not_false, reduceIte, decide_true, decide_false, Nat.reduceAdd, Nat.reduceSub, Nat.zero_add, Nat.add_zero, and_self, true_and, and_true, Bool.and_true, Bool.true_and, Bool.or_false, Bool.false_or, Bool.or_true, Bool.true_or, Bool.and_false, Bool.false_and, Bool.or_self, Bool.and_self, Nat.sub_self, Option.map_some, Option.map_none, Nat.reduceBEq, Bool.not_eq_true, beq_self_eq_true, Nat.reduceLeDiff, Nat.reduceLT, Nat.reduceEqDiff, List.filterMap_cons, List.filterMap_nil, $as,*])
open PySem PySem.Spec PyProof.Rows L2
section
variable {f g h w p q : Fn}
end
end Ev
namespace Ev
open PySem PySem.Spec PyProof.Rows L2
/-! ## k27: laws of modulo -/
theorem log2_of {n : Int} (h1 : 1 ≤ n) (h2 : n ≤ 2 ^ 200) : n.natAbs.log2 < 9000 := by
  have : n.natAbs.log2 < 201 := (Nat.log2_lt (by omega)).mpr (by omega)
  omega
/-! ### by one divisor -/
end Ev
namespace Ev
local macro_rules
  | `(tactic| simp! only [$as,*]) => `(tactic| simp only [↓x_var, ↓x_C, ↓x_op, ↓x_fz, ↓x_rV, ↓x_B, ↓x_chain, ↓x_tru, ↓x_notT, ↓x_andT, ↓x_orT, ↓x_and, ↓x_or, ↓x_not, ↓x_neg, ↓x_if, ↓x_aNil, ↓x_aVal, ↓x_aSlot, ↓x_aTmp, ↓x_aR, ↓x_call, ↓x_callK, ↓x_dNil, ↓x_dCons, ↓x_tup, ↓x_lst, ↓x_itemN, ↓x_ownItem, ↓x_lenN, ↓x_blt, ↓x_isi, ↓x_list, ↓x_rgL1, ↓x_rgL2, ↓x_iSeq, ↓x_iZip, ↓x_range1, ↓x_range2, ↓x_addR, ↓x_slice, ↓x_partN, ↓x_partS, ↓x_comp, ↓x_skip, ↓x_stuck, ↓x_break, ↓x_cont, ↓x_seq, ↓x_sIf, ↓x_sExpr, ↓x_ret, ↓x_retN, ↓x_move, ↓x_setRv, ↓x_setRf, ↓x_setRm, ↓x_set, ↓x_gN, ↓x_gsNil, ↓x_gsCons, ↓x_gTup, ↓x_gIx, ↓x_setAt, ↓x_asg, ↓x_par, ↓x_sm0, ↓x_smV, ↓x_smF, ↓x_app, ↓x_for, ↓x_for0, ↓x_for1, ↓x_comp0, ↓x_comp1, ↓x_fn, ↓x_iEnum, ↓x_range3, ↓x_comp2, ↓x_compN0, ↓x_compN1, ↓x_item2, ↓x_item2M, ↓x_gIx2, ↓x_compM, ↓x_callB, ↓x_pop, ↓x_dStar, ↓x_seeAt, ↓x_see, ↓x_seeR, ↓x_rev, ↓x_idx, q_addI, q_addT, q_addL, q_subI, q_ltI, q_leI, q_gtI, q_geI, q_isN, q_isNotN, q_eqI, q_neI, q_eqB, q_eqT0, q_eqT1, q_neT0, q_neT1, q_eqL0, q_eqL1, q_neL0, q_neL1, q_int, q_abs, q_min2, q_max2, q_at0, q_at1, q_at2, q_at3, q_ix0, q_ix1, q_ix2, q_sz, q_iteS, q_iteT, q_iteR, q_iteV, q_iteBB, q_iteII, q_iteAnd, q_iteOr, q_iteNot, q_iteCon, q_pa0, q_pa1, q_pa2, q_pa3, q_pa4, q_ow4, q_ma0, q_ma1, q_ma2, q_ma3, q_ma4, q_ow0, q_ow1, q_ow2, q_ow3, q_c0, q_c1, q_c2, q_c3, q_c4, q_c5, q_c6, q_c7, q_c8, q_c9, q_c10, q_c11, q_c12, q_all0, q_all1, q_all2, q_all3, q_inN2, q_inN0, q_02a, q_02b, q_repr, q_ol1, q_ol2, q_ol3, q_ll1, q_ll2, q_ll3, q_scB, List.getElem?_cons_zero, List.getElem?_cons_succ, List.set_cons_zero, List.set_cons_succ, wipeE, initE, outsOf, toAv, toAvB, scal, slotsOf, putOuts, natNodup, List.map_cons, List.map_nil, List.cons_append, List.nil_append, List.append_nil, List.replicate, List.length_cons, List.length_nil, isNone, isiD, seqD, gItem, truD, zipOf, zipD, pick, List.contains_nil, List.contains_cons, eq_self, List.cons_ne_nil, if_true, if_false, Bool.false_eq_true, Bool.true_eq_false, Bool.not_true, Bool.not_false, reduceIte, decide_true, decide_false, Nat.reduceAdd, Nat.reduceSub, Nat.zero_add, Nat.add_zero, and_self, true_and, and_true, Bool.and_true, Bool.true_and, Bool.or_false, Bool.false_or, Bool.or_true, Bool.true_or, Bool.and_false, Bool.false_and, Bool.or_self, Bool.and_self, Nat.sub_self, Option.map_some, Option.map_none, Nat.reduceBEq, Bool.not_eq_true, beq_self_eq_true, Nat.reduceLeDiff, Nat.reduceLT, Nat.reduceEqDiff, List.filterMap_cons, List.filterMap_nil, $as,*])
open PySem PySem.Spec PyProof.Rows L2
/-! ## k27: the checks -/
section
variable {f g h w : Fn}
theorem k_between_ok (h1 : ∀ i, f [.val (.int i)] = some (.val (.bool true), [])) (i l r : Int) : k_is_between f [.val (.int i), .val (.int l), .val (.int r)] = some (.val (.bool (decide (l ≤ i ∧ i ≤ r))), []) := by
  by_cases c1 : l ≤ i <;> by_cases c2 : i ≤ r <;> simp! only [k_is_between, k_is_between_b, h1, c1, c2]
theorem k_check_width_ok (h1 : ∀ i l r : Int, f [.val (.int i), .val (.int l), .val (.int r)] = some (.val (.bool (decide (l ≤ i ∧ i ≤ r))), [])) {i : Int} (hi : 1 ≤ i ∧ i ≤ 16) : k_check_width f [.val (.int i)] = some (.val .none, []) := by
  simp! only [k_check_width, k_check_width_b, h1, hi]
/-! ### the law's own -/
theorem abs_nat {n : Int} : (if n < 0 then -n else n) = ((n.natAbs : Nat) : Int) := by
  split <;> omega
end
end Ev
namespace Ev
local macro_rules
  | `(tactic| simp! only [$as,*]) => `(tactic| simp only [↓x_var, ↓x_C, ↓x_op, ↓x_fz, ↓x_rV, ↓x_B, ↓x_chain, ↓x_tru, ↓x_notT, ↓x_andT, ↓x_orT, ↓x_and, ↓x_or, ↓x_not, ↓x_neg, ↓x_if, ↓x_aNil, ↓x_aVal, ↓x_aSlot, ↓x_aTmp, ↓x_aR, ↓x_call, ↓x_callK, ↓x_dNil, ↓x_dCons, ↓x_tup, ↓x_lst, ↓x_itemN, ↓x_ownItem, ↓x_lenN, ↓x_blt, ↓x_isi, ↓x_list, ↓x_rgL1, ↓x_rgL2, ↓x_iSeq, ↓x_iZip, ↓x_range1, ↓x_range2, ↓x_addR, ↓x_slice, ↓x_partN, ↓x_partS, ↓x_comp, ↓x_skip, ↓x_stuck, ↓x_break, ↓x_cont, ↓x_seq, ↓x_sIf, ↓x_sExpr, ↓x_ret, ↓x_retN, ↓x_move, ↓x_setRv, ↓x_setRf, ↓x_setRm, ↓x_set, ↓x_gN, ↓x_gsNil, ↓x_gsCons, ↓x_gTup, ↓x_gIx, ↓x_setAt, ↓x_asg, ↓x_par, ↓x_sm0, ↓x_smV, ↓x_smF, ↓x_app, ↓x_for, ↓x_for0, ↓x_for1, ↓x_comp0, ↓x_comp1, ↓x_fn, ↓x_iEnum, ↓x_range3, ↓x_comp2, ↓x_compN0, ↓x_compN1, ↓x_item2, ↓x_item2M, ↓x_gIx2, ↓x_compM, ↓x_callB, ↓x_pop, ↓x_dStar, ↓x_seeAt, ↓x_see, ↓x_seeR, ↓x_rev, ↓x_idx, q_addI, q_addT, q_addL, q_subI, q_ltI, q_leI, q_gtI, q_geI, q_isN, q_isNotN, q_eqI, q_neI, q_eqB, q_eqT0, q_eqT1, q_neT0, q_neT1, q_eqL0, q_eqL1, q_neL0, q_neL1, q_int, q_abs, q_min2, q_max2, q_at0, q_at1, q_at2, q_at3, q_ix0, q_ix1, q_ix2, q_sz, q_iteS, q_iteT, q_iteR, q_iteV, q_iteBB, q_iteII, q_iteAnd, q_iteOr, q_iteNot, q_iteCon, q_pa0, q_pa1, q_pa2, q_pa3, q_pa4, q_ow4, q_ma0, q_ma1, q_ma2, q_ma3, q_ma4, q_ow0, q_ow1, q_ow2, q_ow3, q_c0, q_c1, q_c2, q_c3, q_c4, q_c5, q_c6, q_c7, q_c8, q_c9, q_c10, q_c11, q_c12, q_all0, q_all1, q_all2, q_all3, q_inN2, q_inN0, q_02a, q_02b, q_repr, q_ol1, q_ol2, q_ol3, q_ll1, q_ll2, q_ll3, q_scB, List.getElem?_cons_zero, List.getElem?_cons_succ, List.set_cons_zero, List.set_cons_succ, wipeE, initE, outsOf, toAv, toAvB, scal, slotsOf, putOuts, natNodup, List.map_cons, List.map_nil, List.cons_append, List.nil_append, List.append_nil, List.replicate, List.length_cons, List.length_nil, isNone, isiD, seqD, gItem, truD, zipOf, zipD, pick, List.contains_nil, List.contains_cons, eq_self, List.cons_ne_nil, if_true, if_false, Bool.false_eq_true, Bool.true_eq_false, Bool.not_true, Bool.not_false, reduceIte, decide_true, decide_false, Nat.reduceAdd, Nat.reduceSub, Nat.zero_add, Nat.add_zero, and_self, true_and, and_true, Bool.and_true, Bool.true_and, Bool.or_false, Bool.false_or, Bool.or_true, Bool.true_or, Bool.and_false, Bool.false_and, Bool.or_self, Bool.and_self, Nat.sub_self, Option.map_some, Option.map_none, Nat.reduceBEq, Bool.not_eq_true, beq_self_eq_true, Nat.reduceLeDiff, Nat.reduceLT, Nat.reduceEqDiff, List.filterMap_cons, List.filterMap_nil, $as,*])
open PySem PySem.Spec PyProof.Rows L2
/-- a body that ends with True, its source of numbers in slot 0 -/
def RunT (b : Fx Fl) (e : En) : Prop := ∃ e' d, b e = some (.rt (.val (.bool true)), e') ∧ e'[0]? = some (.par d)
theorem runT_nx {f g : Fx Fl} {e e1 : En} (h1 : f e = some (.nx, e1)) (h2 : RunT g e1) : RunT (sSeq f g) e := by
  obtain ⟨e', d, h3, h4⟩ := h2
  exact ⟨e', d, seq_nx h1 h3, h4⟩
theorem rg_of {n : Nat} {b : Fx Fl} {ds : List D} (h : RunT b (initE n [.own ds])) : ∃ ds', callFn n b [.own ds] = some (.val (.bool true), [ds']) := by
  obtain ⟨e, d, h1, h2⟩ := h
  refine ⟨d, fn_rt h1 ?_⟩
  simp only [outsOf, h2, Option.map_some]
theorem szS.up {a : SS} {z : Int} (h : szS z a) (hz : z ≤ 2 ^ 200) : szS (2 ^ 200) a := h.mono hz
theorem q_ne0 {x : Int} : gNe (.int x) (.int 0) = some (.bool (!decide (x = 0))) := by
  have h := q_neE (some x) (some 0)
  simp only [Option.some.injEq] at h
  exact h
/-! ### for the glue -/
theorem gp_nm {g : Fn} (h : Gp g) : Nm 5 (2 ^ 110) g := fun b ds s => by
  obtain ⟨v, d, e, h1, h2, h3⟩ := h b ds s
  exact ⟨v, d, e, by omega, h2, h3⟩
theorem gd_up : ∀ (k : Nat) (d : D), gd k d = true → gd (k + 1) d = true
  | _, .none, _ => by cases ‹Nat› <;> rfl
  | _, .bool _, _ => by cases ‹Nat› <;> rfl
  | _, .int _, _ => by cases ‹Nat› <;> rfl
  | k + 1, .tuple xs, h => by
    obtain ⟨h1, h2⟩ := He.ba (show (decide (xs.length ≤ 1000) && xs.all (gd k)) = true from h)
    show (decide (xs.length ≤ 1000) && xs.all (gd (k + 1))) = true
    rw [h1, Bool.true_and]
    exact List.all_eq_true.mpr fun x hx => gd_up k x (List.all_eq_true.mp h2 x hx)
  | k, .str _, h => by cases k <;> cases h
  | k, .list _, h => by cases k <;> cases h
  | k, .dict _, h => by cases k <;> cases h
theorem SameOk.down {k : Nat} {g : Fn} (h : SameOk (k + 1) g) : SameOk k g := fun d hd => h d (gd_up k d hd)
theorem same2 {g : Fn} (h : SameOk 3 g) : SameOk 2 g := h.down
end Ev
namespace Ev
open PySem PySem.Spec PyProof.Rows L2
/-! ## rests -/
abbrev RR := Option (Int × Int)
def eR : RR → D
  | none => .tuple []
  | some (r, m) => .tuple [.int r, .int m]
theorem eR_n : eR none = .tuple [] := rfl
theorem eR_s {r m : Int} : eR (some (r, m)) = .tuple [.int r, .int m] := rfl
def okR : RR → Bool
  | none => true
  | some (r, m) => decide (m = 0 ∨ (0 < m ∧ 20160 % m = 0 ∧ 0 ≤ r ∧ r < m))
def hasR : RR → Int → Bool
  | none, _ => false
  | some (r, m), k => decide (m ∣ k - r)
def withinR : RR → RR → Bool
  | none, _ => true
  | some _, none => false
  | some (r, m), some (s, n) => decide (n ∣ r - s) && decide (n ∣ m)
def restBy (x g : Int) : RR := if g = 0 then some (x, 0) else some (x % g, g)
def grain (g : Nat) : Int := if g = 0 then 0 else (Nat.gcd g 20160 : Nat)
def gcdL (n : Int) : List Int → Nat → Nat
  | [], g => g
  | x :: xs, g => gcdL n xs (Nat.gcd g (x - n).natAbs)
def leastR : List Int → RR
  | [] => none
  | n :: ns => restBy n (grain (gcdL n (n :: ns) 0))
/-! ### divisibility -/
theorem dvd_abs {d : Nat} {x : Int} : d ∣ x.natAbs ↔ (d : Int) ∣ x := Int.ofNat_dvd_left.symm
theorem gcd3_dvd {d : Nat} {a b c : Int} : d ∣ gcd3 a b c ↔ (d : Int) ∣ a ∧ (d : Int) ∣ b ∧ (d : Int) ∣ c := by
  unfold gcd3
  rw [Nat.dvd_gcd_iff, Nat.dvd_gcd_iff, dvd_abs, dvd_abs, dvd_abs, and_assoc]
theorem dvd_neg' {d x y : Int} (h : y = -x) : d ∣ y ↔ d ∣ x := by rw [h, Int.dvd_neg]
theorem ok_r {r m : Int} (h : okR (some (r, m)) = true) : m = 0 ∨ (0 < m ∧ m ∣ 20160 ∧ 0 ≤ r ∧ r < m) := by
  rcases of_decide_eq_true h with h | ⟨h1, h2, h3⟩
  · exact .inl h
  · exact .inr ⟨h1, Int.dvd_of_emod_eq_zero h2, h3⟩
theorem ok_of {r m : Int} (h : m = 0 ∨ (0 < m ∧ m ∣ 20160 ∧ 0 ≤ r ∧ r < m)) : okR (some (r, m)) = true := decide_eq_true (by
  rcases h with h | ⟨h1, h2, h3⟩
  · exact .inl h
  · exact .inr ⟨h1, Int.emod_eq_zero_of_dvd h2, h3⟩)
theorem ok_nn {r m : Int} (h : okR (some (r, m)) = true) : 0 ≤ m ∧ m ≤ 20160 := by
  rcases ok_r h with rfl | ⟨h1, h2, -⟩
  · omega
  · exact ⟨by omega, Int.le_of_dvd (by decide) h2⟩
theorem grain_ok (g : Nat) : grain g = 0 ∨ (0 < grain g ∧ grain g ∣ 20160) := by
  unfold grain
  split
  · exact .inl rfl
  · right
    have h1 := Nat.gcd_pos_of_pos_right g (show 0 < 20160 by decide)
    have h2 := Nat.gcd_dvd_right g 20160
    exact ⟨by omega, by exact_mod_cast h2⟩
theorem grain_self {m : Int} (h : m = 0 ∨ (0 < m ∧ m ∣ 20160)) : grain m.natAbs = m := by
  rcases h with rfl | ⟨h1, h2⟩
  · rfl
  · unfold grain
    rw [if_neg (by omega)]
    have h3 : m.natAbs ∣ 20160 := by
      have := Int.natAbs_dvd_natAbs.mpr h2
      exact this
    rw [Nat.gcd_eq_left h3]
    omega
theorem ok_restBy (x : Int) {g : Int} (h : g = 0 ∨ (0 < g ∧ g ∣ 20160)) : okR (restBy x g) = true := by
  unfold restBy
  rcases h with rfl | ⟨h1, h2⟩
  · rw [if_pos rfl]; exact ok_of (.inl rfl)
  · rw [if_neg (by omega)]
    exact ok_of (.inr ⟨h1, h2, Int.emod_nonneg _ (by omega), Int.emod_lt_of_pos _ h1⟩)
/-- what a rest made by a divisor holds -/
theorem restBy_eq {x : Int} {g : Int} : ∃ r, restBy x g = some (r, g) ∧ g ∣ x - r := by
  unfold restBy
  split
  · rename_i h; subst h; exact ⟨x, rfl, by simp⟩
  · exact ⟨x % g, rfl, Int.dvd_self_sub_emod⟩
/-! ### within -/
theorem within_some {r m s n : Int} : withinR (some (r, m)) (some (s, n)) = true ↔ n ∣ r - s ∧ n ∣ m := by
  show (decide _ && decide _) = true ↔ _
  simp
theorem withinR_anti {a b : RR} (ha : okR a = true) (hb : okR b = true) (h1 : withinR a b = true) (h2 : withinR b a = true) : a = b := by
  rcases a with _ | ⟨r, m⟩
  · rcases b with _ | ⟨s, n⟩
    · rfl
    · cases h2
  rcases b with _ | ⟨s, n⟩
  · cases h1
  obtain ⟨a1, a2⟩ := within_some.mp h1
  obtain ⟨b1, b2⟩ := within_some.mp h2
  have hm := ok_nn ha
  have hn := ok_nn hb
  have e : m = n := Int.dvd_antisymm hm.1 hn.1 b2 a2
  subst e
  have : r = s := by
    rcases ok_r ha with rfl | ⟨h1, -, h3, h4⟩
    · have := Int.zero_dvd.mp a1; omega
    · rcases ok_r hb with rfl | ⟨-, -, h5, h6⟩
      · omega
      · have h7 := Int.emod_emod_of_dvd (r - s) (Int.dvd_refl m)
        have h8 := Int.emod_eq_zero_of_dvd a1
        have h9 : r % m = s % m := (Int.emod_eq_emod_iff_emod_sub_eq_zero).mpr h8
        rw [Int.emod_eq_of_lt h3 h4, Int.emod_eq_of_lt h5 h6] at h9
        exact h9
  rw [this]
/-! ### ranks -/
end Ev
namespace Ev
local macro_rules
  | `(tactic| simp! only [$as,*]) => `(tactic| simp only [↓x_var, ↓x_C, ↓x_op, ↓x_fz, ↓x_rV, ↓x_B, ↓x_chain, ↓x_tru, ↓x_notT, ↓x_andT, ↓x_orT, ↓x_and, ↓x_or, ↓x_not, ↓x_neg, ↓x_if, ↓x_aNil, ↓x_aVal, ↓x_aSlot, ↓x_aTmp, ↓x_aR, ↓x_call, ↓x_callK, ↓x_dNil, ↓x_dCons, ↓x_tup, ↓x_lst, ↓x_itemN, ↓x_ownItem, ↓x_lenN, ↓x_blt, ↓x_isi, ↓x_list, ↓x_rgL1, ↓x_rgL2, ↓x_iSeq, ↓x_iZip, ↓x_range1, ↓x_range2, ↓x_addR, ↓x_slice, ↓x_partN, ↓x_partS, ↓x_comp, ↓x_skip, ↓x_stuck, ↓x_break, ↓x_cont, ↓x_seq, ↓x_sIf, ↓x_sExpr, ↓x_ret, ↓x_retN, ↓x_move, ↓x_setRv, ↓x_setRf, ↓x_setRm, ↓x_set, ↓x_gN, ↓x_gsNil, ↓x_gsCons, ↓x_gTup, ↓x_gIx, ↓x_setAt, ↓x_asg, ↓x_par, ↓x_sm0, ↓x_smV, ↓x_smF, ↓x_app, ↓x_for, ↓x_for0, ↓x_for1, ↓x_comp0, ↓x_comp1, ↓x_fn, ↓x_iEnum, ↓x_range3, ↓x_comp2, ↓x_compN0, ↓x_compN1, ↓x_item2, ↓x_item2M, ↓x_gIx2, ↓x_compM, ↓x_callB, ↓x_pop, ↓x_dStar, ↓x_seeAt, ↓x_see, ↓x_seeR, ↓x_rev, ↓x_idx, q_addI, q_addT, q_addL, q_subI, q_ltI, q_leI, q_gtI, q_geI, q_isN, q_isNotN, q_eqI, q_neI, q_eqB, q_eqT0, q_eqT1, q_neT0, q_neT1, q_eqL0, q_eqL1, q_neL0, q_neL1, q_int, q_abs, q_min2, q_max2, q_at0, q_at1, q_at2, q_at3, q_ix0, q_ix1, q_ix2, q_sz, q_iteS, q_iteT, q_iteR, q_iteV, q_iteBB, q_iteII, q_iteAnd, q_iteOr, q_iteNot, q_iteCon, q_pa0, q_pa1, q_pa2, q_pa3, q_pa4, q_ow4, q_ma0, q_ma1, q_ma2, q_ma3, q_ma4, q_ow0, q_ow1, q_ow2, q_ow3, q_c0, q_c1, q_c2, q_c3, q_c4, q_c5, q_c6, q_c7, q_c8, q_c9, q_c10, q_c11, q_c12, q_all0, q_all1, q_all2, q_all3, q_inN2, q_inN0, q_02a, q_02b, q_repr, q_ol1, q_ol2, q_ol3, q_ll1, q_ll2, q_ll3, q_scB, List.getElem?_cons_zero, List.getElem?_cons_succ, List.set_cons_zero, List.set_cons_succ, wipeE, initE, outsOf, toAv, toAvB, scal, slotsOf, putOuts, natNodup, List.map_cons, List.map_nil, List.cons_append, List.nil_append, List.append_nil, List.replicate, List.length_cons, List.length_nil, isNone, isiD, seqD, gItem, truD, zipOf, zipD, pick, List.contains_nil, List.contains_cons, eq_self, List.cons_ne_nil, if_true, if_false, Bool.false_eq_true, Bool.true_eq_false, Bool.not_true, Bool.not_false, reduceIte, decide_true, decide_false, Nat.reduceAdd, Nat.reduceSub, Nat.zero_add, Nat.add_zero, and_self, true_and, and_true, Bool.and_true, Bool.true_and, Bool.or_false, Bool.false_or, Bool.or_true, Bool.true_or, Bool.and_false, Bool.false_and, Bool.or_self, Bool.and_self, Nat.sub_self, Option.map_some, Option.map_none, Nat.reduceBEq, Bool.not_eq_true, beq_self_eq_true, Nat.reduceLeDiff, Nat.reduceLT, Nat.reduceEqDiff, List.filterMap_cons, List.filterMap_nil, $as,*])
open PySem PySem.Spec PyProof.Rows L2
/-! ## rests: what the functions do -/
theorem depth_eR (a : RR) : (eR a).depth ≤ 2 := by
  rcases a with _ | ⟨x, y⟩
  · simp [eR, PyData.depth, PyData.depthAll]
  · simp [eR, PyData.depth, PyData.depthAll]
theorem eqv_eR : ∀ a b : RR, PyData.eqv (eR a) (eR b) = decide (a = b)
  | none, none => rfl
  | none, some (_, _) => rfl
  | some (_, _), none => rfl
  | some (x, y), some (z, w) => by
    show PyData.eqv (.tuple [.int x, .int y]) (.tuple [.int z, .int w]) = _
    simp only [PyData.eqv, PyData.eqvAll, Bool.and_true]
    by_cases h1 : x = z <;> by_cases h2 : y = w <;> simp [h1, h2]
theorem q_eqR (a b : RR) : gEq (eR a) (eR b) = some (.bool (decide (a = b))) := by
  have h : eqOk (eR a) (eR b) = true := decide_eq_true (by have := depth_eR a; omega)
  unfold gEq
  rw [if_pos h, eqv_eR]
theorem gd_int (k : Nat) (i : Int) : gd k (.int i) = true := by cases k <;> rfl
theorem gd_eR (k : Nat) (a : RR) : gd (k + 1) (eR a) = true := by
  rcases a with _ | ⟨x, y⟩
  · exact gd_tup k _ (by simp) all_nil
  · exact gd_tup k _ (by simp) (all_cons (gd_int _ _) (all_cons (gd_int _ _) all_nil))
section
variable {f g h w : Fn}
theorem k_wholes2_ok (h1 : ∀ i : Int, f [.val (.int i)] = some (.val (.bool true), [])) (r m : Int) : k_are_wholes f [.val (.tuple [.int r, .int m]), .val (.int 2)] = some (.val (.bool true), []) := by
  simp! only [k_are_wholes, k_are_wholes_b, k_are_wholes_e1, h1]
theorem k_rested_ok (h1 : ∀ r m : Int, f [.val (.tuple [.int r, .int m]), .val (.int 2)] = some (.val (.bool true), [])) {a : RR} (ha : okR a = true) : k_is_rested f [.val (eR a)] = some (.val (.bool true), []) := by
  rcases a with _ | ⟨r, m⟩
  · simp! only [k_is_rested, k_is_rested_b, eR_n]
  · rcases ok_r ha with rfl | ⟨a1, a2, a3, a4⟩
    · simp! only [k_is_rested, k_is_rested_b, eR_s, h1, Int.lt_irrefl]
    · have c1 : ¬ m < 0 := by omega
      have c2 : ¬ m = 0 := by omega
      have c3 : (20160 : Int) % m = 0 := Int.emod_eq_zero_of_dvd a2
      simp! only [k_is_rested, k_is_rested_b, eR_s, h1, c1, c2, q_modI a1, c3, a3, a4]
theorem k_restBy_ok (x : Int) {g : Int} (h : 0 ≤ g) : k_rest_by [.val (.int x), .val (.int g)] = some (.val (eR (restBy x g)), []) := by
  unfold restBy
  by_cases c : g = 0
  · subst c
    simp! only [k_rest_by, k_rest_by_b, eR_s]
  · simp! only [k_rest_by, k_rest_by_b, eR_s, c, q_modI (show 0 < g by omega)]
theorem k_multiple_ok (x : Int) {m : Int} (h : 0 ≤ m) : k_is_multiple [.val (.int x), .val (.int m)] = some (.val (.bool (decide (m ∣ x))), []) := by
  by_cases c : m = 0
  · subst c
    have e : decide ((0 : Int) ∣ x) = decide (x = 0) := decide_eq_decide.mpr Int.zero_dvd
    rw [e]
    simp! only [k_is_multiple, k_is_multiple_b]
  · have e : decide (m ∣ x) = decide (x % m = 0) := decide_eq_decide.mpr Int.dvd_iff_emod_eq_zero
    rw [e]
    simp! only [k_is_multiple, k_is_multiple_b, c, q_modI (show 0 < m by omega)]
abbrev MulF (f : Fn) : Prop := ∀ x m : Int, 0 ≤ m → f [.val (.int x), .val (.int m)] = some (.val (.bool (decide (m ∣ x))), [])
abbrev LeftF (f : Fn) : Prop := ∀ (a : RR) (k : Int), okR a = true → f [.val (eR a), .val (.int k)] = some (.val (.bool (hasR a k)), [])
abbrev OpRF (op : RR → RR → RR) (f : Fn) : Prop := ∀ a b : RR, okR a = true → okR b = true → f [.val (eR a), .val (eR b)] = some (.val (eR (op a b)), [])
abbrev RestByF (f : Fn) : Prop := ∀ x g : Int, 0 ≤ g → f [.val (.int x), .val (.int g)] = some (.val (eR (restBy x g)), [])
abbrev ChkR (f : Fn) : Prop := ∀ a : RR, okR a = true → f [.val (eR a)] = some (.val .none, [])
abbrev ChkR2 (f : Fn) : Prop := ∀ a b : RR, okR a = true → okR b = true → f [.val (eR a), .val (eR b)] = some (.val .none, [])
theorem k_left_ok' (h1 : MulF f) : LeftF (k_is_left f) := fun a k ha => by
  rcases a with _ | ⟨r, m⟩
  · simp! only [k_is_left, k_is_left_b, eR_n, hasR]
  · simp! only [k_is_left, k_is_left_b, eR_s, hasR, h1 _ _ (ok_nn ha).1]
theorem grain_nn (g : Nat) : 0 ≤ grain g := by rcases grain_ok g with h | h <;> omega
theorem k_rcheck_ok (h1 : ∀ a, okR a = true → f [.val (eR a)] = some (.val (.bool true), [])) : ChkR (k_check_rest f) := fun a ha => by
  simp! only [k_check_rest, k_check_rest_b, h1 a ha]
theorem k_rchecks_ok (h1 : ChkR f) : ChkR2 (k_check_rests f) := fun a b ha hb => by
  simp! only [k_check_rests, k_check_rests_b, h1 a ha, h1 b hb]
/-! ### the law's own -/
theorem has_law {r m k : Int} (h : okR (some (r, m)) = true) : hasR (some (r, m)) k = if m = 0 then decide (r = k) else decide (k % m = r) := by
  show decide (m ∣ k - r) = _
  split
  · rename_i c; subst c
    exact decide_eq_decide.mpr ⟨fun h => by have := Int.zero_dvd.mp h; omega, fun h => by rw [h]; simp⟩
  · rename_i c
    rcases ok_r h with rfl | ⟨h1, -, h3, h4⟩
    · exact absurd rfl c
    · refine decide_eq_decide.mpr ⟨fun h => ?_, fun h => ?_⟩
      · have h8 := Int.emod_eq_zero_of_dvd h
        have h9 : k % m = r % m := (Int.emod_eq_emod_iff_emod_sub_eq_zero).mpr h8
        rw [h9, Int.emod_eq_of_lt h3 h4]
      · rw [← h]; exact Int.dvd_self_sub_emod
theorem k__law_rhas_ok : LeftF k__law_rest_has := fun a k ha => by
  rcases a with _ | ⟨r, m⟩
  · simp! only [k__law_rest_has, k__law_rest_has_b, eR_n, hasR]
  · rw [has_law ha]
    by_cases c : m = 0
    · simp! only [k__law_rest_has, k__law_rest_has_b, eR_s, c]
    · have : 0 < m := by have := ok_nn ha; omega
      simp! only [k__law_rest_has, k__law_rest_has_b, eR_s, c, q_modI this]
/-- Euclid's loop -/
theorem euclid : ∀ (k : Nat) (x y fuel : Nat), y < 2 ^ k → 2 * k + 1 ≤ fuel → sWhile (eB (eOp gNe (eVar 1) (eC (.int 0)))) k__law_common_l1 fuel [.val (.int (x : Nat)), .val (.int (y : Nat))] = some (.nx, [.val (.int (Nat.gcd x y : Nat)), .val (.int 0)])
  | 0, x, y, fuel + 1, hy, hf => by
    have e : y = 0 := by simp at hy; exact hy
    subst e
    unfold sWhile
    simp! only [q_ne0, Nat.gcd_zero_right]
  | k + 1, x, y, fuel + 2, hy, hf => by
    have step : ∀ (x y fuel : Nat), 0 < y → sWhile (eB (eOp gNe (eVar 1) (eC (.int 0)))) k__law_common_l1 (fuel + 1) [.val (.int (x : Nat)), .val (.int (y : Nat))] = sWhile (eB (eOp gNe (eVar 1) (eC (.int 0)))) k__law_common_l1 fuel [.val (.int (y : Nat)), .val (.int ((x % y : Nat)))] := fun x y fuel h => by
      have c : ¬ ((y : Int) = 0) := by omega
      have hm : gMod (.int (x : Nat)) (.int (y : Nat)) = some (.int ((x % y : Nat))) := by rw [q_modI (by omega)]; simp
      conv => lhs; unfold sWhile
      simp! only [q_ne0, c, k__law_common_l1, hm]
    have stop : ∀ (x fuel : Nat), sWhile (eB (eOp gNe (eVar 1) (eC (.int 0)))) k__law_common_l1 (fuel + 1) [.val (.int (x : Nat)), .val (.int ((0 : Nat)))] = some (.nx, [.val (.int (x : Nat)), .val (.int 0)]) := fun x fuel => by
      unfold sWhile
      simp! only [q_ne0]
    by_cases h0 : y = 0
    · subst h0
      rw [stop, Nat.gcd_zero_right]
    · rw [step x y (fuel + 1) (by omega)]
      by_cases h1 : x % y = 0
      · rw [h1, stop]
        rw [Nat.gcd_comm, Nat.gcd_rec, h1, Nat.gcd_zero_left]
      · have hlt : x % y < y := Nat.mod_lt _ (by omega)
        rw [step y (x % y) fuel (by omega)]
        have hb : y % (x % y) < 2 ^ k := by
          have h2 : y % (x % y) < x % y := Nat.mod_lt _ (by omega)
          have h3 := Nat.mod_add_div y (x % y)
          have h4 : 1 ≤ y / (x % y) := Nat.div_pos (by omega) (by omega)
          have h5 : x % y ≤ x % y * (y / (x % y)) := Nat.le_mul_of_pos_right _ h4
          have h6 : 2 ^ (k + 1) = 2 * 2 ^ k := by rw [Nat.pow_succ]; omega
          omega
        rw [euclid k (x % y) (y % (x % y)) fuel hb (by omega)]
        have e : Nat.gcd (x % y) (y % (x % y)) = Nat.gcd x y := by
          rw [Nat.gcd_comm x y, Nat.gcd_rec y x, Nat.gcd_rec (x % y) y, Nat.gcd_comm]
        rw [e]
end
end Ev
namespace Ev
local macro_rules
  | `(tactic| simp! only [$as,*]) => `(tactic| simp only [↓x_var, ↓x_C, ↓x_op, ↓x_fz, ↓x_rV, ↓x_B, ↓x_chain, ↓x_tru, ↓x_notT, ↓x_andT, ↓x_orT, ↓x_and, ↓x_or, ↓x_not, ↓x_neg, ↓x_if, ↓x_aNil, ↓x_aVal, ↓x_aSlot, ↓x_aTmp, ↓x_aR, ↓x_call, ↓x_callK, ↓x_dNil, ↓x_dCons, ↓x_tup, ↓x_lst, ↓x_itemN, ↓x_ownItem, ↓x_lenN, ↓x_blt, ↓x_isi, ↓x_list, ↓x_rgL1, ↓x_rgL2, ↓x_iSeq, ↓x_iZip, ↓x_range1, ↓x_range2, ↓x_addR, ↓x_slice, ↓x_partN, ↓x_partS, ↓x_comp, ↓x_skip, ↓x_stuck, ↓x_break, ↓x_cont, ↓x_seq, ↓x_sIf, ↓x_sExpr, ↓x_ret, ↓x_retN, ↓x_move, ↓x_setRv, ↓x_setRf, ↓x_setRm, ↓x_set, ↓x_gN, ↓x_gsNil, ↓x_gsCons, ↓x_gTup, ↓x_gIx, ↓x_setAt, ↓x_asg, ↓x_par, ↓x_sm0, ↓x_smV, ↓x_smF, ↓x_app, ↓x_for, ↓x_for0, ↓x_for1, ↓x_comp0, ↓x_comp1, ↓x_fn, ↓x_iEnum, ↓x_range3, ↓x_comp2, ↓x_compN0, ↓x_compN1, ↓x_item2, ↓x_item2M, ↓x_gIx2, ↓x_compM, ↓x_callB, ↓x_pop, ↓x_dStar, ↓x_seeAt, ↓x_see, ↓x_seeR, ↓x_rev, ↓x_idx, q_addI, q_addT, q_addL, q_subI, q_ltI, q_leI, q_gtI, q_geI, q_isN, q_isNotN, q_eqI, q_neI, q_eqB, q_eqT0, q_eqT1, q_neT0, q_neT1, q_eqL0, q_eqL1, q_neL0, q_neL1, q_int, q_abs, q_min2, q_max2, q_at0, q_at1, q_at2, q_at3, q_ix0, q_ix1, q_ix2, q_sz, q_iteS, q_iteT, q_iteR, q_iteV, q_iteBB, q_iteII, q_iteAnd, q_iteOr, q_iteNot, q_iteCon, q_pa0, q_pa1, q_pa2, q_pa3, q_pa4, q_ow4, q_ma0, q_ma1, q_ma2, q_ma3, q_ma4, q_ow0, q_ow1, q_ow2, q_ow3, q_c0, q_c1, q_c2, q_c3, q_c4, q_c5, q_c6, q_c7, q_c8, q_c9, q_c10, q_c11, q_c12, q_all0, q_all1, q_all2, q_all3, q_inN2, q_inN0, q_02a, q_02b, q_repr, q_ol1, q_ol2, q_ol3, q_ll1, q_ll2, q_ll3, q_scB, List.getElem?_cons_zero, List.getElem?_cons_succ, List.set_cons_zero, List.set_cons_succ, wipeE, initE, outsOf, toAv, toAvB, scal, slotsOf, putOuts, natNodup, List.map_cons, List.map_nil, List.cons_append, List.nil_append, List.append_nil, List.replicate, List.length_cons, List.length_nil, isNone, isiD, seqD, gItem, truD, zipOf, zipD, pick, List.contains_nil, List.contains_cons, eq_self, List.cons_ne_nil, if_true, if_false, Bool.false_eq_true, Bool.true_eq_false, Bool.not_true, Bool.not_false, reduceIte, decide_true, decide_false, Nat.reduceAdd, Nat.reduceSub, Nat.zero_add, Nat.add_zero, and_self, true_and, and_true, Bool.and_true, Bool.true_and, Bool.or_false, Bool.false_or, Bool.or_true, Bool.true_or, Bool.and_false, Bool.false_and, Bool.or_self, Bool.and_self, Nat.sub_self, Option.map_some, Option.map_none, Nat.reduceBEq, Bool.not_eq_true, beq_self_eq_true, Nat.reduceLeDiff, Nat.reduceLT, Nat.reduceEqDiff, List.filterMap_cons, List.filterMap_nil, $as,*])
local macro_rules
  | `(tactic| dsimp! only [$as,*]) => `(tactic| simp only [↓x_var, ↓x_C, ↓x_op, ↓x_fz, ↓x_rV, ↓x_B, ↓x_chain, ↓x_tru, ↓x_notT, ↓x_andT, ↓x_orT, ↓x_and, ↓x_or, ↓x_not, ↓x_neg, ↓x_if, ↓x_aNil, ↓x_aVal, ↓x_aSlot, ↓x_aTmp, ↓x_aR, ↓x_call, ↓x_callK, ↓x_dNil, ↓x_dCons, ↓x_tup, ↓x_lst, ↓x_itemN, ↓x_ownItem, ↓x_lenN, ↓x_blt, ↓x_isi, ↓x_list, ↓x_rgL1, ↓x_rgL2, ↓x_iSeq, ↓x_iZip, ↓x_range1, ↓x_range2, ↓x_addR, ↓x_slice, ↓x_partN, ↓x_partS, ↓x_comp, ↓x_skip, ↓x_stuck, ↓x_break, ↓x_cont, ↓x_seq, ↓x_sIf, ↓x_sExpr, ↓x_ret, ↓x_retN, ↓x_move, ↓x_setRv, ↓x_setRf, ↓x_setRm, ↓x_set, ↓x_gN, ↓x_gsNil, ↓x_gsCons, ↓x_gTup, ↓x_gIx, ↓x_setAt, ↓x_asg, ↓x_par, ↓x_sm0, ↓x_smV, ↓x_smF, ↓x_app, ↓x_for, ↓x_for0, ↓x_for1, ↓x_comp0, ↓x_comp1, ↓x_fn, ↓x_iEnum, ↓x_range3, ↓x_comp2, ↓x_compN0, ↓x_compN1, ↓x_item2, ↓x_item2M, ↓x_gIx2, ↓x_compM, ↓x_callB, ↓x_pop, ↓x_dStar, ↓x_seeAt, ↓x_see, ↓x_seeR, ↓x_rev, ↓x_idx, q_addI, q_addT, q_addL, q_subI, q_ltI, q_leI, q_gtI, q_geI, q_isN, q_isNotN, q_eqI, q_neI, q_eqB, q_eqT0, q_eqT1, q_neT0, q_neT1, q_eqL0, q_eqL1, q_neL0, q_neL1, q_int, q_abs, q_min2, q_max2, q_at0, q_at1, q_at2, q_at3, q_ix0, q_ix1, q_ix2, q_sz, q_iteS, q_iteT, q_iteR, q_iteV, q_iteBB, q_iteII, q_iteAnd, q_iteOr, q_iteNot, q_iteCon, q_pa0, q_pa1, q_pa2, q_pa3, q_pa4, q_ow4, q_ma0, q_ma1, q_ma2, q_ma3, q_ma4, q_ow0, q_ow1, q_ow2, q_ow3, q_c0, q_c1, q_c2, q_c3, q_c4, q_c5, q_c6, q_c7, q_c8, q_c9, q_c10, q_c11, q_c12, q_all0, q_all1, q_all2, q_all3, q_inN2, q_inN0, q_02a, q_02b, q_repr, q_ol1, q_ol2, q_ol3, q_ll1, q_ll2, q_ll3, q_scB, List.getElem?_cons_zero, List.getElem?_cons_succ, List.set_cons_zero, List.set_cons_succ, wipeE, initE, outsOf, toAv, toAvB, scal, slotsOf, putOuts, natNodup, List.map_cons, List.map_nil, List.cons_append, List.nil_append, List.append_nil, List.replicate, List.length_cons, List.length_nil, isNone, isiD, seqD, truD, zipOf, zipD, pick, List.contains_nil, List.contains_cons, eq_self, List.cons_ne_nil, if_true, if_false, Bool.false_eq_true, Bool.true_eq_false, Bool.not_true, Bool.not_false, reduceIte, decide_true, decide_false, Nat.reduceAdd, Nat.reduceSub, Nat.zero_add, Nat.add_zero, and_self, true_and, and_true, Bool.and_true, Bool.true_and, Bool.or_false, Bool.false_or, Bool.or_true, Bool.true_or, Bool.and_false, Bool.false_and, Bool.or_self, Bool.and_self, Nat.sub_self, Option.map_some, Option.map_none, Nat.reduceBEq, Bool.not_eq_true, beq_self_eq_true, Nat.reduceLeDiff, Nat.reduceLT, Nat.reduceEqDiff, List.filterMap_cons, List.filterMap_nil, $as,*])
open PySem PySem.Spec PyProof.Rows L2
/-! ## rests: the law's own -/
theorem atI_z {d : D} {ds : List D} : atI (d :: ds) 0 = some d := by
  unfold atI
  rw [q_ixN (by omega) (by rw [List.length_cons]; omega)]
  rfl
abbrev CommF (f : Fn) : Prop := ∀ x y : Int, y.natAbs < 2 ^ 400 → f [.val (.int x), .val (.int y)] = some (.val (.int (Nat.gcd x.natAbs y.natAbs : Nat)), [])
def szL (z : Int) (ns : List Int) : Prop := ∀ x ∈ ns, -z ≤ x ∧ x ≤ z
section
variable {f g h w : Fn}
theorem k_common_ok : CommF k__law_common := fun x y hy => by
  have he := euclid 400 x.natAbs y.natAbs 30000 hy (by decide)
  have hx : (if x < 0 then -x else x) = ((x.natAbs : Nat) : Int) := abs_nat
  have hy' : (if y < 0 then -y else y) = ((y.natAbs : Nat) : Int) := abs_nat
  refine fn_rt (b := k__law_common_b) (e := [.val (.int (Nat.gcd x.natAbs y.natAbs : Nat)), .val (.int 0)]) ?_ rfl
  unfold k__law_common_b k__law_common_b_w
  refine seq_nx (e1 := [.val (.int (x.natAbs : Nat)), .val (.int (y.natAbs : Nat))]) (by simp! only [hx, hy']) (seq_nx he (by simp! only [x_C]))
theorem gcd_grain (G : Nat) (h : G ≠ 0) : ((Nat.gcd G 20160 : Nat) : Int) = grain G := by unfold grain; rw [if_neg h]
theorem k_least_ok (h1 : CommF f) {ns : List Int} (hl : ns.length ≤ 100000) (hz : szL (2 ^ 390) ns) : k__law_least f [.val (.list (ns.map PyData.int))] = some (.val (eR (leastR ns)), []) := by
  cases ns with
  | nil => simp! only [k__law_least, k__law_least_b, leastR, eR_n]
  | cons n ns =>
    have hn := hz n (List.mem_cons_self ..)
    have loop : ∀ (xs : List Int), (∀ x ∈ xs, -(2 ^ 390) ≤ x ∧ x ≤ 2 ^ 390) → ∀ (G : Nat) (s2 : Sl), Fr s2 → ∃ s2', forL (gN 2) (k__law_least_l1 f) (xs.map PyData.int) [.val (.list ((n :: ns).map PyData.int)), .val (.int (G : Nat)), s2] = some (.nx, [.val (.list ((n :: ns).map PyData.int)), .val (.int (gcdL n xs G : Nat)), s2']) := by
      intro xs
      induction xs with
      | nil => intro _ G s2 f2; exact ⟨s2, by rw [List.map_nil, x_for0]; rfl⟩
      | cons x xs ih =>
        intro hx G s2 f2
        have hx0 := hx x (List.mem_cons_self ..)
        obtain ⟨s2', e⟩ := ih (fun y hy => hx y (List.mem_cons_of_mem _ hy)) (Nat.gcd G (x - n).natAbs) (.val (.int x)) rfl
        refine ⟨s2', ?_⟩
        have hc := h1 (G : Nat) (x - n) (by omega)
        rw [Int.natAbs_natCast] at hc
        have hb : k__law_least_l1 f [.val (.list ((n :: ns).map PyData.int)), .val (.int (G : Nat)), .val (.int x)] = some (.nx, [.val (.list ((n :: ns).map PyData.int)), .val (.int (Nat.gcd G (x - n).natAbs : Nat)), .val (.int x)]) := by
          simp! only [k__law_least_l1, hc]
        have hg : gN 2 (.int x) [.val (.list ((n :: ns).map PyData.int)), .val (.int (G : Nat)), s2] = some [.val (.list ((n :: ns).map PyData.int)), .val (.int (G : Nat)), .val (.int x)] := by simp! only [show isPar s2 = false from f2]
        rw [List.map_cons, x_for1, hg]
        dsimp only
        rw [hb]
        exact e
    obtain ⟨s2', e⟩ := loop (n :: ns) (fun x hx => hz x hx) 0 .no rfl
    have hr : leastR (n :: ns) = restBy n (grain (gcdL n (n :: ns) 0)) := rfl
    rw [hr]
    generalize gcdL n (n :: ns) 0 = G at e ⊢
    have i0 : gItem (.list ((n :: ns).map PyData.int)) (.int 0) = some (.int n) := by
      show atI ((n :: ns).map PyData.int) 0 = _
      rw [List.map_cons, atI_z]
    have hq : gEq (.list ((n :: ns).map PyData.int)) (.list []) = some (.bool false) := q_eqL1
    have hc0 : ((0 : Nat) : Int) = 0 := rfl
    rw [hc0] at e
    have hi : iSeq (eVar 0) [.val (.list ((n :: ns).map PyData.int)), .val (.int 0), .no] = some ((n :: ns).map PyData.int, [.val (.list ((n :: ns).map PyData.int)), .val (.int 0), .no]) := by simp! only [x_C]
    have s1 : (sIf (eB (eOp gEq (eVar 0) (eFz (eLst dNil)))) (sRet (rV (eTup dNil))) sSkip) [.val (.list ((n :: ns).map PyData.int)), .no, .no] = some (.nx, [.val (.list ((n :: ns).map PyData.int)), .no, .no]) := by simp! only [hq]
    have s2 : (sSet 1 (rV (eC (.int 0)))) [.val (.list ((n :: ns).map PyData.int)), .no, .no] = some (.nx, [.val (.list ((n :: ns).map PyData.int)), .val (.int 0), .no]) := by simp! only [x_C]
    generalize (PyData.list ((n :: ns).map PyData.int)) = dl at e i0 hq hi s1 s2 ⊢
    have hq2 := q_ne0 (x := (G : Int))
    by_cases c : G = 0
    · subst c
      have hg : grain 0 = 0 := rfl
      rw [hg]
      refine fn_rt (b := k__law_least_b f) (e := [.val dl, .val (.int 0), s2']) ?_ rfl
      unfold k__law_least_b
      refine seq_nx s1 (seq_nx s2 (seq_nx (for_nx hi e) (seq_rt ?_)))
      dsimp! only [i0, restBy, eR_s]
    · have c2 : ¬ ((G : Int) = 0) := by omega
      have hc := h1 (G : Nat) 20160 (by decide)
      rw [Int.natAbs_natCast, show (20160 : Int).natAbs = 20160 from rfl, gcd_grain G c] at hc
      have hp : 0 < grain G := by
        have := grain_nn G
        have : grain G ≠ 0 := by
          rw [← gcd_grain G c]
          have := Nat.gcd_pos_of_pos_right G (show 0 < 20160 by decide)
          omega
        omega
      have e2 : restBy n (grain G) = some (n % grain G, grain G) := by unfold restBy; rw [if_neg (by omega)]
      rw [e2]
      refine fn_rt (b := k__law_least_b f) (e := [.val dl, .val (.int (grain G)), s2']) ?_ rfl
      unfold k__law_least_b
      refine seq_nx s1 (seq_nx s2 (seq_nx (for_nx hi e) (seq_nx (e1 := [.val dl, .val (.int (G : Nat)), s2']) ?_ (seq_nx (e1 := [.val dl, .val (.int (grain G)), s2']) ?_ ?_))))
      · simp! only [c2]
      · simp! only [hc]
      · dsimp! only [i0, q_modI hp, eR_s]
end
end Ev
namespace Ev
local macro_rules
  | `(tactic| simp! only [$as,*]) => `(tactic| simp only [↓x_var, ↓x_C, ↓x_op, ↓x_fz, ↓x_rV, ↓x_B, ↓x_chain, ↓x_tru, ↓x_notT, ↓x_andT, ↓x_orT, ↓x_and, ↓x_or, ↓x_not, ↓x_neg, ↓x_if, ↓x_aNil, ↓x_aVal, ↓x_aSlot, ↓x_aTmp, ↓x_aR, ↓x_call, ↓x_callK, ↓x_dNil, ↓x_dCons, ↓x_tup, ↓x_lst, ↓x_itemN, ↓x_ownItem, ↓x_lenN, ↓x_blt, ↓x_isi, ↓x_list, ↓x_rgL1, ↓x_rgL2, ↓x_iSeq, ↓x_iZip, ↓x_range1, ↓x_range2, ↓x_addR, ↓x_slice, ↓x_partN, ↓x_partS, ↓x_comp, ↓x_skip, ↓x_stuck, ↓x_break, ↓x_cont, ↓x_seq, ↓x_sIf, ↓x_sExpr, ↓x_ret, ↓x_retN, ↓x_move, ↓x_setRv, ↓x_setRf, ↓x_setRm, ↓x_set, ↓x_gN, ↓x_gsNil, ↓x_gsCons, ↓x_gTup, ↓x_gIx, ↓x_setAt, ↓x_asg, ↓x_par, ↓x_sm0, ↓x_smV, ↓x_smF, ↓x_app, ↓x_for, ↓x_for0, ↓x_for1, ↓x_comp0, ↓x_comp1, ↓x_fn, ↓x_iEnum, ↓x_range3, ↓x_comp2, ↓x_compN0, ↓x_compN1, ↓x_item2, ↓x_item2M, ↓x_gIx2, ↓x_compM, ↓x_callB, ↓x_pop, ↓x_dStar, ↓x_seeAt, ↓x_see, ↓x_seeR, ↓x_rev, ↓x_idx, q_addI, q_addT, q_addL, q_subI, q_ltI, q_leI, q_gtI, q_geI, q_isN, q_isNotN, q_eqI, q_neI, q_eqB, q_eqT0, q_eqT1, q_neT0, q_neT1, q_eqL0, q_eqL1, q_neL0, q_neL1, q_int, q_abs, q_min2, q_max2, q_at0, q_at1, q_at2, q_at3, q_ix0, q_ix1, q_ix2, q_sz, q_iteS, q_iteT, q_iteR, q_iteV, q_iteBB, q_iteII, q_iteAnd, q_iteOr, q_iteNot, q_iteCon, q_pa0, q_pa1, q_pa2, q_pa3, q_pa4, q_ow4, q_ma0, q_ma1, q_ma2, q_ma3, q_ma4, q_ow0, q_ow1, q_ow2, q_ow3, q_c0, q_c1, q_c2, q_c3, q_c4, q_c5, q_c6, q_c7, q_c8, q_c9, q_c10, q_c11, q_c12, q_all0, q_all1, q_all2, q_all3, q_inN2, q_inN0, q_02a, q_02b, q_repr, q_ol1, q_ol2, q_ol3, q_ll1, q_ll2, q_ll3, q_scB, List.getElem?_cons_zero, List.getElem?_cons_succ, List.set_cons_zero, List.set_cons_succ, wipeE, initE, outsOf, toAv, toAvB, scal, slotsOf, putOuts, natNodup, List.map_cons, List.map_nil, List.cons_append, List.nil_append, List.append_nil, List.replicate, List.length_cons, List.length_nil, isNone, isiD, seqD, gItem, truD, zipOf, zipD, pick, List.contains_nil, List.contains_cons, eq_self, List.cons_ne_nil, if_true, if_false, Bool.false_eq_true, Bool.true_eq_false, Bool.not_true, Bool.not_false, reduceIte, decide_true, decide_false, Nat.reduceAdd, Nat.reduceSub, Nat.zero_add, Nat.add_zero, and_self, true_and, and_true, Bool.and_true, Bool.true_and, Bool.or_false, Bool.false_or, Bool.or_true, Bool.true_or, Bool.and_false, Bool.false_and, Bool.or_self, Bool.and_self, Nat.sub_self, Option.map_some, Option.map_none, Nat.reduceBEq, Bool.not_eq_true, beq_self_eq_true, Nat.reduceLeDiff, Nat.reduceLT, Nat.reduceEqDiff, List.filterMap_cons, List.filterMap_nil, $as,*])
open PySem PySem.Spec PyProof.Rows L2
/-! ## rests drawn -/
def szR (z : Int) : RR → Prop
  | none => True
  | some (r, _) => -z ≤ r ∧ r ≤ z
theorem szR.mono {z z' : Int} {a : RR} (h : szR z a) (hz : z ≤ z') : szR z' a := by
  rcases a with _ | ⟨r, m⟩
  · trivial
  · exact ⟨by have := h.1; omega, by have := h.2; omega⟩
def Pa (g : Fn) : Prop := ∀ (b : Nat) (ds : List D), Src (b + 4) ds → ∃ (p : Int) (ds' : List D), g [.own ds] = some (.val (.int p), [ds']) ∧ 0 < p ∧ p ∣ 20160 ∧ p ≤ 20160 ∧ Src b ds'
def Rst (k : Nat) (g : Fn) : Prop := ∀ (b : Nat) (ds : List D), Src (b + k) ds → ∃ (a : RR) (ds' : List D), g [.own ds] = some (.val (eR a), [ds']) ∧ okR a = true ∧ szR (2 ^ 111) a ∧ Src b ds'
def Rnr (k : Nat) (g : Fn) : Prop := ∀ (b : Nat) (ds : List D) (o : RR) (z : Int), Src (b + k) ds → okR o = true → szR z o → 2 ^ 111 ≤ z → ∃ (a : RR) (ds' : List D), g [.own ds, .val (eR o)] = some (.val (eR a), [ds']) ∧ okR a = true ∧ szR (z + 400000) a ∧ Src b ds'
theorem pick_tup {p : Fn} (P : Pk p) {b : Nat} {ds : List D} {xs : List D} (h : Src (b + 1) ds) (hx : xs ≠ []) (hl : xs.length < 1000000) : ∃ d ∈ xs, ∃ ds', p [.own ds, .val (.tuple xs)] = some (.val d, [ds']) ∧ Src b ds' := (P b ds xs h hx hl).2
theorem k_part_ok {p : Fn} (P : Pk p) : Pa (k__law_part p) := by
  intro b ds h
  obtain ⟨d1, h1, s1, e1, g1⟩ := pick_tup P (b := b + 3) (xs := [.int 1, .int 1, .int 2, .int 2, .int 4, .int 4, .int 8, .int 16, .int 32, .int 64]) h (by simp) (by simp)
  obtain ⟨d2, h2, s2, e2, g2⟩ := pick_tup P (b := b + 2) (xs := [.int 1, .int 1, .int 3, .int 9]) g1 (by simp) (by simp)
  obtain ⟨d3, h3, s3, e3, g3⟩ := pick_tup P (b := b + 1) (xs := [.int 1, .int 1, .int 1, .int 5]) g2 (by simp) (by simp)
  obtain ⟨d4, h4, s4, e4, g4⟩ := pick_tup P (b := b) (xs := [.int 1, .int 1, .int 1, .int 7]) g3 (by simp) (by simp)
  have f1 : ∃ t ∈ [(1 : Int), 2, 4, 8, 16, 32, 64], d1 = .int t := by simp only [List.mem_cons, List.not_mem_nil, or_false] at h1; rcases h1 with rfl | rfl | rfl | rfl | rfl | rfl | rfl | rfl | rfl | rfl <;> exact ⟨_, by decide, rfl⟩
  have f2 : ∃ t ∈ [(1 : Int), 3, 9], d2 = .int t := by simp only [List.mem_cons, List.not_mem_nil, or_false] at h2; rcases h2 with rfl | rfl | rfl | rfl <;> exact ⟨_, by decide, rfl⟩
  have f3 : ∃ t ∈ [(1 : Int), 5], d3 = .int t := by simp only [List.mem_cons, List.not_mem_nil, or_false] at h3; rcases h3 with rfl | rfl | rfl | rfl <;> exact ⟨_, by decide, rfl⟩
  have f4 : ∃ t ∈ [(1 : Int), 7], d4 = .int t := by simp only [List.mem_cons, List.not_mem_nil, or_false] at h4; rcases h4 with rfl | rfl | rfl | rfl <;> exact ⟨_, by decide, rfl⟩
  obtain ⟨t1, m1, rfl⟩ := f1
  obtain ⟨t2, m2, rfl⟩ := f2
  obtain ⟨t3, m3, rfl⟩ := f3
  obtain ⟨t4, m4, rfl⟩ := f4
  have all : ([(1 : Int), 2, 4, 8, 16, 32, 64].all fun t1 => [(1 : Int), 3, 9].all fun t2 => [(1 : Int), 5].all fun t3 => [(1 : Int), 7].all fun t4 => decide (0 < t1 * t2 * t3 * t4 ∧ 20160 % (t1 * t2 * t3 * t4) = 0 ∧ t1 * t2 * t3 * t4 ≤ 20160) && (mulOk t1 t2 && (mulOk (t1 * t2) t3 && mulOk (t1 * t2 * t3) t4))) = true := by decide +kernel
  have q := List.all_eq_true.mp (List.all_eq_true.mp (List.all_eq_true.mp (List.all_eq_true.mp all t1 m1) t2 m2) t3 m3) t4 m4
  obtain ⟨q1, q2⟩ := andB q
  obtain ⟨q2, q3⟩ := andB q2
  obtain ⟨q3, q4⟩ := andB q3
  obtain ⟨r1, r2, r3⟩ := of_decide_eq_true q1
  refine ⟨t1 * t2 * t3 * t4, s4, ?_, r1, Int.dvd_of_emod_eq_zero r2, r3, g4⟩
  simp! only [k__law_part, k__law_part_b, e1, e2, e3, e4, q_mulI q2, q_mulI q3, q_mulI q4]
theorem ok_mk {x g : Int} (h1 : 0 < g) (h2 : g ∣ 20160) : okR (some (x % g, g)) = true := ok_of (.inr ⟨h1, h2, Int.emod_nonneg _ (by omega), Int.emod_lt_of_pos _ h1⟩)
theorem k_rest_ok {t nu pa : Fn} (T : Tk t) (N : Nm 7 (2 ^ 110) nu) (P : Pa pa) : Rst 8 (k__law_rest t nu pa) := by
  intro b ds h
  obtain ⟨v1, d1, e1, p1, q1, s1⟩ := T (b + 7) ds 9 h (by decide) (by decide)
  by_cases c1 : v1 < 3
  · by_cases c0 : v1 = 0
    · refine ⟨none, d1, ?_, rfl, trivial, s1.mono (by omega)⟩
      subst c0
      simp! only [k__law_rest, k__law_rest_b, e1, eR_n]
      rfl
    · obtain ⟨v, d2, e2, z1, z2, s2⟩ := N b d1 s1
      refine ⟨some (v, 0), d2, ?_, ok_of (.inl rfl), ⟨by omega, by omega⟩, s2⟩
      simp! only [k__law_rest, k__law_rest_b, e1, e2, c0, c1, eR_s]
  · obtain ⟨p, d2, e2, z1, z2, z3, s2⟩ := P (b + 3) d1 s1
    obtain ⟨v, d3, e3, p3, q3, s3⟩ := T (b + 2) d2 p s2 z1 (by omega)
    refine ⟨some (v, p), d3, ?_, ok_of (.inr ⟨z1, z2, p3, q3⟩), ⟨by omega, by omega⟩, s3.mono (by omega)⟩
    simp! only [k__law_rest, k__law_rest_b, e1, e2, e3, c1, eR_s]
theorem k_rnear_ok {t p pa re : Fn} (T : Tk t) (P : Pk p) (A : Pa pa) (R : Rst 8 re) : Rnr 16 (k__law_rest_near t p pa re) := by
  intro b ds o z h ho hz hz2
  rcases o with _ | ⟨r, m⟩
  · obtain ⟨a, d1, e1, oa, za, s1⟩ := R (b + 8) ds h
    refine ⟨a, d1, ?_, oa, za.mono (by omega), s1.mono (by omega)⟩
    simp! only [k__law_rest_near, k__law_rest_near_b, eR_n, e1]
  obtain ⟨v1, d1, e1, p1, q1, s1⟩ := T (b + 15) ds 4 h (by decide) (by decide)
  by_cases c1 : v1 = 0
  · obtain ⟨a, d2, e2, oa, za, s2⟩ := R (b + 7) d1 s1
    refine ⟨a, d2, ?_, oa, za.mono (by omega), s2.mono (by omega)⟩
    simp! only [k__law_rest_near, k__law_rest_near_b, eR_s, e1, c1, e2]
  obtain ⟨v2, d2, e2, p2, q2, s2⟩ := T (b + 14) d1 7 s1 (by decide) (by decide)
  obtain ⟨x, hx, d3, e3, s3⟩ := pick_tup P (b := b + 13) (xs := [.int 0, .int 0, .int 0, .int 1, .int (m / 2)]) s2 (by simp) (by simp)
  obtain ⟨v4, d4, e4, p4, q4, s4⟩ := T (b + 12) d3 4 s3 (by decide) (by decide)
  have hm := ok_nn ho
  have hx2 : ∃ k : Int, x = .int k ∧ 0 ≤ k ∧ k ≤ 20160 := by
    simp only [List.mem_cons, List.not_mem_nil, or_false] at hx
    rcases hx with rfl | rfl | rfl | rfl | rfl
    · exact ⟨0, rfl, by omega, by omega⟩
    · exact ⟨0, rfl, by omega, by omega⟩
    · exact ⟨0, rfl, by omega, by omega⟩
    · exact ⟨1, rfl, by omega, by omega⟩
    · exact ⟨m / 2, rfl, by omega, by omega⟩
  obtain ⟨k, rfl, k1, k2⟩ := hx2
  have hmul : mulOk m (v2 - 3) = true := mulOk_lt (a := 20) (b := 4) (by omega) (by omega) (by decide)
  have hfd : gFdiv (.int m) (.int 2) = some (.int (m / 2)) := q_fdivI (by decide) (by decide)
  have hb : -60480 ≤ m * (v2 - 3) ∧ m * (v2 - 3) ≤ 60480 := by
    have : v2 = 0 ∨ v2 = 1 ∨ v2 = 2 ∨ v2 = 3 ∨ v2 = 4 ∨ v2 = 5 ∨ v2 = 6 := by omega
    rcases this with rfl | rfl | rfl | rfl | rfl | rfl | rfl <;> omega
  have hz1 := hz.1
  have hz3 := hz.2
  by_cases c4 : v4 = 0
  · refine ⟨some (r + m * (v2 - 3) + k, 0), d4, ?_, ok_of (.inl rfl), ⟨by omega, by omega⟩, s4.mono (by omega)⟩
    simp! only [k__law_rest_near, k__law_rest_near_b, eR_s, e1, c1, e2, hfd, q_mulI hmul, e3, e4, c4]
  · obtain ⟨p, d5, e5, y1, y2, y3, s5⟩ := A (b + 8) d4 s4
    have b1 := Int.emod_nonneg (r + m * (v2 - 3) + k) (b := p) (by omega)
    have b2 := Int.emod_lt_of_pos (r + m * (v2 - 3) + k) y1
    refine ⟨some ((r + m * (v2 - 3) + k) % p, p), d5, ?_, ok_mk y1 y2, ⟨by omega, by omega⟩, s5.mono (by omega)⟩
    simp! only [k__law_rest_near, k__law_rest_near_b, eR_s, e1, c1, e2, hfd, q_mulI hmul, e3, e4, c4, e5, q_modI y1]
/-! ## ranks -/
section
variable {f g h w : Fn}
/-! ## k33 -/
abbrev LeastF (f : Fn) : Prop := ∀ ns : List Int, ns.length ≤ 100000 → szL (2 ^ 390) ns → f [.val (.list (ns.map PyData.int))] = some (.val (eR (leastR ns)), [])
end
end Ev
namespace Ev
local macro_rules
  | `(tactic| simp! only [$as,*]) => `(tactic| simp only [↓x_var, ↓x_C, ↓x_op, ↓x_fz, ↓x_rV, ↓x_B, ↓x_chain, ↓x_tru, ↓x_notT, ↓x_andT, ↓x_orT, ↓x_and, ↓x_or, ↓x_not, ↓x_neg, ↓x_if, ↓x_aNil, ↓x_aVal, ↓x_aSlot, ↓x_aTmp, ↓x_aR, ↓x_call, ↓x_callK, ↓x_dNil, ↓x_dCons, ↓x_tup, ↓x_lst, ↓x_itemN, ↓x_ownItem, ↓x_lenN, ↓x_blt, ↓x_isi, ↓x_list, ↓x_rgL1, ↓x_rgL2, ↓x_iSeq, ↓x_iZip, ↓x_range1, ↓x_range2, ↓x_addR, ↓x_slice, ↓x_partN, ↓x_partS, ↓x_comp, ↓x_skip, ↓x_stuck, ↓x_break, ↓x_cont, ↓x_seq, ↓x_sIf, ↓x_sExpr, ↓x_ret, ↓x_retN, ↓x_move, ↓x_setRv, ↓x_setRf, ↓x_setRm, ↓x_set, ↓x_gN, ↓x_gsNil, ↓x_gsCons, ↓x_gTup, ↓x_gIx, ↓x_setAt, ↓x_asg, ↓x_par, ↓x_sm0, ↓x_smV, ↓x_smF, ↓x_app, ↓x_for, ↓x_for0, ↓x_for1, ↓x_comp0, ↓x_comp1, ↓x_fn, ↓x_iEnum, ↓x_range3, ↓x_comp2, ↓x_compN0, ↓x_compN1, ↓x_item2, ↓x_item2M, ↓x_gIx2, ↓x_compM, ↓x_callB, ↓x_pop, ↓x_dStar, ↓x_seeAt, ↓x_see, ↓x_seeR, ↓x_rev, ↓x_idx, q_addI, q_addT, q_addL, q_subI, q_ltI, q_leI, q_gtI, q_geI, q_isN, q_isNotN, q_eqI, q_neI, q_eqB, q_eqT0, q_eqT1, q_neT0, q_neT1, q_eqL0, q_eqL1, q_neL0, q_neL1, q_int, q_abs, q_min2, q_max2, q_at0, q_at1, q_at2, q_at3, q_ix0, q_ix1, q_ix2, q_sz, q_iteS, q_iteT, q_iteR, q_iteV, q_iteBB, q_iteII, q_iteAnd, q_iteOr, q_iteNot, q_iteCon, q_pa0, q_pa1, q_pa2, q_pa3, q_pa4, q_ow4, q_ma0, q_ma1, q_ma2, q_ma3, q_ma4, q_ow0, q_ow1, q_ow2, q_ow3, q_c0, q_c1, q_c2, q_c3, q_c4, q_c5, q_c6, q_c7, q_c8, q_c9, q_c10, q_c11, q_c12, q_all0, q_all1, q_all2, q_all3, q_inN2, q_inN0, q_02a, q_02b, q_repr, q_ol1, q_ol2, q_ol3, q_ll1, q_ll2, q_ll3, q_scB, List.getElem?_cons_zero, List.getElem?_cons_succ, List.set_cons_zero, List.set_cons_succ, wipeE, initE, outsOf, toAv, toAvB, scal, slotsOf, putOuts, natNodup, List.map_cons, List.map_nil, List.cons_append, List.nil_append, List.append_nil, List.replicate, List.length_cons, List.length_nil, isNone, isiD, seqD, gItem, truD, zipOf, zipD, pick, List.contains_nil, List.contains_cons, eq_self, List.cons_ne_nil, if_true, if_false, Bool.false_eq_true, Bool.true_eq_false, Bool.not_true, Bool.not_false, reduceIte, decide_true, decide_false, Nat.reduceAdd, Nat.reduceSub, Nat.zero_add, Nat.add_zero, and_self, true_and, and_true, Bool.and_true, Bool.true_and, Bool.or_false, Bool.false_or, Bool.or_true, Bool.true_or, Bool.and_false, Bool.false_and, Bool.or_self, Bool.and_self, Nat.sub_self, Option.map_some, Option.map_none, Nat.reduceBEq, Bool.not_eq_true, beq_self_eq_true, Nat.reduceLeDiff, Nat.reduceLT, Nat.reduceEqDiff, List.filterMap_cons, List.filterMap_nil, $as,*])
open PySem PySem.Spec PyProof.Rows L2
end Ev
namespace Ev
open PySem PySem.Spec PyProof.Rows L2
/-! ## k25: sums and products -/
abbrev Cn := Int × Int
/-! ### sorted pairs -/
end Ev
namespace Ev
local macro_rules
  | `(tactic| simp! only [$as,*]) => `(tactic| simp only [↓x_var, ↓x_C, ↓x_op, ↓x_fz, ↓x_rV, ↓x_B, ↓x_chain, ↓x_tru, ↓x_notT, ↓x_andT, ↓x_orT, ↓x_and, ↓x_or, ↓x_not, ↓x_neg, ↓x_if, ↓x_aNil, ↓x_aVal, ↓x_aSlot, ↓x_aTmp, ↓x_aR, ↓x_call, ↓x_callK, ↓x_dNil, ↓x_dCons, ↓x_tup, ↓x_lst, ↓x_itemN, ↓x_ownItem, ↓x_lenN, ↓x_blt, ↓x_isi, ↓x_list, ↓x_rgL1, ↓x_rgL2, ↓x_iSeq, ↓x_iZip, ↓x_range1, ↓x_range2, ↓x_addR, ↓x_slice, ↓x_partN, ↓x_partS, ↓x_comp, ↓x_skip, ↓x_stuck, ↓x_break, ↓x_cont, ↓x_seq, ↓x_sIf, ↓x_sExpr, ↓x_ret, ↓x_retN, ↓x_move, ↓x_setRv, ↓x_setRf, ↓x_setRm, ↓x_set, ↓x_gN, ↓x_gsNil, ↓x_gsCons, ↓x_gTup, ↓x_gIx, ↓x_setAt, ↓x_asg, ↓x_par, ↓x_sm0, ↓x_smV, ↓x_smF, ↓x_app, ↓x_for, ↓x_for0, ↓x_for1, ↓x_comp0, ↓x_comp1, ↓x_fn, ↓x_iEnum, ↓x_range3, ↓x_comp2, ↓x_compN0, ↓x_compN1, ↓x_item2, ↓x_item2M, ↓x_gIx2, ↓x_compM, ↓x_callB, ↓x_pop, ↓x_dStar, ↓x_seeAt, ↓x_see, ↓x_seeR, ↓x_rev, ↓x_idx, q_addI, q_addT, q_addL, q_subI, q_ltI, q_leI, q_gtI, q_geI, q_isN, q_isNotN, q_eqI, q_neI, q_eqB, q_eqT0, q_eqT1, q_neT0, q_neT1, q_eqL0, q_eqL1, q_neL0, q_neL1, q_int, q_abs, q_min2, q_max2, q_at0, q_at1, q_at2, q_at3, q_ix0, q_ix1, q_ix2, q_sz, q_iteS, q_iteT, q_iteR, q_iteV, q_iteBB, q_iteII, q_iteAnd, q_iteOr, q_iteNot, q_iteCon, q_pa0, q_pa1, q_pa2, q_pa3, q_pa4, q_ow4, q_ma0, q_ma1, q_ma2, q_ma3, q_ma4, q_ow0, q_ow1, q_ow2, q_ow3, q_c0, q_c1, q_c2, q_c3, q_c4, q_c5, q_c6, q_c7, q_c8, q_c9, q_c10, q_c11, q_c12, q_all0, q_all1, q_all2, q_all3, q_inN2, q_inN0, q_02a, q_02b, q_repr, q_ol1, q_ol2, q_ol3, q_ll1, q_ll2, q_ll3, q_scB, List.getElem?_cons_zero, List.getElem?_cons_succ, List.set_cons_zero, List.set_cons_succ, wipeE, initE, outsOf, toAv, toAvB, scal, slotsOf, putOuts, natNodup, List.map_cons, List.map_nil, List.cons_append, List.nil_append, List.append_nil, List.replicate, List.length_cons, List.length_nil, isNone, isiD, seqD, gItem, truD, zipOf, zipD, pick, List.contains_nil, List.contains_cons, eq_self, List.cons_ne_nil, if_true, if_false, Bool.false_eq_true, Bool.true_eq_false, Bool.not_true, Bool.not_false, reduceIte, decide_true, decide_false, Nat.reduceAdd, Nat.reduceSub, Nat.zero_add, Nat.add_zero, and_self, true_and, and_true, Bool.and_true, Bool.true_and, Bool.or_false, Bool.false_or, Bool.or_true, Bool.true_or, Bool.and_false, Bool.false_and, Bool.or_self, Bool.and_self, Nat.sub_self, Option.map_some, Option.map_none, Nat.reduceBEq, Bool.not_eq_true, beq_self_eq_true, Nat.reduceLeDiff, Nat.reduceLT, Nat.reduceEqDiff, List.filterMap_cons, List.filterMap_nil, $as,*])
open PySem PySem.Spec PyProof.Rows L2
section
variable {f g h w : Fn}
end
end Ev
namespace Ev
local macro_rules
  | `(tactic| simp! only [$as,*]) => `(tactic| simp only [↓x_var, ↓x_C, ↓x_op, ↓x_fz, ↓x_rV, ↓x_B, ↓x_chain, ↓x_tru, ↓x_notT, ↓x_andT, ↓x_orT, ↓x_and, ↓x_or, ↓x_not, ↓x_neg, ↓x_if, ↓x_aNil, ↓x_aVal, ↓x_aSlot, ↓x_aTmp, ↓x_aR, ↓x_call, ↓x_callK, ↓x_dNil, ↓x_dCons, ↓x_tup, ↓x_lst, ↓x_itemN, ↓x_ownItem, ↓x_lenN, ↓x_blt, ↓x_isi, ↓x_list, ↓x_rgL1, ↓x_rgL2, ↓x_iSeq, ↓x_iZip, ↓x_range1, ↓x_range2, ↓x_addR, ↓x_slice, ↓x_partN, ↓x_partS, ↓x_comp, ↓x_skip, ↓x_stuck, ↓x_break, ↓x_cont, ↓x_seq, ↓x_sIf, ↓x_sExpr, ↓x_ret, ↓x_retN, ↓x_move, ↓x_setRv, ↓x_setRf, ↓x_setRm, ↓x_set, ↓x_gN, ↓x_gsNil, ↓x_gsCons, ↓x_gTup, ↓x_gIx, ↓x_setAt, ↓x_asg, ↓x_par, ↓x_sm0, ↓x_smV, ↓x_smF, ↓x_app, ↓x_for, ↓x_for0, ↓x_for1, ↓x_comp0, ↓x_comp1, ↓x_fn, ↓x_iEnum, ↓x_range3, ↓x_comp2, ↓x_compN0, ↓x_compN1, ↓x_item2, ↓x_item2M, ↓x_gIx2, ↓x_compM, ↓x_callB, ↓x_pop, ↓x_dStar, ↓x_seeAt, ↓x_see, ↓x_seeR, ↓x_rev, ↓x_idx, q_addI, q_addT, q_addL, q_subI, q_ltI, q_leI, q_gtI, q_geI, q_isN, q_isNotN, q_eqI, q_neI, q_eqB, q_eqT0, q_eqT1, q_neT0, q_neT1, q_eqL0, q_eqL1, q_neL0, q_neL1, q_int, q_abs, q_min2, q_max2, q_at0, q_at1, q_at2, q_at3, q_ix0, q_ix1, q_ix2, q_sz, q_iteS, q_iteT, q_iteR, q_iteV, q_iteBB, q_iteII, q_iteAnd, q_iteOr, q_iteNot, q_iteCon, q_pa0, q_pa1, q_pa2, q_pa3, q_pa4, q_ow4, q_ma0, q_ma1, q_ma2, q_ma3, q_ma4, q_ow0, q_ow1, q_ow2, q_ow3, q_c0, q_c1, q_c2, q_c3, q_c4, q_c5, q_c6, q_c7, q_c8, q_c9, q_c10, q_c11, q_c12, q_all0, q_all1, q_all2, q_all3, q_inN2, q_inN0, q_02a, q_02b, q_repr, q_ol1, q_ol2, q_ol3, q_ll1, q_ll2, q_ll3, q_scB, List.getElem?_cons_zero, List.getElem?_cons_succ, List.set_cons_zero, List.set_cons_succ, wipeE, initE, outsOf, toAv, toAvB, scal, slotsOf, putOuts, natNodup, List.map_cons, List.map_nil, List.cons_append, List.nil_append, List.append_nil, List.replicate, List.length_cons, List.length_nil, isNone, isiD, seqD, gItem, truD, zipOf, zipD, pick, List.contains_nil, List.contains_cons, eq_self, List.cons_ne_nil, if_true, if_false, Bool.false_eq_true, Bool.true_eq_false, Bool.not_true, Bool.not_false, reduceIte, decide_true, decide_false, Nat.reduceAdd, Nat.reduceSub, Nat.zero_add, Nat.add_zero, and_self, true_and, and_true, Bool.and_true, Bool.true_and, Bool.or_false, Bool.false_or, Bool.or_true, Bool.true_or, Bool.and_false, Bool.false_and, Bool.or_self, Bool.and_self, Nat.sub_self, Option.map_some, Option.map_none, Nat.reduceBEq, Bool.not_eq_true, beq_self_eq_true, Nat.reduceLeDiff, Nat.reduceLT, Nat.reduceEqDiff, List.filterMap_cons, List.filterMap_nil, $as,*])
local macro_rules
  | `(tactic| dsimp! only [$as,*]) => `(tactic| simp only [↓x_var, ↓x_C, ↓x_op, ↓x_fz, ↓x_rV, ↓x_B, ↓x_chain, ↓x_tru, ↓x_notT, ↓x_andT, ↓x_orT, ↓x_and, ↓x_or, ↓x_not, ↓x_neg, ↓x_if, ↓x_aNil, ↓x_aVal, ↓x_aSlot, ↓x_aTmp, ↓x_aR, ↓x_call, ↓x_callK, ↓x_dNil, ↓x_dCons, ↓x_tup, ↓x_lst, ↓x_itemN, ↓x_ownItem, ↓x_lenN, ↓x_blt, ↓x_isi, ↓x_list, ↓x_rgL1, ↓x_rgL2, ↓x_iSeq, ↓x_iZip, ↓x_range1, ↓x_range2, ↓x_addR, ↓x_slice, ↓x_partN, ↓x_partS, ↓x_comp, ↓x_skip, ↓x_stuck, ↓x_break, ↓x_cont, ↓x_seq, ↓x_sIf, ↓x_sExpr, ↓x_ret, ↓x_retN, ↓x_move, ↓x_setRv, ↓x_setRf, ↓x_setRm, ↓x_set, ↓x_gN, ↓x_gsNil, ↓x_gsCons, ↓x_gTup, ↓x_gIx, ↓x_setAt, ↓x_asg, ↓x_par, ↓x_sm0, ↓x_smV, ↓x_smF, ↓x_app, ↓x_for, ↓x_for0, ↓x_for1, ↓x_comp0, ↓x_comp1, ↓x_fn, ↓x_iEnum, ↓x_range3, ↓x_comp2, ↓x_compN0, ↓x_compN1, ↓x_item2, ↓x_item2M, ↓x_gIx2, ↓x_compM, ↓x_callB, ↓x_pop, ↓x_dStar, ↓x_seeAt, ↓x_see, ↓x_seeR, ↓x_rev, ↓x_idx, q_addI, q_addT, q_addL, q_subI, q_ltI, q_leI, q_gtI, q_geI, q_isN, q_isNotN, q_eqI, q_neI, q_eqB, q_eqT0, q_eqT1, q_neT0, q_neT1, q_eqL0, q_eqL1, q_neL0, q_neL1, q_int, q_abs, q_min2, q_max2, q_at0, q_at1, q_at2, q_at3, q_ix0, q_ix1, q_ix2, q_sz, q_iteS, q_iteT, q_iteR, q_iteV, q_iteBB, q_iteII, q_iteAnd, q_iteOr, q_iteNot, q_iteCon, q_pa0, q_pa1, q_pa2, q_pa3, q_pa4, q_ow4, q_ma0, q_ma1, q_ma2, q_ma3, q_ma4, q_ow0, q_ow1, q_ow2, q_ow3, q_c0, q_c1, q_c2, q_c3, q_c4, q_c5, q_c6, q_c7, q_c8, q_c9, q_c10, q_c11, q_c12, q_all0, q_all1, q_all2, q_all3, q_inN2, q_inN0, q_02a, q_02b, q_repr, q_ol1, q_ol2, q_ol3, q_ll1, q_ll2, q_ll3, q_scB, List.getElem?_cons_zero, List.getElem?_cons_succ, List.set_cons_zero, List.set_cons_succ, wipeE, initE, outsOf, toAv, toAvB, scal, slotsOf, putOuts, natNodup, List.map_cons, List.map_nil, List.cons_append, List.nil_append, List.append_nil, List.replicate, List.length_cons, List.length_nil, isNone, isiD, seqD, truD, zipOf, zipD, pick, List.contains_nil, List.contains_cons, eq_self, List.cons_ne_nil, if_true, if_false, Bool.false_eq_true, Bool.true_eq_false, Bool.not_true, Bool.not_false, reduceIte, decide_true, decide_false, Nat.reduceAdd, Nat.reduceSub, Nat.zero_add, Nat.add_zero, and_self, true_and, and_true, Bool.and_true, Bool.true_and, Bool.or_false, Bool.false_or, Bool.or_true, Bool.true_or, Bool.and_false, Bool.false_and, Bool.or_self, Bool.and_self, Nat.sub_self, Option.map_some, Option.map_none, Nat.reduceBEq, Bool.not_eq_true, beq_self_eq_true, Nat.reduceLeDiff, Nat.reduceLT, Nat.reduceEqDiff, List.filterMap_cons, List.filterMap_nil, $as,*])
open PySem PySem.Spec PyProof.Rows L2
section
variable {f g h w : Fn}
end
end Ev
namespace Ev
open PySem PySem.Spec PyProof.Rows L2
/-! ## laws of sums -/
/-! ## laws of products -/
/-- a corner that is far below, or one that is at most v -/
def Low (cs : List Cn) (v : Int) : Prop := (∃ c ∈ cs, c.1 < 0) ∨ ∃ w, (0, w) ∈ cs ∧ w ≤ v
theorem Low.mono {cs ds : List Cn} {v : Int} (h : Low cs v) (m : ∀ c ∈ cs, c ∈ ds) : Low ds v := by
  rcases h with ⟨c, hc, h⟩ | ⟨w, hw, h⟩
  · exact .inl ⟨c, m _ hc, h⟩
  · exact .inr ⟨w, m _ hw, h⟩
end Ev
namespace Ev
local macro_rules
  | `(tactic| simp! only [$as,*]) => `(tactic| simp only [↓x_var, ↓x_C, ↓x_op, ↓x_fz, ↓x_rV, ↓x_B, ↓x_chain, ↓x_tru, ↓x_notT, ↓x_andT, ↓x_orT, ↓x_and, ↓x_or, ↓x_not, ↓x_neg, ↓x_if, ↓x_aNil, ↓x_aVal, ↓x_aSlot, ↓x_aTmp, ↓x_aR, ↓x_call, ↓x_callK, ↓x_dNil, ↓x_dCons, ↓x_tup, ↓x_lst, ↓x_itemN, ↓x_ownItem, ↓x_lenN, ↓x_blt, ↓x_isi, ↓x_list, ↓x_rgL1, ↓x_rgL2, ↓x_iSeq, ↓x_iZip, ↓x_range1, ↓x_range2, ↓x_addR, ↓x_slice, ↓x_partN, ↓x_partS, ↓x_comp, ↓x_skip, ↓x_stuck, ↓x_break, ↓x_cont, ↓x_seq, ↓x_sIf, ↓x_sExpr, ↓x_ret, ↓x_retN, ↓x_move, ↓x_setRv, ↓x_setRf, ↓x_setRm, ↓x_set, ↓x_gN, ↓x_gsNil, ↓x_gsCons, ↓x_gTup, ↓x_gIx, ↓x_setAt, ↓x_asg, ↓x_par, ↓x_sm0, ↓x_smV, ↓x_smF, ↓x_app, ↓x_for, ↓x_for0, ↓x_for1, ↓x_comp0, ↓x_comp1, ↓x_fn, ↓x_iEnum, ↓x_range3, ↓x_comp2, ↓x_compN0, ↓x_compN1, ↓x_item2, ↓x_item2M, ↓x_gIx2, ↓x_compM, ↓x_callB, ↓x_pop, ↓x_dStar, ↓x_seeAt, ↓x_see, ↓x_seeR, ↓x_rev, ↓x_idx, q_addI, q_addT, q_addL, q_subI, q_ltI, q_leI, q_gtI, q_geI, q_isN, q_isNotN, q_eqI, q_neI, q_eqB, q_eqT0, q_eqT1, q_neT0, q_neT1, q_eqL0, q_eqL1, q_neL0, q_neL1, q_int, q_abs, q_min2, q_max2, q_at0, q_at1, q_at2, q_at3, q_ix0, q_ix1, q_ix2, q_sz, q_iteS, q_iteT, q_iteR, q_iteV, q_iteBB, q_iteII, q_iteAnd, q_iteOr, q_iteNot, q_iteCon, q_pa0, q_pa1, q_pa2, q_pa3, q_pa4, q_ow4, q_ma0, q_ma1, q_ma2, q_ma3, q_ma4, q_ow0, q_ow1, q_ow2, q_ow3, q_c0, q_c1, q_c2, q_c3, q_c4, q_c5, q_c6, q_c7, q_c8, q_c9, q_c10, q_c11, q_c12, q_all0, q_all1, q_all2, q_all3, q_inN2, q_inN0, q_02a, q_02b, q_repr, q_ol1, q_ol2, q_ol3, q_ll1, q_ll2, q_ll3, q_scB, List.getElem?_cons_zero, List.getElem?_cons_succ, List.set_cons_zero, List.set_cons_succ, wipeE, initE, outsOf, toAv, toAvB, scal, slotsOf, putOuts, natNodup, List.map_cons, List.map_nil, List.cons_append, List.nil_append, List.append_nil, List.replicate, List.length_cons, List.length_nil, isNone, isiD, seqD, gItem, truD, zipOf, zipD, pick, List.contains_nil, List.contains_cons, eq_self, List.cons_ne_nil, if_true, if_false, Bool.false_eq_true, Bool.true_eq_false, Bool.not_true, Bool.not_false, reduceIte, decide_true, decide_false, Nat.reduceAdd, Nat.reduceSub, Nat.zero_add, Nat.add_zero, and_self, true_and, and_true, Bool.and_true, Bool.true_and, Bool.or_false, Bool.false_or, Bool.or_true, Bool.true_or, Bool.and_false, Bool.false_and, Bool.or_self, Bool.and_self, Nat.sub_self, Option.map_some, Option.map_none, Nat.reduceBEq, Bool.not_eq_true, beq_self_eq_true, Nat.reduceLeDiff, Nat.reduceLT, Nat.reduceEqDiff, List.filterMap_cons, List.filterMap_nil, $as,*])
open PySem PySem.Spec PyProof.Rows L2
/-! ## k25: the checks -/
section
variable {f g h w : Fn}
end
end Ev
namespace Ev
open PySem PySem.Spec PyProof.Rows L2
/-! ## settled stretches and rests -/
def lowT (l : EE) (r m : Int) : EE := l.map fun l => l + (r - l) % m
def highT (h : EE) (r m : Int) : EE := h.map fun h => h - (h - r) % m
def setT : SS → RR → SS × RR
  | some (l, h), some (r, m) =>
    if m = 0 then (if hasS (some (l, h)) r = true then (some (some r, some r), some (r, 0)) else (none, none))
    else match lowT l r m, highT h r m with
      | some x, some y => if x < y then (some (some x, some y), some (r, m)) else if x = y then (some (some x, some x), some (x, 0)) else (none, none)
      | lo, hi => (some (lo, hi), some (r, m))
  | _, _ => (none, none)
theorem mul_nn {m p : Int} (hm : 0 < m) (h : m ∣ p) (h2 : -m < p) : 0 ≤ p := by
  obtain ⟨k, rfl⟩ := h
  rcases Int.lt_or_le k 0 with c | c
  · have : m * k ≤ m * (-1) := Int.mul_le_mul_of_nonneg_left (by omega) (by omega)
    omega
  · exact Int.mul_nonneg (by omega) c
theorem low_dvd (l r : Int) {m : Int} : m ∣ (l + (r - l) % m) - r := by
  have h := Int.emod_add_mul_ediv (r - l) m
  exact ⟨-((r - l) / m), by rw [Int.mul_neg]; omega⟩
theorem high_dvd (h r : Int) {m : Int} : m ∣ (h - (h - r) % m) - r := by
  have h' := Int.emod_add_mul_ediv (h - r) m
  exact ⟨(h - r) / m, by omega⟩
theorem dvd_sub' {m a b r : Int} (h1 : m ∣ a - r) (h2 : m ∣ b - r) : m ∣ a - b := by
  have := Int.dvd_sub h1 h2
  rwa [show a - r - (b - r) = a - b by omega] at this
theorem low_snap {l r m c : Int} (hm : 0 < m) (h : m ∣ c - r) : l ≤ c ↔ l + (r - l) % m ≤ c := by
  have e1 := Int.emod_nonneg (r - l) (b := m) (by omega)
  have e2 := Int.emod_lt_of_pos (r - l) hm
  constructor
  · intro q
    have := mul_nn hm (dvd_sub' h (low_dvd l r)) (by omega)
    omega
  · omega
theorem high_snap {l r m c : Int} (hm : 0 < m) (h : m ∣ c - r) : c ≤ l ↔ c ≤ l - (l - r) % m := by
  have e1 := Int.emod_nonneg (l - r) (b := m) (by omega)
  have e2 := Int.emod_lt_of_pos (l - r) hm
  constructor
  · intro q
    have := mul_nn hm (dvd_sub' (high_dvd l r) h) (by omega)
    omega
  · omega
theorem hasR_iff {r m k : Int} : hasR (some (r, m)) k = true ↔ m ∣ k - r := by
  show decide _ = true ↔ _
  rw [decide_eq_true_iff]
/-- told by cases -/
theorem set_cases (a : SS) (b : RR) (hb : okR b = true) :
    (setT a b = (none, none) ∧ ∀ c, ¬ (hasS a c = true ∧ hasR b c = true)) ∨
    (∃ x, setT a b = (some (some x, some x), some (x, 0)) ∧ hasS a x = true ∧ hasR b x = true ∧ (∀ c, hasS a c = true → hasR b c = true → c = x)) ∨
    (∃ l h r m, a = some (l, h) ∧ b = some (r, m) ∧ 0 < m ∧ setT a b = (some (lowT l r m, highT h r m), some (r, m)) ∧ ((lowT l r m = none ∨ highT h r m = none) ∨ ∃ x y, lowT l r m = some x ∧ highT h r m = some y ∧ x < y)) := by
  rcases a with _ | ⟨l, h⟩
  · exact .inl ⟨by cases b <;> rfl, fun c q => by cases q.1⟩
  rcases b with _ | ⟨r, m⟩
  · exact .inl ⟨rfl, fun c q => by cases q.2⟩
  rcases ok_r hb with rfl | ⟨hm, -, -, -⟩
  · have hu : ∀ c, hasR (some (r, 0)) c = true → c = r := fun c q => by have := Int.zero_dvd.mp (hasR_iff.mp q); omega
    cases q : hasS (some (l, h)) r with
    | true =>
      refine .inr (.inl ⟨r, ?_, q, hasR_iff.mpr (by simp), fun c _ q => hu c q⟩)
      unfold setT; dsimp only
      rw [if_pos rfl, if_pos q]
    | false =>
      refine .inl ⟨?_, fun c z => ?_⟩
      · unfold setT; dsimp only
        rw [if_pos rfl, if_neg (by rw [q]; decide)]
      · have := hu c z.2
        subst this
        rw [q] at z
        cases z.1
  · have ne : ¬ m = 0 := by omega
    rcases l with _ | l
    · refine .inr (.inr ⟨none, h, r, m, rfl, rfl, hm, ?_, .inl (.inl rfl)⟩)
      unfold setT; dsimp only
      rw [if_neg ne]
      rfl
    rcases h with _ | h
    · refine .inr (.inr ⟨some l, none, r, m, rfl, rfl, hm, ?_, .inl (.inr rfl)⟩)
      unfold setT; dsimp only
      rw [if_neg ne]
      rfl
    have hs : setT (some (some l, some h)) (some (r, m)) = if l + (r - l) % m < h - (h - r) % m then (some (some (l + (r - l) % m), some (h - (h - r) % m)), some (r, m)) else if l + (r - l) % m = h - (h - r) % m then (some (some (l + (r - l) % m), some (l + (r - l) % m)), some (l + (r - l) % m, 0)) else (none, none) := by
      unfold setT; dsimp only
      rw [if_neg ne]
      rfl
    have hm1 : ∀ c, hasS (some (some l, some h)) c = true → hasR (some (r, m)) c = true → l + (r - l) % m ≤ c ∧ c ≤ h - (h - r) % m := fun c q1 q2 => by
      have q3 := hasR_iff.mp q2
      have q4 : l ≤ c ∧ c ≤ h := by simpa [hasS, leE] using q1
      exact ⟨(low_snap hm q3).mp q4.1, (high_snap hm q3).mp q4.2⟩
    by_cases c1 : l + (r - l) % m < h - (h - r) % m
    · refine .inr (.inr ⟨some l, some h, r, m, rfl, rfl, hm, ?_, .inr ⟨_, _, rfl, rfl, c1⟩⟩)
      rw [hs, if_pos c1]
      rfl
    by_cases c2 : l + (r - l) % m = h - (h - r) % m
    · refine .inr (.inl ⟨l + (r - l) % m, ?_, ?_, hasR_iff.mpr (low_dvd l r), fun c q1 q2 => ?_⟩)
      · rw [hs, if_neg c1, if_pos c2]
      · have e1 := Int.emod_nonneg (r - l) ne
        have e2 := Int.emod_nonneg (h - r) ne
        have : l ≤ l + (r - l) % m ∧ l + (r - l) % m ≤ h := by omega
        simpa [hasS, leE] using this
      · have := hm1 c q1 q2
        omega
    · refine .inl ⟨?_, fun c q => ?_⟩
      · rw [hs, if_neg c1, if_neg c2]
      · have := hm1 c q.1 q.2
        omega
theorem low_low {l : EE} {r m : Int} (hm : 0 < m) : lowT (lowT l r m) r m = lowT l r m := by
  cases l with
  | none => rfl
  | some l =>
    show some (l + (r - l) % m + (r - (l + (r - l) % m)) % m) = some (l + (r - l) % m)
    have h : m ∣ r - (l + (r - l) % m) := by have := low_dvd l r (m := m); exact (dvd_neg' (by omega)).mp this
    rw [Int.emod_eq_zero_of_dvd h, Int.add_zero]
theorem high_high {l : EE} {r m : Int} (hm : 0 < m) : highT (highT l r m) r m = highT l r m := by
  cases l with
  | none => rfl
  | some l =>
    show some (l - (l - r) % m - (l - (l - r) % m - r) % m) = some (l - (l - r) % m)
    rw [Int.emod_eq_zero_of_dvd (high_dvd l r), Int.sub_zero]
theorem set_set {a : SS} {b : RR} (hb : okR b = true) : setT (setT a b).1 (setT a b).2 = setT a b := by
  rcases set_cases a b hb with ⟨e, q⟩ | ⟨x, e, q1, q2, q3⟩ | ⟨l, h, r, m, rfl, rfl, hm, e, w⟩
  · rw [e]; rfl
  · rw [e]
    unfold setT; dsimp only
    rw [if_pos rfl, if_pos (by simp [hasS, leE])]
  · rw [e]
    have ne : ¬ m = 0 := by omega
    unfold setT; dsimp only
    rw [if_neg ne, low_low hm, high_high hm]
    rcases w with (w | w) | ⟨x, y, w1, w2, w3⟩
    · rw [w]
    · rw [w]; cases lowT l r m <;> rfl
    · rw [w1, w2]
      show (if x < y then _ else _) = _
      rw [if_pos w3]
/-! ### tried -/
end Ev
namespace Ev
open PySem PySem.Spec PyProof.Rows L2
/-! ## rests met -/
theorem bezout : ∀ m n : Nat, ∃ x y : Int, ((Nat.gcd m n : Nat) : Int) = m * x + n * y := fun m n => by
  induction m, n using Nat.gcd.induction with
  | H0 n => exact ⟨0, 1, by rw [Nat.gcd_zero_left]; omega⟩
  | H1 m n hm ih =>
    obtain ⟨x, y, e⟩ := ih
    refine ⟨y - (n / m : Nat) * x, x, ?_⟩
    rw [Nat.gcd_rec, e]
    have h : ((n % m : Nat) : Int) = n - m * (n / m : Nat) := by
      have := Nat.mod_add_div n m
      have h2 : ((n % m + m * (n / m) : Nat) : Int) = n := by rw [this]
      rw [Int.natCast_add, Int.natCast_mul] at h2
      omega
    rw [h, Int.sub_mul, Int.mul_sub, Int.mul_assoc]
    omega
/-- a turn that meets -/
theorem meet_turn {r m s n : Int} (hn : 0 < n) (h : ((Nat.gcd m.natAbs n.natAbs : Nat) : Int) ∣ r - s) : ∃ t : Nat, (t : Int) < n ∧ n ∣ r + t * m - s := by
  obtain ⟨x, y, e⟩ := bezout m.natAbs n.natAbs
  obtain ⟨q, hq⟩ := h
  obtain ⟨x', ex⟩ : ∃ x' : Int, (m.natAbs : Int) * x = m * x' := by
    rcases Int.natAbs_eq m with h | h
    · exact ⟨x, by rw [← h]⟩
    · exact ⟨-x, by rw [Int.mul_neg, ← Int.neg_mul, show -m = (m.natAbs : Int) by omega]⟩
  have en : (n.natAbs : Int) = n := by omega
  rw [ex, en] at e
  -- r - s = (m x' + n y) q
  have hr : r - s = m * (x' * q) + n * (y * q) := by rw [hq, e, Int.add_mul, Int.mul_assoc, Int.mul_assoc]
  have b1 := Int.emod_nonneg (-(x' * q)) (b := n) (by omega)
  have b2 := Int.emod_lt_of_pos (-(x' * q)) hn
  have b3 := Int.emod_add_mul_ediv (-(x' * q)) n
  refine ⟨((-(x' * q)) % n).toNat, by omega, ?_⟩
  rw [Int.toNat_of_nonneg b1]
  refine ⟨y * q - (-(x' * q)) / n * m, ?_⟩
  have h1 : (-(x' * q)) % n = -(x' * q) - n * ((-(x' * q)) / n) := by omega
  rw [h1, Int.sub_mul, Int.mul_sub, show n * (-(x' * q) / n) * m = n * (-(x' * q) / n * m) from Int.mul_assoc .., Int.neg_mul, Int.mul_comm (x' * q) m]
  omega
/-- told by what it holds -/
theorem hasR_ext {a b : RR} (ha : okR a = true) (hb : okR b = true) (h : ∀ k, hasR a k = hasR b k) : a = b := by
  have key : ∀ {a b : RR}, (∀ k, hasR a k = hasR b k) → withinR a b = true := fun {a b} h => by
    rcases a with _ | ⟨r, m⟩
    · rfl
    have h1 := h r
    have h2 := h (r + m)
    rw [hasR_iff.mpr (by simp)] at h1
    rw [hasR_iff.mpr (by rw [show r + m - r = m by omega]; exact Int.dvd_refl m)] at h2
    rcases b with _ | ⟨s, n⟩
    · cases h1
    have d1 := hasR_iff.mp h1.symm
    have d2 := hasR_iff.mp h2.symm
    refine within_some.mpr ⟨d1, ?_⟩
    have := Int.dvd_sub d2 d1
    rwa [show r + m - s - (r - s) = m by omega] at this
  exact withinR_anti ha hb (key h) (key fun k => (h k).symm)
def IsMeet (a b c : RR) : Prop := okR c = true ∧ ∀ k, hasR c k = (hasR a k && hasR b k)
theorem meet_uniq {a b c d : RR} (h1 : IsMeet a b c) (h2 : IsMeet a b d) : c = d := hasR_ext h1.1 h2.1 fun k => by rw [h1.2, h2.2]
/-- lcm as the law has it -/
def lcmI (m n : Int) : Int := (Nat.lcm m.natAbs n.natAbs : Nat)
theorem lcm_dvd {m n d : Int} : lcmI m n ∣ d ↔ m ∣ d ∧ n ∣ d := by
  unfold lcmI
  rw [← dvd_abs, Nat.lcm_dvd_iff, Int.natAbs_dvd_natAbs, Int.natAbs_dvd_natAbs]
theorem lcm_pos {m n : Int} (hm : 0 < m) (hn : 0 < n) : 0 < lcmI m n := by
  have := Nat.lcm_pos (m := m.natAbs) (n := n.natAbs) (by omega) (by omega)
  unfold lcmI
  omega
/-- a number of both makes the rest met -/
theorem meet_at {r m s n x : Int} (hm : 0 < m) (hn : 0 < n) (d1 : m ∣ 20160) (d2 : n ∣ 20160) (h1 : m ∣ x - r) (h2 : n ∣ x - s) : IsMeet (some (r, m)) (some (s, n)) (restBy x (lcmI m n)) := by
  have hp := lcm_pos hm hn
  refine ⟨ok_restBy x (.inr ⟨hp, lcm_dvd.mpr ⟨d1, d2⟩⟩), fun k => ?_⟩
  unfold restBy
  rw [if_neg (by omega)]
  show decide _ = (decide _ && decide _)
  rw [← Bool.decide_and]
  refine decide_eq_decide.mpr ?_
  have e1 : lcmI m n ∣ k - x % lcmI m n ↔ lcmI m n ∣ k - x := by
    have h := Int.emod_add_mul_ediv x (lcmI m n)
    constructor
    · rintro ⟨c, hc⟩
      exact ⟨c - x / lcmI m n, by rw [Int.mul_sub]; omega⟩
    · rintro ⟨c, hc⟩
      exact ⟨c + x / lcmI m n, by rw [Int.mul_add]; omega⟩
  rw [e1, lcm_dvd]
  have tr : ∀ {d r}, d ∣ x - r → (d ∣ k - x ↔ d ∣ k - r) := fun {d r} hd => ⟨fun h => by
    have := Int.dvd_add h hd
    rwa [show k - x + (x - r) = k - r by omega] at this, fun h => by
    have := Int.dvd_sub h hd
    rwa [show k - r - (x - r) = k - x by omega] at this⟩
  rw [tr h1, tr h2]
theorem meet_none {r m s n : Int} (h : ¬ ((Nat.gcd m.natAbs n.natAbs : Nat) : Int) ∣ r - s) : IsMeet (some (r, m)) (some (s, n)) none := ⟨rfl, fun k => by
  show false = (decide _ && decide _)
  rw [← Bool.decide_and]
  refine (decide_eq_false fun q => h ?_).symm
  have g1 : ((Nat.gcd m.natAbs n.natAbs : Nat) : Int) ∣ m := dvd_abs.mp (Nat.gcd_dvd_left ..)
  have g2 : ((Nat.gcd m.natAbs n.natAbs : Nat) : Int) ∣ n := dvd_abs.mp (Nat.gcd_dvd_right ..)
  have := Int.dvd_sub (Int.dvd_trans g2 q.2) (Int.dvd_trans g1 q.1)
  rwa [show k - s - (k - r) = r - s by omega] at this⟩
theorem meet_pt {a : RR} {x : Int} (h : hasR a x = true) : IsMeet a (some (x, 0)) (some (x, 0)) := ⟨ok_of (.inl rfl), fun k => by
  cases q : hasR (some (x, 0)) k with
  | false => rw [Bool.and_false]
  | true =>
    have : k = x := by have := Int.zero_dvd.mp (hasR_iff.mp q); omega
    rw [this, h]; rfl⟩
theorem meet_pn {a : RR} {x : Int} (h : hasR a x = false) : IsMeet a (some (x, 0)) none := ⟨rfl, fun k => by
  cases q : hasR (some (x, 0)) k with
  | false => rw [Bool.and_false]; rfl
  | true =>
    have : k = x := by have := Int.zero_dvd.mp (hasR_iff.mp q); omega
    rw [this, h]; rfl⟩
theorem IsMeet.comm {a b c : RR} (h : IsMeet a b c) : IsMeet b a c := ⟨h.1, fun k => by rw [h.2, Bool.and_comm]⟩
theorem meet_ex {a b : RR} (ha : okR a = true) (hb : okR b = true) : ∃ c, IsMeet a b c := by
  rcases a with _ | ⟨r, m⟩
  · exact ⟨none, rfl, fun k => rfl⟩
  rcases b with _ | ⟨s, n⟩
  · exact ⟨none, rfl, fun k => by show false = (_ && false); rw [Bool.and_false]⟩
  rcases ok_r hb with rfl | ⟨hn, d2, -, -⟩
  · cases q : hasR (some (r, m)) s with
    | true => exact ⟨_, meet_pt q⟩
    | false => exact ⟨_, meet_pn q⟩
  rcases ok_r ha with rfl | ⟨hm, d1, -, -⟩
  · cases q : hasR (some (s, n)) r with
    | true => exact ⟨_, (meet_pt q).comm⟩
    | false => exact ⟨_, (meet_pn q).comm⟩
  by_cases g : ((Nat.gcd m.natAbs n.natAbs : Nat) : Int) ∣ r - s
  · obtain ⟨t, -, ht⟩ := meet_turn hn g
    exact ⟨_, meet_at hm hn d1 d2 (x := r + t * m) ⟨t, by rw [Int.mul_comm m]; omega⟩ ht⟩
  · exact ⟨_, meet_none g⟩
open Classical in
noncomputable def meetR (a b : RR) : RR := if h : ∃ c, IsMeet a b c then h.choose else none
theorem meetR_is {a b : RR} (ha : okR a = true) (hb : okR b = true) : IsMeet a b (meetR a b) := by
  unfold meetR
  rw [dif_pos (meet_ex ha hb)]
  exact (meet_ex ha hb).choose_spec
theorem meetR_eq {a b c : RR} (h : IsMeet a b c) (ha : okR a = true) (hb : okR b = true) : meetR a b = c := meet_uniq (meetR_is ha hb) h
theorem ok_meetR {a b : RR} (ha : okR a = true) (hb : okR b = true) : okR (meetR a b) = true := (meetR_is ha hb).1
theorem has_meetR {a b : RR} (ha : okR a = true) (hb : okR b = true) (k : Int) : hasR (meetR a b) k = (hasR a k && hasR b k) := (meetR_is ha hb).2 k
end Ev
namespace Ev
local macro_rules
  | `(tactic| simp! only [$as,*]) => `(tactic| simp only [↓x_var, ↓x_C, ↓x_op, ↓x_fz, ↓x_rV, ↓x_B, ↓x_chain, ↓x_tru, ↓x_notT, ↓x_andT, ↓x_orT, ↓x_and, ↓x_or, ↓x_not, ↓x_neg, ↓x_if, ↓x_aNil, ↓x_aVal, ↓x_aSlot, ↓x_aTmp, ↓x_aR, ↓x_call, ↓x_callK, ↓x_dNil, ↓x_dCons, ↓x_tup, ↓x_lst, ↓x_itemN, ↓x_ownItem, ↓x_lenN, ↓x_blt, ↓x_isi, ↓x_list, ↓x_rgL1, ↓x_rgL2, ↓x_iSeq, ↓x_iZip, ↓x_range1, ↓x_range2, ↓x_addR, ↓x_slice, ↓x_partN, ↓x_partS, ↓x_comp, ↓x_skip, ↓x_stuck, ↓x_break, ↓x_cont, ↓x_seq, ↓x_sIf, ↓x_sExpr, ↓x_ret, ↓x_retN, ↓x_move, ↓x_setRv, ↓x_setRf, ↓x_setRm, ↓x_set, ↓x_gN, ↓x_gsNil, ↓x_gsCons, ↓x_gTup, ↓x_gIx, ↓x_setAt, ↓x_asg, ↓x_par, ↓x_sm0, ↓x_smV, ↓x_smF, ↓x_app, ↓x_for, ↓x_for0, ↓x_for1, ↓x_comp0, ↓x_comp1, ↓x_fn, ↓x_iEnum, ↓x_range3, ↓x_comp2, ↓x_compN0, ↓x_compN1, ↓x_item2, ↓x_item2M, ↓x_gIx2, ↓x_compM, ↓x_callB, ↓x_pop, ↓x_dStar, ↓x_seeAt, ↓x_see, ↓x_seeR, ↓x_rev, ↓x_idx, q_addI, q_addT, q_addL, q_subI, q_ltI, q_leI, q_gtI, q_geI, q_isN, q_isNotN, q_eqI, q_neI, q_eqB, q_eqT0, q_eqT1, q_neT0, q_neT1, q_eqL0, q_eqL1, q_neL0, q_neL1, q_int, q_abs, q_min2, q_max2, q_at0, q_at1, q_at2, q_at3, q_ix0, q_ix1, q_ix2, q_sz, q_iteS, q_iteT, q_iteR, q_iteV, q_iteBB, q_iteII, q_iteAnd, q_iteOr, q_iteNot, q_iteCon, q_pa0, q_pa1, q_pa2, q_pa3, q_pa4, q_ow4, q_ma0, q_ma1, q_ma2, q_ma3, q_ma4, q_ow0, q_ow1, q_ow2, q_ow3, q_c0, q_c1, q_c2, q_c3, q_c4, q_c5, q_c6, q_c7, q_c8, q_c9, q_c10, q_c11, q_c12, q_all0, q_all1, q_all2, q_all3, q_inN2, q_inN0, q_02a, q_02b, q_repr, q_ol1, q_ol2, q_ol3, q_ll1, q_ll2, q_ll3, q_scB, List.getElem?_cons_zero, List.getElem?_cons_succ, List.set_cons_zero, List.set_cons_succ, wipeE, initE, outsOf, toAv, toAvB, scal, slotsOf, putOuts, natNodup, List.map_cons, List.map_nil, List.cons_append, List.nil_append, List.append_nil, List.replicate, List.length_cons, List.length_nil, isNone, isiD, seqD, gItem, truD, zipOf, zipD, pick, List.contains_nil, List.contains_cons, eq_self, List.cons_ne_nil, if_true, if_false, Bool.false_eq_true, Bool.true_eq_false, Bool.not_true, Bool.not_false, reduceIte, decide_true, decide_false, Nat.reduceAdd, Nat.reduceSub, Nat.zero_add, Nat.add_zero, and_self, true_and, and_true, Bool.and_true, Bool.true_and, Bool.or_false, Bool.false_or, Bool.or_true, Bool.true_or, Bool.and_false, Bool.false_and, Bool.or_self, Bool.and_self, Nat.sub_self, Option.map_some, Option.map_none, Nat.reduceBEq, Bool.not_eq_true, beq_self_eq_true, Nat.reduceLeDiff, Nat.reduceLT, Nat.reduceEqDiff, List.filterMap_cons, List.filterMap_nil, $as,*])
open PySem PySem.Spec PyProof.Rows L2
section
variable {f g h w : Fn}
/-! ## rests met: the program -/
theorem nw_loop (h1 : LeftF f) {s n : Int} (hb : okR (some (s, n)) = true) (r m : Int) : ∀ (J fuel : Nat) (c : Int), (∃ j : Nat, j ≤ J ∧ n ∣ c + j * m - s) → J < fuel → ∃ j : Nat,
    sWhile (eNotT (eTru (eFz (eCall f (aVal (eVar 1) (aVal (eVar 2) aNil)))))) k_number_with_l1 fuel [.val (eR (some (r, m))), .val (eR (some (s, n))), .val (.int c)] = some (.nx, [.val (eR (some (r, m))), .val (eR (some (s, n))), .val (.int (c + j * m))]) ∧ n ∣ c + j * m - s := by
  intro J
  induction J with
  | zero =>
    rintro (_ | fuel) c ⟨j, hj, hd⟩ hf
    · omega
    obtain rfl : j = 0 := by omega
    refine ⟨0, ?_, hd⟩
    have e1 := h1 (some (s, n)) c hb
    rw [hasR_iff.mpr (by rw [show c + (0 : Nat) * m - s = c - s by simp] at hd; exact hd)] at e1
    rw [show c + (0 : Nat) * m = c by simp]
    unfold sWhile
    simp! only [e1]
  | succ J ih =>
    rintro (_ | fuel) c ⟨j, hj, hd⟩ hf
    · omega
    have e1 := h1 (some (s, n)) c hb
    cases q : hasR (some (s, n)) c with
    | true =>
      refine ⟨0, ?_, by have := hasR_iff.mp q; rwa [show c + (0 : Nat) * m - s = c - s by simp]⟩
      rw [q] at e1
      rw [show c + (0 : Nat) * m = c by simp]
      unfold sWhile
      simp! only [e1]
    | false =>
      rw [q] at e1
      rcases j with _ | j
      · rw [hasR_iff.mpr (by rw [show c + (0 : Nat) * m - s = c - s by simp] at hd; exact hd)] at q
        cases q
      have hj2 : c + (j + 1 : Nat) * m = c + m + j * m := by
        rw [show ((j + 1 : Nat) : Int) = j + 1 by omega, Int.add_mul, Int.one_mul]; omega
      rw [hj2] at hd
      obtain ⟨i, e2, d2⟩ := ih fuel (c + m) ⟨j, by omega, hd⟩ (by omega)
      have hi2 : c + (i + 1 : Nat) * m = c + m + i * m := by
        rw [show ((i + 1 : Nat) : Int) = i + 1 by omega, Int.add_mul, Int.one_mul]; omega
      refine ⟨i + 1, ?_, by rw [hi2]; exact d2⟩
      rw [hi2, ← e2]
      conv => lhs; unfold sWhile
      have hb : k_number_with_l1 [.val (eR (some (r, m))), .val (eR (some (s, n))), .val (.int c)] = some (.nx, [.val (eR (some (r, m))), .val (eR (some (s, n))), .val (.int (c + m))]) := by
        simp! only [k_number_with_l1, eR_s]
      simp! only [e1, hb]
theorem k_numberWith_ok (h1 : LeftF f) {r m s n : Int} (hb : okR (some (s, n)) = true) (hn : 0 < n) (hg : ((Nat.gcd m.natAbs n.natAbs : Nat) : Int) ∣ r - s) : ∃ x : Int, k_number_with f [.val (eR (some (r, m))), .val (eR (some (s, n)))] = some (.val (.int x), []) ∧ m ∣ x - r ∧ n ∣ x - s := by
  obtain ⟨t, ht, hd⟩ := meet_turn hn hg
  have n1 := (ok_nn hb).2
  obtain ⟨j, e, hd2⟩ := nw_loop h1 hb r m t 30000 r ⟨t, by omega, hd⟩ (by omega)
  refine ⟨r + j * m, ?_, ⟨j, by rw [Int.mul_comm m]; omega⟩, hd2⟩
  refine fn_rt (b := k_number_with_b f) (e := [.val (eR (some (r, m))), .val (eR (some (s, n))), .val (.int (r + j * m))]) ?_ rfl
  unfold k_number_with_b k_number_with_b_w
  refine seq_nx (e1 := [.val (eR (some (r, m))), .val (eR (some (s, n))), .val (.int r)]) (by simp! only [eR_s]) ?_
  refine seq_nx e ?_
  simp! only [x_C]
theorem q_gcd2 (m n : Int) : gGcd [.int m, .int n] = some (.int (Nat.gcd m.natAbs n.natAbs : Nat)) := rfl
theorem q_lcm2 {m n : Int} (hm : 0 ≤ m ∧ m ≤ 20160) (hn : 0 ≤ n ∧ n ≤ 20160) : gLcm [.int m, .int n] = some (.int (lcmI m n)) := by
  show (if lcmOk m n = true then _ else _) = _
  rw [if_pos (by unfold lcmOk; rw [decide_eq_true (by omega : m.natAbs < 2 ^ 64), decide_eq_true (by omega : n.natAbs < 2 ^ 64)]; rfl)]
  rfl
theorem k_rmet_ok (h1 : RestByF f) (h2 : MulF g) (h3 : ∀ r m s n : Int, okR (some (s, n)) = true → 0 < n → ((Nat.gcd m.natAbs n.natAbs : Nat) : Int) ∣ r - s → ∃ x : Int, h [.val (eR (some (r, m))), .val (eR (some (s, n)))] = some (.val (.int x), []) ∧ m ∣ x - r ∧ n ∣ x - s) : OpRF meetR (k_met_rest f g h) := fun a b ha hb => by
  rcases a with _ | ⟨r, m⟩
  · rw [meetR_eq (c := none) ⟨rfl, fun k => rfl⟩ ha hb]
    simp! only [k_met_rest, k_met_rest_b, eR_n]
  rcases b with _ | ⟨s, n⟩
  · rw [meetR_eq (c := none) ⟨rfl, fun k => by show false = (_ && false); rw [Bool.and_false]⟩ ha hb]
    simp! only [k_met_rest, k_met_rest_b, eR_n, eR_s]
  have hg := h2 (r - s) (Nat.gcd m.natAbs n.natAbs : Nat) (by omega)
  by_cases c : ((Nat.gcd m.natAbs n.natAbs : Nat) : Int) ∣ r - s
  · rw [decide_eq_true c] at hg
    by_cases m0 : m = 0
    · subst m0
      rw [meetR_eq (c := some (r, 0)) (meet_pt (hasR_iff.mpr (by
        have e : ((Nat.gcd (0 : Int).natAbs n.natAbs : Nat) : Int) = n.natAbs := by simp
        rw [e] at c; exact Int.natAbs_dvd.mp c))).comm ha hb]
      simp! only [k_met_rest, k_met_rest_b, eR_s, q_gcd2, hg]
    by_cases n0 : n = 0
    · subst n0
      rw [meetR_eq (c := some (s, 0)) (meet_pt (hasR_iff.mpr (by
        have e : ((Nat.gcd m.natAbs (0 : Int).natAbs : Nat) : Int) = m.natAbs := by simp
        rw [e] at c
        have := Int.natAbs_dvd.mp c
        exact (dvd_neg' (by omega)).mp this))) ha hb]
      simp! only [k_met_rest, k_met_rest_b, eR_s, q_gcd2, hg, m0]
    · have pm := ok_nn ha
      have pn := ok_nn hb
      obtain ⟨x, e, x1, x2⟩ := h3 r m s n hb (by omega) c
      have a1 : m ∣ 20160 := by rcases ok_r ha with h | h; exact absurd h m0; exact h.2.1
      have a2 : n ∣ 20160 := by rcases ok_r hb with h | h; exact absurd h n0; exact h.2.1
      have l0 := lcm_pos (m := m) (n := n) (by omega) (by omega)
      rw [meetR_eq (meet_at (by omega) (by omega) a1 a2 x1 x2) ha hb]
      rw [eR_s, eR_s] at e
      have e2 := h1 x (lcmI m n) (by omega)
      generalize eR (restBy x (lcmI m n)) = dz at e2 ⊢
      simp! only [k_met_rest, k_met_rest_b, eR_s, q_gcd2, hg, m0, n0, e, q_lcm2 pm pn, e2]
  · rw [decide_eq_false c] at hg
    rw [meetR_eq (meet_none c) ha hb]
    simp! only [k_met_rest, k_met_rest_b, eR_s, eR_n, q_gcd2, hg]
end
end Ev
namespace Ev
local macro_rules
  | `(tactic| simp! only [$as,*]) => `(tactic| simp only [↓x_var, ↓x_C, ↓x_op, ↓x_fz, ↓x_rV, ↓x_B, ↓x_chain, ↓x_tru, ↓x_notT, ↓x_andT, ↓x_orT, ↓x_and, ↓x_or, ↓x_not, ↓x_neg, ↓x_if, ↓x_aNil, ↓x_aVal, ↓x_aSlot, ↓x_aTmp, ↓x_aR, ↓x_call, ↓x_callK, ↓x_dNil, ↓x_dCons, ↓x_tup, ↓x_lst, ↓x_itemN, ↓x_ownItem, ↓x_lenN, ↓x_blt, ↓x_isi, ↓x_list, ↓x_rgL1, ↓x_rgL2, ↓x_iSeq, ↓x_iZip, ↓x_range1, ↓x_range2, ↓x_addR, ↓x_slice, ↓x_partN, ↓x_partS, ↓x_comp, ↓x_skip, ↓x_stuck, ↓x_break, ↓x_cont, ↓x_seq, ↓x_sIf, ↓x_sExpr, ↓x_ret, ↓x_retN, ↓x_move, ↓x_setRv, ↓x_setRf, ↓x_setRm, ↓x_set, ↓x_gN, ↓x_gsNil, ↓x_gsCons, ↓x_gTup, ↓x_gIx, ↓x_setAt, ↓x_asg, ↓x_par, ↓x_sm0, ↓x_smV, ↓x_smF, ↓x_app, ↓x_for, ↓x_for0, ↓x_for1, ↓x_comp0, ↓x_comp1, ↓x_fn, ↓x_iEnum, ↓x_range3, ↓x_comp2, ↓x_compN0, ↓x_compN1, ↓x_item2, ↓x_item2M, ↓x_gIx2, ↓x_compM, ↓x_callB, ↓x_pop, ↓x_dStar, ↓x_seeAt, ↓x_see, ↓x_seeR, ↓x_rev, ↓x_idx, q_addI, q_addT, q_addL, q_subI, q_ltI, q_leI, q_gtI, q_geI, q_isN, q_isNotN, q_eqI, q_neI, q_eqB, q_eqT0, q_eqT1, q_neT0, q_neT1, q_eqL0, q_eqL1, q_neL0, q_neL1, q_int, q_abs, q_min2, q_max2, q_at0, q_at1, q_at2, q_at3, q_ix0, q_ix1, q_ix2, q_sz, q_iteS, q_iteT, q_iteR, q_iteV, q_iteBB, q_iteII, q_iteAnd, q_iteOr, q_iteNot, q_iteCon, q_pa0, q_pa1, q_pa2, q_pa3, q_pa4, q_ow4, q_ma0, q_ma1, q_ma2, q_ma3, q_ma4, q_ow0, q_ow1, q_ow2, q_ow3, q_c0, q_c1, q_c2, q_c3, q_c4, q_c5, q_c6, q_c7, q_c8, q_c9, q_c10, q_c11, q_c12, q_all0, q_all1, q_all2, q_all3, q_inN2, q_inN0, q_02a, q_02b, q_repr, q_ol1, q_ol2, q_ol3, q_ll1, q_ll2, q_ll3, q_scB, List.getElem?_cons_zero, List.getElem?_cons_succ, List.set_cons_zero, List.set_cons_succ, wipeE, initE, outsOf, toAv, toAvB, scal, slotsOf, putOuts, natNodup, List.map_cons, List.map_nil, List.cons_append, List.nil_append, List.append_nil, List.replicate, List.length_cons, List.length_nil, isNone, isiD, seqD, gItem, truD, zipOf, zipD, pick, List.contains_nil, List.contains_cons, eq_self, List.cons_ne_nil, if_true, if_false, Bool.false_eq_true, Bool.true_eq_false, Bool.not_true, Bool.not_false, reduceIte, decide_true, decide_false, Nat.reduceAdd, Nat.reduceSub, Nat.zero_add, Nat.add_zero, and_self, true_and, and_true, Bool.and_true, Bool.true_and, Bool.or_false, Bool.false_or, Bool.or_true, Bool.true_or, Bool.and_false, Bool.false_and, Bool.or_self, Bool.and_self, Nat.sub_self, Option.map_some, Option.map_none, Nat.reduceBEq, Bool.not_eq_true, beq_self_eq_true, Nat.reduceLeDiff, Nat.reduceLT, Nat.reduceEqDiff, List.filterMap_cons, List.filterMap_nil, $as,*])
open PySem PySem.Spec PyProof.Rows L2
section
variable {f g h w : Fn}
/-! ## rests met: the law's own -/
theorem if_t {c : Fx Bool} {f g : Fx Fl} {e e1 : En} {r : Option (Fl × En)} (h1 : c e = some (true, e1)) (h2 : f e1 = r) : sIf c f g e = r := by
  unfold sIf; rw [h1]; exact h2
theorem compG (p : Int → Bool) (c : Fx Bool) (i : Nat) (xs : List Int) (env : En) (hl : xs.length ≤ 100000) (hi : ∀ x : Int, ∃ e, gN i (.int x) env = some e ∧ c e = some (p x, e) ∧ eVar i e = some (.int x, e) ∧ wipeE e [i] = env) :
    compL (gN i) c (eVar i) [i] (xs.map PyData.int) [] env = some ((xs.filter p).map PyData.int, env) := by
  rw [compL_map (p := fun d => match d with | .int x => p x | _ => false) (h := id) _ [] (by rw [List.length_map, List.length_nil, q_sz]; omega) fun d hd => ?_]
  · rw [List.nil_append, List.filter_map, List.map_id]
    rfl
  · obtain ⟨x, _, rfl⟩ := List.mem_map.mp hd
    obtain ⟨e, e1, e2, e3, e4⟩ := hi x
    exact ⟨e, e, e1, e2, fun _ => ⟨e, e3, e4⟩, fun _ => e4⟩
theorem size_step {s n : Int} {T : Nat} (hn : 0 < n) : Builtin.Range.rangeSize s (s + n * T) n = T := by
  unfold Builtin.Range.rangeSize
  rw [if_pos hn]
  by_cases h : T = 0
  · subst h
    rw [if_neg (by simp)]; rfl
  · have hp : n ≤ n * (T : Int) := by
      have := Int.mul_le_mul_of_nonneg_left (show (1 : Int) ≤ T by omega) (show 0 ≤ n by omega)
      omega
    rw [if_pos (by omega)]
    have e : s + n * (T : Int) - s - 1 = (n - 1) + n * ((T : Int) - 1) := by rw [Int.mul_sub]; omega
    rw [e, Int.add_mul_ediv_left _ _ (by omega), Int.ediv_eq_zero_of_lt (by omega) (by omega)]
    omega
theorem rg3_step {s n : Int} {T : Nat} (hn : 0 < n) (h1 : n ≤ 20160) (h2 : 0 ≤ s) (h3 : s < n) (h4 : n * T ≤ 20160) : rg3Ok s (s + n * T) n = true ∧ 0 ≤ Builtin.Range.rangeSize s (s + n * T) n := by
  have hT : (T : Int) ≤ n * T := by
    have := Int.mul_le_mul_of_nonneg_right (show (1 : Int) ≤ n by omega) (show (0 : Int) ≤ T by omega)
    omega
  refine ⟨?_, by rw [size_step hn]; omega⟩
  unfold rg3Ok Builtin.Range.small
  rw [size_step hn]
  simp only [Builtin.Range.rangeFitsLong, Bool.and_eq_true, Bool.or_eq_true, decide_eq_true_eq, beq_iff_eq, hn, if_true, gt_iff_lt]
  omega
def stepL (s n : Int) (T : Nat) : List Int := (List.range T).map fun k => s + (k : Nat) * n
theorem step_range (s n : Int) (T : Nat) : rangeC s n T = (stepL s n T).map PyData.int := by
  unfold rangeC stepL
  rw [List.map_map]
  rfl
/-- what the law's turns are -/
theorem turns_ok {m n : Int} (hm : 0 < m) (hn : 0 < n) (d1 : m ∣ 20160) (d2 : n ∣ 20160) : ∃ T : Nat, m / (Nat.gcd m.natAbs n.natAbs : Nat) = T ∧ 0 < T ∧ n * T = lcmI m n ∧ n * (T : Int) ≤ 20160 := by
  have hg := Nat.gcd_pos_of_pos_left n.natAbs (show 0 < m.natAbs by omega)
  obtain ⟨t, ht⟩ := Nat.gcd_dvd_left m.natAbs n.natAbs
  have e1 : m / (Nat.gcd m.natAbs n.natAbs : Nat) = t := by
    have : m = (Nat.gcd m.natAbs n.natAbs : Nat) * (t : Int) := by
      rw [← Int.natCast_mul, ← ht]; omega
    conv => lhs; rw [this]
    rw [show ((Nat.gcd ((Nat.gcd m.natAbs n.natAbs : Nat) * (t : Int)).natAbs n.natAbs : Nat) : Int) = (Nat.gcd m.natAbs n.natAbs : Nat) by rw [← this]]
    rw [Int.mul_ediv_cancel_left _ (by omega)]
  have hl : n * (t : Int) = lcmI m n := by
    unfold lcmI
    have : Nat.lcm m.natAbs n.natAbs = n.natAbs * t := by
      unfold Nat.lcm
      have h5 : m.natAbs * n.natAbs = Nat.gcd m.natAbs n.natAbs * (n.natAbs * t) := by
        conv => lhs; rw [ht]
        rw [Nat.mul_assoc, Nat.mul_comm t]
      rw [h5, Nat.mul_div_cancel_left _ hg]
    rw [this, Int.natCast_mul]
    rw [show (n.natAbs : Int) = n by omega]
  refine ⟨t, e1, ?_, hl, ?_⟩
  · rcases Nat.eq_zero_or_pos t with h | h
    · subst h; omega
    · exact h
  · rw [hl]
    exact Int.le_of_dvd (by decide) (lcm_dvd.mpr ⟨d1, d2⟩)
theorem lots_meet {r m s n : Int} (ha : okR (some (r, m)) = true) (hb : okR (some (s, n)) = true) (hm : 0 < m) (hn : 0 < n) {T : Nat} (hT : n * (T : Int) = lcmI m n) :
    IsMeet (some (r, m)) (some (s, n)) (match (stepL s n T).filter (hasR (some (r, m))) with
      | [] => none
      | c :: _ => some (c, n * T)) := by
  have a1 : m ∣ 20160 := by rcases ok_r ha with h | h; omega; exact h.2.1
  have b1 : n ∣ 20160 ∧ 0 ≤ s ∧ s < n := by rcases ok_r hb with h | h; omega; exact h.2
  have hp := lcm_pos hm hn
  cases e : (stepL s n T).filter (hasR (some (r, m))) with
  | nil =>
    refine ⟨rfl, fun k => ?_⟩
    cases q : (hasR (some (r, m)) k && hasR (some (s, n)) k) with
    | false => rfl
    | true =>
      rw [Bool.and_eq_true] at q
      have q1 := hasR_iff.mp q.1
      have q2 := hasR_iff.mp q.2
      have z1 := Int.emod_nonneg k (b := lcmI m n) (by omega)
      have z2 := Int.emod_lt_of_pos k hp
      have hk : lcmI m n ∣ k - k % lcmI m n := Int.dvd_self_sub_emod
      have hk2 := lcm_dvd.mp hk
      have c1 := Int.dvd_sub q1 hk2.1
      have c2 := Int.dvd_sub q2 hk2.2
      rw [show k - r - (k - k % lcmI m n) = k % lcmI m n - r by omega] at c1
      rw [show k - s - (k - k % lcmI m n) = k % lcmI m n - s by omega] at c2
      have i0 := mul_nn hn c2 (by omega)
      obtain ⟨i, hi⟩ := c2
      have i1 : 0 ≤ i := by
        rcases Int.lt_or_le i 0 with h | h
        · have := Int.mul_le_mul_of_nonneg_left (show i ≤ -1 by omega) (show 0 ≤ n by omega)
          omega
        · exact h
      have i2 : i < T := by
        rcases Int.lt_or_le i T with h | h
        · exact h
        · have := Int.mul_le_mul_of_nonneg_left h (show 0 ≤ n by omega)
          omega
      have : k % lcmI m n ∈ (stepL s n T).filter (hasR (some (r, m))) := List.mem_filter.mpr ⟨List.mem_map.mpr ⟨i.toNat, List.mem_range.mpr (by omega), by rw [Int.toNat_of_nonneg i1, Int.mul_comm]; omega⟩, hasR_iff.mpr c1⟩
      rw [e] at this
      cases this
  | cons c cs =>
    have hc : c ∈ (stepL s n T).filter (hasR (some (r, m))) := by rw [e]; exact List.mem_cons_self ..
    obtain ⟨h1, h2⟩ := List.mem_filter.mp hc
    obtain ⟨k, hk, rfl⟩ := List.mem_map.mp h1
    have hk := List.mem_range.mp hk
    have hle := Int.mul_le_mul_of_nonneg_left (show (k : Int) ≤ T - 1 by omega) (show 0 ≤ n by omega)
    rw [Int.mul_sub, Int.mul_one] at hle
    have hnn := Int.mul_nonneg (show 0 ≤ n by omega) (show (0 : Int) ≤ k by omega)
    have hcm := Int.mul_comm (k : Int) n
    have := meet_at hm hn a1 b1.1 (x := s + (k : Nat) * n) (s := s) (hasR_iff.mp h2) ⟨(k : Int), by rw [← hcm]; omega⟩
    unfold restBy at this
    have hx : (s + (k : Nat) * n) % lcmI m n = s + (k : Nat) * n := Int.emod_eq_of_lt (by omega) (by omega)
    rw [if_neg (by omega), hx, ← hT] at this
    exact this
theorem meet_comm' {a b : RR} (ha : okR a = true) (hb : okR b = true) : meetR a b = meetR b a := meetR_eq (meetR_is hb ha).comm ha hb
def lmRest (f g : Fn) : Fx Fl := (sSeq (sIf (eB (eOp gEq (eItemN 4 (eC (.int 1))) (eC (.int 0)))) (sRet (eIf (eTru (eFz (eCall f (aVal (eVar 5) (aVal (eItemN 4 (eC (.int 0))) aNil))))) (eMove 4) (rV (eTup dNil)))) sSkip) (sSeq (sSet 2 (rV (eOp gFdiv (eItemN 4 (eC (.int 1))) (eFz (eCall g (aVal (eItemN 4 (eC (.int 1))) (aVal (eItemN 5 (eC (.int 1))) aNil))))))) (sSeq (sSet 3 (eComp (iRange3 (eItemN 5 (eC (.int 0))) (eOp gAdd (eItemN 5 (eC (.int 0))) (eOp gMul (eItemN 5 (eC (.int 1))) (eVar 2))) (eItemN 5 (eC (.int 1)))) (gN 6) (eTru (eFz (eCall f (aVal (eVar 4) (aVal (eVar 6) aNil))))) (eVar 6) [6])) (sRet (eIf (eB (eOp gNe (eVar 3) (eFz (eLst dNil)))) (rV (eTup (dCons (eItemN 3 (eC (.int 0))) (dCons (eOp gMul (eItemN 5 (eC (.int 1))) (eVar 2)) dNil)))) (rV (eTup dNil)))))))
theorem lm_core (h1 : LeftF f) (h2 : CommF g) {r m s n : Int} (ha : okR (some (r, m)) = true) (hb : okR (some (s, n)) = true) (hle : m ≤ n) (da db : D) :
    ∃ e, lmRest f g [.val da, .val db, .no, .no, .val (eR (some (r, m))), .val (eR (some (s, n))), .no] = some (.rt (.val (eR (meetR (some (r, m)) (some (s, n))))), e) := by
  by_cases m0 : m = 0
  · subst m0
    have e1 := h1 (some (s, n)) r hb
    cases q : hasR (some (s, n)) r with
    | true =>
      rw [q] at e1
      rw [meetR_eq (meet_pt q).comm ha hb]
      rw [eR_s] at e1
      refine ⟨[.val da, .val db, .no, .no, .val (.tuple [.int r, .int 0]), .val (.tuple [.int s, .int n]), .no], ?_⟩
      unfold lmRest
      simp! only [eR_s, e1]
    | false =>
      rw [q] at e1
      rw [meetR_eq (meet_pn q).comm ha hb]
      rw [eR_s] at e1
      refine ⟨[.val da, .val db, .no, .no, .val (.tuple [.int r, .int 0]), .val (.tuple [.int s, .int n]), .no], ?_⟩
      unfold lmRest
      simp! only [eR_s, eR_n, e1]
  · have pm := ok_nn ha
    have pn := ok_nn hb
    have a1 : m ∣ 20160 := by rcases ok_r ha with h | h; exact absurd h m0; exact h.2.1
    have b1 : n ∣ 20160 ∧ 0 ≤ s ∧ s < n := by rcases ok_r hb with h | h; omega; exact h.2
    obtain ⟨T, hT, Tp, TL, Tle⟩ := turns_ok (m := m) (n := n) (by omega) (by omega) a1 b1.1
    have hTn : (T : Int) ≤ n * T := by
      have := Int.mul_le_mul_of_nonneg_right (show (1 : Int) ≤ n by omega) (show (0 : Int) ≤ T by omega)
      omega
    have e2 := h2 m n (by omega)
    have hgp := Nat.gcd_pos_of_pos_left n.natAbs (show 0 < m.natAbs by omega)
    have hgl : Nat.gcd m.natAbs n.natAbs ≤ m.natAbs := Nat.gcd_le_left _ (by omega)
    have hfd : gFdiv (.int m) (.int (Nat.gcd m.natAbs n.natAbs : Nat)) = some (.int (T : Nat)) := by
      rw [q_fdivI (by omega) (log2_of (by omega) (by omega)), hT]
    have hmul : mulOk n (T : Nat) = true := mulOk_lt (a := 20) (b := 20) (by omega) (by omega) (by decide)
    have hmu := q_mulI hmul
    have hrg := rg3_step (s := s) (n := n) (T := T) (by omega) pn.2 b1.2.1 b1.2.2 Tle
    have hsz := size_step (s := s) (n := n) (T := T) (by omega)
    have hm := lots_meet ha hb (by omega) (by omega) TL
    have hc := compG (hasR (some (r, m))) (eTru (eFz (eCall f (aVal (eVar 4) (aVal (eVar 6) aNil))))) 6 (stepL s n T) [.val da, .val db, .val (.int (T : Nat)), .no, .val (eR (some (r, m))), .val (eR (some (s, n))), .no] (by unfold stepL; rw [List.length_map, List.length_range]; omega)
      (fun x => ⟨[.val da, .val db, .val (.int (T : Nat)), .no, .val (eR (some (r, m))), .val (eR (some (s, n))), .val (.int x)], by simp! only [x_C], by simp! only [h1 _ x ha], by simp! only [x_C], by simp! only [x_C]⟩)
    rw [meetR_eq hm ha hb]
    have hr := step_range s n T
    rw [eR_s, eR_s] at hc ⊢
    generalize (stepL s n T).filter (hasR (some (r, m))) = lots at hc ⊢
    have hit : (iRange3 (eItemN 5 (eC (.int 0))) (eOp gAdd (eItemN 5 (eC (.int 0))) (eOp gMul (eItemN 5 (eC (.int 1))) (eVar 2))) (eItemN 5 (eC (.int 1)))) [.val da, .val db, .val (.int (T : Nat)), .no, .val (.tuple [.int r, .int m]), .val (.tuple [.int s, .int n]), .no] = some ((stepL s n T).map PyData.int, [.val da, .val db, .val (.int (T : Nat)), .no, .val (.tuple [.int r, .int m]), .val (.tuple [.int s, .int n]), .no]) := by
      simp! only [hmu]
      rw [if_pos hrg, hsz, Int.toNat_natCast, hr]
    unfold lmRest
    have st3 : (sSet 3 (eComp (iRange3 (eItemN 5 (eC (.int 0))) (eOp gAdd (eItemN 5 (eC (.int 0))) (eOp gMul (eItemN 5 (eC (.int 1))) (eVar 2))) (eItemN 5 (eC (.int 1)))) (gN 6) (eTru (eFz (eCall f (aVal (eVar 4) (aVal (eVar 6) aNil))))) (eVar 6) [6])) [.val da, .val db, .val (.int (T : Nat)), .no, .val (.tuple [.int r, .int m]), .val (.tuple [.int s, .int n]), .no] = some (.nx, [.val da, .val db, .val (.int (T : Nat)), .own (lots.map PyData.int), .val (.tuple [.int r, .int m]), .val (.tuple [.int s, .int n]), .no]) := by
      rw [x_set, x_comp, hit]
      dsimp only
      rw [show wipeE [.val da, .val db, .val (.int (T : Nat)), .no, .val (.tuple [.int r, .int m]), .val (.tuple [.int s, .int n]), .no] [6] = [.val da, .val db, .val (.int (T : Nat)), .no, .val (.tuple [.int r, .int m]), .val (.tuple [.int s, .int n]), .no] from rfl, hc]
      rfl
    cases lots with
    | nil =>
      refine ⟨[.val da, .val db, .val (.int (T : Nat)), .val (.list []), .val (.tuple [.int r, .int m]), .val (.tuple [.int s, .int n]), .no], seq_nx (e1 := [.val da, .val db, .no, .no, .val (.tuple [.int r, .int m]), .val (.tuple [.int s, .int n]), .no]) (by simp! only [m0]) (seq_nx (e1 := [.val da, .val db, .val (.int (T : Nat)), .no, .val (.tuple [.int r, .int m]), .val (.tuple [.int s, .int n]), .no]) (by simp! only [e2, hfd]) (seq_nx st3 ?_))⟩
      rw [eR_n]
      simp! only [x_C]
    | cons c cs =>
      refine ⟨[.val da, .val db, .val (.int (T : Nat)), .val (.list (.int c :: cs.map PyData.int)), .val (.tuple [.int r, .int m]), .val (.tuple [.int s, .int n]), .no], seq_nx (e1 := [.val da, .val db, .no, .no, .val (.tuple [.int r, .int m]), .val (.tuple [.int s, .int n]), .no]) (by simp! only [m0]) (seq_nx (e1 := [.val da, .val db, .val (.int (T : Nat)), .no, .val (.tuple [.int r, .int m]), .val (.tuple [.int s, .int n]), .no]) (by simp! only [e2, hfd]) (seq_nx st3 ?_))⟩
      rw [eR_s]
      simp! only [hmu]
theorem k_lmeet_ok (h1 : LeftF f) (h2 : CommF g) : OpRF meetR (k__law_rest_meet f g) := fun a b ha hb => by
  rcases a with _ | ⟨r, m⟩
  · rw [meetR_eq (c := none) ⟨rfl, fun k => rfl⟩ ha hb]
    simp! only [k__law_rest_meet, k__law_rest_meet_b, eR_n]
  rcases b with _ | ⟨s, n⟩
  · rw [meetR_eq (c := none) ⟨rfl, fun k => by show false = (_ && false); rw [Bool.and_false]⟩ ha hb]
    simp! only [k__law_rest_meet, k__law_rest_meet_b, eR_n, eR_s]
  by_cases c : m ≤ n
  · obtain ⟨e, he⟩ := lm_core h1 h2 ha hb c (eR (some (r, m))) (eR (some (s, n)))
    refine fn_rt (b := k__law_rest_meet_b f g) (e := e) ?_ rfl
    unfold k__law_rest_meet_b
    refine seq_nx (e1 := [.val (eR (some (r, m))), .val (eR (some (s, n))), .no, .no, .no, .no, .no]) (by simp! only [eR_s]) ?_
    refine seq_nx (e1 := [.val (eR (some (r, m))), .val (eR (some (s, n))), .no, .no, .val (eR (some (r, m))), .val (eR (some (s, n))), .no]) (by simp! only [eR_s, c]) ?_
    exact he
  · obtain ⟨e, he⟩ := lm_core h1 h2 hb ha (by omega) (eR (some (r, m))) (eR (some (s, n)))
    rw [meet_comm' hb ha] at he
    refine fn_rt (b := k__law_rest_meet_b f g) (e := e) ?_ rfl
    unfold k__law_rest_meet_b
    refine seq_nx (e1 := [.val (eR (some (r, m))), .val (eR (some (s, n))), .no, .no, .no, .no, .no]) (by simp! only [eR_s]) ?_
    refine seq_nx (e1 := [.val (eR (some (r, m))), .val (eR (some (s, n))), .no, .no, .val (eR (some (s, n))), .val (eR (some (r, m))), .no]) (by simp! only [eR_s, c]) ?_
    exact he
end
end Ev
namespace Ev
local macro_rules
  | `(tactic| simp! only [$as,*]) => `(tactic| simp only [↓x_var, ↓x_C, ↓x_op, ↓x_fz, ↓x_rV, ↓x_B, ↓x_chain, ↓x_tru, ↓x_notT, ↓x_andT, ↓x_orT, ↓x_and, ↓x_or, ↓x_not, ↓x_neg, ↓x_if, ↓x_aNil, ↓x_aVal, ↓x_aSlot, ↓x_aTmp, ↓x_aR, ↓x_call, ↓x_callK, ↓x_dNil, ↓x_dCons, ↓x_tup, ↓x_lst, ↓x_itemN, ↓x_ownItem, ↓x_lenN, ↓x_blt, ↓x_isi, ↓x_list, ↓x_rgL1, ↓x_rgL2, ↓x_iSeq, ↓x_iZip, ↓x_range1, ↓x_range2, ↓x_addR, ↓x_slice, ↓x_partN, ↓x_partS, ↓x_comp, ↓x_skip, ↓x_stuck, ↓x_break, ↓x_cont, ↓x_seq, ↓x_sIf, ↓x_sExpr, ↓x_ret, ↓x_retN, ↓x_move, ↓x_setRv, ↓x_setRf, ↓x_setRm, ↓x_set, ↓x_gN, ↓x_gsNil, ↓x_gsCons, ↓x_gTup, ↓x_gIx, ↓x_setAt, ↓x_asg, ↓x_par, ↓x_sm0, ↓x_smV, ↓x_smF, ↓x_app, ↓x_for, ↓x_for0, ↓x_for1, ↓x_comp0, ↓x_comp1, ↓x_fn, ↓x_iEnum, ↓x_range3, ↓x_comp2, ↓x_compN0, ↓x_compN1, ↓x_item2, ↓x_item2M, ↓x_gIx2, ↓x_compM, ↓x_callB, ↓x_pop, ↓x_dStar, ↓x_seeAt, ↓x_see, ↓x_seeR, ↓x_rev, ↓x_idx, q_addI, q_addT, q_addL, q_subI, q_ltI, q_leI, q_gtI, q_geI, q_isN, q_isNotN, q_eqI, q_neI, q_eqB, q_eqT0, q_eqT1, q_neT0, q_neT1, q_eqL0, q_eqL1, q_neL0, q_neL1, q_int, q_abs, q_min2, q_max2, q_at0, q_at1, q_at2, q_at3, q_ix0, q_ix1, q_ix2, q_sz, q_iteS, q_iteT, q_iteR, q_iteV, q_iteBB, q_iteII, q_iteAnd, q_iteOr, q_iteNot, q_iteCon, q_pa0, q_pa1, q_pa2, q_pa3, q_pa4, q_ow4, q_ma0, q_ma1, q_ma2, q_ma3, q_ma4, q_ow0, q_ow1, q_ow2, q_ow3, q_c0, q_c1, q_c2, q_c3, q_c4, q_c5, q_c6, q_c7, q_c8, q_c9, q_c10, q_c11, q_c12, q_all0, q_all1, q_all2, q_all3, q_inN2, q_inN0, q_02a, q_02b, q_repr, q_ol1, q_ol2, q_ol3, q_ll1, q_ll2, q_ll3, q_scB, List.getElem?_cons_zero, List.getElem?_cons_succ, List.set_cons_zero, List.set_cons_succ, wipeE, initE, outsOf, toAv, toAvB, scal, slotsOf, putOuts, natNodup, List.map_cons, List.map_nil, List.cons_append, List.nil_append, List.append_nil, List.replicate, List.length_cons, List.length_nil, isNone, isiD, seqD, gItem, truD, zipOf, zipD, pick, List.contains_nil, List.contains_cons, eq_self, List.cons_ne_nil, if_true, if_false, Bool.false_eq_true, Bool.true_eq_false, Bool.not_true, Bool.not_false, reduceIte, decide_true, decide_false, Nat.reduceAdd, Nat.reduceSub, Nat.zero_add, Nat.add_zero, and_self, true_and, and_true, Bool.and_true, Bool.true_and, Bool.or_false, Bool.false_or, Bool.or_true, Bool.true_or, Bool.and_false, Bool.false_and, Bool.or_self, Bool.and_self, Nat.sub_self, Option.map_some, Option.map_none, Nat.reduceBEq, Bool.not_eq_true, beq_self_eq_true, Nat.reduceLeDiff, Nat.reduceLT, Nat.reduceEqDiff, List.filterMap_cons, List.filterMap_nil, $as,*])
open PySem PySem.Spec PyProof.Rows L2
/-! ## the source of numbers, in general -/
def TkW (g : Fn) : Prop := ∀ (b : Nat) (ds : List D) (k : Int), Src (b + 1) ds → 0 < k → k.natAbs.log2 < 9000 → ∃ (v : Int) (ds' : List D), g [.own ds, .val (.int k)] = some (.val (.int v), [ds']) ∧ 0 ≤ v ∧ v < k ∧ Src b ds'
theorem TkW.tk {g : Fn} (h : TkW g) : Tk g := fun b ds k s h0 h1 => h b ds k s h0 (Nat.lt_of_le_of_lt (log2_small (k := 30) (by omega)) (by decide))
end Ev
namespace Ev
local macro_rules
  | `(tactic| simp! only [$as,*]) => `(tactic| simp only [↓x_var, ↓x_C, ↓x_op, ↓x_fz, ↓x_rV, ↓x_B, ↓x_chain, ↓x_tru, ↓x_notT, ↓x_andT, ↓x_orT, ↓x_and, ↓x_or, ↓x_not, ↓x_neg, ↓x_if, ↓x_aNil, ↓x_aVal, ↓x_aSlot, ↓x_aTmp, ↓x_aR, ↓x_call, ↓x_callK, ↓x_dNil, ↓x_dCons, ↓x_tup, ↓x_lst, ↓x_itemN, ↓x_ownItem, ↓x_lenN, ↓x_blt, ↓x_isi, ↓x_list, ↓x_rgL1, ↓x_rgL2, ↓x_iSeq, ↓x_iZip, ↓x_range1, ↓x_range2, ↓x_addR, ↓x_slice, ↓x_partN, ↓x_partS, ↓x_comp, ↓x_skip, ↓x_stuck, ↓x_break, ↓x_cont, ↓x_seq, ↓x_sIf, ↓x_sExpr, ↓x_ret, ↓x_retN, ↓x_move, ↓x_setRv, ↓x_setRf, ↓x_setRm, ↓x_set, ↓x_gN, ↓x_gsNil, ↓x_gsCons, ↓x_gTup, ↓x_gIx, ↓x_setAt, ↓x_asg, ↓x_par, ↓x_sm0, ↓x_smV, ↓x_smF, ↓x_app, ↓x_for, ↓x_for0, ↓x_for1, ↓x_comp0, ↓x_comp1, ↓x_fn, ↓x_iEnum, ↓x_range3, ↓x_comp2, ↓x_compN0, ↓x_compN1, ↓x_item2, ↓x_item2M, ↓x_gIx2, ↓x_compM, ↓x_callB, ↓x_pop, ↓x_dStar, ↓x_seeAt, ↓x_see, ↓x_seeR, ↓x_rev, ↓x_idx, q_addI, q_addT, q_addL, q_subI, q_ltI, q_leI, q_gtI, q_geI, q_isN, q_isNotN, q_eqI, q_neI, q_eqB, q_eqT0, q_eqT1, q_neT0, q_neT1, q_eqL0, q_eqL1, q_neL0, q_neL1, q_int, q_abs, q_min2, q_max2, q_at0, q_at1, q_at2, q_at3, q_ix0, q_ix1, q_ix2, q_sz, q_iteS, q_iteT, q_iteR, q_iteV, q_iteBB, q_iteII, q_iteAnd, q_iteOr, q_iteNot, q_iteCon, q_pa0, q_pa1, q_pa2, q_pa3, q_pa4, q_ow4, q_ma0, q_ma1, q_ma2, q_ma3, q_ma4, q_ow0, q_ow1, q_ow2, q_ow3, q_c0, q_c1, q_c2, q_c3, q_c4, q_c5, q_c6, q_c7, q_c8, q_c9, q_c10, q_c11, q_c12, q_all0, q_all1, q_all2, q_all3, q_inN2, q_inN0, q_02a, q_02b, q_repr, q_ol1, q_ol2, q_ol3, q_ll1, q_ll2, q_ll3, q_scB, List.getElem?_cons_zero, List.getElem?_cons_succ, List.set_cons_zero, List.set_cons_succ, wipeE, initE, outsOf, toAv, toAvB, scal, slotsOf, putOuts, natNodup, List.map_cons, List.map_nil, List.cons_append, List.nil_append, List.append_nil, List.replicate, List.length_cons, List.length_nil, isNone, isiD, seqD, gItem, truD, zipOf, zipD, pick, List.contains_nil, List.contains_cons, eq_self, List.cons_ne_nil, if_true, if_false, Bool.false_eq_true, Bool.true_eq_false, Bool.not_true, Bool.not_false, reduceIte, decide_true, decide_false, Nat.reduceAdd, Nat.reduceSub, Nat.zero_add, Nat.add_zero, and_self, true_and, and_true, Bool.and_true, Bool.true_and, Bool.or_false, Bool.false_or, Bool.or_true, Bool.true_or, Bool.and_false, Bool.false_and, Bool.or_self, Bool.and_self, Nat.sub_self, Option.map_some, Option.map_none, Nat.reduceBEq, Bool.not_eq_true, beq_self_eq_true, Nat.reduceLeDiff, Nat.reduceLT, Nat.reduceEqDiff, List.filterMap_cons, List.filterMap_nil, $as,*])
open PySem PySem.Spec PyProof.Rows L2
section
variable {f g h w : Fn}
/-! ## k34: what is settled -/
theorem k_rholds_ok (h1 : LeftF f) (h2 : ChkR g) (h3 : ∀ i : Int, h [.val (.int i)] = some (.val .none, [])) : LeftF (k_rest_holds f g h) := fun a k ha => by
  simp! only [k_rest_holds, k_rest_holds_b, h1 a k ha, h2 a ha, h3]
/-! ### tried -/
end
end Ev
namespace Ev
local macro_rules
  | `(tactic| simp! only [$as,*]) => `(tactic| simp only [↓x_var, ↓x_C, ↓x_op, ↓x_fz, ↓x_rV, ↓x_B, ↓x_chain, ↓x_tru, ↓x_notT, ↓x_andT, ↓x_orT, ↓x_and, ↓x_or, ↓x_not, ↓x_neg, ↓x_if, ↓x_aNil, ↓x_aVal, ↓x_aSlot, ↓x_aTmp, ↓x_aR, ↓x_call, ↓x_callK, ↓x_dNil, ↓x_dCons, ↓x_tup, ↓x_lst, ↓x_itemN, ↓x_ownItem, ↓x_lenN, ↓x_blt, ↓x_isi, ↓x_list, ↓x_rgL1, ↓x_rgL2, ↓x_iSeq, ↓x_iZip, ↓x_range1, ↓x_range2, ↓x_addR, ↓x_slice, ↓x_partN, ↓x_partS, ↓x_comp, ↓x_skip, ↓x_stuck, ↓x_break, ↓x_cont, ↓x_seq, ↓x_sIf, ↓x_sExpr, ↓x_ret, ↓x_retN, ↓x_move, ↓x_setRv, ↓x_setRf, ↓x_setRm, ↓x_set, ↓x_gN, ↓x_gsNil, ↓x_gsCons, ↓x_gTup, ↓x_gIx, ↓x_setAt, ↓x_asg, ↓x_par, ↓x_sm0, ↓x_smV, ↓x_smF, ↓x_app, ↓x_for, ↓x_for0, ↓x_for1, ↓x_comp0, ↓x_comp1, ↓x_fn, ↓x_iEnum, ↓x_range3, ↓x_comp2, ↓x_compN0, ↓x_compN1, ↓x_item2, ↓x_item2M, ↓x_gIx2, ↓x_compM, ↓x_callB, ↓x_pop, ↓x_dStar, ↓x_seeAt, ↓x_see, ↓x_seeR, ↓x_rev, ↓x_idx, q_addI, q_addT, q_addL, q_subI, q_ltI, q_leI, q_gtI, q_geI, q_isN, q_isNotN, q_eqI, q_neI, q_eqB, q_eqT0, q_eqT1, q_neT0, q_neT1, q_eqL0, q_eqL1, q_neL0, q_neL1, q_int, q_abs, q_min2, q_max2, q_at0, q_at1, q_at2, q_at3, q_ix0, q_ix1, q_ix2, q_sz, q_iteS, q_iteT, q_iteR, q_iteV, q_iteBB, q_iteII, q_iteAnd, q_iteOr, q_iteNot, q_iteCon, q_pa0, q_pa1, q_pa2, q_pa3, q_pa4, q_ow4, q_ma0, q_ma1, q_ma2, q_ma3, q_ma4, q_ow0, q_ow1, q_ow2, q_ow3, q_c0, q_c1, q_c2, q_c3, q_c4, q_c5, q_c6, q_c7, q_c8, q_c9, q_c10, q_c11, q_c12, q_all0, q_all1, q_all2, q_all3, q_inN2, q_inN0, q_02a, q_02b, q_repr, q_ol1, q_ol2, q_ol3, q_ll1, q_ll2, q_ll3, q_scB, List.getElem?_cons_zero, List.getElem?_cons_succ, List.set_cons_zero, List.set_cons_succ, wipeE, initE, outsOf, toAv, toAvB, scal, slotsOf, putOuts, natNodup, List.map_cons, List.map_nil, List.cons_append, List.nil_append, List.append_nil, List.replicate, List.length_cons, List.length_nil, isNone, isiD, seqD, gItem, truD, zipOf, zipD, pick, List.contains_nil, List.contains_cons, eq_self, List.cons_ne_nil, if_true, if_false, Bool.false_eq_true, Bool.true_eq_false, Bool.not_true, Bool.not_false, reduceIte, decide_true, decide_false, Nat.reduceAdd, Nat.reduceSub, Nat.zero_add, Nat.add_zero, and_self, true_and, and_true, Bool.and_true, Bool.true_and, Bool.or_false, Bool.false_or, Bool.or_true, Bool.true_or, Bool.and_false, Bool.false_and, Bool.or_self, Bool.and_self, Nat.sub_self, Option.map_some, Option.map_none, Nat.reduceBEq, Bool.not_eq_true, beq_self_eq_true, Nat.reduceLeDiff, Nat.reduceLT, Nat.reduceEqDiff, List.filterMap_cons, List.filterMap_nil, $as,*])
open PySem PySem.Spec PyProof.Rows L2
section
variable {f g h w : Fn}
/-! ## k30: the checks -/
end
end Ev
namespace Ev
open PySem PySem.Spec PyProof.Rows L2
/-! ## sums and products of rests -/
end Ev
namespace Ev
open PySem PySem.Spec PyProof.Rows L2
end Ev
namespace Ev
local macro_rules
  | `(tactic| simp! only [$as,*]) => `(tactic| simp only [↓x_var, ↓x_C, ↓x_op, ↓x_fz, ↓x_rV, ↓x_B, ↓x_chain, ↓x_tru, ↓x_notT, ↓x_andT, ↓x_orT, ↓x_and, ↓x_or, ↓x_not, ↓x_neg, ↓x_if, ↓x_aNil, ↓x_aVal, ↓x_aSlot, ↓x_aTmp, ↓x_aR, ↓x_call, ↓x_callK, ↓x_dNil, ↓x_dCons, ↓x_tup, ↓x_lst, ↓x_itemN, ↓x_ownItem, ↓x_lenN, ↓x_blt, ↓x_isi, ↓x_list, ↓x_rgL1, ↓x_rgL2, ↓x_iSeq, ↓x_iZip, ↓x_range1, ↓x_range2, ↓x_addR, ↓x_slice, ↓x_partN, ↓x_partS, ↓x_comp, ↓x_skip, ↓x_stuck, ↓x_break, ↓x_cont, ↓x_seq, ↓x_sIf, ↓x_sExpr, ↓x_ret, ↓x_retN, ↓x_move, ↓x_setRv, ↓x_setRf, ↓x_setRm, ↓x_set, ↓x_gN, ↓x_gsNil, ↓x_gsCons, ↓x_gTup, ↓x_gIx, ↓x_setAt, ↓x_asg, ↓x_par, ↓x_sm0, ↓x_smV, ↓x_smF, ↓x_app, ↓x_for, ↓x_for0, ↓x_for1, ↓x_comp0, ↓x_comp1, ↓x_fn, ↓x_iEnum, ↓x_range3, ↓x_comp2, ↓x_compN0, ↓x_compN1, ↓x_item2, ↓x_item2M, ↓x_gIx2, ↓x_compM, ↓x_callB, ↓x_pop, ↓x_dStar, ↓x_seeAt, ↓x_see, ↓x_seeR, ↓x_rev, ↓x_idx, q_addI, q_addT, q_addL, q_subI, q_ltI, q_leI, q_gtI, q_geI, q_isN, q_isNotN, q_eqI, q_neI, q_eqB, q_eqT0, q_eqT1, q_neT0, q_neT1, q_eqL0, q_eqL1, q_neL0, q_neL1, q_int, q_abs, q_min2, q_max2, q_at0, q_at1, q_at2, q_at3, q_ix0, q_ix1, q_ix2, q_sz, q_iteS, q_iteT, q_iteR, q_iteV, q_iteBB, q_iteII, q_iteAnd, q_iteOr, q_iteNot, q_iteCon, q_pa0, q_pa1, q_pa2, q_pa3, q_pa4, q_ow4, q_ma0, q_ma1, q_ma2, q_ma3, q_ma4, q_ow0, q_ow1, q_ow2, q_ow3, q_c0, q_c1, q_c2, q_c3, q_c4, q_c5, q_c6, q_c7, q_c8, q_c9, q_c10, q_c11, q_c12, q_all0, q_all1, q_all2, q_all3, q_inN2, q_inN0, q_02a, q_02b, q_repr, q_ol1, q_ol2, q_ol3, q_ll1, q_ll2, q_ll3, q_scB, List.getElem?_cons_zero, List.getElem?_cons_succ, List.set_cons_zero, List.set_cons_succ, wipeE, initE, outsOf, toAv, toAvB, scal, slotsOf, putOuts, natNodup, List.map_cons, List.map_nil, List.cons_append, List.nil_append, List.append_nil, List.replicate, List.length_cons, List.length_nil, isNone, isiD, seqD, gItem, truD, zipOf, zipD, pick, List.contains_nil, List.contains_cons, eq_self, List.cons_ne_nil, if_true, if_false, Bool.false_eq_true, Bool.true_eq_false, Bool.not_true, Bool.not_false, reduceIte, decide_true, decide_false, Nat.reduceAdd, Nat.reduceSub, Nat.zero_add, Nat.add_zero, and_self, true_and, and_true, Bool.and_true, Bool.true_and, Bool.or_false, Bool.false_or, Bool.or_true, Bool.true_or, Bool.and_false, Bool.false_and, Bool.or_self, Bool.and_self, Nat.sub_self, Option.map_some, Option.map_none, Nat.reduceBEq, Bool.not_eq_true, beq_self_eq_true, Nat.reduceLeDiff, Nat.reduceLT, Nat.reduceEqDiff, List.filterMap_cons, List.filterMap_nil, $as,*])
open PySem PySem.Spec PyProof.Rows L2
section
variable {f g h w : Fn}
/-! ## k31: the program -/
end
end Ev
namespace Ev
local macro_rules
  | `(tactic| simp! only [$as,*]) => `(tactic| simp only [↓x_var, ↓x_C, ↓x_op, ↓x_fz, ↓x_rV, ↓x_B, ↓x_chain, ↓x_tru, ↓x_notT, ↓x_andT, ↓x_orT, ↓x_and, ↓x_or, ↓x_not, ↓x_neg, ↓x_if, ↓x_aNil, ↓x_aVal, ↓x_aSlot, ↓x_aTmp, ↓x_aR, ↓x_call, ↓x_callK, ↓x_dNil, ↓x_dCons, ↓x_tup, ↓x_lst, ↓x_itemN, ↓x_ownItem, ↓x_lenN, ↓x_blt, ↓x_isi, ↓x_list, ↓x_rgL1, ↓x_rgL2, ↓x_iSeq, ↓x_iZip, ↓x_range1, ↓x_range2, ↓x_addR, ↓x_slice, ↓x_partN, ↓x_partS, ↓x_comp, ↓x_skip, ↓x_stuck, ↓x_break, ↓x_cont, ↓x_seq, ↓x_sIf, ↓x_sExpr, ↓x_ret, ↓x_retN, ↓x_move, ↓x_setRv, ↓x_setRf, ↓x_setRm, ↓x_set, ↓x_gN, ↓x_gsNil, ↓x_gsCons, ↓x_gTup, ↓x_gIx, ↓x_setAt, ↓x_asg, ↓x_par, ↓x_sm0, ↓x_smV, ↓x_smF, ↓x_app, ↓x_for, ↓x_for0, ↓x_for1, ↓x_comp0, ↓x_comp1, ↓x_fn, ↓x_iEnum, ↓x_range3, ↓x_comp2, ↓x_compN0, ↓x_compN1, ↓x_item2, ↓x_item2M, ↓x_gIx2, ↓x_compM, ↓x_callB, ↓x_pop, ↓x_dStar, ↓x_seeAt, ↓x_see, ↓x_seeR, ↓x_rev, ↓x_idx, q_addI, q_addT, q_addL, q_subI, q_ltI, q_leI, q_gtI, q_geI, q_isN, q_isNotN, q_eqI, q_neI, q_eqB, q_eqT0, q_eqT1, q_neT0, q_neT1, q_eqL0, q_eqL1, q_neL0, q_neL1, q_int, q_abs, q_min2, q_max2, q_at0, q_at1, q_at2, q_at3, q_ix0, q_ix1, q_ix2, q_sz, q_iteS, q_iteT, q_iteR, q_iteV, q_iteBB, q_iteII, q_iteAnd, q_iteOr, q_iteNot, q_iteCon, q_pa0, q_pa1, q_pa2, q_pa3, q_pa4, q_ow4, q_ma0, q_ma1, q_ma2, q_ma3, q_ma4, q_ow0, q_ow1, q_ow2, q_ow3, q_c0, q_c1, q_c2, q_c3, q_c4, q_c5, q_c6, q_c7, q_c8, q_c9, q_c10, q_c11, q_c12, q_all0, q_all1, q_all2, q_all3, q_inN2, q_inN0, q_02a, q_02b, q_repr, q_ol1, q_ol2, q_ol3, q_ll1, q_ll2, q_ll3, q_scB, List.getElem?_cons_zero, List.getElem?_cons_succ, List.set_cons_zero, List.set_cons_succ, wipeE, initE, outsOf, toAv, toAvB, scal, slotsOf, putOuts, natNodup, List.map_cons, List.map_nil, List.cons_append, List.nil_append, List.append_nil, List.replicate, List.length_cons, List.length_nil, isNone, isiD, seqD, gItem, truD, zipOf, zipD, pick, List.contains_nil, List.contains_cons, eq_self, List.cons_ne_nil, if_true, if_false, Bool.false_eq_true, Bool.true_eq_false, Bool.not_true, Bool.not_false, reduceIte, decide_true, decide_false, Nat.reduceAdd, Nat.reduceSub, Nat.zero_add, Nat.add_zero, and_self, true_and, and_true, Bool.and_true, Bool.true_and, Bool.or_false, Bool.false_or, Bool.or_true, Bool.true_or, Bool.and_false, Bool.false_and, Bool.or_self, Bool.and_self, Nat.sub_self, Option.map_some, Option.map_none, Nat.reduceBEq, Bool.not_eq_true, beq_self_eq_true, Nat.reduceLeDiff, Nat.reduceLT, Nat.reduceEqDiff, List.filterMap_cons, List.filterMap_nil, $as,*])
open PySem PySem.Spec PyProof.Rows L2
section
variable {f g h w : Fn}
/-! ## k31: the checks -/
theorem mul_bd {x y A B : Int} (hx : -A ≤ x ∧ x ≤ A) (hy : -B ≤ y ∧ y ≤ B) : -(A * B) ≤ x * y ∧ x * y ≤ A * B := by
  have hA : 0 ≤ A := by omega
  have hB : 0 ≤ B := by omega
  have k : (x * y).natAbs ≤ A.natAbs * B.natAbs := by
    rw [Int.natAbs_mul]
    exact Nat.mul_le_mul (by omega) (by omega)
  have e : ((A.natAbs * B.natAbs : Nat) : Int) = A * B := by
    rw [Int.natCast_mul, Int.natAbs_of_nonneg hA, Int.natAbs_of_nonneg hB]
  have k2 : ((x * y).natAbs : Int) ≤ A * B := by rw [← e]; exact_mod_cast k
  constructor <;> omega
/-! ### what is held -/
theorem has_some {r m k : Int} : hasR (some (r, m)) k = true ↔ m ∣ k - r := hasR_iff
theorem k_lsome_ok {nu : Fn} (N : Nm 7 (2 ^ 110) nu) {b : Nat} {ds : List D} (h : Src (b + 7) ds) {r m : Int} (ho : okR (some (r, m)) = true) (hz : szR (2 ^ 113) (some (r, m))) : ∃ (x : Int) (ds' : List D), k__law_rest_some nu [.own ds, .val (eR (some (r, m)))] = some (.val (.int x), [ds']) ∧ hasR (some (r, m)) x = true ∧ -(2 ^ 190) ≤ x ∧ x ≤ 2 ^ 190 ∧ Src b ds' := by
  obtain ⟨v, d1, e1, p1, q1, s1⟩ := N b ds h
  have pm := ok_nn ho
  have z1 := hz.1
  have z2 := hz.2
  have m1 : mulOk m v = true := mulOk_lt (a := 20) (b := 111) (by omega) (by omega) (by decide)
  have bd := mul_bd (x := m) (y := v) (A := 20160) (B := 2 ^ 110) (by omega) (by omega)
  refine ⟨r + m * v, d1, ?_, ?_, by omega, by omega, s1⟩
  · simp! only [k__law_rest_some, k__law_rest_some_b, eR_s, e1, q_mulI m1]
  · rw [has_some, show r + m * v - r = m * v by omega]; exact Int.dvd_mul_right m v
abbrev SomeF (f : Fn) : Prop := ∀ (b : Nat) (ds : List D) (r m : Int), Src (b + 7) ds → okR (some (r, m)) = true → szR (2 ^ 113) (some (r, m)) → ∃ (x : Int) (ds' : List D), f [.own ds, .val (eR (some (r, m)))] = some (.val (.int x), [ds']) ∧ hasR (some (r, m)) x = true ∧ -(2 ^ 190) ≤ x ∧ x ≤ 2 ^ 190 ∧ Src b ds'
end
end Ev
namespace Ev
local macro_rules
  | `(tactic| simp! only [$as,*]) => `(tactic| simp only [↓x_var, ↓x_C, ↓x_op, ↓x_fz, ↓x_rV, ↓x_B, ↓x_chain, ↓x_tru, ↓x_notT, ↓x_andT, ↓x_orT, ↓x_and, ↓x_or, ↓x_not, ↓x_neg, ↓x_if, ↓x_aNil, ↓x_aVal, ↓x_aSlot, ↓x_aTmp, ↓x_aR, ↓x_call, ↓x_callK, ↓x_dNil, ↓x_dCons, ↓x_tup, ↓x_lst, ↓x_itemN, ↓x_ownItem, ↓x_lenN, ↓x_blt, ↓x_isi, ↓x_list, ↓x_rgL1, ↓x_rgL2, ↓x_iSeq, ↓x_iZip, ↓x_range1, ↓x_range2, ↓x_addR, ↓x_slice, ↓x_partN, ↓x_partS, ↓x_comp, ↓x_skip, ↓x_stuck, ↓x_break, ↓x_cont, ↓x_seq, ↓x_sIf, ↓x_sExpr, ↓x_ret, ↓x_retN, ↓x_move, ↓x_setRv, ↓x_setRf, ↓x_setRm, ↓x_set, ↓x_gN, ↓x_gsNil, ↓x_gsCons, ↓x_gTup, ↓x_gIx, ↓x_setAt, ↓x_asg, ↓x_par, ↓x_sm0, ↓x_smV, ↓x_smF, ↓x_app, ↓x_for, ↓x_for0, ↓x_for1, ↓x_comp0, ↓x_comp1, ↓x_fn, ↓x_iEnum, ↓x_range3, ↓x_comp2, ↓x_compN0, ↓x_compN1, ↓x_item2, ↓x_item2M, ↓x_gIx2, ↓x_compM, ↓x_callB, ↓x_pop, ↓x_dStar, ↓x_seeAt, ↓x_see, ↓x_seeR, ↓x_rev, ↓x_idx, q_addI, q_addT, q_addL, q_subI, q_ltI, q_leI, q_gtI, q_geI, q_isN, q_isNotN, q_eqI, q_neI, q_eqB, q_eqT0, q_eqT1, q_neT0, q_neT1, q_eqL0, q_eqL1, q_neL0, q_neL1, q_int, q_abs, q_min2, q_max2, q_at0, q_at1, q_at2, q_at3, q_ix0, q_ix1, q_ix2, q_sz, q_iteS, q_iteT, q_iteR, q_iteV, q_iteBB, q_iteII, q_iteAnd, q_iteOr, q_iteNot, q_iteCon, q_pa0, q_pa1, q_pa2, q_pa3, q_pa4, q_ow4, q_ma0, q_ma1, q_ma2, q_ma3, q_ma4, q_ow0, q_ow1, q_ow2, q_ow3, q_c0, q_c1, q_c2, q_c3, q_c4, q_c5, q_c6, q_c7, q_c8, q_c9, q_c10, q_c11, q_c12, q_all0, q_all1, q_all2, q_all3, q_inN2, q_inN0, q_02a, q_02b, q_repr, q_ol1, q_ol2, q_ol3, q_ll1, q_ll2, q_ll3, q_scB, List.getElem?_cons_zero, List.getElem?_cons_succ, List.set_cons_zero, List.set_cons_succ, wipeE, initE, outsOf, toAv, toAvB, scal, slotsOf, putOuts, natNodup, List.map_cons, List.map_nil, List.cons_append, List.nil_append, List.append_nil, List.replicate, List.length_cons, List.length_nil, isNone, isiD, seqD, gItem, truD, zipOf, zipD, pick, List.contains_nil, List.contains_cons, eq_self, List.cons_ne_nil, if_true, if_false, Bool.false_eq_true, Bool.true_eq_false, Bool.not_true, Bool.not_false, reduceIte, decide_true, decide_false, Nat.reduceAdd, Nat.reduceSub, Nat.zero_add, Nat.add_zero, and_self, true_and, and_true, Bool.and_true, Bool.true_and, Bool.or_false, Bool.false_or, Bool.or_true, Bool.true_or, Bool.and_false, Bool.false_and, Bool.or_self, Bool.and_self, Nat.sub_self, Option.map_some, Option.map_none, Nat.reduceBEq, Bool.not_eq_true, beq_self_eq_true, Nat.reduceLeDiff, Nat.reduceLT, Nat.reduceEqDiff, List.filterMap_cons, List.filterMap_nil, $as,*])
open PySem PySem.Spec PyProof.Rows L2
section
variable {f g h w : Fn}
/-! ## k32: quotient and modulo of rests, plain -/
def quoR : RR → RR → RR
  | some (r, m), some (s, n) => if s = 0 ∧ n = 0 then none else if r = 0 ∧ m = 0 then some (0, 0) else if n = 0 ∧ s ∣ m then restBy (r.fdiv s) ((m.fdiv s).natAbs : Nat) else some (0, 1)
  | _, _ => none
def modR : RR → RR → RR
  | some (r, m), some (s, n) => if s = 0 ∧ n = 0 then none else if n = 0 ∧ s ∣ m then some (r.fmod s, 0) else restBy r (gcd3 m s n : Nat)
  | _, _ => none
noncomputable def guaR (w : Wd4) (a b : RR) : RR × RR := match a, b with
  | some x, some y => match w with
    | .eq => (meetR (some x) (some y), meetR (some x) (some y))
    | .ne => if x = y ∧ x.2 = 0 then (none, none) else (some x, some y)
    | _ => (some x, some y)
  | _, _ => (none, none)
theorem abs_dv {q m s : Int} (h : s ∣ m) (hm : m = 0 ∨ (0 < m ∧ m ∣ 20160)) (hs : s ≠ 0) : ((m.fdiv s).natAbs : Int) = 0 ∨ (0 < ((m.fdiv s).natAbs : Int) ∧ ((m.fdiv s).natAbs : Int) ∣ 20160) := by
  have e := Int.mul_fdiv_cancel' h
  rcases hm with z | ⟨h1, h2⟩
  · left
    subst z
    have : (0 : Int).fdiv s = 0 := Int.zero_fdiv s
    rw [this]; rfl
  · right
    have ne : m.fdiv s ≠ 0 := fun z => by rw [z, Int.mul_zero] at e; omega
    refine ⟨by omega, ?_⟩
    have d : m.fdiv s ∣ m := ⟨s, by rw [Int.mul_comm]; exact e.symm⟩
    exact Int.natAbs_dvd.mpr (Int.dvd_trans d h2)
theorem ok_dv {r m : Int} (h : okR (some (r, m)) = true) : m = 0 ∨ (0 < m ∧ m ∣ 20160) := by
  rcases ok_r h with z | ⟨a, b, -, -⟩
  · exact .inl z
  · exact .inr ⟨a, b⟩
theorem gcd3_pos {m s n : Int} (hm : m = 0 ∨ (0 < m ∧ m ∣ 20160)) (hn : n = 0 ∨ (0 < n ∧ n ∣ 20160)) (h0 : ¬ (s = 0 ∧ n = 0)) (h1 : ¬ (n = 0 ∧ s ∣ m)) : 0 < (gcd3 m s n : Int) ∧ (gcd3 m s n : Int) ∣ 20160 := by
  have d := (gcd3_dvd (d := gcd3 m s n) (a := m) (b := s) (c := n)).mp (Nat.dvd_refl _)
  have pos : ∀ x : Int, 0 < x → (gcd3 m s n : Int) ∣ x → 0 < (gcd3 m s n : Int) := fun x hx hd => by
    rcases Nat.eq_zero_or_pos (gcd3 m s n) with z | z
    · rw [z] at hd
      have := Int.zero_dvd.mp hd
      omega
    · omega
  rcases hn with z | ⟨n1, n2⟩
  · rcases hm with y | ⟨m1, m2⟩
    · exact absurd ⟨z, by rw [y]; exact Int.dvd_zero s⟩ h1
    · exact ⟨pos m m1 d.1, Int.dvd_trans d.1 m2⟩
  · exact ⟨pos n n1 d.2.2, Int.dvd_trans d.2.2 n2⟩
theorem okR_quo {a b : RR} (ha : okR a = true) (hb : okR b = true) : okR (quoR a b) = true := by
  rcases a with _ | ⟨r, m⟩
  · rfl
  rcases b with _ | ⟨s, n⟩
  · rfl
  unfold quoR
  dsimp only
  by_cases c0 : s = 0 ∧ n = 0
  · rw [if_pos c0]; rfl
  by_cases c1 : r = 0 ∧ m = 0
  · rw [if_neg c0, if_pos c1]; rfl
  by_cases c2 : n = 0 ∧ s ∣ m
  · rw [if_neg c0, if_neg c1, if_pos c2]
    exact ok_restBy _ (abs_dv (q := 0) c2.2 (ok_dv ha) fun z => c0 ⟨z, c2.1⟩)
  · rw [if_neg c0, if_neg c1, if_neg c2]; decide
theorem okR_mod {a b : RR} (ha : okR a = true) (hb : okR b = true) : okR (modR a b) = true := by
  rcases a with _ | ⟨r, m⟩
  · rfl
  rcases b with _ | ⟨s, n⟩
  · rfl
  unfold modR
  dsimp only
  by_cases c0 : s = 0 ∧ n = 0
  · rw [if_pos c0]; rfl
  by_cases c2 : n = 0 ∧ s ∣ m
  · rw [if_neg c0, if_pos c2]
    exact ok_of (.inl rfl)
  · rw [if_neg c0, if_neg c2]
    exact ok_restBy _ (.inr (gcd3_pos (ok_dv ha) (ok_dv hb) c0 c2))
theorem rhas_by {x g k : Int} : hasR (restBy x g) k = true ↔ g ∣ k - x := by
  obtain ⟨r, e, d⟩ := restBy_eq (x := x) (g := g)
  rw [e, has_some]
  constructor
  · intro h
    have := Int.dvd_sub h d
    rwa [show k - r - (x - r) = k - x by omega] at this
  · intro h
    have := Int.dvd_add h d
    rwa [show k - x + (x - r) = k - r by omega] at this
theorem rhas_quo {a b : RR} {x y : Int} (hx : hasR a x = true) (hy : hasR b y = true) (y0 : y ≠ 0) : hasR (quoR a b) (x.fdiv y) = true := by
  rcases a with _ | ⟨r, m⟩
  · cases hx
  rcases b with _ | ⟨s, n⟩
  · cases hy
  rw [has_some] at hx hy
  unfold quoR
  dsimp only
  by_cases c0 : s = 0 ∧ n = 0
  · rw [c0.1, c0.2] at hy
    have := Int.zero_dvd.mp hy
    omega
  by_cases c1 : r = 0 ∧ m = 0
  · rw [c1.1, c1.2] at hx
    have := Int.zero_dvd.mp hx
    have x0 : x = 0 := by omega
    subst x0
    rw [if_neg c0, if_pos c1, Int.zero_fdiv]; decide
  by_cases c2 : n = 0 ∧ s ∣ m
  · rw [if_neg c0, if_neg c1, if_pos c2]
    rw [c2.1] at hy
    have := Int.zero_dvd.mp hy
    have e : y = s := by omega
    subst e
    rw [rhas_by]
    obtain ⟨t, ht⟩ := hx
    have e2 := Int.mul_fdiv_cancel' c2.2
    have e3 : x = r + m.fdiv y * t * y := by
      have : m * t = y * (m.fdiv y) * t := by rw [e2]
      rw [Int.mul_right_comm, Int.mul_comm (m.fdiv y) y, ← this]; omega
    rw [e3, Int.add_mul_fdiv_right _ _ y0, show r.fdiv y + m.fdiv y * t - r.fdiv y = m.fdiv y * t by omega]
    exact Int.natAbs_dvd.mpr (Int.dvd_mul_right _ t)
  · rw [if_neg c0, if_neg c1, if_neg c2]
    rw [has_some]
    exact Int.one_dvd _
theorem rhas_mod {a b : RR} {x y : Int} (hx : hasR a x = true) (hy : hasR b y = true) (y0 : y ≠ 0) : hasR (modR a b) (x.fmod y) = true := by
  rcases a with _ | ⟨r, m⟩
  · cases hx
  rcases b with _ | ⟨s, n⟩
  · cases hy
  rw [has_some] at hx hy
  unfold modR
  dsimp only
  by_cases c0 : s = 0 ∧ n = 0
  · rw [c0.1, c0.2] at hy
    have := Int.zero_dvd.mp hy
    omega
  by_cases c2 : n = 0 ∧ s ∣ m
  · rw [if_neg c0, if_pos c2]
    rw [c2.1] at hy
    have := Int.zero_dvd.mp hy
    have e : y = s := by omega
    subst e
    obtain ⟨t, ht⟩ := Int.dvd_trans c2.2 hx
    have e3 : x = r + t * y := by rw [Int.mul_comm]; omega
    rw [e3, Int.add_mul_fmod_self_right, has_some, Int.sub_self]
    exact Int.dvd_refl 0
  · rw [if_neg c0, if_neg c2]
    rw [rhas_by]
    have d := (gcd3_dvd (d := gcd3 m s n) (a := m) (b := s) (c := n)).mp (Nat.dvd_refl _)
    have dy : (gcd3 m s n : Int) ∣ y := by
      have := Int.dvd_add (Int.dvd_trans d.2.2 hy) d.2.1
      rwa [show y - s + s = y by omega] at this
    have d1 : (gcd3 m s n : Int) ∣ x - x.fmod y := Int.dvd_trans dy Int.dvd_self_sub_fmod
    have d2 := Int.dvd_sub (Int.dvd_trans d.1 hx) d1
    rwa [show x - r - (x - x.fmod y) = x.fmod y - r by omega] at d2
/-! ## the program -/
theorem q_modA {x y : Int} (h : y ≠ 0) : gMod (.int x) (.int y) = some (.int (x.fmod y)) := by
  show (if decide (y ≠ 0) = true then _ else _) = _
  rw [if_pos (decide_eq_true h)]
theorem q_fdivA {x y : Int} (h : y ≠ 0) (h2 : y.natAbs.log2 < 9000) : gFdiv (.int x) (.int y) = some (.int (x.fdiv y)) := by
  show (if fdivOk x y = true then _ else _) = _
  rw [if_pos (by unfold fdivOk; rw [decide_eq_true h, decide_eq_true h2]; rfl)]
abbrev MulNF (f : Fn) : Prop := ∀ x m : Int, m ≠ 0 → f [.val (.int x), .val (.int m)] = some (.val (.bool (decide (m ∣ x))), [])
theorem k_multN_ok : MulNF k_is_multiple := fun x m h => by
  have e : (decide (x.fmod m = 0)) = decide (m ∣ x) := by
    by_cases c : m ∣ x
    · rw [decide_eq_true c, decide_eq_true (Int.fmod_eq_zero_of_dvd c)]
    · rw [decide_eq_false c, decide_eq_false fun z => c (Int.dvd_of_fmod_eq_zero z)]
  simp! only [k_is_multiple, k_is_multiple_b, h, q_modA h, e]
abbrev NgtF (f : Fn) : Prop := ∀ r m : Int, f [.val (.tuple [.int r, .int m])] = some (.val (.bool (decide (r = 0 ∧ m = 0))), [])
theorem k_ngt_ok : NgtF k_is_only_nought := fun r m => by
  have q := q_eqR (some (r, m)) (some (0, 0))
  rw [eR_s, eR_s] at q
  have e : decide ((some (r, m) : RR) = some (0, 0)) = decide (r = 0 ∧ m = 0) := by
    by_cases c : r = 0 ∧ m = 0
    · rw [decide_eq_true c, decide_eq_true (by rw [c.1, c.2])]
    · rw [decide_eq_false c, decide_eq_false fun z => c (by cases z; exact ⟨rfl, rfl⟩)]
  rw [e] at q
  simp! only [k_is_only_nought, k_is_only_nought_b, q]
def okW (b : RR) : Prop := ∀ s n, b = some (s, n) → s.natAbs.log2 < 9000
theorem okW_of {b : RR} (h : szR (2 ^ 200) b) : okW b := fun s n e => by
  subst e
  have h1 := h.1
  have h2 := h.2
  exact Nat.lt_of_le_of_lt (log2_small (k := 201) (by omega)) (by decide)
abbrev QuoF (f : Fn) : Prop := ∀ a b : RR, okR a = true → okR b = true → okW b → f [.val (eR a), .val (eR b)] = some (.val (eR (quoR a b)), [])
theorem k_quoR_ok (h1 : RestByF f) (h2 : MulNF g) (h3 : NgtF h) : QuoF (k_quotient_rest f g h) := fun a b ha hb hw => by
  rcases a with _ | ⟨r, m⟩
  · simp! only [k_quotient_rest, k_quotient_rest_b, eR_n, quoR]
  rcases b with _ | ⟨s, n⟩
  · simp! only [k_quotient_rest, k_quotient_rest_b, eR_n, eR_s, quoR]
  have g1 := h3 s n
  have g2 := h3 r m
  unfold quoR
  dsimp only
  by_cases c0 : s = 0 ∧ n = 0
  · rw [decide_eq_true c0] at g1
    rw [if_pos c0]
    simp! only [k_quotient_rest, k_quotient_rest_b, eR_n, eR_s, g1]
  rw [decide_eq_false c0] at g1
  rw [if_neg c0]
  by_cases c1 : r = 0 ∧ m = 0
  · rw [decide_eq_true c1] at g2
    rw [if_pos c1, c1.1, c1.2]
    rw [c1.1, c1.2] at g2
    simp! only [k_quotient_rest, k_quotient_rest_b, eR_s, g1, g2]
  rw [decide_eq_false c1] at g2
  rw [if_neg c1]
  by_cases cn : n = 0
  · subst cn
    have s0 : s ≠ 0 := fun z => c0 ⟨z, rfl⟩
    have g3 := h2 m s s0
    by_cases c2 : s ∣ m
    · rw [if_pos ⟨rfl, c2⟩]
      rw [decide_eq_true c2] at g3
      have g4 := h1 (r.fdiv s) ((m.fdiv s).natAbs : Nat) (by omega)
      have g5 : gAbs [.int (m.fdiv s)] = some (.int ((m.fdiv s).natAbs : Nat)) := by
        rw [q_abs]
        congr 2
        split <;> omega
      generalize eR (restBy (r.fdiv s) ((m.fdiv s).natAbs : Nat)) = dz at *
      simp! only [k_quotient_rest, k_quotient_rest_b, eR_s, g1, g2, g3, g4, g5, q_fdivA s0 (hw s 0 rfl)]
    · rw [if_neg fun z => c2 z.2]
      rw [decide_eq_false c2] at g3
      simp! only [k_quotient_rest, k_quotient_rest_b, eR_s, g1, g2, g3]
  · rw [if_neg fun z => cn z.1]
    simp! only [k_quotient_rest, k_quotient_rest_b, eR_s, g1, g2, cn]
theorem k_modR_ok (h1 : RestByF f) (h2 : MulNF g) (h3 : NgtF h) : OpRF modR (k_modulo_rest f g h) := fun a b ha hb => by
  rcases a with _ | ⟨r, m⟩
  · simp! only [k_modulo_rest, k_modulo_rest_b, eR_n, modR]
  rcases b with _ | ⟨s, n⟩
  · simp! only [k_modulo_rest, k_modulo_rest_b, eR_n, eR_s, modR]
  have g1 := h3 s n
  have g6 : gGcd [.int m, .int s, .int n] = some (.int (gcd3 m s n : Nat)) := rfl
  have g7 := h1 r (gcd3 m s n : Nat) (by omega)
  unfold modR
  dsimp only
  by_cases c0 : s = 0 ∧ n = 0
  · rw [decide_eq_true c0] at g1
    rw [if_pos c0]
    simp! only [k_modulo_rest, k_modulo_rest_b, eR_n, eR_s, g1]
  rw [decide_eq_false c0] at g1
  rw [if_neg c0]
  by_cases cn : n = 0
  · subst cn
    have s0 : s ≠ 0 := fun z => c0 ⟨z, rfl⟩
    have g3 := h2 m s s0
    by_cases c2 : s ∣ m
    · rw [if_pos ⟨rfl, c2⟩]
      rw [decide_eq_true c2] at g3
      simp! only [k_modulo_rest, k_modulo_rest_b, eR_s, g1, g3, q_modA s0]
    · rw [if_neg fun z => c2 z.2]
      rw [decide_eq_false c2] at g3
      generalize eR (restBy r (gcd3 m s 0 : Nat)) = dz at *
      simp! only [k_modulo_rest, k_modulo_rest_b, eR_s, g1, g3, g6, g7]
  · rw [if_neg fun z => cn z.1]
    generalize eR (restBy r (gcd3 m s n : Nat)) = dz at *
    simp! only [k_modulo_rest, k_modulo_rest_b, eR_s, g1, cn, g6, g7]
theorem k_squo_ok (h1 : QuoF f) (h2 : ChkR2 g) : QuoF (k_rest_quotient f g) := fun a b ha hb hw => by
  simp! only [k_rest_quotient, k_rest_quotient_b, h1 a b ha hb hw, h2 a b ha hb]
theorem k_smod_ok (h1 : OpRF modR f) (h2 : ChkR2 g) : OpRF modR (k_rest_modulo f g) := fun a b ha hb => by
  simp! only [k_rest_modulo, k_rest_modulo_b, h1 a b ha hb, h2 a b ha hb]
abbrev WrpF (f : Fn) : Prop := ∀ (a : RR) (k : Nat), okR a = true → 1 ≤ k ∧ k ≤ 16 → f [.val (eR a), .val (.int k)] = some (.val (eR (modR a (some (2 ^ k, 0)))), [])
theorem k_wrapR_ok (h1 : OpRF modR f) : WrpF (k_wrapped_rest f) := fun a k ha hk => by
  have e := h1 a (some (2 ^ k, 0)) ha (ok_of (.inl rfl))
  rw [eR_s] at e
  have g1 : gShl (.int 1) (.int (k : Int)) = some (.int (2 ^ k)) := by
    have : powOk 1 (k : Int) = true := by
      have : k = 1 ∨ k = 2 ∨ k = 3 ∨ k = 4 ∨ k = 5 ∨ k = 6 ∨ k = 7 ∨ k = 8 ∨ k = 9 ∨ k = 10 ∨ k = 11 ∨ k = 12 ∨ k = 13 ∨ k = 14 ∨ k = 15 ∨ k = 16 := by omega
      rcases this with rfl | rfl | rfl | rfl | rfl | rfl | rfl | rfl | rfl | rfl | rfl | rfl | rfl | rfl | rfl | rfl <;> rfl
    show (if powOk 1 (k : Int) = true then _ else _) = _
    rw [if_pos this]
    simp
  generalize eR (modR a (some (2 ^ k, 0))) = dz at *
  generalize eR a = da at *
  generalize (2 : Int) ^ k = P at *
  simp! only [k_wrapped_rest, k_wrapped_rest_b, g1, e]
theorem k_swrap_ok (h1 : WrpF f) (h2 : ChkR g) (h3 : ∀ i : Int, 1 ≤ i ∧ i ≤ 16 → h [.val (.int i)] = some (.val .none, [])) : WrpF (k_rest_wrapped f g h) := fun a k ha hk => by
  simp! only [k_rest_wrapped, k_rest_wrapped_b, h1 a k ha hk, h2 a ha, h3 k (by omega)]
end
end Ev
namespace Ev
local macro_rules
  | `(tactic| simp! only [$as,*]) => `(tactic| simp only [↓x_var, ↓x_C, ↓x_op, ↓x_fz, ↓x_rV, ↓x_B, ↓x_chain, ↓x_tru, ↓x_notT, ↓x_andT, ↓x_orT, ↓x_and, ↓x_or, ↓x_not, ↓x_neg, ↓x_if, ↓x_aNil, ↓x_aVal, ↓x_aSlot, ↓x_aTmp, ↓x_aR, ↓x_call, ↓x_callK, ↓x_dNil, ↓x_dCons, ↓x_tup, ↓x_lst, ↓x_itemN, ↓x_ownItem, ↓x_lenN, ↓x_blt, ↓x_isi, ↓x_list, ↓x_rgL1, ↓x_rgL2, ↓x_iSeq, ↓x_iZip, ↓x_range1, ↓x_range2, ↓x_addR, ↓x_slice, ↓x_partN, ↓x_partS, ↓x_comp, ↓x_skip, ↓x_stuck, ↓x_break, ↓x_cont, ↓x_seq, ↓x_sIf, ↓x_sExpr, ↓x_ret, ↓x_retN, ↓x_move, ↓x_setRv, ↓x_setRf, ↓x_setRm, ↓x_set, ↓x_gN, ↓x_gsNil, ↓x_gsCons, ↓x_gTup, ↓x_gIx, ↓x_setAt, ↓x_asg, ↓x_par, ↓x_sm0, ↓x_smV, ↓x_smF, ↓x_app, ↓x_for, ↓x_for0, ↓x_for1, ↓x_comp0, ↓x_comp1, ↓x_fn, ↓x_iEnum, ↓x_range3, ↓x_comp2, ↓x_compN0, ↓x_compN1, ↓x_item2, ↓x_item2M, ↓x_gIx2, ↓x_compM, ↓x_callB, ↓x_pop, ↓x_dStar, ↓x_seeAt, ↓x_see, ↓x_seeR, ↓x_rev, ↓x_idx, q_addI, q_addT, q_addL, q_subI, q_ltI, q_leI, q_gtI, q_geI, q_isN, q_isNotN, q_eqI, q_neI, q_eqB, q_eqT0, q_eqT1, q_neT0, q_neT1, q_eqL0, q_eqL1, q_neL0, q_neL1, q_int, q_abs, q_min2, q_max2, q_at0, q_at1, q_at2, q_at3, q_ix0, q_ix1, q_ix2, q_sz, q_iteS, q_iteT, q_iteR, q_iteV, q_iteBB, q_iteII, q_iteAnd, q_iteOr, q_iteNot, q_iteCon, q_pa0, q_pa1, q_pa2, q_pa3, q_pa4, q_ow4, q_ma0, q_ma1, q_ma2, q_ma3, q_ma4, q_ow0, q_ow1, q_ow2, q_ow3, q_c0, q_c1, q_c2, q_c3, q_c4, q_c5, q_c6, q_c7, q_c8, q_c9, q_c10, q_c11, q_c12, q_all0, q_all1, q_all2, q_all3, q_inN2, q_inN0, q_02a, q_02b, q_repr, q_ol1, q_ol2, q_ol3, q_ll1, q_ll2, q_ll3, q_scB, List.getElem?_cons_zero, List.getElem?_cons_succ, List.set_cons_zero, List.set_cons_succ, wipeE, initE, outsOf, toAv, toAvB, scal, slotsOf, putOuts, natNodup, List.map_cons, List.map_nil, List.cons_append, List.nil_append, List.append_nil, List.replicate, List.length_cons, List.length_nil, isNone, isiD, seqD, gItem, truD, zipOf, zipD, pick, List.contains_nil, List.contains_cons, eq_self, List.cons_ne_nil, if_true, if_false, Bool.false_eq_true, Bool.true_eq_false, Bool.not_true, Bool.not_false, reduceIte, decide_true, decide_false, Nat.reduceAdd, Nat.reduceSub, Nat.zero_add, Nat.add_zero, and_self, true_and, and_true, Bool.and_true, Bool.true_and, Bool.or_false, Bool.false_or, Bool.or_true, Bool.true_or, Bool.and_false, Bool.false_and, Bool.or_self, Bool.and_self, Nat.sub_self, Option.map_some, Option.map_none, Nat.reduceBEq, Bool.not_eq_true, beq_self_eq_true, Nat.reduceLeDiff, Nat.reduceLT, Nat.reduceEqDiff, List.filterMap_cons, List.filterMap_nil, $as,*])
open PySem PySem.Spec PyProof.Rows L2
section
variable {f g h w : Fn}
/-! ## guards -/
theorem q_two (d : D) : gMul (.tuple [d]) (.int 2) = some (.tuple [d, d]) := rfl
theorem q_three (d : D) : gMul (.tuple [d]) (.int 3) = some (.tuple [d, d, d]) := rfl
abbrev GuaF (f : Fn) : Prop := ∀ (w : Wd4) (a b : RR), okR a = true → okR b = true → f [.val (.str w.s), .val (eR a), .val (eR b)] = some (.val (.tuple [eR (guaR w a b).1, eR (guaR w a b).2]), [])
theorem q_eqRs (r m s n : Int) : gEq (.tuple [.int r, .int m]) (.tuple [.int s, .int n]) = some (.bool (decide (((r, m) : Int × Int) = (s, n)))) := by
  have q := q_eqR (some (r, m)) (some (s, n))
  rw [eR_s, eR_s] at q
  rw [q]
  congr 2
  by_cases c : ((r, m) : Int × Int) = (s, n)
  · rw [decide_eq_true c, c]; simp
  · rw [decide_eq_false c, decide_eq_false fun z => c (Option.some.inj z)]
theorem k_guaR_ok (h1 : OpRF meetR f) : GuaF (k_guarded_rests f) := fun w a b ha hb => by
  rcases a with _ | ⟨r, m⟩
  · have : guaR w none b = (none, none) := rfl
    rw [this]
    cases w <;> simp! only [k_guarded_rests, k_guarded_rests_b, eR_n]
  rcases b with _ | ⟨s, n⟩
  · have : guaR w (some (r, m)) none = (none, none) := rfl
    rw [this]
    cases w <;> simp! only [k_guarded_rests, k_guarded_rests_b, eR_n, eR_s]
  have e1 := h1 _ _ ha hb
  have q := q_eqRs r m s n
  cases w with
  | eq =>
    show _ = some (R.val (.tuple [eR (meetR (some (r, m)) (some (s, n))), eR (meetR (some (r, m)) (some (s, n)))]), ([] : List (List D)))
    generalize eR (meetR (some (r, m)) (some (s, n))) = dz at *
    simp only [eR_s] at e1
    simp! only [k_guarded_rests, k_guarded_rests_b, eR_s, Wd4.s, q_w11, e1, q_two]
  | lt =>
    show _ = some (R.val (.tuple [eR (some (r, m)), eR (some (s, n))]), ([] : List (List D)))
    rcases Classical.em (m = 0) with c1 | c1
    · subst c1
      simp! only [k_guarded_rests, k_guarded_rests_b, eR_s, Wd4.s, q_w9, q_w13, q]
    · simp! only [k_guarded_rests, k_guarded_rests_b, eR_s, Wd4.s, q_w9, q_w13, q, c1]
  | le =>
    show _ = some (R.val (.tuple [eR (some (r, m)), eR (some (s, n))]), ([] : List (List D)))
    rcases Classical.em (m = 0) with c1 | c1
    · subst c1
      simp! only [k_guarded_rests, k_guarded_rests_b, eR_s, Wd4.s, q_w10, q_w14, q]
    · simp! only [k_guarded_rests, k_guarded_rests_b, eR_s, Wd4.s, q_w10, q_w14, q, c1]
  | ne =>
    unfold guaR
    dsimp only
    by_cases c2 : ((r, m) : Int × Int) = (s, n)
    · rw [decide_eq_true c2] at q
      by_cases c1 : m = 0
      · rw [if_pos ⟨c2, c1⟩]
        subst c1
        simp! only [k_guarded_rests, k_guarded_rests_b, eR_s, eR_n, Wd4.s, q_w12, q_w16, q]
      · rw [if_neg fun z => c1 z.2]
        simp! only [k_guarded_rests, k_guarded_rests_b, eR_s, Wd4.s, q_w12, q_w16, q, c1]
    · rw [decide_eq_false c2] at q
      rw [if_neg fun z => c2 z.1]
      rcases Classical.em (m = 0) with c1 | c1
      · subst c1
        simp! only [k_guarded_rests, k_guarded_rests_b, eR_s, Wd4.s, q_w12, q_w16, q]
      · simp! only [k_guarded_rests, k_guarded_rests_b, eR_s, Wd4.s, q_w12, q_w16, q, c1]
theorem k_sgua_ok (h1 : GuaF f) (h2 : ChkR2 g) (h3 : ∀ w : Wd4, h [.val (.str w.s)] = some (.val .none, [])) : GuaF (k_rest_guarded f g h) := fun w a b ha hb => by
  have e1 := h1 w a b ha hb
  have e2 := h2 a b ha hb
  have e3 := h3 w
  generalize eR (guaR w a b).1 = d1 at *
  generalize eR (guaR w a b).2 = d2 at *
  generalize eR a = da at *
  generalize eR b = db at *
  simp! only [k_rest_guarded, k_rest_guarded_b, e1, e2, e3]
theorem k__law_guaR_ok (h1 : OpRF meetR f) : GuaF (k__law_guarded_v2 f) := fun w a b ha hb => by
  rcases a with _ | ⟨r, m⟩
  · have : guaR w none b = (none, none) := rfl
    rw [this]
    cases w <;> simp! only [k__law_guarded_v2, k__law_guarded_v2_b, eR_n]
  rcases b with _ | ⟨s, n⟩
  · have : guaR w (some (r, m)) none = (none, none) := rfl
    rw [this]
    cases w <;> simp! only [k__law_guarded_v2, k__law_guarded_v2_b, eR_n, eR_s]
  have e1 := h1 _ _ ha hb
  have q := q_eqRs r m s n
  cases w with
  | eq =>
    show _ = some (R.val (.tuple [eR (meetR (some (r, m)) (some (s, n))), eR (meetR (some (r, m)) (some (s, n)))]), ([] : List (List D)))
    generalize eR (meetR (some (r, m)) (some (s, n))) = dz at *
    simp only [eR_s] at e1
    simp! only [k__law_guarded_v2, k__law_guarded_v2_b, eR_s, Wd4.s, q_w11, q_w15, e1, q_two]
  | lt =>
    show _ = some (R.val (.tuple [eR (some (r, m)), eR (some (s, n))]), ([] : List (List D)))
    simp! only [k__law_guarded_v2, k__law_guarded_v2_b, eR_s, Wd4.s, q_w9, q_w13]
  | le =>
    show _ = some (R.val (.tuple [eR (some (r, m)), eR (some (s, n))]), ([] : List (List D)))
    simp! only [k__law_guarded_v2, k__law_guarded_v2_b, eR_s, Wd4.s, q_w10, q_w14]
  | ne =>
    unfold guaR
    dsimp only
    by_cases c2 : ((r, m) : Int × Int) = (s, n)
    · rw [decide_eq_true c2] at q
      by_cases c1 : m = 0
      · rw [if_pos ⟨c2, c1⟩]
        subst c1
        simp! only [k__law_guarded_v2, k__law_guarded_v2_b, eR_s, eR_n, Wd4.s, q_w12, q_w16, q]
      · rw [if_neg fun z => c1 z.2]
        simp! only [k__law_guarded_v2, k__law_guarded_v2_b, eR_s, Wd4.s, q_w12, q_w16, q, c1]
    · rw [decide_eq_false c2] at q
      rw [if_neg fun z => c2 z.1]
      simp! only [k__law_guarded_v2, k__law_guarded_v2_b, eR_s, Wd4.s, q_w12, q_w16, q]
theorem okR_gua {w : Wd4} {a b : RR} (ha : okR a = true) (hb : okR b = true) : okR (guaR w a b).1 = true ∧ okR (guaR w a b).2 = true := by
  rcases a with _ | x
  · exact ⟨rfl, rfl⟩
  rcases b with _ | y
  · exact ⟨rfl, rfl⟩
  cases w with
  | eq => exact ⟨ok_meetR ha hb, ok_meetR ha hb⟩
  | lt => exact ⟨ha, hb⟩
  | le => exact ⟨ha, hb⟩
  | ne =>
    unfold guaR
    dsimp only
    by_cases c : x = y ∧ x.2 = 0
    · rw [if_pos c]; exact ⟨rfl, rfl⟩
    · rw [if_neg c]; exact ⟨ha, hb⟩
theorem rhas_gua {w : Wd4} {a b : RR} {x y : Int} (ha : okR a = true) (hb : okR b = true) (hx : hasR a x = true) (hy : hasR b y = true) (hl : letsB w x y = true) : hasR (guaR w a b).1 x = true ∧ hasR (guaR w a b).2 y = true := by
  rcases a with _ | ⟨r, m⟩
  · cases hx
  rcases b with _ | ⟨s, n⟩
  · cases hy
  cases w with
  | lt => exact ⟨hx, hy⟩
  | le => exact ⟨hx, hy⟩
  | eq =>
    have e : x = y := of_decide_eq_true hl
    subst e
    show hasR (meetR _ _) x = true ∧ hasR (meetR _ _) x = true
    rw [has_meetR ha hb, hx, hy]
    exact ⟨rfl, rfl⟩
  | ne =>
    unfold guaR
    dsimp only
    by_cases c : ((r, m) : Int × Int) = (s, n) ∧ m = 0
    · exfalso
      obtain ⟨c1, c2⟩ := c
      cases c1
      subst c2
      rw [has_some] at hx hy
      have h1 := Int.zero_dvd.mp hx
      have h2 := Int.zero_dvd.mp hy
      have : ¬ x = y := by
        intro z
        simp [letsB, z] at hl
      omega
    · rw [if_neg c]; exact ⟨hx, hy⟩
/-! ## the law's own quotient and modulo -/
theorem q_modD {m s : Int} : decide (m.fmod s = 0) = decide (s ∣ m) := by
  by_cases c : s ∣ m
  · rw [decide_eq_true c, decide_eq_true (Int.fmod_eq_zero_of_dvd c)]
  · rw [decide_eq_false c, decide_eq_false fun z => c (Int.dvd_of_fmod_eq_zero z)]
theorem q_eq00 (r m : Int) : gEq (.tuple [.int r, .int m]) (.tuple [.int 0, .int 0]) = some (.bool (decide (r = 0 ∧ m = 0))) := by
  rw [q_eqRs]
  congr 2
  by_cases c : r = 0 ∧ m = 0
  · rw [decide_eq_true c, decide_eq_true (by rw [c.1, c.2])]
  · rw [decide_eq_false c, decide_eq_false fun z => c (by cases z; exact ⟨rfl, rfl⟩)]
abbrev ModRF (f : Fn) : Prop := ∀ a b : RR, okR a = true → okR b = true → szR (2 ^ 200) b → f [.val (eR a), .val (eR b)] = some (.val (eR (modR a b)), [])
theorem k__law_left_ok (h1 : CommF f) : ModRF (k__law_left_v2 f) := fun a b ha hb hw => by
  rcases a with _ | ⟨r, m⟩
  · simp! only [k__law_left_v2, k__law_left_v2_b, eR_n, modR]
  rcases b with _ | ⟨s, n⟩
  · simp! only [k__law_left_v2, k__law_left_v2_b, eR_n, eR_s, modR]
  have g1 := q_eq00 s n
  have sn := ok_nn hb
  have w1 := hw.1
  have w2 := hw.2
  have g2 := h1 m s (by omega)
  have g3 := h1 (Nat.gcd m.natAbs s.natAbs : Nat) n (by omega)
  rw [Int.natAbs_natCast] at g3
  unfold modR
  dsimp only
  by_cases c0 : s = 0 ∧ n = 0
  · rw [decide_eq_true c0] at g1
    rw [if_pos c0]
    simp! only [k__law_left_v2, k__law_left_v2_b, eR_n, eR_s, g1]
  rw [decide_eq_false c0] at g1
  rw [if_neg c0]
  have rest : ¬ (n = 0 ∧ s ∣ m) → gMod (.int r) (.int (gcd3 m s n : Nat)) = some (.int (r % (gcd3 m s n : Nat))) ∧ restBy r (gcd3 m s n : Nat) = some (r % (gcd3 m s n : Nat), ((gcd3 m s n : Nat) : Int)) := fun c2 => by
    have p := (gcd3_pos (ok_dv ha) (ok_dv hb) c0 c2).1
    refine ⟨q_modI p, ?_⟩
    unfold restBy
    rw [if_neg (by omega)]
  have g3 : f [.val (.int (Nat.gcd m.natAbs s.natAbs : Nat)), .val (.int n)] = some (.val (.int (gcd3 m s n : Nat)), []) := g3
  by_cases cn : n = 0
  · subst cn
    have s0 : s ≠ 0 := fun z => c0 ⟨z, rfl⟩
    have q := q_modD (m := m) (s := s)
    by_cases c2 : s ∣ m
    · rw [if_pos ⟨rfl, c2⟩]
      rw [decide_eq_true c2] at q
      simp! only [k__law_left_v2, k__law_left_v2_b, eR_s, g1, q_modA s0, q]
    · obtain ⟨r1, r2⟩ := rest fun z => c2 z.2
      rw [if_neg fun z => c2 z.2, r2]
      rw [decide_eq_false c2] at q
      generalize (gcd3 m s 0 : Nat) = G at *
      simp! only [k__law_left_v2, k__law_left_v2_b, eR_s, g1, q_modA s0, q, g2, g3, r1]
  · obtain ⟨r1, r2⟩ := rest fun z => cn z.1
    rw [if_neg fun z => cn z.1, r2]
    generalize (gcd3 m s n : Nat) = G at *
    simp! only [k__law_left_v2, k__law_left_v2_b, eR_s, g1, cn, g2, g3, r1]
abbrev QuoZ (f : Fn) : Prop := ∀ a b : RR, okR a = true → okR b = true → szR (2 ^ 200) a → szR (2 ^ 200) b → f [.val (eR a), .val (eR b)] = some (.val (eR (quoR a b)), [])
theorem k__law_over_ok (h1 : LeastF f) : QuoZ (k__law_over_v2 f) := fun a b ha hb za hw => by
  rcases a with _ | ⟨r, m⟩
  · simp! only [k__law_over_v2, k__law_over_v2_b, eR_n, quoR]
  rcases b with _ | ⟨s, n⟩
  · simp! only [k__law_over_v2, k__law_over_v2_b, eR_n, eR_s, quoR]
  have g1 := q_eq00 s n
  have g2 := q_eq00 r m
  have w0 := okW_of hw s n rfl
  unfold quoR
  dsimp only
  by_cases c0 : s = 0 ∧ n = 0
  · rw [decide_eq_true c0] at g1
    rw [if_pos c0]
    simp! only [k__law_over_v2, k__law_over_v2_b, eR_n, eR_s, g1]
  rw [decide_eq_false c0] at g1
  rw [if_neg c0]
  have least : n = 0 → s ∣ m → f [.val (.list [.int (r.fdiv s), .int ((r + m).fdiv s)])] = some (.val (eR (restBy (r.fdiv s) ((m.fdiv s).natAbs : Nat))), []) := fun hn c2 => by
    have s0 : s ≠ 0 := fun z => c0 ⟨z, hn⟩
    have pm := ok_nn ha
    have z1 := za.1
    have z2 := za.2
    have n1 := Int.natAbs_fdiv_le_natAbs r s
    have n2 := Int.natAbs_fdiv_le_natAbs (r + m) s
    have := h1 [r.fdiv s, (r + m).fdiv s] (by simp) (fun x hx => by
      simp only [List.mem_cons, List.not_mem_nil, or_false] at hx
      rcases hx with rfl | rfl <;> omega)
    have e : leastR [r.fdiv s, (r + m).fdiv s] = restBy (r.fdiv s) ((m.fdiv s).natAbs : Nat) := by
      rw [Int.add_fdiv_of_dvd_right c2]
      show restBy (r.fdiv s) (grain (gcdL (r.fdiv s) [r.fdiv s, r.fdiv s + m.fdiv s] 0)) = _
      have e2 : gcdL (r.fdiv s) [r.fdiv s, r.fdiv s + m.fdiv s] 0 = (m.fdiv s).natAbs := by
        unfold gcdL gcdL gcdL
        rw [Int.sub_self, show r.fdiv s + m.fdiv s - r.fdiv s = m.fdiv s by omega]
        simp
      rw [e2]
      have g := grain_self (m := ((m.fdiv s).natAbs : Nat)) (abs_dv (q := 0) c2 (ok_dv ha) s0)
      rw [Int.natAbs_natCast] at g
      rw [g]
    rw [e] at this
    exact this
  have both : ∀ d : D, f [.val (.list [.int (r.fdiv s), .int ((r + m).fdiv s)])] = some (.val d, []) → n = 0 → s ∣ m → k__law_over_v2 f [.val (eR (some (r, m))), .val (eR (some (s, n)))] = some (.val d, []) := fun d e hn c2 => by
    subst hn
    have s0 : s ≠ 0 := fun z => c0 ⟨z, rfl⟩
    have q := q_modD (m := m) (s := s)
    rw [decide_eq_true c2] at q
    simp! only [k__law_over_v2, k__law_over_v2_b, eR_s, g1, q_modA s0, q, q_fdivA s0 w0, e]
  by_cases c2 : n = 0 ∧ s ∣ m
  · rw [both _ (least c2.1 c2.2) c2.1 c2.2]
    by_cases c1 : r = 0 ∧ m = 0
    · rw [if_pos c1, c1.1, c1.2, Int.zero_fdiv]
      rfl
    · rw [if_neg c1, if_pos c2]
  · rw [if_neg c2]
    by_cases cn : n = 0
    · subst cn
      have s0 : s ≠ 0 := fun z => c0 ⟨z, rfl⟩
      have c3 : ¬ s ∣ m := fun z => c2 ⟨rfl, z⟩
      have q := q_modD (m := m) (s := s)
      rw [decide_eq_false c3] at q
      by_cases c1 : r = 0 ∧ m = 0
      · exact absurd (c1.2 ▸ Int.dvd_zero s) c3
      · rw [decide_eq_false c1] at g2
        rw [if_neg c1]
        simp! only [k__law_over_v2, k__law_over_v2_b, eR_s, g1, g2, q_modA s0, q]
    · by_cases c1 : r = 0 ∧ m = 0
      · rw [decide_eq_true c1] at g2
        rw [if_pos c1]
        simp! only [k__law_over_v2, k__law_over_v2_b, eR_s, g1, g2, cn]
      · rw [decide_eq_false c1] at g2
        rw [if_neg c1]
        simp! only [k__law_over_v2, k__law_over_v2_b, eR_s, g1, g2, cn]
end
end Ev
namespace Ev
local macro_rules
  | `(tactic| simp! only [$as,*]) => `(tactic| simp only [↓x_var, ↓x_C, ↓x_op, ↓x_fz, ↓x_rV, ↓x_B, ↓x_chain, ↓x_tru, ↓x_notT, ↓x_andT, ↓x_orT, ↓x_and, ↓x_or, ↓x_not, ↓x_neg, ↓x_if, ↓x_aNil, ↓x_aVal, ↓x_aSlot, ↓x_aTmp, ↓x_aR, ↓x_call, ↓x_callK, ↓x_dNil, ↓x_dCons, ↓x_tup, ↓x_lst, ↓x_itemN, ↓x_ownItem, ↓x_lenN, ↓x_blt, ↓x_isi, ↓x_list, ↓x_rgL1, ↓x_rgL2, ↓x_iSeq, ↓x_iZip, ↓x_range1, ↓x_range2, ↓x_addR, ↓x_slice, ↓x_partN, ↓x_partS, ↓x_comp, ↓x_skip, ↓x_stuck, ↓x_break, ↓x_cont, ↓x_seq, ↓x_sIf, ↓x_sExpr, ↓x_ret, ↓x_retN, ↓x_move, ↓x_setRv, ↓x_setRf, ↓x_setRm, ↓x_set, ↓x_gN, ↓x_gsNil, ↓x_gsCons, ↓x_gTup, ↓x_gIx, ↓x_setAt, ↓x_asg, ↓x_par, ↓x_sm0, ↓x_smV, ↓x_smF, ↓x_app, ↓x_for, ↓x_for0, ↓x_for1, ↓x_comp0, ↓x_comp1, ↓x_fn, ↓x_iEnum, ↓x_range3, ↓x_comp2, ↓x_compN0, ↓x_compN1, ↓x_item2, ↓x_item2M, ↓x_gIx2, ↓x_compM, ↓x_callB, ↓x_pop, ↓x_dStar, ↓x_seeAt, ↓x_see, ↓x_seeR, ↓x_rev, ↓x_idx, q_addI, q_addT, q_addL, q_subI, q_ltI, q_leI, q_gtI, q_geI, q_isN, q_isNotN, q_eqI, q_neI, q_eqB, q_eqT0, q_eqT1, q_neT0, q_neT1, q_eqL0, q_eqL1, q_neL0, q_neL1, q_int, q_abs, q_min2, q_max2, q_at0, q_at1, q_at2, q_at3, q_ix0, q_ix1, q_ix2, q_sz, q_iteS, q_iteT, q_iteR, q_iteV, q_iteBB, q_iteII, q_iteAnd, q_iteOr, q_iteNot, q_iteCon, q_pa0, q_pa1, q_pa2, q_pa3, q_pa4, q_ow4, q_ma0, q_ma1, q_ma2, q_ma3, q_ma4, q_ow0, q_ow1, q_ow2, q_ow3, q_c0, q_c1, q_c2, q_c3, q_c4, q_c5, q_c6, q_c7, q_c8, q_c9, q_c10, q_c11, q_c12, q_all0, q_all1, q_all2, q_all3, q_inN2, q_inN0, q_02a, q_02b, q_repr, q_ol1, q_ol2, q_ol3, q_ll1, q_ll2, q_ll3, q_scB, List.getElem?_cons_zero, List.getElem?_cons_succ, List.set_cons_zero, List.set_cons_succ, wipeE, initE, outsOf, toAv, toAvB, scal, slotsOf, putOuts, natNodup, List.map_cons, List.map_nil, List.cons_append, List.nil_append, List.append_nil, List.replicate, List.length_cons, List.length_nil, isNone, isiD, seqD, gItem, truD, zipOf, zipD, pick, List.contains_nil, List.contains_cons, eq_self, List.cons_ne_nil, if_true, if_false, Bool.false_eq_true, Bool.true_eq_false, Bool.not_true, Bool.not_false, reduceIte, decide_true, decide_false, Nat.reduceAdd, Nat.reduceSub, Nat.zero_add, Nat.add_zero, and_self, true_and, and_true, Bool.and_true, Bool.true_and, Bool.or_false, Bool.false_or, Bool.or_true, Bool.true_or, Bool.and_false, Bool.false_and, Bool.or_self, Bool.and_self, Nat.sub_self, Option.map_some, Option.map_none, Nat.reduceBEq, Bool.not_eq_true, beq_self_eq_true, Nat.reduceLeDiff, Nat.reduceLT, Nat.reduceEqDiff, List.filterMap_cons, List.filterMap_nil, $as,*])
open PySem PySem.Spec PyProof.Rows L2
section
/-! ## k32: the law's checks -/
abbrev TwoQ (f : Fn) : Prop := ∀ a b : RR, okR a = true → okR b = true → szR (2 ^ 200) a → szR (2 ^ 200) b → f [.val (eR a), .val (eR b)] = some (.val (.bool true), [])
theorem k32_two_ok {rq rm sa ov le : Fn} (h1 : QuoF rq) (h2 : OpRF modR rm) (hs : SameOk 2 sa) (l1 : QuoZ ov) (l2 : ModRF le) : TwoQ (k__law_two_right_v9 rq rm sa ov le) := fun a b ha hb za zb => by
  have e1 := h1 a b ha hb (okW_of zb)
  have e2 := h2 a b ha hb
  have e3 := l1 a b ha hb za zb
  have e4 := l2 a b ha hb zb
  have s := hs (.tuple [eR (quoR a b), eR (modR a b)]) (gd_tup 1 _ (by simp) (all_cons (gd_eR 0 _) (all_cons (gd_eR 0 _) all_nil)))
  generalize eR (quoR a b) = d1 at *
  generalize eR (modR a b) = d2 at *
  generalize eR a = da at *
  generalize eR b = db at *
  simp! only [k__law_two_right_v9, k__law_two_right_v9_b, e1, e2, e3, e4, s]
abbrev GuaQ (f : Fn) : Prop := ∀ (a b : RR) (ps : List (Int × Int)), okR a = true → okR b = true → (∀ p ∈ ps, hasR a p.1 = true ∧ hasR b p.2 = true) → f [.val (eR a), .val (eR b), .val (.list (ps.map fun p => .tuple [.int p.1, .int p.2]))] = some (.val (.bool true), [])
theorem k32_guards_ok {rh rg sa le lg : Fn} (h1 : LeftF rh) (h2 : GuaF rg) (hs : SameOk 3 sa) (h3 : ∀ (w : Wd4) (x y : Int), le [.val (.str w.s), .val (.int x), .val (.int y)] = some (.val (.bool (letsB w x y)), [])) (h4 : GuaF lg) : GuaQ (k__law_guards_right rh rg sa le lg) := fun a b ps ha hb hp => by
  have sT := hs (.tuple [.bool true, .bool true]) rfl
  generalize hdp : PyData.list (ps.map fun p => .tuple [.int p.1, .int p.2]) = dp
  have row : ∀ (w : Wd4) (s3 s4 s5 s6 s7 s8 : Sl), Fr s3 → Fr s4 → Fr s5 → Fr s6 → Fr s7 → Fr s8 → ∃ t4 t5 t6 t7 t8, Fr t4 ∧ Fr t5 ∧ Fr t6 ∧ Fr t7 ∧ Fr t8 ∧
      gN 3 (.str w.s) [.val (eR a), .val (eR b), .val dp, s3, s4, s5, s6, s7, s8] = some [.val (eR a), .val (eR b), .val dp, .val (.str w.s), s4, s5, s6, s7, s8] ∧
      k__law_guards_right_l2 rh rg sa le lg [.val (eR a), .val (eR b), .val dp, .val (.str w.s), s4, s5, s6, s7, s8] = some (.nx, [.val (eR a), .val (eR b), .val dp, .val (.str w.s), t4, t5, t6, t7, t8]) := fun w s3 s4 s5 s6 s7 s8 f3 f4 f5 f6 f7 f8 => by
    have n3 : isPar s3 = false := f3
    have n4 : isPar s4 = false := f4
    have n5 : isPar s5 = false := f5
    have e1 := h2 w a b ha hb
    have e2 := h4 w a b ha hb
    obtain ⟨o1, o2⟩ := okR_gua (w := w) ha hb
    have L : ∀ p ∈ ps, ∃ u v : Bool, rh [.val (eR (guaR w a b).1), .val (.int p.1)] = some (.val (.bool u), []) ∧ rh [.val (eR (guaR w a b).2), .val (.int p.2)] = some (.val (.bool v), []) ∧ (letsB w p.1 p.2 = true → u = true ∧ v = true) := fun p hp' =>
      ⟨_, _, h1 _ _ o1, h1 _ _ o2, fun hl => rhas_gua ha hb (hp p hp').1 (hp p hp').2 hl⟩
    have s := hs (.tuple [.tuple [eR (guaR w a b).1, eR (guaR w a b).2], .tuple [eR (guaR w a b).1, eR (guaR w a b).2]]) (gd_tup 2 _ (by simp) (all_cons (gd_tup 1 _ (by simp) (all_cons (gd_eR 0 _) (all_cons (gd_eR 0 _) all_nil))) (all_cons (gd_tup 1 _ (by simp) (all_cons (gd_eR 0 _) (all_cons (gd_eR 0 _) all_nil))) all_nil)))
    generalize eR (guaR w a b).1 = d1 at *
    generalize eR (guaR w a b).2 = d2 at *
    have lets := h3 w
    obtain ⟨e, he, t6, t7, t8, rfl, g6, g7, g8⟩ := forL_inv (g := gTup 2 (gsCons (gN 6) (gsCons (gN 7) gsNil))) (b := k__law_guards_right_l1 rh sa le) (I := fun e => ∃ t6 t7 t8, e = [.val (eR a), .val (eR b), .val dp, .val (.str w.s), .val (.tuple [d1, d2]), .val (.tuple [d1, d2]), t6, t7, t8] ∧ Fr t6 ∧ Fr t7 ∧ Fr t8)
      (ps.map fun p => .tuple [.int p.1, .int p.2]) [.val (eR a), .val (eR b), .val dp, .val (.str w.s), .val (.tuple [d1, d2]), .val (.tuple [d1, d2]), s6, s7, s8] ⟨s6, s7, s8, rfl, f6, f7, f8⟩ (by
        rintro d hd e ⟨t6, t7, t8, rfl, g6, g7, g8⟩
        obtain ⟨p, hp', rfl⟩ := List.mem_map.mp hd
        obtain ⟨u, v, y1, y2, hh⟩ := L p hp'
        have y3 := lets p.1 p.2
        have n6 : isPar t6 = false := g6
        have n7 : isPar t7 = false := g7
        have n8 : isPar t8 = false := g8
        refine ⟨[.val (eR a), .val (eR b), .val dp, .val (.str w.s), .val (.tuple [d1, d2]), .val (.tuple [d1, d2]), .val (.int p.1), .val (.int p.2), t8], [.val (eR a), .val (eR b), .val dp, .val (.str w.s), .val (.tuple [d1, d2]), .val (.tuple [d1, d2]), .val (.int p.1), .val (.int p.2), .val (.tuple [.bool u, .bool v])], by simp! only [n6, n7], ?_, _, _, _, rfl, rfl, rfl, rfl⟩
        generalize eR a = da at *
        generalize eR b = db at *
        generalize PyData.str w.s = ws at *
        cases q : letsB w p.1 p.2 with
        | false =>
          rw [q] at y3
          simp! only [k__law_guards_right_l1, y1, y2, y3, n8]
        | true =>
          rw [q] at y3
          obtain ⟨rfl, rfl⟩ := hh q
          simp! only [k__law_guards_right_l1, y1, y2, y3, n8, sT])
    refine ⟨.val (.tuple [d1, d2]), .val (.tuple [d1, d2]), t6, t7, t8, rfl, rfl, g6, g7, g8, by simp! only [n3], ?_⟩
    unfold k__law_guards_right_l2
    refine seq_nx (e1 := [.val (eR a), .val (eR b), .val dp, .val (.str w.s), .val (.tuple [d1, d2]), s5, s6, s7, s8]) (by
      generalize eR a = da at *
      generalize eR b = db at *
      generalize PyData.str w.s = ws at *
      simp! only [e2, n4]) ?_
    refine seq_nx (e1 := [.val (eR a), .val (eR b), .val dp, .val (.str w.s), .val (.tuple [d1, d2]), .val (.tuple [d1, d2]), s6, s7, s8]) (by
      generalize eR a = da at *
      generalize eR b = db at *
      generalize PyData.str w.s = ws at *
      simp! only [e1, n5]) ?_
    refine seq_nx (e1 := [.val (eR a), .val (eR b), .val dp, .val (.str w.s), .val (.tuple [d1, d2]), .val (.tuple [d1, d2]), s6, s7, s8]) (by
      generalize eR a = da at *
      generalize eR b = db at *
      generalize PyData.str w.s = ws at *
      simp! only [e1, s]) ?_
    refine for_nx (ds := ps.map fun p => .tuple [.int p.1, .int p.2]) (e1 := [.val (eR a), .val (eR b), .val dp, .val (.str w.s), .val (.tuple [d1, d2]), .val (.tuple [d1, d2]), s6, s7, s8]) ?_ he
    rw [← hdp]
    simp! only [x_C]
  obtain ⟨a4, a5, a6, a7, a8, p4, p5, p6, p7, p8, x1, x2⟩ := row .lt .no .no .no .no .no .no rfl rfl rfl rfl rfl rfl
  obtain ⟨b4, b5, b6, b7, b8, q4, q5, q6, q7, q8, x3, x4⟩ := row .le (.val (.str Wd4.lt.s)) a4 a5 a6 a7 a8 rfl p4 p5 p6 p7 p8
  obtain ⟨c4, c5, c6, c7, c8, r4, r5, r6, r7, r8, x5, x6⟩ := row .eq (.val (.str Wd4.le.s)) b4 b5 b6 b7 b8 rfl q4 q5 q6 q7 q8
  obtain ⟨e4, e5, e6, e7, e8, -, -, -, -, -, x7, x8⟩ := row .ne (.val (.str Wd4.eq.s)) c4 c5 c6 c7 c8 rfl r4 r5 r6 r7 r8
  have loop : forL (gN 3) (k__law_guards_right_l2 rh rg sa le lg) [.str Wd4.lt.s, .str Wd4.le.s, .str Wd4.eq.s, .str Wd4.ne.s] [.val (eR a), .val (eR b), .val dp, .no, .no, .no, .no, .no, .no] = some (.nx, [.val (eR a), .val (eR b), .val dp, .val (.str Wd4.ne.s), e4, e5, e6, e7, e8]) := by
    simp only [x_for1, x_for0, x1, x2, x3, x4, x5, x6, x7, x8]
  refine fn_rt (b := k__law_guards_right_b rh rg sa le lg) (e := [.val (eR a), .val (eR b), .val dp, .val (.str Wd4.ne.s), e4, e5, e6, e7, e8]) ?_ rfl
  unfold k__law_guards_right_b
  refine seq_nx (for_nx (ds := [.str Wd4.lt.s, .str Wd4.le.s, .str Wd4.eq.s, .str Wd4.ne.s]) (e1 := [.val (eR a), .val (eR b), .val dp, .no, .no, .no, .no, .no, .no]) ?_ loop) ?_
  · generalize eR a = da at *
    generalize eR b = db at *
    simp! only [Wd4.s]
  · simp! only [x_C]
theorem gAll_trueZ {ds : List D} : gAll [.list (ds.map fun _ => .bool true)] = some (.bool true) := gAll_true fun d hd => by
  obtain ⟨_, _, rfl⟩ := List.mem_map.mp hd
  rfl
/-! ### what is held -/
abbrev HeldQ (f : Fn) : Prop := ∀ (a b : RR) (x y : Int), okR a = true → okR b = true → szR (2 ^ 200) b → hasR a x = true → hasR b y = true → -(2 ^ 200) ≤ y ∧ y ≤ 2 ^ 200 → f [.val (eR a), .val (eR b), .val (.int x), .val (.int y)] = some (.val (.bool true), [])
theorem k32_held_ok {rh rq rm sa : Fn} (h0 : LeftF rh) (h1 : QuoF rq) (h2 : OpRF modR rm) (hs : SameOk 2 sa) : HeldQ (k__law_held_right_v4 rh rq rm sa) := fun a b x y ha hb zb hx hy by_ => by
  have e1 := h1 a b ha hb (okW_of zb)
  have e2 := h2 a b ha hb
  have s := hs (.tuple [.bool true, .bool true]) rfl
  by_cases y0 : y = 0
  · subst y0
    generalize eR a = da at *
    generalize eR b = db at *
    simp! only [k__law_held_right_v4, k__law_held_right_v4_b]
  have t1 := h0 _ (x.fdiv y) (okR_quo ha hb)
  have t2 := h0 _ (x.fmod y) (okR_mod ha hb)
  rw [rhas_quo hx hy y0] at t1
  rw [rhas_mod hx hy y0] at t2
  have l : y.natAbs.log2 < 9000 := Nat.lt_of_le_of_lt (log2_small (k := 201) (by omega)) (by decide)
  generalize eR (quoR a b) = d1 at *
  generalize eR (modR a b) = d2 at *
  generalize eR a = da at *
  generalize eR b = db at *
  simp! only [k__law_held_right_v4, k__law_held_right_v4_b, y0, e1, e2, t1, t2, q_fdivA y0 l, q_modA y0, s]
abbrev WrpQ (f : Fn) : Prop := ∀ (a : RR) (k : Nat) (ns : List Int), okR a = true → 1 ≤ k ∧ k ≤ 16 → ns.length ≤ 1000 → (∀ x ∈ ns, hasR a x = true) → f [.val (eR a), .val (.int k), .val (.list (ns.map PyData.int))] = some (.val (.bool true), [])
theorem k32_wrapped_ok {rh rm rw_ sa le : Fn} (h0 : LeftF rh) (h1 : OpRF modR rm) (h2 : WrpF rw_) (hs : SameOk 2 sa) (l1 : ModRF le) : WrpQ (k__law_wrapped_right_v2 rh rm rw_ sa le) := fun a k ns ha hk hl hn => by
  have sT := hs (.bool true) rfl
  have oP : okR (some ((2 : Int) ^ k, 0)) = true := ok_of (.inl rfl)
  have P0 : (0 : Int) < 2 ^ k := Int.pow_pos (by decide)
  have Pb : (2 : Int) ^ k ≤ 2 ^ 16 := by
    have : (2 : Nat) ^ k ≤ 2 ^ 16 := Nat.pow_le_pow_right (by decide) hk.2
    have := Int.ofNat_le.mpr this
    simpa using this
  have zP : szR (2 ^ 200) (some ((2 : Int) ^ k, 0)) := by
    show -(2 ^ 200) ≤ (2 : Int) ^ k ∧ (2 : Int) ^ k ≤ 2 ^ 200
    have : (2 : Int) ^ 16 ≤ 2 ^ 200 := by decide
    omega
  have e1 := h2 a k ha hk
  have e2 := l1 a _ ha oP zP
  have e3 := h1 a _ ha oP
  have s := hs (.tuple [eR (modR a (some (2 ^ k, 0))), eR (modR a (some (2 ^ k, 0))), eR (modR a (some (2 ^ k, 0)))]) (gd_tup 1 _ (by simp) (all_cons (gd_eR 0 _) (all_cons (gd_eR 0 _) (all_cons (gd_eR 0 _) all_nil))))
  have om := okR_mod ha oP
  have held : ∀ x ∈ ns, rh [.val (eR (modR a (some (2 ^ k, 0)))), .val (.int (x % 2 ^ k))] = some (.val (.bool true), []) := fun x hx => by
    have t := h0 _ (x % 2 ^ k) om
    have m := rhas_mod (b := some ((2 : Int) ^ k, 0)) (y := 2 ^ k) (hn x hx) (by rw [has_some, Int.sub_self]; exact Int.dvd_refl 0) (by omega)
    rw [Int.fmod_eq_emod_of_nonneg _ (Int.le_of_lt P0)] at m
    rw [m] at t
    exact t
  have hlen : (rangeD 0 ((k : Int) - 0).toNat).length = k := by unfold rangeD; rw [List.length_map, List.length_range]; omega
  obtain ⟨e, he, hI⟩ := forL_cnt (g := gN 4) (b := k__law_wrapped_right_v2_l1)
    (I := fun i e => ∃ s4, e = [.val (eR a), .val (.int k), .val (.list (ns.map PyData.int)), .val (.int (2 ^ i)), s4, .no, .no, .no] ∧ Fr s4)
    (rangeD 0 ((k : Int) - 0).toNat) 0 [.val (eR a), .val (.int k), .val (.list (ns.map PyData.int)), .val (.int 1), .no, .no, .no, .no] ⟨.no, by simp, rfl⟩ (by
      rintro d hd i e hi ⟨s4, rfl, f4⟩
      rw [hlen, Nat.zero_add] at hi
      have n4 : isPar s4 = false := f4
      have pi : (0 : Int) < 2 ^ i := Int.pow_pos (by decide)
      have pb : (2 : Int) ^ i ≤ 2 ^ 16 := by
        have : (2 : Nat) ^ i ≤ 2 ^ 16 := Nat.pow_le_pow_right (by decide) (by omega)
        have := Int.ofNat_le.mpr this
        simpa using this
      have mo : mulOk ((2 : Int) ^ i) 2 = true := mulOk_lt (a := 20) (b := 20) (by omega) (by decide) (by decide)
      refine ⟨[.val (eR a), .val (.int k), .val (.list (ns.map PyData.int)), .val (.int (2 ^ i)), .val d, .no, .no, .no], [.val (eR a), .val (.int k), .val (.list (ns.map PyData.int)), .val (.int (2 ^ (i + 1))), .val d, .no, .no, .no], by simp! only [n4], ?_, .val d, rfl, rfl⟩
      rw [Int.pow_succ]
      generalize (2 : Int) ^ i = P at *
      simp! only [k__law_wrapped_right_v2_l1, q_mulI mo])
  rw [hlen, Nat.zero_add] at hI
  obtain ⟨s4, rfl, f4⟩ := hI
  generalize hdr : rangeD 0 ((k : Int) - 0).toNat = dr at *
  rw [eR_s] at e2 e3
  generalize eR (modR a (some (2 ^ k, 0))) = dm at *
  have hc : compL (gN 7) (fun env => some (true, env)) (k__law_wrapped_right_v2_e1 rh sa) [7] (ns.map PyData.int) [] [.val (eR a), .val (.int k), .val (.list (ns.map PyData.int)), .val (.int (2 ^ k)), s4, .val dm, .val dm, .no] =
      some ([] ++ (ns.map PyData.int).map (fun _ => .bool true), [.val (eR a), .val (.int k), .val (.list (ns.map PyData.int)), .val (.int (2 ^ k)), s4, .val dm, .val dm, .no]) := compL_all _ [] (by rw [List.length_nil, List.length_map, q_sz]; omega) fun d hd => by
    obtain ⟨x, hx, rfl⟩ := List.mem_map.mp hd
    have t := held x hx
    refine ⟨[.val (eR a), .val (.int k), .val (.list (ns.map PyData.int)), .val (.int (2 ^ k)), s4, .val dm, .val dm, .val (.int x)], [.val (eR a), .val (.int k), .val (.list (ns.map PyData.int)), .val (.int (2 ^ k)), s4, .val dm, .val dm, .val (.int x)], [.val (eR a), .val (.int k), .val (.list (ns.map PyData.int)), .val (.int (2 ^ k)), s4, .val dm, .val dm, .val (.int x)], by simp! only [x_C], rfl, ?_, by simp! only [x_C]⟩
    generalize (2 : Int) ^ k = P at *
    simp! only [k__law_wrapped_right_v2_e1, q_modI P0, t, sT]
  have ga := gAll_trueZ (ds := ns.map PyData.int)
  rw [List.nil_append] at hc
  generalize (ns.map PyData.int) = dn at *
  generalize (2 : Int) ^ k = P at *
  generalize eR a = da at *
  refine fn_rt (b := k__law_wrapped_right_v2_b rh rm rw_ sa le) (e := [.val da, .val (.int k), .val (.list dn), .val (.int P), s4, .val dm, .val dm, .no]) ?_ rfl
  unfold k__law_wrapped_right_v2_b
  refine seq_nx (e1 := [.val da, .val (.int k), .val (.list dn), .val (.int 1), .no, .no, .no, .no]) (by simp! only [x_C]) ?_
  refine seq_nx (for_nx (ds := dr) (e1 := [.val da, .val (.int k), .val (.list dn), .val (.int 1), .no, .no, .no, .no]) (by rw [← hdr]; simp! only [x_C]) he) ?_
  refine seq_nx (e1 := [.val da, .val (.int k), .val (.list dn), .val (.int P), s4, .val dm, .val dm, .no]) (by simp! only [e1, e2]) ?_
  refine seq_nx (e1 := [.val da, .val (.int k), .val (.list dn), .val (.int P), s4, .val dm, .val dm, .no]) (by simp! only [e1, e3, q_three, s]) ?_
  simp! only [hc, ga]
abbrev LBs (f : Fn) : Prop := ∀ (b : Nat) (ds : List D) (a : RR), Src (b + 40) ds → okR a = true → szR (2 ^ 111) a → ∃ (c : RR) (ds' : List D), f [.own ds, .val (eR a)] = some (.val (eR c), [ds']) ∧ okR c = true ∧ szR (2 ^ 113) c ∧ Src b ds'
theorem k32_beside_ok {ta pa rn co : Fn} (T : Tk ta) (P : Pa pa) (Q : Rnr 16 rn) (C : CommF co) : LBs (k__law_beside_v2 ta pa rn co) := fun b ds a hs ha za => by
  obtain ⟨v, d1, e1, p1, q1, s1⟩ := T (b + 30) ds 2 (hs.mono (by omega)) (by decide) (by decide)
  have near : ∀ d, Src (b + 20) d → ∃ (c : RR) (ds' : List D), rn [.own d, .val (eR a)] = some (.val (eR c), [ds']) ∧ okR c = true ∧ szR (2 ^ 113) c ∧ Src b ds' := fun d hd => by
    obtain ⟨c, d2, e2, oc, zc, s2⟩ := Q b d a (2 ^ 111) (hd.mono (by omega)) ha za (by decide)
    exact ⟨c, d2, e2, oc, zc.mono (by decide), s2⟩
  rcases a with _ | ⟨r, m⟩
  · obtain ⟨c, d2, e2, oc, zc, s2⟩ := near ds (hs.mono (by omega))
    refine ⟨c, d2, ?_, oc, zc, s2⟩
    rw [eR_n] at e2 ⊢
    generalize eR c = dc at *
    simp! only [k__law_beside_v2, k__law_beside_v2_b, e2]
  · by_cases c0 : v = 0
    · obtain ⟨c, d2, e2, oc, zc, s2⟩ := near d1 (s1.mono (by omega))
      refine ⟨c, d2, ?_, oc, zc, s2⟩
      rw [eR_s] at e2 ⊢
      generalize eR c = dc at *
      simp! only [k__law_beside_v2, k__law_beside_v2_b, e1, c0, e2]
    · obtain ⟨p, d2, e2, pp, pd, pl, s2⟩ := P (b + 10) d1 (s1.mono (by omega))
      obtain ⟨u, d3, e3, p3, q3, s3⟩ := T b d2 2 (s2.mono (by omega)) (by decide) (by decide)
      have e4 := C m p (by omega)
      have gl : Nat.gcd m.natAbs p.natAbs ≤ 20160 := Nat.le_trans (Nat.le_of_dvd (by omega) (Nat.gcd_dvd_right _ _)) (by omega)
      generalize Nat.gcd m.natAbs p.natAbs = G at *
      by_cases c1 : u = 0
      · refine ⟨some ((G : Int), 0), d3, ?_, ok_of (.inl rfl), ?_, s3⟩
        · simp! only [k__law_beside_v2, k__law_beside_v2_b, eR_s, e1, c0, e2, e3, e4, c1]
        · show -(2 ^ 113) ≤ (G : Int) ∧ (G : Int) ≤ 2 ^ 113
          omega
      · refine ⟨some (0 - (G : Int), 0), d3, ?_, ok_of (.inl rfl), ?_, s3⟩
        · simp! only [k__law_beside_v2, k__law_beside_v2_b, eR_s, e1, c0, e2, e3, e4, c1]
        · show -(2 ^ 113) ≤ 0 - (G : Int) ∧ 0 - (G : Int) ≤ 2 ^ 113
          omega
end
end Ev
namespace Ev
local macro_rules
  | `(tactic| simp! only [$as,*]) => `(tactic| simp only [↓x_var, ↓x_C, ↓x_op, ↓x_fz, ↓x_rV, ↓x_B, ↓x_chain, ↓x_tru, ↓x_notT, ↓x_andT, ↓x_orT, ↓x_and, ↓x_or, ↓x_not, ↓x_neg, ↓x_if, ↓x_aNil, ↓x_aVal, ↓x_aSlot, ↓x_aTmp, ↓x_aR, ↓x_call, ↓x_callK, ↓x_dNil, ↓x_dCons, ↓x_tup, ↓x_lst, ↓x_itemN, ↓x_ownItem, ↓x_lenN, ↓x_blt, ↓x_isi, ↓x_list, ↓x_rgL1, ↓x_rgL2, ↓x_iSeq, ↓x_iZip, ↓x_range1, ↓x_range2, ↓x_addR, ↓x_slice, ↓x_partN, ↓x_partS, ↓x_comp, ↓x_skip, ↓x_stuck, ↓x_break, ↓x_cont, ↓x_seq, ↓x_sIf, ↓x_sExpr, ↓x_ret, ↓x_retN, ↓x_move, ↓x_setRv, ↓x_setRf, ↓x_setRm, ↓x_set, ↓x_gN, ↓x_gsNil, ↓x_gsCons, ↓x_gTup, ↓x_gIx, ↓x_setAt, ↓x_asg, ↓x_par, ↓x_sm0, ↓x_smV, ↓x_smF, ↓x_app, ↓x_for, ↓x_for0, ↓x_for1, ↓x_comp0, ↓x_comp1, ↓x_fn, ↓x_iEnum, ↓x_range3, ↓x_comp2, ↓x_compN0, ↓x_compN1, ↓x_item2, ↓x_item2M, ↓x_gIx2, ↓x_compM, ↓x_callB, ↓x_pop, ↓x_dStar, ↓x_seeAt, ↓x_see, ↓x_seeR, ↓x_rev, ↓x_idx, q_addI, q_addT, q_addL, q_subI, q_ltI, q_leI, q_gtI, q_geI, q_isN, q_isNotN, q_eqI, q_neI, q_eqB, q_eqT0, q_eqT1, q_neT0, q_neT1, q_eqL0, q_eqL1, q_neL0, q_neL1, q_int, q_abs, q_min2, q_max2, q_at0, q_at1, q_at2, q_at3, q_ix0, q_ix1, q_ix2, q_sz, q_iteS, q_iteT, q_iteR, q_iteV, q_iteBB, q_iteII, q_iteAnd, q_iteOr, q_iteNot, q_iteCon, q_pa0, q_pa1, q_pa2, q_pa3, q_pa4, q_ow4, q_ma0, q_ma1, q_ma2, q_ma3, q_ma4, q_ow0, q_ow1, q_ow2, q_ow3, q_c0, q_c1, q_c2, q_c3, q_c4, q_c5, q_c6, q_c7, q_c8, q_c9, q_c10, q_c11, q_c12, q_all0, q_all1, q_all2, q_all3, q_inN2, q_inN0, q_02a, q_02b, q_repr, q_ol1, q_ol2, q_ol3, q_ll1, q_ll2, q_ll3, q_scB, List.getElem?_cons_zero, List.getElem?_cons_succ, List.set_cons_zero, List.set_cons_succ, wipeE, initE, outsOf, toAv, toAvB, scal, slotsOf, putOuts, natNodup, List.map_cons, List.map_nil, List.cons_append, List.nil_append, List.append_nil, List.replicate, List.length_cons, List.length_nil, isNone, isiD, seqD, gItem, truD, zipOf, zipD, pick, List.contains_nil, List.contains_cons, eq_self, List.cons_ne_nil, if_true, if_false, Bool.false_eq_true, Bool.true_eq_false, Bool.not_true, Bool.not_false, reduceIte, decide_true, decide_false, Nat.reduceAdd, Nat.reduceSub, Nat.zero_add, Nat.add_zero, and_self, true_and, and_true, Bool.and_true, Bool.true_and, Bool.or_false, Bool.false_or, Bool.or_true, Bool.true_or, Bool.and_false, Bool.false_and, Bool.or_self, Bool.and_self, Nat.sub_self, Option.map_some, Option.map_none, Nat.reduceBEq, Bool.not_eq_true, beq_self_eq_true, Nat.reduceLeDiff, Nat.reduceLT, Nat.reduceEqDiff, List.filterMap_cons, List.filterMap_nil, $as,*])
open PySem PySem.Spec PyProof.Rows L2
section
def prI (p : Int × Int) : D := .tuple [.int p.1, .int p.2]
def pairOk (a c : RR) (ps : List (Int × Int)) : Prop := ∀ p ∈ ps, (hasR a p.1 = true ∧ hasR c p.2 = true) ∧ (-(2 ^ 200) ≤ p.1 ∧ p.1 ≤ 2 ^ 200) ∧ (-(2 ^ 200) ≤ p.2 ∧ p.2 ≤ 2 ^ 200)
theorem pairOk_app {a c : RR} {ps : List (Int × Int)} {x y : Int} (h : pairOk a c ps) (hx : hasR a x = true) (hy : hasR c y = true) (bx : -(2 ^ 200) ≤ x ∧ x ≤ 2 ^ 200) (bY : -(2 ^ 200) ≤ y ∧ y ≤ 2 ^ 200) : pairOk a c (ps ++ [(x, y)]) := fun p hp => by
  rcases List.mem_append.mp hp with hp | hp
  · exact h p hp
  · rw [List.mem_singleton.mp hp]; exact ⟨⟨hx, hy⟩, bx, bY⟩
theorem k32_right_ok {ta re so ha_ be two gu he wr : Fn} (T : Tk ta) (R : Rst 8 re) (S : SomeF so) (H : LeftF ha_) (B : LBs be) (W : TwoQ two) (G : GuaQ gu) (L : HeldQ he) (X : WrpQ wr) : Rg (k__law_right_v10 ta re so ha_ be two gu he wr) := by
  intro ds h
  obtain ⟨a, d1, e1, oa, za, s1⟩ := R 99990000 ds (h.mono (by decide))
  obtain ⟨v, d2, e2, p2, q2, s2⟩ := T 99980000 d1 16 (s1.mono (by decide)) (by decide) (by decide)
  obtain ⟨k, hk⟩ : ∃ k : Nat, 1 + v = k := ⟨(1 + v).toNat, by omega⟩
  obtain ⟨c, d3, e3, oc, zc, s3⟩ := B 99970000 d2 a (s2.mono (by decide)) oa za
  have za3 : szR (2 ^ 113) a := za.mono (by decide)
  have za2 : szR (2 ^ 200) a := za.mono (by decide)
  have zc2 : szR (2 ^ 200) c := zc.mono (by decide)
  have st : ∃ ps d4 s5, sIf (eAndT (eB (eOp gNe (eVar 2) (eTup dNil))) (eB (eOp gNe (eVar 1) (eTup dNil)))) (sSeq (sFor (iRange1 (eC (.int 4))) (gN 5) (k__law_right_v10_l1 so)) (sSeq (sApp 4 (eTup (dCons (eItemN 2 (eC (.int 0))) (dCons (eItemN 1 (eC (.int 0))) dNil)))) (sApp 4 (eIf (eTru (eFz (eCall ha_ (aVal (eVar 1) (aVal (eItemN 2 (eC (.int 0))) aNil))))) (eTup (dCons (eItemN 2 (eC (.int 0))) (dCons (eItemN 2 (eC (.int 0))) dNil))) (eTup (dCons (eOp gSub (eItemN 2 (eC (.int 0))) (eItemN 2 (eC (.int 1)))) (dCons (eOp gAdd (eItemN 1 (eC (.int 0))) (eItemN 1 (eC (.int 1)))) dNil))))))) sSkip
      [.par d3, .val (eR c), .val (eR a), .val (.int k), .own [], .no, .no, .no] = some (.nx, [.par d4, .val (eR c), .val (eR a), .val (.int k), .own (ps.map prI), s5, .no, .no]) ∧ Fr s5 ∧ pairOk a c ps ∧ ps.length ≤ 6 := by
    rcases a with _ | ⟨r, m⟩
    · refine ⟨[], d3, .no, ?_, rfl, (fun _ h => by cases h), by simp⟩
      generalize eR c = dc at *
      simp! only [eR_n, List.map_nil]
    rcases c with _ | ⟨s, n⟩
    · refine ⟨[], d3, .no, ?_, rfl, (fun _ h => by cases h), by simp⟩
      simp! only [eR_n, eR_s, List.map_nil]
    have pm := ok_nn oa
    have pn := ok_nn oc
    have z1 := za2.1
    have z2 := za2.2
    have z3 := zc2.1
    have z4 := zc2.2
    have y1 := za3.1
    have y2 := za3.2
    have y3 := zc.1
    have y4 := zc.2
    obtain ⟨e, hl, ps, d4, s5, rfl, f5, hp, hn, s4⟩ := forL_cnt (g := gN 5) (b := k__law_right_v10_l1 so)
      (I := fun i e => ∃ ps d4 s5, e = [.par d4, .val (eR (some (s, n))), .val (eR (some (r, m))), .val (.int k), .own (ps.map prI), s5, .no, .no] ∧ Fr s5 ∧ pairOk (some (r, m)) (some (s, n)) ps ∧ ps.length ≤ i ∧ Src (99960000 + 20 * (4 - i)) d4)
      [.int 0, .int 1, .int 2, .int 3] 0 [.par d3, .val (eR (some (s, n))), .val (eR (some (r, m))), .val (.int k), .own [], .no, .no, .no] ⟨[], d3, .no, rfl, rfl, (fun _ h => by cases h), Nat.le_refl _, s3.mono (by decide)⟩ (by
        rintro d hd i e hi ⟨ps, d4, s5, rfl, f5, hp, hn, s4⟩
        have n5 : isPar s5 = false := f5
        simp only [List.length_cons, List.length_nil] at hi
        obtain ⟨x, d5, e5, hx, bx1, bx2, s5'⟩ := S (99960000 + 20 * (4 - (i + 1)) + 10) d4 r m (s4.mono (by omega)) oa za3
        obtain ⟨y, d6, e6, hy, by1, by2, s6⟩ := S (99960000 + 20 * (4 - (i + 1))) d5 s n (s5'.mono (by omega)) oc zc
        have hlt : (ps.map prI).length < 16777216 := by rw [List.length_map]; omega
        refine ⟨[.par d4, .val (eR (some (s, n))), .val (eR (some (r, m))), .val (.int k), .own (ps.map prI), .val d, .no, .no], [.par d6, .val (eR (some (s, n))), .val (eR (some (r, m))), .val (.int k), .own ((ps ++ [(x, y)]).map prI), .val d, .no, .no], by simp! only [n5], ?_, ps ++ [(x, y)], d6, .val d, rfl, rfl, pairOk_app hp hx hy (by omega) (by omega), by rw [List.length_append, List.length_singleton]; omega, s6⟩
        rw [List.map_append, List.map_singleton]
        show _ = some (Fl.nx, [Sl.par d6, Sl.val (eR (some (s, n))), Sl.val (eR (some (r, m))), Sl.val (.int k), Sl.own (ps.map prI ++ [PyData.tuple [.int x, .int y]]), Sl.val d, Sl.no, Sl.no])
        generalize ps.map prI = dps at *
        generalize eR (some (s, n)) = dc at *
        generalize eR (some (r, m)) = da at *
        simp! only [k__law_right_v10_l1, e5, e6, appAt, q_sz, hlt])
    simp only [List.length_cons, List.length_nil] at hn
    have r4 : rangeD 0 (4 - 0 : Int).toNat = [.int 0, .int 1, .int 2, .int 3] := rfl
    have hlt : (ps.map prI).length < 16777216 := by rw [List.length_map]; omega
    have hlt2 : (ps.map prI ++ [PyData.tuple [.int r, .int s]]).length < 16777216 := by rw [List.length_append, List.length_map, List.length_singleton]; omega
    have hr : hasR (some (r, m)) r = true := by rw [has_some, Int.sub_self]; exact Int.dvd_zero m
    have hs : hasR (some (s, n)) s = true := by rw [has_some, Int.sub_self]; exact Int.dvd_zero n
    have hp1 := pairOk_app hp hr hs (by omega) (by omega)
    have h2 := H (some (s, n)) r oc
    have cond : eAndT (eB (eOp gNe (eVar 2) (eTup dNil))) (eB (eOp gNe (eVar 1) (eTup dNil))) [.par d3, .val (eR (some (s, n))), .val (eR (some (r, m))), .val (.int k), .own [], .no, .no, .no] = some (true, [.par d3, .val (eR (some (s, n))), .val (eR (some (r, m))), .val (.int k), .own [], .no, .no, .no]) := by
      simp! only [eR_s]
    have body : ∀ (x y : Int), (eIf (eTru (eFz (eCall ha_ (aVal (eVar 1) (aVal (eItemN 2 (eC (.int 0))) aNil))))) (eTup (dCons (eItemN 2 (eC (.int 0))) (dCons (eItemN 2 (eC (.int 0))) dNil))) (eTup (dCons (eOp gSub (eItemN 2 (eC (.int 0))) (eItemN 2 (eC (.int 1)))) (dCons (eOp gAdd (eItemN 1 (eC (.int 0))) (eItemN 1 (eC (.int 1)))) dNil)))) [.par d4, .val (eR (some (s, n))), .val (eR (some (r, m))), .val (.int k), .own (ps.map prI ++ [PyData.tuple [.int r, .int s]]), s5, .no, .no] =
        some (.tuple [.int x, .int y], [.par d4, .val (eR (some (s, n))), .val (eR (some (r, m))), .val (.int k), .own (ps.map prI ++ [PyData.tuple [.int r, .int s]]), s5, .no, .no]) →
        sIf (eAndT (eB (eOp gNe (eVar 2) (eTup dNil))) (eB (eOp gNe (eVar 1) (eTup dNil)))) (sSeq (sFor (iRange1 (eC (.int 4))) (gN 5) (k__law_right_v10_l1 so)) (sSeq (sApp 4 (eTup (dCons (eItemN 2 (eC (.int 0))) (dCons (eItemN 1 (eC (.int 0))) dNil)))) (sApp 4 (eIf (eTru (eFz (eCall ha_ (aVal (eVar 1) (aVal (eItemN 2 (eC (.int 0))) aNil))))) (eTup (dCons (eItemN 2 (eC (.int 0))) (dCons (eItemN 2 (eC (.int 0))) dNil))) (eTup (dCons (eOp gSub (eItemN 2 (eC (.int 0))) (eItemN 2 (eC (.int 1)))) (dCons (eOp gAdd (eItemN 1 (eC (.int 0))) (eItemN 1 (eC (.int 1)))) dNil))))))) sSkip
          [.par d3, .val (eR (some (s, n))), .val (eR (some (r, m))), .val (.int k), .own [], .no, .no, .no] = some (.nx, [.par d4, .val (eR (some (s, n))), .val (eR (some (r, m))), .val (.int k), .own (ps.map prI ++ [PyData.tuple [.int r, .int s]] ++ [.tuple [.int x, .int y]]), s5, .no, .no]) := fun x y hb => by
      refine if_t cond ?_
      refine seq_nx (for_nx (ds := [.int 0, .int 1, .int 2, .int 3]) (e1 := [.par d3, .val (eR (some (s, n))), .val (eR (some (r, m))), .val (.int k), .own [], .no, .no, .no]) (by simp! only [r4]) hl) ?_
      refine seq_nx (e1 := [.par d4, .val (eR (some (s, n))), .val (eR (some (r, m))), .val (.int k), .own (ps.map prI ++ [PyData.tuple [.int r, .int s]]), s5, .no, .no]) (by
        generalize ps.map prI = dps at *
        simp! only [eR_s, appAt, q_sz, hlt]) ?_
      generalize eIf (eTru (eFz (eCall ha_ (aVal (eVar 1) (aVal (eItemN 2 (eC (.int 0))) aNil))))) (eTup (dCons (eItemN 2 (eC (.int 0))) (dCons (eItemN 2 (eC (.int 0))) dNil))) (eTup (dCons (eOp gSub (eItemN 2 (eC (.int 0))) (eItemN 2 (eC (.int 1)))) (dCons (eOp gAdd (eItemN 1 (eC (.int 0))) (eItemN 1 (eC (.int 1)))) dNil))) = fx at *
      generalize ps.map prI ++ [PyData.tuple [.int r, .int s]] = dps at *
      simp! only [hb, appAt, q_sz, hlt2]
    cases qh : hasR (some (s, n)) r with
    | true =>
      rw [qh] at h2
      refine ⟨ps ++ [(r, s)] ++ [(r, r)], d4, s5, ?_, f5, pairOk_app hp1 hr qh (by omega) (by omega), by simp only [List.length_append, List.length_singleton]; omega⟩
      rw [List.map_append, List.map_append]
      refine body r r ?_
      generalize ps.map prI ++ [PyData.tuple [.int r, .int s]] = dps at *
      rw [eR_s] at h2
      simp! only [eR_s, h2]
    | false =>
      rw [qh] at h2
      refine ⟨ps ++ [(r, s)] ++ [(r - m, s + n)], d4, s5, ?_, f5, pairOk_app hp1 (by rw [has_some, show r - m - r = -m by omega]; exact Int.dvd_neg.mpr (Int.dvd_refl m)) (by rw [has_some, show s + n - s = n by omega]; exact Int.dvd_refl n) (by omega) (by omega), by simp only [List.length_append, List.length_singleton]; omega⟩
      rw [List.map_append, List.map_append]
      refine body (r - m) (s + n) ?_
      generalize ps.map prI ++ [PyData.tuple [.int r, .int s]] = dps at *
      rw [eR_s] at h2
      simp! only [eR_s, h2]
  obtain ⟨ps, d4, s5, st, f5, hp, hn⟩ := st
  have w1 := W a c oa oc za2 zc2
  have w2 := W c a oc oa zc2 za2
  have g1 := G a c ps oa oc fun p h => (hp p h).1
  have x1 := X a k (ps.map Prod.fst) oa (by omega) (by rw [List.length_map]; omega) (fun x hx => by
    obtain ⟨p, h, rfl⟩ := List.mem_map.mp hx
    exact (hp p h).1.1)
  rw [List.map_map] at x1
  have hs : (ps.map prI).length ≤ sizeLine := by rw [List.length_map, q_sz]; omega
  have hc1 : ∀ s1 : Sl, s1 = .val (eR c) → compL (gTup 2 (gsCons (gN 6) (gsCons (gN 7) gsNil))) (fun env => some (true, env)) (k__law_right_v10_e1 he) [6, 7] (ps.map prI) [] [.par d4, .val (eR c), .val (eR a), .val (.int k), .val (.list (ps.map prI)), s5, .no, .no] =
      some ([] ++ (ps.map prI).map (fun _ => .bool true), [.par d4, .val (eR c), .val (eR a), .val (.int k), .val (.list (ps.map prI)), s5, .no, .no]) := fun _ _ => compL_all _ [] (by rw [List.length_nil]; omega) fun d hd => by
    obtain ⟨p, h, rfl⟩ := List.mem_map.mp hd
    have t := L a c p.1 p.2 oa oc zc2 (hp p h).1.1 (hp p h).1.2 (hp p h).2.2
    generalize PyData.list (ps.map prI) = dps at *
    refine ⟨[.par d4, .val (eR c), .val (eR a), .val (.int k), .val dps, s5, .val (.int p.1), .val (.int p.2)], [.par d4, .val (eR c), .val (eR a), .val (.int k), .val dps, s5, .val (.int p.1), .val (.int p.2)], [.par d4, .val (eR c), .val (eR a), .val (.int k), .val dps, s5, .val (.int p.1), .val (.int p.2)], by simp! only [prI], rfl, ?_, by simp! only [x_C]⟩
    generalize eR c = dc at *
    generalize eR a = da at *
    simp! only [k__law_right_v10_e1, t]
  have hc1 := hc1 _ rfl
  have hc2 : compL (gTup 2 (gsCons (gN 6) (gsCons (gN 7) gsNil))) (fun env => some (true, env)) (k__law_right_v10_e2 he) [6, 7] (ps.map prI) [] [.par d4, .val (eR c), .val (eR a), .val (.int k), .val (.list (ps.map prI)), s5, .no, .no] =
      some ([] ++ (ps.map prI).map (fun _ => .bool true), [.par d4, .val (eR c), .val (eR a), .val (.int k), .val (.list (ps.map prI)), s5, .no, .no]) := compL_all _ [] (by rw [List.length_nil]; omega) fun d hd => by
    obtain ⟨p, h, rfl⟩ := List.mem_map.mp hd
    have t := L c a p.2 p.1 oc oa za2 (hp p h).1.2 (hp p h).1.1 (hp p h).2.1
    generalize PyData.list (ps.map prI) = dps at *
    refine ⟨[.par d4, .val (eR c), .val (eR a), .val (.int k), .val dps, s5, .val (.int p.1), .val (.int p.2)], [.par d4, .val (eR c), .val (eR a), .val (.int k), .val dps, s5, .val (.int p.1), .val (.int p.2)], [.par d4, .val (eR c), .val (eR a), .val (.int k), .val dps, s5, .val (.int p.1), .val (.int p.2)], by simp! only [prI], rfl, ?_, by simp! only [x_C]⟩
    generalize eR c = dc at *
    generalize eR a = da at *
    simp! only [k__law_right_v10_e2, t]
  have hc3 : compL (gTup 2 (gsCons (gN 6) (gsCons (gN 7) gsNil))) (fun env => some (true, env)) (eVar 6) [6, 7] (ps.map prI) [] [.par d4, .val (eR c), .val (eR a), .val (.int k), .val (.list (ps.map prI)), s5, .no, .no] =
      some ([] ++ (ps.map prI).map (fun d => match d with | .tuple (x :: _) => x | _ => .none), [.par d4, .val (eR c), .val (eR a), .val (.int k), .val (.list (ps.map prI)), s5, .no, .no]) := compL_all _ [] (by rw [List.length_nil]; omega) fun d hd => by
    obtain ⟨p, h, rfl⟩ := List.mem_map.mp hd
    generalize PyData.list (ps.map prI) = dps at *
    exact ⟨[.par d4, .val (eR c), .val (eR a), .val (.int k), .val dps, s5, .val (.int p.1), .val (.int p.2)], [.par d4, .val (eR c), .val (eR a), .val (.int k), .val dps, s5, .val (.int p.1), .val (.int p.2)], [.par d4, .val (eR c), .val (eR a), .val (.int k), .val dps, s5, .val (.int p.1), .val (.int p.2)], by simp! only [prI], rfl, by simp! only [prI], by simp! only [x_C]⟩
  rw [List.map_map] at hc3
  have ga := gAll_trueZ (ds := ps.map prI)
  rw [List.nil_append] at hc1 hc2 hc3
  have x1 : wr [.val (eR a), .val (.int k), .val (.list (ps.map ((fun d => match d with | .tuple (x :: _) => x | _ => .none) ∘ prI)))] = some (.val (.bool true), []) := x1
  have g1 : gu [.val (eR a), .val (eR c), .val (.list (ps.map prI))] = some (.val (.bool true), []) := g1
  generalize ps.map ((fun d => match d with | .tuple (x :: _) => x | _ => .none) ∘ prI) = dx at *
  generalize (ps.map prI).map (fun _ => PyData.bool true) = db at *
  generalize ps.map prI = dps at *
  generalize eR c = dc at *
  generalize eR a = da at *
  refine rg_of (n := 8) (b := k__law_right_v10_b ta re so ha_ be two gu he wr) ?_
  unfold k__law_right_v10_b
  refine runT_nx (e1 := [.par d2, .no, .val da, .val (.int k), .own [], .no, .no, .no]) (by simp! only [e1, e2, hk]) ?_
  refine runT_nx (e1 := [.par d3, .val dc, .val da, .val (.int k), .own [], .no, .no, .no]) (by simp! only [e3]) ?_
  refine runT_nx st ?_
  refine runT_nx (e1 := [.par d4, .val dc, .val da, .val (.int k), .val (.list dps), s5, .no, .no]) (by simp! only [w1, w2, g1]) ?_
  refine runT_nx (e1 := [.par d4, .val dc, .val da, .val (.int k), .val (.list dps), s5, .no, .no]) (by simp! only [hc1, ga]) ?_
  refine runT_nx (e1 := [.par d4, .val dc, .val da, .val (.int k), .val (.list dps), s5, .no, .no]) (by simp! only [hc2, ga]) ?_
  exact ⟨[.par d4, .val dc, .val da, .val (.int k), .val (.list dps), s5, .no, .no], d4, by simp! only [hc3, x1], rfl⟩
end
end Ev
namespace K32
open PySem PySem.Spec PyProof.Rows L2 Ev
def top (i : Nat) : Stmt := PySem.Challenge.pw_soundlooks_k32_whole_quotients_modulo_gu.main.body.getD i (.Pass ⟨0, 0, 0, 0⟩)
def r0 : Fd := ⟨"is_whole", ["value"], ["value"], [false], top 8⟩
def r1 : Fd := ⟨"is_between", ["value", "low", "high"], ["value", "low", "high"], [false, false, false], top 9⟩
def r2 : Fd := ⟨"are_wholes", ["value", "many"], ["value", "many", "each"], [false, false], top 10⟩
def r3 : Fd := ⟨"is_rested", ["value"], ["value"], [false], top 16⟩
def r4 : Fd := ⟨"rest_by", ["number", "many"], ["number", "many"], [false, false], top 17⟩
def r5 : Fd := ⟨"is_multiple", ["number", "many"], ["number", "many"], [false, false], top 18⟩
def r6 : Fd := ⟨"is_left", ["rest", "number"], ["rest", "number"], [false, false], top 19⟩
def r7 : Fd := ⟨"number_with", ["rest", "other"], ["rest", "other", "found"], [false, false], top 20⟩
def r8 : Fd := ⟨"met_rest", ["rest", "other"], ["rest", "other"], [false, false], top 21⟩
def r9 : Fd := ⟨"is_only_nought", ["rest"], ["rest"], [false], top 22⟩
def r10 : Fd := ⟨"quotient_rest", ["rest", "other"], ["rest", "other"], [false, false], top 23⟩
def r11 : Fd := ⟨"modulo_rest", ["rest", "other"], ["rest", "other"], [false, false], top 24⟩
def r12 : Fd := ⟨"wrapped_rest", ["rest", "width"], ["rest", "width"], [false, false], top 25⟩
def r13 : Fd := ⟨"guarded_rests", ["guard", "rest", "other"], ["guard", "rest", "other", "is_one"], [false, false, false], top 26⟩
def r14 : Fd := ⟨"check_rest", ["value"], ["value"], [false], top 29⟩
def r15 : Fd := ⟨"check_rests", ["rest", "other"], ["rest", "other"], [false, false], top 30⟩
def r16 : Fd := ⟨"check_whole", ["value"], ["value"], [false], top 31⟩
def r17 : Fd := ⟨"check_width", ["value"], ["value"], [false], top 32⟩
def r18 : Fd := ⟨"check_guard", ["value"], ["value"], [false], top 33⟩
def r19 : Fd := ⟨"rest_holds", ["rest", "number"], ["rest", "number"], [false, false], top 35⟩
def r20 : Fd := ⟨"rest_quotient", ["rest", "other"], ["rest", "other"], [false, false], top 36⟩
def r21 : Fd := ⟨"rest_modulo", ["rest", "other"], ["rest", "other"], [false, false], top 37⟩
def r22 : Fd := ⟨"rest_wrapped", ["rest", "width"], ["rest", "width"], [false, false], top 38⟩
def r23 : Fd := ⟨"rest_guarded", ["guard", "rest", "other"], ["guard", "rest", "other"], [false, false, false], top 39⟩
def r24 : Fd := ⟨"_law_source", ["_law_script", "_law_turn"], ["_law_script", "_law_turn", "_law_mixed", "_law_cell", "_law_own"], [false, false], top 41⟩
def r25 : Fd := ⟨"_law_take", ["_law_source_here", "_law_many"], ["_law_source_here", "_law_many", "_law_mixed", "_law_figure"], [true, false], top 42⟩
def r26 : Fd := ⟨"_law_pick", ["_law_source_here", "_law_some"], ["_law_source_here", "_law_some"], [true, false], top 43⟩
def r27 : Fd := ⟨"_law_great", ["_law_source_here"], ["_law_source_here", "_law_got", "_law_turn"], [true], top 44⟩
def r28 : Fd := ⟨"_law_number", ["_law_source_here"], ["_law_source_here", "_law_branch", "_law_got"], [true], top 45⟩
def r29 : Fd := ⟨"_law_part", ["_law_source_here"], ["_law_source_here", "_law_twos", "_law_threes"], [true], top 46⟩
def r30 : Fd := ⟨"_law_rest", ["_law_source_here"], ["_law_source_here", "_law_branch", "_law_by"], [true], top 47⟩
def r31 : Fd := ⟨"_law_rest_near", ["_law_source_here", "_law_one"], ["_law_source_here", "_law_one", "_law_spot", "_law_by"], [true, false], top 48⟩
def r32 : Fd := ⟨"_law_rest_some", ["_law_source_here", "_law_one"], ["_law_source_here", "_law_one"], [true, false], top 49⟩
def r33 : Fd := ⟨"_law_is_whole", ["_law_thing"], ["_law_thing"], [false], top 50⟩
def r34 : Fd := ⟨"_law_same", ["_law_told", "_law_due"], ["_law_told", "_law_due", "_law_this", "_law_that"], [false, false], top 51⟩
def r35 : Fd := ⟨"_law_rest_has", ["_law_one", "_law_count"], ["_law_one", "_law_count"], [false, false], top 52⟩
def r36 : Fd := ⟨"_law_common", ["_law_far", "_law_near"], ["_law_far", "_law_near"], [false, false], top 53⟩
def r37 : Fd := ⟨"_law_least", ["_law_lots"], ["_law_lots", "_law_by", "_law_count"], [false], top 54⟩
def r38 : Fd := ⟨"_law_rest_meet", ["_law_one", "_law_two"], ["_law_one", "_law_two", "_law_turns", "_law_lots", "_law_few", "_law_many", "_law_count"], [false, false], top 55⟩
def r39 : Fd := ⟨"_law_over", ["_law_one", "_law_two"], ["_law_one", "_law_two"], [false, false], top 56⟩
def r40 : Fd := ⟨"_law_left", ["_law_one", "_law_two"], ["_law_one", "_law_two", "_law_by"], [false, false], top 57⟩
def r41 : Fd := ⟨"_law_lets", ["_law_word", "_law_left_here", "_law_right_here"], ["_law_word", "_law_left_here", "_law_right_here"], [false, false, false], top 58⟩
def r42 : Fd := ⟨"_law_guarded", ["_law_word", "_law_one", "_law_two"], ["_law_word", "_law_one", "_law_two"], [false, false, false], top 59⟩
def r43 : Fd := ⟨"_law_beside", ["_law_source_here", "_law_one"], ["_law_source_here", "_law_one", "_law_by"], [true, false], top 60⟩
def r44 : Fd := ⟨"_law_two_right", ["_law_one", "_law_two"], ["_law_one", "_law_two", "_law_due"], [false, false], top 61⟩
def r45 : Fd := ⟨"_law_guards_right", ["_law_one", "_law_two", "_law_pairs"], ["_law_one", "_law_two", "_law_pairs", "_law_word", "_law_due", "_law_told", "_law_here", "_law_there", "_law_held"], [false, false, false], top 62⟩
def r46 : Fd := ⟨"_law_held_right", ["_law_one", "_law_two", "_law_here", "_law_there"], ["_law_one", "_law_two", "_law_here", "_law_there", "_law_told"], [false, false, false, false], top 63⟩
def r47 : Fd := ⟨"_law_wrapped_right", ["_law_one", "_law_wide", "_law_counts"], ["_law_one", "_law_wide", "_law_counts", "_law_power", "_law_turn", "_law_told", "_law_due", "_law_count"], [false, false, false], top 64⟩
def r48 : Fd := ⟨"_law_right", ["_law_source_here"], ["_law_source_here", "_law_two", "_law_one", "_law_wide", "_law_pairs", "_law_turn", "_law_here", "_law_there"], [true], top 65⟩
def r49 : Fd := ⟨"law", ["_law_script"], ["_law_script", "_law_turn"], [false], top 66⟩
def rs : List Fd := [r0, r1, r2, r3, r4, r5, r6, r7, r8, r9, r10, r11, r12, r13, r14, r15, r16, r17, r18, r19, r20, r21, r22, r23, r24, r25, r26, r27, r28, r29, r30, r31, r32, r33, r34, r35, r36, r37, r38, r39, r40, r41, r42, r43, r44, r45, r46, r47, r48, r49]
def tb : Tab := ⟨fnsFrom 0 rs, [("EMPTY", (.tuple [])), ("GRAIN", (.int 20160)), ("ALL", (.tuple [(.int 0), (.int 1)])), ("MOST_WIDTH", (.int 16)), ("GUARDS", (.tuple [(.str "<"), (.str "<="), (.str "=="), (.str "!=")]))], [("isinstance", .isinstance), ("int", .int), ("bool", .bool), ("tuple", .tuple), ("len", .len), ("all", .all), ("abs", .abs), ("str", .str), ("divmod", .divmod), ("range", .range), ("zip", .zip), ("max", .max), ("min", .min)], [("gcd", "math.gcd"), ("lcm", "math.lcm")], [("rest_quotient", 0, ["other", "rest"], [1, 0]), ("rest_modulo", 0, ["other", "rest"], [1, 0]), ("rest_guarded", 0, ["other", "rest", "guard"], [2, 1, 0]), ("rest_wrapped", 0, ["width", "rest"], [1, 0])], [], []⟩
abbrev wfl : Nat := 30000
abbrev fl : Nat := 60
abbrev run (n : Nat) : Nat → Fn := runF rs tb wfl fl n
abbrev F_is_whole (n : Nat) : Fn := run n 0
abbrev F_is_between (n : Nat) : Fn := run n 1
abbrev F_are_wholes (n : Nat) : Fn := run n 2
abbrev F_is_rested (n : Nat) : Fn := run n 3
abbrev F_rest_by (n : Nat) : Fn := run n 4
abbrev F_is_multiple (n : Nat) : Fn := run n 5
abbrev F_is_left (n : Nat) : Fn := run n 6
abbrev F_number_with (n : Nat) : Fn := run n 7
abbrev F_met_rest (n : Nat) : Fn := run n 8
abbrev F_is_only_nought (n : Nat) : Fn := run n 9
abbrev F_quotient_rest (n : Nat) : Fn := run n 10
abbrev F_modulo_rest (n : Nat) : Fn := run n 11
abbrev F_wrapped_rest (n : Nat) : Fn := run n 12
abbrev F_guarded_rests (n : Nat) : Fn := run n 13
abbrev F_check_rest (n : Nat) : Fn := run n 14
abbrev F_check_rests (n : Nat) : Fn := run n 15
abbrev F_check_whole (n : Nat) : Fn := run n 16
abbrev F_check_width (n : Nat) : Fn := run n 17
abbrev F_check_guard (n : Nat) : Fn := run n 18
abbrev F_rest_holds (n : Nat) : Fn := run n 19
abbrev F_rest_quotient (n : Nat) : Fn := run n 20
abbrev F_rest_modulo (n : Nat) : Fn := run n 21
abbrev F_rest_wrapped (n : Nat) : Fn := run n 22
abbrev F_rest_guarded (n : Nat) : Fn := run n 23
abbrev F_law_source (n : Nat) : Fn := run n 24
abbrev F_law_take (n : Nat) : Fn := run n 25
abbrev F_law_pick (n : Nat) : Fn := run n 26
abbrev F_law_great (n : Nat) : Fn := run n 27
abbrev F_law_number (n : Nat) : Fn := run n 28
abbrev F_law_part (n : Nat) : Fn := run n 29
abbrev F_law_rest (n : Nat) : Fn := run n 30
abbrev F_law_rest_near (n : Nat) : Fn := run n 31
abbrev F_law_rest_some (n : Nat) : Fn := run n 32
abbrev F_law_is_whole (n : Nat) : Fn := run n 33
abbrev F_law_same (n : Nat) : Fn := run n 34
abbrev F_law_rest_has (n : Nat) : Fn := run n 35
abbrev F_law_common (n : Nat) : Fn := run n 36
abbrev F_law_least (n : Nat) : Fn := run n 37
abbrev F_law_rest_meet (n : Nat) : Fn := run n 38
abbrev F_law_over (n : Nat) : Fn := run n 39
abbrev F_law_left (n : Nat) : Fn := run n 40
abbrev F_law_lets (n : Nat) : Fn := run n 41
abbrev F_law_guarded (n : Nat) : Fn := run n 42
abbrev F_law_beside (n : Nat) : Fn := run n 43
abbrev F_law_two_right (n : Nat) : Fn := run n 44
abbrev F_law_guards_right (n : Nat) : Fn := run n 45
abbrev F_law_held_right (n : Nat) : Fn := run n 46
abbrev F_law_wrapped_right (n : Nat) : Fn := run n 47
abbrev F_law_right (n : Nat) : Fn := run n 48
abbrev F_law (n : Nat) : Fn := run n 49
theorem tb_ok : tabB rs tb = true := by kernel_rfl
theorem bd_ok : AllR BindOk rs := ⟨fun _ _ _ _ _ _ us hl => match us, hl with | [_], _ => rfl, fun _ _ _ _ _ _ us hl => match us, hl with | [_, _, _], _ => rfl, fun _ _ _ _ _ _ us hl => match us, hl with | [_, _], _ => rfl, fun _ _ _ _ _ _ us hl => match us, hl with | [_], _ => rfl, fun _ _ _ _ _ _ us hl => match us, hl with | [_, _], _ => rfl, fun _ _ _ _ _ _ us hl => match us, hl with | [_, _], _ => rfl, fun _ _ _ _ _ _ us hl => match us, hl with | [_, _], _ => rfl, fun _ _ _ _ _ _ us hl => match us, hl with | [_, _], _ => rfl, fun _ _ _ _ _ _ us hl => match us, hl with | [_, _], _ => rfl, fun _ _ _ _ _ _ us hl => match us, hl with | [_], _ => rfl, fun _ _ _ _ _ _ us hl => match us, hl with | [_, _], _ => rfl, fun _ _ _ _ _ _ us hl => match us, hl with | [_, _], _ => rfl, fun _ _ _ _ _ _ us hl => match us, hl with | [_, _], _ => rfl, fun _ _ _ _ _ _ us hl => match us, hl with | [_, _, _], _ => rfl, fun _ _ _ _ _ _ us hl => match us, hl with | [_], _ => rfl, fun _ _ _ _ _ _ us hl => match us, hl with | [_, _], _ => rfl, fun _ _ _ _ _ _ us hl => match us, hl with | [_], _ => rfl, fun _ _ _ _ _ _ us hl => match us, hl with | [_], _ => rfl, fun _ _ _ _ _ _ us hl => match us, hl with | [_], _ => rfl, fun _ _ _ _ _ _ us hl => match us, hl with | [_, _], _ => rfl, fun _ _ _ _ _ _ us hl => match us, hl with | [_, _], _ => rfl, fun _ _ _ _ _ _ us hl => match us, hl with | [_, _], _ => rfl, fun _ _ _ _ _ _ us hl => match us, hl with | [_, _], _ => rfl, fun _ _ _ _ _ _ us hl => match us, hl with | [_, _, _], _ => rfl, fun _ _ _ _ _ _ us hl => match us, hl with | [_, _], _ => rfl, fun _ _ _ _ _ _ us hl => match us, hl with | [_, _], _ => rfl, fun _ _ _ _ _ _ us hl => match us, hl with | [_, _], _ => rfl, fun _ _ _ _ _ _ us hl => match us, hl with | [_], _ => rfl, fun _ _ _ _ _ _ us hl => match us, hl with | [_], _ => rfl, fun _ _ _ _ _ _ us hl => match us, hl with | [_], _ => rfl, fun _ _ _ _ _ _ us hl => match us, hl with | [_], _ => rfl, fun _ _ _ _ _ _ us hl => match us, hl with | [_, _], _ => rfl, fun _ _ _ _ _ _ us hl => match us, hl with | [_, _], _ => rfl, fun _ _ _ _ _ _ us hl => match us, hl with | [_], _ => rfl, fun _ _ _ _ _ _ us hl => match us, hl with | [_, _], _ => rfl, fun _ _ _ _ _ _ us hl => match us, hl with | [_, _], _ => rfl, fun _ _ _ _ _ _ us hl => match us, hl with | [_, _], _ => rfl, fun _ _ _ _ _ _ us hl => match us, hl with | [_], _ => rfl, fun _ _ _ _ _ _ us hl => match us, hl with | [_, _], _ => rfl, fun _ _ _ _ _ _ us hl => match us, hl with | [_, _], _ => rfl, fun _ _ _ _ _ _ us hl => match us, hl with | [_, _], _ => rfl, fun _ _ _ _ _ _ us hl => match us, hl with | [_, _, _], _ => rfl, fun _ _ _ _ _ _ us hl => match us, hl with | [_, _, _], _ => rfl, fun _ _ _ _ _ _ us hl => match us, hl with | [_, _], _ => rfl, fun _ _ _ _ _ _ us hl => match us, hl with | [_, _], _ => rfl, fun _ _ _ _ _ _ us hl => match us, hl with | [_, _, _], _ => rfl, fun _ _ _ _ _ _ us hl => match us, hl with | [_, _, _, _], _ => rfl, fun _ _ _ _ _ _ us hl => match us, hl with | [_, _, _], _ => rfl, fun _ _ _ _ _ _ us hl => match us, hl with | [_], _ => rfl, fun _ _ _ _ _ _ us hl => match us, hl with | [_], _ => rfl, trivial⟩
theorem only {x : Str} (i : Nat) (h : (List.range rs.length).all (fun j => match rs[j]? with | some r => decide (r.x = x → j = i) | none => true) = true) (j : Nat) (r : Fd) (e : rs[j]? = some r) (hx : r.x = x) : j = i := by
  have hj : j < rs.length := (List.getElem?_eq_some_iff.mp e).1
  have q := List.all_eq_true.mp h j (List.mem_range.mpr hj)
  rw [e] at q
  exact of_decide_eq_true q hx
theorem kw_ok : AllR (KwOk rs) tb.kws := ⟨⟨20, r20, rfl, rfl, only 20 (by decide +kernel), rfl, by decide, fun _ _ _ _ _ _ us ws h1 h2 => (match us, ws, h1, h2 with | [], [_, _], _, _ => rfl), by decide⟩, ⟨21, r21, rfl, rfl, only 21 (by decide +kernel), rfl, by decide, fun _ _ _ _ _ _ us ws h1 h2 => (match us, ws, h1, h2 with | [], [_, _], _, _ => rfl), by decide⟩, ⟨23, r23, rfl, rfl, only 23 (by decide +kernel), rfl, by decide, fun _ _ _ _ _ _ us ws h1 h2 => (match us, ws, h1, h2 with | [], [_, _, _], _, _ => rfl), by decide⟩, ⟨22, r22, rfl, rfl, only 22 (by decide +kernel), rfl, by decide, fun _ _ _ _ _ _ us ws h1 h2 => (match us, ws, h1, h2 with | [], [_, _], _, _ => rfl), by decide⟩, trivial⟩
/-- is_whole -/
theorem d0 (C : Nat → Fn) : dSs (den tb r0.N C wfl fl) (defScope r0.st) (defBody r0.st) = k_is_whole_b := by kernel_rfl
theorem u_is_whole (n : Nat) : run (n + 1) 0 = k_is_whole := congrArg (callFn 1) (d0 (run n))
/-- is_between -/
theorem d1 (C : Nat → Fn) : dSs (den tb r1.N C wfl fl) (defScope r1.st) (defBody r1.st) = k_is_between_b (C 0) := by kernel_rfl
theorem u_is_between (n : Nat) : run (n + 1) 1 = k_is_between (run n 0) := congrArg (callFn 3) (d1 (run n))
/-- are_wholes -/
theorem d2 (C : Nat → Fn) : dSs (den tb r2.N C wfl fl) (defScope r2.st) (defBody r2.st) = k_are_wholes_b (C 0) := by kernel_rfl
theorem u_are_wholes (n : Nat) : run (n + 1) 2 = k_are_wholes (run n 0) := congrArg (callFn 3) (d2 (run n))
/-- is_rested -/
theorem d3 (C : Nat → Fn) : dSs (den tb r3.N C wfl fl) (defScope r3.st) (defBody r3.st) = k_is_rested_b (C 2) := by kernel_rfl
theorem u_is_rested (n : Nat) : run (n + 1) 3 = k_is_rested (run n 2) := congrArg (callFn 1) (d3 (run n))
/-- rest_by -/
theorem d4 (C : Nat → Fn) : dSs (den tb r4.N C wfl fl) (defScope r4.st) (defBody r4.st) = k_rest_by_b := by kernel_rfl
theorem u_rest_by (n : Nat) : run (n + 1) 4 = k_rest_by := congrArg (callFn 2) (d4 (run n))
/-- is_multiple -/
theorem d5 (C : Nat → Fn) : dSs (den tb r5.N C wfl fl) (defScope r5.st) (defBody r5.st) = k_is_multiple_b := by kernel_rfl
theorem u_is_multiple (n : Nat) : run (n + 1) 5 = k_is_multiple := congrArg (callFn 2) (d5 (run n))
/-- is_left -/
theorem d6 (C : Nat → Fn) : dSs (den tb r6.N C wfl fl) (defScope r6.st) (defBody r6.st) = k_is_left_b (C 5) := by kernel_rfl
theorem u_is_left (n : Nat) : run (n + 1) 6 = k_is_left (run n 5) := congrArg (callFn 2) (d6 (run n))
/-- number_with -/
theorem d7_w (w : Nat) (C : Nat → Fn) : dSs (den tb r7.N C w fl) (defScope r7.st) (defBody r7.st) = k_number_with_b_w w (C 6) := by kernel_rfl
theorem d7 (C : Nat → Fn) : dSs (den tb r7.N C wfl fl) (defScope r7.st) (defBody r7.st) = k_number_with_b (C 6) := d7_w wfl C
theorem u_number_with (n : Nat) : run (n + 1) 7 = k_number_with (run n 6) := congrArg (callFn 3) (d7 (run n))
/-- met_rest -/
theorem d8 (C : Nat → Fn) : dSs (den tb r8.N C wfl fl) (defScope r8.st) (defBody r8.st) = k_met_rest_b (C 4) (C 5) (C 7) := by kernel_rfl
theorem u_met_rest (n : Nat) : run (n + 1) 8 = k_met_rest (run n 4) (run n 5) (run n 7) := congrArg (callFn 2) (d8 (run n))
/-- is_only_nought -/
theorem d9 (C : Nat → Fn) : dSs (den tb r9.N C wfl fl) (defScope r9.st) (defBody r9.st) = k_is_only_nought_b := by kernel_rfl
theorem u_is_only_nought (n : Nat) : run (n + 1) 9 = k_is_only_nought := congrArg (callFn 1) (d9 (run n))
/-- quotient_rest -/
theorem d10 (C : Nat → Fn) : dSs (den tb r10.N C wfl fl) (defScope r10.st) (defBody r10.st) = k_quotient_rest_b (C 4) (C 5) (C 9) := by kernel_rfl
theorem u_quotient_rest (n : Nat) : run (n + 1) 10 = k_quotient_rest (run n 4) (run n 5) (run n 9) := congrArg (callFn 2) (d10 (run n))
/-- modulo_rest -/
theorem d11 (C : Nat → Fn) : dSs (den tb r11.N C wfl fl) (defScope r11.st) (defBody r11.st) = k_modulo_rest_b (C 4) (C 5) (C 9) := by kernel_rfl
theorem u_modulo_rest (n : Nat) : run (n + 1) 11 = k_modulo_rest (run n 4) (run n 5) (run n 9) := congrArg (callFn 2) (d11 (run n))
/-- wrapped_rest -/
theorem d12 (C : Nat → Fn) : dSs (den tb r12.N C wfl fl) (defScope r12.st) (defBody r12.st) = k_wrapped_rest_b (C 11) := by kernel_rfl
theorem u_wrapped_rest (n : Nat) : run (n + 1) 12 = k_wrapped_rest (run n 11) := congrArg (callFn 2) (d12 (run n))
/-- guarded_rests -/
theorem d13 (C : Nat → Fn) : dSs (den tb r13.N C wfl fl) (defScope r13.st) (defBody r13.st) = k_guarded_rests_b (C 8) := by kernel_rfl
theorem u_guarded_rests (n : Nat) : run (n + 1) 13 = k_guarded_rests (run n 8) := congrArg (callFn 4) (d13 (run n))
/-- check_rest -/
theorem d14 (C : Nat → Fn) : dSs (den tb r14.N C wfl fl) (defScope r14.st) (defBody r14.st) = k_check_rest_b (C 3) := by kernel_rfl
theorem u_check_rest (n : Nat) : run (n + 1) 14 = k_check_rest (run n 3) := congrArg (callFn 1) (d14 (run n))
/-- check_rests -/
theorem d15 (C : Nat → Fn) : dSs (den tb r15.N C wfl fl) (defScope r15.st) (defBody r15.st) = k_check_rests_b (C 14) := by kernel_rfl
theorem u_check_rests (n : Nat) : run (n + 1) 15 = k_check_rests (run n 14) := congrArg (callFn 2) (d15 (run n))
/-- check_whole -/
theorem d16 (C : Nat → Fn) : dSs (den tb r16.N C wfl fl) (defScope r16.st) (defBody r16.st) = k_check_whole_b (C 0) := by kernel_rfl
theorem u_check_whole (n : Nat) : run (n + 1) 16 = k_check_whole (run n 0) := congrArg (callFn 1) (d16 (run n))
/-- check_width -/
theorem d17 (C : Nat → Fn) : dSs (den tb r17.N C wfl fl) (defScope r17.st) (defBody r17.st) = k_check_width_b (C 1) := by kernel_rfl
theorem u_check_width (n : Nat) : run (n + 1) 17 = k_check_width (run n 1) := congrArg (callFn 1) (d17 (run n))
/-- check_guard -/
theorem d18 (C : Nat → Fn) : dSs (den tb r18.N C wfl fl) (defScope r18.st) (defBody r18.st) = k_check_guard_b := by kernel_rfl
theorem u_check_guard (n : Nat) : run (n + 1) 18 = k_check_guard := congrArg (callFn 1) (d18 (run n))
/-- rest_holds -/
theorem d19 (C : Nat → Fn) : dSs (den tb r19.N C wfl fl) (defScope r19.st) (defBody r19.st) = k_rest_holds_b (C 6) (C 14) (C 16) := by kernel_rfl
theorem u_rest_holds (n : Nat) : run (n + 1) 19 = k_rest_holds (run n 6) (run n 14) (run n 16) := congrArg (callFn 2) (d19 (run n))
/-- rest_quotient -/
theorem d20 (C : Nat → Fn) : dSs (den tb r20.N C wfl fl) (defScope r20.st) (defBody r20.st) = k_rest_quotient_b (C 10) (C 15) := by kernel_rfl
theorem u_rest_quotient (n : Nat) : run (n + 1) 20 = k_rest_quotient (run n 10) (run n 15) := congrArg (callFn 2) (d20 (run n))
/-- rest_modulo -/
theorem d21 (C : Nat → Fn) : dSs (den tb r21.N C wfl fl) (defScope r21.st) (defBody r21.st) = k_rest_modulo_b (C 11) (C 15) := by kernel_rfl
theorem u_rest_modulo (n : Nat) : run (n + 1) 21 = k_rest_modulo (run n 11) (run n 15) := congrArg (callFn 2) (d21 (run n))
/-- rest_wrapped -/
theorem d22 (C : Nat → Fn) : dSs (den tb r22.N C wfl fl) (defScope r22.st) (defBody r22.st) = k_rest_wrapped_b (C 12) (C 14) (C 17) := by kernel_rfl
theorem u_rest_wrapped (n : Nat) : run (n + 1) 22 = k_rest_wrapped (run n 12) (run n 14) (run n 17) := congrArg (callFn 2) (d22 (run n))
/-- rest_guarded -/
theorem d23 (C : Nat → Fn) : dSs (den tb r23.N C wfl fl) (defScope r23.st) (defBody r23.st) = k_rest_guarded_b (C 13) (C 15) (C 18) := by kernel_rfl
theorem u_rest_guarded (n : Nat) : run (n + 1) 23 = k_rest_guarded (run n 13) (run n 15) (run n 18) := congrArg (callFn 3) (d23 (run n))
/-- _law_source -/
theorem d24 (C : Nat → Fn) : dSs (den tb r24.N C wfl fl) (defScope r24.st) (defBody r24.st) = sourceC 610361 9176 := by kernel_rfl
theorem u_law_source (n : Nat) : run (n + 1) 24 = callFn 5 (sourceC 610361 9176) := congrArg (callFn 5) (d24 (run n))
/-- _law_take -/
theorem d25 (C : Nat → Fn) : dSs (den tb r25.N C wfl fl) (defScope r25.st) (defBody r25.st) = k__law_take_b := by kernel_rfl
theorem u_law_take (n : Nat) : run (n + 1) 25 = k__law_take := congrArg (callFn 4) (d25 (run n))
/-- _law_pick -/
theorem d26 (C : Nat → Fn) : dSs (den tb r26.N C wfl fl) (defScope r26.st) (defBody r26.st) = k__law_pick_b (C 25) := by kernel_rfl
theorem u_law_pick (n : Nat) : run (n + 1) 26 = k__law_pick (run n 25) := congrArg (callFn 2) (d26 (run n))
/-- _law_great -/
theorem d27 (C : Nat → Fn) : dSs (den tb r27.N C wfl fl) (defScope r27.st) (defBody r27.st) = k__law_great_b (C 25) := by kernel_rfl
theorem u_law_great (n : Nat) : run (n + 1) 27 = k__law_great (run n 25) := congrArg (callFn 3) (d27 (run n))
/-- _law_number -/
theorem d28 (C : Nat → Fn) : dSs (den tb r28.N C wfl fl) (defScope r28.st) (defBody r28.st) = k__law_number_b (C 25) (C 27) := by kernel_rfl
theorem u_law_number (n : Nat) : run (n + 1) 28 = k__law_number (run n 25) (run n 27) := congrArg (callFn 3) (d28 (run n))
/-- _law_part -/
theorem d29 (C : Nat → Fn) : dSs (den tb r29.N C wfl fl) (defScope r29.st) (defBody r29.st) = k__law_part_b (C 26) := by kernel_rfl
theorem u_law_part (n : Nat) : run (n + 1) 29 = k__law_part (run n 26) := congrArg (callFn 3) (d29 (run n))
/-- _law_rest -/
theorem d30 (C : Nat → Fn) : dSs (den tb r30.N C wfl fl) (defScope r30.st) (defBody r30.st) = k__law_rest_b (C 25) (C 28) (C 29) := by kernel_rfl
theorem u_law_rest (n : Nat) : run (n + 1) 30 = k__law_rest (run n 25) (run n 28) (run n 29) := congrArg (callFn 3) (d30 (run n))
/-- _law_rest_near -/
theorem d31 (C : Nat → Fn) : dSs (den tb r31.N C wfl fl) (defScope r31.st) (defBody r31.st) = k__law_rest_near_b (C 25) (C 26) (C 29) (C 30) := by kernel_rfl
theorem u_law_rest_near (n : Nat) : run (n + 1) 31 = k__law_rest_near (run n 25) (run n 26) (run n 29) (run n 30) := congrArg (callFn 4) (d31 (run n))
/-- _law_rest_some -/
theorem d32 (C : Nat → Fn) : dSs (den tb r32.N C wfl fl) (defScope r32.st) (defBody r32.st) = k__law_rest_some_b (C 28) := by kernel_rfl
theorem u_law_rest_some (n : Nat) : run (n + 1) 32 = k__law_rest_some (run n 28) := congrArg (callFn 2) (d32 (run n))
/-- _law_is_whole -/
theorem d33 (C : Nat → Fn) : dSs (den tb r33.N C wfl fl) (defScope r33.st) (defBody r33.st) = k__law_is_whole_b := by kernel_rfl
theorem u_law_is_whole (n : Nat) : run (n + 1) 33 = k__law_is_whole := congrArg (callFn 1) (d33 (run n))
/-- _law_same -/
theorem d34 (C : Nat → Fn) : dSs (den tb r34.N C wfl fl) (defScope r34.st) (defBody r34.st) = k__law_same_b (C 33) (C 34) := by kernel_rfl
theorem u_law_same (n : Nat) : run (n + 1) 34 = k__law_same (run n 33) (run n 34) := congrArg (callFn 4) (d34 (run n))
/-- _law_rest_has -/
theorem d35 (C : Nat → Fn) : dSs (den tb r35.N C wfl fl) (defScope r35.st) (defBody r35.st) = k__law_rest_has_b := by kernel_rfl
theorem u_law_rest_has (n : Nat) : run (n + 1) 35 = k__law_rest_has := congrArg (callFn 2) (d35 (run n))
/-- _law_common -/
theorem d36_w (w : Nat) (C : Nat → Fn) : dSs (den tb r36.N C w fl) (defScope r36.st) (defBody r36.st) = k__law_common_b_w w := by kernel_rfl
theorem d36 (C : Nat → Fn) : dSs (den tb r36.N C wfl fl) (defScope r36.st) (defBody r36.st) = k__law_common_b := d36_w wfl C
theorem u_law_common (n : Nat) : run (n + 1) 36 = k__law_common := congrArg (callFn 2) (d36 (run n))
/-- _law_least -/
theorem d37 (C : Nat → Fn) : dSs (den tb r37.N C wfl fl) (defScope r37.st) (defBody r37.st) = k__law_least_b (C 36) := by kernel_rfl
theorem u_law_least (n : Nat) : run (n + 1) 37 = k__law_least (run n 36) := congrArg (callFn 3) (d37 (run n))
/-- _law_rest_meet -/
theorem d38 (C : Nat → Fn) : dSs (den tb r38.N C wfl fl) (defScope r38.st) (defBody r38.st) = k__law_rest_meet_b (C 35) (C 36) := by kernel_rfl
theorem u_law_rest_meet (n : Nat) : run (n + 1) 38 = k__law_rest_meet (run n 35) (run n 36) := congrArg (callFn 7) (d38 (run n))
/-- _law_over -/
theorem d39 (C : Nat → Fn) : dSs (den tb r39.N C wfl fl) (defScope r39.st) (defBody r39.st) = k__law_over_v2_b (C 37) := by kernel_rfl
theorem u_law_over (n : Nat) : run (n + 1) 39 = k__law_over_v2 (run n 37) := congrArg (callFn 2) (d39 (run n))
/-- _law_left -/
theorem d40 (C : Nat → Fn) : dSs (den tb r40.N C wfl fl) (defScope r40.st) (defBody r40.st) = k__law_left_v2_b (C 36) := by kernel_rfl
theorem u_law_left (n : Nat) : run (n + 1) 40 = k__law_left_v2 (run n 36) := congrArg (callFn 3) (d40 (run n))
/-- _law_lets -/
theorem d41 (C : Nat → Fn) : dSs (den tb r41.N C wfl fl) (defScope r41.st) (defBody r41.st) = k__law_lets_b := by kernel_rfl
theorem u_law_lets (n : Nat) : run (n + 1) 41 = k__law_lets := congrArg (callFn 3) (d41 (run n))
/-- _law_guarded -/
theorem d42 (C : Nat → Fn) : dSs (den tb r42.N C wfl fl) (defScope r42.st) (defBody r42.st) = k__law_guarded_v2_b (C 38) := by kernel_rfl
theorem u_law_guarded (n : Nat) : run (n + 1) 42 = k__law_guarded_v2 (run n 38) := congrArg (callFn 3) (d42 (run n))
/-- _law_beside -/
theorem d43 (C : Nat → Fn) : dSs (den tb r43.N C wfl fl) (defScope r43.st) (defBody r43.st) = k__law_beside_v2_b (C 25) (C 29) (C 31) (C 36) := by kernel_rfl
theorem u_law_beside (n : Nat) : run (n + 1) 43 = k__law_beside_v2 (run n 25) (run n 29) (run n 31) (run n 36) := congrArg (callFn 3) (d43 (run n))
/-- _law_two_right -/
theorem d44 (C : Nat → Fn) : dSs (den tb r44.N C wfl fl) (defScope r44.st) (defBody r44.st) = k__law_two_right_v9_b (C 20) (C 21) (C 34) (C 39) (C 40) := by kernel_rfl
theorem u_law_two_right (n : Nat) : run (n + 1) 44 = k__law_two_right_v9 (run n 20) (run n 21) (run n 34) (run n 39) (run n 40) := congrArg (callFn 3) (d44 (run n))
/-- _law_guards_right -/
theorem d45 (C : Nat → Fn) : dSs (den tb r45.N C wfl fl) (defScope r45.st) (defBody r45.st) = k__law_guards_right_b (C 19) (C 23) (C 34) (C 41) (C 42) := by kernel_rfl
theorem u_law_guards_right (n : Nat) : run (n + 1) 45 = k__law_guards_right (run n 19) (run n 23) (run n 34) (run n 41) (run n 42) := congrArg (callFn 9) (d45 (run n))
/-- _law_held_right -/
theorem d46 (C : Nat → Fn) : dSs (den tb r46.N C wfl fl) (defScope r46.st) (defBody r46.st) = k__law_held_right_v4_b (C 19) (C 20) (C 21) (C 34) := by kernel_rfl
theorem u_law_held_right (n : Nat) : run (n + 1) 46 = k__law_held_right_v4 (run n 19) (run n 20) (run n 21) (run n 34) := congrArg (callFn 5) (d46 (run n))
/-- _law_wrapped_right -/
theorem d47 (C : Nat → Fn) : dSs (den tb r47.N C wfl fl) (defScope r47.st) (defBody r47.st) = k__law_wrapped_right_v2_b (C 19) (C 21) (C 22) (C 34) (C 40) := by kernel_rfl
theorem u_law_wrapped_right (n : Nat) : run (n + 1) 47 = k__law_wrapped_right_v2 (run n 19) (run n 21) (run n 22) (run n 34) (run n 40) := congrArg (callFn 8) (d47 (run n))
/-- _law_right -/
theorem d48 (C : Nat → Fn) : dSs (den tb r48.N C wfl fl) (defScope r48.st) (defBody r48.st) = k__law_right_v10_b (C 25) (C 30) (C 32) (C 35) (C 43) (C 44) (C 45) (C 46) (C 47) := by kernel_rfl
theorem u_law_right (n : Nat) : run (n + 1) 48 = k__law_right_v10 (run n 25) (run n 30) (run n 32) (run n 35) (run n 43) (run n 44) (run n 45) (run n 46) (run n 47) := congrArg (callFn 8) (d48 (run n))
/-- law -/
def c49 (C : Nat → Fn) : Fx Fl := (sRet (rV (eBlt gAll (dCons (eFz (eComp (iRange1 (eBlt gMax (dCons (eC (.int 2)) (dCons (eBlt gMin (dCons (eLenN 0) (dCons (eC (.int 5)) dNil))) dNil)))) (gN 1) (fun env => some (true, env)) (eFz (eCall (C 48) (aTmp (eCall (C 24) (aVal (eVar 0) (aVal (eVar 1) aNil))) aNil))) [1])) dNil))))
theorem d49 (C : Nat → Fn) : dSs (den tb r49.N C wfl fl) (defScope r49.st) (defBody r49.st) = c49 C := by kernel_rfl
theorem u_49 (n : Nat) : run (n + 1) 49 = callFn 2 (c49 (run n)) := congrArg (callFn 2) (d49 (run n))
def loose0 : List PySem.Str := ["LookError", "InvalidNumber", "InvalidRest", "InvalidWidth", "InvalidGuard", "is_whole", "is_between", "are_wholes", "GUARDS", "GRAIN", "EMPTY", "ALL", "is_rested", "rest_by", "is_multiple", "is_left", "number_with", "met_rest", "is_only_nought", "quotient_rest"]
def loose1 : List PySem.Str := ["modulo_rest", "wrapped_rest", "guarded_rests", "MOST_WIDTH", "check_rest", "check_rests", "check_whole", "check_width", "check_guard", "rest_holds", "rest_quotient", "rest_modulo", "rest_wrapped", "rest_guarded", "_law_source", "_law_take", "_law_pick", "_law_great", "_law_number", "_law_part"]
def loose2 : List PySem.Str := ["_law_rest", "_law_rest_near", "_law_rest_some", "_law_is_whole", "_law_same", "_law_rest_has", "_law_common", "_law_least", "_law_rest_meet", "_law_over", "_law_left", "_law_lets", "_law_guarded", "_law_beside", "_law_two_right", "_law_guards_right", "_law_held_right", "_law_wrapped_right", "_law_right"]
def loose : List PySem.Str := loose0 ++ loose1 ++ loose2
abbrev R : PySem.W.OpenRow := PySem.W.OpenLaw.row PySem.Challenge.rw_soundlooks_k32_whole_quotients_modulo_gu
abbrev hk : PySem.W.Hook := He.hookX 4 (faOf rs tb) (fnOf rs) [] [] (exB tb)
def ob (s : PySem.W.SharedT) : He.AlX := He.obsX 4 (faOf rs tb) (fnOf rs) [] [] (exB tb) (HandSHeadRun.getT s)
theorem ob_eq (s : PySem.W.SharedT) : ob s = hk.obs s.abs := He.obsX_eq (HandSHeadRun.getT_eq s)
theorem runs (w : World) : HandSHeadRun.RunEqI R (PySem.W.view R.prog [0, 66]) hk ob 12000 loose w := by
  unfold HandSHeadRun.RunEqI
  kernel_rfl
theorem g__law_take (zz : Nat) : (Tk) (F_law_take (zz + 1)) := tr (P := Tk) (u_law_take (zz)) (k_take_ok)
theorem g__law_great (zz : Nat) : (Gp) (F_law_great (zz + 2)) := tr (P := Gp) (u_law_great (zz + 1)) (k_great_pos (g__law_take zz))
theorem g__law_number (zz : Nat) : (Nm 7 (2 ^ 110)) (F_law_number (zz + 3)) := tr (P := Nm 7 (2 ^ 110)) (u_law_number (zz + 2)) (k_number_ok (g__law_take (zz + 1)) (gp_nm (g__law_great zz)))
theorem g__law_pick (zz : Nat) : (Pk) (F_law_pick (zz + 2)) := tr (P := Pk) (u_law_pick (zz + 1)) (k_pick_ok (g__law_take zz))
theorem g__law_part (zz : Nat) : (Pa) (F_law_part (zz + 3)) := tr (P := Pa) (u_law_part (zz + 2)) (k_part_ok (g__law_pick zz))
theorem g__law_rest (zz : Nat) : (Rst 8) (F_law_rest (zz + 4)) := tr (P := Rst 8) (u_law_rest (zz + 3)) (k_rest_ok (g__law_take (zz + 2)) (g__law_number zz) (g__law_part zz))
theorem g__law_rest_some (zz : Nat) : (SomeF) (F_law_rest_some (zz + 4)) := tr (P := SomeF) (u_law_rest_some (zz + 3)) (fun _ _ _ _ h ho hz => k_lsome_ok (g__law_number zz) h ho hz)
theorem g__law_rest_has (zz : Nat) : (LeftF) (F_law_rest_has (zz + 1)) := tr (P := LeftF) (u_law_rest_has (zz)) (k__law_rhas_ok)
theorem g__law_rest_near (zz : Nat) : (Rnr 16) (F_law_rest_near (zz + 5)) := tr (P := Rnr 16) (u_law_rest_near (zz + 4)) (k_rnear_ok (g__law_take (zz + 3)) (g__law_pick (zz + 2)) (g__law_part (zz + 1)) (g__law_rest zz))
theorem g__law_common (zz : Nat) : (CommF) (F_law_common (zz + 1)) := tr (P := CommF) (u_law_common (zz)) (k_common_ok)
theorem g__law_beside (zz : Nat) : (LBs) (F_law_beside (zz + 6)) := tr (P := LBs) (u_law_beside (zz + 5)) (k32_beside_ok (g__law_take (zz + 4)) (g__law_part (zz + 2)) (g__law_rest_near zz) (g__law_common (zz + 4)))
theorem g_rest_by (zz : Nat) : (RestByF) (F_rest_by (zz + 1)) := tr (P := RestByF) (u_rest_by (zz)) (fun x g h => k_restBy_ok x h)
theorem g_is_multiple (zz : Nat) : (fun f => MulF f ∧ MulNF f) (F_is_multiple (zz + 1)) := tr (P := fun f => MulF f ∧ MulNF f) (u_is_multiple (zz)) (⟨fun x m h => k_multiple_ok x h, k_multN_ok⟩)
theorem g_is_only_nought (zz : Nat) : (NgtF) (F_is_only_nought (zz + 1)) := tr (P := NgtF) (u_is_only_nought (zz)) (k_ngt_ok)
theorem g_quotient_rest (zz : Nat) : (QuoF) (F_quotient_rest (zz + 2)) := tr (P := QuoF) (u_quotient_rest (zz + 1)) (k_quoR_ok (g_rest_by zz) ((g_is_multiple zz)).2 (g_is_only_nought zz))
theorem g_is_whole (zz : Nat) : (fun f => ∀ i : Int, f [.val (.int i)] = some (.val (.bool true), [])) (F_is_whole (zz + 1)) := tr (P := fun f => ∀ i : Int, f [.val (.int i)] = some (.val (.bool true), [])) (u_is_whole (zz)) (k_whole_ok)
theorem g_are_wholes (zz : Nat) : (fun f => ∀ r m : Int, f [.val (.tuple [.int r, .int m]), .val (.int 2)] = some (.val (.bool true), [])) (F_are_wholes (zz + 2)) := tr (P := fun f => ∀ r m : Int, f [.val (.tuple [.int r, .int m]), .val (.int 2)] = some (.val (.bool true), [])) (u_are_wholes (zz + 1)) (k_wholes2_ok (g_is_whole zz))
theorem g_is_rested (zz : Nat) : (fun f => ∀ a : RR, okR a = true → f [.val (eR a)] = some (.val (.bool true), [])) (F_is_rested (zz + 3)) := tr (P := fun f => ∀ a : RR, okR a = true → f [.val (eR a)] = some (.val (.bool true), [])) (u_is_rested (zz + 2)) (fun a h => k_rested_ok (g_are_wholes zz) h)
theorem g_check_rest (zz : Nat) : (ChkR) (F_check_rest (zz + 4)) := tr (P := ChkR) (u_check_rest (zz + 3)) (k_rcheck_ok (g_is_rested zz))
theorem g_check_rests (zz : Nat) : (ChkR2) (F_check_rests (zz + 5)) := tr (P := ChkR2) (u_check_rests (zz + 4)) (k_rchecks_ok (g_check_rest zz))
theorem g_rest_quotient (zz : Nat) : (QuoF) (F_rest_quotient (zz + 6)) := tr (P := QuoF) (u_rest_quotient (zz + 5)) (k_squo_ok (g_quotient_rest (zz + 3)) (g_check_rests zz))
theorem g_modulo_rest (zz : Nat) : (OpRF modR) (F_modulo_rest (zz + 2)) := tr (P := OpRF modR) (u_modulo_rest (zz + 1)) (k_modR_ok (g_rest_by zz) ((g_is_multiple zz)).2 (g_is_only_nought zz))
theorem g_rest_modulo (zz : Nat) : (OpRF modR) (F_rest_modulo (zz + 6)) := tr (P := OpRF modR) (u_rest_modulo (zz + 5)) (k_smod_ok (g_modulo_rest (zz + 3)) (g_check_rests zz))
theorem g__law_is_whole (zz : Nat) : (fun f => ∀ i : Int, f [.val (.int i)] = some (.val (.bool true), [])) (F_law_is_whole (zz + 1)) := tr (P := fun f => ∀ i : Int, f [.val (.int i)] = some (.val (.bool true), [])) (u_law_is_whole (zz)) (k_whole_ok)
theorem g__law_same_k : ∀ k n : Nat, SameOk k (F_law_same (n + k + 2))
  | 0, n => fun d h => (congrFun (u_law_same (n + 1)) _).trans (k_same_ok (g__law_is_whole n) d h)
  | k + 1, n => fun d h => (congrFun (u_law_same (n + k + 2)) _).trans (k_same_up (g__law_is_whole (n + k + 1)) (g__law_same_k k n) d h)
theorem g__law_same (n : Nat) : SameOk 3 (F_law_same (n + 5)) := g__law_same_k 3 n
theorem g__law_least (zz : Nat) : (LeastF) (F_law_least (zz + 2)) := tr (P := LeastF) (u_law_least (zz + 1)) (fun ns h1 h2 => k_least_ok (g__law_common zz) h1 h2)
theorem g__law_over (zz : Nat) : (QuoZ) (F_law_over (zz + 3)) := tr (P := QuoZ) (u_law_over (zz + 2)) (k__law_over_ok (g__law_least zz))
theorem g__law_left (zz : Nat) : (ModRF) (F_law_left (zz + 2)) := tr (P := ModRF) (u_law_left (zz + 1)) (k__law_left_ok (g__law_common zz))
theorem g__law_two_right (zz : Nat) : (TwoQ) (F_law_two_right (zz + 7)) := tr (P := TwoQ) (u_law_two_right (zz + 6)) (k32_two_ok (g_rest_quotient zz) (g_rest_modulo zz) (same2 (g__law_same (zz + 1))) (g__law_over (zz + 3)) (g__law_left (zz + 4)))
theorem g_is_left (zz : Nat) : (LeftF) (F_is_left (zz + 2)) := tr (P := LeftF) (u_is_left (zz + 1)) (k_left_ok' ((g_is_multiple zz)).1)
theorem g_check_whole (zz : Nat) : (fun f => ∀ i : Int, f [.val (.int i)] = some (.val .none, [])) (F_check_whole (zz + 2)) := tr (P := fun f => ∀ i : Int, f [.val (.int i)] = some (.val .none, [])) (u_check_whole (zz + 1)) (k_check_whole_ok (g_is_whole zz))
theorem g_rest_holds (zz : Nat) : (LeftF) (F_rest_holds (zz + 5)) := tr (P := LeftF) (u_rest_holds (zz + 4)) (k_rholds_ok (g_is_left (zz + 2)) (g_check_rest zz) (g_check_whole (zz + 2)))
theorem g_number_with (zz : Nat) : (fun f => ∀ r m s n : Int, okR (some (s, n)) = true → 0 < n → ((Nat.gcd m.natAbs n.natAbs : Nat) : Int) ∣ r - s → ∃ x : Int, f [.val (eR (some (r, m))), .val (eR (some (s, n)))] = some (.val (.int x), []) ∧ m ∣ x - r ∧ n ∣ x - s) (F_number_with (zz + 3)) := tr (P := fun f => ∀ r m s n : Int, okR (some (s, n)) = true → 0 < n → ((Nat.gcd m.natAbs n.natAbs : Nat) : Int) ∣ r - s → ∃ x : Int, f [.val (eR (some (r, m))), .val (eR (some (s, n)))] = some (.val (.int x), []) ∧ m ∣ x - r ∧ n ∣ x - s) (u_number_with (zz + 2)) (fun r m s n h1 h2 h3 => k_numberWith_ok (g_is_left zz) h1 h2 h3)
theorem g_met_rest (zz : Nat) : (OpRF meetR) (F_met_rest (zz + 4)) := tr (P := OpRF meetR) (u_met_rest (zz + 3)) (k_rmet_ok (g_rest_by (zz + 2)) ((g_is_multiple (zz + 2))).1 (g_number_with zz))
theorem g_guarded_rests (zz : Nat) : (GuaF) (F_guarded_rests (zz + 5)) := tr (P := GuaF) (u_guarded_rests (zz + 4)) (k_guaR_ok (g_met_rest zz))
theorem g_check_guard (zz : Nat) : (fun f => ∀ w : Wd4, f [.val (.str w.s)] = some (.val .none, [])) (F_check_guard (zz + 1)) := tr (P := fun f => ∀ w : Wd4, f [.val (.str w.s)] = some (.val .none, [])) (u_check_guard (zz)) (k_check_guard_ok)
theorem g_rest_guarded (zz : Nat) : (GuaF) (F_rest_guarded (zz + 6)) := tr (P := GuaF) (u_rest_guarded (zz + 5)) (k_sgua_ok (g_guarded_rests zz) (g_check_rests zz) (g_check_guard (zz + 4)))
theorem g__law_lets (zz : Nat) : (fun f => ∀ (w : Wd4) (x y : Int), f [.val (.str w.s), .val (.int x), .val (.int y)] = some (.val (.bool (letsB w x y)), [])) (F_law_lets (zz + 1)) := tr (P := fun f => ∀ (w : Wd4) (x y : Int), f [.val (.str w.s), .val (.int x), .val (.int y)] = some (.val (.bool (letsB w x y)), [])) (u_law_lets (zz)) (k_lets_ok)
theorem g__law_rest_meet (zz : Nat) : (OpRF meetR) (F_law_rest_meet (zz + 2)) := tr (P := OpRF meetR) (u_law_rest_meet (zz + 1)) (k_lmeet_ok (g__law_rest_has zz) (g__law_common zz))
theorem g__law_guarded (zz : Nat) : (GuaF) (F_law_guarded (zz + 3)) := tr (P := GuaF) (u_law_guarded (zz + 2)) (k__law_guaR_ok (g__law_rest_meet zz))
theorem g__law_guards_right (zz : Nat) : (GuaQ) (F_law_guards_right (zz + 7)) := tr (P := GuaQ) (u_law_guards_right (zz + 6)) (k32_guards_ok (g_rest_holds (zz + 1)) (g_rest_guarded zz) (g__law_same (zz + 1)) (g__law_lets (zz + 5)) (g__law_guarded (zz + 3)))
theorem g__law_held_right (zz : Nat) : (HeldQ) (F_law_held_right (zz + 7)) := tr (P := HeldQ) (u_law_held_right (zz + 6)) (k32_held_ok (g_rest_holds (zz + 1)) (g_rest_quotient zz) (g_rest_modulo zz) (same2 (g__law_same (zz + 1))))
theorem g_wrapped_rest (zz : Nat) : (WrpF) (F_wrapped_rest (zz + 3)) := tr (P := WrpF) (u_wrapped_rest (zz + 2)) (k_wrapR_ok (g_modulo_rest zz))
theorem g_is_between (zz : Nat) : (fun f => ∀ i l r : Int, f [.val (.int i), .val (.int l), .val (.int r)] = some (.val (.bool (decide (l ≤ i ∧ i ≤ r))), [])) (F_is_between (zz + 2)) := tr (P := fun f => ∀ i l r : Int, f [.val (.int i), .val (.int l), .val (.int r)] = some (.val (.bool (decide (l ≤ i ∧ i ≤ r))), [])) (u_is_between (zz + 1)) (k_between_ok (g_is_whole zz))
theorem g_check_width (zz : Nat) : (fun f => ∀ i : Int, 1 ≤ i ∧ i ≤ 16 → f [.val (.int i)] = some (.val .none, [])) (F_check_width (zz + 3)) := tr (P := fun f => ∀ i : Int, 1 ≤ i ∧ i ≤ 16 → f [.val (.int i)] = some (.val .none, [])) (u_check_width (zz + 2)) (fun i h => k_check_width_ok (g_is_between zz) h)
theorem g_rest_wrapped (zz : Nat) : (WrpF) (F_rest_wrapped (zz + 5)) := tr (P := WrpF) (u_rest_wrapped (zz + 4)) (k_swrap_ok (g_wrapped_rest (zz + 1)) (g_check_rest zz) (g_check_width (zz + 1)))
theorem g__law_wrapped_right (zz : Nat) : (WrpQ) (F_law_wrapped_right (zz + 7)) := tr (P := WrpQ) (u_law_wrapped_right (zz + 6)) (k32_wrapped_ok (g_rest_holds (zz + 1)) (g_rest_modulo zz) (g_rest_wrapped (zz + 1)) (same2 (g__law_same (zz + 1))) (g__law_left (zz + 4)))
theorem g__law_right (zz : Nat) : (Rg) (F_law_right (zz + 8)) := tr (P := Rg) (u_law_right (zz + 7)) (k32_right_ok (g__law_take (zz + 6)) (g__law_rest (zz + 3)) (g__law_rest_some (zz + 3)) (g__law_rest_has (zz + 6)) (g__law_beside (zz + 1)) (g__law_two_right zz) (g__law_guards_right zz) (g__law_held_right zz) (g__law_wrapped_right zz))
theorem law_true (ns : List Int) (h : ns.length ≤ 63) : F_law 30 [.val (.list (ns.map PyData.int))] = some (.val (.bool true), []) :=
  (congrFun (u_49 29) _).trans (law_ok (ri := F_law_right 29) (so := F_law_source 29) (tr (P := Sc ns) (u_law_source 28) (source_sc (by decide) (by decide) ns)) (g__law_right 21))
end K32
open PySem PySem.W PySem.Calls PyProof.Rows in
theorem PySem.Challenge.cw_soundlooks_k32_whole_quotients_modulo_gu_holds : PySem.Challenge.rw_soundlooks_k32_whole_quotients_modulo_gu.Holds := by
  w_on; o_law
  refine HandSHeadRun.head_imp (r := OpenLaw.row PySem.Challenge.rw_soundlooks_k32_whole_quotients_modulo_gu) (q := view (OpenLaw.row PySem.Challenge.rw_soundlooks_k32_whole_quotients_modulo_gu).prog [0, 66]) (H := K32.hk) (ob := K32.ob) (M := 12000) (loose := K32.loose) (d := HandSHeadRun.topDef (OpenLaw.row PySem.Challenge.rw_soundlooks_k32_whole_quotients_modulo_gu).prog 66) (kwd := []) K32.ob_eq
    K32.runs (by kernel_rfl) (by kernel_rfl) (by kernel_rfl) (by rfl) (by first | assumption | decide +kernel) (by decide +kernel) ⟨rfl, rfl, rfl, rfl, rfl, by decide +kernel⟩ ?hw ?hc
  case hw => w_witness2
  case hc =>
    exact Ev.law_end (l := PySem.Challenge.rw_soundlooks_k32_whole_quotients_modulo_gu) (i := 49) (n := 30) (m := 63) (r := K32.r49) (p := "_law_script") K32.tb_ok rfl K32.bd_ok K32.kw_ok rfl (by kernel_rfl) rfl rfl rfl (by decide) (by kernel_rfl) ⟨rfl, by decide, by decide⟩ K32.law_true
